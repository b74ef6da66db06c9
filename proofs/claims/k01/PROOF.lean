import PyProof.Rows.All
import Wide.All
import OpenK.AllK
import Wide.FinOn
import HandS.ForExc
import HandS.ForMost
import HandS.Wide
import HandS.WideBits
import HandS.IsInst
import HandS.Flow
import HandS.Conv
import HandS.Style
import PyProof.ReprRoads
import HandS.ExcInit
import KE.KExcSuper
import HandS.ExcIs
import HandS.Deep
import KE.RegKSuper
import HandS.Flt
import PyProof.InstEq
import PyProof.EqKinds
import HandS.DictComp
import HandS.Star
import HandS.Text
import HandS.RaiseMore
import KE.KTryMore
import HandS.ExcValue
import HandS.MakeKwOnly
import HandS.Small
import PySem.Challenge.RW_floorwalks_k01_errors
set_option Elab.async false
set_option linter.all false
set_option maxRecDepth 100000
set_option maxHeartbeats 4000000
namespace FW
open PySem L2

/-- the mirror's values: trees that never change, and places of the store -/
inductive MV where
  | non | bl (b : Bool) | int (i : Int) | str (x : Str)
  | tup (xs : List MV) | lst (xs : List MV) | dct (ps : List (MV × MV))
  | ins (c : Str) (fs : List (Str × MV))
  | exc (c : Str) (fs : List (Str × MV))
  | ref (n : Nat)
  | scr (ns : List Int)
  deriving Inhabited

def kM : Key → MV
  | .inl i => .int i
  | .inr x => .str x

/-- an exception's object: its class, its own dict -/
def exO (C : Addr) (d : Option Addr) (a : Addr) : HO := .ext fun h => ∃ o, h.get? a = some o ∧ o.cls = .ref C ∧ o.dict = d ∧ ∃ vs, o.data = .fields vs

/-- the module's facts that data lean on -/
structure Wd where
  K : PySem.W.Frag
  mg : Str → Option Value
abbrev _root_.L2.Cx.wd (X : Cx) : Wd := ⟨X.K, X.mg⟩
section
variable (mg : Wd) (S : Addr → Prop) (ι : List Addr) (H : Hp)
inductive Dt : V → MV → Prop where
  | non : Dt .non .non
  | bl (b : Bool) : Dt (.bl b) (.bl b)
  | int (i : Int) : Dt (.int i) (.int i)
  | str (x : Str) : Dt (.str x) (.str x)
  | ref {n : Nat} {a : Addr} (h : ι[n]? = some a) : Dt (.ref a) (.ref n)
  | tup {a : Addr} {vs : List V} {ms : List MV} (hs : S a) (h : H a = some (.tup vs)) (hl : vs.length = ms.length)
      (hi : ∀ (i : Nat) v m, vs[i]? = some v → ms[i]? = some m → Dt v m) : Dt (.ref a) (.tup ms)
  | lst {a : Addr} {vs : List V} {ms : List MV} (hs : S a) (h : H a = some (.lst vs)) (hl : vs.length = ms.length)
      (hi : ∀ (i : Nat) v m, vs[i]? = some v → ms[i]? = some m → Dt v m) : Dt (.ref a) (.lst ms)
  | dct {a : Addr} {kvs : List (Key × V)} {ps : List (MV × MV)} (hs : S a) (h : Rd H a (.dK kvs)) (hl : kvs.length = ps.length)
      (hk : ∀ (i : Nat) kv p, kvs[i]? = some kv → ps[i]? = some p → p.1 = kM kv.1)
      (hi : ∀ (i : Nat) kv p, kvs[i]? = some kv → ps[i]? = some p → Dt kv.2 p.2) : Dt (.ref a) (.dct ps)
  | dctT {a : Addr} {kvs : List (List Key × V)} {ps : List (MV × MV)} (hs : S a) (h : Rd H a (.dT kvs)) (hl : kvs.length = ps.length)
      (hk : ∀ (i : Nat) kv p, kvs[i]? = some kv → ps[i]? = some p → p.1 = .tup (kv.1.map kM))
      (hi : ∀ (i : Nat) kv p, kvs[i]? = some kv → ps[i]? = some p → Dt kv.2 p.2) : Dt (.ref a) (.dct ps)
  | ins {a C dx : Addr} {c : Str} {fs : List (Str × V)} {ms : List (Str × MV)} (hs : S a) (h : H a = some (.ins C dx fs)) (hc : mg.mg c = some (.ref C)) (hn : fs.map (·.1) = ms.map (·.1))
      (hi : ∀ (i : Nat) f m, fs[i]? = some f → ms[i]? = some m → Dt f.2 m.2) : Dt (.ref a) (.ins c ms)
  | exc {a d C : Addr} {c : Str} {fs : List (Str × V)} {ms : List (Str × MV)} (hs : S a) (h : H a = some (exO C (some d) a)) (hd : S d) (h2 : H d = some (.xd fs)) (hc : mg.mg c = some (.ref C)) (hn : fs.map (·.1) = ms.map (·.1))
      (hi : ∀ (i : Nat) f m, fs[i]? = some f → ms[i]? = some m → Dt f.2 m.2) : Dt (.ref a) (.exc c ms)
  | exc0 {a C : Addr} {c : Str} (hs : S a) (h : H a = some (exO C none a)) (hc : mg.mg c = some (.ref C)) : Dt (.ref a) (.exc c [])
  | scr {a : Addr} {ns : List Int} (h : (S a ∧ Rd H a (.lst (ns.map V.int))) ∨ ∀ H', SqL mg.K H' a (ns.map V.int)) : Dt (.ref a) (.scr ns)

/-- a row of values -/
def AllD (vs : List V) (ms : List MV) : Prop := vs.length = ms.length ∧ ∀ (i : Nat) v m, vs[i]? = some v → ms[i]? = some m → Dt mg S ι H v m
/-- an object's parts as data -/
def Ob (o : HO) : MV → Prop
  | .lst ms => ∃ vs, o = .lst vs ∧ AllD mg S ι H vs ms
  | .tup ms => ∃ vs, o = .tup vs ∧ AllD mg S ι H vs ms
  | .dct ps => (∃ kvs : List (Key × V), o = .dK kvs ∧ kvs.length = ps.length ∧ ∀ (i : Nat) kv p, kvs[i]? = some kv → ps[i]? = some p → p.1 = kM kv.1 ∧ Dt mg S ι H kv.2 p.2) ∨
      ∃ kvs : List (List Key × V), o = .dT kvs ∧ kvs.length = ps.length ∧ ∀ (i : Nat) kv p, kvs[i]? = some kv → ps[i]? = some p → p.1 = .tup (kv.1.map kM) ∧ Dt mg S ι H kv.2 p.2
  | .ins c ms => ∃ C dx fs, o = .ins C dx fs ∧ mg.mg c = some (.ref C) ∧ fs.map (·.1) = ms.map (·.1) ∧ ∀ (i : Nat) f m, fs[i]? = some f → ms[i]? = some m → Dt mg S ι H f.2 m.2
  | _ => False
/-- what stands at an address -/
def Sh (a : Addr) (m : MV) : Prop := ∃ o, H a = some o ∧ Ob mg S ι H o m
end

abbrev Sto := List MV
abbrev Lo := List (Option (MV × Bool))
inductive Kd where | fz | fr | pk (i : Nat)

/-- from one state to a later one: what is frozen stays, what stood and is no place of the store stays -/
structure Ext (S : Addr → Prop) (ι : List Addr) (H : Hp) (S' : Addr → Prop) (ι' : List Addr) (H' : Hp) : Prop where
  s : ∀ a, S a → S' a
  k : ∀ a o, H a = some o → a ∉ ι → H' a = some o
  b : ∀ a, S' a → S a ∨ H a = none
  i : ι <+: ι'
  n : ∀ a, a ∈ ι' → a ∈ ι ∨ H a = none

structure Rep (mg : Wd) (S : Addr → Prop) (ι : List Addr) (H : Hp) (st : Sto) : Prop where
  len : ι.length = st.length
  nd : ι.Nodup
  sep : ∀ a, a ∈ ι → ¬ S a
  som : ∀ a, S a → ∃ o, H a = some o
  ent : ∀ (n : Nat) a m, ι[n]? = some a → st[n]? = some m → Sh mg S ι H a m

/-- what a body may change: as it stood at its entry -/
structure Base where
  S : Addr → Prop
  ι : List Addr
  H : Hp
  /-- what is to stay while an expression is reckoned -/
  G : Addr → Option HO := fun _ => none
  /-- the instance that is being made -/
  P : Option Addr := none
def Base.New (B : Base) (a : Addr) : Prop := B.H a = none ∧ B.G a = none

structure Loc (mg : Wd) (B : Base) (S : Addr → Prop) (ι : List Addr) (H : Hp) (lo : Lo) (σ : St) : Prop where
  len : lo.length = σ.length
  val : ∀ (i : Nat) m, lo[i]? = some (some (m, false)) → ∃ v, σ[i]? = some (some v) ∧ Dt mg S ι H v m
  own : ∀ (i : Nat) m, lo[i]? = some (some (m, true)) → ∃ a, σ[i]? = some (some (.ref a)) ∧ ¬ S a ∧ a ∉ ι ∧ B.New a ∧ Sh mg S ι H a m
  dis : ∀ (i j : Nat) m m' a, i ≠ j → lo[i]? = some (some (m, true)) → lo[j]? = some (some (m', true)) → σ[i]? = some (some (.ref a)) → σ[j]? ≠ some (some (.ref a))
  pin : ∀ (i : Nat) c fs, lo[i]? = some (some (.ins c fs, true)) → ∃ a, B.P = some a ∧ σ[i]? = some (some (.ref a))

structure Fm (mg : Wd) (B : Base) (S : Addr → Prop) (ι : List Addr) (H : Hp) (lo : Lo) (σ : St) (st : Sto) : Prop where
  ext : Ext B.S B.ι B.H S ι H
  rep : Rep mg S ι H st
  loc : Loc mg B S ι H lo σ
  g : ∀ a o, B.G a = some o → H a = some o ∧ a ∉ ι ∧ ¬ S a

/-- a value, by how it may be used -/
def RV (mg : Wd) (B : Base) (S : Addr → Prop) (ι : List Addr) (H : Hp) (lo : Lo) (σ : St) (v : V) (m : MV) : Kd → Prop
  | .fz => Dt mg S ι H v m
  | .fr => ∃ a, v = .ref a ∧ ¬ S a ∧ a ∉ ι ∧ B.New a ∧ Sh mg S ι H a m ∧ ∀ (i : Nat) m', lo[i]? = some (some (m', true)) → σ[i]? ≠ some (some (.ref a))
  | .pk i => ∃ a, v = .ref a ∧ lo[i]? = some (some (m, true)) ∧ σ[i]? = some (some (.ref a)) ∧ Sh mg S ι H a m

section
variable {mg : Wd} {S S' S2 : Addr → Prop} {ι ι' ι2 : List Addr} {H H' H2 : Hp} {B : Base} {lo lo' : Lo} {σ σ' : St} {st st' : Sto} {v : V} {m : MV}

abbrev b0 (S : Addr → Prop) (ι : List Addr) (H : Hp) : Base := { S := S, ι := ι, H := H }
theorem Rd.eq {a : Addr} {u : HO} (e : H' a = H a) (r : Rd H a u) : Rd H' a u := by
  rcases r with r | ⟨o, r⟩
  · exact .inl (e.trans r)
  · exact .inr ⟨o, e.trans r⟩

/-- what is frozen, and the places of the store, stay -/
structure Keep (S : Addr → Prop) (ι : List Addr) (H : Hp) (S' : Addr → Prop) (ι' : List Addr) (H' : Hp) : Prop where
  s : ∀ a, S a → S' a
  h : ∀ a, S a → H' a = H a
  i : ι <+: ι'
theorem Keep.refl : Keep S ι H S ι H := ⟨fun _ h => h, fun _ _ => rfl, List.prefix_refl _⟩
theorem Keep.trans (a : Keep S ι H S' ι' H') (b : Keep S' ι' H' S2 ι2 H2) : Keep S ι H S2 ι2 H2 :=
  ⟨fun x h => b.s x (a.s x h), fun x h => (b.h x (a.s x h)).trans (a.h x h), a.i.trans b.i⟩
theorem getp {α : Type} {l l' : List α} (p : l <+: l') {n : Nat} {a : α} (h : l[n]? = some a) : l'[n]? = some a := by
  obtain ⟨t, rfl⟩ := p
  rw [List.getElem?_append_left (List.getElem?_eq_some_iff.mp h).1]; exact h
theorem Dt.mono (k : Keep S ι H S' ι' H') (d : Dt mg S ι H v m) : Dt mg S' ι' H' v m := by
  induction d with
  | non => exact .non
  | bl b => exact .bl b
  | int i => exact .int i
  | str x => exact .str x
  | ref h => exact .ref (getp k.i h)
  | tup hs h hl _ ih => exact .tup (k.s _ hs) ((k.h _ hs).trans h) hl ih
  | lst hs h hl _ ih => exact .lst (k.s _ hs) ((k.h _ hs).trans h) hl ih
  | dct hs h hl hk _ ih => exact .dct (k.s _ hs) (Rd.eq (k.h _ hs) h) hl hk ih
  | dctT hs h hl hk _ ih => exact .dctT (k.s _ hs) (Rd.eq (k.h _ hs) h) hl hk ih
  | ins hs h hc hn _ ih => exact .ins (k.s _ hs) ((k.h _ hs).trans h) hc hn ih
  | exc hs h hd h2 hc hn _ ih => exact .exc (k.s _ hs) ((k.h _ hs).trans h) (k.s _ hd) ((k.h _ hd).trans h2) hc hn ih
  | exc0 hs h hc => exact .exc0 (k.s _ hs) ((k.h _ hs).trans h) hc
  | scr h => exact .scr (h.imp (fun ⟨hs, r⟩ => ⟨k.s _ hs, Rd.eq (k.h _ hs) r⟩) id)
theorem AllD.mono (k : Keep S ι H S' ι' H') {vs : List V} {ms : List MV} (d : AllD mg S ι H vs ms) : AllD mg S' ι' H' vs ms := ⟨d.1, fun i v m h1 h2 => (d.2 i v m h1 h2).mono k⟩
theorem AllD.nil : AllD mg S ι H [] [] := ⟨rfl, fun i v m h => by simp at h⟩
theorem AllD.cons {vs : List V} {ms : List MV} (d : Dt mg S ι H v m) (r : AllD mg S ι H vs ms) : AllD mg S ι H (v :: vs) (m :: ms) := by
  refine ⟨by simp [r.1], fun i w n h1 h2 => ?_⟩
  cases i with
  | zero => simp at h1 h2; subst h1; subst h2; exact d
  | succ i => exact r.2 i w n (by simpa using h1) (by simpa using h2)
theorem AllD.inv_cons {vs : List V} {ms : List MV} (r : AllD mg S ι H vs (m :: ms)) : ∃ v vs', vs = v :: vs' ∧ Dt mg S ι H v m ∧ AllD mg S ι H vs' ms := by
  cases vs with
  | nil => exact absurd r.1 (by simp)
  | cons v vs' => exact ⟨v, vs', rfl, r.2 0 v m rfl rfl, by have := r.1; simpa using this, fun i w n h1 h2 => r.2 (i + 1) w n (by simpa using h1) (by simpa using h2)⟩
theorem AllD.inv_nil {vs : List V} (r : AllD mg S ι H vs []) : vs = [] := List.length_eq_zero_iff.mp r.1
theorem AllD.append {vs ws : List V} {ms ns : List MV} (a : AllD mg S ι H vs ms) (b : AllD mg S ι H ws ns) : AllD mg S ι H (vs ++ ws) (ms ++ ns) := by
  refine ⟨by simp [a.1, b.1], fun i v m h1 h2 => ?_⟩
  by_cases hi : i < vs.length
  · rw [List.getElem?_append_left hi] at h1
    rw [List.getElem?_append_left (by rw [← a.1]; exact hi)] at h2
    exact a.2 i v m h1 h2
  · rw [List.getElem?_append_right (by omega)] at h1
    rw [List.getElem?_append_right (by have := a.1; omega)] at h2
    rw [a.1] at h1
    exact b.2 _ v m h1 h2
theorem AllD.get {vs : List V} {ms : List MV} (a : AllD mg S ι H vs ms) {i : Nat} (h : ms[i]? = some m) : ∃ v, vs[i]? = some v ∧ Dt mg S ι H v m := by
  have hi : i < vs.length := by rw [a.1]; exact (List.getElem?_eq_some_iff.mp h).1
  exact ⟨vs[i], by simp [hi], a.2 i _ m (by simp [hi]) h⟩
theorem AllD.set {vs : List V} {ms : List MV} (a : AllD mg S ι H vs ms) (d : Dt mg S ι H v m) (j : Nat) : AllD mg S ι H (vs.set j v) (ms.set j m) := by
  refine ⟨by simp [a.1], fun i w n h1 h2 => ?_⟩
  by_cases hj : j = i
  · subst hj
    by_cases hl : j < vs.length
    · rw [List.getElem?_set_self hl] at h1; rw [List.getElem?_set_self (by rw [← a.1]; exact hl)] at h2
      cases h1; cases h2; exact d
    · have : (vs.set j v)[j]? = none := List.getElem?_eq_none (by simp; omega)
      rw [this] at h1; cases h1
  · rw [List.getElem?_set_ne hj] at h1 h2
    exact a.2 i w n h1 h2
theorem AllD.take {vs : List V} {ms : List MV} (a : AllD mg S ι H vs ms) (n : Nat) : AllD mg S ι H (vs.take n) (ms.take n) := by
  refine ⟨by simp [a.1], fun i w k h1 h2 => ?_⟩
  rw [List.getElem?_take] at h1 h2
  split at h1
  · rw [if_pos (by assumption)] at h2; exact a.2 i w k h1 h2
  · cases h1
theorem AllD.drop {vs : List V} {ms : List MV} (a : AllD mg S ι H vs ms) (n : Nat) : AllD mg S ι H (vs.drop n) (ms.drop n) := by
  refine ⟨by simp [a.1], fun i w k h1 h2 => ?_⟩
  rw [List.getElem?_drop] at h1 h2
  exact a.2 _ w k h1 h2
theorem Ob.mono {o : HO} (k : Keep S ι H S' ι' H') (d : Ob mg S ι H o m) : Ob mg S' ι' H' o m := by
  cases m with
  | lst ms => obtain ⟨vs, h, d⟩ := d; exact ⟨vs, h, d.mono k⟩
  | tup ms => obtain ⟨vs, h, d⟩ := d; exact ⟨vs, h, d.mono k⟩
  | dct ps =>
    rcases d with ⟨kvs, h, l, d⟩ | ⟨kvs, h, l, d⟩
    · exact .inl ⟨kvs, h, l, fun i kv p h1 h2 => ⟨(d i kv p h1 h2).1, (d i kv p h1 h2).2.mono k⟩⟩
    · exact .inr ⟨kvs, h, l, fun i kv p h1 h2 => ⟨(d i kv p h1 h2).1, (d i kv p h1 h2).2.mono k⟩⟩
  | ins c ms => obtain ⟨C, dx, fs, h, hc, hn, d⟩ := d; exact ⟨C, dx, fs, h, hc, hn, fun i f m h1 h2 => (d i f m h1 h2).mono k⟩
  | _ => exact d.elim
theorem Sh.mono {a : Addr} (k : Keep S ι H S' ι' H') (e : H' a = H a) (d : Sh mg S ι H a m) : Sh mg S' ι' H' a m := by
  obtain ⟨o, h, d⟩ := d
  exact ⟨o, e.trans h, d.mono k⟩
theorem Sh.som {a : Addr} (d : Sh mg S ι H a m) : ∃ o, H a = some o := d.imp fun _ h => h.1

theorem Ext.refl : Ext S ι H S ι H := ⟨fun _ h => h, fun _ _ h _ => h, fun _ h => .inl h, List.prefix_refl _, fun _ h => .inl h⟩
theorem Ext.keep (r : Rep mg S ι H st) (x : Ext S ι H S' ι' H') : Keep S ι H S' ι' H' := by
  refine ⟨x.s, fun a h => ?_, x.i⟩
  obtain ⟨o, e⟩ := r.som a h
  rw [e]
  exact x.k a o e fun hm => r.sep a hm h
theorem none_back (x : Ext S ι H S' ι' H') {a : Addr} (hι : a ∉ ι) (h : H' a = none) : H a = none := by
  cases e : H a with
  | none => rfl
  | some o => rw [x.k a o e hι] at h; cases h
/-- a longer way: what is frozen at the middle was frozen or free ahead -/
theorem Ext.trans (x : Ext S ι H S' ι' H') (y : Ext S' ι' H' S2 ι2 H2) (hS : ∀ a, a ∈ ι → ¬ S2 a) : Ext S ι H S2 ι2 H2 := by
  refine ⟨fun a h => y.s a (x.s a h), fun a o e hn => ?_, fun a h => ?_, x.i.trans y.i, fun a h => ?_⟩
  · refine y.k a o (x.k a o e hn) fun hm => ?_
    rcases x.n a hm with z | z
    · exact hn z
    · rw [e] at z; cases z
  · rcases y.b a h with z | z
    · exact x.b a z
    · exact .inr (none_back x (fun hm => hS a hm h) z)
  · rcases y.n a h with z | z
    · exact x.n a z
    · by_cases hm : a ∈ ι
      · exact .inl hm
      · exact .inr (none_back x hm z)

theorem Rep.pre {S' : Addr → Prop} (r : Rep mg S' ι' H' st) (p : ι <+: ι') : ∀ a, a ∈ ι → ¬ S' a := fun a h => r.sep a (p.subset h)

/-- a step of the store and heap that keeps the frame's own things -/
theorem Fm.step (f : Fm mg B S ι H lo σ st) (x : Ext S ι H S' ι' H') (r : Rep mg S' ι' H' st') : Fm mg B S' ι' H' lo σ st' := by
  have k := x.keep f.rep
  have own : ∀ a o, H a = some o → a ∉ ι → ¬ S a → ¬ S' a ∧ a ∉ ι' ∧ H' a = H a := fun a o e n ns => by
    refine ⟨fun h => ?_, fun h => ?_, (x.k a o e n).trans e.symm⟩
    · rcases x.b a h with z | z
      · exact ns z
      · rw [e] at z; cases z
    · rcases x.n a h with z | z
      · exact n z
      · rw [e] at z; cases z
  refine ⟨f.ext.trans x fun a h => r.sep a ((f.ext.i.trans x.i).subset h), r, ⟨f.loc.len, fun i m h => ?_, fun i m h => ?_, f.loc.dis, f.loc.pin⟩, fun a o h => ?_⟩
  · obtain ⟨v, e, d⟩ := f.loc.val i m h
    exact ⟨v, e, d.mono k⟩
  · obtain ⟨a, e, h1, h2, h3, d⟩ := f.loc.own i m h
    obtain ⟨o, he⟩ := d.som
    obtain ⟨q1, q2, q3⟩ := own a o he h2 h1
    exact ⟨a, e, q1, q2, h3, d.mono k q3⟩
  · obtain ⟨q1, q2, q3⟩ := f.g a o h
    obtain ⟨r1, r2, r3⟩ := own a o q1 q2 q3
    exact ⟨r3.trans q1, r2, r1⟩
/-- .. and what has been reckoned meanwhile -/
theorem RV.step {k : Kd} (f : Fm mg B S ι H lo σ st) (x : Ext S ι H S' ι' H') (d : RV mg B S ι H lo σ v m k) : RV mg B S' ι' H' lo σ v m k := by
  have kk := x.keep f.rep
  cases k with
  | fz => exact Dt.mono kk d
  | fr =>
    obtain ⟨a, e, h1, h2, h3, d, h4⟩ := d
    obtain ⟨o, he⟩ := d.som
    refine ⟨a, e, fun h => ?_, fun h => ?_, h3, d.mono kk ((x.k a o he h2).trans he.symm), h4⟩
    · rcases x.b a h with z | z
      · exact h1 z
      · rw [he] at z; cases z
    · rcases x.n a h with z | z
      · exact h2 z
      · rw [he] at z; cases z
  | pk i =>
    obtain ⟨a, e, h1, h2, d⟩ := d
    obtain ⟨a', e', _, hn, _, _⟩ := f.loc.own i m h1
    rw [h2] at e'; cases e'
    obtain ⟨o, he⟩ := d.som
    exact ⟨a, e, h1, h2, d.mono kk ((x.k a o he hn).trans he.symm)⟩
/-- a new object -/
theorem Ext.new {a : Addr} {o : HO} (h : H a = none) : Ext S ι H S ι (upd H a o) :=
  ⟨fun _ h => h, fun b u e _ => by rw [upd_ne (ne_of_none e h)]; exact e, fun _ h => .inl h, List.prefix_refl _, fun _ h => .inl h⟩
theorem Rep.new {a : Addr} {o : HO} (r : Rep mg S ι H st) (h : H a = none) : Rep mg S ι (upd H a o) st := by
  have k : Keep S ι H S ι (upd H a o) := (Ext.new h).keep r
  refine ⟨r.len, r.nd, r.sep, fun b hb => ?_, fun n b m h1 h2 => ?_⟩
  · obtain ⟨u, e⟩ := r.som b hb
    exact ⟨u, by rw [upd_ne (ne_of_none e h)]; exact e⟩
  · have d := r.ent n b m h1 h2
    obtain ⟨u, e⟩ := d.som
    exact d.mono k (upd_ne (ne_of_none e h))
theorem Fm.free (f : Fm mg B S ι H lo σ st) {a : Addr} (h : H a = none) : ¬ S a ∧ a ∉ ι ∧ B.New a ∧ ∀ (i : Nat) m', lo[i]? = some (some (m', true)) → σ[i]? ≠ some (some (.ref a)) := by
  have hι : a ∉ ι := fun hm => by
    obtain ⟨n, hn⟩ := List.mem_iff_getElem?.mp hm
    have hl : n < st.length := by rw [← f.rep.len]; exact (List.getElem?_eq_some_iff.mp hn).1
    obtain ⟨o, e⟩ := (f.rep.ent n a st[n] hn (by simp [hl])).som
    rw [h] at e; cases e
  refine ⟨fun hs => ?_, hι, ⟨none_back f.ext (fun hm => hι (f.ext.i.subset hm)) h, ?_⟩, fun i m' h1 h2 => ?_⟩
  · obtain ⟨o, e⟩ := f.rep.som a hs
    rw [h] at e; cases e
  · cases e : B.G a with
    | none => rfl
    | some o =>
      have q := (f.g a o e).1
      rw [h] at q; cases q
  · obtain ⟨b, e, _, _, _, d⟩ := f.loc.own i m' h1
    rw [h2] at e; cases e
    obtain ⟨o, e⟩ := d.som
    rw [h] at e; cases e
theorem Fm.new {a : Addr} {o : HO} (f : Fm mg B S ι H lo σ st) (h : H a = none) : Fm mg B S ι (upd H a o) lo σ st := f.step (.new h) (f.rep.new h)
/-- a new object of ours is frozen -/
def fz1 (S : Addr → Prop) (a : Addr) : Addr → Prop := fun b => S b ∨ b = a
theorem Keep.fz1 {a : Addr} : Keep S ι H (fz1 S a) ι H := ⟨fun _ h => .inl h, fun _ _ => rfl, List.prefix_refl _⟩
theorem Fm.freeze {a : Addr} {o : HO} (f : Fm mg B S ι H lo σ st) (e : H a = some o) (h1 : a ∉ ι) (h2 : B.New a) (h3 : ∀ (i : Nat) m', lo[i]? = some (some (m', true)) → σ[i]? ≠ some (some (.ref a))) :
    Fm mg B (fz1 S a) ι H lo σ st := by
  have k : Keep S ι H (fz1 S a) ι H := .fz1
  refine ⟨⟨fun b h => .inl (f.ext.s b h), f.ext.k, fun b h => ?_, f.ext.i, f.ext.n⟩, ⟨f.rep.len, f.rep.nd, fun b hb h => ?_, fun b h => ?_, fun n b m q1 q2 => (f.rep.ent n b m q1 q2).mono k rfl⟩,
    ⟨f.loc.len, fun i m h => ?_, fun i m h => ?_, f.loc.dis, f.loc.pin⟩, fun b u hb => ?_⟩
  · rcases h with h | rfl
    · exact f.ext.b b h
    · exact .inr h2.1
  · rcases h with h | rfl
    · exact f.rep.sep b hb h
    · exact h1 hb
  · rcases h with h | rfl
    · exact f.rep.som b h
    · exact ⟨o, e⟩
  · obtain ⟨v, q, d⟩ := f.loc.val i m h
    exact ⟨v, q, d.mono k⟩
  · obtain ⟨b, q, n1, n2, n3, d⟩ := f.loc.own i m h
    refine ⟨b, q, fun hb => ?_, n2, n3, d.mono k rfl⟩
    rcases hb with hb | rfl
    · exact n1 hb
    · exact h3 i m h q
  · obtain ⟨q1, q2, q3⟩ := f.g b u hb
    refine ⟨q1, q2, fun z => ?_⟩
    rcases z with z | rfl
    · exact q3 z
    · rw [h2.2] at hb; cases hb
theorem Sh.frozen {a : Addr} (hs : S a) (d : Sh mg S ι H a m) : Dt mg S ι H (.ref a) m := by
  obtain ⟨o, e, d⟩ := d
  cases m with
  | lst ms => obtain ⟨vs, rfl, l, d⟩ := d; exact .lst hs e l d
  | tup ms => obtain ⟨vs, rfl, l, d⟩ := d; exact .tup hs e l d
  | dct ps =>
    rcases d with ⟨kvs, rfl, l, d⟩ | ⟨kvs, rfl, l, d⟩
    · exact .dct hs (.of e) l (fun i kv p h1 h2 => (d i kv p h1 h2).1) fun i kv p h1 h2 => (d i kv p h1 h2).2
    · exact .dctT hs (.of e) l (fun i kv p h1 h2 => (d i kv p h1 h2).1) fun i kv p h1 h2 => (d i kv p h1 h2).2
  | ins c ms => obtain ⟨C, dx, fs, rfl, hc, hn, d⟩ := d; exact .ins hs e hc hn d
  | _ => exact d.elim
/-- frozen whatever it was, but not a frame's own thing -/
theorem RV.freeze {k : Kd} (f : Fm mg B S ι H lo σ st) (d : RV mg B S ι H lo σ v m k) (hk : ∀ i, k ≠ .pk i) : ∃ S', Fm mg B S' ι H lo σ st ∧ Keep S ι H S' ι H ∧ Dt mg S' ι H v m := by
  cases k with
  | fz => exact ⟨S, f, .refl, d⟩
  | fr =>
    obtain ⟨a, rfl, h1, h2, h3, d, h4⟩ := d
    obtain ⟨o, e⟩ := d.som
    exact ⟨fz1 S a, f.freeze e h2 h3 h4, .fz1, (d.mono .fz1 rfl).frozen (.inr rfl)⟩
  | pk i => exact absurd rfl (hk i)
end
end FW

namespace FW
open PySem L2

inductive Res (α : Type) where
  | ok (a : α)
  | exc (c : Str) (fs : List (Str × MV)) (lo : Lo) (st : Sto)
  | bad
def Res.bind {α β : Type} : Res α → (α → Res β) → Res β
  | .ok a, f => f a
  | .exc c fs lo st, _ => .exc c fs lo st
  | .bad, _ => .bad
instance : Monad Res where
  pure := .ok
  bind := Res.bind
@[simp] theorem Res.ok_bind {α β : Type} (a : α) (f : α → Res β) : (Res.ok a >>= f) = f a := rfl
@[simp] theorem Res.pure_bind' {α β : Type} (a : α) (f : α → Res β) : ((pure a : Res α) >>= f) = f a := rfl
@[simp] theorem Res.exc_bind {α β : Type} (c fs lo st) (f : α → Res β) : ((Res.exc c fs lo st : Res α) >>= f) = .exc c fs lo st := rfl
@[simp] theorem Res.bad_bind {α β : Type} (f : α → Res β) : ((Res.bad : Res α) >>= f) = .bad := rfl
@[simp] theorem Res.pure_eq {α : Type} (a : α) : (pure a : Res α) = .ok a := rfl

abbrev EF := Lo → Sto → Res (MV × Kd × Sto)
abbrev TF := Lo → Sto → Res (Bool × Sto)
/-- arguments: each with whether it is a frame's own thing -/
abbrev AF := Lo → Sto → Res (List (MV × Bool) × Sto)
inductive Fl where | nx | rt (m : MV) (k : Kd) | bk | ct
abbrev SF := Lo → Sto → Res (Fl × Lo × Sto)

/-- what a value shows: a place of the store by what stands there -/
def vw (st : Sto) : MV → MV
  | .ref n => (st[n]?).getD (.ref n)
  | m => m

/-- an exception that flies -/
def XR (mg : Wd) (S : Addr → Prop) (ι : List Addr) (H : Hp) (c : Str) (fs : List (Str × MV)) (cls : Value) (d : Option Addr) : Prop :=
  ∃ C, cls = .ref C ∧ mg.mg c = some (.ref C) ∧ ((fs = [] ∧ d = none) ∨
    ∃ dd vs, d = some dd ∧ S dd ∧ H dd = some (.xd vs) ∧ vs.map (·.1) = fs.map (·.1) ∧ ∀ (i : Nat) f m, vs[i]? = some f → fs[i]? = some m → Dt mg S ι H f.2 m.2)

section
variable (mg : Wd) (B : Base) (W : WX)
def XPost (S : Addr → Prop) (ι : List Addr) (H : Hp) (c : Str) (fs : List (Str × MV)) (lo : Lo) (st : Sto) : Prop :=
  ∀ S' ι' σ' H' cls d, Fm mg B S' ι' H' lo σ' st → Keep S ι H S' ι' H' → XR mg S' ι' H' c fs cls d → W cls d σ' H'
def Post (S : Addr → Prop) (ι : List Addr) (H : Hp) {α : Type} (P : α → Prop) : Res α → Prop
  | .ok a => P a
  | .exc c fs lo st => XPost mg B W S ι H c fs lo st
  | .bad => False
def tE (f : EF) : TE := fun σ H Q => ∃ S ι lo st, Fm mg B S ι H lo σ st ∧ Post mg B W S ι H (fun r => ∀ S' ι' H' v, Fm mg B S' ι' H' lo σ r.2.2 → Keep S ι H S' ι' H' → RV mg B S' ι' H' lo σ v r.1 r.2.1 → Q v H') (f lo st)
def tT (f : TF) : TT := fun σ H Q => ∃ S ι lo st, Fm mg B S ι H lo σ st ∧ Post mg B W S ι H (fun r => ∀ S' ι' H', Fm mg B S' ι' H' lo σ r.2 → Keep S ι H S' ι' H' → Q r.1 H') (f lo st)
end

section
variable {mg : Wd} {B : Base} {W : WX} {S S' S2 : Addr → Prop} {ι ι' ι2 : List Addr} {H H' H2 : Hp} {lo lo' : Lo} {σ σ' : St} {st st' : Sto} {v : V} {m : MV} {α β : Type}
theorem XPost.mono {c fs} (k : Keep S ι H S' ι' H') (x : XPost mg B W S ι H c fs lo st) : XPost mg B W S' ι' H' c fs lo st := fun S2 ι2 σ2 H2 cls d f k2 r => x S2 ι2 σ2 H2 cls d f (k.trans k2) r
theorem Post.mono {P P' : α → Prop} {r : Res α} (k : Keep S ι H S' ι' H') (h : ∀ a, P a → P' a) (x : Post mg B W S ι H P r) : Post mg B W S' ι' H' P' r := by
  cases r with
  | ok a => exact h a x
  | exc c fs lo st => exact XPost.mono k x
  | bad => exact x
theorem Post.imp {P P' : α → Prop} {r : Res α} (h : ∀ a, P a → P' a) (x : Post mg B W S ι H P r) : Post mg B W S ι H P' r := x.mono .refl h
theorem Post.bind {P : β → Prop} {r : Res α} {f : α → Res β} (x : Post mg B W S ι H P (r >>= f)) : Post mg B W S ι H (fun a => Post mg B W S ι H P (f a)) r := by
  cases r with
  | ok a => exact x
  | exc c fs lo st => exact x
  | bad => exact x
/-- a part is reckoned first -/
theorem tE.use {f : EF} {P : MV × Kd × Sto → Prop} {Q : VK} (fm : Fm mg B S ι H lo σ st) (p : Post mg B W S ι H P (f lo st))
    (h : ∀ m k st' S' ι' H' v, Fm mg B S' ι' H' lo σ st' → Keep S ι H S' ι' H' → RV mg B S' ι' H' lo σ v m k → P (m, k, st') → Q v H') : tE mg B W f σ H Q :=
  ⟨S, ι, lo, st, fm, p.imp fun ⟨m, k, st'⟩ hp S' ι' H' v fm' kp rv => h m k st' S' ι' H' v fm' kp rv hp⟩
theorem tT.use {f : TF} {P : Bool × Sto → Prop} {Q : Bool → Hp → Prop} (fm : Fm mg B S ι H lo σ st) (p : Post mg B W S ι H P (f lo st))
    (h : ∀ b st' S' ι' H', Fm mg B S' ι' H' lo σ st' → Keep S ι H S' ι' H' → P (b, st') → Q b H') : tT mg B W f σ H Q :=
  ⟨S, ι, lo, st, fm, p.imp fun ⟨b, st'⟩ hp S' ι' H' fm' kp => h b st' S' ι' H' fm' kp hp⟩
end

theorem _root_.L2.PE.fw {X : Cx} {e : Expr} {t t' : TE} (h : PE X e t) (i : ∀ σ H Q, t' σ H Q → t σ H Q) : PE X e t' := ⟨fun pins s σ H Q I q => h.run pins s σ H Q I (i σ H Q q)⟩
theorem _root_.L2.PT.fw {X : Cx} {e : Expr} {t t' : TT} (h : PT X e t) (i : ∀ σ H Q, t' σ H Q → t σ H Q) : PT X e t' := ⟨fun pins s σ H Q I q => h.run pins s σ H Q I (i σ H Q q)⟩
theorem _root_.L2.PA.fw {X : Cx} {e : List Expr} {t t' : TA} (h : PA X e t) (i : ∀ σ H Q, t' σ H Q → t σ H Q) : PA X e t' := ⟨fun pos pins s σ H Q I q => h.run pos pins s σ H Q I (i σ H Q q)⟩
theorem _root_.L2.PS.fw {X : Cx} {e : Stmt} {t t' : TS} (h : PS X e t) (i : ∀ D σ H, t' D σ H → t D σ H) : PS X e t' := ⟨fun pins s σ H D I q => h.run pins s σ H D I (i D σ H q)⟩
theorem _root_.L2.PSs.fw {X : Cx} {e : List Stmt} {t t' : TS} (h : PSs X e t) (i : ∀ D σ H, t' D σ H → t D σ H) : PSs X e t' := ⟨fun pins s σ H D I q => h.run pins s σ H D I (i D σ H q)⟩
theorem _root_.L2.PI.fw {X : Cx} {tg it : Expr} {t t' : TI} (h : PI X tg it t) (i : ∀ σ H Q, t' σ H Q → t σ H Q) : PI X tg it t' := ⟨fun pins s σ H Q I q => h.run pins s σ H Q I (i σ H Q q)⟩

abbrev SE (X : Cx) (B : Base) (W : WX) (e : Expr) (f : EF) : Prop := PE X e (tE X.wd B W f)
abbrev STe (X : Cx) (B : Base) (W : WX) (e : Expr) (f : TF) : Prop := PT X e (tT X.wd B W f)

section
variable (mg : Wd) (S : Addr → Prop) (ι : List Addr) (H : Hp)
def VR (x : V) : MV → Prop
  | .non => x = .non
  | .bl b => x = .bl b
  | .int i => x = .int i
  | .str s => x = .str s
  | .lst ms => ∃ p vs, x = .ref p ∧ H p = some (.lst vs) ∧ AllD mg S ι H vs ms
  | .tup ms => ∃ p vs, x = .ref p ∧ H p = some (.tup vs) ∧ AllD mg S ι H vs ms
  | .dct ps => ∃ p, x = .ref p ∧ ((∃ kvs : List (Key × V), Rd H p (.dK kvs) ∧ kvs.length = ps.length ∧ ∀ (i : Nat) kv q, kvs[i]? = some kv → ps[i]? = some q → q.1 = kM kv.1 ∧ Dt mg S ι H kv.2 q.2) ∨
      ∃ kvs : List (List Key × V), Rd H p (.dT kvs) ∧ kvs.length = ps.length ∧ ∀ (i : Nat) kv q, kvs[i]? = some kv → ps[i]? = some q → q.1 = .tup (kv.1.map kM) ∧ Dt mg S ι H kv.2 q.2)
  | .ins c ms => ∃ p C dx fs, x = .ref p ∧ H p = some (.ins C dx fs) ∧ mg.mg c = some (.ref C) ∧ fs.map (·.1) = ms.map (·.1) ∧ ∀ (i : Nat) f m, fs[i]? = some f → ms[i]? = some m → Dt mg S ι H f.2 m.2
  | .exc c ms => ∃ p C, x = .ref p ∧ mg.mg c = some (.ref C) ∧ ((ms = [] ∧ H p = some (exO C none p)) ∨ ∃ dd fs, H p = some (exO C (some dd) p) ∧ S dd ∧ H dd = some (.xd fs) ∧ fs.map (·.1) = ms.map (·.1) ∧ ∀ (i : Nat) f m, fs[i]? = some f → ms[i]? = some m → Dt mg S ι H f.2 m.2)
  | .scr ns => ∃ p, x = .ref p ∧ SqL mg.K H p (ns.map V.int)
  | .ref _ => False
end
section
variable {mg : Wd} {B : Base} {W : WX} {S S' S2 : Addr → Prop} {ι ι' ι2 : List Addr} {H H' H2 : Hp} {lo lo' : Lo} {σ σ' : St} {st st' : Sto} {v : V} {m : MV} {α β : Type}
theorem Sh.vr {a : Addr} (d : Sh mg S ι H a m) : VR mg S ι H (.ref a) m := by
  obtain ⟨o, e, d⟩ := d
  cases m with
  | lst ms => obtain ⟨vs, rfl, d⟩ := d; exact ⟨a, vs, rfl, e, d⟩
  | tup ms => obtain ⟨vs, rfl, d⟩ := d; exact ⟨a, vs, rfl, e, d⟩
  | dct ps =>
    rcases d with ⟨kvs, rfl, l, d⟩ | ⟨kvs, rfl, l, d⟩
    · exact ⟨a, rfl, .inl ⟨kvs, .of e, l, d⟩⟩
    · exact ⟨a, rfl, .inr ⟨kvs, .of e, l, d⟩⟩
  | ins c ms => obtain ⟨C, dx, fs, rfl, hc, hn, d⟩ := d; exact ⟨a, C, dx, fs, rfl, e, hc, hn, d⟩
  | _ => exact d.elim
theorem vw_of_vr {x : V} (h : VR mg S ι H x m) (st : Sto) : vw st m = m := by
  cases m with
  | ref n => exact h.elim
  | _ => rfl
theorem Dt.vr (r : Rep mg S ι H st) (d : Dt mg S ι H v m) : VR mg S ι H v (vw st m) := by
  cases d with
  | non => rfl
  | bl b => rfl
  | int i => rfl
  | str x => rfl
  | @ref n a h =>
    have hl : n < st.length := by rw [← r.len]; exact (List.getElem?_eq_some_iff.mp h).1
    have e : st[n]? = some st[n] := by simp [hl]
    show VR mg S ι H (.ref a) ((st[n]?).getD (.ref n))
    rw [e]
    exact (r.ent n a _ h e).vr
  | tup hs h hl hi => exact ⟨_, _, rfl, h, hl, hi⟩
  | lst hs h hl hi => exact ⟨_, _, rfl, h, hl, hi⟩
  | dct hs h hl hk hi => exact ⟨_, rfl, .inl ⟨_, h, hl, fun i kv q h1 h2 => ⟨hk i kv q h1 h2, hi i kv q h1 h2⟩⟩⟩
  | dctT hs h hl hk hi => exact ⟨_, rfl, .inr ⟨_, h, hl, fun i kv q h1 h2 => ⟨hk i kv q h1 h2, hi i kv q h1 h2⟩⟩⟩
  | ins hs h hc hn hi => exact ⟨_, _, _, _, rfl, h, hc, hn, hi⟩
  | exc hs h hd h2 hc hn hi => exact ⟨_, _, rfl, hc, .inr ⟨_, _, h, hd, h2, hn, hi⟩⟩
  | exc0 hs h hc => exact ⟨_, _, rfl, hc, .inl ⟨rfl, h⟩⟩
  | scr h => exact ⟨_, rfl, h.elim (fun q => .inl q.2) fun q => q H⟩
/-- a value in hand while more is reckoned: frozen, unless it is a frame's own thing -/
def Hand (mg : Wd) (S : Addr → Prop) (ι : List Addr) (H : Hp) (lo : Lo) (σ : St) (v : V) (m : MV) (own : Bool) : Prop :=
  match own with
  | false => Dt mg S ι H v m
  | true => ∃ (i : Nat) (a : Addr), v = .ref a ∧ lo[i]? = some (some (m, true)) ∧ σ[i]? = some (some (.ref a))
theorem Hand.mono {b : Bool} (k : Keep S ι H S' ι' H') (h : Hand mg S ι H lo σ v m b) : Hand mg S' ι' H' lo σ v m b := by
  cases b with
  | false => exact Dt.mono k h
  | true => exact h
theorem Hand.vr {b : Bool} (f : Fm mg B S ι H lo σ st) (h : Hand mg S ι H lo σ v m b) : VR mg S ι H v (vw st m) := by
  cases b with
  | false => exact Dt.vr f.rep h
  | true =>
    obtain ⟨i, a, rfl, h1, h2⟩ := h
    obtain ⟨a', e, _, _, _, d⟩ := f.loc.own i m h1
    rw [h2] at e; cases e
    have := d.vr
    rw [vw_of_vr this]; exact this
def isPk : Kd → Bool
  | .pk _ => true
  | _ => false
theorem RV.hand {k : Kd} (f : Fm mg B S ι H lo σ st) (d : RV mg B S ι H lo σ v m k) : ∃ S', Fm mg B S' ι H lo σ st ∧ Keep S ι H S' ι H ∧ Hand mg S' ι H lo σ v m (isPk k) := by
  cases k with
  | pk i =>
    obtain ⟨a, e, h1, h2, _⟩ := d
    exact ⟨S, f, .refl, i, a, e, h1, h2⟩
  | fz => exact ⟨S, f, .refl, d⟩
  | fr => exact RV.freeze f d (fun i => by intro z; cases z)
end

def mVar (i : Nat) : EF := fun lo st => match lo[i]? with
  | some (some (m, false)) => .ok (m, .fz, st)
  | some (some (m, true)) => .ok (m, .pk i, st)
  | _ => .bad
def mC (m : MV) : EF := fun _ st => .ok (m, .fz, st)
section
variable {X : Cx} {B : Base} {W : WX}
theorem se_var (i : Nat) {x : Str} {pos : Pos} (hN : X.N[i]? = some x := by rfl) (hv : Vis X.env.scope x := by first | exact Or.inl rfl | exact Or.inr (Or.inl rfl) | exact Or.inr (Or.inr rfl)) (hd : (x == ("__debug__" : Str)) = false := by decide)
    (hcd : (x == ("__classdict__" : Str)) = false := by decide) : SE X B W (.Name x pos) (mVar i) := by
  refine (pe_var (i := i) hN hv hd hcd).fw fun σ H Q ⟨S, ι, lo, st, f, p⟩ => ?_
  unfold mVar at p
  split at p
  · rename_i m e
    obtain ⟨v, h, d⟩ := f.loc.val i m e
    exact ⟨v, h, p S ι H v f .refl d⟩
  · rename_i m e
    obtain ⟨a, h, h1, h2, h3, d⟩ := f.loc.own i m e
    exact ⟨_, h, p S ι H _ f .refl ⟨a, rfl, e, h, d⟩⟩
  · exact p.elim
theorem se_int {i j pos} : SE X B W (.Constant (.int i) j pos) (mC (.int i)) := pe_int.fw fun σ H Q ⟨S, ι, lo, st, f, p⟩ => p S ι H _ f .refl (.int i)
theorem se_bl {b j pos} : SE X B W (.Constant (.bool b) j pos) (mC (.bl b)) := pe_bl.fw fun σ H Q ⟨S, ι, lo, st, f, p⟩ => p S ι H _ f .refl (.bl b)
theorem se_non {j pos} : SE X B W (.Constant .none j pos) (mC .non) := pe_non.fw fun σ H Q ⟨S, ι, lo, st, f, p⟩ => p S ι H _ f .refl .non
theorem se_str {x j pos} : SE X B W (.Constant (.str x) j pos) (mC (.str x)) := pe_str.fw fun σ H Q ⟨S, ι, lo, st, f, p⟩ => p S ι H _ f .refl (.str x)
/-- a global name whose value is a plain one -/
theorem se_glob {x : Str} {u : Value} {v : V} {m : MV} {pos : Pos} (hg : Gl X x) (hm : X.mg x = some u) (r : RelV v u) (d : ∀ S ι H, Dt X.wd S ι H v m) (hd : (x == ("__debug__" : Str)) = false := by decide) : SE X B W (.Name x pos) (mC m) :=
  (pe_glob hg hm r hd).fw fun σ H Q ⟨S, ι, lo, st, f, p⟩ => p S ι H _ f .refl (d S ι H)

/-- what comes of values: a plain one (false) or a new object (true) -/
abbrev G2 := Sto → MV → MV → Option (MV × Bool)
def NewOf (mg : Wd) (S : Addr → Prop) (ι : List Addr) (H : Hp) (m : MV) (Q : VK) : Prop := ∀ p o, H p = none → Ob mg S ι H o m → Q (.ref p) (upd H p o)
/-- what is wanted of the value m: plain, or new -/
def Wants (mg : Wd) (S : Addr → Prop) (ι : List Addr) (H : Hp) (Q : VK) : MV × Bool → Prop
  | (m, false) => ∀ v, Dt mg S ι H v m → Q v H
  | (m, true) => NewOf mg S ι H m Q
def Op2 (X : Cx) (r : R2) (g : G2) : Prop := ∀ S ι H st x y a b z Q, Rep X.wd S ι H st → VR X.wd S ι H x a → VR X.wd S ι H y b → g st a b = some z → Wants X.wd S ι H Q z → r x y H Q
def mOp (g : G2) (fa fb : EF) : EF := fun lo st => fa lo st >>= fun (a, _, st1) => fb lo st1 >>= fun (b, _, st2) =>
  match g st2 (vw st2 a) (vw st2 b) with
  | some (m, true) => .ok (m, .fr, st2)
  | some (m, false) => .ok (m, .fz, st2)
  | none => .bad
/-- a result given out -/
theorem wants_of {mg : Wd} {S S0 : Addr → Prop} {ι ι0 : List Addr} {H H0 : Hp} {lo : Lo} {σ : St} {st : Sto} {z : MV × Bool} {Q : VK} {st2 : Sto} (f : Fm mg B S ι H lo σ st)
    (p : ∀ S' ι' H' v, Fm mg B S' ι' H' lo σ st → Keep S0 ι0 H0 S' ι' H' → RV mg B S' ι' H' lo σ v z.1 (if z.2 = true then .fr else .fz) → Q v H') (k : Keep S0 ι0 H0 S ι H) : Wants mg S ι H Q z := by
  obtain ⟨m, b⟩ := z
  cases b with
  | false => exact fun v d => p S ι H v f k d
  | true =>
    intro q o hq d
    obtain ⟨h1, h2, h3, h4⟩ := f.free hq
    exact p S ι (upd H q o) _ (f.new hq) (k.trans ((Ext.new hq).keep f.rep)) ⟨q, rfl, h1, h2, h3, ⟨o, upd_same, d.mono ((Ext.new hq).keep f.rep)⟩, h4⟩
theorem op_imp {g : G2} {r : R2} (ok : Op2 X r g) {fa fb : EF} : ∀ σ H Q, tE X.wd B W (mOp g fa fb) σ H Q → tOp r (tE X.wd B W fa) (tE X.wd B W fb) σ H Q := by
  intro σ H Q ⟨S, ι, lo, st, f, p⟩
  refine tE.use f (Post.bind p) fun a ka st1 S1 ι1 H1 x f1 k1 r1 p1 => ?_
  obtain ⟨S1', f1', k1', h1⟩ := r1.hand f1
  refine tE.use f1' (Post.bind (p1.mono (k1.trans k1') fun _ z => z)) fun b kb st2 S2 ι2 H2 y f2 k2 r2 p2 => ?_
  obtain ⟨S2', f2', k2', h2⟩ := r2.hand f2
  have k0 : Keep S ι H S2' ι2 H2 := k1.trans (k1'.trans (k2.trans k2'))
  have v1 := (h1.mono (k2.trans k2')).vr f2'
  have v2 := h2.vr f2'
  dsimp only at p2
  split at p2
  · rename_i m e
    exact ok S2' ι2 H2 _ x y _ _ _ Q f2'.rep v1 v2 e (wants_of (z := (m, true)) (st2 := st2) f2' p2 k0)
  · rename_i m e
    exact ok S2' ι2 H2 _ x y _ _ _ Q f2'.rep v1 v2 e (wants_of (z := (m, false)) (st2 := st2) f2' p2 k0)
  · exact p2.elim
variable {a b : Expr} {pos : Pos} {fa fb : EF}
theorem se_op {op : Operator} {r : R2} {g : G2} (ho : OpR X (binaryOp op) r) (ok : Op2 X r g) (ha : SE X B W a fa) (hb : SE X B W b fb) : SE X B W (.BinOp a op b pos) (mOp g fa fb) := (pe_op ho ha hb).fw (op_imp ok)
theorem se_cmp {op : CmpOp} {r : R2} {g : G2} (ho : OpR X (compareOp op) r) (ok : Op2 X r g) (ha : SE X B W a fa) (hb : SE X B W b fb) (hm : behindInMarks op b = false := by first | exact nomark _ | rfl) : SE X B W (.Compare a [op] [b] pos) (mOp g fa fb) := (pe_cmpR ho ha hb hm).fw (op_imp ok)
end
end FW

namespace FW
open PySem L2 PySem.Spec PyProof.Rows

section
variable {X : Cx}
def gAdd : G2
  | _, .int i, .int j => some (.int (i + j), false)
  | _, .str x, .str y => if x.length + y.length ≤ sizeLine then some (.str (x ++ y), false) else none
  | _, .lst xs, .lst ys => if xs.length + ys.length ≤ sizeLine then some (.lst (xs ++ ys), true) else none
  | _, _, _ => none
abbrev rAdd3 : R2 := fun x y H Q => (rI0 fun i j => .int (i + j)) x y H Q ∨ ((∃ i j, x = .str i ∧ y = .str j ∧ i.length + j.length ≤ sizeLine ∧ Q (.str (i ++ j)) H) ∨ rCat x y H Q)
theorem op_add3 : OpR X (binaryOp .Add) rAdd3 := op_add.or (op_add_str.or op_cat)
theorem ok_add : Op2 X rAdd3 gAdd := by
  intro S ι H st x y a b z Q hr ha hb e w
  unfold gAdd at e
  split at e
  · cases e; cases ha; cases hb
    exact .inl ⟨_, _, rfl, rfl, w _ (.int _)⟩
  · split at e
    · cases e; cases ha; cases hb
      exact .inr (.inl ⟨_, _, rfl, rfl, by assumption, w _ (.str _)⟩)
    · cases e
  · split at e
    · rename_i hl
      cases e
      obtain ⟨p, vs, rfl, h1, d1⟩ := ha
      obtain ⟨q, ws, rfl, h2, d2⟩ := hb
      exact .inr (.inr ⟨p, q, vs, ws, rfl, rfl, h1, h2, by rw [d1.1, d2.1]; exact hl, fun r hr => w r _ hr ⟨_, rfl, d1.append d2⟩⟩)
    · cases e
  · cases e
/-- two ints, by a rule of ints -/
def gII (C : Int → Int → Prop) [∀ i j, Decidable (C i j)] (g : Int → Int → MV) : G2
  | _, .int i, .int j => if C i j then some (g i j, false) else none
  | _, _, _ => none
theorem ok_ii {C : Int → Int → Prop} [∀ i j, Decidable (C i j)] {g : Int → Int → MV} {g' : Int → Int → V} (hg : ∀ mg S ι H i j, Dt mg S ι H (g' i j) (g i j)) : Op2 X (rI C g') (gII C g) := by
  intro S ι H st x y a b z Q hr ha hb e w
  unfold gII at e
  split at e
  · split at e
    · cases e; cases ha; cases hb
      exact ⟨_, _, rfl, rfl, by assumption, w _ (hg _ _ _ _ _ _)⟩
    · cases e
  · cases e
def gI0 (g : Int → Int → MV) : G2
  | _, .int i, .int j => some (g i j, false)
  | _, _, _ => none
theorem ok_i0 {g : Int → Int → MV} {g' : Int → Int → V} (hg : ∀ mg S ι H i j, Dt mg S ι H (g' i j) (g i j)) : Op2 X (rI0 g') (gI0 g) := by
  intro S ι H st x y a b z Q hr ha hb e w
  unfold gI0 at e
  split at e
  · cases e; cases ha; cases hb
    exact ⟨_, _, rfl, rfl, w _ (hg _ _ _ _ _ _)⟩
  · cases e
theorem Op2.or {r r' : R2} {g g' : G2} (h : Op2 X r g) (h' : Op2 X r' g') : Op2 X (fun x y H Q => r x y H Q ∨ r' x y H Q) (fun st a b => (g st a b).or (g' st a b)) := by
  intro S ι H st x y a b z Q hr ha hb e w
  dsimp only at e
  cases q : g st a b with
  | some u =>
    rw [q] at e
    have e' : u = z := by simpa using e
    subst e'
    exact .inl (h S ι H st x y a b u Q hr ha hb q w)
  | none =>
    rw [q] at e
    exact .inr (h' S ι H st x y a b z Q hr ha hb (by simpa using e) w)
abbrev gSub : G2 := gI0 fun i j => .int (i - j)
instance : ∀ i j : Int, Decidable (CMulW i j) := fun i j => by unfold CMulW; infer_instance
instance : ∀ i j : Int, Decidable (CMul i j) := fun i j => by unfold CMul; infer_instance
instance : ∀ i j : Int, Decidable (CDivW i j) := fun i j => by unfold CDivW; infer_instance
def gRep : G2
  | _, .lst xs, .int k => if -(2 ^ 63) ≤ k ∧ k < 2 ^ 63 ∧ xs.length * k.toNat ≤ sizeLine then some (.lst (List.replicate k.toNat xs).flatten, true) else none
  | _, _, _ => none
theorem AllD.rep {mg : Wd} {S : Addr → Prop} {ι : List Addr} {H : Hp} {vs : List V} {ms : List MV} (d : AllD mg S ι H vs ms) : ∀ k : Nat, AllD mg S ι H (List.replicate k vs).flatten (List.replicate k ms).flatten
  | 0 => AllD.nil
  | k + 1 => by
    rw [List.replicate_succ, List.replicate_succ, List.flatten_cons, List.flatten_cons]
    exact d.append (d.rep k)
theorem ok_rep : Op2 X rRep gRep := by
  intro S ι H st x y a b z Q hr ha hb e w
  unfold gRep at e
  split at e
  · split at e
    · rename_i hl
      cases e
      obtain ⟨p, vs, rfl, h1, d1⟩ := ha
      cases hb
      exact ⟨p, _, vs, rfl, rfl, h1, hl.1, hl.2.1, by rw [d1.1]; exact hl.2.2, fun r hr => w r _ hr ⟨_, rfl, d1.rep _⟩⟩
    · cases e
  · cases e
abbrev gMul : G2 := fun st a b => (gII CMulW (fun i j => .int (i * j)) st a b).or (gRep st a b)
theorem op_mul2 : OpR X (binaryOp .Mult) (fun x y H Q => (rI CMulW fun i j => .int (i * j)) x y H Q ∨ rRep x y H Q) := op_mulW.or op_rep
theorem ok_mul : Op2 X (fun x y H Q => (rI CMulW fun i j => .int (i * j)) x y H Q ∨ rRep x y H Q) gMul := Op2.or (ok_ii fun _ _ _ _ _ _ => .int _) ok_rep
abbrev gDiv : G2 := gII CDivW fun i j => .int (i / j)
abbrev gMod : G2 := gII (fun _ j => 0 < j) fun i j => .int (i % j)
def CPowW (i j : Int) : Prop := 0 ≤ j ∧ (Builtin.Int.intBits i : Int) * j ≤ 2 ^ 27
instance : ∀ i j : Int, Decidable (CPowW i j) := fun i j => by unfold CPowW; infer_instance
abbrev gPow : G2 := gII CPowW fun i j => .int (i ^ j.toNat)
theorem op_powW : OpR X (binaryOp .Pow) (rI CPowW fun i j => .int (i ^ j.toNat)) := opI fun _ _ _ _ _ _ _ hc q => pow_int hc.1 hc.2 q
section
variable {B : Base} {W : WX} {a b : Expr} {pos : Pos} {fa fb : EF}
theorem se_add (ha : SE X B W a fa) (hb : SE X B W b fb) : SE X B W (.BinOp a .Add b pos) (mOp gAdd fa fb) := se_op op_add3 ok_add ha hb
theorem se_sub (ha : SE X B W a fa) (hb : SE X B W b fb) : SE X B W (.BinOp a .Sub b pos) (mOp gSub fa fb) := se_op op_sub (ok_i0 fun _ _ _ _ _ _ => .int _) ha hb
theorem se_mul (ha : SE X B W a fa) (hb : SE X B W b fb) : SE X B W (.BinOp a .Mult b pos) (mOp gMul fa fb) := se_op op_mul2 ok_mul ha hb
theorem se_fdiv (ha : SE X B W a fa) (hb : SE X B W b fb) : SE X B W (.BinOp a .FloorDiv b pos) (mOp gDiv fa fb) := se_op op_fdivW (ok_ii fun _ _ _ _ _ _ => .int _) ha hb
theorem se_mod (ha : SE X B W a fa) (hb : SE X B W b fb) : SE X B W (.BinOp a .Mod b pos) (mOp gMod fa fb) := se_op op_mod (ok_ii fun _ _ _ _ _ _ => .int _) ha hb
theorem se_pow (ha : SE X B W a fa) (hb : SE X B W b fb) : SE X B W (.BinOp a .Pow b pos) (mOp gPow fa fb) := se_op op_powW (ok_ii fun _ _ _ _ _ _ => .int _) ha hb
abbrev gLt : G2 := gI0 fun i j => .bl (decide (i < j))
abbrev gLe : G2 := gI0 fun i j => .bl (decide (i ≤ j))
abbrev gGt : G2 := gI0 fun i j => .bl (decide (j < i))
abbrev gGe : G2 := gI0 fun i j => .bl (decide (j ≤ i))
theorem se_lt (ha : SE X B W a fa) (hb : SE X B W b fb) : SE X B W (.Compare a [.Lt] [b] pos) (mOp gLt fa fb) := se_cmp op_lt (ok_i0 fun _ _ _ _ _ _ => .bl _) ha hb (nomark _)
theorem se_le (ha : SE X B W a fa) (hb : SE X B W b fb) : SE X B W (.Compare a [.LtE] [b] pos) (mOp gLe fa fb) := se_cmp op_le (ok_i0 fun _ _ _ _ _ _ => .bl _) ha hb (nomark _)
theorem se_gt (ha : SE X B W a fa) (hb : SE X B W b fb) : SE X B W (.Compare a [.Gt] [b] pos) (mOp gGt fa fb) := se_cmp op_gt (ok_i0 fun _ _ _ _ _ _ => .bl _) ha hb (nomark _)
theorem se_ge (ha : SE X B W a fa) (hb : SE X B W b fb) : SE X B W (.Compare a [.GtE] [b] pos) (mOp gGe fa fb) := se_cmp op_ge (ok_i0 fun _ _ _ _ _ _ => .bl _) ha hb (nomark _)
end

def mapO {α β : Type} (f : α → Option β) : List α → Option (List β)
  | [] => some []
  | x :: xs => match f x, mapO f xs with
    | some y, some ys => some (y :: ys)
    | _, _ => none
def toD (st : Sto) : Nat → MV → Option PyData
  | 0, _ => none
  | k + 1, m => match vw st m with
    | .non => some .none
    | .bl b => some (.bool b)
    | .int i => some (.int i)
    | .str x => some (.str x)
    | .lst xs => (mapO (toD st k) xs).map .list
    | .tup xs => (mapO (toD st k) xs).map .tuple
    | _ => none
section
variable {mg : Wd} {S : Addr → Prop} {ι : List Addr} {H : Hp} {st : Sto} {v : V} {m : MV}
theorem dpAll_of {f : MV → Option PyData} : ∀ {ms : List MV} {vs : List V} {ds : List PyData}, AllD mg S ι H vs ms → (∀ v m d, Dt mg S ι H v m → f m = some d → Dp mg.K H v d) → mapO f ms = some ds → DpAll mg.K H vs ds
  | [], vs, ds, a, h, e => by
    obtain rfl := a.inv_nil
    cases e; exact .nil
  | m :: ms, vs, ds, a, h, e => by
    obtain ⟨v, vs', rfl, d, r⟩ := a.inv_cons
    unfold mapO at e
    split at e
    · rename_i y ys e1 e2
      cases e
      exact .cons (h v m y d e1) (dpAll_of r h e2)
    · cases e
theorem VR.dp (r : Rep mg S ι H st) : ∀ (k : Nat) (v : V) (m : MV) (d : PyData), VR mg S ι H v (vw st m) → toD st k m = some d → Dp mg.K H v d
  | 0, v, m, d, h, e => by cases e
  | k + 1, v, m, d, h, e => by
    have go : ∀ v m d, Dt mg S ι H v m → toD st k m = some d → Dp mg.K H v d := fun v m d q e => VR.dp r k v m d (q.vr r) e
    unfold toD at e
    split at e
    · rename_i q; rw [q] at h; cases h; cases e; exact .non
    · rename_i q; rw [q] at h; cases h; cases e; exact .bl _
    · rename_i q; rw [q] at h; cases h; cases e; exact .int _
    · rename_i q; rw [q] at h; cases h; cases e; exact .str _
    · rename_i xs q
      rw [q] at h
      obtain ⟨p, vs, rfl, h1, d1⟩ := h
      obtain ⟨ds, e1, rfl⟩ := Option.map_eq_some_iff.mp e
      exact .lst (.of h1) (dpAll_of d1 go e1)
    · rename_i xs q
      rw [q] at h
      obtain ⟨p, vs, rfl, h1, d1⟩ := h
      obtain ⟨ds, e1, rfl⟩ := Option.map_eq_some_iff.mp e
      exact .tup (.of h1) (dpAll_of d1 go e1)
    · cases e
end
/-- how deep data may lie -/
abbrev dpt : Nat := 12
def gEqB (neg : Bool) : G2 := fun st a b => match toD st dpt a, toD st dpt b with
  | some d, some e => if SeqAt.shaped d = true ∧ SeqAt.shaped e = true then some (.bl (if neg then !PyData.eqv d e else PyData.eqv d e), false) else none
  | _, _ => none
theorem ok_eq : Op2 X (rEqD X.K) (gEqB false) := by
  intro S ι H st x y a b z Q hr ha hb e w
  unfold gEqB at e
  split at e
  · rename_i d d' e1 e2
    split at e
    · rename_i hs
      cases e
      exact ⟨d, d', VR.dp (mg := X.wd) hr _ x a d (by rw [vw_of_vr ha]; exact ha) e1, VR.dp (mg := X.wd) hr _ y b d' (by rw [vw_of_vr hb]; exact hb) e2, hs.1, hs.2, w _ (.bl _)⟩
    · cases e
  · cases e
theorem ok_ne : Op2 X (rNeD X.K) (gEqB true) := by
  intro S ι H st x y a b z Q hr ha hb e w
  unfold gEqB at e
  split at e
  · rename_i d d' e1 e2
    split at e
    · rename_i hs
      cases e
      exact ⟨d, d', VR.dp (mg := X.wd) hr _ x a d (by rw [vw_of_vr ha]; exact ha) e1, VR.dp (mg := X.wd) hr _ y b d' (by rw [vw_of_vr hb]; exact hb) e2, hs.1, hs.2, w _ (.bl _)⟩
    · cases e
  · cases e
section
variable {B : Base} {W : WX} {a b c : Expr} {pos : Pos} {fa fb fc : EF}
theorem se_eq {k : Nat} (hr : Room k X.A) (ha : SE X B W a fa) (hb : SE X B W b fb) : SE X B W (.Compare a [.Eq] [b] pos) (mOp (gEqB false) fa fb) := se_cmp (op_eqD hr.units) ok_eq ha hb (nomark _)
theorem se_ne {k : Nat} (hr : Room k X.A) (ha : SE X B W a fa) (hb : SE X B W b fb) : SE X B W (.Compare a [.NotEq] [b] pos) (mOp (gEqB true) fa fb) := se_cmp (op_neD hr.units) ok_ne ha hb (nomark _)
/-- is None, whatever the left one is -/
def isNon : MV → Bool
  | .non => true
  | _ => false
def gIsN (neg : Bool) : G2
  | _, a, .non => some (.bl (if neg then !isNon a else isNon a), false)
  | _, _, _ => none
theorem vr_non {mg : Wd} {S : Addr → Prop} {ι : List Addr} {H : Hp} {x : V} {m : MV} (h : VR mg S ι H x m) : decide (x = .non) = isNon m := by
  cases m with
  | non => rw [show x = .non from h]; rfl
  | bl b => rw [show x = .bl b from h]; rfl
  | int b => rw [show x = .int b from h]; rfl
  | str b => rw [show x = .str b from h]; rfl
  | lst ms => obtain ⟨p, vs, rfl, _⟩ := h; rfl
  | tup ms => obtain ⟨p, vs, rfl, _⟩ := h; rfl
  | dct ms => obtain ⟨p, rfl, _⟩ := h; rfl
  | ins c ms => obtain ⟨p, _, _, _, rfl, _⟩ := h; rfl
  | exc c ms => obtain ⟨p, _, rfl, _⟩ := h; rfl
  | scr ns => obtain ⟨p, rfl, _⟩ := h; rfl
  | ref n => exact h.elim
theorem ok_isN : Op2 X (fun x y H Q => y = .non ∧ Q (.bl (decide (x = .non))) H) (gIsN false) := by
  intro S ι H st x y a b z Q hr ha hb e w
  unfold gIsN at e
  split at e
  · cases e
    refine ⟨hb, ?_⟩
    rw [vr_non ha]
    exact w _ (.bl _)
  · cases e
theorem ok_notN : Op2 X (fun x y H Q => y = .non ∧ Q (.bl (!decide (x = .non))) H) (gIsN true) := by
  intro S ι H st x y a b z Q hr ha hb e w
  unfold gIsN at e
  split at e
  · cases e
    refine ⟨hb, ?_⟩
    rw [vr_non ha]
    exact w _ (.bl _)
  · cases e
theorem se_isN (ha : SE X B W a fa) (hb : SE X B W b fb) : SE X B W (.Compare a [.Is] [b] pos) (mOp (gIsN false) fa fb) := se_cmp op_isN ok_isN ha hb (nomark _)
theorem se_notN (ha : SE X B W a fa) (hb : SE X B W b fb) : SE X B W (.Compare a [.IsNot] [b] pos) (mOp (gIsN true) fa fb) := se_cmp op_notN ok_notN ha hb (nomark _)

def mChain (g g' : G2) (fa fb fc : EF) : EF := fun lo st => fa lo st >>= fun (a, _, st1) => fb lo st1 >>= fun (b, _, st2) =>
  match g st2 (vw st2 a) (vw st2 b) with
  | some (.bl true, false) => fc lo st2 >>= fun (c, _, st3) => match g' st3 (vw st3 b) (vw st3 c) with
    | some (m, true) => .ok (m, .fr, st3)
    | some (m, false) => .ok (m, .fz, st3)
    | none => .bad
  | some (.bl false, false) => .ok (.bl false, .fz, st2)
  | _ => .bad
theorem se_chain {op op' : CmpOp} {r r' : R2} {g g' : G2} (ho : OpR X (compareOp op) r) (ho' : OpR X (compareOp op') r') (ok : Op2 X r g) (ok' : Op2 X r' g') (ha : SE X B W a fa) (hb : SE X B W b fb) (hc : SE X B W c fc)
    (hm : lastMarks [op, op'] [b, c] = false := by with_unfolding_all rfl) : SE X B W (.Compare a [op, op'] [b, c] pos) (mChain g g' fa fb fc) := by
  refine (pe_chain ho ho' ha hb hc hm).fw fun σ H Q ⟨S, ι, lo, st, f, p⟩ => ?_
  refine tE.use f (Post.bind p) fun a ka st1 S1 ι1 H1 x f1 k1 r1 p1 => ?_
  obtain ⟨S1', f1', k1', h1⟩ := r1.hand f1
  refine tE.use f1' (Post.bind (p1.mono (k1.trans k1') fun _ z => z)) fun b kb st2 S2 ι2 H2 y f2 k2 r2 p2 => ?_
  obtain ⟨S2', f2', k2', h2⟩ := r2.hand f2
  have k0 : Keep S ι H S2' ι2 H2 := k1.trans (k1'.trans (k2.trans k2'))
  have v1 := (h1.mono (k2.trans k2')).vr f2'
  have v2 := h2.vr f2'
  dsimp only at p2
  split at p2
  · rename_i e
    refine ok S2' ι2 H2 _ x y _ _ _ _ f2'.rep v1 v2 e fun v d => ?_
    cases d
    refine ⟨true, rfl, ?_⟩
    rw [if_pos rfl]
    refine tE.use f2' (Post.bind (p2.mono (k2.trans k2') fun _ z => z)) fun c kc st3 S3 ι3 H3 w f3 k3 r3 p3 => ?_
    obtain ⟨S3', f3', k3', h3⟩ := r3.hand f3
    have v2' := (h2.mono (k3.trans k3')).vr f3'
    have v3 := h3.vr f3'
    dsimp only at p3
    split at p3
    · rename_i m e
      exact ok' S3' ι3 H3 _ y w _ _ _ Q f3'.rep v2' v3 e (wants_of (z := (m, true)) (st2 := st3) f3' p3 (k0.trans (k3.trans k3')))
    · rename_i m e
      exact ok' S3' ι3 H3 _ y w _ _ _ Q f3'.rep v2' v3 e (wants_of (z := (m, false)) (st2 := st3) f3' p3 (k0.trans (k3.trans k3')))
    · exact p3.elim
  · rename_i e
    refine ok S2' ι2 H2 _ x y _ _ _ _ f2'.rep v1 v2 e fun v d => ?_
    cases d
    refine ⟨false, rfl, ?_⟩
    rw [if_neg Bool.false_ne_true]
    exact p2 S2' ι2 H2 _ f2' k0 (.bl _)
  · exact p2.elim
theorem se_lele (ha : SE X B W a fa) (hb : SE X B W b fb) (hc : SE X B W c fc) (hm : lastMarks [.LtE, .LtE] [b, c] = false := by with_unfolding_all rfl) : SE X B W (.Compare a [.LtE, .LtE] [b, c] pos) (mChain gLe gLe fa fb fc) :=
  se_chain op_le op_le (ok_i0 fun _ _ _ _ _ _ => .bl _) (ok_i0 fun _ _ _ _ _ _ => .bl _) ha hb hc hm
theorem se_lelt (ha : SE X B W a fa) (hb : SE X B W b fb) (hc : SE X B W c fc) (hm : lastMarks [.LtE, .Lt] [b, c] = false := by with_unfolding_all rfl) : SE X B W (.Compare a [.LtE, .Lt] [b, c] pos) (mChain gLe gLt fa fb fc) :=
  se_chain op_le op_lt (ok_i0 fun _ _ _ _ _ _ => .bl _) (ok_i0 fun _ _ _ _ _ _ => .bl _) ha hb hc hm
theorem se_ltlt (ha : SE X B W a fa) (hb : SE X B W b fb) (hc : SE X B W c fc) (hm : lastMarks [.Lt, .Lt] [b, c] = false := by with_unfolding_all rfl) : SE X B W (.Compare a [.Lt, .Lt] [b, c] pos) (mChain gLt gLt fa fb fc) :=
  se_chain op_lt op_lt (ok_i0 fun _ _ _ _ _ _ => .bl _) (ok_i0 fun _ _ _ _ _ _ => .bl _) ha hb hc hm

def mUn (g : MV → Option MV) (fa : EF) : EF := fun lo st => fa lo st >>= fun (a, _, st1) => match g a with
  | some m => .ok (m, .fz, st1)
  | none => .bad
def gNeg : MV → Option MV
  | .int i => some (.int (-i))
  | _ => none
def gNot : MV → Option MV
  | .bl b => some (.bl (!b))
  | _ => none
theorem rv_int {mg : Wd} {S : Addr → Prop} {ι : List Addr} {H : Hp} {lo : Lo} {σ : L2.St} {st : Sto} {v : V} {i : Int} {k : Kd} (f : Fm mg B S ι H lo σ st) (r : RV mg B S ι H lo σ v (.int i) k) : v = .int i := by
  obtain ⟨S', f', _, h⟩ := r.hand f
  exact h.vr f'
theorem rv_bl {mg : Wd} {S : Addr → Prop} {ι : List Addr} {H : Hp} {lo : Lo} {σ : L2.St} {st : Sto} {v : V} {i : Bool} {k : Kd} (f : Fm mg B S ι H lo σ st) (r : RV mg B S ι H lo σ v (.bl i) k) : v = .bl i := by
  obtain ⟨S', f', _, h⟩ := r.hand f
  exact h.vr f'
theorem rv_str {mg : Wd} {S : Addr → Prop} {ι : List Addr} {H : Hp} {lo : Lo} {σ : L2.St} {st : Sto} {v : V} {i : Str} {k : Kd} (f : Fm mg B S ι H lo σ st) (r : RV mg B S ι H lo σ v (.str i) k) : v = .str i := by
  obtain ⟨S', f', _, h⟩ := r.hand f
  exact h.vr f'
theorem se_neg (ha : SE X B W a fa) : SE X B W (.UnaryOp .USub a pos) (mUn gNeg fa) := by
  refine (pe_un un_neg ha).fw fun σ H Q ⟨S, ι, lo, st, f, p⟩ => ?_
  refine tE.use f (Post.bind p) fun a ka st1 S1 ι1 H1 x f1 k1 r1 p1 => ?_
  dsimp only at p1
  split at p1
  · rename_i m e
    unfold gNeg at e
    split at e
    · cases e
      exact ⟨_, rv_int f1 r1, p1 S1 ι1 H1 _ f1 k1 (.int _)⟩
    · cases e
  · exact p1.elim
theorem se_not (ha : SE X B W a fa) : SE X B W (.UnaryOp .Not a pos) (mUn gNot fa) := by
  refine (pe_not ha).fw fun σ H Q ⟨S, ι, lo, st, f, p⟩ => ?_
  refine tE.use f (Post.bind p) fun a ka st1 S1 ι1 H1 x f1 k1 r1 p1 => ?_
  dsimp only at p1
  split at p1
  · rename_i m e
    unfold gNot at e
    split at e
    · cases e
      exact ⟨_, rv_bl f1 r1, p1 S1 ι1 H1 _ f1 k1 (.bl _)⟩
    · cases e
  · exact p1.elim

def mTv (fa : EF) : TF := fun lo st => fa lo st >>= fun (a, _, st1) => match a with
  | .bl b => .ok (b, st1)
  | _ => .bad
theorem tv_imp : ∀ σ H Q, tT X.wd B W (mTv fa) σ H Q → tB (tE X.wd B W fa) σ H Q := by
  intro σ H Q ⟨S, ι, lo, st, f, p⟩
  refine tE.use f (Post.bind p) fun a ka st1 S1 ι1 H1 x f1 k1 r1 p1 => ?_
  dsimp only at p1
  split at p1
  · exact ⟨_, rv_bl f1 r1, p1 S1 ι1 H1 f1 k1⟩
  · exact p1.elim
theorem st_val (ha : SE X B W a fa) (he : ∀ whole, isTrue a X.env whole = (do let v ← whole; standAt a.pos; holding [v] (truthy v)) := by intro _; rfl) : STe X B W a (mTv fa) := (pt_val ha he).fw tv_imp
theorem st_cmp {op : CmpOp} {r : R2} {g : G2} (ho : OpR X (compareOp op) r) (ok : Op2 X r g) (ha : SE X B W a fa) (hb : SE X B W b fb) (hm : behindInMarks op b = false := by first | exact nomark _ | rfl) : STe X B W (.Compare a [op] [b] pos) (mTv (mOp g fa fb)) := by
  refine (pt_cmpR ho ha hb hm).fw fun σ H Q h => ?_
  exact op_imp ok σ H _ (by
    obtain ⟨S, ι, lo, st, f, p⟩ := h
    refine tE.use f (Post.bind p) fun a ka st1 S1 ι1 H1 x f1 k1 r1 p1 => ?_
    dsimp only at p1
    split at p1
    · exact ⟨_, rv_bl f1 r1, p1 S1 ι1 H1 f1 k1⟩
    · exact p1.elim)
theorem st_chain {op op' : CmpOp} {r r' : R2} {g g' : G2} (ho : OpR X (compareOp op) r) (ho' : OpR X (compareOp op') r') (ok : Op2 X r g) (ok' : Op2 X r' g') (ha : SE X B W a fa) (hb : SE X B W b fb) (hc : SE X B W c fc)
    (hm : lastMarks [op, op'] [b, c] = false := by with_unfolding_all rfl) : STe X B W (.Compare a [op, op'] [b, c] pos) (mTv (mChain g g' fa fb fc)) := by
  refine (pt_chain ho ho' ha hb hc hm).fw fun σ H Q ⟨S, ι, lo, st, f, p⟩ => ?_
  have p' := Post.bind p
  show tE X.wd B W fa σ H _
  refine tE.use f (Post.bind p') fun a ka st1 S1 ι1 H1 x f1 k1 r1 p1 => ?_
  obtain ⟨S1', f1', k1', h1⟩ := r1.hand f1
  refine tE.use f1' (Post.bind (p1.mono (k1.trans k1') fun _ z => z)) fun b kb st2 S2 ι2 H2 y f2 k2 r2 p2 => ?_
  obtain ⟨S2', f2', k2', h2⟩ := r2.hand f2
  have k0 : Keep S ι H S2' ι2 H2 := k1.trans (k1'.trans (k2.trans k2'))
  have v1 := (h1.mono (k2.trans k2')).vr f2'
  have v2 := h2.vr f2'
  dsimp only at p2
  split at p2
  · rename_i e
    refine ok S2' ι2 H2 _ x y _ _ _ _ f2'.rep v1 v2 e fun v d => ?_
    cases d
    refine ⟨true, rfl, ?_⟩
    rw [if_pos rfl]
    refine tE.use f2' (Post.bind (p2.mono (k2.trans k2') fun _ z => z)) fun c kc st3 S3 ι3 H3 w f3 k3 r3 p3 => ?_
    obtain ⟨S3', f3', k3', h3⟩ := r3.hand f3
    have v2' := (h2.mono (k3.trans k3')).vr f3'
    have v3 := h3.vr f3'
    dsimp only at p3
    split at p3
    · rename_i m e
      cases m with
      | bl b => exact ok' S3' ι3 H3 _ y w _ _ _ _ f3'.rep v2' v3 e fun p o hq d => False.elim d
      | _ => exact False.elim p3
    · rename_i m e
      cases m with
      | bl b =>
        refine ok' S3' ι3 H3 _ y w _ _ _ _ f3'.rep v2' v3 e fun v d => ?_
        cases d
        exact ⟨_, rfl, p3 S3' ι3 H3 f3' (k0.trans (k3.trans k3'))⟩
      | _ => exact False.elim p3
    · exact p3.elim
  · rename_i e
    refine ok S2' ι2 H2 _ x y _ _ _ _ f2'.rep v1 v2 e fun v d => ?_
    cases d
    refine ⟨false, rfl, ?_⟩
    rw [if_neg Bool.false_ne_true]
    exact ⟨_, rfl, p2 S2' ι2 H2 f2' k0⟩
  · exact p2.elim
abbrev SW (X : Cx) (B : Base) (W : WX) (e : Expr) (f : TF) : Prop := PW X e (tT X.wd B W f)
theorem _root_.L2.PW.fw {X : Cx} {e : Expr} {t t' : TT} (h : PW X e t) (i : ∀ σ H Q, t' σ H Q → t σ H Q) : PW X e t' := ⟨fun wh pins s σ H Q I q => h.run wh pins s σ H Q I (i σ H Q q)⟩
def mAnd (fa fb : TF) : TF := fun lo st => fa lo st >>= fun (a, st1) => if a = true then fb lo st1 else .ok (false, st1)
def mOr (fa fb : TF) : TF := fun lo st => fa lo st >>= fun (a, st1) => if a = true then .ok (true, st1) else fb lo st1
def mNotT (fa : TF) : TF := fun lo st => fa lo st >>= fun (a, st1) => .ok (!a, st1)
variable {ga gb : TF} {rest : List Expr}
theorem sw_and1 (ha : STe X B W a ga) : SW X B W (.BoolOp .And [a] pos) ga := pw_and1 ha
theorem sw_or1 (ha : STe X B W a ga) : SW X B W (.BoolOp .Or [a] pos) ga := pw_or1 ha
theorem sw_and (ha : STe X B W a ga) (hb : SW X B W (.BoolOp .And (b :: rest) pos) gb) : SW X B W (.BoolOp .And (a :: b :: rest) pos) (mAnd ga gb) := by
  refine (pw_and ha hb).fw fun σ H Q ⟨S, ι, lo, st, f, p⟩ => ?_
  refine tT.use f (Post.bind p) fun a st1 S1 ι1 H1 f1 k1 p1 => ?_
  dsimp only at p1
  cases a with
  | true =>
    rw [if_pos rfl] at p1 ⊢
    exact tT.use f1 (p1.mono k1 fun _ z => z) fun b st2 S2 ι2 H2 f2 k2 p2 => p2 S2 ι2 H2 f2 (k1.trans k2)
  | false =>
    rw [if_neg Bool.false_ne_true] at p1 ⊢
    exact p1 S1 ι1 H1 f1 k1
theorem sw_or (ha : STe X B W a ga) (hb : SW X B W (.BoolOp .Or (b :: rest) pos) gb) : SW X B W (.BoolOp .Or (a :: b :: rest) pos) (mOr ga gb) := by
  refine (pw_or ha hb).fw fun σ H Q ⟨S, ι, lo, st, f, p⟩ => ?_
  refine tT.use f (Post.bind p) fun a st1 S1 ι1 H1 f1 k1 p1 => ?_
  dsimp only at p1
  cases a with
  | false =>
    rw [if_neg Bool.false_ne_true] at p1 ⊢
    exact tT.use f1 (p1.mono k1 fun _ z => z) fun b st2 S2 ι2 H2 f2 k2 p2 => p2 S2 ι2 H2 f2 (k1.trans k2)
  | true =>
    rw [if_pos rfl] at p1 ⊢
    exact p1 S1 ι1 H1 f1 k1
theorem st_w {e : Expr} (h : SW X B W e ga) : STe X B W e ga := h.pt
theorem st_not (ha : STe X B W a ga) : STe X B W (.UnaryOp .Not a pos) (mNotT ga) := by
  refine (pt_not ha).fw fun σ H Q ⟨S, ι, lo, st, f, p⟩ => ?_
  exact tT.use f (Post.bind p) fun a st1 S1 ι1 H1 f1 k1 p1 => p1 S1 ι1 H1 f1 k1
/-- and, or as values -/
def mAndV (fa fb : EF) : EF := fun lo st => fa lo st >>= fun (a, _, st1) => match a with
  | .bl true => fb lo st1
  | .bl false => .ok (.bl false, .fz, st1)
  | _ => .bad
def mOrV (fa fb : EF) : EF := fun lo st => fa lo st >>= fun (a, _, st1) => match a with
  | .bl false => fb lo st1
  | .bl true => .ok (.bl true, .fz, st1)
  | _ => .bad
theorem se_one {op : BoolOp} (ha : SE X B W a fa) : SE X B W (.BoolOp op [a] pos) fa := pe_one ha
theorem se_and (ha : SE X B W a fa) (hb : SE X B W (.BoolOp .And (b :: rest) pos) fb) : SE X B W (.BoolOp .And (a :: b :: rest) pos) (mAndV fa fb) := by
  refine (pe_and ha hb).fw fun σ H Q ⟨S, ι, lo, st, f, p⟩ => ?_
  refine tE.use f (Post.bind p) fun a ka st1 S1 ι1 H1 x f1 k1 r1 p1 => ?_
  dsimp only at p1
  split at p1
  · refine ⟨true, rv_bl f1 r1, ?_⟩
    rw [if_pos rfl]
    exact tE.use f1 (p1.mono k1 fun _ z => z) fun b kb st2 S2 ι2 H2 v f2 k2 r2 p2 => p2 S2 ι2 H2 v f2 (k1.trans k2) r2
  · refine ⟨false, rv_bl f1 r1, ?_⟩
    rw [if_neg Bool.false_ne_true]
    exact p1 S1 ι1 H1 _ f1 k1 (.bl _)
  · exact p1.elim
theorem se_or (ha : SE X B W a fa) (hb : SE X B W (.BoolOp .Or (b :: rest) pos) fb) : SE X B W (.BoolOp .Or (a :: b :: rest) pos) (mOrV fa fb) := by
  refine (pe_or ha hb).fw fun σ H Q ⟨S, ι, lo, st, f, p⟩ => ?_
  refine tE.use f (Post.bind p) fun a ka st1 S1 ι1 H1 x f1 k1 r1 p1 => ?_
  dsimp only at p1
  split at p1
  · refine ⟨false, rv_bl f1 r1, ?_⟩
    rw [if_neg Bool.false_ne_true]
    exact tE.use f1 (p1.mono k1 fun _ z => z) fun b kb st2 S2 ι2 H2 v f2 k2 r2 p2 => p2 S2 ι2 H2 v f2 (k1.trans k2) r2
  · refine ⟨true, rv_bl f1 r1, ?_⟩
    rw [if_pos rfl]
    exact p1 S1 ι1 H1 _ f1 k1 (.bl _)
  · exact p1.elim
def mIfE (ga : TF) (fa fb : EF) : EF := fun lo st => ga lo st >>= fun (b, st1) => if b = true then fa lo st1 else fb lo st1
theorem se_if (hc : STe X B W c ga) (ha : SE X B W a fa) (hb : SE X B W b fb) : SE X B W (.IfExp c a b pos) (mIfE ga fa fb) := by
  refine (pe_ifExp hc ha hb).fw fun σ H Q ⟨S, ι, lo, st, f, p⟩ => ?_
  refine tT.use f (Post.bind p) fun a st1 S1 ι1 H1 f1 k1 p1 => ?_
  dsimp only at p1
  cases a with
  | true =>
    rw [if_pos rfl] at p1 ⊢
    exact tE.use f1 (p1.mono k1 fun _ z => z) fun b kb st2 S2 ι2 H2 v f2 k2 r2 p2 => p2 S2 ι2 H2 v f2 (k1.trans k2) r2
  | false =>
    rw [if_neg Bool.false_ne_true] at p1 ⊢
    exact tE.use f1 (p1.mono k1 fun _ z => z) fun b kb st2 S2 ι2 H2 v f2 k2 r2 p2 => p2 S2 ι2 H2 v f2 (k1.trans k2) r2
end
end
end FW

namespace FW
open PySem L2 PySem.Spec PyProof.Rows

def HandAll (mg : Wd) (S : Addr → Prop) (ι : List Addr) (H : Hp) (lo : Lo) (σ : L2.St) (vs : List V) (l : List (MV × Bool)) : Prop :=
  vs.length = l.length ∧ ∀ (i : Nat) v z, vs[i]? = some v → l[i]? = some z → Hand mg S ι H lo σ v z.1 z.2
section
variable {mg : Wd} {B : Base} {W : WX} {S S' S2 : Addr → Prop} {ι ι' ι2 : List Addr} {H H' H2 : Hp} {lo lo' : Lo} {σ σ' : L2.St} {st st' : Sto} {v : V} {m : MV} {vs : List V} {l : List (MV × Bool)}
theorem HandAll.nil : HandAll mg S ι H lo σ [] [] := ⟨rfl, fun i v z h => by simp at h⟩
theorem HandAll.cons {z : MV × Bool} (d : Hand mg S ι H lo σ v z.1 z.2) (r : HandAll mg S ι H lo σ vs l) : HandAll mg S ι H lo σ (v :: vs) (z :: l) := by
  refine ⟨by simp [r.1], fun i w n h1 h2 => ?_⟩
  cases i with
  | zero => simp at h1 h2; subst h1; subst h2; exact d
  | succ i => exact r.2 i w n (by simpa using h1) (by simpa using h2)
theorem HandAll.inv_cons {z : MV × Bool} (r : HandAll mg S ι H lo σ vs (z :: l)) : ∃ v vs', vs = v :: vs' ∧ Hand mg S ι H lo σ v z.1 z.2 ∧ HandAll mg S ι H lo σ vs' l := by
  cases vs with
  | nil => exact absurd r.1 (by simp)
  | cons v vs' => exact ⟨v, vs', rfl, r.2 0 v z rfl rfl, by have := r.1; simpa using this, fun i w n h1 h2 => r.2 (i + 1) w n (by simpa using h1) (by simpa using h2)⟩
theorem HandAll.inv_nil (r : HandAll mg S ι H lo σ vs []) : vs = [] := List.length_eq_zero_iff.mp r.1
theorem HandAll.mono (k : Keep S ι H S' ι' H') (r : HandAll mg S ι H lo σ vs l) : HandAll mg S' ι' H' lo σ vs l := ⟨r.1, fun i v z h1 h2 => (r.2 i v z h1 h2).mono k⟩
/-- all are data -/
def allFz (l : List (MV × Bool)) : Option (List MV) := if l.all (fun z => !z.2) = true then some (l.map (·.1)) else none
theorem HandAll.data (r : HandAll mg S ι H lo σ vs l) {ms : List MV} (h : allFz l = some ms) : AllD mg S ι H vs ms := by
  unfold allFz at h
  split at h
  · rename_i ha
    cases h
    refine ⟨by simp [r.1], fun i v m h1 h2 => ?_⟩
    rw [List.getElem?_map] at h2
    obtain ⟨z, hz, rfl⟩ := Option.map_eq_some_iff.mp h2
    have hb : z.2 = false := by
      have := List.all_eq_true.mp ha z (List.mem_of_getElem? hz)
      simpa using this
    have := r.2 i v z h1 hz
    unfold Hand at this
    rw [hb] at this
    exact this
  · cases h
end
def tA (mg : Wd) (B : Base) (W : WX) (f : AF) : TA := fun σ H Q => ∃ S ι lo st, Fm mg B S ι H lo σ st ∧ Post mg B W S ι H (fun r => ∀ S' ι' H' vs, Fm mg B S' ι' H' lo σ r.2 → Keep S ι H S' ι' H' → HandAll mg S' ι' H' lo σ vs r.1 → Q vs H') (f lo st)
abbrev SA (X : Cx) (B : Base) (W : WX) (es : List Expr) (f : AF) : Prop := PA X es (tA X.wd B W f)
theorem tA.use {mg : Wd} {B : Base} {W : WX} {S : Addr → Prop} {ι : List Addr} {H : Hp} {lo : Lo} {σ : L2.St} {st : Sto} {f : AF} {P : List (MV × Bool) × Sto → Prop} {Q : List V → Hp → Prop} (fm : Fm mg B S ι H lo σ st) (p : Post mg B W S ι H P (f lo st))
    (h : ∀ l st' S' ι' H' vs, Fm mg B S' ι' H' lo σ st' → Keep S ι H S' ι' H' → HandAll mg S' ι' H' lo σ vs l → P (l, st') → Q vs H') : tA mg B W f σ H Q :=
  ⟨S, ι, lo, st, fm, p.imp fun ⟨l, st'⟩ hp S' ι' H' vs fm' kp rv => h l st' S' ι' H' vs fm' kp rv hp⟩
def mNil : AF := fun _ st => .ok ([], st)
def mCons (f : EF) (g : AF) : AF := fun lo st => f lo st >>= fun (m, k, st1) => g lo st1 >>= fun (l, st2) => .ok ((m, isPk k) :: l, st2)
section
variable {X : Cx} {B : Base} {W : WX} {e : Expr} {es : List Expr} {f : EF} {g : AF} {pos : Pos}
theorem sa_nil : SA X B W [] mNil := pa_nil.fw fun σ H Q ⟨S, ι, lo, st, fm, p⟩ => p S ι H [] fm .refl .nil
theorem sa_cons (he : SE X B W e f) (hr : SA X B W es g) (hs : starEach (e :: es) X.env = (false, eval e X.env) :: starEach es X.env := by rfl) : SA X B W (e :: es) (mCons f g) := by
  refine (pa_cons he hr hs).fw fun σ H Q ⟨S, ι, lo, st, fm, p⟩ => ?_
  refine tE.use fm (Post.bind p) fun a ka st1 S1 ι1 H1 x f1 k1 r1 p1 => ?_
  obtain ⟨S1', f1', k1', h1⟩ := r1.hand f1
  refine tA.use f1' (Post.bind (p1.mono (k1.trans k1') fun _ z => z)) fun l st2 S2 ι2 H2 vs f2 k2 r2 p2 => ?_
  exact p2 S2 ι2 H2 (x :: vs) f2 (k1.trans (k1'.trans k2)) (.cons (h1.mono k2) r2)

def mLst (g : AF) : EF := fun lo st => g lo st >>= fun (l, st1) => match allFz l with
  | some ms => if ms.length ≤ sizeLine then .ok (.lst ms, .fr, st1) else .bad
  | none => .bad
def mTup (g : AF) : EF := fun lo st => g lo st >>= fun (l, st1) => match allFz l with
  | some ms => if ms.length ≤ sizeLine then .ok (.tup ms, .fr, st1) else .bad
  | none => .bad
theorem se_lst (h : SA X B W es g) : SE X B W (.List es pos) (mLst g) := by
  refine (pe_lst h).fw fun σ H Q ⟨S, ι, lo, st, fm, p⟩ => ?_
  refine tA.use fm (Post.bind p) fun l st1 S1 ι1 H1 vs f1 k1 r1 p1 => ?_
  dsimp only at p1
  split at p1
  · rename_i ms e
    split at p1
    · have d := r1.data e
      refine ⟨by rw [d.1]; assumption, ?_⟩
      exact fun q hq => wants_of (z := (.lst ms, true)) (st2 := st1) f1 p1 k1 q (.lst vs) hq ⟨vs, rfl, d⟩
    · exact p1.elim
  · exact p1.elim
theorem se_tup {x1} (h : SA X B W es g) : SE X B W (.Tuple es x1 pos) (mTup g) := by
  refine (pe_tup h).fw fun σ H Q ⟨S, ι, lo, st, fm, p⟩ => ?_
  refine tA.use fm (Post.bind p) fun l st1 S1 ι1 H1 vs f1 k1 r1 p1 => ?_
  dsimp only at p1
  split at p1
  · rename_i ms e
    split at p1
    · have d := r1.data e
      refine ⟨by rw [d.1]; assumption, ?_⟩
      exact fun q hq => wants_of (z := (.tup ms, true)) (st2 := st1) f1 p1 k1 q (.tup vs) hq ⟨vs, rfl, d⟩
    · exact p1.elim
  · exact p1.elim
def mDct0 : EF := fun _ st => .ok (.dct [], .fr, st)
theorem se_dct0 : SE X B W (.Dict [] [] pos) mDct0 := by
  refine pe_dnewK.fw fun σ H Q ⟨S, ι, lo, st, fm, p⟩ => ?_
  exact fun q hq => wants_of (z := (.dct [], true)) (st2 := st) fm p .refl q (.dK []) hq (.inl ⟨[], rfl, rfl, fun i kv p h => by simp at h⟩)

def VRs (mg : Wd) (S : Addr → Prop) (ι : List Addr) (H : Hp) (vs : List V) (ms : List MV) : Prop := vs.length = ms.length ∧ ∀ (i : Nat) v m, vs[i]? = some v → ms[i]? = some m → VR mg S ι H v m
theorem VRs.one {mg : Wd} {S : Addr → Prop} {ι : List Addr} {H : Hp} {vs : List V} {m : MV} (h : VRs mg S ι H vs [m]) : ∃ v, vs = [v] ∧ VR mg S ι H v m := by
  obtain ⟨hl, h⟩ := h
  match vs, hl with
  | [v], _ => exact ⟨v, rfl, h 0 v m rfl rfl⟩
theorem VRs.two {mg : Wd} {S : Addr → Prop} {ι : List Addr} {H : Hp} {vs : List V} {m n : MV} (h : VRs mg S ι H vs [m, n]) : ∃ v w, vs = [v, w] ∧ VR mg S ι H v m ∧ VR mg S ι H w n := by
  obtain ⟨hl, h⟩ := h
  match vs, hl with
  | [v, w], _ => exact ⟨v, w, rfl, h 0 v m rfl rfl, h 1 w n rfl rfl⟩
abbrev GL := Sto → List MV → Option (MV × Bool)
def CallOk (X : Cx) (r : List V → Hp → VK → Prop) (g : GL) : Prop := ∀ S ι H st vs as z Q, Rep X.wd S ι H st → VRs X.wd S ι H vs as → g st as = some z → Wants X.wd S ι H Q z → r vs H Q
def giveOut (z : Option (MV × Bool)) (st : Sto) : Res (MV × Kd × Sto) := match z with
  | some (m, true) => .ok (m, .fr, st)
  | some (m, false) => .ok (m, .fz, st)
  | none => .bad
def mCallB (gl : GL) (g : AF) : EF := fun lo st => g lo st >>= fun (l, st1) => giveOut (gl st1 (l.map fun z => vw st1 z.1)) st1
theorem HandAll.vrs {mg : Wd} {S : Addr → Prop} {ι : List Addr} {H : Hp} {lo : Lo} {σ : L2.St} {st : Sto} {vs : List V} {l : List (MV × Bool)} (f : Fm mg B S ι H lo σ st) (r : HandAll mg S ι H lo σ vs l) : VRs mg S ι H vs (l.map fun z => vw st z.1) := by
  refine ⟨by simp [r.1], fun i v m h1 h2 => ?_⟩
  rw [List.getElem?_map] at h2
  obtain ⟨z, hz, rfl⟩ := Option.map_eq_some_iff.mp h2
  exact (r.2 i v z h1 hz).vr f
theorem give_of {mg : Wd} {S S0 Sp : Addr → Prop} {ι ι0 ιp : List Addr} {H H0 Hq : Hp} {lo : Lo} {σ : L2.St} {st : Sto} {z : Option (MV × Bool)} {Q : VK} (f : Fm mg B S ι H lo σ st) (k : Keep S0 ι0 H0 S ι H)
    (p : Post mg B W Sp ιp Hq (fun r => ∀ S' ι' H' v, Fm mg B S' ι' H' lo σ r.2.2 → Keep S0 ι0 H0 S' ι' H' → RV mg B S' ι' H' lo σ v r.1 r.2.1 → Q v H') (giveOut z st)) : ∃ u, z = some u ∧ Wants mg S ι H Q u := by
  unfold giveOut at p
  split at p
  · exact ⟨_, rfl, wants_of (z := (_, true)) (st2 := st) f p k⟩
  · exact ⟨_, rfl, wants_of (z := (_, false)) (st2 := st) f p k⟩
  · exact p.elim
theorem callB_imp {r : List V → Hp → VK → Prop} {gl : GL} (ok : CallOk X r gl) : ∀ σ H Q, tE X.wd B W (mCallB gl g) σ H Q → tCB r (tA X.wd B W g) σ H Q := by
  intro σ H Q ⟨S, ι, lo, st, fm, p⟩
  refine tA.use fm (Post.bind p) fun l st1 S1 ι1 H1 vs f1 k1 r1 p1 => ?_
  obtain ⟨u, e, w⟩ := give_of f1 k1 p1
  exact ok S1 ι1 H1 _ vs _ u Q f1.rep (r1.vrs f1) e w
theorem se_callB {id : String} {r : List V → Hp → VK → Prop} {gl : GL} {x : Str} {p : Pos} (hc : CallR X (.builtin id) r) (ok : CallOk X r gl) (hg : Gl X x) (hm : X.mg x = none) (hv : bootBuiltins x = some (.builtin id)) (ha : SA X B W (e :: es) g)
    (hn : x ≠ "__name__" := by decide) (hdb : (x == ("__debug__" : Str)) = false := by decide)
    (he : starEach (e :: es) X.env = (false, eval e X.env) :: starEach es X.env := by rfl) (hpl : (backTo pos (starEach es X.env)).any (·.1) = false := by rfl) : SE X B W (.Call (.Name x p) (e :: es) [] pos) (mCallB gl g) :=
  (pe_callB hc hg hm hv ha hn hdb he hpl).fw (callB_imp ok)
theorem se_callTy {T : String} {r : List V → Hp → VK → Prop} {gl : GL} {x : Str} {p : Pos} (hc : CallR X (.type T) r) (ok : CallOk X r gl) (hg : Gl X x) (hm : X.mg x = none) (hv : bootBuiltins x = some (.type T)) (ha : SA X B W (e :: es) g)
    (hn : x ≠ "__name__" := by decide) (hdb : (x == ("__debug__" : Str)) = false := by decide)
    (he : starEach (e :: es) X.env = (false, eval e X.env) :: starEach es X.env := by rfl) (hpl : (backTo pos (starEach es X.env)).any (·.1) = false := by rfl) : SE X B W (.Call (.Name x p) (e :: es) [] pos) (mCallB gl g) :=
  (pe_callTy hc hg hm hv ha hn hdb he hpl).fw (callB_imp ok)
def gLen : GL
  | _, [.lst xs] => some (.int xs.length, false)
  | _, [.tup xs] => some (.int xs.length, false)
  | _, [.scr xs] => some (.int xs.length, false)
  | _, [.str x] => if x.length ≤ sizeLine then some (.int x.length, false) else none
  | _, _ => none
theorem ok_len : CallOk X (fun xs H Q => ∃ x n, xs = [x] ∧ LenV X.K x H n ∧ Q (.int n) H) gLen := by
  intro S ι H st vs as z Q hr ha e w
  unfold gLen at e
  split at e
  · cases e; obtain ⟨v, rfl, p, xs, rfl, h, d⟩ := ha.one
    exact ⟨_, xs.length, rfl, .inl ⟨xs, .of h, rfl⟩, by rw [d.1]; exact w _ (.int _)⟩
  · cases e; obtain ⟨v, rfl, p, xs, rfl, h, d⟩ := ha.one
    exact ⟨_, xs.length, rfl, .inr ⟨xs, .of h, rfl⟩, by rw [d.1]; exact w _ (.int _)⟩
  · cases e; rename_i ns; obtain ⟨v, rfl, p, rfl, h⟩ := ha.one
    exact ⟨_, ns.length, rfl, .inl ⟨_, h, by simp⟩, w _ (.int _)⟩
  · rename_i s
    split at e
    · cases e; obtain ⟨v, rfl, rfl⟩ := ha.one
      exact ⟨_, s.length, rfl, ⟨by assumption, rfl⟩, w _ (.int _)⟩
    · cases e
  · cases e
def gMax2 : GL
  | _, [.int i, .int j] => some (.int (if j > i then j else i), false)
  | _, _ => none
def gMin2 : GL
  | _, [.int i, .int j] => some (.int (if j < i then j else i), false)
  | _, _ => none
theorem ok_max2 : CallOk X (fun xs H Q => ∃ i j, xs = [.int i, .int j] ∧ Q (.int (if j > i then j else i)) H) gMax2 := by
  intro S ι H st vs as z Q hr ha e w
  unfold gMax2 at e
  split at e
  · cases e; obtain ⟨v, u, rfl, rfl, rfl⟩ := ha.two
    exact ⟨_, _, rfl, w _ (.int _)⟩
  · cases e
theorem ok_min2 : CallOk X (fun xs H Q => ∃ i j, xs = [.int i, .int j] ∧ Q (.int (if j < i then j else i)) H) gMin2 := by
  intro S ι H st vs as z Q hr ha e w
  unfold gMin2 at e
  split at e
  · cases e; obtain ⟨v, u, rfl, rfl, rfl⟩ := ha.two
    exact ⟨_, _, rfl, w _ (.int _)⟩
  · cases e
def gInt1 : GL
  | _, [.int i] => some (.int i, false)
  | _, [.bl k] => some (.int (if k then 1 else 0), false)
  | _, _ => none
theorem ok_int1 : CallOk X (fun xs H Q => (∃ i, xs = [.int i] ∧ Q (.int i) H) ∨ ∃ k, xs = [.bl k] ∧ Q (.int (if k then 1 else 0)) H) gInt1 := by
  intro S ι H st vs as z Q hr ha e w
  unfold gInt1 at e
  split at e
  · cases e; obtain ⟨v, rfl, rfl⟩ := ha.one
    exact .inl ⟨_, rfl, w _ (.int _)⟩
  · cases e; obtain ⟨v, rfl, rfl⟩ := ha.one
    exact .inr ⟨_, rfl, w _ (.int _)⟩
  · cases e
def gAbs : GL
  | _, [.int i] => some (.int (if i < 0 then -i else i), false)
  | _, _ => none
theorem ok_abs : CallOk X (fun xs H Q => ∃ i, xs = [.int i] ∧ Q (.int (if i < 0 then -i else i)) H) gAbs := by
  intro S ι H st vs as z Q hr ha e w
  unfold gAbs at e
  split at e
  · cases e; obtain ⟨v, rfl, rfl⟩ := ha.one
    exact ⟨_, rfl, w _ (.int _)⟩
  · cases e
def gStrI : GL
  | _, [.int i] => if i.natAbs.log2 < 1920 then some (.str (toString i), false) else none
  | _, _ => none
theorem ok_strI : CallOk X (fun xs H Q => ∃ i, xs = [.int i] ∧ i.natAbs.log2 < 1920 ∧ Q (.str (toString i)) H) gStrI := by
  intro S ι H st vs as z Q hr ha e w
  unfold gStrI at e
  split at e
  · split at e
    · cases e; obtain ⟨v, rfl, rfl⟩ := ha.one
      exact ⟨_, rfl, by assumption, w _ (.str _)⟩
    · cases e
  · cases e
def gListOf : GL
  | _, [.lst xs] => some (.lst xs, true)
  | _, [.tup xs] => some (.lst xs, true)
  | _, _ => none
theorem ok_listOf : CallOk X (fun xs H Q => ∃ p ys, xs = [.ref p] ∧ (SqL X.K H p ys ∨ SqT X.K H p ys) ∧ ∀ l, H l = none → Q (.ref l) (upd H l (.lst ys))) gListOf := by
  intro S ι H st vs as z Q hr ha e w
  unfold gListOf at e
  split at e
  · cases e; obtain ⟨v, rfl, p, xs, rfl, h, d⟩ := ha.one
    exact ⟨_, xs, rfl, .inl (.of h), fun l hl => w l _ hl ⟨xs, rfl, d⟩⟩
  · cases e; obtain ⟨v, rfl, p, xs, rfl, h, d⟩ := ha.one
    exact ⟨_, xs, rfl, .inr (.of h), fun l hl => w l _ hl ⟨xs, rfl, d⟩⟩
  · cases e
/-- tuple(a list) -/
def gTupOf : GL
  | _, [.lst xs] => some (.tup xs, true)
  | _, _ => none
theorem ok_tupOf : CallOk X (fun xs H Q => ∃ p ys, xs = [.ref p] ∧ ((SqL X.K H p ys ∧ ∀ l, H l = none → Q (.ref l) (upd H l (.tup ys))) ∨ (SqT X.K H p ys ∧ Q (.ref p) H))) gTupOf := by
  intro S ι H st vs as z Q hr ha e w
  unfold gTupOf at e
  split at e
  · cases e; obtain ⟨v, rfl, p, xs, rfl, h, d⟩ := ha.one
    exact ⟨_, xs, rfl, .inl ⟨.of h, fun l hl => w l _ hl ⟨xs, rfl, d⟩⟩⟩
  · cases e
instance decRg (i j : Int) : Decidable (RgOk i j) := by unfold RgOk; infer_instance
def mRg (fa fb : EF) : EF := fun lo st => fa lo st >>= fun (a, _, st1) => fb lo st1 >>= fun (b, _, st2) => match a, b with
  | .int i, .int j => if RgOk i j then .ok (.lst ((List.range (j - i).toNat).map fun k => .int (i + (k : Nat))), .fr, st2) else .bad
  | _, _ => .bad
theorem allD_rg {mg : Wd} {S : Addr → Prop} {ι : List Addr} {H : Hp} (i j : Int) : AllD mg S ι H (rgV i j) ((List.range (j - i).toNat).map fun k => MV.int (i + (k : Nat))) := by
  refine ⟨by rw [rgV_length]; simp, fun n v m h1 h2 => ?_⟩
  unfold rgV at h1
  rw [List.getElem?_map] at h1 h2
  obtain ⟨k, hk, rfl⟩ := Option.map_eq_some_iff.mp h1
  obtain ⟨k', hk', rfl⟩ := Option.map_eq_some_iff.mp h2
  rw [hk] at hk'; cases hk'
  exact .int _
variable {a b : Expr} {fa fb : EF}
theorem se_listRg2 {p p' pos' : Pos} (hc : X.calm = true) (hg : Gl X "list") (hm : X.mg "list" = none) (hg' : Gl X "range") (hm' : X.mg "range" = none) (ha : SE X B W a fa) (hb : SE X B W b fb)
    (na : starEach [a, b] X.env = (false, eval a X.env) :: starEach [b] X.env := by rfl) (nb : starEach [b] X.env = (false, eval b X.env) :: starEach [] X.env := by rfl) (hp : (backTo pos' (starEach [b] X.env)).any (·.1) = false := by rfl)
    (nn : starEach [.Call (.Name "range" p') [a, b] [] pos'] X.env = (false, eval (.Call (.Name "range" p') [a, b] [] pos') X.env) :: starEach [] X.env := by rfl) :
    SE X B W (.Call (.Name "list" p) [.Call (.Name "range" p') [a, b] [] pos'] [] pos) (mRg fa fb) := by
  refine (pe_listRg hc hg hm (prg_2 hg' hm' ha hb na nb hp) nn).fw fun σ H Q ⟨S, ι, lo, st, fm, p⟩ => ?_
  refine tE.use fm (Post.bind p) fun a ka st1 S1 ι1 H1 x f1 k1 r1 p1 => ?_
  obtain ⟨S1', f1', k1', h1⟩ := r1.hand f1
  refine tE.use f1' (Post.bind (p1.mono (k1.trans k1') fun _ z => z)) fun b kb st2 S2 ι2 H2 y f2 k2 r2 p2 => ?_
  obtain ⟨S2', f2', k2', h2⟩ := r2.hand f2
  have v1 := (h1.mono (k2.trans k2')).vr f2'
  have v2 := h2.vr f2'
  dsimp only at p2
  split at p2
  · split at p2
    · cases v1; cases v2
      refine ⟨_, _, rfl, rfl, by assumption, fun q hq => ?_⟩
      exact wants_of (z := (.lst _, true)) (st2 := st2) f2' p2 (k1.trans (k1'.trans (k2.trans k2'))) q _ hq ⟨_, rfl, allD_rg _ _⟩
    · exact p2.elim
  · exact p2.elim
def mBits (fa : EF) : EF := fun lo st => fa lo st >>= fun (a, _, st1) => match a with
  | .int i => .ok (.int (Builtin.Int.intBits i : Nat), .fz, st1)
  | _ => .bad
theorem se_bits {apos pos : Pos} (ho : SE X B W a fa) (hbase : attributeBase a "bit_length" X.env (eval a X.env) = eval a X.env := by rfl) (hline : (apos.endLine == pos.line) = true := by rfl) : SE X B W (.Call (.Attribute a "bit_length" apos) [] [] pos) (mBits fa) := by
  refine (pe_bits ho hbase hline).fw fun σ H Q ⟨S, ι, lo, st, fm, p⟩ => ?_
  refine tE.use fm (Post.bind p) fun a ka st1 S1 ι1 H1 x f1 k1 r1 p1 => ?_
  dsimp only at p1
  split at p1
  · exact ⟨_, rv_int f1 r1, p1 S1 ι1 H1 _ f1 k1 (.int _)⟩
  · exact p1.elim

def gIx : G2
  | _, .lst xs, .int i => (atI xs i).map (·, false)
  | _, .tup xs, .int i => (atI xs i).map (·, false)
  | _, .scr ns, .int i => (atI ns i).map fun n => (.int n, false)
  | _, .str z, .int i => if z.length ≤ sizeLine then (atI z.cps.toList i).map fun c => (.str ⟨#[c]⟩, false) else none
  | _, _, _ => none
theorem atI_all {mg : Wd} {S : Addr → Prop} {ι : List Addr} {H : Hp} {vs : List V} {ms : List MV} (d : AllD mg S ι H vs ms) {i : Int} {m : MV} (h : atI ms i = some m) : ∃ v, atI vs i = some v ∧ Dt mg S ι H v m := by
  unfold atI at h ⊢
  obtain ⟨j, h1, h2⟩ := Option.bind_eq_some_iff.mp h
  obtain ⟨v, h3, h4⟩ := d.get h2
  exact ⟨v, by rw [d.1, h1]; exact h3, h4⟩
theorem atI_map {α β : Type} (f : α → β) (xs : List α) (i : Int) : atI (xs.map f) i = (atI xs i).map f := by
  unfold atI
  rw [List.length_map]
  cases ixN xs.length i with
  | none => rfl
  | some j => simp
theorem ok_ix : Op2 X (fun x y H Q => rIxL X.K x y H Q ∨ rIxT X.K x y H Q ∨ rIxS x y H Q) gIx := by
  intro S ι H st x y a b z Q hr ha hb e w
  unfold gIx at e
  split at e
  · obtain ⟨p, vs, rfl, h1, d⟩ := ha
    cases hb
    obtain ⟨m, hm, rfl⟩ := Option.map_eq_some_iff.mp e
    obtain ⟨v, hv, dv⟩ := atI_all d hm
    exact .inl ⟨p, vs, _, v, rfl, rfl, .of h1, hv, w v dv⟩
  · obtain ⟨p, vs, rfl, h1, d⟩ := ha
    cases hb
    obtain ⟨m, hm, rfl⟩ := Option.map_eq_some_iff.mp e
    obtain ⟨v, hv, dv⟩ := atI_all d hm
    exact .inr (.inl ⟨p, vs, _, v, rfl, rfl, .of h1, hv, w v dv⟩)
  · obtain ⟨p, rfl, h1⟩ := ha
    cases hb
    obtain ⟨m, hm, rfl⟩ := Option.map_eq_some_iff.mp e
    exact .inl ⟨p, _, _, .int m, rfl, rfl, h1, by rw [atI_map, hm]; rfl, w _ (.int _)⟩
  · split at e
    · cases ha; cases hb
      obtain ⟨m, hm, rfl⟩ := Option.map_eq_some_iff.mp e
      exact .inr (.inr ⟨_, _, m, rfl, rfl, by assumption, hm, w _ (.str _)⟩)
    · cases e
  · cases e
theorem se_ix (ha : SE X B W a fa) (hb : SE X B W b fb) (hs : PlainIx b := by exact fun _ _ => rfl) : SE X B W (.Subscript a b pos) (mOp gIx fa fb) := (pe_ix ix_seq ha hb hs).fw (op_imp ok_ix)
abbrev OF := Lo → Sto → Res (Option Int × Sto)
def tOf (mg : Wd) (B : Base) (W : WX) (f : OF) : L2.TO := fun σ H Q => ∃ S ι lo st, Fm mg B S ι H lo σ st ∧ Post mg B W S ι H (fun r => ∀ S' ι' H', Fm mg B S' ι' H' lo σ r.2 → Keep S ι H S' ι' H' → Q r.1 H') (f lo st)
abbrev SO (X : Cx) (B : Base) (W : WX) (e : Option Expr) (f : OF) : Prop := PO X e (tOf X.wd B W f)
theorem _root_.L2.PO.fw {X : Cx} {e : Option Expr} {t t' : L2.TO} (h : PO X e t) (i : ∀ σ H Q, t' σ H Q → t σ H Q) : PO X e t' := ⟨fun pins s σ H Q I q => h.run pins s σ H Q I (i σ H Q q)⟩
def oNone : OF := fun _ st => .ok (none, st)
def oSome (f : EF) : OF := fun lo st => f lo st >>= fun (a, _, st1) => match a with
  | .int i => .ok (some i, st1)
  | _ => .bad
theorem so_none : SO X B W none oNone := po_none.fw fun σ H Q ⟨S, ι, lo, st, fm, p⟩ => p S ι H fm .refl
theorem so_some (ha : SE X B W a fa) : SO X B W (some a) (oSome fa) := by
  refine (po_some ha).fw fun σ H Q ⟨S, ι, lo, st, fm, p⟩ => ?_
  refine tE.use fm (Post.bind p) fun a ka st1 S1 ι1 H1 x f1 k1 r1 p1 => ?_
  dsimp only at p1
  split at p1
  · exact ⟨_, rv_int f1 r1, p1 S1 ι1 H1 f1 k1⟩
  · exact p1.elim
def cutM (xs : List MV) (lo hi : Option Int) : List MV := (xs.drop (HT.sIx xs.length 0 lo)).take (HT.sIx xs.length xs.length hi - HT.sIx xs.length 0 lo)
def gSl : MV → Option Int → Option Int → Option (MV × Bool)
  | .lst xs, lo, hi => some (.lst (cutM xs lo hi), true)
  | .tup xs, lo, hi => if HT.sIx xs.length 0 lo = 0 ∧ HT.sIx xs.length xs.length hi = xs.length then none else some (.tup (cutM xs lo hi), true)
  | .str z, lo, hi => if z.length ≤ sizeLine then some (.str (cutS z lo hi), false) else none
  | _, _, _ => none
def mSl (fa : EF) (fl fh : OF) : EF := fun lo st => fa lo st >>= fun (a, _, st1) => fl lo st1 >>= fun (l, st2) => fh lo st2 >>= fun (h, st3) => giveOut (gSl (vw st3 a) l h) st3
variable {l h : Option Expr} {fl fh : OF}
theorem tOf.use {mg : Wd} {S : Addr → Prop} {ι : List Addr} {H : Hp} {lo : Lo} {σ : L2.St} {st : Sto} {f : OF} {P : Option Int × Sto → Prop} {Q : Option Int → Hp → Prop} (fm : Fm mg B S ι H lo σ st) (p : Post mg B W S ι H P (f lo st))
    (h : ∀ b st' S' ι' H', Fm mg B S' ι' H' lo σ st' → Keep S ι H S' ι' H' → P (b, st') → Q b H') : tOf mg B W f σ H Q :=
  ⟨S, ι, lo, st, fm, p.imp fun ⟨b, st'⟩ hp S' ι' H' fm' kp => h b st' S' ι' H' fm' kp hp⟩
theorem se_slice {p2 : Pos} (ha : SE X B W a fa) (hl : SO X B W l fl) (hh : SO X B W h fh) : SE X B W (.Subscript a (.Slice l h none p2) pos) (mSl fa fl fh) := by
  refine (pe_slice (sl_list.or (sl_tup.or sl_str)) ha hl hh).fw fun σ H Q ⟨S, ι, lo, st, fm, p⟩ => ?_
  refine tE.use fm (Post.bind p) fun a ka st1 S1 ι1 H1 x f1 k1 r1 p1 => ?_
  obtain ⟨S1', f1', k1', h1⟩ := r1.hand f1
  refine tOf.use f1' (Post.bind (p1.mono (k1.trans k1') fun _ z => z)) fun l st2 S2 ι2 H2 f2 k2 p2 => ?_
  refine tOf.use f2 (Post.bind (p2.mono k2 fun _ z => z)) fun u st3 S3 ι3 H3 f3 k3 p3 => ?_
  have v1 := (h1.mono (k2.trans k3)).vr f3
  obtain ⟨z, e, w⟩ := give_of f3 (((k1.trans k1').trans k2).trans k3) p3
  unfold gSl at e
  split at e
  · rename_i q
    rw [q] at v1
    obtain ⟨p, vs, rfl, h1, d⟩ := v1
    cases e
    refine .inl ⟨p, vs, rfl, .of h1, fun r hr => w r _ hr ⟨_, rfl, ?_⟩⟩
    unfold cutV cutM
    rw [d.1]
    exact (d.drop _).take _
  · rename_i q
    rw [q] at v1
    obtain ⟨p, vs, rfl, h1, d⟩ := v1
    split at e
    · cases e
    · cases e
      refine .inr (.inl ⟨p, vs, rfl, .of h1, by rw [d.1]; assumption, fun r hr => w r _ hr ⟨_, rfl, ?_⟩⟩)
      unfold cutV cutM
      rw [d.1]
      exact (d.drop _).take _
  · rename_i q
    rw [q] at v1
    split at e
    · cases e; cases v1
      exact .inr (.inr ⟨_, rfl, by assumption, w _ (.str _)⟩)
    · cases e
  · cases e
end
end FW

namespace FW
open PySem L2 PySem.Spec PyProof.Rows

section
variable {mg : Wd} {B : Base} {W : WX} {S S' S2 : Addr → Prop} {ι ι' ι2 : List Addr} {H H' H2 : Hp} {lo lo' : Lo} {σ σ' : L2.St} {st st' : Sto} {v : V} {m : MV}
theorem Loc.set_val (l : Loc mg B S ι H lo σ) (i : Nat) (d : Dt mg S ι H v m) : Loc mg B S ι H (lo.set i (some (m, false))) (σ.set i (some v)) := by
  have hl := l.len
  refine ⟨by simp [hl], fun j n h => ?_, fun j n h => ?_, fun j k n n' a hjk h1 h2 h3 => ?_, fun j c fs h => ?_⟩
  · by_cases hj : i = j
    · subst hj
      by_cases hi : i < lo.length
      · rw [List.getElem?_set_self hi] at h; cases h
        exact ⟨v, List.getElem?_set_self (by omega), d⟩
      · rw [List.getElem?_eq_none (by simp; omega)] at h; cases h
    · rw [List.getElem?_set_ne hj] at h
      obtain ⟨w, e, q⟩ := l.val j n h
      exact ⟨w, by rw [List.getElem?_set_ne hj]; exact e, q⟩
  · by_cases hj : i = j
    · subst hj
      by_cases hi : i < lo.length
      · rw [List.getElem?_set_self hi] at h; cases h
      · rw [List.getElem?_eq_none (by simp; omega)] at h; cases h
    · rw [List.getElem?_set_ne hj] at h
      obtain ⟨w, e, q⟩ := l.own j n h
      exact ⟨w, by rw [List.getElem?_set_ne hj]; exact e, q⟩
  · have ne : ∀ {j : Nat} {n : MV}, (lo.set i (some (m, false)))[j]? = some (some (n, true)) → i ≠ j := fun {j n} h e => by
      subst e
      by_cases hi : i < lo.length
      · rw [List.getElem?_set_self hi] at h; cases h
      · rw [List.getElem?_eq_none (by simp; omega)] at h; cases h
    have e1 := ne h1
    have e2 := ne h2
    rw [List.getElem?_set_ne e1] at h1 h3
    rw [List.getElem?_set_ne e2] at h2
    rw [List.getElem?_set_ne e2]
    exact l.dis j k n n' a hjk h1 h2 h3
  · by_cases hj : i = j
    · subst hj
      by_cases hi : i < lo.length
      · rw [List.getElem?_set_self hi] at h; cases h
      · rw [List.getElem?_eq_none (by simp; omega)] at h; cases h
    · rw [List.getElem?_set_ne hj] at h
      obtain ⟨w, e, q⟩ := l.pin j c fs h
      exact ⟨w, e, by rw [List.getElem?_set_ne hj]; exact q⟩
def ownOk : MV → Bool
  | .ins _ _ => false
  | _ => true
theorem Loc.set_own {a : Addr} (l : Loc mg B S ι H lo σ) (i : Nat) (hm : ownOk m = true) (h1 : ¬ S a) (h2 : a ∉ ι) (h3 : B.New a) (d : Sh mg S ι H a m) (h4 : ∀ (j : Nat) m', lo[j]? = some (some (m', true)) → σ[j]? ≠ some (some (.ref a))) :
    Loc mg B S ι H (lo.set i (some (m, true))) (σ.set i (some (.ref a))) := by
  have hl := l.len
  refine ⟨by simp [hl], fun j n h => ?_, fun j n h => ?_, fun j k n n' b hjk q1 q2 q3 => ?_, fun j c fs h => ?_⟩
  · by_cases hj : i = j
    · subst hj
      by_cases hi : i < lo.length
      · rw [List.getElem?_set_self hi] at h; cases h
      · rw [List.getElem?_eq_none (by simp; omega)] at h; cases h
    · rw [List.getElem?_set_ne hj] at h
      obtain ⟨w, e, q⟩ := l.val j n h
      exact ⟨w, by rw [List.getElem?_set_ne hj]; exact e, q⟩
  · by_cases hj : i = j
    · subst hj
      by_cases hi : i < lo.length
      · rw [List.getElem?_set_self hi] at h; cases h
        exact ⟨a, List.getElem?_set_self (by omega), h1, h2, h3, d⟩
      · rw [List.getElem?_eq_none (by simp; omega)] at h; cases h
    · rw [List.getElem?_set_ne hj] at h
      obtain ⟨w, e, q⟩ := l.own j n h
      exact ⟨w, by rw [List.getElem?_set_ne hj]; exact e, q⟩
  · have inr : ∀ {j : Nat} {z : Option (MV × Bool)}, (lo.set i (some (m, true)))[j]? = some z → j < lo.length := fun {j z} h => by
      have := (List.getElem?_eq_some_iff.mp h).1
      simpa using this
    by_cases e1 : i = j
    · subst e1
      have hk : i ≠ k := hjk
      rw [List.getElem?_set_self (by have := inr q1; omega)] at q3
      cases q3
      rw [List.getElem?_set_ne hk] at q2 ⊢
      exact h4 k n' q2
    · rw [List.getElem?_set_ne e1] at q1 q3
      by_cases e2 : i = k
      · subst e2
        rw [List.getElem?_set_self (by have := inr q2; omega)]
        intro z
        have z' : a = b := by simpa using z
        subst z'
        exact h4 j n q1 q3
      · rw [List.getElem?_set_ne e2] at q2 ⊢
        exact l.dis j k n n' b hjk q1 q2 q3
  · by_cases hj : i = j
    · subst hj
      by_cases hi : i < lo.length
      · rw [List.getElem?_set_self hi] at h; cases h; cases hm
      · rw [List.getElem?_eq_none (by simp; omega)] at h; cases h
    · rw [List.getElem?_set_ne hj] at h
      obtain ⟨w, e, q⟩ := l.pin j c fs h
      exact ⟨w, e, by rw [List.getElem?_set_ne hj]; exact q⟩
theorem Fm.set_val (f : Fm mg B S ι H lo σ st) (i : Nat) (d : Dt mg S ι H v m) : Fm mg B S ι H (lo.set i (some (m, false))) (σ.set i (some v)) st := ⟨f.ext, f.rep, f.loc.set_val i d, f.g⟩
theorem Keep.upd {a : Addr} {o : HO} (h : ¬ S a) : Keep S ι H S ι (upd H a o) := ⟨fun _ h => h, fun b hb => upd_ne (fun e => h (e ▸ hb)), List.prefix_refl _⟩
/-- a frame's own thing is changed -/
theorem Fm.mutOwn {a : Addr} {o : HO} {i : Nat} {m m' : MV} (f : Fm mg B S ι H lo σ st) (h1 : lo[i]? = some (some (m, true))) (h2 : σ[i]? = some (some (.ref a))) (d : Ob mg S ι H o m') (hins : ∀ c fs, m' = .ins c fs → ∃ c' fs', m = .ins c' fs') :
    Fm mg B S ι (upd H a o) (lo.set i (some (m', true))) σ st := by
  obtain ⟨a', e, n1, n2, n3, d1⟩ := f.loc.own i m h1
  rw [h2] at e; cases e
  have k : Keep S ι H S ι (upd H a o) := Keep.upd n1
  refine ⟨⟨f.ext.s, fun b u q n => ?_, fun b hb => f.ext.b b hb, f.ext.i, f.ext.n⟩, ⟨f.rep.len, f.rep.nd, f.rep.sep, fun b hb => ?_, fun n b q q1 q2 => ?_⟩, ?_, fun b u hb => ?_⟩
  · rw [upd_ne (fun z => by subst z; rw [n3.1] at q; cases q)]; exact f.ext.k b u q n
  · rw [upd_ne (fun (z : b = a) => n1 (by rw [← z]; exact hb))]; exact f.rep.som b hb
  · exact (f.rep.ent n b q q1 q2).mono k (upd_ne (fun z => n2 (z ▸ List.mem_of_getElem? q1)))
  · have hl := f.loc.len
    have hi : i < lo.length := (List.getElem?_eq_some_iff.mp h1).1
    refine ⟨by simp [hl], fun j n h => ?_, fun j n h => ?_, fun j k n n' b hjk q1 q2 q3 => ?_, fun j c fs h => ?_⟩
    · by_cases hj : i = j
      · subst hj; rw [List.getElem?_set_self hi] at h; cases h
      · rw [List.getElem?_set_ne hj] at h
        obtain ⟨w, e, q⟩ := f.loc.val j n h
        exact ⟨w, e, q.mono k⟩
    · by_cases hj : i = j
      · subst hj
        rw [List.getElem?_set_self hi] at h; cases h
        exact ⟨a, h2, n1, n2, n3, ⟨o, upd_same, d.mono k⟩⟩
      · rw [List.getElem?_set_ne hj] at h
        obtain ⟨w, e, q1, q2, q3, q⟩ := f.loc.own j n h
        refine ⟨w, e, q1, q2, q3, q.mono k (upd_ne fun z => ?_)⟩
        subst z
        exact f.loc.dis i j m n w hj h1 h h2 e
    · have back : ∀ {j : Nat} {n : MV}, (lo.set i (some (m', true)))[j]? = some (some (n, true)) → ∃ n0, lo[j]? = some (some (n0, true)) := fun {j n} h => by
        by_cases hj : i = j
        · subst hj; exact ⟨m, h1⟩
        · rw [List.getElem?_set_ne hj] at h; exact ⟨n, h⟩
      obtain ⟨n1, e1⟩ := back q1
      obtain ⟨n2, e2⟩ := back q2
      exact f.loc.dis j k n1 n2 b hjk e1 e2 q3
    · by_cases hj : i = j
      · subst hj
        rw [List.getElem?_set_self hi] at h
        obtain ⟨c', fs', e⟩ := hins c fs (by cases h; rfl)
        exact f.loc.pin i c' fs' (by rw [h1, e])
      · rw [List.getElem?_set_ne hj] at h
        exact f.loc.pin j c fs h
  · obtain ⟨q1, q2, q3⟩ := f.g b u hb
    exact ⟨(upd_ne fun z => by subst z; rw [n3.2] at hb; cases hb).trans q1, q2, q3⟩
/-- a place of the store is changed -/
theorem Fm.mutSto {a : Addr} {o : HO} {n : Nat} {m' : MV} (f : Fm mg B S ι H lo σ st) (h1 : ι[n]? = some a) (d : Ob mg S ι H o m') : Fm mg B S ι (upd H a o) lo σ (st.set n m') := by
  have ha : a ∈ ι := List.mem_of_getElem? h1
  have n1 : ¬ S a := f.rep.sep a ha
  have k : Keep S ι H S ι (upd H a o) := Keep.upd n1
  refine ⟨⟨f.ext.s, fun b u q hn => ?_, fun b hb => f.ext.b b hb, f.ext.i, f.ext.n⟩, ⟨by simp [f.rep.len], f.rep.nd, f.rep.sep, fun b hb => ?_, fun j b q q1 q2 => ?_⟩, ⟨f.loc.len, fun j q h => ?_, fun j q h => ?_, f.loc.dis, f.loc.pin⟩, fun b u hb => ?_⟩
  · rw [upd_ne (fun z => ?_)]
    · exact f.ext.k b u q hn
    · subst z
      rcases f.ext.n b ha with z | z
      · exact hn z
      · rw [q] at z; cases z
  · rw [upd_ne (fun (z : b = a) => n1 (by rw [← z]; exact hb))]; exact f.rep.som b hb
  · by_cases hj : n = j
    · subst hj
      rw [h1] at q1; cases q1
      have hl : n < st.length := by rw [← f.rep.len]; exact (List.getElem?_eq_some_iff.mp h1).1
      rw [List.getElem?_set_self hl] at q2; cases q2
      exact ⟨o, upd_same, d.mono k⟩
    · rw [List.getElem?_set_ne hj] at q2
      refine (f.rep.ent j b q q1 q2).mono k (upd_ne fun z => ?_)
      subst z
      have i1 := (List.getElem?_eq_some_iff.mp h1)
      have i2 := (List.getElem?_eq_some_iff.mp q1)
      exact hj ((List.getElem_inj f.rep.nd).mp (i1.2.trans i2.2.symm))
  · obtain ⟨w, e, q⟩ := f.loc.val j q h
    exact ⟨w, e, q.mono k⟩
  · obtain ⟨w, e, q1, q2, q3, q⟩ := f.loc.own j q h
    exact ⟨w, e, q1, q2, q3, q.mono k (upd_ne fun z => q2 (z ▸ ha))⟩
  · obtain ⟨q1, q2, q3⟩ := f.g b u hb
    exact ⟨(upd_ne fun (z : b = a) => q2 (by rw [z]; exact ha)).trans q1, q2, q3⟩
/-- a new place of the store -/
theorem Fm.push {a : Addr} {m : MV} (f : Fm mg B S ι H lo σ st) (h1 : ¬ S a) (h2 : a ∉ ι) (h3 : B.New a) (d : Sh mg S ι H a m) (h4 : ∀ (j : Nat) m', lo[j]? = some (some (m', true)) → σ[j]? ≠ some (some (.ref a))) :
    Fm mg B S (ι ++ [a]) H lo σ (st ++ [m]) ∧ Keep S ι H S (ι ++ [a]) H := by
  have k : Keep S ι H S (ι ++ [a]) H := ⟨fun _ h => h, fun _ _ => rfl, List.prefix_append _ _⟩
  refine ⟨⟨⟨f.ext.s, f.ext.k, f.ext.b, f.ext.i.trans (List.prefix_append _ _), fun b hb => ?_⟩, ⟨by simp [f.rep.len], ?_, fun b hb => ?_, f.rep.som, fun n b q q1 q2 => ?_⟩, ⟨f.loc.len, fun j q h => ?_, fun j q h => ?_, f.loc.dis, f.loc.pin⟩, fun b u hb => ?_⟩, k⟩
  · rcases List.mem_append.mp hb with z | z
    · exact f.ext.n b z
    · rw [List.mem_singleton] at z; subst z; exact .inr h3.1
  · rw [List.nodup_append]
    exact ⟨f.rep.nd, by simp, fun x hx y hy => by rw [List.mem_singleton] at hy; subst hy; intro z; subst z; exact h2 hx⟩
  · rcases List.mem_append.mp hb with z | z
    · exact f.rep.sep b z
    · rw [List.mem_singleton] at z; subst z; exact h1
  · by_cases hn : n < ι.length
    · rw [List.getElem?_append_left hn] at q1
      rw [List.getElem?_append_left (by rw [← f.rep.len]; exact hn)] at q2
      exact (f.rep.ent n b q q1 q2).mono k rfl
    · rw [List.getElem?_append_right (by omega)] at q1
      rw [List.getElem?_append_right (by rw [← f.rep.len]; omega)] at q2
      rw [f.rep.len] at q1
      have e : n - st.length = 0 := by
        have := (List.getElem?_eq_some_iff.mp q1).1
        simp at this; omega
      rw [e] at q1 q2
      simp at q1 q2
      subst q1; subst q2
      exact d.mono k rfl
  · obtain ⟨w, e, q⟩ := f.loc.val j q h
    exact ⟨w, e, q.mono k⟩
  · obtain ⟨w, e, q1, q2, q3, q⟩ := f.loc.own j q h
    refine ⟨w, e, q1, fun z => ?_, q3, q.mono k rfl⟩
    rcases List.mem_append.mp z with z | z
    · exact q2 z
    · rw [List.mem_singleton] at z; subst z; exact h4 j _ h e
  · obtain ⟨q1, q2, q3⟩ := f.g b u hb
    refine ⟨q1, fun z => ?_, q3⟩
    rcases List.mem_append.mp z with z | z
    · exact q2 z
    · rw [List.mem_singleton] at z; subst z; rw [h3.2] at hb; cases hb
end

def PS1 (mg : Wd) (B : Base) (S : Addr → Prop) (ι : List Addr) (H : Hp) (D : Ends) : Fl × Lo × Sto → Prop
  | (.nx, lo', st') => ∀ S' ι' σ' H', Fm mg B S' ι' H' lo' σ' st' → Keep S ι H S' ι' H' → D.nx σ' H'
  | (.bk, lo', st') => ∀ S' ι' σ' H', Fm mg B S' ι' H' lo' σ' st' → Keep S ι H S' ι' H' → D.bk σ' H'
  | (.ct, lo', st') => ∀ S' ι' σ' H', Fm mg B S' ι' H' lo' σ' st' → Keep S ι H S' ι' H' → D.ct σ' H'
  | (.rt m k, lo', st') => ∀ S' ι' σ' H' v, Fm mg B S' ι' H' lo' σ' st' → Keep S ι H S' ι' H' → RV mg B S' ι' H' lo' σ' v m k → D.rt v H'
def tS (mg : Wd) (B : Base) (W : WX) (g : SF) : TS := fun D σ H => ∃ S ι lo st, Fm mg B S ι H lo σ st ∧ Post mg B W S ι H (PS1 mg B S ι H D) (g lo st)
abbrev SS (X : Cx) (B : Base) (W : WX) (e : Stmt) (g : SF) : Prop := PS X e (tS X.wd B W g)
abbrev SSs (X : Cx) (B : Base) (W : WX) (e : List Stmt) (g : SF) : Prop := PSs X e (tS X.wd B W g)
theorem PS1.mono {mg : Wd} {B : Base} {S S' : Addr → Prop} {ι ι' : List Addr} {H H' : Hp} {D : Ends} {r : Fl × Lo × Sto} (k : Keep S ι H S' ι' H') (p : PS1 mg B S ι H D r) : PS1 mg B S' ι' H' D r := by
  obtain ⟨fl, lo, st⟩ := r
  cases fl with
  | nx => exact fun S2 ι2 σ2 H2 f k2 => p S2 ι2 σ2 H2 f (k.trans k2)
  | bk => exact fun S2 ι2 σ2 H2 f k2 => p S2 ι2 σ2 H2 f (k.trans k2)
  | ct => exact fun S2 ι2 σ2 H2 f k2 => p S2 ι2 σ2 H2 f (k.trans k2)
  | rt m kd => exact fun S2 ι2 σ2 H2 v f k2 => p S2 ι2 σ2 H2 v f (k.trans k2)
/-- what is wanted behind a statement, by a later one -/
theorem tS.use {mg : Wd} {B : Base} {W : WX} {S : Addr → Prop} {ι : List Addr} {H : Hp} {lo : Lo} {σ : L2.St} {st : Sto} {g : SF} {P : Fl × Lo × Sto → Prop} {D : Ends} (fm : Fm mg B S ι H lo σ st) (p : Post mg B W S ι H P (g lo st))
    (h : ∀ r, P r → PS1 mg B S ι H D r) : tS mg B W g D σ H := ⟨S, ι, lo, st, fm, p.imp h⟩
def sNil : SF := fun lo st => .ok (.nx, lo, st)
def sSeq (g g' : SF) : SF := fun lo st => g lo st >>= fun (fl, lo1, st1) => match fl with
  | .nx => g' lo1 st1
  | fl => .ok (fl, lo1, st1)
def frzd (r : MV × Kd × Sto) : Res (MV × Sto) := match r with
  | (_, .pk _, _) => .bad
  | (m, _, st) => .ok (m, st)
/-- x = e, e data from then on -/
def sSet (i : Nat) (f : EF) : SF := fun lo st => f lo st >>= fun r => frzd r >>= fun (m, st1) => .ok (.nx, lo.set i (some (m, false)), st1)
/-- x = e, e a thing of the frame's own -/
def sOwn (i : Nat) (f : EF) : SF := fun lo st => f lo st >>= fun (m, k, st1) => match k with
  | .fr => if ownOk m = true then .ok (.nx, lo.set i (some (m, true)), st1) else .bad
  | _ => .bad
/-- e in a new place of the store -/
def mSto (f : EF) : EF := fun lo st => f lo st >>= fun (m, k, st1) => match k with
  | .fr => .ok (.ref st1.length, .fz, st1 ++ [m])
  | _ => .bad
def sExpr (f : EF) : SF := fun lo st => f lo st >>= fun (_, _, st1) => .ok (.nx, lo, st1)
def sRet (f : EF) : SF := fun lo st => f lo st >>= fun (m, k, st1) => .ok (.rt m k, lo, st1)
def sRetN : SF := fun lo st => .ok (.rt .non .fz, lo, st)
def sIf (c : TF) (g g' : SF) : SF := fun lo st => c lo st >>= fun (b, st1) => if b = true then g lo st1 else g' lo st1
section
variable {X : Cx} {B : Base} {W : WX} {e : Expr} {f : EF} {pos : Pos} {s : Stmt} {ss : List Stmt} {g g' : SF}
theorem ss_nil : SSs X B W [] sNil := pss_nil.fw fun D σ H ⟨S, ι, lo, st, fm, p⟩ => p S ι σ H fm .refl
theorem ss_cons (h1 : SS X B W s g) (h2 : SSs X B W ss g') : SSs X B W (s :: ss) (sSeq g g') := by
  refine (pss_cons h1 h2).fw fun D σ H ⟨S, ι, lo, st, fm, p⟩ => ?_
  refine tS.use fm (Post.bind p) fun r q => ?_
  obtain ⟨fl, lo1, st1⟩ := r
  cases fl with
  | nx => exact fun S' ι' σ' H' fm' k => ⟨S', ι', lo1, st1, fm', q.mono k fun r z => z.mono k⟩
  | bk => exact q
  | ct => exact q
  | rt m kd => exact q
theorem ss_one (h1 : SS X B W s g) : SSs X B W [s] g := pss_one h1
theorem ss_pass : SS X B W (.Pass pos) sNil := ps_pass.fw fun D σ H ⟨S, ι, lo, st, fm, p⟩ => p S ι σ H fm .refl
theorem ss_doc {x j p p'} : SS X B W (.Expr (.Constant (.str x) j p) p') sNil := ps_doc.fw fun D σ H ⟨S, ι, lo, st, fm, p⟩ => p S ι σ H fm .refl
theorem ss_set (i : Nat) {x : Str} {p' : Pos} (hN : X.N.Nodup) (he : SE X B W e f) (hi : X.N[i]? = some x := by rfl) (hx : L2.Loc X.env.scope x := by first | exact Or.inl rfl | exact Or.inr rfl) (hs : swapsWith e (some (.Name x p')) pos.line X.env = pure false := by rfl)
    (hf : X.fn x = true ∨ X.env.scope.names.lookup x = some .local := by first | exact .inl rfl | exact .inr rfl) : SS X B W (.Assign [.Name x p'] e pos) (sSet i f) := by
  refine (ps_set hN hi hx he hs hf).fw fun D σ H ⟨S, ι, lo, st, fm, p⟩ => ?_
  refine tE.use fm (Post.bind p) fun m k st1 S1 ι1 H1 v f1 k1 r1 p1 => ?_
  cases k with
  | pk j => exact p1.elim
  | fz => exact p1 S1 ι1 _ H1 (f1.set_val i r1) k1
  | fr =>
    obtain ⟨S2, f2, k2, d⟩ := RV.freeze f1 r1 (fun j z => by cases z)
    exact p1 S2 ι1 _ H1 (f2.set_val i d) (k1.trans k2)
theorem ss_own (i : Nat) {x : Str} {p' : Pos} (hN : X.N.Nodup) (he : SE X B W e f) (hi : X.N[i]? = some x := by rfl) (hx : L2.Loc X.env.scope x := by first | exact Or.inl rfl | exact Or.inr rfl) (hs : swapsWith e (some (.Name x p')) pos.line X.env = pure false := by rfl)
    (hf : X.fn x = true ∨ X.env.scope.names.lookup x = some .local := by first | exact .inl rfl | exact .inr rfl) : SS X B W (.Assign [.Name x p'] e pos) (sOwn i f) := by
  refine (ps_set hN hi hx he hs hf).fw fun D σ H ⟨S, ι, lo, st, fm, p⟩ => ?_
  refine tE.use fm (Post.bind p) fun m k st1 S1 ι1 H1 v f1 k1 r1 p1 => ?_
  cases k with
  | pk j => exact p1.elim
  | fz => exact p1.elim
  | fr =>
    dsimp only at p1
    split at p1
    case isFalse => exact p1.elim
    rename_i hm
    obtain ⟨a, rfl, h1, h2, h3, d, h4⟩ := r1
    exact p1 S1 ι1 _ H1 ⟨f1.ext, f1.rep, f1.loc.set_own i hm h1 h2 h3 d h4, f1.g⟩ k1
theorem se_sto (he : SE X B W e f) : SE X B W e (mSto f) := by
  refine he.fw fun σ H Q ⟨S, ι, lo, st, fm, p⟩ => ?_
  refine tE.use fm (Post.bind p) fun m k st1 S1 ι1 H1 v f1 k1 r1 p1 => ?_
  cases k with
  | pk j => exact p1.elim
  | fz => exact p1.elim
  | fr =>
    obtain ⟨a, rfl, h1, h2, h3, d, h4⟩ := r1
    obtain ⟨f2, k2⟩ := f1.push h1 h2 h3 d h4
    refine p1 S1 _ H1 _ f2 (k1.trans k2) (.ref ?_)
    rw [← f1.rep.len]; simp
theorem ss_expr (he : SE X B W e f) (hs : swapsWith e none pos.line X.env = pure false := by rfl) : SS X B W (.Expr e pos) (sExpr f) := by
  refine (ps_expr he hs).fw fun D σ H ⟨S, ι, lo, st, fm, p⟩ => ?_
  exact tE.use fm (Post.bind p) fun m k st1 S1 ι1 H1 v f1 k1 r1 p1 => p1 S1 ι1 σ H1 f1 k1
theorem ss_ret (he : SE X B W e f) : SS X B W (.Return (some e) pos) (sRet f) := by
  refine (ps_ret he).fw fun D σ H ⟨S, ι, lo, st, fm, p⟩ => ?_
  exact tE.use fm (Post.bind p) fun m k st1 S1 ι1 H1 v f1 k1 r1 p1 => p1 S1 ι1 σ H1 v f1 k1 r1
theorem ss_retN : SS X B W (.Return none pos) sRetN := ps_retN.fw fun D σ H ⟨S, ι, lo, st, fm, p⟩ => p S ι σ H _ fm .refl .non
theorem ss_if {c : Expr} {a b : List Stmt} {tc : TF} (hc : STe X B W c tc) (ha : SSs X B W a g) (hb : SSs X B W b g') : SS X B W (.If c a b pos) (sIf tc g g') := by
  refine (ps_if hc ha hb).fw fun D σ H ⟨S, ι, lo, st, fm, p⟩ => ?_
  refine tT.use fm (Post.bind p) fun b st1 S1 ι1 H1 f1 k1 p1 => ?_
  dsimp only at p1
  cases b with
  | true =>
    rw [if_pos rfl] at p1 ⊢
    exact ⟨S1, ι1, lo, st1, f1, p1.mono k1 fun r z => z.mono k1⟩
  | false =>
    rw [if_neg Bool.false_ne_true] at p1 ⊢
    exact ⟨S1, ι1, lo, st1, f1, p1.mono k1 fun r z => z.mono k1⟩
end

abbrev FF := List MV → Sto → Res (MV × Bool × Sto)
/-- what a function gives: data, or a new thing -/
def RF (mg : Wd) (B : Base) (S : Addr → Prop) (ι : List Addr) (H : Hp) (v : V) (m : MV) : Bool → Prop
  | false => Dt mg S ι H v m
  | true => ∃ a, v = .ref a ∧ ¬ S a ∧ a ∉ ι ∧ B.H a = none ∧ Sh mg S ι H a m
def PostF (mg : Wd) (S : Addr → Prop) (ι : List Addr) (H : Hp) (Q : VK) (E : XK) : Res (MV × Bool × Sto) → Prop
  | .ok (m, b, st') => ∀ S' ι' H' v, Ext S ι H S' ι' H' → Rep mg S' ι' H' st' → RF mg (b0 S ι H) S' ι' H' v m b → Q v H'
  | .exc c fs _ st' => ∀ S' ι' H' cls d, Ext S ι H S' ι' H' → Rep mg S' ι' H' st' → XR mg S' ι' H' c fs cls d → E cls d H'
  | .bad => False
def spM (mg : Wd) (n : Nat) (F : FF) : Sp := fun vs H Q E => vs.length = n ∧ ∃ S ι st ms, Rep mg S ι H st ∧ AllD mg S ι H vs ms ∧ PostF mg S ι H Q E (F ms st)
def startM (n : Nat) (ms : List MV) : Lo := ms.map (fun m => some (m, false)) ++ List.replicate (n - ms.length) none
def isFr : Kd → Bool
  | .fz => false
  | _ => true
/-- a def by its body: n names -/
def runF (n : Nat) (g : SF) : FF := fun ms st => match g (startM n ms) st with
  | .ok (.nx, _, st') => .ok (.non, false, st')
  | .ok (.rt m k, _, st') => .ok (m, isFr k, st')
  | .ok _ => .bad
  | .exc c fs lo st' => .exc c fs lo st'
  | .bad => .bad

structure RoomG (k : Nat) (A : Around) : Prop where
  r : Room k A
  g : A.guards = some []
theorem RoomG.mono {j k : Nat} {A : Around} (r : RoomG k A) (h : j ≤ k) : RoomG j A := ⟨r.r.mono h, r.g⟩
/-- a def keeps its promise, called where no repr is under way -/
structure FnG (P : Program) (w : World) (K : PySem.W.Frag) (mg : Str → Option Value) (base : Heap) (k : Nat) (f : Addr) (fd : FuncData) (ps : List Str) (sp : Sp) : Prop where
  len : ∀ vs H Q E, sp vs H Q E → vs.length = ps.length
  run : ∀ (A : Around) (outer : List Env) (s : Shared) (H : Hp) (args : Args) (us : List Value) (vs : List V) (Q : VK) (E : XK), RoomG k A → Env0 P w K mg base A outer s H → BindsTo s fd args (ps.zip us) → Vals vs us → sp vs H Q E →
    codeAny (model P w) A (.call (.ref f) args) (CR (L2.CX P w) outer P w H s Q E) s
theorem FnG.mono {P : Program} {w : World} {K : PySem.W.Frag} {mg : Str → Option Value} {base : Heap} {j k : Nat} {f : Addr} {fd : FuncData} {ps : List Str} {sp : Sp} (F : FnG P w K mg base j f fd ps sp) (h : j ≤ k) : FnG P w K mg base k f fd ps sp :=
  ⟨F.len, fun A outer s H args us vs Q E hr => F.run A outer s H args us vs Q E (hr.mono h)⟩
end FW

namespace FW
open PySem L2 PySem.Spec PyProof.Rows

/-- the context of a body at its entry -/
abbrev cxG (P : Program) (w : World) (K : PySem.W.Frag) (mg : Str → Option Value) (base : Heap) (N : List Str) (qual : Str) (scope : Scope) (f : Addr) (cd : Value) (A : Around) (outer : List Env) (s : Shared) (H : Hp) (E : XK) : Cx :=
  cxOf (L2.CX P w) P w K mg base N qual scope f cd A outer s H E
section
variable {P : Program} {w : World} {K : PySem.W.Frag} {mg : Str → Option Value} {base : Heap}
theorem fnG_of {k : Nat} {f : Addr} {name qual : Str} {params : Arguments} {body : List Stmt} {scope : Scope} {dV kV doc pm cdv ct oc : Value} {an od : Option Addr}
    {osl : Array (Option Value)} {N ps : List Str} {sp : Sp} (look : K.lookup f = some ⟨oc, od, .func (PySem.W.fnOf name qual params body scope dV kV doc pm an cdv ct), osl⟩) (hcode : PySem.W.codeIn K cdv qual = true) (Sc : FnScope N ps scope)
    (hlen : ∀ vs H Q E, sp vs H Q E → vs.length = ps.length)
    (hbody : ∀ (A : Around) (outer : List Env) (s : Shared) (H : Hp) (vs : List V) (Q : VK) (E : XK), RoomG k (A.deeper (envOfC qual scope s.heap.objs.size f cdv)) → sp vs H Q E →
      ∃ t, PSs (cxG P w K mg base N qual scope f cdv A outer s H E) body t ∧ t { nx := fun _ H' => Q .non H', rt := Q } (start N vs) H) :
    FnG P w K mg base (k + 1) f (PySem.W.fnOf name qual params body scope dV kV doc pm an cdv ct) ps sp := by
  constructor
  · exact hlen
  intro A outer s H args us vs Q E room e0 bind rel want
  have many := hlen _ _ _ _ want
  have inK : K.In s.heap := e0.mod.kin.keeps fun b o e => (e0.bs b o e).1
  have noLim : s.heap.NoLimit := e0.mod.nolimit.keeps fun b o e => (e0.bs b o e).1
  have kinds : ∀ y ∈ ps.zip us, scope.names.lookup y.1 = some .local ∨ (scope.names.lookup y.1 = some .cell ∧ ((cellsFrom (s.heap.objs.size + 1) scope.names []).lookup y.1).isSome = true) := by
    rintro ⟨n, v⟩ hy
    have hp := Sc.par n (List.of_mem_zip hy).1
    exact hp.imp id fun q => ⟨q, PySem.W.cellsFrom_some _ _ _ (.inl q)⟩
  refine codeAny_call_function room.r.depth (inK _ _ look) rfl Sc.co Sc.gen rfl (PySem.W.codeRec_of inK hcode) (bind _ _ _ _ ?_)
  refine wpAny_newFunctionEnv_cells Sc.kind kinds fun env he s1 x => ?_
  cases he
  refine ⟨noLim.keeps x.toInCall.keep, codeAny_func ?_⟩
  have room' : RoomG k (A.deeper (envOfC qual scope s.heap.objs.size f cdv)) := ⟨room.r.deeper _, room.g⟩
  obtain ⟨t, ht, hq⟩ := hbody A outer s H vs Q E room' want
  have I := inv_start (CX := L2.CX P w) (E := E) (K := K) (mg := mg) (base := base) (f := f) (cd := cdv) (qual := qual) Sc room.r.hd e0 many rel x
  have done : ∀ {σ' : L2.St} {H' : Hp} {v : V} {u : Value} {s' : Shared}, Inv (cxG P w K mg base N qual scope f cdv A outer s H E) [] σ' H' s' → RelV v u → Q v H' → CE outer P w H s Q u s' := by
    intro σ' H' v u s' J rv q
    exact ⟨v, H', J.os, J.bare, J.base, J.hok, rv, q⟩
  refine wpAny_mono (ht.run [] s1 (start N vs) H _ I hq) (fun fl s' hs => ?_) fun e s' hs => hs
  rcases fl with _ | _ | _ | u
  · obtain ⟨σ', H', J, q⟩ := hs
    exact done (v := V.non) (u := Value.none) J rfl q
  · obtain ⟨_, _, _, q⟩ := hs
    exact False.elim q
  · obtain ⟨_, _, _, q⟩ := hs
    exact False.elim q
  · obtain ⟨v, σ', H', J, rv, q⟩ := hs
    exact done J rv q

section
variable {mgw : Wd} {S : Addr → Prop} {ι : List Addr} {H : Hp} {st : Sto} {vs : List V} {ms : List MV}
theorem fm_start {N : List Str} (r : Rep mgw S ι H st) (d : AllD mgw S ι H vs ms) (hl : ms.length ≤ N.length) : Fm mgw (b0 S ι H) S ι H (startM N.length ms) (start N vs) st := by
  have hv := d.1
  have noOwn : ∀ (i : Nat) m, (startM N.length ms)[i]? ≠ some (some (m, true)) := fun i m h => by
    unfold startM at h
    by_cases hi : i < ms.length
    · rw [List.getElem?_append_left (by simpa using hi), List.getElem?_map] at h
      obtain ⟨x, _, e⟩ := Option.map_eq_some_iff.mp h
      cases e
    · rw [List.getElem?_append_right (by simpa using hi), List.getElem?_replicate] at h
      split at h <;> cases h
  refine ⟨Ext.refl, r, ⟨?_, fun i m h => ?_, fun i m h => absurd h (noOwn i m), fun i j m m' a _ h => absurd h (noOwn i m), fun i c fs h => absurd h (noOwn i _)⟩, fun a o h => by cases h⟩
  · unfold startM L2.start
    simp only [List.length_append, List.length_map, List.length_replicate]
    rw [hv]
  · unfold startM at h
    have hi : i < ms.length := by
      by_cases hi : i < ms.length
      · exact hi
      · rw [List.getElem?_append_right (by simpa using hi), List.getElem?_replicate] at h
        split at h <;> cases h
    rw [List.getElem?_append_left (by simpa using hi), List.getElem?_map] at h
    obtain ⟨x, hx, e⟩ := Option.map_eq_some_iff.mp h
    cases e
    obtain ⟨v, h1, h2⟩ := d.get hx
    refine ⟨v, ?_, h2⟩
    unfold L2.start
    rw [List.getElem?_append_left (by simpa using (by omega : i < vs.length)), List.getElem?_map, h1]
    rfl
end

/-- A DEF KEEPS ITS MIRROR, by its body's mirror -/
theorem fnM {k : Nat} {x qual : Str} {st : Stmt} {f : Addr} {fd : FuncData} {N ps : List Str} {g : SF} (F : Fun K x qual st f fd) (Sc : FnScope N ps (defScope st)) (hle : ps.length ≤ N.length)
    (hbody : ∀ (X : Cx) (B : Base) (W : WX) (cdv : Value) (A : Around) (outer : List Env) (s : Shared) (H : Hp) (E : XK), X = cxG P w K mg base N qual (defScope st) f cdv A outer s H E → RoomG k X.A → Takes X W →
      SSs (cxG P w K mg base N qual (defScope st) f cdv A outer s H E) B W (defBody st) g) :
    FnG P w K mg base (k + 1) f fd ps (spM ⟨K, mg⟩ ps.length (runF N.length g)) := by
  obtain ⟨oc, od, kV, doc, pm, an, cdv, ct, osl, rfl, lk, hcd⟩ := F.ex
  refine fnG_of lk hcd Sc (fun vs H Q E h => h.1) fun A outer s H vs Q E room want => ?_
  obtain ⟨hvl, S, ι, st0, ms, r, d, p⟩ := want
  refine ⟨_, hbody _ (b0 S ι H) (fun cls dd _ H' => E cls dd H') cdv A outer s H E rfl room (takes_of rfl rfl rfl rfl), S, ι, startM N.length ms, st0, fm_start r d (by rw [← d.1, hvl]; exact hle), ?_⟩
  unfold runF at p
  show Post (⟨K, mg⟩ : Wd) (b0 S ι H) _ S ι H _ _
  cases hg : g (startM N.length ms) st0 with
  | bad => rw [hg] at p; exact p
  | exc c fs lo st' =>
    rw [hg] at p
    intro S' ι' σ' H' cls dd fm kp xr
    exact p S' ι' H' cls dd fm.ext fm.rep xr
  | ok z =>
    rw [hg] at p
    obtain ⟨fl, lo', st'⟩ := z
    cases fl with
    | nx => exact fun S' ι' σ' H' fm kp => p S' ι' H' _ fm.ext fm.rep .non
    | bk => exact p.elim
    | ct => exact p.elim
    | rt m kd =>
      intro S' ι' σ' H' v fm kp rv
      refine p S' ι' H' v fm.ext fm.rep ?_
      cases kd with
      | fz => exact rv
      | fr => obtain ⟨a, e, h1, h2, h3, h4, _⟩ := rv; exact ⟨a, e, h1, h2, h3.1, h4⟩
      | pk i =>
        obtain ⟨a, e, h1, h2, h3⟩ := rv
        obtain ⟨a', e', q1, q2, q3, q4⟩ := fm.loc.own i m h1
        rw [h2] at e'; cases e'
        exact ⟨a, e, q1, q2, q3.1, q4⟩
end

def callR (F : FF) (ms : List MV) (lo : Lo) (st : Sto) : Res (MV × Kd × Sto) := match F ms st with
  | .ok (m, b, st') => .ok (m, if b then .fr else .fz, st')
  | .exc c fs _ st' => .exc c fs lo st'
  | .bad => .bad
def callF (n : Nat) (F : FF) (dms : List MV) (l : List (MV × Bool)) (lo : Lo) (st : Sto) : Res (MV × Kd × Sto) := match allFz l with
  | some ms => if (ms ++ dms).length = n then callR F (ms ++ dms) lo st else .bad
  | none => .bad
def mCall (n : Nat) (F : FF) (dms : List MV) (g : AF) : EF := fun lo st => g lo st >>= fun (l, st1) => callF n F dms l lo st1
section
variable {X : Cx} {B : Base} {W : WX}
/-- what the callee's promise gives, in the caller's frame -/
theorem wants_callee {n : Nat} {F : FF} {S S0 : Addr → Prop} {ι ι0 : List Addr} {H H0 : Hp} {lo : Lo} {σ : L2.St} {st : Sto} {vs : List V} {ms : List MV} {Q : VK} (fm : Fm X.wd B S ι H lo σ st) (d : AllD X.wd S ι H vs ms) (hn : vs.length = n) (k0 : Keep S0 ι0 H0 S ι H)
    (p : Post X.wd B W S0 ι0 H0 (fun r => ∀ S' ι' H' v, Fm X.wd B S' ι' H' lo σ r.2.2 → Keep S0 ι0 H0 S' ι' H' → RV X.wd B S' ι' H' lo σ v r.1 r.2.1 → Q v H') (callR F ms lo st)) : spM X.wd n F vs H Q (fun cls dd H' => ∃ S' ι' st' c fs, Fm X.wd B S' ι' H' lo σ st' ∧ Keep S ι H S' ι' H' ∧ XR X.wd S' ι' H' c fs cls dd ∧ W cls dd σ H') := by
  refine ⟨hn, S, ι, st, ms, fm.rep, d, ?_⟩
  unfold callR at p
  cases hF : F ms st with
  | bad => rw [hF] at p; exact p
  | exc c fs lo' st' =>
    rw [hF] at p
    intro S' ι' H' cls dd x r xr
    have fm' := fm.step x r
    have kk := x.keep fm.rep
    exact ⟨S', ι', st', c, fs, fm', kk, xr, p S' ι' σ H' cls dd fm' (k0.trans kk) xr⟩
  | ok z =>
    rw [hF] at p
    obtain ⟨m, b, st'⟩ := z
    intro S' ι' H' v x r rf
    have fm' := fm.step x r
    have kk := x.keep fm.rep
    refine p S' ι' H' v fm' (k0.trans kk) ?_
    cases b with
    | false => exact rf
    | true =>
      obtain ⟨a, e, h1, h2, h3, h4⟩ := rf
      have fr := fm.free h3
      exact ⟨a, e, h1, h2, fr.2.2.1, h4, fr.2.2.2⟩
theorem run_fnG {k : Nat} {f : Addr} {fd : FuncData} {ps : List Str} {sp : Sp} {E : XK} {dvs : List V} {ds : List Value} {pins : List (Addr × Obj)} {σ : L2.St} {H : Hp} {s : Shared} {Q : VK} {us : List Value} {vs : List V}
    (F : FnG X.prog X.w X.K X.mg X.base k f fd ps sp) (hr : RoomG k X.A) (hb : Binds X.K fd ps ds) (hd : Vals dvs ds) (hx : ∀ cls d H', E cls d H' → W cls d σ H') (tk : Takes X W)
    (I : Inv X pins σ H s) (r : Vals vs us) (h : sp (vs ++ dvs) H Q E) : wpAny (model X.prog X.w) X.A (call (.ref f) us) (EP X pins σ Q) X.xe s := by
  have rr : Vals (vs ++ dvs) (us ++ ds) := r.append hd
  have ll : (us ++ ds).length = ps.length := by rw [← rr.length]; exact F.len _ _ _ _ h
  have go := F.run X.A X.stack s H ⟨us, []⟩ (us ++ ds) (vs ++ dvs) Q E hr I.env0 (hb s us I.kIn ll) rr h
  refine wpAny_call (codeAny_mono go fun res s' hq => ?_)
  match res, hq with
  | .error e, hq => exact tk e s' (XE.of_call I hx hq)
  | .ok (.ret u), hq => exact I.after hq
/-- f(e, ..) -/
theorem se_call {k n : Nat} {f : Addr} {fd : FuncData} {ps : List Str} {FM : FF} {dvs : List V} {dms : List MV} {ds : List Value} {x : Str} {p pos : Pos} {e : Expr} {es : List Expr} {g : AF}
    (F : FnG X.prog X.w X.K X.mg X.base k f fd ps (spM X.wd n FM)) (hr : RoomG k X.A) (tk : Takes X W) (hg : Gl X x) (hm : X.mg x = some (.ref f)) (hk : PySem.W.keepIn X.K (.ref f) = true) (hb : Binds X.K fd ps ds) (hd : Vals dvs ds)
    (dd : ∀ S ι H, AllD X.wd S ι H dvs dms) (ha : SA X B W (e :: es) g) (hdb : (x == ("__debug__" : Str)) = false := by decide) (he : starEach (e :: es) X.env = (false, eval e X.env) :: starEach es X.env := by rfl)
    (hpl : (backTo pos (starEach es X.env)).any (·.1) = false := by rfl) : SE X B W (.Call (.Name x p) (e :: es) [] pos) (mCall n FM dms g) := by
  refine ⟨fun pins s σ H Q I ⟨S, ι, lo, st, fm, pp⟩ => ?_⟩
  refine wpAny_Call_Name_kw (ld_glob I hg hm ?_ hdb)
  have run := ha.run pos pins s σ H (fun vs H1 => ∃ E : XK, (∀ cls d H', E cls d H' → W cls d σ H') ∧ spM X.wd n FM (vs ++ dvs) H1 Q E) I ?_
  · refine PySem.W.callWith_K (h₀ := X.base) I.ok.mod.kin hk (thn run fun us s1 ⟨vs, H1, I1, r, q⟩ => ⟨I1.kIn, ?_⟩) he hpl
    obtain ⟨E, hE, q⟩ := q
    exact run_fnG F hr hb hd hE tk I1 r q
  · refine tA.use fm (Post.bind pp) fun l st1 S1 ι1 H1 vs f1 k1 r1 p1 => ?_
    dsimp only at p1
    unfold callF at p1
    split at p1
    · rename_i ms hz
      split at p1
      · rename_i hlen
        have d1 := r1.data hz
        have dall := d1.append (dd S1 ι1 H1)
        refine ⟨_, ?_, wants_callee f1 dall (by rw [dall.1]; exact hlen) k1 p1⟩
        rintro cls d H' ⟨_, _, _, _, _, _, _, _, z⟩
        exact z
      · exact p1.elim
    · exact p1.elim
end
end FW

namespace FW
open PySem L2 PySem.Spec PyProof.Rows

abbrev GF := MV → Lo → Sto → Res (Lo × Sto)
def SameBut (vs : List Nat) (σ σ' : L2.St) : Prop := σ'.length = σ.length ∧ ∀ j, j ∉ vs → σ'[j]? = σ[j]?
theorem SameBut.refl {vs : List Nat} {σ : L2.St} : SameBut vs σ σ := ⟨rfl, fun _ _ => rfl⟩
theorem SameBut.trans {vs : List Nat} {σ σ' σ2 : L2.St} (a : SameBut vs σ σ') (b : SameBut vs σ' σ2) : SameBut vs σ σ2 := ⟨b.1.trans a.1, fun j h => (b.2 j h).trans (a.2 j h)⟩
theorem SameBut.wipe {σ σ' : L2.St} : ∀ {vs : List Nat}, SameBut vs σ σ' → L2.wipe σ' vs = L2.wipe σ vs := by
  intro vs h
  apply List.ext_getElem?
  intro j
  have go : ∀ (vs : List Nat) (σ : L2.St) (j : Nat), j ∉ vs → (L2.wipe σ vs)[j]? = σ[j]? := by
    intro vs
    induction vs with
    | nil => intro σ j _; rfl
    | cons v vs ih =>
      intro σ j hj
      show ((L2.wipe σ vs).set v none)[j]? = σ[j]?
      rw [List.getElem?_set_ne (fun e => hj (by rw [e]; exact List.mem_cons_self)), ih σ j (fun e => hj (List.mem_cons_of_mem _ e))]
  have gone : ∀ (vs : List Nat) (σ : L2.St) (j : Nat), j ∈ vs → (L2.wipe σ vs)[j]? = if j < σ.length then some none else none := by
    intro vs
    induction vs with
    | nil => intro σ j h; cases h
    | cons v vs ih =>
      intro σ j hj
      show ((L2.wipe σ vs).set v none)[j]? = _
      by_cases e : v = j
      · subst e
        by_cases hl : v < σ.length
        · rw [List.getElem?_set_self (by rw [wipe_length]; exact hl), if_pos hl]
        · rw [List.getElem?_eq_none (by rw [List.length_set, wipe_length]; omega), if_neg hl]
      · rw [List.getElem?_set_ne e]
        exact ih σ j ((List.mem_cons.mp hj).resolve_left fun z => e z.symm)
  by_cases hj : j ∈ vs
  · rw [gone vs σ' j hj, gone vs σ j hj, h.1]
  · rw [go vs σ' j hj, go vs σ j hj, h.2 j hj]
def LoBut (vs : List Nat) (lo lo' : Lo) : Prop := ∀ j, j ∉ vs → lo'[j]? = lo[j]?
theorem LoBut.refl {vs : List Nat} {lo : Lo} : LoBut vs lo lo := fun _ _ => rfl
theorem LoBut.trans {vs : List Nat} {a b c : Lo} (x : LoBut vs a b) (y : LoBut vs b c) : LoBut vs a c := fun j h => (y j h).trans (x j h)
def tG (mg : Wd) (B : Base) (W : WX) (vs : List Nat) (gf : GF) : TG := fun v σ H Q => ∃ S ι lo st m, Fm mg B S ι H lo σ st ∧ Dt mg S ι H v m ∧
  Post mg B W S ι H (fun r => ∀ S' ι' σ' H', Fm mg B S' ι' H' r.1 σ' r.2 → Keep S ι H S' ι' H' → SameBut vs σ σ' → LoBut vs lo r.1 → Q σ' H') (gf m lo st)
abbrev SG (X : Cx) (B : Base) (W : WX) (vs : List Nat) (e : Expr) (gf : GF) : Prop := PG X e (tG X.wd B W vs gf)
theorem _root_.L2.PG.fw {X : Cx} {e : Expr} {t t' : TG} (h : PG X e t) (i : ∀ v σ H Q, t' v σ H Q → t v σ H Q) : PG X e t' := ⟨fun pins s σ H v u Q I r q => h.run pins s σ H v u Q I r (i v σ H Q q)⟩
theorem _root_.L2.PGs.fw {X : Cx} {e : List Expr} {t t' : TGs} (h : PGs X e t) (i : ∀ v σ H Q, t' v σ H Q → t v σ H Q) : PGs X e t' := ⟨fun pins s σ H v u Q I r q => h.run pins s σ H v u Q I r (i v σ H Q q)⟩
theorem PG.orr {X : Cx} {e : Expr} {t t' : TG} (h : PG X e t) (h' : PG X e t') : PG X e (fun v σ H Q => t v σ H Q ∨ t' v σ H Q) :=
  ⟨fun pins s σ H v u Q I r q => q.elim (h.run pins s σ H v u Q I r) (h'.run pins s σ H v u Q I r)⟩
def gN (i : Nat) : GF := fun m lo st => .ok (lo.set i (some (m, false)), st)
abbrev GFs := List MV → Lo → Sto → Res (Lo × Sto)
def tGs (mg : Wd) (B : Base) (W : WX) (vs : List Nat) (gf : GFs) : TGs := fun xs σ H Q => ∃ S ι lo st ms, Fm mg B S ι H lo σ st ∧ AllD mg S ι H xs ms ∧
  Post mg B W S ι H (fun r => ∀ S' ι' σ' H', Fm mg B S' ι' H' r.1 σ' r.2 → Keep S ι H S' ι' H' → SameBut vs σ σ' → LoBut vs lo r.1 → Q σ' H') (gf ms lo st)
abbrev SGs (X : Cx) (B : Base) (W : WX) (vs : List Nat) (e : List Expr) (gf : GFs) : Prop := PGs X e (tGs X.wd B W vs gf)
def gsNil : GFs
  | [], lo, st => .ok (lo, st)
  | _, _, _ => .bad
def gsCons (g : GF) (gs : GFs) : GFs
  | m :: ms, lo, st => g m lo st >>= fun (lo1, st1) => gs ms lo1 st1
  | [], _, _ => .bad
/-- (a, b, ..) = a tuple or a list of that length -/
def gT (n : Nat) (gs : GFs) : GF := fun m lo st => match vw st m with
  | .tup ms => if ms.length = n then gs ms lo st else .bad
  | .lst ms => if ms.length = n then gs ms lo st else .bad
  | _ => .bad
section
variable {X : Cx} {B : Base} {W : WX} {vs : List Nat} {pos : Pos}
theorem sg_name (i : Nat) {x : Str} (hN : X.N.Nodup) (hi : X.N[i]? = some x := by rfl) (hx : L2.Loc X.env.scope x := by first | exact Or.inl rfl | exact Or.inr rfl) (hv : i ∈ vs := by decide)
    (hf : X.fn x = true ∨ X.env.scope.names.lookup x = some .local := by first | exact .inl rfl | exact .inr rfl) : SG X B W vs (.Name x pos) (gN i) := by
  refine (pg_name hN hi hx hf).fw fun v σ H Q ⟨S, ι, lo, st, m, fm, d, p⟩ => ?_
  refine p S ι _ H (fm.set_val i d) .refl ⟨by simp, fun j hj => ?_⟩ fun j hj => ?_
  · exact List.getElem?_set_ne (fun (e : i = j) => hj (by rw [← e]; exact hv))
  · exact List.getElem?_set_ne (fun (e : i = j) => hj (by rw [← e]; exact hv))
theorem sgs_nil : SGs X B W vs [] gsNil := by
  refine pgs_nil.fw fun v σ H Q ⟨S, ι, lo, st, ms, fm, d, p⟩ => ?_
  cases ms with
  | nil => exact ⟨d.inv_nil, p S ι σ H fm .refl .refl .refl⟩
  | cons _ _ => exact p.elim
theorem sgs_cons {e : Expr} {es : List Expr} {g : GF} {gs : GFs} (h1 : SG X B W vs e g) (h2 : SGs X B W vs es gs) (hs : (assignEach (e :: es) X.env).map (·.2) = assign e X.env :: (assignEach es X.env).map (·.2) := by rfl) : SGs X B W vs (e :: es) (gsCons g gs) := by
  refine (pgs_cons h1 h2 hs).fw fun v σ H Q ⟨S, ι, lo, st, ms, fm, d, p⟩ => ?_
  cases ms with
  | nil => exact p.elim
  | cons m ms =>
    obtain ⟨x, xs, rfl, d1, dr⟩ := d.inv_cons
    refine ⟨x, xs, rfl, S, ι, lo, st, m, fm, d1, (Post.bind p).imp fun ⟨lo1, st1⟩ q S1 ι1 σ1 H1 f1 k1 sb lb => ?_⟩
    exact ⟨S1, ι1, lo1, st1, ms, f1, dr.mono k1, q.mono k1 fun r z S2 ι2 σ2 H2 f2 k2 sb2 lb2 => z S2 ι2 σ2 H2 f2 (k1.trans k2) (sb.trans sb2) (lb.trans lb2)⟩
theorem sg_tup {es : List Expr} {k n : Nat} {gs : GFs} (hc : X.calm = true) (h : SGs X B W vs es gs) (hn : (assignEach es X.env).length = n := by rfl) (hst : (assignEach es X.env).findIdx? (·.1) = none := by rfl) : SG X B W vs (.Tuple es k pos) (gT n gs) := by
  refine (PG.orr (pg_tup hc h hn hst) (pg_lst hc h hn hst)).fw fun v σ H Q ⟨S, ι, lo, st, m, fm, d, p⟩ => ?_
  have vr := d.vr fm.rep
  unfold gT at p
  split at p
  · rename_i ms e
    split at p
    · rename_i hl
      rw [e] at vr
      obtain ⟨q, xs, rfl, h1, d1⟩ := vr
      exact .inl ⟨q, xs, rfl, .of h1, by rw [d1.1, hl], S, ι, lo, st, ms, fm, d1, p⟩
    · exact p.elim
  · rename_i ms e
    split at p
    · rename_i hl
      rw [e] at vr
      obtain ⟨q, xs, rfl, h1, d1⟩ := vr
      exact .inr ⟨q, xs, rfl, .of h1, by rw [d1.1, hl], S, ι, lo, st, ms, fm, d1, p⟩
    · exact p.elim
  · exact p.elim
/-- target = e -/
def sAsg (f : EF) (g : GF) : SF := fun lo st => f lo st >>= fun r => frzd r >>= fun (m, st1) => g m lo st1 >>= fun (lo2, st2) => .ok (.nx, lo2, st2)
theorem frzd_ok {B' : Base} {W' : WX} {mg : Wd} {S : Addr → Prop} {ι : List Addr} {H : Hp} {lo : Lo} {σ : L2.St} {st : Sto} {v : V} {m : MV} {k : Kd} {α : Type} {P : α → Prop} {S0 : Addr → Prop} {ι0 : List Addr} {H0 : Hp} {c : MV × Sto → Res α} (fm : Fm mg B S ι H lo σ st) (r : RV mg B S ι H lo σ v m k)
    (p : Post mg B' W' S0 ι0 H0 P (frzd (m, k, st) >>= c)) : (∃ S', Fm mg B S' ι H lo σ st ∧ Keep S ι H S' ι H ∧ Dt mg S' ι H v m) ∧ Post mg B' W' S0 ι0 H0 P (c (m, st)) := by
  cases k with
  | pk j => exact p.elim
  | fz => exact ⟨⟨S, fm, .refl, r⟩, p⟩
  | fr => exact ⟨RV.freeze fm r (fun j z => by cases z), p⟩
theorem ss_asg {tg e : Expr} {f : EF} {g : GF} (he : SE X B W e f) (hg : SG X B W vs tg g) (hs : swapsWithSole [tg] e pos.line X.env = pure false := by rfl) (hw : swappedStores [tg] e X.env = pure none := by rfl)
    (h1 : (assignEach [tg] X.env).map (·.2) = [assign tg X.env] := by rfl) : SS X B W (.Assign [tg] e pos) (sAsg f g) := by
  refine (ps_asg he hg hs hw h1).fw fun D σ H ⟨S, ι, lo, st, fm, p⟩ => ?_
  refine tE.use fm (Post.bind p) fun m k st1 S1 ι1 H1 v f1 k1 r1 p1 => ?_
  obtain ⟨⟨S2, f2, k2, d⟩, p2⟩ := frzd_ok f1 r1 p1
  have k0 := k1.trans k2
  refine ⟨S2, ι1, lo, st1, m, f2, d, ((Post.bind p2).mono k0 fun ⟨lo2, st2⟩ q S3 ι3 σ3 H3 f3 k3 _ _ => q S3 ι3 σ3 H3 f3 (k0.trans k3))⟩

abbrev CK := Lo → Sto → Prop
abbrev IFn := Lo → Sto → Res (List MV × CK × Sto)
def WalkM (mg : Wd) (J : It) (items : List MV) (chk : CK) (S0 : Addr → Prop) (ι0 : List Addr) (H0 : Hp) : Prop :=
  ∀ (B : Base) (i : Nat) S ι H lo σ st, Fm mg B S ι H lo σ st → Keep S0 ι0 H0 S ι H → chk lo st →
    (∀ m, items[i]? = some m → J.go i H ∧ ∀ x H', J.yld i H x H' → ∃ S', Fm mg B S' ι H' lo σ st ∧ Keep S ι H S' ι H' ∧ Dt mg S' ι H' x m) ∧ (items.length ≤ i → J.stop i H)
def tI (mg : Wd) (B : Base) (W : WX) (fi : IFn) : TI := fun σ H R => ∃ S ι lo st, Fm mg B S ι H lo σ st ∧
  Post mg B W S ι H (fun r => ∀ S' ι' H' J, Fm mg B S' ι' H' lo σ r.2.2 → Keep S ι H S' ι' H' → WalkM mg J r.1 r.2.1 S' ι' H' → r.2.1 lo r.2.2 → R J H') (fi lo st)
abbrev SI (X : Cx) (B : Base) (W : WX) (tg iter : Expr) (fi : IFn) : Prop := PI X tg iter (tI X.wd B W fi)
/-- a list or a tuple, its items -/
def src (m : MV) (st : Sto) : Option (List MV × CK) := match m with
  | .lst ms => some (ms, fun _ _ => True)
  | .tup ms => some (ms, fun _ _ => True)
  | .ref n => (match st[n]? with
    | some (.lst ms) => some (ms, fun _ st' => st'[n]? = some (.lst ms))
    | _ => none)
  | _ => none
def iSeq (f : EF) : IFn := fun lo st => f lo st >>= fun r => frzd r >>= fun (m, st1) => match src m st1 with
  | some (ms, ck) => .ok (ms, ck, st1)
  | none => .bad
/-- what data show as a list that is walked -/
theorem src_list {mg : Wd} {S : Addr → Prop} {ι : List Addr} {H : Hp} {lo : Lo} {σ : L2.St} {st : Sto} {v : V} {m : MV} {ms : List MV} {ck : CK} (fm : Fm mg B S ι H lo σ st) (d : Dt mg S ι H v m) (e : src m st = some (ms, ck)) :
    ck lo st ∧ ∃ a, v = .ref a ∧ ((∀ (B : Base) S2 ι2 H2 lo2 σ2 st2, Fm mg B S2 ι2 H2 lo2 σ2 st2 → Keep S ι H S2 ι2 H2 → ck lo2 st2 → ∃ vs, H2 a = some (.lst vs) ∧ AllD mg S2 ι2 H2 vs ms) ∨
      (∀ (B : Base) S2 ι2 H2 lo2 σ2 st2, Fm mg B S2 ι2 H2 lo2 σ2 st2 → Keep S ι H S2 ι2 H2 → ck lo2 st2 → ∃ vs, H2 a = some (.tup vs) ∧ AllD mg S2 ι2 H2 vs ms)) := by
  unfold src at e
  split at e
  · cases e
    cases d with
    | lst hs h hl hi =>
      refine ⟨trivial, _, rfl, .inl fun _ S2 ι2 H2 lo2 σ2 st2 f2 k2 _ => ⟨_, (k2.h _ hs).trans h, ?_⟩⟩
      exact AllD.mono k2 ⟨hl, hi⟩
  · cases e
    cases d with
    | tup hs h hl hi =>
      refine ⟨trivial, _, rfl, .inr fun _ S2 ι2 H2 lo2 σ2 st2 f2 k2 _ => ⟨_, (k2.h _ hs).trans h, ?_⟩⟩
      exact AllD.mono k2 ⟨hl, hi⟩
  · rename_i n
    split at e
    · rename_i e1
      cases e
      cases d with
      | ref h =>
        refine ⟨e1, _, rfl, .inl fun _ S2 ι2 H2 lo2 σ2 st2 f2 k2 c => ?_⟩
        obtain ⟨o, h1, h2⟩ := f2.rep.ent n _ _ (getp k2.i h) c
        obtain ⟨vs, rfl, h3⟩ := h2
        exact ⟨vs, h1, h3⟩
    · cases e
  · cases e
theorem walk_list {mg : Wd} {K : PySem.W.Frag} {S : Addr → Prop} {ι : List Addr} {H : Hp} {a : Addr} {ms : List MV} {ck : CK}
    (h : ∀ (B : Base) S2 ι2 H2 lo2 σ2 st2, Fm mg B S2 ι2 H2 lo2 σ2 st2 → Keep S ι H S2 ι2 H2 → ck lo2 st2 → ∃ vs, H2 a = some (.lst vs) ∧ AllD mg S2 ι2 H2 vs ms) : WalkM mg (Itl K a) ms ck S ι H := by
  intro B i S2 ι2 H2 lo2 σ2 st2 f2 k2 c
  obtain ⟨vs, e, d⟩ := h B S2 ι2 H2 lo2 σ2 st2 f2 k2 c
  refine ⟨fun m hm => ?_, fun hl => ⟨vs, .of e, by rw [d.1]; exact hl⟩⟩
  obtain ⟨v, hv, dv⟩ := d.get hm
  refine ⟨⟨vs, v, .of e, hv⟩, fun x H' y => ?_⟩
  obtain ⟨rfl, y⟩ := y
  have hx := y vs (.of e)
  rw [hv] at hx; cases hx
  exact ⟨S2, f2, .refl, dv⟩
theorem walk_tup {mg : Wd} {K : PySem.W.Frag} {S : Addr → Prop} {ι : List Addr} {H : Hp} {a : Addr} {ms : List MV} {ck : CK}
    (h : ∀ (B : Base) S2 ι2 H2 lo2 σ2 st2, Fm mg B S2 ι2 H2 lo2 σ2 st2 → Keep S ι H S2 ι2 H2 → ck lo2 st2 → ∃ vs, H2 a = some (.tup vs) ∧ AllD mg S2 ι2 H2 vs ms) : WalkM mg (Itt K a) ms ck S ι H := by
  intro B i S2 ι2 H2 lo2 σ2 st2 f2 k2 c
  obtain ⟨vs, e, d⟩ := h B S2 ι2 H2 lo2 σ2 st2 f2 k2 c
  refine ⟨fun m hm => ?_, fun hl => ⟨vs, .of e, by rw [d.1]; exact hl⟩⟩
  obtain ⟨v, hv, dv⟩ := d.get hm
  refine ⟨⟨vs, v, .of e, hv⟩, fun x H' y => ?_⟩
  obtain ⟨rfl, y⟩ := y
  have hx := y vs (.of e)
  rw [hv] at hx; cases hx
  exact ⟨S2, f2, .refl, dv⟩
theorem PI.orr {tg e : Expr} {t t' : TI} (h : PI X tg e t) (h' : PI X tg e t') : PI X tg e (fun σ H R => t σ H R ∨ t' σ H R) := ⟨fun pins s σ H R I q => q.elim (h.run pins s σ H R I) (h'.run pins s σ H R I)⟩
theorem si_seqL {tg e : Expr} {f : EF} (he : SE X B W e f) : PI X tg e (fun σ H R => ∃ S ι lo st, Fm X.wd B S ι H lo σ st ∧ Post X.wd B W S ι H (fun r => ∀ S' ι' H' v, Fm X.wd B S' ι' H' lo σ r.2.2 → Keep S ι H S' ι' H' → RV X.wd B S' ι' H' lo σ v r.1 r.2.1 →
    ∃ a, v = .ref a ∧ ((∃ vs, H' a = some (.lst vs) ∧ R (Itl X.K a) H') ∨ ∃ vs, H' a = some (.tup vs) ∧ R (Itt X.K a) H')) (f lo st)) := by
  refine ⟨fun pins s σ H R I ⟨S, ι, lo, st, fm, p⟩ => ?_⟩
  refine thn (he.run pins s σ H (fun v H' => ∃ a, v = .ref a ∧ ((∃ vs, H' a = some (.lst vs) ∧ R (Itl X.K a) H') ∨ ∃ vs, H' a = some (.tup vs) ∧ R (Itt X.K a) H')) I ⟨S, ι, lo, st, fm, p⟩) fun u s1 h1 => ?_
  obtain ⟨v, H1, I1, r1, a, rfl, q⟩ := h1
  cases r1
  rcases q with ⟨vs, e1, q⟩ | ⟨vs, e1, q⟩
  · obtain ⟨its, rv, pl, hz⟩ := I1.list (SqL.of e1)
    refine wpAny_pyIter_list pl.isList ?_
    refine ⟨s1.heap.objs.size, [s1.heap.objs.size], _, _, H1, rfl, I1.kept (t' := s1.toks) fun b o e => Heap.get?_push_of_some _ e, turn_list a _, ⟨_, Heap.get?_push_size _ rfl, rfl, rfl⟩, fun b hb => ?_, q⟩
    obtain rfl : b = s1.heap.objs.size := by simpa using hb
    exact I1.fpOk (Nat.le_refl _) (I1.hok.fresh (Nat.le_refl _))
  · obtain ⟨its, rv, pl, hz⟩ := I1.tuple (SqT.of e1)
    refine wpAny_pyIter_tuple (show s1.heap.IsTuple a its.toArray from pl) ?_
    refine ⟨s1.heap.objs.size, [s1.heap.objs.size], _, _, H1, rfl, I1.kept (t' := s1.toks) fun b o e => Heap.get?_push_of_some _ e, turn_tuple a _, ⟨_, Heap.get?_push_size _ rfl, rfl, rfl⟩, fun b hb => ?_, q⟩
    obtain rfl : b = s1.heap.objs.size := by simpa using hb
    exact I1.fpOk (Nat.le_refl _) (I1.hok.fresh (Nat.le_refl _))
theorem si_seq {tg e : Expr} {f : EF} (he : SE X B W e f) : SI X B W tg e (iSeq f) := by
  refine (si_seqL he).fw fun σ H R ⟨S, ι, lo, st, fm, p⟩ => ⟨S, ι, lo, st, fm, (Post.bind p).imp fun ⟨m, k, st1⟩ q S1 ι1 H1 v f1 k1 r1 => ?_⟩
  obtain ⟨⟨S2, f2, k2, d⟩, p2⟩ := frzd_ok f1 r1 q
  dsimp only at p2
  split at p2
  · rename_i ms ck e1
    obtain ⟨c, a, rfl, hh⟩ := src_list f2 d e1
    rcases hh with hh | hh
    · obtain ⟨vs, e2, _⟩ := hh _ _ _ _ _ _ _ f2 .refl c
      exact ⟨a, rfl, .inl ⟨vs, e2, p2 S2 ι1 H1 _ f2 (k1.trans k2) (walk_list hh) c⟩⟩
    · obtain ⟨vs, e2, _⟩ := hh _ _ _ _ _ _ _ f2 .refl c
      exact ⟨a, rfl, .inr ⟨vs, e2, p2 S2 ι1 H1 _ f2 (k1.trans k2) (walk_tup hh) c⟩⟩
  · exact p2.elim
def rgM (i j : Int) : List MV := (List.range (j - i).toNat).map fun k => .int (i + (k : Nat))
def Rg62 (i j : Int) : Prop := -(2 ^ 62) ≤ i ∧ i < 2 ^ 62 ∧ -(2 ^ 62) ≤ j ∧ j < 2 ^ 62
instance (i j : Int) : Decidable (Rg62 i j) := by unfold Rg62; infer_instance
def iRg1 (f : EF) : IFn := fun lo st => f lo st >>= fun (m, _, st1) => match m with
  | .int j => if Rg62 0 j then .ok (rgM 0 j, fun _ _ => True, st1) else .bad
  | _ => .bad
def iRg2 (f g : EF) : IFn := fun lo st => f lo st >>= fun (m, _, st1) => g lo st1 >>= fun (n, _, st2) => match m, n with
  | .int i, .int j => if Rg62 i j then .ok (rgM i j, fun _ _ => True, st2) else .bad
  | _, _ => .bad
theorem walk_rg {mg : Wd} {S : Addr → Prop} {ι : List Addr} {H : Hp} {i j : Int} : WalkM mg (Itr i (j - i).toNat) (rgM i j) (fun _ _ => True) S ι H := by
  intro B n S2 ι2 H2 lo2 σ2 st2 f2 k2 _
  refine ⟨fun m hm => ?_, fun hl => ?_⟩
  · unfold rgM at hm
    rw [List.getElem?_map] at hm
    obtain ⟨k, hk, rfl⟩ := Option.map_eq_some_iff.mp hm
    have hk' := List.getElem?_eq_some_iff.mp hk
    obtain ⟨h1, h2⟩ := hk'
    rw [List.getElem_range] at h2
    subst h2
    refine ⟨show n < (j - i).toNat by simpa using h1, fun x H' y => ?_⟩
    obtain ⟨rfl, rfl⟩ := y
    exact ⟨S2, f2, .refl, .int _⟩
  · show (j - i).toNat ≤ n
    unfold rgM at hl
    simpa using hl
theorem si_rg1 {tg a : Expr} {f : EF} {p : Pos} (hg : Gl X "range") (hm : X.mg "range" = none) (ha : SE X B W a f) (h1 : starEach [a] X.env = (false, eval a X.env) :: starEach [] X.env := by rfl) (hs : starEach [a] X.env = [(false, eval a X.env)] := by rfl) :
    SI X B W tg (.Call (.Name "range" p) [a] [] pos) (iRg1 f) := by
  refine (pi_range1 hg hm (pa_cons ha pa_nil h1) hs).fw fun σ H R ⟨S, ι, lo, st, fm, p⟩ => ?_
  refine tE.use fm (Post.bind p) fun m k st1 S1 ι1 H1 v f1 k1 r1 p1 => ?_
  dsimp only at p1
  split at p1
  · split at p1
    · rename_i j hj
      refine ⟨j, by rw [rv_int f1 r1], hj.2.2.1, hj.2.2.2, ?_⟩
      have w := walk_rg (mg := X.wd) (S := S1) (ι := ι1) (H := H1) (i := 0) (j := j)
      rw [Int.sub_zero] at w
      exact p1 S1 ι1 H1 _ f1 k1 w trivial
    · exact p1.elim
  · exact p1.elim
theorem si_rg2 {tg a b : Expr} {f g : EF} {p : Pos} (hg : Gl X "range") (hm : X.mg "range" = none) (ha : SE X B W a f) (hb : SE X B W b g) (h1 : starEach [a, b] X.env = (false, eval a X.env) :: starEach [b] X.env := by rfl) (h2 : starEach [b] X.env = (false, eval b X.env) :: starEach [] X.env := by rfl)
    (hs : starEach [a, b] X.env = [(false, eval a X.env), (false, eval b X.env)] := by rfl) (hs2 : starEach [b] X.env = [(false, eval b X.env)] := by rfl) :
    SI X B W tg (.Call (.Name "range" p) [a, b] [] pos) (iRg2 f g) := by
  refine (pi_range2 hg hm (pa_cons ha (pa_cons hb pa_nil h2) h1) hs hs2).fw fun σ H R ⟨S, ι, lo, st, fm, p⟩ => ?_
  refine tE.use fm (Post.bind p) fun m k st1 S1 ι1 H1 v f1 k1 r1 p1 => ?_
  obtain ⟨S1', f1', k1', h1⟩ := r1.hand f1
  refine tE.use f1' (Post.bind (p1.mono (k1.trans k1') fun _ z => z)) fun b kb st2 S2 ι2 H2 y f2 k2 r2 p2 => ?_
  obtain ⟨S2', f2', k2', h2⟩ := r2.hand f2
  have v1 := (h1.mono (k2.trans k2')).vr f2'
  have v2 := h2.vr f2'
  dsimp only at p2
  split at p2
  · split at p2
    · rename_i hj
      cases v1; cases v2
      exact ⟨_, _, rfl, ⟨hj.1, hj.2.1, hj.2.2.1, hj.2.2.2⟩, p2 S2' ι2 H2 _ f2' (k1.trans (k1'.trans (k2.trans k2'))) walk_rg trivial⟩
    · exact p2.elim
  · exact p2.elim
def enumM (ms : List MV) : List MV := ms.zipIdx.map fun z => .tup [.int (z.2 : Nat), z.1]
def iEn (f : EF) : IFn := fun lo st => f lo st >>= fun r => frzd r >>= fun (m, st1) => match m with
  | .lst ms => .ok (enumM ms, fun _ _ => True, st1)
  | .ref n => (match st1[n]? with
    | some (.lst ms) => .ok (enumM ms, fun _ st' => st'[n]? = some (.lst ms), st1)
    | _ => .bad)
  | _ => .bad
theorem enumM_get {ms : List MV} {i : Nat} {m : MV} (h : (enumM ms)[i]? = some m) : ∃ x, ms[i]? = some x ∧ m = .tup [.int (i : Nat), x] := by
  unfold enumM at h
  rw [List.getElem?_map] at h
  obtain ⟨z, hz, rfl⟩ := Option.map_eq_some_iff.mp h
  rw [List.getElem?_zipIdx] at hz
  obtain ⟨x, hx, rfl⟩ := Option.map_eq_some_iff.mp hz
  exact ⟨x, hx, by simp⟩
theorem walk_enum {mg : Wd} {K : PySem.W.Frag} {S : Addr → Prop} {ι : List Addr} {H : Hp} {a : Addr} {ms : List MV} {ck : CK}
    (h : ∀ (B : Base) S2 ι2 H2 lo2 σ2 st2, Fm mg B S2 ι2 H2 lo2 σ2 st2 → Keep S ι H S2 ι2 H2 → ck lo2 st2 → ∃ vs, H2 a = some (.lst vs) ∧ AllD mg S2 ι2 H2 vs ms) : WalkM mg (Ite K a) (enumM ms) ck S ι H := by
  intro B i S2 ι2 H2 lo2 σ2 st2 f2 k2 c
  obtain ⟨vs, e, d⟩ := h B S2 ι2 H2 lo2 σ2 st2 f2 k2 c
  refine ⟨fun m hm => ?_, fun hl => ⟨vs, .of e, by rw [d.1]; unfold enumM at hl; simpa using hl⟩⟩
  obtain ⟨x0, hx0, rfl⟩ := enumM_get hm
  obtain ⟨v, hv, dv⟩ := d.get hx0
  refine ⟨⟨vs, v, .of e, hv⟩, fun x H' y => ?_⟩
  obtain ⟨T, x1, rfl, hT, rfl, y⟩ := y
  have hx := y vs (.of e)
  rw [hv] at hx
  obtain rfl : v = x1 := Option.some.inj hx
  have f3 := f2.new (o := .tup [.int (i : Nat), v]) hT
  obtain ⟨n1, n2, n3, n4⟩ := f2.free hT
  have f4 := f3.freeze (a := T) upd_same n2 n3 n4
  have k4 : Keep S2 ι2 H2 (fz1 S2 T) ι2 (upd H2 T (.tup [.int (i : Nat), v])) := ((Ext.new hT).keep f2.rep).trans .fz1
  refine ⟨_, f4, k4, .tup (.inr rfl) upd_same rfl fun j w n h1 h2 => ?_⟩
  match j, h1, h2 with
  | 0, h1, h2 => simp at h1 h2; subst h1; subst h2; exact .int _
  | 1, h1, h2 => simp at h1 h2; subst h1; subst h2; exact dv.mono k4
theorem si_enum {elts : List Expr} {kk : Nat} {tpos : Pos} {e : Expr} {f : EF} {p : Pos} (hg : Gl X "enumerate") (hm : X.mg "enumerate" = none) (he : SE X B W e f) (h1 : starEach [e] X.env = (false, eval e X.env) :: starEach [] X.env := by rfl) (hs : starEach [e] X.env = [(false, eval e X.env)] := by rfl) :
    SI X B W (.Tuple elts kk tpos) (.Call (.Name "enumerate" p) [e] [] pos) (iEn f) := by
  refine (pi_enum hg hm (pa_cons he pa_nil h1) hs).fw fun σ H R ⟨S, ι, lo, st, fm, p⟩ => ?_
  refine tE.use fm (Post.bind p) fun m k st1 S1 ι1 H1 v f1 k1 r1 p1 => ?_
  obtain ⟨⟨S2, f2, k2, d⟩, p2⟩ := frzd_ok f1 r1 p1
  have go : ∀ ms ck, src m st1 = some (ms, ck) → (∀ ns, m ≠ .tup ns) → Post X.wd B W S ι H (fun r => ∀ S' ι' H' J, Fm X.wd B S' ι' H' lo σ r.2.2 → Keep S ι H S' ι' H' → WalkM X.wd J r.1 r.2.1 S' ι' H' → r.2.1 lo r.2.2 → R J H') (.ok (enumM ms, ck, st1)) →
      ∃ a xs, [v] = [V.ref a] ∧ SqL X.K H1 a xs ∧ R (Ite X.K a) H1 := fun ms ck e1 nt q => by
    obtain ⟨c, a, rfl, hh⟩ := src_list f2 d e1
    rcases hh with hh | hh
    · obtain ⟨vs, e2, _⟩ := hh _ _ _ _ _ _ _ f2 .refl c
      exact ⟨a, vs, rfl, .of e2, q S2 ι1 H1 _ f2 (k1.trans k2) (walk_enum hh) c⟩
    · exfalso
      obtain ⟨vs, e2, _⟩ := hh _ _ _ _ _ _ _ f2 .refl c
      unfold src at e1
      split at e1
      · cases d with
        | lst hs h hl hi => rw [e2] at h; cases h
      · exact nt _ rfl
      · rename_i n
        split at e1
        · rename_i q1
          cases d with
          | ref h =>
            obtain ⟨o, h1, vs', rfl, _⟩ := f2.rep.ent n _ _ h q1
            rw [e2] at h1; cases h1
        · cases e1
      · cases e1
  dsimp only at p2
  split at p2
  · exact go _ _ rfl (fun ns z => by cases z) p2
  · rename_i n
    split at p2
    · rename_i ms q1
      refine go ms _ ?_ (fun ns z => by cases z) p2
      unfold src
      simp only [q1]
    · exact p2.elim
  · exact p2.elim

open Classical in
noncomputable def forL (ck : CK) (gf : GF) (body : SF) : List MV → SF
  | [], lo, st => if ck lo st then .ok (.nx, lo, st) else .bad
  | x :: xs, lo, st => if ck lo st then gf x lo st >>= fun (lo1, st1) => body lo1 st1 >>= fun (fl, lo2, st2) => (match fl with
      | .nx => forL ck gf body xs lo2 st2
      | .ct => forL ck gf body xs lo2 st2
      | .bk => .ok (.nx, lo2, st2)
      | .rt m k => .ok (.rt m k, lo2, st2)) else .bad
noncomputable def sFor (fi : IFn) (gf : GF) (body : SF) : SF := fun lo st => fi lo st >>= fun (items, ck, st1) => forL ck gf body items lo st1
theorem ss_for {tg iter : Expr} {body : List Stmt} {fi : IFn} {gf : GF} {g : SF} (hp : PassesOwn (model X.prog X.w) X.A X.env X.xe) (hc : X.calm = true) (hi : SI X B W tg iter fi) (hg : SG X B W vs tg gf) (hb : SSs X B W body g)
    (hs : ∀ x, foldedSetIterable iter X.env x = pure x := by intro _; rfl) : SS X B W (.For tg iter body [] pos) (sFor fi gf g) := by
  refine (ps_for hp hc hi hg hb hs).fw fun D σ H ⟨S, ι, lo, st, fm, p⟩ => ?_
  refine ⟨S, ι, lo, st, fm, (Post.bind p).imp fun ⟨items, ck, st1⟩ q S0 ι0 H0 J f0 k0 wk c0 => ?_⟩
  refine ⟨fun i m σ H => m = items.length - i ∧ i ≤ items.length ∧ ∃ S ι lo st, Fm X.wd B S ι H lo σ st ∧ Keep S0 ι0 H0 S ι H ∧ Post X.wd B W S ι H (PS1 X.wd B S ι H D) (forL ck gf g (items.drop i) lo st),
    ⟨items.length, by simp, Nat.zero_le _, S0, ι0, lo, st1, f0, .refl, by rw [List.drop_zero]; exact q.mono k0 fun r z => z.mono k0⟩, ?_⟩
  rintro i m σ H ⟨rfl, hi, S1, ι1, lo1, st1, f1, k1, p1⟩
  by_cases hlt : i < items.length
  · rw [List.drop_eq_getElem_cons hlt] at p1
    unfold forL at p1
    split at p1
    · rename_i hck
      obtain ⟨go, yl⟩ := (wk B i S1 ι1 H lo1 σ st1 f1 k1 hck).1 items[i] (by simp [hlt])
      refine .inr ⟨go, _, fun σ' H' n => n, fun x H' y => ?_⟩
      obtain ⟨S2, f2, k2, d2⟩ := yl x H' y
      refine ⟨S2, ι1, lo1, st1, items[i], f2, d2, ((Post.bind p1).mono k2 fun ⟨lo3, st3⟩ q3 S3 ι3 σ3 H3 f3 k3 _ _ => ?_)⟩
      refine ⟨S3, ι3, lo3, st3, f3, (Post.bind q3).mono (k2.trans k3) fun ⟨fl, lo4, st4⟩ q4 => ?_⟩
      have k13 := k2.trans k3
      cases fl with
      | nx => exact fun S5 ι5 σ5 H5 f5 k5 => ⟨_, by omega, rfl, hlt, S5, ι5, lo4, st4, f5, k1.trans (k13.trans k5), q4.mono (k13.trans k5) fun r z => z.mono (k13.trans k5)⟩
      | ct => exact fun S5 ι5 σ5 H5 f5 k5 => ⟨_, by omega, rfl, hlt, S5, ι5, lo4, st4, f5, k1.trans (k13.trans k5), q4.mono (k13.trans k5) fun r z => z.mono (k13.trans k5)⟩
      | bk => exact fun S5 ι5 σ5 H5 f5 k5 => q4 S5 ι5 σ5 H5 f5 (k13.trans k5)
      | rt m k => exact fun S5 ι5 σ5 H5 v f5 k5 => q4 S5 ι5 σ5 H5 v f5 (k13.trans k5)
    · exact p1.elim
  · have e : i = items.length := by omega
    subst e
    rw [List.drop_length] at p1
    unfold forL at p1
    split at p1
    · rename_i hck
      exact .inl ⟨(wk B _ S1 ι1 H lo1 σ st1 f1 k1 hck).2 (Nat.le_refl _), p1 S1 ι1 σ H f1 .refl⟩
    · exact p1.elim

def whN (c : TF) (g : SF) : Nat → SF
  | 0, _, _ => .bad
  | n + 1, lo, st => c lo st >>= fun (b, st1) => if b = true then g lo st1 >>= fun (fl, lo2, st2) => (match fl with
      | .nx => whN c g n lo2 st2
      | .ct => whN c g n lo2 st2
      | .bk => .ok (.nx, lo2, st2)
      | .rt m k => .ok (.rt m k, lo2, st2)) else .ok (.nx, lo, st1)
open Classical in
noncomputable def sWhile (c : TF) (g : SF) : SF := fun lo st => if h : ∃ n, whN c g n lo st ≠ .bad then whN c g h.choose lo st else .bad
theorem ss_while {c : Expr} {body : List Stmt} {tc : TF} {g : SF} (hp : PassesOwn (model X.prog X.w) X.A X.env X.xe) (hc : STe X B W c tc) (hb : SSs X B W body g) : SS X B W (.While c body [] pos) (sWhile tc g) := by
  refine (ps_while hp hc hb).fw fun D σ H ⟨S, ι, lo, st, fm, p⟩ => ?_
  obtain ⟨n, p⟩ : ∃ n, Post X.wd B W S ι H (PS1 X.wd B S ι H D) (whN tc g n lo st) := by
    unfold sWhile at p
    split at p
    · exact ⟨_, p⟩
    · exact p.elim
  refine ⟨fun m σ H => ∃ S1 ι1 lo1 st1, Fm X.wd B S1 ι1 H lo1 σ st1 ∧ Post X.wd B W S1 ι1 H (PS1 X.wd B S1 ι1 H D) (whN tc g m lo1 st1), ⟨n, S, ι, lo, st, fm, p⟩, ?_⟩
  rintro m σ H ⟨S1, ι1, lo1, st1, f1, p1⟩
  cases m with
  | zero => exact p1.elim
  | succ m =>
    refine tT.use f1 (Post.bind p1) fun b st2 S2 ι2 H2 f2 k2 p2 => ?_
    dsimp only at p2
    cases b with
    | true =>
      rw [if_pos rfl] at p2 ⊢
      refine ⟨_, fun σ' H' n => ⟨m, Nat.lt_succ_self m, n⟩, S2, ι2, lo1, st2, f2, (Post.bind p2).mono k2 fun ⟨fl, lo3, st3⟩ q => ?_⟩
      cases fl with
      | nx => exact fun S5 ι5 σ5 H5 f5 k5 => ⟨S5, ι5, lo3, st3, f5, q.mono (k2.trans k5) fun r z => z.mono (k2.trans k5)⟩
      | ct => exact fun S5 ι5 σ5 H5 f5 k5 => ⟨S5, ι5, lo3, st3, f5, q.mono (k2.trans k5) fun r z => z.mono (k2.trans k5)⟩
      | bk => exact fun S5 ι5 σ5 H5 f5 k5 => q S5 ι5 σ5 H5 f5 (k2.trans k5)
      | rt m k => exact fun S5 ι5 σ5 H5 v f5 k5 => q S5 ι5 σ5 H5 v f5 (k2.trans k5)
    | false =>
      rw [if_neg Bool.false_ne_true] at p2 ⊢
      exact p2 S2 ι2 σ H2 f2 k2
end
end FW

namespace FW
open PySem L2 PySem.Spec PyProof.Rows

def Base.put (B : Base) (D : Addr) (o : HO) : Base := { B with G := fun a => if a = D then some o else B.G a }
section
variable {mg : Wd} {B : Base} {W : WX} {S S' S2 : Addr → Prop} {ι ι' ι2 : List Addr} {H H' H2 : Hp} {lo lo' : Lo} {σ σ' : L2.St} {st st' : Sto} {v : V} {m : MV} {D : Addr} {o : HO}
theorem put_new {a : Addr} (h : (B.put D o).New a) : B.New a ∧ a ≠ D := by
  obtain ⟨h1, h2⟩ := h
  have h2' : (if a = D then some o else B.G a) = none := h2
  by_cases e : a = D
  · rw [if_pos e] at h2'; cases h2'
  · rw [if_neg e] at h2'; exact ⟨⟨h1, h2'⟩, e⟩
theorem Fm.guard (f : Fm mg B S ι H lo σ st) (e : H D = some o) (h1 : ¬ S D) (h2 : D ∉ ι) (h3 : B.New D) (h4 : ∀ (i : Nat) m', lo[i]? = some (some (m', true)) → σ[i]? ≠ some (some (.ref D))) : Fm mg (B.put D o) S ι H lo σ st := by
  refine ⟨f.ext, f.rep, ⟨f.loc.len, f.loc.val, fun i m h => ?_, f.loc.dis, f.loc.pin⟩, fun a u h => ?_⟩
  · obtain ⟨a, q, n1, n2, n3, d⟩ := f.loc.own i m h
    refine ⟨a, q, n1, n2, ⟨n3.1, ?_⟩, d⟩
    show (if a = D then some o else B.G a) = none
    rw [if_neg (fun z => h4 i m h (by rw [← z]; exact q))]
    exact n3.2
  · have h' : (if a = D then some o else B.G a) = some u := h
    by_cases z : a = D
    · rw [if_pos z] at h'; cases h'; subst z; exact ⟨e, h2, h1⟩
    · rw [if_neg z] at h'; exact f.g a u h'
theorem Fm.unguard (f : Fm mg (B.put D o) S ι H lo σ st) (h3 : B.New D) : Fm mg B S ι H lo σ st ∧ H D = some o ∧ ¬ S D ∧ D ∉ ι ∧ ∀ (i : Nat) m', lo[i]? = some (some (m', true)) → σ[i]? ≠ some (some (.ref D)) := by
  obtain ⟨q1, q2, q3⟩ := f.g D o (if_pos rfl)
  refine ⟨⟨f.ext, f.rep, ⟨f.loc.len, f.loc.val, fun i m h => ?_, f.loc.dis, f.loc.pin⟩, fun a u h => ?_⟩, q1, q3, q2, fun i m' h hs => ?_⟩
  · obtain ⟨a, q, n1, n2, n3, d⟩ := f.loc.own i m h
    exact ⟨a, q, n1, n2, (put_new n3).1, d⟩
  · refine f.g a u ?_
    show (if a = D then some o else B.G a) = some u
    rw [if_neg (fun z => by subst z; rw [h3.2] at h; cases h)]
    exact h
  · obtain ⟨a, q, n1, n2, n3, d⟩ := f.loc.own i m' h
    rw [q] at hs
    have e : a = D := by simpa using hs
    exact (put_new n3).2 e
/-- what no one speaks of is changed -/
theorem Fm.updFree (f : Fm mg B S ι H lo σ st) (h1 : ¬ S D) (h2 : D ∉ ι) (h3 : B.New D) (h4 : ∀ (i : Nat) m', lo[i]? = some (some (m', true)) → σ[i]? ≠ some (some (.ref D))) : Fm mg B S ι (upd H D o) lo σ st := by
  have k : Keep S ι H S ι (upd H D o) := Keep.upd h1
  refine ⟨⟨f.ext.s, fun b u q n => ?_, fun b hb => f.ext.b b hb, f.ext.i, f.ext.n⟩, ⟨f.rep.len, f.rep.nd, f.rep.sep, fun b hb => ?_, fun n b q q1 q2 => ?_⟩, ⟨f.loc.len, fun i m h => ?_, fun i m h => ?_, f.loc.dis, f.loc.pin⟩, fun a u h => ?_⟩
  · rw [upd_ne (fun z => by subst z; rw [h3.1] at q; cases q)]; exact f.ext.k b u q n
  · rw [upd_ne (fun (z : b = D) => h1 (by rw [← z]; exact hb))]; exact f.rep.som b hb
  · exact (f.rep.ent n b q q1 q2).mono k (upd_ne (fun (z : b = D) => h2 (by rw [← z]; exact List.mem_of_getElem? q1)))
  · obtain ⟨w, q, d⟩ := f.loc.val i m h
    exact ⟨w, q, d.mono k⟩
  · obtain ⟨a, q, n1, n2, n3, d⟩ := f.loc.own i m h
    exact ⟨a, q, n1, n2, n3, d.mono k (upd_ne fun z => h4 i m h (by rw [← z]; exact q))⟩
  · obtain ⟨q1, q2, q3⟩ := f.g a u h
    exact ⟨(upd_ne fun (z : a = D) => by subst z; rw [h3.2] at h; cases h).trans q1, q2, q3⟩
/-- names put out of sight -/
def wipeM (lo : Lo) : List Nat → Lo
  | [] => lo
  | v :: vs => (wipeM lo vs).set v none
def clrOk (lo : Lo) (vs : List Nat) : Bool := vs.all fun v => match lo[v]? with
  | some (some (_, true)) => false
  | _ => true
theorem wipeM_len (lo : Lo) : ∀ vs : List Nat, (wipeM lo vs).length = lo.length
  | [] => rfl
  | v :: vs => by unfold wipeM; rw [List.length_set, wipeM_len lo vs]
theorem wipeM_out (lo : Lo) : ∀ {vs : List Nat} {j : Nat}, j ∉ vs → (wipeM lo vs)[j]? = lo[j]?
  | [], _, _ => rfl
  | v :: vs, j, h => by
    unfold wipeM
    rw [List.getElem?_set_ne (fun e => h (by rw [e]; exact List.mem_cons_self)), wipeM_out lo (fun e => h (List.mem_cons_of_mem _ e))]
theorem wipeM_in (lo : Lo) : ∀ {vs : List Nat} {j : Nat} {z : MV × Bool}, j ∈ vs → (wipeM lo vs)[j]? ≠ some (some z)
  | v :: vs, j, z, h => by
    unfold wipeM
    by_cases e : v = j
    · subst e
      by_cases hl : v < (wipeM lo vs).length
      · rw [List.getElem?_set_self hl]; intro q; cases q
      · rw [List.getElem?_eq_none (by rw [List.length_set]; omega)]; intro q; cases q
    · rw [List.getElem?_set_ne e]
      exact wipeM_in lo ((List.mem_cons.mp h).resolve_left fun q => e q.symm)
theorem wipe_out (σ : L2.St) : ∀ {vs : List Nat} {j : Nat}, j ∉ vs → (L2.wipe σ vs)[j]? = σ[j]?
  | [], _, _ => rfl
  | v :: vs, j, h => by
    show ((L2.wipe σ vs).set v none)[j]? = σ[j]?
    rw [List.getElem?_set_ne (fun e => h (by rw [e]; exact List.mem_cons_self)), wipe_out σ (fun e => h (List.mem_cons_of_mem _ e))]
theorem wipe_wipe (σ : L2.St) (vs : List Nat) : L2.wipe (L2.wipe σ vs) vs = L2.wipe σ vs := by
  have : SameBut vs σ (L2.wipe σ vs) := ⟨wipe_length σ vs, fun j h => wipe_out σ h⟩
  exact this.wipe
theorem Fm.wipe {vs : List Nat} (f : Fm mg B S ι H lo σ st) : Fm mg B S ι H (wipeM lo vs) (L2.wipe σ vs) st := by
  have ne : ∀ {i : Nat} {z : MV × Bool}, (wipeM lo vs)[i]? = some (some z) → i ∉ vs := fun {i z} h hm => wipeM_in lo hm h
  refine ⟨f.ext, f.rep, ⟨by rw [wipeM_len, wipe_length]; exact f.loc.len, fun i m h => ?_, fun i m h => ?_, fun i j m m' a hij h1 h2 h3 => ?_, fun i c fs h => ?_⟩, f.g⟩
  · have n := ne h
    rw [wipeM_out lo n] at h
    rw [wipe_out σ n]
    exact f.loc.val i m h
  · have n := ne h
    rw [wipeM_out lo n] at h
    rw [wipe_out σ n]
    exact f.loc.own i m h
  · have n1 := ne h1
    have n2 := ne h2
    rw [wipeM_out lo n1] at h1
    rw [wipeM_out lo n2] at h2
    rw [wipe_out σ n1] at h3
    rw [wipe_out σ n2]
    exact f.loc.dis i j m m' a hij h1 h2 h3
  · have n := ne h
    rw [wipeM_out lo n] at h
    rw [wipe_out σ n]
    exact f.loc.pin i c fs h
theorem Fm.unwipe {vs : List Nat} (f0 : Fm mg B S ι H lo σ st) (f : Fm mg B S' ι' H' (wipeM lo vs) (L2.wipe σ vs) st') (k : Keep S ι H S' ι' H') (c : clrOk lo vs = true) : Fm mg B S' ι' H' lo σ st' := by
  have ne : ∀ {i : Nat} {m : MV}, lo[i]? = some (some (m, true)) → i ∉ vs := fun {i m} h hm => by
    have q := List.all_eq_true.mp c i hm
    rw [h] at q
    cases q
  refine ⟨f.ext, f.rep, ⟨f0.loc.len, fun i m h => ?_, fun i m h => ?_, f0.loc.dis, f0.loc.pin⟩, f.g⟩
  · obtain ⟨v, e, d⟩ := f0.loc.val i m h
    exact ⟨v, e, d.mono k⟩
  · have n := ne h
    have q := f.loc.own i m (by rw [wipeM_out lo n]; exact h)
    rw [wipe_out σ n] at q
    exact q
end

def noExc {α : Type} : Res α → Res α
  | .ok a => .ok a
  | _ => .bad
theorem Post.noExc {mg : Wd} {B B' : Base} {W W' : WX} {S S' : Addr → Prop} {ι ι' : List Addr} {H H' : Hp} {α : Type} {P : α → Prop} {r : Res α} (p : Post mg B W S ι H P (noExc r)) : Post mg B' W' S' ι' H' P r := by
  cases r with
  | ok a => exact p
  | exc c fs lo st => exact p.elim
  | bad => exact p.elim
open Classical in
noncomputable def lcL (ck : CK) (gf : GF) (tt : TF) (fe : EF) (lo0 : Lo) : List MV → List MV → Sto → Res (List MV × Sto)
  | [], acc, st => if ck lo0 st then .ok (acc, st) else .bad
  | x :: xs, acc, st => if ck lo0 st then noExc (gf x lo0 st) >>= fun (lo1, st1) => noExc (tt lo1 st1) >>= fun (b, st2) =>
      if b = true then noExc (fe lo1 st2) >>= fun r => frzd r >>= fun (y, st3) => (if acc.length < sizeLine then lcL ck gf tt fe lo0 xs (acc ++ [y]) st3 else .bad)
      else lcL ck gf tt fe lo0 xs acc st2 else .bad
/-- [fe for gf in fi if tt]; the comprehension's own names in the slots vs -/
noncomputable def mLc (vs : List Nat) (fi : IFn) (gf : GF) (tt : TF) (fe : EF) : EF := fun lo st => if clrOk lo vs = true then fi lo st >>= fun (items, ck, st1) => lcL ck gf tt fe (wipeM lo vs) items [] st1 >>= fun (acc, st2) => .ok (.lst acc, .fr, st2) else .bad
def tYesM : TF := fun _ st => .ok (true, st)
section
variable {X : Cx} {B : Base} {W : WX} {pos : Pos}
abbrev W0 : WX := fun _ _ _ _ => False
abbrev SPTs (X : Cx) (B : Base) (W : WX) (ifs : List Expr) (f : TF) : Prop := PTs X ifs (tT X.wd B W f)
theorem _root_.L2.PTs.fw {X : Cx} {e : List Expr} {t t' : TT} (h : PTs X e t) (i : ∀ σ H Q, t' σ H Q → t σ H Q) : PTs X e t' := ⟨fun pins s σ H Q I q => h.run pins s σ H Q I (i σ H Q q)⟩
theorem spts_nil : SPTs X B W [] tYesM := pts_nil.fw fun σ H Q ⟨S, ι, lo, st, f, p⟩ => p S ι H f .refl
theorem spts_one {c : Expr} {f : TF} (h : STe X B W c f) : SPTs X B W [c] f := pts_one h
/-- the element's parts hold over every base -/
def Any (P : Base → Prop) : Prop := ∀ B, P B
theorem tLc_of {vs : List Nat} {fi : IFn} {gf : GF} {tt : TF} {fe : EF} {mg : Wd} {TGt : TG} {TTt : TT} {TEt : TE} {σ : L2.St} {H : Hp} {Q : VK}
    (hG : ∀ B v σ H Q, tG mg B W0 vs gf v σ H Q → TGt v σ H Q) (hT : ∀ B σ H Q, tT mg B W0 tt σ H Q → TTt σ H Q) (hE : ∀ B σ H Q, tE mg B W0 fe σ H Q → TEt σ H Q)
    (h : tE mg B W (mLc vs fi gf tt fe) σ H Q) : tLc (tI mg B W fi) TGt TTt TEt vs σ H Q := by
  obtain ⟨S, ι, lo, st, fm, p⟩ := h
  unfold mLc at p
  split at p
  case isFalse => exact p.elim
  rename_i hclr
  refine ⟨S, ι, lo, st, fm, (Post.bind p).imp fun ⟨items, ck, st1⟩ q S0 ι0 H0 J f0 k0 wk c0 => ?_⟩
  intro D hD
  obtain ⟨d1, d2, d3, d4⟩ := f0.free hD
  have q := Post.bind q
  -- W: the list so far
  refine ⟨fun i n H1 => n = items.length - i ∧ i ≤ items.length ∧ ∃ S1 ι1 st1 acc accM, Fm mg B S1 ι1 H1 (wipeM lo vs) (L2.wipe σ vs) st1 ∧ Keep S0 ι0 H0 S1 ι1 H1 ∧ ¬ S1 D ∧ D ∉ ι1 ∧ H1 D = some (.lst acc) ∧ AllD mg S1 ι1 H1 acc accM ∧
      Post mg B W S ι H (fun a => Post mg B W S ι H (fun r => ∀ S' ι' H' v, Fm mg B S' ι' H' lo σ r.2.2 → Keep S ι H S' ι' H' → RV mg B S' ι' H' lo σ v r.1 r.2.1 → Q v H') (.ok (.lst a.1, .fr, a.2))) (lcL ck gf tt fe (wipeM lo vs) (items.drop i) accM st1),
    ⟨items.length, by simp, Nat.zero_le _, S0, ι0, st1, [], [], (f0.new (o := .lst []) hD).wipe, (Ext.new hD).keep f0.rep, d1, d2, upd_same, AllD.nil, by rw [List.drop_zero]; exact q⟩, ?_⟩
  rintro i n H1 ⟨rfl, hi, S1, ι1, s1, acc, accM, f1, k1, n1, n2, e1, da, p1⟩
  have own1 : ∀ (j : Nat) m', (wipeM lo vs)[j]? = some (some (m', true)) → (L2.wipe σ vs)[j]? ≠ some (some (.ref D)) := fun j m' h z => by
    have nj : j ∉ vs := fun hm => wipeM_in lo hm h
    rw [wipeM_out lo nj] at h
    rw [wipe_out σ nj] at z
    exact d4 j m' h z
  by_cases hlt : i < items.length
  · rw [List.drop_eq_getElem_cons hlt] at p1
    unfold lcL at p1
    split at p1
    case isFalse => exact p1.elim
    rename_i hck
    have f1g := f1.guard e1 n1 n2 d3 own1
    obtain ⟨go, yl⟩ := (wk (B.put D (.lst acc)) i S1 ι1 H1 _ _ s1 f1g k1 hck).1 items[i] (by simp [hlt])
    refine .inr ⟨go, _, fun H' z => z, fun x H' y => ?_⟩
    obtain ⟨S2, f2, k2, dx⟩ := yl x H' y
    refine hG (B.put D (.lst acc)) _ _ _ _ ⟨S2, ι1, _, s1, items[i], f2, dx, (Post.noExc (Post.bind p1)).imp fun ⟨lo3, s3⟩ p3 S3 ι3 σ3 H3 f3 k3 sb lb => ?_⟩
    refine ⟨sb.wipe.trans (wipe_wipe σ vs), ?_⟩
    refine hT (B.put D (.lst acc)) _ _ _ ⟨S3, ι3, lo3, s3, f3, (Post.noExc (Post.bind p3)).imp fun ⟨b, s4⟩ p4 S4 ι4 H4 f4 k4 => ?_⟩
    have k14 := k1.trans (k2.trans (k3.trans k4))
    -- behind the turn the frame's names are as they were ahead of it
    have back : ∀ {S5 : Addr → Prop} {ι5 : List Addr} {H5 : Hp} {s5 : Sto}, Fm mg (B.put D (.lst acc)) S5 ι5 H5 lo3 σ3 s5 → Keep S0 ι0 H0 S5 ι5 H5 → Fm mg B S5 ι5 H5 (wipeM lo vs) (L2.wipe σ vs) s5 ∧ H5 D = some (.lst acc) ∧ ¬ S5 D ∧ D ∉ ι5 := by
      intro S5 ι5 H5 s5 f5 k5
      obtain ⟨f6, e6, n6, i6, _⟩ := f5.unguard d3
      refine ⟨⟨f6.ext, f6.rep, ⟨f1.loc.len, fun j m h => ?_, fun j m h => ?_, f1.loc.dis, f1.loc.pin⟩, f6.g⟩, e6, n6, i6⟩
      · obtain ⟨w, ew, dw⟩ := (f0.wipe (vs := vs)).loc.val j m h
        exact ⟨w, ew, dw.mono k5⟩
      · have nj : j ∉ vs := fun hm => wipeM_in lo hm h
        have q := f6.loc.own j m (by rw [lb j nj]; exact h)
        rw [sb.2 j nj] at q
        exact q
    cases b with
    | true =>
      refine iteT ?_
      dsimp only at p4
      rw [if_pos rfl] at p4
      refine hE (B.put D (.lst acc)) _ _ _ ⟨S4, ι4, lo3, s4, f4, (Post.noExc (Post.bind p4)).imp fun ⟨m, kd, s5⟩ p5 S5 ι5 H5 v f5 k5 r5 => ?_⟩
      obtain ⟨⟨S6, f6, k6, d6⟩, p6⟩ := frzd_ok f5 r5 p5
      dsimp only at p6
      split at p6
      case isFalse => exact p6.elim
      rename_i hsz
      have k06 := k14.trans (k5.trans k6)
      obtain ⟨g1, g2, g3, g4⟩ := back f6 k06
      have hk := Keep.upd (ι := ι5) (o := .lst (acc ++ [v])) g3 (H := H5)
      refine ⟨acc, g2, by rw [da.1]; exact hsz, _, by omega, rfl, hlt, S6, ι5, s5, acc ++ [v], accM ++ [m], g1.updFree g3 g4 d3 own1, k06.trans hk, g3, g4, upd_same, ?_, p6⟩
      exact (((da.mono (k2.trans (k3.trans k4))).mono (k5.trans k6)).append (AllD.cons d6 .nil)).mono hk
    | false =>
      refine iteF ?_
      dsimp only at p4
      rw [if_neg Bool.false_ne_true] at p4
      obtain ⟨g1, g2, g3, g4⟩ := back f4 k14
      exact ⟨_, by omega, rfl, hlt, S4, ι4, s4, acc, accM, g1, k14, g3, g4, g2, da.mono (k2.trans (k3.trans k4)), p4⟩
  · have e : i = items.length := by omega
    subst e
    rw [List.drop_length] at p1
    unfold lcL at p1
    split at p1
    case isFalse => exact p1.elim
    rename_i hck
    refine .inl ⟨(wk B _ S1 ι1 H1 _ _ s1 f1 k1 hck).2 (Nat.le_refl _), ?_⟩
    have fr := Fm.unwipe (st := st1) f0 f1 k1 hclr
    exact p1 S1 ι1 H1 (.ref D) fr (k0.trans k1) ⟨D, rfl, n1, n2, d3, ⟨_, e1, acc, rfl, da⟩, d4⟩
theorem PG.ex {X : Cx} {e : Expr} {t : Base → TG} (h : ∀ B, PG X e (t B)) : PG X e (fun v σ H Q => ∃ B, t B v σ H Q) := ⟨fun pins s σ H v u Q I r ⟨B, q⟩ => (h B).run pins s σ H v u Q I r q⟩
theorem PTs.ex {X : Cx} {e : List Expr} {t : Base → TT} (h : ∀ B, PTs X e (t B)) : PTs X e (fun σ H Q => ∃ B, t B σ H Q) := ⟨fun pins s σ H Q I ⟨B, q⟩ => (h B).run pins s σ H Q I q⟩
theorem PE.ex {X : Cx} {e : Expr} {t : Base → TE} (h : ∀ B, PE X e (t B)) : PE X e (fun σ H Q => ∃ B, t B σ H Q) := ⟨fun pins s σ H Q I ⟨B, q⟩ => (h B).run pins s σ H Q I q⟩
section
variable {elt tg iter : Expr} {ifs : List Expr} {scope : Scope} {own : List (Str × Nat)} {fi : IFn} {gf : GF} {tt : TF} {fe : EF}
theorem se_lc (hc : X.calm = true) (hN : X.N.Nodup) (hi : SI X B W tg iter fi) (ok : BlkOk X.N X.env.scope scope own)
    (hg : ∀ (s : Shared) (H : Hp) (C : Addr) (cl : List (Str × Addr)) (fp : List Addr) (B' : Base), SG (X.blk s H scope (compEnvC scope cl C X.env) fp) B' W0 (own.map (·.2)) tg gf)
    (ht : ∀ (s : Shared) (H : Hp) (C : Addr) (cl : List (Str × Addr)) (fp : List Addr) (B' : Base), SPTs (X.blk s H scope (compEnvC scope cl C X.env) fp) B' W0 ifs tt)
    (he : ∀ (s : Shared) (H : Hp) (C : Addr) (cl : List (Str × Addr)) (fp : List Addr) (B' : Base), SE (X.blk s H scope (compEnvC scope cl C X.env) fp) B' W0 elt fe)
    (hs : ∀ x, foldedSetIterable iter X.env x = pure x := by intro _; rfl) : SE X B W (.ListComp elt [⟨tg, iter, ifs, 0⟩] scope pos) (mLc (own.map (·.2)) fi gf tt fe) := by
  refine (pe_lc hc hN hi ok (fun s H C cl fp => PG.ex (t := fun B' => tG X.wd B' W0 (own.map (·.2)) gf) fun B' => hg s H C cl fp B') (fun s H C cl fp => PTs.ex (t := fun B' => tT X.wd B' W0 tt) fun B' => ht s H C cl fp B') (fun s H C cl fp => PE.ex (t := fun B' => tE X.wd B' W0 fe) fun B' => he s H C cl fp B') hs).fw fun σ H Q h => ?_
  exact tLc_of (fun B' v σ H Q z => ⟨B', z⟩) (fun B' σ H Q z => ⟨B', z⟩) (fun B' σ H Q z => ⟨B', z⟩) h
/-- name = [..] on one line -/
theorem ss_setLc (i : Nat) {y : Str} {py spos : Pos} (hc : X.calm = true) (hN : X.N.Nodup) (hsw : swapsWith (.ListComp elt [⟨tg, iter, ifs, 0⟩] scope pos) (some (.Name y py)) spos.line X.env = pure true) (hi : SI X B W tg iter fi) (ok : BlkOk X.N X.env.scope scope own)
    (hg : ∀ (s : Shared) (H : Hp) (C : Addr) (cl : List (Str × Addr)) (fp : List Addr) (B' : Base), SG (X.blk s H scope (compEnvC scope cl C X.env) fp) B' W0 (own.map (·.2)) tg gf)
    (ht : ∀ (s : Shared) (H : Hp) (C : Addr) (cl : List (Str × Addr)) (fp : List Addr) (B' : Base), SPTs (X.blk s H scope (compEnvC scope cl C X.env) fp) B' W0 ifs tt)
    (he : ∀ (s : Shared) (H : Hp) (C : Addr) (cl : List (Str × Addr)) (fp : List Addr) (B' : Base), SE (X.blk s H scope (compEnvC scope cl C X.env) fp) B' W0 elt fe)
    (hy : X.N[i]? = some y := by rfl) (hyl : X.env.scope.names.lookup y = some .local := by rfl)
    (hs : ∀ x, foldedSetIterable iter X.env x = pure x := by intro _; rfl) : SS X B W (.Assign [.Name y py] (.ListComp elt [⟨tg, iter, ifs, 0⟩] scope pos) spos) (sSet i (mLc (own.map (·.2)) fi gf tt fe)) := by
  refine (ps_setLc hc hN hy hyl hsw hi ok (fun s H C cl fp => PG.ex (t := fun B' => tG X.wd B' W0 (own.map (·.2)) gf) fun B' => hg s H C cl fp B') (fun s H C cl fp => PTs.ex (t := fun B' => tT X.wd B' W0 tt) fun B' => ht s H C cl fp B') (fun s H C cl fp => PE.ex (t := fun B' => tE X.wd B' W0 fe) fun B' => he s H C cl fp B') hs).fw fun D σ H h => ?_
  refine tLc_of (W := W) (B := B) (fun B' v σ H Q z => ⟨B', z⟩) (fun B' σ H Q z => ⟨B', z⟩) (fun B' σ H Q z => ⟨B', z⟩) ?_
  obtain ⟨S, ι, lo, st, fm, p⟩ := h
  refine tE.use fm (Post.bind p) fun m k st1 S1 ι1 H1 v f1 k1 r1 p1 => ?_
  obtain ⟨⟨S2, f2, k2, d⟩, p2⟩ := frzd_ok f1 r1 p1
  exact p2 S2 ι1 _ H1 (f2.set_val i d) (k1.trans k2)
theorem ss_ownLc (i : Nat) {y : Str} {py spos : Pos} (hc : X.calm = true) (hN : X.N.Nodup) (hsw : swapsWith (.ListComp elt [⟨tg, iter, ifs, 0⟩] scope pos) (some (.Name y py)) spos.line X.env = pure true) (hi : SI X B W tg iter fi) (ok : BlkOk X.N X.env.scope scope own)
    (hg : ∀ (s : Shared) (H : Hp) (C : Addr) (cl : List (Str × Addr)) (fp : List Addr) (B' : Base), SG (X.blk s H scope (compEnvC scope cl C X.env) fp) B' W0 (own.map (·.2)) tg gf)
    (ht : ∀ (s : Shared) (H : Hp) (C : Addr) (cl : List (Str × Addr)) (fp : List Addr) (B' : Base), SPTs (X.blk s H scope (compEnvC scope cl C X.env) fp) B' W0 ifs tt)
    (he : ∀ (s : Shared) (H : Hp) (C : Addr) (cl : List (Str × Addr)) (fp : List Addr) (B' : Base), SE (X.blk s H scope (compEnvC scope cl C X.env) fp) B' W0 elt fe)
    (hy : X.N[i]? = some y := by rfl) (hyl : X.env.scope.names.lookup y = some .local := by rfl)
    (hs : ∀ x, foldedSetIterable iter X.env x = pure x := by intro _; rfl) : SS X B W (.Assign [.Name y py] (.ListComp elt [⟨tg, iter, ifs, 0⟩] scope pos) spos) (sOwn i (mLc (own.map (·.2)) fi gf tt fe)) := by
  refine (ps_setLc hc hN hy hyl hsw hi ok (fun s H C cl fp => PG.ex (t := fun B' => tG X.wd B' W0 (own.map (·.2)) gf) fun B' => hg s H C cl fp B') (fun s H C cl fp => PTs.ex (t := fun B' => tT X.wd B' W0 tt) fun B' => ht s H C cl fp B') (fun s H C cl fp => PE.ex (t := fun B' => tE X.wd B' W0 fe) fun B' => he s H C cl fp B') hs).fw fun D σ H h => ?_
  refine tLc_of (W := W) (B := B) (fun B' v σ H Q z => ⟨B', z⟩) (fun B' σ H Q z => ⟨B', z⟩) (fun B' σ H Q z => ⟨B', z⟩) ?_
  obtain ⟨S, ι, lo, st, fm, p⟩ := h
  refine tE.use fm (Post.bind p) fun m k st1 S1 ι1 H1 v f1 k1 r1 p1 => ?_
  cases k with
  | pk j => exact p1.elim
  | fz => exact p1.elim
  | fr =>
    dsimp only at p1
    split at p1
    case isFalse => exact p1.elim
    rename_i hm
    obtain ⟨a, rfl, h1, h2, h3, d, h4⟩ := r1
    exact p1 S1 ι1 _ H1 ⟨f1.ext, f1.rep, f1.loc.set_own i hm h1 h2 h3 d h4, f1.g⟩ k1
end
end
end FW

namespace FW
open PySem L2 PySem.Spec PyProof.Rows

/-- what is changed: a frame's own thing, or a place of the store -/
def ownAt : Option (Option (MV × Bool)) → Option MV
  | some (some (c, true)) => some c
  | _ => none
def refAt (st : Sto) : MV → Option MV
  | .ref n => st[n]?
  | _ => none
def putRef (st : Sto) (c : MV) : MV → Sto
  | .ref n => st.set n c
  | _ => st
def targetOf (m : MV) (k : Kd) (lo : Lo) (st : Sto) : Option MV := match k with
  | .pk i => ownAt lo[i]?
  | .fz => refAt st m
  | .fr => none
def putBack (m : MV) (k : Kd) (c : MV) (lo : Lo) (st : Sto) : Lo × Sto := match k with
  | .pk i => (lo.set i (some (c, true)), st)
  | .fz => (lo, putRef st c m)
  | .fr => (lo, st)
section
variable {mg : Wd} {B : Base} {W : WX} {S S' S2 : Addr → Prop} {ι ι' ι2 : List Addr} {H H' H2 : Hp} {lo lo' : Lo} {σ σ' : L2.St} {st st' : Sto} {v : V} {m c c' : MV} {k : Kd}
/-- a target in hand: its address; what it shows; how it is changed -/
def Tgt (S : Addr → Prop) (ι : List Addr) (lo : Lo) (σ : L2.St) (v : V) (m : MV) : Kd → Prop
  | .pk i => ∃ a c, v = .ref a ∧ lo[i]? = some (some (c, true)) ∧ σ[i]? = some (some (.ref a))
  | .fz => ∃ n a, m = .ref n ∧ v = .ref a ∧ ι[n]? = some a
  | .fr => False
theorem RV.tgt (f : Fm mg B S ι H lo σ st) (r : RV mg B S ι H lo σ v m k) (e : targetOf m k lo st = some c) : Tgt S ι lo σ v m k := by
  cases k with
  | pk i =>
    obtain ⟨a, rfl, h1, h2, _⟩ := r
    exact ⟨a, m, rfl, h1, h2⟩
  | fz =>
    cases m with
    | ref n =>
      cases r with
      | ref h => exact ⟨n, _, rfl, rfl, h⟩
    | _ => cases e
  | fr => cases m <;> cases e
theorem Tgt.mono (k0 : Keep S ι H S' ι' H') (t : Tgt S ι lo σ v m k) : Tgt S' ι' lo σ v m k := by
  cases k with
  | pk i => exact t
  | fz => obtain ⟨n, a, e1, e2, e3⟩ := t; exact ⟨n, a, e1, e2, getp k0.i e3⟩
  | fr => exact t
theorem Tgt.sh (f : Fm mg B S ι H lo σ st) (t : Tgt S ι lo σ v m k) (e : targetOf m k lo st = some c) : ∃ a, v = .ref a ∧ Sh mg S ι H a c := by
  cases k with
  | pk i =>
    obtain ⟨a, c', rfl, h1, h2⟩ := t
    have e' : ownAt lo[i]? = some c := e
    rw [h1] at e'
    cases e'
    obtain ⟨b, q, _, _, _, d⟩ := f.loc.own i _ h1
    rw [h2] at q; cases q
    exact ⟨a, rfl, d⟩
  | fz =>
    obtain ⟨n, a, rfl, rfl, h⟩ := t
    exact ⟨a, rfl, f.rep.ent n a c h e⟩
  | fr => exact t.elim
theorem Tgt.put {a : Addr} {o : HO} (f : Fm mg B S ι H lo σ st) (t : Tgt S ι lo σ (.ref a) m k) (d : Ob mg S ι H o c') (hins : ∀ q fs, c' = .ins q fs → ∃ q' fs', targetOf m k lo st = some (.ins q' fs')) : Fm mg B S ι (upd H a o) (putBack m k c' lo st).1 σ (putBack m k c' lo st).2 ∧ Keep S ι H S ι (upd H a o) := by
  cases k with
  | pk i =>
    obtain ⟨b, c', q, h1, h2⟩ := t
    cases q
    obtain ⟨b, q, n1, _, _, _⟩ := f.loc.own i _ h1
    rw [h2] at q; cases q
    refine ⟨f.mutOwn h1 h2 d fun q fs e => ?_, Keep.upd n1⟩
    obtain ⟨q', fs', e'⟩ := hins q fs e
    have e2 : ownAt lo[i]? = some (.ins q' fs') := e'
    rw [h1] at e2
    exact ⟨q', fs', by cases e2; rfl⟩
  | fz =>
    obtain ⟨n, b, rfl, q, h⟩ := t
    cases q
    exact ⟨f.mutSto h d, Keep.upd (f.rep.sep _ (List.mem_of_getElem? h))⟩
  | fr => exact t.elim
end

section
variable {X : Cx} {B : Base} {W : WX} {pos : Pos} {o e i : Expr} {fo fe fi : EF}
theorem tgt_of {mg : Wd} {S : Addr → Prop} {ι : List Addr} {H : Hp} {lo : Lo} {σ : L2.St} {st2 : Sto} {ov : V} {t c : MV} {kt : Kd} (r3 : RV mg B S ι H lo σ ov t kt) (et : targetOf t kt lo st2 = some c) : Tgt S ι lo σ ov t kt := by
  cases kt with
  | pk q => obtain ⟨a, rfl, q1, q2, _⟩ := r3; exact ⟨a, t, rfl, q1, q2⟩
  | fz =>
    cases t with
    | ref n => cases r3 with
      | ref h => exact ⟨n, _, rfl, rfl, h⟩
    | _ => cases et
  | fr => cases t <;> cases et
def sPutIx (fe fo fi : EF) : SF := fun lo st => fe lo st >>= fun r => frzd r >>= fun (m, st1) => fo lo st1 >>= fun (t, k, st2) => fi lo st2 >>= fun (j, _, st3) =>
  match targetOf t k lo st3, j with
  | some (.lst xs), .int j => (match ixN xs.length j with
    | some n => .ok (.nx, (putBack t k (.lst (xs.set n m)) lo st3).1, (putBack t k (.lst (xs.set n m)) lo st3).2)
    | none => .bad)
  | _, _ => .bad
theorem ss_putIx {p' : Pos} (he : SE X B W e fe) (ho : SE X B W o fo) (hi : SE X B W i fi)
    (ha : ∀ v, assign (.Subscript o i p') X.env v = (do
      let ov ← holding [v] (eval o X.env)
      let iv ← holding [v, ov] (eval i X.env)
      standAt p'
      holding [v, ov, iv] (setItem ov iv v)
      release [v, ov, iv] []) := by intro _; rfl)
    (hs : swapsWithSole [.Subscript o i p'] e pos.line X.env = pure false := by rfl) (hw : swappedStores [.Subscript o i p'] e X.env = pure none := by rfl)
    (h1 : (assignEach [.Subscript o i p'] X.env).map (·.2) = [assign (.Subscript o i p') X.env] := by rfl) : SS X B W (.Assign [.Subscript o i p'] e pos) (sPutIx fe fo fi) := by
  refine (ps_asg he (pg_sub ho hi set_list ha) hs hw h1).fw fun D σ H ⟨S, ι, lo, st, fm, p⟩ => ?_
  refine tE.use fm (Post.bind p) fun m k st1 S1 ι1 H1 v f1 k1 r1 p1 => ?_
  obtain ⟨⟨S2, f2, k2, d⟩, p2⟩ := frzd_ok f1 r1 p1
  have k02 := k1.trans k2
  refine tE.use f2 (Post.bind (p2.mono k02 fun _ z => z)) fun t kt st3 S3 ι3 H3 ov f3 k3 r3 p3 => ?_
  have tg : ∀ c, targetOf t kt lo st3 = some c → Tgt S3 ι3 lo σ ov t kt := fun c e => RV.tgt f3 r3 e
  obtain ⟨S3', f3', k3', h3⟩ := r3.hand f3
  refine tE.use f3' (Post.bind (p3.mono (k3.trans k3') fun _ z => z)) fun j kj st4 S4 ι4 H4 iv f4 k4 r4 p4 => ?_
  dsimp only at p4
  split at p4
  · rename_i xs jj et
    split at p4
    · rename_i n hn
      have T0 : Tgt S3 ι3 lo σ ov t kt := tgt_of r3 et
      have T4 := (T0.mono k3').mono (H := H3) k4
      obtain ⟨a, rfl, oo, e1, vs, rfl, dv⟩ := T4.sh f4 et
      have d4 := ((d.mono k3).mono k3').mono k4
      obtain ⟨f5, k5⟩ := Tgt.put (c' := .lst (xs.set n m)) f4 T4 ⟨vs.set n v, rfl, dv.set d4 n⟩ (fun _ _ z => by cases z)
      refine ⟨a, vs, jj, n, rfl, rv_int f4 r4, e1, by rw [dv.1]; exact hn, p4 S4 ι4 σ _ f5 ?_⟩
      exact k02.trans (k3.trans (k3'.trans (k4.trans k5)))
    · exact p4.elim
  · exact p4.elim
def isLst : Option MV → Bool
  | some (.lst _) => true
  | _ => false
def sApp (fo fe : EF) : SF := fun lo st => fo lo st >>= fun (t, k, st1) => if isLst (targetOf t k lo st1) = true then fe lo st1 >>= fun r => frzd r >>= fun (m, st2) => (match targetOf t k lo st2 with
  | some (.lst xs) => if xs.length < sizeLine then .ok (.nx, (putBack t k (.lst (xs ++ [m])) lo st2).1, (putBack t k (.lst (xs ++ [m])) lo st2).2) else .bad
  | _ => .bad) else .bad
theorem ss_app {apos cpos : Pos} (ho : SE X B W o fo) (he : SE X B W e fe)
    (hbase : attributeBase o "append" X.env (eval o X.env) = eval o X.env := by rfl)
    (hfew : ((backTo cpos (starEach [e] X.env)).all (fun x => !x.1) && (backToKw cpos (keywordEach [] X.env)).all (fun x => x.1.isSome)
      && decide (([e] : List Expr).length + ([] : List Keyword).length + (if ([] : List Keyword).isEmpty then 0 else 1) < 30)) = true := by rfl)
    (hline : (apos.endLine == cpos.line) = true := by rfl) (hst : starEach [e] X.env = (false, eval e X.env) :: starEach [] X.env := by rfl) (hplain : (backTo cpos (starEach [] X.env)).any (·.1) = false := by rfl)
    (hs : swapsWith (.Call (.Attribute o "append" apos) [e] [] cpos) none pos.line X.env = pure false := by rfl) :
    SS X B W (.Expr (.Call (.Attribute o "append" apos) [e] [] cpos) pos) (sApp fo fe) := by
  refine (ps_expr (pe_bm PySem.F.plainAttrs_list PySem.F.slot_list_append PySem.F.type_list_append (r := rAppend) (fun pins s σ H x xs v us Q => mt_append pins s σ H x xs v us Q) ho (pa_cons he pa_nil hst) hbase hfew hline hst hplain) hs).fw fun D σ H ⟨S, ι, lo, st, fm, p⟩ => ?_
  refine tE.use fm (Post.bind p) fun t kt st1 S1 ι1 H1 ov f1 k1 r1 p1 => ?_
  dsimp only at p1
  split at p1
  case isFalse => exact p1.elim
  rename_i hl
  obtain ⟨xs0, et0⟩ : ∃ xs, targetOf t kt lo st1 = some (.lst xs) := by
    cases q : targetOf t kt lo st1 with
    | none => rw [q] at hl; cases hl
    | some c => cases c with
      | lst xs => exact ⟨xs, rfl⟩
      | _ => rw [q] at hl; cases hl
  have T0 := tgt_of r1 et0
  obtain ⟨a, rfl, oo, e1, vs, rfl, dv⟩ := T0.sh f1 et0
  refine ⟨.inl ⟨rfl, vs, .of e1⟩, ?_⟩
  refine tE.use f1 (Post.bind (p1.mono k1 fun _ z => z)) fun m k st2 S2 ι2 H2 v f2 k2 r2 p2 => ?_
  obtain ⟨⟨S3, f3, k3, d⟩, p3⟩ := frzd_ok f2 r2 p2
  dsimp only at p3
  split at p3
  · rename_i xs et
    split at p3
    · rename_i hz
      have T3 := (T0.mono k2).mono (H := H2) k3
      obtain ⟨b, q, oo, e3, ws, rfl, dw⟩ := T3.sh f3 et
      cases q
      obtain ⟨f5, k5⟩ := Tgt.put (c' := .lst (xs ++ [m])) f3 T3 ⟨ws ++ [v], rfl, dw.append (AllD.cons d .nil)⟩ (fun _ _ z => by cases z)
      exact ⟨a, ws, v, rfl, rfl, e3, by rw [dw.1]; exact hz, p3 S3 ι2 σ _ f5 (k1.trans (k2.trans (k3.trans k5)))⟩
    · exact p3.elim
  · exact p3.elim
end
end FW

namespace FW
open PySem L2 PySem.Spec PyProof.Rows

section
open PySem.W PySem.Calls
variable {prog : Program} {w : World}
/-- the def of such an __init__ -/
structure IniDef (K : PySem.W.Frag) (fv : Str) (C fI : Addr) (fd : FuncData) : Prop where
  ex : ∃ (oc ccl cl : Value) (od cdd cld : Option Addr) (osl ccs csl : Array (Option Value)) (name qual file : Str) (tf : Tok) (vs : Array Value) (params : Arguments) (scope : Scope) (dV kV doc pm ct : Value) (an : Option Addr) (cda cc : Addr) (ar : Arg) (p0 p1 p2 p3 p4 p5 p6 p7 p8 p9 : Pos) (pl : Addr → Sem Bool),
    fd = ksFn name qual params [.Expr (.Call (.Attribute (.Call (.Name "super" p0) [] [] p1) "__init__" p2) [.Name fv p3] [] p4) p5, .Assign [.Attribute (.Name "self" p6) fv p7] (.Name fv p8) p9] scope dV kV doc pm an (.ref cda) ct cc ∧
    K.lookup fI = some ⟨oc, od, .func fd, osl⟩ ∧ codeIn K (.ref cda) qual = true ∧ K.lookup cda = some ⟨ccl, cdd, .fields vs, ccs⟩ ∧ vs[2]? = some (.str file tf) ∧ ((prog.main.file : Str) == file) = true ∧ (prog.main.scope.names.lookup ("super" : Str)).isSome = false ∧
    K.lookup cc = some ⟨cl, cld, .cell (some (.ref C)), csl⟩ ∧ (params.posonlyargs ++ params.args).head? = some ar ∧ ar.arg = "self" ∧
    (scope.names.lookup ("super" : Str) = some .globalImplicit ∧ scope.names.lookup ("__class__" : Str) = some .free ∧ scope.names.lookup ("self" : Str) = some .local ∧ scope.names.lookup fv = some .local ∧ (∀ x ∈ scope.names, x.2 ≠ .cell) ∧ scope.isCoroutine = false ∧ scope.isGenerator = false ∧ scope.kind = .function) ∧
    (∀ L, eval (.Call (.Attribute (.Call (.Name "super" p0) [] [] p1) "__init__" p2) [.Name fv p3] [] p4) (ksEnv qual scope L fI (.ref cda) cc) = (do
      let ov ← attributeBase (.Call (.Name "super" p0) [] [] p1) "__init__" (ksEnv qual scope L fI (.ref cda) cc) (eval (.Call (.Name "super" p0) [] [] p1) (ksEnv qual scope L fI (.ref cda) cc))
      standAt p2.atName
      let (f, first) ← holding [ov] (getMethod ov "__init__" (pl L))
      callWith p4 f first (backTo p4 (starEach [.Name fv p3] (ksEnv qual scope L fI (.ref cda) cc))) [])) ∧
    (∀ L, swapsWith (.Call (.Attribute (.Call (.Name "super" p0) [] [] p1) "__init__" p2) [.Name fv p3] [] p4) none p5.line (ksEnv qual scope L fI (.ref cda) cc) = pure false) ∧
    (∀ L, interactive (ksEnv qual scope L fI (.ref cda) cc) = false) ∧
    (∀ L, starEach [.Name fv p3] (ksEnv qual scope L fI (.ref cda) cc) = [(false, eval (.Name fv p3) (ksEnv qual scope L fI (.ref cda) cc))]) ∧
    (∀ L, swapsWith (.Name fv p8) (some (.Attribute (.Name "self" p6) fv p7)) p9.line (ksEnv qual scope L fI (.ref cda) cc) = pure false)
end
structure Ini (prog : Program) (K : PySem.W.Frag) (mg : Str → Option Value) (fv : Str) (C fI : Addr) (fd : FuncData) : Prop where
  df : IniDef (prog := prog) K fv C fI fd
  fvo : fv = "value" ∨ fv = "name"
  T : OexC K C
  iC : PySem.W.findIn K (.ref C) "__init__" = some (some (.ref fI))
  tI : PySem.W.typeIn K (.ref fI) = some (.type "function")
  sup : PySem.W.ks_superIn K C C "__init__" = some (some (.builtin "ValueError.__init__"))
  ve : PySem.W.subIn K (.ref C) (.type "ValueError") = some true
  mr : PySem.W.mroIn K C (.ref C) = some true
  th : PySem.W.nsIn K cStatics "thirdparty.any" = some none
  no : PySem.W.findIn K (.ref C) fv = some none
  ms : mg "super" = none

section
open PySem.W PySem.Calls
variable {prog : Program} {w : World} {A : Around} {K : PySem.W.Frag} {mg : Str → Option Value} {C fI e t0 : Addr} {fd : FuncData} {hp : Heap} {g : Array GenState} {d : Drawn} {t : Nat} {os : OsState} {args : Args} {v : Value} {fv : Str}
theorem ini_run {base : Heap} (F : Ini prog K mg fv C fI fd) (M : L2.Mod K mg base) (hb : ∀ b o, base.get? b = some o → hp.get? b = some o) (hbe : base.get? e = none) (hroom : A.depth < recursionLimit) (he : hp.get? e = some ({ cls := .ref C, dict := none, data := .fields #[.ref t0, .none, .none, .none, .bool false, .none] } : Obj))
    (hbind : BindsTo ⟨hp, g, d, t, os⟩ fd args [("self", .ref e), (fv, v)]) {R : Result → Shared → Prop}
    (hq : ∀ h' tk t1 dx, (∀ b o, b ≠ e → hp.get? b = some o → h'.get? b = some o) → hp.objs.size ≤ dx → h'.get? e = some ({ cls := .ref C, dict := some dx, data := .fields #[.ref t1, .none, .none, .none, .bool false, .none] } : Obj) →
      h'.Ns1 dx (fun y => if y = fv then some v else none) → R (.ok (.ret .none)) ⟨h', g, d, tk, os⟩) :
    codeAny (model prog w) A (.call (.ref fI) args) R ⟨hp, g, d, t, os⟩ := by
  obtain ⟨⟨oc, ccl, cl, od, cdd, cld, osl, ccs, csl, name, qual, file, tf, vs, params, scope, dV, kV, doc, pm, ct, an, cda, cc, ar, p0, p1, p2, p3, p4, p5, p6, p7, p8, p9, pl, rfl, lk, hcd, lc, hvs, hfile, htop, hcell, hhead, har, hsc, hev, hs1, hint, hst, hs2⟩, fvo, T, iC, tI, sup, ve, mr, th, no, ms⟩ := F
  obtain ⟨k1, k2, k3, k4, k5, k6, k7, k8⟩ := hsc
  obtain ⟨nm, q, N, bs, bm, sn, sub, ab, col, dd, q0, q1, q2, q3, q5, hC, hbm⟩ := T.cls
  have X0 : K.In hp := M.kin.keeps hb
  have hlim : hp.NoLimit := M.nolimit.keeps hb
  refine ks_codeAny_call_defAt (fd := ksFn name qual params _ scope dV kV doc pm an (.ref cda) ct cc) (binds := [("self", .ref e), (fv, v)]) hroom (X0 _ _ lk) rfl hlim (codeRec_of X0 hcd) rfl hbind k5 ?_ (fun h0 hns hk => ?_) k6 k7 k8
  · intro x hx
    simp only [List.mem_cons, List.not_mem_nil, or_false] at hx
    rcases hx with rfl | rfl
    · exact k3
    · exact k4
  show _root_.PySem.wpAt _ (A.deeper (ksEnv qual scope hp.objs.size fI (.ref cda) cc)) (.func _ (ksEnv qual scope hp.objs.size fI (.ref cda) cc)) (execs _ (ksEnv qual scope hp.objs.size fI (.ref cda) cc)) _ _ _
  have hC0 : hp.get? C = some _ := X0 _ _ hC
  have X1 : K.In h0 := X0.keeps hk
  have e1 : h0.get? e = some _ := hk _ _ he
  obtain ⟨mb, hmb, hmbt⟩ := M.blt
  have kb : ∀ b o, base.get? b = some o → h0.get? b = some o := fun b o z => hk b o (hb b o z)
  have lS : (fun x => [(("self" : Str), Value.ref e), ((fv : Str), v)].reverse.lookup x) "self" = some (.ref e) := by rcases fvo with rfl | rfl <;> rfl
  have lV : (fun x => [(("self" : Str), Value.ref e), ((fv : Str), v)].reverse.lookup x) fv = some v := by rcases fvo with rfl | rfl <;> rfl
  obtain ⟨cdC, hcdC⟩ : ∃ cdC : ClassData, clsIn K C = some cdC ∧ cdC = { name := nm, bases := bs, mro := .ref C :: bm, ns := N, qualname := q, hasDict := true, slotNames := sn, subclasses := sub, abstract := ab, collection := col, hasDel := false } := ⟨_, by unfold clsIn; rw [hC] <;> rfl, rfl⟩
  obtain ⟨hclC, hcdeq⟩ := hcdC
  refine ks_wpAt_execs_cons (ks_wpAt_Expr_any ?_ (hint _) (hs1 _))
  refine ks_wpAt_MethodCall ?_ (hev _)
  refine ks_wpAt_super_base (env := ksEnv qual scope hp.objs.size fI (.ref cda) cc) k1 k2 rfl rfl (X1 _ _ lk) rfl hhead rfl (X1 _ _ lc) rfl hvs hfile htop ?_
  refine ks_loadName_global k8 k1 (loadGlobal_builtin (env := ksEnv qual scope hp.objs.size fI (.ref cda) cc) (M.glob.keeps kb) ms (hmb.keeps kb) ((hmbt _ (by decide +kernel)).trans PyProof.Rows.Boot.«super») ⟨rfl, ?_⟩)
  refine wpAny_loadName_free k8 k2 rfl ⟨_, X1 _ _ hcell, rfl⟩ ?_
  rw [har]
  refine wpAny_loadName_local k8 k3 hns lS ?_
  refine ks_wpAny_isType_cls (X1 _ _ hC) rfl ⟨rfl, ?_⟩
  refine ks_wpAny_call_super (X1 _ _ hC) rfl e1 rfl (fun c z => by cases z) (looks_mroIn X1 mr) (fun h1 ho1 hk1 => ?_)
  -- the method
  have X2 : K.In h1 := X1.keeps hk1
  have e2 := hk1 _ _ e1
  have I2 : InstAt h1 e { cls := .ref C, dict := none, data := .fields #[.ref t0, .none, .none, .none, .bool false, .none] } C none := ⟨e2, rfl, rfl, trivial⟩
  have hI : Looks (model prog w) h1 (isInstance (.ref e) (.type "ValueError")) true := I2.type.andThen (looks_subIn X2 ve)
  have sup' : alongIn K "__init__" ((cdC.mro.dropWhile (· != .ref C)).drop 1) = some (some (.builtin "ValueError.__init__")) := by
    unfold ks_superIn at sup
    rw [hclC] at sup
    exact sup
  refine kxs_getMethod kxs_ValueError ho1 (looks_opaque X2 th) (l₀ := cdC.mro) (fun A Q E s k q => wpAny_bind ((looks_clsIn X2 hclC) A _ E s k (wpAny_pure q))) rfl X2 sup' hI (ks_ne X2 I2 hclC) rfl ?_
  -- the call
  have hk3 : ∀ b o, h1.get? b = some o → (h1.push (kxs_mw "ValueError.__init__" e)).get? b = some o := fun b o z => Heap.get?_push_of_some _ z
  have hu : (h1.push (kxs_mw "ValueError.__init__" e)).get? h1.objs.size = some (kxs_mw "ValueError.__init__" e) := Heap.get?_push_at rfl rfl
  have hst' : starEach [.Name fv p3] (ksEnv qual scope hp.objs.size fI (.ref cda) cc) = (false, eval (.Name fv p3) (ksEnv qual scope hp.objs.size fI (.ref cda) cc)) :: starEach [] (ksEnv qual scope hp.objs.size fI (.ref cda) cc) := hst _
  have spl : ∀ {A' : Around} {Q : List Value → Shared → Prop} {E' : Value → Shared → Prop} {hh : Heap} {t' : Nat}, (∀ b o, h0.get? b = some o → hh.get? b = some o) → Q [v] ⟨hh, g, d, t', os⟩ → wpAny (model prog w) A' (spliced (backTo p4 (starEach [.Name fv p3] (ksEnv qual scope hp.objs.size fI (.ref cda) cc)))) Q E' ⟨hh, g, d, t', os⟩ := by
    intro A' Q E' hh t' kk q
    refine PyProof.Rows.spliced_more (wpAny_Name (wpAny_loadName_local k8 k4 (hns.keeps kk) lV ?_) (by rcases fvo with rfl | rfl <;> decide)) hst'
    exact PyProof.Rows.spliced_none q
  refine kxs_callWith (i := "ValueError.__init__") (x := e) (by rw [hst']; rfl) ?_
  have go : wpAny (model prog w) (A.deeper (ksEnv qual scope hp.objs.size fI (.ref cda) cc)) (spliced (backTo p4 (starEach [.Name fv p3] (ksEnv qual scope hp.objs.size fI (.ref cda) cc)))) (fun vs s1 => KxsAt "ValueError.__init__" h1.objs.size e s1.heap ∧ wpAny (model prog w) (A.deeper (ksEnv qual scope hp.objs.size fI (.ref cda) cc)) (call (.ref h1.objs.size) vs) (fun _ s2 => _root_.PySem.wpAt (model prog w) (A.deeper (ksEnv qual scope hp.objs.size fI (.ref cda) cc)) (.func [.Expr (.Call (.Attribute (.Call (.Name "super" p0) [] [] p1) "__init__" p2) [.Name fv p3] [] p4) p5, .Assign [.Attribute (.Name "self" p6) fv p7] (.Name fv p8) p9] (ksEnv qual scope hp.objs.size fI (.ref cda) cc))
      (execs [.Assign [.Attribute (.Name "self" p6) fv p7] (.Name fv p8) p9] (ksEnv qual scope hp.objs.size fI (.ref cda) cc)) (fun f s' => R (.ok (.ret (match f with | .ret v => v | _ => .none))) s')
        (fun e s' => wpAny (model prog w) (A.deeper (ksEnv qual scope hp.objs.size fI (.ref cda) cc)) (leaving (ksEnv qual scope hp.objs.size fI (.ref cda) cc) e) (fun _ s'' => R (.error e) s'') (fun e' s'' => R (.error e') s'') s') s2)
        (fun e s' => wpAny (model prog w) (A.deeper (ksEnv qual scope hp.objs.size fI (.ref cda) cc)) (leaving (ksEnv qual scope hp.objs.size fI (.ref cda) cc) e) (fun _ s'' => R (.error e) s'') (fun e' s'' => R (.error e') s'') s') s1)
        (fun e s' => wpAny (model prog w) (A.deeper (ksEnv qual scope hp.objs.size fI (.ref cda) cc)) (leaving (ksEnv qual scope hp.objs.size fI (.ref cda) cc) e) (fun _ s'' => R (.error e) s'') (fun e' s'' => R (.error e') s'') s')
        ⟨h1.push (kxs_mw "ValueError.__init__" e), g, d, t + [(("self" : Str), Value.ref e), ((fv : Str), v)].length + 1, os⟩ := by
    refine spl (fun b o z => hk3 b o (hk1 b o z)) ⟨hu, ?_⟩
    have e3 := hk3 _ _ e2
    have hC3 := hk3 _ _ (hk1 _ _ (hk _ _ hC0))
    refine wpAny_call (codeAny_of_tree (?_ : wpAny _ (A.deeper (ksEnv qual scope hp.objs.size fI (.ref cda) cc)).in1 (callAny (.ref h1.objs.size) ⟨[v], []⟩) _ _ _))
    unfold callAny; dsimp only; refine wpAny_bind (wpAny_load hu ?_)
    have bnd : ((Value.type "method-wrapper" == .type "method") || (Value.type "method-wrapper" == .type "builtin_function_or_method") || (Value.type "method-wrapper" == .type "method-wrapper")) = true := by decide
    simp only [bnd, kxs_mw, if_true]; refine KFB.if_so (by decide) ?_
    refine wpAny_bind (check_bound_init PySem.F.excBase_ValueError.toExcCallFacts hC3 e3 rfl ?_)
    refine wpAny_bind (wpAny_pure (wpAny_pure ?_)); refine ⟨plainId_quiet PySem.F.excBase_ValueError.init.plain _, codeAny_builtin PySem.F.excBase_ValueError.initEntry ?_⟩
    refine exc_init_tree (cls := .ref C) (t0 := t0) (dv := none) (c2 := .none) (c3 := .none) (b4 := .bool false) e3 (by rw [sizeLine_eq]; show 1 ≤ _; omega) fun h2 hk4 e4 _ => ?_
    have hk5 : ∀ b o, b ≠ e → hp.get? b = some o → h2.get? b = some o := fun b o hbe z => hk4 b o hbe (hk3 b o (hk1 b o (hk b o z)))
    have hns5 : h2.Ns hp.objs.size _ := hns.at fun o z => hk4 _ o (fun z2 => absurd (Heap.lt_size he) (by rw [← z2]; exact Nat.lt_irrefl _)) (hk3 _ o (hk1 _ o z))
    refine ks_wpAt_execs_cons (ks_wpAt_Assign_Attr ?_ (hs2 _))
    have nsE : h2.Ns (ksEnv qual scope hp.objs.size fI (.ref cda) cc).locals (fun x => [(("self" : Str), Value.ref e), ((fv : Str), v)].reverse.lookup x) := hns5
    refine wpAt_of_wpAny (wpAny_Name (wpAny_loadName_local (m := fun x => [(("self" : Str), Value.ref e), ((fv : Str), v)].reverse.lookup x) k8 k4 nsE lV ?_) (by rcases fvo with rfl | rfl <;> decide))
    refine wpAny_Name (wpAny_loadName_local (m := fun x => [(("self" : Str), Value.ref e), ((fv : Str), v)].reverse.lookup x) k8 k3 nsE lS ?_) (by decide)
    have X3 : K.In h2 := fun b o z => hk5 b o (fun y => by subst y; rw [M.kin _ _ z] at hbe; cases hbe) (X0 _ _ z)
    refine PySem.W.set_plain X3 (od := none) ⟨e4, rfl, rfl, trivial⟩ T.sa ?_
    refine PySem.HandSPX.exc_osa X3 e4 hclC (by rw [hcdeq]; exact hbm) (by rw [hcdeq]) no (fun h' tk' dx hk6 dn dne hx hn => ?_)
    show _root_.PySem.wpAt _ _ _ (execs [] _) _ _ _
    rw [execs_nil]
    refine wpAt_of_wpAny (wpAny_pure ?_)
    refine hq h' tk' _ dx (fun b o hne z => hk6 b o hne (hk5 b o hne z)) ?_ hx hn
    refine Nat.le_trans ?_ dn
    obtain ⟨oL, _, _, hL, _⟩ := hns5
    exact Nat.le_of_lt (Heap.lt_size hL)
  exact evalArgs_plain go
end
end FW

namespace FW
open PySem L2 PySem.Spec PyProof.Rows

/-- C(e, ..), C an error of the program -/
def tIni (fv : Str) (C : Addr) (dvs : List V) (ta : TA) : L2.St → Hp → XK → Prop := fun σ H Q => ta σ H fun vs H1 => ∃ v, vs ++ dvs = [v] ∧ ∀ d, H1 d = none → Q (.ref C) (some d) (upd H1 d (.xd [(fv, v)]))
theorem vals_one {v : V} : ∀ {us : List Value}, Vals [v] us → ∃ u, us = [u] ∧ RelV v u
  | _, .cons r .nil => ⟨_, rfl, r⟩
/-- the heap in which an error of the class C has just been made of us: its args, then itself -/
def made2 (h : Heap) (us : List Value) (C : Addr) : Heap := (h.push (PySem.W.kdv_tup us)).push (PySem.HandSPX.excO C h.objs.size)
abbrev spot (h : Heap) : Addr := h.objs.size + 1
theorem made2_old {h : Heap} {us : List Value} {C b : Addr} {o : Obj} (z : h.get? b = some o) : (made2 h us C).get? b = some o := Heap.get?_push_of_some _ (Heap.get?_push_of_some _ z)
theorem made2_new (h : Heap) (us : List Value) (C : Addr) : (made2 h us C).get? (spot h) = some (PySem.HandSPX.excO C h.objs.size) := by unfold made2; heap_get
theorem made2_size (h : Heap) (us : List Value) (C : Addr) : h.objs.size ≤ (made2 h us C).objs.size := by unfold made2; rw [Heap.size_push, Heap.size_push]; omega
theorem spot_ne {h : Heap} {b : Addr} {o : Obj} (z : h.get? b = some o) : b ≠ spot h := Nat.ne_of_lt (Nat.lt_succ_of_lt (Heap.lt_size z))
section
variable {X : Cx} {e : Expr} {es : List Expr} {ta : TA} {p pos : Pos}
theorem pmk_ini {k : Nat} {x : Str} {C fI : Addr} {fd : FuncData} {ds : List Value} {dvs : List V} {fv : Str} (F : Ini X.prog X.K X.mg fv C fI fd) (hr : Room (k + 1) X.A)
    (hb : Binds X.K fd ["self", fv] ds) (hd : Vals dvs ds) (hg : Gl X x) (hm : X.mg x = some (.ref C)) (ha : PA X (e :: es) ta)
    (hdb : (x == ("__debug__" : Str)) = false := by decide) (he : starEach (e :: es) X.env = (false, eval e X.env) :: starEach es X.env := by rfl)
    (hpl : (backTo pos (starEach es X.env)).any (·.1) = false := by rfl) :
    PMk X (.Call (.Name x p) (e :: es) [] pos) (tIni fv C dvs ta) := by
  intro pins s0 σ0 H0 Q0 I0 want
  have kn := F.T
  obtain ⟨cn, cq, cN, cb, cm, _, _, _, _, _, _, _, _, _, _, atC, tail⟩ := kn.cls
  refine wpAny_Call_Name_kw (ld_glob I0 hg hm (PySem.W.callWith_K (h₀ := X.base) I0.ok.mod.kin kn.kC (thn (ha.run pos pins s0 σ0 H0 _ I0 want) fun us s1 got => ?_) he hpl) hdb)
  obtain ⟨vs, H1, I1, r1, v, ev, wish⟩ := got
  obtain ⟨h, gn, dw, tk, oo⟩ := s1
  refine ⟨I1.kIn, wpAny_call ?_⟩
  obtain ⟨u, eu, ru⟩ : ∃ u, us ++ ds = [u] ∧ RelV v u := vals_one (ev ▸ r1.append hd)
  have few : us.length ≤ sizeLine := by
    have l1 := congrArg List.length eu
    rw [List.length_append, List.length_singleton] at l1
    rw [sizeLine_eq]; omega
  have small : X.base.objs.size ≤ h.objs.size := Nat.le_trans I1.ok.bsz I1.sz
  have noBase : X.base.get? (spot h) = none := by
    rcases z : X.base.get? (spot h) with _ | o
    · rfl
    · exact absurd (Nat.lt_of_lt_of_le (Heap.lt_size z) small) (Nat.not_lt.mpr (Nat.le_succ _))
  have bound : BindsTo ⟨made2 h us C, gn, dw, tk, oo⟩ fd ⟨.ref (spot h) :: us, []⟩ [(("self" : Str), .ref (spot h)), (fv, u)] := by
    have z := hb ⟨made2 h us C, gn, dw, tk, oo⟩ (.ref (spot h) :: us) (I1.kIn.keeps fun _ _ q => made2_old q) (by show (us ++ ds).length + 1 = 2; rw [eu]; rfl)
    rw [List.cons_append, eu] at z
    exact z
  have unseen : H1 (spot h) = none := I1.hok.fresh (Nat.le_succ _)
  refine PySem.HandSPX.call_own PySem.F.excBase_ValueError (fun Y => PySem.HandSPX.refsVE_contains Y cm tail) (I1.kIn _ _ atC) (PySem.W.looks_findIn I1.kIn F.iC) (fun me => PySem.W.bind_fn I1.kIn me F.tI) few ?_
  refine ini_run F I1.ok.mod (fun b o z => made2_old (I1.bk b o z)) noBase (hr.make C us []).depth (made2_new h us C) bound fun h3 tk3 t3 dx keep later atE atD => ⟨rfl, ?_⟩
  obtain ⟨G, in1, out1⟩ := restrict h3 fun b => decide (b ≠ spot h)
  have same : ∀ b, b ≠ spot h → G.get? b = h3.get? b := fun b z => in1 b (decide_eq_true z)
  have gone : G.get? (spot h) = none := out1 _ (decide_eq_false (fun z => z rfl))
  have apart : dx ≠ spot h := by
    rintro rfl
    obtain ⟨_, _, _, q1, q2, _⟩ := atD
    rw [atE] at q1; cases q1; cases q2
  have late : h.objs.size ≤ dx := Nat.le_trans (made2_size h us C) later
  have J : Inv X pins σ0 (upd H1 dx (.xd [(fv, v)])) ⟨G, gn, dw, tk3, oo⟩ := by
    refine I1.laid (t' := tk3) (a := dx) (o := .xd [(fv, v)]) (h' := G) (fun b o z => ?_) late ⟨_, atD.at fun o y => (same dx apart).trans y, relO_put (fs := []) (mA := fun _ => none) ru fun _ => True.intro⟩
    rw [same b (spot_ne z)]
    exact keep b o (spot_ne z) (made2_old z)
  refine ⟨spot h, _, _, ⟨G, gn, dw, tk3, oo⟩, _, .ref C, some dx, rfl, J, fun b o z => ?_, gone, atE, ⟨rfl, rfl⟩, rfl, rfl, (upd_ne (Ne.symm apart)).trans unseen, rfl, J.bare, raises_own kn.exC kn.tyC, wish dx (I1.hok.fresh late)⟩
  by_cases hs : b = spot h
  · subst hs; rw [gone] at z; cases z
  · rw [← same b hs]; exact z
end

/-- raise C(e, ..) -/
def sRaise (c fv : Str) (dms : List MV) (g : AF) : SF := fun lo st => g lo st >>= fun (l, st1) => match allFz l with
  | some ms => (match ms ++ dms with
    | [m] => .exc c [(fv, m)] lo st1
    | _ => .bad)
  | none => .bad
section
variable {X : Cx} {B : Base} {W : WX} {e : Expr} {es : List Expr} {p pos pos' : Pos} {g : AF}
theorem ss_raise {k : Nat} {x : Str} {C fI : Addr} {fd : FuncData} {ds : List Value} {dvs : List V} {dms : List MV} (hc : X.calm = true) (tk : Takes X W) {fv : Str} (F : Ini X.prog X.K X.mg fv C fI fd) (hr : RoomG (k + 1) X.A) (hb : Binds X.K fd ["self", fv] ds) (hd : Vals dvs ds)
    (dd : ∀ S ι H, AllD X.wd S ι H dvs dms) (hg : Gl X x) (hm : X.mg x = some (.ref C)) (ha : SA X B W (e :: es) g)
    (hdb : (x == ("__debug__" : Str)) = false := by decide) (he : starEach (e :: es) X.env = (false, eval e X.env) :: starEach es X.env := by rfl)
    (hpl : (backTo pos (starEach es X.env)).any (·.1) = false := by rfl) :
    SS X B W (.Raise (some (.Call (.Name x p) (e :: es) [] pos)) none pos') (sRaise x fv dms g) := by
  refine (ps_raise hc tk (pmk_ini F hr.r hb hd hg hm ha hdb he hpl)).fw fun D σ H ⟨S, ι, lo, st, fm, pp⟩ => ?_
  refine tA.use fm (Post.bind pp) fun l st1 S1 ι1 H1 vs f1 k1 r1 p1 => ?_
  dsimp only at p1
  split at p1
  · rename_i ms hz
    split at p1
    · rename_i m em
      have d1 := (r1.data hz).append (dd S1 ι1 H1)
      rw [em] at d1
      obtain ⟨v, vs', ev, dv, dn⟩ := d1.inv_cons
      have en := dn.inv_nil
      subst en
      refine ⟨v, ev, fun d hd' => ?_⟩
      obtain ⟨h1, h2, h3, h4⟩ := f1.free hd'
      have fn := f1.new (o := .xd [(fv, v)]) hd'
      have kn : Keep S1 ι1 H1 S1 ι1 (upd H1 d (.xd [(fv, v)])) := (Ext.new hd').keep f1.rep
      refine p1 (fz1 S1 d) ι1 σ (upd H1 d (.xd [(fv, v)])) (.ref C) (some d) (fn.freeze upd_same h2 h3 h4) (k1.trans (kn.trans .fz1)) ⟨C, rfl, hm, .inr ⟨d, _, rfl, .inr rfl, upd_same, rfl, fun i f m' q1 q2 => ?_⟩⟩
      cases i with
      | zero => cases q1; cases q2; exact (dv.mono kn).mono .fz1
      | succ i => cases q1
    · exact p1.elim
  · exact p1.elim
end
end FW

namespace FW
open PySem L2 PySem.Spec PyProof.Rows

section
variable {X : Cx} {pins : List (Addr × Obj)} {σ : L2.St} {H : Hp} {sI s s' : Shared} {B : Heap}
/-- back on the ground, the error's object tracked -/
theorem landedX {a : Addr} {o : HO} (I : L2.Inv X pins σ H sI) (nb : ∀ b o, sI.heap.get? b = some o → b ∉ frs X.stack → B.get? b = some o) (st : B.StaysIn s'.heap) (up : sI.heap.UpToSlots s'.heap) (os : s'.os = sI.os) (ag : AllBare s'.gens)
    (na : sI.heap.get? a = none) (hn : H a = none) (ok : ObjOk X.prog X.w (upd H a o) s'.heap a o) : L2.Inv X pins σ (upd H a o) s' := by
  have slot : ∀ b, b ∈ frs X.stack → ∀ u, sI.heap.get? b = some u → ∃ sl, s'.heap.get? b = some { u with slots := sl } := by
    intro b m u z
    obtain ⟨_, u2, z2, q⟩ := I.stack.mem m
    rw [z] at z2; cases z2
    exact up b u z q
  have ne : ∀ {b : Addr} {u : HO}, H b = some u → b ≠ a := fun {b u} z y => by rw [y, hn] at z; cases z
  have hokB : HOk X.prog X.w H s'.heap := (I.inGround nb).kept st
  have J := I.call (ch := []) (h' := s'.heap) (g' := s'.gens) (t' := s'.toks) (d' := s'.drawn) (H' := upd H a o)
    ⟨fun b o e _ hb _ => st b o (nb b o e hb), fun b o e _ hb _ => slot b hb o e, fun b o e n _ => by rw [upd_ne (fun z => by rw [z, na] at e; cases e)]; exact n, fun b o e _ => by
      by_cases hb : b ∈ frs X.stack
      · exact (slot b hb o e).elim fun sl q => ⟨_, q⟩
      · exact ⟨o, st b o (nb b o e hb)⟩, fun _ _ e => by rw [upd_ne (ne e)]; exact e, fun _ _ _ e => by rw [upd_ne (ne e)]; exact e, fun b ps e => ⟨#[], by rw [upd_ne (ne e), e]; simp⟩⟩
    (fun b u q => by
      by_cases hb : b = a
      · subst hb
        rw [upd_same] at q; cases q; exact ok
      · rw [upd_ne hb] at q
        exact (hokB b u q).stay (fun _ _ _ z => z) (fun c hc => by rw [upd_ne (ne hc)]; exact hc) fun c xs hc => by rw [upd_ne (ne hc)]; exact hc) ag (fun _ z => nomatch z)
  have es : s' = { sI with heap := s'.heap, gens := s'.gens, toks := s'.toks, drawn := s'.drawn } := by cases s'; cases os; rfl
  rw [es]; exact J
theorem exO_ok {P : Program} {w : World} {h : Heap} {C a : Addr} {d : Option Addr} {oe : Obj} {vs : Array Value} (he : h.get? a = some oe) (hz : Zc (.ref C) d oe) (hd : oe.data = .fields vs) : ObjOk P w H h a (exO C d a) :=
  ⟨⟨oe, he, hz.1, hz.2, vs, hd⟩, ⟨oe, he⟩, fun h1 h2 z k => by
    obtain ⟨o, q, r⟩ := z
    exact ⟨o, k _ q, r⟩⟩
theorem exO_at {C a : Addr} {d : Option Addr} (I : L2.Inv X pins σ H s) (e : H a = some (exO C d a)) : ∃ oe vs, s.heap.get? a = some oe ∧ oe.cls = .ref C ∧ oe.dict = d ∧ oe.data = .fields vs := by
  have x : ObjOk X.prog X.w H s.heap a (.ext fun h => ∃ o, h.get? a = some o ∧ o.cls = .ref C ∧ o.dict = d ∧ ∃ vs, o.data = .fields vs) := I.hok a _ e
  obtain ⟨oe, h1, h2, h3, vs, h4⟩ := x.1
  exact ⟨oe, vs, h1, h2, h3, h4⟩
theorem suite0 (I : L2.Inv X pins σ H s) (a : Addr) : L2.Inv (X.suite a (X.pn ++ pins)) [] σ H s :=
  ⟨I.ok.suite _ _, I.os, I.bare, I.base, I.loc, I.cell, I.free, I.freeC, fun p hp => I.pin p (by rw [List.append_nil] at hp; exact hp), I.hok, I.len⟩
theorem unsuite0 {a : Addr} {pn' : List (Addr × Obj)} (I : L2.Inv (X.suite a (X.pn ++ pins)) pn' σ H s) (ok : X.Ok) : L2.Inv X pins σ H s :=
  { ok := ok, os := I.os, bare := I.bare, base := I.base, loc := I.loc, cell := I.cell, free := I.free, freeC := I.freeC, pin := fun p hp => I.pin p (List.mem_append_left _ hp), hok := I.hok, len := I.len }
end

/-- an error of the body that has come down at its clause: a, its class and dict; the heap h; what was known of it -/
structure Down (X : Cx) (W : WX) (pins : List (Addr × Obj)) (s' : Shared) (a : Addr) (cls : Value) (d : Option Addr) (σ : L2.St) (H : Hp) (sI : Shared) (B h : Heap) : Prop where
  inv : L2.Inv X pins σ H sI
  nb : ∀ b o, sI.heap.get? b = some o → b ∉ frs X.stack → B.get? b = some o
  up : sI.heap.UpToSlots h
  fly : HandSPX.FlyingZ B (X.env :: X.outer) a (Zc cls d) h
  na : H a = none
  os : s'.os = sI.os
  ag : AllBare s'.gens
  w : W cls d σ H
section
variable {X : Cx} {W : WX} {pins : List (Addr × Obj)} {s' : Shared} {a : Addr} {cls : Value} {d : Option Addr} {σ : L2.St} {H : Hp} {sI : Shared} {B h h' : Heap}
theorem Down.on (D : Down X W pins s' a cls d σ H sI B h) (f : HandSPX.FlyingZ B (X.env :: X.outer) a (Zc cls d) h') (u : h.UpToSlots h') : Down X W pins s' a cls d σ H sI B h' :=
  { inv := D.inv, nb := D.nb, up := D.up.trans u, fly := f, na := D.na, os := D.os, ag := D.ag, w := D.w }
theorem Down.plain (D : Down X W pins s' a cls d σ H sI B h) : L2.Inv X pins σ H { s' with heap := h } := Inv.landed (s' := { s' with heap := h }) D.inv D.nb D.fly.1 D.up D.os D.ag
theorem Down.noframe (D : Down X W pins s' a cls d σ H sI B h) : a ∉ frs (X.env :: X.outer) := fun m => by
  obtain ⟨o1, v1, g1, _, g3⟩ := D.fly.there
  obtain ⟨_, o2, g4, g5⟩ := D.fly.2.2.1.mem m
  rw [g1] at g4; cases g4
  exact g5 v1 g3
theorem Down.tracked {C : Addr} (D : Down X W pins s' a (.ref C) d σ H sI B h) (hs : X.stack = X.env :: X.outer) : L2.Inv X pins σ (upd H a (exO C d a)) { s' with heap := h } := by
  obtain ⟨o1, v1, g1, g2, g3⟩ := D.fly.there
  have fresh : sI.heap.get? a = none := by
    rcases z : sI.heap.get? a with _ | o
    · rfl
    · have y := D.nb a o z (hs ▸ D.noframe)
      exact absurd y (by rw [D.fly.2.1]; exact fun e => nomatch e)
  exact landedX (s' := { s' with heap := h }) D.inv D.nb D.fly.1 D.up D.os D.ag fresh D.na (exO_ok g1 g2 g3)
/-- an error in the air comes down -/
theorem comes_down {Q : Unit → Shared → Prop} {E : Value → Shared → Prop} {u : Value} {xe : Value → Shared → Prop} (ok : X.Ok) (hs : X.stack = X.env :: X.outer) (hf : X.env.frame = some X.env.locals) (x : XE (X.tr (X.pn ++ pins) xe) W u s')
    (go : ∀ a cls d σ H sI B h, u = .ref a → Down X W pins s' a cls d σ H sI B h → Q () { s' with heap := h }) :
    wpAny (model X.prog X.w) X.A (noteFrame u X.env) (fun _ s2 => wpAny (model X.prog X.w) X.A (setFlight u none) Q E s2) E s' := by
  obtain ⟨a, B, sI, q0, σ, H, cls, d, rfl, J, nb, up, sky, na, os, ag, w⟩ := x
  have sk : Sky B (X.env :: X.outer) a (Zc cls d) X.env.locals s'.heap := hs ▸ sky
  refine Sky.land Zc.steady (by rw [ok.frames, hs]) hf sk fun h fl hu => go a cls d σ H sI B h rfl ?_
  exact { inv := J.ofTry ok, nb := nb, up := up.trans hu, fly := fl, na := na, os := os, ag := ag, w := w }
end

/-- what the clause wishes of an error of the body, its object tracked: slot i is n's -/
def wAsT (K : PySem.W.Frag) (c : Value) (i : Nat) (ts : TS) (D : Ends) : WX := fun cls d σ H =>
  ∃ C : Addr, cls = .ref C ∧ PySem.W.exmOne K cls c = some true ∧ ∀ a, H a = none →
    ts { nx := fun σ' H' => D.nx (σ'.set i none) H', rt := D.rt, bk := fun σ' H' => D.bk (σ'.set i none) H', ct := fun σ' H' => D.ct (σ'.set i none) H' } (σ.set i (some (.ref a))) (upd H a (exO C d a))
section
variable {X : Cx} {x n : Str} {c : Value} {i : Nat} {body suite : List Stmt} {b₀ : Stmt} {np pos pos' : Pos} {tb : WX → TS} {ts : TS}
theorem ps_tryT (hs : X.stack = X.env :: X.outer) (hf : X.env.frame = some X.env.locals) (hN : X.N.Nodup) (hi : X.N[i]? = some n) (hln : X.env.kindOf n = some .local) (hc : Names X x c)
    (hb : ∀ (W : WX) (pn : List (Addr × Obj)) (xe : Value → Shared → Prop), L2.Takes (X.tr pn xe) W → PassesOwn (model X.prog X.w) X.A X.env xe → PSs (X.tr pn xe) body (tb W))
    (hsu : ∀ (a : Addr) (pn : List (Addr × Obj)), PSs (X.suite a pn) (b₀ :: suite) ts) :
    PS X (.Try body [.ExceptHandler (some (.Name x np)) (some n) (b₀ :: suite) pos'] [] [] pos) (fun D σ H => tb (wAsT X.K c i ts D) D σ H) := by
  refine ⟨fun pins s σ H D I want => wpAny_Try_except ?_⟩
  have caught : L2.Takes (X.tr (X.pn ++ pins) (fun e s1 => wpAny (model X.prog X.w) X.A (noteFrame e X.env) (fun _ s2 => wpAny (model X.prog X.w) X.A (setFlight e none)
      (fun _ s3 => wpAny (model X.prog X.w) X.A (handleBy e X.env [.ExceptHandler (some (.Name x np)) (some n) (b₀ :: suite) pos']) (SP X pins D) X.xe s3) X.xe s2) X.xe s1)) (wAsT X.K c i ts D) := by
    intro u s1 air
    refine comes_down I.ok hs hf air fun a cls d σ1 H1 sI B h eu dn => ?_
    subst eu
    obtain ⟨C, ec, em, yes⟩ := dn.w
    subst ec
    obtain ⟨o1, v1, g1, g2, g3⟩ := dn.fly.there
    have P1 := dn.plain
    have S1 := suite0 P1 a
    refine wpAny_handleBy_cons (codeAny_handlers_test ?_) (fun z => nomatch z)
    have ty : PySem.W.Looks (model X.prog X.w) h (typeOf (.ref a)) (.ref C) := fun A Q E s k q => wpAny_typeOf_ref (k _ _ g1) (by rw [g2.1]; exact q)
    have yields := PySem.W.exm_one (M := model X.prog X.w) P1.kIn ty em
    have named : ∀ {Q : Value → Shared → Prop} {E : Value → Shared → Prop}, Q c { s1 with heap := h } → wpAny (model X.prog X.w) (X.A.mark (some (.ref a))) (eval (.Name x np) X.env) Q E { s1 with heap := h } := by
      intro Q E q
      rcases hc with ⟨hg, hdbg, hm | ⟨hm, hv, hnn⟩⟩
      · exact ld_glob (X := X.suite a (X.pn ++ pins)) S1 hg hm q hdbg
      · exact ld_blt (X := X.suite a (X.pn ++ pins)) S1 hg hm hv q hnn hdbg
    refine named (yields.here ?_)
    show codeAny _ _ (.handlers (.ref a) [.ExceptHandler none (some n) (b₀ :: suite) pos'] X.env) _ _
    refine codeAny_handlers_suite_as (HandSPX.lands_againZ dn.fly fun h2 fl2 u2 => ?_)
    have S2 := suite0 ((dn.on fl2 u2).tracked hs) a
    refine store_ok (X := X.suite a (X.pn ++ pins)) (v := .ref a) S2 hN hi (.inl hln) rfl (fun s2 S3 => ?_) (.inr hln)
    have ends : ∀ {σ6 : L2.St} {H6 : Hp} {s6 : Shared} {Q : Shared → Prop}, L2.Inv (X.suite a (X.pn ++ pins)) [] σ6 H6 s6 → (∀ s7, L2.Inv X pins (σ6.set i none) H6 s7 → Q s7) →
        wpAny (model X.prog X.w) X.A (do bindName X.env n .none; unbindBehindTheSuite X.env n pos') (fun _ s7 => Q s7) X.xe s6 := fun S6 k => gone_ok (unsuite0 S6 I.ok) hN hi hln k
    refine wpAny_mono ((hsu a (X.pn ++ pins)).run [] s2 _ _ _ S3 (yes a dn.na)) (fun f s6 z => ?_) (fun _ _ z => z.elim)
    rcases f with _ | _ | _ | v
    · obtain ⟨_, _, J, w⟩ := z; exact ends J fun s7 J7 => ⟨_, _, J7, w⟩
    · obtain ⟨_, _, J, w⟩ := z; exact ends J fun s7 J7 => ⟨_, _, J7, w⟩
    · obtain ⟨_, _, J, w⟩ := z; exact ends J fun s7 J7 => ⟨_, _, J7, w⟩
    · obtain ⟨_, _, _, J, r, w⟩ := z; exact ends J fun s7 J7 => ⟨_, _, _, J7, r, w⟩
  refine wpAny_mono ((hb _ _ _ caught PassesOwn.looking).run [] s σ H D (I.toTry _) want) (fun f s1 z => ?_) fun _ _ z => z
  rcases f with _ | _ | _ | v
  · obtain ⟨_, _, J, w⟩ := z; exact wpAny_execs_nil ⟨_, _, J.ofTry I.ok, w⟩
  · obtain ⟨_, _, J, w⟩ := z; exact ⟨_, _, J.ofTry I.ok, w⟩
  · obtain ⟨_, _, J, w⟩ := z; exact ⟨_, _, J.ofTry I.ok, w⟩
  · obtain ⟨_, _, _, J, r, w⟩ := z; exact ⟨_, _, _, J.ofTry I.ok, r, w⟩
end
end FW

namespace FW
open PySem L2 PySem.Spec PyProof.Rows

def sTry (p : Str → Bool) (i : Nat) (g gs : SF) : SF := fun lo st => match g lo st with
  | .ok r => .ok r
  | .bad => .bad
  | .exc c fs lo1 st1 => if p c = true then (match gs (lo1.set i (some (.exc c fs, false))) st1 with
    | .ok (.nx, lo2, st2) => .ok (.nx, lo2.set i none, st2)
    | .ok (.rt m .fz, lo2, st2) => .ok (.rt m .fz, lo2.set i none, st2)
    | _ => .bad) else .bad
section
variable {mg : Wd} {B : Base} {S : Addr → Prop} {ι : List Addr} {H : Hp} {lo : Lo} {σ : L2.St} {st : Sto}
theorem Loc.unset (l : Loc mg B S ι H lo σ) (i : Nat) : Loc mg B S ι H (lo.set i none) (σ.set i none) := by
  have back : ∀ {j : Nat} {z : MV × Bool}, (lo.set i none)[j]? = some (some z) → i ≠ j ∧ lo[j]? = some (some z) := fun {j z} h => by
    by_cases e : i = j
    · subst e
      by_cases hi : i < lo.length
      · rw [List.getElem?_set_self hi] at h; cases h
      · rw [List.getElem?_eq_none (by simp; omega)] at h; cases h
    · rw [List.getElem?_set_ne e] at h; exact ⟨e, h⟩
  refine ⟨by simp [l.len], fun j n h => ?_, fun j n h => ?_, fun j k n n' a hjk h1 h2 h3 => ?_, fun j c fs h => ?_⟩
  · obtain ⟨e, h⟩ := back h
    rw [List.getElem?_set_ne e]; exact l.val j n h
  · obtain ⟨e, h⟩ := back h
    rw [List.getElem?_set_ne e]; exact l.own j n h
  · obtain ⟨e1, h1⟩ := back h1
    obtain ⟨e2, h2⟩ := back h2
    rw [List.getElem?_set_ne e1] at h3
    rw [List.getElem?_set_ne e2]
    exact l.dis j k n n' a hjk h1 h2 h3
  · obtain ⟨e, h⟩ := back h
    rw [List.getElem?_set_ne e]; exact l.pin j c fs h
theorem Fm.unset (f : Fm mg B S ι H lo σ st) (i : Nat) : Fm mg B S ι H (lo.set i none) (σ.set i none) st := ⟨f.ext, f.rep, f.loc.unset i, f.g⟩
end
section
variable {X : Cx} {B : Base} {W : WX} {x n : Str} {c : Value} {i : Nat} {body suite : List Stmt} {b₀ : Stmt} {np pos pos' : Pos} {g gs : SF} {p : Str → Bool}
theorem ss_try (hs : X.stack = X.env :: X.outer) (hf : X.env.frame = some X.env.locals) (hN : X.N.Nodup) (hc : Names X x c) (tk : Takes X W) (hp : ∀ e C, p e = true → X.mg e = some (.ref C) → PySem.W.exmOne X.K (.ref C) c = some true)
    (hb : ∀ (W : WX) (pn : List (Addr × Obj)) (xe : Value → Shared → Prop), Takes (X.tr pn xe) W → PassesOwn (model X.prog X.w) X.A X.env xe → SSs (X.tr pn xe) B W body g)
    (hsu : ∀ (a : Addr) (pn : List (Addr × Obj)), SSs (X.suite a pn) B W0 (b₀ :: suite) gs) (hi : X.N[i]? = some n := by rfl) (hln : X.env.kindOf n = some .local := by rfl) :
    SS X B W (.Try body [.ExceptHandler (some (.Name x np)) (some n) (b₀ :: suite) pos'] [] [] pos) (sTry p i g gs) := by
  refine (ps_tryT (tb := fun W => tS X.wd B W g) (ts := tS X.wd B W0 gs) hs hf hN hi hln hc hb hsu).fw fun D σ H ⟨S, ι, lo, st, fm, pp⟩ => ?_
  refine ⟨S, ι, lo, st, fm, ?_⟩
  unfold sTry at pp
  cases e : g lo st with
  | bad => rw [e] at pp; exact pp.elim
  | ok r => rw [e] at pp; exact pp
  | exc cl fs lo1 st1 =>
    rw [e] at pp
    dsimp only at pp
    split at pp
    case isFalse => exact pp.elim
    rename_i hpc
    intro S1 ι1 σ1 H1 cls d f1 k1 xr
    obtain ⟨C, rfl, hm, hd⟩ := xr
    refine ⟨C, rfl, hp cl C hpc hm, fun a ha => ?_⟩
    obtain ⟨q1, q2, q3, q4⟩ := f1.free ha
    have fn := f1.new (o := exO C d a) ha
    have kn : Keep S1 ι1 H1 S1 ι1 (upd H1 a (exO C d a)) := (Ext.new ha).keep f1.rep
    have ff := fn.freeze upd_same q2 q3 q4
    have dt : Dt X.wd (fz1 S1 a) ι1 (upd H1 a (exO C d a)) (.ref a) (.exc cl fs) := by
      rcases hd with ⟨rfl, rfl⟩ | ⟨dd, vs, rfl, hsd, hxd, hn, hi⟩
      · exact .exc0 (.inr rfl) upd_same hm
      · refine .exc (.inr rfl) upd_same (.inl hsd) ((upd_ne (fun z => ?_)).trans hxd) hm hn fun j f m z1 z2 => ((hi j f m z1 z2).mono kn).mono .fz1
        rw [z, ha] at hxd; cases hxd
    have fs' := ff.set_val i dt
    refine ⟨fz1 S1 a, ι1, _, st1, fs', ?_⟩
    have kk : Keep S ι H (fz1 S1 a) ι1 (upd H1 a (exO C d a)) := k1.trans (kn.trans .fz1)
    split at pp
    · rename_i lo2 st2 eg
      rw [eg]
      exact fun S' ι' σ' H' fm' k' => pp S' ι' (σ'.set i none) H' (fm'.unset i) (kk.trans k')
    · rename_i m lo2 st2 eg
      rw [eg]
      exact fun S' ι' σ' H' v fm' k' rv => pp S' ι' (σ'.set i none) H' v (fm'.unset i) (kk.trans k') rv
    · exact pp.elim
end

section
open PySem.W PySem.Calls
theorem exc_cls {prog : Program} {w : World} {A : Around} {E : Value → Shared → Prop} {s : Shared} {K : Frag} {x D : Addr} {ox : Obj} {od : Option Obj} {Q : Option Value → Shared → Prop} (c : ExcC K D) (hf : findObj K D od "__class__" = some (.bind (.builtin "getset_descriptor.__get__") (.builtin "object.__class__")))
    (X : K.In s.heap) (I : PySem.W.InstAt s.heap x ox D od) (h : Q (some (.ref D)) { s with toks := s.toks + 1 }) : wpAny (model prog w) A (getAttr? (.ref x) "__class__") Q E s := by
  obtain ⟨h0, gn, dw, t, oo⟩ := s
  have tyx := I.type (M := model prog w)
  have isx : Looks (model prog w) h0 (isInstance (.ref x) (.type "BaseException")) true := tyx.andThen (looks_subIn X c.hs)
  unfold getAttr? getAttrBy? getAttrBy
  refine wpAny_bind (wpAny_mkText (wpAny_bind (wpAny_attempt (wpAny_holding (wpAny_bind (tyx.at (wpAny_bind ((looks_findIn (M := model prog w) X c.hg).at ?_))))))))
  have notobj : (onTheHeap (Value.ref D) && Value.builtin "BaseException.__getattribute__" == Value.builtin "object.__getattribute__") = false := by
    rw [show (Value.builtin "BaseException.__getattribute__" == Value.builtin "object.__getattribute__") = false by decide +kernel, Bool.and_false]
  refine KFB.if_not notobj ?_
  unfold getAttrByItsOwn hookBefore
  refine wpAny_bind (KFB.if_so rfl ((looks_findIn (M := model prog w) X c.hk).at ?_))
  refine wpAny_bind (wpAny_attempt (wpAny_holding ?_))
  unfold callGetattribute
  refine KFB.if_not rfl ?_
  unfold boundAndCalled
  rw [PySem.F.excAttr_ValueError.ga.bind (.ref x)]
  refine wpAny_bind (wpAny_pure (wpAny_call (codeAny_call_builtin PySem.F.excAttr_ValueError.ga.plain PySem.F.entry_bexc_ga
    (@check_slot (model prog w) _ _ ⟨h0, gn, dw, t + 1, oo⟩ "BaseException.__getattribute__" "BaseException" "__getattribute__" (.ref x) [.str "__class__" t] [] _ (by decide +kernel) (by decide +kernel) isx (PySem.F.args_bexc_ga (.ref x) (.str "__class__" t)) ?_))))
  unfold Builtin.«object.__getattribute__»
  refine wpAny_bind (wpAny_of_eq (a := ((Value.ref x : Value), [Value.str "__class__" t])) (by first | rfl | (simp only [slotArgs]; rfl)) (wpAny_bind (wpAny_pure (wpAny_bind (tyx.at (wpAny_bind ((looks_find (M := model prog w) X I hf).at ?_)))))))
  refine wpAny_bind (wpAny_holding (wpAny_call (class_get (s := ⟨h0, gn, dw, t + 1, oo⟩) X I c.hm ?_)))
  refine wpAny_pure (?_ : wpAny _ _ (handedOut (.ref D)) _ _ _)
  rw [handedOut_of (v := .ref D) rfl]
  first
    | exact wpAny_pure (wpAny_pure h)
    | exact wpAny_pure h
    | exact wpAny_pure (wpAny_bind (wpAny_pure (wpAny_pure h)))
theorem findObj_cls {K : Frag} {D : Addr} (c : ExcC K D) (od : Option Obj) : findObj K D od "__class__" = some (.bind (.builtin "getset_descriptor.__get__") (.builtin "object.__class__")) := by
  have hc : (clsIn K D).isSome = true := by
    obtain ⟨cd, e, _⟩ := any_some c.hd
    rw [e]; rfl
  rcases od with _ | o
  · exact findObj_dataN hc c.ha c.hn c.ht
  · exact findObj_data hc c.ha c.hn c.ht
theorem kitx_err {K : Frag} {x D : Addr} (c : ExcC K D) : KitX K (.ref x) (.ref D) (fun h => ∃ ox od, PySem.W.InstAt h x ox D od) := by
  obtain ⟨cd, hcd, _⟩ := any_some c.hd
  have there : ∃ o, K.lookup D = some o ∧ o.data = .cls cd := by
    unfold clsIn at hcd
    split at hcd
    · rename_i e; cases hcd; exact ⟨_, e, rfl⟩
    · cases hcd
  obtain ⟨o, lk, hdat⟩ := there
  refine ⟨fun _ _ _ ⟨_, _, I⟩ => I.type, fun M h X _ => ?_, fun h tp dd its n sl X z => ?_, fun {prog w A E Q s} X ⟨_, od, I⟩ k => exc_cls c (findObj_cls c od) X I k⟩
  · intro A Q E s k q
    unfold isType loadHead
    refine wpAny_bind (wpAny_loadPart (k _ _ (X _ _ lk)) ?_)
    rw [hdat]; exact wpAny_pure q
  · refine Bool.eq_false_iff.mpr fun e => ?_
    obtain rfl : D = tp := Value.ref.inj (beq_iff_eq.mp e)
    have e2 := (X _ _ lk).symm.trans z
    cases e2; cases hdat
end
/-- an error's object as the library's rules want it -/
theorem err_inst {X : Cx} {pins : List (Addr × Obj)} {σ : L2.St} {H : Hp} {s : Shared} {C a : Addr} {d : Option Addr} (I : L2.Inv X pins σ H s) (e : H a = some (exO C d a)) (hd : d = none ∨ ∃ dd fs, d = some dd ∧ H dd = some (.xd fs)) :
    ∃ ox od, PySem.W.InstAt s.heap a ox C od ∧ (∀ dd fs, d = some dd → H dd = some (.xd fs) → ∃ o mA, od = some o ∧ s.heap.get? dd = some o ∧ s.heap.Ns1 dd mA ∧ ∀ f, RelO (fs.lookup f) (mA f)) := by
  obtain ⟨oe, vs, g1, g2, g3, g4⟩ := exO_at I e
  obtain ⟨oc, odi, oda, osl⟩ := oe
  dsimp only at g2 g3 g4
  subst g2 g3 g4
  rcases hd with rfl | ⟨dd, fs, rfl, hx⟩
  · exact ⟨_, none, ⟨g1, rfl, rfl, trivial⟩, fun dd fs z => nomatch z⟩
  · obtain ⟨mA, hns, rel⟩ : ∃ mA, s.heap.Ns1 dd mA ∧ ∀ f, RelO (fs.lookup f) (mA f) := I.hok dd _ hx
    obtain ⟨o, es, ep, q1, q2⟩ := hns
    refine ⟨_, some o, ⟨g1, rfl, rfl, q1⟩, fun d2 f2 z1 z2 => ?_⟩
    cases z1
    rw [hx] at z2; cases z2
    exact ⟨o, mA, rfl, q1, ⟨o, es, ep, q1, q2⟩, rel⟩
/-- what a value's class is, as isinstance sees it -/
structure InsC (K : PySem.W.Frag) (C : Addr) : Prop where
  cls : L2.Cls K C
  ha : PySem.W.findIn K (.ref C) "__class__" = some (some (.builtin "object.__class__"))
  hn : PySem.W.specialIn K (.builtin "object.__class__") "__get__" = some (some (.builtin "getset_descriptor.__get__"))
  ht : PySem.W.takesIn K (.builtin "object.__class__") = some true
  hm : PySem.W.mroIn K C (.type "object") = some true
def rIsiA (K : PySem.W.Frag) : List V → Hp → VK → Prop := fun xs H Q => ∃ (x c : V) (t u : Value) (b : Bool), xs = [x, c] ∧ ClsV c u ∧
  (TyX K H x t ∨ (∃ a C d, x = .ref a ∧ H a = some (exO C d a) ∧ (d = none ∨ ∃ dd fs, d = some dd ∧ H dd = some (.xd fs)) ∧ ExcC K C ∧ t = .ref C) ∨ (∃ a o kvs, x = .ref a ∧ H a = some (.frz o (.dT kvs)) ∧ t = .type "dict")) ∧ PySem.W.kitOne K t u = some b ∧ Q (.bl b) H
theorem call_isiA {X : Cx} : CallR X (.builtin "isinstance") (rIsiA X.K) := by
  intro pins s σ H xs us Q I r h
  obtain ⟨x, c, t, u, b, rfl, k, ty, e, q⟩ := h
  rcases ty with ty | ⟨a, C, d, rfl, hH, hd, ec, rfl⟩ | ⟨a, ob, kvs, rfl, hH, rfl⟩
  · exact call_isi pins s σ H _ us Q I r ⟨x, c, t, u, b, rfl, k, ty, e, q⟩
  · obtain ⟨u1, u2, rfl, r1, r2⟩ := vals2 r
    obtain rfl := k.eq r2
    cases (show u1 = Value.ref a from r1)
    obtain ⟨ox, od, J, _⟩ := err_inst I hH hd
    exact PySem.W.kia_one (kitx_err ec) I.kIn ⟨ox, od, J⟩ e (fun z => nomatch z) fun tk => ⟨.bl b, H, I.tok tk, rfl, q⟩
  · obtain ⟨u1, u2, rfl, r1, r2⟩ := vals2 r
    obtain rfl := k.eq r2
    cases (show u1 = Value.ref a from r1)
    obtain ⟨_, _, _, _, _, o, _, _, h1, h2, _⟩ := (show ObjOk X.prog X.w H s.heap a (.frz ob (.dT kvs)) from I.hok a _ hH)
    exact PySem.W.kia_one PySem.W.kitx_dict I.kIn ⟨o, h1, h2.1⟩ e (fun z => nomatch z) fun tk => ⟨.bl b, H, I.tok tk, rfl, q⟩
def tyAns (ans : String → Option Bool) (oi oe : Str → Option Bool) : MV → Option Bool
  | .non => ans "NoneType"
  | .bl _ => ans "bool"
  | .int _ => ans "int"
  | .str _ => ans "str"
  | .tup _ => ans "tuple"
  | .lst _ => ans "list"
  | .dct _ => ans "dict"
  | .ins c _ => oi c
  | .exc c _ => oe c
  | _ => none
def mIsi (ans : String → Option Bool) (oi oe : Str → Option Bool) (fa : EF) : EF := fun lo st => fa lo st >>= fun (a, _, st1) => match tyAns ans oi oe (vw st1 a) with
  | some b => .ok (.bl b, .fz, st1)
  | none => .bad
section
variable {X : Cx} {B : Base} {W : WX} {a ec : Expr} {fa : EF} {p pos : Pos} {ans : String → Option Bool} {oi oe : Str → Option Bool} {u : Value} {c : V}
theorem se_isi (hg : Gl X "isinstance") (hm : X.mg "isinstance" = none) (ha : SE X B W a fa) (hc : PE X ec (tC c)) (k : ClsV c u)
    (hA : ∀ t b, ans t = some b → PySem.W.kitOne X.K (.type t) u = some b) (hI : ∀ n C b, oi n = some b → X.mg n = some (.ref C) → InsC X.K C ∧ PySem.W.kitOne X.K (.ref C) u = some b)
    (hE : ∀ n C b, oe n = some b → X.mg n = some (.ref C) → ExcC X.K C ∧ PySem.W.kitOne X.K (.ref C) u = some b)
    (he : starEach [a, ec] X.env = (false, eval a X.env) :: starEach [ec] X.env := by rfl) (he2 : starEach [ec] X.env = (false, eval ec X.env) :: starEach [] X.env := by rfl) (hpl : (backTo pos (starEach [ec] X.env)).any (·.1) = false := by rfl) :
    SE X B W (.Call (.Name "isinstance" p) [a, ec] [] pos) (mIsi ans oi oe fa) := by
  refine (pe_callB (r := rIsiA X.K) call_isiA hg hm PyProof.Rows.Boot.«isinstance» (pa_cons ha (pa_cons hc pa_nil he2) he) (by decide) (by decide) he hpl).fw fun σ H Q ⟨S, ι, lo, st, fm, pp⟩ => ?_
  refine tE.use fm (Post.bind pp) fun m kd st1 S1 ι1 H1 v f1 k1 r1 p1 => ?_
  obtain ⟨S1', f1', k1', h1⟩ := r1.hand f1
  have vr := h1.vr f1'
  dsimp only at p1
  split at p1
  case h_2 => exact p1.elim
  rename_i b eb
  have out := p1 S1' ι1 H1 _ f1' (k1.trans k1') (.bl b)
  show rIsiA X.K [v, c] H1 Q
  revert eb vr
  generalize vw st1 m = m2
  intro vr eb
  cases m2 with
  | non => cases vr; exact ⟨_, c, _, u, b, rfl, k, .inl (.base .non), hA _ b eb, out⟩
  | bl x => cases vr; exact ⟨_, c, _, u, b, rfl, k, .inl (.base (.bl _)), hA _ b eb, out⟩
  | int x => cases vr; exact ⟨_, c, _, u, b, rfl, k, .inl (.base (.int _)), hA _ b eb, out⟩
  | str x => cases vr; exact ⟨_, c, _, u, b, rfl, k, .inl (.base (.str _)), hA _ b eb, out⟩
  | tup x => obtain ⟨q, ws, rfl, g, _⟩ := vr; exact ⟨_, c, _, u, b, rfl, k, .inl (.base (.tup g)), hA _ b eb, out⟩
  | lst x => obtain ⟨q, ws, rfl, g, _⟩ := vr; exact ⟨_, c, _, u, b, rfl, k, .inl (.base (.lst g)), hA _ b eb, out⟩
  | dct x =>
    obtain ⟨q, rfl, ⟨kvs, g, _⟩ | ⟨kvs, g, _⟩⟩ := vr
    · rcases g with g | ⟨o, g⟩
      · exact ⟨_, c, _, u, b, rfl, k, .inl (.base (.dK g)), hA _ b eb, out⟩
      · exact ⟨_, c, _, u, b, rfl, k, .inl (.fDict g), hA _ b eb, out⟩
    · rcases g with g | ⟨o, g⟩
      · exact ⟨_, c, _, u, b, rfl, k, .inl (.base (.dT g)), hA _ b eb, out⟩
      · exact ⟨_, c, _, u, b, rfl, k, .inr (.inr ⟨q, o, kvs, rfl, g, rfl⟩), hA _ b eb, out⟩
  | ins n fs =>
    obtain ⟨q, C, dx, ws, rfl, g, hmc, _⟩ := vr
    obtain ⟨ic, kk⟩ := hI n C b eb hmc
    exact ⟨_, c, _, u, b, rfl, k, .inl (.base (.ins g ic.cls ic.ha ic.hn ic.ht ic.hm)), kk, out⟩
  | exc n fs =>
    obtain ⟨q, C, rfl, hmc, hd⟩ := vr
    obtain ⟨ic, kk⟩ := hE n C b eb hmc
    rcases hd with ⟨_, g⟩ | ⟨dd, ws, g, _, g2, _⟩
    · exact ⟨_, c, _, u, b, rfl, k, .inr (.inl ⟨q, C, _, rfl, g, .inl rfl, ic, rfl⟩), kk, out⟩
    · exact ⟨_, c, _, u, b, rfl, k, .inr (.inl ⟨q, C, _, rfl, g, .inr ⟨dd, ws, rfl, g2⟩, ic, rfl⟩), kk, out⟩
  | _ => cases eb
end
end FW

namespace FW
open PySem L2 PySem.Spec PyProof.Rows

section
variable {mg : Wd} {S : Addr → Prop} {ι : List Addr} {H : Hp}
theorem lookup_put {β : Type} (f g : Str) (y : β) (fs : List (Str × β)) : ((f, y) :: fs).lookup g = if g = f then some y else fs.lookup g := by
  by_cases h : g = f
  · subst h; simp [List.lookup]
  · have e : (g == f) = false := by simpa using h
    rw [if_neg h]; simp [List.lookup, e]
theorem look_both {f : Str} : ∀ {fs : List (Str × V)} {ms : List (Str × MV)} {m : MV}, fs.map (·.1) = ms.map (·.1) → (∀ (i : Nat) f m, fs[i]? = some f → ms[i]? = some m → Dt mg S ι H f.2 m.2) → ms.lookup f = some m → ∃ v, fs.lookup f = some v ∧ Dt mg S ι H v m
  | [], [], _, _, _, h => by cases h
  | [], _ :: _, _, hn, _, _ => by cases hn
  | _ :: _, [], _, hn, _, _ => by cases hn
  | (f1, v1) :: fs, (f2, m2) :: ms, m, hn, hi, h => by
    rw [List.map_cons, List.map_cons] at hn
    obtain ⟨e1, e2⟩ := List.cons.inj hn
    have e1' : f1 = f2 := e1
    subst e1'
    rw [FW.lookup_put] at h ⊢
    by_cases hf : f = f1
    · rw [if_pos hf] at h ⊢
      cases h
      exact ⟨v1, rfl, hi 0 _ _ rfl rfl⟩
    · rw [if_neg hf] at h ⊢
      exact look_both e2 (fun i a b q1 q2 => hi (i + 1) a b (by simpa using q1) (by simpa using q2)) h
end
def tFldA (K : PySem.W.Frag) (ta : TE) (f : Str) : TE := fun σ H Q => ta σ H fun x H1 => (∃ a C dx fs v, x = .ref a ∧ H1 a = some (.ins C dx fs) ∧ L2.Cls K C ∧ NoAttr K C f ∧ fs.lookup f = some v ∧ Q v H1) ∨
  ∃ a C dd fs v, x = .ref a ∧ H1 a = some (exO C (some dd) a) ∧ H1 dd = some (.xd fs) ∧ ExcC K C ∧ NoAttr K C f ∧ fs.lookup f = some v ∧ Q v H1
def gFld (f : Str) (oi oe : Str → Bool) : MV → Option MV
  | .ins c fs => if oi c = true then fs.lookup f else none
  | .exc c fs => if oe c = true then fs.lookup f else none
  | _ => none
def mFld (f : Str) (oi oe : Str → Bool) (fa : EF) : EF := fun lo st => fa lo st >>= fun (a, _, st1) => match gFld f oi oe (vw st1 a) with
  | some m => .ok (m, .fz, st1)
  | none => .bad
section
variable {X : Cx} {B : Base} {W : WX} {e : Expr} {f : Str} {fa : EF} {pos : Pos} {oi oe : Str → Bool}
theorem pe_fldA {ta : TE} (he : PE X e ta) (hb : attributeBase e f X.env (eval e X.env) = eval e X.env) : PE X (.Attribute e f pos) (tFldA X.K ta f) := by
  refine ⟨fun pins s σ H Q I h => attr_of hb (thn (he.run pins s σ H _ I h) fun u s1 got => ?_)⟩
  obtain ⟨x, H1, I1, rx, alt⟩ := got
  rcases alt with ⟨a, C, dx, fs, v, ex, ea, c, n, l, q⟩ | ⟨a, C, dd, fs, v, ex, ea, ed, c, n, l, q⟩
  · subst ex
    cases (show u = Value.ref a from rx)
    exact getattr_ok I1 ea c n l fun u2 s2 I2 ru => ⟨v, H1, I2, ru, q⟩
  · subst ex
    cases (show u = Value.ref a from rx)
    obtain ⟨ox, od, J, hod⟩ := err_inst I1 ea (.inr ⟨dd, fs, rfl, ed⟩)
    obtain ⟨o, mA, rfl, gd, ns, rel⟩ := hod dd fs rfl ed
    obtain ⟨o2, gd2, look⟩ := lookIn_ns ns
    rw [gd] at gd2; cases gd2
    obtain ⟨w, hw, rw2⟩ := RelO.some_of (v := v) (o := mA f) (by rw [← l]; exact rel f)
    exact PySem.HandSPX.exc_get I1.kIn J c.hg c.hk c.hs (PySem.W.findObj_own c.hd n rfl (by rw [look, hw])) (handed_of rw2) ⟨v, H1, I1.tok _, rw2, q⟩
theorem se_fld (he : SE X B W e fa) (hI : ∀ n C, oi n = true → X.mg n = some (.ref C) → L2.Cls X.K C ∧ NoAttr X.K C f) (hE : ∀ n C, oe n = true → X.mg n = some (.ref C) → ExcC X.K C ∧ NoAttr X.K C f)
    (hb : attributeBase e f X.env (eval e X.env) = eval e X.env := by rfl) : SE X B W (.Attribute e f pos) (mFld f oi oe fa) := by
  refine (pe_fldA he hb).fw fun σ H Q ⟨S, ι, lo, st, fm, pp⟩ => ?_
  refine tE.use fm (Post.bind pp) fun m kd st1 S1 ι1 H1 v f1 k1 r1 p1 => ?_
  obtain ⟨S1', f1', k1', h1⟩ := r1.hand f1
  have vr := h1.vr f1'
  dsimp only at p1
  split at p1
  case h_2 => exact p1.elim
  rename_i b eb
  have out := fun w d => p1 S1' ι1 H1 w f1' (k1.trans k1') d
  revert eb vr
  generalize vw st1 m = m2
  intro vr eb
  cases m2 with
  | ins n fs =>
    obtain ⟨q, C, dx, ws, rfl, g, hmc, hn, hi⟩ := vr
    have eb : (if oi n = true then fs.lookup f else none) = some b := eb
    split at eb
    · rename_i ho
      obtain ⟨c, na⟩ := hI n C ho hmc
      obtain ⟨w, l, d⟩ := look_both hn hi eb
      exact .inl ⟨q, C, dx, ws, w, rfl, g, c, na, l, out w d⟩
    · cases eb
  | exc n fs =>
    obtain ⟨q, C, rfl, hmc, hd⟩ := vr
    have eb : (if oe n = true then fs.lookup f else none) = some b := eb
    split at eb
    · rename_i ho
      obtain ⟨c, na⟩ := hE n C ho hmc
      rcases hd with ⟨rfl, _⟩ | ⟨dd, ws, g, _, g2, hn, hi⟩
      · cases eb
      · obtain ⟨w, l, d⟩ := look_both hn hi eb
        exact .inr ⟨q, C, dd, ws, w, rfl, g, g2, c, na, l, out w d⟩
    · cases eb
  | _ => cases eb
end

mutual
/-- plain data at a value, {} among them -/
inductive RdX (h : Heap) : Value → PyData → Prop
  | non : RdX h .none .none
  | bl (b : Bool) : RdX h (.bool b) (.bool b)
  | int (i : Int) (t : Tok) : RdX h (.int i t) (.int i)
  | str (x : Str) (t : Tok) : RdX h (.str x t) (.str x)
  | lst {a : Addr} {o : Obj} {vs : Array Value} {n : Nat} {xs : List PyData} : h.get? a = some o → o.cls = .type "list" → o.data = .seq vs n → RdXs h vs.toList xs → RdX h (.ref a) (.list xs)
  | tup {a : Addr} {o : Obj} {vs : Array Value} {n : Nat} {xs : List PyData} : h.get? a = some o → o.cls = .type "tuple" → o.data = .seq vs n → RdXs h vs.toList xs → RdX h (.ref a) (.tuple xs)
  | dct {a : Addr} {o : Obj} {es : Array DictEntry} {n : Nat} {kvs : List (PyData × PyData)} : h.get? a = some o → o.cls = .type "dict" → o.data = .dict es n → (a == sysModules) = false →
      RdXs h (es.toList.map (·.key)) (kvs.map (·.1)) → RdXs h (es.toList.map (·.val)) (kvs.map (·.2)) → RdX h (.ref a) (.dict kvs)
inductive RdXs (h : Heap) : List Value → List PyData → Prop
  | nil : RdXs h [] []
  | cons {v : Value} {vs : List Value} {d : PyData} {ds : List PyData} : RdX h v d → RdXs h vs ds → RdXs h (v :: vs) (d :: ds)
end
section
variable {prog : Program} {w : World} {h : Heap}
mutual
theorem RdX.reads : ∀ {v : Value} {d : PyData}, RdX h v d → ∃ as, Reads h v d as
  | _, _, .non => ⟨_, .none⟩
  | _, _, .bl b => ⟨_, .bool b⟩
  | _, _, .int i t => ⟨_, .int i t⟩
  | _, _, .str x t => ⟨_, .str x t⟩
  | _, _, .lst h1 h2 h3 h4 => let ⟨_, r⟩ := RdXs.reads h4; ⟨_, .list h1 h2 h3 r⟩
  | _, _, .tup h1 h2 h3 h4 => let ⟨_, r⟩ := RdXs.reads h4; ⟨_, .tuple h1 h2 h3 r⟩
  | _, _, .dct h1 h2 h3 _ h4 h5 => let ⟨_, r⟩ := RdXs.reads h4; let ⟨_, q⟩ := RdXs.reads h5; ⟨_, .dict h1 h2 h3 r q⟩
theorem RdXs.reads : ∀ {vs : List Value} {ds : List PyData}, RdXs h vs ds → ∃ as, ReadsAll h vs ds as
  | _, _, .nil => ⟨_, .nil⟩
  | _, _, .cons a b => let ⟨_, r⟩ := RdX.reads a; let ⟨_, q⟩ := RdXs.reads b; ⟨_, .cons r q⟩
end
mutual
theorem RdX.reprK : ∀ {v : Value} {d : PyData}, RdX h v d → d.showable = true → d.shown.length ≤ sizeLine → ∃ bs, ReadAtMost h d.depth bs ∧ ReprK prog w bs h d.depth v d.shown
  | _, _, .non, _, _ => ⟨[], (fun _ h => nomatch h), by simp only [PyData.shown]; exact .of_is ReprIs.none _ _ _⟩
  | _, _, .bl b, _, _ => ⟨[], (fun _ h => nomatch h), by simp only [PyData.shown]; exact .of_is (ReprIs.bool b) _ _ _⟩
  | _, _, .int i t, hs, _ => ⟨[], (fun _ h => nomatch h), by simp only [PyData.shown]; exact .of_is (ReprIs.int t (by simpa [PyData.showable] using hs)) _ _ _⟩
  | _, _, .str x t, _, hz => ⟨[], (fun _ h => nomatch h), by simp only [PyData.shown]; exact .of_is (ReprIs.str x t (by simpa only [PyData.shown] using hz)) _ _ _⟩
  | _, _, .lst (a := a) (vs := vs) (xs := xs) h1 h2 h3 h4, hs, hz => by
    have hz' : (listText (PyData.shownAll xs)).length ≤ sizeLine := by simpa only [PyData.shown] using hz
    obtain ⟨bs, hb, hk⟩ := RdXs.reprK h4 (by simpa [PyData.showable] using hs) (fun t ht => Nat.le_trans (listText_mem_le ht) hz')
    obtain ⟨as, q⟩ := h4.reads
    have r : Reads h (.ref a) (.list xs) _ := .list h1 h2 h3 q
    have hna : a ∉ bs := not_mem_of_deeper r (by simp only [PyData.depth]; omega) hb
    refine ⟨a :: bs, ReadAtMost.cons r (by simp only [PyData.depth]; omega) hb, ?_⟩
    simp only [PyData.depth, PyData.shown]
    obtain ⟨l⟩ := vs
    cases l with
    | nil =>
      have h4' : RdXs h [] xs := h4
      cases h4'
      simp only [PyData.shownAll, listText_nil]
      exact ReprK.listEmpty h1 h2 h3
    | cons x l => exact ReprK.list h1 h2 h3 hna (by simpa using hk.length_eq) (fun i y e => hk.item i y (by simpa using e))
  | _, _, .tup (a := a) (xs := xs) h1 h2 h3 h4, hs, hz => by
    have hz' : (tupleText (PyData.shownAll xs)).length ≤ sizeLine := by simpa only [PyData.shown] using hz
    obtain ⟨bs, hb, hk⟩ := RdXs.reprK h4 (by simpa [PyData.showable] using hs) (fun t ht => Nat.le_trans (tupleText_mem_le ht) hz')
    obtain ⟨as, q⟩ := h4.reads
    have r : Reads h (.ref a) (.tuple xs) _ := .tuple h1 h2 h3 q
    have hna : a ∉ bs := not_mem_of_deeper r (by simp only [PyData.depth]; omega) hb
    refine ⟨a :: bs, ReadAtMost.cons r (by simp only [PyData.depth]; omega) hb, ?_⟩
    simp only [PyData.depth, PyData.shown]
    exact ReprK.tuple h1 h2 h3 hna hk
  | _, _, .dct (a := a) (es := es) (kvs := kvs) h1 h2 h3 hy h4 h5, hs, hz => by
    have hz' : (dictText (PyData.shownKv kvs)).length ≤ sizeLine := by simpa only [PyData.shown] using hz
    obtain ⟨s1, s2⟩ := PyData.showableKv_split kvs (by simpa [PyData.showable] using hs)
    obtain ⟨b1, q1, k1⟩ := RdXs.reprK h4 s1 fun t ht => by
      obtain ⟨p, hp, hl⟩ := PyData.shownKv_key_le kvs t ht
      exact Nat.le_trans hl (Nat.le_trans (dictText_mem_le hp) hz')
    obtain ⟨b2, q2, k2⟩ := RdXs.reprK h5 s2 fun t ht => by
      obtain ⟨p, hp, hl⟩ := PyData.shownKv_val_le kvs t ht
      exact Nat.le_trans hl (Nat.le_trans (dictText_mem_le hp) hz')
    have hb : ReadAtMost h (PyData.depthKv kvs) (b1 ++ b2) := (q1.mono (PyData.depthAll_keys_le kvs)).append (q2.mono (PyData.depthAll_vals_le kvs))
    obtain ⟨a1, r1⟩ := h4.reads
    obtain ⟨a2, r2⟩ := h5.reads
    have r : Reads h (.ref a) (.dict kvs) _ := .dict h1 h2 h3 r1 r2
    have hna : a ∉ b1 ++ b2 := not_mem_of_deeper r (by simp only [PyData.depth]; omega) hb
    refine ⟨a :: (b1 ++ b2), ReadAtMost.cons r (by simp only [PyData.depth]; omega) hb, ?_⟩
    simp only [PyData.depth, PyData.shown, PyData.shownKv_eq]
    exact ReprK.dict h1 h2 h3 hy hna (ReprEntriesK.of_two es.toList _ _ (k1.more_le (fun b hb => List.mem_append_left _ hb) (PyData.depthAll_keys_le kvs)) (k2.more_le (fun b hb => List.mem_append_right _ hb) (PyData.depthAll_vals_le kvs)))
theorem RdXs.reprK : ∀ {vs : List Value} {ds : List PyData}, RdXs h vs ds → PyData.showableAll ds = true → (∀ t ∈ PyData.shownAll ds, t.length ≤ sizeLine) →
    ∃ bs, ReadAtMost h (PyData.depthAll ds) bs ∧ ReprAllK prog w bs h (PyData.depthAll ds) vs (PyData.shownAll ds)
  | _, _, .nil, _, _ => ⟨[], (fun _ h => nomatch h), by simp only [PyData.shownAll]; exact .nil⟩
  | _, _, .cons (d := d) (ds := ds) r rs, hs, hz => by
    have hs' : d.showable = true ∧ PyData.showableAll ds = true := by simpa [PyData.showableAll] using hs
    obtain ⟨b1, hb1, k1⟩ := RdX.reprK r hs'.1 (hz _ (by simp only [PyData.shownAll]; exact List.mem_cons_self ..))
    obtain ⟨b2, hb2, k2⟩ := RdXs.reprK rs hs'.2 (fun t ht => hz t (by simp only [PyData.shownAll]; exact List.mem_cons_of_mem _ ht))
    refine ⟨b1 ++ b2, ?_, ?_⟩
    · intro b hm
      simp only [PyData.depthAll]
      rcases List.mem_append.mp hm with hm | hm
      · obtain ⟨d', as', r', hd'⟩ := hb1 b hm
        exact ⟨d', as', r', Nat.le_trans hd' (Nat.le_max_left _ _)⟩
      · obtain ⟨d', as', r', hd'⟩ := hb2 b hm
        exact ⟨d', as', r', Nat.le_trans hd' (Nat.le_max_right _ _)⟩
    · simp only [PyData.depthAll, PyData.shownAll]
      exact .cons ((k1.more fun b hb => List.mem_append_left _ hb).level_le (Nat.le_max_left _ _)) (k2.more_le (fun b hb => List.mem_append_right _ hb) (Nat.le_max_right _ _))
end
/-- repr of a list or a tuple with {} in it -/
theorem shows_rdx {a : Addr} {d : PyData} (r : RdX h (.ref a) d) (hs : d.showable = true) (hsz : d.shown.length ≤ sizeLine) : ∃ T idr, ShowsBy prog w h a d T idr := by
  cases r with
  | lst h1 h2 h3 h4 =>
    rename_i o vs n xs
    have hz' : (listText (PyData.shownAll xs)).length ≤ sizeLine := by simpa only [PyData.shown] using hsz
    obtain ⟨bs, hb, hk⟩ := RdXs.reprK (prog := prog) (w := w) h4 (by simpa [PyData.showable] using hs) (fun t ht => Nat.le_trans (listText_mem_le ht) hz')
    obtain ⟨as, q⟩ := h4.reads
    have hna : a ∉ bs := not_mem_of_deeper (.list h1 h2 h3 q) (by simp only [PyData.depth]; omega) hb
    refine ⟨"list", "list.__repr__", F.slot_list_repr.toG, F.slot_list_str, F.slot_list_format, fun s hk0 => ⟨o, hk0 _ _ h1, h2⟩, fun A E s Q hg hu hk0 hQ => ?_⟩
    simp only [PyData.depth] at hu
    simp only [PyData.shown] at hQ
    obtain ⟨l⟩ := vs
    cases l with
    | nil =>
      have h4' : RdXs h [] xs := h4
      cases h4'
      simp only [PyData.shownAll, listText_nil] at hQ
      exact call_list_repr_empty ⟨o, hk0 _ _ h1, h2⟩ (hk0 _ _ h1) h3 (hQ s.heap _ _ fun _ _ e => e)
    | cons x l =>
      exact call_list_reprK h1 h2 h3 hna (by simpa using hk.length_eq) (fun i y e => hk.item i y (by simpa using e)) hg (fun b _ => Clear.nil b) hu hk0 hQ hz'
  | tup h1 h2 h3 h4 =>
    rename_i o vs n xs
    have hz' : (tupleText (PyData.shownAll xs)).length ≤ sizeLine := by simpa only [PyData.shown] using hsz
    obtain ⟨bs, hb, hk⟩ := RdXs.reprK (prog := prog) (w := w) h4 (by simpa [PyData.showable] using hs) (fun t ht => Nat.le_trans (tupleText_mem_le ht) hz')
    obtain ⟨as, q⟩ := h4.reads
    have hna : a ∉ bs := not_mem_of_deeper (.tuple h1 h2 h3 q) (by simp only [PyData.depth]; omega) hb
    refine ⟨"tuple", "tuple.__repr__", F.slot_tuple_repr, F.slot_tuple_str, F.slot_tuple_format, fun s hk0 => ⟨o, hk0 _ _ h1, h2⟩, fun A E s Q hg hu hk0 hQ => ?_⟩
    simp only [PyData.depth] at hu
    simp only [PyData.shown] at hQ
    exact call_tuple_reprK h1 h2 h3 hna hk hg (fun b _ => Clear.nil b) hu hk0 hQ hz'
  | dct h1 h2 h3 hy h4 h5 =>
    rename_i o es n kvs
    have hz' : (dictText (PyData.shownKv kvs)).length ≤ sizeLine := by simpa only [PyData.shown] using hsz
    obtain ⟨s1, s2⟩ := PyData.showableKv_split kvs (by simpa [PyData.showable] using hs)
    obtain ⟨b1, q1, k1⟩ := RdXs.reprK (prog := prog) (w := w) h4 s1 fun t ht => by
      obtain ⟨p, hp, hl⟩ := PyData.shownKv_key_le kvs t ht
      exact Nat.le_trans hl (Nat.le_trans (dictText_mem_le hp) hz')
    obtain ⟨b2, q2, k2⟩ := RdXs.reprK (prog := prog) (w := w) h5 s2 fun t ht => by
      obtain ⟨p, hp, hl⟩ := PyData.shownKv_val_le kvs t ht
      exact Nat.le_trans hl (Nat.le_trans (dictText_mem_le hp) hz')
    have hb : ReadAtMost h (PyData.depthKv kvs) (b1 ++ b2) := (q1.mono (PyData.depthAll_keys_le kvs)).append (q2.mono (PyData.depthAll_vals_le kvs))
    obtain ⟨a1, r1⟩ := h4.reads
    obtain ⟨a2, r2⟩ := h5.reads
    have hna : a ∉ b1 ++ b2 := not_mem_of_deeper (.dict h1 h2 h3 r1 r2) (by simp only [PyData.depth]; omega) hb
    refine ⟨"dict", "dict.__repr__", F.slot_dict_repr, F.slot_dict_str, F.slot_dict_format, fun s hk0 => ⟨o, hk0 _ _ h1, h2⟩, fun A E s Q hg hu hk0 hQ => ?_⟩
    simp only [PyData.depth] at hu
    simp only [PyData.shown, PyData.shownKv_eq] at hQ
    have hE := ReprEntriesK.of_two es.toList _ _ (k1.more_le (fun b hb => List.mem_append_left b2 hb) (PyData.depthAll_keys_le kvs)) (k2.more_le (fun b hb => List.mem_append_right b1 hb) (PyData.depthAll_vals_le kvs))
    exact call_dict_reprK h1 h2 h3 hy hna hE hg (fun b _ => Clear.nil b) hu hk0 hQ (by rw [← PyData.shownKv_eq]; exact hz')
end
def kD : Key → PyData
  | .inl i => .int i
  | .inr x => .str x
mutual
inductive DpX (K : PySem.W.Frag) (H : Hp) : V → PyData → Prop
  | non : DpX K H .non .none
  | bl (b : Bool) : DpX K H (.bl b) (.bool b)
  | int (i : Int) : DpX K H (.int i) (.int i)
  | str (x : Str) : DpX K H (.str x) (.str x)
  | lst {a : Addr} {xs : List V} {ds : List PyData} : Rd H a (.lst xs) → DpXs K H xs ds → DpX K H (.ref a) (.list ds)
  | tup {a : Addr} {xs : List V} {ds : List PyData} : Rd H a (.tup xs) → DpXs K H xs ds → DpX K H (.ref a) (.tuple ds)
  | dctT {a : Addr} : Rd H a (.dT []) → DpX K H (.ref a) (.dict [])
  | dct {a : Addr} {kvs : List (Key × V)} {ds : List PyData} : Rd H a (.dK kvs) → DpXs K H (kvs.map (·.2)) ds → DpX K H (.ref a) (.dict ((kvs.map fun p => kD p.1).zip ds))
inductive DpXs (K : PySem.W.Frag) (H : Hp) : List V → List PyData → Prop
  | nil : DpXs K H [] []
  | cons {v : V} {vs : List V} {d : PyData} {ds : List PyData} : DpX K H v d → DpXs K H vs ds → DpXs K H (v :: vs) (d :: ds)
end
section
variable {X : Cx} {pins : List (Addr × Obj)} {σ : L2.St} {H : Hp} {s : Shared}
theorem keys_rdx {w : World} {h : Heap} : ∀ {es : List DictEntry} {ks : List Key} {vs : List (Key × Value)}, Pairs (mixKind X.prog w) es vs → vs.map (·.1) = ks → RdXs h (es.map (·.key)) (ks.map kD)
  | _, _, _, .nil, e => by subst e; exact .nil
  | _, _, _, .cons (kv := kv) h1 _ r, e => by
    subst e
    refine .cons ?_ (keys_rdx r rfl)
    show RdX h _ (kD kv.1)
    dsimp only
    rcases keyIs_shape h1 with ⟨i, t, e1, e2⟩ | ⟨x, t, e1, e2⟩
    · rw [e1, e2]; exact .int i t
    · rw [e1, e2]; exact .str x t
theorem pairs_vals {w : World} : ∀ {es : List DictEntry} {vs : List (Key × Value)}, Pairs (mixKind X.prog w) es vs → es.map (·.val) = vs.map (·.2)
  | _, _, .nil => rfl
  | _, _, .cons _ h2 r => by rw [List.map_cons, List.map_cons, h2, pairs_vals r]
theorem kv_two : ∀ {kvs : List (Key × V)} {vs : List (Key × Value)}, KV kvs vs → vs.map (·.1) = kvs.map (·.1) ∧ Vals (kvs.map (·.2)) (vs.map (·.2))
  | _, _, .nil => ⟨rfl, .nil⟩
  | _, _, .cons h r => by
    obtain ⟨a, b⟩ := kv_two r
    exact ⟨by rw [List.map_cons, List.map_cons, a, h.1], .cons h.2 b⟩
theorem RdXs.len {h : Heap} : ∀ {vs : List Value} {ds : List PyData}, RdXs h vs ds → vs.length = ds.length
  | _, _, .nil => rfl
  | _, _, .cons _ r => by rw [List.length_cons, List.length_cons, RdXs.len r]
mutual
theorem DpX.rdx (I : Inv X pins σ H s) : ∀ {v : V} {d : PyData}, DpX X.K H v d → ∀ u : Value, RelV v u → RdX s.heap u d
  | _, _, .non, _, r => by
    cases r
    exact .non
  | _, _, .bl b, _, r => by
    cases r
    exact .bl b
  | _, _, .int i, _, r => by
    obtain ⟨t, rfl⟩ := r
    exact .int i t
  | _, _, .str x, _, r => by
    obtain ⟨t, rfl⟩ := r
    exact .str x t
  | _, _, .lst hs ha, _, r => by
    cases r
    obtain ⟨its, rv, ⟨o, n, ho, hc, _, hd⟩, _⟩ := I.list (.inl hs)
    exact .lst ho hc hd (DpX.rdxs I ha its rv)
  | _, _, .tup hs ha, _, r => by
    cases r
    obtain ⟨its, rv, ⟨o, ho, hc, n, hd⟩, _⟩ := I.tuple (.inl hs)
    exact .tup ho hc hd (DpX.rdxs I ha its rv)
  | _, _, .dctT (a := p) hp, u, r => by
    cases (show u = Value.ref p from r)
    obtain ⟨_, n, vs, kv, o, es, ep, g1, g2, g3, g4, _⟩ := hp.ok I.hok
    cases kv
    have e0 : es.toList = [] := g4
    exact .dct (kvs := []) g1 g2.1 g3 n (by rw [e0]; exact .nil) (by rw [e0]; exact .nil)
  | _, _, .dct (a := p) (kvs := kvs) (ds := ds) hp ha, u, r => by
    cases (show u = Value.ref p from r)
    obtain ⟨_, n, vs, kv, o, es, ep, g1, g2, g3, _, g4, _⟩ := hp.ok I.hok
    obtain ⟨e1, rv⟩ := kv_two kv
    have hv := DpX.rdxs I ha _ rv
    have hk := keys_rdx (h := s.heap) g4 e1
    have hl : (kvs.map fun p => kD p.1).length = ds.length := by
      have q1 := hv.len
      have q2 := hk.len
      have q3 := congrArg List.length (pairs_vals g4)
      have q4 := congrArg List.length e1
      simp only [List.length_map] at q1 q2 q3 q4 ⊢
      omega
    refine .dct g1 g2.1 g3 n ?_ ?_
    · rw [List.map_fst_zip (Nat.le_of_eq hl)]
      rw [List.map_map] at hk
      exact hk
    · rw [List.map_snd_zip (Nat.le_of_eq hl.symm), pairs_vals g4]
      exact hv
theorem DpX.rdxs (I : Inv X pins σ H s) : ∀ {vs : List V} {ds : List PyData}, DpXs X.K H vs ds → ∀ us : List Value, Vals vs us → RdXs s.heap us ds
  | _, _, .nil, _, r => by
    cases r
    exact .nil
  | _, _, .cons h1 h2, _, r => by
    cases r with
    | cons r1 r2 => exact .cons (DpX.rdx I h1 _ r1) (DpX.rdxs I h2 _ r2)
end
end
def rReprD (K : PySem.W.Frag) : List V → Hp → VK → Prop := fun xs H Q => ∃ x d, xs = [x] ∧ DpX K H x d ∧ d.showable = true ∧ d.shown.length ≤ sizeLine ∧ d.depth ≤ 60 ∧ Q (.str d.shown) H
theorem call_repr {X : Cx} {k : Nat} (hr : RoomG k X.A) : CallR X (.builtin "repr") (rReprD X.K) := by
  intro pins s σ H xs us Q I r h
  obtain ⟨x, d, rfl, hd, hs, hl, hz, q⟩ := h
  obtain ⟨u, rfl, ru⟩ := vals_one r
  have units := hr.r.units
  have big : ∀ {a : Addr}, RdX s.heap (.ref a) d → wpAny (model X.prog X.w) X.A (call (.builtin "repr") [.ref a]) (EP X pins σ Q) X.xe s := fun {a} rd => by
    obtain ⟨T, idr, S⟩ := shows_rdx (prog := X.prog) (w := X.w) rd hs hl
    exact call_repr_slot (by omega) (S.typeIs s (fun _ _ z => z)) S.slotRepr (S.call X.A.in1 X.xe s _ hr.g (by show X.A.units + 1 + d.depth < cLine; omega) (fun _ _ z => z) fun h' u tk hk => ⟨_, _, rfl, ⟨.str d.shown, H, I.kept (t' := tk) hk, ⟨_, rfl⟩, q⟩⟩)
  have rd := DpX.rdx I hd u ru
  cases hd with
  | non =>
    cases (show u = Value.none from ru)
    exact PySem.P.repr_of_none ⟨.str _, H, I.tok _, ⟨_, rfl⟩, by simpa only [PyData.shown] using q⟩
  | bl b =>
    cases (show u = Value.bool b from ru)
    exact PySem.P.repr_of_bool ⟨.str _, H, I.tok _, ⟨_, rfl⟩, by simpa only [PyData.shown] using q⟩
  | int i =>
    obtain ⟨t, rfl⟩ := (show ∃ t, u = Value.int i t from ru)
    exact PySem.P.repr_of_int (by simpa [PyData.showable] using hs) ⟨.str _, H, I.tok _, ⟨_, rfl⟩, by simpa only [PyData.shown] using q⟩
  | str z =>
    obtain ⟨t, rfl⟩ := (show ∃ t, u = Value.str z t from ru)
    exact PySem.P.repr_of_str ⟨.str _, H, I.tok _, ⟨_, rfl⟩, by simpa only [PyData.shown] using q⟩ (by simpa only [PyData.shown] using hl)
  | lst _ _ => cases (show u = Value.ref _ from ru); exact big rd
  | tup _ _ => cases (show u = Value.ref _ from ru); exact big rd
  | dctT _ => cases (show u = Value.ref _ from ru); exact big rd
  | dct _ _ => cases (show u = Value.ref _ from ru); exact big rd
/-- a key shown -/
def kyD : MV → Option PyData
  | .int i => some (.int i)
  | .str x => some (.str x)
  | _ => none
def toX (st : Sto) : Nat → MV → Option PyData
  | 0, _ => none
  | k + 1, m => match vw st m with
    | .non => some .none
    | .bl b => some (.bool b)
    | .int i => some (.int i)
    | .str x => some (.str x)
    | .lst xs => (mapO (toX st k) xs).map .list
    | .tup xs => (mapO (toX st k) xs).map .tuple
    | .dct [] => some (.dict [])
    | .dct ps => (match mapO kyD (ps.map (·.1)), mapO (toX st k) (ps.map (·.2)) with
      | some ks, some ds => some (.dict (ks.zip ds))
      | _, _ => none)
    | _ => none
section
variable {mg : Wd} {S : Addr → Prop} {ι : List Addr} {H : Hp} {st : Sto} {v : V} {m : MV}
theorem dpXs_of {f : MV → Option PyData} : ∀ {ms : List MV} {vs : List V} {ds : List PyData}, AllD mg S ι H vs ms → (∀ v m d, Dt mg S ι H v m → f m = some d → DpX mg.K H v d) → mapO f ms = some ds → DpXs mg.K H vs ds
  | [], vs, ds, a, h, e => by
    obtain rfl := a.inv_nil
    cases e; exact .nil
  | m :: ms, vs, ds, a, h, e => by
    obtain ⟨v, vs', rfl, d, r⟩ := a.inv_cons
    unfold mapO at e
    split at e
    · rename_i y ys e1 e2
      cases e
      exact .cons (h v m y d e1) (dpXs_of r h e2)
    · cases e
theorem kyD_keys : ∀ {kvs : List (Key × V)} {ps : List (MV × MV)} {ks : List PyData}, kvs.length = ps.length → (∀ (i : Nat) kv q, kvs[i]? = some kv → ps[i]? = some q → q.1 = kM kv.1) → mapO kyD (ps.map (·.1)) = some ks → ks = kvs.map fun q => kD q.1
  | [], [], ks, _, _, e => by cases e; rfl
  | kv :: kvs, p :: ps, ks, hl, h, e => by
    have h0 := h 0 kv p rfl rfl
    rw [List.map_cons] at e
    unfold mapO at e
    split at e
    · rename_i y ys e1 e2
      cases e
      rw [h0] at e1
      have := kyD_keys (kvs := kvs) (ps := ps) (by simpa using hl) (fun i a b q1 q2 => h (i + 1) a b (by simpa using q1) (by simpa using q2)) e2
      rw [List.map_cons, ← this]
      cases hk : kv.1 with
      | inl i => rw [hk] at e1; cases e1; rfl
      | inr x => rw [hk] at e1; cases e1; rfl
    · cases e
theorem VR.dpx (r : Rep mg S ι H st) : ∀ (k : Nat) (v : V) (m : MV) (d : PyData), VR mg S ι H v (vw st m) → toX st k m = some d → DpX mg.K H v d
  | 0, v, m, d, h, e => by cases e
  | k + 1, v, m, d, h, e => by
    have go : ∀ v m d, Dt mg S ι H v m → toX st k m = some d → DpX mg.K H v d := fun v m d q e => VR.dpx r k v m d (q.vr r) e
    unfold toX at e
    split at e
    · rename_i q; rw [q] at h; cases h; cases e; exact .non
    · rename_i q; rw [q] at h; cases h; cases e; exact .bl _
    · rename_i q; rw [q] at h; cases h; cases e; exact .int _
    · rename_i q; rw [q] at h; cases h; cases e; exact .str _
    · rename_i xs q
      rw [q] at h
      obtain ⟨p, vs, rfl, h1, d1⟩ := h
      obtain ⟨ds, e1, rfl⟩ := Option.map_eq_some_iff.mp e
      exact .lst (.inl h1) (dpXs_of d1 go e1)
    · rename_i xs q
      rw [q] at h
      obtain ⟨p, vs, rfl, h1, d1⟩ := h
      obtain ⟨ds, e1, rfl⟩ := Option.map_eq_some_iff.mp e
      exact .tup (.inl h1) (dpXs_of d1 go e1)
    · rename_i q
      rw [q] at h
      cases e
      obtain ⟨p, rfl, ⟨kvs, g, hl, _⟩ | ⟨kvs, g, hl, _⟩⟩ := h
      · obtain rfl := List.length_eq_zero_iff.mp hl
        exact .dct (ds := []) g .nil
      · obtain rfl := List.length_eq_zero_iff.mp hl
        exact .dctT g
    · rename_i ps hne q
      rw [q] at h
      split at e
      · rename_i ks ds e1 e2
        cases e
        obtain ⟨p, rfl, ⟨kvs, g, hl, hi⟩ | ⟨kvs, g, hl, hi⟩⟩ := h
        · have hk : ks = kvs.map fun q => kD q.1 := kyD_keys hl (fun i kv q a b => (hi i kv q a b).1) e1
          rw [hk]
          exact .dct g (dpXs_of ⟨by simp [hl], fun i v m a b => by
            rw [List.getElem?_map] at a b
            obtain ⟨kv, h1, rfl⟩ := Option.map_eq_some_iff.mp a
            obtain ⟨q, h2, rfl⟩ := Option.map_eq_some_iff.mp b
            exact (hi i kv q h1 h2).2⟩ go e2)
        · exfalso
          cases ps with
          | nil => exact hne rfl
          | cons q1 ps =>
            cases kvs with
            | nil => cases hl
            | cons kv kvs =>
              have h0 := (hi 0 kv q1 rfl rfl).1
              rw [List.map_cons, h0] at e1
              cases e1
      · cases e
    · cases e
end
def gRepr : GL
  | st, [m] => (toX st dpt m).bind fun d => if d.showable = true ∧ d.shown.length ≤ sizeLine ∧ d.depth ≤ 60 then some (.str d.shown, false) else none
  | _, _ => none
theorem ok_repr {X : Cx} : CallOk X (rReprD X.K) gRepr := by
  intro S ι H st vs as z Q hr ha e w
  unfold gRepr at e
  split at e
  case h_2 => cases e
  rename_i m
  obtain ⟨v, rfl, vr⟩ := ha.one
  obtain ⟨d, ed, e⟩ := Option.bind_eq_some_iff.mp e
  split at e
  case isFalse => cases e
  rename_i hc
  cases e
  exact ⟨v, d, rfl, VR.dpx (mg := X.wd) hr _ v m d (by rw [vw_of_vr vr]; exact vr) ed, hc.1, hc.2.1, hc.2.2, w _ (.str _)⟩

def gIn (neg : Bool) : G2 := fun st a b => match toD st dpt a, toD st dpt b with
  | some d, some (.list ds) => if SeqAt.shaped d = true ∧ SeqAt.shaped (.list ds) = true then some (.bl (if neg then !(ds.any fun z => PyData.eqv z d) else ds.any fun z => PyData.eqv z d), false) else none
  | _, _ => none
theorem ok_in {X : Cx} : Op2 X (rInD X.K) (gIn false) := by
  intro S ι H st x y a b z Q hr ha hb e w
  unfold gIn at e
  split at e
  · rename_i d ds e1 e2
    split at e
    · rename_i hs
      cases e
      exact ⟨d, ds, VR.dp (mg := X.wd) hr _ x a d (by rw [vw_of_vr ha]; exact ha) e1, VR.dp (mg := X.wd) hr _ y b (.list ds) (by rw [vw_of_vr hb]; exact hb) e2, hs.1, hs.2, w _ (.bl _)⟩
    · cases e
  · cases e
theorem ok_notIn {X : Cx} : Op2 X (rNotInD X.K) (gIn true) := by
  intro S ι H st x y a b z Q hr ha hb e w
  unfold gIn at e
  split at e
  · rename_i d ds e1 e2
    split at e
    · rename_i hs
      cases e
      exact ⟨d, ds, VR.dp (mg := X.wd) hr _ x a d (by rw [vw_of_vr ha]; exact ha) e1, VR.dp (mg := X.wd) hr _ y b (.list ds) (by rw [vw_of_vr hb]; exact hb) e2, hs.1, hs.2, w _ (.bl _)⟩
    · cases e
  · cases e
section
variable {X : Cx} {B : Base} {W : WX} {a b : Expr} {fa fb : EF} {pos apos cpos : Pos} {k : Nat}
theorem se_in (hr : RoomG k X.A) (ha : SE X B W a fa) (hb : SE X B W b fb) (hm : behindInMarks .In b = false := by first | exact nomark _ | rfl) : SE X B W (.Compare a [.In] [b] pos) (mOp (gIn false) fa fb) := se_cmp (op_inD (by have := hr.r.un; omega)) ok_in ha hb hm
theorem se_notIn (hr : RoomG k X.A) (ha : SE X B W a fa) (hb : SE X B W b fb) (hm : behindInMarks .NotIn b = false := by first | exact nomark _ | rfl) : SE X B W (.Compare a [.NotIn] [b] pos) (mOp (gIn true) fa fb) := se_cmp (op_notInD (by have := hr.r.un; omega)) ok_notIn ha hb hm
end
end FW

namespace FW
open PySem L2 PySem.Spec PyProof.Rows

def tyOk (T : String) : MV → Bool
  | .lst _ => T == "list"
  | .str _ => T == "str"
  | .int _ => T == "int"
  | _ => false
theorem tyOk_v {mg : Wd} {S : Addr → Prop} {ι : List Addr} {H : Hp} {T : String} {v : V} {m : MV} (vr : VR mg S ι H v m) (h : tyOk T m = true) : tyV mg.K T v H := by
  cases m with
  | lst xs => obtain ⟨p, vs, rfl, g, _⟩ := vr; exact .inl ⟨eq_of_beq h, vs, .of g⟩
  | str x => cases vr; exact eq_of_beq h
  | int x => cases vr; exact eq_of_beq h
  | _ => cases h
def MethOk (X : Cx) (r : V → List V → Hp → VK → Prop) (g : GL) : Prop := ∀ S ι H st v vs a as z Q, Rep X.wd S ι H st → VR X.wd S ι H v a → VRs X.wd S ι H vs as → g st (a :: as) = some z → Wants X.wd S ι H Q z → r v vs H Q
def mBm (T : String) (gl : GL) (fo : EF) (g : AF) : EF := fun lo st => fo lo st >>= fun (t, _, st1) => if tyOk T (vw st1 t) = true then g lo st1 >>= fun (l, st2) => giveOut (gl st2 (vw st2 t :: l.map fun z => vw st2 z.1)) st2 else .bad
def mBm0 (T : String) (gl : GL) (fo : EF) : EF := fun lo st => fo lo st >>= fun (t, _, st1) => if tyOk T (vw st1 t) = true then giveOut (gl st1 [vw st1 t]) st1 else .bad
section
variable {X : Cx} {B : Base} {W : WX} {o e : Expr} {es : List Expr} {fo : EF} {g : AF} {apos cpos : Pos} {T id : String} {name : Str} {r : V → List V → Hp → VK → Prop} {gl : GL}
theorem se_bm (pa : PlainAttrs T) (slot : Slot T name id) (hty : typeOf (.builtin id) = pure (.type "method_descriptor")) (hm : MtR X id r) (ok : MethOk X r gl) (ho : SE X B W o fo) (ha : SA X B W (e :: es) g)
    (hbase : attributeBase o name X.env (eval o X.env) = eval o X.env := by rfl)
    (hfew : ((backTo cpos (starEach (e :: es) X.env)).all (fun x => !x.1) && (backToKw cpos (keywordEach [] X.env)).all (fun x => x.1.isSome) && decide ((e :: es).length + ([] : List Keyword).length + (if ([] : List Keyword).isEmpty then 0 else 1) < 30)) = true := by rfl)
    (hline : (apos.endLine == cpos.line) = true := by rfl) (hs : starEach (e :: es) X.env = (false, eval e X.env) :: starEach es X.env := by rfl) (hplain : (backTo cpos (starEach es X.env)).any (·.1) = false := by rfl) :
    SE X B W (.Call (.Attribute o name apos) (e :: es) [] cpos) (mBm T gl fo g) := by
  refine (pe_bm pa slot hty hm ho ha hbase hfew hline hs hplain).fw fun σ H Q ⟨S, ι, lo, st, fm, pp⟩ => ?_
  refine tE.use fm (Post.bind pp) fun t kt st1 S1 ι1 H1 ov f1 k1 r1 p1 => ?_
  obtain ⟨S1', f1', k1', h1⟩ := r1.hand f1
  dsimp only at p1
  split at p1
  case isFalse => exact p1.elim
  rename_i hT
  refine ⟨tyOk_v (h1.vr f1') hT, ?_⟩
  refine tA.use f1' (Post.bind (p1.mono (k1.trans k1') fun _ z => z)) fun l st2 S2 ι2 H2 vs f2 k2 r2 p2 => ?_
  obtain ⟨u, e2, w⟩ := give_of f2 ((k1.trans k1').trans k2) p2
  exact ok S2 ι2 H2 _ ov vs _ _ u Q f2.rep ((h1.mono k2).vr f2) (r2.vrs f2) e2 w
theorem se_bm0 (pa : PlainAttrs T) (slot : Slot T name id) (hty : typeOf (.builtin id) = pure (.type "method_descriptor")) (hm : MtR X id r) (ok : MethOk X r gl) (ho : SE X B W o fo)
    (hbase : attributeBase o name X.env (eval o X.env) = eval o X.env := by rfl) (hline : (apos.endLine == cpos.line) = true := by rfl) : SE X B W (.Call (.Attribute o name apos) [] [] cpos) (mBm0 T gl fo) := by
  refine (pe_bm0 pa slot hty hm ho hbase hline).fw fun σ H Q ⟨S, ι, lo, st, fm, pp⟩ => ?_
  refine tE.use fm (Post.bind pp) fun t kt st1 S1 ι1 H1 ov f1 k1 r1 p1 => ?_
  obtain ⟨S1', f1', k1', h1⟩ := r1.hand f1
  dsimp only at p1
  split at p1
  case isFalse => exact p1.elim
  rename_i hT
  have vr := h1.vr f1'
  obtain ⟨u, e2, w⟩ := give_of f1' (k1.trans k1') p1
  exact ⟨tyOk_v vr hT, ok S1' ι1 H1 _ ov [] _ [] u Q f1'.rep vr ⟨rfl, fun i v m z => by simp at z⟩ e2 w⟩
end

def fstIx (d : PyData) : Nat → List PyData → Option Nat
  | _, [] => none
  | n, z :: zs => if PyData.eqv z d = true then some n else fstIx d (n + 1) zs
theorem fstIx_spec {d : PyData} : ∀ {ds : List PyData} {n j : Nat}, fstIx d n ds = some j → ∃ i z, j = n + i ∧ ds[i]? = some z ∧ PyData.eqv z d = true ∧ ∀ (m : Nat) z', m < i → ds[m]? = some z' → PyData.eqv z' d = false
  | [], _, _, h => by cases h
  | x :: ds, n, j, h => by
    unfold fstIx at h
    split at h
    · rename_i e
      cases h
      exact ⟨0, x, rfl, rfl, e, fun m _ hm => absurd hm (Nat.not_lt_zero _)⟩
    · rename_i ne
      obtain ⟨i, z, rfl, hz, he, hno⟩ := fstIx_spec h
      refine ⟨i + 1, z, by omega, by simpa using hz, he, fun m z' hm q => ?_⟩
      cases m with
      | zero => simp at q; subst q; simpa using ne
      | succ m => exact hno m z' (by omega) (by simpa using q)
def gIndex : GL
  | st, [.lst xs, b] => match toD st dpt (.lst xs), toD st dpt b with
    | some (.list ds), some d => if SeqAt.shaped (.list ds) = true ∧ SeqAt.shaped d = true then (fstIx d 0 ds).map fun j => (.int (j : Nat), false) else none
    | _, _ => none
  | _, _ => none
theorem ok_index {X : Cx} : MethOk X (rIndexD X.K) gIndex := by
  intro S ι H st v vs a as z Q hr ha hb e w
  unfold gIndex at e
  split at e
  case h_2 => cases e
  rename_i xs b heq
  cases heq
  split at e
  case h_2 => cases e
  rename_i ds d e1 e2
  split at e
  case isFalse => cases e
  rename_i hs
  obtain ⟨j, hj, rfl⟩ := Option.map_eq_some_iff.mp e
  obtain ⟨i, y, rfl, hy, he, hno⟩ := fstIx_spec hj
  obtain ⟨u, rfl, vb⟩ := hb.one
  have va := ha
  obtain ⟨p, ws, rfl, g, dw⟩ := ha
  refine ⟨p, u, d, ds, i, y, rfl, rfl, VR.dp (mg := X.wd) hr _ _ (.lst xs) (.list ds) va e1, VR.dp (mg := X.wd) hr _ u b d (by rw [vw_of_vr vb]; exact vb) e2, hs.1, hs.2, hy, he, hno, ?_⟩
  have := w _ (.int _)
  simpa using this
section
variable {X : Cx} {B : Base} {W : WX} {o e : Expr} {fo : EF} {g : AF} {apos cpos : Pos} {k : Nat}
theorem se_index (hr : RoomG k X.A) (ho : SE X B W o fo) (ha : SA X B W [e] g)
    (hbase : attributeBase o "index" X.env (eval o X.env) = eval o X.env := by rfl)
    (hfew : ((backTo cpos (starEach [e] X.env)).all (fun x => !x.1) && (backToKw cpos (keywordEach [] X.env)).all (fun x => x.1.isSome) && decide (([e] : List Expr).length + ([] : List Keyword).length + (if ([] : List Keyword).isEmpty then 0 else 1) < 30)) = true := by rfl)
    (hline : (apos.endLine == cpos.line) = true := by rfl) (hs : starEach [e] X.env = (false, eval e X.env) :: starEach [] X.env := by rfl) (hplain : (backTo cpos (starEach [] X.env)).any (·.1) = false := by rfl) :
    SE X B W (.Call (.Attribute o "index" apos) [e] [] cpos) (mBm "list" gIndex fo g) :=
  se_bm PySem.F.plainAttrs_list PySem.F.slot_list_index (by rfl) (mt_indexD (by have := hr.r.un; omega)) ok_index ho ha hbase hfew hline hs hplain
end
end FW

namespace FW
open PySem L2 PySem.Spec PyProof.Rows PySem.W

/-- one address tracked -/
def one (a : Addr) (o : Option HO) : Hp := fun b => if b = a then o else none
theorem one_ne {a b : Addr} {o : Option HO} (h : b ≠ a) : one a o b = none := if_neg h
theorem one_self {a : Addr} {o : Option HO} : one a o a = o := if_pos rfl
/-- the law's def is called at the heap behind the top -/
theorem law_end1 {P : Program} {w : World} {K : Frag} {mg mb : Str → Option Value} {k : Nat} {fa a : Addr} {fd : FuncData} {x : Str} {FM : FF} {s1 : Shared} {vs : List Value} {ns : List Int} {oo : Option HO} {S : Addr → Prop}
    (KX : K.In s1.heap) (hns : s1.heap.Ns mainGlobals mg) (hb : s1.heap.Ns builtinsNs mb) (hbb : ∀ x : Str, x ≠ "__name__" → mb x = bootBuiltins x) (hlim : s1.heap.NoLimit) (hg : s1.gens = #[])
    (ha : s1.heap.get? a = some { cls := .type "list", data := .seq vs.toArray }) (hr : RoomG k callerA)
    (F : ∀ base : Heap, K.In base → base.Ns mainGlobals mg → FnG P w K mg base k fa fd [x] (spM ⟨K, mg⟩ 1 FM)) (hbind : ∀ (s : Shared) (u : Value), K.In s.heap → BindsTo s fd ⟨[u], []⟩ [(x, u)])
    (hK : oo ≠ none → K.lookup a = none) (hok : HOk P w (one a oo) s1.heap) (hoo : ∀ u, oo = some u → ∃ o xs, u = .frz o (.lst xs)) (hS : ∀ b, S b → oo ≠ none ∧ b = a)
    (hd : Dt ⟨K, mg⟩ S [] (one a oo) (.ref a) (.scr ns)) (hF : ∃ st, FM [.scr ns] [] = .ok (.bl true, false, st)) :
    codeAny (model P w) callerA (.call (.ref fa) ⟨[.ref a], []⟩) (fun r s' => r = .ok (.ret (.bool true)) ∧ OldK s1.heap s'.heap ∧ s'.os = s1.os ∧ AllBare s'.gens) s1 := by
  have hide : ∀ {b : Addr} {o : Obj}, s1.heap.get? b = some o → one a oo b = none → (hidT s1.heap (one a oo)).get? b = some o := fun e n => hidT_get e n
  have away : ∀ {b : Addr} {o : Obj} {es : Array DictEntry} {ep : Nat}, s1.heap.get? b = some o → o.data = .dict es ep → one a oo b = none := by
    intro b o es ep e d
    refine one_ne fun z => ?_
    subst z
    rw [ha] at e; cases e; cases d
  have ns' : ∀ {b : Addr} {m : Str → Option Value}, s1.heap.Ns b m → (hidT s1.heap (one a oo)).Ns b m := by
    rintro b m ⟨o, es, ep, e, d, r⟩
    exact ⟨o, es, ep, hide e (away e d), d, r⟩
  have kin : K.In (hidT s1.heap (one a oo)) := by
    intro b o e
    refine hide (KX b o e) ?_
    by_cases z : b = a
    · subst z
      rw [one_self]
      cases q : oo with
      | none => rfl
      | some u => rw [hK (by rw [q]; exact fun y => nomatch y)] at e; cases e
    · exact one_ne z
  obtain ⟨mc, l1, l2⟩ := hlim
  have e0 : Env0 P w K mg (hidT s1.heap (one a oo)) callerA [] s1 (one a oo) :=
    { frames := rfl, mod := ⟨kin, ns' hns, ⟨mb, ns' hb, hbb⟩, ⟨mc, ns' l1, l2⟩⟩, bs := fun b o e => of_hidT e, bsz := Nat.le_of_eq (hidT_size _ _), funs := trivial, frf := fun b z => absurd (show b ∈ ([] : List Addr) from z) List.not_mem_nil, hok := hok, bare := .of_eq hg }
  obtain ⟨st, hF⟩ := hF
  have rep : Rep ⟨K, mg⟩ S [] (one a oo) [] := by
    refine ⟨rfl, List.nodup_nil, fun b z => absurd z List.not_mem_nil, fun b z => ?_, fun n b m z => by simp at z⟩
    obtain ⟨h1, rfl⟩ := hS b z
    rw [one_self]
    cases oo with
    | none => exact absurd rfl h1
    | some u => exact ⟨u, rfl⟩
  have sp : spM ⟨K, mg⟩ 1 FM [.ref a] (one a oo) (fun v _ => v = .bl true) (fun _ _ _ => False) := by
    refine ⟨rfl, S, [], [], [.scr ns], rep, AllD.cons hd .nil, ?_⟩
    rw [hF]
    intro S' ι' H' v _ _ rv
    cases (show Dt ⟨K, mg⟩ S' ι' H' v (.bl true) from rv)
    rfl
  refine codeAny_mono ((F _ kin (ns' hns)).run callerA [] s1 (one a oo) ⟨[.ref a], []⟩ [.ref a] [.ref a] _ _ hr e0 (hbind s1 (.ref a) KX) (.cons rfl .nil) sp) fun r s' h => ?_
  rcases r with e | (_ | _ | _ | u)
  · obtain ⟨_, _, _, _, _, _, _, _, _, _, _, _, z⟩ := (show L2.CX P w [] (one a oo) s1 (fun _ _ _ => False) e s' from h)
    exact z.elim
  · exact (show False from h).elim
  · exact (show False from h).elim
  · exact (show False from h).elim
  · obtain ⟨v, H2, os, bare, un, hok2, rv, q⟩ := (show CE [] P w (one a oo) s1 (fun v _ => v = .bl true) u s' from h)
    subst q
    obtain rfl : u = Value.bool true := rv
    refine ⟨rfl, OldK.of_keep fun b o e => ?_, os, bare⟩
    by_cases z : b = a
    · subst z
      cases q : oo with
      | none => exact un.keep b o e (by rw [one_self, q]) (fun z => nomatch z) (fun z => nomatch z)
      | some u =>
        obtain ⟨ob, xs, rfl⟩ := hoo u q
        have t0 : one b oo b = some (.frz ob (.lst xs)) := by rw [one_self, q]
        have t2 := un.frzs b ob _ t0
        obtain ⟨g1, _⟩ := hok b _ t0
        obtain ⟨g2, _⟩ := hok2 b _ t2
        rw [g1] at e; cases e; exact g2
    · exact un.keep b o e (one_ne z) (fun z => nomatch z) (fun z => nomatch z)
theorem law_end {l : OpenLaw} {n k : Nat} {q : Program} {loose : List Str} {XP : (Str → Option Value) → Heap → Prop} {YP : World → Heap → Prop} {d : DefRec} {K : Params → Frag} {FM : FF} {x : Str}
    (hn : l.most = some n) (hn2 : n ≤ sizeLine) (hdf : d.params.defaults = []) (hr : RoomG k callerA) (hY : ∀ (w : World) (h : Heap), YP w h → (K w.params).In h)
    (F : ∀ (w : World) (mg : Str → Option Value) (fa : Addr) (h : Heap), (K w.params).In h → h.Ns mainGlobals mg → mg d.name = some (.ref fa) →
      ∃ fd : FuncData, (∀ (s : Shared) (u : Value), (K w.params).In s.heap → BindsTo s fd ⟨[u], []⟩ [(x, u)]) ∧ ∀ base : Heap, (K w.params).In base → base.Ns mainGlobals mg → FnG l.prog w (K w.params) mg base k fa fd [x] (spM ⟨K w.params, mg⟩ 1 FM))
    (hF : ∀ ns : List Int, ns.length ≤ n → ∃ st, FM [.scr ns] [] = .ok (.bl true, false, st)) :
    WalkO q loose XP YP l.row.toRowW d [] (fun f vs => PySem.call f vs) := by
  refine Att.attach_call hn hdf fun w s0 s1 mg mb fa o pm cd doc a vs ns G Y ho hd hcd hmg hobj hints hlen hg => ?_
  have KX := hY w _ Y
  obtain ⟨fd, hb, hF2⟩ := F w mg fa _ KX G.T.g hmg
  have rv := vals_ints hints
  have hl : ns.length ≤ sizeLine := Nat.le_trans hlen hn2
  have lenV := hints.length
  cases hk : (K w.params).lookup a with
  | some ob =>
    have e := KX a ob hk
    rw [hobj] at e; cases e
    refine law_end1 (oo := none) (S := fun _ => False) (ns := ns) KX G.T.g G.T.b G.T.builtins G.T.nolimit hg hobj hr hF2 hb (fun z => absurd rfl z) (fun b u z => ?_) (fun u z => nomatch z) (fun b z => z.elim) (.scr (.inr fun H' => ?_)) (hF ns hlen)
    · have z2 : one a none b = some u := z
      unfold one at z2
      split at z2 <;> cases z2
    · exact .inr ⟨_, vs.toArray, _, hk, rfl, rfl, rfl, by rw [List.size_toArray, lenV]; exact hl, by simpa using rv⟩
  | none =>
    refine law_end1 (oo := some (.frz { cls := .type "list", data := .seq vs.toArray } (.lst (ns.map V.int)))) (S := fun b => b = a) (ns := ns) KX G.T.g G.T.b G.T.builtins G.T.nolimit hg hobj hr hF2 hb (fun _ => hk) (fun b u z => ?_) (fun u z => ?_) (fun b z => ⟨(fun y => nomatch y), z⟩) (.scr (.inl ⟨rfl, .inr ⟨_, one_self⟩⟩)) (hF ns hlen)
    · unfold one at z
      split at z
      · cases z
        rename_i hb'
        subst hb'
        exact ⟨hobj, by rw [List.length_map]; exact hl, vs, _, rv, hobj⟩
      · cases z
    · cases z; exact ⟨_, _, rfl⟩
end FW
namespace FW
open PySem L2 PySem.Spec PyProof.Rows PySem.W
theorem end_use {P : Program} {w : World} {K : Frag} {mg : Str → Option Value} {k : Nat} {fa : Addr} {x : Str} {sp : Sp} (h : ∃ fd : FuncData, (∀ (s : Shared) (v : Value), K.In s.heap → BindsTo s fd ⟨[v], []⟩ [(x, v)]) ∧ ∀ (w : World) (base : Heap), FnG P w K mg base k fa fd [x] sp) :
    ∃ fd : FuncData, (∀ (s : Shared) (u : Value), K.In s.heap → BindsTo s fd ⟨[u], []⟩ [(x, u)]) ∧ ∀ base : Heap, K.In base → base.Ns mainGlobals mg → FnG P w K mg base k fa fd [x] sp := by
  obtain ⟨fd, h1, h2⟩ := h
  exact ⟨fd, h1, fun base _ _ => h2 w base⟩
end FW

namespace FW
open PySem L2 PySem.Spec PyProof.Rows

def tys7 : List String := ["NoneType", "bool", "int", "str", "tuple", "list", "dict"]
def isT (T t : String) : Option Bool := if t ∈ tys7 then some (t == T || (T == "int" && t == "bool")) else none
theorem isT_by {K : PySem.W.Frag} {T : String} (h : ∀ t ∈ tys7, kitB t T = some (t == T || (T == "int" && t == "bool"))) : ∀ t b, isT T t = some b → PySem.W.kitOne K (.type t) (.type T) = some b := by
  intro t b e
  unfold isT at e
  split at e
  · rename_i m
    cases e
    exact kit_ty (h t m)
  · cases e
theorem isT_int {K : PySem.W.Frag} : ∀ t b, isT "int" t = some b → PySem.W.kitOne K (.type t) (.type "int") = some b := isT_by (by decide +kernel)
theorem isT_bool {K : PySem.W.Frag} : ∀ t b, isT "bool" t = some b → PySem.W.kitOne K (.type t) (.type "bool") = some b := isT_by (by decide +kernel)
theorem isT_str {K : PySem.W.Frag} : ∀ t b, isT "str" t = some b → PySem.W.kitOne K (.type t) (.type "str") = some b := isT_by (by decide +kernel)
theorem isT_tuple {K : PySem.W.Frag} : ∀ t b, isT "tuple" t = some b → PySem.W.kitOne K (.type t) (.type "tuple") = some b := isT_by (by decide +kernel)
theorem isT_list {K : PySem.W.Frag} : ∀ t b, isT "list" t = some b → PySem.W.kitOne K (.type t) (.type "list") = some b := isT_by (by decide +kernel)
theorem isT_dict {K : PySem.W.Frag} : ∀ t b, isT "dict" t = some b → PySem.W.kitOne K (.type t) (.type "dict") = some b := isT_by (by decide +kernel)
/-- none of the program's classes -/
def noC : Str → Option Bool := fun _ => none
/-- an own class among those told, asked to be d -/
def eqc (l : List Str) (d : Str) : Str → Option Bool := fun c => if c ∈ l then some (decide (c = d)) else none
theorem eqc_use {l : List Str} {d : Str} {mg : Str → Option Value} {R : Addr → Bool → Prop} (h : ∀ c, c ∈ l → ∀ C, mg c = some (.ref C) → R C (decide (c = d))) : ∀ n C b, eqc l d n = some b → mg n = some (.ref C) → R C b := by
  intro n C b e hm
  unfold eqc at e
  split at e
  · rename_i m
    cases e
    exact h n m C hm
  · cases e
/-- a type asked to be an own class -/
def noT (t : String) : Option Bool := if t ∈ tys7 then some false else none
theorem noT_by {K : PySem.W.Frag} {D : Addr} (c : PySem.W.isClsIn K D = true) (ty : PySem.W.typeIn K (.ref D) = some (.type "type")) (h : ∀ t ∈ tys7, PySem.W.subIn K (.type t) (.ref D) = some false) : ∀ t b, noT t = some b → PySem.W.kitOne K (.type t) (.ref D) = some b := by
  intro t b e
  unfold noT at e
  split at e
  · rename_i m
    cases e
    unfold PySem.W.kitOne PySem.W.kitCls
    have hc : (PySem.W.clsIn K D).isSome = true := c
    have hn : ¬ ((Value.type t == Value.ref D) = true) := by simp
    rw [if_neg hn]
    show (if ((PySem.W.clsIn K D).isSome && PySem.W.typeIn K (.ref D) == some (.type "type")) = true then PySem.W.subIn K (.type t) (.ref D) else none) = some false
    rw [hc, ty, if_pos (by decide +kernel)]
    exact h t m
  · cases e
def noRefs (o : Option (List Value)) : Bool := match o with
  | some l => l.all (fun v => match v with | .ref _ => false | _ => true)
  | none => false
theorem noRefs_map {D : Addr} {o : Option (List Value)} (h : noRefs o = true) : o.map (fun x => x.contains (.ref D)) = some false := by
  cases o with
  | none => cases h
  | some l =>
    show some (l.contains (.ref D)) = some false
    congr 1
    rw [Bool.eq_false_iff]
    intro z
    cases List.all_eq_true.mp h _ (List.contains_iff_mem.mp z)
theorem sub_ty_own {K : PySem.W.Frag} {D : Addr} {T : String} (h : noRefs (PySem.fastBuiltinMro T) = true) : PySem.W.subIn K (.type T) (.ref D) = some false := by
  show (PySem.fastBuiltinMro T).map (fun x => x.contains (.ref D)) = some false
  exact noRefs_map h
theorem sub7 {K : PySem.W.Frag} {D : Addr} : ∀ t ∈ tys7, PySem.W.subIn K (.type t) (.ref D) = some false := by
  intro t m
  unfold tys7 at m
  simp only [List.mem_cons, List.not_mem_nil, or_false] at m
  rcases m with rfl | rfl | rfl | rfl | rfl | rfl | rfl
  all_goals exact sub_ty_own (by decide +kernel)
theorem noT_ok {K : PySem.W.Frag} {D : Addr} (c : PySem.W.isClsIn K D = true) (ty : PySem.W.typeIn K (.ref D) = some (.type "type")) : ∀ t b, noT t = some b → PySem.W.kitOne K (.type t) (.ref D) = some b := noT_by c ty sub7
theorem kit_own {K : PySem.W.Frag} {C D : Addr} {b : Bool} (c : PySem.W.isClsIn K D = true) (ty : PySem.W.typeIn K (.ref D) = some (.type "type")) (h : PySem.W.subIn K (.ref C) (.ref D) = some b) (hb : C = D → b = true) : PySem.W.kitOne K (.ref C) (.ref D) = some b := by
  unfold PySem.W.kitOne PySem.W.kitCls
  by_cases e : C = D
  · subst e
    rw [if_pos (by simp), hb rfl]
  · have hn : ¬ ((Value.ref C == Value.ref D) = true) := by simpa using e
    have hc : (PySem.W.clsIn K D).isSome = true := c
    rw [if_neg hn]
    show (if ((PySem.W.clsIn K D).isSome && PySem.W.typeIn K (.ref D) == some (.type "type")) = true then PySem.W.subIn K (.ref C) (.ref D) else none) = some b
    rw [hc, ty, if_pos (by decide +kernel)]
    exact h
section
variable {X : Cx} {B : Base} {W : WX} {a : Expr} {fa : EF} {p p2 pos : Pos}
/-- isinstance(a, T), T a built-in type -/
theorem se_isT (T : String) {oi oe : Str → Option Bool} {x : Str} (hg : Gl X "isinstance") (hm : X.mg "isinstance" = none) (hg2 : Gl X x) (hm2 : X.mg x = none) (hv : bootBuiltins x = some (.type T)) (hA : ∀ t b, isT T t = some b → PySem.W.kitOne X.K (.type t) (.type T) = some b)
    (ha : SE X B W a fa) (hI : ∀ n C b, oi n = some b → X.mg n = some (.ref C) → InsC X.K C ∧ PySem.W.kitOne X.K (.ref C) (.type T) = some b)
    (hE : ∀ n C b, oe n = some b → X.mg n = some (.ref C) → ExcC X.K C ∧ PySem.W.kitOne X.K (.ref C) (.type T) = some b) (hn : x ≠ "__name__" := by decide) (hd : (x == ("__debug__" : Str)) = false := by decide)
    (he : starEach [a, .Name x p2] X.env = (false, eval a X.env) :: starEach [.Name x p2] X.env := by rfl) (he2 : starEach [.Name x p2] X.env = (false, eval (.Name x p2) X.env) :: starEach [] X.env := by rfl) (hpl : (backTo pos (starEach [.Name x p2] X.env)).any (·.1) = false := by rfl) :
    SE X B W (.Call (.Name "isinstance" p) [a, .Name x p2] [] pos) (mIsi (isT T) oi oe fa) :=
  se_isi hg hm ha (pe_bltn hg2 hm2 hv (v := .ty T) rfl hn hd) (.ty T) hA hI hE he he2 hpl
theorem noC_I {R : Addr → Bool → Prop} {mg : Str → Option Value} : ∀ n C b, noC n = some b → mg n = some (.ref C) → R C b := fun n C b h => by cases h
/-- isinstance(a, D), D an own class -/
theorem se_isD {oi oe : Str → Option Bool} {x : Str} {D : Addr} (hg : Gl X "isinstance") (hm : X.mg "isinstance" = none) (hg2 : Gl X x) (hm2 : X.mg x = some (.ref D)) (hA : ∀ t b, noT t = some b → PySem.W.kitOne X.K (.type t) (.ref D) = some b)
    (ha : SE X B W a fa) (hI : ∀ n C b, oi n = some b → X.mg n = some (.ref C) → InsC X.K C ∧ PySem.W.kitOne X.K (.ref C) (.ref D) = some b)
    (hE : ∀ n C b, oe n = some b → X.mg n = some (.ref C) → ExcC X.K C ∧ PySem.W.kitOne X.K (.ref C) (.ref D) = some b) (hd : (x == ("__debug__" : Str)) = false := by decide)
    (he : starEach [a, .Name x p2] X.env = (false, eval a X.env) :: starEach [.Name x p2] X.env := by rfl) (he2 : starEach [.Name x p2] X.env = (false, eval (.Name x p2) X.env) :: starEach [] X.env := by rfl) (hpl : (backTo pos (starEach [.Name x p2] X.env)).any (·.1) = false := by rfl) :
    SE X B W (.Call (.Name "isinstance" p) [a, .Name x p2] [] pos) (mIsi noT oi oe fa) :=
  se_isi hg hm ha (pe_glob hg2 hm2 (v := .ref D) rfl hd) (.own D) hA hI hE he he2 hpl
end
section
variable {X : Cx} {B : Base} {W : WX} {a b : Expr} {fa fb : EF} {pos : Pos} {k : Nat}
theorem st_lt (ha : SE X B W a fa) (hb : SE X B W b fb) : STe X B W (.Compare a [.Lt] [b] pos) (mTv (mOp gLt fa fb)) := st_cmp op_lt (ok_i0 fun _ _ _ _ _ _ => .bl _) ha hb (nomark _)
theorem st_le (ha : SE X B W a fa) (hb : SE X B W b fb) : STe X B W (.Compare a [.LtE] [b] pos) (mTv (mOp gLe fa fb)) := st_cmp op_le (ok_i0 fun _ _ _ _ _ _ => .bl _) ha hb (nomark _)
theorem st_gt (ha : SE X B W a fa) (hb : SE X B W b fb) : STe X B W (.Compare a [.Gt] [b] pos) (mTv (mOp gGt fa fb)) := st_cmp op_gt (ok_i0 fun _ _ _ _ _ _ => .bl _) ha hb (nomark _)
theorem st_ge (ha : SE X B W a fa) (hb : SE X B W b fb) : STe X B W (.Compare a [.GtE] [b] pos) (mTv (mOp gGe fa fb)) := st_cmp op_ge (ok_i0 fun _ _ _ _ _ _ => .bl _) ha hb (nomark _)
theorem st_eq (hr : RoomG k X.A) (ha : SE X B W a fa) (hb : SE X B W b fb) : STe X B W (.Compare a [.Eq] [b] pos) (mTv (mOp (gEqB false) fa fb)) := st_cmp (op_eqD hr.r.units) ok_eq ha hb (nomark _)
theorem st_ne (hr : RoomG k X.A) (ha : SE X B W a fa) (hb : SE X B W b fb) : STe X B W (.Compare a [.NotEq] [b] pos) (mTv (mOp (gEqB true) fa fb)) := st_cmp (op_neD hr.r.units) ok_ne ha hb (nomark _)
theorem st_isN (ha : SE X B W a fa) (hb : SE X B W b fb) : STe X B W (.Compare a [.Is] [b] pos) (mTv (mOp (gIsN false) fa fb)) := st_cmp op_isN ok_isN ha hb (nomark _)
theorem st_notN (ha : SE X B W a fa) (hb : SE X B W b fb) : STe X B W (.Compare a [.IsNot] [b] pos) (mTv (mOp (gIsN true) fa fb)) := st_cmp op_notN ok_notN ha hb (nomark _)
theorem st_in (hr : RoomG k X.A) (ha : SE X B W a fa) (hb : SE X B W b fb) (hm : behindInMarks .In b = false := by first | exact nomark _ | rfl) : STe X B W (.Compare a [.In] [b] pos) (mTv (mOp (gIn false) fa fb)) := st_cmp (op_inD (by have := hr.r.un; omega)) ok_in ha hb hm
theorem st_notIn (hr : RoomG k X.A) (ha : SE X B W a fa) (hb : SE X B W b fb) (hm : behindInMarks .NotIn b = false := by first | exact nomark _ | rfl) : STe X B W (.Compare a [.NotIn] [b] pos) (mTv (mOp (gIn true) fa fb)) := st_cmp (op_notInD (by have := hr.r.un; omega)) ok_notIn ha hb hm
end
theorem binds_def {K : PySem.W.Frag} {x qual : Str} {st : Stmt} {f : Addr} {fd : FuncData} {ps : List Str} (F : Fun K x qual st f fd)
    (h : ∀ (kV doc pm : Value) (an : Option Addr) (cdv ct : Value) (us : List Value), us.length = ps.length → bindArgs (PySem.W.fnOf x qual (defArgs st) (defBody st) (defScope st) .none kV doc pm an cdv ct) ⟨us, []⟩ = pure (ps.zip us)) : Binds K fd ps [] := F.binds h
end FW
namespace FW
open PySem L2 PySem.Spec PyProof.Rows
def inB (l : List Str) : Str → Bool := fun c => decide (c ∈ l)
theorem inB_mem {l : List Str} {c : Str} (h : inB l c = true) : c ∈ l := of_decide_eq_true h
def noB : Str → Bool := fun _ => false
theorem noB_I {R : Addr → Prop} {mg : Str → Option Value} : ∀ n C, noB n = true → mg n = some (.ref C) → R C := fun n C h => by cases h
end FW
namespace FW
open PySem L2 PySem.Spec PyProof.Rows
theorem exm_by {K : PySem.W.Frag} {C D : Addr} {b : Bool} (e : PySem.W.subIn K (.ref D) (.type "BaseException") = some true) (c : PySem.W.isClsIn K D = true) (ty : PySem.W.typeIn K (.ref D) = some (.type "type")) (h : PySem.W.subIn K (.ref C) (.ref D) = some b) : PySem.W.exmOne K (.ref C) (.ref D) = some b := by
  have hc : (PySem.W.clsIn K D).isSome = true := c
  show (if (PySem.W.subIn K (.ref D) (.type "BaseException") == some true) = true then (if ((PySem.W.clsIn K D).isSome && PySem.W.typeIn K (.ref D) == some (.type "type")) = true then PySem.W.subIn K (.ref C) (.ref D) else none) else none) = some b
  rw [e, if_pos (by decide +kernel), hc, ty, if_pos (by decide +kernel)]
  exact h
end FW

namespace FW
open PySem L2 PySem.Spec PyProof.Rows

@[simp] theorem vw_non (st : Sto) : vw st .non = .non := rfl
@[simp] theorem vw_bl (st : Sto) (b) : vw st (.bl b) = .bl b := rfl
@[simp] theorem vw_int (st : Sto) (i) : vw st (.int i) = .int i := rfl
@[simp] theorem vw_str (st : Sto) (x) : vw st (.str x) = .str x := rfl
@[simp] theorem vw_tup (st : Sto) (x) : vw st (.tup x) = .tup x := rfl
@[simp] theorem vw_lst (st : Sto) (x) : vw st (.lst x) = .lst x := rfl
@[simp] theorem vw_dct (st : Sto) (x) : vw st (.dct x) = .dct x := rfl
@[simp] theorem vw_ins (st : Sto) (c x) : vw st (.ins c x) = .ins c x := rfl
@[simp] theorem vw_exc (st : Sto) (c x) : vw st (.exc c x) = .exc c x := rfl
@[simp] theorem vw_scr (st : Sto) (x) : vw st (.scr x) = .scr x := rfl
theorem vw_ref (st : Sto) (n : Nat) {m : MV} (h : st[n]? = some m) : vw st (.ref n) = m := by show (st[n]?).getD _ = m; rw [h]; rfl
section
variable (lo : Lo) (st : Sto)
@[simp] theorem d_mVar (i : Nat) : mVar i lo st = (match lo[i]? with
  | some (some (m, false)) => .ok (m, .fz, st)
  | some (some (m, true)) => .ok (m, .pk i, st)
  | _ => .bad) := (Eq.refl _).trans rfl
@[simp] theorem d_mC (m : MV) : mC m lo st = .ok (m, .fz, st) := (Eq.refl _).trans rfl
@[simp] theorem d_mOp (g : G2) (fa fb : EF) : mOp g fa fb lo st = (fa lo st >>= fun (a, _, st1) => fb lo st1 >>= fun (b, _, st2) => giveOut (g st2 (vw st2 a) (vw st2 b)) st2) := by
  unfold mOp giveOut
  cases fa lo st with
  | ok r =>
    obtain ⟨a, ka, st1⟩ := r
    simp only [Res.ok_bind]
    all_goals (cases fb lo st1 with
      | ok r =>
        obtain ⟨b, kb, st2⟩ := r
        simp only [Res.ok_bind]
        all_goals (rcases g st2 (vw st2 a) (vw st2 b) with _ | ⟨m, _ | _⟩ <;> rfl)
      | exc => rfl
      | bad => rfl)
  | exc => rfl
  | bad => rfl
@[simp] theorem d_give0 (m : MV) : giveOut (some (m, false)) st = .ok (m, .fz, st) := (Eq.refl _).trans rfl
@[simp] theorem d_give1 (m : MV) : giveOut (some (m, true)) st = .ok (m, .fr, st) := (Eq.refl _).trans rfl
@[simp] theorem d_giveN : giveOut none st = .bad := (Eq.refl _).trans rfl
@[simp] theorem d_mUn (g : MV → Option MV) (fa : EF) : mUn g fa lo st = (fa lo st >>= fun (a, _, st1) => match g a with
  | some m => .ok (m, .fz, st1)
  | none => .bad) := (Eq.refl _).trans rfl
@[simp] theorem d_mTv (fa : EF) : mTv fa lo st = (fa lo st >>= fun (a, _, st1) => match a with
  | .bl b => .ok (b, st1)
  | _ => .bad) := (Eq.refl _).trans rfl
@[simp] theorem d_mAnd (fa fb : TF) : mAnd fa fb lo st = (fa lo st >>= fun (a, st1) => if a = true then fb lo st1 else .ok (false, st1)) := (Eq.refl _).trans rfl
@[simp] theorem d_mOr (fa fb : TF) : mOr fa fb lo st = (fa lo st >>= fun (a, st1) => if a = true then .ok (true, st1) else fb lo st1) := (Eq.refl _).trans rfl
@[simp] theorem d_mNotT (fa : TF) : mNotT fa lo st = (fa lo st >>= fun (a, st1) => .ok (!a, st1)) := (Eq.refl _).trans rfl
@[simp] theorem d_mAndV (fa fb : EF) : mAndV fa fb lo st = (fa lo st >>= fun (a, _, st1) => match a with
  | .bl true => fb lo st1
  | .bl false => .ok (.bl false, .fz, st1)
  | _ => .bad) := by
  unfold mAndV
  cases fa lo st with
  | ok r => obtain ⟨a, ka, st1⟩ := r; cases a with
    | bl b => cases b <;> rfl
    | _ => rfl
  | exc => rfl
  | bad => rfl
@[simp] theorem d_mOrV (fa fb : EF) : mOrV fa fb lo st = (fa lo st >>= fun (a, _, st1) => match a with
  | .bl true => .ok (.bl true, .fz, st1)
  | .bl false => fb lo st1
  | _ => .bad) := by
  unfold mOrV
  cases fa lo st with
  | ok r => obtain ⟨a, ka, st1⟩ := r; cases a with
    | bl b => cases b <;> rfl
    | _ => rfl
  | exc => rfl
  | bad => rfl
@[simp] theorem d_mIfE (c : TF) (fa fb : EF) : mIfE c fa fb lo st = (c lo st >>= fun (b, st1) => if b = true then fa lo st1 else fb lo st1) := (Eq.refl _).trans rfl
@[simp] theorem d_mNil : mNil lo st = .ok ([], st) := (Eq.refl _).trans rfl
@[simp] theorem d_mCons (f : EF) (g : AF) : mCons f g lo st = (f lo st >>= fun (m, k, st1) => g lo st1 >>= fun (l, st2) => .ok ((m, isPk k) :: l, st2)) := (Eq.refl _).trans rfl
@[simp] theorem d_isPk1 : isPk .fz = false := (Eq.refl _).trans rfl
@[simp] theorem d_isPk2 : isPk .fr = false := (Eq.refl _).trans rfl
@[simp] theorem d_isPk3 (i) : isPk (.pk i) = true := (Eq.refl _).trans rfl
@[simp] theorem d_isFr1 : isFr .fz = false := (Eq.refl _).trans rfl
@[simp] theorem d_isFr2 : isFr .fr = true := (Eq.refl _).trans rfl
@[simp] theorem d_isFr3 (i) : isFr (.pk i) = true := (Eq.refl _).trans rfl
@[simp] theorem d_allFz0 : allFz [] = some [] := (Eq.refl _).trans rfl
@[simp] theorem d_allFz1 (m : MV) (l) : allFz ((m, false) :: l) = (allFz l).map (m :: ·) := by
  unfold allFz
  simp only [List.all_cons, Bool.not_false, Bool.true_and, List.map_cons]
  split <;> rfl
@[simp] theorem d_allFz2 (m : MV) (l) : allFz ((m, true) :: l) = none := (Eq.refl _).trans rfl
@[simp] theorem d_mLst (g : AF) : mLst g lo st = (g lo st >>= fun (l, st1) => match allFz l with
  | some ms => if ms.length ≤ sizeLine then .ok (.lst ms, .fr, st1) else .bad
  | none => .bad) := (Eq.refl _).trans rfl
@[simp] theorem d_mTup (g : AF) : mTup g lo st = (g lo st >>= fun (l, st1) => match allFz l with
  | some ms => if ms.length ≤ sizeLine then .ok (.tup ms, .fr, st1) else .bad
  | none => .bad) := (Eq.refl _).trans rfl
@[simp] theorem d_mDct0 : mDct0 lo st = .ok (.dct [], .fr, st) := (Eq.refl _).trans rfl
@[simp] theorem d_mCallB (gl : GL) (g : AF) : mCallB gl g lo st = (g lo st >>= fun (l, st1) => giveOut (gl st1 (l.map fun z => vw st1 z.1)) st1) := (Eq.refl _).trans rfl
@[simp] theorem d_mCall (n : Nat) (F : FF) (dms : List MV) (g : AF) : mCall n F dms g lo st = (g lo st >>= fun (l, st1) => callF n F dms l lo st1) := (Eq.refl _).trans rfl
@[simp] theorem d_callF (n : Nat) (F : FF) (dms : List MV) (l) : callF n F dms l lo st = (match allFz l with
  | some ms => if (ms ++ dms).length = n then callR F (ms ++ dms) lo st else .bad
  | none => .bad) := (Eq.refl _).trans rfl
theorem callR_ok {F : FF} {ms : List MV} {m : MV} {b : Bool} {st' : Sto} (h : F ms st = .ok (m, b, st')) : callR F ms lo st = .ok (m, if b then .fr else .fz, st') := by unfold callR; rw [h]
theorem callR_exc {F : FF} {ms : List MV} {c fs lo' st'} (h : F ms st = .exc c fs lo' st') : callR F ms lo st = .exc c fs lo st' := by unfold callR; rw [h]
@[simp] theorem d_mIsi (ans oi oe) (fa : EF) : mIsi ans oi oe fa lo st = (fa lo st >>= fun (a, _, st1) => match tyAns ans oi oe (vw st1 a) with
  | some b => .ok (.bl b, .fz, st1)
  | none => .bad) := (Eq.refl _).trans rfl
@[simp] theorem d_mFld (f oi oe) (fa : EF) : mFld f oi oe fa lo st = (fa lo st >>= fun (a, _, st1) => match gFld f oi oe (vw st1 a) with
  | some m => .ok (m, .fz, st1)
  | none => .bad) := (Eq.refl _).trans rfl
@[simp] theorem d_mBm (T) (gl : GL) (fo : EF) (g : AF) : mBm T gl fo g lo st = (fo lo st >>= fun (t, _, st1) => if tyOk T (vw st1 t) = true then g lo st1 >>= fun (l, st2) => giveOut (gl st2 (vw st2 t :: l.map fun z => vw st2 z.1)) st2 else .bad) := (Eq.refl _).trans rfl
@[simp] theorem d_mBm0 (T) (gl : GL) (fo : EF) : mBm0 T gl fo lo st = (fo lo st >>= fun (t, _, st1) => if tyOk T (vw st1 t) = true then giveOut (gl st1 [vw st1 t]) st1 else .bad) := (Eq.refl _).trans rfl
@[simp] theorem d_mBits (fa : EF) : mBits fa lo st = (fa lo st >>= fun (a, _, st1) => match a with
  | .int i => .ok (.int (Builtin.Int.intBits i : Nat), .fz, st1)
  | _ => .bad) := (Eq.refl _).trans rfl
@[simp] theorem d_mRg (fa fb : EF) : mRg fa fb lo st = (fa lo st >>= fun (a, _, st1) => fb lo st1 >>= fun (b, _, st2) => match a, b with
  | .int i, .int j => if RgOk i j then .ok (.lst ((List.range (j - i).toNat).map fun k => .int (i + (k : Nat))), .fr, st2) else .bad
  | _, _ => .bad) := (Eq.refl _).trans rfl
@[simp] theorem d_mSto (f : EF) : mSto f lo st = (f lo st >>= fun (m, k, st1) => match k with
  | .fr => .ok (.ref st1.length, .fz, st1 ++ [m])
  | _ => .bad) := (Eq.refl _).trans rfl
@[simp] theorem d_frz0 (m : MV) : frzd (m, .fz, st) = .ok (m, st) := (Eq.refl _).trans rfl
@[simp] theorem d_frz1 (m : MV) : frzd (m, .fr, st) = .ok (m, st) := (Eq.refl _).trans rfl
@[simp] theorem d_frz2 (m : MV) (i) : frzd (m, .pk i, st) = .bad := (Eq.refl _).trans rfl
@[simp] theorem d_sNil : sNil lo st = .ok (.nx, lo, st) := (Eq.refl _).trans rfl
@[simp] theorem d_sSeq (g g' : SF) : sSeq g g' lo st = (g lo st >>= fun (fl, lo1, st1) => match fl with
  | .nx => g' lo1 st1
  | fl => .ok (fl, lo1, st1)) := (Eq.refl _).trans rfl
@[simp] theorem d_sSet (i : Nat) (f : EF) : sSet i f lo st = (f lo st >>= fun r => frzd r >>= fun (m, st1) => .ok (.nx, lo.set i (some (m, false)), st1)) := (Eq.refl _).trans rfl
@[simp] theorem d_own1 (x) : ownOk (.lst x) = true := rfl
@[simp] theorem d_own2 (x) : ownOk (.dct x) = true := rfl
@[simp] theorem d_own3 (x) : ownOk (.tup x) = true := rfl
@[simp] theorem d_sOwn (i : Nat) (f : EF) : sOwn i f lo st = (f lo st >>= fun (m, k, st1) => match k with
  | .fr => if ownOk m = true then .ok (.nx, lo.set i (some (m, true)), st1) else .bad
  | _ => .bad) := (Eq.refl _).trans rfl
@[simp] theorem d_sExpr (f : EF) : sExpr f lo st = (f lo st >>= fun (_, _, st1) => .ok (.nx, lo, st1)) := (Eq.refl _).trans rfl
@[simp] theorem d_sRet (f : EF) : sRet f lo st = (f lo st >>= fun (m, k, st1) => .ok (.rt m k, lo, st1)) := (Eq.refl _).trans rfl
@[simp] theorem d_sRetN : sRetN lo st = .ok (.rt .non .fz, lo, st) := (Eq.refl _).trans rfl
@[simp] theorem d_sIf (c : TF) (g g' : SF) : sIf c g g' lo st = (c lo st >>= fun (b, st1) => if b = true then g lo st1 else g' lo st1) := (Eq.refl _).trans rfl
@[simp] theorem d_sAsg (f : EF) (g : GF) : sAsg f g lo st = (f lo st >>= fun r => frzd r >>= fun (m, st1) => g m lo st1 >>= fun (lo2, st2) => .ok (.nx, lo2, st2)) := (Eq.refl _).trans rfl
@[simp] theorem d_gN (i : Nat) (m : MV) : gN i m lo st = .ok (lo.set i (some (m, false)), st) := (Eq.refl _).trans rfl
@[simp] theorem d_gsNil : gsNil [] lo st = .ok (lo, st) := (Eq.refl _).trans rfl
@[simp] theorem d_gsCons (g : GF) (gs : GFs) (m : MV) (ms) : gsCons g gs (m :: ms) lo st = (g m lo st >>= fun (lo1, st1) => gs ms lo1 st1) := (Eq.refl _).trans rfl
@[simp] theorem d_gT (n : Nat) (gs : GFs) (m : MV) : gT n gs m lo st = (match vw st m with
  | .tup ms => if ms.length = n then gs ms lo st else .bad
  | .lst ms => if ms.length = n then gs ms lo st else .bad
  | _ => .bad) := (Eq.refl _).trans rfl
@[simp] theorem d_sPutIx (fe fo fi : EF) : sPutIx fe fo fi lo st = (fe lo st >>= fun r => frzd r >>= fun (m, st1) => fo lo st1 >>= fun (t, k, st2) => fi lo st2 >>= fun (j, _, st3) =>
  match targetOf t k lo st3, j with
  | some (.lst xs), .int j => (match ixN xs.length j with
    | some n => .ok (.nx, (putBack t k (.lst (xs.set n m)) lo st3).1, (putBack t k (.lst (xs.set n m)) lo st3).2)
    | none => .bad)
  | _, _ => .bad) := (Eq.refl _).trans rfl
@[simp] theorem d_sApp (fo fe : EF) : sApp fo fe lo st = (fo lo st >>= fun (t, k, st1) => if isLst (targetOf t k lo st1) = true then fe lo st1 >>= fun r => frzd r >>= fun (m, st2) => (match targetOf t k lo st2 with
  | some (.lst xs) => if xs.length < sizeLine then .ok (.nx, (putBack t k (.lst (xs ++ [m])) lo st2).1, (putBack t k (.lst (xs ++ [m])) lo st2).2) else .bad
  | _ => .bad) else .bad) := (Eq.refl _).trans rfl
@[simp] theorem d_tgt1 (m : MV) (i) : targetOf m (.pk i) lo st = ownAt lo[i]? := (Eq.refl _).trans rfl
@[simp] theorem d_tgt2 (m : MV) : targetOf m .fz lo st = refAt st m := (Eq.refl _).trans rfl
@[simp] theorem d_refAt (n : Nat) : refAt st (.ref n) = st[n]? := (Eq.refl _).trans rfl
@[simp] theorem d_put1 (m c : MV) (i) : putBack m (.pk i) c lo st = (lo.set i (some (c, true)), st) := (Eq.refl _).trans rfl
@[simp] theorem d_put2 (n : Nat) (c : MV) : putBack (.ref n) .fz c lo st = (lo, st.set n c) := (Eq.refl _).trans rfl
@[simp] theorem d_sRaise (c fv dms) (g : AF) : sRaise c fv dms g lo st = (g lo st >>= fun (l, st1) => match allFz l with
  | some ms => (match ms ++ dms with
    | [m] => .exc c [(fv, m)] lo st1
    | _ => .bad)
  | none => .bad) := (Eq.refl _).trans rfl
theorem d_runF (n : Nat) (g : SF) (ms : List MV) : runF n g ms st = (match g (startM n ms) st with
  | .ok (.nx, _, st') => .ok (.non, false, st')
  | .ok (.rt m k, _, st') => .ok (m, isFr k, st')
  | .ok _ => .bad
  | .exc c fs lo st' => .exc c fs lo st'
  | .bad => .bad) := (Eq.refl _).trans rfl
end
section
variable (st : Sto) (i j : Int)
@[simp] theorem d_gAdd : gAdd st (.int i) (.int j) = some (.int (i + j), false) := (Eq.refl _).trans rfl
theorem d_gAddL (xs ys) : gAdd st (.lst xs) (.lst ys) = if xs.length + ys.length ≤ sizeLine then some (.lst (xs ++ ys), true) else none := (Eq.refl _).trans rfl
@[simp] theorem d_gSub : gSub st (.int i) (.int j) = some (.int (i - j), false) := (Eq.refl _).trans rfl
theorem d_gMul (h : CMulW i j) : gMul st (.int i) (.int j) = some (.int (i * j), false) := by simp [gMul, gII, h]
theorem d_gDiv (h : CDivW i j) : gDiv st (.int i) (.int j) = some (.int (i / j), false) := by simp [gDiv, gII, h]
theorem d_gMod (h : 0 < j) : gMod st (.int i) (.int j) = some (.int (i % j), false) := by simp [gMod, gII, h]
theorem d_gPow (h : CPowW i j) : gPow st (.int i) (.int j) = some (.int (i ^ j.toNat), false) := by simp [gPow, gII, h]
@[simp] theorem d_gLt : gLt st (.int i) (.int j) = some (.bl (decide (i < j)), false) := (Eq.refl _).trans rfl
@[simp] theorem d_gLe : gLe st (.int i) (.int j) = some (.bl (decide (i ≤ j)), false) := (Eq.refl _).trans rfl
@[simp] theorem d_gGt : gGt st (.int i) (.int j) = some (.bl (decide (j < i)), false) := (Eq.refl _).trans rfl
@[simp] theorem d_gGe : gGe st (.int i) (.int j) = some (.bl (decide (j ≤ i)), false) := (Eq.refl _).trans rfl
@[simp] theorem d_gIsN0 (a : MV) : gIsN false st a .non = some (.bl (isNon a), false) := (Eq.refl _).trans rfl
@[simp] theorem d_gIsN1 (a : MV) : gIsN true st a .non = some (.bl (!isNon a), false) := (Eq.refl _).trans rfl
@[simp] theorem d_gNeg : gNeg (.int i) = some (.int (-i)) := (Eq.refl _).trans rfl
@[simp] theorem d_gNot (b) : gNot (.bl b) = some (.bl (!b)) := (Eq.refl _).trans rfl
@[simp] theorem d_gMax2 : gMax2 st [.int i, .int j] = some (.int (if j > i then j else i), false) := (Eq.refl _).trans rfl
@[simp] theorem d_gMin2 : gMin2 st [.int i, .int j] = some (.int (if j < i then j else i), false) := (Eq.refl _).trans rfl
@[simp] theorem d_gInt1 : gInt1 st [.int i] = some (.int i, false) := (Eq.refl _).trans rfl
@[simp] theorem d_gLenL (xs) : gLen st [.lst xs] = some (.int xs.length, false) := (Eq.refl _).trans rfl
@[simp] theorem d_gLenT (xs) : gLen st [.tup xs] = some (.int xs.length, false) := (Eq.refl _).trans rfl
@[simp] theorem d_gLenR (xs) : gLen st [.scr xs] = some (.int xs.length, false) := (Eq.refl _).trans rfl
@[simp] theorem d_gListL (xs) : gListOf st [.lst xs] = some (.lst xs, true) := (Eq.refl _).trans rfl
@[simp] theorem d_gListT (xs) : gListOf st [.tup xs] = some (.lst xs, true) := (Eq.refl _).trans rfl
@[simp] theorem d_gTupL (xs) : gTupOf st [.lst xs] = some (.tup xs, true) := (Eq.refl _).trans rfl
@[simp] theorem d_gIxL (xs) : gIx st (.lst xs) (.int i) = (atI xs i).map (·, false) := (Eq.refl _).trans rfl
@[simp] theorem d_gIxT (xs) : gIx st (.tup xs) (.int i) = (atI xs i).map (·, false) := (Eq.refl _).trans rfl
@[simp] theorem d_gIxR (xs) : gIx st (.scr xs) (.int i) = (atI xs i).map fun n => (.int n, false) := (Eq.refl _).trans rfl
end
section
open Classical
variable {ck : CK} {gf : GF} {body : SF} {lo0 : Lo} {tt : TF} {fe : EF}
theorem forL_run {Inv : Nat → Lo → Sto → Prop} {items : List MV} (hck : ∀ k lo st, Inv k lo st → ck lo st)
    (hb : ∀ k x lo st, items[k]? = some x → Inv k lo st → ∃ lo1 st1 lo2 st2, gf x lo st = .ok (lo1, st1) ∧ body lo1 st1 = .ok (.nx, lo2, st2) ∧ Inv (k + 1) lo2 st2) :
    ∀ lo st, Inv 0 lo st → ∃ lo' st', forL ck gf body items lo st = .ok (.nx, lo', st') ∧ Inv items.length lo' st' := by
  have go : ∀ (rest : List MV) (k : Nat), rest = items.drop k → k ≤ items.length → ∀ lo st, Inv k lo st → ∃ lo' st', forL ck gf body rest lo st = .ok (.nx, lo', st') ∧ Inv items.length lo' st' := by
    intro rest
    induction rest with
    | nil =>
      intro k hk hle lo st hi
      have e : k = items.length := by
        have := congrArg List.length hk
        rw [List.length_drop, List.length_nil] at this
        omega
      subst e
      exact ⟨lo, st, by unfold forL; rw [if_pos (hck _ _ _ hi)], hi⟩
    | cons x rest ih =>
      intro k hk hle lo st hi
      have hx : items[k]? = some x := by
        have := congrArg (·[0]?) hk
        simpa using this.symm
      have hlt : k < items.length := (List.getElem?_eq_some_iff.mp hx).1
      obtain ⟨lo1, st1, lo2, st2, e1, e2, hi2⟩ := hb k x lo st hx hi
      have hr : rest = items.drop (k + 1) := by
        have := congrArg List.tail hk
        simpa using this
      obtain ⟨lo', st', e3, hi3⟩ := ih (k + 1) hr (by omega) lo2 st2 hi2
      refine ⟨lo', st', ?_, hi3⟩
      unfold forL
      rw [if_pos (hck _ _ _ hi), e1]
      simp only [Res.ok_bind]
      rw [e2]
      simp only [Res.ok_bind]
      exact e3
  intro lo st h
  exact go items 0 (by simp) (Nat.zero_le _) lo st h
theorem forL_cons (x : MV) (xs : List MV) (lo : Lo) (st : Sto) : forL ck gf body (x :: xs) lo st = if ck lo st then gf x lo st >>= fun (lo1, st1) => body lo1 st1 >>= fun (fl, lo2, st2) => (match fl with
      | .nx => forL ck gf body xs lo2 st2
      | .ct => forL ck gf body xs lo2 st2
      | .bk => .ok (.nx, lo2, st2)
      | .rt m k => .ok (.rt m k, lo2, st2)) else .bad := by
  rw [forL] <;> rfl
theorem forL_nil (lo : Lo) (st : Sto) : forL ck gf body [] lo st = if ck lo st then .ok (.nx, lo, st) else .bad := by rw [forL]
theorem forL_app {pre rest : List MV} {lo lo1 : Lo} {st st1 : Sto} (h : forL ck gf body pre lo st = .ok (.nx, lo1, st1)) (nb : ∀ a b lo2 st2, body a b ≠ .ok (.bk, lo2, st2)) : forL ck gf body (pre ++ rest) lo st = forL ck gf body rest lo1 st1 := by
  induction pre generalizing lo st with
  | nil =>
    rw [forL_nil] at h
    split at h
    · cases h; rfl
    · cases h
  | cons x pre ih =>
    rw [List.cons_append, forL_cons]
    rw [forL_cons] at h
    split at h
    case isFalse => cases h
    rename_i hc
    rw [if_pos hc]
    cases e1 : gf x lo st with
    | bad => rw [e1] at h; cases h
    | exc => rw [e1] at h; cases h
    | ok r =>
      obtain ⟨a, b⟩ := r
      rw [e1] at h
      simp only [Res.ok_bind] at h ⊢
      cases e2 : body a b with
      | bad => rw [e2] at h; cases h
      | exc => rw [e2] at h; cases h
      | ok r =>
        obtain ⟨fl, lo2, st2⟩ := r
        rw [e2] at h
        simp only [Res.ok_bind] at h ⊢
        cases fl with
        | nx => exact ih h
        | ct => exact ih h
        | bk => exact absurd e2 (nb a b lo2 st2)
        | rt m k => cases h
/-- a comprehension whose elements are reckoned one by one -/
theorem lcL_run {Inv : Nat → List MV → Sto → Prop} {items : List MV} (hck : ∀ k acc st, Inv k acc st → ck lo0 st) (hz : items.length ≤ sizeLine) (hl : ∀ k acc st, Inv k acc st → acc.length ≤ k)
    (hb : ∀ k x acc st, items[k]? = some x → Inv k acc st → ∃ lo1 st1 b st2, gf x lo0 st = .ok (lo1, st1) ∧ tt lo1 st1 = .ok (b, st2) ∧
      ((b = false ∧ Inv (k + 1) acc st2) ∨ (b = true ∧ ∃ y kd st3, fe lo1 st2 = .ok (y, kd, st3) ∧ isPk kd = false ∧ Inv (k + 1) (acc ++ [y]) st3))) :
    ∀ acc st, Inv 0 acc st → ∃ acc' st', lcL ck gf tt fe lo0 items acc st = .ok (acc', st') ∧ Inv items.length acc' st' := by
  have go : ∀ (rest : List MV) (k : Nat), rest = items.drop k → k ≤ items.length → ∀ acc st, Inv k acc st → ∃ acc' st', lcL ck gf tt fe lo0 rest acc st = .ok (acc', st') ∧ Inv items.length acc' st' := by
    intro rest
    induction rest with
    | nil =>
      intro k hk hle acc st hi
      have e : k = items.length := by
        have := congrArg List.length hk
        rw [List.length_drop, List.length_nil] at this
        omega
      subst e
      exact ⟨acc, st, by unfold lcL; rw [if_pos (hck _ _ _ hi)], hi⟩
    | cons x rest ih =>
      intro k hk hle acc st hi
      have hx : items[k]? = some x := by
        have := congrArg (·[0]?) hk
        simpa using this.symm
      have hlt : k < items.length := (List.getElem?_eq_some_iff.mp hx).1
      obtain ⟨lo1, st1, b, st2, e1, e2, alt⟩ := hb k x acc st hx hi
      have hr : rest = items.drop (k + 1) := by
        have := congrArg List.tail hk
        simpa using this
      unfold lcL
      rw [if_pos (hck _ _ _ hi), e1]
      simp only [noExc, Res.ok_bind]
      rw [e2]
      simp only [noExc, Res.ok_bind]
      rcases alt with ⟨rfl, hi2⟩ | ⟨rfl, y, kd, st3, e3, hp, hi2⟩
      · rw [if_neg Bool.false_ne_true]
        exact ih (k + 1) hr (by omega) acc st2 hi2
      · rw [if_pos rfl, e3]
        simp only [noExc, Res.ok_bind]
        have ef : frzd (y, kd, st3) = .ok (y, st3) := by cases kd <;> first | rfl | cases hp
        rw [ef]
        simp only [Res.ok_bind]
        rw [if_pos (by have := hl k acc st hi; omega)]
        exact ih (k + 1) hr (by omega) _ st3 hi2
  intro acc st h
  exact go items 0 (by simp) (Nat.zero_le _) acc st h
end
theorem rgM_get {i j : Int} {k : Nat} {x : MV} (h : (rgM i j)[k]? = some x) : x = .int (i + (k : Nat)) ∧ k < (j - i).toNat := by
  unfold rgM at h
  rw [List.getElem?_map] at h
  obtain ⟨a, h1, rfl⟩ := Option.map_eq_some_iff.mp h
  have := List.getElem?_eq_some_iff.mp h1
  obtain ⟨h2, h3⟩ := this
  simp at h2 h3
  subst h3
  exact ⟨rfl, by omega⟩
theorem rgM_len {i j : Int} : (rgM i j).length = (j - i).toNat := by unfold rgM; simp
end FW
namespace FW
open PySem L2 PySem.Spec PyProof.Rows
theorem seq_ok {g g' : SF} {lo lo1 : Lo} {st st1 : Sto} {r} (h : g lo st = .ok (.nx, lo1, st1)) (h' : g' lo1 st1 = r) : sSeq g g' lo st = r := by unfold sSeq; rw [h]; exact h'
theorem seq_rt {g g' : SF} {lo lo1 : Lo} {st st1 : Sto} {m k} (h : g lo st = .ok (.rt m k, lo1, st1)) : sSeq g g' lo st = .ok (.rt m k, lo1, st1) := by unfold sSeq; rw [h]; rfl
theorem seq_exc {g g' : SF} {lo lo1 : Lo} {st st1 : Sto} {c fs} (h : g lo st = .exc c fs lo1 st1) : sSeq g g' lo st = .exc c fs lo1 st1 := by unfold sSeq; rw [h]; rfl
theorem for_ok {fi : IFn} {gf : GF} {body : SF} {lo : Lo} {st st1 : Sto} {items ck r} (h : fi lo st = .ok (items, ck, st1)) (h' : forL ck gf body items lo st1 = r) : sFor fi gf body lo st = r := by unfold sFor; rw [h]; exact h'
theorem runF_rt {n : Nat} {g : SF} {ms : List MV} {lo0 lo : Lo} {st st' : Sto} {m k} (h0 : startM n ms = lo0) (h : g lo0 st = .ok (.rt m k, lo, st')) : runF n g ms st = .ok (m, isFr k, st') := by subst h0; unfold runF; rw [h]
theorem runF_nx {n : Nat} {g : SF} {ms : List MV} {lo0 lo : Lo} {st st' : Sto} (h0 : startM n ms = lo0) (h : g lo0 st = .ok (.nx, lo, st')) : runF n g ms st = .ok (.non, false, st') := by subst h0; unfold runF; rw [h]
theorem runF_exc {n : Nat} {g : SF} {ms : List MV} {lo0 lo : Lo} {st st' : Sto} {c fs} (h0 : startM n ms = lo0) (h : g lo0 st = .exc c fs lo st') : runF n g ms st = .exc c fs lo st' := by subst h0; unfold runF; rw [h]
end FW
namespace FW
open PySem L2 PySem.Spec PyProof.Rows
theorem iRg1_ok {f : EF} {lo : Lo} {st st1 : Sto} {j : Int} {k} (h : f lo st = .ok (.int j, k, st1)) (hr : Rg62 0 j) : iRg1 f lo st = .ok (rgM 0 j, fun _ _ => True, st1) := by unfold iRg1; rw [h]; exact if_pos hr
theorem iRg2_ok {f g : EF} {lo : Lo} {st st1 st2 : Sto} {i j : Int} {k k2} (h : f lo st = .ok (.int i, k, st1)) (h2 : g lo st1 = .ok (.int j, k2, st2)) (hr : Rg62 i j) : iRg2 f g lo st = .ok (rgM i j, fun _ _ => True, st2) := by
  unfold iRg2; rw [h]; simp only [Res.ok_bind]; rw [h2]; exact if_pos hr
theorem iSeq_lst {f : EF} {lo : Lo} {st st1 : Sto} {xs : List MV} {k} (h : f lo st = .ok (.lst xs, k, st1)) (hk : isPk k = false) : iSeq f lo st = .ok (xs, fun _ _ => True, st1) := by
  unfold iSeq; rw [h]; cases k <;> first | rfl | cases hk
end FW

namespace FW
open PySem L2 PySem.Spec PyProof.Rows

def del (H : Hp) (a : Addr) : Hp := fun b => if b = a then none else H b
def startI (c : Str) (n : Nat) (ms : List MV) : Lo := some (.ins c [], true) :: startM (n - 1) ms
def selfOf (lo : Lo) : Option MV := match lo[0]? with
  | some (some (MV.ins c fs, true)) => some (.ins c fs)
  | _ => none
/-- an own class's __init__ by its body: n names, the first the instance -/
def runI (c : Str) (n : Nat) (g : SF) : FF := fun ms st => match g (startI c n ms) st with
  | .ok (.nx, lo, st') => (match selfOf lo with
    | some m => .ok (m, true, st')
    | none => .bad)
  | .ok _ => .bad
  | .exc c fs lo st' => .exc c fs lo st'
  | .bad => .bad
def PostI (mg : Wd) (S : Addr → Prop) (ι : List Addr) (H0 : Hp) (a : Addr) (Q : VK) (E : XK) : Res (MV × Bool × Sto) → Prop
  | .ok (m, b, st') => b = true → ∀ S' ι' H', Ext S ι H0 S' ι' H' → Rep mg S' ι' H' st' → ¬ S' a → a ∉ ι' → Sh mg S' ι' H' a m → Q .non H'
  | .exc c fs _ st' => ∀ S' ι' H' cls d, Ext S ι H0 S' ι' H' → Rep mg S' ι' H' st' → XR mg S' ι' H' c fs cls d → E cls d H'
  | .bad => False
def spI (mg : Wd) (c : Str) (n : Nat) (F : FF) : Sp := fun vs H Q E => vs.length = n ∧ ∃ a C dx vs' S ι st ms, vs = .ref a :: vs' ∧ H a = some (.ins C dx []) ∧ mg.mg c = some (.ref C) ∧ ¬ S a ∧ a ∉ ι ∧ Rep mg S ι H st ∧ AllD mg S ι H vs' ms ∧
  PostI mg S ι (del H a) a Q E (F ms st)
section
variable {mgw : Wd} {S : Addr → Prop} {ι : List Addr} {H : Hp} {st : Sto} {vs : List V} {ms : List MV}
theorem startM_get {n : Nat} {i : Nat} {z : MV × Bool} (h : (startM n ms)[i]? = some (some z)) : ∃ m, ms[i]? = some m ∧ z = (m, false) := by
  unfold startM at h
  by_cases hi : i < ms.length
  · rw [List.getElem?_append_left (by simpa using hi), List.getElem?_map] at h
    obtain ⟨x, hx, e⟩ := Option.map_eq_some_iff.mp h
    exact ⟨x, hx, by cases e; rfl⟩
  · rw [List.getElem?_append_right (by simpa using hi), List.getElem?_replicate] at h
    split at h <;> cases h
theorem fm_startI {N : List Str} {a C dx : Addr} {c : Str} (r : Rep mgw S ι H st) (d : AllD mgw S ι H vs ms) (hl : ms.length + 1 ≤ N.length) (ha : H a = some (.ins C dx [])) (hc : mgw.mg c = some (.ref C)) (hs : ¬ S a) (hi : a ∉ ι) :
    Fm mgw { S := S, ι := ι, H := del H a, P := some a } S ι H (startI c N.length ms) (start N (.ref a :: vs)) st := by
  have hv := d.1
  have own : ∀ {i : Nat} {m : MV}, (startI c N.length ms)[i]? = some (some (m, true)) → i = 0 ∧ m = .ins c [] := fun {i m} h => by
    cases i with
    | zero => unfold startI at h; simp at h; exact ⟨rfl, h.symm⟩
    | succ i =>
      unfold startI at h
      rw [List.getElem?_cons_succ] at h
      obtain ⟨x, _, e⟩ := startM_get h
      cases e
  have s0 : (start N (.ref a :: vs))[0]? = some (some (.ref a)) := rfl
  have hdel : del H a a = none := if_pos rfl
  refine ⟨⟨fun _ h => h, fun b o e _ => ?_, fun _ h => .inl h, List.prefix_refl _, fun _ h => .inl h⟩, r, ⟨?_, fun i m h => ?_, fun i m h => ?_, fun i j m m' b hij h1 h2 => ?_, fun i c fs h => ?_⟩, fun b o h => by cases h⟩
  · have e' : (if b = a then none else H b) = some o := e
    split at e'
    · cases e'
    · exact e'
  · unfold startI startM L2.start
    simp only [List.length_append, List.length_map, List.length_replicate, List.length_cons]
    rw [hv]; omega
  · cases i with
    | zero => unfold startI at h; simp at h
    | succ i =>
      unfold startI at h
      rw [List.getElem?_cons_succ] at h
      obtain ⟨x, hx, e⟩ := startM_get h
      cases e
      obtain ⟨v, h1, h2⟩ := d.get hx
      refine ⟨v, ?_, h2⟩
      have hiv : i < vs.length := (List.getElem?_eq_some_iff.mp h1).1
      unfold L2.start
      rw [List.map_cons, List.cons_append, List.getElem?_cons_succ, List.getElem?_append_left (by simpa using hiv), List.getElem?_map, h1]
      rfl
  · obtain ⟨rfl, rfl⟩ := own h
    exact ⟨a, s0, hs, hi, ⟨hdel, rfl⟩, .ins C dx [], ha, C, dx, [], rfl, hc, rfl, fun i f m q => by simp at q⟩
  · obtain ⟨rfl, _⟩ := own h1
    obtain ⟨rfl, _⟩ := own h2
    exact absurd rfl hij
  · obtain ⟨rfl, _⟩ := own h
    exact ⟨a, rfl, s0⟩
end
section
variable {P : Program} {w : World} {K : PySem.W.Frag} {mg : Str → Option Value} {base : Heap}
/-- AN __init__ KEEPS ITS MIRROR, by its body's mirror -/
theorem fnI {k : Nat} {x qual c : Str} {st : Stmt} {f : Addr} {fd : FuncData} {N ps : List Str} {g : SF} (F : Fun K x qual st f fd) (Sc : FnScope N ps (defScope st)) (hle : ps.length ≤ N.length)
    (hbody : ∀ (X : Cx) (B : Base) (W : WX) (cdv : Value) (A : Around) (outer : List Env) (s : Shared) (H : Hp) (E : XK), X = cxG P w K mg base N qual (defScope st) f cdv A outer s H E → RoomG k X.A → Takes X W →
      SSs (cxG P w K mg base N qual (defScope st) f cdv A outer s H E) B W (defBody st) g) :
    FnG P w K mg base (k + 1) f fd ps (spI ⟨K, mg⟩ c ps.length (runI c N.length g)) := by
  obtain ⟨oc, od, kV, doc, pm, an, cdv, ct, osl, rfl, lk, hcd⟩ := F.ex
  refine fnG_of lk hcd Sc (fun vs H Q E h => h.1) fun A outer s H vs Q E room want => ?_
  obtain ⟨hvl, a, C, dx, vs', S, ι, st0, ms, rfl, ha, hc, hns, hni, r, d, p⟩ := want
  have hms : ms.length + 1 = ps.length := by rw [← d.1, ← hvl]; rfl
  refine ⟨_, hbody _ { S := S, ι := ι, H := del H a, P := some a } (fun cls dd _ H' => E cls dd H') cdv A outer s H E rfl room (takes_of rfl rfl rfl rfl), S, ι, startI c N.length ms, st0, fm_startI r d (by omega) ha hc hns hni, ?_⟩
  unfold runI at p
  show Post (⟨K, mg⟩ : Wd) _ _ S ι H _ _
  cases hg : g (startI c N.length ms) st0 with
  | bad => rw [hg] at p; exact p
  | exc c fs lo st' =>
    rw [hg] at p
    intro S' ι' σ' H' cls dd fm kp xr
    exact p S' ι' H' cls dd fm.ext fm.rep xr
  | ok z =>
    rw [hg] at p
    obtain ⟨fl, lo', st'⟩ := z
    cases fl with
    | nx =>
      intro S' ι' σ' H' fm kp
      dsimp only at p
      unfold selfOf at p
      split at p
      · rename_i m hm
        split at hm
        · rename_i c2 fs2 e2
          cases hm
          obtain ⟨b, hb, hs⟩ := fm.loc.pin 0 c2 fs2 e2
          cases hb
          obtain ⟨b, e3, h1, h2, _, h4⟩ := fm.loc.own 0 _ e2
          rw [hs] at e3; cases e3
          exact p rfl S' ι' H' fm.ext fm.rep h1 h2 h4
        · cases hm
      · exact p.elim
    | bk => exact p.elim
    | ct => exact p.elim
    | rt m kd => exact p.elim
end

section
variable {X : Cx} {B : Base} {W : WX}
theorem roomG_make {k : Nat} {A : Around} (r : RoomG (k + 1) A) (C : Addr) (us : List Value) (kw : List (Str × Value)) : RoomG k (A.under (.builtin "type.__call__" ⟨.ref C :: us, kw⟩)) := by
  refine ⟨r.r.make C us kw, ?_⟩
  have e : Code.guards (.builtin "type.__call__" ⟨.ref C :: us, kw⟩) = [] := by
    have h : Code.isGuard (.builtin "type.__call__" ⟨.ref C :: us, kw⟩) = false := (by decide +kernel : guardIds.contains "type.__call__" = false)
    unfold Code.guards
    rw [if_neg (by rw [h]; exact Bool.false_ne_true)]
  simp only [Around.under, r.g, e]
  rfl
theorem run_makeG {k : Nat} {C f : Addr} {fd : FuncData} {ps : List Str} {sp : Sp} {E : XK} {pins : List (Addr × Obj)} {σ : L2.St} {H : Hp} {s : Shared} {Q : VK} {us : List Value} {vs : List V} {ds : List Value} {dvs : List V} (M : Mk X.K C f)
    (F : FnG X.prog X.w X.K X.mg X.base k f fd ps sp) (hr : RoomG (k + 1) X.A) (hb : Binds X.K fd ps ds) (hd : Vals dvs ds) (hx : ∀ cls d H', E cls d H' → W cls d σ H') (tk : Takes X W) (I : Inv X pins σ H s) (r : Vals vs us)
    (h : ∀ x dx, H x = none → H dx = none → dx ≠ x → sp (.ref x :: (vs ++ dvs)) (upd (upd H dx (.own x)) x (.ins C dx [])) (fun v H2 => v = .non ∧ Q (.ref x) H2) E) :
    wpAny (model X.prog X.w) X.A (call (.ref C) us) (EP X pins σ Q) X.xe s := by
  have hq := h (s.heap.objs.size + 1) s.heap.objs.size (I.hok.fresh (Nat.le_succ _)) (I.hok.fresh (Nat.le_refl _)) (Nat.ne_of_lt (Nat.lt_succ_self _))
  have J := Inv.made (C := C) I
  have vv : Vals (V.ref (s.heap.objs.size + 1) :: (vs ++ dvs)) (Value.ref (s.heap.objs.size + 1) :: (us ++ ds)) := .cons rfl (r.append hd)
  have many : (Value.ref (s.heap.objs.size + 1) :: us ++ ds).length = ps.length := by
    have e := vv.length
    rw [F.len _ _ _ _ hq] at e
    exact e.symm
  refine wpAny_call (make_map (f := f) I.kIn M.makes M.init (beq_iff_eq.mp M.fn) (codeAny_mono (F.run _ X.stack _ _ ⟨Value.ref (s.heap.objs.size + 1) :: us, []⟩ (Value.ref (s.heap.objs.size + 1) :: (us ++ ds)) _ _ E (roomG_make hr C us [])
    (J.env0.make C us []) (hb _ (Value.ref (s.heap.objs.size + 1) :: us) J.kIn many) vv hq) fun res s' got => ?_))
  match res, got with
  | .error e, got => exact tk e s' (XE.of_call J hx got)
  | .ok (.ret u), got =>
    obtain ⟨v, H', J2, rv, ev, q3⟩ := J.after got
    subst ev
    exact ⟨rv, ⟨V.ref (s.heap.objs.size + 1), H', J2, rfl, q3⟩⟩
theorem del_upd {H : Hp} {x dx : Addr} {C : Addr} (hx : H x = none) (ne : dx ≠ x) : del (upd (upd H dx (.own x)) x (.ins C dx [])) x = upd H dx (.own x) := by
  funext b
  show (if b = x then none else upd (upd H dx (.own x)) x (.ins C dx []) b) = _
  by_cases e : b = x
  · rw [if_pos e, e, upd_ne (fun z => ne z.symm), hx]
  · rw [if_neg e, upd_ne e]
theorem wants_make {c : Str} {C : Addr} {n : Nat} {F : FF} {S S0 : Addr → Prop} {ι ι0 : List Addr} {H H0 : Hp} {lo : Lo} {σ : L2.St} {st : Sto} {vs : List V} {ms : List MV} {Q : VK} (hc : X.mg c = some (.ref C)) (fm : Fm X.wd B S ι H lo σ st) (d : AllD X.wd S ι H vs ms) (hn : vs.length + 1 = n) (k0 : Keep S0 ι0 H0 S ι H)
    (p : Post X.wd B W S0 ι0 H0 (fun r => ∀ S' ι' H' v, Fm X.wd B S' ι' H' lo σ r.2.2 → Keep S0 ι0 H0 S' ι' H' → RV X.wd B S' ι' H' lo σ v r.1 r.2.1 → Q v H') (callR F ms lo st)) (x dx : Addr) (hx : H x = none) (hdx : H dx = none) (ne : dx ≠ x) :
    spI X.wd c n F (.ref x :: vs) (upd (upd H dx (.own x)) x (.ins C dx [])) (fun v H2 => v = .non ∧ Q (.ref x) H2) (fun cls dd H' => ∃ S' ι' st' c fs, Fm X.wd B S' ι' H' lo σ st' ∧ Keep S ι H S' ι' H' ∧ XR X.wd S' ι' H' c fs cls dd ∧ W cls dd σ H') := by
  obtain ⟨f1, f2, f3, f4⟩ := fm.free hx
  have hx2 : upd H dx (.own x) x = none := by rw [upd_ne (fun z => ne z.symm)]; exact hx
  have fmA := fm.new (o := .own x) hdx
  have fmB := fmA.new (o := .ins C dx []) hx2
  have kB := ((Ext.new (o := .own x) hdx).keep fm.rep).trans ((Ext.new (o := .ins C dx []) hx2).keep fmA.rep)
  refine ⟨by simpa using hn, x, C, dx, vs, S, ι, st, ms, rfl, upd_same, hc, f1, f2, fmB.rep, d.mono kB, ?_⟩
  rw [del_upd hx ne]
  have up : ∀ {S' : Addr → Prop} {ι' : List Addr} {H' : Hp} {st' : Sto}, Ext S ι (upd H dx (.own x)) S' ι' H' → Rep X.wd S' ι' H' st' → Fm X.wd B S' ι' H' lo σ st' ∧ Keep S ι H S' ι' H' := fun {S' ι' H' st'} e r => by
    have e0 : Ext S ι H S' ι' H' := (Ext.new (o := .own x) hdx).trans e fun b hb => r.pre e.i b hb
    exact ⟨fm.step e0 r, e0.keep fm.rep⟩
  unfold callR at p
  cases hF : F ms st with
  | bad => rw [hF] at p; exact p
  | exc c fs lo' st' =>
    rw [hF] at p
    intro S' ι' H' cls dd e r xr
    obtain ⟨fm', kk⟩ := up e r
    exact ⟨S', ι', st', c, fs, fm', kk, xr, p S' ι' σ H' cls dd fm' (k0.trans kk) xr⟩
  | ok z =>
    rw [hF] at p
    obtain ⟨m, b, st'⟩ := z
    cases b with
    | false => exact fun z => nomatch z
    | true =>
      refine fun _ S' ι' H' e r h1 h2 h4 => ⟨rfl, ?_⟩
      obtain ⟨fm', kk⟩ := up e r
      exact p S' ι' H' _ fm' (k0.trans kk) ⟨x, rfl, h1, h2, f3, h4, f4⟩
/-- C(e, ..) of an own class: a new instance -/
theorem se_make {k n : Nat} {C f : Addr} {fd : FuncData} {ps : List Str} {FM : FF} {x : Str} {p pos : Pos} {e : Expr} {es : List Expr} {g : AF} (M : Mk X.K C f)
    (F : FnG X.prog X.w X.K X.mg X.base k f fd ps (spI X.wd x (n + 1) FM)) (hr : RoomG (k + 1) X.A) (tk : Takes X W) (hg : Gl X x) (hm : X.mg x = some (.ref C)) (hb : Binds X.K fd ps [])
    (ha : SA X B W (e :: es) g) (hdb : (x == ("__debug__" : Str)) = false := by decide) (he : starEach (e :: es) X.env = (false, eval e X.env) :: starEach es X.env := by rfl)
    (hpl : (backTo pos (starEach es X.env)).any (·.1) = false := by rfl) : SE X B W (.Call (.Name x p) (e :: es) [] pos) (mCall n FM [] g) := by
  refine ⟨fun pins s σ H Q I ⟨S, ι, lo, st, fm, pp⟩ => ?_⟩
  refine wpAny_Call_Name_kw (ld_glob I hg hm ?_ hdb)
  have run := ha.run pos pins s σ H (fun vs H1 => ∃ E : XK, (∀ cls d H', E cls d H' → W cls d σ H') ∧ ∀ y dx, H1 y = none → H1 dx = none → dx ≠ y → spI X.wd x (n + 1) FM (.ref y :: (vs ++ [])) (upd (upd H1 dx (.own y)) y (.ins C dx [])) (fun v H2 => v = .non ∧ Q (.ref y) H2) E) I ?_
  · refine PySem.W.callWith_K (h₀ := X.base) I.ok.mod.kin M.kp (thn run fun us s1 ⟨vs, H1, I1, r, q⟩ => ⟨I1.kIn, ?_⟩) he hpl
    obtain ⟨E, hE, q⟩ := q
    exact run_makeG M F hr hb .nil hE tk I1 r q
  · refine tA.use fm (Post.bind pp) fun l st1 S1 ι1 H1 vs f1 k1 r1 p1 => ?_
    dsimp only at p1
    unfold callF at p1
    split at p1
    · rename_i ms hz
      split at p1
      · rename_i hlen
        have d1 := r1.data hz
        rw [List.append_nil] at hlen p1
        refine ⟨_, ?_, fun x dx hx hdx ne => by rw [List.append_nil]; exact wants_make hm f1 d1 (by rw [d1.1, hlen]) k1 p1 x dx hx hdx ne⟩
        rintro cls d H' ⟨_, _, _, _, _, _, _, _, z⟩
        exact z
      · exact p1.elim
    · exact p1.elim
/-- C() of an own class -/
theorem se_make0 {k : Nat} {C f : Addr} {fd : FuncData} {ps : List Str} {FM : FF} {x : Str} {p pos : Pos} (M : Mk X.K C f)
    (F : FnG X.prog X.w X.K X.mg X.base k f fd ps (spI X.wd x 1 FM)) (hr : RoomG (k + 1) X.A) (tk : Takes X W) (hg : Gl X x) (hm : X.mg x = some (.ref C)) (hb : Binds X.K fd ps [])
    (hdb : (x == ("__debug__" : Str)) = false := by decide) : SE X B W (.Call (.Name x p) [] [] pos) (mCall 0 FM [] mNil) := by
  refine ⟨fun pins s σ H Q I ⟨S, ι, lo, st, fm, pp⟩ => ?_⟩
  refine wpAny_Call_Name_kw (ld_glob I hg hm ?_ hdb)
  have p2 : Post X.wd B W S ι H (fun r => ∀ S' ι' H' v, Fm X.wd B S' ι' H' lo σ r.2.2 → Keep S ι H S' ι' H' → RV X.wd B S' ι' H' lo σ v r.1 r.2.1 → Q v H') (callR FM [] lo st) := pp
  have w := fun x dx hx hdx ne => wants_make (n := 1) (vs := []) hm fm (AllD.nil) rfl .refl p2 x dx hx hdx ne
  refine PySem.W.callWith_K0 I.kIn M.kp (run_makeG (us := []) (vs := []) (dvs := []) M F hr hb .nil ?_ tk I .nil w)
  rintro cls d H' ⟨_, _, _, _, _, _, _, _, z⟩
  exact z
/-- f() -/
theorem se_call0 {k : Nat} {f : Addr} {fd : FuncData} {ps : List Str} {FM : FF} {x : Str} {p pos : Pos}
    (F : FnG X.prog X.w X.K X.mg X.base k f fd ps (spM X.wd 0 FM)) (hr : RoomG k X.A) (tk : Takes X W) (hg : Gl X x) (hm : X.mg x = some (.ref f)) (hk : PySem.W.keepIn X.K (.ref f) = true) (hb : Binds X.K fd ps [])
    (hdb : (x == ("__debug__" : Str)) = false := by decide) : SE X B W (.Call (.Name x p) [] [] pos) (mCall 0 FM [] mNil) := by
  refine ⟨fun pins s σ H Q I ⟨S, ι, lo, st, fm, pp⟩ => ?_⟩
  refine wpAny_Call_Name_kw (ld_glob I hg hm ?_ hdb)
  have p2 : Post X.wd B W S ι H (fun r => ∀ S' ι' H' v, Fm X.wd B S' ι' H' lo σ r.2.2 → Keep S ι H S' ι' H' → RV X.wd B S' ι' H' lo σ v r.1 r.2.1 → Q v H') (callR FM [] lo st) := pp
  refine PySem.W.callWith_K0 I.kIn hk (run_fnG (us := []) (vs := []) (dvs := []) F hr hb .nil ?_ tk I .nil (wants_callee fm AllD.nil rfl .refl p2))
  rintro cls d H' ⟨_, _, _, _, _, _, _, _, z⟩
  exact z
end

theorem look_none {β γ : Type} {f : Str} : ∀ {fs : List (Str × β)} {ms : List (Str × γ)}, fs.map (·.1) = ms.map (·.1) → ms.lookup f = none → fs.lookup f = none
  | [], [], _, _ => rfl
  | [], _ :: _, hn, _ => by cases hn
  | _ :: _, [], hn, _ => by cases hn
  | (f1, v1) :: fs, (f2, m2) :: ms, hn, h => by
    rw [List.map_cons, List.map_cons] at hn
    obtain ⟨e1, e2⟩ := List.cons.inj hn
    have e1' : f1 = f2 := e1
    subst e1'
    rw [FW.lookup_put] at h ⊢
    by_cases hf : f = f1
    · rw [if_pos hf] at h; cases h
    · rw [if_neg hf] at h ⊢
      exact look_none e2 h
def insOf (c m : Str) : MV → Bool
  | .ins c' fs => decide (c' = c) && (fs.lookup m).isNone
  | _ => false
theorem insOf_ok {c m : Str} {t : MV} (h : insOf c m t = true) : ∃ fs, t = .ins c fs ∧ fs.lookup m = none := by
  cases t with
  | ins c' fs =>
    have h' : (decide (c' = c) && (fs.lookup m).isNone) = true := h
    rw [Bool.and_eq_true] at h'
    obtain ⟨h1, h2⟩ := h'
    have h1 := of_decide_eq_true h1
    subst h1
    exact ⟨fs, rfl, Option.isNone_iff_eq_none.mp h2⟩
  | _ => cases h
def mMeth (c m : Str) (n : Nat) (F : FF) (fo : EF) (g : AF) : EF := fun lo st => fo lo st >>= fun (t, k, st1) => if isPk k = false ∧ insOf c m (vw st1 t) = true then g lo st1 >>= fun (l, st2) => callF n F [] ((t, false) :: l) lo st2 else .bad
section
variable {X : Cx} {B : Base} {W : WX} {o e : Expr} {es : List Expr} {fo : EF} {g : AF} {apos pos : Pos} {k n : Nat} {C f : Addr} {fd : FuncData} {ps : List Str} {FM : FF} {c m : Str} {pl : Sem Bool}
theorem se_meth (ho : SE X B W o fo) (cl : L2.Cls X.K C) (hm : Meth X.K C m f) (hc : X.mg c = some (.ref C)) (F : FnG X.prog X.w X.K X.mg X.base k f fd ps (spM X.wd n FM)) (hr : RoomG k X.A) (tk : Takes X W) (hb : Binds X.K fd ps []) (ha : SA X B W (e :: es) g)
    (hst : starEach (e :: es) X.env = (false, eval e X.env) :: starEach es X.env := by rfl) (hpl : (backTo pos (starEach es X.env)).any (·.1) = false := by rfl)
    (ht : eval (.Call (.Attribute o m apos) (e :: es) [] pos) X.env = (do
      let ov ← eval o X.env
      standAt apos.atName
      let (f, first) ← holding [ov] (getMethod ov m pl)
      callWith pos f first (backTo pos (starEach (e :: es) X.env)) (backToKw pos (keywordEach [] X.env))) := by rfl) :
    SE X B W (.Call (.Attribute o m apos) (e :: es) [] pos) (mMeth c m n FM fo g) := by
  refine ⟨fun pins s σ H Q I ⟨S, ι, lo, st, fm, pp⟩ => ?_⟩
  have run := ho.run pins s σ H (fun x H1 => ∃ a dx fs, x = .ref a ∧ H1 a = some (.ins C dx fs) ∧ fs.lookup m = none ∧ tA X.wd B W g σ H1 (fun vs H2 => ∃ E : XK, (∀ cls d H', E cls d H' → W cls d σ H') ∧ spM X.wd n FM (x :: vs) H2 Q E)) I ?_
  · refine PySem.W.methodCall_KW (pl := pl) (thn run fun u s1 ⟨x, H1, I1, rx, a, dx, fs, ex, ea, l, q⟩ => ?_) ht
    subst ex
    cases (show u = Value.ref a from rx)
    refine getmeth_ok I1 ea cl hm l ?_
    refine PySem.W.callWith_K (first := [.ref a]) (h₀ := X.base) I.ok.mod.kin hm.kp (thn (ha.run pos pins s1 σ H1 _ I1 q) fun us s2 ⟨vs, H2, I2, r, E, hE, q2⟩ => ⟨I2.kIn, ?_⟩) hst hpl
    exact run_fnG (us := .ref a :: us) (vs := .ref a :: vs) (dvs := []) F hr hb .nil hE tk I2 (.cons rfl r) (by rw [List.append_nil]; exact q2)
  · refine tE.use fm (Post.bind pp) fun t kt st1 S1 ι1 H1 ov f1 k1 r1 p1 => ?_
    dsimp only at p1
    split at p1
    case isFalse => exact p1.elim
    rename_i hh
    obtain ⟨hk, hi⟩ := hh
    obtain ⟨S1', f1', k1', h1⟩ := r1.hand f1
    rw [hk] at h1
    have vr := Hand.vr (b := false) f1' h1
    obtain ⟨fs, ev, hl⟩ := insOf_ok hi
    rw [ev] at vr
    obtain ⟨q, C', dx, ws, rfl, g1, hmc, hn, _⟩ := vr
    cases (show some (Value.ref C) = some (Value.ref C') from hc.symm.trans hmc)
    refine ⟨q, dx, ws, rfl, g1, look_none hn hl, ?_⟩
    refine tA.use f1' (Post.bind (p1.mono (k1.trans k1') fun _ z => z)) fun l st2 S2 ι2 H2 vs f2 k2 r2 p2 => ?_
    dsimp only at p2
    unfold callF at p2
    split at p2
    · rename_i ms hz
      split at p2
      · rename_i hlen
        rw [d_allFz1] at hz
        obtain ⟨ms', hz', rfl⟩ := Option.map_eq_some_iff.mp hz
        have d2 := AllD.cons (Dt.mono k2 h1) (r2.data hz')
        rw [List.append_nil] at hlen p2
        refine ⟨_, ?_, wants_callee f2 d2 (by rw [d2.1, hlen]) k2 (p2.imp fun r z S' ι' H' v f kk rv => z S' ι' H' v f ((k1.trans k1').trans kk) rv)⟩
        rintro cls d H' ⟨_, _, _, _, _, _, _, _, z⟩
        exact z
      · exact p2.elim
    · exact p2.elim
theorem se_meth0 (ho : SE X B W o fo) (cl : L2.Cls X.K C) (hm : Meth X.K C m f) (hc : X.mg c = some (.ref C)) (F : FnG X.prog X.w X.K X.mg X.base k f fd ps (spM X.wd n FM)) (hr : RoomG k X.A) (tk : Takes X W) (hb : Binds X.K fd ps [])
    (ht : eval (.Call (.Attribute o m apos) [] [] pos) X.env = (do
      let ov ← eval o X.env
      standAt apos.atName
      let (f, first) ← holding [ov] (getMethod ov m pl)
      callWith pos f first (backTo pos (starEach [] X.env)) (backToKw pos (keywordEach [] X.env))) := by rfl) :
    SE X B W (.Call (.Attribute o m apos) [] [] pos) (mMeth c m n FM fo mNil) := by
  refine ⟨fun pins s σ H Q I ⟨S, ι, lo, st, fm, pp⟩ => ?_⟩
  have run := ho.run pins s σ H (fun x H1 => ∃ a dx fs, x = .ref a ∧ H1 a = some (.ins C dx fs) ∧ fs.lookup m = none ∧ ∃ E : XK, (∀ cls d H', E cls d H' → W cls d σ H') ∧ spM X.wd n FM [x] H1 Q E) I ?_
  · refine PySem.W.methodCall_KW (pl := pl) (thn run fun u s1 ⟨x, H1, I1, rx, a, dx, fs, ex, ea, l, E, hE, q⟩ => ?_) ht
    subst ex
    cases (show u = Value.ref a from rx)
    refine getmeth_ok I1 ea cl hm l ?_
    exact PySem.W.callWith_K0 (first := [.ref a]) I1.kIn hm.kp (run_fnG (us := [.ref a]) (vs := [.ref a]) (dvs := []) F hr hb .nil hE tk I1 (.cons rfl .nil) q)
  · refine tE.use fm (Post.bind pp) fun t kt st1 S1 ι1 H1 ov f1 k1 r1 p1 => ?_
    dsimp only at p1
    split at p1
    case isFalse => exact p1.elim
    rename_i hh
    obtain ⟨hk, hi⟩ := hh
    obtain ⟨S1', f1', k1', h1⟩ := r1.hand f1
    rw [hk] at h1
    have vr := Hand.vr (b := false) f1' h1
    obtain ⟨fs, ev, hl⟩ := insOf_ok hi
    rw [ev] at vr
    obtain ⟨q, C', dx, ws, rfl, g1, hmc, hn, _⟩ := vr
    cases (show some (Value.ref C) = some (Value.ref C') from hc.symm.trans hmc)
    refine ⟨q, dx, ws, rfl, g1, look_none hn hl, ?_⟩
    have p2 := p1.mono (k1.trans k1') fun _ z => z
    simp only [d_mNil, Res.ok_bind] at p2
    unfold callF at p2
    simp only [d_allFz1, d_allFz0, Option.map_some, List.append_nil] at p2
    split at p2
    · rename_i hlen
      refine ⟨_, ?_, wants_callee f1' (AllD.cons h1 .nil) (by simpa using hlen) .refl (p2.imp fun r z S' ι' H' v f kk rv => z S' ι' H' v f ((k1.trans k1').trans kk) rv)⟩
      rintro cls d H' ⟨_, _, _, _, _, _, _, _, z⟩
      exact z
    · exact p2.elim
def putM (f : Str) (v : MV) : List (Str × MV) → List (Str × MV)
  | [] => [(f, v)]
  | (g, x) :: r => if g = f then (g, v) :: r else (g, x) :: putM f v r
theorem putM_names {mg : Wd} {S : Addr → Prop} {ι : List Addr} {H : Hp} {f : Str} {v : V} {m : MV} (d : Dt mg S ι H v m) : ∀ {fs : List (Str × V)} {ms : List (Str × MV)}, fs.map (·.1) = ms.map (·.1) → (∀ (i : Nat) f m, fs[i]? = some f → ms[i]? = some m → Dt mg S ι H f.2 m.2) →
    (putF f v fs).map (·.1) = (putM f m ms).map (·.1) ∧ ∀ (i : Nat) f' m', (putF f v fs)[i]? = some f' → (putM f m ms)[i]? = some m' → Dt mg S ι H f'.2 m'.2
  | [], [], _, _ => ⟨rfl, fun i f' m' h1 h2 => by
      cases i with
      | zero => cases h1; cases h2; exact d
      | succ i => cases h1⟩
  | [], _ :: _, hn, _ => by cases hn
  | _ :: _, [], hn, _ => by cases hn
  | (f1, v1) :: fs, (f2, m2) :: ms, hn, hi => by
    rw [List.map_cons, List.map_cons] at hn
    obtain ⟨e1, e2⟩ := List.cons.inj hn
    have e1' : f1 = f2 := e1
    subst e1'
    unfold putF putM
    by_cases hf : f1 = f
    · rw [if_pos hf, if_pos hf]
      refine ⟨by rw [List.map_cons, List.map_cons, e2], fun i f' m' h1 h2 => ?_⟩
      cases i with
      | zero => cases h1; cases h2; exact d
      | succ i => exact hi (i + 1) f' m' (by simpa using h1) (by simpa using h2)
    · rw [if_neg hf, if_neg hf]
      obtain ⟨a1, a2⟩ := putM_names (f := f) d e2 (fun i a b q1 q2 => hi (i + 1) a b (by simpa using q1) (by simpa using q2))
      refine ⟨by rw [List.map_cons, List.map_cons, a1], fun i f' m' h1 h2 => ?_⟩
      cases i with
      | zero => cases h1; cases h2; exact hi 0 _ _ rfl rfl
      | succ i => exact a2 i f' m' (by simpa using h1) (by simpa using h2)
def sPutF (f : Str) (oi : Str → Bool) (fe fo : EF) : SF := fun lo st => fe lo st >>= fun r => frzd r >>= fun (m, st1) => fo lo st1 >>= fun (t, k, st2) => match targetOf t k lo st2 with
  | some (.ins c fs) => if oi c = true ∧ fs.length < 1000 then .ok (.nx, (putBack t k (.ins c (putM f m fs)) lo st2).1, (putBack t k (.ins c (putM f m fs)) lo st2).2) else .bad
  | _ => .bad
theorem ss_putF {fx : Str} {oi : Str → Bool} {fe : EF} {pos' : Pos} (he : SE X B W e fe) (ho : SE X B W o fo) (hI : ∀ n C, oi n = true → X.mg n = some (.ref C) → L2.Cls X.K C ∧ NoAttr X.K C fx)
    (hs : swapsWith e (some (.Attribute o fx pos')) pos.line X.env = pure false := by rfl) : SS X B W (.Assign [.Attribute o fx pos'] e pos) (sPutF fx oi fe fo) := by
  refine (ps_fld ho he hs).fw fun D σ H ⟨S, ι, lo, st, fm, p⟩ => ?_
  refine tE.use fm (Post.bind p) fun m k st1 S1 ι1 H1 v f1 k1 r1 p1 => ?_
  obtain ⟨⟨S2, f2, k2, d⟩, p2⟩ := frzd_ok f1 r1 p1
  have k02 := k1.trans k2
  refine tE.use f2 (Post.bind (p2.mono k02 fun _ z => z)) fun t kt st3 S3 ι3 H3 ov f3 k3 r3 p3 => ?_
  dsimp only at p3
  split at p3
  · rename_i c fs et
    split at p3
    · rename_i hh
      have T0 : Tgt S3 ι3 lo σ ov t kt := RV.tgt f3 r3 et
      obtain ⟨a, rfl, oo, e1, C, dx, ws, rfl, hmc, hn, hi⟩ := T0.sh f3 et
      obtain ⟨cl, na⟩ := hI c C hh.1 hmc
      obtain ⟨n1, n2⟩ := putM_names (f := fx) (d.mono k3) hn hi
      obtain ⟨f5, k5⟩ := Tgt.put (c' := .ins c (putM fx m fs)) (o := .ins C dx (putF fx v ws)) f3 T0 ⟨C, dx, _, rfl, hmc, n1, n2⟩ (fun _ _ _ => ⟨c, fs, et⟩)
      have hlen : ws.length = fs.length := by have := congrArg List.length hn; simpa using this
      exact ⟨a, C, dx, ws, rfl, e1, cl, na, by rw [hlen]; exact hh.2, p3 S3 ι3 σ _ f5 (k02.trans (k3.trans k5))⟩
    · exact p3.elim
  · exact p3.elim
end
/-- what is never reached -/
def sBad : SF := fun _ _ => .bad
def mBad : EF := fun _ _ => .bad
theorem ss_bad {X : Cx} {B : Base} {W : WX} {s : Stmt} : SS X B W s sBad := ps_never.fw fun D σ H ⟨S, ι, lo, st, fm, p⟩ => p.elim
theorem se_bad {X : Cx} {B : Base} {W : WX} {e : Expr} : SE X B W e mBad := ⟨fun pins s σ H Q I ⟨S, ι, lo, st, fm, p⟩ => p.elim⟩
end FW

namespace FW
open PySem L2 PySem.Spec PyProof.Rows

def takeK (o : Bool) (r : MV × Kd × Sto) : Res (MV × Sto) := match o with
  | false => frzd r
  | true => (match r with
    | (m, .fr, st) => if ownOk m = true then .ok (m, st) else .bad
    | _ => .bad)
def sPar (i j : Nat) (o1 o2 : Bool) (f1 f2 : EF) : SF := fun lo st => f1 lo st >>= fun r1 => takeK o1 r1 >>= fun (m1, st1) =>
  (if o1 = true then noExc (f2 lo st1) else f2 lo st1) >>= fun r2 => takeK o2 r2 >>= fun (m2, st2) => .ok (.nx, (lo.set i (some (m1, o1))).set j (some (m2, o2)), st2)
section
variable {mg : Wd} {B : Base} {W : WX} {S S' S2 : Addr → Prop} {ι ι' ι2 : List Addr} {H H' H2 : Hp} {lo lo' : Lo} {σ σ' : L2.St} {st st' : Sto} {v w : V} {m : MV}
theorem Fm.set_own {a : Addr} (f : Fm mg B S ι H lo σ st) (i : Nat) (hm : ownOk m = true) (h1 : ¬ S a) (h2 : a ∉ ι) (h3 : B.New a) (d : Sh mg S ι H a m) (h4 : ∀ (j : Nat) m', lo[j]? = some (some (m', true)) → σ[j]? ≠ some (some (.ref a))) :
    Fm mg B S ι H (lo.set i (some (m, true))) (σ.set i (some (.ref a))) st := ⟨f.ext, f.rep, f.loc.set_own i hm h1 h2 h3 d h4, f.g⟩
theorem set_apart {i : Nat} {z : Option (MV × Bool)} {x : Option V} {a : Addr} (hl : lo.length = σ.length) (h4 : ∀ (j : Nat) m', lo[j]? = some (some (m', true)) → σ[j]? ≠ some (some (.ref a))) (hz : ∀ m', z = some (m', true) → x ≠ some (.ref a)) :
    ∀ (j : Nat) m', (lo.set i z)[j]? = some (some (m', true)) → (σ.set i x)[j]? ≠ some (some (.ref a)) := by
  intro j m' h
  by_cases e : i = j
  · subst e
    by_cases hi : i < lo.length
    · rw [List.getElem?_set_self hi] at h
      rw [List.getElem?_set_self (by omega)]
      intro q
      exact hz m' (Option.some.inj h) (Option.some.inj q)
    · rw [List.getElem?_eq_none (by simp; omega)] at h; cases h
  · rw [List.getElem?_set_ne e] at h ⊢
    exact h4 j m' h
end
section
variable {X : Cx} {B : Base} {W : WX} {e1 e2 : Expr} {f1 f2 : EF}
theorem par_core (i j : Nat) (o1 o2 : Bool) {D : Ends} {σ : L2.St} {H : Hp} {S : Addr → Prop} {ι : List Addr} {lo : Lo} {st : Sto} {R : V → V → Hp → Prop} (fm : Fm X.wd B S ι H lo σ st) (p : Post X.wd B W S ι H (PS1 X.wd B S ι H D) (sPar i j o1 o2 f1 f2 lo st))
    (hfin : ∀ v w S' ι' H' lo' st', Fm X.wd B S' ι' H' lo' ((σ.set i (some v)).set j (some w)) st' → Keep S ι H S' ι' H' → PS1 X.wd B S ι H D (.nx, lo', st') → R v w H') :
    tE X.wd B W f1 σ H (fun v H1 => ∃ B', tE X.wd B' W f2 σ H1 (R v)) := by
  refine tE.use fm (Post.bind p) fun m k st1 S1 ι1 H1 v fm1 kp1 r1 p1 => ?_
  have hlen : lo.length = σ.length := fm.loc.len
  cases o1 with
  | false =>
    obtain ⟨⟨S2, fm2, kp2, d⟩, p2⟩ := frzd_ok fm1 r1 p1
    dsimp only at p2
    rw [if_neg Bool.false_ne_true] at p2
    have k02 := kp1.trans kp2
    refine ⟨B, tE.use fm2 (Post.bind (p2.mono k02 fun _ z => z)) fun m2 kd2 st2 S3 ι3 H3 w fm3 kp3 r2 p3 => ?_⟩
    cases o2 with
    | false =>
      obtain ⟨⟨S4, fm4, kp4, d2⟩, p4⟩ := frzd_ok fm3 r2 p3
      exact hfin v w S4 ι3 H3 _ _ ((fm4.set_val i (d.mono (kp3.trans kp4))).set_val j d2) (k02.trans (kp3.trans kp4)) p4
    | true =>
      cases kd2 with
      | fr =>
        unfold takeK at p3
        dsimp only at p3
        split at p3
        · rename_i hm
          obtain ⟨a, rfl, q1, q2, q3, q4, q5⟩ := r2
          exact hfin v _ S3 ι3 H3 _ _ ((fm3.set_val i (d.mono kp3)).set_own j hm q1 q2 q3 q4 (set_apart hlen q5 fun _ z => nomatch z)) (k02.trans kp3) p3
        · exact p3.elim
      | _ => exact p3.elim
  | true =>
    cases k with
    | fr =>
      unfold takeK at p1
      dsimp only at p1
      split at p1
      case isFalse => exact p1.elim
      rename_i hm
      obtain ⟨a, rfl, q1, q2, q3, q4, q5⟩ := r1
      obtain ⟨o, ho, hob⟩ := q4
      have fg := fm1.guard ho q1 q2 q3 q5
      simp only [Res.ok_bind, if_true] at p1
      refine ⟨B.put a o, tE.use fg ((Post.bind p1).noExc) fun m2 kd2 st2 S3 ι3 H3 w fm3 kp3 r2 p3 => ?_⟩
      obtain ⟨fm4, g1, g2, g3, g4⟩ := fm3.unguard q3
      have sh : Sh X.wd S3 ι3 H3 a m := ⟨o, g1, hob.mono kp3⟩
      have ff := fm4.set_own i hm g2 g3 q3 sh g4
      cases o2 with
      | false =>
        cases kd2 with
        | pk q => exact p3.elim
        | fz => exact hfin _ w S3 ι3 H3 _ _ (ff.set_val j r2) (kp1.trans kp3) p3
        | fr =>
          obtain ⟨b, rfl, b1, b2, b3, b4, b5⟩ := r2
          obtain ⟨b3, bne⟩ := put_new b3
          obtain ⟨ob, hob2, hob3⟩ := b4
          have f5 := ff.freeze hob2 b2 b3 (set_apart hlen b5 fun m' _ z => bne (by cases z; rfl))
          have k5 : Keep S3 ι3 H3 (fz1 S3 b) ι3 H3 := .fz1
          exact hfin _ _ _ ι3 H3 _ _ (f5.set_val j ((Sh.mono (a := b) k5 rfl ⟨ob, hob2, hob3⟩).frozen (.inr rfl))) (kp1.trans (kp3.trans k5)) p3
      | true =>
        cases kd2 with
        | fr =>
          dsimp only at p3
          split at p3
          · rename_i hm2
            obtain ⟨b, rfl, b1, b2, b3, b4, b5⟩ := r2
            obtain ⟨b3, bne⟩ := put_new b3
            exact hfin _ _ S3 ι3 H3 _ _ (ff.set_own j hm2 b1 b2 b3 b4 (set_apart hlen b5 fun m' _ z => bne (by cases z; rfl))) (kp1.trans kp3) p3
          · exact p3.elim
        | _ => exact p3.elim
    | _ => exact p1.elim
theorem ss_par (i j : Nat) (o1 o2 : Bool) {x y : Str} {px py pt pos : Pos} {kt k2 pt2} (hc : X.calm = true) (hN : X.N.Nodup) (h1 : SE X B W e1 f1) (h2 : ∀ B', SE X B' W e2 f2) (hi : X.N[i]? = some x := by rfl) (hj : X.N[j]? = some y := by rfl) (hij : i ≠ j := by decide)
    (hx : X.env.scope.names.lookup x = some .local := by rfl) (hy : X.env.scope.names.lookup y = some .local := by rfl)
    (hw : swappedStores [.Tuple [.Name x px, .Name y py] kt pt] (.Tuple [e1, e2] k2 pt2) X.env = pure (some [x, y]) := by rfl)
    (hs : swapsWithSole [.Tuple [.Name x px, .Name y py] kt pt] (.Tuple [e1, e2] k2 pt2) pos.line X.env = pure false := by rfl)
    (ha1 : starEach [e1, e2] X.env = (false, eval e1 X.env) :: starEach [e2] X.env := by rfl) (ha2 : starEach [e2] X.env = (false, eval e2 X.env) :: starEach [] X.env := by rfl) :
    SS X B W (.Assign [.Tuple [.Name x px, .Name y py] kt pt] (.Tuple [e1, e2] k2 pt2) pos) (sPar i j o1 o2 f1 f2) := by
  refine (ps_par hc hN hi hj hij hx hy (pa_cons h1 (pa_cons (PE.ex (t := fun B' => tE X.wd B' W f2) h2) pa_nil ha2) ha1) hw hs).fw fun D σ H ⟨S, ι, lo, st, fm, p⟩ => ?_
  exact par_core (R := fun v w H1 => ∃ v' w', [v, w] = [v', w'] ∧ D.nx ((σ.set i (some v')).set j (some w')) H1) i j o1 o2 fm p fun v w S' ι' H' lo' st' f k q => ⟨v, w, rfl, q S' ι' _ H' f k⟩
/-- .. where the pair is made first (a name that a comprehension reads) -/
theorem ss_parT (i j : Nat) (o1 o2 : Bool) {x y : Str} {px py pt pos : Pos} {kt k2 pt2} (hc : X.calm = true) (hN : X.N.Nodup) (h1 : SE X B W e1 f1) (h2 : ∀ B', SE X B' W e2 f2) (hi : X.N[i]? = some x := by rfl) (hj : X.N[j]? = some y := by rfl)
    (hx : L2.Loc X.env.scope x := by first | exact Or.inl rfl | exact Or.inr rfl) (hy : L2.Loc X.env.scope y := by first | exact Or.inl rfl | exact Or.inr rfl)
    (hfx : X.fn x = true ∨ X.env.scope.names.lookup x = some .local := by first | exact .inl rfl | exact .inr rfl) (hfy : X.fn y = true ∨ X.env.scope.names.lookup y = some .local := by first | exact .inl rfl | exact .inr rfl)
    (hw : swappedStores [.Tuple [.Name x px, .Name y py] kt pt] (.Tuple [e1, e2] k2 pt2) X.env = pure none := by rfl)
    (hs : swapsWithSole [.Tuple [.Name x px, .Name y py] kt pt] (.Tuple [e1, e2] k2 pt2) pos.line X.env = pure false := by rfl)
    (h3 : (assignEach [.Tuple [.Name x px, .Name y py] kt pt] X.env).map (·.2) = [assign (.Tuple [.Name x px, .Name y py] kt pt) X.env] := by rfl)
    (h4 : (assignEach [.Name x px, .Name y py] X.env).map (·.2) = assign (.Name x px) X.env :: (assignEach [.Name y py] X.env).map (·.2) := by rfl) (h5 : (assignEach [.Name y py] X.env).map (·.2) = assign (.Name y py) X.env :: (assignEach [] X.env).map (·.2) := by rfl)
    (hn : (assignEach [.Name x px, .Name y py] X.env).length = 2 := by rfl) (hst : (assignEach [.Name x px, .Name y py] X.env).findIdx? (·.1) = none := by rfl)
    (ha1 : starEach [e1, e2] X.env = (false, eval e1 X.env) :: starEach [e2] X.env := by rfl) (ha2 : starEach [e2] X.env = (false, eval e2 X.env) :: starEach [] X.env := by rfl) :
    SS X B W (.Assign [.Tuple [.Name x px, .Name y py] kt pt] (.Tuple [e1, e2] k2 pt2) pos) (sPar i j o1 o2 f1 f2) := by
  refine (ps_asg (pe_tup (pa_cons h1 (pa_cons (PE.ex (t := fun B' => tE X.wd B' W f2) h2) pa_nil ha2) ha1)) (pg_tup hc (pgs_cons (pg_name hN hi hx hfx) (pgs_cons (pg_name hN hj hy hfy) pgs_nil h5) h4) hn hst) hs hw h3).fw fun D σ H ⟨S, ι, lo, st, fm, p⟩ => ?_
  refine par_core (R := fun v w H1 => [v, w].length ≤ sizeLine ∧ ∀ t, H1 t = none → gTup X.K 2 (gCons (gName i) (gCons (gName j) gNil)) (.ref t) σ (upd H1 t (.tup [v, w])) fun σ' H' => D.nx σ' H') i j o1 o2 fm p fun v w S' ι' H' lo' st' f k q => ?_
  refine ⟨(by decide +kernel : (2 : Nat) ≤ sizeLine), fun t ht => ⟨t, [v, w], rfl, .of upd_same, rfl, v, [w], rfl, w, [], rfl, rfl, ?_⟩⟩
  exact q S' ι' _ _ (f.new ht) (k.trans ((Ext.new ht).keep f.rep))
def sPar3 (i j l : Nat) (f1 f2 f3 : EF) : SF := fun lo st => f1 lo st >>= fun r1 => frzd r1 >>= fun (m1, st1) => f2 lo st1 >>= fun r2 => frzd r2 >>= fun (m2, st2) => f3 lo st2 >>= fun r3 => frzd r3 >>= fun (m3, st3) =>
  .ok (.nx, ((lo.set i (some (m1, false))).set j (some (m2, false))).set l (some (m3, false)), st3)
theorem ss_par3 (i j l : Nat) {e3 : Expr} {f3 : EF} {x y z : Str} {px py pz pt pos : Pos} {kt k2 pt2} (hc : X.calm = true) (hN : X.N.Nodup) (h1 : SE X B W e1 f1) (h2 : SE X B W e2 f2) (h3 : SE X B W e3 f3) (hi : X.N[i]? = some x := by rfl) (hj : X.N[j]? = some y := by rfl) (hl : X.N[l]? = some z := by rfl)
    (hij : i ≠ j := by decide) (hil : i ≠ l := by decide) (hjl : j ≠ l := by decide)
    (hx : X.env.scope.names.lookup x = some .local := by rfl) (hy : X.env.scope.names.lookup y = some .local := by rfl) (hz : X.env.scope.names.lookup z = some .local := by rfl)
    (hw : swappedStores [.Tuple [.Name x px, .Name y py, .Name z pz] kt pt] (.Tuple [e1, e2, e3] k2 pt2) X.env = pure (some [x, y, z]) := by rfl)
    (hs : swapsWithSole [.Tuple [.Name x px, .Name y py, .Name z pz] kt pt] (.Tuple [e1, e2, e3] k2 pt2) pos.line X.env = pure false := by rfl)
    (ha1 : starEach [e1, e2, e3] X.env = (false, eval e1 X.env) :: starEach [e2, e3] X.env := by rfl) (ha2 : starEach [e2, e3] X.env = (false, eval e2 X.env) :: starEach [e3] X.env := by rfl) (ha3 : starEach [e3] X.env = (false, eval e3 X.env) :: starEach [] X.env := by rfl) :
    SS X B W (.Assign [.Tuple [.Name x px, .Name y py, .Name z pz] kt pt] (.Tuple [e1, e2, e3] k2 pt2) pos) (sPar3 i j l f1 f2 f3) := by
  refine (ps_par3 hc hN hi hj hl hij hil hjl hx hy hz (pa_cons h1 (pa_cons h2 (pa_cons h3 pa_nil ha3) ha2) ha1) hw hs).fw fun D σ H ⟨S, ι, lo, st, fm, p⟩ => ?_
  refine tE.use fm (Post.bind p) fun m k st1 S1 ι1 H1 v fm1 kp1 r1 p1 => ?_
  obtain ⟨⟨S2, fm2, kp2, d1⟩, p2⟩ := frzd_ok fm1 r1 p1
  have k2 := kp1.trans kp2
  refine tE.use fm2 (Post.bind (p2.mono k2 fun _ z => z)) fun m2 kd2 st2 S3 ι3 H3 w fm3 kp3 r2 p3 => ?_
  obtain ⟨⟨S4, fm4, kp4, d2⟩, p4⟩ := frzd_ok fm3 r2 p3
  have k4 := kp3.trans kp4
  refine tE.use fm4 (Post.bind (p4.mono k4 fun _ z => z)) fun m3 kd3 st3 S5 ι5 H5 u fm5 kp5 r3 p5 => ?_
  obtain ⟨⟨S6, fm6, kp6, d3⟩, p6⟩ := frzd_ok fm5 r3 p5
  have k6 := kp5.trans kp6
  exact ⟨v, w, u, rfl, p6 S6 ι5 _ H5 (((fm6.set_val i ((d1.mono k4).mono k6)).set_val j (d2.mono k6)).set_val l d3) (k2.trans (k4.trans k6))⟩

def sFz (i : Nat) (g : SF) : SF := fun lo st => match lo[i]? with
  | some (some (m, true)) => g (lo.set i (some (m, false))) st
  | _ => g lo st
theorem ss_fz (i : Nat) {s : Stmt} {g : SF} (h : SS X B W s g) : SS X B W s (sFz i g) := by
  refine h.fw fun D σ H ⟨S, ι, lo, st, fm, p⟩ => ?_
  unfold sFz at p
  split at p
  · rename_i m e
    obtain ⟨a, ea, n1, n2, n3, d⟩ := fm.loc.own i m e
    have hi : i < lo.length := (List.getElem?_eq_some_iff.mp e).1
    have hl := fm.loc.len
    -- the slot is out of sight, then it holds data
    have f0 : Fm X.wd B S ι H (lo.set i none) σ st := by
      have ne : ∀ {j : Nat} {z : MV × Bool}, (lo.set i none)[j]? = some (some z) → i ≠ j ∧ lo[j]? = some (some z) := fun {j z} h => by
        by_cases q : i = j
        · subst q
          rw [List.getElem?_set_self hi] at h; cases h
        · rw [List.getElem?_set_ne q] at h; exact ⟨q, h⟩
      refine ⟨fm.ext, fm.rep, ⟨by simp [hl], fun j n h => fm.loc.val j n (ne h).2, fun j n h => fm.loc.own j n (ne h).2, fun j k n n' b hjk h1 h2 => fm.loc.dis j k n n' b hjk (ne h1).2 (ne h2).2, fun j c fs h => fm.loc.pin j c fs (ne h).2⟩, fm.g⟩
    obtain ⟨o, ho, hob⟩ := d
    have ff := f0.freeze ho n2 n3 fun j m' h q => by
      have hj : i ≠ j := fun z => by subst z; rw [List.getElem?_set_self hi] at h; cases h
      rw [List.getElem?_set_ne hj] at h
      exact fm.loc.dis i j m m' a hj e h ea q
    have k1 : Keep S ι H (fz1 S a) ι H := .fz1
    have dd : Dt X.wd (fz1 S a) ι H (.ref a) m := (Sh.mono (a := a) k1 rfl ⟨o, ho, hob⟩).frozen (.inr rfl)
    have fs := ff.set_val i dd
    rw [List.set_set] at fs
    have es : σ.set i (some (.ref a)) = σ := by
      apply List.ext_getElem?
      intro j
      by_cases q : i = j
      · subst q; rw [List.getElem?_set_self (by omega), ea]
      · rw [List.getElem?_set_ne q]
    rw [es] at fs
    exact ⟨_, ι, _, st, fs, p.mono k1 fun r z => z.mono k1⟩
  · exact ⟨S, ι, lo, st, fm, p⟩

def mRev (fa : EF) : EF := fun lo st => fa lo st >>= fun (a, _, st1) => match vw st1 a with
  | .lst xs => .ok (.lst xs.reverse, .fr, st1)
  | _ => .bad
theorem AllD.reverse {mg : Wd} {S : Addr → Prop} {ι : List Addr} {H : Hp} {vs : List V} {ms : List MV} (d : AllD mg S ι H vs ms) : AllD mg S ι H vs.reverse ms.reverse := by
  refine ⟨by simp [d.1], fun i v m h1 h2 => ?_⟩
  have hi : i < vs.length := by have := (List.getElem?_eq_some_iff.mp h1).1; simpa using this
  rw [List.getElem?_reverse hi] at h1
  rw [List.getElem?_reverse (by rw [← d.1]; exact hi)] at h2
  rw [← d.1] at h2
  exact d.2 _ v m h1 h2
theorem se_revL {a : Expr} {fa : EF} {k : Nat} {p1 p2 p3 pos : Pos} (ha : SE X B W a fa) : SE X B W (.Subscript a (.Slice none none (some (.UnaryOp .USub (.Constant (.int 1) k p1) p2)) p3) pos) (mRev fa) := by
  refine (pe_revL ha).fw fun σ H Q ⟨S, ι, lo, st, fm, p⟩ => ?_
  refine tE.use fm (Post.bind p) fun m k st1 S1 ι1 H1 v fm1 kp1 r1 p1 => ?_
  obtain ⟨S1', f1', k1', h1⟩ := r1.hand fm1
  have vr := h1.vr f1'
  dsimp only at p1
  split at p1
  · rename_i xs e
    rw [e] at vr
    obtain ⟨q, vs, rfl, g, d⟩ := vr
    refine ⟨q, vs, rfl, .of g, fun r hr => ?_⟩
    exact wants_of (z := (.lst xs.reverse, true)) (st2 := st1) f1' p1 (kp1.trans k1') r _ hr ⟨_, rfl, d.reverse⟩
  · exact p1.elim

def strsOf : List MV → Option (List Str)
  | [] => some []
  | .str x :: ms => (strsOf ms).map (x :: ·)
  | _ :: _ => none
def gInT (neg : Bool) : G2
  | _, .str x, .tup ms => (strsOf ms).map fun xs => (.bl (if neg then !(xs.any fun y => decide (y = x)) else xs.any fun y => decide (y = x)), false)
  | _, _, _ => none
def gInC (neg : Bool) : G2
  | _, .str x, .str z => (match x.cps.toList with
    | [c] => some (.bl (if neg then !decide (c ∈ z.cps.toList) else decide (c ∈ z.cps.toList)), false)
    | _ => none)
  | _, _, _ => none
theorem strs_of {mg : Wd} {S : Addr → Prop} {ι : List Addr} {H : Hp} : ∀ {ms : List MV} {vs : List V} {xs : List Str}, AllD mg S ι H vs ms → strsOf ms = some xs → vs = xs.map V.str
  | [], vs, xs, d, e => by
    obtain rfl := d.inv_nil
    cases e; rfl
  | m :: ms, vs, xs, d, e => by
    obtain ⟨v, vs', rfl, d1, dr⟩ := d.inv_cons
    cases m with
    | str x =>
      have e' : (strsOf ms).map (x :: ·) = some xs := e
      obtain ⟨ys, h1, rfl⟩ := Option.map_eq_some_iff.mp e'
      cases d1
      rw [strs_of dr h1]; rfl
    | _ => cases e
theorem inV_strs (x : Str) : ∀ xs : List Str, inV (.str x) (xs.map V.str) = xs.any fun y => decide (y = x)
  | [] => rfl
  | y :: xs => by
    show ((V.str y :: xs.map V.str).any _) = _
    rw [List.any_cons, List.any_cons]
    have := inV_strs x xs
    unfold inV at this
    rw [this]
    have e : eqV (.str y) (.str x) = decide (y = x) := by
      unfold eqV
      by_cases h : y = x
      · subst h; simp
      · simp [h]
    rw [e]
theorem all_flat : ∀ xs : List Str, (xs.map V.str).all flatV = true
  | [] => rfl
  | x :: xs => by rw [List.map_cons, List.all_cons, all_flat xs]; rfl
theorem ok_inT {neg : Bool} : Op2 X (rIn X.K neg) (gInT neg) := by
  intro S ι H st x y a b z Q hr ha hb e w
  unfold gInT at e
  split at e
  · rename_i s ms
    obtain ⟨xs, hx, rfl⟩ := Option.map_eq_some_iff.mp e
    obtain ⟨p, vs, rfl, g, d⟩ := hb
    cases ha
    have ev := strs_of d hx
    subst ev
    refine ⟨p, _, rfl, .inr (.of g), rfl, all_flat xs, ?_⟩
    rw [inV_strs]
    exact w _ (.bl _)
  · cases e
abbrev rSign (neg : Bool) : R2 := fun x y H Q => ∃ (c : Nat) (z : Str), x = .str ⟨#[c]⟩ ∧ y = .str z ∧ Q (.bl (if neg then !decide (c ∈ z.cps.toList) else decide (c ∈ z.cps.toList))) H
theorem ok_inC {neg : Bool} : Op2 X (rSign neg) (gInC neg) := by
  intro S ι H st x y a b z Q hr ha hb e w
  unfold gInC at e
  split at e
  · rename_i s t
    split at e
    · rename_i c hc
      cases e
      cases ha; cases hb
      have hs : s = ⟨#[c]⟩ := by
        obtain ⟨a⟩ := s
        have ha : a = #[c] := Array.ext' (by simpa using hc)
        rw [ha]
      subst hs
      exact ⟨c, t, rfl, rfl, w _ (.bl _)⟩
    · cases e
  · cases e
theorem op_sign : OpR X (compareOp .In) (rSign false) := op_in_sign
theorem op_nsign : OpR X (compareOp .NotIn) (rSign true) := op_notIn_sign
def gInA (neg : Bool) : G2 := fun st a b => (gIn neg st a b).or ((gInT neg st a b).or (gInC neg st a b))
section
variable {a b : Expr} {fa fb : EF} {pos : Pos} {k : Nat}
theorem se_inA (hr : RoomG k X.A) (ha : SE X B W a fa) (hb : SE X B W b fb) (hm : behindInMarks .In b = false := by first | exact nomark _ | rfl) : SE X B W (.Compare a [.In] [b] pos) (mOp (gInA false) fa fb) :=
  se_cmp ((op_inD (by have := hr.r.un; omega)).or (op_in_seq.or op_sign)) (Op2.or ok_in (Op2.or ok_inT ok_inC)) ha hb hm
theorem se_notInA (hr : RoomG k X.A) (ha : SE X B W a fa) (hb : SE X B W b fb) (hm : behindInMarks .NotIn b = false := by first | exact nomark _ | rfl) : SE X B W (.Compare a [.NotIn] [b] pos) (mOp (gInA true) fa fb) :=
  se_cmp ((op_notInD (by have := hr.r.un; omega)).or (op_notIn_seq.or op_nsign)) (Op2.or ok_notIn (Op2.or ok_inT ok_inC)) ha hb hm
theorem st_inA (hr : RoomG k X.A) (ha : SE X B W a fa) (hb : SE X B W b fb) (hm : behindInMarks .In b = false := by first | exact nomark _ | rfl) : STe X B W (.Compare a [.In] [b] pos) (mTv (mOp (gInA false) fa fb)) :=
  st_cmp ((op_inD (by have := hr.r.un; omega)).or (op_in_seq.or op_sign)) (Op2.or ok_in (Op2.or ok_inT ok_inC)) ha hb hm
theorem st_notInA (hr : RoomG k X.A) (ha : SE X B W a fa) (hb : SE X B W b fb) (hm : behindInMarks .NotIn b = false := by first | exact nomark _ | rfl) : STe X B W (.Compare a [.NotIn] [b] pos) (mTv (mOp (gInA true) fa fb)) :=
  st_cmp ((op_notInD (by have := hr.r.un; omega)).or (op_notIn_seq.or op_nsign)) (Op2.or ok_notIn (Op2.or ok_inT ok_inC)) ha hb hm
end

def intsOf : List MV → Option (List Int)
  | [] => some []
  | .int x :: ms => (intsOf ms).map (x :: ·)
  | _ :: _ => none
def maxI : List Int → Int
  | [] => 0
  | [x] => x
  | x :: xs => if maxI xs < x then x else maxI xs
def minI : List Int → Int
  | [] => 0
  | [x] => x
  | x :: xs => if x < minI xs then x else minI xs
theorem maxI_spec : ∀ {xs : List Int}, xs ≠ [] → maxI xs ∈ xs ∧ ∀ y, y ∈ xs → y ≤ maxI xs
  | [], h => absurd rfl h
  | [x], _ => ⟨List.mem_singleton.mpr rfl, fun y hy => by rw [List.mem_singleton] at hy; subst hy; exact Int.le_refl _⟩
  | x :: z :: xs, _ => by
    obtain ⟨h1, h2⟩ := maxI_spec (xs := z :: xs) (fun q => by cases q)
    have e : maxI (x :: z :: xs) = if maxI (z :: xs) < x then x else maxI (z :: xs) := rfl
    rw [e]
    split
    · refine ⟨List.mem_cons_self, fun y hy => ?_⟩
      rcases List.mem_cons.mp hy with rfl | hy
      · exact Int.le_refl _
      · have := h2 y hy; omega
    · refine ⟨List.mem_cons_of_mem _ h1, fun y hy => ?_⟩
      rcases List.mem_cons.mp hy with rfl | hy
      · omega
      · exact h2 y hy
theorem minI_spec : ∀ {xs : List Int}, xs ≠ [] → minI xs ∈ xs ∧ ∀ y, y ∈ xs → minI xs ≤ y
  | [], h => absurd rfl h
  | [x], _ => ⟨List.mem_singleton.mpr rfl, fun y hy => by rw [List.mem_singleton] at hy; subst hy; exact Int.le_refl _⟩
  | x :: z :: xs, _ => by
    obtain ⟨h1, h2⟩ := minI_spec (xs := z :: xs) (fun q => by cases q)
    have e : minI (x :: z :: xs) = if x < minI (z :: xs) then x else minI (z :: xs) := rfl
    rw [e]
    split
    · refine ⟨List.mem_cons_self, fun y hy => ?_⟩
      rcases List.mem_cons.mp hy with rfl | hy
      · exact Int.le_refl _
      · have := h2 y hy; omega
    · refine ⟨List.mem_cons_of_mem _ h1, fun y hy => ?_⟩
      rcases List.mem_cons.mp hy with rfl | hy
      · omega
      · exact h2 y hy
theorem ints_of {mg : Wd} {S : Addr → Prop} {ι : List Addr} {H : Hp} : ∀ {ms : List MV} {vs : List V} {xs : List Int}, AllD mg S ι H vs ms → intsOf ms = some xs → vs = xs.map V.int
  | [], vs, xs, d, e => by
    obtain rfl := d.inv_nil
    cases e; rfl
  | m :: ms, vs, xs, d, e => by
    obtain ⟨v, vs', rfl, d1, dr⟩ := d.inv_cons
    cases m with
    | int x =>
      have e' : (intsOf ms).map (x :: ·) = some xs := e
      obtain ⟨ys, h1, rfl⟩ := Option.map_eq_some_iff.mp e'
      cases d1
      rw [ints_of dr h1]; rfl
    | _ => cases e
theorem intsOf_map (xs : List Int) : intsOf (xs.map MV.int) = some xs := by
  induction xs with
  | nil => rfl
  | cons x xs ih => rw [List.map_cons]; show (intsOf (xs.map MV.int)).map (x :: ·) = _; rw [ih]; rfl
theorem strsOf_map (xs : List Str) : strsOf (xs.map MV.str) = some xs := by
  induction xs with
  | nil => rfl
  | cons x xs ih => rw [List.map_cons]; show (strsOf (xs.map MV.str)).map (x :: ·) = _; rw [ih]; rfl
def gMaxL : GL
  | _, [.lst ms] => (intsOf ms).bind fun ns => if ns = [] then none else some (.int (maxI ns), false)
  | _, _ => none
def gMinL : GL
  | _, [.lst ms] => (intsOf ms).bind fun ns => if ns = [] then none else some (.int (minI ns), false)
  | _, _ => none
theorem ok_maxL : CallOk X (rMax X.K) gMaxL := by
  intro S ι H st vs as z Q hr ha e w
  unfold gMaxL at e
  split at e
  · rename_i ms
    obtain ⟨ns, h1, h2⟩ := Option.bind_eq_some_iff.mp e
    split at h2
    · cases h2
    rename_i hne
    cases h2
    obtain ⟨v, rfl, p, ws, rfl, g, d⟩ := ha.one
    have ev := ints_of d h1
    subst ev
    refine ⟨p, ns, rfl, .of g, List.length_pos_iff.mpr hne, fun m hm hall => ?_⟩
    obtain ⟨s1, s2⟩ := maxI_spec hne
    have : m = maxI ns := Int.le_antisymm (s2 m hm) (hall _ s1)
    rw [this]
    exact w _ (.int _)
  · cases e
theorem ok_minL : CallOk X (rMin X.K) gMinL := by
  intro S ι H st vs as z Q hr ha e w
  unfold gMinL at e
  split at e
  · rename_i ms
    obtain ⟨ns, h1, h2⟩ := Option.bind_eq_some_iff.mp e
    split at h2
    · cases h2
    rename_i hne
    cases h2
    obtain ⟨v, rfl, p, ws, rfl, g, d⟩ := ha.one
    have ev := ints_of d h1
    subst ev
    refine ⟨p, ns, rfl, .of g, List.length_pos_iff.mpr hne, fun m hm hall => ?_⟩
    obtain ⟨s1, s2⟩ := minI_spec hne
    have : m = minI ns := Int.le_antisymm (hall _ s1) (s2 m hm)
    rw [this]
    exact w _ (.int _)
  · cases e
def gMax3 : GL
  | _, [.int i, .int j, .int k] => some (.int (if (if i < j then j else i) < k then k else (if i < j then j else i)), false)
  | _, _ => none
theorem VRs.three {mg : Wd} {S : Addr → Prop} {ι : List Addr} {H : Hp} {vs : List V} {a b c : MV} (h : VRs mg S ι H vs [a, b, c]) : ∃ u v w, vs = [u, v, w] ∧ VR mg S ι H u a ∧ VR mg S ι H v b ∧ VR mg S ι H w c := by
  obtain ⟨hl, h⟩ := h
  match vs, hl with
  | [u, v, w], _ => exact ⟨u, v, w, rfl, h 0 u a rfl rfl, h 1 v b rfl rfl, h 2 w c rfl rfl⟩
theorem ok_max3 : CallOk X (rNuC3 nuMax3) gMax3 := by
  intro S ι H st vs as z Q hr ha e w
  unfold gMax3 at e
  split at e
  · cases e
    obtain ⟨u, v, x, rfl, rfl, rfl, rfl⟩ := ha.three
    refine ⟨_, _, _, .int _, rfl, ?_, w _ (.int _)⟩
    rename_i i j k
    have l2 : ∀ i j : Int, nuMax2 (.int i) (.int j) = some (.int (if i < j then j else i)) := fun i j => by
      unfold nuMax2
      show (some (decide (i < j))).map _ = _
      by_cases h : i < j <;> simp [h]
    unfold nuMax3
    rw [l2]
    show nuMax2 (.int _) (.int k) = _
    rw [l2]
  · cases e

def iStrM (f : EF) : IFn := fun lo st => f lo st >>= fun (m, _, st1) => match m with
  | .str z => .ok (z.cps.toList.map fun c => .str ⟨#[c]⟩, fun _ _ => True, st1)
  | _ => .bad
theorem si_str {tg e : Expr} {f : EF} (he : SE X B W e f) : SI X B W tg e (iStrM f) := by
  refine (pi_str he).fw fun σ H R ⟨S, ι, lo, st, fm, p⟩ => ?_
  refine tE.use fm (Post.bind p) fun m k st1 S1 ι1 H1 v f1 k1 r1 p1 => ?_
  obtain ⟨S1', f1', k1', h1⟩ := r1.hand f1
  have vr := h1.vr f1'
  dsimp only at p1
  split at p1
  · rename_i z
    cases vr
    refine ⟨z, rfl, p1 S1' ι1 H1 _ f1' (k1.trans k1') ?_ trivial⟩
    intro B2 i S2 ι2 H2 lo2 σ2 st2 f2 k2 _
    refine ⟨fun m hm => ?_, fun hl => ?_⟩
    · rw [List.getElem?_map] at hm
      obtain ⟨c, hc, rfl⟩ := Option.map_eq_some_iff.mp hm
      have hc' : z.cps[i]? = some c := by rw [← hc]; simp
      refine ⟨(show i < z.cps.size from by have := (List.getElem?_eq_some_iff.mp hc).1; simpa using this), fun x H' y => ?_⟩
      obtain ⟨rfl, c2, h2, rfl⟩ := y
      rw [hc'] at h2; cases h2
      exact ⟨S2, f2, .refl, .str _⟩
    · show z.cps.size ≤ i
      simpa using hl
  · exact p1.elim
end
end FW

namespace FW
open PySem L2 PySem.Spec PyProof.Rows

def ES : List Str := ["InvalidNumber", "InvalidList", "InvalidItem", "InvalidProgram", "InvalidRow", "InvalidText", "InvalidName", "TakenName", "UnknownName"]
def CS : List Str := ["Program", "Tested", "Live", "Library", "Window", "Book", "Cover", "Below"]
/-- an own class among those told: no -/
def eqf (l : List Str) : Str → Option Bool := fun c => if c ∈ l then some false else none
theorem eqf_use {l : List Str} {mg : Str → Option Value} {R : Addr → Bool → Prop} (h : ∀ c, c ∈ l → ∀ C, mg c = some (.ref C) → R C false) : ∀ n C b, eqf l n = some b → mg n = some (.ref C) → R C b := by
  intro n C b e hm
  unfold eqf at e
  split at e
  · rename_i m
    cases e
    exact h n m C hm
  · cases e
section
variable {X : Cx} {B : Base} {W : WX} {b : Expr} {fb : EF} {p p' pos pos' : Pos}
theorem se_listRg1 (hc : X.calm = true) (hg : Gl X "list") (hm : X.mg "list" = none) (hg' : Gl X "range") (hm' : X.mg "range" = none) (hb : SE X B W b fb)
    (nb : starEach [b] X.env = (false, eval b X.env) :: starEach [] X.env := by rfl)
    (nn : starEach [.Call (.Name "range" p') [b] [] pos'] X.env = (false, eval (.Call (.Name "range" p') [b] [] pos') X.env) :: starEach [] X.env := by rfl) :
    SE X B W (.Call (.Name "list" p) [.Call (.Name "range" p') [b] [] pos'] [] pos) (mRg (mC (.int 0)) fb) := by
  refine (pe_listRg hc hg hm (prg_1 hg' hm' hb nb) nn).fw fun σ H Q ⟨S, ι, lo, st, fm, p⟩ => ?_
  unfold mRg mC at p
  simp only [Res.ok_bind] at p
  refine tE.use fm (Post.bind p) fun b kb st2 S2 ι2 H2 y f2 k2 r2 p2 => ?_
  obtain ⟨S2', f2', k2', h2⟩ := r2.hand f2
  have v2 := h2.vr f2'
  dsimp only at p2
  split at p2
  · rename_i i j hi
    split at p2
    · cases hi
      cases v2
      refine ⟨_, rfl, by assumption, fun q hq => ?_⟩
      exact wants_of (z := (.lst _, true)) (st2 := st2) f2' p2 (k2.trans k2') q _ hq ⟨_, rfl, allD_rg _ _⟩
    · exact p2.elim
  · exact p2.elim
end
section
variable {X : Cx} {B : Base} {W : WX} {a b c : Expr} {fa fb fc : EF} {pos : Pos}
theorem st_lele (ha : SE X B W a fa) (hb : SE X B W b fb) (hc : SE X B W c fc) (hm : lastMarks [.LtE, .LtE] [b, c] = false := by with_unfolding_all rfl) : STe X B W (.Compare a [.LtE, .LtE] [b, c] pos) (mTv (mChain gLe gLe fa fb fc)) :=
  st_chain op_le op_le (ok_i0 fun _ _ _ _ _ _ => .bl _) (ok_i0 fun _ _ _ _ _ _ => .bl _) ha hb hc hm
theorem st_lelt (ha : SE X B W a fa) (hb : SE X B W b fb) (hc : SE X B W c fc) (hm : lastMarks [.LtE, .Lt] [b, c] = false := by with_unfolding_all rfl) : STe X B W (.Compare a [.LtE, .Lt] [b, c] pos) (mTv (mChain gLe gLt fa fb fc)) :=
  st_chain op_le op_lt (ok_i0 fun _ _ _ _ _ _ => .bl _) (ok_i0 fun _ _ _ _ _ _ => .bl _) ha hb hc hm
theorem st_ltlt (ha : SE X B W a fa) (hb : SE X B W b fb) (hc : SE X B W c fc) (hm : lastMarks [.Lt, .Lt] [b, c] = false := by with_unfolding_all rfl) : STe X B W (.Compare a [.Lt, .Lt] [b, c] pos) (mTv (mChain gLt gLt fa fb fc)) :=
  st_chain op_lt op_lt (ok_i0 fun _ _ _ _ _ _ => .bl _) (ok_i0 fun _ _ _ _ _ _ => .bl _) ha hb hc hm
end
section
variable (lo : Lo) (st : Sto)
theorem d_runI (c : Str) (n : Nat) (g : SF) (ms : List MV) : runI c n g ms st = (match g (startI c n ms) st with
  | .ok (.nx, lo, st') => (match selfOf lo with
    | some m => .ok (m, true, st')
    | none => .bad)
  | .ok _ => .bad
  | .exc c fs lo st' => .exc c fs lo st'
  | .bad => .bad) := (Eq.refl _).trans rfl
@[simp] theorem d_mMeth (c m : Str) (n : Nat) (F : FF) (fo : EF) (g : AF) : mMeth c m n F fo g lo st = (fo lo st >>= fun (t, k, st1) => if isPk k = false ∧ insOf c m (vw st1 t) = true then g lo st1 >>= fun (l, st2) => callF n F [] ((t, false) :: l) lo st2 else .bad) := (Eq.refl _).trans rfl
@[simp] theorem d_insOf (c m : Str) (fs) : insOf c m (.ins c fs) = (fs.lookup m).isNone := by
  show (decide (c = c) && (fs.lookup m).isNone) = _
  rw [decide_eq_true rfl, Bool.true_and]
@[simp] theorem d_sPutF (f : Str) (oi) (fe fo : EF) : sPutF f oi fe fo lo st = (fe lo st >>= fun r => frzd r >>= fun (m, st1) => fo lo st1 >>= fun (t, k, st2) => match targetOf t k lo st2 with
  | some (.ins c fs) => if oi c = true ∧ fs.length < 1000 then .ok (.nx, (putBack t k (.ins c (putM f m fs)) lo st2).1, (putBack t k (.ins c (putM f m fs)) lo st2).2) else .bad
  | _ => .bad) := (Eq.refl _).trans rfl
@[simp] theorem d_sPar (i j o1 o2) (f1 f2 : EF) : sPar i j o1 o2 f1 f2 lo st = (f1 lo st >>= fun r1 => takeK o1 r1 >>= fun (m1, st1) =>
  (if o1 = true then noExc (f2 lo st1) else f2 lo st1) >>= fun r2 => takeK o2 r2 >>= fun (m2, st2) => .ok (.nx, (lo.set i (some (m1, o1))).set j (some (m2, o2)), st2)) := (Eq.refl _).trans rfl
@[simp] theorem d_sPar3 (i j l) (f1 f2 f3 : EF) : sPar3 i j l f1 f2 f3 lo st = (f1 lo st >>= fun r1 => frzd r1 >>= fun (m1, st1) => f2 lo st1 >>= fun r2 => frzd r2 >>= fun (m2, st2) => f3 lo st2 >>= fun r3 => frzd r3 >>= fun (m3, st3) =>
  .ok (.nx, ((lo.set i (some (m1, false))).set j (some (m2, false))).set l (some (m3, false)), st3)) := (Eq.refl _).trans rfl
@[simp] theorem d_takeF (r) : takeK false r = frzd r := (Eq.refl _).trans rfl
@[simp] theorem d_takeT (m : MV) : takeK true (m, .fr, st) = if ownOk m = true then .ok (m, st) else .bad := (Eq.refl _).trans rfl
@[simp] theorem d_noExc {α : Type} (a : α) : noExc (.ok a) = .ok a := (Eq.refl _).trans rfl
@[simp] theorem d_sFz (i : Nat) (g : SF) : sFz i g lo st = (match lo[i]? with
  | some (some (m, true)) => g (lo.set i (some (m, false))) st
  | _ => g lo st) := (Eq.refl _).trans rfl
@[simp] theorem d_mRev (fa : EF) : mRev fa lo st = (fa lo st >>= fun (a, _, st1) => match vw st1 a with
  | .lst xs => .ok (.lst xs.reverse, .fr, st1)
  | _ => .bad) := (Eq.refl _).trans rfl
end
end FW

namespace FW
open PySem L2 PySem.Spec PyProof.Rows

mutual
def md : MV → PyData
  | .non => .none
  | .bl b => .bool b
  | .int i => .int i
  | .str x => .str x
  | .tup xs => .tuple (mds xs)
  | .lst xs => .list (mds xs)
  | .dct _ => .dict []
  | .ins _ _ => .none
  | .exc _ _ => .none
  | .ref _ => .none
  | .scr _ => .none
def mds : List MV → List PyData
  | [] => []
  | x :: xs => md x :: mds xs
end
/-- plain data, not deeper than n -/
def gd : Nat → MV → Bool
  | 0, _ => false
  | _ + 1, .non => true
  | _ + 1, .bl _ => true
  | _ + 1, .int i => decide (i.natAbs.log2 < 1600)
  | _ + 1, .str x => PyData.strOk x
  | n + 1, .tup xs => xs.all (gd n)
  | n + 1, .lst xs => xs.all (gd n)
  | _, _ => false
/-- .. or {} -/
def gx : Nat → MV → Bool
  | 0, _ => false
  | _ + 1, .non => true
  | _ + 1, .bl _ => true
  | _ + 1, .int i => decide (i.natAbs.log2 < 1600)
  | _ + 1, .str x => PyData.strOk x
  | n + 1, .tup xs => xs.all (gx n)
  | n + 1, .lst xs => xs.all (gx n)
  | _ + 1, .dct [] => true
  | _, _ => false
mutual
def wt : MV → Nat
  | .non => 5
  | .bl _ => 5
  | .int _ => 501
  | .str x => 10 * x.length + 2
  | .tup xs => wts xs + 3
  | .lst xs => wts xs + 3
  | .dct _ => 5
  | .ins _ _ => 0
  | .exc _ _ => 0
  | .ref _ => 0
  | .scr _ => 0
def wts : List MV → Nat
  | [] => 0
  | x :: xs => wt x + 2 + wts xs
end
abbrev rp (m : MV) : Str := (md m).shown
theorem mds_map (xs : List MV) : mds xs = xs.map md := by
  induction xs with
  | nil => simp [mds]
  | cons x xs ih => simp [mds, ih]
theorem gd_tup {n : Nat} {xs : List MV} (h : ∀ x, x ∈ xs → gd n x = true) : gd (n + 1) (.tup xs) = true := List.all_eq_true.mpr h
theorem gd_lst {n : Nat} {xs : List MV} (h : ∀ x, x ∈ xs → gd n x = true) : gd (n + 1) (.lst xs) = true := List.all_eq_true.mpr h
theorem gd_int {n : Nat} {i : Int} (h : i.natAbs < 10 ^ 400) : gd (n + 1) (.int i) = true := by
  have h2 : i.natAbs < 2 ^ 1600 := Nat.lt_of_lt_of_le h (by decide +kernel)
  show decide (i.natAbs.log2 < 1600) = true
  rw [decide_eq_true_eq]
  by_cases z : i.natAbs = 0
  · rw [z]; decide
  · exact (Nat.log2_lt z).mpr h2
theorem gd_up : ∀ {n : Nat} {m : MV}, gd n m = true → gd (n + 1) m = true
  | 0, _, h => by cases h
  | n + 1, .non, _ => rfl
  | n + 1, .bl _, _ => rfl
  | n + 1, .int _, h => h
  | n + 1, .str _, h => h
  | n + 1, .tup xs, h => List.all_eq_true.mpr fun x hx => gd_up (List.all_eq_true.mp h x hx)
  | n + 1, .lst xs, h => List.all_eq_true.mpr fun x hx => gd_up (List.all_eq_true.mp h x hx)
  | n + 1, .dct _, h => by cases h
  | n + 1, .ins _ _, h => by cases h
  | n + 1, .exc _ _, h => by cases h
  | n + 1, .ref _, h => by cases h
  | n + 1, .scr _, h => by cases h
theorem gx_up : ∀ {n : Nat} {m : MV}, gx n m = true → gx (n + 1) m = true
  | 0, _, h => by cases h
  | n + 1, .non, _ => rfl
  | n + 1, .bl _, _ => rfl
  | n + 1, .int _, h => h
  | n + 1, .str _, h => h
  | n + 1, .tup xs, h => List.all_eq_true.mpr fun x hx => gx_up (List.all_eq_true.mp h x hx)
  | n + 1, .lst xs, h => List.all_eq_true.mpr fun x hx => gx_up (List.all_eq_true.mp h x hx)
  | n + 1, .dct [], _ => rfl
  | n + 1, .dct (_ :: _), h => by cases h
  | n + 1, .ins _ _, h => by cases h
  | n + 1, .exc _ _, h => by cases h
  | n + 1, .ref _, h => by cases h
  | n + 1, .scr _, h => by cases h
theorem gx_le {n k : Nat} {m : MV} (h : gx n m = true) (hk : n ≤ k) : gx k m = true := by
  induction hk with
  | refl => exact h
  | step _ ih => exact gx_up ih
theorem gx_tup {n : Nat} {xs : List MV} (h : ∀ x, x ∈ xs → gx n x = true) : gx (n + 1) (.tup xs) = true := List.all_eq_true.mpr h
theorem gx_lst {n : Nat} {xs : List MV} (h : ∀ x, x ∈ xs → gx n x = true) : gx (n + 1) (.lst xs) = true := List.all_eq_true.mpr h
theorem gd_gx : ∀ {n : Nat} {m : MV}, gd n m = true → gx n m = true
  | 0, _, h => by cases h
  | n + 1, .non, _ => rfl
  | n + 1, .bl _, _ => rfl
  | n + 1, .int _, h => h
  | n + 1, .str _, h => h
  | n + 1, .tup xs, h => List.all_eq_true.mpr fun x hx => gd_gx (List.all_eq_true.mp h x hx)
  | n + 1, .lst xs, h => List.all_eq_true.mpr fun x hx => gd_gx (List.all_eq_true.mp h x hx)
  | n + 1, .dct _, h => by cases h
  | n + 1, .ins _ _, h => by cases h
  | n + 1, .exc _ _, h => by cases h
  | n + 1, .ref _, h => by cases h
  | n + 1, .scr _, h => by cases h
theorem gx_vw {n : Nat} {m : MV} (h : gx n m = true) (st : Sto) : vw st m = m := by
  cases n with
  | zero => cases h
  | succ n => cases m <;> first | rfl | (cases h)
theorem gd_le {n k : Nat} {m : MV} (h : gd n m = true) (hk : n ≤ k) : gd k m = true := by
  induction hk with
  | refl => exact h
  | step _ ih => exact gd_up ih
theorem gd_vw {n : Nat} {m : MV} (h : gd n m = true) (st : Sto) : vw st m = m := by
  cases n with
  | zero => cases h
  | succ n => cases m <;> first | rfl | (cases h)
theorem mapO_eq {β γ : Type} {f : β → Option γ} {h : β → γ} : ∀ {l : List β}, (∀ a, a ∈ l → f a = some (h a)) → mapO f l = some (l.map h)
  | [], _ => rfl
  | a :: l, e => by
    rw [List.map_cons]
    unfold mapO
    rw [e a (List.mem_cons_self ..), mapO_eq fun b hb => e b (List.mem_cons_of_mem _ hb)]
theorem toD_gd (st : Sto) : ∀ {n : Nat} {m : MV}, gd n m = true → toD st n m = some (md m)
  | 0, _, h => by cases h
  | n + 1, .non, _ => by simp [toD, md]
  | n + 1, .bl _, _ => by simp [toD, md]
  | n + 1, .int _, _ => by simp [toD, md]
  | n + 1, .str _, _ => by simp [toD, md]
  | n + 1, .tup xs, h => by
    have e := mapO_eq (f := toD st n) (h := md) fun x hx => toD_gd st (List.all_eq_true.mp h x hx)
    simp [toD, md, e, mds_map]
  | n + 1, .lst xs, h => by
    have e := mapO_eq (f := toD st n) (h := md) fun x hx => toD_gd st (List.all_eq_true.mp h x hx)
    simp [toD, md, e, mds_map]
  | n + 1, .dct _, h => by cases h
  | n + 1, .ins _ _, h => by cases h
  | n + 1, .exc _ _, h => by cases h
  | n + 1, .ref _, h => by cases h
  | n + 1, .scr _, h => by cases h
theorem toX_gx (st : Sto) : ∀ {n : Nat} {m : MV}, gx n m = true → toX st n m = some (md m)
  | 0, _, h => by cases h
  | n + 1, .non, _ => by simp [toX, md]
  | n + 1, .bl _, _ => by simp [toX, md]
  | n + 1, .int _, _ => by simp [toX, md]
  | n + 1, .str _, _ => by simp [toX, md]
  | n + 1, .tup xs, h => by
    have e := mapO_eq (f := toX st n) (h := md) fun x hx => toX_gx st (List.all_eq_true.mp h x hx)
    simp [toX, md, e, mds_map]
  | n + 1, .lst xs, h => by
    have e := mapO_eq (f := toX st n) (h := md) fun x hx => toX_gx st (List.all_eq_true.mp h x hx)
    simp [toX, md, e, mds_map]
  | n + 1, .dct [], _ => by simp [toX, md]
  | n + 1, .dct (_ :: _), h => by cases h
  | n + 1, .ins _ _, h => by cases h
  | n + 1, .exc _ _, h => by cases h
  | n + 1, .ref _, h => by cases h
  | n + 1, .scr _, h => by cases h
theorem lay_all {xs : List MV} (h : ∀ x, x ∈ xs → (md x).canLay0 = true) : PyData.canLayAll0 (mds xs) = true := by
  induction xs with
  | nil => simp [mds, PyData.canLayAll0]
  | cons x xs ih => simp [mds, PyData.canLayAll0, h x (List.mem_cons_self ..), ih fun y hy => h y (List.mem_cons_of_mem _ hy)]
theorem lay_gd : ∀ {n : Nat} {m : MV}, gd n m = true → (md m).canLay0 = true
  | 0, _, h => by cases h
  | n + 1, .non, _ => by simp [md, PyData.canLay0]
  | n + 1, .bl _, _ => by simp [md, PyData.canLay0]
  | n + 1, .int _, _ => by simp [md, PyData.canLay0]
  | n + 1, .str x, h => by
    have h' : PyData.strOk x = true := h
    simp [md, PyData.canLay0, h']
  | n + 1, .tup xs, h => by
    have := lay_all fun x hx => lay_gd (List.all_eq_true.mp h x hx)
    simp [md, PyData.canLay0, this]
  | n + 1, .lst xs, h => by
    have := lay_all fun x hx => lay_gd (List.all_eq_true.mp h x hx)
    simp [md, PyData.canLay0, this]
  | n + 1, .dct _, h => by cases h
  | n + 1, .ins _ _, h => by cases h
  | n + 1, .exc _ _, h => by cases h
  | n + 1, .ref _, h => by cases h
  | n + 1, .scr _, h => by cases h
theorem dep_all {xs : List MV} {n : Nat} (h : ∀ x, x ∈ xs → (md x).depth ≤ n) : PyData.depthAll (mds xs) ≤ n := by
  induction xs with
  | nil => simp [mds, PyData.depthAll]
  | cons x xs ih =>
    have h1 := h x (List.mem_cons_self ..)
    have h2 := ih fun y hy => h y (List.mem_cons_of_mem _ hy)
    simp only [mds, PyData.depthAll]
    omega
theorem dep_gd : ∀ {n : Nat} {m : MV}, gd n m = true → (md m).depth ≤ n
  | 0, _, h => by cases h
  | n + 1, .non, _ => by simp [md, PyData.depth]
  | n + 1, .bl _, _ => by simp [md, PyData.depth]
  | n + 1, .int _, _ => by simp [md, PyData.depth]
  | n + 1, .str x, _ => by simp [md, PyData.depth]
  | n + 1, .tup xs, h => by
    have := dep_all fun x hx => dep_gd (List.all_eq_true.mp h x hx)
    simp only [md, PyData.depth]; omega
  | n + 1, .lst xs, h => by
    have := dep_all fun x hx => dep_gd (List.all_eq_true.mp h x hx)
    simp only [md, PyData.depth]; omega
  | n + 1, .dct _, h => by cases h
  | n + 1, .ins _ _, h => by cases h
  | n + 1, .exc _ _, h => by cases h
  | n + 1, .ref _, h => by cases h
  | n + 1, .scr _, h => by cases h
theorem dep_gx : ∀ {n : Nat} {m : MV}, gx n m = true → (md m).depth ≤ n
  | 0, _, h => by cases h
  | n + 1, .non, _ => by simp [md, PyData.depth]
  | n + 1, .bl _, _ => by simp [md, PyData.depth]
  | n + 1, .int _, _ => by simp [md, PyData.depth]
  | n + 1, .str x, _ => by simp [md, PyData.depth]
  | n + 1, .tup xs, h => by
    have := dep_all fun x hx => dep_gx (List.all_eq_true.mp h x hx)
    simp only [md, PyData.depth]; omega
  | n + 1, .lst xs, h => by
    have := dep_all fun x hx => dep_gx (List.all_eq_true.mp h x hx)
    simp only [md, PyData.depth]; omega
  | n + 1, .dct [], _ => by simp [md, PyData.depth, PyData.depthKv]
  | n + 1, .dct (_ :: _), h => by cases h
  | n + 1, .ins _ _, h => by cases h
  | n + 1, .exc _ _, h => by cases h
  | n + 1, .ref _, h => by cases h
  | n + 1, .scr _, h => by cases h
theorem shaped_gd {m : MV} (h : gd dpt m = true) : SeqAt.shaped (md m) = true := by
  have h1 := lay_gd h
  have h2 := dep_gd h
  simp only [SeqAt.shaped, h1, Bool.true_and, decide_eq_true_eq]
  exact Nat.le_trans h2 (by decide)
def eqM (a b : MV) : Bool := PyData.eqv (md a) (md b)
theorem eqv_all_refl {xs : List MV} (h : ∀ x, x ∈ xs → eqM x x = true) : PyData.eqvAll (mds xs) (mds xs) = true := by
  induction xs with
  | nil => simp [mds, PyData.eqvAll]
  | cons x xs ih =>
    have h1 : PyData.eqv (md x) (md x) = true := h x (List.mem_cons_self ..)
    simp [mds, PyData.eqvAll, h1, ih fun y hy => h y (List.mem_cons_of_mem _ hy)]
theorem eqM_refl : ∀ {n : Nat} {m : MV}, gd n m = true → eqM m m = true
  | 0, _, h => by cases h
  | n + 1, .non, _ => by simp [eqM, md, PyData.eqv]
  | n + 1, .bl _, _ => by simp [eqM, md, PyData.eqv]
  | n + 1, .int _, _ => by simp [eqM, md, PyData.eqv]
  | n + 1, .str x, _ => by simp [eqM, md, PyData.eqv]
  | n + 1, .tup xs, h => by
    have := eqv_all_refl fun x hx => eqM_refl (List.all_eq_true.mp h x hx)
    simp [eqM, md, PyData.eqv, this]
  | n + 1, .lst xs, h => by
    have := eqv_all_refl fun x hx => eqM_refl (List.all_eq_true.mp h x hx)
    simp [eqM, md, PyData.eqv, this]
  | n + 1, .dct _, h => by cases h
  | n + 1, .ins _ _, h => by cases h
  | n + 1, .exc _ _, h => by cases h
  | n + 1, .ref _, h => by cases h
  | n + 1, .scr _, h => by cases h
theorem eq_gd {neg : Bool} {st : Sto} {a b : MV} (ha : gd dpt a = true) (hb : gd dpt b = true) : gEqB neg st a b = some (.bl (if neg then !eqM a b else eqM a b), false) := by
  unfold gEqB
  rw [toD_gd st ha, toD_gd st hb]
  exact if_pos ⟨shaped_gd ha, shaped_gd hb⟩
theorem in_gd {neg : Bool} {st : Sto} {a : MV} {bs : List MV} (ha : gd dpt a = true) (hb : gd dpt (.lst bs) = true) : gInA neg st a (.lst bs) = some (.bl (if neg then !(bs.any fun z => eqM z a) else bs.any fun z => eqM z a), false) := by
  have e : gIn neg st a (.lst bs) = some (.bl (if neg then !(bs.any fun z => eqM z a) else bs.any fun z => eqM z a), false) := by
    unfold gIn
    rw [toD_gd st ha, toD_gd st hb]
    have s := shaped_gd hb
    simp only [md] at s ⊢
    rw [if_pos ⟨shaped_gd ha, s⟩, mds_map, List.any_map]
    rfl
  unfold gInA
  rw [e]; rfl
theorem ok_str (s : String) : PyData.strOk (Str.ofString s) = true := by
  unfold PyData.strOk
  rw [Str.ofString_eq_toList]
  simp only [List.all_toArray, List.all_map, List.all_eq_true]
  intro c _
  have h := c.valid
  have e : c.toNat < 0x110000 := by
    rcases h with h | h
    · have : c.toNat < 0xd800 := h
      omega
    · exact h.2
  simpa using e
theorem ok_app {a b : Str} (ha : PyData.strOk a = true) (hb : PyData.strOk b = true) : PyData.strOk (a ++ b) = true := by
  unfold PyData.strOk at *
  show (a.cps ++ b.cps).all _ = true
  rw [Array.all_append, ha, hb]; rfl
theorem ok_join {p : Str} (hp : PyData.strOk p = true) : ∀ ts : List Str, (∀ t, t ∈ ts → PyData.strOk t = true) → PyData.strOk (Str.join p ts) = true
  | [], _ => (by decide +kernel : PyData.strOk Str.empty = true)
  | [x], h => h x (List.mem_cons_self ..)
  | x :: y :: r, h => by
    show PyData.strOk (x ++ p ++ Str.join p (y :: r)) = true
    exact ok_app (ok_app (h x (List.mem_cons_self ..)) hp) (ok_join hp (y :: r) fun t ht => h t (List.mem_cons_of_mem _ ht))
theorem ok_tup {ts : List Str} (h : ∀ t, t ∈ ts → PyData.strOk t = true) : PyData.strOk (tupleText ts) = true := by
  unfold tupleText
  exact ok_app (ok_app (ok_str _) (ok_join (ok_str _) ts h)) (by split <;> exact ok_str _)
theorem ok_from : ∀ (ts : List Str) (k : Nat) (acc : Str), PyData.strOk acc = true → (∀ t, t ∈ ts → PyData.strOk t = true) → PyData.strOk (textFrom k acc ts) = true
  | [], k, acc, h, _ => h
  | t :: r, k, acc, h, hs => by
    show PyData.strOk (textFrom (k + 1) (acc ++ (if k > 0 then ", " else "" : String) ++ t) r) = true
    exact ok_from r (k + 1) _ (ok_app (ok_app h (ok_str _)) (hs t (List.mem_cons_self ..))) fun u hu => hs u (List.mem_cons_of_mem _ hu)
theorem ok_lst {ts : List Str} (h : ∀ t, t ∈ ts → PyData.strOk t = true) : PyData.strOk (listText ts) = true := by
  show PyData.strOk (textFrom 0 "[" ts ++ "]") = true
  exact ok_app (ok_from ts 0 _ (ok_str _) h) (ok_str _)
theorem shownAll_map : ∀ ds : List PyData, PyData.shownAll ds = ds.map PyData.shown
  | [] => by simp [PyData.shownAll]
  | d :: ds => by rw [List.map_cons, ← shownAll_map ds]; simp [PyData.shownAll]
theorem shown_mds (xs : List MV) : PyData.shownAll (mds xs) = xs.map rp := by
  rw [shownAll_map, mds_map, List.map_map]; rfl
theorem strOk_mem {x : Str} (h : PyData.strOk x = true) (c : Nat) (hc : c ∈ x.cps.toList) : c < 0x110000 := by
  unfold PyData.strOk at h
  have := Array.all_eq_true_iff_forall_mem.mp h c (by simpa using hc)
  simpa using this
theorem reprChar_ok {q c : Nat} (hq : q < 0x110000) (hc : c < 0x110000) : ∀ d, d ∈ Builtin.Str.reprChar q c → d < 0x110000 := by
  have hex : ∀ w d, d ∈ (List.replicate (w - ((Nat.toDigits 16 c).map Char.toNat).length) 48 ++ (Nat.toDigits 16 c).map Char.toNat) → d < 0x110000 := by
    intro w d hd
    rcases List.mem_append.mp hd with hd | hd
    · have := List.eq_of_mem_replicate hd; omega
    · obtain ⟨ch, _, rfl⟩ := List.mem_map.mp hd
      have h := ch.valid
      rcases h with h | h
      · have : ch.toNat < 0xd800 := h
        omega
      · exact h.2
  intro d hd
  unfold Builtin.Str.reprChar at hd
  dsimp only at hd
  split at hd
  · simp only [List.mem_cons, List.not_mem_nil, or_false] at hd; omega
  split at hd
  · simp only [List.mem_cons, List.not_mem_nil, or_false] at hd; omega
  split at hd
  · simp only [List.mem_cons, List.not_mem_nil, or_false] at hd; omega
  split at hd
  · simp only [List.mem_cons, List.not_mem_nil, or_false] at hd; omega
  split at hd
  · simp only [List.mem_cons, List.not_mem_nil, or_false] at hd; omega
  split at hd
  · rcases List.mem_append.mp hd with hd | hd
    · simp only [List.mem_cons, List.not_mem_nil, or_false] at hd; omega
    · exact hex _ d hd
  split at hd
  · rcases List.mem_append.mp hd with hd | hd
    · simp only [List.mem_cons, List.not_mem_nil, or_false] at hd; omega
    · exact hex _ d hd
  · rcases List.mem_append.mp hd with hd | hd
    · simp only [List.mem_cons, List.not_mem_nil, or_false] at hd; omega
    · exact hex _ d hd
theorem fold_ok {q : Nat} (hq : q < 0x110000) : ∀ (l : List Nat) (acc : Array Nat), (∀ c, c ∈ l → c < 0x110000) → (∀ d, d ∈ acc.toList → d < 0x110000) → ∀ d, d ∈ (l.foldl (fun out c => out ++ (Builtin.Str.reprChar q c).toArray) acc).toList → d < 0x110000
  | [], acc, _, h => h
  | c :: r, acc, hl, h => by
    rw [List.foldl_cons]
    refine fold_ok hq r _ (fun d hd => hl d (List.mem_cons_of_mem _ hd)) fun d hd => ?_
    rw [Array.toList_append, List.mem_append] at hd
    rcases hd with hd | hd
    · exact h d hd
    · exact reprChar_ok hq (hl c (List.mem_cons_self ..)) d (by simpa using hd)
theorem ok_reprText {x : Str} (h : PyData.strOk x = true) : PyData.strOk (reprText x) = true := by
  have hq : reprQuote x < 0x110000 := by unfold reprQuote; split <;> decide
  have key := fold_ok hq x.cps.toList #[reprQuote x] (fun c hc => strOk_mem h c hc) (fun d hd => by simp at hd; omega)
  unfold PyData.strOk reprText
  rw [Array.all_eq_true_iff_forall_mem]
  intro d hd
  rw [Array.mem_push] at hd
  rw [decide_eq_true_eq]
  rcases hd with hd | rfl
  · refine key d ?_
    rw [Array.foldl_toList]
    first | exact Array.mem_toList_iff.mpr hd | exact Array.mem_toList.mpr hd | exact hd.val
  · exact hq
theorem ok_rp : ∀ {n : Nat} {m : MV}, gx n m = true → PyData.strOk (rp m) = true
  | 0, _, h => by cases h
  | n + 1, .non, _ => by simp only [rp, md, PyData.shown]; exact ok_str _
  | n + 1, .bl b, _ => by simp only [rp, md, PyData.shown]; cases b <;> exact ok_str _
  | n + 1, .int _, _ => by simp only [rp, md, PyData.shown]; exact ok_str _
  | n + 1, .str x, h => by
    simp only [rp, md, PyData.shown]; exact ok_reprText h
  | n + 1, .tup xs, h => by
    simp only [rp, md, PyData.shown]
    rw [shown_mds]
    exact ok_tup fun t ht => by
      obtain ⟨x, hx, rfl⟩ := List.mem_map.mp ht
      exact ok_rp (List.all_eq_true.mp h x hx)
  | n + 1, .lst xs, h => by
    simp only [rp, md, PyData.shown]
    rw [shown_mds]
    exact ok_lst fun t ht => by
      obtain ⟨x, hx, rfl⟩ := List.mem_map.mp ht
      exact ok_rp (List.all_eq_true.mp h x hx)
  | n + 1, .dct [], _ => by simp only [rp, md, PyData.shown, PyData.shownKv]; decide +kernel
  | n + 1, .dct (_ :: _), h => by cases h
  | n + 1, .ins _ _, h => by cases h
  | n + 1, .exc _ _, h => by cases h
  | n + 1, .ref _, h => by cases h
  | n + 1, .scr _, h => by cases h
theorem len_all {xs : List MV} (h : ∀ x, x ∈ xs → (rp x).length ≤ wt x) : ((xs.map rp).map (·.length)).sum + 2 * (xs.map rp).length ≤ wts xs := by
  induction xs with
  | nil => simp [wts]
  | cons x xs ih =>
    have h1 := h x (List.mem_cons_self ..)
    have h2 := ih fun y hy => h y (List.mem_cons_of_mem _ hy)
    simp only [List.map_cons, List.sum_cons, List.length_cons, wts] at h2 ⊢
    omega
theorem len_rp : ∀ {n : Nat} {m : MV}, gx n m = true → (rp m).length ≤ wt m
  | 0, _, h => by cases h
  | n + 1, .non, _ => by simp only [rp, md, PyData.shown, wt]; decide +kernel
  | n + 1, .bl b, _ => by simp only [rp, md, PyData.shown, wt]; cases b <;> decide +kernel
  | n + 1, .int i, h => by
    have h' : i.natAbs.log2 < 1600 := of_decide_eq_true h
    simp only [rp, md, PyData.shown, wt]
    show (Str.ofString (toString i)).length ≤ 501
    rw [PySem.ofString_length]
    refine int_text_length_le10 (by decide) ?_
    by_cases z : i.natAbs = 0
    · rw [z]; decide +kernel
    · exact Nat.lt_of_lt_of_le ((Nat.log2_lt z).mp h') (by decide +kernel)
  | n + 1, .str x, h => by
    have h' : PyData.strOk x = true := h
    simp only [rp, md, PyData.shown, wt]
    refine StrLaws.reprText_len x fun c hc => ?_
    have := strOk_mem h' c hc
    exact Nat.lt_of_lt_of_le this (by decide)
  | n + 1, .tup xs, h => by
    have := len_all fun x hx => len_rp (List.all_eq_true.mp h x hx)
    simp only [rp, md, PyData.shown, wt]
    rw [shown_mds]
    have t := tupleText_len_le (xs.map rp)
    omega
  | n + 1, .lst xs, h => by
    have := len_all fun x hx => len_rp (List.all_eq_true.mp h x hx)
    simp only [rp, md, PyData.shown, wt]
    rw [shown_mds]
    have t := listText_len_le (xs.map rp)
    omega
  | n + 1, .dct [], _ => by simp only [rp, md, PyData.shown, PyData.shownKv, wt]; decide +kernel
  | n + 1, .dct (_ :: _), h => by cases h
  | n + 1, .ins _ _, h => by cases h
  | n + 1, .exc _ _, h => by cases h
  | n + 1, .ref _, h => by cases h
  | n + 1, .scr _, h => by cases h
theorem show_all {xs : List MV} (h : ∀ x, x ∈ xs → (md x).showable = true) : PyData.showableAll (mds xs) = true := by
  induction xs with
  | nil => simp [mds, PyData.showableAll]
  | cons x xs ih => simp [mds, PyData.showableAll, h x (List.mem_cons_self ..), ih fun y hy => h y (List.mem_cons_of_mem _ hy)]
theorem show_gd : ∀ {n : Nat} {m : MV}, gx n m = true → (md m).showable = true
  | 0, _, h => by cases h
  | n + 1, .non, _ => by simp [md, PyData.showable]
  | n + 1, .bl _, _ => by simp [md, PyData.showable]
  | n + 1, .int i, h => by
    have h' : i.natAbs.log2 < 1600 := of_decide_eq_true h
    simp only [md, PyData.showable, decide_eq_true_eq]; omega
  | n + 1, .str x, _ => by simp [md, PyData.showable]
  | n + 1, .tup xs, h => by
    have := show_all fun x hx => show_gd (List.all_eq_true.mp h x hx)
    simp [md, PyData.showable, this]
  | n + 1, .lst xs, h => by
    have := show_all fun x hx => show_gd (List.all_eq_true.mp h x hx)
    simp [md, PyData.showable, this]
  | n + 1, .dct [], _ => by simp [md, PyData.showable, PyData.showableKv]
  | n + 1, .dct (_ :: _), h => by cases h
  | n + 1, .ins _ _, h => by cases h
  | n + 1, .exc _ _, h => by cases h
  | n + 1, .ref _, h => by cases h
  | n + 1, .scr _, h => by cases h
/-- shown by repr: plain data, {} among it -/
def rgd (m : MV) : Bool := gx dpt m && decide (wt m ≤ sizeLine)
theorem rgd_gx {m : MV} (h : rgd m = true) : gx dpt m = true := by
  unfold rgd at h
  rw [Bool.and_eq_true] at h
  exact h.1
theorem rgd_of {m : MV} (h : gx dpt m = true) (hw : wt m ≤ sizeLine) : rgd m = true := by
  unfold rgd
  rw [h, Bool.true_and, decide_eq_true_eq]
  exact hw
theorem repr_gd {m : MV} (h : rgd m = true) (st : Sto) : gRepr st [m] = some (.str (rp m), false) := by
  unfold rgd at h
  rw [Bool.and_eq_true, decide_eq_true_eq] at h
  obtain ⟨h1, h2⟩ := h
  show ((toX st dpt m).bind fun d => if d.showable = true ∧ d.shown.length ≤ sizeLine ∧ d.depth ≤ 60 then some (MV.str d.shown, false) else none) = _
  rw [toX_gx st h1]
  exact if_pos ⟨show_gd h1, Nat.le_trans (len_rp h1) h2, Nat.le_trans (dep_gx h1) (by decide)⟩
theorem rgd_ok {m : MV} (h : rgd m = true) : PyData.strOk (rp m) = true := ok_rp (rgd_gx h)
/-- a text that repr gave, compared -/
theorem eq_ok {neg : Bool} {st : Sto} {x y : Str} (hx : PyData.strOk x = true) (hy : PyData.strOk y = true) : gEqB neg st (.str x) (.str y) = some (.bl (if neg then !(x == y) else x == y), false) := by
  have sh : ∀ x : Str, PyData.strOk x = true → SeqAt.shaped (.str x) = true := fun x h => by simp [SeqAt.shaped, PyData.canLay0, PyData.depth, h]
  show (if SeqAt.shaped (.str x) = true ∧ SeqAt.shaped (.str y) = true then some (MV.bl (if neg then !PyData.eqv (.str x) (.str y) else PyData.eqv (.str x) (.str y)), false) else none) = _
  rw [if_pos ⟨sh x hx, sh y hy⟩]
  simp [PyData.eqv]
theorem wts_le {xs : List MV} {b : Nat} (h : ∀ x, x ∈ xs → wt x ≤ b) : wts xs ≤ (b + 2) * xs.length := by
  induction xs with
  | nil => simp [wts]
  | cons x xs ih =>
    have h1 := h x (List.mem_cons_self ..)
    have h2 := ih fun y hy => h y (List.mem_cons_of_mem _ hy)
    simp only [wts, List.length_cons, Nat.mul_add, Nat.mul_one]
    omega
end FW

namespace FW
open PySem L2 PySem.Spec PyProof.Rows

section
variable {M : Model} {prog : Program} {w : World} {A : Around} {E : Value → Shared → Prop} {s : Shared} {K : PySem.W.Frag} {x C f : Addr} {ox : Obj} {od : Option Obj}
theorem ifB_ne {args : List Value} {Q : Option Value → Shared → Prop} (X : K.In s.heap) (I : PySem.W.InstAt s.heap x ox C od) (hs : PySem.W.findIn K (.ref C) "__ne__" = some (some (.builtin "object.__ne__")))
    (h : wpAny M A (call (.builtin "object.__ne__") (.ref x :: args)) (fun v => Q (some v)) E s) : wpAny M A (callSpecialIfBound? (.ref x) "__ne__" args) Q E s := by
  simp only [callSpecialIfBound?, bindSpecialIfBound?]
  refine wpAny_holding (wpAny_bind (wpAny_bind (wpAny_bind (I.type.here ((PySem.W.looks_findIn X hs).here ?_)))))
  refine wpAny_bind (wpAny_askSetting (wpAny_ite ?_))
  have fin : wpAny M A (call (.builtin "object.__ne__") ([.ref x] ++ args) >>= fun v => pure (some v)) Q E s := wpAny_bind (wpAny_mono h (fun v s' h' => wpAny_pure h') fun _ _ h' => h')
  split
  · exact wpAny_bind (wpAny_of_eq (F.cmp_object.ne.bind _) (wpAny_pure (by exact fin)))
  · exact wpAny_tryCatch (wpAny_bind (wpAny_of_eq (F.cmp_object.ne.bind _) (wpAny_pure (by exact fin))))
theorem entry_ne {b : Value} {Q : Fin → Shared → Prop} (hu : A.units < cLine) (X : K.In s.heap) (I : PySem.W.InstAt s.heap x ox C od) (hs : PySem.W.findIn K (.ref C) "__eq__" = some (some (.ref f))) (hf : PySem.W.isFn K (.ref f) = true)
    (h : wpAny (model prog w) A (call (.ref f) [.ref x, b]) (fun v s' => ∃ r, v = .bool r ∧ Q (.done (.ret (.bool (!r)))) s') E s) : wpAny (model prog w) A (Builtin.«object.__ne__» ⟨[.ref x, b], []⟩) Q E s := by
  unfold Builtin.«object.__ne__»
  repeat (first
    | with_reducible refine wpAny_cRoomFor hu ?_
    | (refine wpAny_bind (m := callSpecialIfBound? (.ref x) (Str.ofString "__eq__") [b])
        (PySem.W.ifBound_K X I hs hf (wpAny_mono h (fun r s' hr => by
          obtain ⟨b, rfl, hq⟩ := hr
          repeat (first | exact hq | exact wpAny_pure hq | exact wpAny_truthy_bool hq | (refine wpAny_bind (m := truthy (.bool _)) (wpAny_truthy_bool ?_)) | wp_step)) fun _ _ e => e)))
    | wp_step)
theorem call_objNe {b : Value} {Q : Value → Shared → Prop} (hu : A.units + 1 < cLine) (X : K.In s.heap) (I : PySem.W.InstAt s.heap x ox C od) (hm : PySem.W.mroIn K C (.type "object") = some true) (hs : PySem.W.findIn K (.ref C) "__eq__" = some (some (.ref f))) (hf : PySem.W.isFn K (.ref f) = true)
    (h : wpAny (model prog w) A.in1 (call (.ref f) [.ref x, b]) (fun v s' => ∃ r, v = .bool r ∧ Q (.bool (!r)) s') E s) : wpAny (model prog w) A (call (.builtin "object.__ne__") [.ref x, b]) Q E s :=
  wpAny_call (codeAny_call_builtin F.cmp_object.ne.plain F.cmpEntry_ne (PySem.W.check_slot F.cmpKind_ne F.cmpSplit_ne (I.type.andThen (PySem.W.looks_mroIn X hm)) (F.cmpArgs_ne _ _)
    (entry_ne (A := A.in1) hu X I hs hf (wpAny_mono h (fun v s' z => by
      obtain ⟨r, rfl, q⟩ := z
      exact ⟨r, rfl, q⟩) fun _ _ e => e))))
/-- x != b, x an instance of a class with an own __eq__ -/
theorem cmp_neK {b tb : Value} {L : Addr} {h₀ : Heap} {m : Str → Option Value} {Q : Value → Shared → Prop} (hu : A.units + 1 < cLine) (F : Fr h₀ L s.heap m) (X₀ : K.In h₀) (I : PySem.W.InstAt s.heap x ox C od) (hb : PySem.W.Looks (model prog w) s.heap (typeOf b) tb) (hn : PySem.W.notFirst K C tb = true)
    (hne : PySem.W.findIn K (.ref C) "__ne__" = some (some (.builtin "object.__ne__"))) (hm : PySem.W.mroIn K C (.type "object") = some true)
    (hs : PySem.W.findIn K (.ref C) "__eq__" = some (some (.ref f))) (hf : PySem.W.isFn K (.ref f) = true)
    (h : wpAny (model prog w) A.in1 (call (.ref f) [.ref x, b]) (fun v s' => ∃ r, v = .bool r ∧ Q (.bool (!r)) s') E s) : wpAny (model prog w) A (richCompare .NotEq (.ref x) b) Q E s := by
  have X := X₀.keeps F.keep
  have one : wpAny (model prog w) A (tryCompare (.ref x) (cmpInfo .NotEq).2.1 b) (fun r s' => ∃ v, r = some v ∧ Q v s') E s := by
    unfold tryCompare
    refine wpAny_bind (ifB_ne X I hne (call_objNe hu X I hm hs hf (wpAny_mono h (fun v s' hv => ?_) fun _ _ e => e)))
    obtain ⟨r, rfl, q⟩ := hv
    exact ⟨r, rfl, wpAny_pure ⟨_, rfl, q⟩⟩
  unfold richCompare
  simp only [oneThing_ref]
  refine wpAny_holding (wpAny_bind (wpAny_cRoomFor (by omega) ?_))
  refine wpAny_bind (I.type.here (wpAny_bind (hb.here ?_)))
  split
  · rename_i q
    have e : PySem.W.subIn K tb (.ref C) = some false := by
      rcases Bool.or_eq_true_iff.mp hn with e | e
      · rw [beq_iff_eq.mp e] at q; simp at q
      · exact beq_iff_eq.mp e
    refine wpAny_bind ((PySem.W.looks_subIn X e).here ?_)
    simp only [Bool.false_eq_true, if_false]
    refine wpAny_bind (wpAny_mono one (fun r s' z => ?_) fun _ _ e => e)
    obtain ⟨v, rfl, hq⟩ := z
    exact wpAny_pure hq
  · refine wpAny_bind (wpAny_pure ?_)
    simp only [Bool.false_eq_true, if_false]
    refine wpAny_bind (wpAny_mono one (fun r s' z => ?_) fun _ _ e => e)
    obtain ⟨v, rfl, hq⟩ := z
    exact wpAny_pure hq
theorem sub_plain {T : String} (hT : T = "NoneType" ∨ T = "bool" ∨ T = "int" ∨ T = "str" ∨ T = "list" ∨ T = "tuple" ∨ T = "dict") : PySem.W.notFirst K C (.type T) = true := by
  have go : ∀ T : String, ∀ l, fastBuiltinMro T = some l → l.contains (.ref C) = false → PySem.W.notFirst K C (.type T) = true := fun T l e h => by
    unfold PySem.W.notFirst
    have : PySem.W.subIn K (.type T) (.ref C) = some false := by
      show (fastBuiltinMro T).map (·.contains (.ref C)) = some false
      rw [e, Option.map_some, h]
    rw [this]
    simp
  rcases hT with rfl | rfl | rfl | rfl | rfl | rfl | rfl
  · exact go _ [.type "NoneType", .type "object"] (by decide +kernel) (by simp)
  · exact go _ [.type "bool", .type "int", .type "object"] (by decide +kernel) (by simp)
  · exact go _ [.type "int", .type "object"] (by decide +kernel) (by simp)
  · exact go _ [.type "str", .type "object"] (by decide +kernel) (by simp)
  · exact go _ [.type "list", .type "object"] (by decide +kernel) (by simp)
  · exact go _ [.type "tuple", .type "object"] (by decide +kernel) (by simp)
  · exact go _ [.type "dict", .type "object"] (by decide +kernel) (by simp)
end
/-- a value whose type is known not to lie below the class at C -/
def KnV (C : Addr) (H : Hp) (y : V) : Prop := y = .non ∨ (∃ b, y = .bl b) ∨ (∃ i, y = .int i) ∨ (∃ z, y = .str z) ∨ (∃ p vs, y = .ref p ∧ H p = some (.lst vs)) ∨ (∃ p vs, y = .ref p ∧ H p = some (.tup vs)) ∨ (∃ p dx fs, y = .ref p ∧ H p = some (.ins C dx fs))
def knM (c : Str) : MV → Bool
  | .non => true
  | .bl _ => true
  | .int _ => true
  | .str _ => true
  | .lst _ => true
  | .tup _ => true
  | .ins c' _ => decide (c' = c)
  | _ => false
theorem knV_of {mg : Wd} {S : Addr → Prop} {ι : List Addr} {H : Hp} {y : V} {m : MV} {c : Str} {C : Addr} (hc : mg.mg c = some (.ref C)) (vr : VR mg S ι H y m) (h : knM c m = true) : KnV C H y := by
  cases m with
  | non => exact .inl vr
  | bl b => exact .inr (.inl ⟨b, vr⟩)
  | int i => exact .inr (.inr (.inl ⟨i, vr⟩))
  | str z => exact .inr (.inr (.inr (.inl ⟨z, vr⟩)))
  | lst ms => obtain ⟨p, vs, rfl, h1, _⟩ := vr; exact .inr (.inr (.inr (.inr (.inl ⟨p, vs, rfl, h1⟩))))
  | tup ms => obtain ⟨p, vs, rfl, h1, _⟩ := vr; exact .inr (.inr (.inr (.inr (.inr (.inl ⟨p, vs, rfl, h1⟩)))))
  | ins c' fs =>
    obtain ⟨q, C', dx, ws, rfl, g1, hmc, _, _⟩ := vr
    have e : c' = c := of_decide_eq_true h
    subst e
    cases (show some (Value.ref C) = some (Value.ref C') from hc.symm.trans hmc)
    exact .inr (.inr (.inr (.inr (.inr (.inr ⟨q, dx, ws, rfl, g1⟩)))))
  | _ => cases h
theorem knV_type {X : Cx} {pins : List (Addr × Obj)} {σ : L2.St} {H : Hp} {s : Shared} {C : Addr} {y : V} {u : Value} (I : Inv X pins σ H s) (ry : RelV y u) (h : KnV C H y) : ∃ tb, PySem.W.Looks (model X.prog X.w) s.heap (typeOf u) tb ∧ PySem.W.notFirst X.K C tb = true := by
  rcases h with rfl | ⟨b, rfl⟩ | ⟨i, rfl⟩ | ⟨z, rfl⟩ | ⟨p, vs, rfl, h⟩ | ⟨p, vs, rfl, h⟩ | ⟨p, dx, fs, rfl, h⟩
  · cases ry
    exact ⟨.type "NoneType", PySem.W.Looks.of_pure rfl, sub_plain (.inl rfl)⟩
  · cases ry
    exact ⟨.type "bool", PySem.W.Looks.of_pure rfl, sub_plain (.inr (.inl rfl))⟩
  · obtain ⟨t, rfl⟩ := ry
    exact ⟨.type "int", PySem.W.Looks.of_pure rfl, sub_plain (.inr (.inr (.inl rfl)))⟩
  · obtain ⟨t, rfl⟩ := ry
    exact ⟨.type "str", PySem.W.Looks.of_pure rfl, sub_plain (.inr (.inr (.inr (.inl rfl))))⟩
  · cases ry
    obtain ⟨its, _, ⟨o, n, ho, hcl, _, _⟩, _⟩ := I.list (.of h)
    refine ⟨.type "list", ?_, sub_plain (.inr (.inr (.inr (.inr (.inl rfl)))))⟩
    rw [← hcl]
    exact (PySem.W.Looks.ld ho).andThen .now
  · cases ry
    obtain ⟨its, _, ⟨o, ho, hcl, n, _⟩, _⟩ := I.tuple (.of h)
    refine ⟨.type "tuple", ?_, sub_plain (.inr (.inr (.inr (.inr (.inr (.inl rfl))))))⟩
    rw [← hcl]
    exact (PySem.W.Looks.ld ho).andThen .now
  · cases ry
    obtain ⟨mA, J, _⟩ := ins_get I.hok h
    obtain ⟨od, J, _⟩ := J.look
    exact ⟨.ref C, J.type, by simp [PySem.W.notFirst]⟩
/-- a == b, a != b by the own __eq__ of a's class -/
def mEqI (neg : Bool) (c : Str) (F : FF) (fa fb : EF) : EF := fun lo st => fa lo st >>= fun (a, ka, st1) => fb lo st1 >>= fun (b, kb, st2) =>
  if isPk ka = false ∧ isPk kb = false ∧ insOf c "__eq__" (vw st2 a) = true ∧ knM c (vw st2 b) = true then (callF 2 F [] [(a, false), (b, false)] lo st2 >>= fun (r, _, st3) => match r with
    | .bl z => .ok (.bl (if neg then !z else z), .fz, st3)
    | _ => .bad) else .bad
section
variable {X : Cx} {B : Base} {W : WX} {a b : Expr} {fa fb : EF} {k : Nat} {C f : Addr} {fd : FuncData} {ps : List Str} {FM : FF} {c : Str}
theorem run_in1 {sp : Sp} {E : XK} {pins : List (Addr × Obj)} {σ : L2.St} {H : Hp} {s : Shared} {Q : VK} {us : List Value} {vs : List V}
    (F : FnG X.prog X.w X.K X.mg X.base k f fd ps sp) (hr : RoomG (k + 1) X.A) (hb : Binds X.K fd ps []) (hx : ∀ cls d H', E cls d H' → W cls d σ H') (tk : Takes X W)
    (I : Inv X pins σ H s) (r : Vals vs us) (h : sp vs H Q E) : wpAny (model X.prog X.w) X.A.in1 (call (.ref f) us) (EP X pins σ Q) X.xe s := by
  have ll : us.length = ps.length := by rw [← r.length]; exact F.len _ _ _ _ h
  have go := F.run X.A.in1 X.stack s H ⟨us, []⟩ us vs Q E ⟨hr.r.in1, hr.g⟩ I.env0.in1 (by have := hb s us I.kIn (by simpa using ll); simpa using this) r h
  refine wpAny_call (codeAny_mono go fun res s' hq => ?_)
  match res, hq with
  | .error e, hq => exact tk e s' (XE.of_call I hx hq)
  | .ok (.ret u), hq => exact I.after hq
structure EqOwn (K : PySem.W.Frag) (C f : Addr) : Prop where
  m : Meth K C "__eq__" f
  ne : PySem.W.findIn K (.ref C) "__ne__" = some (some (.builtin "object.__ne__"))
  ob : PySem.W.mroIn K C (.type "object") = some true
theorem pc_eqI (neg : Bool) (ha : SE X B W a fa) (hb' : SE X B W b fb) (hm : EqOwn X.K C f) (hc : X.mg c = some (.ref C)) (F : FnG X.prog X.w X.K X.mg X.base k f fd ps (spM X.wd 2 FM)) (hr : RoomG (k + 1) X.A) (tk : Takes X W) (hb : Binds X.K fd ps []) :
    PC X (if neg = true then .NotEq else .Eq) a b (tE X.wd B W (mEqI neg c FM fa fb)) := by
  refine ⟨fun pins s σ H Q I ⟨S, ι, lo, st, fm, pp⟩ => ?_⟩
  have run := ha.run pins s σ H (fun x H1 => tE X.wd B W fb σ H1 (fun y H2 => ∃ p dx fs, x = .ref p ∧ H2 p = some (.ins C dx fs) ∧ KnV C H2 y ∧ ∃ E : XK, (∀ cls d H', E cls d H' → W cls d σ H') ∧ spM X.wd 2 FM [x, y] H2 (fun v H3 => ∃ r, v = .bl r ∧ Q (.bl (if neg then !r else r)) H3) E)) I ?_
  · refine thn run fun v s1 ⟨x, H1, I1, rx, q1⟩ => ?_
    refine thn (hb'.run pins s1 σ H1 _ I1 q1) fun u s2 ⟨y, H2, I2, ry, p, dx, fs, ex, ea, kv, E, hE, q⟩ => ?_
    subst ex
    cases (show v = Value.ref p from rx)
    obtain ⟨mA, J, _⟩ := ins_get I2.hok ea
    obtain ⟨od, J, _⟩ := J.look
    obtain ⟨m, hF⟩ := I2.fr
    obtain ⟨tb, ht, hn⟩ := knV_type I2 ry kv
    cases neg with
    | false =>
      show wpAny (model X.prog X.w) X.A (richCompare .Eq (.ref p) u) (EP X pins σ Q) X.xe s2
      refine PySem.W.cmp_K (op := .Eq) (tb := tb) hr.r.units0 hF I2.ok.mod.kin J ht hn hm.m.at_ hm.m.fn ?_
      refine wpAny_mono (run_fnG (us := [.ref p, u]) (vs := [.ref p, y]) (dvs := []) F ⟨hr.r.mono (Nat.le_succ k), hr.g⟩ hb .nil hE tk I2 (.cons rfl (.cons ry .nil)) (by rw [List.append_nil]; exact q)) (fun w s' z => ?_) fun _ _ e => e
      obtain ⟨v', H', I', rv, r, ev, qr⟩ := z
      subst ev
      cases rv
      exact ⟨.bl r, H', I', rfl, qr⟩
    | true =>
      show wpAny (model X.prog X.w) X.A (compareOp .NotEq (.ref p) u) (EP X pins σ Q) X.xe s2
      have hu : X.A.units + 1 < cLine := by have := hr.r.units; omega
      unfold compareOp
      refine cmp_neK (tb := tb) hu hF I2.ok.mod.kin J ht hn hm.ne hm.ob hm.m.at_ hm.m.fn ?_
      refine wpAny_mono (run_in1 (us := [.ref p, u]) (vs := [.ref p, y]) F hr hb hE tk I2 (.cons rfl (.cons ry .nil)) q) (fun w s' z => ?_) fun _ _ e => e
      obtain ⟨v', H', I', rv, r, ev, qr⟩ := z
      subst ev
      cases rv
      exact ⟨r, rfl, .bl (!r), H', I', rfl, qr⟩
  · refine tE.use fm (Post.bind pp) fun t kt st1 S1 ι1 H1 x f1 k1 r1 p1 => ?_
    obtain ⟨S1', f1', k1', h1⟩ := r1.hand f1
    dsimp only at p1
    refine tE.use f1' (Post.bind (p1.mono (k1.trans k1') fun _ z => z)) fun t2 kt2 st2 S2 ι2 H2 y f2 k2 r2 p2 => ?_
    obtain ⟨S2', f2', k2', h2⟩ := r2.hand f2
    dsimp only at p2
    split at p2
    case isFalse => exact p2.elim
    rename_i hh
    obtain ⟨hk, hk2, hi, hkn⟩ := hh
    rw [hk] at h1
    rw [hk2] at h2
    have h1' : Dt X.wd S2' ι2 H2 x t := Dt.mono (k2.trans k2') h1
    have vr := Hand.vr (b := false) f2' h1'
    have vr2 := Hand.vr (b := false) f2' h2
    obtain ⟨fs, ev, hl⟩ := insOf_ok hi
    rw [ev] at vr
    have kv := knV_of (mg := X.wd) hc vr2 hkn
    obtain ⟨q, C', dx, ws, rfl, g1, hmc, hn, _⟩ := vr
    cases (show some (Value.ref C) = some (Value.ref C') from hc.symm.trans hmc)
    refine ⟨q, dx, ws, rfl, g1, kv, ?_⟩
    have p3 := Post.bind (p2.mono (k2.trans k2') fun _ z => z)
    unfold callF at p3
    simp only [d_allFz1, d_allFz0, Option.map_some, List.append_nil] at p3
    rw [if_pos (show [t, t2].length = 2 from rfl)] at p3
    refine ⟨_, ?_, wants_callee f2' (AllD.cons h1' (AllD.cons h2 .nil)) rfl .refl (p3.imp fun r z S' ι' H' v f kk rv => ?_)⟩
    · rintro cls d H' ⟨_, _, _, _, _, _, _, _, z⟩
      exact z
    · obtain ⟨rm, rk, rst⟩ := r
      dsimp only at z
      obtain ⟨S3, f3, k3, h3⟩ := rv.hand f
      have v3 := h3.vr f3
      cases rm with
      | bl zb =>
        have ev3 : v = .bl zb := v3
        refine ⟨zb, ev3, ?_⟩
        exact z S3 ι' H' (.bl (if neg then !zb else zb)) f3 ((k1.trans k1').trans ((k2.trans k2').trans (kk.trans k3))) (.bl _)
      | _ => exact z.elim
theorem st_of_pc {op : CmpOp} {f : EF} {pos : Pos} (h : PC X op a b (tE X.wd B W f)) (hm : behindInMarks op b = false := by first | exact nomark _ | rfl) : STe X B W (.Compare a [op] [b] pos) (mTv f) := by
  refine (pt_cmp h hm).fw fun σ H Q h => ?_
  obtain ⟨S, ι, lo, st, fm, p⟩ := h
  refine tE.use fm (Post.bind p) fun a ka st1 S1 ι1 H1 x f1 k1 r1 p1 => ?_
  dsimp only at p1
  split at p1
  · exact ⟨_, rv_bl f1 r1, p1 S1 ι1 H1 f1 k1⟩
  · exact p1.elim
section
variable {pos : Pos}
theorem se_eqI (ha : SE X B W a fa) (hb' : SE X B W b fb) (hm : EqOwn X.K C f) (hc : X.mg c = some (.ref C)) (F : FnG X.prog X.w X.K X.mg X.base k f fd ps (spM X.wd 2 FM)) (hr : RoomG (k + 1) X.A) (tk : Takes X W) (hb : Binds X.K fd ps []) :
    SE X B W (.Compare a [.Eq] [b] pos) (mEqI false c FM fa fb) := pe_cmp (pc_eqI false ha hb' hm hc F hr tk hb)
theorem se_neI (ha : SE X B W a fa) (hb' : SE X B W b fb) (hm : EqOwn X.K C f) (hc : X.mg c = some (.ref C)) (F : FnG X.prog X.w X.K X.mg X.base k f fd ps (spM X.wd 2 FM)) (hr : RoomG (k + 1) X.A) (tk : Takes X W) (hb : Binds X.K fd ps []) :
    SE X B W (.Compare a [.NotEq] [b] pos) (mEqI true c FM fa fb) := pe_cmp (pc_eqI true ha hb' hm hc F hr tk hb)
theorem st_eqI (ha : SE X B W a fa) (hb' : SE X B W b fb) (hm : EqOwn X.K C f) (hc : X.mg c = some (.ref C)) (F : FnG X.prog X.w X.K X.mg X.base k f fd ps (spM X.wd 2 FM)) (hr : RoomG (k + 1) X.A) (tk : Takes X W) (hb : Binds X.K fd ps []) :
    STe X B W (.Compare a [.Eq] [b] pos) (mTv (mEqI false c FM fa fb)) := st_of_pc (pc_eqI false ha hb' hm hc F hr tk hb)
theorem st_neI (ha : SE X B W a fa) (hb' : SE X B W b fb) (hm : EqOwn X.K C f) (hc : X.mg c = some (.ref C)) (F : FnG X.prog X.w X.K X.mg X.base k f fd ps (spM X.wd 2 FM)) (hr : RoomG (k + 1) X.A) (tk : Takes X W) (hb : Binds X.K fd ps []) :
    STe X B W (.Compare a [.NotEq] [b] pos) (mTv (mEqI true c FM fa fb)) := st_of_pc (pc_eqI true ha hb' hm hc F hr tk hb)
end
end
section
variable {c : Str} {F : FF} {fa fb : EF} {lo : Lo} {st st1 st2 st3 : Sto} {a b : MV} {ka kb : Kd} {neg r : Bool}
theorem eqI_ok (h1 : fa lo st = .ok (a, ka, st1)) (k1 : isPk ka = false) (h2 : fb lo st1 = .ok (b, kb, st2)) (k2 : isPk kb = false) (hi : insOf c "__eq__" (vw st2 a) = true) (hk : knM c (vw st2 b) = true) (hF : F [a, b] st2 = .ok (.bl r, false, st3)) :
    mEqI neg c F fa fb lo st = .ok (.bl (if neg then !r else r), .fz, st3) := by
  unfold mEqI
  rw [h1]
  simp only [Res.ok_bind]
  rw [h2]
  simp only [Res.ok_bind]
  rw [if_pos ⟨k1, k2, hi, hk⟩]
  unfold callF
  simp only [d_allFz1, d_allFz0, Option.map_some, List.append_nil]
  rw [if_pos (show [a, b].length = 2 from rfl), callR_ok _ _ hF]
  rfl
end
end FW

namespace FW
open PySem L2 PySem.Spec PyProof.Rows PySem.SeqAt
open AutoSeq1 (wpAny_loadPart')
theorem int_eq_ins (b : Int) (u : Tok) (x : Addr) (C : Value) (dx : Option Addr) :
    Meets (Builtin.«int.__eq__» ⟨[.int b u, .ref x], []⟩) (fun _ R s => s.heap.get? x = some { cls := C, dict := dx } ∧ R (.ok (.ret .notImplemented)) s) :=
  .of_wp fun prog w A R s h => by obtain ⟨hp, g, d, tk, os⟩ := s; obtain ⟨hl, h⟩ := h; wp_walk using wpAny_loadPart' hl, wpAny_load hl; exact ⟨_, rfl, h⟩
theorem str_eq_ins (b : Str) (u : Tok) (x : Addr) (C : Value) (dx : Option Addr) :
    Meets (Builtin.«str.__eq__» ⟨[.str b u, .ref x], []⟩) (fun _ R s => s.heap.get? x = some { cls := C, dict := dx } ∧ R (.ok (.ret .notImplemented)) s) :=
  .of_wp fun prog w A R s h => by obtain ⟨hp, g, d, tk, os⟩ := s; obtain ⟨hl, h⟩ := h; wp_walk using wpAny_loadPart' hl, wpAny_load hl; exact ⟨_, rfl, h⟩
theorem list_eq_ins (l : Addr) (items : Array Value) (n : Nat) (dd : Option Addr) (sl : Array (Option Value)) (x : Addr) :
    Meets (Builtin.«list.__eq__» ⟨[.ref l, .ref x], []⟩) (fun _ R s => s.heap.get? l = some { cls := .type "list", dict := dd, data := .seq items n, slots := sl } ∧ (∀ M : Model, PySem.W.Looks M s.heap (isInstance (.ref x) (.type "list")) false) ∧ R (.ok (.ret .notImplemented)) s) :=
  .of_wp fun prog w A R s h => by
    obtain ⟨hp, g, d, tk, os⟩ := s
    obtain ⟨hl, hI, h⟩ := h
    wp_walk using wpAny_loadPart' hl, wpAny_load hl, ((hI (model prog w)).here)
    exact ⟨_, rfl, h⟩
theorem dict_eq_ins (l : Addr) (es : Array DictEntry) (n : Nat) (dd : Option Addr) (sl : Array (Option Value)) (x : Addr) :
    Meets (Builtin.«dict.__eq__» ⟨[.ref l, .ref x], []⟩) (fun _ R s => s.heap.get? l = some { cls := .type "dict", dict := dd, data := .dict es n, slots := sl } ∧ (∀ M : Model, PySem.W.Looks M s.heap (isInstance (.ref x) (.type "dict")) false) ∧ R (.ok (.ret .notImplemented)) s) :=
  .of_wp fun prog w A R s h => by
    obtain ⟨hp, g, d, tk, os⟩ := s
    obtain ⟨hl, hI, h⟩ := h
    wp_walk using wpAny_loadPart' hl, wpAny_load hl, ((hI (model prog w)).here)
    exact ⟨_, rfl, h⟩
section
variable {M : Model} {prog : Program} {w : World} {A : Around} {E : Value → Shared → Prop} {s : Shared} {K : PySem.W.Frag} {x C f : Addr} {ox : Obj} {od : Option Obj}
/-- a == x, a of a type that declines, x an instance of a class with an own __eq__ -/
theorem cmp_backK {a : Value} {T : String} {L : Addr} {h₀ : Heap} {m : Str → Option Value} {Q : Value → Shared → Prop} (hu : A.units < cLine) (F : Fr h₀ L s.heap m) (X₀ : K.In h₀) (I : PySem.W.InstAt s.heap x ox C od) (hT : s.TypeIs a T)
    (hsub : PySem.W.subIn K (.ref C) (.type T) = some false) (hdec : ∀ Q' : Option Value → Shared → Prop, Q' none s → wpAny (model prog w) A (tryCompare a (cmpInfo .Eq).2.1 (.ref x)) Q' E s)
    (hs : PySem.W.findIn K (.ref C) "__eq__" = some (some (.ref f))) (hf : PySem.W.isFn K (.ref f) = true)
    (h : wpAny (model prog w) A (call (.ref f) [.ref x, a]) (PySem.W.CmpBack Q) E s) : wpAny (model prog w) A (richCompare .Eq a (.ref x)) Q E s := by
  have X := X₀.keeps F.keep
  have two : wpAny (model prog w) A (tryCompare (.ref x) (cmpInfo .Eq).2.2 a) (fun r s' => ∃ v, r = some v ∧ Q v s') E s := by
    unfold tryCompare
    refine wpAny_bind (PySem.W.ifBound_K X I hs hf (wpAny_mono h (fun v s' hv => ?_) fun _ _ e => e))
    cases v <;> first | exact hv.elim | exact wpAny_pure ⟨_, rfl, hv⟩
  unfold richCompare
  simp only [hT.oneThing_none]
  refine wpAny_holding (wpAny_bind (wpAny_cRoomFor hu ?_))
  refine wpAny_bind (wpAny_typeOf hT ?_)
  refine wpAny_bind (I.type.here ?_)
  split
  · refine wpAny_bind ((PySem.W.looks_subIn X hsub).here ?_)
    simp only [Bool.false_eq_true, if_false, Bool.not_false, if_true]
    refine wpAny_bind (hdec _ ?_)
    refine wpAny_bind (wpAny_mono two (fun r s' z => ?_) fun _ _ e => e)
    obtain ⟨v, rfl, hq⟩ := z
    exact wpAny_pure hq
  · rename_i q
    exact absurd (by simp) q
end
/-- a value whose own == declines an instance -/
def DecV (H : Hp) (y : V) : Prop := y = .non ∨ (∃ i, y = .int i) ∨ (∃ z, y = .str z) ∨ (∃ p vs, y = .ref p ∧ H p = some (.lst vs)) ∨ (∃ p, y = .ref p ∧ (Rd H p (.dK []) ∨ Rd H p (.dT [])))
def decM : MV → Bool
  | .non => true
  | .int _ => true
  | .str _ => true
  | .lst _ => true
  | .dct [] => true
  | _ => false
theorem decV_of {mg : Wd} {S : Addr → Prop} {ι : List Addr} {H : Hp} {y : V} {m : MV} (vr : VR mg S ι H y m) (h : decM m = true) : DecV H y := by
  cases m with
  | non => exact .inl vr
  | int i => exact .inr (.inl ⟨i, vr⟩)
  | str z => exact .inr (.inr (.inl ⟨z, vr⟩))
  | lst ms => obtain ⟨p, vs, rfl, h1, _⟩ := vr; exact .inr (.inr (.inr (.inl ⟨p, vs, rfl, h1⟩)))
  | dct ps =>
    cases ps with
    | nil =>
      obtain ⟨p, rfl, ⟨kvs, g, hl, _⟩ | ⟨kvs, g, hl, _⟩⟩ := vr
      · obtain rfl := List.length_eq_zero_iff.mp hl
        exact .inr (.inr (.inr (.inr ⟨p, rfl, .inl g⟩)))
      · obtain rfl := List.length_eq_zero_iff.mp hl
        exact .inr (.inr (.inr (.inr ⟨p, rfl, .inr g⟩)))
    | cons _ _ => cases h
  | _ => cases h
structure EqBack (K : PySem.W.Frag) (C : Addr) : Prop where
  s1 : PySem.W.subIn K (.ref C) (.type "NoneType") = some false
  s2 : PySem.W.subIn K (.ref C) (.type "int") = some false
  s3 : PySem.W.subIn K (.ref C) (.type "str") = some false
  s4 : PySem.W.subIn K (.ref C) (.type "list") = some false
  s5 : PySem.W.subIn K (.ref C) (.type "dict") = some false
  m4 : PySem.W.mroIn K C (.type "list") = some false
  m5 : PySem.W.mroIn K C (.type "dict") = some false
theorem dec_ok {X : Cx} {pins : List (Addr × Obj)} {σ : L2.St} {H : Hp} {s : Shared} {C x dx : Addr} {y : V} {u : Value} {A : Around} {E : Value → Shared → Prop} {mA : Str → Option Value} (I : Inv X pins σ H s) (b : EqBack X.K C) (J0 : ObjM s.heap x dx C mA) (ry : RelV y u) (h : DecV H y) :
    ∃ T, s.TypeIs u T ∧ PySem.W.subIn X.K (.ref C) (.type T) = some false ∧ ∀ Q' : Option Value → Shared → Prop, Q' none s → wpAny (model X.prog X.w) A (tryCompare u (cmpInfo .Eq).2.1 (.ref x)) Q' E s := by
  have hx : s.heap.get? x = some { cls := .ref C, dict := some dx } := J0.obj
  obtain ⟨od, J, _⟩ := J0.look
  rcases h with rfl | ⟨i, rfl⟩ | ⟨z, rfl⟩ | ⟨p, vs, rfl, h⟩ | ⟨p, rfl, h⟩
  · cases ry
    exact ⟨"NoneType", rfl, b.s1, fun Q' q => wpAny_tryCompare_declines (show s.TypeIs .none "NoneType" from rfl) F.slot_NoneType_eq_refl (call_gives F.slot_NoneType_eq_refl rfl F.entry_NoneType_eq (F.args_NoneType_eq_2 _ _) (NoneType___eq___none_ref_0 x) ⟨rfl, q⟩)⟩
  · obtain ⟨t, rfl⟩ := ry
    exact ⟨"int", rfl, b.s2, fun Q' q => wpAny_tryCompare_declines (typeIs_int s i t) F.slot_int_eq (call_meets F.slot_int_eq (typeIs_int s i t) F.entry_int_eq (F.args_int_eq_2 _ _) (int_eq_ins i t x _ _) ⟨hx, rfl, q⟩)⟩
  · obtain ⟨t, rfl⟩ := ry
    exact ⟨"str", rfl, b.s3, fun Q' q => wpAny_tryCompare_declines (typeIs_str s z t) F.slot_str_eq (call_meets F.slot_str_eq (typeIs_str s z t) F.entry_str_eq (F.args_str_eq_2 _ _) (str_eq_ins z t x _ _) ⟨hx, rfl, q⟩)⟩
  · cases ry
    obtain ⟨its, _, ⟨o, n, ho, hcl, hdd, hda⟩, _⟩ := I.list (.of h)
    obtain ⟨oc, od', oda, osl⟩ := o
    cases hcl
    cases hda
    have hI : ∀ M : Model, PySem.W.Looks M s.heap (isInstance (.ref x) (.type "list")) false := fun M => J.type.andThen (PySem.W.looks_mroIn I.kIn b.m4)
    exact ⟨"list", ⟨_, ho, rfl⟩, b.s4, fun Q' q => wpAny_tryCompare_declines (T := "list") ⟨_, ho, rfl⟩ F.slot_list_eq (call_meets F.slot_list_eq ⟨_, ho, rfl⟩ F.entry_list_eq (F.args_list_eq_2 _ _) (list_eq_ins p _ _ _ _ x) ⟨ho, hI, rfl, q⟩)⟩
  · cases ry
    have ⟨o, es, ep, g1, g2, g3⟩ : ∃ o es ep, s.heap.get? p = some o ∧ o.cls = .type "dict" ∧ o.data = .dict es ep := by
      rcases h with hp | hp
      · obtain ⟨_, n, vs, kv, o, es, ep, g1, g2, g3, _⟩ := hp.ok I.hok
        exact ⟨o, es, ep, g1, g2.1, g3⟩
      · obtain ⟨_, n, vs, kv, o, es, ep, g1, g2, g3, _⟩ := hp.ok I.hok
        exact ⟨o, es, ep, g1, g2.1, g3⟩
    obtain ⟨oc, od', oda, osl⟩ := o
    cases g2
    cases g3
    have hI : ∀ M : Model, PySem.W.Looks M s.heap (isInstance (.ref x) (.type "dict")) false := fun M => J.type.andThen (PySem.W.looks_mroIn I.kIn b.m5)
    exact ⟨"dict", ⟨_, g1, rfl⟩, b.s5, fun Q' q => wpAny_tryCompare_declines (T := "dict") ⟨_, g1, rfl⟩ F.slot_dict_eq (call_meets F.slot_dict_eq ⟨_, g1, rfl⟩ F.entry_dict_eq (F.args_dict_eq_2 _ _) (dict_eq_ins p _ _ _ _ x) ⟨g1, hI, rfl, q⟩)⟩
theorem dec_type {X : Cx} {pins : List (Addr × Obj)} {σ : L2.St} {H : Hp} {s : Shared} {C : Addr} {y : V} {u : Value} (I : Inv X pins σ H s) (ry : RelV y u) (h : KnV C H y ∨ DecV H y) : ∃ tb, PySem.W.Looks (model X.prog X.w) s.heap (typeOf u) tb ∧ PySem.W.notFirst X.K C tb = true := by
  rcases h with h | h
  · exact knV_type I ry h
  · rcases h with rfl | ⟨i, rfl⟩ | ⟨z, rfl⟩ | ⟨p, vs, rfl, h⟩ | ⟨p, rfl, h⟩
    · exact knV_type I ry (.inl rfl)
    · exact knV_type I ry (.inr (.inr (.inl ⟨i, rfl⟩)))
    · exact knV_type I ry (.inr (.inr (.inr (.inl ⟨z, rfl⟩))))
    · exact knV_type I ry (.inr (.inr (.inr (.inr (.inl ⟨p, vs, rfl, h⟩)))))
    · cases ry
      have ⟨o, g1, g2⟩ : ∃ o, s.heap.get? p = some o ∧ o.cls = .type "dict" := by
        rcases h with hp | hp
        · obtain ⟨_, n, vs, kv, o, es, ep, g1, g2, g3, _⟩ := hp.ok I.hok
          exact ⟨o, g1, g2.1⟩
        · obtain ⟨_, n, vs, kv, o, es, ep, g1, g2, g3, _⟩ := hp.ok I.hok
          exact ⟨o, g1, g2.1⟩
      refine ⟨.type "dict", ?_, sub_plain (.inr (.inr (.inr (.inr (.inr (.inr rfl))))))⟩
      rw [← g2]
      exact (PySem.W.Looks.ld g1).andThen .now
/-- a == b, a != b by an own __eq__, of a's class or, reflected, of b's -/
def mEqA (neg : Bool) (c : Str) (F : FF) (fa fb : EF) : EF := fun lo st => fa lo st >>= fun (a, ka, st1) => fb lo st1 >>= fun (b, kb, st2) =>
  if isPk ka = false ∧ isPk kb = false then
    (if insOf c "__eq__" (vw st2 a) = true ∧ (knM c (vw st2 b) || decM (vw st2 b)) = true then (callF 2 F [] [(a, false), (b, false)] lo st2 >>= fun (r, _, st3) => match r with
      | .bl z => .ok (.bl (if neg then !z else z), .fz, st3)
      | _ => .bad)
    else if neg = false ∧ decM (vw st2 a) = true ∧ insOf c "__eq__" (vw st2 b) = true then (callF 2 F [] [(b, false), (a, false)] lo st2 >>= fun (r, _, st3) => match r with
      | .bl z => .ok (.bl z, .fz, st3)
      | _ => .bad)
    else .bad) else .bad
section
variable {X : Cx} {B : Base} {W : WX} {a b : Expr} {fa fb : EF} {k : Nat} {C f : Addr} {fd : FuncData} {ps : List Str} {FM : FF} {c : Str}
theorem pc_eqA (neg : Bool) (ha : SE X B W a fa) (hb' : SE X B W b fb) (hm : EqOwn X.K C f) (hbk : EqBack X.K C) (hc : X.mg c = some (.ref C)) (F : FnG X.prog X.w X.K X.mg X.base k f fd ps (spM X.wd 2 FM)) (hr : RoomG (k + 1) X.A) (tk : Takes X W) (hb : Binds X.K fd ps []) :
    PC X (if neg = true then .NotEq else .Eq) a b (tE X.wd B W (mEqA neg c FM fa fb)) := by
  refine ⟨fun pins s σ H Q I ⟨S, ι, lo, st, fm, pp⟩ => ?_⟩
  have run := ha.run pins s σ H (fun x H1 => tE X.wd B W fb σ H1 (fun y H2 =>
    (∃ p dx fs, x = .ref p ∧ H2 p = some (.ins C dx fs) ∧ (KnV C H2 y ∨ DecV H2 y) ∧ ∃ E : XK, (∀ cls d H', E cls d H' → W cls d σ H') ∧ spM X.wd 2 FM [x, y] H2 (fun v H3 => ∃ r, v = .bl r ∧ Q (.bl (if neg then !r else r)) H3) E) ∨
    (neg = false ∧ DecV H2 x ∧ ∃ p dx fs, y = .ref p ∧ H2 p = some (.ins C dx fs) ∧ ∃ E : XK, (∀ cls d H', E cls d H' → W cls d σ H') ∧ spM X.wd 2 FM [y, x] H2 (fun v H3 => ∃ r, v = .bl r ∧ Q (.bl r) H3) E))) I ?_
  · refine thn run fun v s1 ⟨x, H1, I1, rx, q1⟩ => ?_
    refine thn (hb'.run pins s1 σ H1 _ I1 q1) fun u s2 ⟨y, H2, I2, ry, h⟩ => ?_
    rcases h with ⟨p, dx, fs, ex, ea, kv, E, hE, q⟩ | ⟨hn0, dv, p, dx, fs, ey, ea, E, hE, q⟩
    · subst ex
      cases (show v = Value.ref p from rx)
      obtain ⟨mA, J, _⟩ := ins_get I2.hok ea
      obtain ⟨od, J, _⟩ := J.look
      obtain ⟨m, hF⟩ := I2.fr
      obtain ⟨tb, ht, hn⟩ := dec_type I2 ry kv
      cases neg with
      | false =>
        show wpAny (model X.prog X.w) X.A (richCompare .Eq (.ref p) u) (EP X pins σ Q) X.xe s2
        refine PySem.W.cmp_K (op := .Eq) (tb := tb) hr.r.units0 hF I2.ok.mod.kin J ht hn hm.m.at_ hm.m.fn ?_
        refine wpAny_mono (run_fnG (us := [.ref p, u]) (vs := [.ref p, y]) (dvs := []) F ⟨hr.r.mono (Nat.le_succ k), hr.g⟩ hb .nil hE tk I2 (.cons rfl (.cons ry .nil)) (by rw [List.append_nil]; exact q)) (fun w s' z => ?_) fun _ _ e => e
        obtain ⟨v', H', I', rv, r, ev, qr⟩ := z
        subst ev
        cases rv
        exact ⟨.bl r, H', I', rfl, qr⟩
      | true =>
        show wpAny (model X.prog X.w) X.A (compareOp .NotEq (.ref p) u) (EP X pins σ Q) X.xe s2
        have hu : X.A.units + 1 < cLine := by have := hr.r.units; omega
        unfold compareOp
        refine cmp_neK (tb := tb) hu hF I2.ok.mod.kin J ht hn hm.ne hm.ob hm.m.at_ hm.m.fn ?_
        refine wpAny_mono (run_in1 (us := [.ref p, u]) (vs := [.ref p, y]) F hr hb hE tk I2 (.cons rfl (.cons ry .nil)) q) (fun w s' z => ?_) fun _ _ e => e
        obtain ⟨v', H', I', rv, r, ev, qr⟩ := z
        subst ev
        cases rv
        exact ⟨r, rfl, .bl (!r), H', I', rfl, qr⟩
    · subst hn0
      subst ey
      cases (show u = Value.ref p from ry)
      obtain ⟨mA, J0, _⟩ := ins_get I2.hok ea
      obtain ⟨m, hF⟩ := I2.fr
      obtain ⟨T, hT, hsub, hdec⟩ := dec_ok (A := X.A) (E := X.xe) I2 hbk J0 rx dv
      obtain ⟨od, J, _⟩ := J0.look
      show wpAny (model X.prog X.w) X.A (richCompare .Eq v (.ref p)) (EP X pins σ Q) X.xe s2
      refine cmp_backK hr.r.units0 hF I2.ok.mod.kin J hT hsub hdec hm.m.at_ hm.m.fn ?_
      refine wpAny_mono (run_fnG (us := [.ref p, v]) (vs := [.ref p, x]) (dvs := []) F ⟨hr.r.mono (Nat.le_succ k), hr.g⟩ hb .nil hE tk I2 (.cons rfl (.cons rx .nil)) (by rw [List.append_nil]; exact q)) (fun w s' z => ?_) fun _ _ e => e
      obtain ⟨v', H', I', rv, r, ev, qr⟩ := z
      subst ev
      cases rv
      exact ⟨.bl r, H', I', rfl, qr⟩
  · refine tE.use fm (Post.bind pp) fun t kt st1 S1 ι1 H1 x f1 k1 r1 p1 => ?_
    obtain ⟨S1', f1', k1', h1⟩ := r1.hand f1
    dsimp only at p1
    refine tE.use f1' (Post.bind (p1.mono (k1.trans k1') fun _ z => z)) fun t2 kt2 st2 S2 ι2 H2 y f2 k2 r2 p2 => ?_
    obtain ⟨S2', f2', k2', h2⟩ := r2.hand f2
    dsimp only at p2
    split at p2
    case isFalse => exact p2.elim
    rename_i hh
    obtain ⟨hk, hk2⟩ := hh
    rw [hk] at h1
    rw [hk2] at h2
    have h1' : Dt X.wd S2' ι2 H2 x t := Dt.mono (k2.trans k2') h1
    have vr := Hand.vr (b := false) f2' h1'
    have vr2 := Hand.vr (b := false) f2' h2
    have fin : ∀ {rm : MV} {rk : Kd} {rst : Sto} {S' : Addr → Prop} {ι' : List Addr} {H' : Hp} {v : V} (g : Bool → Bool) (f : Fm X.wd B S' ι' H' lo σ rst) (kk : Keep S2' ι2 H2 S' ι' H') (rv : RV X.wd B S' ι' H' lo σ v rm rk)
      (z : Post X.wd B W S2' ι2 H2 (fun r => ∀ S' ι' H' v, Fm X.wd B S' ι' H' lo σ r.2.2 → Keep S ι H S' ι' H' → RV X.wd B S' ι' H' lo σ v r.1 r.2.1 → Q v H') (match rm with | .bl z => Res.ok (MV.bl (g z), Kd.fz, rst) | _ => .bad)), ∃ r, v = .bl r ∧ Q (.bl (g r)) H' := by
      intro rm rk rst S' ι' H' v g f kk rv z
      obtain ⟨S3, f3, k3, h3⟩ := rv.hand f
      have v3 := h3.vr f3
      cases rm with
      | bl zb =>
        have ev3 : v = .bl zb := v3
        exact ⟨zb, ev3, z S3 ι' H' (.bl (g zb)) f3 ((k1.trans k1').trans ((k2.trans k2').trans (kk.trans k3))) (.bl _)⟩
      | _ => exact z.elim
    split at p2
    · rename_i hh
      obtain ⟨hi, hkn⟩ := hh
      obtain ⟨fs, ev, hl⟩ := insOf_ok hi
      rw [ev] at vr
      have kv : KnV C H2 y ∨ DecV H2 y := by
        rcases Bool.or_eq_true_iff.mp hkn with e | e
        · exact .inl (knV_of (mg := X.wd) hc vr2 e)
        · exact .inr (decV_of vr2 e)
      obtain ⟨q, C', dx, ws, rfl, g1, hmc, hn, _⟩ := vr
      cases (show some (Value.ref C) = some (Value.ref C') from hc.symm.trans hmc)
      refine .inl ⟨q, dx, ws, rfl, g1, kv, ?_⟩
      have p3 := Post.bind (p2.mono (k2.trans k2') fun _ z => z)
      unfold callF at p3
      simp only [d_allFz1, d_allFz0, Option.map_some, List.append_nil] at p3
      rw [if_pos (show [t, t2].length = 2 from rfl)] at p3
      refine ⟨_, ?_, wants_callee f2' (AllD.cons h1' (AllD.cons h2 .nil)) rfl .refl (p3.imp fun r z S' ι' H' v f kk rv => fin (fun z => if neg then !z else z) f kk rv z)⟩
      rintro cls d H' ⟨_, _, _, _, _, _, _, _, z⟩
      exact z
    · split at p2
      case isFalse => exact p2.elim
      rename_i hh
      obtain ⟨hn0, hd, hi⟩ := hh
      obtain ⟨fs, ev, hl⟩ := insOf_ok hi
      have dv : DecV H2 x := decV_of vr hd
      rw [ev] at vr2
      obtain ⟨q, C', dx, ws, rfl, g1, hmc, hn, _⟩ := vr2
      cases (show some (Value.ref C) = some (Value.ref C') from hc.symm.trans hmc)
      refine .inr ⟨hn0, dv, q, dx, ws, rfl, g1, ?_⟩
      have p3 := Post.bind (p2.mono (k2.trans k2') fun _ z => z)
      unfold callF at p3
      simp only [d_allFz1, d_allFz0, Option.map_some, List.append_nil] at p3
      rw [if_pos (show [t2, t].length = 2 from rfl)] at p3
      refine ⟨_, ?_, wants_callee f2' (AllD.cons h2 (AllD.cons h1' .nil)) rfl .refl (p3.imp fun r z S' ι' H' v f kk rv => fin (fun z => z) f kk rv z)⟩
      rintro cls d H' ⟨_, _, _, _, _, _, _, _, z⟩
      exact z
section
variable {pos : Pos}
theorem se_eqA (ha : SE X B W a fa) (hb' : SE X B W b fb) (hm : EqOwn X.K C f) (hbk : EqBack X.K C) (hc : X.mg c = some (.ref C)) (F : FnG X.prog X.w X.K X.mg X.base k f fd ps (spM X.wd 2 FM)) (hr : RoomG (k + 1) X.A) (tk : Takes X W) (hb : Binds X.K fd ps []) :
    SE X B W (.Compare a [.Eq] [b] pos) (mEqA false c FM fa fb) := pe_cmp (pc_eqA false ha hb' hm hbk hc F hr tk hb)
theorem se_neA (ha : SE X B W a fa) (hb' : SE X B W b fb) (hm : EqOwn X.K C f) (hbk : EqBack X.K C) (hc : X.mg c = some (.ref C)) (F : FnG X.prog X.w X.K X.mg X.base k f fd ps (spM X.wd 2 FM)) (hr : RoomG (k + 1) X.A) (tk : Takes X W) (hb : Binds X.K fd ps []) :
    SE X B W (.Compare a [.NotEq] [b] pos) (mEqA true c FM fa fb) := pe_cmp (pc_eqA true ha hb' hm hbk hc F hr tk hb)
theorem st_eqA (ha : SE X B W a fa) (hb' : SE X B W b fb) (hm : EqOwn X.K C f) (hbk : EqBack X.K C) (hc : X.mg c = some (.ref C)) (F : FnG X.prog X.w X.K X.mg X.base k f fd ps (spM X.wd 2 FM)) (hr : RoomG (k + 1) X.A) (tk : Takes X W) (hb : Binds X.K fd ps []) :
    STe X B W (.Compare a [.Eq] [b] pos) (mTv (mEqA false c FM fa fb)) := st_of_pc (pc_eqA false ha hb' hm hbk hc F hr tk hb)
theorem st_neA (ha : SE X B W a fa) (hb' : SE X B W b fb) (hm : EqOwn X.K C f) (hbk : EqBack X.K C) (hc : X.mg c = some (.ref C)) (F : FnG X.prog X.w X.K X.mg X.base k f fd ps (spM X.wd 2 FM)) (hr : RoomG (k + 1) X.A) (tk : Takes X W) (hb : Binds X.K fd ps []) :
    STe X B W (.Compare a [.NotEq] [b] pos) (mTv (mEqA true c FM fa fb)) := st_of_pc (pc_eqA true ha hb' hm hbk hc F hr tk hb)
end
end
section
variable {c : Str} {F : FF} {fa fb : EF} {lo : Lo} {st st1 st2 st3 : Sto} {a b : MV} {ka kb : Kd} {neg r : Bool}
theorem eqA_l (h1 : fa lo st = .ok (a, ka, st1)) (k1 : isPk ka = false) (h2 : fb lo st1 = .ok (b, kb, st2)) (k2 : isPk kb = false) (hi : insOf c "__eq__" (vw st2 a) = true) (hk : (knM c (vw st2 b) || decM (vw st2 b)) = true) (hF : F [a, b] st2 = .ok (.bl r, false, st3)) :
    mEqA neg c F fa fb lo st = .ok (.bl (if neg then !r else r), .fz, st3) := by
  unfold mEqA
  rw [h1]
  simp only [Res.ok_bind]
  rw [h2]
  simp only [Res.ok_bind]
  rw [if_pos ⟨k1, k2⟩, if_pos ⟨hi, hk⟩]
  unfold callF
  simp only [d_allFz1, d_allFz0, Option.map_some, List.append_nil]
  rw [if_pos (show [a, b].length = 2 from rfl), callR_ok _ _ hF]
  rfl
theorem eqA_r (h1 : fa lo st = .ok (a, ka, st1)) (k1 : isPk ka = false) (h2 : fb lo st1 = .ok (b, kb, st2)) (k2 : isPk kb = false) (hd : decM (vw st2 a) = true) (hi : insOf c "__eq__" (vw st2 b) = true) (hF : F [b, a] st2 = .ok (.bl r, false, st3)) :
    mEqA false c F fa fb lo st = .ok (.bl r, .fz, st3) := by
  unfold mEqA
  rw [h1]
  simp only [Res.ok_bind]
  rw [h2]
  simp only [Res.ok_bind]
  have no : ¬ (insOf c "__eq__" (vw st2 a) = true ∧ (knM c (vw st2 b) || decM (vw st2 b)) = true) := fun z => by
    obtain ⟨fs, e, _⟩ := insOf_ok z.1
    rw [e] at hd
    cases hd
  rw [if_pos ⟨k1, k2⟩, if_neg no, if_pos ⟨trivial, hd, hi⟩]
  unfold callF
  simp only [d_allFz1, d_allFz0, Option.map_some, List.append_nil]
  rw [if_pos (show [b, a].length = 2 from rfl), callR_ok _ _ hF]
  rfl
end
end FW

namespace FW
open PySem L2 PySem.Spec PyProof.Rows

abbrev KK := Key ⊕ List Key
def kyI : MV → Option Key
  | .int i => some (.inl i)
  | .str x => some (.inr x)
  | _ => none
def kyM : MV → Option KK
  | .int i => some (.inl (.inl i))
  | .str x => some (.inl (.inr x))
  | .tup ms => (mapO kyI ms).map Sum.inr
  | _ => none
theorem kyI_kM (k : Key) : kyI (kM k) = some k := by cases k <;> rfl
theorem kyM_kM (k : Key) : kyM (kM k) = some (.inl k) := by cases k <;> rfl
theorem mapO_kM (ks : List Key) : mapO kyI (ks.map kM) = some ks := by
  induction ks with
  | nil => rfl
  | cons k ks ih => rw [List.map_cons]; unfold mapO; rw [kyI_kM, ih]
theorem kyM_tup (ks : List Key) : kyM (.tup (ks.map kM)) = some (.inr ks) := by
  show (mapO kyI (ks.map kM)).map Sum.inr = _
  rw [mapO_kM]; rfl
theorem kyI_inv {m : MV} {k : Key} (h : kyI m = some k) : m = kM k := by
  cases m <;> first | (cases h; rfl) | cases h
theorem mapO_inv : ∀ {ms : List MV} {ks : List Key}, mapO kyI ms = some ks → ms = ks.map kM
  | [], ks, h => by cases h; rfl
  | m :: ms, ks, h => by
    unfold mapO at h
    cases e1 : kyI m with
    | none => rw [e1] at h; cases h
    | some k =>
      rw [e1] at h
      cases e2 : mapO kyI ms with
      | none => rw [e2] at h; cases h
      | some r =>
        rw [e2] at h
        cases h
        rw [kyI_inv e1, mapO_inv e2]; rfl
theorem kyM_inv {m : MV} {k : KK} (h : kyM m = some k) : (∃ j, k = .inl j ∧ m = kM j) ∨ ∃ ks, k = .inr ks ∧ m = .tup (ks.map kM) := by
  cases m with
  | int i => cases h; exact .inl ⟨_, rfl, rfl⟩
  | str x => cases h; exact .inl ⟨_, rfl, rfl⟩
  | tup ms =>
    obtain ⟨ks, e, rfl⟩ := Option.map_eq_some_iff.mp (show (mapO kyI ms).map Sum.inr = some k from h)
    exact .inr ⟨ks, rfl, by rw [mapO_inv e]⟩
  | _ => cases h
/-- what stands at a key -/
def lkD (ps : List (MV × MV)) (k : KK) : Option MV := (ps.find? fun p => decide (kyM p.1 = some k)).map (·.2)
def isInl : KK → Bool
  | .inl _ => true
  | .inr _ => false
def sameSort (ps : List (MV × MV)) (k : KK) : Bool := ps.all fun p => match kyM p.1 with
  | some j => isInl j == isInl k
  | none => false
section
variable {mg : Wd} {S : Addr → Prop} {ι : List Addr} {H : Hp}
theorem lk_K : ∀ {kvs : List (Key × V)} {ps : List (MV × MV)}, kvs.length = ps.length → (∀ (i : Nat) kv q, kvs[i]? = some kv → ps[i]? = some q → q.1 = kM kv.1 ∧ Dt mg S ι H kv.2 q.2) → ∀ k : Key,
    (∀ m, lkD ps (.inl k) = some m → ∃ v, valV kvs k = some v ∧ Dt mg S ι H v m) ∧ (lkD ps (.inl k) = none → valV kvs k = none)
  | [], ps, hl, _, k => by
    have e : ps = [] := List.length_eq_zero_iff.mp hl.symm
    subst e
    exact ⟨fun m h => (nomatch h), fun _ => rfl⟩
  | kv :: kvs, [], hl, _, _ => by cases hl
  | kv :: kvs, p :: ps, hl, h, k => by
    have h0 := h 0 kv p rfl rfl
    have ih := lk_K (kvs := kvs) (ps := ps) (by simpa using hl) (fun i a b h1 h2 => h (i + 1) a b (by simpa using h1) (by simpa using h2)) k
    have e : kyM p.1 = some (.inl kv.1) := by rw [h0.1, kyM_kM]
    by_cases hk : kv.1 = k
    · have d : decide (kyM p.1 = some (.inl k)) = true := decide_eq_true (by rw [e, hk])
      have e1 : lkD (p :: ps) (.inl k) = some p.2 := by simp [lkD, List.find?_cons, d]
      rw [e1]
      exact ⟨fun m hm => by cases hm; exact ⟨kv.2, valV_pos hk, h0.2⟩, fun z => by cases z⟩
    · have d : decide (kyM p.1 = some (.inl k)) = false := decide_eq_false (by rw [e]; intro z; exact hk (Sum.inl.inj (Option.some.inj z)))
      have e1 : lkD (p :: ps) (.inl k) = lkD ps (.inl k) := by simp [lkD, List.find?_cons, d]
      rw [e1, valV_neg hk]
      exact ih
theorem lk_Kr : ∀ {kvs : List (Key × V)} {ps : List (MV × MV)}, kvs.length = ps.length → (∀ (i : Nat) kv q, kvs[i]? = some kv → ps[i]? = some q → q.1 = kM kv.1 ∧ Dt mg S ι H kv.2 q.2) → ∀ k : List Key, lkD ps (.inr k) = none ∧ (sameSort ps (.inr k) = true → kvs = [])
  | [], ps, hl, _, k => by
    have e : ps = [] := List.length_eq_zero_iff.mp hl.symm
    subst e
    exact ⟨rfl, fun _ => rfl⟩
  | kv :: kvs, [], hl, _, _ => by cases hl
  | kv :: kvs, p :: ps, hl, h, k => by
    have h0 := h 0 kv p rfl rfl
    have ih := lk_Kr (kvs := kvs) (ps := ps) (by simpa using hl) (fun i a b h1 h2 => h (i + 1) a b (by simpa using h1) (by simpa using h2)) k
    have e : kyM p.1 = some (.inl kv.1) := by rw [h0.1, kyM_kM]
    have d : decide (kyM p.1 = some (.inr k)) = false := decide_eq_false (by rw [e]; intro z; cases Option.some.inj z)
    have e1 : lkD (p :: ps) (.inr k) = lkD ps (.inr k) := by simp [lkD, List.find?_cons, d]
    refine ⟨e1.trans ih.1, fun z => ?_⟩
    unfold sameSort at z
    rw [List.all_cons, e] at z
    simp [isInl] at z
theorem lk_T : ∀ {kvs : List (List Key × V)} {ps : List (MV × MV)}, kvs.length = ps.length → (∀ (i : Nat) kv q, kvs[i]? = some kv → ps[i]? = some q → q.1 = .tup (kv.1.map kM) ∧ Dt mg S ι H kv.2 q.2) → ∀ k : List Key,
    (∀ m, lkD ps (.inr k) = some m → ∃ v, valV kvs k = some v ∧ Dt mg S ι H v m) ∧ (lkD ps (.inr k) = none → valV kvs k = none)
  | [], ps, hl, _, k => by
    have e : ps = [] := List.length_eq_zero_iff.mp hl.symm
    subst e
    exact ⟨fun m h => (nomatch h), fun _ => rfl⟩
  | kv :: kvs, [], hl, _, _ => by cases hl
  | kv :: kvs, p :: ps, hl, h, k => by
    have h0 := h 0 kv p rfl rfl
    have ih := lk_T (kvs := kvs) (ps := ps) (by simpa using hl) (fun i a b h1 h2 => h (i + 1) a b (by simpa using h1) (by simpa using h2)) k
    have e : kyM p.1 = some (.inr kv.1) := by rw [h0.1, kyM_tup]
    by_cases hk : kv.1 = k
    · have d : decide (kyM p.1 = some (.inr k)) = true := decide_eq_true (by rw [e, hk])
      have e1 : lkD (p :: ps) (.inr k) = some p.2 := by simp [lkD, List.find?_cons, d]
      rw [e1]
      exact ⟨fun m hm => by cases hm; exact ⟨kv.2, valV_pos hk, h0.2⟩, fun z => by cases z⟩
    · have d : decide (kyM p.1 = some (.inr k)) = false := decide_eq_false (by rw [e]; intro z; exact hk (Sum.inr.inj (Option.some.inj z)))
      have e1 : lkD (p :: ps) (.inr k) = lkD ps (.inr k) := by simp [lkD, List.find?_cons, d]
      rw [e1, valV_neg hk]
      exact ih
theorem lk_Tr : ∀ {kvs : List (List Key × V)} {ps : List (MV × MV)}, kvs.length = ps.length → (∀ (i : Nat) kv q, kvs[i]? = some kv → ps[i]? = some q → q.1 = .tup (kv.1.map kM) ∧ Dt mg S ι H kv.2 q.2) → ∀ k : Key, lkD ps (.inl k) = none ∧ (sameSort ps (.inl k) = true → kvs = [])
  | [], ps, hl, _, k => by
    have e : ps = [] := List.length_eq_zero_iff.mp hl.symm
    subst e
    exact ⟨rfl, fun _ => rfl⟩
  | kv :: kvs, [], hl, _, _ => by cases hl
  | kv :: kvs, p :: ps, hl, h, k => by
    have h0 := h 0 kv p rfl rfl
    have ih := lk_Tr (kvs := kvs) (ps := ps) (by simpa using hl) (fun i a b h1 h2 => h (i + 1) a b (by simpa using h1) (by simpa using h2)) k
    have e : kyM p.1 = some (.inr kv.1) := by rw [h0.1, kyM_tup]
    have d : decide (kyM p.1 = some (.inl k)) = false := decide_eq_false (by rw [e]; intro z; cases Option.some.inj z)
    have e1 : lkD (p :: ps) (.inl k) = lkD ps (.inl k) := by simp [lkD, List.find?_cons, d]
    refine ⟨e1.trans ih.1, fun z => ?_⟩
    unfold sameSort at z
    rw [List.all_cons, e] at z
    simp [isInl] at z
theorem dt_kM {v : V} {k : Key} (d : Dt mg S ι H v (kM k)) : v = kV k := by
  cases k with
  | inl i => cases d; rfl
  | inr x => cases d; rfl
theorem allD_kM : ∀ {vs : List V} {ks : List Key}, AllD mg S ι H vs (ks.map kM) → vs = ks.map kV
  | vs, [], r => by rw [r.inv_nil]; rfl
  | vs, k :: ks, r => by
    obtain ⟨v, vs', rfl, d, r'⟩ := r.inv_cons
    rw [dt_kM d, allD_kM r']; rfl
/-- a key, as the heap has it -/
theorem vr_key {y : V} {m : MV} {k : KK} (vr : VR mg S ι H y m) (h : kyM m = some k) : (∃ j, k = .inl j ∧ y = kV j) ∨ ∃ ks b, k = .inr ks ∧ y = .ref b ∧ H b = some (.tup (ks.map kV)) := by
  rcases kyM_inv h with ⟨j, rfl, rfl⟩ | ⟨ks, rfl, rfl⟩
  · refine .inl ⟨j, rfl, ?_⟩
    cases j with
    | inl i => cases vr; rfl
    | inr x => cases vr; rfl
  · obtain ⟨p, vs, rfl, e, d⟩ := vr
    exact .inr ⟨ks, p, rfl, rfl, by rw [e, allD_kM d]⟩
end

def gDGet : MV → MV → Option MV
  | .dct ps, k => (kyM k).bind (lkD ps)
  | _, _ => none
def mDGet (fd fk : EF) : EF := fun lo st => fd lo st >>= fun (d, _, st1) => fk lo st1 >>= fun (k, _, st2) => match gDGet (vw st2 d) (vw st2 k) with
  | some m => .ok (m, .fz, st2)
  | none => .bad
/-- what d holds at k -/
theorem dget_of {mg : Wd} {S : Addr → Prop} {ι : List Addr} {H : Hp} {x y : V} {ps : List (MV × MV)} {k m : MV} {kk : KK} (vd : VR mg S ι H x (.dct ps)) (vk : VR mg S ι H y k) (hk : kyM k = some kk) (h : lkD ps kk = some m) : ∃ a v, x = .ref a ∧ DGet H a y (some v) ∧ Dt mg S ι H v m := by
  obtain ⟨a, rfl, al⟩ := vd
  rcases vr_key vk hk with ⟨j, rfl, rfl⟩ | ⟨ks, b, rfl, rfl, eb⟩
  · rcases al with ⟨kvs, r, hl, hp⟩ | ⟨kvs, r, hl, hp⟩
    · obtain ⟨v, e, d⟩ := (lk_K hl hp j).1 m h
      exact ⟨a, v, rfl, .inl ⟨kvs, j, r, rfl, e.symm⟩, d⟩
    · rw [(lk_Tr hl hp j).1] at h; cases h
  · rcases al with ⟨kvs, r, hl, hp⟩ | ⟨kvs, r, hl, hp⟩
    · rw [(lk_Kr hl hp ks).1] at h; cases h
    · obtain ⟨v, e, d⟩ := (lk_T hl hp ks).1 m h
      exact ⟨a, v, rfl, .inr ⟨kvs, ks, b, r, rfl, eb, e.symm⟩, d⟩
section
variable {X : Cx} {B : Base} {W : WX} {o i : Expr} {fd fk : EF} {k : Nat} {pos : Pos}
theorem se_dget (hr : RoomG k X.A) (ho : SE X B W o fd) (hi : SE X B W i fk) (hs : NoSl i := by intro _ _; rfl) : SE X B W (.Subscript o i pos) (mDGet fd fk) := by
  refine (pe_dget (by have := hr.r.un; omega) ho hi hs).fw fun σ H Q ⟨S, ι, lo, st, fm, pp⟩ => ?_
  refine tE.use fm (Post.bind pp) fun t kt st1 S1 ι1 H1 x f1 k1 r1 p1 => ?_
  obtain ⟨S1', f1', k1', h1⟩ := r1.hand f1
  refine tE.use f1' (Post.bind (p1.mono (k1.trans k1') fun _ z => z)) fun b kb st2 S2 ι2 H2 y f2 k2 r2 p2 => ?_
  obtain ⟨S2', f2', k2', h2⟩ := r2.hand f2
  have v1 := (h1.mono (k2.trans k2')).vr f2'
  have v2 := h2.vr f2'
  dsimp only at p2
  split at p2
  · rename_i m e
    unfold gDGet at e
    split at e
    · rename_i ps k' eq
      obtain ⟨kk, hk, hl⟩ := Option.bind_eq_some_iff.mp e
      rw [eq] at v1
      obtain ⟨a, v, ea, g, d⟩ := dget_of v1 v2 hk hl
      exact ⟨a, v, ea, g, p2 S2' ι2 H2 v f2' ((k1.trans k1').trans (k2.trans k2')) d⟩
    · cases e
  · exact p2.elim
end

/-- an empty dict: of either sort -/
def DNil (H : Hp) (a : Addr) : Prop := Rd H a (.dK []) ∨ Rd H a (.dT [])
def DAsk (H : Hp) (a : Addr) (y : V) (o : Option V) : Prop := DGet H a y o ∨ (o = none ∧ DNil H a ∧ ((∃ k, y = kV k) ∨ ∃ (ks : List Key) (b : Addr), y = .ref b ∧ H b = some (.tup (ks.map kV))))
section
variable {X : Cx} {pins : List (Addr × Obj)} {σ : L2.St} {H : Hp} {s : Shared} {A : Around} {E : Value → Shared → Prop} {a : Addr} {y : V} {u : Value} {o : Option V}
theorem dnil_at (I : L2.Inv X pins σ H s) (h : DNil H a) : (a == sysModules) = false ∧ s.heap.DictOf (mixKind X.prog X.w) a [] ∧ s.heap.DictOfH (tupleKind (mixKind X.prog X.w)) a [] := by
  rcases h with h | h
  · obtain ⟨_, hd, vs, rel, dd⟩ := dk_rd I.hok h
    cases rel
    obtain ⟨ob, es, ep, h1, h2, h3, h4, h5, h6⟩ := id dd
    cases e : es.toList with
    | nil => exact ⟨hd, dd, ob, es, ep, h1, h2, h3, e, fun x hx => (nomatch hx), List.nodup_nil⟩
    | cons _ _ => rw [e] at h5; cases h5
  · obtain ⟨_, hd, xs, rel, dd⟩ := dt_rd I.hok h
    cases rel
    obtain ⟨ob, es, ep, h1, h2, h3, h4, h5, h6⟩ := id dd
    have e : es.toList = [] := h4
    refine ⟨hd, ⟨ob, es, ep, h1, h2, h3, fun z hz => ?_, by rw [e]; exact .nil, List.nodup_nil⟩, dd⟩
    rw [Array.mem_def, e] at hz
    cases hz
theorem d_ask {Q : Value → Shared → Prop} (neg : Bool) (hu : A.units + 1 < cLine) (I : L2.Inv X pins σ H s) (g : DAsk H a y o) (ry : RelV y u) (h : ∀ s', L2.Inv X pins σ H s' → Q (.bool (if neg then !o.isSome else o.isSome)) s') :
    wpAny (model X.prog X.w) A (compareOp (if neg then .NotIn else .In) u (.ref a)) Q E s := by
  rcases g with g | ⟨rfl, hn, hy⟩
  · cases neg with
    | false => exact d_in hu I g ry h
    | true => exact d_notIn hu I g ry h
  · obtain ⟨hd, dK, dT⟩ := dnil_at I hn
    rcases hy with ⟨k, rfl⟩ | ⟨ks, b, rfl, eb⟩
    · cases neg with
      | false => exact wpAny_in_of (kV_is ry) hd dK.mapOf (h _ (I.tok _))
      | true => exact wpAny_notIn_of (kV_is ry) hd dK.mapOf (h _ (I.tok _))
    · cases (show u = Value.ref b from ry)
      cases neg with
      | false => exact wpAny_in_heap (tupleKind_room_in1 hu) (key_of I.hok eb) hd dT (h _ (I.tok _))
      | true => exact wpAny_notIn_heap (tupleKind_room_in1 hu) (key_of I.hok eb) hd dT (h _ (I.tok _))
end
/-- y in d, y not in d -/
def tAsk (neg : Bool) (ty td : TE) : TE := fun σ H Q => ty σ H fun y H1 => td σ H1 fun x H2 => ∃ a o, x = .ref a ∧ DAsk H2 a y o ∧ Q (.bl (if neg then !o.isSome else o.isSome)) H2
theorem pc_ask (neg : Bool) {X : Cx} {o i : Expr} {td ty : TE} (hu : X.A.units + 1 < cLine) (hi : PE X i ty) (ho : PE X o td) : PC X (if neg then .NotIn else .In) i o (tAsk neg ty td) := by
  refine ⟨fun pins s σ H Q I h => ?_⟩
  refine thn (hi.run pins s σ H _ I h) fun iv s1 ⟨y, H1, I1, ry, q1⟩ => thn (ho.run pins s1 σ H1 _ I1 q1) fun u s2 ⟨x, H2, I2, rx, a, ov, ex, g, q2⟩ => ?_
  subst ex
  obtain rfl : u = Value.ref a := rx
  exact d_ask neg hu I2 g ry fun s3 I3 => ⟨.bl _, H2, I3, rfl, q2⟩
def gAsk : MV → MV → Option Bool
  | .dct ps, k => (kyM k).bind fun kk => if sameSort ps kk = true then some (lkD ps kk).isSome else none
  | _, _ => none
def mAsk (neg : Bool) (fk fd : EF) : EF := fun lo st => fk lo st >>= fun (k, _, st1) => fd lo st1 >>= fun (d, _, st2) => match gAsk (vw st2 d) (vw st2 k) with
  | some b => .ok (.bl (if neg then !b else b), .fz, st2)
  | none => .bad
theorem ask_of {mg : Wd} {S : Addr → Prop} {ι : List Addr} {H : Hp} {x y : V} {ps : List (MV × MV)} {k : MV} {kk : KK} (vd : VR mg S ι H x (.dct ps)) (vk : VR mg S ι H y k) (hk : kyM k = some kk) (h : sameSort ps kk = true) : ∃ a o, x = .ref a ∧ DAsk H a y o ∧ o.isSome = (lkD ps kk).isSome := by
  obtain ⟨a, rfl, al⟩ := vd
  rcases vr_key vk hk with ⟨j, rfl, rfl⟩ | ⟨ks, b, rfl, rfl, eb⟩
  · rcases al with ⟨kvs, r, hl, hp⟩ | ⟨kvs, r, hl, hp⟩
    · refine ⟨a, valV kvs j, rfl, .inl (.inl ⟨kvs, j, r, rfl, rfl⟩), ?_⟩
      have l := lk_K hl hp j
      cases e : lkD ps (.inl j) with
      | none => rw [l.2 e]; rfl
      | some m => obtain ⟨v, e2, _⟩ := l.1 m e; rw [e2]; rfl
    · have l := lk_Tr hl hp j
      have e := l.2 h
      subst e
      exact ⟨a, none, rfl, .inr ⟨rfl, .inr r, .inl ⟨j, rfl⟩⟩, by rw [l.1]; rfl⟩
  · rcases al with ⟨kvs, r, hl, hp⟩ | ⟨kvs, r, hl, hp⟩
    · have l := lk_Kr hl hp ks
      have e := l.2 h
      subst e
      exact ⟨a, none, rfl, .inr ⟨rfl, .inl r, .inr ⟨ks, b, rfl, eb⟩⟩, by rw [l.1]; rfl⟩
    · refine ⟨a, valV kvs ks, rfl, .inl (.inr ⟨kvs, ks, b, r, rfl, eb, rfl⟩), ?_⟩
      have l := lk_T hl hp ks
      cases e : lkD ps (.inr ks) with
      | none => rw [l.2 e]; rfl
      | some m => obtain ⟨v, e2, _⟩ := l.1 m e; rw [e2]; rfl
section
variable {X : Cx} {B : Base} {W : WX} {o i : Expr} {fd fk : EF} {k : Nat} {pos : Pos}
theorem pc_askM (neg : Bool) (hr : RoomG k X.A) (hi : SE X B W i fk) (ho : SE X B W o fd) : PC X (if neg then .NotIn else .In) i o (tE X.wd B W (mAsk neg fk fd)) := by
  refine ⟨fun pins s σ H Q I h => ((pc_ask neg (by have := hr.r.un; omega) hi ho).run pins s σ H Q I ?_)⟩
  obtain ⟨S, ι, lo, st, fm, pp⟩ := h
  refine tE.use fm (Post.bind pp) fun t kt st1 S1 ι1 H1 y f1 k1 r1 p1 => ?_
  obtain ⟨S1', f1', k1', h1⟩ := r1.hand f1
  refine tE.use f1' (Post.bind (p1.mono (k1.trans k1') fun _ z => z)) fun b kb st2 S2 ι2 H2 x f2 k2 r2 p2 => ?_
  obtain ⟨S2', f2', k2', h2⟩ := r2.hand f2
  have v1 := (h1.mono (k2.trans k2')).vr f2'
  have v2 := h2.vr f2'
  dsimp only at p2
  split at p2
  · rename_i bb e
    unfold gAsk at e
    split at e
    · rename_i ps k' eq
      obtain ⟨kk, hk, hl⟩ := Option.bind_eq_some_iff.mp e
      split at hl
      · rename_i ss
        cases hl
        rw [eq] at v2
        obtain ⟨a, ov, ea, g, io⟩ := ask_of v2 v1 hk ss
        refine ⟨a, ov, ea, g, ?_⟩
        rw [io]
        exact p2 S2' ι2 H2 _ f2' ((k1.trans k1').trans (k2.trans k2')) (.bl _)
      · cases hl
    · cases e
  · exact p2.elim
end
theorem st_of_pcM {X : Cx} {B : Base} {W : WX} {a b : Expr} {op : CmpOp} {f : EF} {pos : Pos} (h : PC X op a b (tE X.wd B W f)) (hm : behindInMarks op b = false := by first | exact nomark _ | rfl) : STe X B W (.Compare a [op] [b] pos) (mTv f) := by
  exact st_of_pc h hm
section
variable {X : Cx} {B : Base} {W : WX} {o i : Expr} {fd fk : EF} {k : Nat} {pos : Pos}
theorem se_din (hr : RoomG k X.A) (hi : SE X B W i fk) (ho : SE X B W o fd) (hm : behindInMarks .In o = false := by first | exact nomark _ | rfl) : SE X B W (.Compare i [.In] [o] pos) (mAsk false fk fd) := pe_cmp (pc_askM false hr hi ho) hm
theorem se_dnotin (hr : RoomG k X.A) (hi : SE X B W i fk) (ho : SE X B W o fd) (hm : behindInMarks .NotIn o = false := by first | exact nomark _ | rfl) : SE X B W (.Compare i [.NotIn] [o] pos) (mAsk true fk fd) := pe_cmp (pc_askM true hr hi ho) hm
theorem st_din (hr : RoomG k X.A) (hi : SE X B W i fk) (ho : SE X B W o fd) (hm : behindInMarks .In o = false := by first | exact nomark _ | rfl) : STe X B W (.Compare i [.In] [o] pos) (mTv (mAsk false fk fd)) := st_of_pc (pc_askM false hr hi ho) hm
theorem st_dnotin (hr : RoomG k X.A) (hi : SE X B W i fk) (ho : SE X B W o fd) (hm : behindInMarks .NotIn o = false := by first | exact nomark _ | rfl) : STe X B W (.Compare i [.NotIn] [o] pos) (mTv (mAsk true fk fd)) := st_of_pc (pc_askM true hr hi ho) hm
end

/-- a plain key put -/
def putD (ps : List (MV × MV)) (k : Key) (m : MV) : List (MV × MV) :=
  if (ps.any fun p => decide (kyM p.1 = some (.inl k))) = true then ps.map fun p => if kyM p.1 = some (.inl k) then (p.1, m) else p else ps ++ [(kM k, m)]
section
variable {mg : Wd} {S : Addr → Prop} {ι : List Addr} {H : Hp}
/-- keys and data, side by side -/
def KD (mg : Wd) (S : Addr → Prop) (ι : List Addr) (H : Hp) (kvs : List (Key × V)) (ps : List (MV × MV)) : Prop := kvs.length = ps.length ∧ ∀ (i : Nat) kv q, kvs[i]? = some kv → ps[i]? = some q → q.1 = kM kv.1 ∧ Dt mg S ι H kv.2 q.2
theorem KD.nil : KD mg S ι H [] [] := ⟨rfl, fun i kv q h => by simp at h⟩
theorem KD.cons {kv : Key × V} {p : MV × MV} {kvs : List (Key × V)} {ps : List (MV × MV)} (h1 : p.1 = kM kv.1) (h2 : Dt mg S ι H kv.2 p.2) (r : KD mg S ι H kvs ps) : KD mg S ι H (kv :: kvs) (p :: ps) := by
  refine ⟨by simp [r.1], fun i a b e1 e2 => ?_⟩
  cases i with
  | zero => simp at e1 e2; subst e1; subst e2; exact ⟨h1, h2⟩
  | succ i => exact r.2 i a b (by simpa using e1) (by simpa using e2)
theorem KD.inv {kv : Key × V} {kvs : List (Key × V)} {ps : List (MV × MV)} (r : KD mg S ι H (kv :: kvs) ps) : ∃ p ps', ps = p :: ps' ∧ p.1 = kM kv.1 ∧ Dt mg S ι H kv.2 p.2 ∧ KD mg S ι H kvs ps' := by
  obtain ⟨hl, h⟩ := r
  cases ps with
  | nil => cases hl
  | cons p ps' => exact ⟨p, ps', rfl, (h 0 kv p rfl rfl).1, (h 0 kv p rfl rfl).2, by simpa using hl, fun i a b e1 e2 => h (i + 1) a b (by simpa using e1) (by simpa using e2)⟩
theorem KD.mono {S' : Addr → Prop} {ι' : List Addr} {H' : Hp} {kvs : List (Key × V)} {ps : List (MV × MV)} (k : Keep S ι H S' ι' H') (r : KD mg S ι H kvs ps) : KD mg S' ι' H' kvs ps := ⟨r.1, fun i a b e1 e2 => ⟨(r.2 i a b e1 e2).1, (r.2 i a b e1 e2).2.mono k⟩⟩
theorem KD.any (k : Key) : ∀ {kvs : List (Key × V)} {ps : List (MV × MV)}, KD mg S ι H kvs ps → (ps.any fun p => decide (kyM p.1 = some (.inl k))) = kvs.any fun kv => decide (kv.1 = k)
  | [], ps, r => by
    have e : ps = [] := List.length_eq_zero_iff.mp r.1.symm
    subst e; rfl
  | kv :: kvs, ps, r => by
    obtain ⟨p, ps', rfl, h1, _, r'⟩ := r.inv
    rw [List.any_cons, List.any_cons, KD.any k r', h1, kyM_kM]
    congr 1
    by_cases e : kv.1 = k
    · rw [decide_eq_true e, decide_eq_true (by rw [e])]
    · rw [decide_eq_false e, decide_eq_false (fun z => e (Sum.inl.inj (Option.some.inj z)))]
theorem KD.repl (k : Key) {v : V} {m : MV} (d : Dt mg S ι H v m) : ∀ {kvs : List (Key × V)} {ps : List (MV × MV)}, KD mg S ι H kvs ps → KD mg S ι H (kvs.map fun kv => if kv.1 = k then (kv.1, v) else kv) (ps.map fun p => if kyM p.1 = some (.inl k) then (p.1, m) else p)
  | [], ps, r => by
    have e : ps = [] := List.length_eq_zero_iff.mp r.1.symm
    subst e; exact .nil
  | kv :: kvs, ps, r => by
    obtain ⟨p, ps', rfl, h1, h2, r'⟩ := r.inv
    rw [List.map_cons, List.map_cons]
    refine KD.cons ?_ ?_ (KD.repl k d r')
    · by_cases e : kv.1 = k
      · rw [if_pos e, if_pos (by rw [h1, kyM_kM, e])]; exact h1
      · rw [if_neg e, if_neg (by rw [h1, kyM_kM]; exact fun z => e (Sum.inl.inj (Option.some.inj z)))]; exact h1
    · by_cases e : kv.1 = k
      · rw [if_pos e, if_pos (by rw [h1, kyM_kM, e])]; exact d
      · rw [if_neg e, if_neg (by rw [h1, kyM_kM]; exact fun z => e (Sum.inl.inj (Option.some.inj z)))]; exact h2
theorem KD.snoc (k : Key) {v : V} {m : MV} (d : Dt mg S ι H v m) : ∀ {kvs : List (Key × V)} {ps : List (MV × MV)}, KD mg S ι H kvs ps → KD mg S ι H (kvs ++ [(k, v)]) (ps ++ [(kM k, m)])
  | [], ps, r => by
    have e : ps = [] := List.length_eq_zero_iff.mp r.1.symm
    subst e; exact .cons rfl d .nil
  | kv :: kvs, ps, r => by
    obtain ⟨p, ps', rfl, h1, h2, r'⟩ := r.inv
    exact .cons h1 h2 (KD.snoc k d r')
theorem KD.put {kvs : List (Key × V)} {ps : List (MV × MV)} (r : KD mg S ι H kvs ps) (k : Key) {v : V} {m : MV} (d : Dt mg S ι H v m) : KD mg S ι H (putK kvs k v) (putD ps k m) := by
  unfold putK putD
  rw [r.any k]
  cases kvs.any fun kv => decide (kv.1 = k) with
  | true => rw [if_pos rfl, if_pos rfl]; exact r.repl k d
  | false => rw [if_neg Bool.false_ne_true, if_neg Bool.false_ne_true]; exact r.snoc k d
end
open Classical in
noncomputable def dcL (ck : CK) (gf : GF) (tt : TF) (fk fe : EF) (lo0 : Lo) : List MV → List (MV × MV) → Sto → Res (List (MV × MV) × Sto)
  | [], acc, st => if ck lo0 st then .ok (acc, st) else .bad
  | x :: xs, acc, st => if ck lo0 st then noExc (gf x lo0 st) >>= fun (lo1, st1) => noExc (tt lo1 st1) >>= fun (b, st2) =>
      if b = true then noExc (fk lo1 st2) >>= fun (km, kk, st3) => noExc (fe lo1 st3) >>= fun r => frzd r >>= fun (y, st4) => (match kyI km with
        | some k => if acc.length < sizeLine then dcL ck gf tt fk fe lo0 xs (putD acc k y) st4 else .bad
        | none => .bad)
      else dcL ck gf tt fk fe lo0 xs acc st2 else .bad
noncomputable def mDc (vs : List Nat) (fi : IFn) (gf : GF) (tt : TF) (fk fe : EF) : EF := fun lo st => if clrOk lo vs = true then fi lo st >>= fun (items, ck, st1) => dcL ck gf tt fk fe (wipeM lo vs) items [] st1 >>= fun (acc, st2) => .ok (.dct acc, .fr, st2) else .bad
theorem rv_key {mg : Wd} {B : Base} {S : Addr → Prop} {ι : List Addr} {H : Hp} {lo : Lo} {σ : L2.St} {st : Sto} {v : V} {m : MV} {kd : Kd} {k : Key} (f : Fm mg B S ι H lo σ st) (r : RV mg B S ι H lo σ v m kd) (h : kyI m = some k) : v = kV k := by
  obtain ⟨S', f', _, hh⟩ := r.hand f
  have e := kyI_inv h
  subst e
  have vr := hh.vr f'
  cases k with
  | inl i => exact vr
  | inr x => exact vr
section
variable {X : Cx} {B : Base} {W : WX} {pos : Pos}
theorem tDc_of {vs : List Nat} {fi : IFn} {gf : GF} {tt : TF} {fk fe : EF} {mg : Wd} {TGt : TG} {TTt : TT} {TKt TEt : TE} {σ : L2.St} {H : Hp} {Q : VK}
    (hG : ∀ B v σ H Q, tG mg B W0 vs gf v σ H Q → TGt v σ H Q) (hT : ∀ B σ H Q, tT mg B W0 tt σ H Q → TTt σ H Q) (hK : ∀ B σ H Q, tE mg B W0 fk σ H Q → TKt σ H Q) (hE : ∀ B σ H Q, tE mg B W0 fe σ H Q → TEt σ H Q)
    (h : tE mg B W (mDc vs fi gf tt fk fe) σ H Q) : tDc (tI mg B W fi) TGt TTt TKt TEt vs σ H Q := by
  obtain ⟨S, ι, lo, st, fm, p⟩ := h
  unfold mDc at p
  split at p
  case isFalse => exact p.elim
  rename_i hclr
  refine ⟨S, ι, lo, st, fm, (Post.bind p).imp fun ⟨items, ck, st1⟩ q S0 ι0 H0 J f0 k0 wk c0 => ?_⟩
  intro D hD
  obtain ⟨d1, d2, d3, d4⟩ := f0.free hD
  have q := Post.bind q
  -- W: the dict so far
  refine ⟨fun i n H1 => n = items.length - i ∧ i ≤ items.length ∧ ∃ S1 ι1 st1 acc accM, Fm mg B S1 ι1 H1 (wipeM lo vs) (L2.wipe σ vs) st1 ∧ Keep S0 ι0 H0 S1 ι1 H1 ∧ ¬ S1 D ∧ D ∉ ι1 ∧ H1 D = some (.dK acc) ∧ KD mg S1 ι1 H1 acc accM ∧
      Post mg B W S ι H (fun a => Post mg B W S ι H (fun r => ∀ S' ι' H' v, Fm mg B S' ι' H' lo σ r.2.2 → Keep S ι H S' ι' H' → RV mg B S' ι' H' lo σ v r.1 r.2.1 → Q v H') (.ok (.dct a.1, .fr, a.2))) (dcL ck gf tt fk fe (wipeM lo vs) (items.drop i) accM st1),
    ⟨items.length, by simp, Nat.zero_le _, S0, ι0, st1, [], [], (f0.new (o := .dK []) hD).wipe, (Ext.new hD).keep f0.rep, d1, d2, upd_same, KD.nil, by rw [List.drop_zero]; exact q⟩, ?_⟩
  rintro i n H1 ⟨rfl, hi, S1, ι1, s1, acc, accM, f1, k1, n1, n2, e1, da, p1⟩
  have own1 : ∀ (j : Nat) m', (wipeM lo vs)[j]? = some (some (m', true)) → (L2.wipe σ vs)[j]? ≠ some (some (.ref D)) := fun j m' h z => by
    have nj : j ∉ vs := fun hm => wipeM_in lo hm h
    rw [wipeM_out lo nj] at h
    rw [wipe_out σ nj] at z
    exact d4 j m' h z
  by_cases hlt : i < items.length
  · rw [List.drop_eq_getElem_cons hlt] at p1
    unfold dcL at p1
    split at p1
    case isFalse => exact p1.elim
    rename_i hck
    have f1g := f1.guard e1 n1 n2 d3 own1
    obtain ⟨go, yl⟩ := (wk (B.put D (.dK acc)) i S1 ι1 H1 _ _ s1 f1g k1 hck).1 items[i] (by simp [hlt])
    refine .inr ⟨go, _, fun H' z => z, fun x H' y => ?_⟩
    obtain ⟨S2, f2, k2, dx⟩ := yl x H' y
    refine hG (B.put D (.dK acc)) _ _ _ _ ⟨S2, ι1, _, s1, items[i], f2, dx, (Post.noExc (Post.bind p1)).imp fun ⟨lo3, s3⟩ p3 S3 ι3 σ3 H3 f3 k3 sb lb => ?_⟩
    refine ⟨sb.wipe.trans (wipe_wipe σ vs), ?_⟩
    refine hT (B.put D (.dK acc)) _ _ _ ⟨S3, ι3, lo3, s3, f3, (Post.noExc (Post.bind p3)).imp fun ⟨b, s4⟩ p4 S4 ι4 H4 f4 k4 => ?_⟩
    have k14 := k1.trans (k2.trans (k3.trans k4))
    -- behind the turn the frame's names are as they were ahead of it
    have back : ∀ {S5 : Addr → Prop} {ι5 : List Addr} {H5 : Hp} {s5 : Sto}, Fm mg (B.put D (.dK acc)) S5 ι5 H5 lo3 σ3 s5 → Keep S0 ι0 H0 S5 ι5 H5 → Fm mg B S5 ι5 H5 (wipeM lo vs) (L2.wipe σ vs) s5 ∧ H5 D = some (.dK acc) ∧ ¬ S5 D ∧ D ∉ ι5 := by
      intro S5 ι5 H5 s5 f5 k5
      obtain ⟨f6, e6, n6, i6, _⟩ := f5.unguard d3
      refine ⟨⟨f6.ext, f6.rep, ⟨f1.loc.len, fun j m h => ?_, fun j m h => ?_, f1.loc.dis, f1.loc.pin⟩, f6.g⟩, e6, n6, i6⟩
      · obtain ⟨w, ew, dw⟩ := (f0.wipe (vs := vs)).loc.val j m h
        exact ⟨w, ew, dw.mono k5⟩
      · have nj : j ∉ vs := fun hm => wipeM_in lo hm h
        have q := f6.loc.own j m (by rw [lb j nj]; exact h)
        rw [sb.2 j nj] at q
        exact q
    cases b with
    | true =>
      refine iteT ?_
      dsimp only at p4
      rw [if_pos rfl] at p4
      refine hK (B.put D (.dK acc)) _ _ _ ⟨S4, ι4, lo3, s4, f4, (Post.noExc (Post.bind p4)).imp fun ⟨km, kkd, s45⟩ p45 S45 ι45 H45 yv f45 k45 r45 => ?_⟩
      refine hE (B.put D (.dK acc)) _ _ _ ⟨S45, ι45, lo3, s45, f45, (Post.noExc (Post.bind p45)).imp fun ⟨m, kd, s5⟩ p5 S5 ι5 H5 v f5 k5 r5 => ?_⟩
      obtain ⟨⟨S6, f6, k6, d6⟩, p6⟩ := frzd_ok f5 r5 p5
      dsimp only at p6
      split at p6
      case h_2 => exact p6.elim
      rename_i key hkey
      split at p6
      case isFalse => exact p6.elim
      rename_i hsz
      have k06 := k14.trans (k45.trans (k5.trans k6))
      obtain ⟨g1, g2, g3, g4⟩ := back f6 k06
      have hk := Keep.upd (ι := ι5) (o := .dK (putK acc key v)) g3 (H := H5)
      refine ⟨acc, key, rv_key f45 r45 hkey, g2, by rw [da.1]; exact hsz, _, by omega, rfl, hlt, S6, ι5, s5, putK acc key v, putD accM key m, g1.updFree g3 g4 d3 own1, k06.trans hk, g3, g4, upd_same, ?_, p6⟩
      exact (((da.mono (k2.trans (k3.trans k4))).mono (k45.trans (k5.trans k6))).put key d6).mono hk
    | false =>
      refine iteF ?_
      dsimp only at p4
      rw [if_neg Bool.false_ne_true] at p4
      obtain ⟨g1, g2, g3, g4⟩ := back f4 k14
      exact ⟨_, by omega, rfl, hlt, S4, ι4, s4, acc, accM, g1, k14, g3, g4, g2, da.mono (k2.trans (k3.trans k4)), p4⟩
  · have e : i = items.length := by omega
    subst e
    rw [List.drop_length] at p1
    unfold dcL at p1
    split at p1
    case isFalse => exact p1.elim
    rename_i hck
    refine .inl ⟨(wk B _ S1 ι1 H1 _ _ s1 f1 k1 hck).2 (Nat.le_refl _), ?_⟩
    have fr := Fm.unwipe (st := st1) f0 f1 k1 hclr
    exact p1 S1 ι1 H1 (.ref D) fr (k0.trans k1) ⟨D, rfl, n1, n2, d3, ⟨_, e1, .inl ⟨acc, rfl, da.1, da.2⟩⟩, d4⟩
variable {kx vx tg iter : Expr} {ifs : List Expr} {scope : Scope} {own : List (Str × Nat)} {fi : IFn} {gf : GF} {tt : TF} {fk fe : EF}
theorem se_dc (hc : X.calm = true) (hN : X.N.Nodup) (hi : SI X B W tg iter fi) (ok : BlkOk X.N X.env.scope scope own)
    (hg : ∀ (s : Shared) (H : Hp) (C : Addr) (cl : List (Str × Addr)) (fp : List Addr) (B' : Base), SG (X.blk s H scope (compEnvC scope cl C X.env) fp) B' W0 (own.map (·.2)) tg gf)
    (ht : ∀ (s : Shared) (H : Hp) (C : Addr) (cl : List (Str × Addr)) (fp : List Addr) (B' : Base), SPTs (X.blk s H scope (compEnvC scope cl C X.env) fp) B' W0 ifs tt)
    (hk : ∀ (s : Shared) (H : Hp) (C : Addr) (cl : List (Str × Addr)) (fp : List Addr) (B' : Base), SE (X.blk s H scope (compEnvC scope cl C X.env) fp) B' W0 kx fk)
    (he : ∀ (s : Shared) (H : Hp) (C : Addr) (cl : List (Str × Addr)) (fp : List Addr) (B' : Base), SE (X.blk s H scope (compEnvC scope cl C X.env) fp) B' W0 vx fe)
    (hs : ∀ x, foldedSetIterable iter X.env x = pure x := by intro _; rfl) : SE X B W (.DictComp kx vx [⟨tg, iter, ifs, 0⟩] scope pos) (mDc (own.map (·.2)) fi gf tt fk fe) := by
  refine (pe_dc hc hN hi ok (fun s H C cl fp => PG.ex (t := fun B' => tG X.wd B' W0 (own.map (·.2)) gf) fun B' => hg s H C cl fp B') (fun s H C cl fp => PTs.ex (t := fun B' => tT X.wd B' W0 tt) fun B' => ht s H C cl fp B') (fun s H C cl fp => PE.ex (t := fun B' => tE X.wd B' W0 fk) fun B' => hk s H C cl fp B') (fun s H C cl fp => PE.ex (t := fun B' => tE X.wd B' W0 fe) fun B' => he s H C cl fp B') hs).fw fun σ H Q h => ?_
  exact tDc_of (fun B' v σ H Q z => ⟨B', z⟩) (fun B' σ H Q z => ⟨B', z⟩) (fun B' σ H Q z => ⟨B', z⟩) (fun B' σ H Q z => ⟨B', z⟩) h
end

section
variable {X : Cx} {B : Base} {W : WX} {pos : Pos} {kx vx tg iter : Expr} {ifs : List Expr} {scope : Scope} {own : List (Str × Nat)} {fi : IFn} {gf : GF} {tt : TF} {fk fe : EF}
/-- name = {k: v for ..} on one line -/
theorem ps_putDc {i : Nat} {y : Str} {py spos : Pos} {wi : TI} {g : TG} {t1 : TT} {t2 t3 : TE} (calm : X.calm = true) (nodup : X.N.Nodup) (at_ : X.N[i]? = some y) (loc : X.env.scope.names.lookup y = some .local)
    (sw : swapsWith (.DictComp kx vx [⟨tg, iter, ifs, 0⟩] scope pos) (some (.Name y py)) spos.line X.env = pure true) (hi : PI X tg iter wi) (ok : BlkOk X.N X.env.scope scope own)
    (hg : ∀ s H C cl fp, PG (X.blk s H scope (compEnvC scope cl C X.env) fp) tg g) (ht : ∀ s H C cl fp, PTs (X.blk s H scope (compEnvC scope cl C X.env) fp) ifs t1)
    (hk : ∀ s H C cl fp, PE (X.blk s H scope (compEnvC scope cl C X.env) fp) kx t2) (he : ∀ s H C cl fp, PE (X.blk s H scope (compEnvC scope cl C X.env) fp) vx t3) (hs : ∀ x, foldedSetIterable iter X.env x = pure x) :
    PS X (.Assign [.Name y py] (.DictComp kx vx [⟨tg, iter, ifs, 0⟩] scope pos) spos) (tAsg (tDc wi g t1 t2 t3 (own.map (·.2))) (gName i)) := by
  constructor
  intro pins s σ H D I want
  have w : tDc wi g t1 t2 t3 (own.map (·.2)) σ H (fun v H1 => gName i v σ H1 D.nx) := want
  rw [exec_Assign_Name_used _ _ _ _ sw]
  refine wpAny_bind (wpAny_standAt (wpAny_bind (wpAny_bind (thn (Q := fun _ s1 => SP X pins D .next s1) ?_ fun _ s1 z => wpAny_pure (wpAny_pure z)))))
  refine dc_core (Qf := fun _ s1 => SP X pins D .next s1) calm nodup I hi ok hg ht hk he hs w fun L C s1 m H1 I1 q ns fp => ?_
  obtain ⟨a0, a1, a2, a3, a4, a5⟩ := fp
  refine wpAny_assign_Name (store_ok2 (v := V.ref L) I1 nodup at_ (.inl loc) rfl (fun s2 I2 ⟨b, sb, hb⟩ => ?_) (.inr loc))
  have apart : C ≠ b := by
    rcases hb with z | z
    · exact z ▸ a1
    · exact fun e => a4 y b z e.symm
  refine ⟨m, ns.sameBut sb apart, fun h3 sb3 => ⟨_, H1, ?_, q⟩⟩
  exact I2.turned (t' := s2.toks) (fun c o hc e => (sb3.2 c hc).trans e) a0 a1 a3 a4 a5
theorem ss_setDc (i : Nat) {y : Str} {py spos : Pos} (hc : X.calm = true) (hN : X.N.Nodup) (hsw : swapsWith (.DictComp kx vx [⟨tg, iter, ifs, 0⟩] scope pos) (some (.Name y py)) spos.line X.env = pure true) (hi : SI X B W tg iter fi) (ok : BlkOk X.N X.env.scope scope own)
    (hg : ∀ (s : Shared) (H : Hp) (C : Addr) (cl : List (Str × Addr)) (fp : List Addr) (B' : Base), SG (X.blk s H scope (compEnvC scope cl C X.env) fp) B' W0 (own.map (·.2)) tg gf)
    (ht : ∀ (s : Shared) (H : Hp) (C : Addr) (cl : List (Str × Addr)) (fp : List Addr) (B' : Base), SPTs (X.blk s H scope (compEnvC scope cl C X.env) fp) B' W0 ifs tt)
    (hk : ∀ (s : Shared) (H : Hp) (C : Addr) (cl : List (Str × Addr)) (fp : List Addr) (B' : Base), SE (X.blk s H scope (compEnvC scope cl C X.env) fp) B' W0 kx fk)
    (he : ∀ (s : Shared) (H : Hp) (C : Addr) (cl : List (Str × Addr)) (fp : List Addr) (B' : Base), SE (X.blk s H scope (compEnvC scope cl C X.env) fp) B' W0 vx fe)
    (hy : X.N[i]? = some y := by rfl) (hyl : X.env.scope.names.lookup y = some .local := by rfl)
    (hs : ∀ x, foldedSetIterable iter X.env x = pure x := by intro _; rfl) : SS X B W (.Assign [.Name y py] (.DictComp kx vx [⟨tg, iter, ifs, 0⟩] scope pos) spos) (sSet i (mDc (own.map (·.2)) fi gf tt fk fe)) := by
  refine (ps_putDc hc hN hy hyl hsw hi ok (fun s H C cl fp => PG.ex (t := fun B' => tG X.wd B' W0 (own.map (·.2)) gf) fun B' => hg s H C cl fp B') (fun s H C cl fp => PTs.ex (t := fun B' => tT X.wd B' W0 tt) fun B' => ht s H C cl fp B') (fun s H C cl fp => PE.ex (t := fun B' => tE X.wd B' W0 fk) fun B' => hk s H C cl fp B') (fun s H C cl fp => PE.ex (t := fun B' => tE X.wd B' W0 fe) fun B' => he s H C cl fp B') hs).fw fun D σ H h => ?_
  refine tDc_of (W := W) (B := B) (fun B' v σ H Q z => ⟨B', z⟩) (fun B' σ H Q z => ⟨B', z⟩) (fun B' σ H Q z => ⟨B', z⟩) (fun B' σ H Q z => ⟨B', z⟩) ?_
  obtain ⟨S, ι, lo, st, fm, p⟩ := h
  refine tE.use fm (Post.bind p) fun m k st1 S1 ι1 H1 v f1 k1 r1 p1 => ?_
  obtain ⟨⟨S2, f2, k2, d⟩, p2⟩ := frzd_ok f1 r1 p1
  exact p2 S2 ι1 _ H1 (f2.set_val i d) (k1.trans k2)
end

def gStrT : GL
  | _, [.int i] => if i.natAbs.log2 < 1920 then some (.str (toString i), false) else none
  | _, [.str a] => some (.str a, false)
  | _, _ => none
theorem ok_strT {X : Cx} : CallOk X (fun xs H Q => (∃ i, xs = [.int i] ∧ i.natAbs.log2 < 1920 ∧ Q (.str (toString i)) H) ∨ ∃ a, xs = [.str a] ∧ Q (.str a) H) gStrT := by
  intro S ι H st vs as z Q hr ha e w
  unfold gStrT at e
  split at e
  · split at e
    · cases e
      obtain ⟨v, rfl, vr⟩ := ha.one
      cases vr
      exact .inl ⟨_, rfl, by assumption, w _ (.str _)⟩
    · cases e
  · cases e
    obtain ⟨v, rfl, vr⟩ := ha.one
    cases vr
    exact .inr ⟨_, rfl, w _ (.str _)⟩
  · cases e
def gSplit : GL
  | _, [.str a, .str b] => if (b.length == 0) = false ∧ a.length + 2 ≤ sizeLine then some (.lst ((Txt.split a b).map .str), true) else none
  | _, _ => none
theorem allD_strs {mg : Wd} {S : Addr → Prop} {ι : List Addr} {H : Hp} : ∀ xs : List Str, AllD mg S ι H (xs.map V.str) (xs.map MV.str)
  | [] => AllD.nil
  | x :: xs => AllD.cons (.str x) (allD_strs xs)
theorem ok_split {X : Cx} : MethOk X (fun x xs H Q => ∃ a b, x = .str a ∧ xs = [.str b] ∧ (b.length == 0) = false ∧ a.length + 2 ≤ sizeLine ∧ rNewStrs (Txt.split a b) H Q) gSplit := by
  intro S ι H st v vs a as z Q hr ha hb e w
  unfold gSplit at e
  split at e
  · rename_i heq
    cases heq
    split at e
    · rename_i hc
      cases e
      obtain ⟨u, rfl, vb⟩ := hb.one
      cases ha
      cases vb
      exact ⟨_, _, rfl, rfl, hc.1, hc.2, fun p hp => w p _ hp ⟨_, rfl, allD_strs _⟩⟩
    · cases e
  · cases e
def gJoin : GL
  | _, [.str a, .lst xs] => (strsOf xs).bind fun ys => if (ys.map (·.length)).sum + ys.length * a.length ≤ 16777216 then some (.str (Txt.join a ys), false) else none
  | _, _ => none
theorem ok_joinT {X : Cx} : MethOk X (fun x xs H Q => ∃ a p, ∃ ys : List Str, x = .str a ∧ xs = [.ref p] ∧ (SqL X.K H p (ys.map V.str) ∨ SqT X.K H p (ys.map V.str)) ∧ (ys.map (·.length)).sum + ys.length * a.length ≤ 16777216 ∧ Q (.str (Txt.join a ys)) H) gJoin := by
  intro S ι H st v vs a as z Q hr ha hb e w
  unfold gJoin at e
  split at e
  · rename_i heq
    cases heq
    obtain ⟨ys, e1, e2⟩ := Option.bind_eq_some_iff.mp e
    split at e2
    · rename_i hc
      cases e2
      obtain ⟨u, rfl, vb⟩ := hb.one
      cases ha
      obtain ⟨p, ws, rfl, g, d⟩ := vb
      have es := strs_of d e1
      subst es
      exact ⟨_, p, ys, rfl, rfl, .inl (SqL.of g), hc, w _ (.str _)⟩
    · cases e2
  · cases e
section
variable {X : Cx} {B : Base} {W : WX} {o e : Expr} {fo : EF} {g : AF} {apos cpos : Pos} {k : Nat}
theorem se_split (ho : SE X B W o fo) (ha : SA X B W [e] g)
    (hbase : attributeBase o "split" X.env (eval o X.env) = eval o X.env := by rfl)
    (hfew : ((backTo cpos (starEach [e] X.env)).all (fun x => !x.1) && (backToKw cpos (keywordEach [] X.env)).all (fun x => x.1.isSome) && decide (([e] : List Expr).length + ([] : List Keyword).length + (if ([] : List Keyword).isEmpty then 0 else 1) < 30)) = true := by rfl)
    (hline : (apos.endLine == cpos.line) = true := by rfl) (hs : starEach [e] X.env = (false, eval e X.env) :: starEach [] X.env := by rfl) (hplain : (backTo cpos (starEach [] X.env)).any (·.1) = false := by rfl) :
    SE X B W (.Call (.Attribute o "split" apos) [e] [] cpos) (mBm "str" gSplit fo g) :=
  se_bm PySem.F.plainAttrs_str PySem.F.slot_str_split (by rfl) mt_split ok_split ho ha hbase hfew hline hs hplain
theorem se_join (ho : SE X B W o fo) (ha : SA X B W [e] g)
    (hbase : attributeBase o "join" X.env (eval o X.env) = eval o X.env := by rfl)
    (hfew : ((backTo cpos (starEach [e] X.env)).all (fun x => !x.1) && (backToKw cpos (keywordEach [] X.env)).all (fun x => x.1.isSome) && decide (([e] : List Expr).length + ([] : List Keyword).length + (if ([] : List Keyword).isEmpty then 0 else 1) < 30)) = true := by rfl)
    (hline : (apos.endLine == cpos.line) = true := by rfl) (hs : starEach [e] X.env = (false, eval e X.env) :: starEach [] X.env := by rfl) (hplain : (backTo cpos (starEach [] X.env)).any (·.1) = false := by rfl) :
    SE X B W (.Call (.Attribute o "join" apos) [e] [] cpos) (mBm "str" gJoin fo g) :=
  se_bm PySem.F.plainAttrs_str PySem.F.slot_str_join (by rfl) mt_join ok_joinT ho ha hbase hfew hline hs hplain
theorem se_strT {es : List Expr} {x : Str} {p : Pos} (hg : Gl X x) (hm : X.mg x = none) (hv : bootBuiltins x = some (.type "str")) (ha : SA X B W (e :: es) g)
    (hn : x ≠ "__name__" := by decide) (hdb : (x == ("__debug__" : Str)) = false := by decide)
    (he : starEach (e :: es) X.env = (false, eval e X.env) :: starEach es X.env := by rfl) (hpl : (backTo cpos (starEach es X.env)).any (·.1) = false := by rfl) : SE X B W (.Call (.Name x p) (e :: es) [] cpos) (mCallB gStrT g) :=
  se_callTy (call_str_int.or SkE.call_str_str) ok_strT hg hm hv ha hn hdb he hpl
end

def mStarA (f : EF) (g : AF) : AF := fun lo st => f lo st >>= fun (m, k, st1) => match vw st1 m with
  | .lst xs => (match k with
    | .fr => g lo st1 >>= fun (l, st2) => .ok (xs.map (·, false) ++ l, st2)
    | .fz => (match m with
      | .lst _ => g lo st1 >>= fun (l, st2) => .ok (xs.map (·, false) ++ l, st2)
      | _ => .bad)
    | _ => .bad)
  | _ => .bad
theorem HandAll.of_all {mg : Wd} {S : Addr → Prop} {ι : List Addr} {H : Hp} {lo : Lo} {σ : L2.St} : ∀ {vs : List V} {ms : List MV}, AllD mg S ι H vs ms → HandAll mg S ι H lo σ vs (ms.map (·, false))
  | vs, [], r => by rw [r.inv_nil]; exact .nil
  | vs, m :: ms, r => by
    obtain ⟨v, vs', rfl, d, r'⟩ := r.inv_cons
    exact .cons (z := (m, false)) d (HandAll.of_all r')
theorem HandAll.append {mg : Wd} {S : Addr → Prop} {ι : List Addr} {H : Hp} {lo : Lo} {σ : L2.St} : ∀ {vs ws : List V} {l l' : List (MV × Bool)}, HandAll mg S ι H lo σ vs l → HandAll mg S ι H lo σ ws l' → HandAll mg S ι H lo σ (vs ++ ws) (l ++ l')
  | vs, ws, [], l', r, r' => by rw [r.inv_nil]; exact r'
  | vs, ws, z :: l, l', r, r' => by
    obtain ⟨v, vs', rfl, d, r2⟩ := r.inv_cons
    exact .cons d (HandAll.append r2 r')
section
variable {X : Cx} {B : Base} {W : WX} {e : Expr} {es : List Expr} {f : EF} {g : AF} {p : Pos}
theorem sa_star (he : SE X B W e f) (hr : SA X B W es g) (hs : starEach (.Starred e p :: es) X.env = (true, eval e X.env) :: starEach es X.env := by rfl) : SA X B W (.Starred e p :: es) (mStarA f g) := by
  refine (StX.pa_star he hr hs).fw fun σ H Q ⟨S, ι, lo, st, fm, pp⟩ => ?_
  refine tE.use fm (Post.bind pp) fun m k st1 S1 ι1 H1 x f1 k1 r1 p1 => ?_
  have go : ∀ (xs : List MV) (S2 : Addr → Prop), Fm X.wd B S2 ι1 H1 lo σ st1 → Keep S1 ι1 H1 S2 ι1 H1 → (∃ a vs, x = .ref a ∧ H1 a = some (.lst vs) ∧ AllD X.wd S2 ι1 H1 vs xs) →
      Post X.wd B W S ι H (fun r => ∀ S' ι' H' vs, Fm X.wd B S' ι' H' lo σ r.2 → Keep S ι H S' ι' H' → HandAll X.wd S' ι' H' lo σ vs r.1 → Q vs H') (g lo st1 >>= fun (l, st2) => .ok (xs.map (·, false) ++ l, st2)) →
      ∃ p xs, x = V.ref p ∧ (SqT X.K H1 p xs ∨ SqL X.K H1 p xs) ∧ (tA X.wd B W g) σ H1 fun ys H2 => Q (xs ++ ys) H2 := by
    intro xs S2 f2 k2 ⟨a, vs, ex, ea, da⟩ p2
    refine ⟨a, vs, ex, .inr (SqL.of ea), ?_⟩
    refine tA.use f2 (Post.bind (p2.mono (k1.trans k2) fun _ z => z)) fun l st2 S3 ι3 H3 ws f3 k3 r3 p3 => ?_
    exact p3 S3 ι3 H3 (vs ++ ws) f3 ((k1.trans k2).trans k3) ((HandAll.of_all (da.mono k3)).append r3)
  dsimp only at p1
  split at p1
  case h_2 => exact p1.elim
  rename_i xs ev
  split at p1
  · -- a new list
    obtain ⟨S2, f2, k2, h2⟩ := r1.hand f1
    have vr := h2.vr f2
    rw [ev] at vr
    obtain ⟨a, vs, ex, ea, d⟩ := vr
    exact go xs S2 f2 k2 ⟨a, vs, ex, ea, d⟩ p1
  · split at p1
    · obtain ⟨S2, f2, k2, h2⟩ := r1.hand f1
      have vr := h2.vr f2
      rw [ev] at vr
      obtain ⟨a, vs, ex, ea, d⟩ := vr
      exact go xs S2 f2 k2 ⟨a, vs, ex, ea, d⟩ p1
    · exact p1.elim
  · exact p1.elim
end

def sThru (g : SF) : SF := fun lo st => noExc (g lo st)
theorem ss_thru {X : Cx} {B : Base} {W : WX} {body : List Stmt} {h₀ : ExceptHandler} {hs : List ExceptHandler} {pos : Pos} {g : SF} (hb : SSs X.nox B W0 body g) : SS X B W (.Try body (h₀ :: hs) [] [] pos) (sThru g) := by
  refine (ps_try_thru0 hb).fw fun D σ H ⟨S, ι, lo, st, fm, p⟩ => ⟨S, ι, lo, st, fm, ?_⟩
  exact Post.noExc p
end FW

namespace FW
open PySem L2 PySem.Spec PyProof.Rows

theorem flying_on {h h' B : Heap} {l : List Env} {a : Addr} {Z : Obj → Prop} (k : ∀ b o, h.get? b = some o → h'.get? b = some o) (x : HandSPX.FlyingZ B l a Z h) : HandSPX.FlyingZ B l a Z h' := by
  obtain ⟨x1, x2, x3, oe, vs, T, oT, ts, y1, y2, y3, y4, y5, y6, y7, y8, y9⟩ := x
  exact ⟨fun b o e => k b o (x1 b o e), x2, x3.of_keeps fun b o e _ => ⟨o, k b o e, rfl⟩, oe, vs, T, oT, ts, k _ _ y1, y2, y3, y4, y5, y6, k _ _ y7, y8, y9⟩
theorem any2 {K : PySem.W.Frag} {cls c1 c2 : Value} {b1 b2 : Bool} (h1 : PySem.W.exmOne K cls c1 = some b1) (h2 : PySem.W.exmOne K cls c2 = some b2) (h : (b1 || b2) = true) : PySem.W.exmAny K cls [c1, c2] = some true := by
  simp [PySem.W.exmAny, h1, h2, h]
/-- what the clause wishes of an error of the body: it is caught -/
def wAny (K : PySem.W.Frag) (cs : List Value) (ts : TS) (D : Ends) : WX := fun cls d σ H => ∃ C : Addr, cls = .ref C ∧ PySem.W.exmAny K cls cs = some true ∧ ts D σ H
section
variable {X : Cx} {x1 x2 : Str} {c1 c2 : Value} {body suite : List Stmt} {b₀ : Stmt} {p1 p2 tp pos pos' : Pos} {kk : Nat} {tb : WX → TS} {ts : TS}
theorem ps_tryTwo (hs : X.stack = X.env :: X.outer) (hf : X.env.frame = some X.env.locals) (hc1 : Names X x1 c1) (hc2 : Names X x2 c2)
    (hb : ∀ (W : WX) (pn : List (Addr × Obj)) (xe : Value → Shared → Prop), L2.Takes (X.tr pn xe) W → PassesOwn (model X.prog X.w) X.A X.env xe → PSs (X.tr pn xe) body (tb W))
    (hsu : ∀ (a : Addr) (pn : List (Addr × Obj)), PSs (X.suite a pn) (b₀ :: suite) ts) :
    PS X (.Try body [.ExceptHandler (some (.Tuple [.Name x1 p1, .Name x2 p2] kk tp)) none (b₀ :: suite) pos'] [] [] pos) (fun D σ H => tb (wAny X.K [c1, c2] ts D) D σ H) := by
  refine ⟨fun pins s σ H D I want => wpAny_Try_except ?_⟩
  have caught : L2.Takes (X.tr (X.pn ++ pins) (fun e s1 => wpAny (model X.prog X.w) X.A (noteFrame e X.env) (fun _ s2 => wpAny (model X.prog X.w) X.A (setFlight e none)
      (fun _ s3 => wpAny (model X.prog X.w) X.A (handleBy e X.env [.ExceptHandler (some (.Tuple [.Name x1 p1, .Name x2 p2] kk tp)) none (b₀ :: suite) pos']) (SP X pins D) X.xe s3) X.xe s2) X.xe s1)) (wAny X.K [c1, c2] ts D) := by
    intro u s1 air
    refine comes_down I.ok hs hf air fun a cls d σ1 H1 sI B h eu dn => ?_
    subst eu
    obtain ⟨C, ec, em, yes⟩ := dn.w
    subst ec
    obtain ⟨o1, v1, g1, g2, g3⟩ := dn.fly.there
    have P1 := dn.plain
    have S1 := suite0 P1 a
    refine wpAny_handleBy_cons (codeAny_handlers_test ?_) (fun z => nomatch z)
    have named : ∀ {x : Str} {c : Value} {np : Pos} {Q : Value → Shared → Prop} {E : Value → Shared → Prop}, Names X x c → Q c { s1 with heap := h } → wpAny (model X.prog X.w) (X.A.mark (some (.ref a))) (eval (.Name x np) X.env) Q E { s1 with heap := h } := by
      intro x c np Q E hc q
      rcases hc with ⟨hg, hdbg, hm | ⟨hm, hv, hnn⟩⟩
      · exact ld_glob (X := X.suite a (X.pn ++ pins)) S1 hg hm q hdbg
      · exact ld_blt (X := X.suite a (X.pn ++ pins)) S1 hg hm hv q hnn hdbg
    refine wpAny_Tuple (wpAny_items_cons (named hc1 (wpAny_items_cons (named hc2 (wpAny_items_nil ⟨by size_fits, ?_⟩)))))
    have grow : ∀ q o, h.get? q = some o → (h.push { cls := .type "tuple", data := .seq [c1, c2].toArray }).get? q = some o := fun _ _ z => Heap.get?_push_of_some _ z
    have ty : PySem.W.Looks (model X.prog X.w) (h.push { cls := .type "tuple", data := .seq [c1, c2].toArray }) (typeOf (.ref a)) (.ref C) := fun A Q E s k q => wpAny_typeOf_ref (k _ _ (grow _ _ g1)) (by rw [g2.1]; exact q)
    have dn2 := dn.on (flying_on grow dn.fly) (fun b o e _ => ⟨o.slots, grow b o e⟩)
    have yields := PySem.W.exm_tup2 (M := model X.prog X.w) dn2.plain.kIn ty (Heap.get?_push_size h rfl) em
    refine yields.here ?_
    refine codeAny_handlers_suite (HandSPX.lands_againZ dn2.fly fun h2 fl2 u2 => ?_)
    have S2 := suite0 (dn2.on fl2 u2).plain a
    refine wpAny_mono ((hsu a (X.pn ++ pins)).run [] _ _ _ _ S2 yes) (fun f s6 z => ?_) (fun _ _ z => z.elim)
    rcases f with _ | _ | _ | v
    · obtain ⟨_, _, J, w⟩ := z; exact ⟨_, _, unsuite0 J I.ok, w⟩
    · obtain ⟨_, _, J, w⟩ := z; exact ⟨_, _, unsuite0 J I.ok, w⟩
    · obtain ⟨_, _, J, w⟩ := z; exact ⟨_, _, unsuite0 J I.ok, w⟩
    · obtain ⟨_, _, _, J, r, w⟩ := z; exact ⟨_, _, _, unsuite0 J I.ok, r, w⟩
  refine wpAny_mono ((hb _ _ _ caught PassesOwn.looking).run [] s σ H D (I.toTry _) want) (fun f s1 z => ?_) fun _ _ z => z
  rcases f with _ | _ | _ | v
  · obtain ⟨_, _, J, w⟩ := z; exact wpAny_execs_nil ⟨_, _, J.ofTry I.ok, w⟩
  · obtain ⟨_, _, J, w⟩ := z; exact ⟨_, _, J.ofTry I.ok, w⟩
  · obtain ⟨_, _, J, w⟩ := z; exact ⟨_, _, J.ofTry I.ok, w⟩
  · obtain ⟨_, _, _, J, r, w⟩ := z; exact ⟨_, _, _, J.ofTry I.ok, r, w⟩
end
def sTry2 (p : Str → Bool) (g gs : SF) : SF := fun lo st => match g lo st with
  | .ok r => .ok r
  | .bad => .bad
  | .exc c fs lo1 st1 => if p c = true then noExc (gs lo1 st1) else .bad
section
variable {X : Cx} {B : Base} {W : WX} {x1 x2 : Str} {c1 c2 : Value} {body suite : List Stmt} {b₀ : Stmt} {p1 p2 tp pos pos' : Pos} {kk : Nat} {g gs : SF} {p : Str → Bool}
theorem ss_try2 (hs : X.stack = X.env :: X.outer) (hf : X.env.frame = some X.env.locals) (hc1 : Names X x1 c1) (hc2 : Names X x2 c2) (hp : ∀ e C, p e = true → X.mg e = some (.ref C) → PySem.W.exmAny X.K (.ref C) [c1, c2] = some true)
    (hb : ∀ (W : WX) (pn : List (Addr × Obj)) (xe : Value → Shared → Prop), Takes (X.tr pn xe) W → PassesOwn (model X.prog X.w) X.A X.env xe → SSs (X.tr pn xe) B W body g)
    (hsu : ∀ (a : Addr) (pn : List (Addr × Obj)), SSs (X.suite a pn) B W0 (b₀ :: suite) gs) :
    SS X B W (.Try body [.ExceptHandler (some (.Tuple [.Name x1 p1, .Name x2 p2] kk tp)) none (b₀ :: suite) pos'] [] [] pos) (sTry2 p g gs) := by
  refine (ps_tryTwo (tb := fun W => tS X.wd B W g) (ts := tS X.wd B W0 gs) hs hf hc1 hc2 hb hsu).fw fun D σ H ⟨S, ι, lo, st, fm, pp⟩ => ?_
  refine ⟨S, ι, lo, st, fm, ?_⟩
  unfold sTry2 at pp
  cases e : g lo st with
  | bad => rw [e] at pp; exact pp.elim
  | ok r => rw [e] at pp; exact pp
  | exc cl fs lo1 st1 =>
    rw [e] at pp
    dsimp only at pp
    split at pp
    case isFalse => exact pp.elim
    rename_i hpc
    intro S1 ι1 σ1 H1 cls d f1 k1 xr
    obtain ⟨C, rfl, hm, hd⟩ := xr
    exact ⟨C, rfl, hp cl C hpc hm, S1, ι1, lo1, st1, f1, (Post.noExc pp).imp fun r hr => hr.mono k1⟩
theorem try2_ok {lo : Lo} {st : Sto} {r} (h : g lo st = .ok r) : sTry2 p g gs lo st = .ok r := by unfold sTry2; rw [h]
theorem try2_exc {lo lo1 : Lo} {st st1 : Sto} {c : Str} {fs} {r} (h : g lo st = .exc c fs lo1 st1) (hp : p c = true) (h2 : gs lo1 st1 = .ok r) : sTry2 p g gs lo st = .ok r := by
  unfold sTry2; rw [h]; simp only; rw [if_pos hp, h2]; rfl
end
end FW

namespace FW
open PySem L2 PySem.Spec PyProof.Rows

def repS (a : Str) (n : Nat) : Str := ⟨(List.replicate n a.cps).foldl (· ++ ·) #[]⟩
theorem foldl_tl : ∀ (xs : List (Array Nat)) (acc : Array Nat), (xs.foldl (· ++ ·) acc).toList = acc.toList ++ (xs.map (·.toList)).flatten
  | [], acc => by simp
  | x :: xs, acc => by
    rw [List.foldl_cons, foldl_tl xs, List.map_cons, List.flatten_cons, Array.toList_append, List.append_assoc]
theorem repS_tl (a : Str) (n : Nat) : TL.tl (repS a n) = (List.replicate n (TL.tl a)).flatten := by
  show ((List.replicate n a.cps).foldl (· ++ ·) #[]).toList = _
  rw [foldl_tl, List.map_replicate]
  rfl
theorem repS_len (a : Str) (n : Nat) : (repS a n).length = a.length * n := by
  rw [TL.len_tl, repS_tl]
  induction n with
  | zero => rfl
  | succ n ih => rw [List.replicate_succ, List.flatten_cons, List.length_append, ih, ← TL.len_tl, Nat.mul_succ, Nat.add_comm]
def RepOk (a : Str) (k : Int) : Prop := 2 ≤ k ∧ k ≤ 10000 ∧ 1 ≤ a.length ∧ a.length ≤ 100
instance : ∀ a k, Decidable (RepOk a k) := fun a k => by unfold RepOk; infer_instance
theorem op_mulS {X : Cx} : OpR X (binaryOp .Mult) (fun x y H Q => ∃ a k, x = .str a ∧ y = .int k ∧ RepOk a k ∧ Q (.str (repS a k.toNat)) H) := by
  intro pins s σ H x y v u Q I rx ry h
  obtain ⟨a, k, rfl, rfl, ⟨k2, k4, l1, l2⟩, q⟩ := h
  obtain ⟨t, rfl⟩ := rx
  obtain ⟨t', rfl⟩ := ry
  have hm : a.length * k.toNat ≤ 100 * 10000 := Nat.mul_le_mul l2 (by omega)
  have n1 : (k == 1 || a.length == 0) = false := by
    have h1 : (k == 1) = false := beq_eq_false_iff_ne.mpr (by omega)
    have h2 : (a.length == 0) = false := beq_eq_false_iff_ne.mpr (by omega)
    rw [h1, h2]; rfl
  have n0 : ¬ k < 1 := by omega
  obtain ⟨B, hB⟩ : ∃ B : Int, B = 2 ^ 63 := ⟨_, rfl⟩
  have hB1 : (10 ^ 18 : Int) ≤ B := by rw [hB]; decide
  refine P.mul_str ?_ (fun _ _ => ?_) (fun _ _ => ?_) ?_
  · rw [← hB]
    rw [decide_eq_false (by omega), decide_eq_false (by omega)]; rfl
  · rw [← hB]
    have : (100 : Int) ≤ (B - 1) / k := by
      rw [Int.le_ediv_iff_mul_le (by omega)]
      have : 100 * k ≤ 100 * 10000 := by omega
      omega
    omega
  · unfold Builtin.Str.tooLong
    exact decide_eq_false (by have : (100 * 10000 : Nat) ≤ sizeLine := by decide +kernel
                              omega)
  · rw [if_neg n0, if_neg (by rw [n1]; exact Bool.false_ne_true)]
    exact ⟨by
      have : (100 * 10000 : Nat) ≤ sizeLine := by decide +kernel
      show (repS a k.toNat).length ≤ sizeLine
      rw [repS_len]; omega, .str _, H, I.tok _, ⟨_, rfl⟩, q⟩
abbrev rMulA : R2 := fun x y H Q => ((rI CMulW fun i j => .int (i * j)) x y H Q ∨ rRep x y H Q) ∨ ∃ a k, x = .str a ∧ y = .int k ∧ RepOk a k ∧ Q (.str (repS a k.toNat)) H
def gRepS : G2
  | _, .str a, .int k => if RepOk a k then some (.str (repS a k.toNat), false) else none
  | _, _, _ => none
theorem ok_repS {X : Cx} : Op2 X (fun x y H Q => ∃ a k, x = .str a ∧ y = .int k ∧ RepOk a k ∧ Q (.str (repS a k.toNat)) H) gRepS := by
  intro S ι H st x y a b z Q hr ha hb e w
  unfold gRepS at e
  split at e
  · split at e
    · cases e
      cases ha; cases hb
      exact ⟨_, _, rfl, rfl, by assumption, w _ (.str _)⟩
    · cases e
  · cases e
theorem se_mulS {X : Cx} {B : Base} {W : WX} {a b : Expr} {pos : Pos} {fa fb : EF} (ha : SE X B W a fa) (hb : SE X B W b fb) : SE X B W (.BinOp a .Mult b pos) (mOp gRepS fa fb) := se_op op_mulS ok_repS ha hb
end FW

namespace FW
open PySem L2 PySem.Spec PyProof.Rows

section
variable {M : Model} {A : Around} {E : Value → Shared → Prop} {hp : Heap} {gs : Array GenState} {dw : Drawn} {tk : Nat} {ox : OsState}
variable {nm q : Str} {C N : Addr} {bs bm bx : List Value} {hd : Bool} {sn : List Str} {sub : List Value} {ab : Bool} {col : Option Bool} {dd : Option Addr} {k0 k1 k2 k3 k5 : Option Value} {B nw ini : String}
abbrev ErrCls (nm q : Str) (C N : Addr) (bs bm : List Value) (hd : Bool) (sn : List Str) (sub : List Value) (ab : Bool) (col : Option Bool) (dd : Option Addr) (k0 k1 k2 k3 k5 : Option Value) (nw : String) (hp : Heap) : Prop :=
  hp.get? C = some (excClassObj nm q C N bs bm hd sn sub ab col dd k0 k1 k2 k3 k5 nw)
theorem newKw_check (F : ExcBaseFacts B nw ini bx) (hT : ∀ X : String, bm.contains (.type X) = bx.contains (.type X)) {us : List Value} {kw : List (Str × Value)} {Q : Unit → Shared → Prop}
    (hC : ErrCls nm q C N bs bm hd sn sub ab col dd k0 k1 k2 k3 k5 nw hp) (want : Q () ⟨hp, gs, dw, tk, ox⟩) : wpAny M A (checkBuiltinCall nw ⟨.ref C :: us, kw⟩) Q E ⟨hp, gs, dw, tk, ox⟩ := by
  have star := F.noStar
  have isB : (Value.ref C :: bm).contains (.type B) = true := by rw [List.contains_cons, hT, F.hasB, Bool.or_true]
  simp only [checkBuiltinCall, F.newKind, F.newSplit, F.newRow]
  repeat (first
    | refine wpAny_loadPart_at hC ?_
    | (refine wpAny_isSubtype_exc hC ?_; rw [isB])
    | refine wpAny_staticBase_exc hC ?_
    | refine wpAny_madeBy_exc hC ?_
    | simp only [bne_self_eq_false, Bool.false_eq_true, if_false]
    | wp_step)
  exact want
end
section
variable {prog : Program} {w : World} {A : Around} {E : Value → Shared → Prop} {R : Result → Shared → Prop} {hp : Heap} {gs : Array GenState} {dw : Drawn} {tk : Nat} {ox : OsState}
variable {nm q : Str} {C N : Addr} {bs bm bx : List Value} {hd : Bool} {sn : List Str} {sub : List Value} {ab : Bool} {col : Option Bool} {dd : Option Addr} {k0 k1 k2 k3 k5 : Option Value} {B nw ini : String}
theorem newKw_run (F : ExcBaseFacts B nw ini bx) (hT : ∀ X : String, bm.contains (.type X) = bx.contains (.type X)) {us : List Value} {kw : List (Str × Value)}
    (hC : ErrCls nm q C N bs bm hd sn sub ab col dd k0 k1 k2 k3 k5 nw hp) (few : us.length ≤ sizeLine)
    (want : R (.ok (.ret (.ref (hp.objs.size + 1)))) ⟨made2 hp us C, gs, dw, tk, ox⟩) : codeAny (model prog w) A (.builtin nw ⟨.ref C :: us, kw⟩) R ⟨hp, gs, dw, tk, ox⟩ := by
  have en := F.ends
  have has : ∀ X : String, (Value.ref C :: bm).contains (.type X) = bx.contains (.type X) := fun X => by rw [List.contains_cons, hT]; rfl
  have isB := (has B).trans F.hasB
  have noA := (has "AttributeError").trans F.noAttr
  have noN := (has "NameError").trans F.noName
  refine codeAny_builtinAt F.entry ?_
  unfold Builtin.«BaseException.__new__»
  refine PySem.wpAt_bind ?_
  show PySem.wpAt _ _ _ (stack >>= _) _ _ _
  refine PySem.wpAt_bind (PySem.wpAt_stack fun _ _ => wpAt_of_wpAny ?_)
  wp_walk
  refine wpAt_of_wpAny ?_
  rw [F.owner]
  repeat (first
    | with_reducible refine wpAny_madeHere_exc F.canon hC ?_
    | with_reducible refine wpAny_loadPart_at hC ?_
    | (with_reducible refine wpAny_isSubtype_exc hC ?_; first | rw [isB] | rw [noA] | rw [noN])
    | wp_step)
  show R _ _
  rw [Heap.size_push]
  exact want
theorem typeKw (F : ExcBaseFacts B nw ini bx) (hT : ∀ X : String, bm.contains (.type X) = bx.contains (.type X)) {us : List Value} {kw : List (Str × Value)} {f : Addr} {Q : Fin → Shared → Prop}
    (hC : ErrCls nm q C N bs bm hd sn sub ab col dd k0 k1 k2 k3 k5 nw hp) (few : us.length ≤ sizeLine)
    (hi : PySem.W.Looks (model prog w) hp (typeLookup (.ref C) "__init__") (some (.ref f))) (hb : ∀ me, PySem.W.Looks (model prog w) hp (bindSpecial (.ref f) me) (.ref f, [me]))
    (want : codeAny (model prog w) A (.call (.ref f) ⟨.ref (spot hp) :: us, kw⟩)
      (fun r s' => match r with | .ok (.ret v) => v = .none ∧ Q (.done (.ret (.ref (spot hp)))) s' | .ok _ => False | .error e => E e s') ⟨made2 hp us C, gs, dw, tk, ox⟩) :
    wpAny (model prog w) A (Builtin.«type.__call__» ⟨.ref C :: us, kw⟩) Q E ⟨hp, gs, dw, tk, ox⟩ := by
  repeat (first
    | with_reducible refine wpAny_loadPart_at hC ?_
    | with_reducible refine wpAny_madeBy_exc hC ?_
    | wp_step)
  refine codeAny_call_builtin_code (Code.quiet_builtin _ F.quiet) (newKw_check F hT hC ?_)
  refine newKw_run F hT hC few ?_
  show wpAny _ _ _ _ _ _
  have kp : ∀ b o, hp.get? b = some o → (made2 hp us C).get? b = some o := fun _ _ z => made2_old z
  have atC := kp _ _ hC
  have atE := made2_new hp us C
  have self1 : (Value.ref C :: bm).contains (.ref C) = true := by simp
  have i1 := hi.keeps kp
  have b1 := (hb (.ref (spot hp))).keeps kp
  unfold isInstance
  repeat (first
    | with_reducible refine wpAny_loadPart_at atE ?_
    | (with_reducible refine wpAny_isSubtype_exc atC ?_; rw [self1])
    | wp_step)
  show wpAny _ _ (typeLookup (.ref C) _) _ _ _
  refine i1.at ?_
  refine wpAny_holding (wpAny_bind (b1.at ?_))
  refine wpAny_bind (wpAny_call (codeAny_mono want fun r s' z => ?_))
  rcases r with e | (v | _ | _ | _) <;> first | exact z | exact z.elim | skip
  obtain ⟨rfl, z⟩ := z
  first
    | exact wpAny_pure (wpAny_pure z)
    | (wp_walk; exact z)
theorem errKw_call (F : ExcBaseFacts B nw ini bx) (hT : ∀ X : String, bm.contains (.type X) = bx.contains (.type X)) {us : List Value} {kw : List (Str × Value)} {f : Addr}
    (hC : ErrCls nm q C N bs bm hd sn sub ab col dd k0 k1 k2 k3 k5 nw hp) (few : us.length ≤ sizeLine)
    (hi : PySem.W.Looks (model prog w) hp (typeLookup (.ref C) "__init__") (some (.ref f))) (hb : ∀ me, PySem.W.Looks (model prog w) hp (bindSpecial (.ref f) me) (.ref f, [me]))
    (want : codeAny (model prog w) (A.under (.builtin "type.__call__" ⟨.ref C :: us, kw⟩)) (.call (.ref f) ⟨.ref (spot hp) :: us, kw⟩) (PySem.W.InitBack (spot hp) R) ⟨made2 hp us C, gs, dw, tk, ox⟩) :
    codeAny (model prog w) A (.call (.ref C) ⟨us, kw⟩) R ⟨hp, gs, dw, tk, ox⟩ := by
  have g1 := PySem.tc_lookup
  have g2 := PySem.tc_bind (.ref C)
  have ty : (⟨hp, gs, dw, tk, ox⟩ : Shared).TypeIs (.ref C) "type" := ⟨_, hC, rfl⟩
  refine codeAny_of_tree ?_
  show wpAny _ _ (callAny (.ref C) _) _ _ _
  repeat (any_goals (first | assumption | with_reducible refine wpAny_loadPart_at hC ?_ | wp_step))
  refine ⟨rfl, ?_⟩
  refine codeAny_call_builtin_at (Code.quiet_builtin _ (by decide +kernel)) entry_typeCall (wpAny_check_type_call_sub hC (typeKw F hT hC few hi hb ?_))
  refine codeAny_mono want fun r s' z => ?_
  rcases r with e | (v | _ | _ | _) <;> exact z
end

theorem Exo.ok {P : Program} {w : World} {H : Hp} {h : Heap} {a C : Addr} {d : Option Addr} {o : Obj} {vs : Array Value} (e : h.get? a = some o) (h1 : o.cls = .ref C) (h2 : o.dict = d) (h3 : o.data = .fields vs) : ObjOk P w H h a (exO C d a) :=
  ⟨⟨o, e, h1, h2, vs, h3⟩, ⟨o, e⟩, fun _ _ ⟨u, z, r⟩ k => ⟨u, k u z, r⟩⟩
section
variable {X : Cx} {pins : List (Addr × Obj)} {σ : L2.St} {H : Hp} {s : Shared} {Q : VK}
theorem run_err {k : Nat} {C fI : Addr} {fd : FuncData} {fv : Str} {us : List Value} {kw : List (Str × Value)} {u : Value} {v : V} (F : Ini X.prog X.K X.mg fv C fI fd) (hr : Room (k + 1) X.A) (I1 : Inv X pins σ H s) (few : us.length ≤ sizeLine)
    (bound : ∀ s2 : Shared, X.K.In s2.heap → ∀ me, BindsTo s2 fd ⟨me :: us, kw⟩ [(("self" : Str), me), (fv, u)]) (ru : RelV v u)
    (want : ∀ a d, d ≠ a → H d = none → H a = none → Q (.ref a) (upd (upd H d (.xd [(fv, v)])) a (exO C (some d) a))) :
    wpAny (model X.prog X.w) X.A (call (.ref C) us kw) (EP X pins σ Q) X.xe s := by
  have kn := F.T
  obtain ⟨cn, cq, cN, cb, cm, _, _, _, _, _, _, _, _, _, _, atC, tail⟩ := kn.cls
  obtain ⟨h, gn, dw, tk, oo⟩ := s
  refine wpAny_call ?_
  have small : X.base.objs.size ≤ h.objs.size := Nat.le_trans I1.ok.bsz I1.sz
  have noBase : X.base.get? (spot h) = none := by
    rcases z : X.base.get? (spot h) with _ | o
    · rfl
    · exact absurd (Nat.lt_of_lt_of_le (Heap.lt_size z) small) (Nat.not_lt.mpr (Nat.le_succ _))
  have bd := bound ⟨made2 h us C, gn, dw, tk, oo⟩ (I1.kIn.keeps fun _ _ q => made2_old q) (.ref (spot h))
  have unseen : H (spot h) = none := I1.hok.fresh (Nat.le_succ _)
  refine errKw_call PySem.F.excBase_ValueError (fun Y => PySem.HandSPX.refsVE_contains Y cm tail) (I1.kIn _ _ atC) few (PySem.W.looks_findIn I1.kIn F.iC) (fun me => PySem.W.bind_fn I1.kIn me F.tI) ?_
  refine ini_run F I1.ok.mod (fun b o z => made2_old (I1.bk b o z)) noBase (hr.make C us kw).depth (made2_new h us C) bd fun h3 tk3 t3 dx keep later atE atD => ⟨rfl, ?_⟩
  obtain ⟨G, in1, out1⟩ := restrict h3 fun b => decide (b ≠ spot h)
  have same : ∀ b, b ≠ spot h → G.get? b = h3.get? b := fun b z => in1 b (decide_eq_true z)
  have gone : G.get? (spot h) = none := out1 _ (decide_eq_false (fun z => z rfl))
  have apart : dx ≠ spot h := by
    rintro rfl
    obtain ⟨_, _, _, q1, q2, _⟩ := atD
    rw [atE] at q1; cases q1; cases q2
  have late : h.objs.size ≤ dx := Nat.le_trans (made2_size h us C) later
  have J : Inv X pins σ (upd H dx (.xd [(fv, v)])) ⟨G, gn, dw, tk3, oo⟩ := by
    refine I1.laid (t' := tk3) (a := dx) (o := .xd [(fv, v)]) (h' := G) (fun b o z => ?_) late ⟨_, atD.at fun o y => (same dx apart).trans y, relO_put (fs := []) (mA := fun _ => none) ru fun _ => True.intro⟩
    rw [same b (spot_ne z)]
    exact keep b o (spot_ne z) (made2_old z)
  have hn : upd H dx (.xd [(fv, v)]) (spot h) = none := (upd_ne (Ne.symm apart)).trans unseen
  have J2 : Inv X pins σ (upd (upd H dx (.xd [(fv, v)])) (spot h) (exO C (some dx) (spot h))) ⟨h3, gn, dw, tk3, oo⟩ := by
    refine J.laidN (h' := h3) (t' := tk3) (fun b o z => ?_) gone hn (Exo.ok atE rfl rfl rfl)
    rw [← same b (fun y => by rw [y, gone] at z; cases z)]
    exact z
  exact ⟨.ref (spot h), _, J2, rfl, want _ _ apart (I1.hok.fresh late) unseen⟩
end
/-- C(..) of an error of the program: its field's value -/
def mMkE (c fv : Str) (dms : List MV) (g : AF) : EF := fun lo st => g lo st >>= fun (l, st1) => match allFz l with
  | some ms => (match ms ++ dms with
    | [m] => .ok (.exc c [(fv, m)], .fz, st1)
    | _ => .bad)
  | none => .bad
section
variable {X : Cx} {B : Base} {W : WX} {lo : Lo} {σ : L2.St} {st : Sto} {S : Addr → Prop} {ι : List Addr} {H : Hp}
theorem lay_err {c fv : Str} {C : Addr} {v : V} {m : MV} (hm : X.mg c = some (.ref C)) (f1 : Fm X.wd B S ι H lo σ st) (dv : Dt X.wd S ι H v m) {a d : Addr} (hne : d ≠ a) (hd : H d = none) (ha : H a = none) :
    ∃ S', Fm X.wd B S' ι (upd (upd H d (.xd [(fv, v)])) a (exO C (some d) a)) lo σ st ∧ Keep S ι H S' ι (upd (upd H d (.xd [(fv, v)])) a (exO C (some d) a)) ∧
      Dt X.wd S' ι (upd (upd H d (.xd [(fv, v)])) a (exO C (some d) a)) (.ref a) (.exc c [(fv, m)]) := by
  obtain ⟨h1, h2, h3, h4⟩ := f1.free hd
  have fn := f1.new (o := .xd [(fv, v)]) hd
  have k1 : Keep S ι H S ι (upd H d (.xd [(fv, v)])) := (Ext.new hd).keep f1.rep
  have f2 := fn.freeze upd_same h2 h3 h4
  have ha' : upd H d (.xd [(fv, v)]) a = none := (upd_ne (Ne.symm hne)).trans ha
  obtain ⟨_, q2, q3, q4⟩ := f2.free ha'
  have fn2 := f2.new (o := exO C (some d) a) ha'
  have k2 : Keep (fz1 S d) ι (upd H d (.xd [(fv, v)])) (fz1 S d) ι (upd (upd H d (.xd [(fv, v)])) a (exO C (some d) a)) := (Ext.new ha').keep f2.rep
  have f3 := fn2.freeze upd_same q2 q3 q4
  have kk := k1.trans ((Keep.fz1 (S := S) (a := d)).trans (k2.trans (Keep.fz1 (a := a))))
  refine ⟨_, f3, kk, .exc (.inr rfl) upd_same (.inl (.inr rfl)) ((upd_ne hne).trans upd_same) hm rfl fun i f m' z1 z2 => ?_⟩
  cases i with
  | zero => cases z1; cases z2; exact dv.mono kk
  | succ i => cases z1
end
section
variable {X : Cx} {B : Base} {W : WX} {e : Expr} {es : List Expr} {p pos kp : Pos} {g : AF} {f : EF} {k : Nat} {x fv : Str} {C fI : Addr} {fd : FuncData}
/-- C(e, ..) -/
theorem se_mkE {ds : List Value} {dvs : List V} {dms : List MV} (F : Ini X.prog X.K X.mg fv C fI fd) (hr : RoomG (k + 1) X.A) (hb : Binds X.K fd ["self", fv] ds) (hd : Vals dvs ds)
    (dd : ∀ S ι H, AllD X.wd S ι H dvs dms) (hg : Gl X x) (hm : X.mg x = some (.ref C)) (ha : SA X B W (e :: es) g)
    (hdb : (x == ("__debug__" : Str)) = false := by decide) (he : starEach (e :: es) X.env = (false, eval e X.env) :: starEach es X.env := by rfl)
    (hpl : (backTo pos (starEach es X.env)).any (·.1) = false := by rfl) : SE X B W (.Call (.Name x p) (e :: es) [] pos) (mMkE x fv dms g) := by
  refine ⟨fun pins s σ H Q I ⟨S, ι, lo, st, fm, pp⟩ => ?_⟩
  refine wpAny_Call_Name_kw (ld_glob I hg hm ?_ hdb)
  have run := ha.run pos pins s σ H (fun vs H1 => ∃ v, vs ++ dvs = [v] ∧ ∀ a d, d ≠ a → H1 d = none → H1 a = none → Q (.ref a) (upd (upd H1 d (.xd [(fv, v)])) a (exO C (some d) a))) I ?_
  · refine PySem.W.callWith_K (h₀ := X.base) I.ok.mod.kin F.T.kC (thn run fun us s1 ⟨vs, H1, I1, r, q⟩ => ⟨I1.kIn, ?_⟩) he hpl
    obtain ⟨v, ev, want⟩ := q
    obtain ⟨u, eu, ru⟩ : ∃ u, us ++ ds = [u] ∧ RelV v u := vals_one (ev ▸ r.append hd)
    have few : us.length ≤ sizeLine := by
      have l1 := congrArg List.length eu
      rw [List.length_append, List.length_singleton] at l1
      rw [sizeLine_eq]; omega
    refine run_err F hr.r I1 few (fun s2 kin me => ?_) ru want
    have z := hb s2 (me :: us) kin (by show (us ++ ds).length + 1 = 2; rw [eu]; rfl)
    rw [List.cons_append, eu] at z
    exact z
  · refine tA.use fm (Post.bind pp) fun l st1 S1 ι1 H1 vs f1 k1 r1 p1 => ?_
    dsimp only at p1
    split at p1
    · rename_i ms hz
      split at p1
      · rename_i m em
        have d1 := (r1.data hz).append (dd S1 ι1 H1)
        rw [em] at d1
        obtain ⟨v, vs', ev, dv, dn⟩ := d1.inv_cons
        have en := dn.inv_nil
        subst en
        refine ⟨v, ev, fun a d hne hd' ha' => ?_⟩
        obtain ⟨S2, f2, k2, dt⟩ := lay_err hm f1 dv hne hd' ha'
        exact p1 S2 ι1 _ _ f2 (k1.trans k2) dt
      · exact p1.elim
    · exact p1.elim
/-- C() -/
theorem se_mkE0 {d : Value} {dv : V} {dm : MV} (F : Ini X.prog X.K X.mg fv C fI fd) (hr : RoomG (k + 1) X.A) (hb : Binds X.K fd ["self", fv] [d]) (hd : RelV dv d)
    (dd : ∀ S ι H, Dt X.wd S ι H dv dm) (hg : Gl X x) (hm : X.mg x = some (.ref C)) (hdb : (x == ("__debug__" : Str)) = false := by decide) : SE X B W (.Call (.Name x p) [] [] pos) (mMkE x fv [dm] mNil) := by
  refine ⟨fun pins s σ H Q I ⟨S, ι, lo, st, fm, pp⟩ => ?_⟩
  refine wpAny_Call_Name_kw (ld_glob I hg hm ?_ hdb)
  refine PySem.W.callWith_K0 I.kIn F.T.kC (run_err (us := []) (kw := []) (v := dv) (u := d) F hr.r I (Nat.zero_le _) (fun s2 kin me => hb s2 [me] kin rfl) hd fun a dx hne hdx ha => ?_)
  obtain ⟨S2, f2, k2, dt⟩ := lay_err (c := x) (fv := fv) hm fm (dd S ι H) hne hdx ha
  exact pp S2 ι _ _ f2 k2 dt
/-- C(fv = e) -/
theorem se_mkEk (F : Ini X.prog X.K X.mg fv C fI fd) (hr : RoomG (k + 1) X.A) (hb : ∀ (s2 : Shared), X.K.In s2.heap → ∀ me u, BindsTo s2 fd ⟨[me], [(fv, u)]⟩ [(("self" : Str), me), (fv, u)])
    (hg : Gl X x) (hm : X.mg x = some (.ref C)) (he : SE X B W e f)
    (hall : (backToKw pos (keywordEach [⟨some fv, e, kp⟩] X.env)).all (·.1.isSome) = true := by rfl) (hks : (backToKw pos (keywordEach [⟨some fv, e, kp⟩] X.env)).filterMap (·.1) = [fv] := by rfl)
    (hdb : (x == ("__debug__" : Str)) = false := by decide)
    (hpl : ((backTo pos (starEach [] X.env)).any (·.1) || (backToKw pos (keywordEach [⟨some fv, e, kp⟩] X.env)).any (·.1.isNone)) = false := by rfl) :
    SE X B W (.Call (.Name x p) [] [⟨some fv, e, kp⟩] pos) (mMkE x fv [] (mCons f mNil)) := by
  refine ⟨fun pins s σ H Q I ⟨S, ι, lo, st, fm, pp⟩ => ?_⟩
  refine wpAny_Call_Name_kw (ld_glob I hg hm ?_ hdb)
  refine PySem.W.callWith_KW0 (h₀ := X.base) I.ok.mod.kin F.T.kC hall ?_ hpl
  have run := (pk_cons (nm := some fv) (kpos := kp) he pk_nil).run pos pins s σ H (fun vs H1 => ∃ v, vs = [v] ∧ ∀ a d, d ≠ a → H1 d = none → H1 a = none → Q (.ref a) (upd (upd H1 d (.xd [(fv, v)])) a (exO C (some d) a))) I ?_
  · refine thn run fun ws s1 ⟨vs, H1, I1, r, q⟩ => ⟨I1.kIn, ?_⟩
    obtain ⟨v, rfl, want⟩ := q
    obtain ⟨u, rfl, ru⟩ := vals_one r
    rw [hks]
    exact run_err (us := []) (kw := [(fv, u)]) F hr.r I1 (Nat.zero_le _) (fun s2 kin me => hb s2 kin me u) ru want
  · show tE X.wd B W f σ H _
    refine tE.use fm (Post.bind (Post.bind pp)) fun m ka st1 S1 ι1 H1 v f1 k1 r1 p1 => ?_
    obtain ⟨S1', f1', k1', h1⟩ := r1.hand f1
    have hh : HandAll X.wd S1' ι1 H1 lo σ [v] [(m, isPk ka)] := .cons h1 .nil
    have p2 : Post X.wd B W S ι H (fun r => ∀ S' ι' H' v, Fm X.wd B S' ι' H' lo σ r.2.2 → Keep S ι H S' ι' H' → RV X.wd B S' ι' H' lo σ v r.1 r.2.1 → Q v H') (match allFz [(m, isPk ka)] with
      | some ms => (match ms ++ [] with
        | [m] => .ok (.exc x [(fv, m)], .fz, st1)
        | _ => .bad)
      | none => .bad) := p1
    split at p2
    · rename_i ms hz
      split at p2
      · rename_i m' em
        have d1 := hh.data hz
        rw [List.append_nil] at em
        rw [em] at d1
        obtain ⟨v', vs', ev, dv, dn⟩ := d1.inv_cons
        cases ev
        refine ⟨v, rfl, fun a d hne hd' ha' => ?_⟩
        obtain ⟨S2, f2, k2, dt⟩ := lay_err hm f1' dv hne hd' ha'
        exact p2 S2 ι1 _ _ f2 (k1.trans (k1'.trans k2)) dt
      · exact p2.elim
    · exact p2.elim
end
end FW

namespace FW
open PySem L2 PySem.Spec PyProof.Rows

section
variable {X : Cx} {pins : List (Addr × Obj)} {σ : L2.St} {H : Hp} {s : Shared} {a : Addr}
theorem relabel (I : Inv X pins σ H s) (e : H a = some (.dT [])) : Inv X pins σ (upd H a (.dK [])) s := by
  obtain ⟨z, hd, xs, rel, o, es, ep, ho, h1, h2, h3, h4⟩ := dt_of I.hok e
  cases rel
  have e0 : es = #[] := by
    rw [List.map_nil] at h3
    exact Array.toList_eq_nil_iff.mp h3
  subst e0
  have new : ObjOk X.prog X.w (upd H a (.dK [])) s.heap a (.dK []) := dk_new (Nat.zero_le _) hd .nil ⟨o, #[], ep, ho, h1, h2, fun q hq => by simp at hq, .nil, List.nodup_nil⟩
  exact I.write (x := a) (e := a) (h' := s.heap) (t' := s.toks) (by rw [e]; exact True.intro) (.inl rfl) (fun b u _ z => z) ⟨o, ho⟩ new
def rSetE : TSet := fun o i v H Q => ∃ a k, o = .ref a ∧ i = kV k ∧ ((∃ kvs, H a = some (.dK kvs) ∧ kvs.length < sizeLine ∧ Q (upd H a (.dK (putK kvs k v)))) ∨ (H a = some (.dT []) ∧ Q (upd H a (.dK (putK [] k v)))))
theorem set_dictE (hu : X.A.units + 1 < cLine) : PSet X rSetE := by
  intro pins s σ H o i v ov iv u Q I ro ri rv ⟨a, k, eo, ei, h⟩
  subst eo ei
  cases (show ov = Value.ref a from ro)
  rcases h with ⟨kvs, e, l, q⟩ | ⟨e, q⟩
  · exact d_setItem hu I (DPut.k e l) ri rv fun s' I' => ⟨_, I', q⟩
  · have pl : (0 : Nat) < sizeLine := by rw [sizeLine_eq]; omega
    refine d_setItem hu (relabel I e) (DPut.k upd_same pl) ri rv fun s' I' => ⟨_, I', ?_⟩
    rw [upd_upd]; exact q
end

noncomputable def sPutD (fe fo fi : EF) : SF := fun lo st => fe lo st >>= fun r => frzd r >>= fun (m, st1) => fo lo st1 >>= fun (t, k, st2) => fi lo st2 >>= fun (j, _, st3) =>
  match targetOf t k lo st3, kyI j with
  | some (.dct ps), some key => if ps.length < sizeLine ∧ ps.all (fun p => (kyI p.1).isSome) = true then .ok (.nx, (putBack t k (.dct (putD ps key m)) lo st3).1, (putBack t k (.dct (putD ps key m)) lo st3).2) else .bad
  | _, _ => .bad
theorem kyI_tup (ks : List Key) : kyI (.tup (ks.map kM)) = none := rfl
theorem ob_dct {mg : Wd} {S : Addr → Prop} {ι : List Addr} {H : Hp} {o : HO} {ps : List (MV × MV)} (h : Ob mg S ι H o (.dct ps)) (hs : ps.all (fun p => (kyI p.1).isSome) = true) : (∃ kvs, o = .dK kvs ∧ KD mg S ι H kvs ps) ∨ (o = .dT [] ∧ ps = []) := by
  rcases h with ⟨kvs, e, l, f⟩ | ⟨kvs, e, l, f⟩
  · exact .inl ⟨kvs, e, l, f⟩
  · cases ps with
    | nil => exact .inr ⟨by rw [e, List.length_eq_zero_iff.mp l], rfl⟩
    | cons p ps =>
      cases kvs with
      | nil => cases l
      | cons kv kvs =>
        have h0 := (f 0 kv p rfl rfl).1
        have h1 := List.all_eq_true.mp hs p (List.mem_cons_self ..)
        rw [h0, kyI_tup] at h1
        cases h1
section
variable {X : Cx} {B : Base} {W : WX} {e o i : Expr} {fe fo fi : EF} {pos : Pos}
theorem ss_putD {p' : Pos} (hu : X.A.units + 1 < cLine) (he : SE X B W e fe) (ho : SE X B W o fo) (hi : SE X B W i fi)
    (ha : ∀ v, assign (.Subscript o i p') X.env v = (do
      let ov ← holding [v] (eval o X.env)
      let iv ← holding [v, ov] (eval i X.env)
      standAt p'
      holding [v, ov, iv] (setItem ov iv v)
      release [v, ov, iv] []) := by intro _; rfl)
    (hs : swapsWithSole [.Subscript o i p'] e pos.line X.env = pure false := by rfl) (hw : swappedStores [.Subscript o i p'] e X.env = pure none := by rfl)
    (h1 : (assignEach [.Subscript o i p'] X.env).map (·.2) = [assign (.Subscript o i p') X.env] := by rfl) : SS X B W (.Assign [.Subscript o i p'] e pos) (sPutD fe fo fi) := by
  refine (ps_asg he (pg_sub ho hi (set_dictE hu) ha) hs hw h1).fw fun D σ H ⟨S, ι, lo, st, fm, p⟩ => ?_
  refine tE.use fm (Post.bind p) fun m k st1 S1 ι1 H1 v f1 k1 r1 p1 => ?_
  obtain ⟨⟨S2, f2, k2, d⟩, p2⟩ := frzd_ok f1 r1 p1
  have k02 := k1.trans k2
  refine tE.use f2 (Post.bind (p2.mono k02 fun _ z => z)) fun t kt st3 S3 ι3 H3 ov f3 k3 r3 p3 => ?_
  obtain ⟨S3', f3', k3', h3⟩ := r3.hand f3
  refine tE.use f3' (Post.bind (p3.mono (k3.trans k3') fun _ z => z)) fun j kj st4 S4 ι4 H4 iv f4 k4 r4 p4 => ?_
  dsimp only at p4
  split at p4
  · rename_i ps key et hk
    split at p4
    · rename_i hp
      have T0 : Tgt S3 ι3 lo σ ov t kt := tgt_of r3 et
      have T4 := (T0.mono k3').mono (H := H3) k4
      obtain ⟨a, rfl, oo, e1, ob⟩ := T4.sh f4 et
      have d4 := ((d.mono k3).mono k3').mono k4
      have fin : ∀ kvs, KD X.wd S4 ι4 H4 kvs ps → D.nx σ (upd H4 a (.dK (putK kvs key v))) := fun kvs dv => by
        have dp := dv.put key d4
        obtain ⟨f5, k5⟩ := Tgt.put (c' := .dct (putD ps key m)) f4 T4 (.inl ⟨putK kvs key v, rfl, dp.1, dp.2⟩) (fun _ _ z => by cases z)
        exact p4 S4 ι4 σ _ f5 (k02.trans (k3.trans (k3'.trans (k4.trans k5))))
      refine ⟨a, key, rfl, rv_key f4 r4 hk, ?_⟩
      rcases ob_dct ob hp.2 with ⟨kvs, rfl, dv⟩ | ⟨rfl, rfl⟩
      · exact .inl ⟨kvs, e1, by rw [dv.1]; exact hp.1, fin kvs dv⟩
      · exact .inr ⟨e1, fin [] KD.nil⟩
    · exact p4.elim
  · exact p4.elim
def mDp1 (k : Key) (fe : EF) : EF := fun lo st => noExc (fe lo st) >>= fun r => frzd r >>= fun (m, st1) => .ok (.dct [(kM k, m)], .fr, st1)
theorem se_dp1 {ke : Expr} {k : Key} (hk : PE X ke (tC (kV k))) (hv : ∀ B, SE X B W0 e fe) : SE X B W (.Dict [some ke] [e] pos) (mDp1 k fe) := by
  refine (pe_disp (pps_cons hk (PE.ex (t := fun B' => tE X.wd B' W0 fe) fun B' => hv B') pps_nil) rfl rfl (by simp) (by simp)).fw fun σ H Q ⟨S, ι, lo, st, fm, p⟩ => ?_
  intro D hD
  obtain ⟨d1, d2, d3, d4⟩ := fm.free hD
  have f1 := fm.new (o := .dK []) hD
  have k1 : Keep S ι H S ι (upd H D (.dK [])) := (Ext.new hD).keep fm.rep
  refine ⟨B.put D (.dK []), S, ι, lo, st, f1.guard upd_same d1 d2 d3 d4, (Post.noExc (Post.bind p)).imp fun ⟨m, kd, s5⟩ p5 S5 ι5 H5 v f5 k5 r5 => ?_⟩
  obtain ⟨⟨S6, f6, k6, d6⟩, p6⟩ := frzd_ok f5 r5 p5
  obtain ⟨f7, e7, n7, i7, own7⟩ := f6.unguard d3
  refine ⟨e7, [(k, v)], rfl, by simp, ?_⟩
  have k7 := Keep.upd (ι := ι5) (o := .dK (putK [] k v)) n7 (H := H5)
  have kd := (KD.nil (mg := X.wd) (S := S6) (ι := ι5) (H := H5)).put k d6
  have kd' : KD X.wd S6 ι5 (upd H5 D (.dK (putK [] k v))) (putK [] k v) [(kM k, m)] := (kd.mono k7)
  exact p6 S6 ι5 (upd H5 D (.dK (putK [] k v))) (.ref D) (f7.updFree n7 i7 d3 own7) (k1.trans (k5.trans (k6.trans k7))) ⟨D, rfl, n7, i7, d3, ⟨_, upd_same, .inl ⟨putK [] k v, rfl, kd'.1, kd'.2⟩⟩, own7⟩
end
def mMkN (c : Str) : EF := fun _ st => .ok (.exc c [], .fz, st)
section
variable {X : Cx} {B : Base} {W : WX} {p pos : Pos} {x : Str} {C : Addr}
theorem se_mkN {bx : List Value} {Bn nw ini : String} (F : ExcBaseFacts Bn nw ini bx) (q : PySem.W.excIn X.K C bx nw = true) (kC : PySem.W.keepIn X.K (.ref C) = true) (hg : Gl X x) (hm : X.mg x = some (.ref C)) (hdb : (x == ("__debug__" : Str)) = false := by decide) :
    SE X B W (.Call (.Name x p) [] [] pos) (mMkN x) := by
  refine ⟨fun pins s σ H Q I ⟨S, ι, lo, st, fm, pp⟩ => ?_⟩
  refine wpAny_Call_Name_kw (ld_glob I hg hm ?_ hdb)
  refine PySem.W.callWith_K0 I.kIn kC ?_
  obtain ⟨bm, N, nm, qn, bs, hdct, sn, sub, ab, col, dd, k0, k1, k2, k3, k5, mN, hC, hN, hni, T⟩ := exc_obj I.kIn q
  refine wpAny_call_exc_subT F T hC hN hni (fun h' a md => ?_) (by show 0 ≤ sizeLine; omega)
  have ha : H a = none := I.hok.gone md.new
  obtain ⟨t, ht, _, _⟩ := md.there
  obtain ⟨_, q2, q3, q4⟩ := fm.free ha
  have fn := fm.new (o := exO C none a) ha
  have k1 : Keep S ι H S ι (upd H a (exO C none a)) := (Ext.new ha).keep fm.rep
  have f2 := fn.freeze upd_same q2 q3 q4
  refine ⟨.ref a, upd H a (exO C none a), I.laidN md.keeps md.new ha (Exo.ok ht rfl rfl rfl), rfl, ?_⟩
  exact pp (fz1 S a) ι _ (.ref a) f2 (k1.trans .fz1) (.exc0 (.inr rfl) upd_same hm)
end
def noTy : String → Option Bool := fun _ => none
def alc (l : List Str) : Str → Option Bool := fun c => if c ∈ l then some true else none
theorem alc_use {l : List Str} {mg : Str → Option Value} {R : Addr → Bool → Prop} (h : ∀ c, c ∈ l → ∀ C, mg c = some (.ref C) → R C true) : ∀ n C b, alc l n = some b → mg n = some (.ref C) → R C b := by
  intro n C b e hm
  unfold alc at e
  split at e
  · cases e; exact h n ‹_› C hm
  · cases e
theorem noTy_A {R : String → Bool → Prop} : ∀ t b, noTy t = some b → R t b := fun t b h => by cases h
section
variable {X : Cx} {B : Base} {W : WX} {a : Expr} {fa : EF} {p p2 pos : Pos} {oe : Str → Option Bool} {x : Str}
theorem se_isUp {D : Addr} (hg : Gl X "isinstance") (hm : X.mg "isinstance" = none) (hg2 : Gl X x) (hm2 : X.mg x = some (.ref D)) (ha : SE X B W a fa)
    (hE : ∀ n C b, oe n = some b → X.mg n = some (.ref C) → ExcC X.K C ∧ PySem.W.kitOne X.K (.ref C) (.ref D) = some b) (hd : (x == ("__debug__" : Str)) = false := by decide)
    (he : starEach [a, .Name x p2] X.env = (false, eval a X.env) :: starEach [.Name x p2] X.env := by rfl) (he2 : starEach [.Name x p2] X.env = (false, eval (.Name x p2) X.env) :: starEach [] X.env := by rfl) (hpl : (backTo pos (starEach [.Name x p2] X.env)).any (·.1) = false := by rfl) :
    SE X B W (.Call (.Name "isinstance" p) [a, .Name x p2] [] pos) (mIsi noTy noC oe fa) :=
  se_isi hg hm ha (pe_glob hg2 hm2 (v := .ref D) rfl hd) (.own D) noTy_A noC_I hE he he2 hpl
theorem se_isUpT (T : String) (hg : Gl X "isinstance") (hm : X.mg "isinstance" = none) (hg2 : Gl X x) (hm2 : X.mg x = none) (hv : bootBuiltins x = some (.type T)) (ha : SE X B W a fa)
    (hE : ∀ n C b, oe n = some b → X.mg n = some (.ref C) → ExcC X.K C ∧ PySem.W.kitOne X.K (.ref C) (.type T) = some b) (hn : x ≠ "__name__" := by decide) (hd : (x == ("__debug__" : Str)) = false := by decide)
    (he : starEach [a, .Name x p2] X.env = (false, eval a X.env) :: starEach [.Name x p2] X.env := by rfl) (he2 : starEach [.Name x p2] X.env = (false, eval (.Name x p2) X.env) :: starEach [] X.env := by rfl) (hpl : (backTo pos (starEach [.Name x p2] X.env)).any (·.1) = false := by rfl) :
    SE X B W (.Call (.Name "isinstance" p) [a, .Name x p2] [] pos) (mIsi noTy noC oe fa) :=
  se_isi hg hm ha (pe_bltn hg2 hm2 hv (v := .ty T) rfl hn hd) (.ty T) noTy_A noC_I hE he he2 hpl
end
abbrev ES10 : List Str := ["InvalidNumber", "InvalidList", "InvalidItem", "InvalidProgram", "InvalidRow", "InvalidText", "InvalidName", "TakenName", "UnknownName", "NothingToUndo"]
end FW

namespace FL
open PySem L2 PySem.Spec PyProof.Rows FW
noncomputable def g_law_cell : SF := (sSeq (sIf (mTv (mOp gLt (mVar 1) (mCallB gLen (mCons (mVar 0) mNil)))) (sRet (mOp gIx (mVar 0) (mVar 1))) sNil)
  (sRet (mC (.int 0))))
noncomputable def M_law_cell : FF := runF 2 g_law_cell
noncomputable def g_law_generator : SF := (sSeq (sSet 2 (mCall 2 M_law_cell [] (mCons (mVar 0) (mCons (mVar 1) mNil))))
  (sRet (mLst (mCons (mOp gMod (mCallB gInt1 (mCons (mCallB gMax2 (mCons (mOp gSub (mVar 2) (mOp gPow (mC (.int 10)) (mC (.int 18)))) (mCons (mC (.int 0)) mNil))) mNil)) (mOp gPow (mOp gPow (mC (.int 10)) (mC (.int 60))) (mC (.int 10)))) (mCons (mOp gMod (mCallB gInt1 (mCons (mVar 2) mNil)) (mC (.int 2147483647))) (mCons (mOp gMul (mC (.int 1000)) (mVar 1)) mNil))))))
noncomputable def M_law_generator : FF := runF 3 g_law_generator
noncomputable def g_law_hash : SF := (sSeq (sSet 2 (mOp gMod (mCallB gInt1 (mCons (mOp gAdd (mOp gAdd (mOp gAdd (mOp gMul (mVar 0) (mC (.int 1103515245))) (mOp gMul (mOp gMul (mC (.int 7919)) (mVar 1)) (mVar 1))) (mVar 1)) (mC (.int 1))) mNil)) (mC (.int 2147483647))))
  (sSeq (sSet 2 (mOp gMod (mCallB gInt1 (mCons (mOp gAdd (mOp gMul (mVar 2) (mVar 2)) (mC (.int 69621))) mNil)) (mC (.int 2147483629))))
  (sRet (mOp gMod (mCallB gInt1 (mCons (mOp gMul (mVar 2) (mC (.int 48271))) mNil)) (mC (.int 2147483587))))))
noncomputable def M_law_hash : FF := runF 3 g_law_hash
noncomputable abbrev b1_law_random : SF := (sSeq (sPutIx (mOp gAdd (mOp gIx (mVar 0) (mC (.int 2))) (mC (.int 1))) (mVar 0) (mC (.int 2)))
  (sSet 2 (mOp gAdd (mOp gMul (mVar 2) (mC (.int 2147483587))) (mCall 2 M_law_hash [] (mCons (mOp gIx (mVar 0) (mC (.int 1))) (mCons (mOp gIx (mVar 0) (mC (.int 2))) mNil))))))
noncomputable def g_law_random : SF := (sSeq (sIf (mTv (mOp gGt (mOp gIx (mVar 0) (mC (.int 0))) (mC (.int 0)))) (sSeq (sSet 2 (mOp gMod (mCallB gInt1 (mCons (mOp gIx (mVar 0) (mC (.int 0))) mNil)) (mVar 1)))
  (sSeq (sPutIx (mOp gDiv (mOp gIx (mVar 0) (mC (.int 0))) (mVar 1)) (mVar 0) (mC (.int 0)))
  (sRet (mVar 2)))) sNil)
  (sSeq (sSet 2 (mC (.int 0)))
  (sSeq (sFor (iRg1 (mOp gAdd (mC (.int 1)) (mOp gDiv (mBits (mVar 1)) (mC (.int 30))))) (gN 3) b1_law_random)
  (sRet (mOp gMod (mCallB gInt1 (mCons (mVar 2) mNil)) (mVar 1))))))
noncomputable def M_law_random : FF := runF 4 g_law_random
noncomputable def g_law_move : SF := (sSeq (sSet 3 (mOp gSub (mCall 2 M_law_random [] (mCons (mVar 0) (mCons (mOp gAdd (mOp gMul (mC (.int 2)) (mVar 2)) (mC (.int 1))) mNil))) (mVar 2)))
  (sSeq (sSet 4 (mCallB gMax2 (mCons (mC (.int 0)) (mCons (mOp gSub (mC (.int 0)) (mVar 3)) mNil))))
  (sSeq (sSet 5 (mOp gAdd (mVar 4) (mOp gIx (mLst (mCons (mC (.int 0)) (mCons (mC (.int 0)) (mCons (mC (.int 0)) (mCons (mC (.int 1)) (mCons (mC (.int 2)) (mCons (mC (.int 4)) mNil))))))) (mCall 2 M_law_random [] (mCons (mVar 0) (mCons (mC (.int 6)) mNil))))))
  (sSeq (sIf (mOr (mTv (mOp gGt (mOp gAdd (mVar 5) (mVar 3)) (mC (.int 8)))) (mTv (mOp gGt (mVar 5) (mC (.int 8))))) (sSet 5 (mVar 4)) sNil)
  (sSeq (sPar 6 7 false false (mOp gIx (mVar 1) (mCall 2 M_law_random [] (mCons (mVar 0) (mCons (mCallB gLen (mCons (mVar 1) mNil)) mNil)))) (mOp gIx (mVar 1) (mCall 2 M_law_random [] (mCons (mVar 0) (mCons (mCallB gLen (mCons (mVar 1) mNil)) mNil)))))
  (sRet (mTup (mCons (mVar 6) (mCons (mVar 5) (mCons (mVar 3) (mCons (mVar 7) mNil)))))))))))
noncomputable def M_law_move : FF := runF 8 g_law_move
noncomputable abbrev b1_law_parts : SF := (sApp (mVar 5) (mCall 3 M_law_move [] (mCons (mVar 0) (mCons (mVar 4) (mCons (mVar 3) mNil)))))
noncomputable def g_law_parts : SF := (sSeq (sSet 4 (mSl (mLst (mCons (mC (.str "up")) (mCons (mC (.str "down")) (mCons (mC (.str "mid")) (mCons (mC (.str "low")) mNil))))) oNone (oSome (mOp gAdd (mC (.int 1)) (mCall 2 M_law_random [] (mCons (mVar 0) (mCons (mVar 1) mNil)))))))
  (sSeq (sOwn 5 (mLst mNil))
  (sSeq (sFor (iRg1 (mCall 2 M_law_random [] (mCons (mVar 0) (mCons (mOp gAdd (mVar 2) (mC (.int 1))) mNil)))) (gN 6) b1_law_parts)
  (sFz 5 (sRet (mLst (mCons (mVar 4) (mCons (mVar 5) mNil))))))))
noncomputable def M_law_parts : FF := runF 7 g_law_parts
noncomputable def g_is_whole : SF := (sRet (mAndV (mIsi (isT "int") noC noC (mVar 0)) (mUn gNot (mIsi (isT "bool") noC noC (mVar 0)))))
noncomputable def M_is_whole : FF := runF 1 g_is_whole
noncomputable def g_is_within : SF := (sRet (mAndV (mCall 1 M_is_whole [] (mCons (mVar 0) mNil)) (mChain gLe gLe (mVar 1) (mVar 0) (mVar 2))))
noncomputable def M_is_within : FF := runF 3 g_is_within
noncomputable def g_is_move : SF := (sSeq (sIf (mOr (mNotT (mTv (mIsi (isT "tuple") noC noC (mVar 0)))) (mOr (mTv (mOp (gEqB true) (mCallB gLen (mCons (mVar 0) mNil)) (mC (.int 4)))) (mOr (mTv (mOp (gInA true) (mOp gIx (mVar 0) (mC (.int 0))) (mVar 1))) (mTv (mOp (gInA true) (mOp gIx (mVar 0) (mC (.int 3))) (mVar 1)))))) (sRet (mC (.bl false))) sNil)
  (sSeq (sIf (mOr (mNotT (mTv (mCall 3 M_is_within [] (mCons (mOp gIx (mVar 0) (mC (.int 1))) (mCons (mC (.int 0)) (mCons (mC (.int 8)) mNil)))))) (mNotT (mTv (mCall 3 M_is_within [] (mCons (mOp gIx (mVar 0) (mC (.int 2))) (mCons (mUn gNeg (mC (.int 4))) (mCons (mC (.int 4)) mNil))))))) (sRet (mC (.bl false))) sNil)
  (sRet (mChain gLe gLe (mC (.int 0)) (mOp gAdd (mOp gIx (mVar 0) (mC (.int 1))) (mOp gIx (mVar 0) (mC (.int 2)))) (mC (.int 8))))))
noncomputable def M_is_move : FF := runF 2 g_is_move
noncomputable def g_is_name : SF := (sSeq (sIf (mOr (mNotT (mTv (mIsi (isT "str") noC noC (mVar 0)))) (mNotT (mTv (mChain gLe gLe (mC (.int 1)) (mCallB gLen (mCons (mVar 0) mNil)) (mC (.int 8)))))) (sRet (mC (.bl false))) sNil)
  (sRet (mOp (gEqB false) (mLc [1] (iStrM (mVar 0)) (gN 1) (mTv (mOp (gInA true) (mVar 1) (mC (.str "abcdefghijklmnopqrstuvwxyz")))) (mVar 1)) (mLst mNil))))
noncomputable def M_is_name : FF := runF 2 g_is_name
noncomputable abbrev b2_Program_init : SF := (sIf (mNotT (mTv (mCall 2 M_is_move [] (mCons (mVar 5) (mCons (mVar 1) mNil))))) (sRaise "InvalidItem" "value" [] (mCons (mVar 5) mNil)) sNil)
noncomputable abbrev b1_Program_init : SF := (sIf (mOr (mNotT (mTv (mCall 1 M_is_name [] (mCons (mVar 4) mNil)))) (mTv (mOp (gInA false) (mVar 4) (mSl (mVar 1) oNone (oSome (mVar 3)))))) (sRaise "InvalidItem" "value" [] (mCons (mVar 4) mNil)) sNil)
noncomputable def g_Program_init : SF := (sSeq (sIf (mOr (mNotT (mTv (mIsi (isT "list") noC noC (mVar 1)))) (mNotT (mTv (mChain gLe gLe (mC (.int 1)) (mCallB gLen (mCons (mVar 1) mNil)) (mC (.int 4)))))) (sRaise "InvalidList" "value" [] (mCons (mVar 1) mNil)) sNil)
  (sSeq (sFor (iEn (mVar 1)) (gT 2 (gsCons (gN 3) (gsCons (gN 4) gsNil))) b1_Program_init)
  (sSeq (sIf (mOr (mNotT (mTv (mIsi (isT "list") noC noC (mVar 2)))) (mTv (mOp gGt (mCallB gLen (mCons (mVar 2) mNil)) (mC (.int 10))))) (sRaise "InvalidList" "value" [] (mCons (mVar 2) mNil)) sNil)
  (sSeq (sFor (iSeq (mVar 2)) (gN 5) b2_Program_init)
  (sSeq (sPutF "stands" (inB ["Program"]) (mCallB gTupOf (mCons (mVar 1) mNil)) (mVar 0))
  (sSeq (sPutF "steps" (inB ["Program"]) (mCallB gTupOf (mCons (mVar 2) mNil)) (mVar 0))
  (sPutF "folio" (inB ["Program"]) (mLst mNil) (mVar 0))))))))
noncomputable def M_Program_init : FF := runI "Program" 6 g_Program_init
noncomputable def g_law_program : SF := (sRet (mCall 2 M_Program_init [] (mCons (mCallB gListOf (mCons (mOp gIx (mVar 0) (mC (.int 0))) mNil)) (mCons (mCallB gListOf (mCons (mOp gIx (mVar 0) (mC (.int 1))) mNil)) mNil))))
noncomputable def M_law_program : FF := runF 1 g_law_program
noncomputable def g_check_program : SF := (sIf (mNotT (mTv (mIsi noT (eqc CS "Program") noC (mVar 0)))) (sRaise "InvalidProgram" "value" [] (mCons (mVar 0) mNil)) sNil)
noncomputable def M_check_program : FF := runF 1 g_check_program
noncomputable abbrev b1_is_part : SF := (sSeq (sIf (mOr (mNotT (mTv (mCall 1 M_is_whole [] (mCons (mVar 3) mNil)))) (mNotT (mTv (mChain gLe gLt (mC (.int 0)) (mVar 3) (mCallB gLen (mCons (mFld "steps" (inB ["Program"]) noB (mVar 0)) mNil)))))) (sRet (mC (.bl false))) sNil)
  (sSeq (sIf (mAnd (mTv (mOp (gIsN true) (mVar 2) (mC .non))) (mTv (mOp (gEqB true) (mOp gIx (mOp gIx (mFld "steps" (inB ["Program"]) noB (mVar 0)) (mVar 3)) (mC (.int 0))) (mVar 2)))) (sRet (mC (.bl false))) sNil)
  (sSet 2 (mOp gIx (mOp gIx (mFld "steps" (inB ["Program"]) noB (mVar 0)) (mVar 3)) (mC (.int 3))))))
noncomputable def g_is_part : SF := (sSeq (sIf (mOr (mNotT (mTv (mIsi (isT "tuple") noC noC (mVar 1)))) (mOr (mTv (mOp (gEqB true) (mCallB gLen (mCons (mVar 1) mNil)) (mC (.int 2)))) (mOr (mNotT (mTv (mCall 1 M_is_whole [] (mCons (mOp gIx (mVar 1) (mC (.int 0))) mNil)))) (mTv (mOp gLt (mOp gIx (mVar 1) (mC (.int 0))) (mC (.int 1))))))) (sRet (mC (.bl false))) sNil)
  (sSeq (sIf (mOr (mNotT (mTv (mIsi (isT "list") noC noC (mOp gIx (mVar 1) (mC (.int 1)))))) (mTv (mOp (gEqB false) (mOp gIx (mVar 1) (mC (.int 1))) (mLst mNil)))) (sRet (mC (.bl false))) sNil)
  (sSeq (sSet 2 (mC .non))
  (sSeq (sFor (iSeq (mOp gIx (mVar 1) (mC (.int 1)))) (gN 3) b1_is_part)
  (sRet (mOrV (mOp (gEqB false) (mOp gIx (mVar 1) (mC (.int 0))) (mC (.int 1))) (mOp (gEqB false) (mOp gIx (mOp gIx (mFld "steps" (inB ["Program"]) noB (mVar 0)) (mOp gIx (mOp gIx (mVar 1) (mC (.int 1))) (mC (.int 0)))) (mC (.int 0))) (mVar 2))))))))
noncomputable def M_is_part : FF := runF 4 g_is_part
noncomputable abbrev b1_end_of : SF := (sSeq (sIf (mOr (mNotT (mTv (mCall 2 M_is_part [] (mCons (mVar 0) (mCons (mVar 4) mNil))))) (mTv (mOp (gEqB true) (mOp gIx (mOp gIx (mFld "steps" (inB ["Program"]) noB (mVar 0)) (mOp gIx (mOp gIx (mVar 4) (mC (.int 1))) (mC (.int 0)))) (mC (.int 0))) (mVar 3)))) (sRet (mC .non)) sNil)
  (sSet 3 (mOp gIx (mOp gIx (mFld "steps" (inB ["Program"]) noB (mVar 0)) (mOp gIx (mOp gIx (mVar 4) (mC (.int 1))) (mUn gNeg (mC (.int 1))))) (mC (.int 3)))))
noncomputable def g_end_of : SF := (sSeq (sIf (mNotT (mTv (mIsi (isT "list") noC noC (mVar 2)))) (sRet (mC .non)) sNil)
  (sSeq (sSet 3 (mVar 1))
  (sSeq (sFor (iSeq (mVar 2)) (gN 4) b1_end_of)
  (sRet (mVar 3)))))
noncomputable def M_end_of : FF := runF 5 g_end_of
noncomputable def g_begin_of : SF := (sSeq (sIf (mNotT (mTv (mIsi (isT "list") noC noC (mVar 1)))) (sRet (mC .non)) sNil)
  (sSeq (sIf (mTv (mOp (gEqB false) (mVar 1) (mLst mNil))) (sRet (mOp gIx (mFld "stands" (inB ["Program"]) noB (mVar 0)) (mC (.int 0)))) sNil)
  (sSeq (sIf (mNotT (mTv (mCall 2 M_is_part [] (mCons (mVar 0) (mCons (mOp gIx (mVar 1) (mC (.int 0))) mNil))))) (sRet (mC .non)) sNil)
  (sSeq (sSet 2 (mOp gIx (mOp gIx (mFld "steps" (inB ["Program"]) noB (mVar 0)) (mOp gIx (mOp gIx (mOp gIx (mVar 1) (mC (.int 0))) (mC (.int 1))) (mC (.int 0)))) (mC (.int 0))))
  (sRet (mIfE (mTv (mOp (gIsN false) (mCall 3 M_end_of [] (mCons (mVar 0) (mCons (mVar 2) (mCons (mVar 1) mNil)))) (mC .non))) (mC .non) (mVar 2)))))))
noncomputable def M_begin_of : FF := runF 3 g_begin_of
noncomputable def g_check_row : SF := (sIf (mTv (mOp (gIsN false) (mCall 2 M_begin_of [] (mCons (mVar 0) (mCons (mVar 1) mNil))) (mC .non))) (sRaise "InvalidRow" "value" [] (mCons (mVar 1) mNil)) sNil)
noncomputable def M_check_row : FF := runF 2 g_check_row
noncomputable def g_joined : SF := (sRet (mTup (mCons (mCallB gMax2 (mCons (mOp gIx (mVar 0) (mC (.int 0))) (mCons (mOp gSub (mOp gIx (mVar 1) (mC (.int 0))) (mOp gIx (mVar 0) (mC (.int 1)))) mNil))) (mCons (mOp gAdd (mOp gIx (mVar 0) (mC (.int 1))) (mOp gIx (mVar 1) (mC (.int 1)))) mNil))))
noncomputable def M_joined : FF := runF 2 g_joined
noncomputable def g_rounded : SF := (sSeq (sAsg (mVar 0) (gT 2 (gsCons (gN 2) (gsCons (gN 3) gsNil))))
  (sRet (mTup (mCons (mIfE (mTv (mOp gGe (mVar 3) (mC (.int 0)))) (mVar 2) (mOp gSub (mVar 2) (mOp gMul (mOp gSub (mVar 1) (mC (.int 1))) (mVar 3)))) (mCons (mOp gMul (mVar 1) (mVar 3)) mNil)))))
noncomputable def M_rounded : FF := runF 4 g_rounded
noncomputable abbrev b2_measured : SF := (sSeq (sAsg (mOp gIx (mFld "steps" (inB ["Program"]) noB (mVar 0)) (mVar 6)) (gT 4 (gsCons (gN 7) (gsCons (gN 8) (gsCons (gN 9) (gsCons (gN 10) gsNil))))))
  (sSet 5 (mCall 2 M_joined [] (mCons (mVar 5) (mCons (mTup (mCons (mVar 8) (mCons (mVar 9) mNil))) mNil)))))
noncomputable abbrev b1_measured : SF := (sSeq (sSet 5 (mTup (mCons (mC (.int 0)) (mCons (mC (.int 0)) mNil))))
  (sSeq (sFor (iSeq (mVar 4)) (gN 6) b2_measured)
  (sSet 2 (mCall 2 M_joined [] (mCons (mVar 2) (mCons (mCall 2 M_rounded [] (mCons (mVar 5) (mCons (mVar 3) mNil))) mNil))))))
noncomputable def g_measured : SF := (sSeq (sSet 2 (mTup (mCons (mC (.int 0)) (mCons (mC (.int 0)) mNil))))
  (sSeq (sFor (iSeq (mVar 1)) (gT 2 (gsCons (gN 3) (gsCons (gN 4) gsNil))) b1_measured)
  (sRet (mVar 2))))
noncomputable def M_measured : FF := runF 11 g_measured
noncomputable def g_change_of : SF := (sSeq (sExpr (mCall 1 M_check_program [] (mCons (mVar 0) mNil)))
  (sSeq (sExpr (mCall 2 M_check_row [] (mCons (mVar 0) (mCons (mVar 1) mNil))))
  (sRet (mOp gIx (mCall 2 M_measured [] (mCons (mVar 0) (mCons (mVar 1) mNil))) (mC (.int 1))))))
noncomputable def M_change_of : FF := runF 2 g_change_of
noncomputable def g_check_counter : SF := (sIf (mOr (mNotT (mTv (mCall 1 M_is_whole [] (mCons (mVar 0) mNil)))) (mTv (mOp gLt (mVar 0) (mC (.int 0))))) (sRaise "InvalidNumber" "value" [] (mCons (mVar 0) mNil)) sNil)
noncomputable def M_check_counter : FF := runF 1 g_check_counter
noncomputable def g_check_place : SF := (sIf (mOr (mNotT (mTv (mIsi (isT "str") noC noC (mVar 1)))) (mTv (mOp (gInA true) (mVar 1) (mFld "stands" (inB ["Program"]) noB (mVar 0))))) (sRaise "UnknownName" "name" [] (mCons (mVar 1) mNil)) sNil)
noncomputable def M_check_place : FF := runF 2 g_check_place
noncomputable def g_led : SF := (sSeq (sExpr (mCall 1 M_check_program [] (mCons (mVar 0) mNil)))
  (sSeq (sExpr (mCall 2 M_check_place [] (mCons (mVar 0) (mCons (mVar 1) mNil))))
  (sSeq (sExpr (mCall 1 M_check_counter [] (mCons (mVar 2) mNil)))
  (sSeq (sSet 4 (mCall 3 M_end_of [] (mCons (mVar 0) (mCons (mVar 1) (mCons (mVar 3) mNil)))))
  (sSeq (sIf (mTv (mOp (gIsN false) (mVar 4) (mC .non))) (sRaise "InvalidRow" "value" [] (mCons (mVar 3) mNil)) sNil)
  (sSeq (sAsg (mCall 2 M_measured [] (mCons (mVar 0) (mCons (mVar 3) mNil))) (gT 2 (gsCons (gN 5) (gsCons (gN 6) gsNil))))
  (sRet (mIfE (mTv (mOp gLt (mVar 2) (mVar 5))) (mC .non) (mTup (mCons (mVar 4) (mCons (mOp gAdd (mVar 2) (mVar 6)) mNil)))))))))))
noncomputable def M_led : FF := runF 7 g_led
noncomputable def g_need_of : SF := (sSeq (sExpr (mCall 1 M_check_program [] (mCons (mVar 0) mNil)))
  (sSeq (sExpr (mCall 2 M_check_row [] (mCons (mVar 0) (mCons (mVar 1) mNil))))
  (sRet (mOp gIx (mCall 2 M_measured [] (mCons (mVar 0) (mCons (mVar 1) mNil))) (mC (.int 0))))))
noncomputable def M_need_of : FF := runF 2 g_need_of
noncomputable def g_law_is_whole : SF := (sRet (mAndV (mIsi (isT "int") noC noC (mVar 0)) (mUn gNot (mIsi (isT "bool") noC noC (mVar 0)))))
noncomputable def M_law_is_whole : FF := runF 1 g_law_is_whole
noncomputable abbrev b2_law_last : SF := (sSeq (sIf (mOr (mNotT (mTv (mCall 1 M_law_is_whole [] (mCons (mVar 6) mNil)))) (mOr (mNotT (mTv (mChain gLe gLt (mC (.int 0)) (mVar 6) (mCallB gLen (mCons (mOp gIx (mVar 0) (mC (.int 1))) mNil))))) (mTv (mOp (gEqB true) (mOp gIx (mOp gIx (mOp gIx (mVar 0) (mC (.int 1))) (mVar 6)) (mC (.int 0))) (mVar 3))))) (sRet (mC .non)) sNil)
  (sSet 3 (mOp gIx (mOp gIx (mOp gIx (mVar 0) (mC (.int 1))) (mVar 6)) (mC (.int 3)))))
noncomputable abbrev b1_law_last : SF := (sSeq (sIf (mOr (mNotT (mTv (mIsi (isT "tuple") noC noC (mVar 4)))) (mOr (mTv (mOp (gEqB true) (mCallB gLen (mCons (mVar 4) mNil)) (mC (.int 2)))) (mOr (mNotT (mTv (mCall 1 M_law_is_whole [] (mCons (mOp gIx (mVar 4) (mC (.int 0))) mNil)))) (mTv (mOp gLt (mOp gIx (mVar 4) (mC (.int 0))) (mC (.int 1))))))) (sRet (mC .non)) sNil)
  (sSeq (sIf (mOr (mNotT (mTv (mIsi (isT "list") noC noC (mOp gIx (mVar 4) (mC (.int 1)))))) (mTv (mOp (gEqB false) (mOp gIx (mVar 4) (mC (.int 1))) (mLst mNil)))) (sRet (mC .non)) sNil)
  (sSeq (sSet 5 (mVar 3))
  (sSeq (sFor (iSeq (mOp gIx (mVar 4) (mC (.int 1)))) (gN 6) b2_law_last)
  (sIf (mAnd (mTv (mOp gGt (mOp gIx (mVar 4) (mC (.int 0))) (mC (.int 1)))) (mTv (mOp (gEqB true) (mVar 3) (mVar 5)))) (sRet (mC .non)) sNil)))))
noncomputable def g_law_last : SF := (sSeq (sSet 3 (mVar 1))
  (sSeq (sIf (mNotT (mTv (mIsi (isT "list") noC noC (mVar 2)))) (sRet (mC .non)) sNil)
  (sSeq (sFor (iSeq (mVar 2)) (gN 4) b1_law_last)
  (sRet (mVar 3)))))
noncomputable def M_law_last : FF := runF 7 g_law_last
noncomputable abbrev b2_law_row_drawn : SF := (sSeq (sSet 10 (mLc [12] (iRg1 (mCallB gLen (mCons (mOp gIx (mVar 1) (mC (.int 1))) mNil))) (gN 12) (mTv (mOp (gEqB false) (mOp gIx (mOp gIx (mOp gIx (mVar 1) (mC (.int 1))) (mVar 12)) (mC (.int 0))) (mVar 8))) (mVar 12)))
  (sIf (mTv (mOp (gEqB true) (mVar 10) (mLst mNil))) (sSeq (sApp (mVar 7) (mOp gIx (mVar 10) (mCall 2 M_law_random [] (mCons (mVar 0) (mCons (mCallB gLen (mCons (mVar 10) mNil)) mNil)))))
  (sSet 8 (mOp gIx (mOp gIx (mOp gIx (mVar 1) (mC (.int 1))) (mOp gIx (mVar 7) (mUn gNeg (mC (.int 1))))) (mC (.int 3))))) sNil))
noncomputable abbrev b1_law_row_drawn : SF := (sSeq (sPar 7 8 true false (mLst mNil) (mVar 5))
  (sSeq (sFor (iRg1 (mOp gAdd (mC (.int 1)) (mCall 2 M_law_random [] (mCons (mVar 0) (mCons (mC (.int 4)) mNil))))) (gN 9) b2_law_row_drawn)
  (sIf (mTv (mOp (gEqB true) (mVar 7) (mLst mNil))) (sSeq (sSet 11 (mIfE (mTv (mOp (gEqB false) (mVar 8) (mVar 5))) (mOp gIx (mLst (mCons (mC (.int 1)) (mCons (mC (.int 2)) (mCons (mC (.int 3)) (mCons (mOp gPow (mC (.int 10)) (mC (.int 30))) mNil))))) (mCall 2 M_law_random [] (mCons (mVar 0) (mCons (mC (.int 4)) mNil)))) (mC (.int 1))))
  (sSeq (sFz 7 (sApp (mVar 4) (mTup (mCons (mVar 11) (mCons (mVar 7) mNil)))))
  (sSet 5 (mVar 8)))) sNil)))
noncomputable def g_law_row_drawn : SF := (sSeq (sPar 4 5 true false (mLst mNil) (mVar 2))
  (sSeq (sFor (iRg1 (mCall 2 M_law_random [] (mCons (mVar 0) (mCons (mOp gAdd (mVar 3) (mC (.int 1))) mNil)))) (gN 6) b1_law_row_drawn)
  (sRet (mVar 4))))
noncomputable def M_law_row_drawn : FF := runF 13 g_law_row_drawn
end FL

namespace FL
open PySem L2 PySem.Spec PyProof.Rows FW

theorem log2_lt {n k : Nat} (h : n < 2 ^ k) (hk : 0 < k) : n.log2 < k := by
  by_cases z : n = 0
  · subst z; simpa using hk
  · exact (Nat.log2_lt z).mpr h
theorem mul_ok {i j : Int} (hi : i.natAbs < 2 ^ 4000) (hj : j.natAbs < 2 ^ 4000) : CMulW i j := by
  unfold CMulW
  have a := log2_lt hi (by decide)
  have b := log2_lt hj (by decide)
  omega
theorem div_ok {i j : Int} (h0 : 0 < j) (hj : j.natAbs < 2 ^ 8000) : CDivW i j := by
  unfold CDivW
  have b := log2_lt hj (by decide)
  omega
/-- products of numbers of a hundred figures -/
theorem mul100 {i j : Int} (hi : i.natAbs < 10 ^ 100) (hj : j.natAbs < 10 ^ 100) : CMulW i j := mul_ok (Nat.lt_of_lt_of_le hi (by decide +kernel)) (Nat.lt_of_lt_of_le hj (by decide +kernel))
theorem div100 {i j : Int} (h0 : 0 < j) (hj : j.natAbs < 10 ^ 100) : CDivW i j := div_ok h0 (Nat.lt_of_lt_of_le hj (by decide +kernel))
theorem sz {n : Nat} (h : n ≤ 100000) : n ≤ sizeLine := Nat.le_trans h (by decide +kernel)
theorem cell_ok (ns : List Int) (i : Nat) (st : Sto) : ∃ n, M_law_cell [.scr ns, .int i] st = .ok (.int n, false, st) := by
  by_cases h : i < ns.length
  · refine ⟨ns[i], ?_⟩
    have h2 : ((i : Int) < (ns.length : Int)) := by omega
    have h3 : atI ns (i : Int) = some ns[i] := by
      unfold atI ixN
      simp [h]
    simp [M_law_cell, d_runF, startM, g_law_cell, h2, h3]
  · refine ⟨0, ?_⟩
    have h2 : ¬ ((i : Int) < (ns.length : Int)) := by omega
    simp [M_law_cell, d_runF, startM, g_law_cell, h2]
theorem pw1 : CPowW 10 18 := by decide +kernel
theorem pw2 : CPowW 10 60 := by decide +kernel
theorem pw3 : CPowW ((10 : Int) ^ 60) 10 := by decide +kernel
theorem pw30 : CPowW 10 30 := by decide +kernel
theorem pw25 : CPowW 10 25 := by decide +kernel
theorem pw20 : CPowW 10 20 := by decide +kernel
theorem s3 : 3 ≤ sizeLine := by decide +kernel
theorem gen_ok (ns : List Int) (i : Nat) (hi : i ≤ 63) (st : Sto) : ∃ a b : Int, 0 ≤ a ∧ 0 ≤ b ∧ b < 2147483647 ∧ M_law_generator [.scr ns, .int i] st = .ok (.lst [.int a, .int b, .int (1000 * i)], true, st) := by
  obtain ⟨n, hn⟩ := cell_ok ns i st
  have p3 : (0 : Int) < (10 ^ 60) ^ 10 := by decide +kernel
  refine ⟨(if 0 > n - 10 ^ 18 then 0 else n - 10 ^ 18) % ((10 : Int) ^ 60) ^ 10, n % 2147483647, Int.emod_nonneg _ (fun z => absurd (z ▸ p3) (Int.lt_irrefl _)), Int.emod_nonneg _ (by decide), Int.emod_lt_of_pos _ (by decide), ?_⟩
  · have m1 : CMulW 1000 (i : Int) := mul_ok (by decide +kernel) (by omega)
    simp [-Int.reducePow, -Nat.reducePow, M_law_generator, d_runF, startM, g_law_generator, callR_ok _ _ hn, d_gPow, pw1, pw2, pw3, d_gMod, d_gMul, m1, p3, s3]
theorem hash_ok (s i : Int) (st : Sto) (h0 : 0 ≤ s) (h1 : s < 2147483647) (h2 : 0 ≤ i) (h3 : i ≤ 10 ^ 12) : ∃ r : Int, 0 ≤ r ∧ r < 2147483587 ∧ M_law_hash [.int s, .int i] st = .ok (.int r, false, st) := by
  have big : ∀ x : Int, x.natAbs < 10 ^ 30 → x.natAbs < 2 ^ 4000 := fun x hx => Nat.lt_of_lt_of_le hx (by decide +kernel)
  have b1 : CMulW s 1103515245 := mul_ok (big _ (by omega)) (by decide +kernel)
  have b2 : CMulW 7919 i := mul_ok (by decide +kernel) (big _ (by omega))
  have b3 : CMulW (7919 * i) i := mul_ok (big _ (by omega)) (big _ (by omega))
  have m1 := Int.emod_nonneg (s * 1103515245 + 7919 * i * i + i + 1) (b := 2147483647) (by decide)
  have m2 := Int.emod_lt_of_pos (s * 1103515245 + 7919 * i * i + i + 1) (b := 2147483647) (by decide)
  have b4 : ∀ x : Int, 0 ≤ x → x < 2147483647 → CMulW x x := fun x hx hy => mul_ok (big _ (by omega)) (big _ (by omega))
  have b5 : ∀ x : Int, 0 ≤ x → x < 2147483629 → CMulW x 48271 := fun x hx hy => mul_ok (big _ (by omega)) (by decide +kernel)
  have b6 := b4 _ m1 m2
  have m3 := Int.emod_nonneg ((s * 1103515245 + 7919 * i * i + i + 1) % 2147483647 * ((s * 1103515245 + 7919 * i * i + i + 1) % 2147483647) + 69621) (b := 2147483629) (by decide)
  have m4 := Int.emod_lt_of_pos ((s * 1103515245 + 7919 * i * i + i + 1) % 2147483647 * ((s * 1103515245 + 7919 * i * i + i + 1) % 2147483647) + 69621) (b := 2147483629) (by decide)
  have b7 := b5 _ m3 m4
  refine ⟨((s * 1103515245 + 7919 * i * i + i + 1) % 2147483647 * ((s * 1103515245 + 7919 * i * i + i + 1) % 2147483647) + 69621) % 2147483629 * 48271 % 2147483587, Int.emod_nonneg _ (by decide), Int.emod_lt_of_pos _ (by decide), ?_⟩
  simp [M_law_hash, d_runF, startM, g_law_hash, d_gMul, d_gMod, b1, b2, b3, b6, b7]
/-- a generator stands in the store -/
def GenAt (st : Sto) (n : Nat) (N : Int) : Prop := ∃ a b c : Int, st[n]? = some (.lst [.int a, .int b, .int c]) ∧ 0 ≤ a ∧ 0 ≤ b ∧ b < 2147483647 ∧ 0 ≤ c ∧ c ≤ N ∧ 0 ≤ N
theorem GenAt.up {st : Sto} {n : Nat} {N N' : Int} (g : GenAt st n N) (h : N ≤ N') : GenAt st n N' := by
  obtain ⟨a, b, c, h1, h2, h4, h5, h6, h7, h8⟩ := g
  exact ⟨a, b, c, h1, h2, h4, h5, h6, by omega, by omega⟩
/-- a store in which only the generator went on -/
structure GS (st : Sto) (n : Nat) (N : Int) (st' : Sto) : Prop where
  g : GenAt st' n N
  o : ∀ m, m ≠ n → st'[m]? = st[m]?
  l : st'.length = st.length
theorem GS.refl {st : Sto} {n : Nat} {N : Int} (g : GenAt st n N) : GS st n N st := ⟨g, fun _ _ => rfl, rfl⟩
theorem GS.trans {st st' st2 : Sto} {n : Nat} {N N' : Int} (a : GS st n N st') (b : GS st' n N' st2) : GS st n N' st2 := ⟨b.g, fun m h => (b.o m h).trans (a.o m h), b.l.trans a.l⟩
theorem GS.up {st st' : Sto} {n : Nat} {N N' : Int} (a : GS st n N st') (h : N ≤ N') : GS st n N' st' := ⟨a.g.up h, a.o, a.l⟩
theorem bits_ok {x : Int} (h : x.natAbs < 2 ^ 100) : Builtin.Int.intBits x ≤ 100 := by
  unfold Builtin.Int.intBits
  split
  · omega
  · have := log2_lt h (by decide); omega
theorem random_ok {st : Sto} {n : Nat} {N bound : Int} (g : GenAt st n N) (hN : N ≤ 10 ^ 9) (hb : 1 ≤ bound) (hB : bound ≤ 10 ^ 30) :
    ∃ (r : Int) (st' : Sto), 0 ≤ r ∧ r < bound ∧ M_law_random [.ref n, .int bound] st = .ok (.int r, false, st') ∧ GS st n (N + 10) st' := by
  obtain ⟨a, b, c, hst, ha, hb1, hb2, hc, hcN, h0⟩ := g
  have hn : n < st.length := (List.getElem?_eq_some_iff.mp hst).1
  have hv := vw_ref st n hst
  have x0 : ∀ x y z : MV, atI [x, y, z] 0 = some x := fun _ _ _ => rfl
  have x1 : ∀ x y z : MV, atI [x, y, z] 1 = some y := fun _ _ _ => rfl
  have x2 : ∀ x y z : MV, atI [x, y, z] 2 = some z := fun _ _ _ => rfl
  have i0 : ixN 3 0 = some 0 := rfl
  have i2 : ixN 3 2 = some 2 := rfl
  have hbp : (0 : Int) < bound := by omega
  have hdiv : CDivW a bound := div_ok hbp (Nat.lt_of_lt_of_le (by omega : bound.natAbs < 10 ^ 30 + 1) (by decide +kernel))
  have gs : ∀ gm, GenAt (st.set n gm) n (N + 10) → GS st n (N + 10) (st.set n gm) := fun gm g => ⟨g, fun m h => by rw [List.getElem?_set_ne (fun e => h e.symm)], by simp⟩
  by_cases hp : 0 < a
  · refine ⟨a % bound, st.set n (.lst [.int (a / bound), .int b, .int c]), Int.emod_nonneg _ (by omega), Int.emod_lt_of_pos _ hbp, ?_, gs _ ⟨a / bound, b, c, by simp [hn], Int.ediv_nonneg ha (by omega), hb1, hb2, hc, by omega, by omega⟩⟩
    · simp [M_law_random, d_runF, startM, g_law_random, hv, hst, hp, x0, d_gMod, d_gDiv, hbp, hdiv, i0, refAt]
  · have hbits : Builtin.Int.intBits bound ≤ 100 := bits_ok (Nat.lt_of_lt_of_le (by omega : bound.natAbs < 10 ^ 30 + 1) (by decide +kernel))
    generalize hq : Builtin.Int.intBits bound = q at hbits
    have hd30 : CDivW (q : Int) 30 := div_ok (by decide) (by decide +kernel)
    have hlen : (1 + (q : Int) / 30 - 0).toNat ≤ 4 := by omega
    have hrg : Rg62 0 (1 + (q : Int) / 30) := by unfold Rg62; omega
    have small : ∀ k : Nat, k ≤ 4 → ((2 : Int) ^ 32) ^ k ≤ 2 ^ 128 := fun k hk => by
      match k, hk with
      | 0, _ => decide +kernel
      | 1, _ => decide +kernel
      | 2, _ => decide +kernel
      | 3, _ => decide +kernel
      | 4, _ => decide +kernel
    have loop := forL_run (ck := fun _ _ => True) (gf := gN 3) (body := sSeq (sPutIx (mOp gAdd (mOp gIx (mVar 0) (mC (.int 2))) (mC (.int 1))) (mVar 0) (mC (.int 2)))
        (sSet 2 (mOp gAdd (mOp gMul (mVar 2) (mC (.int 2147483587))) (mCall 2 M_law_hash [] (mCons (mOp gIx (mVar 0) (mC (.int 1))) (mCons (mOp gIx (mVar 0) (mC (.int 2))) mNil))))))
      (Inv := fun k lo st' => ∃ (d : Int) (t : Option (MV × Bool)), lo = [some (.ref n, false), some (.int bound, false), some (.int d, false), t] ∧ st' = st.set n (.lst [.int a, .int b, .int (c + (k : Nat))]) ∧ 0 ≤ d ∧ d < ((2 : Int) ^ 32) ^ k)
      (items := rgM 0 (1 + (q : Int) / 30)) (fun _ _ _ _ => trivial) (fun k x lo st' hx ⟨d, t, hlo, hst', hd0, hd1⟩ => by
        obtain ⟨hx1, hk⟩ := rgM_get hx
        have hk4 : k ≤ 3 := by omega
        subst hlo hst'
        obtain ⟨h, hh0, hh1, hhash⟩ := hash_ok b (c + (k : Nat) + 1) (st.set n (.lst [.int a, .int b, .int (c + (k : Nat) + 1)])) hb1 hb2 (by omega) (by omega)
        have sm := small k (by omega)
        have hm : CMulW d 2147483587 := mul_ok (Nat.lt_of_lt_of_le (by omega : d.natAbs < 2 ^ 128 + 1) (by decide +kernel)) (by decide +kernel)
        have hg1 : (st.set n (MV.lst [.int a, .int b, .int (c + (k : Nat))]))[n]? = some (.lst [.int a, .int b, .int (c + (k : Nat))]) := by simp [hn]
        have hg2 : (st.set n (MV.lst [.int a, .int b, .int (c + (k : Nat) + 1)]))[n]? = some (.lst [.int a, .int b, .int (c + (k : Nat) + 1)]) := by simp [hn]
        refine ⟨_, _, [some (.ref n, false), some (.int bound, false), some (.int (d * 2147483587 + h), false), some (x, false)], st.set n (.lst [.int a, .int b, .int (c + (k : Nat) + 1)]), rfl, ?_, d * 2147483587 + h, _, rfl, by rw [show (c + ((k + 1 : Nat) : Int)) = c + (k : Nat) + 1 by omega], by omega, ?_⟩
        · have cr := callR_ok [some (.ref n, false), some (.int bound, false), some (.int d, false), some (x, false)] _ hhash
          simp [vw_ref _ n hg1, vw_ref _ n hg2, hg1, hn, x0, x1, x2, i2, d_gMul, hm, cr]
        · rw [Int.pow_succ]; omega)
      [some (.ref n, false), some (.int bound, false), some (.int 0, false), none] st ⟨0, none, rfl, by simp [← List.getElem?_eq_some_iff.mp hst |>.2], by decide, by decide⟩
    obtain ⟨lo', st', e, d, t, hlo, hst', hd0, hd1⟩ := loop
    subst hlo hst'
    rw [rgM_len] at e
    refine ⟨d % bound, st.set n (.lst [.int a, .int b, .int (c + ((1 + (q : Int) / 30 - 0).toNat : Nat))]), Int.emod_nonneg _ (by omega), Int.emod_lt_of_pos _ hbp, ?_, gs _ ⟨a, b, c + ((1 + (q : Int) / 30 - 0).toNat : Nat), List.getElem?_set_self hn, ha, hb1, hb2, by omega, by omega, by omega⟩⟩
    have hi : iRg1 (mOp gAdd (mC (.int 1)) (mOp gDiv (mBits (mVar 1)) (mC (.int 30)))) [some (.ref n, false), some (.int bound, false), some (.int 0, false), none] st = .ok (rgM 0 (1 + (q : Int) / 30), fun _ _ => True, st) := by
      refine iRg1_ok (k := .fz) ?_ hrg
      simp [hq, d_gDiv, hd30]
    unfold M_law_random g_law_random
    refine runF_rt (k := .fz) (lo := [some (.ref n, false), some (.int bound, false), some (.int d, false), t]) (lo0 := [some (.ref n, false), some (.int bound, false), none, none]) rfl (seq_ok (lo1 := [some (.ref n, false), some (.int bound, false), none, none]) (st1 := st) ?_ (seq_ok (lo1 := [some (.ref n, false), some (.int bound, false), some (.int 0, false), none]) (st1 := st) ?_ (seq_ok (for_ok hi e) ?_)))
    · simp [hv, hst, hp, x0]
    · simp
    · simp [d_gMod, hbp]
end FL

namespace FL
open PySem L2 PySem.Spec PyProof.Rows FW

structure Move where
  p : Str
  l : Int
  c : Int
  o : Str
structure Prog where
  pl : List Str
  mv : List Move
def mM (m : Move) : MV := .tup [.str m.p, .int m.l, .int m.c, .str m.o]
def plM (P : Prog) : List MV := P.pl.map .str
def mvM (P : Prog) : List MV := P.mv.map mM
def partsM (P : Prog) : MV := .lst [.lst (plM P), .lst (mvM P)]
def progM (P : Prog) : MV := .ins "Program" [("stands", .tup (plM P)), ("steps", .tup (mvM P)), ("folio", .lst [])]
structure Move.Ok (pl : List Str) (m : Move) : Prop where
  p : m.p ∈ pl
  o : m.o ∈ pl
  l0 : 0 ≤ m.l
  l8 : m.l ≤ 8
  c4 : -4 ≤ m.c
  c5 : m.c ≤ 4
  s0 : 0 ≤ m.l + m.c
  s8 : m.l + m.c ≤ 8
def NA : List Str := ["up", "down", "mid", "low"]
def NB : List Str := ["up", "down", "mid", "move"]
structure Prog.Ok (P : Prog) : Prop where
  nm : ∃ k, 1 ≤ k ∧ k ≤ 4 ∧ (P.pl = NA.take k ∨ P.pl = NB.take k)
  mv : ∀ m, m ∈ P.mv → m.Ok P.pl
  len : P.mv.length ≤ 10
theorem atI_ok {α : Type} (xs : List α) {r : Int} (h0 : 0 ≤ r) (h1 : r < xs.length) : ∃ x, atI xs r = some x ∧ x ∈ xs := by
  have hl : r.toNat < xs.length := by omega
  refine ⟨xs[r.toNat], ?_, List.getElem_mem hl⟩
  unfold atI ixN
  rw [if_pos h0, if_pos h1]
  simp [hl]
theorem atI_str {pl : List Str} {r : Int} (h0 : 0 ≤ r) (h1 : r < pl.length) : ∃ x, atI (pl.map MV.str) r = some (.str x) ∧ x ∈ pl := by
  obtain ⟨x, h, hm⟩ := atI_ok pl h0 h1
  exact ⟨x, by rw [atI_map, h]; rfl, hm⟩
theorem move_ok {st : Sto} {n : Nat} {N : Int} (g : GenAt st n N) (hN : N ≤ 10 ^ 8) {pl : List Str} (h1 : 1 ≤ pl.length) (h4 : pl.length ≤ 4) {most : Int} (m0 : 0 ≤ most) (m4 : most ≤ 4) :
    ∃ m st', Move.Ok pl m ∧ M_law_move [.ref n, .lst (pl.map .str), .int most] st = .ok (mM m, true, st') ∧ GS st n (N + 100) st' := by
  obtain ⟨r1, s1, a1, b1, e1, G1⟩ := random_ok (bound := 2 * most + 1) g (by omega) (by omega) (by omega)
  obtain ⟨r2, s2, a2, b2, e2, G2⟩ := random_ok (bound := 6) G1.g (by omega) (by decide) (by decide)
  obtain ⟨r3, t3, a3, b3, e3, G3⟩ := random_ok (bound := (pl.length : Int)) G2.g (by omega) (by omega) (by omega)
  obtain ⟨r4, t4, a4, b4, e4, G4⟩ := random_ok (bound := (pl.length : Int)) G3.g (by omega) (by omega) (by omega)
  obtain ⟨w, hw, wm⟩ := atI_ok [(0 : Int), 0, 0, 1, 2, 4] a2 (by simpa using b2)
  have hw' : atI [MV.int 0, .int 0, .int 0, .int 1, .int 2, .int 4] r2 = some (.int w) := by
    rw [show [MV.int 0, .int 0, .int 0, .int 1, .int 2, .int 4] = [(0 : Int), 0, 0, 1, 2, 4].map MV.int from rfl, atI_map, hw]; rfl
  have hwb : 0 ≤ w ∧ w ≤ 4 := by
    simp only [List.mem_cons, List.not_mem_nil, or_false] at wm
    rcases wm with rfl | rfl | rfl | rfl | rfl | rfl <;> decide
  obtain ⟨x, hx, xm⟩ := atI_str a3 b3
  obtain ⟨y, hy, ym⟩ := atI_str a4 b4
  have k1 : CMulW 2 most := mul100 (by decide +kernel) (by omega)
  have z4 : 4 ≤ sizeLine := by decide +kernel
  have z6 : 6 ≤ sizeLine := by decide +kernel
  have gs := (G1.trans G2).trans (G3.trans G4)
  generalize hc : r1 - most = c at *
  have low := (Eq.refl (if 0 - c > 0 then 0 - c else (0 : Int)))
  generalize hlow : (if 0 - c > 0 then 0 - c else (0 : Int)) = lw at low
  have lw0 : 0 ≤ lw ∧ lw ≤ 4 ∧ 0 ≤ lw + c ∧ lw + c ≤ 4 := by
    rw [← hlow]; split <;> omega
  have hle : ∃ l : Int, (0 ≤ l ∧ l ≤ 8 ∧ 0 ≤ l + c ∧ l + c ≤ 8) ∧ (sIf (mOr (mTv (mOp gGt (mOp gAdd (mVar 5) (mVar 3)) (mC (.int 8)))) (mTv (mOp gGt (mVar 5) (mC (.int 8))))) (sSet 5 (mVar 4)) sNil)
      [some (.ref n, false), some (.lst (pl.map .str), false), some (.int most, false), some (.int c, false), some (.int lw, false), some (.int (lw + w), false), none, none] s2
      = .ok (.nx, [some (.ref n, false), some (.lst (pl.map .str), false), some (.int most, false), some (.int c, false), some (.int lw, false), some (.int l, false), none, none], s2) := by
    by_cases q : 8 < lw + w + c
    · exact ⟨lw, by omega, by simp [q]⟩
    · by_cases q2 : 8 < lw + w
      · exact ⟨lw, by omega, by simp [q, q2]⟩
      · exact ⟨lw + w, by omega, by simp [q, q2]⟩
  obtain ⟨l, hl, el⟩ := hle
  refine ⟨⟨x, l, c, y⟩, t4, ⟨xm, ym, hl.1, hl.2.1, by show -4 ≤ c; omega, by show c ≤ 4; omega, hl.2.2.1, hl.2.2.2⟩, ?_, gs.up (by omega)⟩
  unfold M_law_move g_law_move
  refine runF_rt (k := .fr) (lo0 := [some (.ref n, false), some (.lst (pl.map .str), false), some (.int most, false), none, none, none, none, none]) (lo := [some (.ref n, false), some (.lst (pl.map .str), false), some (.int most, false), some (.int c, false), some (.int lw, false), some (.int l, false), some (.str x, false), some (.str y, false)]) rfl
    (seq_ok (lo1 := [some (.ref n, false), some (.lst (pl.map .str), false), some (.int most, false), some (.int c, false), none, none, none, none]) (st1 := s1) ?_
    (seq_ok (lo1 := [some (.ref n, false), some (.lst (pl.map .str), false), some (.int most, false), some (.int c, false), some (.int lw, false), none, none, none]) (st1 := s1) ?_
    (seq_ok (lo1 := [some (.ref n, false), some (.lst (pl.map .str), false), some (.int most, false), some (.int c, false), some (.int lw, false), some (.int (lw + w), false), none, none]) (st1 := s2) ?_
    (seq_ok el
    (seq_ok (lo1 := [some (.ref n, false), some (.lst (pl.map .str), false), some (.int most, false), some (.int c, false), some (.int lw, false), some (.int l, false), some (.str x, false), some (.str y, false)]) (st1 := t4) ?_ ?_)))))
  · simp [callR_ok _ _ e1, d_gMul, k1, hc]
  · rw [← hlow]; rfl
  · simp [callR_ok _ _ e2, hw', z6]
  · simp [callR_ok _ _ e3, callR_ok _ _ e4, hx, hy]
  · simp [z4, mM]
end FL

namespace FL
open PySem L2 PySem.Spec PyProof.Rows FW

abbrev fz (m : MV) : Option (MV × Bool) := some (m, false)
abbrev ow (m : MV) : Option (MV × Bool) := some (m, true)
def Fz (t : Option (MV × Bool)) : Prop := t = none ∨ ∃ m, t = some (m, false)
theorem Fz.no : Fz none := .inl rfl
theorem Fz.so {m : MV} : Fz (some (m, false)) := .inr ⟨m, rfl⟩
/-- places' names -/
structure PlOk (pl : List Str) : Prop where
  nm : ∃ k, 1 ≤ k ∧ k ≤ 4 ∧ (pl = NA.take k ∨ pl = NB.take k)
theorem Prog.Ok.pl {P : Prog} (h : P.Ok) : PlOk P.pl := ⟨h.nm⟩
theorem take_cases (xs : List Str) {k : Nat} (h1 : 1 ≤ k) (h4 : k ≤ 4) : xs.take k = xs.take 1 ∨ xs.take k = xs.take 2 ∨ xs.take k = xs.take 3 ∨ xs.take k = xs.take 4 := by
  have : k = 1 ∨ k = 2 ∨ k = 3 ∨ k = 4 := by omega
  rcases this with rfl | rfl | rfl | rfl
  · exact .inl rfl
  · exact .inr (.inl rfl)
  · exact .inr (.inr (.inl rfl))
  · exact .inr (.inr (.inr rfl))
/-- the places are one of eight rows of names -/
theorem PlOk.cases {pl : List Str} (h : PlOk pl) {Q : List Str → Prop} (a1 : Q ["up"]) (a2 : Q ["up", "down"]) (a3 : Q ["up", "down", "mid"]) (a4 : Q ["up", "down", "mid", "low"]) (a5 : Q ["up", "down", "mid", "move"]) : Q pl := by
  obtain ⟨k, h1, h4, h | h⟩ := h.nm <;> subst h
  · rcases take_cases NA h1 h4 with e | e | e | e <;> rw [e] <;> first | exact a1 | exact a2 | exact a3 | exact a4
  · rcases take_cases NB h1 h4 with e | e | e | e <;> rw [e] <;> first | exact a1 | exact a2 | exact a3 | exact a5
theorem PlOk.len1 {pl : List Str} (h : PlOk pl) : 1 ≤ pl.length := h.cases (Q := fun l => 1 ≤ l.length) (by decide) (by decide) (by decide) (by decide) (by decide)
theorem PlOk.len4 {pl : List Str} (h : PlOk pl) : pl.length ≤ 4 := h.cases (Q := fun l => l.length ≤ 4) (by decide) (by decide) (by decide) (by decide) (by decide)
theorem runF_own {n : Nat} {g : SF} {ms : List MV} {lo0 lo : Lo} {st st' : Sto} {m k} {b : Bool} (h0 : startM n ms = lo0) (h : g lo0 st = .ok (.rt m k, lo, st')) (hb : isFr k = b) : runF n g ms st = .ok (m, b, st') := by subst hb; exact runF_rt h0 h
theorem app_ok {fo fe : EF} {lo : Lo} {st st1 : Sto} {i : Nat} {xs : List MV} {m : MV} {kd : Kd} {x : MV} (h1 : fo lo st = .ok (x, .pk i, st)) (h2 : lo[i]? = some (ow (.lst xs))) (h3 : fe lo st = .ok (m, kd, st1)) (h4 : isPk kd = false) (hz : xs.length < sizeLine) :
    sApp fo fe lo st = .ok (.nx, lo.set i (ow (.lst (xs ++ [m]))), st1) := by
  unfold sApp
  rw [h1]
  have ef : frzd (m, kd, st1) = .ok (m, st1) := by cases kd <;> first | rfl | cases h4
  simp only [Res.ok_bind, targetOf, h2, ownAt, isLst, if_true, h3, ef, if_pos hz, putBack]
theorem parts_ok {st : Sto} {n : Nat} {N : Int} (g : GenAt st n N) (hN : N ≤ 10 ^ 7) {many moves most : Int} (c1 : 1 ≤ many) (c4 : many ≤ 4) (v0 : 0 ≤ moves) (v9 : moves ≤ 10) (m0 : 0 ≤ most) (m4 : most ≤ 4) :
    ∃ P st', Prog.Ok P ∧ M_law_parts [.ref n, .int many, .int moves, .int most] st = .ok (partsM P, true, st') ∧ GS st n (N + 2000) st' := by
  obtain ⟨r1, s1, a1, b1, e1, G1⟩ := random_ok (bound := many) g (by omega) (by omega) (by omega)
  obtain ⟨r2, s2, a2, b2, e2, G2⟩ := random_ok (bound := moves + 1) G1.g (by omega) (by omega) (by omega)
  have z4 : 4 ≤ sizeLine := by decide +kernel
  have z2 : 2 ≤ sizeLine := by decide +kernel
  have hsl : ∃ k : Nat, 1 ≤ k ∧ k ≤ 4 ∧ cutM [MV.str "up", .str "down", .str "mid", .str "low"] none (some (1 + r1)) = (NA.take k).map .str := by
    have : r1 = 0 ∨ r1 = 1 ∨ r1 = 2 ∨ r1 = 3 := by omega
    rcases this with rfl | rfl | rfl | rfl
    · exact ⟨1, by decide, by decide, rfl⟩
    · exact ⟨2, by decide, by decide, rfl⟩
    · exact ⟨3, by decide, by decide, rfl⟩
    · exact ⟨4, by decide, by decide, rfl⟩
  obtain ⟨k, k1, k4, hcut⟩ := hsl
  have pk : PlOk (NA.take k) := ⟨k, k1, k4, .inl rfl⟩
  generalize NA.take k = pl at *
  obtain ⟨lo', st', e3, ms, t, hlo, hml, hmo, G3⟩ := forL_run (ck := fun _ _ => True) (gf := gN 6) (body := sApp (mVar 5) (mCall 3 M_law_move [] (mCons (mVar 0) (mCons (mVar 4) (mCons (mVar 3) mNil)))))
    (Inv := fun j lo st' => ∃ (ms : List Move) (t : Option (MV × Bool)), lo = [fz (.ref n), fz (.int many), fz (.int moves), fz (.int most), fz (.lst (pl.map .str)), ow (.lst (ms.map mM)), t] ∧ ms.length = j ∧ (∀ m, m ∈ ms → m.Ok pl) ∧ GS s2 n (N + 20 + 100 * j) st') (items := rgM 0 r2) (fun _ _ _ _ => trivial)
    (fun j x lo st' hx ⟨ms, t, hlo, hl, ho, G⟩ => by
      subst hlo
      obtain ⟨hx1, hj⟩ := rgM_get hx
      obtain ⟨m, s3, hm, em, Gm⟩ := move_ok G.g (by omega) pk.len1 pk.len4 m0 m4
      refine ⟨_, _, [fz (.ref n), fz (.int many), fz (.int moves), fz (.int most), fz (.lst (pl.map .str)), ow (.lst ((ms ++ [m]).map mM)), fz x], s3, rfl, ?_, ms ++ [m], fz x, rfl, by simp [hl], ?_, (G.trans Gm).up (by omega)⟩
      · rw [List.map_append]
        exact app_ok (i := 5) (x := .lst (ms.map mM)) (m := mM m) (kd := .fr) rfl rfl (by simp [callR_ok _ _ em]) rfl (Nat.lt_of_lt_of_le (by rw [List.length_map]; omega : (ms.map mM).length < 20) (by decide +kernel))
      · intro y hy
        rcases List.mem_append.mp hy with hy | hy
        · exact ho y hy
        · rw [List.mem_singleton] at hy; subst hy; exact hm)
    [fz (.ref n), fz (.int many), fz (.int moves), fz (.int most), fz (.lst (pl.map .str)), ow (.lst []), none] s2 ⟨[], none, rfl, rfl, fun m h => (by cases h), (GS.refl G2.g).up (by omega)⟩
  subst hlo
  rw [rgM_len] at hml
  refine ⟨⟨pl, ms⟩, st', ⟨pk.nm, hmo, by show ms.length ≤ 10; omega⟩, ?_, (G1.trans (G2.trans G3)).up (by rw [rgM_len]; omega)⟩
  unfold M_law_parts g_law_parts
  refine runF_own (k := .fr) (lo0 := [fz (.ref n), fz (.int many), fz (.int moves), fz (.int most), none, none, none]) (lo := [fz (.ref n), fz (.int many), fz (.int moves), fz (.int most), fz (.lst (pl.map .str)), fz (.lst (ms.map mM)), t]) rfl
    (seq_ok (lo1 := [fz (.ref n), fz (.int many), fz (.int moves), fz (.int most), fz (.lst (pl.map .str)), none, none]) (st1 := s1) ?_
    (seq_ok (lo1 := [fz (.ref n), fz (.int many), fz (.int moves), fz (.int most), fz (.lst (pl.map .str)), ow (.lst []), none]) (st1 := s1) ?_
    (seq_ok (for_ok (iRg1_ok (k := .fz) (j := r2) (st1 := s2) ?_ (by unfold Rg62; omega)) e3) ?_))) rfl
  · have hs : mSl (mLst (mCons (mC (.str "up")) (mCons (mC (.str "down")) (mCons (mC (.str "mid")) (mCons (mC (.str "low")) mNil))))) oNone (oSome (mOp gAdd (mC (.int 1)) (mCall 2 M_law_random [] (mCons (mVar 0) (mCons (mVar 1) mNil)))))
        [fz (.ref n), fz (.int many), fz (.int moves), fz (.int most), none, none, none] st = .ok (.lst (pl.map .str), .fr, s1) := by
      unfold mSl oSome oNone
      simp [z4, callR_ok _ _ e1, gSl, hcut]
    unfold sSet
    rw [hs]; rfl
  · simp
  · simp [callR_ok _ _ e2]
  · simp [z2, partsM, plM, mvM]
end FL

namespace FL
open PySem L2 PySem.Spec PyProof.Rows FW

/-- plain at its top -/
def pln : MV → Bool
  | .non => true
  | .bl _ => true
  | .int _ => true
  | .str _ => true
  | .tup _ => true
  | .lst _ => true
  | .dct _ => true
  | _ => false
theorem gd_pln {n : Nat} {m : MV} (h : gd n m = true) : pln m = true := by
  cases n with
  | zero => cases h
  | succ n => cases m <;> first | rfl | cases h
theorem gx_pln {n : Nat} {m : MV} (h : gx n m = true) : pln m = true := by
  cases n with
  | zero => cases h
  | succ n => cases m <;> first | rfl | cases h
theorem rgd_pln {m : MV} (h : rgd m = true) : pln m = true := gx_pln (rgd_gx h)
theorem pln_vw {b : MV} (h : pln b = true) (st : Sto) : vw st b = b := by cases b <;> first | rfl | (exact Bool.noConfusion h)
def wh : MV → Bool
  | .int _ => true
  | _ => false
theorem wh_int {m : MV} (h : wh m = true) : ∃ i, m = .int i := by cases m <;> first | (exact Bool.noConfusion h) | exact ⟨_, rfl⟩
theorem whole_ok {m : MV} (h : pln m = true) (st : Sto) : M_is_whole [m] st = .ok (.bl (wh m), false, st) := by
  cases m <;> first | (exact Bool.noConfusion h) | simp [M_is_whole, d_runF, startM, g_is_whole, tyAns, isT, tys7, wh]
theorem lwhole_ok {m : MV} (h : pln m = true) (st : Sto) : M_law_is_whole [m] st = .ok (.bl (wh m), false, st) := by
  cases m <;> first | (exact Bool.noConfusion h) | simp [M_law_is_whole, d_runF, startM, g_law_is_whole, tyAns, isT, tys7, wh]
@[simp] theorem d_mChain (g g' : G2) (fa fb fc : EF) (lo : Lo) (st : Sto) : mChain g g' fa fb fc lo st = (fa lo st >>= fun (a, _, st1) => fb lo st1 >>= fun (b, _, st2) =>
  match g st2 (vw st2 a) (vw st2 b) with
  | some (.bl true, false) => fc lo st2 >>= fun (c, _, st3) => giveOut (g' st3 (vw st3 b) (vw st3 c)) st3
  | some (.bl false, false) => .ok (.bl false, .fz, st2)
  | _ => .bad) := by
  unfold mChain giveOut
  cases fa lo st with
  | ok r =>
    obtain ⟨a, ka, st1⟩ := r
    simp only [Res.ok_bind]
    all_goals (cases fb lo st1 with
      | ok r =>
        obtain ⟨b, kb, st2⟩ := r
        simp only [Res.ok_bind]
        all_goals (rcases g st2 (vw st2 a) (vw st2 b) with _ | ⟨m, _ | _⟩)
        · rfl
        · cases m with
          | bl z =>
            cases z with
            | false => rfl
            | true =>
              simp only
              all_goals (cases fc lo st2 with
                | ok r =>
                  obtain ⟨c, kc, st3⟩ := r
                  simp only [Res.ok_bind]
                  all_goals (rcases g' st3 (vw st3 b) (vw st3 c) with _ | ⟨m, _ | _⟩ <;> rfl)
                | exc => rfl
                | bad => rfl)
          | _ => rfl
        · rfl
      | exc => rfl
      | bad => rfl)
  | exc => rfl
  | bad => rfl
def win (a b : Int) : MV → Bool
  | .int i => decide (a ≤ i) && decide (i ≤ b)
  | _ => false
theorem within_ok {m : MV} (h : pln m = true) (a b : Int) (st : Sto) : M_is_within [m, .int a, .int b] st = .ok (.bl (win a b m), false, st) := by
  cases w : wh m with
  | false =>
    have e : win a b m = false := by cases m <;> first | rfl | exact Bool.noConfusion w
    rw [e]
    simp [M_is_within, d_runF, startM, g_is_within, callR_ok _ _ (whole_ok h st), w]
  | true =>
    obtain ⟨i, rfl⟩ := wh_int w
    by_cases q : a ≤ i
    · simp [M_is_within, d_runF, startM, g_is_within, callR_ok _ _ (whole_ok h st), w, q, win]
    · simp [M_is_within, d_runF, startM, g_is_within, callR_ok _ _ (whole_ok h st), w, q, win]
theorem eqI (neg : Bool) (st : Sto) (i j : Int) : gEqB neg st (.int i) (.int j) = some (.bl (if neg then !(i == j) else (i == j)), false) := by
  have sh : ∀ i : Int, SeqAt.shaped (.int i) = true := fun i => by simp [SeqAt.shaped, PyData.canLay0, PyData.depth]
  show (if SeqAt.shaped (.int i) = true ∧ SeqAt.shaped (.int j) = true then some (MV.bl (if neg then !PyData.eqv (.int i) (.int j) else PyData.eqv (.int i) (.int j)), false) else none) = _
  rw [if_pos ⟨sh i, sh j⟩]
  simp [PyData.eqv]
theorem eqNil {neg : Bool} {xs : List MV} (h : gd dpt (.lst xs) = true) (st : Sto) : gEqB neg st (.lst xs) (.lst []) = some (.bl (if neg then !xs.isEmpty else xs.isEmpty), false) := by
  rw [eq_gd h rfl]
  cases xs with
  | nil => simp [eqM, md, mds, PyData.eqv, PyData.eqvAll]
  | cons x xs => simp [eqM, md, mds, PyData.eqv, PyData.eqvAll]
def LT : List Nat := (Str.ofString "abcdefghijklmnopqrstuvwxyz").cps.toList
def nameB : MV → Bool
  | .str x => decide (1 ≤ x.length) && decide (x.length ≤ 8) && x.cps.toList.all fun c => decide (c ∈ LT)
  | _ => false
theorem inSign {neg : Bool} {st : Sto} {c : Nat} {z : Str} : gInA neg st (.str ⟨#[c]⟩) (.str z) = some (.bl (if neg then !decide (c ∈ z.cps.toList) else decide (c ∈ z.cps.toList)), false) := by
  have e1 : gIn neg st (.str ⟨#[c]⟩) (.str z) = none := by
    unfold gIn
    have : toD st dpt (.str z) = some (.str z) := rfl
    rw [this]
    split
    · rename_i h; cases h
    · rfl
  unfold gInA
  rw [e1]; rfl
theorem lc_ok {vs : List Nat} {fi : IFn} {gf : GF} {tt : TF} {fe : EF} {lo : Lo} {st st1 st2 : Sto} {items ck acc} (hc : clrOk lo vs = true) (hi : fi lo st = .ok (items, ck, st1)) (hl : lcL ck gf tt fe (wipeM lo vs) items [] st1 = .ok (acc, st2)) : mLc vs fi gf tt fe lo st = .ok (.lst acc, .fr, st2) := by
  unfold mLc; rw [if_pos hc, hi]; simp only [Res.ok_bind]; rw [hl]; rfl
/-- a comprehension [x for x in .. if test], nothing changed -/
theorem lc_filter {vs : List Nat} {fi : IFn} {gf : GF} {tt : TF} {fe : EF} {lo : Lo} {st : Sto} {items ck} {p : MV → Bool} {f : MV → MV} (hc : clrOk lo vs = true) (hi : fi lo st = .ok (items, ck, st)) (hck : ∀ st, ck (wipeM lo vs) st) (hz : items.length ≤ sizeLine)
    (hb : ∀ x, x ∈ items → ∃ lo1, gf x (wipeM lo vs) st = .ok (lo1, st) ∧ tt lo1 st = .ok (p x, st) ∧ (p x = true → ∃ kd, fe lo1 st = .ok (f x, kd, st) ∧ isPk kd = false)) : mLc vs fi gf tt fe lo st = .ok (.lst ((items.filter p).map f), .fr, st) := by
  obtain ⟨acc, st2, e, ha, hs⟩ := lcL_run (ck := ck) (gf := gf) (tt := tt) (fe := fe) (lo0 := wipeM lo vs) (Inv := fun k acc st2 => acc = ((items.take k).filter p).map f ∧ st2 = st) (items := items) (fun _ _ _ _ => hck _) hz (fun k acc st2 ⟨h, _⟩ => by
      rw [h, List.length_map]; exact Nat.le_trans (List.length_filter_le _ _) (by rw [List.length_take]; omega))
    (fun k m acc st2 hm ⟨ha, hs⟩ => by
      subst hs
      obtain ⟨lo1, e1, e2, e3⟩ := hb m (List.mem_of_getElem? hm)
      have tk : items.take (k + 1) = items.take k ++ [m] := by rw [List.take_add_one, hm]; rfl
      refine ⟨lo1, st2, p m, st2, e1, e2, ?_⟩
      cases hp : p m with
      | false => exact .inl ⟨rfl, by rw [ha, tk, List.filter_append]; simp [hp], rfl⟩
      | true =>
        obtain ⟨kd, e4, hk⟩ := e3 hp
        exact .inr ⟨rfl, f m, kd, st2, e4, hk, by rw [ha, tk, List.filter_append, List.map_append]; simp [hp], rfl⟩)
    [] st ⟨rfl, rfl⟩
  subst hs
  rw [List.take_length] at ha
  subst ha
  exact lc_ok hc hi e
theorem name_ok {m : MV} (h : pln m = true) (hs : ∀ x, m = .str x → x.length ≤ sizeLine ∧ PyData.strOk x = true) (st : Sto) : M_is_name [m] st = .ok (.bl (nameB m), false, st) := by
  cases m with
  | str x =>
    obtain ⟨hx, hso⟩ := hs x rfl
    have gl : gLen st [.str x] = some (.int x.length, false) := if_pos hx
    by_cases c1 : (1 : Int) ≤ (x.length : Int)
    · by_cases c2 : (x.length : Int) ≤ 8
      · have hn : x.cps.toList.length ≤ 8 := by
          have : x.length = x.cps.toList.length := by show x.cps.size = _; simp
          omega
        have hf := lc_filter (vs := [1]) (fi := iStrM (mVar 0)) (gf := gN 1) (tt := mTv (mOp (gInA true) (mVar 1) (mC (.str "abcdefghijklmnopqrstuvwxyz")))) (fe := mVar 1) (lo := [fz (.str x), none]) (st := st) (items := x.cps.toList.map fun c => .str ⟨#[c]⟩) (ck := fun _ _ => True)
          (p := fun m => match m with | .str z => (match z.cps.toList with | [c] => !decide (c ∈ LT) | _ => false) | _ => false) (f := id) rfl (by unfold iStrM; simp) (fun _ => trivial) (sz (by rw [List.length_map]; omega))
          (fun y hy => by
            obtain ⟨c, hc, rfl⟩ := List.mem_map.mp hy
            refine ⟨[fz (.str x), fz (.str ⟨#[c]⟩)], rfl, ?_, fun _ => ⟨.fz, rfl, rfl⟩⟩
            have := inSign (neg := true) (st := st) (c := c) (z := "abcdefghijklmnopqrstuvwxyz")
            simp only [d_mTv, d_mOp, d_mVar, d_mC, Res.ok_bind, List.getElem?_cons_succ, List.getElem?_cons_zero, vw_str, this, d_give0]
            rfl)
        rw [List.map_id] at hf
        generalize hL : ((x.cps.toList.map fun c => MV.str ⟨#[c]⟩).filter fun m => match m with | .str z => (match z.cps.toList with | [c] => !decide (c ∈ LT) | _ => false) | _ => false) = L at hf
        have hg : gd dpt (.lst L) = true := gd_lst fun y hy => by
          rw [← hL] at hy
          obtain ⟨hy1, _⟩ := List.mem_filter.mp hy
          obtain ⟨c, hc, rfl⟩ := List.mem_map.mp hy1
          have := strOk_mem hso c hc
          show PyData.strOk ⟨#[c]⟩ = true
          simp [PyData.strOk]; omega
        have hemp : L.isEmpty = x.cps.toList.all fun c => decide (c ∈ LT) := by
          rw [← hL]
          induction x.cps.toList with
          | nil => rfl
          | cons c cs ih =>
            rw [List.map_cons, List.filter_cons, List.all_cons, ← ih]
            by_cases q : c ∈ LT
            · simp [q]
            · simp [q]
        have e := eqNil (neg := false) hg st
        unfold M_is_name g_is_name
        refine runF_rt (k := .fz) (lo0 := [fz (.str x), none]) (lo := [fz (.str x), none]) rfl (seq_ok (lo1 := [fz (.str x), none]) (st1 := st) ?_ ?_)
        · simp [tyAns, isT, tys7, gl, c1, c2]
        · rw [d_sRet, d_mOp, hf]
          simp only [Res.ok_bind, d_mLst, d_mNil, d_allFz0, List.length_nil, Nat.zero_le, if_true, vw_lst, e, d_give0]
          rw [hemp]
          have d1 : decide (1 ≤ x.length) = true := by simp; omega
          have d2 : decide (x.length ≤ 8) = true := by simp; omega
          show _ = Res.ok (Fl.rt (.bl (nameB (.str x))) .fz, _, _)
          rw [show nameB (.str x) = (decide (1 ≤ x.length) && decide (x.length ≤ 8) && x.cps.toList.all fun c => decide (c ∈ LT)) from rfl, d1, d2]; rfl
      · have d2 : nameB (.str x) = false := by
          have : decide (x.length ≤ 8) = false := by simp; omega
          show (decide (1 ≤ x.length) && decide (x.length ≤ 8) && x.cps.toList.all fun c => decide (c ∈ LT)) = false
          rw [this]; simp
        rw [d2]
        simp [M_is_name, d_runF, startM, g_is_name, tyAns, isT, tys7, gl, c1, c2]
    · have d2 : nameB (.str x) = false := by
        have : decide (1 ≤ x.length) = false := by simp; omega
        show (decide (1 ≤ x.length) && decide (x.length ≤ 8) && x.cps.toList.all fun c => decide (c ∈ LT)) = false
        rw [this]; simp
      rw [d2]
      simp [M_is_name, d_runF, startM, g_is_name, tyAns, isT, tys7, gl, c1]
  | _ => first | (exact Bool.noConfusion h) | simp [M_is_name, d_runF, startM, g_is_name, tyAns, isT, tys7, nameB]
end FL

namespace FL
open PySem L2 PySem.Spec PyProof.Rows FW

theorem opV {g : G2} {fa fb : EF} {lo : Lo} {st st1 st2 : Sto} {a b : MV} {ka kb : Kd} {z : MV} (ha : fa lo st = .ok (a, ka, st1)) (hb : fb lo st1 = .ok (b, kb, st2)) (h : g st2 (vw st2 a) (vw st2 b) = some (z, false)) : mOp g fa fb lo st = .ok (z, .fz, st2) := by
  rw [d_mOp, ha]; simp only [Res.ok_bind]; rw [hb]; simp only [Res.ok_bind]; rw [h]; rfl
theorem opN {g : G2} {fa fb : EF} {lo : Lo} {st st1 st2 : Sto} {a b : MV} {ka kb : Kd} {z : MV} (ha : fa lo st = .ok (a, ka, st1)) (hb : fb lo st1 = .ok (b, kb, st2)) (h : g st2 (vw st2 a) (vw st2 b) = some (z, true)) : mOp g fa fb lo st = .ok (z, .fr, st2) := by
  rw [d_mOp, ha]; simp only [Res.ok_bind]; rw [hb]; simp only [Res.ok_bind]; rw [h]; rfl
section
variable {lo : Lo} {st st1 st2 : Sto}
theorem tv_ok {f : EF} {b : Bool} {k} (h : f lo st = .ok (.bl b, k, st1)) : mTv f lo st = .ok (b, st1) := by unfold mTv; rw [h]; rfl
theorem not_ok {f : TF} {b : Bool} (h : f lo st = .ok (b, st1)) : mNotT f lo st = .ok (!b, st1) := by unfold mNotT; rw [h]; rfl
theorem or_ff {f g : TF} {r} (h : f lo st = .ok (false, st1)) (h2 : g lo st1 = r) : mOr f g lo st = r := by rw [d_mOr, h]; simp only [Res.ok_bind]; rw [if_neg Bool.false_ne_true]; exact h2
theorem or_tt {f g : TF} (h : f lo st = .ok (true, st1)) : mOr f g lo st = .ok (true, st1) := by rw [d_mOr, h]; rfl
theorem and_tt {f g : TF} {r} (h : f lo st = .ok (true, st1)) (h2 : g lo st1 = r) : mAnd f g lo st = r := by rw [d_mAnd, h]; simp only [Res.ok_bind]; exact (if_pos trivial).trans h2
theorem and_ff {f g : TF} (h : f lo st = .ok (false, st1)) : mAnd f g lo st = .ok (false, st1) := by rw [d_mAnd, h]; rfl
theorem if_tt {c : TF} {g g' : SF} {r} (h : c lo st = .ok (true, st1)) (h2 : g lo st1 = r) : sIf c g g' lo st = r := by rw [d_sIf, h]; simp only [Res.ok_bind]; exact (if_pos trivial).trans h2
theorem if_ff {c : TF} {g g' : SF} {r} (h : c lo st = .ok (false, st1)) (h2 : g' lo st1 = r) : sIf c g g' lo st = r := by rw [d_sIf, h]; simp only [Res.ok_bind]; rw [if_neg Bool.false_ne_true]; exact h2
theorem ret_ok {f : EF} {m k} (h : f lo st = .ok (m, k, st1)) : sRet f lo st = .ok (.rt m k, lo, st1) := by unfold sRet; rw [h]; rfl
theorem ifE_tt {c : TF} {f g : EF} {r} (h : c lo st = .ok (true, st1)) (h2 : f lo st1 = r) : mIfE c f g lo st = r := by rw [d_mIfE, h]; simp only [Res.ok_bind]; exact (if_pos trivial).trans h2
theorem ifE_ff {c : TF} {f g : EF} {r} (h : c lo st = .ok (false, st1)) (h2 : g lo st1 = r) : mIfE c f g lo st = r := by rw [d_mIfE, h]; simp only [Res.ok_bind]; rw [if_neg Bool.false_ne_true]; exact h2
theorem set_ok {i : Nat} {f : EF} {m k} (h : f lo st = .ok (m, k, st1)) (hk : isPk k = false) : sSet i f lo st = .ok (.nx, lo.set i (fz m), st1) := by
  unfold sSet; rw [h]; cases k <;> first | rfl | cases hk
theorem own_ok {i : Nat} {f : EF} {m} (h : f lo st = .ok (m, .fr, st1)) (hk : ownOk m = true) : sOwn i f lo st = .ok (.nx, lo.set i (ow m), st1) := by
  unfold sOwn; rw [h]; simp only [Res.ok_bind]; rw [if_pos hk]
theorem expr_ok {f : EF} {m k} (h : f lo st = .ok (m, k, st1)) : sExpr f lo st = .ok (.nx, lo, st1) := by unfold sExpr; rw [h]; rfl
theorem expr_exc {f : EF} {c fs} (h : f lo st = .exc c fs lo st1) : sExpr f lo st = .exc c fs lo st1 := by unfold sExpr; rw [h]; rfl
end
theorem gd_strs {n : Nat} (xs : List Str) (h : ∀ x, x ∈ xs → PyData.strOk x = true) : gd (n + 2) (.lst (xs.map .str)) = true := gd_lst fun y hy => by
  obtain ⟨x, hx, rfl⟩ := List.mem_map.mp hy
  exact h x hx
theorem PlOk.good {pl : List Str} (h : PlOk pl) : ∀ x, x ∈ pl → PyData.strOk x = true := h.cases (Q := fun l => ∀ x, x ∈ l → PyData.strOk x = true) (by decide +kernel) (by decide +kernel) (by decide +kernel) (by decide +kernel) (by decide +kernel)
theorem PlOk.name {pl : List Str} (h : PlOk pl) : ∀ x, x ∈ pl → nameB (.str x) = true := h.cases (Q := fun l => ∀ x, x ∈ l → nameB (.str x) = true) (by decide +kernel) (by decide +kernel) (by decide +kernel) (by decide +kernel) (by decide +kernel)
theorem PlOk.nodup {pl : List Str} (h : PlOk pl) : pl.Nodup := h.cases (by decide +kernel) (by decide +kernel) (by decide +kernel) (by decide +kernel) (by decide +kernel)
theorem PlOk.short {pl : List Str} (h : PlOk pl) : ∀ x, x ∈ pl → x.length ≤ 8 := h.cases (Q := fun l => ∀ x, x ∈ l → x.length ≤ 8) (by decide +kernel) (by decide +kernel) (by decide +kernel) (by decide +kernel) (by decide +kernel)
theorem PlOk.up {pl : List Str} (h : PlOk pl) : ("up" : Str) ∈ pl := h.cases (Q := fun l => ("up" : Str) ∈ l) (by decide +kernel) (by decide +kernel) (by decide +kernel) (by decide +kernel) (by decide +kernel)
def inPl (pl : List Str) (m : MV) : Bool := (pl.map MV.str).any fun z => eqM z m
theorem eqM_str (x y : Str) : eqM (.str x) (.str y) = decide (x = y) := by
  by_cases h : x = y
  · subst h; simp [eqM, md, PyData.eqv]
  · simp [eqM, md, PyData.eqv, h]
theorem inPl_str {pl : List Str} {x : Str} : inPl pl (.str x) = decide (x ∈ pl) := by
  unfold inPl
  induction pl with
  | nil => rfl
  | cons p pl ih =>
    rw [List.map_cons, List.any_cons, ih, eqM_str]
    by_cases h : p = x
    · subst h; simp
    · have h' : ¬ (x = p) := fun z => h z.symm
      simp [h, h']
theorem inPl_ok {neg : Bool} {pl : List Str} (hp : ∀ x, x ∈ pl → PyData.strOk x = true) {m : MV} (h : gd dpt m = true) (st : Sto) : gInA neg st m (.lst (pl.map .str)) = some (.bl (if neg then !inPl pl m else inPl pl m), false) := in_gd h (gd_strs pl hp)
def moveB (pl : List Str) : MV → Bool
  | .tup [a, b, c, d] => inPl pl a && (inPl pl d && (win 0 8 b && (win (-4) 4 c && (match b, c with
    | .int l, .int ch => decide (0 ≤ l + ch) && decide (l + ch ≤ 8)
    | _, _ => false))))
  | _ => false
theorem win_int {a b : Int} {m : MV} (h : win a b m = true) : ∃ i, m = .int i := by cases m <;> first | exact ⟨_, rfl⟩ | cases h
theorem isMove_ok {pl : List Str} (hp : ∀ x, x ∈ pl → PyData.strOk x = true) {m : MV} (h : pln m = true) (hx : ∀ xs, m = .tup xs → ∀ x, x ∈ xs → gd dpt x = true) (st : Sto) : M_is_move [m, .lst (pl.map .str)] st = .ok (.bl (moveB pl m), false, st) := by
  cases m with
  | tup xs =>
    have ha := hx xs rfl
    match xs, ha with
    | [], _ => simp [M_is_move, d_runF, startM, g_is_move, tyAns, isT, tys7, eqI, moveB]
    | [_], _ => simp [M_is_move, d_runF, startM, g_is_move, tyAns, isT, tys7, eqI, moveB]
    | [_, _], _ => simp [M_is_move, d_runF, startM, g_is_move, tyAns, isT, tys7, eqI, moveB]
    | [_, _, _], _ => simp [M_is_move, d_runF, startM, g_is_move, tyAns, isT, tys7, eqI, moveB]
    | _ :: _ :: _ :: _ :: _ :: r, _ =>
      have e : ((r.length : Int) + 1 + 1 + 1 + 1 + 1 == 4) = false := by simp; omega
      simp [M_is_move, d_runF, startM, g_is_move, tyAns, isT, tys7, eqI, moveB, e]
    | [a, b, c, d], ha =>
      have ga := ha a (by simp)
      have gb := ha b (by simp)
      have gc := ha c (by simp)
      have gdd := ha d (by simp)
      have y0 : atI [a, b, c, d] 0 = some a := rfl
      have y1 : atI [a, b, c, d] 1 = some b := rfl
      have y2 : atI [a, b, c, d] 2 = some c := rfl
      have y3 : atI [a, b, c, d] 3 = some d := rfl
      have ia := inPl_ok (neg := true) hp ga st
      have id := inPl_ok (neg := true) hp gdd st
      have va := gd_vw ga st
      have vd := gd_vw gdd st
      have wb := callR_ok [fz (.tup [a, b, c, d]), fz (.lst (pl.map .str))] st (within_ok (gd_pln gb) 0 8 st)
      have wc := callR_ok [fz (.tup [a, b, c, d]), fz (.lst (pl.map .str))] st (within_ok (gd_pln gc) (-4) 4 st)
      show _ = Res.ok (MV.bl (inPl pl a && (inPl pl d && (win 0 8 b && (win (-4) 4 c && _)))), false, st)
      cases qa : inPl pl a with
      | false => rw [qa] at ia; simp [M_is_move, d_runF, startM, g_is_move, tyAns, isT, tys7, eqI, y0, va, ia]
      | true =>
        cases qd : inPl pl d with
        | false => rw [qa] at ia; rw [qd] at id; simp [M_is_move, d_runF, startM, g_is_move, tyAns, isT, tys7, eqI, y0, y3, va, vd, ia, id]
        | true =>
          rw [qa] at ia; rw [qd] at id
          cases qb : win 0 8 b with
          | false => rw [qb] at wb; simp [M_is_move, d_runF, startM, g_is_move, tyAns, isT, tys7, eqI, y0, y1, y3, va, vd, ia, id, wb]
          | true =>
            rw [qb] at wb
            cases qc : win (-4) 4 c with
            | false => rw [qc] at wc; simp [M_is_move, d_runF, startM, g_is_move, tyAns, isT, tys7, eqI, y0, y1, y2, y3, va, vd, ia, id, wb, wc]
            | true =>
              rw [qc] at wc
              obtain ⟨l, rfl⟩ := win_int qb
              obtain ⟨ch, rfl⟩ := win_int qc
              by_cases q0 : 0 ≤ l + ch
              · simp [M_is_move, d_runF, startM, g_is_move, tyAns, isT, tys7, eqI, y0, y1, y2, y3, va, vd, ia, id, wb, wc, q0]
              · simp [M_is_move, d_runF, startM, g_is_move, tyAns, isT, tys7, eqI, y0, y1, y2, y3, va, vd, ia, id, wb, wc, q0]
  | _ => first | (exact Bool.noConfusion h) | simp [M_is_move, d_runF, startM, g_is_move, tyAns, isT, tys7, moveB]
theorem moveB_ok {pl : List Str} {m : Move} (h : m.Ok pl) : moveB pl (mM m) = true := by
  show (inPl pl (.str m.p) && (inPl pl (.str m.o) && (win 0 8 (.int m.l) && (win (-4) 4 (.int m.c) && (decide (0 ≤ m.l + m.c) && decide (m.l + m.c ≤ 8)))))) = true
  rw [inPl_str, inPl_str]
  simp only [win, Bool.and_eq_true, decide_eq_true_eq]
  exact ⟨h.p, h.o, ⟨h.l0, h.l8⟩, ⟨h.c4, h.c5⟩, h.s0, h.s8⟩
theorem gd_mM {n : Nat} {pl : List Str} (hp : ∀ x, x ∈ pl → PyData.strOk x = true) {m : Move} (h : m.Ok pl) : ∀ xs, mM m = .tup xs → ∀ x, x ∈ xs → gd (n + 1) x = true := by
  intro xs e x hx
  cases e
  have := h.l0; have := h.l8; have := h.c4; have := h.c5
  simp only [List.mem_cons, List.not_mem_nil, or_false] at hx
  rcases hx with rfl | rfl | rfl | rfl
  · exact hp _ h.p
  · exact gd_int (Nat.lt_of_lt_of_le (by omega : m.l.natAbs < 10) (by decide +kernel))
  · exact gd_int (Nat.lt_of_lt_of_le (by omega : m.c.natAbs < 10) (by decide +kernel))
  · exact hp _ h.o
theorem iEn_lst {f : EF} {lo : Lo} {st st1 : Sto} {xs : List MV} {k} (h : f lo st = .ok (.lst xs, k, st1)) (hk : isPk k = false) : iEn f lo st = .ok (enumM xs, fun _ _ => True, st1) := by
  unfold iEn; rw [h]; cases k <;> first | rfl | cases hk
theorem cut_take (xs : List MV) {k : Nat} (h : k ≤ xs.length) : cutM xs none (some (k : Int)) = xs.take k := by
  unfold cutM
  rw [HT.sIx_nat, HT.sIx_none, List.drop_zero, Nat.sub_zero, Nat.min_eq_left h]
theorem enum_get {xs : List MV} {i : Nat} {m : MV} (h : (enumM xs)[i]? = some m) : ∃ x, xs[i]? = some x ∧ m = .tup [.int (i : Nat), x] := enumM_get h
theorem enumM_len (xs : List MV) : (enumM xs).length = xs.length := by unfold enumM; simp
theorem runI_nx {c : Str} {n : Nat} {g : SF} {ms : List MV} {lo0 lo : Lo} {st st' : Sto} {fs} (h0 : startI c n ms = lo0) (h : g lo0 st = .ok (.nx, lo, st')) (hs : lo[0]? = some (ow (.ins c fs))) : runI c n g ms st = .ok (.ins c fs, true, st') := by
  subst h0; unfold runI; rw [h]; simp only [selfOf, hs]
theorem runI_exc {c : Str} {n : Nat} {g : SF} {ms : List MV} {lo0 lo : Lo} {st st' : Sto} {e fs} (h0 : startI c n ms = lo0) (h : g lo0 st = .exc e fs lo st') : runI c n g ms st = .exc e fs lo st' := by subst h0; unfold runI; rw [h]
/-- a slot that holds a program that is being made -/
abbrev LOI (s p m t3 t4 t5 : Option (MV × Bool)) : Lo := [s, p, m, t3, t4, t5]
theorem init_names {pl : List Str} (hg : ∀ x, x ∈ pl → PyData.strOk x = true) (hn : ∀ x, x ∈ pl → nameB (.str x) = true) (hd : pl.Nodup) (hl : ∀ x, x ∈ pl → x.length ≤ 100) (hz : pl.length ≤ 100) (s m t5 : Option (MV × Bool)) (st : Sto) :
    ∃ t3 t4, forL (fun _ _ => True) (gT 2 (gsCons (gN 3) (gsCons (gN 4) gsNil))) (sIf (mOr (mNotT (mTv (mCall 1 M_is_name [] (mCons (mVar 4) mNil)))) (mTv (mOp (gInA false) (mVar 4) (mSl (mVar 1) oNone (oSome (mVar 3)))))) (sRaise "InvalidItem" "value" [] (mCons (mVar 4) mNil)) sNil)
      (enumM (pl.map .str)) (LOI s (fz (.lst (pl.map .str))) m none none t5) st = .ok (.nx, LOI s (fz (.lst (pl.map .str))) m t3 t4 t5, st) := by
  obtain ⟨lo', st', e, t3, t4, hlo, hst⟩ := forL_run (ck := fun _ _ => True) (gf := gT 2 (gsCons (gN 3) (gsCons (gN 4) gsNil))) (body := sIf (mOr (mNotT (mTv (mCall 1 M_is_name [] (mCons (mVar 4) mNil)))) (mTv (mOp (gInA false) (mVar 4) (mSl (mVar 1) oNone (oSome (mVar 3)))))) (sRaise "InvalidItem" "value" [] (mCons (mVar 4) mNil)) sNil)
    (Inv := fun k lo st' => ∃ t3 t4, lo = LOI s (fz (.lst (pl.map .str))) m t3 t4 t5 ∧ st' = st) (items := enumM (pl.map .str)) (fun _ _ _ _ => trivial)
    (fun k x lo st' hx ⟨t3, t4, hlo, hst⟩ => by
      subst hlo hst
      obtain ⟨y, hy, rfl⟩ := enum_get hx
      rw [List.getElem?_map] at hy
      obtain ⟨z, hz1, rfl⟩ := Option.map_eq_some_iff.mp hy
      have zm := List.mem_of_getElem? hz1
      have hk : k < pl.length := (List.getElem?_eq_some_iff.mp hz1).1
      refine ⟨LOI s (fz (.lst (pl.map .str))) m (fz (.int (k : Nat))) (fz (.str z)) t5, st', LOI s (fz (.lst (pl.map .str))) m (fz (.int (k : Nat))) (fz (.str z)) t5, st', by simp [LOI], ?_, _, _, rfl, rfl⟩
      have nm := name_ok (m := .str z) rfl (fun x e => by cases e; exact ⟨sz (Nat.le_trans (hl z zm) (by decide)), hg z zm⟩) st'
      rw [hn z zm] at nm
      have ct : cutM (pl.map MV.str) none (some (k : Int)) = (pl.take k).map .str := by rw [cut_take _ (by rw [List.length_map]; omega), List.map_take]
      have hi := inPl_ok (neg := false) (pl := pl.take k) (fun x hx => hg x (List.mem_of_mem_take hx)) (m := .str z) (hg z zm) st'
      have no : inPl (pl.take k) (.str z) = false := by
        rw [inPl_str, decide_eq_false_iff_not]
        intro hm
        obtain ⟨i, hi⟩ := List.mem_iff_getElem?.mp hm
        rw [List.getElem?_take] at hi
        split at hi
        · rename_i hik
          have h1 := List.getElem?_eq_some_iff.mp hi
          have h2 := List.getElem?_eq_some_iff.mp hz1
          have := (List.getElem_inj hd).mp (h1.2.trans h2.2.symm)
          omega
        · cases hi
      rw [no] at hi
      have hs : mSl (mVar 1) oNone (oSome (mVar 3)) (LOI s (fz (.lst (pl.map .str))) m (fz (.int (k : Nat))) (fz (.str z)) t5) st' = .ok (.lst ((pl.take k).map .str), .fr, st') := by
        unfold mSl oSome oNone
        simp [gSl, LOI, ct]
      have ho : mOp (gInA false) (mVar 4) (mSl (mVar 1) oNone (oSome (mVar 3))) (LOI s (fz (.lst (pl.map .str))) m (fz (.int (k : Nat))) (fz (.str z)) t5) st' = .ok (.bl false, .fz, st') := by
        exact opV (a := .str z) (ka := .fz) (st1 := st') rfl hs hi
      exact if_ff (or_ff (st1 := st') (by simp [callR_ok _ _ nm]) (tv_ok ho)) rfl)
    (LOI s (fz (.lst (pl.map .str))) m none none t5) st ⟨none, none, rfl, rfl⟩
  subst hlo hst
  exact ⟨t3, t4, e⟩
theorem init_moves {pl : List Str} (hg : ∀ x, x ∈ pl → PyData.strOk x = true) {ms : List Move} (hm : ∀ m, m ∈ ms → m.Ok pl) (s t3 t4 : Option (MV × Bool)) (st : Sto) :
    ∃ t5, forL (fun _ _ => True) (gN 5) (sIf (mNotT (mTv (mCall 2 M_is_move [] (mCons (mVar 5) (mCons (mVar 1) mNil))))) (sRaise "InvalidItem" "value" [] (mCons (mVar 5) mNil)) sNil)
      (ms.map mM) (LOI s (fz (.lst (pl.map .str))) (fz (.lst (ms.map mM))) t3 t4 none) st = .ok (.nx, LOI s (fz (.lst (pl.map .str))) (fz (.lst (ms.map mM))) t3 t4 t5, st) := by
  obtain ⟨lo', st', e, t5, hlo, hst⟩ := forL_run (ck := fun _ _ => True) (gf := gN 5) (body := sIf (mNotT (mTv (mCall 2 M_is_move [] (mCons (mVar 5) (mCons (mVar 1) mNil))))) (sRaise "InvalidItem" "value" [] (mCons (mVar 5) mNil)) sNil)
    (Inv := fun k lo st' => ∃ t5, lo = LOI s (fz (.lst (pl.map .str))) (fz (.lst (ms.map mM))) t3 t4 t5 ∧ st' = st) (items := ms.map mM) (fun _ _ _ _ => trivial)
    (fun k x lo st' hx ⟨t5, hlo, hst⟩ => by
      subst hlo hst
      rw [List.getElem?_map] at hx
      obtain ⟨m, hm1, rfl⟩ := Option.map_eq_some_iff.mp hx
      have ok := hm m (List.mem_of_getElem? hm1)
      refine ⟨LOI s (fz (.lst (pl.map .str))) (fz (.lst (ms.map mM))) t3 t4 (fz (mM m)), st', LOI s (fz (.lst (pl.map .str))) (fz (.lst (ms.map mM))) t3 t4 (fz (mM m)), st', rfl, ?_, _, rfl, rfl⟩
      have im := isMove_ok hg (m := mM m) rfl (gd_mM hg ok) st'
      rw [moveB_ok ok] at im
      simp [LOI, callR_ok _ _ im])
    (LOI s (fz (.lst (pl.map .str))) (fz (.lst (ms.map mM))) t3 t4 none) st ⟨none, rfl, rfl⟩
  subst hlo hst
  exact ⟨t5, e⟩
theorem put2 (x y : MV) : putM "steps" y [(("stands" : Str), x)] = [(("stands" : Str), x), (("steps" : Str), y)] := by unfold putM; rw [if_neg (by decide)]; rfl
theorem put3 (x y z : MV) : putM "folio" z [(("stands" : Str), x), (("steps" : Str), y)] = [(("stands" : Str), x), (("steps" : Str), y), (("folio" : Str), z)] := by unfold putM; rw [if_neg (by decide)]; unfold putM; rw [if_neg (by decide)]; rfl
/-- Program(places, moves) of what fits -/
theorem make_ok {P : Prog} (h : P.Ok) (st : Sto) : M_Program_init [.lst (plM P), .lst (mvM P)] st = .ok (progM P, true, st) := by
  have hp := h.pl
  obtain ⟨t3, t4, e1⟩ := init_names hp.good hp.name hp.nodup (fun x hx => Nat.le_trans (hp.short x hx) (by decide)) (Nat.le_trans hp.len4 (by decide)) (ow (.ins "Program" [])) (fz (.lst (P.mv.map mM))) none st
  obtain ⟨t5, e2⟩ := init_moves hp.good h.mv (ow (.ins "Program" [])) t3 t4 st
  have l1 := hp.len1
  have l4 := hp.len4
  have l10 := h.len
  have q1 : (1 : Int) ≤ (P.pl.length : Int) := by omega
  have q2 : (P.pl.length : Int) ≤ 4 := by omega
  have q3 : ¬ ((10 : Int) < (P.mv.length : Int)) := by omega
  have cls : inB ["Program"] "Program" = true := rfl
  unfold M_Program_init g_Program_init
  refine runI_nx (lo0 := LOI (ow (.ins "Program" [])) (fz (.lst (P.pl.map .str))) (fz (.lst (P.mv.map mM))) none none none) (lo := LOI (ow (progM P)) (fz (.lst (P.pl.map .str))) (fz (.lst (P.mv.map mM))) t3 t4 t5) rfl
    (seq_ok (lo1 := LOI (ow (.ins "Program" [])) (fz (.lst (P.pl.map .str))) (fz (.lst (P.mv.map mM))) none none none) (st1 := st) ?_ (seq_ok (for_ok (iEn_lst (k := .fz) (xs := P.pl.map .str) (st1 := st) rfl rfl) e1)
    (seq_ok (lo1 := LOI (ow (.ins "Program" [])) (fz (.lst (P.pl.map .str))) (fz (.lst (P.mv.map mM))) t3 t4 none) (st1 := st) ?_ (seq_ok (for_ok (iSeq_lst (k := .fz) (xs := P.mv.map mM) (st1 := st) rfl rfl) e2)
    (seq_ok (lo1 := LOI (ow (.ins "Program" [("stands", .tup (plM P))])) (fz (.lst (P.pl.map .str))) (fz (.lst (P.mv.map mM))) t3 t4 t5) (st1 := st) ?_ (seq_ok (lo1 := LOI (ow (.ins "Program" [("stands", .tup (plM P)), ("steps", .tup (mvM P))])) (fz (.lst (P.pl.map .str))) (fz (.lst (P.mv.map mM))) t3 t4 t5) (st1 := st) ?_ ?_)))))) rfl
  · simp [LOI, tyAns, isT, tys7, q1, q2]
  · simp [LOI, tyAns, isT, tys7, q3]
  · simp [LOI, ownAt, cls, putM, plM]
  · simp [LOI, ownAt, cls, put2, plM, mvM]
  · simp [LOI, ownAt, cls, put3, progM, plM, mvM]
theorem program_ok {P : Prog} (h : P.Ok) (st : Sto) : M_law_program [partsM P] st = .ok (progM P, true, st) := by
  have y0 : atI [MV.lst (plM P), .lst (mvM P)] 0 = some (.lst (plM P)) := rfl
  have y1 : atI [MV.lst (plM P), .lst (mvM P)] 1 = some (.lst (mvM P)) := rfl
  simp [M_law_program, d_runF, startM, g_law_program, partsM, y0, y1, callR_ok _ _ (make_ok h st)]
theorem chkP_ok (P : Prog) (st : Sto) : M_check_program [progM P] st = .ok (.non, false, st) := by
  have e : eqc CS "Program" "Program" = some true := rfl
  simp [M_check_program, d_runF, startM, g_check_program, progM, tyAns, e]
theorem chkP_no {m : MV} (h : pln m = true) (st : Sto) : ∃ lo, M_check_program [m] st = .exc "InvalidProgram" [("value", m)] lo st := by
  refine ⟨[fz m], ?_⟩
  cases m <;> first | (exact Bool.noConfusion h) | simp [M_check_program, d_runF, startM, g_check_program, tyAns, noT, tys7]
theorem chkC_ok {c : Int} (h : 0 ≤ c) (st : Sto) : M_check_counter [.int c] st = .ok (.non, false, st) := by
  have e : ¬ (c < 0) := by omega
  simp [M_check_counter, d_runF, startM, g_check_counter, callR_ok _ _ (whole_ok (m := .int c) rfl st), wh, e]
def cntB : MV → Bool
  | .int i => decide (0 ≤ i)
  | _ => false
theorem chkC_no {m : MV} (h : pln m = true) (hc : cntB m = false) (st : Sto) : ∃ lo, M_check_counter [m] st = .exc "InvalidNumber" [("value", m)] lo st := by
  refine ⟨[fz m], ?_⟩
  have w := callR_ok [fz m] st (whole_ok h st)
  cases m with
  | int i =>
    have hi : i < 0 := by
      have : decide (0 ≤ i) = false := hc
      simp at this; exact this
    simp [M_check_counter, d_runF, startM, g_check_counter, w, wh, hi]
  | _ => first | (exact Bool.noConfusion h) | simp [M_check_counter, d_runF, startM, g_check_counter, w, wh]
theorem strsOf_pl (P : Prog) : strsOf (plM P) = some P.pl := strsOf_map P.pl
theorem inT_pl {neg : Bool} {P : Prog} {x : Str} (st : Sto) : gInA neg st (.str x) (.tup (plM P)) = some (.bl (if neg then !decide (x ∈ P.pl) else decide (x ∈ P.pl)), false) := by
  have e1 : gIn neg st (.str x) (.tup (plM P)) = none := by
    unfold gIn
    split
    · rename_i d ds _ h
      have : toD st dpt (.tup (plM P)) = (mapO (toD st 11) (plM P)).map .tuple := rfl
      rw [this] at h
      obtain ⟨_, _, h2⟩ := Option.map_eq_some_iff.mp h
      cases h2
    · rfl
  have e2 : gInT neg st (.str x) (.tup (plM P)) = some (.bl (if neg then !(P.pl.any fun y => decide (y = x)) else P.pl.any fun y => decide (y = x)), false) := by
    show (strsOf (plM P)).map _ = _
    rw [strsOf_pl]; rfl
  have e3 : (P.pl.any fun y => decide (y = x)) = decide (x ∈ P.pl) := by
    induction P.pl with
    | nil => rfl
    | cons p pl ih =>
      rw [List.any_cons, ih]
      by_cases h : p = x
      · subst h; simp
      · have h' : ¬ (x = p) := fun z => h z.symm
        simp [h, h']
  unfold gInA
  rw [e1, e2, e3]; rfl
theorem fld1 (P : Prog) : gFld "stands" (inB ["Program"]) noB (progM P) = some (.tup (plM P)) := rfl
theorem fld2 (P : Prog) : gFld "steps" (inB ["Program"]) noB (progM P) = some (.tup (mvM P)) := rfl
theorem vwP (P : Prog) (st : Sto) : vw st (progM P) = progM P := rfl
theorem chkS_ok {P : Prog} {x : Str} (h : x ∈ P.pl) (st : Sto) : M_check_place [progM P, .str x] st = .ok (.non, false, st) := by
  have i := inT_pl (neg := true) (P := P) (x := x) st
  simp [M_check_place, d_runF, startM, g_check_place, tyAns, isT, tys7, fld1, vwP, i, h]
def plcB (pl : List Str) : MV → Bool
  | .str x => decide (x ∈ pl)
  | _ => false
theorem chkS_no {P : Prog} {m : MV} (h : pln m = true) (hc : plcB P.pl m = false) (st : Sto) : ∃ lo, M_check_place [progM P, m] st = .exc "UnknownName" [("name", m)] lo st := by
  refine ⟨[fz (progM P), fz m], ?_⟩
  cases m with
  | str x =>
    have hx : ¬ (x ∈ P.pl) := by
      have : decide (x ∈ P.pl) = false := hc
      simpa using this
    have i := inT_pl (neg := true) (P := P) (x := x) st
    simp [M_check_place, d_runF, startM, g_check_place, tyAns, isT, tys7, fld1, vwP, i, hx]
  | _ => first | (exact Bool.noConfusion h) | simp [M_check_place, d_runF, startM, g_check_place, tyAns, isT, tys7]
end FL

namespace FL
open PySem L2 PySem.Spec PyProof.Rows FW

section
variable {gf : GF} {body : SF} {x : MV} {xs : List MV} {lo lo1 lo2 : Lo} {st st1 st2 : Sto}
abbrev ckT : CK := fun _ _ => True
theorem forL_nx {r} (h1 : gf x lo st = .ok (lo1, st1)) (h2 : body lo1 st1 = .ok (.nx, lo2, st2)) (h3 : forL ckT gf body xs lo2 st2 = r) : forL ckT gf body (x :: xs) lo st = r := by
  rw [forL_cons, if_pos trivial, h1]; simp only [Res.ok_bind]; rw [h2]; exact h3
theorem forL_rt {m k} (h1 : gf x lo st = .ok (lo1, st1)) (h2 : body lo1 st1 = .ok (.rt m k, lo2, st2)) : forL ckT gf body (x :: xs) lo st = .ok (.rt m k, lo2, st2) := by
  rw [forL_cons, if_pos trivial, h1]; simp only [Res.ok_bind]; rw [h2]; rfl
theorem forL_exc {c fs} (h1 : gf x lo st = .ok (lo1, st1)) (h2 : body lo1 st1 = .exc c fs lo2 st2) : forL ckT gf body (x :: xs) lo st = .exc c fs lo2 st2 := by
  rw [forL_cons, if_pos trivial, h1]; simp only [Res.ok_bind]; rw [h2]; rfl
theorem forL_end : forL ckT gf body [] lo st = .ok (.nx, lo, st) := by rw [forL_nil, if_pos trivial]
end
def oS : Option Str → MV
  | none => .non
  | some s => .str s
def stepAt (P : Prog) : MV → Option Move
  | .int i => if 0 ≤ i then P.mv[i.toNat]? else none
  | _ => none
/-- where numbers of moves lead to, one behind the other -/
def chain (P : Prog) : Str → List MV → Option Str
  | p, [] => some p
  | p, m :: ms => match stepAt P m with
    | some s => if s.p = p then chain P s.o ms else none
    | none => none
def partEnd (P : Prog) (p : Str) : MV → Option Str
  | .tup [.int t, .lst (x :: xs)] => if 1 ≤ t then (match chain P p (x :: xs) with
    | some q => if 1 < t ∧ q ≠ p then none else some q
    | none => none) else none
  | _ => none
def rowEnd (P : Prog) : Str → List MV → Option Str
  | p, [] => some p
  | p, m :: ms => match partEnd P p m with
    | some q => rowEnd P q ms
    | none => none
def rowEndM (P : Prog) (p : Str) : MV → Option Str
  | .lst xs => rowEnd P p xs
  | _ => none
/-- a part that can be judged -/
def PartG (m : MV) : Prop := pln m = true ∧ ∀ xs, m = .tup xs → ∀ x, x ∈ xs → pln x = true ∧ ∀ ys, x = .lst ys → gd dpt (.lst ys) = true
def RowG (m : MV) : Prop := pln m = true ∧ ∀ xs, m = .lst xs → ∀ x, x ∈ xs → PartG x
section
variable {P : Prog} {st : Sto}
theorem stepAt_ok (h : P.Ok) {m : MV} {s : Move} (e : stepAt P m = some s) : s.Ok P.pl ∧ ∃ i : Int, m = .int i ∧ 0 ≤ i ∧ i < (P.mv.length : Int) ∧ atI (mvM P) i = some (mM s) := by
  cases m with
  | int i =>
    have e' : (if 0 ≤ i then P.mv[i.toNat]? else none) = some s := e
    split at e'
    · rename_i h0
      have hl := (List.getElem?_eq_some_iff.mp e').1
      refine ⟨h.mv s (List.mem_of_getElem? e'), i, rfl, h0, by omega, ?_⟩
      unfold mvM
      rw [atI_map]
      unfold atI ixN
      rw [if_pos h0, if_pos (by omega)]
      simp [e']
    · cases e'
  | _ => cases e
theorem stepAt_no {i : Int} (e : stepAt P (.int i) = none) : ¬ (0 ≤ i ∧ i < (P.mv.length : Int)) := by
  intro ⟨h0, h1⟩
  have e' : (if 0 ≤ i then P.mv[i.toNat]? else none) = none := e
  rw [if_pos h0] at e'
  have := List.getElem?_eq_none_iff.mp e'
  omega
theorem mvM_len (P : Prog) : (mvM P).length = P.mv.length := by simp [mvM]
theorem ix0 (s : Move) : gIx st (mM s) (.int 0) = some (.str s.p, false) := rfl
theorem ix3 (s : Move) : gIx st (mM s) (.int 3) = some (.str s.o, false) := rfl
theorem ixT {xs : List MV} {i : Int} {x : MV} (h : atI xs i = some x) : gIx st (.tup xs) (.int i) = some (x, false) := by show (atI xs i).map _ = _; rw [h]; rfl
theorem ixL {xs : List MV} {i : Int} {x : MV} (h : atI xs i = some x) : gIx st (.lst xs) (.int i) = some (x, false) := by show (atI xs i).map _ = _; rw [h]; rfl
theorem eqS {neg : Bool} {x y : Str} (hx : PyData.strOk x = true) (hy : PyData.strOk y = true) : gEqB neg st (.str x) (.str y) = some (.bl (if neg then !decide (x = y) else decide (x = y)), false) := by
  rw [eq_gd (a := .str x) (b := .str y) hx hy, eqM_str]
/-- the steps of a program, in a slot -/
theorem fldSt {lo : Lo} {f : EF} (h : f lo st = .ok (progM P, .fz, st)) : mFld "steps" (inB ["Program"]) noB f lo st = .ok (.tup (mvM P), .fz, st) := by rw [d_mFld, h]; rfl
theorem fldPl {lo : Lo} {f : EF} (h : f lo st = .ok (progM P, .fz, st)) : mFld "stands" (inB ["Program"]) noB f lo st = .ok (.tup (plM P), .fz, st) := by rw [d_mFld, h]; rfl
theorem ixOk {lo : Lo} {f g : EF} {xs : List MV} {i : Int} {x : MV} {k1 k2} (h : f lo st = .ok (.tup xs, k1, st)) (h2 : g lo st = .ok (.int i, k2, st)) (h3 : atI xs i = some x) : mOp gIx f g lo st = .ok (x, .fz, st) := opV h h2 (ixT h3)
theorem ixLk {lo : Lo} {f g : EF} {xs : List MV} {i : Int} {x : MV} {k1 k2} (h : f lo st = .ok (.lst xs, k1, st)) (h2 : g lo st = .ok (.int i, k2, st)) (h3 : atI xs i = some x) : mOp gIx f g lo st = .ok (x, .fz, st) := opV h h2 (ixL h3)
theorem callV {n : Nat} {F : FF} {lo : Lo} {g : AF} {ms : List MV} {m : MV} {b : Bool} {st1 st2 : Sto} (h : g lo st = .ok (ms.map (·, false), st1)) (hl : ms.length = n) (hf : F ms st1 = .ok (m, b, st2)) : mCall n F [] g lo st = .ok (m, if b then .fr else .fz, st2) := by
  rw [d_mCall, h]
  simp only [Res.ok_bind, d_callF]
  have e : allFz (ms.map (·, false)) = some ms := by
    clear h hl hf
    induction ms with
    | nil => rfl
    | cons x xs ih => rw [List.map_cons, d_allFz1, ih]; rfl
  rw [e]
  simp only [List.append_nil]
  rw [if_pos hl]
  exact callR_ok _ _ hf
theorem callX {n : Nat} {F : FF} {lo : Lo} {g : AF} {ms : List MV} {c fs lo'} {st1 st2 : Sto} (h : g lo st = .ok (ms.map (·, false), st1)) (hl : ms.length = n) (hf : F ms st1 = .exc c fs lo' st2) : mCall n F [] g lo st = .exc c fs lo st2 := by
  rw [d_mCall, h]
  simp only [Res.ok_bind, d_callF]
  have e : allFz (ms.map (·, false)) = some ms := by
    clear h hl hf
    induction ms with
    | nil => rfl
    | cons x xs ih => rw [List.map_cons, d_allFz1, ih]; rfl
  rw [e]
  simp only [List.append_nil]
  rw [if_pos hl]
  exact callR_exc _ _ hf
/-- .. from anywhere, or behind l -/
def chainO (P : Prog) : Option Str → List MV → Option (Option Str)
  | l, [] => some l
  | l, m :: ms => match stepAt P m with
    | some s => if l = none ∨ l = some s.p then chainO P (some s.o) ms else none
    | none => none
theorem chainO_some (p : Str) : ∀ xs, chainO P (some p) xs = (chain P p xs).map some
  | [] => rfl
  | m :: ms => by
    unfold chainO chain
    cases stepAt P m with
    | none => rfl
    | some s =>
      by_cases h : s.p = p
      · subst h
        simp only [or_true, if_true]
        exact chainO_some s.o ms
      · have h' : ¬ (some p = none ∨ some p = some s.p) := fun z => z.elim (fun q => nomatch q) fun q => h (by cases q; rfl)
        simp only [if_neg h, if_neg h']
        rfl
theorem oS_isN (l : Option Str) : isNon (oS l) = l.isNone := by cases l <;> rfl
theorem part_loop (h : P.Ok) (m : MV) : ∀ (xs : List MV) (l : Option Str) (t3 : Option (MV × Bool)), (∀ x, x ∈ xs → pln x = true) → (∀ p, l = some p → p ∈ P.pl) →
    (∃ l', chainO P l xs = some l' ∧ ∃ t3', forL ckT (gN 3) b1_is_part xs [fz (progM P), fz m, fz (oS l), t3] st = .ok (.nx, [fz (progM P), fz m, fz (oS l'), t3'], st)) ∨
    (chainO P l xs = none ∧ ∃ lo', forL ckT (gN 3) b1_is_part xs [fz (progM P), fz m, fz (oS l), t3] st = .ok (.rt (.bl false) .fz, lo', st))
  | [], l, t3, _, _ => .inl ⟨l, rfl, t3, forL_end⟩
  | x :: xs, l, t3, hp, hl => by
    have hx := hp x (List.mem_cons_self ..)
    have gdP := h.pl.good
    have w := whole_ok hx st
    cases e : stepAt P x with
    | none =>
      refine .inr ⟨by unfold chainO; rw [e], ?_⟩
      refine ⟨[fz (progM P), fz m, fz (oS l), fz x], ?_⟩
      refine forL_rt (lo1 := [fz (progM P), fz m, fz (oS l), fz x]) (st1 := st) rfl ?_
      have hb : b1_is_part [fz (progM P), fz m, fz (oS l), fz x] st = .ok (.rt (.bl false) .fz, [fz (progM P), fz m, fz (oS l), fz x], st) := by
        refine seq_rt (if_tt ?_ (ret_ok rfl))
        cases q : wh x with
        | false => rw [q] at w; exact or_tt (not_ok (b := false) (tv_ok (k := .fz) (callV (ms := [x]) rfl rfl w)))
        | true =>
          rw [q] at w
          obtain ⟨i, rfl⟩ := wh_int q
          have no := stepAt_no e
          refine or_ff (st1 := st) (not_ok (b := true) (tv_ok (k := .fz) (callV (ms := [.int i]) rfl rfl w))) (not_ok (b := false) (tv_ok (k := .fz) ?_))
          have hf : mFld "steps" (inB ["Program"]) noB (mVar 0) [fz (progM P), fz m, fz (oS l), fz (.int i)] st = .ok (.tup (mvM P), .fz, st) := fldSt rfl
          by_cases q0 : 0 ≤ i
          · have q1 : ¬ (i < (P.mv.length : Int)) := fun z => no ⟨q0, z⟩
            simp [-d_mFld, hf, mvM_len, q0, q1]
          · simp [q0]
      exact hb
    | some s =>
      obtain ⟨so, i, rfl, i0, i1, ia⟩ := stepAt_ok h e
      have hf : mFld "steps" (inB ["Program"]) noB (mVar 0) [fz (progM P), fz m, fz (oS l), fz (.int i)] st = .ok (.tup (mvM P), .fz, st) := fldSt rfl
      have hs : mOp gIx (mFld "steps" (inB ["Program"]) noB (mVar 0)) (mVar 3) [fz (progM P), fz m, fz (oS l), fz (.int i)] st = .ok (mM s, .fz, st) := ixOk hf rfl ia
      have c1 : mOr (mNotT (mTv (mCall 1 M_is_whole [] (mCons (mVar 3) mNil)))) (mNotT (mTv (mChain gLe gLt (mC (.int 0)) (mVar 3) (mCallB gLen (mCons (mFld "steps" (inB ["Program"]) noB (mVar 0)) mNil))))) [fz (progM P), fz m, fz (oS l), fz (.int i)] st = .ok (false, st) := by
        refine or_ff (st1 := st) (not_ok (b := true) (tv_ok (k := .fz) (callV (ms := [.int i]) rfl rfl w))) (not_ok (b := true) (tv_ok (k := .fz) ?_))
        simp [-d_mFld, hf, mvM_len, i0, i1]
      by_cases q : l = none ∨ l = some s.p
      · have hb : b1_is_part [fz (progM P), fz m, fz (oS l), fz (.int i)] st = .ok (.nx, [fz (progM P), fz m, fz (oS (some s.o)), fz (.int i)], st) := by
          refine seq_ok (if_ff c1 rfl) (seq_ok (lo1 := [fz (progM P), fz m, fz (oS l), fz (.int i)]) (st1 := st) (if_ff (st1 := st) ?_ rfl) (set_ok (k := .fz) (opV hs rfl (ix3 s)) rfl))
          rcases q with rfl | rfl
          · exact and_ff (tv_ok (k := .fz) rfl)
          · refine and_tt (st1 := st) (tv_ok (k := .fz) rfl) (tv_ok (k := .fz) (opV (opV hs rfl (ix0 s)) rfl ?_))
            have := eqS (neg := true) (st := st) (gdP _ so.p) (gdP _ so.p)
            simpa [oS] using this
        have hc : chainO P l (.int i :: xs) = chainO P (some s.o) xs := by
          show (match stepAt P (.int i) with | some s => _ | none => _) = _
          rw [e]; exact if_pos q
        rw [hc]
        have step : ∀ r, forL ckT (gN 3) b1_is_part xs [fz (progM P), fz m, fz (oS (some s.o)), fz (.int i)] st = r → forL ckT (gN 3) b1_is_part (.int i :: xs) [fz (progM P), fz m, fz (oS l), t3] st = r := by
          intro r hr
          exact forL_nx (lo1 := [fz (progM P), fz m, fz (oS l), fz (.int i)]) (st1 := st) rfl hb hr
        rcases part_loop h m xs (some s.o) (fz (.int i)) (fun y hy => hp y (List.mem_cons_of_mem _ hy)) (fun p hq => by cases hq; exact so.o) with ⟨l', a1, t3', a2⟩ | ⟨a1, lo', a2⟩
        · exact .inl ⟨l', a1, t3', step _ a2⟩
        · exact .inr ⟨a1, lo', step _ a2⟩
      · have hc : chainO P l (.int i :: xs) = none := by
          show (match stepAt P (.int i) with | some s => _ | none => _) = _
          rw [e]; exact if_neg q
        refine .inr ⟨hc, [fz (progM P), fz m, fz (oS l), fz (.int i)], ?_⟩
        refine forL_rt (lo1 := [fz (progM P), fz m, fz (oS l), fz (.int i)]) (st1 := st) rfl ?_
        have hb : b1_is_part [fz (progM P), fz m, fz (oS l), fz (.int i)] st = .ok (.rt (.bl false) .fz, [fz (progM P), fz m, fz (oS l), fz (.int i)], st) := by
          refine seq_ok (if_ff c1 rfl) (seq_rt (if_tt (st1 := st) ?_ (ret_ok rfl)))
          cases l with
          | none => exact absurd (.inl rfl) q
          | some p =>
            have hne : ¬ (s.p = p) := fun z => q (.inr (by rw [z]))
            refine and_tt (st1 := st) (tv_ok (k := .fz) rfl) (tv_ok (k := .fz) (opV (opV hs rfl (ix0 s)) rfl ?_))
            have := eqS (neg := true) (st := st) (gdP _ so.p) (gdP p (hl p rfl))
            simpa [hne, oS] using this
        exact hb
theorem orV_tt {f g : EF} {lo : Lo} {st st1 : Sto} {k} (h : f lo st = .ok (.bl true, k, st1)) : mOrV f g lo st = .ok (.bl true, .fz, st1) := by rw [d_mOrV, h]; rfl
theorem orV_ff {f g : EF} {lo : Lo} {st st1 : Sto} {k r} (h : f lo st = .ok (.bl false, k, st1)) (h2 : g lo st1 = r) : mOrV f g lo st = r := by rw [d_mOrV, h]; exact h2
theorem andV_tt {f g : EF} {lo : Lo} {st st1 : Sto} {k r} (h : f lo st = .ok (.bl true, k, st1)) (h2 : g lo st1 = r) : mAndV f g lo st = r := by rw [d_mAndV, h]; exact h2
theorem andV_ff {f g : EF} {lo : Lo} {st st1 : Sto} {k} (h : f lo st = .ok (.bl false, k, st1)) : mAndV f g lo st = .ok (.bl false, .fz, st1) := by rw [d_mAndV, h]; rfl
def partB (P : Prog) : MV → Bool
  | .tup [.int t, .lst (x :: xs)] => decide (1 ≤ t) && (match stepAt P x with
    | some s => (match chain P s.p (x :: xs) with
      | some q => decide (t = 1) || decide (s.p = q)
      | none => false)
    | none => false)
  | _ => false
theorem atI_0 {α : Type} (x : α) (xs : List α) : atI (x :: xs) 0 = some x := by unfold atI ixN; simp
theorem chain_mem (h : P.Ok) {q : Str} : ∀ (xs : List MV) (p : Str), p ∈ P.pl → chain P p xs = some q → q ∈ P.pl
  | [], p, hp, e => by cases e; exact hp
  | y :: ys, p, hp, e => by
    unfold chain at e
    cases e2 : stepAt P y with
    | none => rw [e2] at e; cases e
    | some s2 =>
      rw [e2] at e
      simp only at e
      split at e
      · exact chain_mem h ys _ (stepAt_ok h e2).1.o e
      · cases e
theorem partB_no1 {a b : MV} (h : wh a = false) : partB P (.tup [a, b]) = false := by cases a <;> first | rfl | (exact Bool.noConfusion h)
theorem isPart_ok (h : P.Ok) {m : MV} (hm : PartG m) : M_is_part [progM P, m] st = .ok (.bl (partB P m), false, st) := by
  obtain ⟨hp, hx⟩ := hm
  cases m with
  | tup zs =>
    have hz := hx zs rfl
    match zs, hz with
    | [], _ => simp [M_is_part, d_runF, startM, g_is_part, tyAns, isT, tys7, eqI, partB]
    | [_], _ => simp [M_is_part, d_runF, startM, g_is_part, tyAns, isT, tys7, eqI, partB]
    | _ :: _ :: _ :: r, _ =>
      have e : ((r.length : Int) + 1 + 1 + 1 == 2) = false := by simp; omega
      simp [M_is_part, d_runF, startM, g_is_part, tyAns, isT, tys7, eqI, partB, e]
    | [a, b], hz =>
      obtain ⟨pa, _⟩ := hz a (by simp)
      obtain ⟨pb, gb⟩ := hz b (by simp)
      have y0 : atI [a, b] 0 = some a := rfl
      have y1 : atI [a, b] 1 = some b := rfl
      have wa := callR_ok [fz (progM P), fz (.tup [a, b]), none, none] st (whole_ok pa st)
      cases qa : wh a with
      | false =>
        rw [partB_no1 qa]
        rw [qa] at wa
        simp [M_is_part, d_runF, startM, g_is_part, tyAns, isT, tys7, eqI, y0, wa]
      | true =>
        rw [qa] at wa
        obtain ⟨t, rfl⟩ := wh_int qa
        by_cases t1 : t < 1
        · have e : partB P (.tup [.int t, b]) = false := by
            have h1 : decide (1 ≤ t) = false := by simp; omega
            unfold partB
            split
            · rename_i e2; cases e2; rw [h1]; rfl
            · rfl
          rw [e]
          simp [M_is_part, d_runF, startM, g_is_part, tyAns, isT, tys7, eqI, y0, wa, t1]
        · cases b with
          | lst ys =>
            have gy := gb ys rfl
            cases ys with
            | nil =>
              have en := eqNil (neg := false) gy st
              simp [M_is_part, d_runF, startM, g_is_part, tyAns, isT, tys7, eqI, y0, y1, wa, t1, en, partB]
            | cons x xs =>
              have en := eqNil (neg := false) gy st
              have hpl : ∀ y, y ∈ x :: xs → pln y = true := fun y hy => gd_pln (List.all_eq_true.mp (show (x :: xs).all (gd 11) = true from gy) y hy)
              have d1 : decide (1 ≤ t) = true := by simp; omega
              have t1' : ¬ (t < 1) := t1
              have c1 : mOr (mNotT (mTv (mIsi (isT "tuple") noC noC (mVar 1)))) (mOr (mTv (mOp (gEqB true) (mCallB gLen (mCons (mVar 1) mNil)) (mC (.int 2)))) (mOr (mNotT (mTv (mCall 1 M_is_whole [] (mCons (mOp gIx (mVar 1) (mC (.int 0))) mNil)))) (mTv (mOp gLt (mOp gIx (mVar 1) (mC (.int 0))) (mC (.int 1))))))
                  [fz (progM P), fz (.tup [.int t, .lst (x :: xs)]), none, none] st = .ok (false, st) := by
                simp [tyAns, isT, tys7, eqI, y0, wa, t1]
              have c2 : mOr (mNotT (mTv (mIsi (isT "list") noC noC (mOp gIx (mVar 1) (mC (.int 1)))))) (mTv (mOp (gEqB false) (mOp gIx (mVar 1) (mC (.int 1))) (mLst mNil)))
                  [fz (progM P), fz (.tup [.int t, .lst (x :: xs)]), none, none] st = .ok (false, st) := by
                simp [tyAns, isT, tys7, y1, en]
              have hit : iSeq (mOp gIx (mVar 1) (mC (.int 1))) [fz (progM P), fz (.tup [.int t, .lst (x :: xs)]), fz .non, none] st = .ok (x :: xs, ckT, st) := iSeq_lst (k := .fz) (ixOk (i := 1) rfl rfl rfl) rfl
              rcases part_loop (st := st) h (.tup [.int t, .lst (x :: xs)]) (x :: xs) none none hpl (fun p z => nomatch z) with ⟨l', a1, t3, a2⟩ | ⟨a1, lo', a2⟩
              · -- the chain holds
                obtain ⟨s, es, ec⟩ : ∃ s, stepAt P x = some s ∧ chainO P (some s.p) (x :: xs) = some l' := by
                  unfold chainO at a1
                  cases e : stepAt P x with
                  | none => rw [e] at a1; cases a1
                  | some s =>
                    rw [e] at a1
                    refine ⟨s, rfl, ?_⟩
                    unfold chainO
                    rw [e]
                    simpa using a1
                rw [chainO_some] at ec
                obtain ⟨q, eq, rfl⟩ := Option.map_eq_some_iff.mp ec
                obtain ⟨so, i, rfl, i0, i1, ia⟩ := stepAt_ok h es
                have hq : q ∈ P.pl := by
                  exact chain_mem h _ _ so.p eq
                have val : partB P (.tup [.int t, .lst (.int i :: xs)]) = (decide (t = 1) || decide (s.p = q)) := by
                  show (decide (1 ≤ t) && _) = _
                  rw [d1, es]
                  simp only [eq, Bool.true_and]
                rw [val]
                unfold M_is_part g_is_part
                refine runF_own (k := .fz) (lo0 := [fz (progM P), fz (.tup [.int t, .lst (.int i :: xs)]), none, none]) (lo := [fz (progM P), fz (.tup [.int t, .lst (.int i :: xs)]), fz (oS (some q)), t3]) rfl
                  (seq_ok (if_ff c1 rfl) (seq_ok (if_ff c2 rfl) (seq_ok (lo1 := [fz (progM P), fz (.tup [.int t, .lst (.int i :: xs)]), fz .non, none]) (st1 := st) rfl (seq_ok (for_ok hit a2) (ret_ok ?_))))) rfl
                have e0 : mOp (gEqB false) (mOp gIx (mVar 1) (mC (.int 0))) (mC (.int 1)) [fz (progM P), fz (.tup [.int t, .lst (.int i :: xs)]), fz (oS (some q)), t3] st = .ok (.bl (decide (t = 1)), .fz, st) := by
                  refine opV (ixOk (i := 0) rfl rfl rfl) rfl ?_
                  have := eqI false st t 1
                  simp only [vw_int, this]
                  by_cases z : t = 1
                  · subst z; rfl
                  · simp [z]
                by_cases z : t = 1
                · rw [decide_eq_true z] at e0 ⊢
                  exact orV_tt e0
                · rw [decide_eq_false z] at e0 ⊢
                  refine orV_ff e0 ?_
                  have hf : mFld "steps" (inB ["Program"]) noB (mVar 0) [fz (progM P), fz (.tup [.int t, .lst (.int i :: xs)]), fz (oS (some q)), t3] st = .ok (.tup (mvM P), .fz, st) := fldSt rfl
                  refine opV (opV (ixOk hf (opV (ixOk (i := 1) rfl rfl rfl) rfl (ixL (i := 0) (atI_0 _ _))) ia) rfl (ix0 s)) rfl ?_
                  have := eqS (neg := false) (st := st) (h.pl.good _ so.p) (h.pl.good _ hq)
                  simpa [oS] using this
              · have val : partB P (.tup [.int t, .lst (x :: xs)]) = false := by
                  show (decide (1 ≤ t) && _) = _
                  rw [d1]
                  cases e : stepAt P x with
                  | none => rfl
                  | some s =>
                    have : chainO P (some s.p) (x :: xs) = none := by
                      unfold chainO at a1 ⊢
                      rw [e] at a1 ⊢
                      simpa using a1
                    rw [chainO_some] at this
                    cases e3 : chain P s.p (x :: xs) with
                    | none => simp [e3]
                    | some q => rw [e3] at this; cases this
                rw [val]
                unfold M_is_part g_is_part
                exact runF_own (k := .fz) (lo0 := [fz (progM P), fz (.tup [.int t, .lst (x :: xs)]), none, none]) (lo := lo') rfl
                  (seq_ok (if_ff c1 rfl) (seq_ok (if_ff c2 rfl) (seq_ok (lo1 := [fz (progM P), fz (.tup [.int t, .lst (x :: xs)]), fz .non, none]) (st1 := st) rfl (seq_rt (for_ok hit a2))))) rfl
          | _ => first | (exact Bool.noConfusion pb) | simp [M_is_part, d_runF, startM, g_is_part, tyAns, isT, tys7, eqI, y0, y1, wa, t1, partB]
  | _ => first | (exact Bool.noConfusion hp) | simp [M_is_part, d_runF, startM, g_is_part, tyAns, isT, tys7, partB]
end
end FL

namespace FL
open PySem L2 PySem.Spec PyProof.Rows FW

section
variable {P : Prog} {st : Sto}
theorem partEnd_eq (p : Str) (t : Int) (x : MV) (xs : List MV) : partEnd P p (.tup [.int t, .lst (x :: xs)]) = if 1 ≤ t then (match chain P p (x :: xs) with | some q => if 1 < t ∧ q ≠ p then none else some q | none => none) else none := rfl
theorem partB_spec {m : MV} (hb : partB P m = true) : ∃ t x xs s q, m = .tup [.int t, .lst (x :: xs)] ∧ 1 ≤ t ∧ stepAt P x = some s ∧ chain P s.p (x :: xs) = some q ∧ (t = 1 ∨ s.p = q) := by
  unfold partB at hb
  split at hb
  · rename_i t x xs
    rw [Bool.and_eq_true, decide_eq_true_eq] at hb
    obtain ⟨h1, hb⟩ := hb
    cases e : stepAt P x with
    | none => rw [e] at hb; cases hb
    | some s =>
      rw [e] at hb
      simp only at hb
      cases e2 : chain P s.p (x :: xs) with
      | none => rw [e2] at hb; cases hb
      | some q =>
        rw [e2] at hb
        simp only [Bool.or_eq_true, decide_eq_true_eq] at hb
        exact ⟨t, x, xs, s, q, rfl, h1, e, e2, hb⟩
  · cases hb
theorem partEnd_no {m : MV} {p : Str} (hb : partB P m = false) : partEnd P p m = none := by
  cases e : partEnd P p m with
  | none => rfl
  | some r =>
    exfalso
    unfold partEnd at e
    split at e
    · rename_i t x xs
      split at e
      · rename_i h1
        cases e2 : chain P p (x :: xs) with
        | none => rw [e2] at e; cases e
        | some q =>
          rw [e2] at e
          simp only at e
          split at e
          · cases e
          · rename_i hq
            cases e3 : stepAt P x with
            | none => unfold chain at e2; rw [e3] at e2; cases e2
            | some s =>
              have hs : s.p = p := by
                unfold chain at e2
                rw [e3] at e2
                simp only at e2
                split at e2
                · assumption
                · cases e2
              have : partB P (.tup [.int t, .lst (x :: xs)]) = true := by
                show (decide (1 ≤ t) && (match stepAt P x with | some s => _ | none => _)) = true
                rw [e3]
                simp only [hs, e2]
                simp only [h1, decide_true, Bool.true_and, Bool.or_eq_true, decide_eq_true_eq]
                by_cases z : t = 1
                · exact .inl z
                · right
                  have : 1 < t := by omega
                  by_cases w : q = p
                  · exact w.symm
                  · exact absurd ⟨this, w⟩ hq
              rw [this] at hb; cases hb
      · cases e
    · cases e
theorem partEnd_yes {p q : Str} {t : Int} {x : MV} {xs : List MV} {s : Move} (h1 : 1 ≤ t) (e : stepAt P x = some s) (ec : chain P s.p (x :: xs) = some q) (ht : t = 1 ∨ s.p = q) : partEnd P p (.tup [.int t, .lst (x :: xs)]) = if s.p = p then some q else none := by
  by_cases hp : s.p = p
  · subst hp
    rw [if_pos rfl]
    rw [partEnd_eq, if_pos h1, ec]
    simp only
    rw [if_neg]
    rintro ⟨a, b⟩
    rcases ht with z | z
    · omega
    · exact b z.symm
  · rw [if_neg hp]
    rw [partEnd_eq, if_pos h1]
    have : chain P p (x :: xs) = none := by
      unfold chain
      rw [e]
      simp only [if_neg hp]
    rw [this]
theorem chain_last {q : Str} : ∀ (xs : List MV) (x : MV) (p : Str), chain P p (x :: xs) = some q → ∃ s, stepAt P ((x :: xs).getLast (by simp)) = some s ∧ s.o = q
  | [], x, p, e => by
    unfold chain at e
    cases e2 : stepAt P x with
    | none => rw [e2] at e; cases e
    | some s =>
      rw [e2] at e
      simp only at e
      split at e
      · unfold chain at e
        exact ⟨s, e2, Option.some.inj e⟩
      · cases e
  | y :: ys, x, p, e => by
    unfold chain at e
    cases e2 : stepAt P x with
    | none => rw [e2] at e; cases e
    | some s =>
      rw [e2] at e
      simp only at e
      split at e
      · rw [List.getLast_cons (by simp)]
        exact chain_last ys y _ e
      · cases e
theorem atI_m1 {α : Type} (x : α) (xs : List α) : atI (x :: xs) (-1) = some ((x :: xs).getLast (by simp)) := by
  have h : (x :: xs) ≠ [] := by simp
  have e : ixN (x :: xs).length (-1) = some xs.length := by
    show ixN (xs.length + 1) (-1) = _
    unfold ixN
    rw [if_neg (by decide)]
    split
    · congr 1; omega
    · omega
  unfold atI
  rw [e]
  show (x :: xs)[xs.length]? = _
  rw [List.getLast_eq_getElem]
  simp
abbrev LE (P : Prog) (p : Str) (v : MV) (l : Str) (t : Option (MV × Bool)) : Lo := [fz (progM P), fz (.str p), fz v, fz (.str l), t]
theorem end_loop (h : P.Ok) (p0 : Str) (v : MV) : ∀ (xs : List MV) (p : Str) (t : Option (MV × Bool)), (∀ x, x ∈ xs → PartG x) → p ∈ P.pl →
    (∃ q, rowEnd P p xs = some q ∧ ∃ t', forL ckT (gN 4) b1_end_of xs (LE P p0 v p t) st = .ok (.nx, LE P p0 v q t', st)) ∨
    (rowEnd P p xs = none ∧ ∃ lo', forL ckT (gN 4) b1_end_of xs (LE P p0 v p t) st = .ok (.rt .non .fz, lo', st))
  | [], p, t, _, _ => .inl ⟨p, rfl, t, forL_end⟩
  | x :: xs, p, t, hx, hp => by
    have ip := isPart_ok (st := st) h (hx x (List.mem_cons_self ..))
    have hc : mTv (mCall 2 M_is_part [] (mCons (mVar 0) (mCons (mVar 4) mNil))) (LE P p0 v p (fz x)) st = .ok (partB P x, st) := tv_ok (k := .fz) (callV (ms := [progM P, x]) rfl rfl ip)
    cases hb : partB P x with
    | false =>
      rw [hb] at hc
      refine .inr ⟨by unfold rowEnd; rw [partEnd_no hb], LE P p0 v p (fz x), ?_⟩
      exact forL_rt (lo1 := LE P p0 v p (fz x)) (st1 := st) rfl (seq_rt (if_tt (or_tt (not_ok hc)) (ret_ok rfl)))
    | true =>
      rw [hb] at hc
      obtain ⟨n, y, ys, s, q, rfl, h1, es, ec, ht⟩ := partB_spec hb
      obtain ⟨so, i, rfl, i0, i1, ia⟩ := stepAt_ok h es
      have hq := chain_mem h _ _ so.p ec
      have pe := partEnd_yes (p := p) h1 es ec ht
      have hf : mFld "steps" (inB ["Program"]) noB (mVar 0) (LE P p0 v p (fz (.tup [.int n, .lst (.int i :: ys)]))) st = .ok (.tup (mvM P), .fz, st) := fldSt rfl
      have e1 : mOp (gEqB true) (mOp gIx (mOp gIx (mFld "steps" (inB ["Program"]) noB (mVar 0)) (mOp gIx (mOp gIx (mVar 4) (mC (.int 1))) (mC (.int 0)))) (mC (.int 0))) (mVar 3) (LE P p0 v p (fz (.tup [.int n, .lst (.int i :: ys)]))) st = .ok (.bl (!decide (s.p = p)), .fz, st) := by
        refine opV (opV (ixOk hf (opV (ixOk (i := 1) rfl rfl rfl) rfl (ixL (i := 0) (atI_0 _ _))) ia) rfl (ix0 s)) rfl ?_
        have := eqS (neg := true) (st := st) (h.pl.good _ so.p) (h.pl.good _ hp)
        simpa using this
      by_cases hsp : s.p = p
      · rw [decide_eq_true hsp] at e1
        rw [if_pos hsp] at pe
        obtain ⟨s2, es2, eo⟩ := chain_last ys (.int i) s.p ec
        obtain ⟨so2, j, ej, j0, j1, ja⟩ := stepAt_ok h es2
        have e2 : mOp gIx (mOp gIx (mFld "steps" (inB ["Program"]) noB (mVar 0)) (mOp gIx (mOp gIx (mVar 4) (mC (.int 1))) (mUn gNeg (mC (.int 1))))) (mC (.int 3)) (LE P p0 v p (fz (.tup [.int n, .lst (.int i :: ys)]))) st = .ok (.str q, .fz, st) := by
          have hl : mOp gIx (mOp gIx (mVar 4) (mC (.int 1))) (mUn gNeg (mC (.int 1))) (LE P p0 v p (fz (.tup [.int n, .lst (.int i :: ys)]))) st = .ok (.int j, .fz, st) := by
            refine opV (b := .int (-1)) (ixOk (i := 1) rfl rfl rfl) rfl ?_
            rw [← ej]
            exact ixL (i := -1) (atI_m1 _ _)
          rw [← eo]
          exact opV (ixOk hf hl ja) rfl (ix3 s2)
        have hbd : b1_end_of (LE P p0 v p (fz (.tup [.int n, .lst (.int i :: ys)]))) st = .ok (.nx, LE P p0 v q (fz (.tup [.int n, .lst (.int i :: ys)])), st) :=
          seq_ok (if_ff (or_ff (not_ok hc) (tv_ok e1)) rfl) (set_ok e2 rfl)
        have hr : rowEnd P p (.tup [.int n, .lst (.int i :: ys)] :: xs) = rowEnd P q xs := by
          show (match partEnd P p _ with | some q => _ | none => _) = _
          rw [pe]
        rw [hr]
        rcases end_loop h p0 v xs q (fz (.tup [.int n, .lst (.int i :: ys)])) (fun y hy => hx y (List.mem_cons_of_mem _ hy)) hq with ⟨r, a1, t', a2⟩ | ⟨a1, lo', a2⟩
        · exact .inl ⟨r, a1, t', forL_nx rfl hbd a2⟩
        · exact .inr ⟨a1, lo', forL_nx rfl hbd a2⟩
      · rw [decide_eq_false hsp] at e1
        rw [if_neg hsp] at pe
        refine .inr ⟨?_, LE P p0 v p (fz (.tup [.int n, .lst (.int i :: ys)])), ?_⟩
        · show (match partEnd P p _ with | some q => _ | none => _) = _
          rw [pe]
        · exact forL_rt (lo1 := LE P p0 v p (fz (.tup [.int n, .lst (.int i :: ys)]))) (st1 := st) rfl (seq_rt (if_tt (or_ff (not_ok hc) (tv_ok e1)) (ret_ok rfl)))
theorem endOf_ok (h : P.Ok) {p : Str} (hp : p ∈ P.pl) {m : MV} (hm : RowG m) : M_end_of [progM P, .str p, m] st = .ok (oS (rowEndM P p m), false, st) := by
  obtain ⟨h1, h2⟩ := hm
  cases m with
  | lst xs =>
    rcases end_loop (st := st) h p (.lst xs) xs p none (h2 xs rfl) hp with ⟨q, a1, t', a2⟩ | ⟨a1, lo', a2⟩
    · have e : rowEndM P p (.lst xs) = some q := a1
      rw [e]
      unfold M_end_of g_end_of
      exact runF_own (k := .fz) (lo0 := [fz (progM P), fz (.str p), fz (.lst xs), none, none]) (lo := LE P p (.lst xs) q t') rfl
        (seq_ok (lo1 := [fz (progM P), fz (.str p), fz (.lst xs), none, none]) (st1 := st) (by simp [tyAns, isT, tys7]) (seq_ok (lo1 := LE P p (.lst xs) p none) (st1 := st) rfl (seq_ok (for_ok (iSeq_lst (k := .fz) (xs := xs) (st1 := st) rfl rfl) a2) (ret_ok rfl)))) rfl
    · have e : rowEndM P p (.lst xs) = none := a1
      rw [e]
      unfold M_end_of g_end_of
      exact runF_own (k := .fz) (lo0 := [fz (progM P), fz (.str p), fz (.lst xs), none, none]) (lo := lo') rfl
        (seq_ok (lo1 := [fz (progM P), fz (.str p), fz (.lst xs), none, none]) (st1 := st) (by simp [tyAns, isT, tys7]) (seq_ok (lo1 := LE P p (.lst xs) p none) (st1 := st) rfl (seq_rt (for_ok (iSeq_lst (k := .fz) (xs := xs) (st1 := st) rfl rfl) a2)))) rfl
  | _ => first | (exact Bool.noConfusion h1) | simp [M_end_of, d_runF, startM, g_end_of, tyAns, isT, tys7, rowEndM, oS]
end
end FL

namespace FL
open PySem L2 PySem.Spec PyProof.Rows FW

section
variable {P : Prog} {st : Sto}
abbrev LL (P : Prog) (a b : Option (MV × Bool)) (p : Str) (t4 t5 t6 : Option (MV × Bool)) : Lo := [fz (partsM P), a, b, fz (.str p), t4, t5, t6]
theorem parts1 {lo : Lo} {f : EF} (h : f lo st = .ok (partsM P, .fz, st)) : mOp gIx f (mC (.int 1)) lo st = .ok (.lst (mvM P), .fz, st) := ixLk (i := 1) h rfl rfl
theorem parts0 {lo : Lo} {f : EF} (h : f lo st = .ok (partsM P, .fz, st)) : mOp gIx f (mC (.int 0)) lo st = .ok (.lst (plM P), .fz, st) := ixLk (i := 0) h rfl rfl
theorem lchain_loop (h : P.Ok) (a b t4 t5 : Option (MV × Bool)) : ∀ (xs : List MV) (p : Str) (t6 : Option (MV × Bool)), (∀ x, x ∈ xs → pln x = true) → p ∈ P.pl →
    (∃ q, chain P p xs = some q ∧ ∃ t', forL ckT (gN 6) b2_law_last xs (LL P a b p t4 t5 t6) st = .ok (.nx, LL P a b q t4 t5 t', st)) ∨
    (chain P p xs = none ∧ ∃ lo', forL ckT (gN 6) b2_law_last xs (LL P a b p t4 t5 t6) st = .ok (.rt .non .fz, lo', st))
  | [], p, t6, _, _ => .inl ⟨p, rfl, t6, forL_end⟩
  | x :: xs, p, t6, hp, hl => by
    have hx := hp x (List.mem_cons_self ..)
    have w := lwhole_ok hx st
    have hmv : mOp gIx (mVar 0) (mC (.int 1)) (LL P a b p t4 t5 (fz x)) st = .ok (.lst (mvM P), .fz, st) := parts1 rfl
    cases e : stepAt P x with
    | none =>
      refine .inr ⟨by unfold chain; rw [e], LL P a b p t4 t5 (fz x), forL_rt (lo1 := LL P a b p t4 t5 (fz x)) (st1 := st) rfl (seq_rt (if_tt (st1 := st) ?_ (ret_ok rfl)))⟩
      cases q : wh x with
      | false => rw [q] at w; exact or_tt (not_ok (b := false) (tv_ok (k := .fz) (callV (ms := [x]) rfl rfl w)))
      | true =>
        rw [q] at w
        obtain ⟨i, rfl⟩ := wh_int q
        have no := stepAt_no e
        refine or_ff (st1 := st) (not_ok (b := true) (tv_ok (k := .fz) (callV (ms := [.int i]) rfl rfl w))) (or_tt (not_ok (b := false) (tv_ok (k := .fz) ?_)))
        by_cases q0 : 0 ≤ i
        · have q1 : ¬ (i < (P.mv.length : Int)) := fun z => no ⟨q0, z⟩
          simp [-d_mOp, hmv, mvM_len, q0, q1]
        · simp [q0]
    | some s =>
      obtain ⟨so, i, rfl, i0, i1, ia⟩ := stepAt_ok h e
      have hs : mOp gIx (mOp gIx (mVar 0) (mC (.int 1))) (mVar 6) (LL P a b p t4 t5 (fz (.int i))) st = .ok (mM s, .fz, st) := ixLk hmv rfl ia
      have e1 : mOp (gEqB true) (mOp gIx (mOp gIx (mOp gIx (mVar 0) (mC (.int 1))) (mVar 6)) (mC (.int 0))) (mVar 3) (LL P a b p t4 t5 (fz (.int i))) st = .ok (.bl (!decide (s.p = p)), .fz, st) := by
        refine opV (opV hs rfl (ix0 s)) rfl ?_
        have := eqS (neg := true) (st := st) (h.pl.good _ so.p) (h.pl.good _ hl)
        simpa using this
      have c1 : ∀ r, mTv (mOp (gEqB true) (mOp gIx (mOp gIx (mOp gIx (mVar 0) (mC (.int 1))) (mVar 6)) (mC (.int 0))) (mVar 3)) (LL P a b p t4 t5 (fz (.int i))) st = r → mOr (mNotT (mTv (mCall 1 M_law_is_whole [] (mCons (mVar 6) mNil)))) (mOr (mNotT (mTv (mChain gLe gLt (mC (.int 0)) (mVar 6) (mCallB gLen (mCons (mOp gIx (mVar 0) (mC (.int 1))) mNil))))) (mTv (mOp (gEqB true) (mOp gIx (mOp gIx (mOp gIx (mVar 0) (mC (.int 1))) (mVar 6)) (mC (.int 0))) (mVar 3))))
          (LL P a b p t4 t5 (fz (.int i))) st = r := by
        intro r hr
        refine or_ff (st1 := st) (not_ok (b := true) (tv_ok (k := .fz) (callV (ms := [.int i]) rfl rfl w))) (or_ff (st1 := st) (not_ok (b := true) (tv_ok (k := .fz) ?_)) hr)
        simp [-d_mOp, hmv, mvM_len, i0, i1]
      by_cases q : s.p = p
      · rw [decide_eq_true q] at e1
        have hb : b2_law_last (LL P a b p t4 t5 (fz (.int i))) st = .ok (.nx, LL P a b s.o t4 t5 (fz (.int i)), st) :=
          seq_ok (if_ff (c1 _ (tv_ok e1)) rfl) (set_ok (k := .fz) (opV hs rfl (ix3 s)) rfl)
        have hc : chain P p (.int i :: xs) = chain P s.o xs := by
          show (match stepAt P (.int i) with | some s => _ | none => _) = _
          rw [e]; exact if_pos q
        rw [hc]
        rcases lchain_loop h a b t4 t5 xs s.o (fz (.int i)) (fun y hy => hp y (List.mem_cons_of_mem _ hy)) so.o with ⟨r, a1, t', a2⟩ | ⟨a1, lo', a2⟩
        · exact .inl ⟨r, a1, t', forL_nx rfl hb a2⟩
        · exact .inr ⟨a1, lo', forL_nx rfl hb a2⟩
      · rw [decide_eq_false q] at e1
        refine .inr ⟨?_, LL P a b p t4 t5 (fz (.int i)), forL_rt (lo1 := LL P a b p t4 t5 (fz (.int i))) (st1 := st) rfl (seq_rt (if_tt (c1 _ (tv_ok e1)) (ret_ok rfl)))⟩
        show (match stepAt P (.int i) with | some s => _ | none => _) = _
        rw [e]; exact if_neg q
theorem partEnd_no1 {p : Str} {a b : MV} (h : wh a = false) : partEnd P p (.tup [a, b]) = none := by cases a <;> first | rfl | (exact Bool.noConfusion h)
theorem partEnd_no2 {p : Str} {t : Int} {b : MV} (h : t < 1) : partEnd P p (.tup [.int t, b]) = none := by
  cases b with
  | lst ys => cases ys with
    | nil => rfl
    | cons y ys => rw [partEnd_eq, if_neg (by omega)]
  | _ => rfl
theorem lpart_ok (h : P.Ok) (a b : Option (MV × Bool)) {p : Str} (hp : p ∈ P.pl) {m : MV} (hm : PartG m) (t5 t6 : Option (MV × Bool)) :
    (∃ q, partEnd P p m = some q ∧ ∃ u5 u6, b1_law_last (LL P a b p (fz m) t5 t6) st = .ok (.nx, LL P a b q (fz m) u5 u6, st)) ∨
    (partEnd P p m = none ∧ ∃ lo', b1_law_last (LL P a b p (fz m) t5 t6) st = .ok (.rt .non .fz, lo', st)) := by
  obtain ⟨hpl, hx⟩ := hm
  cases m with
  | tup zs =>
    have hz := hx zs rfl
    match zs, hz with
    | [], _ => exact .inr ⟨rfl, _, seq_rt (if_tt (st1 := st) (by simp [LL, tyAns, isT, tys7, eqI]) (ret_ok rfl))⟩
    | [_], _ => exact .inr ⟨by unfold partEnd; split <;> first | rfl | (rename_i h; cases h), _, seq_rt (if_tt (st1 := st) (by simp [LL, tyAns, isT, tys7, eqI]) (ret_ok rfl))⟩
    | _ :: _ :: _ :: r, _ =>
      have e : ((r.length : Int) + 1 + 1 + 1 == 2) = false := by simp; omega
      exact .inr ⟨by unfold partEnd; split <;> first | rfl | (rename_i h; cases h), _, seq_rt (if_tt (st1 := st) (by simp [LL, tyAns, isT, tys7, eqI, e]) (ret_ok rfl))⟩
    | [c, d], hz =>
      obtain ⟨pc, _⟩ := hz c (by simp)
      obtain ⟨pd, gb⟩ := hz d (by simp)
      have y0 : atI [c, d] 0 = some c := rfl
      have y1 : atI [c, d] 1 = some d := rfl
      have wa := callR_ok (LL P a b p (fz (.tup [c, d])) t5 t6) st (lwhole_ok pc st)
      cases qa : wh c with
      | false =>
        rw [qa] at wa
        exact .inr ⟨partEnd_no1 qa, _, seq_rt (if_tt (st1 := st) (by simp [LL, tyAns, isT, tys7, eqI, y0] at wa ⊢; simp [wa]) (ret_ok rfl))⟩
      | true =>
        rw [qa] at wa
        obtain ⟨t, rfl⟩ := wh_int qa
        by_cases t1 : t < 1
        · exact .inr ⟨partEnd_no2 t1, _, seq_rt (if_tt (st1 := st) (by simp [LL, tyAns, isT, tys7, eqI, y0] at wa ⊢; simp [wa, t1]) (ret_ok rfl))⟩
        · have c1 : ∀ e5 e6, mOr (mNotT (mTv (mIsi (isT "tuple") noC noC (mVar 4)))) (mOr (mTv (mOp (gEqB true) (mCallB gLen (mCons (mVar 4) mNil)) (mC (.int 2)))) (mOr (mNotT (mTv (mCall 1 M_law_is_whole [] (mCons (mOp gIx (mVar 4) (mC (.int 0))) mNil)))) (mTv (mOp gLt (mOp gIx (mVar 4) (mC (.int 0))) (mC (.int 1))))))
              (LL P a b p (fz (.tup [.int t, d])) e5 e6) st = .ok (false, st) := by
            intro e5 e6
            have wa := callR_ok (LL P a b p (fz (.tup [.int t, d])) e5 e6) st (lwhole_ok (m := .int t) rfl st)
            simp [LL, tyAns, isT, tys7, eqI, y0, wh] at wa ⊢; simp [wa, t1]
          have nolist : (∀ ys, d ≠ .lst ys) → (partEnd P p (.tup [.int t, d]) = none ∧ ∃ lo', b1_law_last (LL P a b p (fz (.tup [.int t, d])) t5 t6) st = .ok (.rt .non .fz, lo', st)) := fun hn => by
            refine ⟨by cases d <;> first | rfl | exact absurd rfl (hn _), _, seq_ok (if_ff (c1 _ _) rfl) (seq_rt (if_tt (st1 := st) (or_tt ?_) (ret_ok rfl)))⟩
            cases d <;> first | (exact absurd rfl (hn _)) | (exact Bool.noConfusion pd) | simp [LL, tyAns, isT, tys7, y1]
          cases d with
          | lst ys =>
            have gy := gb ys rfl
            have en := eqNil (neg := false) gy st
            cases ys with
            | nil =>
              refine .inr ⟨rfl, _, seq_ok (if_ff (c1 _ _) rfl) (seq_rt (if_tt (st1 := st) (or_ff (st1 := st) (by simp [LL, tyAns, isT, tys7, y1]) ?_) (ret_ok rfl)))⟩
              simp [LL, y1, en]
            | cons x xs =>
              have hpl2 : ∀ y, y ∈ x :: xs → pln y = true := fun y hy => gd_pln (List.all_eq_true.mp (show (x :: xs).all (gd 11) = true from gy) y hy)
              have c2 : mOr (mNotT (mTv (mIsi (isT "list") noC noC (mOp gIx (mVar 4) (mC (.int 1)))))) (mTv (mOp (gEqB false) (mOp gIx (mVar 4) (mC (.int 1))) (mLst mNil))) (LL P a b p (fz (.tup [.int t, .lst (x :: xs)])) t5 t6) st = .ok (false, st) := by
                refine or_ff (st1 := st) (by simp [LL, tyAns, isT, tys7, y1]) ?_
                simp [LL, y1, en]
              have hit : iSeq (mOp gIx (mVar 4) (mC (.int 1))) (LL P a b p (fz (.tup [.int t, .lst (x :: xs)])) (fz (.str p)) t6) st = .ok (x :: xs, ckT, st) := iSeq_lst (k := .fz) (ixOk (i := 1) rfl rfl rfl) rfl
              rcases lchain_loop (st := st) h a b (fz (.tup [.int t, .lst (x :: xs)])) (fz (.str p)) (x :: xs) p t6 hpl2 hp with ⟨q, a1, t', a2⟩ | ⟨a1, lo', a2⟩
              · have hq := chain_mem h _ _ hp a1
                have val : partEnd P p (.tup [.int t, .lst (x :: xs)]) = if 1 < t ∧ q ≠ p then none else some q := by
                  rw [partEnd_eq, if_pos (by omega), a1]
                have e0 : mTv (mOp gGt (mOp gIx (mVar 4) (mC (.int 0))) (mC (.int 1))) (LL P a b q (fz (.tup [.int t, .lst (x :: xs)])) (fz (.str p)) t') st = .ok (decide (1 < t), st) := tv_ok (k := .fz) (opV (ixOk (i := 0) rfl rfl rfl) rfl rfl)
                have e1 : mTv (mOp (gEqB true) (mVar 3) (mVar 5)) (LL P a b q (fz (.tup [.int t, .lst (x :: xs)])) (fz (.str p)) t') st = .ok (!decide (q = p), st) := by
                  refine tv_ok (k := .fz) (opV (a := .str q) (b := .str p) rfl rfl ?_)
                  have := eqS (neg := true) (st := st) (h.pl.good _ hq) (h.pl.good _ hp)
                  simpa using this
                by_cases z1 : 1 < t
                · rw [decide_eq_true z1] at e0
                  by_cases z2 : q = p
                  · rw [decide_eq_true z2] at e1
                    rw [if_neg (fun z => z.2 z2)] at val
                    exact .inl ⟨q, val, _, _, seq_ok (if_ff (c1 _ _) rfl) (seq_ok (if_ff c2 rfl) (seq_ok (lo1 := LL P a b p (fz (.tup [.int t, .lst (x :: xs)])) (fz (.str p)) t6) (st1 := st) rfl (seq_ok (for_ok hit a2) (if_ff (and_tt e0 e1) rfl))))⟩
                  · rw [decide_eq_false z2] at e1
                    rw [if_pos ⟨z1, z2⟩] at val
                    exact .inr ⟨val, _, seq_ok (if_ff (c1 _ _) rfl) (seq_ok (if_ff c2 rfl) (seq_ok (lo1 := LL P a b p (fz (.tup [.int t, .lst (x :: xs)])) (fz (.str p)) t6) (st1 := st) rfl (seq_ok (for_ok hit a2) (if_tt (and_tt e0 e1) (ret_ok rfl)))))⟩
                · rw [decide_eq_false z1] at e0
                  rw [if_neg (fun z => z1 z.1)] at val
                  exact .inl ⟨q, val, _, _, seq_ok (if_ff (c1 _ _) rfl) (seq_ok (if_ff c2 rfl) (seq_ok (lo1 := LL P a b p (fz (.tup [.int t, .lst (x :: xs)])) (fz (.str p)) t6) (st1 := st) rfl (seq_ok (for_ok hit a2) (if_ff (and_ff e0) rfl))))⟩
              · have val : partEnd P p (.tup [.int t, .lst (x :: xs)]) = none := by
                  rw [partEnd_eq, if_pos (by omega), a1]
                exact .inr ⟨val, lo', seq_ok (if_ff (c1 _ _) rfl) (seq_ok (if_ff c2 rfl) (seq_ok (lo1 := LL P a b p (fz (.tup [.int t, .lst (x :: xs)])) (fz (.str p)) t6) (st1 := st) rfl (seq_rt (for_ok hit a2))))⟩
          | _ => exact .inr (nolist (fun ys z => by cases z))
  | _ => first | (exact Bool.noConfusion hpl) | exact .inr ⟨rfl, _, seq_rt (if_tt (st1 := st) (or_tt (by simp [LL, tyAns, isT, tys7])) (ret_ok rfl))⟩
theorem last_loop (h : P.Ok) (a b : Option (MV × Bool)) : ∀ (xs : List MV) (p : Str) (t4 t5 t6 : Option (MV × Bool)), (∀ x, x ∈ xs → PartG x) → p ∈ P.pl →
    (∃ q, rowEnd P p xs = some q ∧ ∃ u4 u5 u6, forL ckT (gN 4) b1_law_last xs (LL P a b p t4 t5 t6) st = .ok (.nx, LL P a b q u4 u5 u6, st)) ∨
    (rowEnd P p xs = none ∧ ∃ lo', forL ckT (gN 4) b1_law_last xs (LL P a b p t4 t5 t6) st = .ok (.rt .non .fz, lo', st))
  | [], p, t4, t5, t6, _, _ => .inl ⟨p, rfl, t4, t5, t6, forL_end⟩
  | x :: xs, p, t4, t5, t6, hx, hp => by
    rcases lpart_ok (st := st) h a b hp (hx x (List.mem_cons_self ..)) t5 t6 with ⟨q, a1, u5, u6, a2⟩ | ⟨a1, lo', a2⟩
    · have hr : rowEnd P p (x :: xs) = rowEnd P q xs := by
        show (match partEnd P p x with | some q => _ | none => _) = _
        rw [a1]
      have hq : q ∈ P.pl := by
        cases hb : partB P x with
        | false => rw [partEnd_no hb] at a1; cases a1
        | true =>
          obtain ⟨n, y, ys, s, q', rfl, h1, es, ec, ht⟩ := partB_spec hb
          rw [partEnd_yes h1 es ec ht] at a1
          split at a1
          · cases a1; exact chain_mem h _ _ (stepAt_ok h es).1.p ec
          · cases a1
      rw [hr]
      rcases last_loop h a b xs q (fz x) u5 u6 (fun y hy => hx y (List.mem_cons_of_mem _ hy)) hq with ⟨r, b1, u4, v5, v6, b2⟩ | ⟨b1, lo', b2⟩
      · exact .inl ⟨r, b1, u4, v5, v6, forL_nx (lo1 := LL P a b p (fz x) t5 t6) rfl a2 b2⟩
      · exact .inr ⟨b1, lo', forL_nx (lo1 := LL P a b p (fz x) t5 t6) rfl a2 b2⟩
    · refine .inr ⟨?_, lo', forL_rt (lo1 := LL P a b p (fz x) t5 t6) rfl a2⟩
      show (match partEnd P p x with | some q => _ | none => _) = _
      rw [a1]
theorem lastOf_ok (h : P.Ok) {p : Str} (hp : p ∈ P.pl) {m : MV} (hm : RowG m) : M_law_last [partsM P, .str p, m] st = .ok (oS (rowEndM P p m), false, st) := by
  obtain ⟨h1, h2⟩ := hm
  unfold M_law_last g_law_last
  cases m with
  | lst xs =>
    rcases last_loop (st := st) h (fz (.str p)) (fz (.lst xs)) xs p none none none (h2 xs rfl) hp with ⟨q, a1, u4, u5, u6, a2⟩ | ⟨a1, lo', a2⟩
    · have e : rowEndM P p (.lst xs) = some q := a1
      rw [e]
      exact runF_own (k := .fz) (lo0 := [fz (partsM P), fz (.str p), fz (.lst xs), none, none, none, none]) (lo := LL P (fz (.str p)) (fz (.lst xs)) q u4 u5 u6) rfl
        (seq_ok (lo1 := LL P (fz (.str p)) (fz (.lst xs)) p none none none) (st1 := st) rfl (seq_ok (lo1 := LL P (fz (.str p)) (fz (.lst xs)) p none none none) (st1 := st) (by simp [LL, tyAns, isT, tys7]) (seq_ok (for_ok (iSeq_lst (k := .fz) (xs := xs) (st1 := st) rfl rfl) a2) (ret_ok rfl)))) rfl
    · have e : rowEndM P p (.lst xs) = none := a1
      rw [e]
      exact runF_own (k := .fz) (lo0 := [fz (partsM P), fz (.str p), fz (.lst xs), none, none, none, none]) (lo := lo') rfl
        (seq_ok (lo1 := LL P (fz (.str p)) (fz (.lst xs)) p none none none) (st1 := st) rfl (seq_ok (lo1 := LL P (fz (.str p)) (fz (.lst xs)) p none none none) (st1 := st) (by simp [LL, tyAns, isT, tys7]) (seq_rt (for_ok (iSeq_lst (k := .fz) (xs := xs) (st1 := st) rfl rfl) a2)))) rfl
  | _ => first | (exact Bool.noConfusion h1) | simp [d_runF, startM, tyAns, isT, tys7, rowEndM, oS]
end
end FL

namespace FL
open PySem L2 PySem.Spec PyProof.Rows FW

def pr (a : Int × Int) : MV := .tup [.int a.1, .int a.2]
def join (a b : Int × Int) : Int × Int := (if b.1 - a.2 > a.1 then b.1 - a.2 else a.1, a.2 + b.2)
def rnd (a : Int × Int) (t : Int) : Int × Int := (if a.2 ≥ 0 then a.1 else a.1 - (t - 1) * a.2, t * a.2)
def measN (P : Prog) : Int × Int → List MV → Int × Int
  | a, [] => a
  | a, x :: xs => match stepAt P x with
    | some s => measN P (join a (s.l, s.c)) xs
    | none => a
def measR (P : Prog) : Int × Int → List MV → Int × Int
  | a, [] => a
  | a, x :: xs => match x with
    | .tup [.int t, .lst ns] => measR P (join a (rnd (measN P (0, 0) ns) t)) xs
    | _ => a
/-- a row that is not too long, its times not too great -/
def RowS (xs : List MV) : Prop := ∀ x, x ∈ xs → ∀ t ns, x = .tup [.int t, .lst ns] → t.natAbs < 10 ^ 90 ∧ ns.length ≤ 10 ^ 5
section
variable {P : Prog} {st : Sto}
theorem pr0 (a : Int × Int) : gIx st (pr a) (.int 0) = some (.int a.1, false) := rfl
theorem pr1 (a : Int × Int) : gIx st (pr a) (.int 1) = some (.int a.2, false) := rfl
theorem pr_vw (a : Int × Int) : vw st (pr a) = pr a := rfl
theorem joined_ok (a b : Int × Int) (st : Sto) : M_joined [pr a, pr b] st = .ok (pr (join a b), true, st) := by
  have z2 : 2 ≤ sizeLine := by decide +kernel
  simp [M_joined, d_runF, startM, g_joined, pr_vw, pr0, pr1, z2, join]
  rfl
theorem rounded_ok (a : Int × Int) (t : Int) (ht : t.natAbs < 10 ^ 95) (ha : a.2.natAbs < 10 ^ 95) (st : Sto) : M_rounded [pr a, .int t] st = .ok (pr (rnd a t), true, st) := by
  have z2 : 2 ≤ sizeLine := by decide +kernel
  have m1 : CMulW (t - 1) a.2 := mul100 (by omega) (by omega)
  have m2 : CMulW t a.2 := mul100 (by omega) (by omega)
  by_cases h : 0 ≤ a.2
  · simp [M_rounded, d_runF, startM, g_rounded, pr_vw, z2, d_gMul, m1, m2, h, pr, rnd]
  · simp [M_rounded, d_runF, startM, g_rounded, pr_vw, z2, d_gMul, m1, m2, h, pr, rnd]
theorem join_c (a b : Int × Int) : (join a b).2 = a.2 + b.2 := rfl
theorem measN_c (h : P.Ok) : ∀ (xs : List MV) (a : Int × Int), (measN P a xs).2.natAbs ≤ a.2.natAbs + 4 * xs.length
  | [], a => by show a.2.natAbs ≤ _; omega
  | x :: xs, a => by
    unfold measN
    cases e : stepAt P x with
    | none => simp only [List.length_cons]; omega
    | some s =>
      have so := (stepAt_ok h e).1
      have := measN_c h xs (join a (s.l, s.c))
      rw [join_c] at this
      have h4 := so.c4
      have h5 := so.c5
      simp only [List.length_cons] at this ⊢
      omega
abbrev LM (P : Prog) (r : Option (MV × Bool)) (w : MV) (t3 t4 : Option (MV × Bool)) (p : MV) (t6 t7 t8 t9 t10 : Option (MV × Bool)) : Lo := [fz (progM P), r, fz w, t3, t4, fz p, t6, t7, t8, t9, t10]
theorem meas_in (h : P.Ok) (r : Option (MV × Bool)) (w : MV) (t3 t4 : Option (MV × Bool)) : ∀ (xs : List MV) (p q : Str) (a : Int × Int) (t6 t7 t8 t9 t10 : Option (MV × Bool)), chain P p xs = some q →
    ∃ u6 u7 u8 u9 u10, forL ckT (gN 6) b2_measured xs (LM P r w t3 t4 (pr a) t6 t7 t8 t9 t10) st = .ok (.nx, LM P r w t3 t4 (pr (measN P a xs)) u6 u7 u8 u9 u10, st)
  | [], p, q, a, t6, t7, t8, t9, t10, _ => ⟨t6, t7, t8, t9, t10, forL_end⟩
  | x :: xs, p, q, a, t6, t7, t8, t9, t10, e => by
    unfold chain at e
    cases e2 : stepAt P x with
    | none => rw [e2] at e; cases e
    | some s =>
      rw [e2] at e
      simp only at e
      split at e
      case isFalse => cases e
      obtain ⟨so, i, rfl, i0, i1, ia⟩ := stepAt_ok h e2
      have hf : mFld "steps" (inB ["Program"]) noB (mVar 0) (LM P r w t3 t4 (pr a) (fz (.int i)) t7 t8 t9 t10) st = .ok (.tup (mvM P), .fz, st) := fldSt rfl
      have hs : mOp gIx (mFld "steps" (inB ["Program"]) noB (mVar 0)) (mVar 6) (LM P r w t3 t4 (pr a) (fz (.int i)) t7 t8 t9 t10) st = .ok (mM s, .fz, st) := ixOk hf rfl ia
      have z2 : 2 ≤ sizeLine := by decide +kernel
      have e3 : measN P a (.int i :: xs) = measN P (join a (s.l, s.c)) xs := by
        show (match stepAt P (.int i) with | some s => _ | none => _) = _
        rw [e2]
      rw [e3]
      obtain ⟨u6, u7, u8, u9, u10, e4⟩ := meas_in h r w t3 t4 xs s.o q (join a (s.l, s.c)) (fz (.int i)) (fz (.str s.p)) (fz (.int s.l)) (fz (.int s.c)) (fz (.str s.o)) e
      refine ⟨u6, u7, u8, u9, u10, forL_nx (lo1 := LM P r w t3 t4 (pr a) (fz (.int i)) t7 t8 t9 t10) (st1 := st) (lo2 := LM P r w t3 t4 (pr (join a (s.l, s.c))) (fz (.int i)) (fz (.str s.p)) (fz (.int s.l)) (fz (.int s.c)) (fz (.str s.o))) rfl ?_ e4⟩
      refine seq_ok (lo1 := LM P r w t3 t4 (pr a) (fz (.int i)) (fz (.str s.p)) (fz (.int s.l)) (fz (.int s.c)) (fz (.str s.o))) (st1 := st) ?_ ?_
      · unfold sAsg
        rw [hs]; rfl
      · refine set_ok (k := .fr) (callV (ms := [pr a, pr (s.l, s.c)]) (st1 := st) ?_ rfl (joined_ok _ _ st)) rfl
        simp [LM, z2, pr]
theorem meas_out (h : P.Ok) (r : Option (MV × Bool)) : ∀ (xs : List MV) (p q : Str) (a : Int × Int) (t3 t4 t5 t6 t7 t8 t9 t10 : Option (MV × Bool)), rowEnd P p xs = some q → RowS xs →
    ∃ u3 u4 u5 u6 u7 u8 u9 u10, forL ckT (gT 2 (gsCons (gN 3) (gsCons (gN 4) gsNil))) b1_measured xs [fz (progM P), r, fz (pr a), t3, t4, t5, t6, t7, t8, t9, t10] st = .ok (.nx, [fz (progM P), r, fz (pr (measR P a xs)), u3, u4, u5, u6, u7, u8, u9, u10], st)
  | [], p, q, a, t3, t4, t5, t6, t7, t8, t9, t10, _, _ => ⟨t3, t4, t5, t6, t7, t8, t9, t10, forL_end⟩
  | x :: xs, p, q, a, t3, t4, t5, t6, t7, t8, t9, t10, e, hs => by
    unfold rowEnd at e
    cases e2 : partEnd P p x with
    | none => rw [e2] at e; cases e
    | some p2 =>
      rw [e2] at e
      simp only at e
      cases hb : partB P x with
      | false => rw [partEnd_no hb] at e2; cases e2
      | true =>
        obtain ⟨n, y, ys, s, q', rfl, h1, es, ec, ht⟩ := partB_spec hb
        obtain ⟨hn, hl⟩ := hs _ (List.mem_cons_self ..) n (y :: ys) rfl
        have z2 : 2 ≤ sizeLine := by decide +kernel
        have hc := measN_c h (y :: ys) (0, 0)
        have e3 : measR P a (.tup [.int n, .lst (y :: ys)] :: xs) = measR P (join a (rnd (measN P (0, 0) (y :: ys)) n)) xs := rfl
        rw [e3]
        obtain ⟨v6, v7, v8, v9, v10, e5⟩ := meas_in (st := st) h r (pr a) (fz (.int n)) (fz (.lst (y :: ys))) (y :: ys) s.p q' (0, 0) t6 t7 t8 t9 t10 ec
        obtain ⟨u3, u4, u5, u6, u7, u8, u9, u10, e4⟩ := meas_out h r xs p2 q (join a (rnd (measN P (0, 0) (y :: ys)) n)) (fz (.int n)) (fz (.lst (y :: ys))) (fz (pr (measN P (0, 0) (y :: ys)))) v6 v7 v8 v9 v10 e (fun z hz => hs z (List.mem_cons_of_mem _ hz))
        refine ⟨u3, u4, u5, u6, u7, u8, u9, u10, forL_nx (lo1 := [fz (progM P), r, fz (pr a), fz (.int n), fz (.lst (y :: ys)), t5, t6, t7, t8, t9, t10]) (st1 := st) rfl ?_ e4⟩
        refine seq_ok (lo1 := LM P r (pr a) (fz (.int n)) (fz (.lst (y :: ys))) (pr (0, 0)) t6 t7 t8 t9 t10) (st1 := st) ?_ (seq_ok (for_ok (iSeq_lst (k := .fz) (xs := y :: ys) (st1 := st) rfl rfl) e5) ?_)
        · simp [LM, z2, pr]
        · have er : mCall 2 M_rounded [] (mCons (mVar 5) (mCons (mVar 3) mNil)) (LM P r (pr a) (fz (.int n)) (fz (.lst (y :: ys))) (pr (measN P (0, 0) (y :: ys))) v6 v7 v8 v9 v10) st = .ok (pr (rnd (measN P (0, 0) (y :: ys)) n), .fr, st) :=
            callV (ms := [pr (measN P (0, 0) (y :: ys)), .int n]) (b := true) rfl rfl (rounded_ok _ _ (Nat.lt_of_lt_of_le hn (by decide +kernel)) (Nat.lt_of_le_of_lt hc (Nat.lt_of_le_of_lt (by simp only [Int.natAbs_zero, Nat.zero_add]; exact Nat.mul_le_mul_left 4 hl) (by decide +kernel))) st)
          refine set_ok (k := .fr) (callV (ms := [pr a, pr (rnd (measN P (0, 0) (y :: ys)) n)]) (b := true) (st1 := st) ?_ rfl (joined_ok _ _ st)) rfl
          rw [d_mCons]
          show (_ >>= _) = _
          rw [show mVar 2 (LM P r (pr a) (fz (.int n)) (fz (.lst (y :: ys))) (pr (measN P (0, 0) (y :: ys))) v6 v7 v8 v9 v10) st = .ok (pr a, .fz, st) from rfl]
          simp only [Res.ok_bind, d_mCons, er, d_mNil]
          rfl
theorem measured_ok (h : P.Ok) {p q : Str} {xs : List MV} (e : rowEnd P p xs = some q) (hs : RowS xs) : M_measured [progM P, .lst xs] st = .ok (pr (measR P (0, 0) xs), false, st) := by
  obtain ⟨u3, u4, u5, u6, u7, u8, u9, u10, e4⟩ := meas_out (st := st) h (fz (.lst xs)) xs p q (0, 0) none none none none none none none none e hs
  have z2 : 2 ≤ sizeLine := by decide +kernel
  unfold M_measured g_measured
  refine runF_own (k := .fz) (lo0 := [fz (progM P), fz (.lst xs), none, none, none, none, none, none, none, none, none]) (lo := [fz (progM P), fz (.lst xs), fz (pr (measR P (0, 0) xs)), u3, u4, u5, u6, u7, u8, u9, u10]) rfl
    (seq_ok (lo1 := [fz (progM P), fz (.lst xs), fz (pr (0, 0)), none, none, none, none, none, none, none, none]) (st1 := st) ?_ (seq_ok (for_ok (iSeq_lst (k := .fz) (xs := xs) (st1 := st) rfl rfl) e4) (ret_ok rfl))) rfl
  simp [z2, pr]
end
end FL

namespace FL
open PySem L2 PySem.Spec PyProof.Rows FW

section
variable {P : Prog} {st : Sto}
theorem runF_call {n : Nat} {g : SF} {ms : List MV} {lo0 : Lo} {st st' : Sto} {c fs lo} (h0 : startM n ms = lo0) (h : g lo0 st = .exc c fs lo st') : runF n g ms st = .exc c fs lo st' := by subst h0; unfold runF; rw [h]
theorem plM_0 (h : P.Ok) : ∃ p, p ∈ P.pl ∧ atI (plM P) 0 = some (.str p) := by
  have l := h.pl.len1
  unfold plM
  cases e : P.pl with
  | nil => rw [e] at l; simp at l
  | cons p ps => exact ⟨p, List.mem_cons_self .., atI_0 _ _⟩
theorem RowG.tl {x : MV} {xs : List MV} (h : RowG (.lst (x :: xs))) : PartG x := h.2 _ rfl x (List.mem_cons_self ..)
theorem eqNilR {neg : Bool} {xs : List MV} (st : Sto) (h : xs ≠ [] → gd dpt (.lst xs) = true) : gEqB neg st (.lst xs) (.lst []) = some (.bl (if neg then !xs.isEmpty else xs.isEmpty), false) := by
  cases xs with
  | nil => exact eqNil rfl st
  | cons x xs => exact eqNil (h (by simp)) st
/-- where a row begins -/
theorem beginOf_ok (h : P.Ok) {m : MV} (hm : RowG m) (hg : ∀ xs, m = .lst xs → gd dpt m = true) : ∃ o : Option Str, M_begin_of [progM P, m] st = .ok (oS o, false, st) ∧ (∀ p, o = some p → p ∈ P.pl ∧ (rowEndM P p m).isSome = true) ∧ (o = none → ∀ p, p ∈ P.pl → rowEndM P p m = none) := by
  obtain ⟨h1, h2⟩ := id hm
  unfold M_begin_of g_begin_of
  cases m with
  | lst xs =>
    have g := hg xs rfl
    have en := eqNil (neg := false) g st
    cases xs with
    | nil =>
      obtain ⟨p, hp, e0⟩ := plM_0 h
      have hf : mFld "stands" (inB ["Program"]) noB (mVar 0) [fz (progM P), fz (.lst []), none] st = .ok (.tup (plM P), .fz, st) := fldPl rfl
      refine ⟨some p, ?_, fun q z => by cases z; exact ⟨hp, rfl⟩, fun z => nomatch z⟩
      exact runF_own (k := .fz) (lo0 := [fz (progM P), fz (.lst []), none]) (lo := [fz (progM P), fz (.lst []), none]) rfl
        (seq_ok (lo1 := [fz (progM P), fz (.lst []), none]) (st1 := st) (by simp [tyAns, isT, tys7]) (seq_rt (if_tt (st1 := st) (by simp [en]) (ret_ok (ixOk (i := 0) hf rfl e0))))) rfl
    | cons x xs =>
      have ip := isPart_ok (st := st) h hm.tl
      have y0 : atI (x :: xs) 0 = some x := atI_0 _ _
      have hc : mTv (mCall 2 M_is_part [] (mCons (mVar 0) (mCons (mOp gIx (mVar 1) (mC (.int 0))) mNil))) [fz (progM P), fz (.lst (x :: xs)), none] st = .ok (partB P x, st) := tv_ok (k := .fz) (callV (ms := [progM P, x]) (by simp [y0]) rfl ip)
      have c2 : mTv (mOp (gEqB false) (mVar 1) (mLst mNil)) [fz (progM P), fz (.lst (x :: xs)), none] st = .ok (false, st) := by simp [en]
      cases hb : partB P x with
      | false =>
        rw [hb] at hc
        refine ⟨none, ?_, fun q z => (nomatch z), fun _ p hp => ?_⟩
        · exact runF_own (k := .fz) (lo0 := [fz (progM P), fz (.lst (x :: xs)), none]) (lo := [fz (progM P), fz (.lst (x :: xs)), none]) rfl
            (seq_ok (lo1 := [fz (progM P), fz (.lst (x :: xs)), none]) (st1 := st) (by simp [tyAns, isT, tys7]) (seq_ok (if_ff c2 rfl) (seq_rt (if_tt (not_ok hc) (ret_ok rfl))))) rfl
        · show rowEnd P p (x :: xs) = none
          unfold rowEnd
          rw [partEnd_no hb]
      | true =>
        rw [hb] at hc
        obtain ⟨n, y, ys, s, q, rfl, q1, es, ec, ht⟩ := partB_spec hb
        obtain ⟨so, i, rfl, i0, i1, ia⟩ := stepAt_ok h es
        have hf : mFld "steps" (inB ["Program"]) noB (mVar 0) [fz (progM P), fz (.lst (.tup [.int n, .lst (.int i :: ys)] :: xs)), none] st = .ok (.tup (mvM P), .fz, st) := fldSt rfl
        have e1 : mOp gIx (mOp gIx (mFld "steps" (inB ["Program"]) noB (mVar 0)) (mOp gIx (mOp gIx (mOp gIx (mVar 1) (mC (.int 0))) (mC (.int 1))) (mC (.int 0)))) (mC (.int 0)) [fz (progM P), fz (.lst (.tup [.int n, .lst (.int i :: ys)] :: xs)), none] st = .ok (.str s.p, .fz, st) :=
          opV (ixOk hf (opV (opV (opV (a := .lst (.tup [.int n, .lst (.int i :: ys)] :: xs)) (b := .int 0) rfl rfl (ixL (atI_0 _ _))) rfl (ixT (i := 1) rfl)) rfl (ixL (i := 0) (atI_0 _ _))) ia) rfl (ix0 s)
        have ee := endOf_ok (st := st) h so.p hm
        have e2 : mOp (gIsN false) (mCall 3 M_end_of [] (mCons (mVar 0) (mCons (mVar 2) (mCons (mVar 1) mNil)))) (mC .non) [fz (progM P), fz (.lst (.tup [.int n, .lst (.int i :: ys)] :: xs)), fz (.str s.p)] st = .ok (.bl (rowEndM P s.p (.lst (.tup [.int n, .lst (.int i :: ys)] :: xs))).isNone, .fz, st) := by
          refine opV (callV (ms := [progM P, .str s.p, .lst (.tup [.int n, .lst (.int i :: ys)] :: xs)]) rfl rfl ee) rfl ?_
          rw [← oS_isN]
          cases rowEndM P s.p (.lst (.tup [.int n, .lst (.int i :: ys)] :: xs)) <;> rfl
        cases er : rowEndM P s.p (.lst (.tup [.int n, .lst (.int i :: ys)] :: xs)) with
        | none =>
          rw [er] at e2
          refine ⟨none, ?_, fun q z => (nomatch z), fun _ p hp => ?_⟩
          · exact runF_own (k := .fz) (lo0 := [fz (progM P), fz (.lst (.tup [.int n, .lst (.int i :: ys)] :: xs)), none]) (lo := [fz (progM P), fz (.lst (.tup [.int n, .lst (.int i :: ys)] :: xs)), fz (.str s.p)]) rfl
              (seq_ok (lo1 := [fz (progM P), fz (.lst (.tup [.int n, .lst (.int i :: ys)] :: xs)), none]) (st1 := st) (by simp [tyAns, isT, tys7]) (seq_ok (if_ff c2 rfl) (seq_ok (if_ff (not_ok hc) rfl) (seq_ok (set_ok e1 rfl) (ret_ok (ifE_tt (tv_ok e2) rfl)))))) rfl
          · show rowEnd P p _ = none
            by_cases hsp : s.p = p
            · rw [← hsp]; exact er
            · unfold rowEnd
              rw [partEnd_yes q1 es ec ht, if_neg hsp]
        | some r =>
          rw [er] at e2
          refine ⟨some s.p, ?_, fun q z => by cases z; exact ⟨so.p, by rw [er]; rfl⟩, fun z => nomatch z⟩
          exact runF_own (k := .fz) (lo0 := [fz (progM P), fz (.lst (.tup [.int n, .lst (.int i :: ys)] :: xs)), none]) (lo := [fz (progM P), fz (.lst (.tup [.int n, .lst (.int i :: ys)] :: xs)), fz (.str s.p)]) rfl
            (seq_ok (lo1 := [fz (progM P), fz (.lst (.tup [.int n, .lst (.int i :: ys)] :: xs)), none]) (st1 := st) (by simp [tyAns, isT, tys7]) (seq_ok (if_ff c2 rfl) (seq_ok (if_ff (not_ok hc) rfl) (seq_ok (set_ok e1 rfl) (ret_ok (ifE_ff (tv_ok e2) rfl)))))) rfl
  | _ => first | (exact Bool.noConfusion h1) | exact ⟨none, by simp [d_runF, startM, tyAns, isT, tys7, oS], fun q z => (nomatch z), fun _ p _ => rfl⟩
theorem chkR_ok (h : P.Ok) {p q : Str} (hp : p ∈ P.pl) {xs : List MV} (hm : RowG (.lst xs)) (hg : gd dpt (.lst xs) = true) (e : rowEnd P p xs = some q) : M_check_row [progM P, .lst xs] st = .ok (.non, false, st) := by
  obtain ⟨o, e1, e2, e3⟩ := beginOf_ok (st := st) h hm (fun _ _ => hg)
  cases o with
  | none => have := e3 rfl p hp; rw [show rowEndM P p (.lst xs) = rowEnd P p xs from rfl, e] at this; cases this
  | some r =>
    have cr := callR_ok [fz (progM P), fz (.lst xs)] st e1
    simp [M_check_row, d_runF, startM, g_check_row, cr, oS, FW.isNon]
theorem chkR_no (h : P.Ok) {m : MV} (hm : RowG m) (hg : ∀ xs, m = .lst xs → gd dpt m = true) (e : ∀ p, p ∈ P.pl → rowEndM P p m = none) : ∃ lo, M_check_row [progM P, m] st = .exc "InvalidRow" [("value", m)] lo st := by
  obtain ⟨o, e1, e2, e3⟩ := beginOf_ok (st := st) h hm hg
  cases o with
  | some r => obtain ⟨a, b⟩ := e2 r rfl; rw [e r a] at b; cases b
  | none =>
    have cr := callR_ok [fz (progM P), fz m] st e1
    refine ⟨[fz (progM P), fz m], ?_⟩
    simp [M_check_row, d_runF, startM, g_check_row, cr, oS, FW.isNon]
theorem changeOf_ok (h : P.Ok) {p q : Str} (hp : p ∈ P.pl) {xs : List MV} (hm : RowG (.lst xs)) (hg : gd dpt (.lst xs) = true) (e : rowEnd P p xs = some q) (hs : RowS xs) : M_change_of [progM P, .lst xs] st = .ok (.int (measR P (0, 0) xs).2, false, st) := by
  have c1 := callR_ok [fz (progM P), fz (.lst xs)] st (chkP_ok P st)
  have c2 := callR_ok [fz (progM P), fz (.lst xs)] st (chkR_ok (st := st) h hp hm hg e)
  have c3 := callR_ok [fz (progM P), fz (.lst xs)] st (measured_ok (st := st) h e hs)
  simp [M_change_of, d_runF, startM, g_change_of, c1, c2, c3, pr_vw, pr1]
theorem needOf_ok (h : P.Ok) {p q : Str} (hp : p ∈ P.pl) {xs : List MV} (hm : RowG (.lst xs)) (hg : gd dpt (.lst xs) = true) (e : rowEnd P p xs = some q) (hs : RowS xs) : M_need_of [progM P, .lst xs] st = .ok (.int (measR P (0, 0) xs).1, false, st) := by
  have c1 := callR_ok [fz (progM P), fz (.lst xs)] st (chkP_ok P st)
  have c2 := callR_ok [fz (progM P), fz (.lst xs)] st (chkR_ok (st := st) h hp hm hg e)
  have c3 := callR_ok [fz (progM P), fz (.lst xs)] st (measured_ok (st := st) h e hs)
  simp [M_need_of, d_runF, startM, g_need_of, c1, c2, c3, pr_vw, pr0]
/-- change_of and need_of of what is no program, no row -/
theorem changeOf_P {m v : MV} (hm : pln m = true) : ∃ lo, M_change_of [m, v] st = .exc "InvalidProgram" [("value", m)] lo st := by
  obtain ⟨lo, e⟩ := chkP_no hm st
  exact ⟨[fz m, fz v], by simp [M_change_of, d_runF, startM, g_change_of, callR_exc _ _ e]⟩
theorem needOf_P {m v : MV} (hm : pln m = true) : ∃ lo, M_need_of [m, v] st = .exc "InvalidProgram" [("value", m)] lo st := by
  obtain ⟨lo, e⟩ := chkP_no hm st
  exact ⟨[fz m, fz v], by simp [M_need_of, d_runF, startM, g_need_of, callR_exc _ _ e]⟩
theorem changeOf_R (h : P.Ok) {m : MV} (hm : RowG m) (hg : ∀ xs, m = .lst xs → gd dpt m = true) (e : ∀ p, p ∈ P.pl → rowEndM P p m = none) : ∃ lo, M_change_of [progM P, m] st = .exc "InvalidRow" [("value", m)] lo st := by
  obtain ⟨lo, e⟩ := chkR_no (st := st) h hm hg e
  exact ⟨[fz (progM P), fz m], by simp [M_change_of, d_runF, startM, g_change_of, callR_ok _ _ (chkP_ok P st), callR_exc _ _ e]⟩
theorem needOf_R (h : P.Ok) {m : MV} (hm : RowG m) (hg : ∀ xs, m = .lst xs → gd dpt m = true) (e : ∀ p, p ∈ P.pl → rowEndM P p m = none) : ∃ lo, M_need_of [progM P, m] st = .exc "InvalidRow" [("value", m)] lo st := by
  obtain ⟨lo, e⟩ := chkR_no (st := st) h hm hg e
  exact ⟨[fz (progM P), fz m], by simp [M_need_of, d_runF, startM, g_need_of, callR_ok _ _ (chkP_ok P st), callR_exc _ _ e]⟩
def ledM (P : Prog) (c : Int) (q : Str) (xs : List MV) : MV := if c < (measR P (0, 0) xs).1 then .non else .tup [.str q, .int (c + (measR P (0, 0) xs).2)]
theorem led_ok (h : P.Ok) {p q : Str} (hp : p ∈ P.pl) {xs : List MV} (hm : RowG (.lst xs)) (e : rowEnd P p xs = some q) (hs : RowS xs) {c : Int} (hc : 0 ≤ c) : ∃ b, M_led [progM P, .str p, .int c, .lst xs] st = .ok (ledM P c q xs, b, st) := by
  have c1 := callR_ok [fz (progM P), fz (.str p), fz (.int c), fz (.lst xs), none, none, none] st (chkP_ok P st)
  have c2 := callR_ok [fz (progM P), fz (.str p), fz (.int c), fz (.lst xs), none, none, none] st (chkS_ok hp st)
  have c3 := callR_ok [fz (progM P), fz (.str p), fz (.int c), fz (.lst xs), none, none, none] st (chkC_ok hc st)
  have ee := endOf_ok (st := st) h hp hm
  rw [show rowEndM P p (.lst xs) = rowEnd P p xs from rfl, e] at ee
  have c4 := callR_ok [fz (progM P), fz (.str p), fz (.int c), fz (.lst xs), none, none, none] st ee
  have c5 := callR_ok [fz (progM P), fz (.str p), fz (.int c), fz (.lst xs), fz (.str q), none, none] st (measured_ok (st := st) h e hs)
  have z2 : 2 ≤ sizeLine := by decide +kernel
  by_cases hn : c < (measR P (0, 0) xs).1
  · refine ⟨false, ?_⟩
    unfold ledM
    rw [if_pos hn]
    simp [M_led, d_runF, startM, g_led, c1, c2, c3, c4, c5, oS, FW.isNon, pr, hn]
  · refine ⟨true, ?_⟩
    unfold ledM
    rw [if_neg hn]
    simp [M_led, d_runF, startM, g_led, c1, c2, c3, c4, c5, oS, FW.isNon, pr, hn, z2]
theorem led_P {m a b c : MV} (hm : pln m = true) : ∃ lo, M_led [m, a, b, c] st = .exc "InvalidProgram" [("value", m)] lo st := by
  obtain ⟨lo, e⟩ := chkP_no hm st
  exact ⟨[fz m, fz a, fz b, fz c, none, none, none], by simp [M_led, d_runF, startM, g_led, callR_exc _ _ e]⟩
theorem led_S {m b c : MV} (hm : pln m = true) (hc : plcB P.pl m = false) : ∃ lo, M_led [progM P, m, b, c] st = .exc "UnknownName" [("name", m)] lo st := by
  obtain ⟨lo, e⟩ := chkS_no (P := P) hm hc st
  exact ⟨[fz (progM P), fz m, fz b, fz c, none, none, none], by simp [M_led, d_runF, startM, g_led, callR_ok _ _ (chkP_ok P st), callR_exc _ _ e]⟩
theorem led_C {p : Str} (hp : p ∈ P.pl) {m c : MV} (hm : pln m = true) (hc : cntB m = false) : ∃ lo, M_led [progM P, .str p, m, c] st = .exc "InvalidNumber" [("value", m)] lo st := by
  obtain ⟨lo, e⟩ := chkC_no hm hc st
  exact ⟨[fz (progM P), fz (.str p), fz m, fz c, none, none, none], by simp [M_led, d_runF, startM, g_led, callR_ok _ _ (chkP_ok P st), callR_ok _ _ (chkS_ok hp st), callR_exc _ _ e]⟩
theorem led_R (h : P.Ok) {p : Str} (hp : p ∈ P.pl) {c : Int} (hc : 0 ≤ c) {m : MV} (hm : RowG m) (e : rowEndM P p m = none) : ∃ lo, M_led [progM P, .str p, .int c, m] st = .exc "InvalidRow" [("value", m)] lo st := by
  have ee := endOf_ok (st := st) h hp hm
  rw [e] at ee
  exact ⟨[fz (progM P), fz (.str p), fz (.int c), fz m, fz .non, none, none], by simp [M_led, d_runF, startM, g_led, callR_ok _ _ (chkP_ok P st), callR_ok _ _ (chkS_ok hp st), callR_ok _ _ (chkC_ok hc st), callR_ok _ _ ee, oS, FW.isNon]⟩
end
end FL

namespace FL
open PySem L2 PySem.Spec PyProof.Rows FW

def nM (ns : List Nat) : List MV := ns.map fun k => .int (k : Nat)
def partM (x : Int × List Nat) : MV := .tup [.int x.1, .lst (nM x.2)]
def rowM (R : List (Int × List Nat)) : List MV := R.map partM
structure Row (P : Prog) (p q : Str) (B : Int) (R : List (Int × List Nat)) : Prop where
  e : rowEnd P p (rowM R) = some q
  t : ∀ x, x ∈ R → 1 ≤ x.1 ∧ x.1 ≤ B
  l : ∀ x, x ∈ R → x.2.length ≤ 5
  n : ∀ x, x ∈ R → ∀ k, k ∈ x.2 → k < 10
  z : R.length ≤ 10
theorem nM_app (a b : List Nat) : nM (a ++ b) = nM a ++ nM b := List.map_append
theorem nM_len (a : List Nat) : (nM a).length = a.length := List.length_map _
theorem rowM_app (a b : List (Int × List Nat)) : rowM (a ++ b) = rowM a ++ rowM b := List.map_append
theorem rowM_len (a : List (Int × List Nat)) : (rowM a).length = a.length := List.length_map _
theorem atI_last {α : Type} (xs : List α) (x : α) : atI (xs ++ [x]) (-1) = some x := by
  have e : ixN (xs ++ [x]).length (-1) = some xs.length := by
    unfold ixN
    rw [if_neg (by decide)]
    simp only [List.length_append, List.length_singleton]
    split
    · congr 1; omega
    · omega
  unfold atI
  rw [e]
  show (xs ++ [x])[xs.length]? = _
  simp
section
variable {P : Prog} {st : Sto}
theorem chain_app {y : MV} {s : Move} {q : Str} (es : stepAt P y = some s) (hq : s.p = q) : ∀ (xs : List MV) (p : Str), chain P p xs = some q → chain P p (xs ++ [y]) = some s.o
  | [], p, e => by
    have : p = q := Option.some.inj e
    subst this
    show (match stepAt P y with | some s => if s.p = p then chain P s.o [] else none | none => none) = _
    rw [es]
    simp only [if_pos hq]
    rfl
  | x :: xs, p, e => by
    unfold chain at e
    cases e2 : stepAt P x with
    | none => rw [e2] at e; cases e
    | some s2 =>
      rw [e2] at e
      simp only at e
      split at e
      · rename_i h2
        show (match stepAt P x with | some s => if s.p = p then chain P s.o (xs ++ [y]) else none | none => none) = _
        rw [e2]
        simp only [if_pos h2]
        exact chain_app es hq xs _ e
      · cases e
theorem rowEnd_app {m : MV} {q r : Str} (em : partEnd P q m = some r) : ∀ (xs : List MV) (p : Str), rowEnd P p xs = some q → rowEnd P p (xs ++ [m]) = some r
  | [], p, e => by
    have : p = q := Option.some.inj e
    subst this
    show (match partEnd P p m with | some q => rowEnd P q [] | none => none) = _
    rw [em]; rfl
  | x :: xs, p, e => by
    unfold rowEnd at e
    cases e2 : partEnd P p x with
    | none => rw [e2] at e; cases e
    | some p2 =>
      rw [e2] at e
      show (match partEnd P p x with | some q => rowEnd P q (xs ++ [m]) | none => none) = _
      rw [e2]
      exact rowEnd_app em xs _ e
theorem gd_nat {n k : Nat} (h : k < 10 ^ 6) : gd (n + 1) (.int (k : Nat)) = true := gd_int (Nat.lt_of_lt_of_le (show ((k : Nat) : Int).natAbs < 10 ^ 6 by omega) (by decide +kernel))
abbrev LR (n : Nat) (P : Prog) (b c f a t6 nu he t9 t10 t11 : Option (MV × Bool)) : Lo := [fz (.ref n), fz (partsM P), b, c, f, a, t6, nu, he, t9, t10, t11, none]
theorem drawn_in (h : P.Ok) {n : Nat} {N : Int} (g : GenAt st n N) (hN : N ≤ 10 ^ 8) (b c f a t6 t9 t10 t11 : Option (MV × Bool)) {p0 hh : Str} {ns : List Nat} (hc : chain P p0 (nM ns) = some hh) (hm : hh ∈ P.pl) (hn : ∀ k, k ∈ ns → k < 10) (hl : ns.length ≤ 100) :
    ∃ (ns' : List Nat) (h' : Str) (u10 : Option (MV × Bool)) (st' : Sto), b2_law_row_drawn (LR n P b c f a t6 (ow (.lst (nM ns))) (fz (.str hh)) t9 t10 t11) st = .ok (.nx, LR n P b c f a t6 (ow (.lst (nM ns'))) (fz (.str h')) t9 u10 t11, st') ∧
      chain P p0 (nM ns') = some h' ∧ h' ∈ P.pl ∧ (∀ k, k ∈ ns' → k < 10) ∧ ns'.length ≤ ns.length + 1 ∧ GS st n (N + 10) st' := by
  have len10 := h.len
  have hp1 : ∀ lo : Lo, mVar 1 lo st = .ok (partsM P, .fz, st) → mOp gIx (mVar 1) (mC (.int 1)) lo st = .ok (.lst (mvM P), .fz, st) := fun lo e => parts1 e
  have hpL : mOp gIx (mVar 1) (mC (.int 1)) (LR n P b c f a t6 (ow (.lst (nM ns))) (fz (.str hh)) t9 t10 t11) st = .ok (.lst (mvM P), .fz, st) := hp1 _ rfl
  let tst : MV → Bool := fun m => match stepAt P m with | some s => decide (s.p = hh) | none => false
  have items : ∀ x, x ∈ rgM 0 (P.mv.length : Int) → ∃ k : Nat, x = .int (k : Nat) ∧ k < 10 ∧ ∃ s, stepAt P x = some s := by
    intro x hx
    obtain ⟨i, hi⟩ := List.mem_iff_getElem?.mp hx
    obtain ⟨e, hk⟩ := rgM_get hi
    refine ⟨i, by rw [e]; congr 1; omega, by omega, ?_⟩
    have hlt : i < P.mv.length := by omega
    refine ⟨P.mv[i], ?_⟩
    rw [e]
    show (if (0 : Int) ≤ 0 + (i : Nat) then P.mv[((0 : Int) + (i : Nat)).toNat]? else none) = _
    rw [if_pos (by omega), show ((0 : Int) + (i : Nat)).toNat = i by omega]
    exact List.getElem?_eq_getElem hlt
  have hf := lc_filter (vs := [12]) (fi := iRg1 (mCallB gLen (mCons (mOp gIx (mVar 1) (mC (.int 1))) mNil))) (gf := gN 12) (tt := mTv (mOp (gEqB false) (mOp gIx (mOp gIx (mOp gIx (mVar 1) (mC (.int 1))) (mVar 12)) (mC (.int 0))) (mVar 8))) (fe := mVar 12)
    (lo := LR n P b c f a t6 (ow (.lst (nM ns))) (fz (.str hh)) t9 t10 t11) (st := st) (items := rgM 0 (P.mv.length : Int)) (ck := fun _ _ => True) (p := tst) (f := id) rfl
    (iRg1_ok (k := .fz) (by simp [-d_mOp, hpL, mvM_len]) (by unfold Rg62; omega)) (fun _ => trivial) (sz (by rw [rgM_len]; omega))
    (fun x hx => by
      obtain ⟨k, rfl, hk, s, es⟩ := items x hx
      obtain ⟨so, i, ei, i0, i1, ia⟩ := stepAt_ok h es
      cases ei
      refine ⟨[fz (.ref n), fz (partsM P), b, c, f, a, t6, ow (.lst (nM ns)), fz (.str hh), t9, t10, t11, fz (.int (k : Nat))], rfl, ?_, fun _ => ⟨.fz, rfl, rfl⟩⟩
      refine tv_ok (k := .fz) (opV (b := .str hh) (opV (ixLk (hp1 _ rfl) rfl ia) rfl (ix0 s)) rfl ?_)
      have := eqS (neg := false) (st := st) (h.pl.good _ so.p) (h.pl.good _ hm)
      have et : tst (.int (k : Nat)) = decide (s.p = hh) := by show (match stepAt P (.int (k : Nat)) with | some s => decide (s.p = hh) | none => false) = _; rw [es]
      rw [et]
      simpa using this)
  rw [List.map_id] at hf
  have mem : ∀ x, x ∈ (rgM 0 (P.mv.length : Int)).filter tst → ∃ k : Nat, x = .int (k : Nat) ∧ k < 10 ∧ ∃ s, stepAt P x = some s ∧ s.p = hh := by
    intro x hx
    obtain ⟨h1, h2⟩ := List.mem_filter.mp hx
    obtain ⟨k, e, hk, s, es⟩ := items x h1
    refine ⟨k, e, hk, s, es, ?_⟩
    have : (match stepAt P x with | some s => decide (s.p = hh) | none => false) = true := h2
    rw [es] at this
    exact of_decide_eq_true this
  have lenL : ((rgM 0 (P.mv.length : Int)).filter tst).length ≤ 10 := Nat.le_trans (List.length_filter_le _ _) (by rw [rgM_len]; omega)
  generalize (rgM 0 (P.mv.length : Int)).filter tst = L at hf mem lenL
  have gL : gd dpt (.lst L) = true := gd_lst fun x hx => by
    obtain ⟨k, rfl, hk, _⟩ := mem x hx
    exact gd_nat (by omega)
  have s1 : sSet 10 (mLc [12] (iRg1 (mCallB gLen (mCons (mOp gIx (mVar 1) (mC (.int 1))) mNil))) (gN 12) (mTv (mOp (gEqB false) (mOp gIx (mOp gIx (mOp gIx (mVar 1) (mC (.int 1))) (mVar 12)) (mC (.int 0))) (mVar 8))) (mVar 12))
      (LR n P b c f a t6 (ow (.lst (nM ns))) (fz (.str hh)) t9 t10 t11) st = .ok (.nx, LR n P b c f a t6 (ow (.lst (nM ns))) (fz (.str hh)) t9 (fz (.lst L)) t11, st) := set_ok (k := .fr) hf rfl
  have en := eqNil (neg := true) gL st
  have c1 : mTv (mOp (gEqB true) (mVar 10) (mLst mNil)) (LR n P b c f a t6 (ow (.lst (nM ns))) (fz (.str hh)) t9 (fz (.lst L)) t11) st = .ok (!L.isEmpty, st) := tv_ok (k := .fz) (opV (a := .lst L) (b := .lst []) rfl rfl en)
  cases L with
  | nil => exact ⟨ns, hh, fz (.lst []), st, seq_ok s1 (if_ff c1 rfl), hc, hm, hn, by omega, (GS.refl g).up (by omega)⟩
  | cons y ys =>
    obtain ⟨r, st', r0, r1, er, G⟩ := random_ok (bound := ((y :: ys).length : Int)) g (by omega) (by simp only [List.length_cons]; omega) (by omega)
    obtain ⟨x, ex, xm⟩ := atI_ok (y :: ys) r0 r1
    obtain ⟨k, rfl, hk, s, es, hs⟩ := mem x xm
    obtain ⟨so, i, ei, i0, i1, ia⟩ := stepAt_ok h es
    cases ei
    have nk : nM (ns ++ [k]) = nM ns ++ [.int (k : Nat)] := nM_app ns [k]
    have hp2 : ∀ lo : Lo, mVar 1 lo st' = .ok (partsM P, .fz, st') → mOp gIx (mVar 1) (mC (.int 1)) lo st' = .ok (.lst (mvM P), .fz, st') := fun lo e => parts1 e
    refine ⟨ns ++ [k], s.o, fz (.lst (y :: ys)), st', seq_ok s1 (if_tt c1 (seq_ok (lo1 := LR n P b c f a t6 (ow (.lst (nM (ns ++ [k])))) (fz (.str hh)) t9 (fz (.lst (y :: ys))) t11) (st1 := st') ?_ (set_ok (k := .fz) (m := .str s.o) ?_ rfl))), ?_, so.o, ?_, by simp, G⟩
    · rw [nk]
      refine app_ok (i := 7) (x := .lst (nM ns)) (m := .int (k : Nat)) (kd := .fz) rfl rfl ?_ rfl (Nat.lt_of_le_of_lt (by rw [nM_len]; exact hl) (by decide +kernel))
      exact opV (a := .lst (y :: ys)) (ka := .fz) (st1 := st) rfl (callV (ms := [.ref n, .int ((y :: ys).length : Int)]) (b := false) (st1 := st) (by simp) rfl er) (ixL ex)
    · refine opV (ixLk (hp2 _ rfl) (opV (a := .lst (nM (ns ++ [k]))) (b := .int (-1)) rfl rfl (ixL (x := .int (k : Nat)) ?_)) ia) rfl (ix3 s)
      rw [nk]; exact atI_last _ _
    · rw [nk]; exact chain_app es hs _ _ hc
    · intro j hj
      rcases List.mem_append.mp hj with hj | hj
      · exact hn j hj
      · rw [List.mem_singleton] at hj; omega
theorem partEnd_ok {at0 hh : Str} {ns : List Nat} {t : Int} (hc : chain P at0 (nM ns) = some hh) (h0 : ns ≠ []) (h1 : 1 ≤ t) (h2 : 1 < t → hh = at0) : partEnd P at0 (partM (t, ns)) = some hh := by
  cases ns with
  | nil => exact absurd rfl h0
  | cons k ks =>
    show partEnd P at0 (.tup [.int t, .lst (.int (k : Nat) :: nM ks)]) = _
    rw [partEnd_eq, if_pos h1, show chain P at0 (.int (k : Nat) :: nM ks) = some hh from hc]
    simp only
    rw [if_neg (fun z => z.2 (h2 z.1))]
theorem gd_nM {n : Nat} {ns : List Nat} (hn : ∀ k, k ∈ ns → k < 10) : gd (n + 2) (.lst (nM ns)) = true := gd_lst fun x hx => by
  obtain ⟨k, hk, rfl⟩ := List.mem_map.mp hx
  exact gd_nat (Nat.lt_of_lt_of_le (hn k hk) (by decide))
theorem drawn_turn (h : P.Ok) {n : Nat} {N : Int} (g : GenAt st n N) (hN : N ≤ 10 ^ 7) (b c t6 t7 t8 t9 t10 t11 : Option (MV × Bool)) {p a : Str} {R : List (Int × List Nat)} (hr : Row P p a (10 ^ 30) R) (ha : a ∈ P.pl) (hz : R.length ≤ 9) :
    ∃ (R' : List (Int × List Nat)) (a' : Str) (u7 u8 u9 u10 u11 : Option (MV × Bool)) (st' : Sto), b1_law_row_drawn (LR n P b c (ow (.lst (rowM R))) (fz (.str a)) t6 t7 t8 t9 t10 t11) st = .ok (.nx, LR n P b c (ow (.lst (rowM R'))) (fz (.str a')) t6 u7 u8 u9 u10 u11, st') ∧
      Row P p a' (10 ^ 30) R' ∧ a' ∈ P.pl ∧ R'.length ≤ R.length + 1 ∧ GS st n (N + 100) st' := by
  obtain ⟨r, s1, r0, r1, er, G1⟩ := random_ok (bound := 4) g (by omega) (by decide) (by decide)
  have loop := forL_run (ck := fun _ _ => True) (gf := gN 9) (body := b2_law_row_drawn)
    (Inv := fun k lo s' => ∃ (ns : List Nat) (hh : Str) (u9 u10 : Option (MV × Bool)), lo = LR n P b c (ow (.lst (rowM R))) (fz (.str a)) t6 (ow (.lst (nM ns))) (fz (.str hh)) u9 u10 t11 ∧ chain P a (nM ns) = some hh ∧ hh ∈ P.pl ∧ (∀ k, k ∈ ns → k < 10) ∧ ns.length ≤ k ∧ GS s1 n (N + 10 + 10 * (k : Nat)) s')
    (items := rgM 0 (1 + r)) (fun _ _ _ _ => trivial) (fun k x lo s' hx ⟨ns, hh, u9, u10, hlo, hc, hm, hn, hl, G⟩ => by
      obtain ⟨_, hk⟩ := rgM_get hx
      subst hlo
      obtain ⟨ns', h', v10, s2, e, hc', hm', hn', hl', G'⟩ := drawn_in h G.g (by omega) b c (ow (.lst (rowM R))) (fz (.str a)) t6 (fz x) u10 t11 hc hm hn (by omega)
      exact ⟨_, _, _, s2, rfl, e, ns', h', fz x, v10, rfl, hc', hm', hn', by omega, (G.trans G').up (by omega)⟩)
    (LR n P b c (ow (.lst (rowM R))) (fz (.str a)) t6 (ow (.lst [])) (fz (.str a)) t9 t10 t11) s1 ⟨[], a, t9, t10, rfl, rfl, ha, fun k hk => (by cases hk), Nat.le_refl _, (GS.refl G1.g).up (by omega)⟩
  obtain ⟨lo', s2, e2, ns, hh, u9, u10, hlo, hc, hm, hn, hl, G2⟩ := loop
  subst hlo
  rw [rgM_len] at hl G2
  have hl4 : ns.length ≤ 4 := by omega
  have G12 : GS st n (N + 60) s2 := (G1.trans G2).up (by omega)
  have e0 : sPar 7 8 true false (mLst mNil) (mVar 5) (LR n P b c (ow (.lst (rowM R))) (fz (.str a)) t6 t7 t8 t9 t10 t11) st = .ok (.nx, LR n P b c (ow (.lst (rowM R))) (fz (.str a)) t6 (ow (.lst [])) (fz (.str a)) t9 t10 t11, st) := rfl
  have e1 : iRg1 (mOp gAdd (mC (.int 1)) (mCall 2 M_law_random [] (mCons (mVar 0) (mCons (mC (.int 4)) mNil)))) (LR n P b c (ow (.lst (rowM R))) (fz (.str a)) t6 (ow (.lst [])) (fz (.str a)) t9 t10 t11) st = .ok (rgM 0 (1 + r), fun _ _ => True, s1) :=
    iRg1_ok (k := .fz) (opV (a := .int 1) (b := .int r) (ka := .fz) (st1 := st) rfl (callV (ms := [.ref n, .int 4]) (b := false) (st1 := st) rfl rfl er) rfl) (by unfold Rg62; omega)
  have gn : gd dpt (.lst (nM ns)) = true := gd_nM hn
  have en := eqNil (neg := true) gn s2
  have c1 : mTv (mOp (gEqB true) (mVar 7) (mLst mNil)) (LR n P b c (ow (.lst (rowM R))) (fz (.str a)) t6 (ow (.lst (nM ns))) (fz (.str hh)) u9 u10 t11) s2 = .ok (!(nM ns).isEmpty, s2) := tv_ok (k := .fz) (opV (a := .lst (nM ns)) (b := .lst []) rfl rfl en)
  cases hns : ns with
  | nil =>
    subst hns
    exact ⟨R, a, _, _, _, _, _, s2, seq_ok e0 (seq_ok (for_ok e1 e2) (if_ff c1 rfl)), hr, ha, by omega, G12.up (by omega)⟩
  | cons y ys =>
    have nn : ns ≠ [] := by rw [hns]; simp
    rw [show (nM ns).isEmpty = false by rw [hns]; rfl] at c1
    have he : mTv (mOp (gEqB false) (mVar 8) (mVar 5)) (LR n P b c (ow (.lst (rowM R))) (fz (.str a)) t6 (ow (.lst (nM ns))) (fz (.str hh)) u9 u10 t11) s2 = .ok (decide (hh = a), s2) := by
      refine tv_ok (k := .fz) (opV (a := .str hh) (b := .str a) rfl rfl ?_)
      have := eqS (neg := false) (st := s2) (h.pl.good _ hm) (h.pl.good _ ha)
      simpa using this
    have ht : ∃ (t : Int) (s3 : Sto), sSet 11 (mIfE (mTv (mOp (gEqB false) (mVar 8) (mVar 5))) (mOp gIx (mLst (mCons (mC (.int 1)) (mCons (mC (.int 2)) (mCons (mC (.int 3)) (mCons (mOp gPow (mC (.int 10)) (mC (.int 30))) mNil))))) (mCall 2 M_law_random [] (mCons (mVar 0) (mCons (mC (.int 4)) mNil)))) (mC (.int 1)))
        (LR n P b c (ow (.lst (rowM R))) (fz (.str a)) t6 (ow (.lst (nM ns))) (fz (.str hh)) u9 u10 t11) s2 = .ok (.nx, LR n P b c (ow (.lst (rowM R))) (fz (.str a)) t6 (ow (.lst (nM ns))) (fz (.str hh)) u9 u10 (fz (.int t)), s3) ∧ 1 ≤ t ∧ t ≤ 10 ^ 30 ∧ (1 < t → hh = a) ∧ GS s2 n (N + 70) s3 := by
      by_cases q : hh = a
      · rw [decide_eq_true q] at he
        obtain ⟨w, s3, w0, w1, ew, G3⟩ := random_ok (bound := 4) G12.g (by omega) (by decide) (by decide)
        obtain ⟨t, et, tm⟩ := atI_ok [(1 : Int), 2, 3, 10 ^ 30] w0 (by simpa using w1)
        have et' : atI [MV.int 1, .int 2, .int 3, .int (10 ^ 30)] w = some (.int t) := by
          rw [show [MV.int 1, .int 2, .int 3, .int (10 ^ 30)] = [(1 : Int), 2, 3, 10 ^ 30].map MV.int from rfl, atI_map, et]; rfl
        have tb : 1 ≤ t ∧ t ≤ 10 ^ 30 := by
          simp only [List.mem_cons, List.not_mem_nil, or_false] at tm
          rcases tm with rfl | rfl | rfl | rfl <;> exact ⟨by decide, by decide⟩
        refine ⟨t, s3, set_ok (k := .fz) (ifE_tt he ?_) rfl, tb.1, tb.2, fun _ => q, G3.up (by omega)⟩
        refine opV (a := .lst [.int 1, .int 2, .int 3, .int (10 ^ 30)]) (b := .int w) (ka := .fr) (kb := .fz) (st1 := s2) ?_ (callV (ms := [.ref n, .int 4]) (b := false) (st1 := s2) rfl rfl ew) (ixL et')
        have z4 : 4 ≤ sizeLine := by decide +kernel
        simp [-Int.reducePow, -Nat.reducePow, d_gPow, pw30, z4]
      · rw [decide_eq_false q] at he
        exact ⟨1, s2, set_ok (k := .fz) (ifE_ff he rfl) rfl, by decide, by decide, fun z => absurd z (by decide), (GS.refl G12.g).up (by omega)⟩
    obtain ⟨t, s3, e3, t1, tB, tq, G3⟩ := ht
    have rr : rowM (R ++ [(t, ns)]) = rowM R ++ [partM (t, ns)] := rowM_app R [(t, ns)]
    refine ⟨R ++ [(t, ns)], hh, fz (.lst (nM ns)), fz (.str hh), u9, u10, fz (.int t), s3, seq_ok e0 (seq_ok (for_ok e1 e2) (if_tt c1 (seq_ok e3 (seq_ok (lo1 := LR n P b c (ow (.lst (rowM (R ++ [(t, ns)])))) (fz (.str a)) t6 (fz (.lst (nM ns))) (fz (.str hh)) u9 u10 (fz (.int t))) (st1 := s3) ?_ rfl)))), ⟨?_, ?_, ?_, ?_, ?_⟩, hm, by simp, (G12.trans G3).up (by omega)⟩
    · show sApp (mVar 4) (mTup (mCons (mVar 11) (mCons (mVar 7) mNil))) (LR n P b c (ow (.lst (rowM R))) (fz (.str a)) t6 (fz (.lst (nM ns))) (fz (.str hh)) u9 u10 (fz (.int t))) s3 = _
      rw [rr]
      refine app_ok (i := 4) (x := .lst (rowM R)) (m := partM (t, ns)) (kd := .fr) rfl rfl ?_ rfl (Nat.lt_of_le_of_lt (by rw [rowM_len]; exact hz) (by decide +kernel))
      have z2 : 2 ≤ sizeLine := by decide +kernel
      simp [LR, z2, partM]
    · rw [rr]
      exact rowEnd_app (partEnd_ok hc nn t1 tq) _ _ hr.e
    · intro x hx
      rcases List.mem_append.mp hx with hx | hx
      · exact hr.t x hx
      · rw [List.mem_singleton] at hx; subst hx; exact ⟨t1, tB⟩
    · intro x hx
      rcases List.mem_append.mp hx with hx | hx
      · exact hr.l x hx
      · rw [List.mem_singleton] at hx; subst hx; exact Nat.le_succ_of_le hl4
    · intro x hx
      rcases List.mem_append.mp hx with hx | hx
      · exact hr.n x hx
      · rw [List.mem_singleton] at hx; subst hx; exact hn
    · simp; omega
theorem rowDrawn_ok (h : P.Ok) {n : Nat} {N : Int} (g : GenAt st n N) (hN : N ≤ 10 ^ 6) {p : Str} (hp : p ∈ P.pl) {most : Int} (m0 : 0 ≤ most) (m9 : most ≤ 9) :
    ∃ (R : List (Int × List Nat)) (q : Str) (st' : Sto), M_law_row_drawn [.ref n, partsM P, .str p, .int most] st = .ok (.lst (rowM R), true, st') ∧ Row P p q (10 ^ 30) R ∧ q ∈ P.pl ∧ GS st n (N + 2000) st' := by
  obtain ⟨r, s1, r0, r1, er, G1⟩ := random_ok (bound := most + 1) g (by omega) (by omega) (by omega)
  have loop := forL_run (ck := fun _ _ => True) (gf := gN 6) (body := b1_law_row_drawn)
    (Inv := fun k lo s' => ∃ (R : List (Int × List Nat)) (a : Str) (u6 u7 u8 u9 u10 u11 : Option (MV × Bool)), lo = LR n P (fz (.str p)) (fz (.int most)) (ow (.lst (rowM R))) (fz (.str a)) u6 u7 u8 u9 u10 u11 ∧ Row P p a (10 ^ 30) R ∧ a ∈ P.pl ∧ R.length ≤ k ∧ GS s1 n (N + 10 + 100 * (k : Nat)) s')
    (items := rgM 0 r) (fun _ _ _ _ => trivial) (fun k x lo s' hx ⟨R, a, u6, u7, u8, u9, u10, u11, hlo, hr, ha, hl, G⟩ => by
      obtain ⟨_, hk⟩ := rgM_get hx
      subst hlo
      obtain ⟨R', a', v7, v8, v9, v10, v11, s2, e, hr', ha', hl', G'⟩ := drawn_turn h G.g (by omega) (fz (.str p)) (fz (.int most)) (fz x) u7 u8 u9 u10 u11 hr ha (by omega)
      exact ⟨_, _, _, s2, rfl, e, R', a', fz x, v7, v8, v9, v10, v11, rfl, hr', ha', by omega, (G.trans G').up (by omega)⟩)
    (LR n P (fz (.str p)) (fz (.int most)) (ow (.lst [])) (fz (.str p)) none none none none none none) s1 ⟨[], p, none, none, none, none, none, none, rfl, ⟨rfl, fun x hx => (by cases hx), fun x hx => (by cases hx), fun x hx => (by cases hx), by decide⟩, hp, Nat.le_refl _, (GS.refl G1.g).up (by omega)⟩
  obtain ⟨lo', s2, e2, R, q, u6, u7, u8, u9, u10, u11, hlo, hr, hq, hl, G2⟩ := loop
  subst hlo
  rw [rgM_len] at hl G2
  refine ⟨R, q, s2, ?_, hr, hq, (G1.trans G2).up (by omega)⟩
  unfold M_law_row_drawn g_law_row_drawn
  refine runF_own (k := .pk 4) (lo0 := [fz (.ref n), fz (partsM P), fz (.str p), fz (.int most), none, none, none, none, none, none, none, none, none]) (lo := LR n P (fz (.str p)) (fz (.int most)) (ow (.lst (rowM R))) (fz (.str q)) u6 u7 u8 u9 u10 u11) rfl
    (seq_ok (lo1 := LR n P (fz (.str p)) (fz (.int most)) (ow (.lst [])) (fz (.str p)) none none none none none none) (st1 := st) rfl (seq_ok (for_ok (iRg1_ok (k := .fz) (j := r) (st1 := s1) ?_ (by unfold Rg62; omega)) e2) (ret_ok rfl))) rfl
  exact callV (ms := [.ref n, .int (most + 1)]) (b := false) (st1 := st) (by simp) rfl er
end
end FL

namespace FL
open PySem L2 PySem.Spec PyProof.Rows FW

abbrev Pos (a : Int × Int) : Prop := 0 ≤ a.1 ∧ 0 ≤ a.1 + a.2
theorem ext2 {a b : Int × Int} (h1 : a.1 = b.1) (h2 : a.2 = b.2) : a = b := Prod.ext h1 h2
theorem join_assoc (a b c : Int × Int) : join (join a b) c = join a (join b c) := by
  refine ext2 ?_ ?_
  · simp only [join]; split <;> split <;> split <;> (try split) <;> omega
  · simp only [join]; omega
theorem join_zr {a : Int × Int} (h : Pos a) : join a (0, 0) = a := by
  obtain ⟨h1, h2⟩ := h
  refine ext2 ?_ ?_
  · simp only [join]; split <;> omega
  · simp only [join]; omega
theorem join_zl {a : Int × Int} (h : Pos a) : join (0, 0) a = a := by
  obtain ⟨h1, h2⟩ := h
  refine ext2 ?_ ?_
  · simp only [join]; split <;> omega
  · simp only [join]; omega
theorem join_pos {a b : Int × Int} (h : Pos a) (k : Pos b) : Pos (join a b) := by
  obtain ⟨h1, h2⟩ := h; obtain ⟨k1, k2⟩ := k
  unfold Pos
  simp only [join]; split <;> omega
theorem rnd1 (a : Int × Int) : rnd a 1 = a := by
  refine ext2 ?_ ?_
  · simp only [rnd]; split <;> omega
  · simp only [rnd]; omega
theorem mul_neg_le {t x : Int} (ht : 1 ≤ t) (hx : x < 0) : t * x ≤ x := by
  have := Int.mul_le_mul_of_nonpos_right ht (Int.le_of_lt hx)
  omega
theorem mul_pos_ge {t x : Int} (ht : 1 ≤ t) (hx : 0 ≤ x) : x ≤ t * x := by
  have := Int.mul_le_mul_of_nonneg_right ht hx
  omega
theorem rnd_pos {a : Int × Int} {t : Int} (ht : 1 ≤ t) (h : Pos a) : Pos (rnd a t) := by
  obtain ⟨h1, h2⟩ := h
  unfold Pos
  simp only [rnd, Int.sub_mul, Int.one_mul]
  split
  · rename_i q; have := mul_pos_ge ht q; omega
  · rename_i q; have := mul_neg_le ht (Int.lt_of_not_ge q); omega
theorem rnd_succ {a : Int × Int} {t : Int} (ht : 1 ≤ t) : join a (rnd a t) = rnd a (t + 1) := by
  refine ext2 ?_ ?_
  · simp only [join, rnd, Int.sub_mul, Int.add_mul, Int.one_mul]
    by_cases q : a.2 ≥ 0
    · have := mul_pos_ge ht q
      simp only [if_pos q]; split <;> omega
    · have := mul_neg_le ht (Int.lt_of_not_ge q)
      simp only [if_neg q]; split <;> omega
  · simp only [join, rnd, Int.add_mul, Int.one_mul]; omega
section
variable {P : Prog}
theorem chain_cons (h : P.Ok) {p q : Str} {x : MV} {xs : List MV} (e : chain P p (x :: xs) = some q) : ∃ s, stepAt P x = some s ∧ s.Ok P.pl ∧ s.p = p ∧ chain P s.o xs = some q ∧ (∀ a, measN P a (x :: xs) = measN P (join a (s.l, s.c)) xs) := by
  unfold chain at e
  cases e2 : stepAt P x with
  | none => rw [e2] at e; cases e
  | some s =>
    rw [e2] at e
    simp only at e
    split at e
    · rename_i hp
      refine ⟨s, rfl, (stepAt_ok h e2).1, hp, e, fun a => ?_⟩
      show (match stepAt P x with | some s => measN P (join a (s.l, s.c)) xs | none => a) = _
      rw [e2]
    · cases e
theorem Move.Ok.pos {pl : List Str} {m : Move} (h : m.Ok pl) : Pos (m.l, m.c) := ⟨h.l0, h.s0⟩
theorem measN_pos (h : P.Ok) : ∀ (xs : List MV) (p q : Str) (a : Int × Int), chain P p xs = some q → Pos a → Pos (measN P a xs)
  | [], _, _, a, _, ha => ha
  | x :: xs, p, q, a, e, ha => by
    obtain ⟨s, _, so, _, e2, e3⟩ := chain_cons h e
    rw [e3]
    exact measN_pos h xs _ _ _ e2 (join_pos ha so.pos)
theorem measN_join (h : P.Ok) : ∀ (xs : List MV) (p q : Str) (a : Int × Int), chain P p xs = some q → Pos a → measN P a xs = join a (measN P (0, 0) xs)
  | [], _, _, a, _, ha => (join_zr ha).symm
  | x :: xs, p, q, a, e, ha => by
    obtain ⟨s, _, so, _, e2, e3⟩ := chain_cons h e
    rw [e3, e3, join_zl so.pos, measN_join h xs _ _ _ e2 (join_pos ha so.pos), measN_join h xs _ _ _ e2 so.pos, join_assoc]
theorem rowEnd_cons (h : P.Ok) {p q : Str} {x : MV} {xs : List MV} (e : rowEnd P p (x :: xs) = some q) : ∃ t y ys r, x = .tup [.int t, .lst (y :: ys)] ∧ 1 ≤ t ∧ chain P p (y :: ys) = some r ∧ rowEnd P r xs = some q ∧ (1 < t → r = p) ∧ partEnd P p x = some r ∧ (∀ a, measR P a (x :: xs) = measR P (join a (rnd (measN P (0, 0) (y :: ys)) t)) xs) := by
  unfold rowEnd at e
  cases e2 : partEnd P p x with
  | none => rw [e2] at e; cases e
  | some r =>
    rw [e2] at e
    have e3 := e2
    unfold partEnd at e3
    split at e3
    · rename_i t y ys
      split at e3
      · rename_i h1
        cases e4 : chain P p (y :: ys) with
        | none => rw [e4] at e3; cases e3
        | some q2 =>
          rw [e4] at e3
          simp only at e3
          split at e3
          · cases e3
          · rename_i hq
            cases e3
            refine ⟨t, y, ys, r, rfl, h1, e4, e, fun z => ?_, rfl, fun a => rfl⟩
            by_cases w : r = p
            · exact w
            · exact absurd ⟨z, w⟩ hq
      · cases e3
    · cases e3
theorem measR_pos (h : P.Ok) : ∀ (xs : List MV) (p q : Str) (a : Int × Int), rowEnd P p xs = some q → Pos a → Pos (measR P a xs)
  | [], _, _, a, _, ha => ha
  | x :: xs, p, q, a, e, ha => by
    obtain ⟨t, y, ys, r, _, h1, ec, er, _, _, em⟩ := rowEnd_cons h e
    rw [em]
    exact measR_pos h xs _ _ _ er (join_pos ha (rnd_pos h1 (measN_pos h _ _ _ _ ec ⟨by decide, by decide⟩)))
theorem measR_join (h : P.Ok) : ∀ (xs : List MV) (p q : Str) (a : Int × Int), rowEnd P p xs = some q → Pos a → measR P a xs = join a (measR P (0, 0) xs)
  | [], _, _, a, _, ha => (join_zr ha).symm
  | x :: xs, p, q, a, e, ha => by
    obtain ⟨t, y, ys, r, _, h1, ec, er, _, _, em⟩ := rowEnd_cons h e
    have pp := rnd_pos h1 (measN_pos h _ _ _ (0, 0) ec ⟨by decide, by decide⟩)
    rw [em, em, join_zl pp, measR_join h xs _ _ _ er (join_pos ha pp), measR_join h xs _ _ _ er pp, join_assoc]
theorem rowEnd_split (h : P.Ok) : ∀ (xs ys : List MV) (p q : Str), rowEnd P p (xs ++ ys) = some q → ∃ r, rowEnd P p xs = some r ∧ rowEnd P r ys = some q ∧ (∀ a, measR P a (xs ++ ys) = measR P (measR P a xs) ys)
  | [], ys, p, q, e => ⟨p, rfl, e, fun a => rfl⟩
  | x :: xs, ys, p, q, e => by
    obtain ⟨t, y, ys', r, rfl, h1, ec, er, _, ep, em⟩ := rowEnd_cons h e
    obtain ⟨r2, a1, a2, a3⟩ := rowEnd_split h xs ys r q er
    refine ⟨r2, ?_, a2, fun a => ?_⟩
    · show (match partEnd P p _ with | some q => rowEnd P q xs | none => none) = _
      rw [ep]; exact a1
    · exact a3 _
/-- a row cut in two -/
theorem measR_split (h : P.Ok) {xs ys : List MV} {p q : Str} (e : rowEnd P p (xs ++ ys) = some q) : join (measR P (0, 0) xs) (measR P (0, 0) ys) = measR P (0, 0) (xs ++ ys) := by
  obtain ⟨r, a1, a2, a3⟩ := rowEnd_split h xs ys p q e
  rw [a3, measR_join h ys _ _ _ a2 (measR_pos h xs _ _ _ a1 ⟨by decide, by decide⟩)]
def wlk (c : Int) (a : Int × Int) : Option Int := if c < a.1 then none else some (c + a.2)
theorem join_lt (c : Int) (a b : Int × Int) : c < (join a b).1 ↔ c < a.1 ∨ c + a.2 < b.1 := by
  simp only [join]; split <;> omega
theorem wlk_join (c : Int) (a b : Int × Int) : wlk c (join a b) = (wlk c a).bind fun d => wlk d b := by
  unfold wlk
  by_cases q : c < a.1
  · rw [if_pos q, if_pos ((join_lt c a b).mpr (.inl q))]
    rfl
  · rw [if_neg q]
    simp only [Option.bind_some]
    by_cases r : c + a.2 < b.1
    · rw [if_pos r, if_pos ((join_lt c a b).mpr (.inr r))]
    · rw [if_neg r, if_neg (fun z => ((join_lt c a b).mp z).elim q r)]
      congr 1; rw [join_c]; omega
theorem wlk_nn {c d : Int} {a : Int × Int} (h : Pos a) (e : wlk c a = some d) : 0 ≤ d := by
  unfold wlk at e
  split at e
  · cases e
  · cases e; obtain ⟨h1, h2⟩ := h; omega
theorem measN_b (h : P.Ok) : ∀ (xs : List MV) (p q : Str) (a : Int × Int) (M Y : Nat), chain P p xs = some q → a.1.natAbs ≤ M → a.2.natAbs ≤ Y → 8 + Y + 4 * xs.length ≤ M → (measN P a xs).1.natAbs ≤ M ∧ (measN P a xs).2.natAbs ≤ Y + 4 * xs.length
  | [], _, _, a, M, Y, _, h1, h2, h3 => ⟨h1, by simpa [measN] using h2⟩
  | x :: xs, p, q, a, M, Y, e, h1, h2, h3 => by
    obtain ⟨s, _, so, _, e2, e3⟩ := chain_cons h e
    have := so.l0; have := so.l8; have := so.c4; have := so.c5
    simp only [List.length_cons] at h3
    rw [e3]
    have := measN_b h xs _ _ (join a (s.l, s.c)) M (Y + 4) e2 (by simp only [join]; split <;> omega) (by simp only [join]; omega) (by omega)
    simp only [List.length_cons]
    exact ⟨this.1, by omega⟩
theorem mul_b {t x : Int} {T X : Nat} (ht : t.natAbs ≤ T) (hx : x.natAbs ≤ X) : (t * x).natAbs ≤ T * X := by
  rw [Int.natAbs_mul]; exact Nat.mul_le_mul ht hx
theorem rnd_b {a : Int × Int} {t : Int} {B : Nat} (h1 : 1 ≤ t) (hB : t ≤ B) (ha : a.1.natAbs ≤ 28) (hb : a.2.natAbs ≤ 20) : (rnd a t).1.natAbs ≤ 60 * B ∧ (rnd a t).2.natAbs ≤ 60 * B := by
  have m1 := mul_b (t := t - 1) (x := a.2) (T := B) (X := 20) (by omega) hb
  have m2 := mul_b (t := t) (x := a.2) (T := B) (X := 20) (by omega) hb
  simp only [rnd]
  constructor
  · split <;> omega
  · omega
theorem measR_b (h : P.Ok) {B : Nat} (hB : 1 ≤ B) : ∀ (xs : List MV) (p q : Str) (a : Int × Int) (M Y : Nat), rowEnd P p xs = some q → (∀ x, x ∈ xs → ∀ t ns, x = .tup [.int t, .lst ns] → t ≤ B ∧ ns.length ≤ 5) → a.1.natAbs ≤ M → a.2.natAbs ≤ Y → 60 * B + Y + 60 * B * xs.length ≤ M → (measR P a xs).1.natAbs ≤ M ∧ (measR P a xs).2.natAbs ≤ Y + 60 * B * xs.length
  | [], _, _, a, M, Y, _, _, h1, h2, h3 => ⟨h1, by simpa [measR] using h2⟩
  | x :: xs, p, q, a, M, Y, e, hx, h1, h2, h3 => by
    obtain ⟨t, y, ys, r, ex, t1, ec, er, _, _, em⟩ := rowEnd_cons h e
    obtain ⟨tB, hl⟩ := hx x (List.mem_cons_self ..) t (y :: ys) ex
    have mb := measN_b h (y :: ys) _ _ (0, 0) 28 0 ec (by decide) (by decide) (by omega)
    have rb := rnd_b (B := B) t1 tB mb.1 (by omega)
    simp only [List.length_cons, Nat.mul_add, Nat.mul_one] at h3
    rw [em]
    have := measR_b h hB xs _ _ (join a (rnd (measN P (0, 0) (y :: ys)) t)) M (Y + 60 * B) er (fun z hz => hx z (List.mem_cons_of_mem _ hz)) (by simp only [join]; split <;> omega) (by simp only [join]; omega) (by omega)
    simp only [List.length_cons, Nat.mul_add, Nat.mul_one]
    exact ⟨this.1, by omega⟩
variable {p q : Str} {B : Int} {R : List (Int × List Nat)}
theorem Row.up {B' : Int} (h : Row P p q B R) (hB : B ≤ B') : Row P p q B' R := ⟨h.e, fun x hx => ⟨(h.t x hx).1, Int.le_trans (h.t x hx).2 hB⟩, h.l, h.n, h.z⟩
theorem Row.G (h : Row P p q B R) : RowG (.lst (rowM R)) := by
  refine ⟨rfl, fun xs e x hx => ?_⟩
  cases e
  obtain ⟨y, hy, rfl⟩ := List.mem_map.mp hx
  refine ⟨rfl, fun zs e z hz => ?_⟩
  cases e
  simp only [List.mem_cons, List.not_mem_nil, or_false] at hz
  rcases hz with rfl | rfl
  · exact ⟨rfl, fun ys e => by cases e⟩
  · exact ⟨rfl, fun ys e => by cases e; exact gd_nM (h.n y hy)⟩
theorem Row.part_gd (h : Row P p q B R) (hB : B ≤ 10 ^ 31 := by decide) : ∀ x, x ∈ rowM R → gd 11 x = true := fun x hx => by
  obtain ⟨y, hy, rfl⟩ := List.mem_map.mp hx
  obtain ⟨t1, t2⟩ := h.t y hy
  refine gd_tup fun z hz => ?_
  simp only [List.mem_cons, List.not_mem_nil, or_false] at hz
  rcases hz with rfl | rfl
  · exact gd_int (Nat.lt_of_lt_of_le (by omega : y.1.natAbs < 10 ^ 31 + 1) (by decide +kernel))
  · exact gd_nM (h.n y hy)
theorem Row.gd (h : Row P p q B R) (hB : B ≤ 10 ^ 31 := by decide) : gd dpt (.lst (rowM R)) = true := gd_lst (h.part_gd hB)
theorem wt_nM (ns : List Nat) : wts (nM ns) ≤ 503 * ns.length := by
  have := wts_le (xs := nM ns) (b := 501) fun x hx => by
    obtain ⟨k, hk, rfl⟩ := List.mem_map.mp hx
    exact Nat.le_refl _
  rwa [nM_len] at this
theorem Row.wt (h : Row P p q B R) : FW.wt (.lst (rowM R)) ≤ 100000 := by
  have := wts_le (xs := rowM R) (b := 4000) fun x hx => by
    obtain ⟨y, hy, rfl⟩ := List.mem_map.mp hx
    have hl := h.l y hy
    have := wt_nM y.2
    show wts [.int y.1, .lst (nM y.2)] + 3 ≤ 4000
    simp only [wts, FW.wt]
    omega
  have hz := h.z
  rw [rowM_len] at this
  show wts (rowM R) + 3 ≤ 100000
  omega
theorem Row.rgd (h : Row P p q B R) (hB : B ≤ 10 ^ 31 := by decide) : rgd (.lst (rowM R)) = true := rgd_of (gd_gx (h.gd hB)) (sz h.wt)
theorem Row.S (h : Row P p q B R) (hB : B ≤ 10 ^ 31 := by decide) : RowS (rowM R) := by
  intro x hx t ns e
  obtain ⟨y, hy, rfl⟩ := List.mem_map.mp hx
  cases e
  obtain ⟨t1, t2⟩ := h.t y hy
  have hl := h.l y hy
  exact ⟨Nat.lt_of_lt_of_le (by omega : y.1.natAbs < 10 ^ 31 + 1) (by decide +kernel), by rw [nM_len]; omega⟩
theorem Row.b (h : Row P p q B R) (hp : P.Ok) (h1 : 1 ≤ B) : (measR P (0, 0) (rowM R)).1.natAbs ≤ 660 * B.toNat ∧ (measR P (0, 0) (rowM R)).2.natAbs ≤ 660 * B.toNat := by
  have hz := h.z
  have := measR_b hp (B := B.toNat) (by omega) (rowM R) _ _ (0, 0) (660 * B.toNat) 0 h.e (fun x hx t ns e => by
    obtain ⟨y, hy, rfl⟩ := List.mem_map.mp hx
    cases e
    have := h.t y hy
    exact ⟨by omega, by rw [nM_len]; exact h.l y hy⟩) (by simp) (by simp) (by
      have : 60 * B.toNat * (rowM R).length ≤ 60 * B.toNat * 10 := Nat.mul_le_mul_left _ (by rw [rowM_len]; exact hz)
      omega)
  refine ⟨this.1, ?_⟩
  have h2 := this.2
  have : 60 * B.toNat * (rowM R).length ≤ 60 * B.toNat * 10 := Nat.mul_le_mul_left _ (by rw [rowM_len]; exact hz)
  omega
/-- no part more often than three times -/
def shortR (R : List (Int × List Nat)) : List (Int × List Nat) := R.map fun x => (if x.1 > 3 then 3 else x.1, x.2)
theorem partEnd_short {x : Int × List Nat} {p : Str} (h : 1 ≤ x.1) : partEnd P p (partM (if x.1 > 3 then 3 else x.1, x.2)) = partEnd P p (partM x) := by
  obtain ⟨t, ns⟩ := x
  cases ns with
  | nil => rfl
  | cons k ks =>
    have h : 1 ≤ t := h
    show partEnd P p (.tup [.int (if t > 3 then 3 else t), .lst (.int (k : Nat) :: nM ks)]) = partEnd P p (.tup [.int t, .lst (.int (k : Nat) :: nM ks)])
    rw [partEnd_eq, partEnd_eq, if_pos h, if_pos (by split <;> omega)]
    have : (1 < (if t > 3 then 3 else t)) = (1 < t) := by
      refine propext ⟨fun z => ?_, fun z => ?_⟩
      · split at z <;> omega
      · split <;> omega
    simp only [this]
theorem Row.short (h : Row P p q B R) : Row P p q 3 (shortR R) := by
  have key : ∀ (R : List (Int × List Nat)) (p : Str), (∀ x, x ∈ R → 1 ≤ x.1) → rowEnd P p (rowM (shortR R)) = rowEnd P p (rowM R) := by
    intro R
    induction R with
    | nil => intro p _; rfl
    | cons x xs ih =>
      intro p hx
      have e1 := partEnd_short (P := P) (p := p) (hx x (List.mem_cons_self ..))
      show (match partEnd P p (partM (if x.1 > 3 then 3 else x.1, x.2)) with | some q => rowEnd P q (rowM (shortR xs)) | none => none) = (match partEnd P p (partM x) with | some q => rowEnd P q (rowM xs) | none => none)
      rw [e1]
      cases partEnd P p (partM x) with
      | none => rfl
      | some q => exact ih q fun y hy => hx y (List.mem_cons_of_mem _ hy)
  refine ⟨(key R p fun x hx => (h.t x hx).1).trans h.e, fun x hx => ?_, fun x hx => ?_, fun x hx => ?_, by unfold shortR; rw [List.length_map]; exact h.z⟩ <;> (obtain ⟨y, hy, rfl⟩ := List.mem_map.mp hx)
  · have := (h.t y hy).1
    show 1 ≤ (if y.1 > 3 then 3 else y.1) ∧ (if y.1 > 3 then 3 else y.1) ≤ 3
    split <;> omega
  · exact h.l y hy
  · exact h.n y hy
theorem Row.last (h : Row P p q B R) (hp : P.Ok) (hm : p ∈ P.pl) : q ∈ P.pl := by
  have key : ∀ (xs : List MV) (p : Str), p ∈ P.pl → rowEnd P p xs = some q → q ∈ P.pl := by
    intro xs
    induction xs with
    | nil => intro p hm e; cases e; exact hm
    | cons x xs ih =>
      intro p hm e
      obtain ⟨t, y, ys, r, _, _, ec, er, _⟩ := rowEnd_cons hp e
      exact ih r (chain_mem hp _ _ hm ec) er
  exact key _ _ hm h.e
end
end FL

namespace FL
open PySem L2 PySem.Spec PyProof.Rows FW

theorem try_exc {p : Str → Bool} {i : Nat} {g gs : SF} {lo lo1 lo2 : Lo} {st st1 st2 : Sto} {c fs} (h : g lo st = .exc c fs lo1 st1) (hp : p c = true) (hs : gs (lo1.set i (some (.exc c fs, false))) st1 = .ok (.nx, lo2, st2)) : sTry p i g gs lo st = .ok (.nx, lo2.set i none, st2) := by
  unfold sTry; rw [h]; simp only; rw [if_pos hp, hs]
theorem try_ok {p : Str → Bool} {i : Nat} {g gs : SF} {lo : Lo} {st : Sto} {r} (h : g lo st = .ok r) : sTry p i g gs lo st = .ok r := by
  unfold sTry; rw [h]
theorem inES {c : Str} (h : c ∈ ES) : inB ES c = true := by unfold inB; exact decide_eq_true h
theorem eqcES {c : Str} (h : c ∈ ES) (d : Str) : eqc ES d c = some (decide (c = d)) := by unfold eqc; rw [if_pos h]
theorem index_gd {xs : List MV} {b : MV} (hx : gd dpt (.lst xs) = true) (hb : gd dpt b = true) (st : Sto) : gIndex st [.lst xs, b] = (fstIx (md b) 0 (mds xs)).map fun j => (.int (j : Nat), false) := by
  show (match FW.toD st dpt (.lst xs), FW.toD st dpt b with
    | some (.list ds), some d => if SeqAt.shaped (.list ds) = true ∧ SeqAt.shaped d = true then (fstIx d 0 ds).map fun j => (MV.int (j : Nat), false) else none
    | _, _ => none) = _
  rw [toD_gd st hx, toD_gd st hb]
  have s1 := shaped_gd hx
  have s2 := shaped_gd hb
  show (if SeqAt.shaped (.list (mds xs)) = true ∧ SeqAt.shaped (md b) = true then (fstIx (md b) 0 (mds xs)).map fun j => (MV.int (j : Nat), false) else none) = _
  rw [if_pos ⟨s1, s2⟩]
theorem eq_self {neg : Bool} {a : MV} (h : gd dpt a = true) (st : Sto) : gEqB neg st a a = some (.bl (!neg), false) := by
  rw [eq_gd h h, eqM_refl h]
  cases neg <;> rfl
/-- the answer of what is caught -/
theorem gd_kR {n : Nat} {R : Str} (k : Int) (hk : k.natAbs < 10 ^ 6) (h : PyData.strOk R = true) : gd (n + 2) (.lst [.int k, .str R]) = true := gd_lst fun x hx => by
  simp only [List.mem_cons, List.not_mem_nil, or_false] at hx
  rcases hx with rfl | rfl
  · exact gd_int (Nat.lt_of_lt_of_le hk (by decide +kernel))
  · exact h
def partgB : MV → Bool
  | .tup ys => ys.all fun y => pln y && match y with | .lst zs => gd dpt (.lst zs) | _ => true
  | m => pln m
def rowgB : MV → Bool
  | .lst xs => xs.all partgB
  | m => pln m
theorem partgB_ok {m : MV} (h : partgB m = true) : PartG m := by
  cases m with
  | tup ys =>
    refine ⟨rfl, fun xs e x hx => ?_⟩
    cases e
    have := List.all_eq_true.mp (show (ys.all fun y => pln y && match y with | .lst zs => gd dpt (.lst zs) | _ => true) = true from h) x hx
    rw [Bool.and_eq_true] at this
    refine ⟨this.1, fun zs e => ?_⟩
    subst e
    exact this.2
  | _ => exact ⟨h, fun xs e => by cases e⟩
theorem rowgB_ok {m : MV} (h : rowgB m = true) : RowG m := by
  cases m with
  | lst ys =>
    refine ⟨rfl, fun xs e x hx => ?_⟩
    cases e
    exact partgB_ok (List.all_eq_true.mp (show ys.all partgB = true from h) x hx)
  | _ => exact ⟨h, fun xs e => by cases e⟩
/-- repr of a thing -/
theorem repr_ok {f : EF} {lo : Lo} {st st1 : Sto} {v : MV} {k : Kd} (h : f lo st = .ok (v, k, st1)) (hr : rgd v = true) : mCallB gRepr (mCons f mNil) lo st = .ok (.str (rp v), .fz, st1) := by
  have hv := pln_vw (rgd_pln hr) st1
  have hR := repr_gd hr st1
  rw [d_mCallB, d_mCons, h]
  simp only [Res.ok_bind, d_mNil, List.map_cons, List.map_nil, hv, hR, d_give0]
/-- the same thing shown twice -/
theorem eq_reprs {neg : Bool} {f g : EF} {lo : Lo} {st st1 st2 : Sto} {v : MV} {k1 k2 : Kd} (h1 : f lo st = .ok (v, k1, st1)) (h2 : g lo st1 = .ok (v, k2, st2)) (hr : rgd v = true) : mOp (gEqB neg) (mCallB gRepr (mCons f mNil)) (mCallB gRepr (mCons g mNil)) lo st = .ok (.bl (!neg), .fz, st2) :=
  opV (repr_ok h1 hr) (repr_ok h2 hr) (eq_self (a := .str (rp v)) (rgd_ok hr) st2)
theorem eqBl {neg : Bool} (a b : Bool) (st : Sto) : gEqB neg st (.bl a) (.bl b) = some (.bl (if neg = true then !(a == b) else (a == b)), false) := by
  rw [eq_gd (a := .bl a) (b := .bl b) rfl rfl]
  cases a <;> cases b <;> cases neg <;> rfl
theorem cut_drop (xs : List MV) {k : Nat} (h : k ≤ xs.length) : cutM xs (some (k : Int)) none = xs.drop k := by
  unfold cutM
  rw [HT.sIx_nat, HT.sIx_none]
  rw [Nat.min_eq_left h]
  have : (xs.drop k).length = xs.length - k := by simp
  rw [← this, List.take_length]
theorem eqvAll_len : ∀ (xs ys : List PyData), PyData.eqvAll xs ys = true → xs.length = ys.length
  | [], [], _ => rfl
  | [], _ :: _, h => by simp [PyData.eqvAll] at h
  | _ :: _, [], h => by simp [PyData.eqvAll] at h
  | x :: xs, y :: ys, h => by
    simp only [PyData.eqvAll, Bool.and_eq_true] at h
    simp [eqvAll_len xs ys h.2]
theorem eqM_len {xs ys : List MV} (h : eqM (.lst xs) (.lst ys) = true) : xs.length = ys.length := by
  have := eqvAll_len (mds xs) (mds ys) (by simpa [eqM, md, PyData.eqv] using h)
  rwa [mds_map, mds_map, List.length_map, List.length_map] at this
theorem iSeq_ok {f : EF} {lo : Lo} {st st1 : Sto} {xs : List MV} {k} (h : f lo st = .ok (.lst xs, k, st1)) (hk : isPk k = false) : iSeq f lo st = .ok (xs, ckT, st1) := iSeq_lst h hk
theorem asg_ok {f : EF} {gf : GF} {lo lo2 : Lo} {st st1 st2 : Sto} {m : MV} {k : Kd} (h : f lo st = .ok (m, k, st1)) (hk : isPk k = false) (hg : gf m lo st1 = .ok (lo2, st2)) : sAsg f gf lo st = .ok (.nx, lo2, st2) := by
  unfold sAsg
  rw [h]
  cases k with
  | pk i => cases hk
  | fz => simp only [Res.ok_bind, d_frz0, hg]
  | fr => simp only [Res.ok_bind, d_frz1, hg]
theorem nil_ok {lo : Lo} {st : Sto} : mNil lo st = .ok (([] : List MV).map (·, false), st) := rfl
theorem cons_ok {f : EF} {g : AF} {lo : Lo} {st st1 st2 : Sto} {m : MV} {k : Kd} {ms : List MV} (h : f lo st = .ok (m, k, st1)) (hk : isPk k = false) (h2 : g lo st1 = .ok (ms.map (·, false), st2)) : mCons f g lo st = .ok ((m :: ms).map (·, false), st2) := by
  rw [d_mCons, h]
  simp only [Res.ok_bind, h2, hk]
  rfl
end FL

namespace K01
open PySem L2 PySem.Spec PyProof.Rows FW FL
def top (i : Nat) : Stmt := PySem.Challenge.pw_floorwalks_k01_errors.main.body.getD i (.Pass ⟨0, 0, 0, 0⟩)
abbrev s_law_bare : Stmt := top 21
abbrev s_law_cell : Stmt := top 13
abbrev s_law_generator : Stmt := top 15
abbrev s_law_kinds : Stmt := top 17
abbrev s_law_named : Stmt := top 20
abbrev s_law_placed : Stmt := top 19
abbrev s_law_hash : Stmt := top 14
abbrev s_law_random : Stmt := top 16
abbrev s_law_right : Stmt := top 18
abbrev s_law : Stmt := top 22
noncomputable def g_law_bare : SF := (sSeq (sSet 0 (mLst (mCons (mMkE "InvalidNumber" "value" [.non] mNil) (mCons (mMkE "InvalidList" "value" [.non] mNil) (mCons (mMkE "InvalidItem" "value" [.non] mNil) (mCons (mMkE "InvalidProgram" "value" [.non] mNil) (mCons (mMkE "InvalidRow" "value" [.non] mNil) (mCons (mMkE "InvalidText" "value" [.non] mNil) mNil))))))))
  (sRet (mOp gAdd (mVar 0) (mLst (mCons (mMkE "InvalidName" "name" [.non] mNil) (mCons (mMkE "TakenName" "name" [.non] mNil) (mCons (mMkE "UnknownName" "name" [.non] mNil) mNil)))))))
noncomputable def M_law_bare : FF := runF 1 g_law_bare
abbrev N_law_bare : List Str := ["_law_found"]
abbrev P_law_bare : List Str := []
theorem sc_law_bare : FnScope N_law_bare P_law_bare (defScope s_law_bare) := ⟨rfl, rfl, rfl, by decide +kernel, rfl, by decide +kernel, by decide +kernel⟩
abbrev N_law_cell : List Str := ["_law_script", "_law_index"]
abbrev P_law_cell : List Str := ["_law_script", "_law_index"]
theorem sc_law_cell : FnScope N_law_cell P_law_cell (defScope s_law_cell) := ⟨rfl, rfl, rfl, by decide +kernel, rfl, by decide +kernel, by decide +kernel⟩
abbrev N_law_generator : List Str := ["_law_script", "_law_index", "_law_seed"]
abbrev P_law_generator : List Str := ["_law_script", "_law_index"]
theorem sc_law_generator : FnScope N_law_generator P_law_generator (defScope s_law_generator) := ⟨rfl, rfl, rfl, by decide +kernel, rfl, by decide +kernel, by decide +kernel⟩
noncomputable def g_law_kinds : SF := (sSeq (sSet 1 (mLst (mCons (mIsi noTy noC (eqc ES10 "InvalidNumber") (mVar 0)) (mCons (mIsi noTy noC (eqc ES10 "InvalidList") (mVar 0)) (mCons (mIsi noTy noC (eqc ES10 "InvalidItem") (mVar 0)) mNil)))))
  (sSeq (sSet 1 (mOp gAdd (mVar 1) (mLst (mCons (mIsi noTy noC (eqc ES10 "InvalidProgram") (mVar 0)) (mCons (mIsi noTy noC (eqc ES10 "InvalidRow") (mVar 0)) mNil)))))
  (sSeq (sSet 1 (mOp gAdd (mVar 1) (mLst (mCons (mIsi noTy noC (eqc ES10 "InvalidText") (mVar 0)) (mCons (mIsi noTy noC (eqc ES10 "InvalidName") (mVar 0)) mNil)))))
  (sSeq (sSet 1 (mOp gAdd (mVar 1) (mLst (mCons (mIsi noTy noC (eqc ES10 "TakenName") (mVar 0)) (mCons (mIsi noTy noC (eqc ES10 "UnknownName") (mVar 0)) mNil)))))
  (sSeq (sIf (mOr (mNotT (mTv (mIsi noTy noC (alc ES10) (mVar 0)))) (mNotT (mTv (mIsi noTy noC (alc ES10) (mVar 0))))) (sRet (mLst mNil)) sNil)
  (sRet (mLc [2] (iRg1 (mC (.int 10))) (gN 2) (mTv (mOp gIx (mOp gAdd (mVar 1) (mLst (mCons (mIsi noTy noC (eqc ES10 "NothingToUndo") (mVar 0)) mNil))) (mVar 2))) (mVar 2))))))))
noncomputable def M_law_kinds : FF := runF 3 g_law_kinds
abbrev N_law_kinds : List Str := ["_law_error", "_law_classes", "_law_at"]
abbrev P_law_kinds : List Str := ["_law_error"]
theorem sc_law_kinds : FnScope N_law_kinds P_law_kinds (defScope s_law_kinds) := ⟨rfl, rfl, rfl, by decide +kernel, rfl, by decide +kernel, by decide +kernel⟩
noncomputable def g_law_named : SF := (sSeq (sSet 1 (mLst (mCons (mMkE "InvalidNumber" "value" [] (mCons (mVar 0) mNil)) (mCons (mMkE "InvalidList" "value" [] (mCons (mVar 0) mNil)) (mCons (mMkE "InvalidItem" "value" [] (mCons (mVar 0) mNil)) mNil)))))
  (sSeq (sSet 1 (mOp gAdd (mVar 1) (mLst (mCons (mMkE "InvalidProgram" "value" [] (mCons (mVar 0) mNil)) (mCons (mMkE "InvalidRow" "value" [] (mCons (mVar 0) mNil)) (mCons (mMkE "InvalidText" "value" [] (mCons (mVar 0) mNil)) mNil))))))
  (sRet (mOp gAdd (mVar 1) (mLst (mCons (mMkE "InvalidName" "name" [] (mCons (mVar 0) mNil)) (mCons (mMkE "TakenName" "name" [] (mCons (mVar 0) mNil)) (mCons (mMkE "UnknownName" "name" [] (mCons (mVar 0) mNil)) mNil))))))))
noncomputable def M_law_named : FF := runF 2 g_law_named
abbrev N_law_named : List Str := ["_law_given", "_law_found"]
abbrev P_law_named : List Str := ["_law_given"]
theorem sc_law_named : FnScope N_law_named P_law_named (defScope s_law_named) := ⟨rfl, rfl, rfl, by decide +kernel, rfl, by decide +kernel, by decide +kernel⟩
noncomputable def g_law_placed : SF := (sSeq (sSet 1 (mLst (mCons (mMkE "InvalidNumber" "value" [] (mCons (mVar 0) mNil)) (mCons (mMkE "InvalidList" "value" [] (mCons (mVar 0) mNil)) (mCons (mMkE "InvalidItem" "value" [] (mCons (mVar 0) mNil)) (mCons (mMkE "InvalidProgram" "value" [] (mCons (mVar 0) mNil)) (mCons (mMkE "InvalidRow" "value" [] (mCons (mVar 0) mNil)) mNil)))))))
  (sRet (mOp gAdd (mVar 1) (mLst (mCons (mMkE "InvalidText" "value" [] (mCons (mVar 0) mNil)) (mCons (mMkE "InvalidName" "name" [] (mCons (mVar 0) mNil)) (mCons (mMkE "TakenName" "name" [] (mCons (mVar 0) mNil)) (mCons (mMkE "UnknownName" "name" [] (mCons (mVar 0) mNil)) mNil))))))))
noncomputable def M_law_placed : FF := runF 2 g_law_placed
abbrev N_law_placed : List Str := ["_law_given", "_law_found"]
abbrev P_law_placed : List Str := ["_law_given"]
theorem sc_law_placed : FnScope N_law_placed P_law_placed (defScope s_law_placed) := ⟨rfl, rfl, rfl, by decide +kernel, rfl, by decide +kernel, by decide +kernel⟩
abbrev N_law_hash : List Str := ["_law_seed", "_law_index", "_law_mixed"]
abbrev P_law_hash : List Str := ["_law_seed", "_law_index"]
theorem sc_law_hash : FnScope N_law_hash P_law_hash (defScope s_law_hash) := ⟨rfl, rfl, rfl, by decide +kernel, rfl, by decide +kernel, by decide +kernel⟩
abbrev N_law_random : List Str := ["_law_generator_here", "_law_bound", "_law_drawn", "_law_turn"]
abbrev P_law_random : List Str := ["_law_generator_here", "_law_bound"]
theorem sc_law_random : FnScope N_law_random P_law_random (defScope s_law_random) := ⟨rfl, rfl, rfl, by decide +kernel, rfl, by decide +kernel, by decide +kernel⟩
noncomputable def g_law_right : SF := (sSeq (sIf (mTv (mOp (gEqB true) (mLc [3] (iSeq (mVar 0)) (gN 3) tYesM (mCall 1 M_law_kinds [] (mCons (mVar 3) mNil))) (mLc [4] (iRg1 (mC (.int 9))) (gN 4) tYesM (mLst (mCons (mVar 4) mNil))))) (sRet (mC (.bl false))) sNil)
  (sSeq (sSet 2 (mOp gAdd (mLc [3] (iSeq (mSl (mVar 0) oNone (oSome (mC (.int 6))))) (gN 3) tYesM (mFld "value" noB (inB ES) (mVar 3))) (mLc [3] (iSeq (mSl (mVar 0) (oSome (mC (.int 6))) oNone)) (gN 3) tYesM (mFld "name" noB (inB ES) (mVar 3)))))
  (sRet (mOp (gEqB false) (mCallB gRepr (mCons (mVar 2) mNil)) (mCallB gRepr (mCons (mOp gMul (mLst (mCons (mVar 1) mNil)) (mC (.int 9))) mNil))))))
noncomputable def M_law_right : FF := runF 5 g_law_right
abbrev N_law_right : List Str := ["_law_errors", "_law_given", "_law_fields", "_law_error", "_law_at"]
abbrev P_law_right : List Str := ["_law_errors", "_law_given"]
theorem sc_law_right : FnScope N_law_right P_law_right (defScope s_law_right) := ⟨rfl, rfl, rfl, by decide +kernel, rfl, by decide +kernel, by decide +kernel⟩
noncomputable abbrev b1_law : SF := (sSeq (sPar 4 5 false false (mCall 1 M_law_placed [] (mCons (mVar 3) mNil)) (mCall 1 M_law_named [] (mCons (mVar 3) mNil)))
  (sSeq (sIf (mOr (mNotT (mTv (mCall 2 M_law_right [] (mCons (mVar 4) (mCons (mVar 3) mNil))))) (mNotT (mTv (mCall 2 M_law_right [] (mCons (mVar 5) (mCons (mVar 3) mNil)))))) (sRet (mC (.bl false))) sNil)
  (sSeq (sIf (mTv (mIsi (isT "list") noC noC (mVar 3))) (sApp (mVar 3) (mC (.str "more"))) sNil)
  (sSeq (sIf (mTv (mIsi (isT "dict") noC noC (mVar 3))) (sPutD (mLst (mCons (mC (.int 1)) mNil)) (mVar 3) (mC (.str "more"))) sNil)
  (sIf (mOr (mNotT (mTv (mCall 2 M_law_right [] (mCons (mVar 4) (mCons (mVar 3) mNil))))) (mNotT (mTv (mCall 2 M_law_right [] (mCons (mVar 5) (mCons (mVar 3) mNil)))))) (sRet (mC (.bl false))) sNil)))))
noncomputable def g_law : SF := (sSeq (sSet 1 (mCall 2 M_law_random [] (mCons (mSto (mCall 2 M_law_generator [] (mCons (mVar 0) (mCons (mC (.int 0)) mNil)))) (mCons (mOp gPow (mC (.int 10)) (mC (.int 12))) mNil))))
  (sSeq (sSet 2 (mLst (mCons (mCall 1 M_law_placed [] (mCons (mVar 1) mNil)) (mCons (mCall 1 M_law_named [] (mCons (mC (.str "elder")) mNil)) mNil))))
  (sSeq (sFor (iSeq (mLst (mCons (mVar 1) (mCons (mOp gSub (mC (.int 0)) (mVar 1)) (mCons (mTup (mCons (mC (.int 1)) (mCons (mC (.int 2)) mNil))) (mCons (mTup mNil) (mCons (mSto (mLst (mCons (mC (.int 1)) mNil))) (mCons (mSto (mLst mNil)) (mCons (mSto mDct0) (mCons (mSto (mDp1 (.inr "a") (mLst (mCons (mVar 1) mNil)))) (mCons (mC (.str "a b")) (mCons (mC (.str "")) (mCons (mC (.bl true)) (mCons (mC .non) (mCons (mTup (mCons (mC (.str "a")) (mCons (mC (.int 0)) (mCons (mC (.int 1)) (mCons (mC (.str "b")) mNil))))) mNil))))))))))))))) (gN 3) b1_law)
  (sSeq (sIf (mOr (mNotT (mTv (mCall 2 M_law_right [] (mCons (mOp gIx (mVar 2) (mC (.int 0))) (mCons (mVar 1) mNil))))) (mOr (mNotT (mTv (mCall 2 M_law_right [] (mCons (mOp gIx (mVar 2) (mC (.int 1))) (mCons (mC (.str "elder")) mNil))))) (mNotT (mTv (mCall 2 M_law_right [] (mCons (mCall 0 M_law_bare [] mNil) (mCons (mC .non) mNil))))))) (sRet (mC (.bl false))) sNil)
  (sRet (mOp (gEqB false) (mCall 1 M_law_kinds [] (mCons (mMkN "NothingToUndo") mNil)) (mLst (mCons (mC (.int 9)) mNil))))))))
noncomputable def M_law : FF := runF 6 g_law
abbrev N_law : List Str := ["_law_script", "_law_mark", "_law_elder", "_law_given", "_law_first", "_law_second"]
abbrev P_law : List Str := ["_law_script"]
theorem sc_law : FnScope N_law P_law (defScope s_law) := ⟨rfl, rfl, rfl, by decide +kernel, rfl, by decide +kernel, by decide +kernel⟩
structure Tx (P : Program) (K : PySem.W.Frag) (mg : Str → Option Value) where
  f_law_bare : Addr
  d_law_bare : FuncData
  F_law_bare : Fun K "_law_bare" "_law_bare" s_law_bare f_law_bare d_law_bare
  b_law_bare : Binds K d_law_bare P_law_bare []
  m_law_bare : mg "_law_bare" = some (.ref f_law_bare)
  p_law_bare : PySem.W.keepIn K (.ref f_law_bare) = true
  f_law_cell : Addr
  d_law_cell : FuncData
  F_law_cell : Fun K "_law_cell" "_law_cell" s_law_cell f_law_cell d_law_cell
  b_law_cell : Binds K d_law_cell P_law_cell []
  m_law_cell : mg "_law_cell" = some (.ref f_law_cell)
  p_law_cell : PySem.W.keepIn K (.ref f_law_cell) = true
  f_law_generator : Addr
  d_law_generator : FuncData
  F_law_generator : Fun K "_law_generator" "_law_generator" s_law_generator f_law_generator d_law_generator
  b_law_generator : Binds K d_law_generator P_law_generator []
  m_law_generator : mg "_law_generator" = some (.ref f_law_generator)
  p_law_generator : PySem.W.keepIn K (.ref f_law_generator) = true
  f_law_kinds : Addr
  d_law_kinds : FuncData
  F_law_kinds : Fun K "_law_kinds" "_law_kinds" s_law_kinds f_law_kinds d_law_kinds
  b_law_kinds : Binds K d_law_kinds P_law_kinds []
  m_law_kinds : mg "_law_kinds" = some (.ref f_law_kinds)
  p_law_kinds : PySem.W.keepIn K (.ref f_law_kinds) = true
  f_law_named : Addr
  d_law_named : FuncData
  F_law_named : Fun K "_law_named" "_law_named" s_law_named f_law_named d_law_named
  b_law_named : Binds K d_law_named P_law_named []
  m_law_named : mg "_law_named" = some (.ref f_law_named)
  p_law_named : PySem.W.keepIn K (.ref f_law_named) = true
  f_law_placed : Addr
  d_law_placed : FuncData
  F_law_placed : Fun K "_law_placed" "_law_placed" s_law_placed f_law_placed d_law_placed
  b_law_placed : Binds K d_law_placed P_law_placed []
  m_law_placed : mg "_law_placed" = some (.ref f_law_placed)
  p_law_placed : PySem.W.keepIn K (.ref f_law_placed) = true
  f_law_hash : Addr
  d_law_hash : FuncData
  F_law_hash : Fun K "_law_hash" "_law_hash" s_law_hash f_law_hash d_law_hash
  b_law_hash : Binds K d_law_hash P_law_hash []
  m_law_hash : mg "_law_hash" = some (.ref f_law_hash)
  p_law_hash : PySem.W.keepIn K (.ref f_law_hash) = true
  f_law_random : Addr
  d_law_random : FuncData
  F_law_random : Fun K "_law_random" "_law_random" s_law_random f_law_random d_law_random
  b_law_random : Binds K d_law_random P_law_random []
  m_law_random : mg "_law_random" = some (.ref f_law_random)
  p_law_random : PySem.W.keepIn K (.ref f_law_random) = true
  f_law_right : Addr
  d_law_right : FuncData
  F_law_right : Fun K "_law_right" "_law_right" s_law_right f_law_right d_law_right
  b_law_right : Binds K d_law_right P_law_right []
  m_law_right : mg "_law_right" = some (.ref f_law_right)
  p_law_right : PySem.W.keepIn K (.ref f_law_right) = true
  f_law : Addr
  d_law : FuncData
  F_law : Fun K "law" "law" s_law f_law d_law
  b_law : Binds K d_law P_law []
  m_law : mg "law" = some (.ref f_law)
  p_law : PySem.W.keepIn K (.ref f_law) = true
  z_ValueError : mg "ValueError" = none
  z_dict : mg "dict" = none
  z_int : mg "int" = none
  z_isinstance : mg "isinstance" = none
  z_len : mg "len" = none
  z_list : mg "list" = none
  z_max : mg "max" = none
  z_range : mg "range" = none
  z_repr : mg "repr" = none
  c_InvalidItem : Addr
  mc_InvalidItem : mg "InvalidItem" = some (.ref c_InvalidItem)
  eq_InvalidItem : ∀ c, c ∈ ES10 → ∀ C, mg c = some (.ref C) → ExcC K C ∧ PySem.W.kitOne K (.ref C) (.ref c_InvalidItem) = some (decide (c = "InvalidItem"))
  j_InvalidItem : Addr
  dj_InvalidItem : FuncData
  i_InvalidItem : Ini P K mg "value" c_InvalidItem j_InvalidItem dj_InvalidItem
  bi_InvalidItem : Binds K dj_InvalidItem ["self", "value"] []
  bk_InvalidItem : ∀ (s2 : Shared), K.In s2.heap → ∀ me u, BindsTo s2 dj_InvalidItem ⟨[me], [("value", u)]⟩ [(("self" : Str), me), ("value", u)]
  b0_InvalidItem : Binds K dj_InvalidItem ["self", "value"] [.none]
  c_InvalidList : Addr
  mc_InvalidList : mg "InvalidList" = some (.ref c_InvalidList)
  eq_InvalidList : ∀ c, c ∈ ES10 → ∀ C, mg c = some (.ref C) → ExcC K C ∧ PySem.W.kitOne K (.ref C) (.ref c_InvalidList) = some (decide (c = "InvalidList"))
  j_InvalidList : Addr
  dj_InvalidList : FuncData
  i_InvalidList : Ini P K mg "value" c_InvalidList j_InvalidList dj_InvalidList
  bi_InvalidList : Binds K dj_InvalidList ["self", "value"] []
  bk_InvalidList : ∀ (s2 : Shared), K.In s2.heap → ∀ me u, BindsTo s2 dj_InvalidList ⟨[me], [("value", u)]⟩ [(("self" : Str), me), ("value", u)]
  b0_InvalidList : Binds K dj_InvalidList ["self", "value"] [.none]
  c_InvalidName : Addr
  mc_InvalidName : mg "InvalidName" = some (.ref c_InvalidName)
  eq_InvalidName : ∀ c, c ∈ ES10 → ∀ C, mg c = some (.ref C) → ExcC K C ∧ PySem.W.kitOne K (.ref C) (.ref c_InvalidName) = some (decide (c = "InvalidName"))
  j_InvalidName : Addr
  dj_InvalidName : FuncData
  i_InvalidName : Ini P K mg "name" c_InvalidName j_InvalidName dj_InvalidName
  bi_InvalidName : Binds K dj_InvalidName ["self", "name"] []
  bk_InvalidName : ∀ (s2 : Shared), K.In s2.heap → ∀ me u, BindsTo s2 dj_InvalidName ⟨[me], [("name", u)]⟩ [(("self" : Str), me), ("name", u)]
  b0_InvalidName : Binds K dj_InvalidName ["self", "name"] [.none]
  c_InvalidNumber : Addr
  mc_InvalidNumber : mg "InvalidNumber" = some (.ref c_InvalidNumber)
  eq_InvalidNumber : ∀ c, c ∈ ES10 → ∀ C, mg c = some (.ref C) → ExcC K C ∧ PySem.W.kitOne K (.ref C) (.ref c_InvalidNumber) = some (decide (c = "InvalidNumber"))
  j_InvalidNumber : Addr
  dj_InvalidNumber : FuncData
  i_InvalidNumber : Ini P K mg "value" c_InvalidNumber j_InvalidNumber dj_InvalidNumber
  bi_InvalidNumber : Binds K dj_InvalidNumber ["self", "value"] []
  bk_InvalidNumber : ∀ (s2 : Shared), K.In s2.heap → ∀ me u, BindsTo s2 dj_InvalidNumber ⟨[me], [("value", u)]⟩ [(("self" : Str), me), ("value", u)]
  b0_InvalidNumber : Binds K dj_InvalidNumber ["self", "value"] [.none]
  c_InvalidProgram : Addr
  mc_InvalidProgram : mg "InvalidProgram" = some (.ref c_InvalidProgram)
  eq_InvalidProgram : ∀ c, c ∈ ES10 → ∀ C, mg c = some (.ref C) → ExcC K C ∧ PySem.W.kitOne K (.ref C) (.ref c_InvalidProgram) = some (decide (c = "InvalidProgram"))
  j_InvalidProgram : Addr
  dj_InvalidProgram : FuncData
  i_InvalidProgram : Ini P K mg "value" c_InvalidProgram j_InvalidProgram dj_InvalidProgram
  bi_InvalidProgram : Binds K dj_InvalidProgram ["self", "value"] []
  bk_InvalidProgram : ∀ (s2 : Shared), K.In s2.heap → ∀ me u, BindsTo s2 dj_InvalidProgram ⟨[me], [("value", u)]⟩ [(("self" : Str), me), ("value", u)]
  b0_InvalidProgram : Binds K dj_InvalidProgram ["self", "value"] [.none]
  c_InvalidRow : Addr
  mc_InvalidRow : mg "InvalidRow" = some (.ref c_InvalidRow)
  eq_InvalidRow : ∀ c, c ∈ ES10 → ∀ C, mg c = some (.ref C) → ExcC K C ∧ PySem.W.kitOne K (.ref C) (.ref c_InvalidRow) = some (decide (c = "InvalidRow"))
  j_InvalidRow : Addr
  dj_InvalidRow : FuncData
  i_InvalidRow : Ini P K mg "value" c_InvalidRow j_InvalidRow dj_InvalidRow
  bi_InvalidRow : Binds K dj_InvalidRow ["self", "value"] []
  bk_InvalidRow : ∀ (s2 : Shared), K.In s2.heap → ∀ me u, BindsTo s2 dj_InvalidRow ⟨[me], [("value", u)]⟩ [(("self" : Str), me), ("value", u)]
  b0_InvalidRow : Binds K dj_InvalidRow ["self", "value"] [.none]
  c_InvalidText : Addr
  mc_InvalidText : mg "InvalidText" = some (.ref c_InvalidText)
  eq_InvalidText : ∀ c, c ∈ ES10 → ∀ C, mg c = some (.ref C) → ExcC K C ∧ PySem.W.kitOne K (.ref C) (.ref c_InvalidText) = some (decide (c = "InvalidText"))
  j_InvalidText : Addr
  dj_InvalidText : FuncData
  i_InvalidText : Ini P K mg "value" c_InvalidText j_InvalidText dj_InvalidText
  bi_InvalidText : Binds K dj_InvalidText ["self", "value"] []
  bk_InvalidText : ∀ (s2 : Shared), K.In s2.heap → ∀ me u, BindsTo s2 dj_InvalidText ⟨[me], [("value", u)]⟩ [(("self" : Str), me), ("value", u)]
  b0_InvalidText : Binds K dj_InvalidText ["self", "value"] [.none]
  c_TakenName : Addr
  mc_TakenName : mg "TakenName" = some (.ref c_TakenName)
  eq_TakenName : ∀ c, c ∈ ES10 → ∀ C, mg c = some (.ref C) → ExcC K C ∧ PySem.W.kitOne K (.ref C) (.ref c_TakenName) = some (decide (c = "TakenName"))
  j_TakenName : Addr
  dj_TakenName : FuncData
  i_TakenName : Ini P K mg "name" c_TakenName j_TakenName dj_TakenName
  bi_TakenName : Binds K dj_TakenName ["self", "name"] []
  bk_TakenName : ∀ (s2 : Shared), K.In s2.heap → ∀ me u, BindsTo s2 dj_TakenName ⟨[me], [("name", u)]⟩ [(("self" : Str), me), ("name", u)]
  b0_TakenName : Binds K dj_TakenName ["self", "name"] [.none]
  c_UnknownName : Addr
  mc_UnknownName : mg "UnknownName" = some (.ref c_UnknownName)
  eq_UnknownName : ∀ c, c ∈ ES10 → ∀ C, mg c = some (.ref C) → ExcC K C ∧ PySem.W.kitOne K (.ref C) (.ref c_UnknownName) = some (decide (c = "UnknownName"))
  j_UnknownName : Addr
  dj_UnknownName : FuncData
  i_UnknownName : Ini P K mg "name" c_UnknownName j_UnknownName dj_UnknownName
  bi_UnknownName : Binds K dj_UnknownName ["self", "name"] []
  bk_UnknownName : ∀ (s2 : Shared), K.In s2.heap → ∀ me u, BindsTo s2 dj_UnknownName ⟨[me], [("name", u)]⟩ [(("self" : Str), me), ("name", u)]
  b0_UnknownName : Binds K dj_UnknownName ["self", "name"] [.none]
  c_NothingToUndo : Addr
  mc_NothingToUndo : mg "NothingToUndo" = some (.ref c_NothingToUndo)
  xi_NothingToUndo : PySem.W.excIn K c_NothingToUndo [.type "ValueError", .type "Exception", .type "BaseException", .type "object"] "ValueError.__new__" = true
  kp_NothingToUndo : PySem.W.keepIn K (.ref c_NothingToUndo) = true
  eq_NothingToUndo : ∀ c, c ∈ ES10 → ∀ C, mg c = some (.ref C) → ExcC K C ∧ PySem.W.kitOne K (.ref C) (.ref c_NothingToUndo) = some (decide (c = "NothingToUndo"))
  al_ValueError : ∀ c, c ∈ ES10 → ∀ C, mg c = some (.ref C) → ExcC K C ∧ PySem.W.kitOne K (.ref C) (.type "ValueError") = some true
  c_WalkError : Addr
  mc_WalkError : mg "WalkError" = some (.ref c_WalkError)
  al_WalkError : ∀ c, c ∈ ES10 → ∀ C, mg c = some (.ref C) → ExcC K C ∧ PySem.W.kitOne K (.ref C) (.ref c_WalkError) = some true
  fE_name : ∀ n C, inB ES n = true → mg n = some (.ref C) → ExcC K C ∧ NoAttr K C "name"
  fE_value : ∀ n C, inB ES n = true → mg n = some (.ref C) → ExcC K C ∧ NoAttr K C "value"
section
variable {P : Program} {w : World} {K : PySem.W.Frag} {mg : Str → Option Value}
theorem Tx.k_law_bare (T : Tx P K mg) (base : Heap) : FnG P w K mg base 3 T.f_law_bare T.d_law_bare P_law_bare (spM ⟨K, mg⟩ 0 M_law_bare) := by
  refine fnM (k := 2) (N := N_law_bare) T.F_law_bare sc_law_bare (by decide) fun X B W cdv A outer s H E hX hr tk => ?_
  subst hX
  have nd : (N_law_bare).Nodup := sc_law_bare.nd
  exact (ss_cons (ss_set 0 nd (se_lst (sa_cons (se_mkE0 (k := 0) (dv := .non) T.i_InvalidNumber (hr.mono (by decide)) T.b0_InvalidNumber rfl (fun _ _ _ => .non) (by rfl) T.mc_InvalidNumber) (sa_cons (se_mkE0 (k := 0) (dv := .non) T.i_InvalidList (hr.mono (by decide)) T.b0_InvalidList rfl (fun _ _ _ => .non) (by rfl) T.mc_InvalidList) (sa_cons (se_mkE0 (k := 0) (dv := .non) T.i_InvalidItem (hr.mono (by decide)) T.b0_InvalidItem rfl (fun _ _ _ => .non) (by rfl) T.mc_InvalidItem) (sa_cons (se_mkE0 (k := 0) (dv := .non) T.i_InvalidProgram (hr.mono (by decide)) T.b0_InvalidProgram rfl (fun _ _ _ => .non) (by rfl) T.mc_InvalidProgram) (sa_cons (se_mkE0 (k := 0) (dv := .non) T.i_InvalidRow (hr.mono (by decide)) T.b0_InvalidRow rfl (fun _ _ _ => .non) (by rfl) T.mc_InvalidRow) (sa_cons (se_mkE0 (k := 0) (dv := .non) T.i_InvalidText (hr.mono (by decide)) T.b0_InvalidText rfl (fun _ _ _ => .non) (by rfl) T.mc_InvalidText) sa_nil))))))))
      (ss_one (ss_ret (se_add (se_var 0) (se_lst (sa_cons (se_mkE0 (k := 0) (dv := .non) T.i_InvalidName (hr.mono (by decide)) T.b0_InvalidName rfl (fun _ _ _ => .non) (by rfl) T.mc_InvalidName) (sa_cons (se_mkE0 (k := 0) (dv := .non) T.i_TakenName (hr.mono (by decide)) T.b0_TakenName rfl (fun _ _ _ => .non) (by rfl) T.mc_TakenName) (sa_cons (se_mkE0 (k := 0) (dv := .non) T.i_UnknownName (hr.mono (by decide)) T.b0_UnknownName rfl (fun _ _ _ => .non) (by rfl) T.mc_UnknownName) sa_nil))))))))
theorem Tx.k_law_cell (T : Tx P K mg) (base : Heap) : FnG P w K mg base 3 T.f_law_cell T.d_law_cell P_law_cell (spM ⟨K, mg⟩ 2 M_law_cell) := by
  refine fnM (k := 2) (N := N_law_cell) T.F_law_cell sc_law_cell (by decide) fun X B W cdv A outer s H E hX hr tk => ?_
  subst hX
  have nd : (N_law_cell).Nodup := sc_law_cell.nd
  exact (ss_cons (ss_if (st_lt (se_var 1) (se_callB call_len ok_len (by rfl) T.z_len PyProof.Rows.Boot.«len» (sa_cons (se_var 0) sa_nil))) (ss_one (ss_ret (se_ix (se_var 0) (se_var 1)))) ss_nil)
      (ss_one (ss_ret se_int)))
theorem Tx.k_law_generator (T : Tx P K mg) (base : Heap) : FnG P w K mg base 4 T.f_law_generator T.d_law_generator P_law_generator (spM ⟨K, mg⟩ 2 M_law_generator) := by
  refine fnM (k := 3) (N := N_law_generator) T.F_law_generator sc_law_generator (by decide) fun X B W cdv A outer s H E hX hr tk => ?_
  subst hX
  have nd : (N_law_generator).Nodup := sc_law_generator.nd
  exact (ss_cons (ss_set 2 nd (se_call (T.k_law_cell base) (hr.mono (by decide)) tk (by rfl) T.m_law_cell T.p_law_cell T.b_law_cell .nil (fun _ _ _ => .nil) (sa_cons (se_var 0) (sa_cons (se_var 1) sa_nil))))
      (ss_one (ss_ret (se_lst (sa_cons (se_mod (se_callTy call_int1 ok_int1 (by rfl) T.z_int PyProof.Rows.Boot.«int» (sa_cons (se_callB (call_max2 rfl) ok_max2 (by rfl) T.z_max PyProof.Rows.Boot.«max» (sa_cons (se_sub (se_var 2) (se_pow se_int se_int)) (sa_cons se_int sa_nil))) sa_nil)) (se_pow (se_pow se_int se_int) se_int)) (sa_cons (se_mod (se_callTy call_int1 ok_int1 (by rfl) T.z_int PyProof.Rows.Boot.«int» (sa_cons (se_var 2) sa_nil)) se_int) (sa_cons (se_mul se_int (se_var 1)) sa_nil)))))))
theorem Tx.k_law_kinds (T : Tx P K mg) (base : Heap) : FnG P w K mg base 3 T.f_law_kinds T.d_law_kinds P_law_kinds (spM ⟨K, mg⟩ 1 M_law_kinds) := by
  refine fnM (k := 2) (N := N_law_kinds) T.F_law_kinds sc_law_kinds (by decide) fun X B W cdv A outer s H E hX hr tk => ?_
  subst hX
  have nd : (N_law_kinds).Nodup := sc_law_kinds.nd
  exact (ss_cons (ss_set 1 nd (se_lst (sa_cons (se_isUp (by rfl) T.z_isinstance (by rfl) T.mc_InvalidNumber (se_var 0) (eqc_use T.eq_InvalidNumber)) (sa_cons (se_isUp (by rfl) T.z_isinstance (by rfl) T.mc_InvalidList (se_var 0) (eqc_use T.eq_InvalidList)) (sa_cons (se_isUp (by rfl) T.z_isinstance (by rfl) T.mc_InvalidItem (se_var 0) (eqc_use T.eq_InvalidItem)) sa_nil)))))
      (ss_cons (ss_set 1 nd (se_add (se_var 1) (se_lst (sa_cons (se_isUp (by rfl) T.z_isinstance (by rfl) T.mc_InvalidProgram (se_var 0) (eqc_use T.eq_InvalidProgram)) (sa_cons (se_isUp (by rfl) T.z_isinstance (by rfl) T.mc_InvalidRow (se_var 0) (eqc_use T.eq_InvalidRow)) sa_nil)))))
      (ss_cons (ss_set 1 nd (se_add (se_var 1) (se_lst (sa_cons (se_isUp (by rfl) T.z_isinstance (by rfl) T.mc_InvalidText (se_var 0) (eqc_use T.eq_InvalidText)) (sa_cons (se_isUp (by rfl) T.z_isinstance (by rfl) T.mc_InvalidName (se_var 0) (eqc_use T.eq_InvalidName)) sa_nil)))))
      (ss_cons (ss_set 1 nd (se_add (se_var 1) (se_lst (sa_cons (se_isUp (by rfl) T.z_isinstance (by rfl) T.mc_TakenName (se_var 0) (eqc_use T.eq_TakenName)) (sa_cons (se_isUp (by rfl) T.z_isinstance (by rfl) T.mc_UnknownName (se_var 0) (eqc_use T.eq_UnknownName)) sa_nil)))))
      (ss_cons (ss_if (st_w (sw_or (st_not (st_val (se_isUp (by rfl) T.z_isinstance (by rfl) T.mc_WalkError (se_var 0) (alc_use T.al_WalkError)))) (sw_or1 (st_not (st_val (se_isUpT "ValueError" (by rfl) T.z_isinstance (by rfl) T.z_ValueError PyProof.Rows.Boot.«ValueError» (se_var 0) (alc_use T.al_ValueError))))))) (ss_one (ss_ret (se_lst sa_nil))) ss_nil)
      (ss_one (ss_ret (se_lc rfl nd (si_rg1 (by rfl) T.z_range se_int) (blkOk_by (own := [("_law_at", 2)]) (by show blkC N_law_kinds (defScope s_law_kinds) _ _ = true; decide +kernel)) (fun _ _ _ _ _ _ => (sg_name (vs := _) 2 nd)) (fun _ _ _ _ _ _ => (spts_one (st_val (se_ix (se_add (se_var 1) (se_lst (sa_cons (se_isUp (by rfl) T.z_isinstance (by rfl) T.mc_NothingToUndo (se_var 0) (eqc_use T.eq_NothingToUndo)) sa_nil))) (se_var 2))))) (fun _ _ _ _ _ _ => (se_var 2))))))))))
theorem Tx.k_law_named (T : Tx P K mg) (base : Heap) : FnG P w K mg base 3 T.f_law_named T.d_law_named P_law_named (spM ⟨K, mg⟩ 1 M_law_named) := by
  refine fnM (k := 2) (N := N_law_named) T.F_law_named sc_law_named (by decide) fun X B W cdv A outer s H E hX hr tk => ?_
  subst hX
  have nd : (N_law_named).Nodup := sc_law_named.nd
  exact (ss_cons (ss_set 1 nd (se_lst (sa_cons (se_mkEk (k := 0) T.i_InvalidNumber (hr.mono (by decide)) T.bk_InvalidNumber (by rfl) T.mc_InvalidNumber (se_var 0)) (sa_cons (se_mkEk (k := 0) T.i_InvalidList (hr.mono (by decide)) T.bk_InvalidList (by rfl) T.mc_InvalidList (se_var 0)) (sa_cons (se_mkEk (k := 0) T.i_InvalidItem (hr.mono (by decide)) T.bk_InvalidItem (by rfl) T.mc_InvalidItem (se_var 0)) sa_nil)))))
      (ss_cons (ss_set 1 nd (se_add (se_var 1) (se_lst (sa_cons (se_mkEk (k := 0) T.i_InvalidProgram (hr.mono (by decide)) T.bk_InvalidProgram (by rfl) T.mc_InvalidProgram (se_var 0)) (sa_cons (se_mkEk (k := 0) T.i_InvalidRow (hr.mono (by decide)) T.bk_InvalidRow (by rfl) T.mc_InvalidRow (se_var 0)) (sa_cons (se_mkEk (k := 0) T.i_InvalidText (hr.mono (by decide)) T.bk_InvalidText (by rfl) T.mc_InvalidText (se_var 0)) sa_nil))))))
      (ss_one (ss_ret (se_add (se_var 1) (se_lst (sa_cons (se_mkEk (k := 0) T.i_InvalidName (hr.mono (by decide)) T.bk_InvalidName (by rfl) T.mc_InvalidName (se_var 0)) (sa_cons (se_mkEk (k := 0) T.i_TakenName (hr.mono (by decide)) T.bk_TakenName (by rfl) T.mc_TakenName (se_var 0)) (sa_cons (se_mkEk (k := 0) T.i_UnknownName (hr.mono (by decide)) T.bk_UnknownName (by rfl) T.mc_UnknownName (se_var 0)) sa_nil)))))))))
theorem Tx.k_law_placed (T : Tx P K mg) (base : Heap) : FnG P w K mg base 3 T.f_law_placed T.d_law_placed P_law_placed (spM ⟨K, mg⟩ 1 M_law_placed) := by
  refine fnM (k := 2) (N := N_law_placed) T.F_law_placed sc_law_placed (by decide) fun X B W cdv A outer s H E hX hr tk => ?_
  subst hX
  have nd : (N_law_placed).Nodup := sc_law_placed.nd
  exact (ss_cons (ss_set 1 nd (se_lst (sa_cons (se_mkE (k := 0) T.i_InvalidNumber (hr.mono (by decide)) T.bi_InvalidNumber .nil (fun _ _ _ => .nil) (by rfl) T.mc_InvalidNumber (sa_cons (se_var 0) sa_nil)) (sa_cons (se_mkE (k := 0) T.i_InvalidList (hr.mono (by decide)) T.bi_InvalidList .nil (fun _ _ _ => .nil) (by rfl) T.mc_InvalidList (sa_cons (se_var 0) sa_nil)) (sa_cons (se_mkE (k := 0) T.i_InvalidItem (hr.mono (by decide)) T.bi_InvalidItem .nil (fun _ _ _ => .nil) (by rfl) T.mc_InvalidItem (sa_cons (se_var 0) sa_nil)) (sa_cons (se_mkE (k := 0) T.i_InvalidProgram (hr.mono (by decide)) T.bi_InvalidProgram .nil (fun _ _ _ => .nil) (by rfl) T.mc_InvalidProgram (sa_cons (se_var 0) sa_nil)) (sa_cons (se_mkE (k := 0) T.i_InvalidRow (hr.mono (by decide)) T.bi_InvalidRow .nil (fun _ _ _ => .nil) (by rfl) T.mc_InvalidRow (sa_cons (se_var 0) sa_nil)) sa_nil)))))))
      (ss_one (ss_ret (se_add (se_var 1) (se_lst (sa_cons (se_mkE (k := 0) T.i_InvalidText (hr.mono (by decide)) T.bi_InvalidText .nil (fun _ _ _ => .nil) (by rfl) T.mc_InvalidText (sa_cons (se_var 0) sa_nil)) (sa_cons (se_mkE (k := 0) T.i_InvalidName (hr.mono (by decide)) T.bi_InvalidName .nil (fun _ _ _ => .nil) (by rfl) T.mc_InvalidName (sa_cons (se_var 0) sa_nil)) (sa_cons (se_mkE (k := 0) T.i_TakenName (hr.mono (by decide)) T.bi_TakenName .nil (fun _ _ _ => .nil) (by rfl) T.mc_TakenName (sa_cons (se_var 0) sa_nil)) (sa_cons (se_mkE (k := 0) T.i_UnknownName (hr.mono (by decide)) T.bi_UnknownName .nil (fun _ _ _ => .nil) (by rfl) T.mc_UnknownName (sa_cons (se_var 0) sa_nil)) sa_nil)))))))))
theorem Tx.k_law_hash (T : Tx P K mg) (base : Heap) : FnG P w K mg base 3 T.f_law_hash T.d_law_hash P_law_hash (spM ⟨K, mg⟩ 2 M_law_hash) := by
  refine fnM (k := 2) (N := N_law_hash) T.F_law_hash sc_law_hash (by decide) fun X B W cdv A outer s H E hX hr tk => ?_
  subst hX
  have nd : (N_law_hash).Nodup := sc_law_hash.nd
  exact (ss_cons (ss_set 2 nd (se_mod (se_callTy call_int1 ok_int1 (by rfl) T.z_int PyProof.Rows.Boot.«int» (sa_cons (se_add (se_add (se_add (se_mul (se_var 0) se_int) (se_mul (se_mul se_int (se_var 1)) (se_var 1))) (se_var 1)) se_int) sa_nil)) se_int))
      (ss_cons (ss_set 2 nd (se_mod (se_callTy call_int1 ok_int1 (by rfl) T.z_int PyProof.Rows.Boot.«int» (sa_cons (se_add (se_mul (se_var 2) (se_var 2)) se_int) sa_nil)) se_int))
      (ss_one (ss_ret (se_mod (se_callTy call_int1 ok_int1 (by rfl) T.z_int PyProof.Rows.Boot.«int» (sa_cons (se_mul (se_var 2) se_int) sa_nil)) se_int)))))
theorem Tx.k_law_random (T : Tx P K mg) (base : Heap) : FnG P w K mg base 4 T.f_law_random T.d_law_random P_law_random (spM ⟨K, mg⟩ 2 M_law_random) := by
  refine fnM (k := 3) (N := N_law_random) T.F_law_random sc_law_random (by decide) fun X B W cdv A outer s H E hX hr tk => ?_
  subst hX
  have nd : (N_law_random).Nodup := sc_law_random.nd
  exact (ss_cons (ss_if (st_gt (se_ix (se_var 0) se_int) se_int) (ss_cons (ss_set 2 nd (se_mod (se_callTy call_int1 ok_int1 (by rfl) T.z_int PyProof.Rows.Boot.«int» (sa_cons (se_ix (se_var 0) se_int) sa_nil)) (se_var 1)))
      (ss_cons (ss_putIx (se_fdiv (se_ix (se_var 0) se_int) (se_var 1)) (se_var 0) se_int)
      (ss_one (ss_ret (se_var 2))))) ss_nil)
      (ss_cons (ss_set 2 nd se_int)
      (ss_cons (ss_for (vs := [3]) (passes_of rfl) rfl (si_rg1 (by rfl) T.z_range (se_add se_int (se_fdiv (se_bits (se_var 1)) se_int))) (sg_name (vs := [3]) 3 nd) (ss_cons (ss_putIx (se_add (se_ix (se_var 0) se_int) se_int) (se_var 0) se_int)
      (ss_one (ss_set 2 nd (se_add (se_mul (se_var 2) se_int) (se_call (T.k_law_hash base) (hr.mono (by decide)) tk (by rfl) T.m_law_hash T.p_law_hash T.b_law_hash .nil (fun _ _ _ => .nil) (sa_cons (se_ix (se_var 0) se_int) (sa_cons (se_ix (se_var 0) se_int) sa_nil))))))))
      (ss_one (ss_ret (se_mod (se_callTy call_int1 ok_int1 (by rfl) T.z_int PyProof.Rows.Boot.«int» (sa_cons (se_var 2) sa_nil)) (se_var 1)))))))
theorem Tx.k_law_right (T : Tx P K mg) (base : Heap) : FnG P w K mg base 4 T.f_law_right T.d_law_right P_law_right (spM ⟨K, mg⟩ 2 M_law_right) := by
  refine fnM (k := 3) (N := N_law_right) T.F_law_right sc_law_right (by decide) fun X B W cdv A outer s H E hX hr tk => ?_
  subst hX
  have nd : (N_law_right).Nodup := sc_law_right.nd
  exact (ss_cons (ss_if (st_ne hr (se_lc rfl nd (si_seq (se_var 0)) (blkOk_by (own := [("_law_error", 3)]) (by show blkC N_law_right (defScope s_law_right) _ _ = true; decide +kernel)) (fun _ _ _ _ _ _ => (sg_name (vs := _) 3 nd)) (fun _ _ _ _ _ _ => spts_nil) (fun _ _ _ _ _ _ => (se_call (T.k_law_kinds base) (hr.mono (by decide)) L2.takes0 (by rfl) T.m_law_kinds T.p_law_kinds T.b_law_kinds .nil (fun _ _ _ => .nil) (sa_cons (se_var 3) sa_nil)))) (se_lc rfl nd (si_rg1 (by rfl) T.z_range se_int) (blkOk_by (own := [("_law_at", 4)]) (by show blkC N_law_right (defScope s_law_right) _ _ = true; decide +kernel)) (fun _ _ _ _ _ _ => (sg_name (vs := _) 4 nd)) (fun _ _ _ _ _ _ => spts_nil) (fun _ _ _ _ _ _ => (se_lst (sa_cons (se_var 4) sa_nil))))) (ss_one (ss_ret se_bl)) ss_nil)
      (ss_cons (ss_set 2 nd (se_add (se_lc rfl nd (si_seq (se_slice (se_var 0) so_none (so_some se_int))) (blkOk_by (own := [("_law_error", 3)]) (by show blkC N_law_right (defScope s_law_right) _ _ = true; decide +kernel)) (fun _ _ _ _ _ _ => (sg_name (vs := _) 3 nd)) (fun _ _ _ _ _ _ => spts_nil) (fun _ _ _ _ _ _ => (se_fld (se_var 3) noB_I T.fE_value))) (se_lc rfl nd (si_seq (se_slice (se_var 0) (so_some se_int) so_none)) (blkOk_by (own := [("_law_error", 3)]) (by show blkC N_law_right (defScope s_law_right) _ _ = true; decide +kernel)) (fun _ _ _ _ _ _ => (sg_name (vs := _) 3 nd)) (fun _ _ _ _ _ _ => spts_nil) (fun _ _ _ _ _ _ => (se_fld (se_var 3) noB_I T.fE_name)))))
      (ss_one (ss_ret (se_eq hr.r (se_callB (call_repr hr) ok_repr (by rfl) T.z_repr PyProof.Rows.Boot.«repr» (sa_cons (se_var 2) sa_nil)) (se_callB (call_repr hr) ok_repr (by rfl) T.z_repr PyProof.Rows.Boot.«repr» (sa_cons (se_mul (se_lst (sa_cons (se_var 1) sa_nil)) se_int) sa_nil)))))))
theorem Tx.k_law (T : Tx P K mg) (base : Heap) : FnG P w K mg base 5 T.f_law T.d_law P_law (spM ⟨K, mg⟩ 1 M_law) := by
  refine fnM (k := 4) (N := N_law) T.F_law sc_law (by decide) fun X B W cdv A outer s H E hX hr tk => ?_
  subst hX
  have nd : (N_law).Nodup := sc_law.nd
  exact (ss_cons (ss_set 1 nd (se_call (T.k_law_random base) (hr.mono (by decide)) tk (by rfl) T.m_law_random T.p_law_random T.b_law_random .nil (fun _ _ _ => .nil) (sa_cons (se_sto (se_call (T.k_law_generator base) (hr.mono (by decide)) tk (by rfl) T.m_law_generator T.p_law_generator T.b_law_generator .nil (fun _ _ _ => .nil) (sa_cons (se_var 0) (sa_cons se_int sa_nil)))) (sa_cons (se_pow se_int se_int) sa_nil))))
      (ss_cons (ss_set 2 nd (se_lst (sa_cons (se_call (T.k_law_placed base) (hr.mono (by decide)) tk (by rfl) T.m_law_placed T.p_law_placed T.b_law_placed .nil (fun _ _ _ => .nil) (sa_cons (se_var 1) sa_nil)) (sa_cons (se_call (T.k_law_named base) (hr.mono (by decide)) tk (by rfl) T.m_law_named T.p_law_named T.b_law_named .nil (fun _ _ _ => .nil) (sa_cons se_str sa_nil)) sa_nil))))
      (ss_cons (ss_for (vs := [3]) (passes_of rfl) rfl (si_seq (se_lst (sa_cons (se_var 1) (sa_cons (se_sub se_int (se_var 1)) (sa_cons (se_tup (sa_cons se_int (sa_cons se_int sa_nil))) (sa_cons (se_tup sa_nil) (sa_cons (se_sto (se_lst (sa_cons se_int sa_nil))) (sa_cons (se_sto (se_lst sa_nil)) (sa_cons (se_sto se_dct0) (sa_cons (se_sto (se_dp1 (k := .inr "a") pe_str (fun B => (se_lst (sa_cons (se_var 1) sa_nil))))) (sa_cons se_str (sa_cons se_str (sa_cons se_bl (sa_cons se_non (sa_cons (se_tup (sa_cons se_str (sa_cons se_int (sa_cons se_int (sa_cons se_str sa_nil))))) sa_nil))))))))))))))) (sg_name (vs := [3]) 3 nd) (ss_cons (ss_par 4 5 false false rfl nd (se_call (T.k_law_placed base) (hr.mono (by decide)) tk (by rfl) T.m_law_placed T.p_law_placed T.b_law_placed .nil (fun _ _ _ => .nil) (sa_cons (se_var 3) sa_nil)) (fun _ => (se_call (T.k_law_named base) (hr.mono (by decide)) tk (by rfl) T.m_law_named T.p_law_named T.b_law_named .nil (fun _ _ _ => .nil) (sa_cons (se_var 3) sa_nil))))
      (ss_cons (ss_if (st_w (sw_or (st_not (st_val (se_call (T.k_law_right base) (hr.mono (by decide)) tk (by rfl) T.m_law_right T.p_law_right T.b_law_right .nil (fun _ _ _ => .nil) (sa_cons (se_var 4) (sa_cons (se_var 3) sa_nil))))) (sw_or1 (st_not (st_val (se_call (T.k_law_right base) (hr.mono (by decide)) tk (by rfl) T.m_law_right T.p_law_right T.b_law_right .nil (fun _ _ _ => .nil) (sa_cons (se_var 5) (sa_cons (se_var 3) sa_nil)))))))) (ss_one (ss_ret se_bl)) ss_nil)
      (ss_cons (ss_if (st_val (se_isT "list" (by rfl) T.z_isinstance (by rfl) T.z_list PyProof.Rows.Boot.«list» isT_list (se_var 3) noC_I noC_I)) (ss_one (ss_app (se_var 3) se_str)) ss_nil)
      (ss_cons (ss_if (st_val (se_isT "dict" (by rfl) T.z_isinstance (by rfl) T.z_dict PyProof.Rows.Boot.«dict» isT_dict (se_var 3) noC_I noC_I)) (ss_one (ss_putD (by have := hr.r.un; omega) (se_lst (sa_cons se_int sa_nil)) (se_var 3) se_str)) ss_nil)
      (ss_one (ss_if (st_w (sw_or (st_not (st_val (se_call (T.k_law_right base) (hr.mono (by decide)) tk (by rfl) T.m_law_right T.p_law_right T.b_law_right .nil (fun _ _ _ => .nil) (sa_cons (se_var 4) (sa_cons (se_var 3) sa_nil))))) (sw_or1 (st_not (st_val (se_call (T.k_law_right base) (hr.mono (by decide)) tk (by rfl) T.m_law_right T.p_law_right T.b_law_right .nil (fun _ _ _ => .nil) (sa_cons (se_var 5) (sa_cons (se_var 3) sa_nil)))))))) (ss_one (ss_ret se_bl)) ss_nil)))))))
      (ss_cons (ss_if (st_w (sw_or (st_not (st_val (se_call (T.k_law_right base) (hr.mono (by decide)) tk (by rfl) T.m_law_right T.p_law_right T.b_law_right .nil (fun _ _ _ => .nil) (sa_cons (se_ix (se_var 2) se_int) (sa_cons (se_var 1) sa_nil))))) (sw_or (st_not (st_val (se_call (T.k_law_right base) (hr.mono (by decide)) tk (by rfl) T.m_law_right T.p_law_right T.b_law_right .nil (fun _ _ _ => .nil) (sa_cons (se_ix (se_var 2) se_int) (sa_cons se_str sa_nil))))) (sw_or1 (st_not (st_val (se_call (T.k_law_right base) (hr.mono (by decide)) tk (by rfl) T.m_law_right T.p_law_right T.b_law_right .nil (fun _ _ _ => .nil) (sa_cons (se_call0 (T.k_law_bare base) (hr.mono (by decide)) tk (by rfl) T.m_law_bare T.p_law_bare T.b_law_bare) (sa_cons se_non sa_nil))))))))) (ss_one (ss_ret se_bl)) ss_nil)
      (ss_one (ss_ret (se_eq hr.r (se_call (T.k_law_kinds base) (hr.mono (by decide)) tk (by rfl) T.m_law_kinds T.p_law_kinds T.b_law_kinds .nil (fun _ _ _ => .nil) (sa_cons (se_mkN PySem.F.excBase_ValueError T.xi_NothingToUndo T.kp_NothingToUndo (by rfl) T.mc_NothingToUndo) sa_nil)) (se_lst (sa_cons se_int sa_nil)))))))))
end
end K01

namespace K01
open PySem L2 PySem.Spec PyProof.Rows FW FL

def E6 (v : MV) : List MV :=
  .exc "InvalidNumber" [("value", v)] ::
  .exc "InvalidList" [("value", v)] ::
  .exc "InvalidItem" [("value", v)] ::
  .exc "InvalidProgram" [("value", v)] ::
  .exc "InvalidRow" [("value", v)] ::
  .exc "InvalidText" [("value", v)] :: []
def E3 (v : MV) : List MV :=
  .exc "InvalidName" [("name", v)] ::
  .exc "TakenName" [("name", v)] ::
  .exc "UnknownName" [("name", v)] :: []
def A5 (v : MV) : List MV :=
  .exc "InvalidNumber" [("value", v)] ::
  .exc "InvalidList" [("value", v)] ::
  .exc "InvalidItem" [("value", v)] ::
  .exc "InvalidProgram" [("value", v)] ::
  .exc "InvalidRow" [("value", v)] :: []
def A3 (v : MV) : List MV :=
  .exc "InvalidNumber" [("value", v)] ::
  .exc "InvalidList" [("value", v)] ::
  .exc "InvalidItem" [("value", v)] :: []
def B3 (v : MV) : List MV :=
  .exc "InvalidProgram" [("value", v)] ::
  .exc "InvalidRow" [("value", v)] ::
  .exc "InvalidText" [("value", v)] :: []
def B4 (v : MV) : List MV := .exc "InvalidText" [("value", v)] :: E3 v
def E9 (v : MV) : List MV := E6 v ++ E3 v
section
variable {lo : Lo} {st : Sto}
theorem allFz_two : ∀ ms : List MV, allFz (ms.map (·, false)) = some ms := fun ms => by
  unfold allFz
  rw [if_pos (by simp), List.map_map]
  exact congrArg some (List.map_id ms)
theorem lst_ok {g : AF} {ms : List MV} {st1 : Sto} (h : g lo st = .ok (ms.map (·, false), st1)) (hz : ms.length ≤ 1000) : mLst g lo st = .ok (.lst ms, .fr, st1) := by
  rw [d_mLst, h]
  simp only [Res.ok_bind, allFz_two]
  rw [if_pos (sz (by omega))]
theorem mk_ok {c fv : Str} {f : EF} {v : MV} {k : Kd} (h : f lo st = .ok (v, k, st)) (hk : isPk k = false) : mMkE c fv [] (mCons f mNil) lo st = .ok (.exc c [(fv, v)], .fz, st) := by
  unfold mMkE
  rw [cons_ok h hk nil_ok]
  rfl
theorem add_ok {i : Nat} {xs ys : List MV} {f : EF} (h : lo[i]? = some (fz (.lst xs))) (hf : f lo st = .ok (.lst ys, .fr, st)) (hz : xs.length + ys.length ≤ 1000) : mOp gAdd (mVar i) f lo st = .ok (.lst (xs ++ ys), .fr, st) := by
  refine opN (a := .lst xs) (ka := .fz) (st1 := st) (by rw [d_mVar, h]) hf ?_
  rw [vw_lst, vw_lst, d_gAddL, if_pos (sz (by omega))]
theorem placed_ok (v : MV) : M_law_placed [v] st = .ok (.lst (E9 v), true, st) := by
  have m : ∀ (t : Option (MV × Bool)) (c fv : Str), mMkE c fv [] (mCons (mVar 0) mNil) [fz v, t] st = .ok (.exc c [(fv, v)], .fz, st) := fun t c fv => mk_ok (k := .fz) rfl rfl
  have e1 := lst_ok (cons_ok (m none "InvalidNumber" "value") rfl (cons_ok (m none "InvalidList" "value") rfl (cons_ok (m none "InvalidItem" "value") rfl (cons_ok (m none "InvalidProgram" "value") rfl (cons_ok (m none "InvalidRow" "value") rfl nil_ok))))) (Nat.le_of_ble_eq_true rfl)
  obtain ⟨t, ht⟩ : ∃ t : Option (MV × Bool), t = fz (.lst (A5 v)) := ⟨_, rfl⟩
  have e2 := lst_ok (ms := B4 v) (cons_ok (m t "InvalidText" "value") rfl (cons_ok (m t "InvalidName" "name") rfl (cons_ok (m t "TakenName" "name") rfl (cons_ok (m t "UnknownName" "name") rfl nil_ok)))) (Nat.le_of_ble_eq_true rfl)
  subst ht
  have e : M_law_placed [v] st = .ok (.lst (A5 v ++ B4 v), true, st) := by
    unfold M_law_placed g_law_placed
    exact runF_own (k := .fr) (lo0 := [fz v, none]) rfl (seq_ok (set_ok (m := .lst (A5 v)) e1 rfl) (ret_ok (add_ok (i := 1) (xs := A5 v) (ys := B4 v) rfl e2 (Nat.le_of_ble_eq_true rfl)))) rfl
  exact e
theorem named_ok (v : MV) : M_law_named [v] st = .ok (.lst (E9 v), true, st) := by
  have m : ∀ (t : Option (MV × Bool)) (c fv : Str), mMkE c fv [] (mCons (mVar 0) mNil) [fz v, t] st = .ok (.exc c [(fv, v)], .fz, st) := fun t c fv => mk_ok (k := .fz) rfl rfl
  have e1 := lst_ok (cons_ok (m none "InvalidNumber" "value") rfl (cons_ok (m none "InvalidList" "value") rfl (cons_ok (m none "InvalidItem" "value") rfl nil_ok))) (Nat.le_of_ble_eq_true rfl)
  obtain ⟨t, ht⟩ : ∃ t : Option (MV × Bool), t = fz (.lst (A3 v)) := ⟨_, rfl⟩
  have e2 := lst_ok (ms := B3 v) (cons_ok (m t "InvalidProgram" "value") rfl (cons_ok (m t "InvalidRow" "value") rfl (cons_ok (m t "InvalidText" "value") rfl nil_ok))) (Nat.le_of_ble_eq_true rfl)
  obtain ⟨t2, ht2⟩ : ∃ t : Option (MV × Bool), t = fz (.lst (A3 v ++ B3 v)) := ⟨_, rfl⟩
  have e3 := lst_ok (ms := E3 v) (cons_ok (m t2 "InvalidName" "name") rfl (cons_ok (m t2 "TakenName" "name") rfl (cons_ok (m t2 "UnknownName" "name") rfl nil_ok))) (Nat.le_of_ble_eq_true rfl)
  subst ht; subst ht2
  unfold M_law_named g_law_named
  exact runF_own (k := .fr) (lo0 := [fz v, none]) rfl (seq_ok (set_ok (m := .lst (A3 v)) e1 rfl) (seq_ok (set_ok (add_ok (i := 1) (xs := A3 v) (ys := B3 v) rfl e2 (Nat.le_of_ble_eq_true rfl)) rfl) (ret_ok (add_ok (i := 1) (xs := A3 v ++ B3 v) (ys := E3 v) rfl e3 (Nat.le_of_ble_eq_true rfl))))) rfl
theorem bare_ok : M_law_bare [] st = .ok (.lst (E9 .non), true, st) := by
  have m : ∀ (t : Option (MV × Bool)) (c fv : Str), mMkE c fv [.non] mNil [t] st = .ok (.exc c [(fv, .non)], .fz, st) := fun t c fv => rfl
  have e1 := lst_ok (cons_ok (m none "InvalidNumber" "value") rfl (cons_ok (m none "InvalidList" "value") rfl (cons_ok (m none "InvalidItem" "value") rfl (cons_ok (m none "InvalidProgram" "value") rfl (cons_ok (m none "InvalidRow" "value") rfl (cons_ok (m none "InvalidText" "value") rfl nil_ok)))))) (Nat.le_of_ble_eq_true rfl)
  obtain ⟨t, ht⟩ : ∃ t : Option (MV × Bool), t = fz (.lst (E6 .non)) := ⟨_, rfl⟩
  have e2 := lst_ok (ms := E3 .non) (cons_ok (m t "InvalidName" "name") rfl (cons_ok (m t "TakenName" "name") rfl (cons_ok (m t "UnknownName" "name") rfl nil_ok))) (Nat.le_of_ble_eq_true rfl)
  subst ht
  unfold M_law_bare g_law_bare
  exact runF_own (k := .fr) (lo0 := [none]) rfl (seq_ok (set_ok (m := .lst (E6 .non)) e1 rfl) (ret_ok (add_ok (i := 0) (xs := E6 .non) (ys := E3 .non) rfl e2 (Nat.le_of_ble_eq_true rfl)))) rfl
theorem isi_ok {c d : Str} {fs : List (Str × MV)} (h : lo[0]? = some (fz (.exc c fs))) (hc : c ∈ ES10) : mIsi noTy noC (eqc ES10 d) (mVar 0) lo st = .ok (.bl (decide (c = d)), .fz, st) := by
  have e : tyAns noTy noC (eqc ES10 d) (vw st (.exc c fs)) = some (decide (c = d)) := if_pos hc
  unfold mIsi
  rw [d_mVar, h]
  simp only [Res.ok_bind]
  rw [e]
theorem up_ok {c : Str} {fs : List (Str × MV)} (h : lo[0]? = some (fz (.exc c fs))) (hc : c ∈ ES10) : mIsi noTy noC (alc ES10) (mVar 0) lo st = .ok (.bl true, .fz, st) := by
  have e : tyAns noTy noC (alc ES10) (vw st (.exc c fs)) = some true := if_pos hc
  unfold mIsi
  rw [d_mVar, h]
  simp only [Res.ok_bind]
  rw [e]
def fl (c : Str) : List MV := ES10.map fun d => .bl (decide (c = d))
def pk (c : Str) : MV → Bool
  | .int i => (ES10[i.toNat]?).any fun d => decide (c = d)
  | _ => false
def kd (c : Str) : MV := .lst ((rgM 0 10).filter (pk c))
theorem kinds_ok {c : Str} {fs : List (Str × MV)} (hc : c ∈ ES10) : M_law_kinds [.exc c fs] st = .ok (kd c, true, st) := by
  have q : ∀ (t t2 : Option (MV × Bool)) (d : Str), mIsi noTy noC (eqc ES10 d) (mVar 0) [fz (.exc c fs), t, t2] st = .ok (.bl (decide (c = d)), .fz, st) := fun t t2 d => isi_ok rfl hc
  have e1 := lst_ok (cons_ok (q none none "InvalidNumber") rfl (cons_ok (q none none "InvalidList") rfl (cons_ok (q none none "InvalidItem") rfl nil_ok))) (Nat.le_of_ble_eq_true rfl)
  have e2 := fun t => lst_ok (cons_ok (q t none "InvalidProgram") rfl (cons_ok (q t none "InvalidRow") rfl nil_ok)) (Nat.le_of_ble_eq_true rfl)
  have e3 := fun t => lst_ok (cons_ok (q t none "InvalidText") rfl (cons_ok (q t none "InvalidName") rfl nil_ok)) (Nat.le_of_ble_eq_true rfl)
  have e4 := fun t => lst_ok (cons_ok (q t none "TakenName") rfl (cons_ok (q t none "UnknownName") rfl nil_ok)) (Nat.le_of_ble_eq_true rfl)
  have e5 := fun t t2 => lst_ok (cons_ok (q t t2 "NothingToUndo") rfl nil_ok) (Nat.le_of_ble_eq_true rfl)
  have u : ∀ t t2 : Option (MV × Bool), mNotT (mTv (mIsi noTy noC (alc ES10) (mVar 0))) [fz (.exc c fs), t, t2] st = .ok (false, st) := fun t t2 => not_ok (tv_ok (up_ok rfl hc))
  obtain ⟨L, hL⟩ : ∃ L : Lo, L = [fz (.exc c fs), fz (.lst ((fl c).take 9)), none] := ⟨_, rfl⟩
  have f : mLc [2] (iRg1 (mC (.int 10))) (gN 2) (mTv (mOp gIx (mOp gAdd (mVar 1) (mLst (mCons (mIsi noTy noC (eqc ES10 "NothingToUndo") (mVar 0)) mNil))) (mVar 2))) (mVar 2) L st = .ok (.lst (((rgM 0 10).filter (pk c)).map id), .fr, st) := by
    subst hL
    refine lc_filter rfl (iRg1_ok (k := .fz) (j := 10) (st1 := st) rfl (by decide)) (fun _ => trivial) (sz (by decide)) fun x hx => ?_
    have big : ∀ x : MV, mOp gAdd (mVar 1) (mLst (mCons (mIsi noTy noC (eqc ES10 "NothingToUndo") (mVar 0)) mNil)) [fz (.exc c fs), fz (.lst ((fl c).take 9)), fz x] st = .ok (.lst (fl c), .fr, st) := fun x => add_ok (i := 1) rfl (e5 _ _) (Nat.le_of_ble_eq_true rfl)
    have hx' : x ∈ ([.int 0, .int 1, .int 2, .int 3, .int 4, .int 5, .int 6, .int 7, .int 8, .int 9] : List MV) := hx
    simp only [List.mem_cons, List.not_mem_nil, or_false] at hx'
    rcases hx' with rfl | rfl | rfl | rfl | rfl | rfl | rfl | rfl | rfl | rfl <;>
      exact ⟨_, rfl, tv_ok (opV (kb := .fz) (st2 := st) (big _) rfl rfl), fun _ => ⟨.fz, rfl, rfl⟩⟩
  rw [List.map_id] at f
  subst hL
  unfold M_law_kinds g_law_kinds
  exact runF_own (k := .fr) (lo0 := [fz (.exc c fs), none, none]) rfl (seq_ok (set_ok e1 rfl) (seq_ok (set_ok (add_ok (i := 1) rfl (e2 _) (Nat.le_of_ble_eq_true rfl)) rfl) (seq_ok (set_ok (add_ok (i := 1) rfl (e3 _) (Nat.le_of_ble_eq_true rfl)) rfl) (seq_ok (set_ok (add_ok (i := 1) rfl (e4 _) (Nat.le_of_ble_eq_true rfl)) rfl)
    (seq_ok (if_ff (or_ff (u _ _) (u _ _)) rfl) (ret_ok f)))))) rfl
end
end K01

namespace K01
open PySem L2 PySem.Spec PyProof.Rows FW FL

section
variable {st : Sto} {v m : MV}
/-- nine times the value, shown -/
def Sh9 (v : MV) (st : Sto) : Prop := ∃ x : Str, gRepr st [.lst (List.replicate 9 v)] = some (.str x, false) ∧ PyData.strOk x = true
theorem sh_plain (h : rgd (.lst (List.replicate 9 v)) = true) : Sh9 v st := ⟨rp _, repr_gd h st, rgd_ok h⟩
theorem toX_ref {n : Nat} (h : st[n]? = some m) (hm : vw st m = m) : ∀ k, toX st k (.ref n) = toX st k m
  | 0 => rfl
  | k + 1 => by
    unfold toX
    rw [vw_ref st n h, hm]
theorem sh_ref {n : Nat} (h : st[n]? = some m) (hm : vw st m = m) (h9 : Sh9 m st) : Sh9 (.ref n) st := by
  obtain ⟨x, e, o⟩ := h9
  refine ⟨x, ?_, o⟩
  have : toX st dpt (.lst (List.replicate 9 (.ref n))) = toX st dpt (.lst (List.replicate 9 m)) := by
    show (mapO (toX st 11) (List.replicate 9 (.ref n))).map PyData.list = (mapO (toX st 11) (List.replicate 9 m)).map PyData.list
    have e := toX_ref h hm 11
    simp only [List.replicate, mapO, e]
  have g : ∀ z : MV, gRepr st [z] = (toX st dpt z).bind fun d => if d.showable = true ∧ d.shown.length ≤ sizeLine ∧ d.depth ≤ 60 then some (.str d.shown, false) else none := fun _ => rfl
  rw [g] at e ⊢
  rw [this]
  exact e
/-- .. by what it is as data -/
theorem sh_data {d : PyData} (h : toX st 11 v = some d) (hs : d.showable = true) (hl : d.shown.length ≤ 10000) (hd : d.depth ≤ 50) (ho : PyData.strOk d.shown = true) : Sh9 v st := by
  have e : toX st dpt (.lst (List.replicate 9 v)) = some (.list (List.replicate 9 d)) := by
    show (mapO (toX st 11) (List.replicate 9 v)).map PyData.list = _
    simp only [List.replicate, mapO, h]
    rfl
  have sh : (PyData.list (List.replicate 9 d)).shown = listText (List.replicate 9 d.shown) := by
    simp only [PyData.shown, PyData.shownAll, List.replicate]
  refine ⟨listText (List.replicate 9 d.shown), ?_, ok_lst fun t ht => by rw [List.eq_of_mem_replicate ht]; exact ho⟩
  have c1 : (PyData.list (List.replicate 9 d)).showable = true := by simp [PyData.showable, PyData.showableAll, List.replicate, hs]
  have c2 : (listText (List.replicate 9 d.shown)).length ≤ sizeLine := by
    have t := listText_len_le (List.replicate 9 d.shown)
    simp only [List.map_replicate, List.length_replicate, List.sum_replicate_nat] at t
    exact Nat.le_trans t (sz (by omega))
  have c3 : (PyData.list (List.replicate 9 d)).depth ≤ 60 := by
    simp only [PyData.depth, PyData.depthAll, List.replicate]
    omega
  show (toX st dpt (.lst (List.replicate 9 v))).bind _ = _
  rw [e]
  show (if (PyData.list (List.replicate 9 d)).showable = true ∧ (PyData.list (List.replicate 9 d)).shown.length ≤ sizeLine ∧ (PyData.list (List.replicate 9 d)).depth ≤ 60 then some (MV.str (PyData.list (List.replicate 9 d)).shown, false) else none) = _
  rw [sh, if_pos ⟨c1, c2, c3⟩]
theorem gRepN9 (st : Sto) (v : MV) : gMul st (.lst [v]) (.int 9) = some (.lst (List.replicate 9 v), true) := by
  have c : -(2 ^ 63 : Int) ≤ 9 ∧ (9 : Int) < 2 ^ 63 ∧ [v].length * (9 : Int).toNat ≤ sizeLine := ⟨by decide, by decide, sz (Nat.le_of_ble_eq_true rfl)⟩
  have h : gRep st (.lst [v]) (.int 9) = some (.lst (List.replicate 9 v), true) := by
    unfold gRep
    exact if_pos c
  show ((gII CMulW (fun i j => .int (i * j)) st (.lst [v]) (.int 9)).or (gRep st (.lst [v]) (.int 9))) = _
  rw [h]
  rfl
def km : MV → MV
  | .exc c _ => kd c
  | m => m
def cw : MV → MV
  | .exc _ ((_, w) :: _) => w
  | m => m
def KS : List MV := (E9 .non).map km
def KS2 : List MV := (rgM 0 9).map fun m => .lst [m]
theorem KS_eq : KS = KS2 := by kernel_rfl
abbrev LR (v : MV) (t2 t3 t4 : Option (MV × Bool)) : Lo := [fz (.lst (E9 v)), fz v, t2, t3, t4]
theorem fld_ok {c f : Str} {lo : Lo} (h : lo[3]? = some (fz (.exc c [(f, v)]))) (hc : inB ES c = true) : mFld f noB (inB ES) (mVar 3) lo st = .ok (v, .fz, st) := by
  have e : gFld f noB (inB ES) (vw st (.exc c [(f, v)])) = some v := by
    show (if inB ES c = true then List.lookup f [(f, v)] else none) = _
    rw [if_pos hc]; simp [List.lookup]
  rw [d_mFld, d_mVar, h]
  simp only [Res.ok_bind]
  rw [e]
theorem flds6 (v : MV) (t2 t4 : Option (MV × Bool)) : mLc [3] (iSeq (mSl (mVar 0) oNone (oSome (mC (.int 6))))) (gN 3) tYesM (mFld "value" noB (inB ES) (mVar 3)) (LR v t2 none t4) st = .ok (.lst (List.replicate 6 v), .fr, st) := by
  have r := lc_filter (vs := [3]) (gf := gN 3) (tt := tYesM) (fe := mFld "value" noB (inB ES) (mVar 3)) (lo := LR v t2 none t4) (st := st) (p := fun _ => true) (f := cw) rfl
    (iSeq_lst (k := .fr) (st1 := st) (xs := E6 v) (show mSl (mVar 0) oNone (oSome (mC (.int 6))) (LR v t2 none t4) st = .ok (.lst (E6 v), .fr, st) from rfl) rfl) (fun _ => trivial) (sz (Nat.le_of_ble_eq_true rfl)) fun x hx => by
      simp only [E6, List.mem_cons, List.not_mem_nil, or_false] at hx
      rcases hx with rfl | rfl | rfl | rfl | rfl | rfl <;> exact ⟨_, rfl, rfl, fun _ => ⟨.fz, fld_ok rfl (by decide +kernel), rfl⟩⟩
  exact r
theorem flds3 (v : MV) (t2 t4 : Option (MV × Bool)) : mLc [3] (iSeq (mSl (mVar 0) (oSome (mC (.int 6))) oNone)) (gN 3) tYesM (mFld "name" noB (inB ES) (mVar 3)) (LR v t2 none t4) st = .ok (.lst (List.replicate 3 v), .fr, st) := by
  have r := lc_filter (vs := [3]) (gf := gN 3) (tt := tYesM) (fe := mFld "name" noB (inB ES) (mVar 3)) (lo := LR v t2 none t4) (st := st) (p := fun _ => true) (f := cw) rfl
    (iSeq_lst (k := .fr) (st1 := st) (xs := E3 v) (show mSl (mVar 0) (oSome (mC (.int 6))) oNone (LR v t2 none t4) st = .ok (.lst (E3 v), .fr, st) from rfl) rfl) (fun _ => trivial) (sz (Nat.le_of_ble_eq_true rfl)) fun x hx => by
      simp only [E3, List.mem_cons, List.not_mem_nil, or_false] at hx
      rcases hx with rfl | rfl | rfl <;> exact ⟨_, rfl, rfl, fun _ => ⟨.fz, fld_ok rfl (by decide +kernel), rfl⟩⟩
  exact r
theorem all_kinds (v : MV) : mLc [3] (iSeq (mVar 0)) (gN 3) tYesM (mCall 1 M_law_kinds [] (mCons (mVar 3) mNil)) (LR v none none none) st = .ok (.lst KS, .fr, st) := by
  have r := lc_filter (vs := [3]) (gf := gN 3) (tt := tYesM) (fe := mCall 1 M_law_kinds [] (mCons (mVar 3) mNil)) (lo := LR v none none none) (st := st) (p := fun _ => true) (f := km) rfl
    (iSeq_lst (k := .fz) (st1 := st) (xs := E9 v) (show mVar 0 (LR v none none none) st = .ok (.lst (E9 v), .fz, st) from rfl) rfl) (fun _ => trivial) (sz (Nat.le_of_ble_eq_true rfl)) fun x hx => by
      simp only [E9, E6, E3, List.mem_append, List.mem_cons, List.not_mem_nil, or_false] at hx
      rcases hx with (rfl | rfl | rfl | rfl | rfl | rfl) | (rfl | rfl | rfl) <;>
        exact ⟨_, rfl, rfl, fun _ => ⟨.fr, callV (ms := [_]) (b := true) (st1 := st) rfl rfl (kinds_ok (by decide +kernel)), rfl⟩⟩
  exact r
theorem all_ones (v : MV) : mLc [4] (iRg1 (mC (.int 9))) (gN 4) tYesM (mLst (mCons (mVar 4) mNil)) (LR v none none none) st = .ok (.lst KS2, .fr, st) := by
  have r := lc_filter (vs := [4]) (gf := gN 4) (tt := tYesM) (fe := mLst (mCons (mVar 4) mNil)) (lo := LR v none none none) (st := st) (p := fun _ => true) (f := fun m => .lst [m]) rfl
    (iRg1_ok (k := .fz) (j := 9) (st1 := st) (show mC (.int 9) (LR v none none none) st = .ok (.int 9, .fz, st) from rfl) (by decide)) (fun _ => trivial) (sz (Nat.le_of_ble_eq_true rfl)) fun x hx => ⟨_, rfl, rfl, fun _ => ⟨.fr, lst_ok (ms := [x]) rfl (Nat.le_of_ble_eq_true rfl), rfl⟩⟩
  exact r
theorem right_ok (h9 : Sh9 v st) : M_law_right [.lst (E9 v), v] st = .ok (.bl true, false, st) := by
  obtain ⟨x, hx, ox⟩ := h9
  have k1 := all_kinds (st := st) v
  rw [KS_eq] at k1
  have c1 : mTv (mOp (gEqB true) (mLc [3] (iSeq (mVar 0)) (gN 3) tYesM (mCall 1 M_law_kinds [] (mCons (mVar 3) mNil))) (mLc [4] (iRg1 (mC (.int 9))) (gN 4) tYesM (mLst (mCons (mVar 4) mNil)))) (LR v none none none) st = .ok (false, st) :=
    tv_ok (opV k1 (all_ones v) (eq_self (neg := true) (a := .lst KS2) (by decide +kernel) st))
  have c2 : mOp gAdd (mLc [3] (iSeq (mSl (mVar 0) oNone (oSome (mC (.int 6))))) (gN 3) tYesM (mFld "value" noB (inB ES) (mVar 3))) (mLc [3] (iSeq (mSl (mVar 0) (oSome (mC (.int 6))) oNone)) (gN 3) tYesM (mFld "name" noB (inB ES) (mVar 3))) (LR v none none none) st = .ok (.lst (List.replicate 9 v), .fr, st) := by
    refine opN (flds6 v none none) (flds3 v none none) ?_
    rw [vw_lst, vw_lst, d_gAddL, if_pos (sz (Nat.le_of_ble_eq_true rfl))]
    rfl
  have c3 : mOp gMul (mLst (mCons (mVar 1) mNil)) (mC (.int 9)) (LR v (fz (.lst (List.replicate 9 v))) none none) st = .ok (.lst (List.replicate 9 v), .fr, st) :=
    opN (a := .lst [v]) (ka := .fr) (b := .int 9) (kb := .fz) (st1 := st) (lst_ok (ms := [v]) rfl (Nat.le_of_ble_eq_true rfl)) rfl (gRepN9 st v)
  have rp1 : ∀ {f : EF} {k : Kd}, f (LR v (fz (.lst (List.replicate 9 v))) none none) st = .ok (.lst (List.replicate 9 v), k, st) → mCallB gRepr (mCons f mNil) (LR v (fz (.lst (List.replicate 9 v))) none none) st = .ok (.str x, .fz, st) := by
    intro f k h
    rw [d_mCallB, d_mCons, h]
    simp only [Res.ok_bind, d_mNil, List.map_cons, List.map_nil, vw_lst, hx, d_give0]
  unfold M_law_right g_law_right
  exact runF_own (k := .fz) (lo0 := LR v none none none) rfl (seq_ok (if_ff c1 rfl) (seq_ok (set_ok c2 rfl) (ret_ok (opV (rp1 (k := .fz) rfl) (rp1 c3) (eq_self (neg := false) (a := .str x) ox st))))) rfl
end
end K01

namespace K01
open PySem L2 PySem.Spec PyProof.Rows FW FL

theorem rgd9 {v : MV} (h : gx 11 v = true) (hw : wt v ≤ 9000) : rgd (.lst (List.replicate 9 v)) = true := by
  refine rgd_of ?_ (sz ?_)
  · show (List.replicate 9 v).all (gx 11) = true
    simp [List.replicate, h]
  · simp only [wt, wts, List.replicate]
    omega
/-- one pair, ready to be shown -/
structure Pr (k : Str) (m : MV) : Prop where
  k1 : PyData.strOk k = true
  k2 : k.length ≤ 10
  g : gx 9 m = true
  w : wt m ≤ 1000
theorem Pr.key {k : Str} {m : MV} (h : Pr k m) : PyData.strOk (PyData.shown (.str k)) = true ∧ (PyData.shown (.str k)).length ≤ 200 := by
  have g : gx 9 (.str k) = true := h.k1
  have l := len_rp g
  have k2 := h.k2
  simp only [wt] at l
  exact ⟨ok_rp g, Nat.le_trans l (by omega)⟩
theorem dct_ok {ps : List (Str × MV)} (hp : ∀ p, p ∈ ps → Pr p.1 p.2) (hn : ps.length ≤ 3) (d : PyData) (hd : d = .dict (ps.map fun p => (.str p.1, md p.2))) :
    d.showable = true ∧ d.shown.length ≤ 10000 ∧ PyData.strOk d.shown = true := by
  subst hd
  have go : ∀ ps : List (Str × MV), (∀ p, p ∈ ps → Pr p.1 p.2) → PyData.showableKv (ps.map fun p => (.str p.1, md p.2)) = true ∧ (∀ t, t ∈ PyData.shownKv (ps.map fun p => (.str p.1, md p.2)) → PyData.strOk t = true ∧ t.length ≤ 1500) ∧ (PyData.shownKv (ps.map fun p => (.str p.1, md p.2))).length = ps.length := by
    intro ps
    induction ps with
    | nil => intro _; exact ⟨rfl, fun t h => by simp [PyData.shownKv] at h, rfl⟩
    | cons p ps ih =>
      intro h
      obtain ⟨a, b, c⟩ := ih fun q hq => h q (List.mem_cons_of_mem _ hq)
      have hp := h p (List.mem_cons_self ..)
      obtain ⟨q1, q2⟩ := hp.key
      have s := show_gd hp.g
      have l := len_rp hp.g
      have o := ok_rp hp.g
      have w := hp.w
      refine ⟨by simp [PyData.showableKv, PyData.showable, s, a], fun t ht => ?_, by simp only [List.map_cons, PyData.shownKv_cons, List.length_cons, c]⟩
      simp only [List.map_cons, PyData.shownKv_cons, List.mem_cons] at ht
      rcases ht with rfl | ht
      · refine ⟨ok_app (ok_app q1 (ok_str _)) o, ?_⟩
        have e : ∀ x y : Str, (x ++ y).length = x.length + y.length := fun x y => by rw [TL.len_tl, TL.tl_append, List.length_append, ← TL.len_tl, ← TL.len_tl]
        have c2 : ((": " : Str)).length = 2 := by decide +kernel
        rw [e, e, c2]
        have l' : (md p.2).shown.length ≤ wt p.2 := l
        omega
      · exact b t ht
  obtain ⟨a, b, c⟩ := go ps hp
  refine ⟨by simpa [PyData.showable] using a, ?_, ?_⟩
  · simp only [PyData.shown]
    have t := dictText_len_le (PyData.shownKv (ps.map fun p => (PyData.str p.1, md p.2)))
    have sm : ∀ ts : List Str, (∀ t, t ∈ ts → t.length ≤ 1500) → (ts.map (·.length)).sum ≤ 1500 * ts.length := by
      intro ts
      induction ts with
      | nil => intro _; exact Nat.le_refl _
      | cons x ts ih =>
        intro h
        have h1 := h x (List.mem_cons_self ..)
        have h2 := ih fun y hy => h y (List.mem_cons_of_mem _ hy)
        simp only [List.map_cons, List.sum_cons, List.length_cons]
        omega
    have := sm _ fun t ht => (b t ht).2
    omega
  · simp only [PyData.shown]
    exact ok_app (ok_app (ok_str _) (ok_join (ok_str _) _ fun t ht => (b t ht).1)) (ok_str _)
section
variable {st st1 st2 : Sto} {ns : List Int} {t1 t2 t3 t4 t5 : Option (MV × Bool)} {v : MV}
abbrev LW (ns : List Int) (t1 t2 t3 t4 t5 : Option (MV × Bool)) : Lo := [fz (.scr ns), t1, t2, t3, t4, t5]
abbrev LE (ns : List Int) (t1 t2 : Option (MV × Bool)) (v : MV) : Lo := LW ns t1 t2 (fz v) (fz (.lst (E9 v))) (fz (.lst (E9 v)))
theorem both (h9 : Sh9 v st) : sIf (mOr (mNotT (mTv (mCall 2 M_law_right [] (mCons (mVar 4) (mCons (mVar 3) mNil))))) (mNotT (mTv (mCall 2 M_law_right [] (mCons (mVar 5) (mCons (mVar 3) mNil)))))) (sRet (mC (.bl false))) sNil (LE ns t1 t2 v) st = .ok (.nx, LE ns t1 t2 v, st) := by
  have r4 : mCall 2 M_law_right [] (mCons (mVar 4) (mCons (mVar 3) mNil)) (LE ns t1 t2 v) st = .ok (.bl true, .fz, st) := callV (ms := [.lst (E9 v), v]) (b := false) (st1 := st) rfl rfl (right_ok h9)
  have r5 : mCall 2 M_law_right [] (mCons (mVar 5) (mCons (mVar 3) mNil)) (LE ns t1 t2 v) st = .ok (.bl true, .fz, st) := callV (ms := [.lst (E9 v), v]) (b := false) (st1 := st) rfl rfl (right_ok h9)
  exact if_ff (or_ff (not_ok (tv_ok r4)) (not_ok (tv_ok r5))) rfl
theorem turn (h9 : Sh9 v st) (m1 : sIf (mTv (mIsi (isT "list") noC noC (mVar 3))) (sApp (mVar 3) (mC (.str "more"))) sNil (LE ns t1 t2 v) st = .ok (.nx, LE ns t1 t2 v, st1))
    (m2 : sIf (mTv (mIsi (isT "dict") noC noC (mVar 3))) (sPutD (mLst (mCons (mC (.int 1)) mNil)) (mVar 3) (mC (.str "more"))) sNil (LE ns t1 t2 v) st1 = .ok (.nx, LE ns t1 t2 v, st2)) (h9' : Sh9 v st2) :
    b1_law (LW ns t1 t2 (fz v) t4 t5) st = .ok (.nx, LE ns t1 t2 v, st2) := by
  have p4 : ∀ t4 t5 : Option (MV × Bool), mCall 1 M_law_placed [] (mCons (mVar 3) mNil) (LW ns t1 t2 (fz v) t4 t5) st = .ok (.lst (E9 v), .fr, st) := fun t4 t5 => callV (ms := [v]) (b := true) (st1 := st) rfl rfl (placed_ok v)
  have p5 : ∀ t4 t5 : Option (MV × Bool), mCall 1 M_law_named [] (mCons (mVar 3) mNil) (LW ns t1 t2 (fz v) t4 t5) st = .ok (.lst (E9 v), .fr, st) := fun t4 t5 => callV (ms := [v]) (b := true) (st1 := st) rfl rfl (named_ok v)
  have c45 : sPar 4 5 false false (mCall 1 M_law_placed [] (mCons (mVar 3) mNil)) (mCall 1 M_law_named [] (mCons (mVar 3) mNil)) (LW ns t1 t2 (fz v) t4 t5) st = .ok (.nx, LE ns t1 t2 v, st) := by
    rw [d_sPar, p4]
    simp only [Res.ok_bind, d_takeF, d_frz1, if_neg Bool.false_ne_true, p5]
    rfl
  exact seq_ok c45 (seq_ok (both h9) (seq_ok m1 (seq_ok m2 (both h9'))))
theorem isi3 {T : String} {b : Bool} (h : tyAns (isT T) noC noC (vw st v) = some b) : mTv (mIsi (isT T) noC noC (mVar 3)) (LE ns t1 t2 v) st = .ok (b, st) := by
  refine tv_ok (k := .fz) (st1 := st) ?_
  show (match tyAns (isT T) noC noC (vw st v) with
    | some b => Res.ok (MV.bl b, Kd.fz, st)
    | none => .bad) = _
  rw [h]
theorem turn_pl (h : rgd (.lst (List.replicate 9 v)) = true) (hl : tyAns (isT "list") noC noC (vw st v) = some false) (hd : tyAns (isT "dict") noC noC (vw st v) = some false) :
    b1_law (LW ns t1 t2 (fz v) t4 t5) st = .ok (.nx, LE ns t1 t2 v, st) :=
  turn (sh_plain h) (if_ff (isi3 hl) rfl) (if_ff (isi3 hd) rfl) (sh_plain h)
theorem at_set {s0 cs : Sto} {j : Nat} {c : MV} : (s0 ++ cs).set (s0.length + j) c = s0 ++ cs.set j c := by
  rw [List.set_append_right _ _ (Nat.le_add_right _ _), Nat.add_sub_cancel_left]
theorem at_get {s0 cs : Sto} {j : Nat} : (s0 ++ cs)[s0.length + j]? = cs[j]? := by
  rw [List.getElem?_append_right (Nat.le_add_right _ _), Nat.add_sub_cancel_left]
theorem turn_l {s0 cs : Sto} {j : Nat} {xs : List MV} (e : cs[j]? = some (.lst xs)) (h1 : rgd (.lst (List.replicate 9 (.lst xs))) = true) (h2 : rgd (.lst (List.replicate 9 (.lst (xs ++ [.str "more"])))) = true) (hz : xs.length ≤ 1000) :
    b1_law (LW ns t1 t2 (fz (.ref (s0.length + j))) t4 t5) (s0 ++ cs) = .ok (.nx, LE ns t1 t2 (.ref (s0.length + j)), s0 ++ cs.set j (.lst (xs ++ [.str "more"]))) := by
  have g := (at_get (s0 := s0) (cs := cs) (j := j)).trans e
  have hj : j < cs.length := (List.getElem?_eq_some_iff.mp e).1
  have e2 : (cs.set j (.lst (xs ++ [.str "more"])))[j]? = some (.lst (xs ++ [.str "more"])) := by rw [List.getElem?_set_self hj]
  have g2 := (at_get (s0 := s0) (cs := cs.set j (.lst (xs ++ [.str "more"]))) (j := j)).trans e2
  have ap : sApp (mVar 3) (mC (.str "more")) (LE ns t1 t2 (.ref (s0.length + j))) (s0 ++ cs) = .ok (.nx, LE ns t1 t2 (.ref (s0.length + j)), s0 ++ cs.set j (.lst (xs ++ [.str "more"]))) := by
    unfold sApp
    have h1 : mVar 3 (LE ns t1 t2 (.ref (s0.length + j))) (s0 ++ cs) = .ok (.ref (s0.length + j), .fz, s0 ++ cs) := rfl
    have h3 : mC (.str "more") (LE ns t1 t2 (.ref (s0.length + j))) (s0 ++ cs) = .ok (.str "more", .fz, s0 ++ cs) := rfl
    rw [h1]
    have ef : frzd (MV.str "more", Kd.fz, s0 ++ cs) = .ok (MV.str "more", s0 ++ cs) := rfl
    have zz : xs.length < sizeLine := Nat.lt_of_le_of_lt hz (by decide +kernel)
    simp only [Res.ok_bind, targetOf, refAt, g, isLst, if_true, h3, ef, if_pos zz, putBack, putRef, at_set]
  refine turn (st1 := s0 ++ cs.set j (.lst (xs ++ [.str "more"]))) (sh_ref g rfl (sh_plain h1)) (if_tt (isi3 ?_) ap) (if_ff (isi3 ?_) rfl) (sh_ref g2 rfl (sh_plain h2))
  · rw [vw_ref _ _ g]; rfl
  · rw [vw_ref _ _ g2]; rfl
theorem turn_d {s0 cs : Sto} {j : Nat} {ps qs : List (MV × MV)} (e : cs[j]? = some (.dct ps)) (hq : putD ps (.inr "more") (.lst [.int 1]) = qs) (ha : ps.all (fun p => (kyI p.1).isSome) = true) (hz : ps.length ≤ 1000)
    (h1 : ∀ st, Sh9 (.dct ps) st) (h2 : ∀ st, Sh9 (.dct qs) st) :
    b1_law (LW ns t1 t2 (fz (.ref (s0.length + j))) t4 t5) (s0 ++ cs) = .ok (.nx, LE ns t1 t2 (.ref (s0.length + j)), s0 ++ cs.set j (.dct qs)) := by
  have g := (at_get (s0 := s0) (cs := cs) (j := j)).trans e
  have hj : j < cs.length := (List.getElem?_eq_some_iff.mp e).1
  have e2 : (cs.set j (.dct qs))[j]? = some (.dct qs) := by rw [List.getElem?_set_self hj]
  have g2 := (at_get (s0 := s0) (cs := cs.set j (.dct qs)) (j := j)).trans e2
  have ap : sPutD (mLst (mCons (mC (.int 1)) mNil)) (mVar 3) (mC (.str "more")) (LE ns t1 t2 (.ref (s0.length + j))) (s0 ++ cs) = .ok (.nx, LE ns t1 t2 (.ref (s0.length + j)), s0 ++ cs.set j (.dct qs)) := by
    unfold sPutD
    have h0 : mLst (mCons (mC (.int 1)) mNil) (LE ns t1 t2 (.ref (s0.length + j))) (s0 ++ cs) = .ok (.lst [.int 1], .fr, s0 ++ cs) := lst_ok (ms := [.int 1]) rfl (Nat.le_of_ble_eq_true rfl)
    have h1 : mVar 3 (LE ns t1 t2 (.ref (s0.length + j))) (s0 ++ cs) = .ok (.ref (s0.length + j), .fz, s0 ++ cs) := rfl
    have h3 : mC (.str "more") (LE ns t1 t2 (.ref (s0.length + j))) (s0 ++ cs) = .ok (.str "more", .fz, s0 ++ cs) := rfl
    have ky : kyI (.str "more") = some (.inr "more") := rfl
    have zz : ps.length < sizeLine := Nat.lt_of_le_of_lt hz (by decide +kernel)
    rw [h0]
    simp only [Res.ok_bind, d_frz1, h1, h3, targetOf, refAt, g, ky]
    rw [if_pos ⟨zz, ha⟩]
    simp only [putBack, putRef, at_set, hq]
  refine turn (st1 := s0 ++ cs) (sh_ref g rfl (h1 _)) (if_ff (isi3 ?_) rfl) (if_tt (isi3 ?_) ap) (sh_ref g2 rfl (h2 _))
  · rw [vw_ref _ _ g]; rfl
  · rw [vw_ref _ _ g]; rfl
end
end K01

namespace K01
open PySem L2 PySem.Spec PyProof.Rows FW FL

theorem kit_own_ty {K : PySem.W.Frag} {C : Addr} {T : String} {b : Bool} (hm : PySem.W.kitMeta T = true) (h : PySem.W.subIn K (.ref C) (.type T) = some b) : PySem.W.kitOne K (.ref C) (.type T) = some b := by
  have n : ¬ ((Value.ref C == Value.type T) = true) := by
    intro z
    have := eq_of_beq z
    cases this
  unfold PySem.W.kitOne PySem.W.kitCls
  rw [if_neg n]
  exact (if_pos hm).trans h
theorem pw12 : CPowW 10 12 := by decide +kernel
theorem sh_dct {ps : List (Str × MV)} (hp : ∀ p, p ∈ ps → Pr p.1 p.2) (hn : ps.length ≤ 3) {qs : List (MV × MV)} (st : Sto) (e : toX st 11 (.dct qs) = some (.dict (ps.map fun p => (.str p.1, md p.2)))) (hd : (PyData.dict (ps.map fun p => (.str p.1, md p.2))).depth ≤ 50) : Sh9 (.dct qs) st := by
  obtain ⟨a, b, c⟩ := dct_ok hp hn _ rfl
  exact sh_data e a b hd c
def ndr : List (Str × MV) → PyData := fun ps => .dict (ps.map fun p => (.str p.1, md p.2))
theorem go_mark {r : Int} (h0 : 0 ≤ r) (h1 : r < 10 ^ 12) (k : Nat) : gx (k + 1) (.int r) = true ∧ gx (k + 1) (.int (0 - r)) = true := by
  have p : (10 : Int) ^ 12 < 2 ^ 63 := by decide
  have q : r.natAbs < 2 ^ 63 := by omega
  have z : ∀ n : Nat, n < 2 ^ 63 → n.log2 < 1600 := fun n hn => by
    by_cases e : n = 0
    · subst e; decide
    · exact Nat.lt_trans ((Nat.log2_lt e).mpr hn) (by decide)
  refine ⟨decide_eq_true (z _ q), decide_eq_true (z _ ?_)⟩
  omega
section
variable {st : Sto} {lo : Lo}
theorem sto_at {f : EF} {s0 cs : Sto} {m : MV} (h : f lo (s0 ++ cs) = .ok (m, .fr, s0 ++ cs)) : mSto f lo (s0 ++ cs) = .ok (.ref (s0.length + cs.length), .fz, s0 ++ (cs ++ [m])) := by
  rw [d_mSto, h]
  show Res.ok (MV.ref (s0 ++ cs).length, Kd.fz, (s0 ++ cs) ++ [m]) = _
  rw [List.length_append, List.append_assoc]
end
def m1 : MV := .lst [.int 1]
def tA : MV := .tup [.int 1, .int 2]
def tB : MV := .tup [.str "a", .int 0, .int 1, .str "b"]
def ITEMS (r : Int) (n : Nat) : List MV :=
  [.int r, .int (0 - r), tA, .tup [], .ref (n + 0), .ref (n + 1), .ref (n + 2), .ref (n + 3), .str "a b", .str "", .bl true, .non, tB]
theorem items_ok (ns : List Int) (r : Int) (t2 t3 t4 t5 : Option (MV × Bool)) (s0 : Sto) :
    iSeq (mLst (mCons (mVar 1) (mCons (mOp gSub (mC (.int 0)) (mVar 1)) (mCons (mTup (mCons (mC (.int 1)) (mCons (mC (.int 2)) mNil))) (mCons (mTup mNil) (mCons (mSto (mLst (mCons (mC (.int 1)) mNil))) (mCons (mSto (mLst mNil)) (mCons (mSto mDct0) (mCons (mSto (mDp1 (.inr "a") (mLst (mCons (mVar 1) mNil)))) (mCons (mC (.str "a b")) (mCons (mC (.str "")) (mCons (mC (.bl true)) (mCons (mC .non) (mCons (mTup (mCons (mC (.str "a")) (mCons (mC (.int 0)) (mCons (mC (.int 1)) (mCons (mC (.str "b")) mNil))))) mNil))))))))))))))
      (LW ns (fz (.int r)) t2 t3 t4 t5) (s0 ++ []) = .ok (ITEMS r s0.length, fun _ _ => True, s0 ++ [m1, .lst [], .dct [], .dct [(.str "a", .lst [.int r])]]) := by
  obtain ⟨L, hL⟩ : ∃ L, L = LW ns (fz (.int r)) t2 t3 t4 t5 := ⟨_, rfl⟩
  have v1 : ∀ s, mVar 1 L s = .ok (.int r, .fz, s) := fun s => by subst hL; rfl
  have q2 : ∀ s, mOp gSub (mC (.int 0)) (mVar 1) L s = .ok (.int (0 - r), .fz, s) := fun s => opV (a := .int 0) (ka := .fz) (st1 := s) rfl (v1 s) rfl
  have q3 : ∀ s, mTup (mCons (mC (.int 1)) (mCons (mC (.int 2)) mNil)) L s = .ok (tA, .fr, s) := fun s => by simp [tA, sz]
  have q4 : ∀ s, mTup mNil L s = .ok (.tup [], .fr, s) := fun s => by simp [sz]
  have q13 : ∀ s, mTup (mCons (mC (.str "a")) (mCons (mC (.int 0)) (mCons (mC (.int 1)) (mCons (mC (.str "b")) mNil)))) L s = .ok (tB, .fr, s) := fun s => by simp [tB, sz]
  have w5 := sto_at (lo := L) (s0 := s0) (cs := []) (m := m1) (f := mLst (mCons (mC (.int 1)) mNil)) (lst_ok (ms := [.int 1]) rfl (Nat.le_of_ble_eq_true rfl))
  have w6 := sto_at (lo := L) (s0 := s0) (cs := [m1]) (m := .lst []) (f := mLst mNil) (lst_ok (ms := []) rfl (Nat.le_of_ble_eq_true rfl))
  have w7 := sto_at (lo := L) (s0 := s0) (cs := [m1, .lst []]) (m := .dct []) (f := mDct0) rfl
  have w8 := sto_at (lo := L) (s0 := s0) (cs := [m1, .lst [], .dct []]) (m := .dct [(.str "a", .lst [.int r])]) (f := mDp1 (.inr "a") (mLst (mCons (mVar 1) mNil))) (by
    unfold mDp1
    rw [lst_ok (cons_ok (v1 _) rfl nil_ok) (Nat.le_of_ble_eq_true rfl)]
    rfl)
  rw [← hL]
  refine iSeq_lst (k := .fr) (xs := ITEMS r s0.length) (lst_ok (ms := ITEMS r s0.length) ?_ (Nat.le_of_ble_eq_true rfl)) rfl
  exact cons_ok (v1 _) rfl (cons_ok (q2 _) rfl (cons_ok (q3 _) rfl (cons_ok (q4 _) rfl (cons_ok w5 rfl (cons_ok w6 rfl (cons_ok w7 rfl (cons_ok w8 rfl
    (cons_ok (k := .fz) (m := .str "a b") rfl rfl (cons_ok (k := .fz) (m := .str "") rfl rfl (cons_ok (k := .fz) (m := .bl true) rfl rfl (cons_ok (k := .fz) (m := .non) rfl rfl (cons_ok (q13 _) rfl nil_ok))))))))))))
theorem pr1 : Pr "more" (.lst [.int 1]) := ⟨by decide +kernel, by decide +kernel, by decide +kernel, by decide +kernel⟩
theorem pure_law (ns : List Int) (_ : ns.length ≤ 63) : ∃ st, M_law [.scr ns] [] = .ok (.bl true, false, st) := by
  obtain ⟨a, b, a0, b0, b1, eg⟩ := gen_ok ns 0 (by omega) []
  have G0 : GenAt [MV.lst [.int a, .int b, .int (1000 * ((0 : Nat) : Int))]] 0 5000 := ⟨a, b, 1000 * ((0 : Nat) : Int), by simp, a0, b0, b1, by omega, by omega, by decide⟩
  obtain ⟨r, s0, r0, r1, er, G1⟩ := random_ok (bound := 10 ^ 12) G0 (by decide) (by decide) (by decide)
  obtain ⟨L0, hL0⟩ : ∃ L0, L0 = LW ns none none none none none := ⟨_, rfl⟩
  have c1 : sSet 1 (mCall 2 M_law_random [] (mCons (mSto (mCall 2 M_law_generator [] (mCons (mVar 0) (mCons (mC (.int 0)) mNil)))) (mCons (mOp gPow (mC (.int 10)) (mC (.int 12))) mNil))) L0 [] = .ok (.nx, LW ns (fz (.int r)) none none none none, s0) := by
    have g1 : mCall 2 M_law_generator [] (mCons (mVar 0) (mCons (mC (.int 0)) mNil)) L0 [] = .ok (.lst [.int a, .int b, .int (1000 * ((0 : Nat) : Int))], .fr, []) := by
      subst hL0; exact callV (ms := [.scr ns, .int ((0 : Nat) : Int)]) (b := true) (st1 := []) rfl rfl eg
    have g2 : mSto (mCall 2 M_law_generator [] (mCons (mVar 0) (mCons (mC (.int 0)) mNil))) L0 [] = .ok (.ref 0, .fz, [MV.lst [.int a, .int b, .int (1000 * ((0 : Nat) : Int))]]) := by
      rw [d_mSto, g1]; rfl
    have g3 : mOp gPow (mC (.int 10)) (mC (.int 12)) L0 [MV.lst [.int a, .int b, .int (1000 * ((0 : Nat) : Int))]] = .ok (.int (10 ^ 12), .fz, [MV.lst [.int a, .int b, .int (1000 * ((0 : Nat) : Int))]]) :=
      opV (a := .int 10) (ka := .fz) (b := .int 12) (kb := .fz) (st1 := [MV.lst [.int a, .int b, .int (1000 * ((0 : Nat) : Int))]]) rfl rfl (d_gPow _ _ _ pw12)
    have e := set_ok (i := 1) (k := .fz) (callV (ms := [.ref 0, .int (10 ^ 12)]) (b := false) (cons_ok g2 rfl (cons_ok g3 rfl nil_ok)) rfl er) rfl
    subst hL0; exact e
  have c2 : sSet 2 (mLst (mCons (mCall 1 M_law_placed [] (mCons (mVar 1) mNil)) (mCons (mCall 1 M_law_named [] (mCons (mC (.str "elder")) mNil)) mNil))) (LW ns (fz (.int r)) none none none none) s0 = .ok (.nx, LW ns (fz (.int r)) (fz (.lst [.lst (E9 (.int r)), .lst (E9 (.str "elder"))])) none none none, s0) := by
    have e1 : mCall 1 M_law_placed [] (mCons (mVar 1) mNil) (LW ns (fz (.int r)) none none none none) s0 = .ok (.lst (E9 (.int r)), .fr, s0) := callV (ms := [.int r]) (b := true) (st1 := s0) rfl rfl (placed_ok _)
    have e2 : mCall 1 M_law_named [] (mCons (mC (.str "elder")) mNil) (LW ns (fz (.int r)) none none none none) s0 = .ok (.lst (E9 (.str "elder")), .fr, s0) := callV (ms := [.str "elder"]) (b := true) (st1 := s0) rfl rfl (named_ok _)
    exact set_ok (lst_ok (ms := [.lst (E9 (.int r)), .lst (E9 (.str "elder"))]) (cons_ok e1 rfl (cons_ok e2 rfl nil_ok)) (Nat.le_of_ble_eq_true rfl)) rfl
  obtain ⟨T1, hT1⟩ : ∃ T : Option (MV × Bool), T = fz (.int r) := ⟨_, rfl⟩
  obtain ⟨T2, hT2⟩ : ∃ T : Option (MV × Bool), T = fz (.lst [.lst (E9 (.int r)), .lst (E9 (.str "elder"))]) := ⟨_, rfl⟩
  have it := items_ok ns r T2 none none none s0
  rw [List.append_nil, ← hT1] at it
  have gm := go_mark r0 r1
  have prm : Pr "a" (.lst [.int r]) := ⟨by decide +kernel, by decide +kernel, by show [MV.int r].all (gx 8) = true; simp [(gm 7).1], by simp [wt, wts]⟩
  have last : ∀ lo st, forL ckT (gN 3) b1_law [] lo st = .ok (.nx, lo, st) := fun lo st => by rw [forL_nil]; exact if_pos trivial
  have pl : ∀ {v : MV} {t3 t4 t5 : Option (MV × Bool)} {st : Sto}, gx 11 v = true → wt v ≤ 9000 → tyAns (isT "list") noC noC (vw st v) = some false → tyAns (isT "dict") noC noC (vw st v) = some false → b1_law (LW ns T1 T2 (fz v) t4 t5) st = .ok (.nx, LE ns T1 T2 v, st) := fun h1 h2 h3 h4 => turn_pl (rgd9 h1 h2) h3 h4
  have run : forL ckT (gN 3) b1_law (ITEMS r s0.length) (LW ns T1 T2 none none none) (s0 ++ [m1, .lst [], .dct [], .dct [(.str "a", .lst [.int r])]]) =
      .ok (.nx, LE ns T1 T2 tB, s0 ++ [.lst [.int 1, .str "more"], .lst [.str "more"], .dct [(.str "more", .lst [.int 1])], .dct [(.str "a", .lst [.int r]), (.str "more", .lst [.int 1])]]) := by
    refine forL_nx rfl (pl (t3 := none) (gm 10).1 (by simp [wt]) rfl rfl) ?_
    refine forL_nx rfl (pl (t3 := none) (gm 10).2 (by simp [wt]) rfl rfl) ?_
    refine forL_nx rfl (pl (t3 := none) (v := tA) (by decide +kernel) (by decide +kernel) rfl rfl) ?_
    refine forL_nx rfl (pl (t3 := none) (v := .tup []) (by decide +kernel) (by decide +kernel) rfl rfl) ?_
    refine forL_nx rfl (turn_l (s0 := s0) (j := 0) (xs := [.int 1]) rfl (rgd9 (by decide +kernel) (by decide +kernel)) (rgd9 (by decide +kernel) (by decide +kernel)) (Nat.le_of_ble_eq_true rfl)) ?_
    refine forL_nx rfl (turn_l (s0 := s0) (j := 1) (xs := []) rfl (rgd9 (by decide +kernel) (by decide +kernel)) (rgd9 (by decide +kernel) (by decide +kernel)) (Nat.le_of_ble_eq_true rfl)) ?_
    refine forL_nx rfl (turn_d (s0 := s0) (j := 2) (ps := []) (qs := [(.str "more", .lst [.int 1])]) rfl rfl rfl (Nat.le_of_ble_eq_true rfl) (fun st => sh_plain (rgd9 (by decide +kernel) (by decide +kernel)))
      (fun st => sh_dct (ps := [("more", .lst [.int 1])]) (fun p hp => by rw [List.mem_singleton.mp hp]; exact pr1) (by decide) st rfl (by decide +kernel))) ?_
    refine forL_nx rfl (turn_d (s0 := s0) (j := 3) (ps := [(.str "a", .lst [.int r])]) (qs := [(.str "a", .lst [.int r]), (.str "more", .lst [.int 1])]) rfl rfl rfl (Nat.le_of_ble_eq_true rfl)
      (fun st => sh_dct (ps := [("a", .lst [.int r])]) (fun p hp => by rw [List.mem_singleton.mp hp]; exact prm) (by simp) st rfl (by simp [md, mds, PyData.depth, PyData.depthKv, PyData.depthAll]))
      (fun st => sh_dct (ps := [("a", .lst [.int r]), ("more", .lst [.int 1])]) (fun p hp => by
        simp only [List.mem_cons, List.not_mem_nil, or_false] at hp
        rcases hp with rfl | rfl
        · exact prm
        · exact pr1) (by simp) st rfl (by simp [md, mds, PyData.depth, PyData.depthKv, PyData.depthAll]))) ?_
    refine forL_nx rfl (pl (t3 := none) (v := .str "a b") (by decide +kernel) (by decide +kernel) rfl rfl) ?_
    refine forL_nx rfl (pl (t3 := none) (v := .str "") (by decide +kernel) (by decide +kernel) rfl rfl) ?_
    refine forL_nx rfl (pl (t3 := none) (v := .bl true) (by decide +kernel) (by decide +kernel) rfl rfl) ?_
    refine forL_nx rfl (pl (t3 := none) (v := .non) (by decide +kernel) (by decide +kernel) rfl rfl) ?_
    refine forL_nx rfl (pl (t3 := none) (v := tB) (by decide +kernel) (by decide +kernel) rfl rfl) ?_
    exact last _ _
  obtain ⟨s9, hs9⟩ : ∃ s9, s9 = s0 ++ [.lst [.int 1, .str "more"], .lst [.str "more"], .dct [(.str "more", .lst [.int 1])], .dct [(.str "a", .lst [.int r]), (.str "more", .lst [.int 1])]] := ⟨_, rfl⟩
  rw [← hs9] at run
  obtain ⟨LZ, hLZ⟩ : ∃ LZ, LZ = LE ns T1 T2 tB := ⟨_, rfl⟩
  have z1 : mCall 2 M_law_right [] (mCons (mOp gIx (mVar 2) (mC (.int 0))) (mCons (mVar 1) mNil)) LZ s9 = .ok (.bl true, .fz, s9) := by
    subst hLZ hT1 hT2
    exact callV (ms := [.lst (E9 (.int r)), .int r]) (b := false) (st1 := s9) (cons_ok (k := .fz) (m := .lst (E9 (.int r))) (st1 := s9) rfl rfl (cons_ok (k := .fz) (m := .int r) (st1 := s9) rfl rfl nil_ok)) rfl (right_ok (sh_plain (rgd9 (gm 10).1 (by simp [wt]))))
  have z2 : mCall 2 M_law_right [] (mCons (mOp gIx (mVar 2) (mC (.int 1))) (mCons (mC (.str "elder")) mNil)) LZ s9 = .ok (.bl true, .fz, s9) := by
    subst hLZ hT1 hT2
    exact callV (ms := [.lst (E9 (.str "elder")), .str "elder"]) (b := false) (st1 := s9) (cons_ok (k := .fz) (m := .lst (E9 (.str "elder"))) (st1 := s9) rfl rfl (cons_ok (k := .fz) (m := .str "elder") (st1 := s9) rfl rfl nil_ok)) rfl (right_ok (sh_plain (rgd9 (by decide +kernel) (by decide +kernel))))
  have z3 : mCall 2 M_law_right [] (mCons (mCall 0 M_law_bare [] mNil) (mCons (mC .non) mNil)) LZ s9 = .ok (.bl true, .fz, s9) := by
    have e1 : mCall 0 M_law_bare [] mNil LZ s9 = .ok (.lst (E9 .non), .fr, s9) := callV (ms := []) (b := true) (st1 := s9) rfl rfl bare_ok
    exact callV (ms := [.lst (E9 .non), .non]) (b := false) (st1 := s9) (cons_ok e1 rfl (cons_ok (k := .fz) (m := .non) (st1 := s9) rfl rfl nil_ok)) rfl (right_ok (sh_plain (rgd9 (by decide +kernel) (by decide +kernel))))
  have z4 : mOp (gEqB false) (mCall 1 M_law_kinds [] (mCons (mMkN "NothingToUndo") mNil)) (mLst (mCons (mC (.int 9)) mNil)) LZ s9 = .ok (.bl true, .fz, s9) := by
    have e1 : mCall 1 M_law_kinds [] (mCons (mMkN "NothingToUndo") mNil) LZ s9 = .ok (kd "NothingToUndo", .fr, s9) := callV (ms := [.exc "NothingToUndo" []]) (b := true) (st1 := s9) rfl rfl (kinds_ok (by decide +kernel))
    have ek : kd "NothingToUndo" = .lst [.int 9] := by kernel_rfl
    rw [ek] at e1
    exact opV e1 (lst_ok (ms := [.int 9]) rfl (Nat.le_of_ble_eq_true rfl)) (eq_self (neg := false) (a := .lst [.int 9]) (by decide +kernel) s9)
  refine ⟨s9, ?_⟩
  unfold M_law g_law
  subst hLZ
  refine runF_own (k := .fz) (lo0 := L0) (lo := LE ns T1 T2 tB) hL0.symm (seq_ok c1 (seq_ok (st1 := s0) (lo1 := LW ns T1 T2 none none none) ?_ (seq_ok (for_ok it run) (seq_ok (if_ff (or_ff (not_ok (tv_ok z1)) (or_ff (not_ok (tv_ok z2)) (not_ok (tv_ok z3)))) rfl) (ret_ok z4))))) rfl
  subst hT1 hT2
  exact c2
end K01

namespace K01
open PySem L2 PySem.Spec PyProof.Rows FW FL
theorem all_mk {P : Program} {K : PySem.W.Frag} {hp : Heap} {mg : Str → Option Value} {fa : Addr} (X : K.In hp) (G : hp.Ns mainGlobals mg) (hfa : mg "law" = some (.ref fa))
    {f0 : Addr} {oc0 kV0 dc0 pm0 cd0 ct0 : Value} {od0 an0 : Option Addr} {sl0 : Array (Option Value)}
    {f1 : Addr} {oc1 kV1 dc1 pm1 cd1 ct1 : Value} {od1 an1 : Option Addr} {sl1 : Array (Option Value)}
    {f2 : Addr} {oc2 kV2 dc2 pm2 cd2 ct2 : Value} {od2 an2 : Option Addr} {sl2 : Array (Option Value)}
    {f3 : Addr} {oc3 kV3 dc3 pm3 cd3 ct3 : Value} {od3 an3 : Option Addr} {sl3 : Array (Option Value)}
    {f4 : Addr} {oc4 kV4 dc4 pm4 cd4 ct4 : Value} {od4 an4 : Option Addr} {sl4 : Array (Option Value)}
    {f5 : Addr} {oc5 kV5 dc5 pm5 cd5 ct5 : Value} {od5 an5 : Option Addr} {sl5 : Array (Option Value)}
    {f6 : Addr} {oc6 kV6 dc6 pm6 cd6 ct6 : Value} {od6 an6 : Option Addr} {sl6 : Array (Option Value)}
    {f7 : Addr} {oc7 kV7 dc7 pm7 cd7 ct7 : Value} {od7 an7 : Option Addr} {sl7 : Array (Option Value)}
    {f8 : Addr} {oc8 kV8 dc8 pm8 cd8 ct8 : Value} {od8 an8 : Option Addr} {sl8 : Array (Option Value)}
    {f9 : Addr} {oc9 kV9 dc9 pm9 cd9 ct9 : Value} {od9 an9 : Option Addr} {sl9 : Array (Option Value)}
    {W : Addr}
    {C0 N0 I0 T0 cda0 cc0 : Addr} {nm0 q0 : Str} {bs0 : List Value} {sn0 : List Str} {sub0 : List Value} {ab0 : Bool} {col0 : Option Bool} {dd0 : Option Addr} {x00 x10 x20 x30 x50 : Option Value} {ioc0 ikV0 idc0 ipm0 ict0 ccl0 ccl20 tcl0 : Value} {iod0 ian0 cdd0 cld0 tod0 : Option Addr} {isl0 ccs0 csl0 tsl0 : Array (Option Value)} {vs0 : Array Value} {n0 : Nat} {file0 : Str} {tf0 : Tok}
    {C1 N1 I1 T1 cda1 cc1 : Addr} {nm1 q1 : Str} {bs1 : List Value} {sn1 : List Str} {sub1 : List Value} {ab1 : Bool} {col1 : Option Bool} {dd1 : Option Addr} {x01 x11 x21 x31 x51 : Option Value} {ioc1 ikV1 idc1 ipm1 ict1 ccl1 ccl21 tcl1 : Value} {iod1 ian1 cdd1 cld1 tod1 : Option Addr} {isl1 ccs1 csl1 tsl1 : Array (Option Value)} {vs1 : Array Value} {n1 : Nat} {file1 : Str} {tf1 : Tok}
    {C2 N2 I2 T2 cda2 cc2 : Addr} {nm2 q2 : Str} {bs2 : List Value} {sn2 : List Str} {sub2 : List Value} {ab2 : Bool} {col2 : Option Bool} {dd2 : Option Addr} {x02 x12 x22 x32 x52 : Option Value} {ioc2 ikV2 idc2 ipm2 ict2 ccl2 ccl22 tcl2 : Value} {iod2 ian2 cdd2 cld2 tod2 : Option Addr} {isl2 ccs2 csl2 tsl2 : Array (Option Value)} {vs2 : Array Value} {n2 : Nat} {file2 : Str} {tf2 : Tok}
    {C3 N3 I3 T3 cda3 cc3 : Addr} {nm3 q3 : Str} {bs3 : List Value} {sn3 : List Str} {sub3 : List Value} {ab3 : Bool} {col3 : Option Bool} {dd3 : Option Addr} {x03 x13 x23 x33 x53 : Option Value} {ioc3 ikV3 idc3 ipm3 ict3 ccl3 ccl23 tcl3 : Value} {iod3 ian3 cdd3 cld3 tod3 : Option Addr} {isl3 ccs3 csl3 tsl3 : Array (Option Value)} {vs3 : Array Value} {n3 : Nat} {file3 : Str} {tf3 : Tok}
    {C4 N4 I4 T4 cda4 cc4 : Addr} {nm4 q4 : Str} {bs4 : List Value} {sn4 : List Str} {sub4 : List Value} {ab4 : Bool} {col4 : Option Bool} {dd4 : Option Addr} {x04 x14 x24 x34 x54 : Option Value} {ioc4 ikV4 idc4 ipm4 ict4 ccl4 ccl24 tcl4 : Value} {iod4 ian4 cdd4 cld4 tod4 : Option Addr} {isl4 ccs4 csl4 tsl4 : Array (Option Value)} {vs4 : Array Value} {n4 : Nat} {file4 : Str} {tf4 : Tok}
    {C5 N5 I5 T5 cda5 cc5 : Addr} {nm5 q5 : Str} {bs5 : List Value} {sn5 : List Str} {sub5 : List Value} {ab5 : Bool} {col5 : Option Bool} {dd5 : Option Addr} {x05 x15 x25 x35 x55 : Option Value} {ioc5 ikV5 idc5 ipm5 ict5 ccl5 ccl25 tcl5 : Value} {iod5 ian5 cdd5 cld5 tod5 : Option Addr} {isl5 ccs5 csl5 tsl5 : Array (Option Value)} {vs5 : Array Value} {n5 : Nat} {file5 : Str} {tf5 : Tok}
    {C6 N6 I6 T6 cda6 cc6 : Addr} {nm6 q6 : Str} {bs6 : List Value} {sn6 : List Str} {sub6 : List Value} {ab6 : Bool} {col6 : Option Bool} {dd6 : Option Addr} {x06 x16 x26 x36 x56 : Option Value} {ioc6 ikV6 idc6 ipm6 ict6 ccl6 ccl26 tcl6 : Value} {iod6 ian6 cdd6 cld6 tod6 : Option Addr} {isl6 ccs6 csl6 tsl6 : Array (Option Value)} {vs6 : Array Value} {n6 : Nat} {file6 : Str} {tf6 : Tok}
    {C7 N7 I7 T7 cda7 cc7 : Addr} {nm7 q7 : Str} {bs7 : List Value} {sn7 : List Str} {sub7 : List Value} {ab7 : Bool} {col7 : Option Bool} {dd7 : Option Addr} {x07 x17 x27 x37 x57 : Option Value} {ioc7 ikV7 idc7 ipm7 ict7 ccl7 ccl27 tcl7 : Value} {iod7 ian7 cdd7 cld7 tod7 : Option Addr} {isl7 ccs7 csl7 tsl7 : Array (Option Value)} {vs7 : Array Value} {n7 : Nat} {file7 : Str} {tf7 : Tok}
    {C8 N8 I8 T8 cda8 cc8 : Addr} {nm8 q8 : Str} {bs8 : List Value} {sn8 : List Str} {sub8 : List Value} {ab8 : Bool} {col8 : Option Bool} {dd8 : Option Addr} {x08 x18 x28 x38 x58 : Option Value} {ioc8 ikV8 idc8 ipm8 ict8 ccl8 ccl28 tcl8 : Value} {iod8 ian8 cdd8 cld8 tod8 : Option Addr} {isl8 ccs8 csl8 tsl8 : Array (Option Value)} {vs8 : Array Value} {n8 : Nat} {file8 : Str} {tf8 : Tok}
    {UN : Addr}
    (a0 : PySem.W.nsIn K mainGlobals "_law_bare" = some (some (.ref f0)))
    (l0 : K.lookup f0 = some ⟨oc0, od0, .func (PySem.W.fnOf "_law_bare" "_law_bare" (defArgs s_law_bare) (defBody s_law_bare) (defScope s_law_bare) .none kV0 dc0 pm0 an0 cd0 ct0), sl0⟩)
    (c0 : PySem.W.codeIn K cd0 "_law_bare" = true)
    (k0 : PySem.W.keepIn K (.ref f0) = true)
    (a1 : PySem.W.nsIn K mainGlobals "_law_cell" = some (some (.ref f1)))
    (l1 : K.lookup f1 = some ⟨oc1, od1, .func (PySem.W.fnOf "_law_cell" "_law_cell" (defArgs s_law_cell) (defBody s_law_cell) (defScope s_law_cell) .none kV1 dc1 pm1 an1 cd1 ct1), sl1⟩)
    (c1 : PySem.W.codeIn K cd1 "_law_cell" = true)
    (k1 : PySem.W.keepIn K (.ref f1) = true)
    (a2 : PySem.W.nsIn K mainGlobals "_law_generator" = some (some (.ref f2)))
    (l2 : K.lookup f2 = some ⟨oc2, od2, .func (PySem.W.fnOf "_law_generator" "_law_generator" (defArgs s_law_generator) (defBody s_law_generator) (defScope s_law_generator) .none kV2 dc2 pm2 an2 cd2 ct2), sl2⟩)
    (c2 : PySem.W.codeIn K cd2 "_law_generator" = true)
    (k2 : PySem.W.keepIn K (.ref f2) = true)
    (a3 : PySem.W.nsIn K mainGlobals "_law_kinds" = some (some (.ref f3)))
    (l3 : K.lookup f3 = some ⟨oc3, od3, .func (PySem.W.fnOf "_law_kinds" "_law_kinds" (defArgs s_law_kinds) (defBody s_law_kinds) (defScope s_law_kinds) .none kV3 dc3 pm3 an3 cd3 ct3), sl3⟩)
    (c3 : PySem.W.codeIn K cd3 "_law_kinds" = true)
    (k3 : PySem.W.keepIn K (.ref f3) = true)
    (a4 : PySem.W.nsIn K mainGlobals "_law_named" = some (some (.ref f4)))
    (l4 : K.lookup f4 = some ⟨oc4, od4, .func (PySem.W.fnOf "_law_named" "_law_named" (defArgs s_law_named) (defBody s_law_named) (defScope s_law_named) .none kV4 dc4 pm4 an4 cd4 ct4), sl4⟩)
    (c4 : PySem.W.codeIn K cd4 "_law_named" = true)
    (k4 : PySem.W.keepIn K (.ref f4) = true)
    (a5 : PySem.W.nsIn K mainGlobals "_law_placed" = some (some (.ref f5)))
    (l5 : K.lookup f5 = some ⟨oc5, od5, .func (PySem.W.fnOf "_law_placed" "_law_placed" (defArgs s_law_placed) (defBody s_law_placed) (defScope s_law_placed) .none kV5 dc5 pm5 an5 cd5 ct5), sl5⟩)
    (c5 : PySem.W.codeIn K cd5 "_law_placed" = true)
    (k5 : PySem.W.keepIn K (.ref f5) = true)
    (a6 : PySem.W.nsIn K mainGlobals "_law_hash" = some (some (.ref f6)))
    (l6 : K.lookup f6 = some ⟨oc6, od6, .func (PySem.W.fnOf "_law_hash" "_law_hash" (defArgs s_law_hash) (defBody s_law_hash) (defScope s_law_hash) .none kV6 dc6 pm6 an6 cd6 ct6), sl6⟩)
    (c6 : PySem.W.codeIn K cd6 "_law_hash" = true)
    (k6 : PySem.W.keepIn K (.ref f6) = true)
    (a7 : PySem.W.nsIn K mainGlobals "_law_random" = some (some (.ref f7)))
    (l7 : K.lookup f7 = some ⟨oc7, od7, .func (PySem.W.fnOf "_law_random" "_law_random" (defArgs s_law_random) (defBody s_law_random) (defScope s_law_random) .none kV7 dc7 pm7 an7 cd7 ct7), sl7⟩)
    (c7 : PySem.W.codeIn K cd7 "_law_random" = true)
    (k7 : PySem.W.keepIn K (.ref f7) = true)
    (a8 : PySem.W.nsIn K mainGlobals "_law_right" = some (some (.ref f8)))
    (l8 : K.lookup f8 = some ⟨oc8, od8, .func (PySem.W.fnOf "_law_right" "_law_right" (defArgs s_law_right) (defBody s_law_right) (defScope s_law_right) .none kV8 dc8 pm8 an8 cd8 ct8), sl8⟩)
    (c8 : PySem.W.codeIn K cd8 "_law_right" = true)
    (k8 : PySem.W.keepIn K (.ref f8) = true)
    (a9 : PySem.W.nsIn K mainGlobals "law" = some (some (.ref f9)))
    (l9 : K.lookup f9 = some ⟨oc9, od9, .func (PySem.W.fnOf "law" "law" (defArgs s_law) (defBody s_law) (defScope s_law) .none kV9 dc9 pm9 an9 cd9 ct9), sl9⟩)
    (c9 : PySem.W.codeIn K cd9 "law" = true)
    (k9 : PySem.W.keepIn K (.ref f9) = true)
    (z_ValueError : PySem.W.nsIn K mainGlobals "ValueError" = some none)
    (z_dict : PySem.W.nsIn K mainGlobals "dict" = some none)
    (z_int : PySem.W.nsIn K mainGlobals "int" = some none)
    (z_isinstance : PySem.W.nsIn K mainGlobals "isinstance" = some none)
    (z_len : PySem.W.nsIn K mainGlobals "len" = some none)
    (z_list : PySem.W.nsIn K mainGlobals "list" = some none)
    (z_max : PySem.W.nsIn K mainGlobals "max" = some none)
    (z_range : PySem.W.nsIn K mainGlobals "range" = some none)
    (z_repr : PySem.W.nsIn K mainGlobals "repr" = some none)
    (spc : PySem.W.specialIn K (.builtin "object.__class__") "__get__" = some (some (.builtin "getset_descriptor.__get__")))
    (tkc : PySem.W.takesIn K (.builtin "object.__class__") = some true)
    (no_Program : PySem.W.nsIn K mainGlobals "Program" = some none)
    (no_Tested : PySem.W.nsIn K mainGlobals "Tested" = some none)
    (no_Live : PySem.W.nsIn K mainGlobals "Live" = some none)
    (no_Library : PySem.W.nsIn K mainGlobals "Library" = some none)
    (no_Window : PySem.W.nsIn K mainGlobals "Window" = some none)
    (no_Book : PySem.W.nsIn K mainGlobals "Book" = some none)
    (no_Cover : PySem.W.nsIn K mainGlobals "Cover" = some none)
    (no_Below : PySem.W.nsIn K mainGlobals "Below" = some none)
    (z0super : PySem.W.nsIn K mainGlobals "super" = some none)
    (aW : PySem.W.nsIn K mainGlobals "WalkError" = some (some (.ref W)))
    (isW : PySem.W.isClsIn K W = true)
    (tyW : PySem.W.typeIn K (.ref W) = some (.type "type"))
    (exW : PySem.W.subIn K (.ref W) (.type "BaseException") = some true)
    (thc : PySem.W.nsIn K PySem.cStatics "thirdparty.any" = some none)
    (aC0 : PySem.W.nsIn K mainGlobals "InvalidNumber" = some (some (.ref C0)))
    (xC0 : K.lookup C0 = some (excClassObj nm0 q0 C0 N0 bs0 [.ref W, .type "ValueError", .type "Exception", .type "BaseException", .type "object"] true sn0 sub0 ab0 col0 dd0 x00 x10 x20 x30 x50 "ValueError.__new__"))
    (sa0 : PySem.W.findIn K (.ref C0) "__setattr__" = some (some (.builtin "object.__setattr__")))
    (ga0 : PySem.W.findIn K (.ref C0) "__getattribute__" = some (some (.builtin "BaseException.__getattribute__")))
    (gg0 : PySem.W.findIn K (.ref C0) "__getattr__" = some (none))
    (nov0 : PySem.W.findIn K (.ref C0) "value" = some (none))
    (non0 : PySem.W.findIn K (.ref C0) "name" = some (none))
    (ha0 : PySem.W.findIn K (.ref C0) "__class__" = some (some (.builtin "object.__class__")))
    (iC0 : PySem.W.findIn K (.ref C0) "__init__" = some (some (.ref I0)))
    (mo0 : PySem.W.mroIn K C0 (.type "object") = some true)
    (mr0 : PySem.W.mroIn K C0 (.ref C0) = some true)
    (ve0 : PySem.W.subIn K (.ref C0) (.type "ValueError") = some true)
    (ex0 : PySem.W.subIn K (.ref C0) (.type "BaseException") = some true)
    (sW0 : PySem.W.subIn K (.ref C0) (.ref W) = some true)
    (tI0 : PySem.W.typeIn K (.ref I0) = some (.type "function"))
    (kC0 : PySem.W.keepIn K (.ref C0) = true)
    (ty0 : PySem.W.typeIn K (.ref C0) = some (.type "type"))
    (hd0 : PySem.W.hasDictIn K C0 = true)
    (is0 : PySem.W.isClsIn K C0 = true)
    (su0 : PySem.W.ks_superIn K C0 C0 "__init__" = some (some (.builtin "ValueError.__init__")))
    (lI0 : K.lookup I0 = some ⟨ioc0, iod0, .func (PySem.W.ksFn "__init__" "InvalidNumber.__init__" (defArgs (inClass (top 2) 0)) (defBody (inClass (top 2) 0)) (defScope (inClass (top 2) 0)) (.ref T0) ikV0 idc0 ipm0 ian0 (.ref cda0) ict0 cc0), isl0⟩)
    (cI0 : PySem.W.codeIn K (.ref cda0) "InvalidNumber.__init__" = true)
    (lc0 : K.lookup cda0 = some ⟨ccl0, cdd0, .fields vs0, ccs0⟩)
    (v20 : vs0[2]? = some (.str file0 tf0))
    (fi0 : (P.main.file == file0) = true)
    (lcc0 : K.lookup cc0 = some ⟨ccl20, cld0, .cell (some (.ref C0)), csl0⟩)
    (lT0 : K.lookup T0 = some ⟨tcl0, tod0, .seq #[Value.none] n0, tsl0⟩)
    (aC1 : PySem.W.nsIn K mainGlobals "InvalidList" = some (some (.ref C1)))
    (xC1 : K.lookup C1 = some (excClassObj nm1 q1 C1 N1 bs1 [.ref W, .type "ValueError", .type "Exception", .type "BaseException", .type "object"] true sn1 sub1 ab1 col1 dd1 x01 x11 x21 x31 x51 "ValueError.__new__"))
    (sa1 : PySem.W.findIn K (.ref C1) "__setattr__" = some (some (.builtin "object.__setattr__")))
    (ga1 : PySem.W.findIn K (.ref C1) "__getattribute__" = some (some (.builtin "BaseException.__getattribute__")))
    (gg1 : PySem.W.findIn K (.ref C1) "__getattr__" = some (none))
    (nov1 : PySem.W.findIn K (.ref C1) "value" = some (none))
    (non1 : PySem.W.findIn K (.ref C1) "name" = some (none))
    (ha1 : PySem.W.findIn K (.ref C1) "__class__" = some (some (.builtin "object.__class__")))
    (iC1 : PySem.W.findIn K (.ref C1) "__init__" = some (some (.ref I1)))
    (mo1 : PySem.W.mroIn K C1 (.type "object") = some true)
    (mr1 : PySem.W.mroIn K C1 (.ref C1) = some true)
    (ve1 : PySem.W.subIn K (.ref C1) (.type "ValueError") = some true)
    (ex1 : PySem.W.subIn K (.ref C1) (.type "BaseException") = some true)
    (sW1 : PySem.W.subIn K (.ref C1) (.ref W) = some true)
    (tI1 : PySem.W.typeIn K (.ref I1) = some (.type "function"))
    (kC1 : PySem.W.keepIn K (.ref C1) = true)
    (ty1 : PySem.W.typeIn K (.ref C1) = some (.type "type"))
    (hd1 : PySem.W.hasDictIn K C1 = true)
    (is1 : PySem.W.isClsIn K C1 = true)
    (su1 : PySem.W.ks_superIn K C1 C1 "__init__" = some (some (.builtin "ValueError.__init__")))
    (lI1 : K.lookup I1 = some ⟨ioc1, iod1, .func (PySem.W.ksFn "__init__" "InvalidList.__init__" (defArgs (inClass (top 3) 0)) (defBody (inClass (top 3) 0)) (defScope (inClass (top 3) 0)) (.ref T1) ikV1 idc1 ipm1 ian1 (.ref cda1) ict1 cc1), isl1⟩)
    (cI1 : PySem.W.codeIn K (.ref cda1) "InvalidList.__init__" = true)
    (lc1 : K.lookup cda1 = some ⟨ccl1, cdd1, .fields vs1, ccs1⟩)
    (v21 : vs1[2]? = some (.str file1 tf1))
    (fi1 : (P.main.file == file1) = true)
    (lcc1 : K.lookup cc1 = some ⟨ccl21, cld1, .cell (some (.ref C1)), csl1⟩)
    (lT1 : K.lookup T1 = some ⟨tcl1, tod1, .seq #[Value.none] n1, tsl1⟩)
    (aC2 : PySem.W.nsIn K mainGlobals "InvalidItem" = some (some (.ref C2)))
    (xC2 : K.lookup C2 = some (excClassObj nm2 q2 C2 N2 bs2 [.ref W, .type "ValueError", .type "Exception", .type "BaseException", .type "object"] true sn2 sub2 ab2 col2 dd2 x02 x12 x22 x32 x52 "ValueError.__new__"))
    (sa2 : PySem.W.findIn K (.ref C2) "__setattr__" = some (some (.builtin "object.__setattr__")))
    (ga2 : PySem.W.findIn K (.ref C2) "__getattribute__" = some (some (.builtin "BaseException.__getattribute__")))
    (gg2 : PySem.W.findIn K (.ref C2) "__getattr__" = some (none))
    (nov2 : PySem.W.findIn K (.ref C2) "value" = some (none))
    (non2 : PySem.W.findIn K (.ref C2) "name" = some (none))
    (ha2 : PySem.W.findIn K (.ref C2) "__class__" = some (some (.builtin "object.__class__")))
    (iC2 : PySem.W.findIn K (.ref C2) "__init__" = some (some (.ref I2)))
    (mo2 : PySem.W.mroIn K C2 (.type "object") = some true)
    (mr2 : PySem.W.mroIn K C2 (.ref C2) = some true)
    (ve2 : PySem.W.subIn K (.ref C2) (.type "ValueError") = some true)
    (ex2 : PySem.W.subIn K (.ref C2) (.type "BaseException") = some true)
    (sW2 : PySem.W.subIn K (.ref C2) (.ref W) = some true)
    (tI2 : PySem.W.typeIn K (.ref I2) = some (.type "function"))
    (kC2 : PySem.W.keepIn K (.ref C2) = true)
    (ty2 : PySem.W.typeIn K (.ref C2) = some (.type "type"))
    (hd2 : PySem.W.hasDictIn K C2 = true)
    (is2 : PySem.W.isClsIn K C2 = true)
    (su2 : PySem.W.ks_superIn K C2 C2 "__init__" = some (some (.builtin "ValueError.__init__")))
    (lI2 : K.lookup I2 = some ⟨ioc2, iod2, .func (PySem.W.ksFn "__init__" "InvalidItem.__init__" (defArgs (inClass (top 4) 0)) (defBody (inClass (top 4) 0)) (defScope (inClass (top 4) 0)) (.ref T2) ikV2 idc2 ipm2 ian2 (.ref cda2) ict2 cc2), isl2⟩)
    (cI2 : PySem.W.codeIn K (.ref cda2) "InvalidItem.__init__" = true)
    (lc2 : K.lookup cda2 = some ⟨ccl2, cdd2, .fields vs2, ccs2⟩)
    (v22 : vs2[2]? = some (.str file2 tf2))
    (fi2 : (P.main.file == file2) = true)
    (lcc2 : K.lookup cc2 = some ⟨ccl22, cld2, .cell (some (.ref C2)), csl2⟩)
    (lT2 : K.lookup T2 = some ⟨tcl2, tod2, .seq #[Value.none] n2, tsl2⟩)
    (aC3 : PySem.W.nsIn K mainGlobals "InvalidProgram" = some (some (.ref C3)))
    (xC3 : K.lookup C3 = some (excClassObj nm3 q3 C3 N3 bs3 [.ref W, .type "ValueError", .type "Exception", .type "BaseException", .type "object"] true sn3 sub3 ab3 col3 dd3 x03 x13 x23 x33 x53 "ValueError.__new__"))
    (sa3 : PySem.W.findIn K (.ref C3) "__setattr__" = some (some (.builtin "object.__setattr__")))
    (ga3 : PySem.W.findIn K (.ref C3) "__getattribute__" = some (some (.builtin "BaseException.__getattribute__")))
    (gg3 : PySem.W.findIn K (.ref C3) "__getattr__" = some (none))
    (nov3 : PySem.W.findIn K (.ref C3) "value" = some (none))
    (non3 : PySem.W.findIn K (.ref C3) "name" = some (none))
    (ha3 : PySem.W.findIn K (.ref C3) "__class__" = some (some (.builtin "object.__class__")))
    (iC3 : PySem.W.findIn K (.ref C3) "__init__" = some (some (.ref I3)))
    (mo3 : PySem.W.mroIn K C3 (.type "object") = some true)
    (mr3 : PySem.W.mroIn K C3 (.ref C3) = some true)
    (ve3 : PySem.W.subIn K (.ref C3) (.type "ValueError") = some true)
    (ex3 : PySem.W.subIn K (.ref C3) (.type "BaseException") = some true)
    (sW3 : PySem.W.subIn K (.ref C3) (.ref W) = some true)
    (tI3 : PySem.W.typeIn K (.ref I3) = some (.type "function"))
    (kC3 : PySem.W.keepIn K (.ref C3) = true)
    (ty3 : PySem.W.typeIn K (.ref C3) = some (.type "type"))
    (hd3 : PySem.W.hasDictIn K C3 = true)
    (is3 : PySem.W.isClsIn K C3 = true)
    (su3 : PySem.W.ks_superIn K C3 C3 "__init__" = some (some (.builtin "ValueError.__init__")))
    (lI3 : K.lookup I3 = some ⟨ioc3, iod3, .func (PySem.W.ksFn "__init__" "InvalidProgram.__init__" (defArgs (inClass (top 5) 0)) (defBody (inClass (top 5) 0)) (defScope (inClass (top 5) 0)) (.ref T3) ikV3 idc3 ipm3 ian3 (.ref cda3) ict3 cc3), isl3⟩)
    (cI3 : PySem.W.codeIn K (.ref cda3) "InvalidProgram.__init__" = true)
    (lc3 : K.lookup cda3 = some ⟨ccl3, cdd3, .fields vs3, ccs3⟩)
    (v23 : vs3[2]? = some (.str file3 tf3))
    (fi3 : (P.main.file == file3) = true)
    (lcc3 : K.lookup cc3 = some ⟨ccl23, cld3, .cell (some (.ref C3)), csl3⟩)
    (lT3 : K.lookup T3 = some ⟨tcl3, tod3, .seq #[Value.none] n3, tsl3⟩)
    (aC4 : PySem.W.nsIn K mainGlobals "InvalidRow" = some (some (.ref C4)))
    (xC4 : K.lookup C4 = some (excClassObj nm4 q4 C4 N4 bs4 [.ref W, .type "ValueError", .type "Exception", .type "BaseException", .type "object"] true sn4 sub4 ab4 col4 dd4 x04 x14 x24 x34 x54 "ValueError.__new__"))
    (sa4 : PySem.W.findIn K (.ref C4) "__setattr__" = some (some (.builtin "object.__setattr__")))
    (ga4 : PySem.W.findIn K (.ref C4) "__getattribute__" = some (some (.builtin "BaseException.__getattribute__")))
    (gg4 : PySem.W.findIn K (.ref C4) "__getattr__" = some (none))
    (nov4 : PySem.W.findIn K (.ref C4) "value" = some (none))
    (non4 : PySem.W.findIn K (.ref C4) "name" = some (none))
    (ha4 : PySem.W.findIn K (.ref C4) "__class__" = some (some (.builtin "object.__class__")))
    (iC4 : PySem.W.findIn K (.ref C4) "__init__" = some (some (.ref I4)))
    (mo4 : PySem.W.mroIn K C4 (.type "object") = some true)
    (mr4 : PySem.W.mroIn K C4 (.ref C4) = some true)
    (ve4 : PySem.W.subIn K (.ref C4) (.type "ValueError") = some true)
    (ex4 : PySem.W.subIn K (.ref C4) (.type "BaseException") = some true)
    (sW4 : PySem.W.subIn K (.ref C4) (.ref W) = some true)
    (tI4 : PySem.W.typeIn K (.ref I4) = some (.type "function"))
    (kC4 : PySem.W.keepIn K (.ref C4) = true)
    (ty4 : PySem.W.typeIn K (.ref C4) = some (.type "type"))
    (hd4 : PySem.W.hasDictIn K C4 = true)
    (is4 : PySem.W.isClsIn K C4 = true)
    (su4 : PySem.W.ks_superIn K C4 C4 "__init__" = some (some (.builtin "ValueError.__init__")))
    (lI4 : K.lookup I4 = some ⟨ioc4, iod4, .func (PySem.W.ksFn "__init__" "InvalidRow.__init__" (defArgs (inClass (top 6) 0)) (defBody (inClass (top 6) 0)) (defScope (inClass (top 6) 0)) (.ref T4) ikV4 idc4 ipm4 ian4 (.ref cda4) ict4 cc4), isl4⟩)
    (cI4 : PySem.W.codeIn K (.ref cda4) "InvalidRow.__init__" = true)
    (lc4 : K.lookup cda4 = some ⟨ccl4, cdd4, .fields vs4, ccs4⟩)
    (v24 : vs4[2]? = some (.str file4 tf4))
    (fi4 : (P.main.file == file4) = true)
    (lcc4 : K.lookup cc4 = some ⟨ccl24, cld4, .cell (some (.ref C4)), csl4⟩)
    (lT4 : K.lookup T4 = some ⟨tcl4, tod4, .seq #[Value.none] n4, tsl4⟩)
    (aC5 : PySem.W.nsIn K mainGlobals "InvalidText" = some (some (.ref C5)))
    (xC5 : K.lookup C5 = some (excClassObj nm5 q5 C5 N5 bs5 [.ref W, .type "ValueError", .type "Exception", .type "BaseException", .type "object"] true sn5 sub5 ab5 col5 dd5 x05 x15 x25 x35 x55 "ValueError.__new__"))
    (sa5 : PySem.W.findIn K (.ref C5) "__setattr__" = some (some (.builtin "object.__setattr__")))
    (ga5 : PySem.W.findIn K (.ref C5) "__getattribute__" = some (some (.builtin "BaseException.__getattribute__")))
    (gg5 : PySem.W.findIn K (.ref C5) "__getattr__" = some (none))
    (nov5 : PySem.W.findIn K (.ref C5) "value" = some (none))
    (non5 : PySem.W.findIn K (.ref C5) "name" = some (none))
    (ha5 : PySem.W.findIn K (.ref C5) "__class__" = some (some (.builtin "object.__class__")))
    (iC5 : PySem.W.findIn K (.ref C5) "__init__" = some (some (.ref I5)))
    (mo5 : PySem.W.mroIn K C5 (.type "object") = some true)
    (mr5 : PySem.W.mroIn K C5 (.ref C5) = some true)
    (ve5 : PySem.W.subIn K (.ref C5) (.type "ValueError") = some true)
    (ex5 : PySem.W.subIn K (.ref C5) (.type "BaseException") = some true)
    (sW5 : PySem.W.subIn K (.ref C5) (.ref W) = some true)
    (tI5 : PySem.W.typeIn K (.ref I5) = some (.type "function"))
    (kC5 : PySem.W.keepIn K (.ref C5) = true)
    (ty5 : PySem.W.typeIn K (.ref C5) = some (.type "type"))
    (hd5 : PySem.W.hasDictIn K C5 = true)
    (is5 : PySem.W.isClsIn K C5 = true)
    (su5 : PySem.W.ks_superIn K C5 C5 "__init__" = some (some (.builtin "ValueError.__init__")))
    (lI5 : K.lookup I5 = some ⟨ioc5, iod5, .func (PySem.W.ksFn "__init__" "InvalidText.__init__" (defArgs (inClass (top 7) 0)) (defBody (inClass (top 7) 0)) (defScope (inClass (top 7) 0)) (.ref T5) ikV5 idc5 ipm5 ian5 (.ref cda5) ict5 cc5), isl5⟩)
    (cI5 : PySem.W.codeIn K (.ref cda5) "InvalidText.__init__" = true)
    (lc5 : K.lookup cda5 = some ⟨ccl5, cdd5, .fields vs5, ccs5⟩)
    (v25 : vs5[2]? = some (.str file5 tf5))
    (fi5 : (P.main.file == file5) = true)
    (lcc5 : K.lookup cc5 = some ⟨ccl25, cld5, .cell (some (.ref C5)), csl5⟩)
    (lT5 : K.lookup T5 = some ⟨tcl5, tod5, .seq #[Value.none] n5, tsl5⟩)
    (aC6 : PySem.W.nsIn K mainGlobals "InvalidName" = some (some (.ref C6)))
    (xC6 : K.lookup C6 = some (excClassObj nm6 q6 C6 N6 bs6 [.ref W, .type "ValueError", .type "Exception", .type "BaseException", .type "object"] true sn6 sub6 ab6 col6 dd6 x06 x16 x26 x36 x56 "ValueError.__new__"))
    (sa6 : PySem.W.findIn K (.ref C6) "__setattr__" = some (some (.builtin "object.__setattr__")))
    (ga6 : PySem.W.findIn K (.ref C6) "__getattribute__" = some (some (.builtin "BaseException.__getattribute__")))
    (gg6 : PySem.W.findIn K (.ref C6) "__getattr__" = some (none))
    (nov6 : PySem.W.findIn K (.ref C6) "value" = some (none))
    (non6 : PySem.W.findIn K (.ref C6) "name" = some (none))
    (ha6 : PySem.W.findIn K (.ref C6) "__class__" = some (some (.builtin "object.__class__")))
    (iC6 : PySem.W.findIn K (.ref C6) "__init__" = some (some (.ref I6)))
    (mo6 : PySem.W.mroIn K C6 (.type "object") = some true)
    (mr6 : PySem.W.mroIn K C6 (.ref C6) = some true)
    (ve6 : PySem.W.subIn K (.ref C6) (.type "ValueError") = some true)
    (ex6 : PySem.W.subIn K (.ref C6) (.type "BaseException") = some true)
    (sW6 : PySem.W.subIn K (.ref C6) (.ref W) = some true)
    (tI6 : PySem.W.typeIn K (.ref I6) = some (.type "function"))
    (kC6 : PySem.W.keepIn K (.ref C6) = true)
    (ty6 : PySem.W.typeIn K (.ref C6) = some (.type "type"))
    (hd6 : PySem.W.hasDictIn K C6 = true)
    (is6 : PySem.W.isClsIn K C6 = true)
    (su6 : PySem.W.ks_superIn K C6 C6 "__init__" = some (some (.builtin "ValueError.__init__")))
    (lI6 : K.lookup I6 = some ⟨ioc6, iod6, .func (PySem.W.ksFn "__init__" "InvalidName.__init__" (defArgs (inClass (top 8) 0)) (defBody (inClass (top 8) 0)) (defScope (inClass (top 8) 0)) (.ref T6) ikV6 idc6 ipm6 ian6 (.ref cda6) ict6 cc6), isl6⟩)
    (cI6 : PySem.W.codeIn K (.ref cda6) "InvalidName.__init__" = true)
    (lc6 : K.lookup cda6 = some ⟨ccl6, cdd6, .fields vs6, ccs6⟩)
    (v26 : vs6[2]? = some (.str file6 tf6))
    (fi6 : (P.main.file == file6) = true)
    (lcc6 : K.lookup cc6 = some ⟨ccl26, cld6, .cell (some (.ref C6)), csl6⟩)
    (lT6 : K.lookup T6 = some ⟨tcl6, tod6, .seq #[Value.none] n6, tsl6⟩)
    (aC7 : PySem.W.nsIn K mainGlobals "TakenName" = some (some (.ref C7)))
    (xC7 : K.lookup C7 = some (excClassObj nm7 q7 C7 N7 bs7 [.ref W, .type "ValueError", .type "Exception", .type "BaseException", .type "object"] true sn7 sub7 ab7 col7 dd7 x07 x17 x27 x37 x57 "ValueError.__new__"))
    (sa7 : PySem.W.findIn K (.ref C7) "__setattr__" = some (some (.builtin "object.__setattr__")))
    (ga7 : PySem.W.findIn K (.ref C7) "__getattribute__" = some (some (.builtin "BaseException.__getattribute__")))
    (gg7 : PySem.W.findIn K (.ref C7) "__getattr__" = some (none))
    (nov7 : PySem.W.findIn K (.ref C7) "value" = some (none))
    (non7 : PySem.W.findIn K (.ref C7) "name" = some (none))
    (ha7 : PySem.W.findIn K (.ref C7) "__class__" = some (some (.builtin "object.__class__")))
    (iC7 : PySem.W.findIn K (.ref C7) "__init__" = some (some (.ref I7)))
    (mo7 : PySem.W.mroIn K C7 (.type "object") = some true)
    (mr7 : PySem.W.mroIn K C7 (.ref C7) = some true)
    (ve7 : PySem.W.subIn K (.ref C7) (.type "ValueError") = some true)
    (ex7 : PySem.W.subIn K (.ref C7) (.type "BaseException") = some true)
    (sW7 : PySem.W.subIn K (.ref C7) (.ref W) = some true)
    (tI7 : PySem.W.typeIn K (.ref I7) = some (.type "function"))
    (kC7 : PySem.W.keepIn K (.ref C7) = true)
    (ty7 : PySem.W.typeIn K (.ref C7) = some (.type "type"))
    (hd7 : PySem.W.hasDictIn K C7 = true)
    (is7 : PySem.W.isClsIn K C7 = true)
    (su7 : PySem.W.ks_superIn K C7 C7 "__init__" = some (some (.builtin "ValueError.__init__")))
    (lI7 : K.lookup I7 = some ⟨ioc7, iod7, .func (PySem.W.ksFn "__init__" "TakenName.__init__" (defArgs (inClass (top 9) 0)) (defBody (inClass (top 9) 0)) (defScope (inClass (top 9) 0)) (.ref T7) ikV7 idc7 ipm7 ian7 (.ref cda7) ict7 cc7), isl7⟩)
    (cI7 : PySem.W.codeIn K (.ref cda7) "TakenName.__init__" = true)
    (lc7 : K.lookup cda7 = some ⟨ccl7, cdd7, .fields vs7, ccs7⟩)
    (v27 : vs7[2]? = some (.str file7 tf7))
    (fi7 : (P.main.file == file7) = true)
    (lcc7 : K.lookup cc7 = some ⟨ccl27, cld7, .cell (some (.ref C7)), csl7⟩)
    (lT7 : K.lookup T7 = some ⟨tcl7, tod7, .seq #[Value.none] n7, tsl7⟩)
    (aC8 : PySem.W.nsIn K mainGlobals "UnknownName" = some (some (.ref C8)))
    (xC8 : K.lookup C8 = some (excClassObj nm8 q8 C8 N8 bs8 [.ref W, .type "ValueError", .type "Exception", .type "BaseException", .type "object"] true sn8 sub8 ab8 col8 dd8 x08 x18 x28 x38 x58 "ValueError.__new__"))
    (sa8 : PySem.W.findIn K (.ref C8) "__setattr__" = some (some (.builtin "object.__setattr__")))
    (ga8 : PySem.W.findIn K (.ref C8) "__getattribute__" = some (some (.builtin "BaseException.__getattribute__")))
    (gg8 : PySem.W.findIn K (.ref C8) "__getattr__" = some (none))
    (nov8 : PySem.W.findIn K (.ref C8) "value" = some (none))
    (non8 : PySem.W.findIn K (.ref C8) "name" = some (none))
    (ha8 : PySem.W.findIn K (.ref C8) "__class__" = some (some (.builtin "object.__class__")))
    (iC8 : PySem.W.findIn K (.ref C8) "__init__" = some (some (.ref I8)))
    (mo8 : PySem.W.mroIn K C8 (.type "object") = some true)
    (mr8 : PySem.W.mroIn K C8 (.ref C8) = some true)
    (ve8 : PySem.W.subIn K (.ref C8) (.type "ValueError") = some true)
    (ex8 : PySem.W.subIn K (.ref C8) (.type "BaseException") = some true)
    (sW8 : PySem.W.subIn K (.ref C8) (.ref W) = some true)
    (tI8 : PySem.W.typeIn K (.ref I8) = some (.type "function"))
    (kC8 : PySem.W.keepIn K (.ref C8) = true)
    (ty8 : PySem.W.typeIn K (.ref C8) = some (.type "type"))
    (hd8 : PySem.W.hasDictIn K C8 = true)
    (is8 : PySem.W.isClsIn K C8 = true)
    (su8 : PySem.W.ks_superIn K C8 C8 "__init__" = some (some (.builtin "ValueError.__init__")))
    (lI8 : K.lookup I8 = some ⟨ioc8, iod8, .func (PySem.W.ksFn "__init__" "UnknownName.__init__" (defArgs (inClass (top 10) 0)) (defBody (inClass (top 10) 0)) (defScope (inClass (top 10) 0)) (.ref T8) ikV8 idc8 ipm8 ian8 (.ref cda8) ict8 cc8), isl8⟩)
    (cI8 : PySem.W.codeIn K (.ref cda8) "UnknownName.__init__" = true)
    (lc8 : K.lookup cda8 = some ⟨ccl8, cdd8, .fields vs8, ccs8⟩)
    (v28 : vs8[2]? = some (.str file8 tf8))
    (fi8 : (P.main.file == file8) = true)
    (lcc8 : K.lookup cc8 = some ⟨ccl28, cld8, .cell (some (.ref C8)), csl8⟩)
    (lT8 : K.lookup T8 = some ⟨tcl8, tod8, .seq #[Value.none] n8, tsl8⟩)
    (tops : (P.main.scope.names.lookup ("super" : Str)).isSome = false)
    (s0_0 : PySem.W.subIn K (.ref C0) (.ref C0) = some true)
    (s0_1 : PySem.W.subIn K (.ref C0) (.ref C1) = some false)
    (ne0_1 : ¬ (C0 = C1))
    (s0_2 : PySem.W.subIn K (.ref C0) (.ref C2) = some false)
    (ne0_2 : ¬ (C0 = C2))
    (s0_3 : PySem.W.subIn K (.ref C0) (.ref C3) = some false)
    (ne0_3 : ¬ (C0 = C3))
    (s0_4 : PySem.W.subIn K (.ref C0) (.ref C4) = some false)
    (ne0_4 : ¬ (C0 = C4))
    (s0_5 : PySem.W.subIn K (.ref C0) (.ref C5) = some false)
    (ne0_5 : ¬ (C0 = C5))
    (s0_6 : PySem.W.subIn K (.ref C0) (.ref C6) = some false)
    (ne0_6 : ¬ (C0 = C6))
    (s0_7 : PySem.W.subIn K (.ref C0) (.ref C7) = some false)
    (ne0_7 : ¬ (C0 = C7))
    (s0_8 : PySem.W.subIn K (.ref C0) (.ref C8) = some false)
    (ne0_8 : ¬ (C0 = C8))
    (s1_0 : PySem.W.subIn K (.ref C1) (.ref C0) = some false)
    (ne1_0 : ¬ (C1 = C0))
    (s1_1 : PySem.W.subIn K (.ref C1) (.ref C1) = some true)
    (s1_2 : PySem.W.subIn K (.ref C1) (.ref C2) = some false)
    (ne1_2 : ¬ (C1 = C2))
    (s1_3 : PySem.W.subIn K (.ref C1) (.ref C3) = some false)
    (ne1_3 : ¬ (C1 = C3))
    (s1_4 : PySem.W.subIn K (.ref C1) (.ref C4) = some false)
    (ne1_4 : ¬ (C1 = C4))
    (s1_5 : PySem.W.subIn K (.ref C1) (.ref C5) = some false)
    (ne1_5 : ¬ (C1 = C5))
    (s1_6 : PySem.W.subIn K (.ref C1) (.ref C6) = some false)
    (ne1_6 : ¬ (C1 = C6))
    (s1_7 : PySem.W.subIn K (.ref C1) (.ref C7) = some false)
    (ne1_7 : ¬ (C1 = C7))
    (s1_8 : PySem.W.subIn K (.ref C1) (.ref C8) = some false)
    (ne1_8 : ¬ (C1 = C8))
    (s2_0 : PySem.W.subIn K (.ref C2) (.ref C0) = some false)
    (ne2_0 : ¬ (C2 = C0))
    (s2_1 : PySem.W.subIn K (.ref C2) (.ref C1) = some false)
    (ne2_1 : ¬ (C2 = C1))
    (s2_2 : PySem.W.subIn K (.ref C2) (.ref C2) = some true)
    (s2_3 : PySem.W.subIn K (.ref C2) (.ref C3) = some false)
    (ne2_3 : ¬ (C2 = C3))
    (s2_4 : PySem.W.subIn K (.ref C2) (.ref C4) = some false)
    (ne2_4 : ¬ (C2 = C4))
    (s2_5 : PySem.W.subIn K (.ref C2) (.ref C5) = some false)
    (ne2_5 : ¬ (C2 = C5))
    (s2_6 : PySem.W.subIn K (.ref C2) (.ref C6) = some false)
    (ne2_6 : ¬ (C2 = C6))
    (s2_7 : PySem.W.subIn K (.ref C2) (.ref C7) = some false)
    (ne2_7 : ¬ (C2 = C7))
    (s2_8 : PySem.W.subIn K (.ref C2) (.ref C8) = some false)
    (ne2_8 : ¬ (C2 = C8))
    (s3_0 : PySem.W.subIn K (.ref C3) (.ref C0) = some false)
    (ne3_0 : ¬ (C3 = C0))
    (s3_1 : PySem.W.subIn K (.ref C3) (.ref C1) = some false)
    (ne3_1 : ¬ (C3 = C1))
    (s3_2 : PySem.W.subIn K (.ref C3) (.ref C2) = some false)
    (ne3_2 : ¬ (C3 = C2))
    (s3_3 : PySem.W.subIn K (.ref C3) (.ref C3) = some true)
    (s3_4 : PySem.W.subIn K (.ref C3) (.ref C4) = some false)
    (ne3_4 : ¬ (C3 = C4))
    (s3_5 : PySem.W.subIn K (.ref C3) (.ref C5) = some false)
    (ne3_5 : ¬ (C3 = C5))
    (s3_6 : PySem.W.subIn K (.ref C3) (.ref C6) = some false)
    (ne3_6 : ¬ (C3 = C6))
    (s3_7 : PySem.W.subIn K (.ref C3) (.ref C7) = some false)
    (ne3_7 : ¬ (C3 = C7))
    (s3_8 : PySem.W.subIn K (.ref C3) (.ref C8) = some false)
    (ne3_8 : ¬ (C3 = C8))
    (s4_0 : PySem.W.subIn K (.ref C4) (.ref C0) = some false)
    (ne4_0 : ¬ (C4 = C0))
    (s4_1 : PySem.W.subIn K (.ref C4) (.ref C1) = some false)
    (ne4_1 : ¬ (C4 = C1))
    (s4_2 : PySem.W.subIn K (.ref C4) (.ref C2) = some false)
    (ne4_2 : ¬ (C4 = C2))
    (s4_3 : PySem.W.subIn K (.ref C4) (.ref C3) = some false)
    (ne4_3 : ¬ (C4 = C3))
    (s4_4 : PySem.W.subIn K (.ref C4) (.ref C4) = some true)
    (s4_5 : PySem.W.subIn K (.ref C4) (.ref C5) = some false)
    (ne4_5 : ¬ (C4 = C5))
    (s4_6 : PySem.W.subIn K (.ref C4) (.ref C6) = some false)
    (ne4_6 : ¬ (C4 = C6))
    (s4_7 : PySem.W.subIn K (.ref C4) (.ref C7) = some false)
    (ne4_7 : ¬ (C4 = C7))
    (s4_8 : PySem.W.subIn K (.ref C4) (.ref C8) = some false)
    (ne4_8 : ¬ (C4 = C8))
    (s5_0 : PySem.W.subIn K (.ref C5) (.ref C0) = some false)
    (ne5_0 : ¬ (C5 = C0))
    (s5_1 : PySem.W.subIn K (.ref C5) (.ref C1) = some false)
    (ne5_1 : ¬ (C5 = C1))
    (s5_2 : PySem.W.subIn K (.ref C5) (.ref C2) = some false)
    (ne5_2 : ¬ (C5 = C2))
    (s5_3 : PySem.W.subIn K (.ref C5) (.ref C3) = some false)
    (ne5_3 : ¬ (C5 = C3))
    (s5_4 : PySem.W.subIn K (.ref C5) (.ref C4) = some false)
    (ne5_4 : ¬ (C5 = C4))
    (s5_5 : PySem.W.subIn K (.ref C5) (.ref C5) = some true)
    (s5_6 : PySem.W.subIn K (.ref C5) (.ref C6) = some false)
    (ne5_6 : ¬ (C5 = C6))
    (s5_7 : PySem.W.subIn K (.ref C5) (.ref C7) = some false)
    (ne5_7 : ¬ (C5 = C7))
    (s5_8 : PySem.W.subIn K (.ref C5) (.ref C8) = some false)
    (ne5_8 : ¬ (C5 = C8))
    (s6_0 : PySem.W.subIn K (.ref C6) (.ref C0) = some false)
    (ne6_0 : ¬ (C6 = C0))
    (s6_1 : PySem.W.subIn K (.ref C6) (.ref C1) = some false)
    (ne6_1 : ¬ (C6 = C1))
    (s6_2 : PySem.W.subIn K (.ref C6) (.ref C2) = some false)
    (ne6_2 : ¬ (C6 = C2))
    (s6_3 : PySem.W.subIn K (.ref C6) (.ref C3) = some false)
    (ne6_3 : ¬ (C6 = C3))
    (s6_4 : PySem.W.subIn K (.ref C6) (.ref C4) = some false)
    (ne6_4 : ¬ (C6 = C4))
    (s6_5 : PySem.W.subIn K (.ref C6) (.ref C5) = some false)
    (ne6_5 : ¬ (C6 = C5))
    (s6_6 : PySem.W.subIn K (.ref C6) (.ref C6) = some true)
    (s6_7 : PySem.W.subIn K (.ref C6) (.ref C7) = some false)
    (ne6_7 : ¬ (C6 = C7))
    (s6_8 : PySem.W.subIn K (.ref C6) (.ref C8) = some false)
    (ne6_8 : ¬ (C6 = C8))
    (s7_0 : PySem.W.subIn K (.ref C7) (.ref C0) = some false)
    (ne7_0 : ¬ (C7 = C0))
    (s7_1 : PySem.W.subIn K (.ref C7) (.ref C1) = some false)
    (ne7_1 : ¬ (C7 = C1))
    (s7_2 : PySem.W.subIn K (.ref C7) (.ref C2) = some false)
    (ne7_2 : ¬ (C7 = C2))
    (s7_3 : PySem.W.subIn K (.ref C7) (.ref C3) = some false)
    (ne7_3 : ¬ (C7 = C3))
    (s7_4 : PySem.W.subIn K (.ref C7) (.ref C4) = some false)
    (ne7_4 : ¬ (C7 = C4))
    (s7_5 : PySem.W.subIn K (.ref C7) (.ref C5) = some false)
    (ne7_5 : ¬ (C7 = C5))
    (s7_6 : PySem.W.subIn K (.ref C7) (.ref C6) = some false)
    (ne7_6 : ¬ (C7 = C6))
    (s7_7 : PySem.W.subIn K (.ref C7) (.ref C7) = some true)
    (s7_8 : PySem.W.subIn K (.ref C7) (.ref C8) = some false)
    (ne7_8 : ¬ (C7 = C8))
    (s8_0 : PySem.W.subIn K (.ref C8) (.ref C0) = some false)
    (ne8_0 : ¬ (C8 = C0))
    (s8_1 : PySem.W.subIn K (.ref C8) (.ref C1) = some false)
    (ne8_1 : ¬ (C8 = C1))
    (s8_2 : PySem.W.subIn K (.ref C8) (.ref C2) = some false)
    (ne8_2 : ¬ (C8 = C2))
    (s8_3 : PySem.W.subIn K (.ref C8) (.ref C3) = some false)
    (ne8_3 : ¬ (C8 = C3))
    (s8_4 : PySem.W.subIn K (.ref C8) (.ref C4) = some false)
    (ne8_4 : ¬ (C8 = C4))
    (s8_5 : PySem.W.subIn K (.ref C8) (.ref C5) = some false)
    (ne8_5 : ¬ (C8 = C5))
    (s8_6 : PySem.W.subIn K (.ref C8) (.ref C6) = some false)
    (ne8_6 : ¬ (C8 = C6))
    (s8_7 : PySem.W.subIn K (.ref C8) (.ref C7) = some false)
    (ne8_7 : ¬ (C8 = C7))
    (s8_8 : PySem.W.subIn K (.ref C8) (.ref C8) = some true)
    (aN : PySem.W.nsIn K mainGlobals "NothingToUndo" = some (some (.ref UN)))
    (gaN : PySem.W.findIn K (.ref UN) "__getattribute__" = some (some (.builtin "BaseException.__getattribute__")))
    (ggN : PySem.W.findIn K (.ref UN) "__getattr__" = some (none))
    (haN : PySem.W.findIn K (.ref UN) "__class__" = some (some (.builtin "object.__class__")))
    (moN : PySem.W.mroIn K UN (.type "object") = some true)
    (exN : PySem.W.subIn K (.ref UN) (.type "BaseException") = some true)
    (hdN : PySem.W.hasDictIn K UN = true)
    (isN : PySem.W.isClsIn K UN = true)
    (tyN : PySem.W.typeIn K (.ref UN) = some (.type "type"))
    (veN : PySem.W.subIn K (.ref UN) (.type "ValueError") = some true)
    (sWN : PySem.W.subIn K (.ref UN) (.ref W) = some true)
    (xiN : PySem.W.excIn K UN [.type "ValueError", .type "Exception", .type "BaseException", .type "object"] "ValueError.__new__" = true)
    (kpN : PySem.W.keepIn K (.ref UN) = true)
    (sN_N : PySem.W.subIn K (.ref UN) (.ref UN) = some true)
    (sN_0 : PySem.W.subIn K (.ref UN) (.ref C0) = some false)
    (neN_0 : ¬ (UN = C0))
    (s0_N : PySem.W.subIn K (.ref C0) (.ref UN) = some false)
    (ne0_N : ¬ (C0 = UN))
    (sN_1 : PySem.W.subIn K (.ref UN) (.ref C1) = some false)
    (neN_1 : ¬ (UN = C1))
    (s1_N : PySem.W.subIn K (.ref C1) (.ref UN) = some false)
    (ne1_N : ¬ (C1 = UN))
    (sN_2 : PySem.W.subIn K (.ref UN) (.ref C2) = some false)
    (neN_2 : ¬ (UN = C2))
    (s2_N : PySem.W.subIn K (.ref C2) (.ref UN) = some false)
    (ne2_N : ¬ (C2 = UN))
    (sN_3 : PySem.W.subIn K (.ref UN) (.ref C3) = some false)
    (neN_3 : ¬ (UN = C3))
    (s3_N : PySem.W.subIn K (.ref C3) (.ref UN) = some false)
    (ne3_N : ¬ (C3 = UN))
    (sN_4 : PySem.W.subIn K (.ref UN) (.ref C4) = some false)
    (neN_4 : ¬ (UN = C4))
    (s4_N : PySem.W.subIn K (.ref C4) (.ref UN) = some false)
    (ne4_N : ¬ (C4 = UN))
    (sN_5 : PySem.W.subIn K (.ref UN) (.ref C5) = some false)
    (neN_5 : ¬ (UN = C5))
    (s5_N : PySem.W.subIn K (.ref C5) (.ref UN) = some false)
    (ne5_N : ¬ (C5 = UN))
    (sN_6 : PySem.W.subIn K (.ref UN) (.ref C6) = some false)
    (neN_6 : ¬ (UN = C6))
    (s6_N : PySem.W.subIn K (.ref C6) (.ref UN) = some false)
    (ne6_N : ¬ (C6 = UN))
    (sN_7 : PySem.W.subIn K (.ref UN) (.ref C7) = some false)
    (neN_7 : ¬ (UN = C7))
    (s7_N : PySem.W.subIn K (.ref C7) (.ref UN) = some false)
    (ne7_N : ¬ (C7 = UN))
    (sN_8 : PySem.W.subIn K (.ref UN) (.ref C8) = some false)
    (neN_8 : ¬ (UN = C8))
    (s8_N : PySem.W.subIn K (.ref C8) (.ref UN) = some false)
    (ne8_N : ¬ (C8 = UN))
    : ∃ fd : FuncData, (∀ (s : Shared) (v : Value), K.In s.heap → BindsTo s fd ⟨[v], []⟩ [("_law_script", v)]) ∧ ∀ (w : World) (base : Heap), FnG P w K mg base 5 fa fd ["_law_script"] (spM ⟨K, mg⟩ 1 M_law) := by
  have hfe : f9 = fa := Value.ref.inj (Option.some.inj ((PySem.W.mg_of X G a9).symm.trans hfa))
  subst hfe
  have e0 : ExcC K C0 := ⟨ga0, gg0, ex0, hd0, ha0, spc, tkc, mo0⟩
  have mc0 : mg "InvalidNumber" = some (.ref C0) := PySem.W.mg_of X G aC0
  have o0 : OexC K C0 := ⟨⟨nm0, q0, N0, bs0, _, sn0, sub0, ab0, col0, dd0, x00, x10, x20, x30, x50, xC0, by first | rfl | decide +kernel⟩, sa0, ex0, ty0, kC0⟩
  have id0 : IniDef (prog := P) K "value" C0 I0 _ := ⟨⟨ioc0, ccl0, ccl20, iod0, cdd0, cld0, isl0, ccs0, csl0, _, _, file0, tf0, vs0, _, _, _, ikV0, idc0, ipm0, ict0, ian0, cda0, cc0, _, _, _, _, _, _, _, _, _, _, _, _, rfl, lI0, cI0, lc0, v20, fi0, tops, lcc0, rfl, rfl, ⟨rfl, rfl, rfl, rfl, by decide +kernel, rfl, rfl, rfl⟩, fun _ => rfl, fun _ => rfl, fun _ => rfl, fun _ => rfl, fun _ => rfl⟩⟩
  have i0 : Ini P K mg "value" C0 I0 _ := ⟨id0, .inl rfl, o0, iC0, tI0, su0, ve0, mr0, thc, nov0, PySem.W.mg_none_of X G z0super⟩
  have bi0 : Binds K (PySem.W.ksFn "__init__" "InvalidNumber.__init__" (defArgs (inClass (top 2) 0)) (defBody (inClass (top 2) 0)) (defScope (inClass (top 2) 0)) (.ref T0) ikV0 idc0 ipm0 ian0 (.ref cda0) ict0 cc0) ["self", "value"] [] := fun s us hK hl => match us, hl with | [_, _], _ => .of_defaults rfl (hK _ _ lT0) rfl rfl rfl
  have e1 : ExcC K C1 := ⟨ga1, gg1, ex1, hd1, ha1, spc, tkc, mo1⟩
  have mc1 : mg "InvalidList" = some (.ref C1) := PySem.W.mg_of X G aC1
  have o1 : OexC K C1 := ⟨⟨nm1, q1, N1, bs1, _, sn1, sub1, ab1, col1, dd1, x01, x11, x21, x31, x51, xC1, by first | rfl | decide +kernel⟩, sa1, ex1, ty1, kC1⟩
  have id1 : IniDef (prog := P) K "value" C1 I1 _ := ⟨⟨ioc1, ccl1, ccl21, iod1, cdd1, cld1, isl1, ccs1, csl1, _, _, file1, tf1, vs1, _, _, _, ikV1, idc1, ipm1, ict1, ian1, cda1, cc1, _, _, _, _, _, _, _, _, _, _, _, _, rfl, lI1, cI1, lc1, v21, fi1, tops, lcc1, rfl, rfl, ⟨rfl, rfl, rfl, rfl, by decide +kernel, rfl, rfl, rfl⟩, fun _ => rfl, fun _ => rfl, fun _ => rfl, fun _ => rfl, fun _ => rfl⟩⟩
  have i1 : Ini P K mg "value" C1 I1 _ := ⟨id1, .inl rfl, o1, iC1, tI1, su1, ve1, mr1, thc, nov1, PySem.W.mg_none_of X G z0super⟩
  have bi1 : Binds K (PySem.W.ksFn "__init__" "InvalidList.__init__" (defArgs (inClass (top 3) 0)) (defBody (inClass (top 3) 0)) (defScope (inClass (top 3) 0)) (.ref T1) ikV1 idc1 ipm1 ian1 (.ref cda1) ict1 cc1) ["self", "value"] [] := fun s us hK hl => match us, hl with | [_, _], _ => .of_defaults rfl (hK _ _ lT1) rfl rfl rfl
  have e2 : ExcC K C2 := ⟨ga2, gg2, ex2, hd2, ha2, spc, tkc, mo2⟩
  have mc2 : mg "InvalidItem" = some (.ref C2) := PySem.W.mg_of X G aC2
  have o2 : OexC K C2 := ⟨⟨nm2, q2, N2, bs2, _, sn2, sub2, ab2, col2, dd2, x02, x12, x22, x32, x52, xC2, by first | rfl | decide +kernel⟩, sa2, ex2, ty2, kC2⟩
  have id2 : IniDef (prog := P) K "value" C2 I2 _ := ⟨⟨ioc2, ccl2, ccl22, iod2, cdd2, cld2, isl2, ccs2, csl2, _, _, file2, tf2, vs2, _, _, _, ikV2, idc2, ipm2, ict2, ian2, cda2, cc2, _, _, _, _, _, _, _, _, _, _, _, _, rfl, lI2, cI2, lc2, v22, fi2, tops, lcc2, rfl, rfl, ⟨rfl, rfl, rfl, rfl, by decide +kernel, rfl, rfl, rfl⟩, fun _ => rfl, fun _ => rfl, fun _ => rfl, fun _ => rfl, fun _ => rfl⟩⟩
  have i2 : Ini P K mg "value" C2 I2 _ := ⟨id2, .inl rfl, o2, iC2, tI2, su2, ve2, mr2, thc, nov2, PySem.W.mg_none_of X G z0super⟩
  have bi2 : Binds K (PySem.W.ksFn "__init__" "InvalidItem.__init__" (defArgs (inClass (top 4) 0)) (defBody (inClass (top 4) 0)) (defScope (inClass (top 4) 0)) (.ref T2) ikV2 idc2 ipm2 ian2 (.ref cda2) ict2 cc2) ["self", "value"] [] := fun s us hK hl => match us, hl with | [_, _], _ => .of_defaults rfl (hK _ _ lT2) rfl rfl rfl
  have e3 : ExcC K C3 := ⟨ga3, gg3, ex3, hd3, ha3, spc, tkc, mo3⟩
  have mc3 : mg "InvalidProgram" = some (.ref C3) := PySem.W.mg_of X G aC3
  have o3 : OexC K C3 := ⟨⟨nm3, q3, N3, bs3, _, sn3, sub3, ab3, col3, dd3, x03, x13, x23, x33, x53, xC3, by first | rfl | decide +kernel⟩, sa3, ex3, ty3, kC3⟩
  have id3 : IniDef (prog := P) K "value" C3 I3 _ := ⟨⟨ioc3, ccl3, ccl23, iod3, cdd3, cld3, isl3, ccs3, csl3, _, _, file3, tf3, vs3, _, _, _, ikV3, idc3, ipm3, ict3, ian3, cda3, cc3, _, _, _, _, _, _, _, _, _, _, _, _, rfl, lI3, cI3, lc3, v23, fi3, tops, lcc3, rfl, rfl, ⟨rfl, rfl, rfl, rfl, by decide +kernel, rfl, rfl, rfl⟩, fun _ => rfl, fun _ => rfl, fun _ => rfl, fun _ => rfl, fun _ => rfl⟩⟩
  have i3 : Ini P K mg "value" C3 I3 _ := ⟨id3, .inl rfl, o3, iC3, tI3, su3, ve3, mr3, thc, nov3, PySem.W.mg_none_of X G z0super⟩
  have bi3 : Binds K (PySem.W.ksFn "__init__" "InvalidProgram.__init__" (defArgs (inClass (top 5) 0)) (defBody (inClass (top 5) 0)) (defScope (inClass (top 5) 0)) (.ref T3) ikV3 idc3 ipm3 ian3 (.ref cda3) ict3 cc3) ["self", "value"] [] := fun s us hK hl => match us, hl with | [_, _], _ => .of_defaults rfl (hK _ _ lT3) rfl rfl rfl
  have e4 : ExcC K C4 := ⟨ga4, gg4, ex4, hd4, ha4, spc, tkc, mo4⟩
  have mc4 : mg "InvalidRow" = some (.ref C4) := PySem.W.mg_of X G aC4
  have o4 : OexC K C4 := ⟨⟨nm4, q4, N4, bs4, _, sn4, sub4, ab4, col4, dd4, x04, x14, x24, x34, x54, xC4, by first | rfl | decide +kernel⟩, sa4, ex4, ty4, kC4⟩
  have id4 : IniDef (prog := P) K "value" C4 I4 _ := ⟨⟨ioc4, ccl4, ccl24, iod4, cdd4, cld4, isl4, ccs4, csl4, _, _, file4, tf4, vs4, _, _, _, ikV4, idc4, ipm4, ict4, ian4, cda4, cc4, _, _, _, _, _, _, _, _, _, _, _, _, rfl, lI4, cI4, lc4, v24, fi4, tops, lcc4, rfl, rfl, ⟨rfl, rfl, rfl, rfl, by decide +kernel, rfl, rfl, rfl⟩, fun _ => rfl, fun _ => rfl, fun _ => rfl, fun _ => rfl, fun _ => rfl⟩⟩
  have i4 : Ini P K mg "value" C4 I4 _ := ⟨id4, .inl rfl, o4, iC4, tI4, su4, ve4, mr4, thc, nov4, PySem.W.mg_none_of X G z0super⟩
  have bi4 : Binds K (PySem.W.ksFn "__init__" "InvalidRow.__init__" (defArgs (inClass (top 6) 0)) (defBody (inClass (top 6) 0)) (defScope (inClass (top 6) 0)) (.ref T4) ikV4 idc4 ipm4 ian4 (.ref cda4) ict4 cc4) ["self", "value"] [] := fun s us hK hl => match us, hl with | [_, _], _ => .of_defaults rfl (hK _ _ lT4) rfl rfl rfl
  have e5 : ExcC K C5 := ⟨ga5, gg5, ex5, hd5, ha5, spc, tkc, mo5⟩
  have mc5 : mg "InvalidText" = some (.ref C5) := PySem.W.mg_of X G aC5
  have o5 : OexC K C5 := ⟨⟨nm5, q5, N5, bs5, _, sn5, sub5, ab5, col5, dd5, x05, x15, x25, x35, x55, xC5, by first | rfl | decide +kernel⟩, sa5, ex5, ty5, kC5⟩
  have id5 : IniDef (prog := P) K "value" C5 I5 _ := ⟨⟨ioc5, ccl5, ccl25, iod5, cdd5, cld5, isl5, ccs5, csl5, _, _, file5, tf5, vs5, _, _, _, ikV5, idc5, ipm5, ict5, ian5, cda5, cc5, _, _, _, _, _, _, _, _, _, _, _, _, rfl, lI5, cI5, lc5, v25, fi5, tops, lcc5, rfl, rfl, ⟨rfl, rfl, rfl, rfl, by decide +kernel, rfl, rfl, rfl⟩, fun _ => rfl, fun _ => rfl, fun _ => rfl, fun _ => rfl, fun _ => rfl⟩⟩
  have i5 : Ini P K mg "value" C5 I5 _ := ⟨id5, .inl rfl, o5, iC5, tI5, su5, ve5, mr5, thc, nov5, PySem.W.mg_none_of X G z0super⟩
  have bi5 : Binds K (PySem.W.ksFn "__init__" "InvalidText.__init__" (defArgs (inClass (top 7) 0)) (defBody (inClass (top 7) 0)) (defScope (inClass (top 7) 0)) (.ref T5) ikV5 idc5 ipm5 ian5 (.ref cda5) ict5 cc5) ["self", "value"] [] := fun s us hK hl => match us, hl with | [_, _], _ => .of_defaults rfl (hK _ _ lT5) rfl rfl rfl
  have e6 : ExcC K C6 := ⟨ga6, gg6, ex6, hd6, ha6, spc, tkc, mo6⟩
  have mc6 : mg "InvalidName" = some (.ref C6) := PySem.W.mg_of X G aC6
  have o6 : OexC K C6 := ⟨⟨nm6, q6, N6, bs6, _, sn6, sub6, ab6, col6, dd6, x06, x16, x26, x36, x56, xC6, by first | rfl | decide +kernel⟩, sa6, ex6, ty6, kC6⟩
  have id6 : IniDef (prog := P) K "name" C6 I6 _ := ⟨⟨ioc6, ccl6, ccl26, iod6, cdd6, cld6, isl6, ccs6, csl6, _, _, file6, tf6, vs6, _, _, _, ikV6, idc6, ipm6, ict6, ian6, cda6, cc6, _, _, _, _, _, _, _, _, _, _, _, _, rfl, lI6, cI6, lc6, v26, fi6, tops, lcc6, rfl, rfl, ⟨rfl, rfl, rfl, rfl, by decide +kernel, rfl, rfl, rfl⟩, fun _ => rfl, fun _ => rfl, fun _ => rfl, fun _ => rfl, fun _ => rfl⟩⟩
  have i6 : Ini P K mg "name" C6 I6 _ := ⟨id6, .inr rfl, o6, iC6, tI6, su6, ve6, mr6, thc, non6, PySem.W.mg_none_of X G z0super⟩
  have bi6 : Binds K (PySem.W.ksFn "__init__" "InvalidName.__init__" (defArgs (inClass (top 8) 0)) (defBody (inClass (top 8) 0)) (defScope (inClass (top 8) 0)) (.ref T6) ikV6 idc6 ipm6 ian6 (.ref cda6) ict6 cc6) ["self", "name"] [] := fun s us hK hl => match us, hl with | [_, _], _ => .of_defaults rfl (hK _ _ lT6) rfl rfl rfl
  have e7 : ExcC K C7 := ⟨ga7, gg7, ex7, hd7, ha7, spc, tkc, mo7⟩
  have mc7 : mg "TakenName" = some (.ref C7) := PySem.W.mg_of X G aC7
  have o7 : OexC K C7 := ⟨⟨nm7, q7, N7, bs7, _, sn7, sub7, ab7, col7, dd7, x07, x17, x27, x37, x57, xC7, by first | rfl | decide +kernel⟩, sa7, ex7, ty7, kC7⟩
  have id7 : IniDef (prog := P) K "name" C7 I7 _ := ⟨⟨ioc7, ccl7, ccl27, iod7, cdd7, cld7, isl7, ccs7, csl7, _, _, file7, tf7, vs7, _, _, _, ikV7, idc7, ipm7, ict7, ian7, cda7, cc7, _, _, _, _, _, _, _, _, _, _, _, _, rfl, lI7, cI7, lc7, v27, fi7, tops, lcc7, rfl, rfl, ⟨rfl, rfl, rfl, rfl, by decide +kernel, rfl, rfl, rfl⟩, fun _ => rfl, fun _ => rfl, fun _ => rfl, fun _ => rfl, fun _ => rfl⟩⟩
  have i7 : Ini P K mg "name" C7 I7 _ := ⟨id7, .inr rfl, o7, iC7, tI7, su7, ve7, mr7, thc, non7, PySem.W.mg_none_of X G z0super⟩
  have bi7 : Binds K (PySem.W.ksFn "__init__" "TakenName.__init__" (defArgs (inClass (top 9) 0)) (defBody (inClass (top 9) 0)) (defScope (inClass (top 9) 0)) (.ref T7) ikV7 idc7 ipm7 ian7 (.ref cda7) ict7 cc7) ["self", "name"] [] := fun s us hK hl => match us, hl with | [_, _], _ => .of_defaults rfl (hK _ _ lT7) rfl rfl rfl
  have e8 : ExcC K C8 := ⟨ga8, gg8, ex8, hd8, ha8, spc, tkc, mo8⟩
  have mc8 : mg "UnknownName" = some (.ref C8) := PySem.W.mg_of X G aC8
  have o8 : OexC K C8 := ⟨⟨nm8, q8, N8, bs8, _, sn8, sub8, ab8, col8, dd8, x08, x18, x28, x38, x58, xC8, by first | rfl | decide +kernel⟩, sa8, ex8, ty8, kC8⟩
  have id8 : IniDef (prog := P) K "name" C8 I8 _ := ⟨⟨ioc8, ccl8, ccl28, iod8, cdd8, cld8, isl8, ccs8, csl8, _, _, file8, tf8, vs8, _, _, _, ikV8, idc8, ipm8, ict8, ian8, cda8, cc8, _, _, _, _, _, _, _, _, _, _, _, _, rfl, lI8, cI8, lc8, v28, fi8, tops, lcc8, rfl, rfl, ⟨rfl, rfl, rfl, rfl, by decide +kernel, rfl, rfl, rfl⟩, fun _ => rfl, fun _ => rfl, fun _ => rfl, fun _ => rfl, fun _ => rfl⟩⟩
  have i8 : Ini P K mg "name" C8 I8 _ := ⟨id8, .inr rfl, o8, iC8, tI8, su8, ve8, mr8, thc, non8, PySem.W.mg_none_of X G z0super⟩
  have bi8 : Binds K (PySem.W.ksFn "__init__" "UnknownName.__init__" (defArgs (inClass (top 10) 0)) (defBody (inClass (top 10) 0)) (defScope (inClass (top 10) 0)) (.ref T8) ikV8 idc8 ipm8 ian8 (.ref cda8) ict8 cc8) ["self", "name"] [] := fun s us hK hl => match us, hl with | [_, _], _ => .of_defaults rfl (hK _ _ lT8) rfl rfl rfl
  have bk0 : ∀ (s2 : Shared), K.In s2.heap → ∀ me u, BindsTo s2 (PySem.W.ksFn "__init__" "InvalidNumber.__init__" (defArgs (inClass (top 2) 0)) (defBody (inClass (top 2) 0)) (defScope (inClass (top 2) 0)) (.ref T0) ikV0 idc0 ipm0 ian0 (.ref cda0) ict0 cc0) ⟨[me], [("value", u)]⟩ [(("self" : Str), me), ("value", u)] := fun s2 hK me u => .of_defaults rfl (hK _ _ lT0) rfl rfl rfl
  have b00 : Binds K (PySem.W.ksFn "__init__" "InvalidNumber.__init__" (defArgs (inClass (top 2) 0)) (defBody (inClass (top 2) 0)) (defScope (inClass (top 2) 0)) (.ref T0) ikV0 idc0 ipm0 ian0 (.ref cda0) ict0 cc0) ["self", "value"] [.none] := fun s us hK hl => match us, (show us.length = 1 by rw [List.length_append] at hl; simpa using hl) with | [_], _ => .of_defaults rfl (hK _ _ lT0) rfl rfl rfl
  have bk1 : ∀ (s2 : Shared), K.In s2.heap → ∀ me u, BindsTo s2 (PySem.W.ksFn "__init__" "InvalidList.__init__" (defArgs (inClass (top 3) 0)) (defBody (inClass (top 3) 0)) (defScope (inClass (top 3) 0)) (.ref T1) ikV1 idc1 ipm1 ian1 (.ref cda1) ict1 cc1) ⟨[me], [("value", u)]⟩ [(("self" : Str), me), ("value", u)] := fun s2 hK me u => .of_defaults rfl (hK _ _ lT1) rfl rfl rfl
  have b01 : Binds K (PySem.W.ksFn "__init__" "InvalidList.__init__" (defArgs (inClass (top 3) 0)) (defBody (inClass (top 3) 0)) (defScope (inClass (top 3) 0)) (.ref T1) ikV1 idc1 ipm1 ian1 (.ref cda1) ict1 cc1) ["self", "value"] [.none] := fun s us hK hl => match us, (show us.length = 1 by rw [List.length_append] at hl; simpa using hl) with | [_], _ => .of_defaults rfl (hK _ _ lT1) rfl rfl rfl
  have bk2 : ∀ (s2 : Shared), K.In s2.heap → ∀ me u, BindsTo s2 (PySem.W.ksFn "__init__" "InvalidItem.__init__" (defArgs (inClass (top 4) 0)) (defBody (inClass (top 4) 0)) (defScope (inClass (top 4) 0)) (.ref T2) ikV2 idc2 ipm2 ian2 (.ref cda2) ict2 cc2) ⟨[me], [("value", u)]⟩ [(("self" : Str), me), ("value", u)] := fun s2 hK me u => .of_defaults rfl (hK _ _ lT2) rfl rfl rfl
  have b02 : Binds K (PySem.W.ksFn "__init__" "InvalidItem.__init__" (defArgs (inClass (top 4) 0)) (defBody (inClass (top 4) 0)) (defScope (inClass (top 4) 0)) (.ref T2) ikV2 idc2 ipm2 ian2 (.ref cda2) ict2 cc2) ["self", "value"] [.none] := fun s us hK hl => match us, (show us.length = 1 by rw [List.length_append] at hl; simpa using hl) with | [_], _ => .of_defaults rfl (hK _ _ lT2) rfl rfl rfl
  have bk3 : ∀ (s2 : Shared), K.In s2.heap → ∀ me u, BindsTo s2 (PySem.W.ksFn "__init__" "InvalidProgram.__init__" (defArgs (inClass (top 5) 0)) (defBody (inClass (top 5) 0)) (defScope (inClass (top 5) 0)) (.ref T3) ikV3 idc3 ipm3 ian3 (.ref cda3) ict3 cc3) ⟨[me], [("value", u)]⟩ [(("self" : Str), me), ("value", u)] := fun s2 hK me u => .of_defaults rfl (hK _ _ lT3) rfl rfl rfl
  have b03 : Binds K (PySem.W.ksFn "__init__" "InvalidProgram.__init__" (defArgs (inClass (top 5) 0)) (defBody (inClass (top 5) 0)) (defScope (inClass (top 5) 0)) (.ref T3) ikV3 idc3 ipm3 ian3 (.ref cda3) ict3 cc3) ["self", "value"] [.none] := fun s us hK hl => match us, (show us.length = 1 by rw [List.length_append] at hl; simpa using hl) with | [_], _ => .of_defaults rfl (hK _ _ lT3) rfl rfl rfl
  have bk4 : ∀ (s2 : Shared), K.In s2.heap → ∀ me u, BindsTo s2 (PySem.W.ksFn "__init__" "InvalidRow.__init__" (defArgs (inClass (top 6) 0)) (defBody (inClass (top 6) 0)) (defScope (inClass (top 6) 0)) (.ref T4) ikV4 idc4 ipm4 ian4 (.ref cda4) ict4 cc4) ⟨[me], [("value", u)]⟩ [(("self" : Str), me), ("value", u)] := fun s2 hK me u => .of_defaults rfl (hK _ _ lT4) rfl rfl rfl
  have b04 : Binds K (PySem.W.ksFn "__init__" "InvalidRow.__init__" (defArgs (inClass (top 6) 0)) (defBody (inClass (top 6) 0)) (defScope (inClass (top 6) 0)) (.ref T4) ikV4 idc4 ipm4 ian4 (.ref cda4) ict4 cc4) ["self", "value"] [.none] := fun s us hK hl => match us, (show us.length = 1 by rw [List.length_append] at hl; simpa using hl) with | [_], _ => .of_defaults rfl (hK _ _ lT4) rfl rfl rfl
  have bk5 : ∀ (s2 : Shared), K.In s2.heap → ∀ me u, BindsTo s2 (PySem.W.ksFn "__init__" "InvalidText.__init__" (defArgs (inClass (top 7) 0)) (defBody (inClass (top 7) 0)) (defScope (inClass (top 7) 0)) (.ref T5) ikV5 idc5 ipm5 ian5 (.ref cda5) ict5 cc5) ⟨[me], [("value", u)]⟩ [(("self" : Str), me), ("value", u)] := fun s2 hK me u => .of_defaults rfl (hK _ _ lT5) rfl rfl rfl
  have b05 : Binds K (PySem.W.ksFn "__init__" "InvalidText.__init__" (defArgs (inClass (top 7) 0)) (defBody (inClass (top 7) 0)) (defScope (inClass (top 7) 0)) (.ref T5) ikV5 idc5 ipm5 ian5 (.ref cda5) ict5 cc5) ["self", "value"] [.none] := fun s us hK hl => match us, (show us.length = 1 by rw [List.length_append] at hl; simpa using hl) with | [_], _ => .of_defaults rfl (hK _ _ lT5) rfl rfl rfl
  have bk6 : ∀ (s2 : Shared), K.In s2.heap → ∀ me u, BindsTo s2 (PySem.W.ksFn "__init__" "InvalidName.__init__" (defArgs (inClass (top 8) 0)) (defBody (inClass (top 8) 0)) (defScope (inClass (top 8) 0)) (.ref T6) ikV6 idc6 ipm6 ian6 (.ref cda6) ict6 cc6) ⟨[me], [("name", u)]⟩ [(("self" : Str), me), ("name", u)] := fun s2 hK me u => .of_defaults rfl (hK _ _ lT6) rfl rfl rfl
  have b06 : Binds K (PySem.W.ksFn "__init__" "InvalidName.__init__" (defArgs (inClass (top 8) 0)) (defBody (inClass (top 8) 0)) (defScope (inClass (top 8) 0)) (.ref T6) ikV6 idc6 ipm6 ian6 (.ref cda6) ict6 cc6) ["self", "name"] [.none] := fun s us hK hl => match us, (show us.length = 1 by rw [List.length_append] at hl; simpa using hl) with | [_], _ => .of_defaults rfl (hK _ _ lT6) rfl rfl rfl
  have bk7 : ∀ (s2 : Shared), K.In s2.heap → ∀ me u, BindsTo s2 (PySem.W.ksFn "__init__" "TakenName.__init__" (defArgs (inClass (top 9) 0)) (defBody (inClass (top 9) 0)) (defScope (inClass (top 9) 0)) (.ref T7) ikV7 idc7 ipm7 ian7 (.ref cda7) ict7 cc7) ⟨[me], [("name", u)]⟩ [(("self" : Str), me), ("name", u)] := fun s2 hK me u => .of_defaults rfl (hK _ _ lT7) rfl rfl rfl
  have b07 : Binds K (PySem.W.ksFn "__init__" "TakenName.__init__" (defArgs (inClass (top 9) 0)) (defBody (inClass (top 9) 0)) (defScope (inClass (top 9) 0)) (.ref T7) ikV7 idc7 ipm7 ian7 (.ref cda7) ict7 cc7) ["self", "name"] [.none] := fun s us hK hl => match us, (show us.length = 1 by rw [List.length_append] at hl; simpa using hl) with | [_], _ => .of_defaults rfl (hK _ _ lT7) rfl rfl rfl
  have bk8 : ∀ (s2 : Shared), K.In s2.heap → ∀ me u, BindsTo s2 (PySem.W.ksFn "__init__" "UnknownName.__init__" (defArgs (inClass (top 10) 0)) (defBody (inClass (top 10) 0)) (defScope (inClass (top 10) 0)) (.ref T8) ikV8 idc8 ipm8 ian8 (.ref cda8) ict8 cc8) ⟨[me], [("name", u)]⟩ [(("self" : Str), me), ("name", u)] := fun s2 hK me u => .of_defaults rfl (hK _ _ lT8) rfl rfl rfl
  have b08 : Binds K (PySem.W.ksFn "__init__" "UnknownName.__init__" (defArgs (inClass (top 10) 0)) (defBody (inClass (top 10) 0)) (defScope (inClass (top 10) 0)) (.ref T8) ikV8 idc8 ipm8 ian8 (.ref cda8) ict8 cc8) ["self", "name"] [.none] := fun s us hK hl => match us, (show us.length = 1 by rw [List.length_append] at hl; simpa using hl) with | [_], _ => .of_defaults rfl (hK _ _ lT8) rfl rfl rfl
  have eN : ExcC K UN := ⟨gaN, ggN, exN, hdN, haN, spc, tkc, moN⟩
  have mcN : mg "NothingToUndo" = some (.ref UN) := PySem.W.mg_of X G aN
  have eq0 : ∀ c, c ∈ ES10 → ∀ C, mg c = some (.ref C) → ExcC K C ∧ PySem.W.kitOne K (.ref C) (.ref C0) = some (decide (c = "InvalidNumber")) := by
    intro c hc C hC
    simp only [ES10, List.mem_cons, List.not_mem_nil, or_false] at hc
    rcases hc with rfl | rfl | rfl | rfl | rfl | rfl | rfl | rfl | rfl | rfl
    · cases mc0.symm.trans hC
      rw [show decide (("InvalidNumber" : Str) = "InvalidNumber") = true by decide +kernel]
      exact ⟨e0, kit_own is0 ty0 s0_0 (fun _ => rfl)⟩
    · cases mc1.symm.trans hC
      rw [show decide (("InvalidList" : Str) = "InvalidNumber") = false by decide +kernel]
      exact ⟨e1, kit_own is0 ty0 s1_0 (fun z => absurd z ne1_0)⟩
    · cases mc2.symm.trans hC
      rw [show decide (("InvalidItem" : Str) = "InvalidNumber") = false by decide +kernel]
      exact ⟨e2, kit_own is0 ty0 s2_0 (fun z => absurd z ne2_0)⟩
    · cases mc3.symm.trans hC
      rw [show decide (("InvalidProgram" : Str) = "InvalidNumber") = false by decide +kernel]
      exact ⟨e3, kit_own is0 ty0 s3_0 (fun z => absurd z ne3_0)⟩
    · cases mc4.symm.trans hC
      rw [show decide (("InvalidRow" : Str) = "InvalidNumber") = false by decide +kernel]
      exact ⟨e4, kit_own is0 ty0 s4_0 (fun z => absurd z ne4_0)⟩
    · cases mc5.symm.trans hC
      rw [show decide (("InvalidText" : Str) = "InvalidNumber") = false by decide +kernel]
      exact ⟨e5, kit_own is0 ty0 s5_0 (fun z => absurd z ne5_0)⟩
    · cases mc6.symm.trans hC
      rw [show decide (("InvalidName" : Str) = "InvalidNumber") = false by decide +kernel]
      exact ⟨e6, kit_own is0 ty0 s6_0 (fun z => absurd z ne6_0)⟩
    · cases mc7.symm.trans hC
      rw [show decide (("TakenName" : Str) = "InvalidNumber") = false by decide +kernel]
      exact ⟨e7, kit_own is0 ty0 s7_0 (fun z => absurd z ne7_0)⟩
    · cases mc8.symm.trans hC
      rw [show decide (("UnknownName" : Str) = "InvalidNumber") = false by decide +kernel]
      exact ⟨e8, kit_own is0 ty0 s8_0 (fun z => absurd z ne8_0)⟩
    · cases mcN.symm.trans hC
      rw [show decide (("NothingToUndo" : Str) = "InvalidNumber") = false by decide +kernel]
      exact ⟨eN, kit_own is0 ty0 sN_0 (fun z => absurd z neN_0)⟩
  have eq1 : ∀ c, c ∈ ES10 → ∀ C, mg c = some (.ref C) → ExcC K C ∧ PySem.W.kitOne K (.ref C) (.ref C1) = some (decide (c = "InvalidList")) := by
    intro c hc C hC
    simp only [ES10, List.mem_cons, List.not_mem_nil, or_false] at hc
    rcases hc with rfl | rfl | rfl | rfl | rfl | rfl | rfl | rfl | rfl | rfl
    · cases mc0.symm.trans hC
      rw [show decide (("InvalidNumber" : Str) = "InvalidList") = false by decide +kernel]
      exact ⟨e0, kit_own is1 ty1 s0_1 (fun z => absurd z ne0_1)⟩
    · cases mc1.symm.trans hC
      rw [show decide (("InvalidList" : Str) = "InvalidList") = true by decide +kernel]
      exact ⟨e1, kit_own is1 ty1 s1_1 (fun _ => rfl)⟩
    · cases mc2.symm.trans hC
      rw [show decide (("InvalidItem" : Str) = "InvalidList") = false by decide +kernel]
      exact ⟨e2, kit_own is1 ty1 s2_1 (fun z => absurd z ne2_1)⟩
    · cases mc3.symm.trans hC
      rw [show decide (("InvalidProgram" : Str) = "InvalidList") = false by decide +kernel]
      exact ⟨e3, kit_own is1 ty1 s3_1 (fun z => absurd z ne3_1)⟩
    · cases mc4.symm.trans hC
      rw [show decide (("InvalidRow" : Str) = "InvalidList") = false by decide +kernel]
      exact ⟨e4, kit_own is1 ty1 s4_1 (fun z => absurd z ne4_1)⟩
    · cases mc5.symm.trans hC
      rw [show decide (("InvalidText" : Str) = "InvalidList") = false by decide +kernel]
      exact ⟨e5, kit_own is1 ty1 s5_1 (fun z => absurd z ne5_1)⟩
    · cases mc6.symm.trans hC
      rw [show decide (("InvalidName" : Str) = "InvalidList") = false by decide +kernel]
      exact ⟨e6, kit_own is1 ty1 s6_1 (fun z => absurd z ne6_1)⟩
    · cases mc7.symm.trans hC
      rw [show decide (("TakenName" : Str) = "InvalidList") = false by decide +kernel]
      exact ⟨e7, kit_own is1 ty1 s7_1 (fun z => absurd z ne7_1)⟩
    · cases mc8.symm.trans hC
      rw [show decide (("UnknownName" : Str) = "InvalidList") = false by decide +kernel]
      exact ⟨e8, kit_own is1 ty1 s8_1 (fun z => absurd z ne8_1)⟩
    · cases mcN.symm.trans hC
      rw [show decide (("NothingToUndo" : Str) = "InvalidList") = false by decide +kernel]
      exact ⟨eN, kit_own is1 ty1 sN_1 (fun z => absurd z neN_1)⟩
  have eq2 : ∀ c, c ∈ ES10 → ∀ C, mg c = some (.ref C) → ExcC K C ∧ PySem.W.kitOne K (.ref C) (.ref C2) = some (decide (c = "InvalidItem")) := by
    intro c hc C hC
    simp only [ES10, List.mem_cons, List.not_mem_nil, or_false] at hc
    rcases hc with rfl | rfl | rfl | rfl | rfl | rfl | rfl | rfl | rfl | rfl
    · cases mc0.symm.trans hC
      rw [show decide (("InvalidNumber" : Str) = "InvalidItem") = false by decide +kernel]
      exact ⟨e0, kit_own is2 ty2 s0_2 (fun z => absurd z ne0_2)⟩
    · cases mc1.symm.trans hC
      rw [show decide (("InvalidList" : Str) = "InvalidItem") = false by decide +kernel]
      exact ⟨e1, kit_own is2 ty2 s1_2 (fun z => absurd z ne1_2)⟩
    · cases mc2.symm.trans hC
      rw [show decide (("InvalidItem" : Str) = "InvalidItem") = true by decide +kernel]
      exact ⟨e2, kit_own is2 ty2 s2_2 (fun _ => rfl)⟩
    · cases mc3.symm.trans hC
      rw [show decide (("InvalidProgram" : Str) = "InvalidItem") = false by decide +kernel]
      exact ⟨e3, kit_own is2 ty2 s3_2 (fun z => absurd z ne3_2)⟩
    · cases mc4.symm.trans hC
      rw [show decide (("InvalidRow" : Str) = "InvalidItem") = false by decide +kernel]
      exact ⟨e4, kit_own is2 ty2 s4_2 (fun z => absurd z ne4_2)⟩
    · cases mc5.symm.trans hC
      rw [show decide (("InvalidText" : Str) = "InvalidItem") = false by decide +kernel]
      exact ⟨e5, kit_own is2 ty2 s5_2 (fun z => absurd z ne5_2)⟩
    · cases mc6.symm.trans hC
      rw [show decide (("InvalidName" : Str) = "InvalidItem") = false by decide +kernel]
      exact ⟨e6, kit_own is2 ty2 s6_2 (fun z => absurd z ne6_2)⟩
    · cases mc7.symm.trans hC
      rw [show decide (("TakenName" : Str) = "InvalidItem") = false by decide +kernel]
      exact ⟨e7, kit_own is2 ty2 s7_2 (fun z => absurd z ne7_2)⟩
    · cases mc8.symm.trans hC
      rw [show decide (("UnknownName" : Str) = "InvalidItem") = false by decide +kernel]
      exact ⟨e8, kit_own is2 ty2 s8_2 (fun z => absurd z ne8_2)⟩
    · cases mcN.symm.trans hC
      rw [show decide (("NothingToUndo" : Str) = "InvalidItem") = false by decide +kernel]
      exact ⟨eN, kit_own is2 ty2 sN_2 (fun z => absurd z neN_2)⟩
  have eq3 : ∀ c, c ∈ ES10 → ∀ C, mg c = some (.ref C) → ExcC K C ∧ PySem.W.kitOne K (.ref C) (.ref C3) = some (decide (c = "InvalidProgram")) := by
    intro c hc C hC
    simp only [ES10, List.mem_cons, List.not_mem_nil, or_false] at hc
    rcases hc with rfl | rfl | rfl | rfl | rfl | rfl | rfl | rfl | rfl | rfl
    · cases mc0.symm.trans hC
      rw [show decide (("InvalidNumber" : Str) = "InvalidProgram") = false by decide +kernel]
      exact ⟨e0, kit_own is3 ty3 s0_3 (fun z => absurd z ne0_3)⟩
    · cases mc1.symm.trans hC
      rw [show decide (("InvalidList" : Str) = "InvalidProgram") = false by decide +kernel]
      exact ⟨e1, kit_own is3 ty3 s1_3 (fun z => absurd z ne1_3)⟩
    · cases mc2.symm.trans hC
      rw [show decide (("InvalidItem" : Str) = "InvalidProgram") = false by decide +kernel]
      exact ⟨e2, kit_own is3 ty3 s2_3 (fun z => absurd z ne2_3)⟩
    · cases mc3.symm.trans hC
      rw [show decide (("InvalidProgram" : Str) = "InvalidProgram") = true by decide +kernel]
      exact ⟨e3, kit_own is3 ty3 s3_3 (fun _ => rfl)⟩
    · cases mc4.symm.trans hC
      rw [show decide (("InvalidRow" : Str) = "InvalidProgram") = false by decide +kernel]
      exact ⟨e4, kit_own is3 ty3 s4_3 (fun z => absurd z ne4_3)⟩
    · cases mc5.symm.trans hC
      rw [show decide (("InvalidText" : Str) = "InvalidProgram") = false by decide +kernel]
      exact ⟨e5, kit_own is3 ty3 s5_3 (fun z => absurd z ne5_3)⟩
    · cases mc6.symm.trans hC
      rw [show decide (("InvalidName" : Str) = "InvalidProgram") = false by decide +kernel]
      exact ⟨e6, kit_own is3 ty3 s6_3 (fun z => absurd z ne6_3)⟩
    · cases mc7.symm.trans hC
      rw [show decide (("TakenName" : Str) = "InvalidProgram") = false by decide +kernel]
      exact ⟨e7, kit_own is3 ty3 s7_3 (fun z => absurd z ne7_3)⟩
    · cases mc8.symm.trans hC
      rw [show decide (("UnknownName" : Str) = "InvalidProgram") = false by decide +kernel]
      exact ⟨e8, kit_own is3 ty3 s8_3 (fun z => absurd z ne8_3)⟩
    · cases mcN.symm.trans hC
      rw [show decide (("NothingToUndo" : Str) = "InvalidProgram") = false by decide +kernel]
      exact ⟨eN, kit_own is3 ty3 sN_3 (fun z => absurd z neN_3)⟩
  have eq4 : ∀ c, c ∈ ES10 → ∀ C, mg c = some (.ref C) → ExcC K C ∧ PySem.W.kitOne K (.ref C) (.ref C4) = some (decide (c = "InvalidRow")) := by
    intro c hc C hC
    simp only [ES10, List.mem_cons, List.not_mem_nil, or_false] at hc
    rcases hc with rfl | rfl | rfl | rfl | rfl | rfl | rfl | rfl | rfl | rfl
    · cases mc0.symm.trans hC
      rw [show decide (("InvalidNumber" : Str) = "InvalidRow") = false by decide +kernel]
      exact ⟨e0, kit_own is4 ty4 s0_4 (fun z => absurd z ne0_4)⟩
    · cases mc1.symm.trans hC
      rw [show decide (("InvalidList" : Str) = "InvalidRow") = false by decide +kernel]
      exact ⟨e1, kit_own is4 ty4 s1_4 (fun z => absurd z ne1_4)⟩
    · cases mc2.symm.trans hC
      rw [show decide (("InvalidItem" : Str) = "InvalidRow") = false by decide +kernel]
      exact ⟨e2, kit_own is4 ty4 s2_4 (fun z => absurd z ne2_4)⟩
    · cases mc3.symm.trans hC
      rw [show decide (("InvalidProgram" : Str) = "InvalidRow") = false by decide +kernel]
      exact ⟨e3, kit_own is4 ty4 s3_4 (fun z => absurd z ne3_4)⟩
    · cases mc4.symm.trans hC
      rw [show decide (("InvalidRow" : Str) = "InvalidRow") = true by decide +kernel]
      exact ⟨e4, kit_own is4 ty4 s4_4 (fun _ => rfl)⟩
    · cases mc5.symm.trans hC
      rw [show decide (("InvalidText" : Str) = "InvalidRow") = false by decide +kernel]
      exact ⟨e5, kit_own is4 ty4 s5_4 (fun z => absurd z ne5_4)⟩
    · cases mc6.symm.trans hC
      rw [show decide (("InvalidName" : Str) = "InvalidRow") = false by decide +kernel]
      exact ⟨e6, kit_own is4 ty4 s6_4 (fun z => absurd z ne6_4)⟩
    · cases mc7.symm.trans hC
      rw [show decide (("TakenName" : Str) = "InvalidRow") = false by decide +kernel]
      exact ⟨e7, kit_own is4 ty4 s7_4 (fun z => absurd z ne7_4)⟩
    · cases mc8.symm.trans hC
      rw [show decide (("UnknownName" : Str) = "InvalidRow") = false by decide +kernel]
      exact ⟨e8, kit_own is4 ty4 s8_4 (fun z => absurd z ne8_4)⟩
    · cases mcN.symm.trans hC
      rw [show decide (("NothingToUndo" : Str) = "InvalidRow") = false by decide +kernel]
      exact ⟨eN, kit_own is4 ty4 sN_4 (fun z => absurd z neN_4)⟩
  have eq5 : ∀ c, c ∈ ES10 → ∀ C, mg c = some (.ref C) → ExcC K C ∧ PySem.W.kitOne K (.ref C) (.ref C5) = some (decide (c = "InvalidText")) := by
    intro c hc C hC
    simp only [ES10, List.mem_cons, List.not_mem_nil, or_false] at hc
    rcases hc with rfl | rfl | rfl | rfl | rfl | rfl | rfl | rfl | rfl | rfl
    · cases mc0.symm.trans hC
      rw [show decide (("InvalidNumber" : Str) = "InvalidText") = false by decide +kernel]
      exact ⟨e0, kit_own is5 ty5 s0_5 (fun z => absurd z ne0_5)⟩
    · cases mc1.symm.trans hC
      rw [show decide (("InvalidList" : Str) = "InvalidText") = false by decide +kernel]
      exact ⟨e1, kit_own is5 ty5 s1_5 (fun z => absurd z ne1_5)⟩
    · cases mc2.symm.trans hC
      rw [show decide (("InvalidItem" : Str) = "InvalidText") = false by decide +kernel]
      exact ⟨e2, kit_own is5 ty5 s2_5 (fun z => absurd z ne2_5)⟩
    · cases mc3.symm.trans hC
      rw [show decide (("InvalidProgram" : Str) = "InvalidText") = false by decide +kernel]
      exact ⟨e3, kit_own is5 ty5 s3_5 (fun z => absurd z ne3_5)⟩
    · cases mc4.symm.trans hC
      rw [show decide (("InvalidRow" : Str) = "InvalidText") = false by decide +kernel]
      exact ⟨e4, kit_own is5 ty5 s4_5 (fun z => absurd z ne4_5)⟩
    · cases mc5.symm.trans hC
      rw [show decide (("InvalidText" : Str) = "InvalidText") = true by decide +kernel]
      exact ⟨e5, kit_own is5 ty5 s5_5 (fun _ => rfl)⟩
    · cases mc6.symm.trans hC
      rw [show decide (("InvalidName" : Str) = "InvalidText") = false by decide +kernel]
      exact ⟨e6, kit_own is5 ty5 s6_5 (fun z => absurd z ne6_5)⟩
    · cases mc7.symm.trans hC
      rw [show decide (("TakenName" : Str) = "InvalidText") = false by decide +kernel]
      exact ⟨e7, kit_own is5 ty5 s7_5 (fun z => absurd z ne7_5)⟩
    · cases mc8.symm.trans hC
      rw [show decide (("UnknownName" : Str) = "InvalidText") = false by decide +kernel]
      exact ⟨e8, kit_own is5 ty5 s8_5 (fun z => absurd z ne8_5)⟩
    · cases mcN.symm.trans hC
      rw [show decide (("NothingToUndo" : Str) = "InvalidText") = false by decide +kernel]
      exact ⟨eN, kit_own is5 ty5 sN_5 (fun z => absurd z neN_5)⟩
  have eq6 : ∀ c, c ∈ ES10 → ∀ C, mg c = some (.ref C) → ExcC K C ∧ PySem.W.kitOne K (.ref C) (.ref C6) = some (decide (c = "InvalidName")) := by
    intro c hc C hC
    simp only [ES10, List.mem_cons, List.not_mem_nil, or_false] at hc
    rcases hc with rfl | rfl | rfl | rfl | rfl | rfl | rfl | rfl | rfl | rfl
    · cases mc0.symm.trans hC
      rw [show decide (("InvalidNumber" : Str) = "InvalidName") = false by decide +kernel]
      exact ⟨e0, kit_own is6 ty6 s0_6 (fun z => absurd z ne0_6)⟩
    · cases mc1.symm.trans hC
      rw [show decide (("InvalidList" : Str) = "InvalidName") = false by decide +kernel]
      exact ⟨e1, kit_own is6 ty6 s1_6 (fun z => absurd z ne1_6)⟩
    · cases mc2.symm.trans hC
      rw [show decide (("InvalidItem" : Str) = "InvalidName") = false by decide +kernel]
      exact ⟨e2, kit_own is6 ty6 s2_6 (fun z => absurd z ne2_6)⟩
    · cases mc3.symm.trans hC
      rw [show decide (("InvalidProgram" : Str) = "InvalidName") = false by decide +kernel]
      exact ⟨e3, kit_own is6 ty6 s3_6 (fun z => absurd z ne3_6)⟩
    · cases mc4.symm.trans hC
      rw [show decide (("InvalidRow" : Str) = "InvalidName") = false by decide +kernel]
      exact ⟨e4, kit_own is6 ty6 s4_6 (fun z => absurd z ne4_6)⟩
    · cases mc5.symm.trans hC
      rw [show decide (("InvalidText" : Str) = "InvalidName") = false by decide +kernel]
      exact ⟨e5, kit_own is6 ty6 s5_6 (fun z => absurd z ne5_6)⟩
    · cases mc6.symm.trans hC
      rw [show decide (("InvalidName" : Str) = "InvalidName") = true by decide +kernel]
      exact ⟨e6, kit_own is6 ty6 s6_6 (fun _ => rfl)⟩
    · cases mc7.symm.trans hC
      rw [show decide (("TakenName" : Str) = "InvalidName") = false by decide +kernel]
      exact ⟨e7, kit_own is6 ty6 s7_6 (fun z => absurd z ne7_6)⟩
    · cases mc8.symm.trans hC
      rw [show decide (("UnknownName" : Str) = "InvalidName") = false by decide +kernel]
      exact ⟨e8, kit_own is6 ty6 s8_6 (fun z => absurd z ne8_6)⟩
    · cases mcN.symm.trans hC
      rw [show decide (("NothingToUndo" : Str) = "InvalidName") = false by decide +kernel]
      exact ⟨eN, kit_own is6 ty6 sN_6 (fun z => absurd z neN_6)⟩
  have eq7 : ∀ c, c ∈ ES10 → ∀ C, mg c = some (.ref C) → ExcC K C ∧ PySem.W.kitOne K (.ref C) (.ref C7) = some (decide (c = "TakenName")) := by
    intro c hc C hC
    simp only [ES10, List.mem_cons, List.not_mem_nil, or_false] at hc
    rcases hc with rfl | rfl | rfl | rfl | rfl | rfl | rfl | rfl | rfl | rfl
    · cases mc0.symm.trans hC
      rw [show decide (("InvalidNumber" : Str) = "TakenName") = false by decide +kernel]
      exact ⟨e0, kit_own is7 ty7 s0_7 (fun z => absurd z ne0_7)⟩
    · cases mc1.symm.trans hC
      rw [show decide (("InvalidList" : Str) = "TakenName") = false by decide +kernel]
      exact ⟨e1, kit_own is7 ty7 s1_7 (fun z => absurd z ne1_7)⟩
    · cases mc2.symm.trans hC
      rw [show decide (("InvalidItem" : Str) = "TakenName") = false by decide +kernel]
      exact ⟨e2, kit_own is7 ty7 s2_7 (fun z => absurd z ne2_7)⟩
    · cases mc3.symm.trans hC
      rw [show decide (("InvalidProgram" : Str) = "TakenName") = false by decide +kernel]
      exact ⟨e3, kit_own is7 ty7 s3_7 (fun z => absurd z ne3_7)⟩
    · cases mc4.symm.trans hC
      rw [show decide (("InvalidRow" : Str) = "TakenName") = false by decide +kernel]
      exact ⟨e4, kit_own is7 ty7 s4_7 (fun z => absurd z ne4_7)⟩
    · cases mc5.symm.trans hC
      rw [show decide (("InvalidText" : Str) = "TakenName") = false by decide +kernel]
      exact ⟨e5, kit_own is7 ty7 s5_7 (fun z => absurd z ne5_7)⟩
    · cases mc6.symm.trans hC
      rw [show decide (("InvalidName" : Str) = "TakenName") = false by decide +kernel]
      exact ⟨e6, kit_own is7 ty7 s6_7 (fun z => absurd z ne6_7)⟩
    · cases mc7.symm.trans hC
      rw [show decide (("TakenName" : Str) = "TakenName") = true by decide +kernel]
      exact ⟨e7, kit_own is7 ty7 s7_7 (fun _ => rfl)⟩
    · cases mc8.symm.trans hC
      rw [show decide (("UnknownName" : Str) = "TakenName") = false by decide +kernel]
      exact ⟨e8, kit_own is7 ty7 s8_7 (fun z => absurd z ne8_7)⟩
    · cases mcN.symm.trans hC
      rw [show decide (("NothingToUndo" : Str) = "TakenName") = false by decide +kernel]
      exact ⟨eN, kit_own is7 ty7 sN_7 (fun z => absurd z neN_7)⟩
  have eq8 : ∀ c, c ∈ ES10 → ∀ C, mg c = some (.ref C) → ExcC K C ∧ PySem.W.kitOne K (.ref C) (.ref C8) = some (decide (c = "UnknownName")) := by
    intro c hc C hC
    simp only [ES10, List.mem_cons, List.not_mem_nil, or_false] at hc
    rcases hc with rfl | rfl | rfl | rfl | rfl | rfl | rfl | rfl | rfl | rfl
    · cases mc0.symm.trans hC
      rw [show decide (("InvalidNumber" : Str) = "UnknownName") = false by decide +kernel]
      exact ⟨e0, kit_own is8 ty8 s0_8 (fun z => absurd z ne0_8)⟩
    · cases mc1.symm.trans hC
      rw [show decide (("InvalidList" : Str) = "UnknownName") = false by decide +kernel]
      exact ⟨e1, kit_own is8 ty8 s1_8 (fun z => absurd z ne1_8)⟩
    · cases mc2.symm.trans hC
      rw [show decide (("InvalidItem" : Str) = "UnknownName") = false by decide +kernel]
      exact ⟨e2, kit_own is8 ty8 s2_8 (fun z => absurd z ne2_8)⟩
    · cases mc3.symm.trans hC
      rw [show decide (("InvalidProgram" : Str) = "UnknownName") = false by decide +kernel]
      exact ⟨e3, kit_own is8 ty8 s3_8 (fun z => absurd z ne3_8)⟩
    · cases mc4.symm.trans hC
      rw [show decide (("InvalidRow" : Str) = "UnknownName") = false by decide +kernel]
      exact ⟨e4, kit_own is8 ty8 s4_8 (fun z => absurd z ne4_8)⟩
    · cases mc5.symm.trans hC
      rw [show decide (("InvalidText" : Str) = "UnknownName") = false by decide +kernel]
      exact ⟨e5, kit_own is8 ty8 s5_8 (fun z => absurd z ne5_8)⟩
    · cases mc6.symm.trans hC
      rw [show decide (("InvalidName" : Str) = "UnknownName") = false by decide +kernel]
      exact ⟨e6, kit_own is8 ty8 s6_8 (fun z => absurd z ne6_8)⟩
    · cases mc7.symm.trans hC
      rw [show decide (("TakenName" : Str) = "UnknownName") = false by decide +kernel]
      exact ⟨e7, kit_own is8 ty8 s7_8 (fun z => absurd z ne7_8)⟩
    · cases mc8.symm.trans hC
      rw [show decide (("UnknownName" : Str) = "UnknownName") = true by decide +kernel]
      exact ⟨e8, kit_own is8 ty8 s8_8 (fun _ => rfl)⟩
    · cases mcN.symm.trans hC
      rw [show decide (("NothingToUndo" : Str) = "UnknownName") = false by decide +kernel]
      exact ⟨eN, kit_own is8 ty8 sN_8 (fun z => absurd z neN_8)⟩
  have eqN : ∀ c, c ∈ ES10 → ∀ C, mg c = some (.ref C) → ExcC K C ∧ PySem.W.kitOne K (.ref C) (.ref UN) = some (decide (c = "NothingToUndo")) := by
    intro c hc C hC
    simp only [ES10, List.mem_cons, List.not_mem_nil, or_false] at hc
    rcases hc with rfl | rfl | rfl | rfl | rfl | rfl | rfl | rfl | rfl | rfl
    · cases mc0.symm.trans hC
      rw [show decide (("InvalidNumber" : Str) = "NothingToUndo") = false by decide +kernel]
      exact ⟨e0, kit_own isN tyN s0_N (fun z => absurd z ne0_N)⟩
    · cases mc1.symm.trans hC
      rw [show decide (("InvalidList" : Str) = "NothingToUndo") = false by decide +kernel]
      exact ⟨e1, kit_own isN tyN s1_N (fun z => absurd z ne1_N)⟩
    · cases mc2.symm.trans hC
      rw [show decide (("InvalidItem" : Str) = "NothingToUndo") = false by decide +kernel]
      exact ⟨e2, kit_own isN tyN s2_N (fun z => absurd z ne2_N)⟩
    · cases mc3.symm.trans hC
      rw [show decide (("InvalidProgram" : Str) = "NothingToUndo") = false by decide +kernel]
      exact ⟨e3, kit_own isN tyN s3_N (fun z => absurd z ne3_N)⟩
    · cases mc4.symm.trans hC
      rw [show decide (("InvalidRow" : Str) = "NothingToUndo") = false by decide +kernel]
      exact ⟨e4, kit_own isN tyN s4_N (fun z => absurd z ne4_N)⟩
    · cases mc5.symm.trans hC
      rw [show decide (("InvalidText" : Str) = "NothingToUndo") = false by decide +kernel]
      exact ⟨e5, kit_own isN tyN s5_N (fun z => absurd z ne5_N)⟩
    · cases mc6.symm.trans hC
      rw [show decide (("InvalidName" : Str) = "NothingToUndo") = false by decide +kernel]
      exact ⟨e6, kit_own isN tyN s6_N (fun z => absurd z ne6_N)⟩
    · cases mc7.symm.trans hC
      rw [show decide (("TakenName" : Str) = "NothingToUndo") = false by decide +kernel]
      exact ⟨e7, kit_own isN tyN s7_N (fun z => absurd z ne7_N)⟩
    · cases mc8.symm.trans hC
      rw [show decide (("UnknownName" : Str) = "NothingToUndo") = false by decide +kernel]
      exact ⟨e8, kit_own isN tyN s8_N (fun z => absurd z ne8_N)⟩
    · cases mcN.symm.trans hC
      rw [show decide (("NothingToUndo" : Str) = "NothingToUndo") = true by decide +kernel]
      exact ⟨eN, kit_own isN tyN sN_N (fun _ => rfl)⟩
  have alW : ∀ c, c ∈ ES10 → ∀ C, mg c = some (.ref C) → ExcC K C ∧ PySem.W.kitOne K (.ref C) (.ref W) = some true := by
    intro c hc C hC
    simp only [ES10, List.mem_cons, List.not_mem_nil, or_false] at hc
    rcases hc with rfl | rfl | rfl | rfl | rfl | rfl | rfl | rfl | rfl | rfl
    · cases mc0.symm.trans hC
      exact ⟨e0, kit_own isW tyW sW0 (fun _ => rfl)⟩
    · cases mc1.symm.trans hC
      exact ⟨e1, kit_own isW tyW sW1 (fun _ => rfl)⟩
    · cases mc2.symm.trans hC
      exact ⟨e2, kit_own isW tyW sW2 (fun _ => rfl)⟩
    · cases mc3.symm.trans hC
      exact ⟨e3, kit_own isW tyW sW3 (fun _ => rfl)⟩
    · cases mc4.symm.trans hC
      exact ⟨e4, kit_own isW tyW sW4 (fun _ => rfl)⟩
    · cases mc5.symm.trans hC
      exact ⟨e5, kit_own isW tyW sW5 (fun _ => rfl)⟩
    · cases mc6.symm.trans hC
      exact ⟨e6, kit_own isW tyW sW6 (fun _ => rfl)⟩
    · cases mc7.symm.trans hC
      exact ⟨e7, kit_own isW tyW sW7 (fun _ => rfl)⟩
    · cases mc8.symm.trans hC
      exact ⟨e8, kit_own isW tyW sW8 (fun _ => rfl)⟩
    · cases mcN.symm.trans hC
      exact ⟨eN, kit_own isW tyW sWN (fun _ => rfl)⟩
  have alV : ∀ c, c ∈ ES10 → ∀ C, mg c = some (.ref C) → ExcC K C ∧ PySem.W.kitOne K (.ref C) (.type "ValueError") = some true := by
    intro c hc C hC
    simp only [ES10, List.mem_cons, List.not_mem_nil, or_false] at hc
    rcases hc with rfl | rfl | rfl | rfl | rfl | rfl | rfl | rfl | rfl | rfl
    · cases mc0.symm.trans hC
      exact ⟨e0, kit_own_ty (by decide +kernel) ve0⟩
    · cases mc1.symm.trans hC
      exact ⟨e1, kit_own_ty (by decide +kernel) ve1⟩
    · cases mc2.symm.trans hC
      exact ⟨e2, kit_own_ty (by decide +kernel) ve2⟩
    · cases mc3.symm.trans hC
      exact ⟨e3, kit_own_ty (by decide +kernel) ve3⟩
    · cases mc4.symm.trans hC
      exact ⟨e4, kit_own_ty (by decide +kernel) ve4⟩
    · cases mc5.symm.trans hC
      exact ⟨e5, kit_own_ty (by decide +kernel) ve5⟩
    · cases mc6.symm.trans hC
      exact ⟨e6, kit_own_ty (by decide +kernel) ve6⟩
    · cases mc7.symm.trans hC
      exact ⟨e7, kit_own_ty (by decide +kernel) ve7⟩
    · cases mc8.symm.trans hC
      exact ⟨e8, kit_own_ty (by decide +kernel) ve8⟩
    · cases mcN.symm.trans hC
      exact ⟨eN, kit_own_ty (by decide +kernel) veN⟩
  have fEname : ∀ n C, inB ES n = true → mg n = some (.ref C) → ExcC K C ∧ NoAttr K C "name" := by
    intro c C hc hC
    have hc := inB_mem hc
    simp only [ES, List.mem_cons, List.not_mem_nil, or_false] at hc
    rcases hc with rfl | rfl | rfl | rfl | rfl | rfl | rfl | rfl | rfl
    · cases mc0.symm.trans hC; exact ⟨e0, non0⟩
    · cases mc1.symm.trans hC; exact ⟨e1, non1⟩
    · cases mc2.symm.trans hC; exact ⟨e2, non2⟩
    · cases mc3.symm.trans hC; exact ⟨e3, non3⟩
    · cases mc4.symm.trans hC; exact ⟨e4, non4⟩
    · cases mc5.symm.trans hC; exact ⟨e5, non5⟩
    · cases mc6.symm.trans hC; exact ⟨e6, non6⟩
    · cases mc7.symm.trans hC; exact ⟨e7, non7⟩
    · cases mc8.symm.trans hC; exact ⟨e8, non8⟩
  have fEvalue : ∀ n C, inB ES n = true → mg n = some (.ref C) → ExcC K C ∧ NoAttr K C "value" := by
    intro c C hc hC
    have hc := inB_mem hc
    simp only [ES, List.mem_cons, List.not_mem_nil, or_false] at hc
    rcases hc with rfl | rfl | rfl | rfl | rfl | rfl | rfl | rfl | rfl
    · cases mc0.symm.trans hC; exact ⟨e0, nov0⟩
    · cases mc1.symm.trans hC; exact ⟨e1, nov1⟩
    · cases mc2.symm.trans hC; exact ⟨e2, nov2⟩
    · cases mc3.symm.trans hC; exact ⟨e3, nov3⟩
    · cases mc4.symm.trans hC; exact ⟨e4, nov4⟩
    · cases mc5.symm.trans hC; exact ⟨e5, nov5⟩
    · cases mc6.symm.trans hC; exact ⟨e6, nov6⟩
    · cases mc7.symm.trans hC; exact ⟨e7, nov7⟩
    · cases mc8.symm.trans hC; exact ⟨e8, nov8⟩
  obtain ⟨T, hT⟩ : ∃ T : Tx P K mg, T.f_law = f9 := ⟨{
    f_law_bare := f0, d_law_bare := _, F_law_bare := fun_mk (st := s_law_bare) l0 c0 k0,
    b_law_bare := binds_def (fun_mk (st := s_law_bare) l0 c0 k0) fun _ _ _ _ _ _ us hl => match us, hl with | [], _ => rfl,
    m_law_bare := PySem.W.mg_of X G a0, p_law_bare := k0,
    f_law_cell := f1, d_law_cell := _, F_law_cell := fun_mk (st := s_law_cell) l1 c1 k1,
    b_law_cell := binds_def (fun_mk (st := s_law_cell) l1 c1 k1) fun _ _ _ _ _ _ us hl => match us, hl with | [_, _], _ => rfl,
    m_law_cell := PySem.W.mg_of X G a1, p_law_cell := k1,
    f_law_generator := f2, d_law_generator := _, F_law_generator := fun_mk (st := s_law_generator) l2 c2 k2,
    b_law_generator := binds_def (fun_mk (st := s_law_generator) l2 c2 k2) fun _ _ _ _ _ _ us hl => match us, hl with | [_, _], _ => rfl,
    m_law_generator := PySem.W.mg_of X G a2, p_law_generator := k2,
    f_law_kinds := f3, d_law_kinds := _, F_law_kinds := fun_mk (st := s_law_kinds) l3 c3 k3,
    b_law_kinds := binds_def (fun_mk (st := s_law_kinds) l3 c3 k3) fun _ _ _ _ _ _ us hl => match us, hl with | [_], _ => rfl,
    m_law_kinds := PySem.W.mg_of X G a3, p_law_kinds := k3,
    f_law_named := f4, d_law_named := _, F_law_named := fun_mk (st := s_law_named) l4 c4 k4,
    b_law_named := binds_def (fun_mk (st := s_law_named) l4 c4 k4) fun _ _ _ _ _ _ us hl => match us, hl with | [_], _ => rfl,
    m_law_named := PySem.W.mg_of X G a4, p_law_named := k4,
    f_law_placed := f5, d_law_placed := _, F_law_placed := fun_mk (st := s_law_placed) l5 c5 k5,
    b_law_placed := binds_def (fun_mk (st := s_law_placed) l5 c5 k5) fun _ _ _ _ _ _ us hl => match us, hl with | [_], _ => rfl,
    m_law_placed := PySem.W.mg_of X G a5, p_law_placed := k5,
    f_law_hash := f6, d_law_hash := _, F_law_hash := fun_mk (st := s_law_hash) l6 c6 k6,
    b_law_hash := binds_def (fun_mk (st := s_law_hash) l6 c6 k6) fun _ _ _ _ _ _ us hl => match us, hl with | [_, _], _ => rfl,
    m_law_hash := PySem.W.mg_of X G a6, p_law_hash := k6,
    f_law_random := f7, d_law_random := _, F_law_random := fun_mk (st := s_law_random) l7 c7 k7,
    b_law_random := binds_def (fun_mk (st := s_law_random) l7 c7 k7) fun _ _ _ _ _ _ us hl => match us, hl with | [_, _], _ => rfl,
    m_law_random := PySem.W.mg_of X G a7, p_law_random := k7,
    f_law_right := f8, d_law_right := _, F_law_right := fun_mk (st := s_law_right) l8 c8 k8,
    b_law_right := binds_def (fun_mk (st := s_law_right) l8 c8 k8) fun _ _ _ _ _ _ us hl => match us, hl with | [_, _], _ => rfl,
    m_law_right := PySem.W.mg_of X G a8, p_law_right := k8,
    f_law := f9, d_law := _, F_law := fun_mk (st := s_law) l9 c9 k9,
    b_law := binds_def (fun_mk (st := s_law) l9 c9 k9) fun _ _ _ _ _ _ us hl => match us, hl with | [_], _ => rfl,
    m_law := PySem.W.mg_of X G a9, p_law := k9,
    z_ValueError := PySem.W.mg_none_of X G z_ValueError,
    z_dict := PySem.W.mg_none_of X G z_dict,
    z_int := PySem.W.mg_none_of X G z_int,
    z_isinstance := PySem.W.mg_none_of X G z_isinstance,
    z_len := PySem.W.mg_none_of X G z_len,
    z_list := PySem.W.mg_none_of X G z_list,
    z_max := PySem.W.mg_none_of X G z_max,
    z_range := PySem.W.mg_none_of X G z_range,
    z_repr := PySem.W.mg_none_of X G z_repr,
    c_InvalidItem := C2, mc_InvalidItem := mc2,
    eq_InvalidItem := eq2,
    bk_InvalidItem := bk2,
    b0_InvalidItem := b02,
    j_InvalidItem := I2, dj_InvalidItem := _, i_InvalidItem := i2, bi_InvalidItem := bi2,
    c_InvalidList := C1, mc_InvalidList := mc1,
    eq_InvalidList := eq1,
    bk_InvalidList := bk1,
    b0_InvalidList := b01,
    j_InvalidList := I1, dj_InvalidList := _, i_InvalidList := i1, bi_InvalidList := bi1,
    c_InvalidName := C6, mc_InvalidName := mc6,
    eq_InvalidName := eq6,
    bk_InvalidName := bk6,
    b0_InvalidName := b06,
    j_InvalidName := I6, dj_InvalidName := _, i_InvalidName := i6, bi_InvalidName := bi6,
    c_InvalidNumber := C0, mc_InvalidNumber := mc0,
    eq_InvalidNumber := eq0,
    bk_InvalidNumber := bk0,
    b0_InvalidNumber := b00,
    j_InvalidNumber := I0, dj_InvalidNumber := _, i_InvalidNumber := i0, bi_InvalidNumber := bi0,
    c_InvalidProgram := C3, mc_InvalidProgram := mc3,
    eq_InvalidProgram := eq3,
    bk_InvalidProgram := bk3,
    b0_InvalidProgram := b03,
    j_InvalidProgram := I3, dj_InvalidProgram := _, i_InvalidProgram := i3, bi_InvalidProgram := bi3,
    c_InvalidRow := C4, mc_InvalidRow := mc4,
    eq_InvalidRow := eq4,
    bk_InvalidRow := bk4,
    b0_InvalidRow := b04,
    j_InvalidRow := I4, dj_InvalidRow := _, i_InvalidRow := i4, bi_InvalidRow := bi4,
    c_InvalidText := C5, mc_InvalidText := mc5,
    eq_InvalidText := eq5,
    bk_InvalidText := bk5,
    b0_InvalidText := b05,
    j_InvalidText := I5, dj_InvalidText := _, i_InvalidText := i5, bi_InvalidText := bi5,
    c_TakenName := C7, mc_TakenName := mc7,
    eq_TakenName := eq7,
    bk_TakenName := bk7,
    b0_TakenName := b07,
    j_TakenName := I7, dj_TakenName := _, i_TakenName := i7, bi_TakenName := bi7,
    c_UnknownName := C8, mc_UnknownName := mc8,
    eq_UnknownName := eq8,
    bk_UnknownName := bk8,
    b0_UnknownName := b08,
    j_UnknownName := I8, dj_UnknownName := _, i_UnknownName := i8, bi_UnknownName := bi8,
    c_NothingToUndo := UN, mc_NothingToUndo := mcN, xi_NothingToUndo := xiN, kp_NothingToUndo := kpN, eq_NothingToUndo := eqN,
    c_WalkError := W, mc_WalkError := PySem.W.mg_of X G aW, al_WalkError := alW, al_ValueError := alV,
    fE_name := fEname,
    fE_value := fEvalue,
    }, rfl⟩
  exact ⟨T.d_law, fun s v hK => T.b_law s [v] hK rfl, fun w base => hT ▸ T.k_law base⟩
end K01
open PySem PySem.W PyProof.Rows
set_option maxRecDepth 100000 in
set_option maxHeartbeats 0 in
theorem PySem.Challenge.cw_floorwalks_k01_errors_holds : PySem.Challenge.rw_floorwalks_k01_errors.Holds := by
  w_on; o_law; k_head; (case hw => w_witness2)
  k_fill
  refine FW.law_end (l := PySem.Challenge.rw_floorwalks_k01_errors) (n := 63) (k := 5) (x := "_law_script") (FM := K01.M_law) rfl (by decide) rfl ⟨⟨rfl, by decide, by decide⟩, rfl⟩ (fun w h Y => PySem.W.kIn_of Y) ?F (K01.pure_law)
  case F =>
    intro w mg fa h KX G hmg
    refine' FW.end_use (K01.all_mk (P := PySem.Challenge.rw_floorwalks_k01_errors.prog) KX G hmg ?a0 ?l0 ?c0 ?k0 ?a1 ?l1 ?c1 ?k1 ?a2 ?l2 ?c2 ?k2 ?a3 ?l3 ?c3 ?k3 ?a4 ?l4 ?c4 ?k4 ?a5 ?l5 ?c5 ?k5 ?a6 ?l6 ?c6 ?k6 ?a7 ?l7 ?c7 ?k7 ?a8 ?l8 ?c8 ?k8 ?a9 ?l9 ?c9 ?k9 ?z_ValueError ?z_dict ?z_int ?z_isinstance ?z_len ?z_list ?z_max ?z_range ?z_repr ?spc ?tkc ?no_Program ?no_Tested ?no_Live ?no_Library ?no_Window ?no_Book ?no_Cover ?no_Below ?z0super ?aW ?isW ?tyW ?exW ?thc ?aC0 ?xC0 ?sa0 ?ga0 ?gg0 ?nov0 ?non0 ?ha0 ?iC0 ?mo0 ?mr0 ?ve0 ?ex0 ?sW0 ?tI0 ?kC0 ?ty0 ?hd0 ?is0 ?su0 ?lI0 ?cI0 ?lc0 ?v20 ?fi0 ?lcc0 ?lT0 ?aC1 ?xC1 ?sa1 ?ga1 ?gg1 ?nov1 ?non1 ?ha1 ?iC1 ?mo1 ?mr1 ?ve1 ?ex1 ?sW1 ?tI1 ?kC1 ?ty1 ?hd1 ?is1 ?su1 ?lI1 ?cI1 ?lc1 ?v21 ?fi1 ?lcc1 ?lT1 ?aC2 ?xC2 ?sa2 ?ga2 ?gg2 ?nov2 ?non2 ?ha2 ?iC2 ?mo2 ?mr2 ?ve2 ?ex2 ?sW2 ?tI2 ?kC2 ?ty2 ?hd2 ?is2 ?su2 ?lI2 ?cI2 ?lc2 ?v22 ?fi2 ?lcc2 ?lT2 ?aC3 ?xC3 ?sa3 ?ga3 ?gg3 ?nov3 ?non3 ?ha3 ?iC3 ?mo3 ?mr3 ?ve3 ?ex3 ?sW3 ?tI3 ?kC3 ?ty3 ?hd3 ?is3 ?su3 ?lI3 ?cI3 ?lc3 ?v23 ?fi3 ?lcc3 ?lT3 ?aC4 ?xC4 ?sa4 ?ga4 ?gg4 ?nov4 ?non4 ?ha4 ?iC4 ?mo4 ?mr4 ?ve4 ?ex4 ?sW4 ?tI4 ?kC4 ?ty4 ?hd4 ?is4 ?su4 ?lI4 ?cI4 ?lc4 ?v24 ?fi4 ?lcc4 ?lT4 ?aC5 ?xC5 ?sa5 ?ga5 ?gg5 ?nov5 ?non5 ?ha5 ?iC5 ?mo5 ?mr5 ?ve5 ?ex5 ?sW5 ?tI5 ?kC5 ?ty5 ?hd5 ?is5 ?su5 ?lI5 ?cI5 ?lc5 ?v25 ?fi5 ?lcc5 ?lT5 ?aC6 ?xC6 ?sa6 ?ga6 ?gg6 ?nov6 ?non6 ?ha6 ?iC6 ?mo6 ?mr6 ?ve6 ?ex6 ?sW6 ?tI6 ?kC6 ?ty6 ?hd6 ?is6 ?su6 ?lI6 ?cI6 ?lc6 ?v26 ?fi6 ?lcc6 ?lT6 ?aC7 ?xC7 ?sa7 ?ga7 ?gg7 ?nov7 ?non7 ?ha7 ?iC7 ?mo7 ?mr7 ?ve7 ?ex7 ?sW7 ?tI7 ?kC7 ?ty7 ?hd7 ?is7 ?su7 ?lI7 ?cI7 ?lc7 ?v27 ?fi7 ?lcc7 ?lT7 ?aC8 ?xC8 ?sa8 ?ga8 ?gg8 ?nov8 ?non8 ?ha8 ?iC8 ?mo8 ?mr8 ?ve8 ?ex8 ?sW8 ?tI8 ?kC8 ?ty8 ?hd8 ?is8 ?su8 ?lI8 ?cI8 ?lc8 ?v28 ?fi8 ?lcc8 ?lT8 ?tops ?s0_0 ?s0_1 ?ne0_1 ?s0_2 ?ne0_2 ?s0_3 ?ne0_3 ?s0_4 ?ne0_4 ?s0_5 ?ne0_5 ?s0_6 ?ne0_6 ?s0_7 ?ne0_7 ?s0_8 ?ne0_8 ?s1_0 ?ne1_0 ?s1_1 ?s1_2 ?ne1_2 ?s1_3 ?ne1_3 ?s1_4 ?ne1_4 ?s1_5 ?ne1_5 ?s1_6 ?ne1_6 ?s1_7 ?ne1_7 ?s1_8 ?ne1_8 ?s2_0 ?ne2_0 ?s2_1 ?ne2_1 ?s2_2 ?s2_3 ?ne2_3 ?s2_4 ?ne2_4 ?s2_5 ?ne2_5 ?s2_6 ?ne2_6 ?s2_7 ?ne2_7 ?s2_8 ?ne2_8 ?s3_0 ?ne3_0 ?s3_1 ?ne3_1 ?s3_2 ?ne3_2 ?s3_3 ?s3_4 ?ne3_4 ?s3_5 ?ne3_5 ?s3_6 ?ne3_6 ?s3_7 ?ne3_7 ?s3_8 ?ne3_8 ?s4_0 ?ne4_0 ?s4_1 ?ne4_1 ?s4_2 ?ne4_2 ?s4_3 ?ne4_3 ?s4_4 ?s4_5 ?ne4_5 ?s4_6 ?ne4_6 ?s4_7 ?ne4_7 ?s4_8 ?ne4_8 ?s5_0 ?ne5_0 ?s5_1 ?ne5_1 ?s5_2 ?ne5_2 ?s5_3 ?ne5_3 ?s5_4 ?ne5_4 ?s5_5 ?s5_6 ?ne5_6 ?s5_7 ?ne5_7 ?s5_8 ?ne5_8 ?s6_0 ?ne6_0 ?s6_1 ?ne6_1 ?s6_2 ?ne6_2 ?s6_3 ?ne6_3 ?s6_4 ?ne6_4 ?s6_5 ?ne6_5 ?s6_6 ?s6_7 ?ne6_7 ?s6_8 ?ne6_8 ?s7_0 ?ne7_0 ?s7_1 ?ne7_1 ?s7_2 ?ne7_2 ?s7_3 ?ne7_3 ?s7_4 ?ne7_4 ?s7_5 ?ne7_5 ?s7_6 ?ne7_6 ?s7_7 ?s7_8 ?ne7_8 ?s8_0 ?ne8_0 ?s8_1 ?ne8_1 ?s8_2 ?ne8_2 ?s8_3 ?ne8_3 ?s8_4 ?ne8_4 ?s8_5 ?ne8_5 ?s8_6 ?ne8_6 ?s8_7 ?ne8_7 ?s8_8 ?aN ?gaN ?ggN ?haN ?moN ?exN ?hdN ?isN ?tyN ?veN ?sWN ?xiN ?kpN ?sN_N ?sN_0 ?neN_0 ?s0_N ?ne0_N ?sN_1 ?neN_1 ?s1_N ?ne1_N ?sN_2 ?neN_2 ?s2_N ?ne2_N ?sN_3 ?neN_3 ?s3_N ?ne3_N ?sN_4 ?neN_4 ?s4_N ?ne4_N ?sN_5 ?neN_5 ?s5_N ?ne5_N ?sN_6 ?neN_6 ?s6_N ?ne6_N ?sN_7 ?neN_7 ?s7_N ?ne7_N ?sN_8 ?neN_8 ?s8_N ?ne8_N)
    case a0 => k_is
    case l0 => k_is
    case c0 => k_is
    case k0 => k_is
    case a1 => k_is
    case l1 => k_is
    case c1 => k_is
    case k1 => k_is
    case a2 => k_is
    case l2 => k_is
    case c2 => k_is
    case k2 => k_is
    case a3 => k_is
    case l3 => k_is
    case c3 => k_is
    case k3 => k_is
    case a4 => k_is
    case l4 => k_is
    case c4 => k_is
    case k4 => k_is
    case a5 => k_is
    case l5 => k_is
    case c5 => k_is
    case k5 => k_is
    case a6 => k_is
    case l6 => k_is
    case c6 => k_is
    case k6 => k_is
    case a7 => k_is
    case l7 => k_is
    case c7 => k_is
    case k7 => k_is
    case a8 => k_is
    case l8 => k_is
    case c8 => k_is
    case k8 => k_is
    case a9 => k_is
    case l9 => k_is
    case c9 => k_is
    case k9 => k_is
    case z_ValueError => k_is
    case z_dict => k_is
    case z_int => k_is
    case z_isinstance => k_is
    case z_len => k_is
    case z_list => k_is
    case z_max => k_is
    case z_range => k_is
    case z_repr => k_is
    case spc => k_is
    case tkc => k_is
    case no_Program => k_is
    case no_Tested => k_is
    case no_Live => k_is
    case no_Library => k_is
    case no_Window => k_is
    case no_Book => k_is
    case no_Cover => k_is
    case no_Below => k_is
    case z0super => k_is
    case aW => k_is
    case isW => k_is
    case tyW => k_is
    case exW => k_is
    case thc => k_is
    case aC0 => k_is
    case xC0 => k_is
    case sa0 => k_is
    case ga0 => k_is
    case gg0 => k_is
    case nov0 => k_is
    case non0 => k_is
    case ha0 => k_is
    case iC0 => k_is
    case mo0 => k_is
    case mr0 => k_is
    case ve0 => k_is
    case ex0 => k_is
    case sW0 => k_is
    case tI0 => k_is
    case kC0 => k_is
    case ty0 => k_is
    case hd0 => k_is
    case is0 => k_is
    case su0 => ks_is
    case lI0 => k_is
    case cI0 => k_is
    case lc0 => k_is
    case v20 => first | rfl | kernel_rfl
    case fi0 => first | rfl | kernel_rfl | decide +kernel
    case lcc0 => k_is
    case lT0 => k_is
    case aC1 => k_is
    case xC1 => k_is
    case sa1 => k_is
    case ga1 => k_is
    case gg1 => k_is
    case nov1 => k_is
    case non1 => k_is
    case ha1 => k_is
    case iC1 => k_is
    case mo1 => k_is
    case mr1 => k_is
    case ve1 => k_is
    case ex1 => k_is
    case sW1 => k_is
    case tI1 => k_is
    case kC1 => k_is
    case ty1 => k_is
    case hd1 => k_is
    case is1 => k_is
    case su1 => ks_is
    case lI1 => k_is
    case cI1 => k_is
    case lc1 => k_is
    case v21 => first | rfl | kernel_rfl
    case fi1 => first | rfl | kernel_rfl | decide +kernel
    case lcc1 => k_is
    case lT1 => k_is
    case aC2 => k_is
    case xC2 => k_is
    case sa2 => k_is
    case ga2 => k_is
    case gg2 => k_is
    case nov2 => k_is
    case non2 => k_is
    case ha2 => k_is
    case iC2 => k_is
    case mo2 => k_is
    case mr2 => k_is
    case ve2 => k_is
    case ex2 => k_is
    case sW2 => k_is
    case tI2 => k_is
    case kC2 => k_is
    case ty2 => k_is
    case hd2 => k_is
    case is2 => k_is
    case su2 => ks_is
    case lI2 => k_is
    case cI2 => k_is
    case lc2 => k_is
    case v22 => first | rfl | kernel_rfl
    case fi2 => first | rfl | kernel_rfl | decide +kernel
    case lcc2 => k_is
    case lT2 => k_is
    case aC3 => k_is
    case xC3 => k_is
    case sa3 => k_is
    case ga3 => k_is
    case gg3 => k_is
    case nov3 => k_is
    case non3 => k_is
    case ha3 => k_is
    case iC3 => k_is
    case mo3 => k_is
    case mr3 => k_is
    case ve3 => k_is
    case ex3 => k_is
    case sW3 => k_is
    case tI3 => k_is
    case kC3 => k_is
    case ty3 => k_is
    case hd3 => k_is
    case is3 => k_is
    case su3 => ks_is
    case lI3 => k_is
    case cI3 => k_is
    case lc3 => k_is
    case v23 => first | rfl | kernel_rfl
    case fi3 => first | rfl | kernel_rfl | decide +kernel
    case lcc3 => k_is
    case lT3 => k_is
    case aC4 => k_is
    case xC4 => k_is
    case sa4 => k_is
    case ga4 => k_is
    case gg4 => k_is
    case nov4 => k_is
    case non4 => k_is
    case ha4 => k_is
    case iC4 => k_is
    case mo4 => k_is
    case mr4 => k_is
    case ve4 => k_is
    case ex4 => k_is
    case sW4 => k_is
    case tI4 => k_is
    case kC4 => k_is
    case ty4 => k_is
    case hd4 => k_is
    case is4 => k_is
    case su4 => ks_is
    case lI4 => k_is
    case cI4 => k_is
    case lc4 => k_is
    case v24 => first | rfl | kernel_rfl
    case fi4 => first | rfl | kernel_rfl | decide +kernel
    case lcc4 => k_is
    case lT4 => k_is
    case aC5 => k_is
    case xC5 => k_is
    case sa5 => k_is
    case ga5 => k_is
    case gg5 => k_is
    case nov5 => k_is
    case non5 => k_is
    case ha5 => k_is
    case iC5 => k_is
    case mo5 => k_is
    case mr5 => k_is
    case ve5 => k_is
    case ex5 => k_is
    case sW5 => k_is
    case tI5 => k_is
    case kC5 => k_is
    case ty5 => k_is
    case hd5 => k_is
    case is5 => k_is
    case su5 => ks_is
    case lI5 => k_is
    case cI5 => k_is
    case lc5 => k_is
    case v25 => first | rfl | kernel_rfl
    case fi5 => first | rfl | kernel_rfl | decide +kernel
    case lcc5 => k_is
    case lT5 => k_is
    case aC6 => k_is
    case xC6 => k_is
    case sa6 => k_is
    case ga6 => k_is
    case gg6 => k_is
    case nov6 => k_is
    case non6 => k_is
    case ha6 => k_is
    case iC6 => k_is
    case mo6 => k_is
    case mr6 => k_is
    case ve6 => k_is
    case ex6 => k_is
    case sW6 => k_is
    case tI6 => k_is
    case kC6 => k_is
    case ty6 => k_is
    case hd6 => k_is
    case is6 => k_is
    case su6 => ks_is
    case lI6 => k_is
    case cI6 => k_is
    case lc6 => k_is
    case v26 => first | rfl | kernel_rfl
    case fi6 => first | rfl | kernel_rfl | decide +kernel
    case lcc6 => k_is
    case lT6 => k_is
    case aC7 => k_is
    case xC7 => k_is
    case sa7 => k_is
    case ga7 => k_is
    case gg7 => k_is
    case nov7 => k_is
    case non7 => k_is
    case ha7 => k_is
    case iC7 => k_is
    case mo7 => k_is
    case mr7 => k_is
    case ve7 => k_is
    case ex7 => k_is
    case sW7 => k_is
    case tI7 => k_is
    case kC7 => k_is
    case ty7 => k_is
    case hd7 => k_is
    case is7 => k_is
    case su7 => ks_is
    case lI7 => k_is
    case cI7 => k_is
    case lc7 => k_is
    case v27 => first | rfl | kernel_rfl
    case fi7 => first | rfl | kernel_rfl | decide +kernel
    case lcc7 => k_is
    case lT7 => k_is
    case aC8 => k_is
    case xC8 => k_is
    case sa8 => k_is
    case ga8 => k_is
    case gg8 => k_is
    case nov8 => k_is
    case non8 => k_is
    case ha8 => k_is
    case iC8 => k_is
    case mo8 => k_is
    case mr8 => k_is
    case ve8 => k_is
    case ex8 => k_is
    case sW8 => k_is
    case tI8 => k_is
    case kC8 => k_is
    case ty8 => k_is
    case hd8 => k_is
    case is8 => k_is
    case su8 => ks_is
    case lI8 => k_is
    case cI8 => k_is
    case lc8 => k_is
    case v28 => first | rfl | kernel_rfl
    case fi8 => first | rfl | kernel_rfl | decide +kernel
    case lcc8 => k_is
    case lT8 => k_is
    case tops => first | rfl | kernel_rfl | decide +kernel
    case s0_0 => first | k_is | rfl
    case s0_1 => k_is
    case ne0_1 => decide
    case s0_2 => k_is
    case ne0_2 => decide
    case s0_3 => k_is
    case ne0_3 => decide
    case s0_4 => k_is
    case ne0_4 => decide
    case s0_5 => k_is
    case ne0_5 => decide
    case s0_6 => k_is
    case ne0_6 => decide
    case s0_7 => k_is
    case ne0_7 => decide
    case s0_8 => k_is
    case ne0_8 => decide
    case s1_0 => k_is
    case ne1_0 => decide
    case s1_1 => first | k_is | rfl
    case s1_2 => k_is
    case ne1_2 => decide
    case s1_3 => k_is
    case ne1_3 => decide
    case s1_4 => k_is
    case ne1_4 => decide
    case s1_5 => k_is
    case ne1_5 => decide
    case s1_6 => k_is
    case ne1_6 => decide
    case s1_7 => k_is
    case ne1_7 => decide
    case s1_8 => k_is
    case ne1_8 => decide
    case s2_0 => k_is
    case ne2_0 => decide
    case s2_1 => k_is
    case ne2_1 => decide
    case s2_2 => first | k_is | rfl
    case s2_3 => k_is
    case ne2_3 => decide
    case s2_4 => k_is
    case ne2_4 => decide
    case s2_5 => k_is
    case ne2_5 => decide
    case s2_6 => k_is
    case ne2_6 => decide
    case s2_7 => k_is
    case ne2_7 => decide
    case s2_8 => k_is
    case ne2_8 => decide
    case s3_0 => k_is
    case ne3_0 => decide
    case s3_1 => k_is
    case ne3_1 => decide
    case s3_2 => k_is
    case ne3_2 => decide
    case s3_3 => first | k_is | rfl
    case s3_4 => k_is
    case ne3_4 => decide
    case s3_5 => k_is
    case ne3_5 => decide
    case s3_6 => k_is
    case ne3_6 => decide
    case s3_7 => k_is
    case ne3_7 => decide
    case s3_8 => k_is
    case ne3_8 => decide
    case s4_0 => k_is
    case ne4_0 => decide
    case s4_1 => k_is
    case ne4_1 => decide
    case s4_2 => k_is
    case ne4_2 => decide
    case s4_3 => k_is
    case ne4_3 => decide
    case s4_4 => first | k_is | rfl
    case s4_5 => k_is
    case ne4_5 => decide
    case s4_6 => k_is
    case ne4_6 => decide
    case s4_7 => k_is
    case ne4_7 => decide
    case s4_8 => k_is
    case ne4_8 => decide
    case s5_0 => k_is
    case ne5_0 => decide
    case s5_1 => k_is
    case ne5_1 => decide
    case s5_2 => k_is
    case ne5_2 => decide
    case s5_3 => k_is
    case ne5_3 => decide
    case s5_4 => k_is
    case ne5_4 => decide
    case s5_5 => first | k_is | rfl
    case s5_6 => k_is
    case ne5_6 => decide
    case s5_7 => k_is
    case ne5_7 => decide
    case s5_8 => k_is
    case ne5_8 => decide
    case s6_0 => k_is
    case ne6_0 => decide
    case s6_1 => k_is
    case ne6_1 => decide
    case s6_2 => k_is
    case ne6_2 => decide
    case s6_3 => k_is
    case ne6_3 => decide
    case s6_4 => k_is
    case ne6_4 => decide
    case s6_5 => k_is
    case ne6_5 => decide
    case s6_6 => first | k_is | rfl
    case s6_7 => k_is
    case ne6_7 => decide
    case s6_8 => k_is
    case ne6_8 => decide
    case s7_0 => k_is
    case ne7_0 => decide
    case s7_1 => k_is
    case ne7_1 => decide
    case s7_2 => k_is
    case ne7_2 => decide
    case s7_3 => k_is
    case ne7_3 => decide
    case s7_4 => k_is
    case ne7_4 => decide
    case s7_5 => k_is
    case ne7_5 => decide
    case s7_6 => k_is
    case ne7_6 => decide
    case s7_7 => first | k_is | rfl
    case s7_8 => k_is
    case ne7_8 => decide
    case s8_0 => k_is
    case ne8_0 => decide
    case s8_1 => k_is
    case ne8_1 => decide
    case s8_2 => k_is
    case ne8_2 => decide
    case s8_3 => k_is
    case ne8_3 => decide
    case s8_4 => k_is
    case ne8_4 => decide
    case s8_5 => k_is
    case ne8_5 => decide
    case s8_6 => k_is
    case ne8_6 => decide
    case s8_7 => k_is
    case ne8_7 => decide
    case s8_8 => first | k_is | rfl
    case aN => k_is
    case gaN => k_is
    case ggN => k_is
    case haN => k_is
    case moN => k_is
    case exN => k_is
    case hdN => k_is
    case isN => k_is
    case tyN => k_is
    case veN => k_is
    case sWN => k_is
    case xiN => k_exc
    case kpN => k_is
    case sN_N => first | k_is | rfl
    case sN_0 => k_is
    case neN_0 => decide
    case s0_N => k_is
    case ne0_N => decide
    case sN_1 => k_is
    case neN_1 => decide
    case s1_N => k_is
    case ne1_N => decide
    case sN_2 => k_is
    case neN_2 => decide
    case s2_N => k_is
    case ne2_N => decide
    case sN_3 => k_is
    case neN_3 => decide
    case s3_N => k_is
    case ne3_N => decide
    case sN_4 => k_is
    case neN_4 => decide
    case s4_N => k_is
    case ne4_N => decide
    case sN_5 => k_is
    case neN_5 => decide
    case s5_N => k_is
    case ne5_N => decide
    case sN_6 => k_is
    case neN_6 => decide
    case s6_N => k_is
    case ne6_N => decide
    case sN_7 => k_is
    case neN_7 => decide
    case s7_N => k_is
    case ne7_N => decide
    case sN_8 => k_is
    case neN_8 => decide
    case s8_N => k_is
    case ne8_N => decide

