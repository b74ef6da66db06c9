import PyProof.Rows.All
import Wide.All
import OpenK.AllK
import Wide.FinOn
import HandS.ForExc
import HandS.ForMost
import HandS.Wide
import HandS.WideBits
import HandS.IsInst
import HandS.Flow
import HandS.Conv
import HandS.Style
import PyProof.ReprRoads
import HandS.ExcInit
import KE.KExcSuper
import HandS.ExcIs
import HandS.Deep
import KE.RegKSuper
import HandS.Flt
import PyProof.InstEq
import PyProof.EqKinds
import HandS.DictComp
import HandS.Star
import HandS.Text
import HandS.RaiseMore
import KE.KTryMore
import PySem.Challenge.RW_floorwalks_k71_texts_of_no_program
set_option Elab.async false
set_option linter.all false
set_option maxRecDepth 100000
set_option maxHeartbeats 4000000
namespace FW
open PySem L2

/-- the mirror's values: trees that never change, and places of the store -/
inductive MV where
  | non | bl (b : Bool) | int (i : Int) | str (x : Str)
  | tup (xs : List MV) | lst (xs : List MV) | dct (ps : List (MV × MV))
  | ins (c : Str) (fs : List (Str × MV))
  | exc (c : Str) (fs : List (Str × MV))
  | ref (n : Nat)
  | scr (ns : List Int)
  deriving Inhabited

def kM : Key → MV
  | .inl i => .int i
  | .inr x => .str x

/-- an exception's object: its class, its own dict -/
def exO (C : Addr) (d : Option Addr) (a : Addr) : HO := .ext fun h => ∃ o, h.get? a = some o ∧ o.cls = .ref C ∧ o.dict = d ∧ ∃ vs, o.data = .fields vs

/-- the module's facts that data lean on -/
structure Wd where
  K : PySem.W.Frag
  mg : Str → Option Value
abbrev _root_.L2.Cx.wd (X : Cx) : Wd := ⟨X.K, X.mg⟩
section
variable (mg : Wd) (S : Addr → Prop) (ι : List Addr) (H : Hp)
inductive Dt : V → MV → Prop where
  | non : Dt .non .non
  | bl (b : Bool) : Dt (.bl b) (.bl b)
  | int (i : Int) : Dt (.int i) (.int i)
  | str (x : Str) : Dt (.str x) (.str x)
  | ref {n : Nat} {a : Addr} (h : ι[n]? = some a) : Dt (.ref a) (.ref n)
  | tup {a : Addr} {vs : List V} {ms : List MV} (hs : S a) (h : H a = some (.tup vs)) (hl : vs.length = ms.length)
      (hi : ∀ (i : Nat) v m, vs[i]? = some v → ms[i]? = some m → Dt v m) : Dt (.ref a) (.tup ms)
  | lst {a : Addr} {vs : List V} {ms : List MV} (hs : S a) (h : H a = some (.lst vs)) (hl : vs.length = ms.length)
      (hi : ∀ (i : Nat) v m, vs[i]? = some v → ms[i]? = some m → Dt v m) : Dt (.ref a) (.lst ms)
  | dct {a : Addr} {kvs : List (Key × V)} {ps : List (MV × MV)} (hs : S a) (h : Rd H a (.dK kvs)) (hl : kvs.length = ps.length)
      (hk : ∀ (i : Nat) kv p, kvs[i]? = some kv → ps[i]? = some p → p.1 = kM kv.1)
      (hi : ∀ (i : Nat) kv p, kvs[i]? = some kv → ps[i]? = some p → Dt kv.2 p.2) : Dt (.ref a) (.dct ps)
  | dctT {a : Addr} {kvs : List (List Key × V)} {ps : List (MV × MV)} (hs : S a) (h : Rd H a (.dT kvs)) (hl : kvs.length = ps.length)
      (hk : ∀ (i : Nat) kv p, kvs[i]? = some kv → ps[i]? = some p → p.1 = .tup (kv.1.map kM))
      (hi : ∀ (i : Nat) kv p, kvs[i]? = some kv → ps[i]? = some p → Dt kv.2 p.2) : Dt (.ref a) (.dct ps)
  | ins {a C dx : Addr} {c : Str} {fs : List (Str × V)} {ms : List (Str × MV)} (hs : S a) (h : H a = some (.ins C dx fs)) (hc : mg.mg c = some (.ref C)) (hn : fs.map (·.1) = ms.map (·.1))
      (hi : ∀ (i : Nat) f m, fs[i]? = some f → ms[i]? = some m → Dt f.2 m.2) : Dt (.ref a) (.ins c ms)
  | exc {a d C : Addr} {c : Str} {fs : List (Str × V)} {ms : List (Str × MV)} (hs : S a) (h : H a = some (exO C (some d) a)) (hd : S d) (h2 : H d = some (.xd fs)) (hc : mg.mg c = some (.ref C)) (hn : fs.map (·.1) = ms.map (·.1))
      (hi : ∀ (i : Nat) f m, fs[i]? = some f → ms[i]? = some m → Dt f.2 m.2) : Dt (.ref a) (.exc c ms)
  | exc0 {a C : Addr} {c : Str} (hs : S a) (h : H a = some (exO C none a)) (hc : mg.mg c = some (.ref C)) : Dt (.ref a) (.exc c [])
  | scr {a : Addr} {ns : List Int} (h : (S a ∧ Rd H a (.lst (ns.map V.int))) ∨ ∀ H', SqL mg.K H' a (ns.map V.int)) : Dt (.ref a) (.scr ns)

/-- a row of values -/
def AllD (vs : List V) (ms : List MV) : Prop := vs.length = ms.length ∧ ∀ (i : Nat) v m, vs[i]? = some v → ms[i]? = some m → Dt mg S ι H v m
/-- an object's parts as data -/
def Ob (o : HO) : MV → Prop
  | .lst ms => ∃ vs, o = .lst vs ∧ AllD mg S ι H vs ms
  | .tup ms => ∃ vs, o = .tup vs ∧ AllD mg S ι H vs ms
  | .dct ps => (∃ kvs : List (Key × V), o = .dK kvs ∧ kvs.length = ps.length ∧ ∀ (i : Nat) kv p, kvs[i]? = some kv → ps[i]? = some p → p.1 = kM kv.1 ∧ Dt mg S ι H kv.2 p.2) ∨
      ∃ kvs : List (List Key × V), o = .dT kvs ∧ kvs.length = ps.length ∧ ∀ (i : Nat) kv p, kvs[i]? = some kv → ps[i]? = some p → p.1 = .tup (kv.1.map kM) ∧ Dt mg S ι H kv.2 p.2
  | .ins c ms => ∃ C dx fs, o = .ins C dx fs ∧ mg.mg c = some (.ref C) ∧ fs.map (·.1) = ms.map (·.1) ∧ ∀ (i : Nat) f m, fs[i]? = some f → ms[i]? = some m → Dt mg S ι H f.2 m.2
  | _ => False
/-- what stands at an address -/
def Sh (a : Addr) (m : MV) : Prop := ∃ o, H a = some o ∧ Ob mg S ι H o m
end

abbrev Sto := List MV
abbrev Lo := List (Option (MV × Bool))
inductive Kd where | fz | fr | pk (i : Nat)

/-- from one state to a later one: what is frozen stays, what stood and is no place of the store stays -/
structure Ext (S : Addr → Prop) (ι : List Addr) (H : Hp) (S' : Addr → Prop) (ι' : List Addr) (H' : Hp) : Prop where
  s : ∀ a, S a → S' a
  k : ∀ a o, H a = some o → a ∉ ι → H' a = some o
  b : ∀ a, S' a → S a ∨ H a = none
  i : ι <+: ι'
  n : ∀ a, a ∈ ι' → a ∈ ι ∨ H a = none

structure Rep (mg : Wd) (S : Addr → Prop) (ι : List Addr) (H : Hp) (st : Sto) : Prop where
  len : ι.length = st.length
  nd : ι.Nodup
  sep : ∀ a, a ∈ ι → ¬ S a
  som : ∀ a, S a → ∃ o, H a = some o
  ent : ∀ (n : Nat) a m, ι[n]? = some a → st[n]? = some m → Sh mg S ι H a m

/-- what a body may change: as it stood at its entry -/
structure Base where
  S : Addr → Prop
  ι : List Addr
  H : Hp
  /-- what is to stay while an expression is reckoned -/
  G : Addr → Option HO := fun _ => none
  /-- the instance that is being made -/
  P : Option Addr := none
def Base.New (B : Base) (a : Addr) : Prop := B.H a = none ∧ B.G a = none

structure Loc (mg : Wd) (B : Base) (S : Addr → Prop) (ι : List Addr) (H : Hp) (lo : Lo) (σ : St) : Prop where
  len : lo.length = σ.length
  val : ∀ (i : Nat) m, lo[i]? = some (some (m, false)) → ∃ v, σ[i]? = some (some v) ∧ Dt mg S ι H v m
  own : ∀ (i : Nat) m, lo[i]? = some (some (m, true)) → ∃ a, σ[i]? = some (some (.ref a)) ∧ ¬ S a ∧ a ∉ ι ∧ B.New a ∧ Sh mg S ι H a m
  dis : ∀ (i j : Nat) m m' a, i ≠ j → lo[i]? = some (some (m, true)) → lo[j]? = some (some (m', true)) → σ[i]? = some (some (.ref a)) → σ[j]? ≠ some (some (.ref a))
  pin : ∀ (i : Nat) c fs, lo[i]? = some (some (.ins c fs, true)) → ∃ a, B.P = some a ∧ σ[i]? = some (some (.ref a))

structure Fm (mg : Wd) (B : Base) (S : Addr → Prop) (ι : List Addr) (H : Hp) (lo : Lo) (σ : St) (st : Sto) : Prop where
  ext : Ext B.S B.ι B.H S ι H
  rep : Rep mg S ι H st
  loc : Loc mg B S ι H lo σ
  g : ∀ a o, B.G a = some o → H a = some o ∧ a ∉ ι ∧ ¬ S a

/-- a value, by how it may be used -/
def RV (mg : Wd) (B : Base) (S : Addr → Prop) (ι : List Addr) (H : Hp) (lo : Lo) (σ : St) (v : V) (m : MV) : Kd → Prop
  | .fz => Dt mg S ι H v m
  | .fr => ∃ a, v = .ref a ∧ ¬ S a ∧ a ∉ ι ∧ B.New a ∧ Sh mg S ι H a m ∧ ∀ (i : Nat) m', lo[i]? = some (some (m', true)) → σ[i]? ≠ some (some (.ref a))
  | .pk i => ∃ a, v = .ref a ∧ lo[i]? = some (some (m, true)) ∧ σ[i]? = some (some (.ref a)) ∧ Sh mg S ι H a m

section
variable {mg : Wd} {S S' S2 : Addr → Prop} {ι ι' ι2 : List Addr} {H H' H2 : Hp} {B : Base} {lo lo' : Lo} {σ σ' : St} {st st' : Sto} {v : V} {m : MV}

abbrev b0 (S : Addr → Prop) (ι : List Addr) (H : Hp) : Base := { S := S, ι := ι, H := H }
theorem Rd.eq {a : Addr} {u : HO} (e : H' a = H a) (r : Rd H a u) : Rd H' a u := by
  rcases r with r | ⟨o, r⟩
  · exact .inl (e.trans r)
  · exact .inr ⟨o, e.trans r⟩

/-- what is frozen, and the places of the store, stay -/
structure Keep (S : Addr → Prop) (ι : List Addr) (H : Hp) (S' : Addr → Prop) (ι' : List Addr) (H' : Hp) : Prop where
  s : ∀ a, S a → S' a
  h : ∀ a, S a → H' a = H a
  i : ι <+: ι'
theorem Keep.refl : Keep S ι H S ι H := ⟨fun _ h => h, fun _ _ => rfl, List.prefix_refl _⟩
theorem Keep.trans (a : Keep S ι H S' ι' H') (b : Keep S' ι' H' S2 ι2 H2) : Keep S ι H S2 ι2 H2 :=
  ⟨fun x h => b.s x (a.s x h), fun x h => (b.h x (a.s x h)).trans (a.h x h), a.i.trans b.i⟩
theorem getp {α : Type} {l l' : List α} (p : l <+: l') {n : Nat} {a : α} (h : l[n]? = some a) : l'[n]? = some a := by
  obtain ⟨t, rfl⟩ := p
  rw [List.getElem?_append_left (List.getElem?_eq_some_iff.mp h).1]; exact h
theorem Dt.mono (k : Keep S ι H S' ι' H') (d : Dt mg S ι H v m) : Dt mg S' ι' H' v m := by
  induction d with
  | non => exact .non
  | bl b => exact .bl b
  | int i => exact .int i
  | str x => exact .str x
  | ref h => exact .ref (getp k.i h)
  | tup hs h hl _ ih => exact .tup (k.s _ hs) ((k.h _ hs).trans h) hl ih
  | lst hs h hl _ ih => exact .lst (k.s _ hs) ((k.h _ hs).trans h) hl ih
  | dct hs h hl hk _ ih => exact .dct (k.s _ hs) (Rd.eq (k.h _ hs) h) hl hk ih
  | dctT hs h hl hk _ ih => exact .dctT (k.s _ hs) (Rd.eq (k.h _ hs) h) hl hk ih
  | ins hs h hc hn _ ih => exact .ins (k.s _ hs) ((k.h _ hs).trans h) hc hn ih
  | exc hs h hd h2 hc hn _ ih => exact .exc (k.s _ hs) ((k.h _ hs).trans h) (k.s _ hd) ((k.h _ hd).trans h2) hc hn ih
  | exc0 hs h hc => exact .exc0 (k.s _ hs) ((k.h _ hs).trans h) hc
  | scr h => exact .scr (h.imp (fun ⟨hs, r⟩ => ⟨k.s _ hs, Rd.eq (k.h _ hs) r⟩) id)
theorem AllD.mono (k : Keep S ι H S' ι' H') {vs : List V} {ms : List MV} (d : AllD mg S ι H vs ms) : AllD mg S' ι' H' vs ms := ⟨d.1, fun i v m h1 h2 => (d.2 i v m h1 h2).mono k⟩
theorem AllD.nil : AllD mg S ι H [] [] := ⟨rfl, fun i v m h => by simp at h⟩
theorem AllD.cons {vs : List V} {ms : List MV} (d : Dt mg S ι H v m) (r : AllD mg S ι H vs ms) : AllD mg S ι H (v :: vs) (m :: ms) := by
  refine ⟨by simp [r.1], fun i w n h1 h2 => ?_⟩
  cases i with
  | zero => simp at h1 h2; subst h1; subst h2; exact d
  | succ i => exact r.2 i w n (by simpa using h1) (by simpa using h2)
theorem AllD.inv_cons {vs : List V} {ms : List MV} (r : AllD mg S ι H vs (m :: ms)) : ∃ v vs', vs = v :: vs' ∧ Dt mg S ι H v m ∧ AllD mg S ι H vs' ms := by
  cases vs with
  | nil => exact absurd r.1 (by simp)
  | cons v vs' => exact ⟨v, vs', rfl, r.2 0 v m rfl rfl, by have := r.1; simpa using this, fun i w n h1 h2 => r.2 (i + 1) w n (by simpa using h1) (by simpa using h2)⟩
theorem AllD.inv_nil {vs : List V} (r : AllD mg S ι H vs []) : vs = [] := List.length_eq_zero_iff.mp r.1
theorem AllD.append {vs ws : List V} {ms ns : List MV} (a : AllD mg S ι H vs ms) (b : AllD mg S ι H ws ns) : AllD mg S ι H (vs ++ ws) (ms ++ ns) := by
  refine ⟨by simp [a.1, b.1], fun i v m h1 h2 => ?_⟩
  by_cases hi : i < vs.length
  · rw [List.getElem?_append_left hi] at h1
    rw [List.getElem?_append_left (by rw [← a.1]; exact hi)] at h2
    exact a.2 i v m h1 h2
  · rw [List.getElem?_append_right (by omega)] at h1
    rw [List.getElem?_append_right (by have := a.1; omega)] at h2
    rw [a.1] at h1
    exact b.2 _ v m h1 h2
theorem AllD.get {vs : List V} {ms : List MV} (a : AllD mg S ι H vs ms) {i : Nat} (h : ms[i]? = some m) : ∃ v, vs[i]? = some v ∧ Dt mg S ι H v m := by
  have hi : i < vs.length := by rw [a.1]; exact (List.getElem?_eq_some_iff.mp h).1
  exact ⟨vs[i], by simp [hi], a.2 i _ m (by simp [hi]) h⟩
theorem AllD.set {vs : List V} {ms : List MV} (a : AllD mg S ι H vs ms) (d : Dt mg S ι H v m) (j : Nat) : AllD mg S ι H (vs.set j v) (ms.set j m) := by
  refine ⟨by simp [a.1], fun i w n h1 h2 => ?_⟩
  by_cases hj : j = i
  · subst hj
    by_cases hl : j < vs.length
    · rw [List.getElem?_set_self hl] at h1; rw [List.getElem?_set_self (by rw [← a.1]; exact hl)] at h2
      cases h1; cases h2; exact d
    · have : (vs.set j v)[j]? = none := List.getElem?_eq_none (by simp; omega)
      rw [this] at h1; cases h1
  · rw [List.getElem?_set_ne hj] at h1 h2
    exact a.2 i w n h1 h2
theorem AllD.take {vs : List V} {ms : List MV} (a : AllD mg S ι H vs ms) (n : Nat) : AllD mg S ι H (vs.take n) (ms.take n) := by
  refine ⟨by simp [a.1], fun i w k h1 h2 => ?_⟩
  rw [List.getElem?_take] at h1 h2
  split at h1
  · rw [if_pos (by assumption)] at h2; exact a.2 i w k h1 h2
  · cases h1
theorem AllD.drop {vs : List V} {ms : List MV} (a : AllD mg S ι H vs ms) (n : Nat) : AllD mg S ι H (vs.drop n) (ms.drop n) := by
  refine ⟨by simp [a.1], fun i w k h1 h2 => ?_⟩
  rw [List.getElem?_drop] at h1 h2
  exact a.2 _ w k h1 h2
theorem Ob.mono {o : HO} (k : Keep S ι H S' ι' H') (d : Ob mg S ι H o m) : Ob mg S' ι' H' o m := by
  cases m with
  | lst ms => obtain ⟨vs, h, d⟩ := d; exact ⟨vs, h, d.mono k⟩
  | tup ms => obtain ⟨vs, h, d⟩ := d; exact ⟨vs, h, d.mono k⟩
  | dct ps =>
    rcases d with ⟨kvs, h, l, d⟩ | ⟨kvs, h, l, d⟩
    · exact .inl ⟨kvs, h, l, fun i kv p h1 h2 => ⟨(d i kv p h1 h2).1, (d i kv p h1 h2).2.mono k⟩⟩
    · exact .inr ⟨kvs, h, l, fun i kv p h1 h2 => ⟨(d i kv p h1 h2).1, (d i kv p h1 h2).2.mono k⟩⟩
  | ins c ms => obtain ⟨C, dx, fs, h, hc, hn, d⟩ := d; exact ⟨C, dx, fs, h, hc, hn, fun i f m h1 h2 => (d i f m h1 h2).mono k⟩
  | _ => exact d.elim
theorem Sh.mono {a : Addr} (k : Keep S ι H S' ι' H') (e : H' a = H a) (d : Sh mg S ι H a m) : Sh mg S' ι' H' a m := by
  obtain ⟨o, h, d⟩ := d
  exact ⟨o, e.trans h, d.mono k⟩
theorem Sh.som {a : Addr} (d : Sh mg S ι H a m) : ∃ o, H a = some o := d.imp fun _ h => h.1

theorem Ext.refl : Ext S ι H S ι H := ⟨fun _ h => h, fun _ _ h _ => h, fun _ h => .inl h, List.prefix_refl _, fun _ h => .inl h⟩
theorem Ext.keep (r : Rep mg S ι H st) (x : Ext S ι H S' ι' H') : Keep S ι H S' ι' H' := by
  refine ⟨x.s, fun a h => ?_, x.i⟩
  obtain ⟨o, e⟩ := r.som a h
  rw [e]
  exact x.k a o e fun hm => r.sep a hm h
theorem none_back (x : Ext S ι H S' ι' H') {a : Addr} (hι : a ∉ ι) (h : H' a = none) : H a = none := by
  cases e : H a with
  | none => rfl
  | some o => rw [x.k a o e hι] at h; cases h
/-- a longer way: what is frozen at the middle was frozen or free ahead -/
theorem Ext.trans (x : Ext S ι H S' ι' H') (y : Ext S' ι' H' S2 ι2 H2) (hS : ∀ a, a ∈ ι → ¬ S2 a) : Ext S ι H S2 ι2 H2 := by
  refine ⟨fun a h => y.s a (x.s a h), fun a o e hn => ?_, fun a h => ?_, x.i.trans y.i, fun a h => ?_⟩
  · refine y.k a o (x.k a o e hn) fun hm => ?_
    rcases x.n a hm with z | z
    · exact hn z
    · rw [e] at z; cases z
  · rcases y.b a h with z | z
    · exact x.b a z
    · exact .inr (none_back x (fun hm => hS a hm h) z)
  · rcases y.n a h with z | z
    · exact x.n a z
    · by_cases hm : a ∈ ι
      · exact .inl hm
      · exact .inr (none_back x hm z)

theorem Rep.pre {S' : Addr → Prop} (r : Rep mg S' ι' H' st) (p : ι <+: ι') : ∀ a, a ∈ ι → ¬ S' a := fun a h => r.sep a (p.subset h)

/-- a step of the store and heap that keeps the frame's own things -/
theorem Fm.step (f : Fm mg B S ι H lo σ st) (x : Ext S ι H S' ι' H') (r : Rep mg S' ι' H' st') : Fm mg B S' ι' H' lo σ st' := by
  have k := x.keep f.rep
  have own : ∀ a o, H a = some o → a ∉ ι → ¬ S a → ¬ S' a ∧ a ∉ ι' ∧ H' a = H a := fun a o e n ns => by
    refine ⟨fun h => ?_, fun h => ?_, (x.k a o e n).trans e.symm⟩
    · rcases x.b a h with z | z
      · exact ns z
      · rw [e] at z; cases z
    · rcases x.n a h with z | z
      · exact n z
      · rw [e] at z; cases z
  refine ⟨f.ext.trans x fun a h => r.sep a ((f.ext.i.trans x.i).subset h), r, ⟨f.loc.len, fun i m h => ?_, fun i m h => ?_, f.loc.dis, f.loc.pin⟩, fun a o h => ?_⟩
  · obtain ⟨v, e, d⟩ := f.loc.val i m h
    exact ⟨v, e, d.mono k⟩
  · obtain ⟨a, e, h1, h2, h3, d⟩ := f.loc.own i m h
    obtain ⟨o, he⟩ := d.som
    obtain ⟨q1, q2, q3⟩ := own a o he h2 h1
    exact ⟨a, e, q1, q2, h3, d.mono k q3⟩
  · obtain ⟨q1, q2, q3⟩ := f.g a o h
    obtain ⟨r1, r2, r3⟩ := own a o q1 q2 q3
    exact ⟨r3.trans q1, r2, r1⟩
/-- .. and what has been reckoned meanwhile -/
theorem RV.step {k : Kd} (f : Fm mg B S ι H lo σ st) (x : Ext S ι H S' ι' H') (d : RV mg B S ι H lo σ v m k) : RV mg B S' ι' H' lo σ v m k := by
  have kk := x.keep f.rep
  cases k with
  | fz => exact Dt.mono kk d
  | fr =>
    obtain ⟨a, e, h1, h2, h3, d, h4⟩ := d
    obtain ⟨o, he⟩ := d.som
    refine ⟨a, e, fun h => ?_, fun h => ?_, h3, d.mono kk ((x.k a o he h2).trans he.symm), h4⟩
    · rcases x.b a h with z | z
      · exact h1 z
      · rw [he] at z; cases z
    · rcases x.n a h with z | z
      · exact h2 z
      · rw [he] at z; cases z
  | pk i =>
    obtain ⟨a, e, h1, h2, d⟩ := d
    obtain ⟨a', e', _, hn, _, _⟩ := f.loc.own i m h1
    rw [h2] at e'; cases e'
    obtain ⟨o, he⟩ := d.som
    exact ⟨a, e, h1, h2, d.mono kk ((x.k a o he hn).trans he.symm)⟩
/-- a new object -/
theorem Ext.new {a : Addr} {o : HO} (h : H a = none) : Ext S ι H S ι (upd H a o) :=
  ⟨fun _ h => h, fun b u e _ => by rw [upd_ne (ne_of_none e h)]; exact e, fun _ h => .inl h, List.prefix_refl _, fun _ h => .inl h⟩
theorem Rep.new {a : Addr} {o : HO} (r : Rep mg S ι H st) (h : H a = none) : Rep mg S ι (upd H a o) st := by
  have k : Keep S ι H S ι (upd H a o) := (Ext.new h).keep r
  refine ⟨r.len, r.nd, r.sep, fun b hb => ?_, fun n b m h1 h2 => ?_⟩
  · obtain ⟨u, e⟩ := r.som b hb
    exact ⟨u, by rw [upd_ne (ne_of_none e h)]; exact e⟩
  · have d := r.ent n b m h1 h2
    obtain ⟨u, e⟩ := d.som
    exact d.mono k (upd_ne (ne_of_none e h))
theorem Fm.free (f : Fm mg B S ι H lo σ st) {a : Addr} (h : H a = none) : ¬ S a ∧ a ∉ ι ∧ B.New a ∧ ∀ (i : Nat) m', lo[i]? = some (some (m', true)) → σ[i]? ≠ some (some (.ref a)) := by
  have hι : a ∉ ι := fun hm => by
    obtain ⟨n, hn⟩ := List.mem_iff_getElem?.mp hm
    have hl : n < st.length := by rw [← f.rep.len]; exact (List.getElem?_eq_some_iff.mp hn).1
    obtain ⟨o, e⟩ := (f.rep.ent n a st[n] hn (by simp [hl])).som
    rw [h] at e; cases e
  refine ⟨fun hs => ?_, hι, ⟨none_back f.ext (fun hm => hι (f.ext.i.subset hm)) h, ?_⟩, fun i m' h1 h2 => ?_⟩
  · obtain ⟨o, e⟩ := f.rep.som a hs
    rw [h] at e; cases e
  · cases e : B.G a with
    | none => rfl
    | some o =>
      have q := (f.g a o e).1
      rw [h] at q; cases q
  · obtain ⟨b, e, _, _, _, d⟩ := f.loc.own i m' h1
    rw [h2] at e; cases e
    obtain ⟨o, e⟩ := d.som
    rw [h] at e; cases e
theorem Fm.new {a : Addr} {o : HO} (f : Fm mg B S ι H lo σ st) (h : H a = none) : Fm mg B S ι (upd H a o) lo σ st := f.step (.new h) (f.rep.new h)
/-- a new object of ours is frozen -/
def fz1 (S : Addr → Prop) (a : Addr) : Addr → Prop := fun b => S b ∨ b = a
theorem Keep.fz1 {a : Addr} : Keep S ι H (fz1 S a) ι H := ⟨fun _ h => .inl h, fun _ _ => rfl, List.prefix_refl _⟩
theorem Fm.freeze {a : Addr} {o : HO} (f : Fm mg B S ι H lo σ st) (e : H a = some o) (h1 : a ∉ ι) (h2 : B.New a) (h3 : ∀ (i : Nat) m', lo[i]? = some (some (m', true)) → σ[i]? ≠ some (some (.ref a))) :
    Fm mg B (fz1 S a) ι H lo σ st := by
  have k : Keep S ι H (fz1 S a) ι H := .fz1
  refine ⟨⟨fun b h => .inl (f.ext.s b h), f.ext.k, fun b h => ?_, f.ext.i, f.ext.n⟩, ⟨f.rep.len, f.rep.nd, fun b hb h => ?_, fun b h => ?_, fun n b m q1 q2 => (f.rep.ent n b m q1 q2).mono k rfl⟩,
    ⟨f.loc.len, fun i m h => ?_, fun i m h => ?_, f.loc.dis, f.loc.pin⟩, fun b u hb => ?_⟩
  · rcases h with h | rfl
    · exact f.ext.b b h
    · exact .inr h2.1
  · rcases h with h | rfl
    · exact f.rep.sep b hb h
    · exact h1 hb
  · rcases h with h | rfl
    · exact f.rep.som b h
    · exact ⟨o, e⟩
  · obtain ⟨v, q, d⟩ := f.loc.val i m h
    exact ⟨v, q, d.mono k⟩
  · obtain ⟨b, q, n1, n2, n3, d⟩ := f.loc.own i m h
    refine ⟨b, q, fun hb => ?_, n2, n3, d.mono k rfl⟩
    rcases hb with hb | rfl
    · exact n1 hb
    · exact h3 i m h q
  · obtain ⟨q1, q2, q3⟩ := f.g b u hb
    refine ⟨q1, q2, fun z => ?_⟩
    rcases z with z | rfl
    · exact q3 z
    · rw [h2.2] at hb; cases hb
theorem Sh.frozen {a : Addr} (hs : S a) (d : Sh mg S ι H a m) : Dt mg S ι H (.ref a) m := by
  obtain ⟨o, e, d⟩ := d
  cases m with
  | lst ms => obtain ⟨vs, rfl, l, d⟩ := d; exact .lst hs e l d
  | tup ms => obtain ⟨vs, rfl, l, d⟩ := d; exact .tup hs e l d
  | dct ps =>
    rcases d with ⟨kvs, rfl, l, d⟩ | ⟨kvs, rfl, l, d⟩
    · exact .dct hs (.of e) l (fun i kv p h1 h2 => (d i kv p h1 h2).1) fun i kv p h1 h2 => (d i kv p h1 h2).2
    · exact .dctT hs (.of e) l (fun i kv p h1 h2 => (d i kv p h1 h2).1) fun i kv p h1 h2 => (d i kv p h1 h2).2
  | ins c ms => obtain ⟨C, dx, fs, rfl, hc, hn, d⟩ := d; exact .ins hs e hc hn d
  | _ => exact d.elim
/-- frozen whatever it was, but not a frame's own thing -/
theorem RV.freeze {k : Kd} (f : Fm mg B S ι H lo σ st) (d : RV mg B S ι H lo σ v m k) (hk : ∀ i, k ≠ .pk i) : ∃ S', Fm mg B S' ι H lo σ st ∧ Keep S ι H S' ι H ∧ Dt mg S' ι H v m := by
  cases k with
  | fz => exact ⟨S, f, .refl, d⟩
  | fr =>
    obtain ⟨a, rfl, h1, h2, h3, d, h4⟩ := d
    obtain ⟨o, e⟩ := d.som
    exact ⟨fz1 S a, f.freeze e h2 h3 h4, .fz1, (d.mono .fz1 rfl).frozen (.inr rfl)⟩
  | pk i => exact absurd rfl (hk i)
end
end FW

namespace FW
open PySem L2

inductive Res (α : Type) where
  | ok (a : α)
  | exc (c : Str) (fs : List (Str × MV)) (lo : Lo) (st : Sto)
  | bad
def Res.bind {α β : Type} : Res α → (α → Res β) → Res β
  | .ok a, f => f a
  | .exc c fs lo st, _ => .exc c fs lo st
  | .bad, _ => .bad
instance : Monad Res where
  pure := .ok
  bind := Res.bind
@[simp] theorem Res.ok_bind {α β : Type} (a : α) (f : α → Res β) : (Res.ok a >>= f) = f a := rfl
@[simp] theorem Res.pure_bind' {α β : Type} (a : α) (f : α → Res β) : ((pure a : Res α) >>= f) = f a := rfl
@[simp] theorem Res.exc_bind {α β : Type} (c fs lo st) (f : α → Res β) : ((Res.exc c fs lo st : Res α) >>= f) = .exc c fs lo st := rfl
@[simp] theorem Res.bad_bind {α β : Type} (f : α → Res β) : ((Res.bad : Res α) >>= f) = .bad := rfl
@[simp] theorem Res.pure_eq {α : Type} (a : α) : (pure a : Res α) = .ok a := rfl

abbrev EF := Lo → Sto → Res (MV × Kd × Sto)
abbrev TF := Lo → Sto → Res (Bool × Sto)
/-- arguments: each with whether it is a frame's own thing -/
abbrev AF := Lo → Sto → Res (List (MV × Bool) × Sto)
inductive Fl where | nx | rt (m : MV) (k : Kd) | bk | ct
abbrev SF := Lo → Sto → Res (Fl × Lo × Sto)

/-- what a value shows: a place of the store by what stands there -/
def vw (st : Sto) : MV → MV
  | .ref n => (st[n]?).getD (.ref n)
  | m => m

/-- an exception that flies -/
def XR (mg : Wd) (S : Addr → Prop) (ι : List Addr) (H : Hp) (c : Str) (fs : List (Str × MV)) (cls : Value) (d : Option Addr) : Prop :=
  ∃ C, cls = .ref C ∧ mg.mg c = some (.ref C) ∧ ((fs = [] ∧ d = none) ∨
    ∃ dd vs, d = some dd ∧ S dd ∧ H dd = some (.xd vs) ∧ vs.map (·.1) = fs.map (·.1) ∧ ∀ (i : Nat) f m, vs[i]? = some f → fs[i]? = some m → Dt mg S ι H f.2 m.2)

section
variable (mg : Wd) (B : Base) (W : WX)
def XPost (S : Addr → Prop) (ι : List Addr) (H : Hp) (c : Str) (fs : List (Str × MV)) (lo : Lo) (st : Sto) : Prop :=
  ∀ S' ι' σ' H' cls d, Fm mg B S' ι' H' lo σ' st → Keep S ι H S' ι' H' → XR mg S' ι' H' c fs cls d → W cls d σ' H'
def Post (S : Addr → Prop) (ι : List Addr) (H : Hp) {α : Type} (P : α → Prop) : Res α → Prop
  | .ok a => P a
  | .exc c fs lo st => XPost mg B W S ι H c fs lo st
  | .bad => False
def tE (f : EF) : TE := fun σ H Q => ∃ S ι lo st, Fm mg B S ι H lo σ st ∧ Post mg B W S ι H (fun r => ∀ S' ι' H' v, Fm mg B S' ι' H' lo σ r.2.2 → Keep S ι H S' ι' H' → RV mg B S' ι' H' lo σ v r.1 r.2.1 → Q v H') (f lo st)
def tT (f : TF) : TT := fun σ H Q => ∃ S ι lo st, Fm mg B S ι H lo σ st ∧ Post mg B W S ι H (fun r => ∀ S' ι' H', Fm mg B S' ι' H' lo σ r.2 → Keep S ι H S' ι' H' → Q r.1 H') (f lo st)
end

section
variable {mg : Wd} {B : Base} {W : WX} {S S' S2 : Addr → Prop} {ι ι' ι2 : List Addr} {H H' H2 : Hp} {lo lo' : Lo} {σ σ' : St} {st st' : Sto} {v : V} {m : MV} {α β : Type}
theorem XPost.mono {c fs} (k : Keep S ι H S' ι' H') (x : XPost mg B W S ι H c fs lo st) : XPost mg B W S' ι' H' c fs lo st := fun S2 ι2 σ2 H2 cls d f k2 r => x S2 ι2 σ2 H2 cls d f (k.trans k2) r
theorem Post.mono {P P' : α → Prop} {r : Res α} (k : Keep S ι H S' ι' H') (h : ∀ a, P a → P' a) (x : Post mg B W S ι H P r) : Post mg B W S' ι' H' P' r := by
  cases r with
  | ok a => exact h a x
  | exc c fs lo st => exact XPost.mono k x
  | bad => exact x
theorem Post.imp {P P' : α → Prop} {r : Res α} (h : ∀ a, P a → P' a) (x : Post mg B W S ι H P r) : Post mg B W S ι H P' r := x.mono .refl h
theorem Post.bind {P : β → Prop} {r : Res α} {f : α → Res β} (x : Post mg B W S ι H P (r >>= f)) : Post mg B W S ι H (fun a => Post mg B W S ι H P (f a)) r := by
  cases r with
  | ok a => exact x
  | exc c fs lo st => exact x
  | bad => exact x
/-- a part is reckoned first -/
theorem tE.use {f : EF} {P : MV × Kd × Sto → Prop} {Q : VK} (fm : Fm mg B S ι H lo σ st) (p : Post mg B W S ι H P (f lo st))
    (h : ∀ m k st' S' ι' H' v, Fm mg B S' ι' H' lo σ st' → Keep S ι H S' ι' H' → RV mg B S' ι' H' lo σ v m k → P (m, k, st') → Q v H') : tE mg B W f σ H Q :=
  ⟨S, ι, lo, st, fm, p.imp fun ⟨m, k, st'⟩ hp S' ι' H' v fm' kp rv => h m k st' S' ι' H' v fm' kp rv hp⟩
theorem tT.use {f : TF} {P : Bool × Sto → Prop} {Q : Bool → Hp → Prop} (fm : Fm mg B S ι H lo σ st) (p : Post mg B W S ι H P (f lo st))
    (h : ∀ b st' S' ι' H', Fm mg B S' ι' H' lo σ st' → Keep S ι H S' ι' H' → P (b, st') → Q b H') : tT mg B W f σ H Q :=
  ⟨S, ι, lo, st, fm, p.imp fun ⟨b, st'⟩ hp S' ι' H' fm' kp => h b st' S' ι' H' fm' kp hp⟩
end

theorem _root_.L2.PE.fw {X : Cx} {e : Expr} {t t' : TE} (h : PE X e t) (i : ∀ σ H Q, t' σ H Q → t σ H Q) : PE X e t' := ⟨fun pins s σ H Q I q => h.run pins s σ H Q I (i σ H Q q)⟩
theorem _root_.L2.PT.fw {X : Cx} {e : Expr} {t t' : TT} (h : PT X e t) (i : ∀ σ H Q, t' σ H Q → t σ H Q) : PT X e t' := ⟨fun pins s σ H Q I q => h.run pins s σ H Q I (i σ H Q q)⟩
theorem _root_.L2.PA.fw {X : Cx} {e : List Expr} {t t' : TA} (h : PA X e t) (i : ∀ σ H Q, t' σ H Q → t σ H Q) : PA X e t' := ⟨fun pos pins s σ H Q I q => h.run pos pins s σ H Q I (i σ H Q q)⟩
theorem _root_.L2.PS.fw {X : Cx} {e : Stmt} {t t' : TS} (h : PS X e t) (i : ∀ D σ H, t' D σ H → t D σ H) : PS X e t' := ⟨fun pins s σ H D I q => h.run pins s σ H D I (i D σ H q)⟩
theorem _root_.L2.PSs.fw {X : Cx} {e : List Stmt} {t t' : TS} (h : PSs X e t) (i : ∀ D σ H, t' D σ H → t D σ H) : PSs X e t' := ⟨fun pins s σ H D I q => h.run pins s σ H D I (i D σ H q)⟩
theorem _root_.L2.PI.fw {X : Cx} {tg it : Expr} {t t' : TI} (h : PI X tg it t) (i : ∀ σ H Q, t' σ H Q → t σ H Q) : PI X tg it t' := ⟨fun pins s σ H Q I q => h.run pins s σ H Q I (i σ H Q q)⟩

abbrev SE (X : Cx) (B : Base) (W : WX) (e : Expr) (f : EF) : Prop := PE X e (tE X.wd B W f)
abbrev STe (X : Cx) (B : Base) (W : WX) (e : Expr) (f : TF) : Prop := PT X e (tT X.wd B W f)

section
variable (mg : Wd) (S : Addr → Prop) (ι : List Addr) (H : Hp)
def VR (x : V) : MV → Prop
  | .non => x = .non
  | .bl b => x = .bl b
  | .int i => x = .int i
  | .str s => x = .str s
  | .lst ms => ∃ p vs, x = .ref p ∧ H p = some (.lst vs) ∧ AllD mg S ι H vs ms
  | .tup ms => ∃ p vs, x = .ref p ∧ H p = some (.tup vs) ∧ AllD mg S ι H vs ms
  | .dct ps => ∃ p, x = .ref p ∧ ((∃ kvs : List (Key × V), Rd H p (.dK kvs) ∧ kvs.length = ps.length ∧ ∀ (i : Nat) kv q, kvs[i]? = some kv → ps[i]? = some q → q.1 = kM kv.1 ∧ Dt mg S ι H kv.2 q.2) ∨
      ∃ kvs : List (List Key × V), Rd H p (.dT kvs) ∧ kvs.length = ps.length ∧ ∀ (i : Nat) kv q, kvs[i]? = some kv → ps[i]? = some q → q.1 = .tup (kv.1.map kM) ∧ Dt mg S ι H kv.2 q.2)
  | .ins c ms => ∃ p C dx fs, x = .ref p ∧ H p = some (.ins C dx fs) ∧ mg.mg c = some (.ref C) ∧ fs.map (·.1) = ms.map (·.1) ∧ ∀ (i : Nat) f m, fs[i]? = some f → ms[i]? = some m → Dt mg S ι H f.2 m.2
  | .exc c ms => ∃ p C, x = .ref p ∧ mg.mg c = some (.ref C) ∧ ((ms = [] ∧ H p = some (exO C none p)) ∨ ∃ dd fs, H p = some (exO C (some dd) p) ∧ S dd ∧ H dd = some (.xd fs) ∧ fs.map (·.1) = ms.map (·.1) ∧ ∀ (i : Nat) f m, fs[i]? = some f → ms[i]? = some m → Dt mg S ι H f.2 m.2)
  | .scr ns => ∃ p, x = .ref p ∧ SqL mg.K H p (ns.map V.int)
  | .ref _ => False
end
section
variable {mg : Wd} {B : Base} {W : WX} {S S' S2 : Addr → Prop} {ι ι' ι2 : List Addr} {H H' H2 : Hp} {lo lo' : Lo} {σ σ' : St} {st st' : Sto} {v : V} {m : MV} {α β : Type}
theorem Sh.vr {a : Addr} (d : Sh mg S ι H a m) : VR mg S ι H (.ref a) m := by
  obtain ⟨o, e, d⟩ := d
  cases m with
  | lst ms => obtain ⟨vs, rfl, d⟩ := d; exact ⟨a, vs, rfl, e, d⟩
  | tup ms => obtain ⟨vs, rfl, d⟩ := d; exact ⟨a, vs, rfl, e, d⟩
  | dct ps =>
    rcases d with ⟨kvs, rfl, l, d⟩ | ⟨kvs, rfl, l, d⟩
    · exact ⟨a, rfl, .inl ⟨kvs, .of e, l, d⟩⟩
    · exact ⟨a, rfl, .inr ⟨kvs, .of e, l, d⟩⟩
  | ins c ms => obtain ⟨C, dx, fs, rfl, hc, hn, d⟩ := d; exact ⟨a, C, dx, fs, rfl, e, hc, hn, d⟩
  | _ => exact d.elim
theorem vw_of_vr {x : V} (h : VR mg S ι H x m) (st : Sto) : vw st m = m := by
  cases m with
  | ref n => exact h.elim
  | _ => rfl
theorem Dt.vr (r : Rep mg S ι H st) (d : Dt mg S ι H v m) : VR mg S ι H v (vw st m) := by
  cases d with
  | non => rfl
  | bl b => rfl
  | int i => rfl
  | str x => rfl
  | @ref n a h =>
    have hl : n < st.length := by rw [← r.len]; exact (List.getElem?_eq_some_iff.mp h).1
    have e : st[n]? = some st[n] := by simp [hl]
    show VR mg S ι H (.ref a) ((st[n]?).getD (.ref n))
    rw [e]
    exact (r.ent n a _ h e).vr
  | tup hs h hl hi => exact ⟨_, _, rfl, h, hl, hi⟩
  | lst hs h hl hi => exact ⟨_, _, rfl, h, hl, hi⟩
  | dct hs h hl hk hi => exact ⟨_, rfl, .inl ⟨_, h, hl, fun i kv q h1 h2 => ⟨hk i kv q h1 h2, hi i kv q h1 h2⟩⟩⟩
  | dctT hs h hl hk hi => exact ⟨_, rfl, .inr ⟨_, h, hl, fun i kv q h1 h2 => ⟨hk i kv q h1 h2, hi i kv q h1 h2⟩⟩⟩
  | ins hs h hc hn hi => exact ⟨_, _, _, _, rfl, h, hc, hn, hi⟩
  | exc hs h hd h2 hc hn hi => exact ⟨_, _, rfl, hc, .inr ⟨_, _, h, hd, h2, hn, hi⟩⟩
  | exc0 hs h hc => exact ⟨_, _, rfl, hc, .inl ⟨rfl, h⟩⟩
  | scr h => exact ⟨_, rfl, h.elim (fun q => .inl q.2) fun q => q H⟩
/-- a value in hand while more is reckoned: frozen, unless it is a frame's own thing -/
def Hand (mg : Wd) (S : Addr → Prop) (ι : List Addr) (H : Hp) (lo : Lo) (σ : St) (v : V) (m : MV) (own : Bool) : Prop :=
  match own with
  | false => Dt mg S ι H v m
  | true => ∃ (i : Nat) (a : Addr), v = .ref a ∧ lo[i]? = some (some (m, true)) ∧ σ[i]? = some (some (.ref a))
theorem Hand.mono {b : Bool} (k : Keep S ι H S' ι' H') (h : Hand mg S ι H lo σ v m b) : Hand mg S' ι' H' lo σ v m b := by
  cases b with
  | false => exact Dt.mono k h
  | true => exact h
theorem Hand.vr {b : Bool} (f : Fm mg B S ι H lo σ st) (h : Hand mg S ι H lo σ v m b) : VR mg S ι H v (vw st m) := by
  cases b with
  | false => exact Dt.vr f.rep h
  | true =>
    obtain ⟨i, a, rfl, h1, h2⟩ := h
    obtain ⟨a', e, _, _, _, d⟩ := f.loc.own i m h1
    rw [h2] at e; cases e
    have := d.vr
    rw [vw_of_vr this]; exact this
def isPk : Kd → Bool
  | .pk _ => true
  | _ => false
theorem RV.hand {k : Kd} (f : Fm mg B S ι H lo σ st) (d : RV mg B S ι H lo σ v m k) : ∃ S', Fm mg B S' ι H lo σ st ∧ Keep S ι H S' ι H ∧ Hand mg S' ι H lo σ v m (isPk k) := by
  cases k with
  | pk i =>
    obtain ⟨a, e, h1, h2, _⟩ := d
    exact ⟨S, f, .refl, i, a, e, h1, h2⟩
  | fz => exact ⟨S, f, .refl, d⟩
  | fr => exact RV.freeze f d (fun i => by intro z; cases z)
end

def mVar (i : Nat) : EF := fun lo st => match lo[i]? with
  | some (some (m, false)) => .ok (m, .fz, st)
  | some (some (m, true)) => .ok (m, .pk i, st)
  | _ => .bad
def mC (m : MV) : EF := fun _ st => .ok (m, .fz, st)
section
variable {X : Cx} {B : Base} {W : WX}
theorem se_var (i : Nat) {x : Str} {pos : Pos} (hN : X.N[i]? = some x := by rfl) (hv : Vis X.env.scope x := by first | exact Or.inl rfl | exact Or.inr (Or.inl rfl) | exact Or.inr (Or.inr rfl)) (hd : (x == ("__debug__" : Str)) = false := by decide)
    (hcd : (x == ("__classdict__" : Str)) = false := by decide) : SE X B W (.Name x pos) (mVar i) := by
  refine (pe_var (i := i) hN hv hd hcd).fw fun σ H Q ⟨S, ι, lo, st, f, p⟩ => ?_
  unfold mVar at p
  split at p
  · rename_i m e
    obtain ⟨v, h, d⟩ := f.loc.val i m e
    exact ⟨v, h, p S ι H v f .refl d⟩
  · rename_i m e
    obtain ⟨a, h, h1, h2, h3, d⟩ := f.loc.own i m e
    exact ⟨_, h, p S ι H _ f .refl ⟨a, rfl, e, h, d⟩⟩
  · exact p.elim
theorem se_int {i j pos} : SE X B W (.Constant (.int i) j pos) (mC (.int i)) := pe_int.fw fun σ H Q ⟨S, ι, lo, st, f, p⟩ => p S ι H _ f .refl (.int i)
theorem se_bl {b j pos} : SE X B W (.Constant (.bool b) j pos) (mC (.bl b)) := pe_bl.fw fun σ H Q ⟨S, ι, lo, st, f, p⟩ => p S ι H _ f .refl (.bl b)
theorem se_non {j pos} : SE X B W (.Constant .none j pos) (mC .non) := pe_non.fw fun σ H Q ⟨S, ι, lo, st, f, p⟩ => p S ι H _ f .refl .non
theorem se_str {x j pos} : SE X B W (.Constant (.str x) j pos) (mC (.str x)) := pe_str.fw fun σ H Q ⟨S, ι, lo, st, f, p⟩ => p S ι H _ f .refl (.str x)
/-- a global name whose value is a plain one -/
theorem se_glob {x : Str} {u : Value} {v : V} {m : MV} {pos : Pos} (hg : Gl X x) (hm : X.mg x = some u) (r : RelV v u) (d : ∀ S ι H, Dt X.wd S ι H v m) (hd : (x == ("__debug__" : Str)) = false := by decide) : SE X B W (.Name x pos) (mC m) :=
  (pe_glob hg hm r hd).fw fun σ H Q ⟨S, ι, lo, st, f, p⟩ => p S ι H _ f .refl (d S ι H)

/-- what comes of values: a plain one (false) or a new object (true) -/
abbrev G2 := Sto → MV → MV → Option (MV × Bool)
def NewOf (mg : Wd) (S : Addr → Prop) (ι : List Addr) (H : Hp) (m : MV) (Q : VK) : Prop := ∀ p o, H p = none → Ob mg S ι H o m → Q (.ref p) (upd H p o)
/-- what is wanted of the value m: plain, or new -/
def Wants (mg : Wd) (S : Addr → Prop) (ι : List Addr) (H : Hp) (Q : VK) : MV × Bool → Prop
  | (m, false) => ∀ v, Dt mg S ι H v m → Q v H
  | (m, true) => NewOf mg S ι H m Q
def Op2 (X : Cx) (r : R2) (g : G2) : Prop := ∀ S ι H st x y a b z Q, Rep X.wd S ι H st → VR X.wd S ι H x a → VR X.wd S ι H y b → g st a b = some z → Wants X.wd S ι H Q z → r x y H Q
def mOp (g : G2) (fa fb : EF) : EF := fun lo st => fa lo st >>= fun (a, _, st1) => fb lo st1 >>= fun (b, _, st2) =>
  match g st2 (vw st2 a) (vw st2 b) with
  | some (m, true) => .ok (m, .fr, st2)
  | some (m, false) => .ok (m, .fz, st2)
  | none => .bad
/-- a result given out -/
theorem wants_of {mg : Wd} {S S0 : Addr → Prop} {ι ι0 : List Addr} {H H0 : Hp} {lo : Lo} {σ : St} {st : Sto} {z : MV × Bool} {Q : VK} {st2 : Sto} (f : Fm mg B S ι H lo σ st)
    (p : ∀ S' ι' H' v, Fm mg B S' ι' H' lo σ st → Keep S0 ι0 H0 S' ι' H' → RV mg B S' ι' H' lo σ v z.1 (if z.2 = true then .fr else .fz) → Q v H') (k : Keep S0 ι0 H0 S ι H) : Wants mg S ι H Q z := by
  obtain ⟨m, b⟩ := z
  cases b with
  | false => exact fun v d => p S ι H v f k d
  | true =>
    intro q o hq d
    obtain ⟨h1, h2, h3, h4⟩ := f.free hq
    exact p S ι (upd H q o) _ (f.new hq) (k.trans ((Ext.new hq).keep f.rep)) ⟨q, rfl, h1, h2, h3, ⟨o, upd_same, d.mono ((Ext.new hq).keep f.rep)⟩, h4⟩
theorem op_imp {g : G2} {r : R2} (ok : Op2 X r g) {fa fb : EF} : ∀ σ H Q, tE X.wd B W (mOp g fa fb) σ H Q → tOp r (tE X.wd B W fa) (tE X.wd B W fb) σ H Q := by
  intro σ H Q ⟨S, ι, lo, st, f, p⟩
  refine tE.use f (Post.bind p) fun a ka st1 S1 ι1 H1 x f1 k1 r1 p1 => ?_
  obtain ⟨S1', f1', k1', h1⟩ := r1.hand f1
  refine tE.use f1' (Post.bind (p1.mono (k1.trans k1') fun _ z => z)) fun b kb st2 S2 ι2 H2 y f2 k2 r2 p2 => ?_
  obtain ⟨S2', f2', k2', h2⟩ := r2.hand f2
  have k0 : Keep S ι H S2' ι2 H2 := k1.trans (k1'.trans (k2.trans k2'))
  have v1 := (h1.mono (k2.trans k2')).vr f2'
  have v2 := h2.vr f2'
  dsimp only at p2
  split at p2
  · rename_i m e
    exact ok S2' ι2 H2 _ x y _ _ _ Q f2'.rep v1 v2 e (wants_of (z := (m, true)) (st2 := st2) f2' p2 k0)
  · rename_i m e
    exact ok S2' ι2 H2 _ x y _ _ _ Q f2'.rep v1 v2 e (wants_of (z := (m, false)) (st2 := st2) f2' p2 k0)
  · exact p2.elim
variable {a b : Expr} {pos : Pos} {fa fb : EF}
theorem se_op {op : Operator} {r : R2} {g : G2} (ho : OpR X (binaryOp op) r) (ok : Op2 X r g) (ha : SE X B W a fa) (hb : SE X B W b fb) : SE X B W (.BinOp a op b pos) (mOp g fa fb) := (pe_op ho ha hb).fw (op_imp ok)
theorem se_cmp {op : CmpOp} {r : R2} {g : G2} (ho : OpR X (compareOp op) r) (ok : Op2 X r g) (ha : SE X B W a fa) (hb : SE X B W b fb) (hm : behindInMarks op b = false := by first | exact nomark _ | rfl) : SE X B W (.Compare a [op] [b] pos) (mOp g fa fb) := (pe_cmpR ho ha hb hm).fw (op_imp ok)
end
end FW

namespace FW
open PySem L2 PySem.Spec PyProof.Rows

section
variable {X : Cx}
def gAdd : G2
  | _, .int i, .int j => some (.int (i + j), false)
  | _, .str x, .str y => if x.length + y.length ≤ sizeLine then some (.str (x ++ y), false) else none
  | _, .lst xs, .lst ys => if xs.length + ys.length ≤ sizeLine then some (.lst (xs ++ ys), true) else none
  | _, _, _ => none
abbrev rAdd3 : R2 := fun x y H Q => (rI0 fun i j => .int (i + j)) x y H Q ∨ ((∃ i j, x = .str i ∧ y = .str j ∧ i.length + j.length ≤ sizeLine ∧ Q (.str (i ++ j)) H) ∨ rCat x y H Q)
theorem op_add3 : OpR X (binaryOp .Add) rAdd3 := op_add.or (op_add_str.or op_cat)
theorem ok_add : Op2 X rAdd3 gAdd := by
  intro S ι H st x y a b z Q hr ha hb e w
  unfold gAdd at e
  split at e
  · cases e; cases ha; cases hb
    exact .inl ⟨_, _, rfl, rfl, w _ (.int _)⟩
  · split at e
    · cases e; cases ha; cases hb
      exact .inr (.inl ⟨_, _, rfl, rfl, by assumption, w _ (.str _)⟩)
    · cases e
  · split at e
    · rename_i hl
      cases e
      obtain ⟨p, vs, rfl, h1, d1⟩ := ha
      obtain ⟨q, ws, rfl, h2, d2⟩ := hb
      exact .inr (.inr ⟨p, q, vs, ws, rfl, rfl, h1, h2, by rw [d1.1, d2.1]; exact hl, fun r hr => w r _ hr ⟨_, rfl, d1.append d2⟩⟩)
    · cases e
  · cases e
/-- two ints, by a rule of ints -/
def gII (C : Int → Int → Prop) [∀ i j, Decidable (C i j)] (g : Int → Int → MV) : G2
  | _, .int i, .int j => if C i j then some (g i j, false) else none
  | _, _, _ => none
theorem ok_ii {C : Int → Int → Prop} [∀ i j, Decidable (C i j)] {g : Int → Int → MV} {g' : Int → Int → V} (hg : ∀ mg S ι H i j, Dt mg S ι H (g' i j) (g i j)) : Op2 X (rI C g') (gII C g) := by
  intro S ι H st x y a b z Q hr ha hb e w
  unfold gII at e
  split at e
  · split at e
    · cases e; cases ha; cases hb
      exact ⟨_, _, rfl, rfl, by assumption, w _ (hg _ _ _ _ _ _)⟩
    · cases e
  · cases e
def gI0 (g : Int → Int → MV) : G2
  | _, .int i, .int j => some (g i j, false)
  | _, _, _ => none
theorem ok_i0 {g : Int → Int → MV} {g' : Int → Int → V} (hg : ∀ mg S ι H i j, Dt mg S ι H (g' i j) (g i j)) : Op2 X (rI0 g') (gI0 g) := by
  intro S ι H st x y a b z Q hr ha hb e w
  unfold gI0 at e
  split at e
  · cases e; cases ha; cases hb
    exact ⟨_, _, rfl, rfl, w _ (hg _ _ _ _ _ _)⟩
  · cases e
theorem Op2.or {r r' : R2} {g g' : G2} (h : Op2 X r g) (h' : Op2 X r' g') : Op2 X (fun x y H Q => r x y H Q ∨ r' x y H Q) (fun st a b => (g st a b).or (g' st a b)) := by
  intro S ι H st x y a b z Q hr ha hb e w
  dsimp only at e
  cases q : g st a b with
  | some u =>
    rw [q] at e
    have e' : u = z := by simpa using e
    subst e'
    exact .inl (h S ι H st x y a b u Q hr ha hb q w)
  | none =>
    rw [q] at e
    exact .inr (h' S ι H st x y a b z Q hr ha hb (by simpa using e) w)
abbrev gSub : G2 := gI0 fun i j => .int (i - j)
instance : ∀ i j : Int, Decidable (CMulW i j) := fun i j => by unfold CMulW; infer_instance
instance : ∀ i j : Int, Decidable (CMul i j) := fun i j => by unfold CMul; infer_instance
instance : ∀ i j : Int, Decidable (CDivW i j) := fun i j => by unfold CDivW; infer_instance
def gRep : G2
  | _, .lst xs, .int k => if -(2 ^ 63) ≤ k ∧ k < 2 ^ 63 ∧ xs.length * k.toNat ≤ sizeLine then some (.lst (List.replicate k.toNat xs).flatten, true) else none
  | _, _, _ => none
theorem AllD.rep {mg : Wd} {S : Addr → Prop} {ι : List Addr} {H : Hp} {vs : List V} {ms : List MV} (d : AllD mg S ι H vs ms) : ∀ k : Nat, AllD mg S ι H (List.replicate k vs).flatten (List.replicate k ms).flatten
  | 0 => AllD.nil
  | k + 1 => by
    rw [List.replicate_succ, List.replicate_succ, List.flatten_cons, List.flatten_cons]
    exact d.append (d.rep k)
theorem ok_rep : Op2 X rRep gRep := by
  intro S ι H st x y a b z Q hr ha hb e w
  unfold gRep at e
  split at e
  · split at e
    · rename_i hl
      cases e
      obtain ⟨p, vs, rfl, h1, d1⟩ := ha
      cases hb
      exact ⟨p, _, vs, rfl, rfl, h1, hl.1, hl.2.1, by rw [d1.1]; exact hl.2.2, fun r hr => w r _ hr ⟨_, rfl, d1.rep _⟩⟩
    · cases e
  · cases e
abbrev gMul : G2 := fun st a b => (gII CMulW (fun i j => .int (i * j)) st a b).or (gRep st a b)
theorem op_mul2 : OpR X (binaryOp .Mult) (fun x y H Q => (rI CMulW fun i j => .int (i * j)) x y H Q ∨ rRep x y H Q) := op_mulW.or op_rep
theorem ok_mul : Op2 X (fun x y H Q => (rI CMulW fun i j => .int (i * j)) x y H Q ∨ rRep x y H Q) gMul := Op2.or (ok_ii fun _ _ _ _ _ _ => .int _) ok_rep
abbrev gDiv : G2 := gII CDivW fun i j => .int (i / j)
abbrev gMod : G2 := gII (fun _ j => 0 < j) fun i j => .int (i % j)
def CPowW (i j : Int) : Prop := 0 ≤ j ∧ (Builtin.Int.intBits i : Int) * j ≤ 2 ^ 27
instance : ∀ i j : Int, Decidable (CPowW i j) := fun i j => by unfold CPowW; infer_instance
abbrev gPow : G2 := gII CPowW fun i j => .int (i ^ j.toNat)
theorem op_powW : OpR X (binaryOp .Pow) (rI CPowW fun i j => .int (i ^ j.toNat)) := opI fun _ _ _ _ _ _ _ hc q => pow_int hc.1 hc.2 q
section
variable {B : Base} {W : WX} {a b : Expr} {pos : Pos} {fa fb : EF}
theorem se_add (ha : SE X B W a fa) (hb : SE X B W b fb) : SE X B W (.BinOp a .Add b pos) (mOp gAdd fa fb) := se_op op_add3 ok_add ha hb
theorem se_sub (ha : SE X B W a fa) (hb : SE X B W b fb) : SE X B W (.BinOp a .Sub b pos) (mOp gSub fa fb) := se_op op_sub (ok_i0 fun _ _ _ _ _ _ => .int _) ha hb
theorem se_mul (ha : SE X B W a fa) (hb : SE X B W b fb) : SE X B W (.BinOp a .Mult b pos) (mOp gMul fa fb) := se_op op_mul2 ok_mul ha hb
theorem se_fdiv (ha : SE X B W a fa) (hb : SE X B W b fb) : SE X B W (.BinOp a .FloorDiv b pos) (mOp gDiv fa fb) := se_op op_fdivW (ok_ii fun _ _ _ _ _ _ => .int _) ha hb
theorem se_mod (ha : SE X B W a fa) (hb : SE X B W b fb) : SE X B W (.BinOp a .Mod b pos) (mOp gMod fa fb) := se_op op_mod (ok_ii fun _ _ _ _ _ _ => .int _) ha hb
theorem se_pow (ha : SE X B W a fa) (hb : SE X B W b fb) : SE X B W (.BinOp a .Pow b pos) (mOp gPow fa fb) := se_op op_powW (ok_ii fun _ _ _ _ _ _ => .int _) ha hb
abbrev gLt : G2 := gI0 fun i j => .bl (decide (i < j))
abbrev gLe : G2 := gI0 fun i j => .bl (decide (i ≤ j))
abbrev gGt : G2 := gI0 fun i j => .bl (decide (j < i))
abbrev gGe : G2 := gI0 fun i j => .bl (decide (j ≤ i))
theorem se_lt (ha : SE X B W a fa) (hb : SE X B W b fb) : SE X B W (.Compare a [.Lt] [b] pos) (mOp gLt fa fb) := se_cmp op_lt (ok_i0 fun _ _ _ _ _ _ => .bl _) ha hb (nomark _)
theorem se_le (ha : SE X B W a fa) (hb : SE X B W b fb) : SE X B W (.Compare a [.LtE] [b] pos) (mOp gLe fa fb) := se_cmp op_le (ok_i0 fun _ _ _ _ _ _ => .bl _) ha hb (nomark _)
theorem se_gt (ha : SE X B W a fa) (hb : SE X B W b fb) : SE X B W (.Compare a [.Gt] [b] pos) (mOp gGt fa fb) := se_cmp op_gt (ok_i0 fun _ _ _ _ _ _ => .bl _) ha hb (nomark _)
theorem se_ge (ha : SE X B W a fa) (hb : SE X B W b fb) : SE X B W (.Compare a [.GtE] [b] pos) (mOp gGe fa fb) := se_cmp op_ge (ok_i0 fun _ _ _ _ _ _ => .bl _) ha hb (nomark _)
end

def mapO {α β : Type} (f : α → Option β) : List α → Option (List β)
  | [] => some []
  | x :: xs => match f x, mapO f xs with
    | some y, some ys => some (y :: ys)
    | _, _ => none
def toD (st : Sto) : Nat → MV → Option PyData
  | 0, _ => none
  | k + 1, m => match vw st m with
    | .non => some .none
    | .bl b => some (.bool b)
    | .int i => some (.int i)
    | .str x => some (.str x)
    | .lst xs => (mapO (toD st k) xs).map .list
    | .tup xs => (mapO (toD st k) xs).map .tuple
    | _ => none
section
variable {mg : Wd} {S : Addr → Prop} {ι : List Addr} {H : Hp} {st : Sto} {v : V} {m : MV}
theorem dpAll_of {f : MV → Option PyData} : ∀ {ms : List MV} {vs : List V} {ds : List PyData}, AllD mg S ι H vs ms → (∀ v m d, Dt mg S ι H v m → f m = some d → Dp mg.K H v d) → mapO f ms = some ds → DpAll mg.K H vs ds
  | [], vs, ds, a, h, e => by
    obtain rfl := a.inv_nil
    cases e; exact .nil
  | m :: ms, vs, ds, a, h, e => by
    obtain ⟨v, vs', rfl, d, r⟩ := a.inv_cons
    unfold mapO at e
    split at e
    · rename_i y ys e1 e2
      cases e
      exact .cons (h v m y d e1) (dpAll_of r h e2)
    · cases e
theorem VR.dp (r : Rep mg S ι H st) : ∀ (k : Nat) (v : V) (m : MV) (d : PyData), VR mg S ι H v (vw st m) → toD st k m = some d → Dp mg.K H v d
  | 0, v, m, d, h, e => by cases e
  | k + 1, v, m, d, h, e => by
    have go : ∀ v m d, Dt mg S ι H v m → toD st k m = some d → Dp mg.K H v d := fun v m d q e => VR.dp r k v m d (q.vr r) e
    unfold toD at e
    split at e
    · rename_i q; rw [q] at h; cases h; cases e; exact .non
    · rename_i q; rw [q] at h; cases h; cases e; exact .bl _
    · rename_i q; rw [q] at h; cases h; cases e; exact .int _
    · rename_i q; rw [q] at h; cases h; cases e; exact .str _
    · rename_i xs q
      rw [q] at h
      obtain ⟨p, vs, rfl, h1, d1⟩ := h
      obtain ⟨ds, e1, rfl⟩ := Option.map_eq_some_iff.mp e
      exact .lst (.of h1) (dpAll_of d1 go e1)
    · rename_i xs q
      rw [q] at h
      obtain ⟨p, vs, rfl, h1, d1⟩ := h
      obtain ⟨ds, e1, rfl⟩ := Option.map_eq_some_iff.mp e
      exact .tup (.of h1) (dpAll_of d1 go e1)
    · cases e
end
/-- how deep data may lie -/
abbrev dpt : Nat := 12
def gEqB (neg : Bool) : G2 := fun st a b => match toD st dpt a, toD st dpt b with
  | some d, some e => if SeqAt.shaped d = true ∧ SeqAt.shaped e = true then some (.bl (if neg then !PyData.eqv d e else PyData.eqv d e), false) else none
  | _, _ => none
theorem ok_eq : Op2 X (rEqD X.K) (gEqB false) := by
  intro S ι H st x y a b z Q hr ha hb e w
  unfold gEqB at e
  split at e
  · rename_i d d' e1 e2
    split at e
    · rename_i hs
      cases e
      exact ⟨d, d', VR.dp (mg := X.wd) hr _ x a d (by rw [vw_of_vr ha]; exact ha) e1, VR.dp (mg := X.wd) hr _ y b d' (by rw [vw_of_vr hb]; exact hb) e2, hs.1, hs.2, w _ (.bl _)⟩
    · cases e
  · cases e
theorem ok_ne : Op2 X (rNeD X.K) (gEqB true) := by
  intro S ι H st x y a b z Q hr ha hb e w
  unfold gEqB at e
  split at e
  · rename_i d d' e1 e2
    split at e
    · rename_i hs
      cases e
      exact ⟨d, d', VR.dp (mg := X.wd) hr _ x a d (by rw [vw_of_vr ha]; exact ha) e1, VR.dp (mg := X.wd) hr _ y b d' (by rw [vw_of_vr hb]; exact hb) e2, hs.1, hs.2, w _ (.bl _)⟩
    · cases e
  · cases e
section
variable {B : Base} {W : WX} {a b c : Expr} {pos : Pos} {fa fb fc : EF}
theorem se_eq {k : Nat} (hr : Room k X.A) (ha : SE X B W a fa) (hb : SE X B W b fb) : SE X B W (.Compare a [.Eq] [b] pos) (mOp (gEqB false) fa fb) := se_cmp (op_eqD hr.units) ok_eq ha hb (nomark _)
theorem se_ne {k : Nat} (hr : Room k X.A) (ha : SE X B W a fa) (hb : SE X B W b fb) : SE X B W (.Compare a [.NotEq] [b] pos) (mOp (gEqB true) fa fb) := se_cmp (op_neD hr.units) ok_ne ha hb (nomark _)
/-- is None, whatever the left one is -/
def isNon : MV → Bool
  | .non => true
  | _ => false
def gIsN (neg : Bool) : G2
  | _, a, .non => some (.bl (if neg then !isNon a else isNon a), false)
  | _, _, _ => none
theorem vr_non {mg : Wd} {S : Addr → Prop} {ι : List Addr} {H : Hp} {x : V} {m : MV} (h : VR mg S ι H x m) : decide (x = .non) = isNon m := by
  cases m with
  | non => rw [show x = .non from h]; rfl
  | bl b => rw [show x = .bl b from h]; rfl
  | int b => rw [show x = .int b from h]; rfl
  | str b => rw [show x = .str b from h]; rfl
  | lst ms => obtain ⟨p, vs, rfl, _⟩ := h; rfl
  | tup ms => obtain ⟨p, vs, rfl, _⟩ := h; rfl
  | dct ms => obtain ⟨p, rfl, _⟩ := h; rfl
  | ins c ms => obtain ⟨p, _, _, _, rfl, _⟩ := h; rfl
  | exc c ms => obtain ⟨p, _, rfl, _⟩ := h; rfl
  | scr ns => obtain ⟨p, rfl, _⟩ := h; rfl
  | ref n => exact h.elim
theorem ok_isN : Op2 X (fun x y H Q => y = .non ∧ Q (.bl (decide (x = .non))) H) (gIsN false) := by
  intro S ι H st x y a b z Q hr ha hb e w
  unfold gIsN at e
  split at e
  · cases e
    refine ⟨hb, ?_⟩
    rw [vr_non ha]
    exact w _ (.bl _)
  · cases e
theorem ok_notN : Op2 X (fun x y H Q => y = .non ∧ Q (.bl (!decide (x = .non))) H) (gIsN true) := by
  intro S ι H st x y a b z Q hr ha hb e w
  unfold gIsN at e
  split at e
  · cases e
    refine ⟨hb, ?_⟩
    rw [vr_non ha]
    exact w _ (.bl _)
  · cases e
theorem se_isN (ha : SE X B W a fa) (hb : SE X B W b fb) : SE X B W (.Compare a [.Is] [b] pos) (mOp (gIsN false) fa fb) := se_cmp op_isN ok_isN ha hb (nomark _)
theorem se_notN (ha : SE X B W a fa) (hb : SE X B W b fb) : SE X B W (.Compare a [.IsNot] [b] pos) (mOp (gIsN true) fa fb) := se_cmp op_notN ok_notN ha hb (nomark _)

def mChain (g g' : G2) (fa fb fc : EF) : EF := fun lo st => fa lo st >>= fun (a, _, st1) => fb lo st1 >>= fun (b, _, st2) =>
  match g st2 (vw st2 a) (vw st2 b) with
  | some (.bl true, false) => fc lo st2 >>= fun (c, _, st3) => match g' st3 (vw st3 b) (vw st3 c) with
    | some (m, true) => .ok (m, .fr, st3)
    | some (m, false) => .ok (m, .fz, st3)
    | none => .bad
  | some (.bl false, false) => .ok (.bl false, .fz, st2)
  | _ => .bad
theorem se_chain {op op' : CmpOp} {r r' : R2} {g g' : G2} (ho : OpR X (compareOp op) r) (ho' : OpR X (compareOp op') r') (ok : Op2 X r g) (ok' : Op2 X r' g') (ha : SE X B W a fa) (hb : SE X B W b fb) (hc : SE X B W c fc)
    (hm : lastMarks [op, op'] [b, c] = false := by with_unfolding_all rfl) : SE X B W (.Compare a [op, op'] [b, c] pos) (mChain g g' fa fb fc) := by
  refine (pe_chain ho ho' ha hb hc hm).fw fun σ H Q ⟨S, ι, lo, st, f, p⟩ => ?_
  refine tE.use f (Post.bind p) fun a ka st1 S1 ι1 H1 x f1 k1 r1 p1 => ?_
  obtain ⟨S1', f1', k1', h1⟩ := r1.hand f1
  refine tE.use f1' (Post.bind (p1.mono (k1.trans k1') fun _ z => z)) fun b kb st2 S2 ι2 H2 y f2 k2 r2 p2 => ?_
  obtain ⟨S2', f2', k2', h2⟩ := r2.hand f2
  have k0 : Keep S ι H S2' ι2 H2 := k1.trans (k1'.trans (k2.trans k2'))
  have v1 := (h1.mono (k2.trans k2')).vr f2'
  have v2 := h2.vr f2'
  dsimp only at p2
  split at p2
  · rename_i e
    refine ok S2' ι2 H2 _ x y _ _ _ _ f2'.rep v1 v2 e fun v d => ?_
    cases d
    refine ⟨true, rfl, ?_⟩
    rw [if_pos rfl]
    refine tE.use f2' (Post.bind (p2.mono (k2.trans k2') fun _ z => z)) fun c kc st3 S3 ι3 H3 w f3 k3 r3 p3 => ?_
    obtain ⟨S3', f3', k3', h3⟩ := r3.hand f3
    have v2' := (h2.mono (k3.trans k3')).vr f3'
    have v3 := h3.vr f3'
    dsimp only at p3
    split at p3
    · rename_i m e
      exact ok' S3' ι3 H3 _ y w _ _ _ Q f3'.rep v2' v3 e (wants_of (z := (m, true)) (st2 := st3) f3' p3 (k0.trans (k3.trans k3')))
    · rename_i m e
      exact ok' S3' ι3 H3 _ y w _ _ _ Q f3'.rep v2' v3 e (wants_of (z := (m, false)) (st2 := st3) f3' p3 (k0.trans (k3.trans k3')))
    · exact p3.elim
  · rename_i e
    refine ok S2' ι2 H2 _ x y _ _ _ _ f2'.rep v1 v2 e fun v d => ?_
    cases d
    refine ⟨false, rfl, ?_⟩
    rw [if_neg Bool.false_ne_true]
    exact p2 S2' ι2 H2 _ f2' k0 (.bl _)
  · exact p2.elim
theorem se_lele (ha : SE X B W a fa) (hb : SE X B W b fb) (hc : SE X B W c fc) (hm : lastMarks [.LtE, .LtE] [b, c] = false := by with_unfolding_all rfl) : SE X B W (.Compare a [.LtE, .LtE] [b, c] pos) (mChain gLe gLe fa fb fc) :=
  se_chain op_le op_le (ok_i0 fun _ _ _ _ _ _ => .bl _) (ok_i0 fun _ _ _ _ _ _ => .bl _) ha hb hc hm
theorem se_lelt (ha : SE X B W a fa) (hb : SE X B W b fb) (hc : SE X B W c fc) (hm : lastMarks [.LtE, .Lt] [b, c] = false := by with_unfolding_all rfl) : SE X B W (.Compare a [.LtE, .Lt] [b, c] pos) (mChain gLe gLt fa fb fc) :=
  se_chain op_le op_lt (ok_i0 fun _ _ _ _ _ _ => .bl _) (ok_i0 fun _ _ _ _ _ _ => .bl _) ha hb hc hm
theorem se_ltlt (ha : SE X B W a fa) (hb : SE X B W b fb) (hc : SE X B W c fc) (hm : lastMarks [.Lt, .Lt] [b, c] = false := by with_unfolding_all rfl) : SE X B W (.Compare a [.Lt, .Lt] [b, c] pos) (mChain gLt gLt fa fb fc) :=
  se_chain op_lt op_lt (ok_i0 fun _ _ _ _ _ _ => .bl _) (ok_i0 fun _ _ _ _ _ _ => .bl _) ha hb hc hm

def mUn (g : MV → Option MV) (fa : EF) : EF := fun lo st => fa lo st >>= fun (a, _, st1) => match g a with
  | some m => .ok (m, .fz, st1)
  | none => .bad
def gNeg : MV → Option MV
  | .int i => some (.int (-i))
  | _ => none
def gNot : MV → Option MV
  | .bl b => some (.bl (!b))
  | _ => none
theorem rv_int {mg : Wd} {S : Addr → Prop} {ι : List Addr} {H : Hp} {lo : Lo} {σ : L2.St} {st : Sto} {v : V} {i : Int} {k : Kd} (f : Fm mg B S ι H lo σ st) (r : RV mg B S ι H lo σ v (.int i) k) : v = .int i := by
  obtain ⟨S', f', _, h⟩ := r.hand f
  exact h.vr f'
theorem rv_bl {mg : Wd} {S : Addr → Prop} {ι : List Addr} {H : Hp} {lo : Lo} {σ : L2.St} {st : Sto} {v : V} {i : Bool} {k : Kd} (f : Fm mg B S ι H lo σ st) (r : RV mg B S ι H lo σ v (.bl i) k) : v = .bl i := by
  obtain ⟨S', f', _, h⟩ := r.hand f
  exact h.vr f'
theorem rv_str {mg : Wd} {S : Addr → Prop} {ι : List Addr} {H : Hp} {lo : Lo} {σ : L2.St} {st : Sto} {v : V} {i : Str} {k : Kd} (f : Fm mg B S ι H lo σ st) (r : RV mg B S ι H lo σ v (.str i) k) : v = .str i := by
  obtain ⟨S', f', _, h⟩ := r.hand f
  exact h.vr f'
theorem se_neg (ha : SE X B W a fa) : SE X B W (.UnaryOp .USub a pos) (mUn gNeg fa) := by
  refine (pe_un un_neg ha).fw fun σ H Q ⟨S, ι, lo, st, f, p⟩ => ?_
  refine tE.use f (Post.bind p) fun a ka st1 S1 ι1 H1 x f1 k1 r1 p1 => ?_
  dsimp only at p1
  split at p1
  · rename_i m e
    unfold gNeg at e
    split at e
    · cases e
      exact ⟨_, rv_int f1 r1, p1 S1 ι1 H1 _ f1 k1 (.int _)⟩
    · cases e
  · exact p1.elim
theorem se_not (ha : SE X B W a fa) : SE X B W (.UnaryOp .Not a pos) (mUn gNot fa) := by
  refine (pe_not ha).fw fun σ H Q ⟨S, ι, lo, st, f, p⟩ => ?_
  refine tE.use f (Post.bind p) fun a ka st1 S1 ι1 H1 x f1 k1 r1 p1 => ?_
  dsimp only at p1
  split at p1
  · rename_i m e
    unfold gNot at e
    split at e
    · cases e
      exact ⟨_, rv_bl f1 r1, p1 S1 ι1 H1 _ f1 k1 (.bl _)⟩
    · cases e
  · exact p1.elim

def mTv (fa : EF) : TF := fun lo st => fa lo st >>= fun (a, _, st1) => match a with
  | .bl b => .ok (b, st1)
  | _ => .bad
theorem tv_imp : ∀ σ H Q, tT X.wd B W (mTv fa) σ H Q → tB (tE X.wd B W fa) σ H Q := by
  intro σ H Q ⟨S, ι, lo, st, f, p⟩
  refine tE.use f (Post.bind p) fun a ka st1 S1 ι1 H1 x f1 k1 r1 p1 => ?_
  dsimp only at p1
  split at p1
  · exact ⟨_, rv_bl f1 r1, p1 S1 ι1 H1 f1 k1⟩
  · exact p1.elim
theorem st_val (ha : SE X B W a fa) (he : ∀ whole, isTrue a X.env whole = (do let v ← whole; standAt a.pos; holding [v] (truthy v)) := by intro _; rfl) : STe X B W a (mTv fa) := (pt_val ha he).fw tv_imp
theorem st_cmp {op : CmpOp} {r : R2} {g : G2} (ho : OpR X (compareOp op) r) (ok : Op2 X r g) (ha : SE X B W a fa) (hb : SE X B W b fb) (hm : behindInMarks op b = false := by first | exact nomark _ | rfl) : STe X B W (.Compare a [op] [b] pos) (mTv (mOp g fa fb)) := by
  refine (pt_cmpR ho ha hb hm).fw fun σ H Q h => ?_
  exact op_imp ok σ H _ (by
    obtain ⟨S, ι, lo, st, f, p⟩ := h
    refine tE.use f (Post.bind p) fun a ka st1 S1 ι1 H1 x f1 k1 r1 p1 => ?_
    dsimp only at p1
    split at p1
    · exact ⟨_, rv_bl f1 r1, p1 S1 ι1 H1 f1 k1⟩
    · exact p1.elim)
theorem st_chain {op op' : CmpOp} {r r' : R2} {g g' : G2} (ho : OpR X (compareOp op) r) (ho' : OpR X (compareOp op') r') (ok : Op2 X r g) (ok' : Op2 X r' g') (ha : SE X B W a fa) (hb : SE X B W b fb) (hc : SE X B W c fc)
    (hm : lastMarks [op, op'] [b, c] = false := by with_unfolding_all rfl) : STe X B W (.Compare a [op, op'] [b, c] pos) (mTv (mChain g g' fa fb fc)) := by
  refine (pt_chain ho ho' ha hb hc hm).fw fun σ H Q ⟨S, ι, lo, st, f, p⟩ => ?_
  have p' := Post.bind p
  show tE X.wd B W fa σ H _
  refine tE.use f (Post.bind p') fun a ka st1 S1 ι1 H1 x f1 k1 r1 p1 => ?_
  obtain ⟨S1', f1', k1', h1⟩ := r1.hand f1
  refine tE.use f1' (Post.bind (p1.mono (k1.trans k1') fun _ z => z)) fun b kb st2 S2 ι2 H2 y f2 k2 r2 p2 => ?_
  obtain ⟨S2', f2', k2', h2⟩ := r2.hand f2
  have k0 : Keep S ι H S2' ι2 H2 := k1.trans (k1'.trans (k2.trans k2'))
  have v1 := (h1.mono (k2.trans k2')).vr f2'
  have v2 := h2.vr f2'
  dsimp only at p2
  split at p2
  · rename_i e
    refine ok S2' ι2 H2 _ x y _ _ _ _ f2'.rep v1 v2 e fun v d => ?_
    cases d
    refine ⟨true, rfl, ?_⟩
    rw [if_pos rfl]
    refine tE.use f2' (Post.bind (p2.mono (k2.trans k2') fun _ z => z)) fun c kc st3 S3 ι3 H3 w f3 k3 r3 p3 => ?_
    obtain ⟨S3', f3', k3', h3⟩ := r3.hand f3
    have v2' := (h2.mono (k3.trans k3')).vr f3'
    have v3 := h3.vr f3'
    dsimp only at p3
    split at p3
    · rename_i m e
      cases m with
      | bl b => exact ok' S3' ι3 H3 _ y w _ _ _ _ f3'.rep v2' v3 e fun p o hq d => False.elim d
      | _ => exact False.elim p3
    · rename_i m e
      cases m with
      | bl b =>
        refine ok' S3' ι3 H3 _ y w _ _ _ _ f3'.rep v2' v3 e fun v d => ?_
        cases d
        exact ⟨_, rfl, p3 S3' ι3 H3 f3' (k0.trans (k3.trans k3'))⟩
      | _ => exact False.elim p3
    · exact p3.elim
  · rename_i e
    refine ok S2' ι2 H2 _ x y _ _ _ _ f2'.rep v1 v2 e fun v d => ?_
    cases d
    refine ⟨false, rfl, ?_⟩
    rw [if_neg Bool.false_ne_true]
    exact ⟨_, rfl, p2 S2' ι2 H2 f2' k0⟩
  · exact p2.elim
abbrev SW (X : Cx) (B : Base) (W : WX) (e : Expr) (f : TF) : Prop := PW X e (tT X.wd B W f)
theorem _root_.L2.PW.fw {X : Cx} {e : Expr} {t t' : TT} (h : PW X e t) (i : ∀ σ H Q, t' σ H Q → t σ H Q) : PW X e t' := ⟨fun wh pins s σ H Q I q => h.run wh pins s σ H Q I (i σ H Q q)⟩
def mAnd (fa fb : TF) : TF := fun lo st => fa lo st >>= fun (a, st1) => if a = true then fb lo st1 else .ok (false, st1)
def mOr (fa fb : TF) : TF := fun lo st => fa lo st >>= fun (a, st1) => if a = true then .ok (true, st1) else fb lo st1
def mNotT (fa : TF) : TF := fun lo st => fa lo st >>= fun (a, st1) => .ok (!a, st1)
variable {ga gb : TF} {rest : List Expr}
theorem sw_and1 (ha : STe X B W a ga) : SW X B W (.BoolOp .And [a] pos) ga := pw_and1 ha
theorem sw_or1 (ha : STe X B W a ga) : SW X B W (.BoolOp .Or [a] pos) ga := pw_or1 ha
theorem sw_and (ha : STe X B W a ga) (hb : SW X B W (.BoolOp .And (b :: rest) pos) gb) : SW X B W (.BoolOp .And (a :: b :: rest) pos) (mAnd ga gb) := by
  refine (pw_and ha hb).fw fun σ H Q ⟨S, ι, lo, st, f, p⟩ => ?_
  refine tT.use f (Post.bind p) fun a st1 S1 ι1 H1 f1 k1 p1 => ?_
  dsimp only at p1
  cases a with
  | true =>
    rw [if_pos rfl] at p1 ⊢
    exact tT.use f1 (p1.mono k1 fun _ z => z) fun b st2 S2 ι2 H2 f2 k2 p2 => p2 S2 ι2 H2 f2 (k1.trans k2)
  | false =>
    rw [if_neg Bool.false_ne_true] at p1 ⊢
    exact p1 S1 ι1 H1 f1 k1
theorem sw_or (ha : STe X B W a ga) (hb : SW X B W (.BoolOp .Or (b :: rest) pos) gb) : SW X B W (.BoolOp .Or (a :: b :: rest) pos) (mOr ga gb) := by
  refine (pw_or ha hb).fw fun σ H Q ⟨S, ι, lo, st, f, p⟩ => ?_
  refine tT.use f (Post.bind p) fun a st1 S1 ι1 H1 f1 k1 p1 => ?_
  dsimp only at p1
  cases a with
  | false =>
    rw [if_neg Bool.false_ne_true] at p1 ⊢
    exact tT.use f1 (p1.mono k1 fun _ z => z) fun b st2 S2 ι2 H2 f2 k2 p2 => p2 S2 ι2 H2 f2 (k1.trans k2)
  | true =>
    rw [if_pos rfl] at p1 ⊢
    exact p1 S1 ι1 H1 f1 k1
theorem st_w {e : Expr} (h : SW X B W e ga) : STe X B W e ga := h.pt
theorem st_not (ha : STe X B W a ga) : STe X B W (.UnaryOp .Not a pos) (mNotT ga) := by
  refine (pt_not ha).fw fun σ H Q ⟨S, ι, lo, st, f, p⟩ => ?_
  exact tT.use f (Post.bind p) fun a st1 S1 ι1 H1 f1 k1 p1 => p1 S1 ι1 H1 f1 k1
/-- and, or as values -/
def mAndV (fa fb : EF) : EF := fun lo st => fa lo st >>= fun (a, _, st1) => match a with
  | .bl true => fb lo st1
  | .bl false => .ok (.bl false, .fz, st1)
  | _ => .bad
def mOrV (fa fb : EF) : EF := fun lo st => fa lo st >>= fun (a, _, st1) => match a with
  | .bl false => fb lo st1
  | .bl true => .ok (.bl true, .fz, st1)
  | _ => .bad
theorem se_one {op : BoolOp} (ha : SE X B W a fa) : SE X B W (.BoolOp op [a] pos) fa := pe_one ha
theorem se_and (ha : SE X B W a fa) (hb : SE X B W (.BoolOp .And (b :: rest) pos) fb) : SE X B W (.BoolOp .And (a :: b :: rest) pos) (mAndV fa fb) := by
  refine (pe_and ha hb).fw fun σ H Q ⟨S, ι, lo, st, f, p⟩ => ?_
  refine tE.use f (Post.bind p) fun a ka st1 S1 ι1 H1 x f1 k1 r1 p1 => ?_
  dsimp only at p1
  split at p1
  · refine ⟨true, rv_bl f1 r1, ?_⟩
    rw [if_pos rfl]
    exact tE.use f1 (p1.mono k1 fun _ z => z) fun b kb st2 S2 ι2 H2 v f2 k2 r2 p2 => p2 S2 ι2 H2 v f2 (k1.trans k2) r2
  · refine ⟨false, rv_bl f1 r1, ?_⟩
    rw [if_neg Bool.false_ne_true]
    exact p1 S1 ι1 H1 _ f1 k1 (.bl _)
  · exact p1.elim
theorem se_or (ha : SE X B W a fa) (hb : SE X B W (.BoolOp .Or (b :: rest) pos) fb) : SE X B W (.BoolOp .Or (a :: b :: rest) pos) (mOrV fa fb) := by
  refine (pe_or ha hb).fw fun σ H Q ⟨S, ι, lo, st, f, p⟩ => ?_
  refine tE.use f (Post.bind p) fun a ka st1 S1 ι1 H1 x f1 k1 r1 p1 => ?_
  dsimp only at p1
  split at p1
  · refine ⟨false, rv_bl f1 r1, ?_⟩
    rw [if_neg Bool.false_ne_true]
    exact tE.use f1 (p1.mono k1 fun _ z => z) fun b kb st2 S2 ι2 H2 v f2 k2 r2 p2 => p2 S2 ι2 H2 v f2 (k1.trans k2) r2
  · refine ⟨true, rv_bl f1 r1, ?_⟩
    rw [if_pos rfl]
    exact p1 S1 ι1 H1 _ f1 k1 (.bl _)
  · exact p1.elim
def mIfE (ga : TF) (fa fb : EF) : EF := fun lo st => ga lo st >>= fun (b, st1) => if b = true then fa lo st1 else fb lo st1
theorem se_if (hc : STe X B W c ga) (ha : SE X B W a fa) (hb : SE X B W b fb) : SE X B W (.IfExp c a b pos) (mIfE ga fa fb) := by
  refine (pe_ifExp hc ha hb).fw fun σ H Q ⟨S, ι, lo, st, f, p⟩ => ?_
  refine tT.use f (Post.bind p) fun a st1 S1 ι1 H1 f1 k1 p1 => ?_
  dsimp only at p1
  cases a with
  | true =>
    rw [if_pos rfl] at p1 ⊢
    exact tE.use f1 (p1.mono k1 fun _ z => z) fun b kb st2 S2 ι2 H2 v f2 k2 r2 p2 => p2 S2 ι2 H2 v f2 (k1.trans k2) r2
  | false =>
    rw [if_neg Bool.false_ne_true] at p1 ⊢
    exact tE.use f1 (p1.mono k1 fun _ z => z) fun b kb st2 S2 ι2 H2 v f2 k2 r2 p2 => p2 S2 ι2 H2 v f2 (k1.trans k2) r2
end
end
end FW

namespace FW
open PySem L2 PySem.Spec PyProof.Rows

def HandAll (mg : Wd) (S : Addr → Prop) (ι : List Addr) (H : Hp) (lo : Lo) (σ : L2.St) (vs : List V) (l : List (MV × Bool)) : Prop :=
  vs.length = l.length ∧ ∀ (i : Nat) v z, vs[i]? = some v → l[i]? = some z → Hand mg S ι H lo σ v z.1 z.2
section
variable {mg : Wd} {B : Base} {W : WX} {S S' S2 : Addr → Prop} {ι ι' ι2 : List Addr} {H H' H2 : Hp} {lo lo' : Lo} {σ σ' : L2.St} {st st' : Sto} {v : V} {m : MV} {vs : List V} {l : List (MV × Bool)}
theorem HandAll.nil : HandAll mg S ι H lo σ [] [] := ⟨rfl, fun i v z h => by simp at h⟩
theorem HandAll.cons {z : MV × Bool} (d : Hand mg S ι H lo σ v z.1 z.2) (r : HandAll mg S ι H lo σ vs l) : HandAll mg S ι H lo σ (v :: vs) (z :: l) := by
  refine ⟨by simp [r.1], fun i w n h1 h2 => ?_⟩
  cases i with
  | zero => simp at h1 h2; subst h1; subst h2; exact d
  | succ i => exact r.2 i w n (by simpa using h1) (by simpa using h2)
theorem HandAll.inv_cons {z : MV × Bool} (r : HandAll mg S ι H lo σ vs (z :: l)) : ∃ v vs', vs = v :: vs' ∧ Hand mg S ι H lo σ v z.1 z.2 ∧ HandAll mg S ι H lo σ vs' l := by
  cases vs with
  | nil => exact absurd r.1 (by simp)
  | cons v vs' => exact ⟨v, vs', rfl, r.2 0 v z rfl rfl, by have := r.1; simpa using this, fun i w n h1 h2 => r.2 (i + 1) w n (by simpa using h1) (by simpa using h2)⟩
theorem HandAll.inv_nil (r : HandAll mg S ι H lo σ vs []) : vs = [] := List.length_eq_zero_iff.mp r.1
theorem HandAll.mono (k : Keep S ι H S' ι' H') (r : HandAll mg S ι H lo σ vs l) : HandAll mg S' ι' H' lo σ vs l := ⟨r.1, fun i v z h1 h2 => (r.2 i v z h1 h2).mono k⟩
/-- all are data -/
def allFz (l : List (MV × Bool)) : Option (List MV) := if l.all (fun z => !z.2) = true then some (l.map (·.1)) else none
theorem HandAll.data (r : HandAll mg S ι H lo σ vs l) {ms : List MV} (h : allFz l = some ms) : AllD mg S ι H vs ms := by
  unfold allFz at h
  split at h
  · rename_i ha
    cases h
    refine ⟨by simp [r.1], fun i v m h1 h2 => ?_⟩
    rw [List.getElem?_map] at h2
    obtain ⟨z, hz, rfl⟩ := Option.map_eq_some_iff.mp h2
    have hb : z.2 = false := by
      have := List.all_eq_true.mp ha z (List.mem_of_getElem? hz)
      simpa using this
    have := r.2 i v z h1 hz
    unfold Hand at this
    rw [hb] at this
    exact this
  · cases h
end
def tA (mg : Wd) (B : Base) (W : WX) (f : AF) : TA := fun σ H Q => ∃ S ι lo st, Fm mg B S ι H lo σ st ∧ Post mg B W S ι H (fun r => ∀ S' ι' H' vs, Fm mg B S' ι' H' lo σ r.2 → Keep S ι H S' ι' H' → HandAll mg S' ι' H' lo σ vs r.1 → Q vs H') (f lo st)
abbrev SA (X : Cx) (B : Base) (W : WX) (es : List Expr) (f : AF) : Prop := PA X es (tA X.wd B W f)
theorem tA.use {mg : Wd} {B : Base} {W : WX} {S : Addr → Prop} {ι : List Addr} {H : Hp} {lo : Lo} {σ : L2.St} {st : Sto} {f : AF} {P : List (MV × Bool) × Sto → Prop} {Q : List V → Hp → Prop} (fm : Fm mg B S ι H lo σ st) (p : Post mg B W S ι H P (f lo st))
    (h : ∀ l st' S' ι' H' vs, Fm mg B S' ι' H' lo σ st' → Keep S ι H S' ι' H' → HandAll mg S' ι' H' lo σ vs l → P (l, st') → Q vs H') : tA mg B W f σ H Q :=
  ⟨S, ι, lo, st, fm, p.imp fun ⟨l, st'⟩ hp S' ι' H' vs fm' kp rv => h l st' S' ι' H' vs fm' kp rv hp⟩
def mNil : AF := fun _ st => .ok ([], st)
def mCons (f : EF) (g : AF) : AF := fun lo st => f lo st >>= fun (m, k, st1) => g lo st1 >>= fun (l, st2) => .ok ((m, isPk k) :: l, st2)
section
variable {X : Cx} {B : Base} {W : WX} {e : Expr} {es : List Expr} {f : EF} {g : AF} {pos : Pos}
theorem sa_nil : SA X B W [] mNil := pa_nil.fw fun σ H Q ⟨S, ι, lo, st, fm, p⟩ => p S ι H [] fm .refl .nil
theorem sa_cons (he : SE X B W e f) (hr : SA X B W es g) (hs : starEach (e :: es) X.env = (false, eval e X.env) :: starEach es X.env := by rfl) : SA X B W (e :: es) (mCons f g) := by
  refine (pa_cons he hr hs).fw fun σ H Q ⟨S, ι, lo, st, fm, p⟩ => ?_
  refine tE.use fm (Post.bind p) fun a ka st1 S1 ι1 H1 x f1 k1 r1 p1 => ?_
  obtain ⟨S1', f1', k1', h1⟩ := r1.hand f1
  refine tA.use f1' (Post.bind (p1.mono (k1.trans k1') fun _ z => z)) fun l st2 S2 ι2 H2 vs f2 k2 r2 p2 => ?_
  exact p2 S2 ι2 H2 (x :: vs) f2 (k1.trans (k1'.trans k2)) (.cons (h1.mono k2) r2)

def mLst (g : AF) : EF := fun lo st => g lo st >>= fun (l, st1) => match allFz l with
  | some ms => if ms.length ≤ sizeLine then .ok (.lst ms, .fr, st1) else .bad
  | none => .bad
def mTup (g : AF) : EF := fun lo st => g lo st >>= fun (l, st1) => match allFz l with
  | some ms => if ms.length ≤ sizeLine then .ok (.tup ms, .fr, st1) else .bad
  | none => .bad
theorem se_lst (h : SA X B W es g) : SE X B W (.List es pos) (mLst g) := by
  refine (pe_lst h).fw fun σ H Q ⟨S, ι, lo, st, fm, p⟩ => ?_
  refine tA.use fm (Post.bind p) fun l st1 S1 ι1 H1 vs f1 k1 r1 p1 => ?_
  dsimp only at p1
  split at p1
  · rename_i ms e
    split at p1
    · have d := r1.data e
      refine ⟨by rw [d.1]; assumption, ?_⟩
      exact fun q hq => wants_of (z := (.lst ms, true)) (st2 := st1) f1 p1 k1 q (.lst vs) hq ⟨vs, rfl, d⟩
    · exact p1.elim
  · exact p1.elim
theorem se_tup {x1} (h : SA X B W es g) : SE X B W (.Tuple es x1 pos) (mTup g) := by
  refine (pe_tup h).fw fun σ H Q ⟨S, ι, lo, st, fm, p⟩ => ?_
  refine tA.use fm (Post.bind p) fun l st1 S1 ι1 H1 vs f1 k1 r1 p1 => ?_
  dsimp only at p1
  split at p1
  · rename_i ms e
    split at p1
    · have d := r1.data e
      refine ⟨by rw [d.1]; assumption, ?_⟩
      exact fun q hq => wants_of (z := (.tup ms, true)) (st2 := st1) f1 p1 k1 q (.tup vs) hq ⟨vs, rfl, d⟩
    · exact p1.elim
  · exact p1.elim
def mDct0 : EF := fun _ st => .ok (.dct [], .fr, st)
theorem se_dct0 : SE X B W (.Dict [] [] pos) mDct0 := by
  refine pe_dnewK.fw fun σ H Q ⟨S, ι, lo, st, fm, p⟩ => ?_
  exact fun q hq => wants_of (z := (.dct [], true)) (st2 := st) fm p .refl q (.dK []) hq (.inl ⟨[], rfl, rfl, fun i kv p h => by simp at h⟩)

def VRs (mg : Wd) (S : Addr → Prop) (ι : List Addr) (H : Hp) (vs : List V) (ms : List MV) : Prop := vs.length = ms.length ∧ ∀ (i : Nat) v m, vs[i]? = some v → ms[i]? = some m → VR mg S ι H v m
theorem VRs.one {mg : Wd} {S : Addr → Prop} {ι : List Addr} {H : Hp} {vs : List V} {m : MV} (h : VRs mg S ι H vs [m]) : ∃ v, vs = [v] ∧ VR mg S ι H v m := by
  obtain ⟨hl, h⟩ := h
  match vs, hl with
  | [v], _ => exact ⟨v, rfl, h 0 v m rfl rfl⟩
theorem VRs.two {mg : Wd} {S : Addr → Prop} {ι : List Addr} {H : Hp} {vs : List V} {m n : MV} (h : VRs mg S ι H vs [m, n]) : ∃ v w, vs = [v, w] ∧ VR mg S ι H v m ∧ VR mg S ι H w n := by
  obtain ⟨hl, h⟩ := h
  match vs, hl with
  | [v, w], _ => exact ⟨v, w, rfl, h 0 v m rfl rfl, h 1 w n rfl rfl⟩
abbrev GL := Sto → List MV → Option (MV × Bool)
def CallOk (X : Cx) (r : List V → Hp → VK → Prop) (g : GL) : Prop := ∀ S ι H st vs as z Q, Rep X.wd S ι H st → VRs X.wd S ι H vs as → g st as = some z → Wants X.wd S ι H Q z → r vs H Q
def giveOut (z : Option (MV × Bool)) (st : Sto) : Res (MV × Kd × Sto) := match z with
  | some (m, true) => .ok (m, .fr, st)
  | some (m, false) => .ok (m, .fz, st)
  | none => .bad
def mCallB (gl : GL) (g : AF) : EF := fun lo st => g lo st >>= fun (l, st1) => giveOut (gl st1 (l.map fun z => vw st1 z.1)) st1
theorem HandAll.vrs {mg : Wd} {S : Addr → Prop} {ι : List Addr} {H : Hp} {lo : Lo} {σ : L2.St} {st : Sto} {vs : List V} {l : List (MV × Bool)} (f : Fm mg B S ι H lo σ st) (r : HandAll mg S ι H lo σ vs l) : VRs mg S ι H vs (l.map fun z => vw st z.1) := by
  refine ⟨by simp [r.1], fun i v m h1 h2 => ?_⟩
  rw [List.getElem?_map] at h2
  obtain ⟨z, hz, rfl⟩ := Option.map_eq_some_iff.mp h2
  exact (r.2 i v z h1 hz).vr f
theorem give_of {mg : Wd} {S S0 Sp : Addr → Prop} {ι ι0 ιp : List Addr} {H H0 Hq : Hp} {lo : Lo} {σ : L2.St} {st : Sto} {z : Option (MV × Bool)} {Q : VK} (f : Fm mg B S ι H lo σ st) (k : Keep S0 ι0 H0 S ι H)
    (p : Post mg B W Sp ιp Hq (fun r => ∀ S' ι' H' v, Fm mg B S' ι' H' lo σ r.2.2 → Keep S0 ι0 H0 S' ι' H' → RV mg B S' ι' H' lo σ v r.1 r.2.1 → Q v H') (giveOut z st)) : ∃ u, z = some u ∧ Wants mg S ι H Q u := by
  unfold giveOut at p
  split at p
  · exact ⟨_, rfl, wants_of (z := (_, true)) (st2 := st) f p k⟩
  · exact ⟨_, rfl, wants_of (z := (_, false)) (st2 := st) f p k⟩
  · exact p.elim
theorem callB_imp {r : List V → Hp → VK → Prop} {gl : GL} (ok : CallOk X r gl) : ∀ σ H Q, tE X.wd B W (mCallB gl g) σ H Q → tCB r (tA X.wd B W g) σ H Q := by
  intro σ H Q ⟨S, ι, lo, st, fm, p⟩
  refine tA.use fm (Post.bind p) fun l st1 S1 ι1 H1 vs f1 k1 r1 p1 => ?_
  obtain ⟨u, e, w⟩ := give_of f1 k1 p1
  exact ok S1 ι1 H1 _ vs _ u Q f1.rep (r1.vrs f1) e w
theorem se_callB {id : String} {r : List V → Hp → VK → Prop} {gl : GL} {x : Str} {p : Pos} (hc : CallR X (.builtin id) r) (ok : CallOk X r gl) (hg : Gl X x) (hm : X.mg x = none) (hv : bootBuiltins x = some (.builtin id)) (ha : SA X B W (e :: es) g)
    (hn : x ≠ "__name__" := by decide) (hdb : (x == ("__debug__" : Str)) = false := by decide)
    (he : starEach (e :: es) X.env = (false, eval e X.env) :: starEach es X.env := by rfl) (hpl : (backTo pos (starEach es X.env)).any (·.1) = false := by rfl) : SE X B W (.Call (.Name x p) (e :: es) [] pos) (mCallB gl g) :=
  (pe_callB hc hg hm hv ha hn hdb he hpl).fw (callB_imp ok)
theorem se_callTy {T : String} {r : List V → Hp → VK → Prop} {gl : GL} {x : Str} {p : Pos} (hc : CallR X (.type T) r) (ok : CallOk X r gl) (hg : Gl X x) (hm : X.mg x = none) (hv : bootBuiltins x = some (.type T)) (ha : SA X B W (e :: es) g)
    (hn : x ≠ "__name__" := by decide) (hdb : (x == ("__debug__" : Str)) = false := by decide)
    (he : starEach (e :: es) X.env = (false, eval e X.env) :: starEach es X.env := by rfl) (hpl : (backTo pos (starEach es X.env)).any (·.1) = false := by rfl) : SE X B W (.Call (.Name x p) (e :: es) [] pos) (mCallB gl g) :=
  (pe_callTy hc hg hm hv ha hn hdb he hpl).fw (callB_imp ok)
def gLen : GL
  | _, [.lst xs] => some (.int xs.length, false)
  | _, [.tup xs] => some (.int xs.length, false)
  | _, [.scr xs] => some (.int xs.length, false)
  | _, [.str x] => if x.length ≤ sizeLine then some (.int x.length, false) else none
  | _, _ => none
theorem ok_len : CallOk X (fun xs H Q => ∃ x n, xs = [x] ∧ LenV X.K x H n ∧ Q (.int n) H) gLen := by
  intro S ι H st vs as z Q hr ha e w
  unfold gLen at e
  split at e
  · cases e; obtain ⟨v, rfl, p, xs, rfl, h, d⟩ := ha.one
    exact ⟨_, xs.length, rfl, .inl ⟨xs, .of h, rfl⟩, by rw [d.1]; exact w _ (.int _)⟩
  · cases e; obtain ⟨v, rfl, p, xs, rfl, h, d⟩ := ha.one
    exact ⟨_, xs.length, rfl, .inr ⟨xs, .of h, rfl⟩, by rw [d.1]; exact w _ (.int _)⟩
  · cases e; rename_i ns; obtain ⟨v, rfl, p, rfl, h⟩ := ha.one
    exact ⟨_, ns.length, rfl, .inl ⟨_, h, by simp⟩, w _ (.int _)⟩
  · rename_i s
    split at e
    · cases e; obtain ⟨v, rfl, rfl⟩ := ha.one
      exact ⟨_, s.length, rfl, ⟨by assumption, rfl⟩, w _ (.int _)⟩
    · cases e
  · cases e
def gMax2 : GL
  | _, [.int i, .int j] => some (.int (if j > i then j else i), false)
  | _, _ => none
def gMin2 : GL
  | _, [.int i, .int j] => some (.int (if j < i then j else i), false)
  | _, _ => none
theorem ok_max2 : CallOk X (fun xs H Q => ∃ i j, xs = [.int i, .int j] ∧ Q (.int (if j > i then j else i)) H) gMax2 := by
  intro S ι H st vs as z Q hr ha e w
  unfold gMax2 at e
  split at e
  · cases e; obtain ⟨v, u, rfl, rfl, rfl⟩ := ha.two
    exact ⟨_, _, rfl, w _ (.int _)⟩
  · cases e
theorem ok_min2 : CallOk X (fun xs H Q => ∃ i j, xs = [.int i, .int j] ∧ Q (.int (if j < i then j else i)) H) gMin2 := by
  intro S ι H st vs as z Q hr ha e w
  unfold gMin2 at e
  split at e
  · cases e; obtain ⟨v, u, rfl, rfl, rfl⟩ := ha.two
    exact ⟨_, _, rfl, w _ (.int _)⟩
  · cases e
def gInt1 : GL
  | _, [.int i] => some (.int i, false)
  | _, [.bl k] => some (.int (if k then 1 else 0), false)
  | _, _ => none
theorem ok_int1 : CallOk X (fun xs H Q => (∃ i, xs = [.int i] ∧ Q (.int i) H) ∨ ∃ k, xs = [.bl k] ∧ Q (.int (if k then 1 else 0)) H) gInt1 := by
  intro S ι H st vs as z Q hr ha e w
  unfold gInt1 at e
  split at e
  · cases e; obtain ⟨v, rfl, rfl⟩ := ha.one
    exact .inl ⟨_, rfl, w _ (.int _)⟩
  · cases e; obtain ⟨v, rfl, rfl⟩ := ha.one
    exact .inr ⟨_, rfl, w _ (.int _)⟩
  · cases e
def gAbs : GL
  | _, [.int i] => some (.int (if i < 0 then -i else i), false)
  | _, _ => none
theorem ok_abs : CallOk X (fun xs H Q => ∃ i, xs = [.int i] ∧ Q (.int (if i < 0 then -i else i)) H) gAbs := by
  intro S ι H st vs as z Q hr ha e w
  unfold gAbs at e
  split at e
  · cases e; obtain ⟨v, rfl, rfl⟩ := ha.one
    exact ⟨_, rfl, w _ (.int _)⟩
  · cases e
def gStrI : GL
  | _, [.int i] => if i.natAbs.log2 < 1920 then some (.str (toString i), false) else none
  | _, _ => none
theorem ok_strI : CallOk X (fun xs H Q => ∃ i, xs = [.int i] ∧ i.natAbs.log2 < 1920 ∧ Q (.str (toString i)) H) gStrI := by
  intro S ι H st vs as z Q hr ha e w
  unfold gStrI at e
  split at e
  · split at e
    · cases e; obtain ⟨v, rfl, rfl⟩ := ha.one
      exact ⟨_, rfl, by assumption, w _ (.str _)⟩
    · cases e
  · cases e
def gListOf : GL
  | _, [.lst xs] => some (.lst xs, true)
  | _, [.tup xs] => some (.lst xs, true)
  | _, _ => none
theorem ok_listOf : CallOk X (fun xs H Q => ∃ p ys, xs = [.ref p] ∧ (SqL X.K H p ys ∨ SqT X.K H p ys) ∧ ∀ l, H l = none → Q (.ref l) (upd H l (.lst ys))) gListOf := by
  intro S ι H st vs as z Q hr ha e w
  unfold gListOf at e
  split at e
  · cases e; obtain ⟨v, rfl, p, xs, rfl, h, d⟩ := ha.one
    exact ⟨_, xs, rfl, .inl (.of h), fun l hl => w l _ hl ⟨xs, rfl, d⟩⟩
  · cases e; obtain ⟨v, rfl, p, xs, rfl, h, d⟩ := ha.one
    exact ⟨_, xs, rfl, .inr (.of h), fun l hl => w l _ hl ⟨xs, rfl, d⟩⟩
  · cases e
/-- tuple(a list) -/
def gTupOf : GL
  | _, [.lst xs] => some (.tup xs, true)
  | _, _ => none
theorem ok_tupOf : CallOk X (fun xs H Q => ∃ p ys, xs = [.ref p] ∧ ((SqL X.K H p ys ∧ ∀ l, H l = none → Q (.ref l) (upd H l (.tup ys))) ∨ (SqT X.K H p ys ∧ Q (.ref p) H))) gTupOf := by
  intro S ι H st vs as z Q hr ha e w
  unfold gTupOf at e
  split at e
  · cases e; obtain ⟨v, rfl, p, xs, rfl, h, d⟩ := ha.one
    exact ⟨_, xs, rfl, .inl ⟨.of h, fun l hl => w l _ hl ⟨xs, rfl, d⟩⟩⟩
  · cases e
instance decRg (i j : Int) : Decidable (RgOk i j) := by unfold RgOk; infer_instance
def mRg (fa fb : EF) : EF := fun lo st => fa lo st >>= fun (a, _, st1) => fb lo st1 >>= fun (b, _, st2) => match a, b with
  | .int i, .int j => if RgOk i j then .ok (.lst ((List.range (j - i).toNat).map fun k => .int (i + (k : Nat))), .fr, st2) else .bad
  | _, _ => .bad
theorem allD_rg {mg : Wd} {S : Addr → Prop} {ι : List Addr} {H : Hp} (i j : Int) : AllD mg S ι H (rgV i j) ((List.range (j - i).toNat).map fun k => MV.int (i + (k : Nat))) := by
  refine ⟨by rw [rgV_length]; simp, fun n v m h1 h2 => ?_⟩
  unfold rgV at h1
  rw [List.getElem?_map] at h1 h2
  obtain ⟨k, hk, rfl⟩ := Option.map_eq_some_iff.mp h1
  obtain ⟨k', hk', rfl⟩ := Option.map_eq_some_iff.mp h2
  rw [hk] at hk'; cases hk'
  exact .int _
variable {a b : Expr} {fa fb : EF}
theorem se_listRg2 {p p' pos' : Pos} (hc : X.calm = true) (hg : Gl X "list") (hm : X.mg "list" = none) (hg' : Gl X "range") (hm' : X.mg "range" = none) (ha : SE X B W a fa) (hb : SE X B W b fb)
    (na : starEach [a, b] X.env = (false, eval a X.env) :: starEach [b] X.env := by rfl) (nb : starEach [b] X.env = (false, eval b X.env) :: starEach [] X.env := by rfl) (hp : (backTo pos' (starEach [b] X.env)).any (·.1) = false := by rfl)
    (nn : starEach [.Call (.Name "range" p') [a, b] [] pos'] X.env = (false, eval (.Call (.Name "range" p') [a, b] [] pos') X.env) :: starEach [] X.env := by rfl) :
    SE X B W (.Call (.Name "list" p) [.Call (.Name "range" p') [a, b] [] pos'] [] pos) (mRg fa fb) := by
  refine (pe_listRg hc hg hm (prg_2 hg' hm' ha hb na nb hp) nn).fw fun σ H Q ⟨S, ι, lo, st, fm, p⟩ => ?_
  refine tE.use fm (Post.bind p) fun a ka st1 S1 ι1 H1 x f1 k1 r1 p1 => ?_
  obtain ⟨S1', f1', k1', h1⟩ := r1.hand f1
  refine tE.use f1' (Post.bind (p1.mono (k1.trans k1') fun _ z => z)) fun b kb st2 S2 ι2 H2 y f2 k2 r2 p2 => ?_
  obtain ⟨S2', f2', k2', h2⟩ := r2.hand f2
  have v1 := (h1.mono (k2.trans k2')).vr f2'
  have v2 := h2.vr f2'
  dsimp only at p2
  split at p2
  · split at p2
    · cases v1; cases v2
      refine ⟨_, _, rfl, rfl, by assumption, fun q hq => ?_⟩
      exact wants_of (z := (.lst _, true)) (st2 := st2) f2' p2 (k1.trans (k1'.trans (k2.trans k2'))) q _ hq ⟨_, rfl, allD_rg _ _⟩
    · exact p2.elim
  · exact p2.elim
def mBits (fa : EF) : EF := fun lo st => fa lo st >>= fun (a, _, st1) => match a with
  | .int i => .ok (.int (Builtin.Int.intBits i : Nat), .fz, st1)
  | _ => .bad
theorem se_bits {apos pos : Pos} (ho : SE X B W a fa) (hbase : attributeBase a "bit_length" X.env (eval a X.env) = eval a X.env := by rfl) (hline : (apos.endLine == pos.line) = true := by rfl) : SE X B W (.Call (.Attribute a "bit_length" apos) [] [] pos) (mBits fa) := by
  refine (pe_bits ho hbase hline).fw fun σ H Q ⟨S, ι, lo, st, fm, p⟩ => ?_
  refine tE.use fm (Post.bind p) fun a ka st1 S1 ι1 H1 x f1 k1 r1 p1 => ?_
  dsimp only at p1
  split at p1
  · exact ⟨_, rv_int f1 r1, p1 S1 ι1 H1 _ f1 k1 (.int _)⟩
  · exact p1.elim

def gIx : G2
  | _, .lst xs, .int i => (atI xs i).map (·, false)
  | _, .tup xs, .int i => (atI xs i).map (·, false)
  | _, .scr ns, .int i => (atI ns i).map fun n => (.int n, false)
  | _, .str z, .int i => if z.length ≤ sizeLine then (atI z.cps.toList i).map fun c => (.str ⟨#[c]⟩, false) else none
  | _, _, _ => none
theorem atI_all {mg : Wd} {S : Addr → Prop} {ι : List Addr} {H : Hp} {vs : List V} {ms : List MV} (d : AllD mg S ι H vs ms) {i : Int} {m : MV} (h : atI ms i = some m) : ∃ v, atI vs i = some v ∧ Dt mg S ι H v m := by
  unfold atI at h ⊢
  obtain ⟨j, h1, h2⟩ := Option.bind_eq_some_iff.mp h
  obtain ⟨v, h3, h4⟩ := d.get h2
  exact ⟨v, by rw [d.1, h1]; exact h3, h4⟩
theorem atI_map {α β : Type} (f : α → β) (xs : List α) (i : Int) : atI (xs.map f) i = (atI xs i).map f := by
  unfold atI
  rw [List.length_map]
  cases ixN xs.length i with
  | none => rfl
  | some j => simp
theorem ok_ix : Op2 X (fun x y H Q => rIxL X.K x y H Q ∨ rIxT X.K x y H Q ∨ rIxS x y H Q) gIx := by
  intro S ι H st x y a b z Q hr ha hb e w
  unfold gIx at e
  split at e
  · obtain ⟨p, vs, rfl, h1, d⟩ := ha
    cases hb
    obtain ⟨m, hm, rfl⟩ := Option.map_eq_some_iff.mp e
    obtain ⟨v, hv, dv⟩ := atI_all d hm
    exact .inl ⟨p, vs, _, v, rfl, rfl, .of h1, hv, w v dv⟩
  · obtain ⟨p, vs, rfl, h1, d⟩ := ha
    cases hb
    obtain ⟨m, hm, rfl⟩ := Option.map_eq_some_iff.mp e
    obtain ⟨v, hv, dv⟩ := atI_all d hm
    exact .inr (.inl ⟨p, vs, _, v, rfl, rfl, .of h1, hv, w v dv⟩)
  · obtain ⟨p, rfl, h1⟩ := ha
    cases hb
    obtain ⟨m, hm, rfl⟩ := Option.map_eq_some_iff.mp e
    exact .inl ⟨p, _, _, .int m, rfl, rfl, h1, by rw [atI_map, hm]; rfl, w _ (.int _)⟩
  · split at e
    · cases ha; cases hb
      obtain ⟨m, hm, rfl⟩ := Option.map_eq_some_iff.mp e
      exact .inr (.inr ⟨_, _, m, rfl, rfl, by assumption, hm, w _ (.str _)⟩)
    · cases e
  · cases e
theorem se_ix (ha : SE X B W a fa) (hb : SE X B W b fb) (hs : PlainIx b := by exact fun _ _ => rfl) : SE X B W (.Subscript a b pos) (mOp gIx fa fb) := (pe_ix ix_seq ha hb hs).fw (op_imp ok_ix)
abbrev OF := Lo → Sto → Res (Option Int × Sto)
def tOf (mg : Wd) (B : Base) (W : WX) (f : OF) : L2.TO := fun σ H Q => ∃ S ι lo st, Fm mg B S ι H lo σ st ∧ Post mg B W S ι H (fun r => ∀ S' ι' H', Fm mg B S' ι' H' lo σ r.2 → Keep S ι H S' ι' H' → Q r.1 H') (f lo st)
abbrev SO (X : Cx) (B : Base) (W : WX) (e : Option Expr) (f : OF) : Prop := PO X e (tOf X.wd B W f)
theorem _root_.L2.PO.fw {X : Cx} {e : Option Expr} {t t' : L2.TO} (h : PO X e t) (i : ∀ σ H Q, t' σ H Q → t σ H Q) : PO X e t' := ⟨fun pins s σ H Q I q => h.run pins s σ H Q I (i σ H Q q)⟩
def oNone : OF := fun _ st => .ok (none, st)
def oSome (f : EF) : OF := fun lo st => f lo st >>= fun (a, _, st1) => match a with
  | .int i => .ok (some i, st1)
  | _ => .bad
theorem so_none : SO X B W none oNone := po_none.fw fun σ H Q ⟨S, ι, lo, st, fm, p⟩ => p S ι H fm .refl
theorem so_some (ha : SE X B W a fa) : SO X B W (some a) (oSome fa) := by
  refine (po_some ha).fw fun σ H Q ⟨S, ι, lo, st, fm, p⟩ => ?_
  refine tE.use fm (Post.bind p) fun a ka st1 S1 ι1 H1 x f1 k1 r1 p1 => ?_
  dsimp only at p1
  split at p1
  · exact ⟨_, rv_int f1 r1, p1 S1 ι1 H1 f1 k1⟩
  · exact p1.elim
def cutM (xs : List MV) (lo hi : Option Int) : List MV := (xs.drop (HT.sIx xs.length 0 lo)).take (HT.sIx xs.length xs.length hi - HT.sIx xs.length 0 lo)
def gSl : MV → Option Int → Option Int → Option (MV × Bool)
  | .lst xs, lo, hi => some (.lst (cutM xs lo hi), true)
  | .tup xs, lo, hi => if HT.sIx xs.length 0 lo = 0 ∧ HT.sIx xs.length xs.length hi = xs.length then none else some (.tup (cutM xs lo hi), true)
  | .str z, lo, hi => if z.length ≤ sizeLine then some (.str (cutS z lo hi), false) else none
  | _, _, _ => none
def mSl (fa : EF) (fl fh : OF) : EF := fun lo st => fa lo st >>= fun (a, _, st1) => fl lo st1 >>= fun (l, st2) => fh lo st2 >>= fun (h, st3) => giveOut (gSl (vw st3 a) l h) st3
variable {l h : Option Expr} {fl fh : OF}
theorem tOf.use {mg : Wd} {S : Addr → Prop} {ι : List Addr} {H : Hp} {lo : Lo} {σ : L2.St} {st : Sto} {f : OF} {P : Option Int × Sto → Prop} {Q : Option Int → Hp → Prop} (fm : Fm mg B S ι H lo σ st) (p : Post mg B W S ι H P (f lo st))
    (h : ∀ b st' S' ι' H', Fm mg B S' ι' H' lo σ st' → Keep S ι H S' ι' H' → P (b, st') → Q b H') : tOf mg B W f σ H Q :=
  ⟨S, ι, lo, st, fm, p.imp fun ⟨b, st'⟩ hp S' ι' H' fm' kp => h b st' S' ι' H' fm' kp hp⟩
theorem se_slice {p2 : Pos} (ha : SE X B W a fa) (hl : SO X B W l fl) (hh : SO X B W h fh) : SE X B W (.Subscript a (.Slice l h none p2) pos) (mSl fa fl fh) := by
  refine (pe_slice (sl_list.or (sl_tup.or sl_str)) ha hl hh).fw fun σ H Q ⟨S, ι, lo, st, fm, p⟩ => ?_
  refine tE.use fm (Post.bind p) fun a ka st1 S1 ι1 H1 x f1 k1 r1 p1 => ?_
  obtain ⟨S1', f1', k1', h1⟩ := r1.hand f1
  refine tOf.use f1' (Post.bind (p1.mono (k1.trans k1') fun _ z => z)) fun l st2 S2 ι2 H2 f2 k2 p2 => ?_
  refine tOf.use f2 (Post.bind (p2.mono k2 fun _ z => z)) fun u st3 S3 ι3 H3 f3 k3 p3 => ?_
  have v1 := (h1.mono (k2.trans k3)).vr f3
  obtain ⟨z, e, w⟩ := give_of f3 (((k1.trans k1').trans k2).trans k3) p3
  unfold gSl at e
  split at e
  · rename_i q
    rw [q] at v1
    obtain ⟨p, vs, rfl, h1, d⟩ := v1
    cases e
    refine .inl ⟨p, vs, rfl, .of h1, fun r hr => w r _ hr ⟨_, rfl, ?_⟩⟩
    unfold cutV cutM
    rw [d.1]
    exact (d.drop _).take _
  · rename_i q
    rw [q] at v1
    obtain ⟨p, vs, rfl, h1, d⟩ := v1
    split at e
    · cases e
    · cases e
      refine .inr (.inl ⟨p, vs, rfl, .of h1, by rw [d.1]; assumption, fun r hr => w r _ hr ⟨_, rfl, ?_⟩⟩)
      unfold cutV cutM
      rw [d.1]
      exact (d.drop _).take _
  · rename_i q
    rw [q] at v1
    split at e
    · cases e; cases v1
      exact .inr (.inr ⟨_, rfl, by assumption, w _ (.str _)⟩)
    · cases e
  · cases e
end
end FW

namespace FW
open PySem L2 PySem.Spec PyProof.Rows

section
variable {mg : Wd} {B : Base} {W : WX} {S S' S2 : Addr → Prop} {ι ι' ι2 : List Addr} {H H' H2 : Hp} {lo lo' : Lo} {σ σ' : L2.St} {st st' : Sto} {v : V} {m : MV}
theorem Loc.set_val (l : Loc mg B S ι H lo σ) (i : Nat) (d : Dt mg S ι H v m) : Loc mg B S ι H (lo.set i (some (m, false))) (σ.set i (some v)) := by
  have hl := l.len
  refine ⟨by simp [hl], fun j n h => ?_, fun j n h => ?_, fun j k n n' a hjk h1 h2 h3 => ?_, fun j c fs h => ?_⟩
  · by_cases hj : i = j
    · subst hj
      by_cases hi : i < lo.length
      · rw [List.getElem?_set_self hi] at h; cases h
        exact ⟨v, List.getElem?_set_self (by omega), d⟩
      · rw [List.getElem?_eq_none (by simp; omega)] at h; cases h
    · rw [List.getElem?_set_ne hj] at h
      obtain ⟨w, e, q⟩ := l.val j n h
      exact ⟨w, by rw [List.getElem?_set_ne hj]; exact e, q⟩
  · by_cases hj : i = j
    · subst hj
      by_cases hi : i < lo.length
      · rw [List.getElem?_set_self hi] at h; cases h
      · rw [List.getElem?_eq_none (by simp; omega)] at h; cases h
    · rw [List.getElem?_set_ne hj] at h
      obtain ⟨w, e, q⟩ := l.own j n h
      exact ⟨w, by rw [List.getElem?_set_ne hj]; exact e, q⟩
  · have ne : ∀ {j : Nat} {n : MV}, (lo.set i (some (m, false)))[j]? = some (some (n, true)) → i ≠ j := fun {j n} h e => by
      subst e
      by_cases hi : i < lo.length
      · rw [List.getElem?_set_self hi] at h; cases h
      · rw [List.getElem?_eq_none (by simp; omega)] at h; cases h
    have e1 := ne h1
    have e2 := ne h2
    rw [List.getElem?_set_ne e1] at h1 h3
    rw [List.getElem?_set_ne e2] at h2
    rw [List.getElem?_set_ne e2]
    exact l.dis j k n n' a hjk h1 h2 h3
  · by_cases hj : i = j
    · subst hj
      by_cases hi : i < lo.length
      · rw [List.getElem?_set_self hi] at h; cases h
      · rw [List.getElem?_eq_none (by simp; omega)] at h; cases h
    · rw [List.getElem?_set_ne hj] at h
      obtain ⟨w, e, q⟩ := l.pin j c fs h
      exact ⟨w, e, by rw [List.getElem?_set_ne hj]; exact q⟩
def ownOk : MV → Bool
  | .ins _ _ => false
  | _ => true
theorem Loc.set_own {a : Addr} (l : Loc mg B S ι H lo σ) (i : Nat) (hm : ownOk m = true) (h1 : ¬ S a) (h2 : a ∉ ι) (h3 : B.New a) (d : Sh mg S ι H a m) (h4 : ∀ (j : Nat) m', lo[j]? = some (some (m', true)) → σ[j]? ≠ some (some (.ref a))) :
    Loc mg B S ι H (lo.set i (some (m, true))) (σ.set i (some (.ref a))) := by
  have hl := l.len
  refine ⟨by simp [hl], fun j n h => ?_, fun j n h => ?_, fun j k n n' b hjk q1 q2 q3 => ?_, fun j c fs h => ?_⟩
  · by_cases hj : i = j
    · subst hj
      by_cases hi : i < lo.length
      · rw [List.getElem?_set_self hi] at h; cases h
      · rw [List.getElem?_eq_none (by simp; omega)] at h; cases h
    · rw [List.getElem?_set_ne hj] at h
      obtain ⟨w, e, q⟩ := l.val j n h
      exact ⟨w, by rw [List.getElem?_set_ne hj]; exact e, q⟩
  · by_cases hj : i = j
    · subst hj
      by_cases hi : i < lo.length
      · rw [List.getElem?_set_self hi] at h; cases h
        exact ⟨a, List.getElem?_set_self (by omega), h1, h2, h3, d⟩
      · rw [List.getElem?_eq_none (by simp; omega)] at h; cases h
    · rw [List.getElem?_set_ne hj] at h
      obtain ⟨w, e, q⟩ := l.own j n h
      exact ⟨w, by rw [List.getElem?_set_ne hj]; exact e, q⟩
  · have inr : ∀ {j : Nat} {z : Option (MV × Bool)}, (lo.set i (some (m, true)))[j]? = some z → j < lo.length := fun {j z} h => by
      have := (List.getElem?_eq_some_iff.mp h).1
      simpa using this
    by_cases e1 : i = j
    · subst e1
      have hk : i ≠ k := hjk
      rw [List.getElem?_set_self (by have := inr q1; omega)] at q3
      cases q3
      rw [List.getElem?_set_ne hk] at q2 ⊢
      exact h4 k n' q2
    · rw [List.getElem?_set_ne e1] at q1 q3
      by_cases e2 : i = k
      · subst e2
        rw [List.getElem?_set_self (by have := inr q2; omega)]
        intro z
        have z' : a = b := by simpa using z
        subst z'
        exact h4 j n q1 q3
      · rw [List.getElem?_set_ne e2] at q2 ⊢
        exact l.dis j k n n' b hjk q1 q2 q3
  · by_cases hj : i = j
    · subst hj
      by_cases hi : i < lo.length
      · rw [List.getElem?_set_self hi] at h; cases h; cases hm
      · rw [List.getElem?_eq_none (by simp; omega)] at h; cases h
    · rw [List.getElem?_set_ne hj] at h
      obtain ⟨w, e, q⟩ := l.pin j c fs h
      exact ⟨w, e, by rw [List.getElem?_set_ne hj]; exact q⟩
theorem Fm.set_val (f : Fm mg B S ι H lo σ st) (i : Nat) (d : Dt mg S ι H v m) : Fm mg B S ι H (lo.set i (some (m, false))) (σ.set i (some v)) st := ⟨f.ext, f.rep, f.loc.set_val i d, f.g⟩
theorem Keep.upd {a : Addr} {o : HO} (h : ¬ S a) : Keep S ι H S ι (upd H a o) := ⟨fun _ h => h, fun b hb => upd_ne (fun e => h (e ▸ hb)), List.prefix_refl _⟩
/-- a frame's own thing is changed -/
theorem Fm.mutOwn {a : Addr} {o : HO} {i : Nat} {m m' : MV} (f : Fm mg B S ι H lo σ st) (h1 : lo[i]? = some (some (m, true))) (h2 : σ[i]? = some (some (.ref a))) (d : Ob mg S ι H o m') (hins : ∀ c fs, m' = .ins c fs → ∃ c' fs', m = .ins c' fs') :
    Fm mg B S ι (upd H a o) (lo.set i (some (m', true))) σ st := by
  obtain ⟨a', e, n1, n2, n3, d1⟩ := f.loc.own i m h1
  rw [h2] at e; cases e
  have k : Keep S ι H S ι (upd H a o) := Keep.upd n1
  refine ⟨⟨f.ext.s, fun b u q n => ?_, fun b hb => f.ext.b b hb, f.ext.i, f.ext.n⟩, ⟨f.rep.len, f.rep.nd, f.rep.sep, fun b hb => ?_, fun n b q q1 q2 => ?_⟩, ?_, fun b u hb => ?_⟩
  · rw [upd_ne (fun z => by subst z; rw [n3.1] at q; cases q)]; exact f.ext.k b u q n
  · rw [upd_ne (fun (z : b = a) => n1 (by rw [← z]; exact hb))]; exact f.rep.som b hb
  · exact (f.rep.ent n b q q1 q2).mono k (upd_ne (fun z => n2 (z ▸ List.mem_of_getElem? q1)))
  · have hl := f.loc.len
    have hi : i < lo.length := (List.getElem?_eq_some_iff.mp h1).1
    refine ⟨by simp [hl], fun j n h => ?_, fun j n h => ?_, fun j k n n' b hjk q1 q2 q3 => ?_, fun j c fs h => ?_⟩
    · by_cases hj : i = j
      · subst hj; rw [List.getElem?_set_self hi] at h; cases h
      · rw [List.getElem?_set_ne hj] at h
        obtain ⟨w, e, q⟩ := f.loc.val j n h
        exact ⟨w, e, q.mono k⟩
    · by_cases hj : i = j
      · subst hj
        rw [List.getElem?_set_self hi] at h; cases h
        exact ⟨a, h2, n1, n2, n3, ⟨o, upd_same, d.mono k⟩⟩
      · rw [List.getElem?_set_ne hj] at h
        obtain ⟨w, e, q1, q2, q3, q⟩ := f.loc.own j n h
        refine ⟨w, e, q1, q2, q3, q.mono k (upd_ne fun z => ?_)⟩
        subst z
        exact f.loc.dis i j m n w hj h1 h h2 e
    · have back : ∀ {j : Nat} {n : MV}, (lo.set i (some (m', true)))[j]? = some (some (n, true)) → ∃ n0, lo[j]? = some (some (n0, true)) := fun {j n} h => by
        by_cases hj : i = j
        · subst hj; exact ⟨m, h1⟩
        · rw [List.getElem?_set_ne hj] at h; exact ⟨n, h⟩
      obtain ⟨n1, e1⟩ := back q1
      obtain ⟨n2, e2⟩ := back q2
      exact f.loc.dis j k n1 n2 b hjk e1 e2 q3
    · by_cases hj : i = j
      · subst hj
        rw [List.getElem?_set_self hi] at h
        obtain ⟨c', fs', e⟩ := hins c fs (by cases h; rfl)
        exact f.loc.pin i c' fs' (by rw [h1, e])
      · rw [List.getElem?_set_ne hj] at h
        exact f.loc.pin j c fs h
  · obtain ⟨q1, q2, q3⟩ := f.g b u hb
    exact ⟨(upd_ne fun z => by subst z; rw [n3.2] at hb; cases hb).trans q1, q2, q3⟩
/-- a place of the store is changed -/
theorem Fm.mutSto {a : Addr} {o : HO} {n : Nat} {m' : MV} (f : Fm mg B S ι H lo σ st) (h1 : ι[n]? = some a) (d : Ob mg S ι H o m') : Fm mg B S ι (upd H a o) lo σ (st.set n m') := by
  have ha : a ∈ ι := List.mem_of_getElem? h1
  have n1 : ¬ S a := f.rep.sep a ha
  have k : Keep S ι H S ι (upd H a o) := Keep.upd n1
  refine ⟨⟨f.ext.s, fun b u q hn => ?_, fun b hb => f.ext.b b hb, f.ext.i, f.ext.n⟩, ⟨by simp [f.rep.len], f.rep.nd, f.rep.sep, fun b hb => ?_, fun j b q q1 q2 => ?_⟩, ⟨f.loc.len, fun j q h => ?_, fun j q h => ?_, f.loc.dis, f.loc.pin⟩, fun b u hb => ?_⟩
  · rw [upd_ne (fun z => ?_)]
    · exact f.ext.k b u q hn
    · subst z
      rcases f.ext.n b ha with z | z
      · exact hn z
      · rw [q] at z; cases z
  · rw [upd_ne (fun (z : b = a) => n1 (by rw [← z]; exact hb))]; exact f.rep.som b hb
  · by_cases hj : n = j
    · subst hj
      rw [h1] at q1; cases q1
      have hl : n < st.length := by rw [← f.rep.len]; exact (List.getElem?_eq_some_iff.mp h1).1
      rw [List.getElem?_set_self hl] at q2; cases q2
      exact ⟨o, upd_same, d.mono k⟩
    · rw [List.getElem?_set_ne hj] at q2
      refine (f.rep.ent j b q q1 q2).mono k (upd_ne fun z => ?_)
      subst z
      have i1 := (List.getElem?_eq_some_iff.mp h1)
      have i2 := (List.getElem?_eq_some_iff.mp q1)
      exact hj ((List.getElem_inj f.rep.nd).mp (i1.2.trans i2.2.symm))
  · obtain ⟨w, e, q⟩ := f.loc.val j q h
    exact ⟨w, e, q.mono k⟩
  · obtain ⟨w, e, q1, q2, q3, q⟩ := f.loc.own j q h
    exact ⟨w, e, q1, q2, q3, q.mono k (upd_ne fun z => q2 (z ▸ ha))⟩
  · obtain ⟨q1, q2, q3⟩ := f.g b u hb
    exact ⟨(upd_ne fun (z : b = a) => q2 (by rw [z]; exact ha)).trans q1, q2, q3⟩
/-- a new place of the store -/
theorem Fm.push {a : Addr} {m : MV} (f : Fm mg B S ι H lo σ st) (h1 : ¬ S a) (h2 : a ∉ ι) (h3 : B.New a) (d : Sh mg S ι H a m) (h4 : ∀ (j : Nat) m', lo[j]? = some (some (m', true)) → σ[j]? ≠ some (some (.ref a))) :
    Fm mg B S (ι ++ [a]) H lo σ (st ++ [m]) ∧ Keep S ι H S (ι ++ [a]) H := by
  have k : Keep S ι H S (ι ++ [a]) H := ⟨fun _ h => h, fun _ _ => rfl, List.prefix_append _ _⟩
  refine ⟨⟨⟨f.ext.s, f.ext.k, f.ext.b, f.ext.i.trans (List.prefix_append _ _), fun b hb => ?_⟩, ⟨by simp [f.rep.len], ?_, fun b hb => ?_, f.rep.som, fun n b q q1 q2 => ?_⟩, ⟨f.loc.len, fun j q h => ?_, fun j q h => ?_, f.loc.dis, f.loc.pin⟩, fun b u hb => ?_⟩, k⟩
  · rcases List.mem_append.mp hb with z | z
    · exact f.ext.n b z
    · rw [List.mem_singleton] at z; subst z; exact .inr h3.1
  · rw [List.nodup_append]
    exact ⟨f.rep.nd, by simp, fun x hx y hy => by rw [List.mem_singleton] at hy; subst hy; intro z; subst z; exact h2 hx⟩
  · rcases List.mem_append.mp hb with z | z
    · exact f.rep.sep b z
    · rw [List.mem_singleton] at z; subst z; exact h1
  · by_cases hn : n < ι.length
    · rw [List.getElem?_append_left hn] at q1
      rw [List.getElem?_append_left (by rw [← f.rep.len]; exact hn)] at q2
      exact (f.rep.ent n b q q1 q2).mono k rfl
    · rw [List.getElem?_append_right (by omega)] at q1
      rw [List.getElem?_append_right (by rw [← f.rep.len]; omega)] at q2
      rw [f.rep.len] at q1
      have e : n - st.length = 0 := by
        have := (List.getElem?_eq_some_iff.mp q1).1
        simp at this; omega
      rw [e] at q1 q2
      simp at q1 q2
      subst q1; subst q2
      exact d.mono k rfl
  · obtain ⟨w, e, q⟩ := f.loc.val j q h
    exact ⟨w, e, q.mono k⟩
  · obtain ⟨w, e, q1, q2, q3, q⟩ := f.loc.own j q h
    refine ⟨w, e, q1, fun z => ?_, q3, q.mono k rfl⟩
    rcases List.mem_append.mp z with z | z
    · exact q2 z
    · rw [List.mem_singleton] at z; subst z; exact h4 j _ h e
  · obtain ⟨q1, q2, q3⟩ := f.g b u hb
    refine ⟨q1, fun z => ?_, q3⟩
    rcases List.mem_append.mp z with z | z
    · exact q2 z
    · rw [List.mem_singleton] at z; subst z; rw [h3.2] at hb; cases hb
end

def PS1 (mg : Wd) (B : Base) (S : Addr → Prop) (ι : List Addr) (H : Hp) (D : Ends) : Fl × Lo × Sto → Prop
  | (.nx, lo', st') => ∀ S' ι' σ' H', Fm mg B S' ι' H' lo' σ' st' → Keep S ι H S' ι' H' → D.nx σ' H'
  | (.bk, lo', st') => ∀ S' ι' σ' H', Fm mg B S' ι' H' lo' σ' st' → Keep S ι H S' ι' H' → D.bk σ' H'
  | (.ct, lo', st') => ∀ S' ι' σ' H', Fm mg B S' ι' H' lo' σ' st' → Keep S ι H S' ι' H' → D.ct σ' H'
  | (.rt m k, lo', st') => ∀ S' ι' σ' H' v, Fm mg B S' ι' H' lo' σ' st' → Keep S ι H S' ι' H' → RV mg B S' ι' H' lo' σ' v m k → D.rt v H'
def tS (mg : Wd) (B : Base) (W : WX) (g : SF) : TS := fun D σ H => ∃ S ι lo st, Fm mg B S ι H lo σ st ∧ Post mg B W S ι H (PS1 mg B S ι H D) (g lo st)
abbrev SS (X : Cx) (B : Base) (W : WX) (e : Stmt) (g : SF) : Prop := PS X e (tS X.wd B W g)
abbrev SSs (X : Cx) (B : Base) (W : WX) (e : List Stmt) (g : SF) : Prop := PSs X e (tS X.wd B W g)
theorem PS1.mono {mg : Wd} {B : Base} {S S' : Addr → Prop} {ι ι' : List Addr} {H H' : Hp} {D : Ends} {r : Fl × Lo × Sto} (k : Keep S ι H S' ι' H') (p : PS1 mg B S ι H D r) : PS1 mg B S' ι' H' D r := by
  obtain ⟨fl, lo, st⟩ := r
  cases fl with
  | nx => exact fun S2 ι2 σ2 H2 f k2 => p S2 ι2 σ2 H2 f (k.trans k2)
  | bk => exact fun S2 ι2 σ2 H2 f k2 => p S2 ι2 σ2 H2 f (k.trans k2)
  | ct => exact fun S2 ι2 σ2 H2 f k2 => p S2 ι2 σ2 H2 f (k.trans k2)
  | rt m kd => exact fun S2 ι2 σ2 H2 v f k2 => p S2 ι2 σ2 H2 v f (k.trans k2)
/-- what is wanted behind a statement, by a later one -/
theorem tS.use {mg : Wd} {B : Base} {W : WX} {S : Addr → Prop} {ι : List Addr} {H : Hp} {lo : Lo} {σ : L2.St} {st : Sto} {g : SF} {P : Fl × Lo × Sto → Prop} {D : Ends} (fm : Fm mg B S ι H lo σ st) (p : Post mg B W S ι H P (g lo st))
    (h : ∀ r, P r → PS1 mg B S ι H D r) : tS mg B W g D σ H := ⟨S, ι, lo, st, fm, p.imp h⟩
def sNil : SF := fun lo st => .ok (.nx, lo, st)
def sSeq (g g' : SF) : SF := fun lo st => g lo st >>= fun (fl, lo1, st1) => match fl with
  | .nx => g' lo1 st1
  | fl => .ok (fl, lo1, st1)
def frzd (r : MV × Kd × Sto) : Res (MV × Sto) := match r with
  | (_, .pk _, _) => .bad
  | (m, _, st) => .ok (m, st)
/-- x = e, e data from then on -/
def sSet (i : Nat) (f : EF) : SF := fun lo st => f lo st >>= fun r => frzd r >>= fun (m, st1) => .ok (.nx, lo.set i (some (m, false)), st1)
/-- x = e, e a thing of the frame's own -/
def sOwn (i : Nat) (f : EF) : SF := fun lo st => f lo st >>= fun (m, k, st1) => match k with
  | .fr => if ownOk m = true then .ok (.nx, lo.set i (some (m, true)), st1) else .bad
  | _ => .bad
/-- e in a new place of the store -/
def mSto (f : EF) : EF := fun lo st => f lo st >>= fun (m, k, st1) => match k with
  | .fr => .ok (.ref st1.length, .fz, st1 ++ [m])
  | _ => .bad
def sExpr (f : EF) : SF := fun lo st => f lo st >>= fun (_, _, st1) => .ok (.nx, lo, st1)
def sRet (f : EF) : SF := fun lo st => f lo st >>= fun (m, k, st1) => .ok (.rt m k, lo, st1)
def sRetN : SF := fun lo st => .ok (.rt .non .fz, lo, st)
def sIf (c : TF) (g g' : SF) : SF := fun lo st => c lo st >>= fun (b, st1) => if b = true then g lo st1 else g' lo st1
section
variable {X : Cx} {B : Base} {W : WX} {e : Expr} {f : EF} {pos : Pos} {s : Stmt} {ss : List Stmt} {g g' : SF}
theorem ss_nil : SSs X B W [] sNil := pss_nil.fw fun D σ H ⟨S, ι, lo, st, fm, p⟩ => p S ι σ H fm .refl
theorem ss_cons (h1 : SS X B W s g) (h2 : SSs X B W ss g') : SSs X B W (s :: ss) (sSeq g g') := by
  refine (pss_cons h1 h2).fw fun D σ H ⟨S, ι, lo, st, fm, p⟩ => ?_
  refine tS.use fm (Post.bind p) fun r q => ?_
  obtain ⟨fl, lo1, st1⟩ := r
  cases fl with
  | nx => exact fun S' ι' σ' H' fm' k => ⟨S', ι', lo1, st1, fm', q.mono k fun r z => z.mono k⟩
  | bk => exact q
  | ct => exact q
  | rt m kd => exact q
theorem ss_one (h1 : SS X B W s g) : SSs X B W [s] g := pss_one h1
theorem ss_pass : SS X B W (.Pass pos) sNil := ps_pass.fw fun D σ H ⟨S, ι, lo, st, fm, p⟩ => p S ι σ H fm .refl
theorem ss_doc {x j p p'} : SS X B W (.Expr (.Constant (.str x) j p) p') sNil := ps_doc.fw fun D σ H ⟨S, ι, lo, st, fm, p⟩ => p S ι σ H fm .refl
theorem ss_set (i : Nat) {x : Str} {p' : Pos} (hN : X.N.Nodup) (he : SE X B W e f) (hi : X.N[i]? = some x := by rfl) (hx : L2.Loc X.env.scope x := by first | exact Or.inl rfl | exact Or.inr rfl) (hs : swapsWith e (some (.Name x p')) pos.line X.env = pure false := by rfl)
    (hf : X.fn x = true ∨ X.env.scope.names.lookup x = some .local := by first | exact .inl rfl | exact .inr rfl) : SS X B W (.Assign [.Name x p'] e pos) (sSet i f) := by
  refine (ps_set hN hi hx he hs hf).fw fun D σ H ⟨S, ι, lo, st, fm, p⟩ => ?_
  refine tE.use fm (Post.bind p) fun m k st1 S1 ι1 H1 v f1 k1 r1 p1 => ?_
  cases k with
  | pk j => exact p1.elim
  | fz => exact p1 S1 ι1 _ H1 (f1.set_val i r1) k1
  | fr =>
    obtain ⟨S2, f2, k2, d⟩ := RV.freeze f1 r1 (fun j z => by cases z)
    exact p1 S2 ι1 _ H1 (f2.set_val i d) (k1.trans k2)
theorem ss_own (i : Nat) {x : Str} {p' : Pos} (hN : X.N.Nodup) (he : SE X B W e f) (hi : X.N[i]? = some x := by rfl) (hx : L2.Loc X.env.scope x := by first | exact Or.inl rfl | exact Or.inr rfl) (hs : swapsWith e (some (.Name x p')) pos.line X.env = pure false := by rfl)
    (hf : X.fn x = true ∨ X.env.scope.names.lookup x = some .local := by first | exact .inl rfl | exact .inr rfl) : SS X B W (.Assign [.Name x p'] e pos) (sOwn i f) := by
  refine (ps_set hN hi hx he hs hf).fw fun D σ H ⟨S, ι, lo, st, fm, p⟩ => ?_
  refine tE.use fm (Post.bind p) fun m k st1 S1 ι1 H1 v f1 k1 r1 p1 => ?_
  cases k with
  | pk j => exact p1.elim
  | fz => exact p1.elim
  | fr =>
    dsimp only at p1
    split at p1
    case isFalse => exact p1.elim
    rename_i hm
    obtain ⟨a, rfl, h1, h2, h3, d, h4⟩ := r1
    exact p1 S1 ι1 _ H1 ⟨f1.ext, f1.rep, f1.loc.set_own i hm h1 h2 h3 d h4, f1.g⟩ k1
theorem se_sto (he : SE X B W e f) : SE X B W e (mSto f) := by
  refine he.fw fun σ H Q ⟨S, ι, lo, st, fm, p⟩ => ?_
  refine tE.use fm (Post.bind p) fun m k st1 S1 ι1 H1 v f1 k1 r1 p1 => ?_
  cases k with
  | pk j => exact p1.elim
  | fz => exact p1.elim
  | fr =>
    obtain ⟨a, rfl, h1, h2, h3, d, h4⟩ := r1
    obtain ⟨f2, k2⟩ := f1.push h1 h2 h3 d h4
    refine p1 S1 _ H1 _ f2 (k1.trans k2) (.ref ?_)
    rw [← f1.rep.len]; simp
theorem ss_expr (he : SE X B W e f) (hs : swapsWith e none pos.line X.env = pure false := by rfl) : SS X B W (.Expr e pos) (sExpr f) := by
  refine (ps_expr he hs).fw fun D σ H ⟨S, ι, lo, st, fm, p⟩ => ?_
  exact tE.use fm (Post.bind p) fun m k st1 S1 ι1 H1 v f1 k1 r1 p1 => p1 S1 ι1 σ H1 f1 k1
theorem ss_ret (he : SE X B W e f) : SS X B W (.Return (some e) pos) (sRet f) := by
  refine (ps_ret he).fw fun D σ H ⟨S, ι, lo, st, fm, p⟩ => ?_
  exact tE.use fm (Post.bind p) fun m k st1 S1 ι1 H1 v f1 k1 r1 p1 => p1 S1 ι1 σ H1 v f1 k1 r1
theorem ss_retN : SS X B W (.Return none pos) sRetN := ps_retN.fw fun D σ H ⟨S, ι, lo, st, fm, p⟩ => p S ι σ H _ fm .refl .non
theorem ss_if {c : Expr} {a b : List Stmt} {tc : TF} (hc : STe X B W c tc) (ha : SSs X B W a g) (hb : SSs X B W b g') : SS X B W (.If c a b pos) (sIf tc g g') := by
  refine (ps_if hc ha hb).fw fun D σ H ⟨S, ι, lo, st, fm, p⟩ => ?_
  refine tT.use fm (Post.bind p) fun b st1 S1 ι1 H1 f1 k1 p1 => ?_
  dsimp only at p1
  cases b with
  | true =>
    rw [if_pos rfl] at p1 ⊢
    exact ⟨S1, ι1, lo, st1, f1, p1.mono k1 fun r z => z.mono k1⟩
  | false =>
    rw [if_neg Bool.false_ne_true] at p1 ⊢
    exact ⟨S1, ι1, lo, st1, f1, p1.mono k1 fun r z => z.mono k1⟩
end

abbrev FF := List MV → Sto → Res (MV × Bool × Sto)
/-- what a function gives: data, or a new thing -/
def RF (mg : Wd) (B : Base) (S : Addr → Prop) (ι : List Addr) (H : Hp) (v : V) (m : MV) : Bool → Prop
  | false => Dt mg S ι H v m
  | true => ∃ a, v = .ref a ∧ ¬ S a ∧ a ∉ ι ∧ B.H a = none ∧ Sh mg S ι H a m
def PostF (mg : Wd) (S : Addr → Prop) (ι : List Addr) (H : Hp) (Q : VK) (E : XK) : Res (MV × Bool × Sto) → Prop
  | .ok (m, b, st') => ∀ S' ι' H' v, Ext S ι H S' ι' H' → Rep mg S' ι' H' st' → RF mg (b0 S ι H) S' ι' H' v m b → Q v H'
  | .exc c fs _ st' => ∀ S' ι' H' cls d, Ext S ι H S' ι' H' → Rep mg S' ι' H' st' → XR mg S' ι' H' c fs cls d → E cls d H'
  | .bad => False
def spM (mg : Wd) (n : Nat) (F : FF) : Sp := fun vs H Q E => vs.length = n ∧ ∃ S ι st ms, Rep mg S ι H st ∧ AllD mg S ι H vs ms ∧ PostF mg S ι H Q E (F ms st)
def startM (n : Nat) (ms : List MV) : Lo := ms.map (fun m => some (m, false)) ++ List.replicate (n - ms.length) none
def isFr : Kd → Bool
  | .fz => false
  | _ => true
/-- a def by its body: n names -/
def runF (n : Nat) (g : SF) : FF := fun ms st => match g (startM n ms) st with
  | .ok (.nx, _, st') => .ok (.non, false, st')
  | .ok (.rt m k, _, st') => .ok (m, isFr k, st')
  | .ok _ => .bad
  | .exc c fs lo st' => .exc c fs lo st'
  | .bad => .bad

structure RoomG (k : Nat) (A : Around) : Prop where
  r : Room k A
  g : A.guards = some []
theorem RoomG.mono {j k : Nat} {A : Around} (r : RoomG k A) (h : j ≤ k) : RoomG j A := ⟨r.r.mono h, r.g⟩
/-- a def keeps its promise, called where no repr is under way -/
structure FnG (P : Program) (w : World) (K : PySem.W.Frag) (mg : Str → Option Value) (base : Heap) (k : Nat) (f : Addr) (fd : FuncData) (ps : List Str) (sp : Sp) : Prop where
  len : ∀ vs H Q E, sp vs H Q E → vs.length = ps.length
  run : ∀ (A : Around) (outer : List Env) (s : Shared) (H : Hp) (args : Args) (us : List Value) (vs : List V) (Q : VK) (E : XK), RoomG k A → Env0 P w K mg base A outer s H → BindsTo s fd args (ps.zip us) → Vals vs us → sp vs H Q E →
    codeAny (model P w) A (.call (.ref f) args) (CR (L2.CX P w) outer P w H s Q E) s
theorem FnG.mono {P : Program} {w : World} {K : PySem.W.Frag} {mg : Str → Option Value} {base : Heap} {j k : Nat} {f : Addr} {fd : FuncData} {ps : List Str} {sp : Sp} (F : FnG P w K mg base j f fd ps sp) (h : j ≤ k) : FnG P w K mg base k f fd ps sp :=
  ⟨F.len, fun A outer s H args us vs Q E hr => F.run A outer s H args us vs Q E (hr.mono h)⟩
end FW

namespace FW
open PySem L2 PySem.Spec PyProof.Rows

/-- the context of a body at its entry -/
abbrev cxG (P : Program) (w : World) (K : PySem.W.Frag) (mg : Str → Option Value) (base : Heap) (N : List Str) (qual : Str) (scope : Scope) (f : Addr) (cd : Value) (A : Around) (outer : List Env) (s : Shared) (H : Hp) (E : XK) : Cx :=
  cxOf (L2.CX P w) P w K mg base N qual scope f cd A outer s H E
section
variable {P : Program} {w : World} {K : PySem.W.Frag} {mg : Str → Option Value} {base : Heap}
theorem fnG_of {k : Nat} {f : Addr} {name qual : Str} {params : Arguments} {body : List Stmt} {scope : Scope} {dV kV doc pm cdv ct oc : Value} {an od : Option Addr}
    {osl : Array (Option Value)} {N ps : List Str} {sp : Sp} (look : K.lookup f = some ⟨oc, od, .func (PySem.W.fnOf name qual params body scope dV kV doc pm an cdv ct), osl⟩) (hcode : PySem.W.codeIn K cdv qual = true) (Sc : FnScope N ps scope)
    (hlen : ∀ vs H Q E, sp vs H Q E → vs.length = ps.length)
    (hbody : ∀ (A : Around) (outer : List Env) (s : Shared) (H : Hp) (vs : List V) (Q : VK) (E : XK), RoomG k (A.deeper (envOfC qual scope s.heap.objs.size f cdv)) → sp vs H Q E →
      ∃ t, PSs (cxG P w K mg base N qual scope f cdv A outer s H E) body t ∧ t { nx := fun _ H' => Q .non H', rt := Q } (start N vs) H) :
    FnG P w K mg base (k + 1) f (PySem.W.fnOf name qual params body scope dV kV doc pm an cdv ct) ps sp := by
  constructor
  · exact hlen
  intro A outer s H args us vs Q E room e0 bind rel want
  have many := hlen _ _ _ _ want
  have inK : K.In s.heap := e0.mod.kin.keeps fun b o e => (e0.bs b o e).1
  have noLim : s.heap.NoLimit := e0.mod.nolimit.keeps fun b o e => (e0.bs b o e).1
  have kinds : ∀ y ∈ ps.zip us, scope.names.lookup y.1 = some .local ∨ (scope.names.lookup y.1 = some .cell ∧ ((cellsFrom (s.heap.objs.size + 1) scope.names []).lookup y.1).isSome = true) := by
    rintro ⟨n, v⟩ hy
    have hp := Sc.par n (List.of_mem_zip hy).1
    exact hp.imp id fun q => ⟨q, PySem.W.cellsFrom_some _ _ _ (.inl q)⟩
  refine codeAny_call_function room.r.depth (inK _ _ look) rfl Sc.co Sc.gen rfl (PySem.W.codeRec_of inK hcode) (bind _ _ _ _ ?_)
  refine wpAny_newFunctionEnv_cells Sc.kind kinds fun env he s1 x => ?_
  cases he
  refine ⟨noLim.keeps x.toInCall.keep, codeAny_func ?_⟩
  have room' : RoomG k (A.deeper (envOfC qual scope s.heap.objs.size f cdv)) := ⟨room.r.deeper _, room.g⟩
  obtain ⟨t, ht, hq⟩ := hbody A outer s H vs Q E room' want
  have I := inv_start (CX := L2.CX P w) (E := E) (K := K) (mg := mg) (base := base) (f := f) (cd := cdv) (qual := qual) Sc room.r.hd e0 many rel x
  have done : ∀ {σ' : L2.St} {H' : Hp} {v : V} {u : Value} {s' : Shared}, Inv (cxG P w K mg base N qual scope f cdv A outer s H E) [] σ' H' s' → RelV v u → Q v H' → CE outer P w H s Q u s' := by
    intro σ' H' v u s' J rv q
    exact ⟨v, H', J.os, J.bare, J.base, J.hok, rv, q⟩
  refine wpAny_mono (ht.run [] s1 (start N vs) H _ I hq) (fun fl s' hs => ?_) fun e s' hs => hs
  rcases fl with _ | _ | _ | u
  · obtain ⟨σ', H', J, q⟩ := hs
    exact done (v := V.non) (u := Value.none) J rfl q
  · obtain ⟨_, _, _, q⟩ := hs
    exact False.elim q
  · obtain ⟨_, _, _, q⟩ := hs
    exact False.elim q
  · obtain ⟨v, σ', H', J, rv, q⟩ := hs
    exact done J rv q

section
variable {mgw : Wd} {S : Addr → Prop} {ι : List Addr} {H : Hp} {st : Sto} {vs : List V} {ms : List MV}
theorem fm_start {N : List Str} (r : Rep mgw S ι H st) (d : AllD mgw S ι H vs ms) (hl : ms.length ≤ N.length) : Fm mgw (b0 S ι H) S ι H (startM N.length ms) (start N vs) st := by
  have hv := d.1
  have noOwn : ∀ (i : Nat) m, (startM N.length ms)[i]? ≠ some (some (m, true)) := fun i m h => by
    unfold startM at h
    by_cases hi : i < ms.length
    · rw [List.getElem?_append_left (by simpa using hi), List.getElem?_map] at h
      obtain ⟨x, _, e⟩ := Option.map_eq_some_iff.mp h
      cases e
    · rw [List.getElem?_append_right (by simpa using hi), List.getElem?_replicate] at h
      split at h <;> cases h
  refine ⟨Ext.refl, r, ⟨?_, fun i m h => ?_, fun i m h => absurd h (noOwn i m), fun i j m m' a _ h => absurd h (noOwn i m), fun i c fs h => absurd h (noOwn i _)⟩, fun a o h => by cases h⟩
  · unfold startM L2.start
    simp only [List.length_append, List.length_map, List.length_replicate]
    rw [hv]
  · unfold startM at h
    have hi : i < ms.length := by
      by_cases hi : i < ms.length
      · exact hi
      · rw [List.getElem?_append_right (by simpa using hi), List.getElem?_replicate] at h
        split at h <;> cases h
    rw [List.getElem?_append_left (by simpa using hi), List.getElem?_map] at h
    obtain ⟨x, hx, e⟩ := Option.map_eq_some_iff.mp h
    cases e
    obtain ⟨v, h1, h2⟩ := d.get hx
    refine ⟨v, ?_, h2⟩
    unfold L2.start
    rw [List.getElem?_append_left (by simpa using (by omega : i < vs.length)), List.getElem?_map, h1]
    rfl
end

/-- A DEF KEEPS ITS MIRROR, by its body's mirror -/
theorem fnM {k : Nat} {x qual : Str} {st : Stmt} {f : Addr} {fd : FuncData} {N ps : List Str} {g : SF} (F : Fun K x qual st f fd) (Sc : FnScope N ps (defScope st)) (hle : ps.length ≤ N.length)
    (hbody : ∀ (X : Cx) (B : Base) (W : WX) (cdv : Value) (A : Around) (outer : List Env) (s : Shared) (H : Hp) (E : XK), X = cxG P w K mg base N qual (defScope st) f cdv A outer s H E → RoomG k X.A → Takes X W →
      SSs (cxG P w K mg base N qual (defScope st) f cdv A outer s H E) B W (defBody st) g) :
    FnG P w K mg base (k + 1) f fd ps (spM ⟨K, mg⟩ ps.length (runF N.length g)) := by
  obtain ⟨oc, od, kV, doc, pm, an, cdv, ct, osl, rfl, lk, hcd⟩ := F.ex
  refine fnG_of lk hcd Sc (fun vs H Q E h => h.1) fun A outer s H vs Q E room want => ?_
  obtain ⟨hvl, S, ι, st0, ms, r, d, p⟩ := want
  refine ⟨_, hbody _ (b0 S ι H) (fun cls dd _ H' => E cls dd H') cdv A outer s H E rfl room (takes_of rfl rfl rfl rfl), S, ι, startM N.length ms, st0, fm_start r d (by rw [← d.1, hvl]; exact hle), ?_⟩
  unfold runF at p
  show Post (⟨K, mg⟩ : Wd) (b0 S ι H) _ S ι H _ _
  cases hg : g (startM N.length ms) st0 with
  | bad => rw [hg] at p; exact p
  | exc c fs lo st' =>
    rw [hg] at p
    intro S' ι' σ' H' cls dd fm kp xr
    exact p S' ι' H' cls dd fm.ext fm.rep xr
  | ok z =>
    rw [hg] at p
    obtain ⟨fl, lo', st'⟩ := z
    cases fl with
    | nx => exact fun S' ι' σ' H' fm kp => p S' ι' H' _ fm.ext fm.rep .non
    | bk => exact p.elim
    | ct => exact p.elim
    | rt m kd =>
      intro S' ι' σ' H' v fm kp rv
      refine p S' ι' H' v fm.ext fm.rep ?_
      cases kd with
      | fz => exact rv
      | fr => obtain ⟨a, e, h1, h2, h3, h4, _⟩ := rv; exact ⟨a, e, h1, h2, h3.1, h4⟩
      | pk i =>
        obtain ⟨a, e, h1, h2, h3⟩ := rv
        obtain ⟨a', e', q1, q2, q3, q4⟩ := fm.loc.own i m h1
        rw [h2] at e'; cases e'
        exact ⟨a, e, q1, q2, q3.1, q4⟩
end

def callR (F : FF) (ms : List MV) (lo : Lo) (st : Sto) : Res (MV × Kd × Sto) := match F ms st with
  | .ok (m, b, st') => .ok (m, if b then .fr else .fz, st')
  | .exc c fs _ st' => .exc c fs lo st'
  | .bad => .bad
def callF (n : Nat) (F : FF) (dms : List MV) (l : List (MV × Bool)) (lo : Lo) (st : Sto) : Res (MV × Kd × Sto) := match allFz l with
  | some ms => if (ms ++ dms).length = n then callR F (ms ++ dms) lo st else .bad
  | none => .bad
def mCall (n : Nat) (F : FF) (dms : List MV) (g : AF) : EF := fun lo st => g lo st >>= fun (l, st1) => callF n F dms l lo st1
section
variable {X : Cx} {B : Base} {W : WX}
/-- what the callee's promise gives, in the caller's frame -/
theorem wants_callee {n : Nat} {F : FF} {S S0 : Addr → Prop} {ι ι0 : List Addr} {H H0 : Hp} {lo : Lo} {σ : L2.St} {st : Sto} {vs : List V} {ms : List MV} {Q : VK} (fm : Fm X.wd B S ι H lo σ st) (d : AllD X.wd S ι H vs ms) (hn : vs.length = n) (k0 : Keep S0 ι0 H0 S ι H)
    (p : Post X.wd B W S0 ι0 H0 (fun r => ∀ S' ι' H' v, Fm X.wd B S' ι' H' lo σ r.2.2 → Keep S0 ι0 H0 S' ι' H' → RV X.wd B S' ι' H' lo σ v r.1 r.2.1 → Q v H') (callR F ms lo st)) : spM X.wd n F vs H Q (fun cls dd H' => ∃ S' ι' st' c fs, Fm X.wd B S' ι' H' lo σ st' ∧ Keep S ι H S' ι' H' ∧ XR X.wd S' ι' H' c fs cls dd ∧ W cls dd σ H') := by
  refine ⟨hn, S, ι, st, ms, fm.rep, d, ?_⟩
  unfold callR at p
  cases hF : F ms st with
  | bad => rw [hF] at p; exact p
  | exc c fs lo' st' =>
    rw [hF] at p
    intro S' ι' H' cls dd x r xr
    have fm' := fm.step x r
    have kk := x.keep fm.rep
    exact ⟨S', ι', st', c, fs, fm', kk, xr, p S' ι' σ H' cls dd fm' (k0.trans kk) xr⟩
  | ok z =>
    rw [hF] at p
    obtain ⟨m, b, st'⟩ := z
    intro S' ι' H' v x r rf
    have fm' := fm.step x r
    have kk := x.keep fm.rep
    refine p S' ι' H' v fm' (k0.trans kk) ?_
    cases b with
    | false => exact rf
    | true =>
      obtain ⟨a, e, h1, h2, h3, h4⟩ := rf
      have fr := fm.free h3
      exact ⟨a, e, h1, h2, fr.2.2.1, h4, fr.2.2.2⟩
theorem run_fnG {k : Nat} {f : Addr} {fd : FuncData} {ps : List Str} {sp : Sp} {E : XK} {dvs : List V} {ds : List Value} {pins : List (Addr × Obj)} {σ : L2.St} {H : Hp} {s : Shared} {Q : VK} {us : List Value} {vs : List V}
    (F : FnG X.prog X.w X.K X.mg X.base k f fd ps sp) (hr : RoomG k X.A) (hb : Binds X.K fd ps ds) (hd : Vals dvs ds) (hx : ∀ cls d H', E cls d H' → W cls d σ H') (tk : Takes X W)
    (I : Inv X pins σ H s) (r : Vals vs us) (h : sp (vs ++ dvs) H Q E) : wpAny (model X.prog X.w) X.A (call (.ref f) us) (EP X pins σ Q) X.xe s := by
  have rr : Vals (vs ++ dvs) (us ++ ds) := r.append hd
  have ll : (us ++ ds).length = ps.length := by rw [← rr.length]; exact F.len _ _ _ _ h
  have go := F.run X.A X.stack s H ⟨us, []⟩ (us ++ ds) (vs ++ dvs) Q E hr I.env0 (hb s us I.kIn ll) rr h
  refine wpAny_call (codeAny_mono go fun res s' hq => ?_)
  match res, hq with
  | .error e, hq => exact tk e s' (XE.of_call I hx hq)
  | .ok (.ret u), hq => exact I.after hq
/-- f(e, ..) -/
theorem se_call {k n : Nat} {f : Addr} {fd : FuncData} {ps : List Str} {FM : FF} {dvs : List V} {dms : List MV} {ds : List Value} {x : Str} {p pos : Pos} {e : Expr} {es : List Expr} {g : AF}
    (F : FnG X.prog X.w X.K X.mg X.base k f fd ps (spM X.wd n FM)) (hr : RoomG k X.A) (tk : Takes X W) (hg : Gl X x) (hm : X.mg x = some (.ref f)) (hk : PySem.W.keepIn X.K (.ref f) = true) (hb : Binds X.K fd ps ds) (hd : Vals dvs ds)
    (dd : ∀ S ι H, AllD X.wd S ι H dvs dms) (ha : SA X B W (e :: es) g) (hdb : (x == ("__debug__" : Str)) = false := by decide) (he : starEach (e :: es) X.env = (false, eval e X.env) :: starEach es X.env := by rfl)
    (hpl : (backTo pos (starEach es X.env)).any (·.1) = false := by rfl) : SE X B W (.Call (.Name x p) (e :: es) [] pos) (mCall n FM dms g) := by
  refine ⟨fun pins s σ H Q I ⟨S, ι, lo, st, fm, pp⟩ => ?_⟩
  refine wpAny_Call_Name_kw (ld_glob I hg hm ?_ hdb)
  have run := ha.run pos pins s σ H (fun vs H1 => ∃ E : XK, (∀ cls d H', E cls d H' → W cls d σ H') ∧ spM X.wd n FM (vs ++ dvs) H1 Q E) I ?_
  · refine PySem.W.callWith_K (h₀ := X.base) I.ok.mod.kin hk (thn run fun us s1 ⟨vs, H1, I1, r, q⟩ => ⟨I1.kIn, ?_⟩) he hpl
    obtain ⟨E, hE, q⟩ := q
    exact run_fnG F hr hb hd hE tk I1 r q
  · refine tA.use fm (Post.bind pp) fun l st1 S1 ι1 H1 vs f1 k1 r1 p1 => ?_
    dsimp only at p1
    unfold callF at p1
    split at p1
    · rename_i ms hz
      split at p1
      · rename_i hlen
        have d1 := r1.data hz
        have dall := d1.append (dd S1 ι1 H1)
        refine ⟨_, ?_, wants_callee f1 dall (by rw [dall.1]; exact hlen) k1 p1⟩
        rintro cls d H' ⟨_, _, _, _, _, _, _, _, z⟩
        exact z
      · exact p1.elim
    · exact p1.elim
end
end FW

namespace FW
open PySem L2 PySem.Spec PyProof.Rows

abbrev GF := MV → Lo → Sto → Res (Lo × Sto)
def SameBut (vs : List Nat) (σ σ' : L2.St) : Prop := σ'.length = σ.length ∧ ∀ j, j ∉ vs → σ'[j]? = σ[j]?
theorem SameBut.refl {vs : List Nat} {σ : L2.St} : SameBut vs σ σ := ⟨rfl, fun _ _ => rfl⟩
theorem SameBut.trans {vs : List Nat} {σ σ' σ2 : L2.St} (a : SameBut vs σ σ') (b : SameBut vs σ' σ2) : SameBut vs σ σ2 := ⟨b.1.trans a.1, fun j h => (b.2 j h).trans (a.2 j h)⟩
theorem SameBut.wipe {σ σ' : L2.St} : ∀ {vs : List Nat}, SameBut vs σ σ' → L2.wipe σ' vs = L2.wipe σ vs := by
  intro vs h
  apply List.ext_getElem?
  intro j
  have go : ∀ (vs : List Nat) (σ : L2.St) (j : Nat), j ∉ vs → (L2.wipe σ vs)[j]? = σ[j]? := by
    intro vs
    induction vs with
    | nil => intro σ j _; rfl
    | cons v vs ih =>
      intro σ j hj
      show ((L2.wipe σ vs).set v none)[j]? = σ[j]?
      rw [List.getElem?_set_ne (fun e => hj (by rw [e]; exact List.mem_cons_self)), ih σ j (fun e => hj (List.mem_cons_of_mem _ e))]
  have gone : ∀ (vs : List Nat) (σ : L2.St) (j : Nat), j ∈ vs → (L2.wipe σ vs)[j]? = if j < σ.length then some none else none := by
    intro vs
    induction vs with
    | nil => intro σ j h; cases h
    | cons v vs ih =>
      intro σ j hj
      show ((L2.wipe σ vs).set v none)[j]? = _
      by_cases e : v = j
      · subst e
        by_cases hl : v < σ.length
        · rw [List.getElem?_set_self (by rw [wipe_length]; exact hl), if_pos hl]
        · rw [List.getElem?_eq_none (by rw [List.length_set, wipe_length]; omega), if_neg hl]
      · rw [List.getElem?_set_ne e]
        exact ih σ j ((List.mem_cons.mp hj).resolve_left fun z => e z.symm)
  by_cases hj : j ∈ vs
  · rw [gone vs σ' j hj, gone vs σ j hj, h.1]
  · rw [go vs σ' j hj, go vs σ j hj, h.2 j hj]
def LoBut (vs : List Nat) (lo lo' : Lo) : Prop := ∀ j, j ∉ vs → lo'[j]? = lo[j]?
theorem LoBut.refl {vs : List Nat} {lo : Lo} : LoBut vs lo lo := fun _ _ => rfl
theorem LoBut.trans {vs : List Nat} {a b c : Lo} (x : LoBut vs a b) (y : LoBut vs b c) : LoBut vs a c := fun j h => (y j h).trans (x j h)
def tG (mg : Wd) (B : Base) (W : WX) (vs : List Nat) (gf : GF) : TG := fun v σ H Q => ∃ S ι lo st m, Fm mg B S ι H lo σ st ∧ Dt mg S ι H v m ∧
  Post mg B W S ι H (fun r => ∀ S' ι' σ' H', Fm mg B S' ι' H' r.1 σ' r.2 → Keep S ι H S' ι' H' → SameBut vs σ σ' → LoBut vs lo r.1 → Q σ' H') (gf m lo st)
abbrev SG (X : Cx) (B : Base) (W : WX) (vs : List Nat) (e : Expr) (gf : GF) : Prop := PG X e (tG X.wd B W vs gf)
theorem _root_.L2.PG.fw {X : Cx} {e : Expr} {t t' : TG} (h : PG X e t) (i : ∀ v σ H Q, t' v σ H Q → t v σ H Q) : PG X e t' := ⟨fun pins s σ H v u Q I r q => h.run pins s σ H v u Q I r (i v σ H Q q)⟩
theorem _root_.L2.PGs.fw {X : Cx} {e : List Expr} {t t' : TGs} (h : PGs X e t) (i : ∀ v σ H Q, t' v σ H Q → t v σ H Q) : PGs X e t' := ⟨fun pins s σ H v u Q I r q => h.run pins s σ H v u Q I r (i v σ H Q q)⟩
theorem PG.orr {X : Cx} {e : Expr} {t t' : TG} (h : PG X e t) (h' : PG X e t') : PG X e (fun v σ H Q => t v σ H Q ∨ t' v σ H Q) :=
  ⟨fun pins s σ H v u Q I r q => q.elim (h.run pins s σ H v u Q I r) (h'.run pins s σ H v u Q I r)⟩
def gN (i : Nat) : GF := fun m lo st => .ok (lo.set i (some (m, false)), st)
abbrev GFs := List MV → Lo → Sto → Res (Lo × Sto)
def tGs (mg : Wd) (B : Base) (W : WX) (vs : List Nat) (gf : GFs) : TGs := fun xs σ H Q => ∃ S ι lo st ms, Fm mg B S ι H lo σ st ∧ AllD mg S ι H xs ms ∧
  Post mg B W S ι H (fun r => ∀ S' ι' σ' H', Fm mg B S' ι' H' r.1 σ' r.2 → Keep S ι H S' ι' H' → SameBut vs σ σ' → LoBut vs lo r.1 → Q σ' H') (gf ms lo st)
abbrev SGs (X : Cx) (B : Base) (W : WX) (vs : List Nat) (e : List Expr) (gf : GFs) : Prop := PGs X e (tGs X.wd B W vs gf)
def gsNil : GFs
  | [], lo, st => .ok (lo, st)
  | _, _, _ => .bad
def gsCons (g : GF) (gs : GFs) : GFs
  | m :: ms, lo, st => g m lo st >>= fun (lo1, st1) => gs ms lo1 st1
  | [], _, _ => .bad
/-- (a, b, ..) = a tuple or a list of that length -/
def gT (n : Nat) (gs : GFs) : GF := fun m lo st => match vw st m with
  | .tup ms => if ms.length = n then gs ms lo st else .bad
  | .lst ms => if ms.length = n then gs ms lo st else .bad
  | _ => .bad
section
variable {X : Cx} {B : Base} {W : WX} {vs : List Nat} {pos : Pos}
theorem sg_name (i : Nat) {x : Str} (hN : X.N.Nodup) (hi : X.N[i]? = some x := by rfl) (hx : L2.Loc X.env.scope x := by first | exact Or.inl rfl | exact Or.inr rfl) (hv : i ∈ vs := by decide)
    (hf : X.fn x = true ∨ X.env.scope.names.lookup x = some .local := by first | exact .inl rfl | exact .inr rfl) : SG X B W vs (.Name x pos) (gN i) := by
  refine (pg_name hN hi hx hf).fw fun v σ H Q ⟨S, ι, lo, st, m, fm, d, p⟩ => ?_
  refine p S ι _ H (fm.set_val i d) .refl ⟨by simp, fun j hj => ?_⟩ fun j hj => ?_
  · exact List.getElem?_set_ne (fun (e : i = j) => hj (by rw [← e]; exact hv))
  · exact List.getElem?_set_ne (fun (e : i = j) => hj (by rw [← e]; exact hv))
theorem sgs_nil : SGs X B W vs [] gsNil := by
  refine pgs_nil.fw fun v σ H Q ⟨S, ι, lo, st, ms, fm, d, p⟩ => ?_
  cases ms with
  | nil => exact ⟨d.inv_nil, p S ι σ H fm .refl .refl .refl⟩
  | cons _ _ => exact p.elim
theorem sgs_cons {e : Expr} {es : List Expr} {g : GF} {gs : GFs} (h1 : SG X B W vs e g) (h2 : SGs X B W vs es gs) (hs : (assignEach (e :: es) X.env).map (·.2) = assign e X.env :: (assignEach es X.env).map (·.2) := by rfl) : SGs X B W vs (e :: es) (gsCons g gs) := by
  refine (pgs_cons h1 h2 hs).fw fun v σ H Q ⟨S, ι, lo, st, ms, fm, d, p⟩ => ?_
  cases ms with
  | nil => exact p.elim
  | cons m ms =>
    obtain ⟨x, xs, rfl, d1, dr⟩ := d.inv_cons
    refine ⟨x, xs, rfl, S, ι, lo, st, m, fm, d1, (Post.bind p).imp fun ⟨lo1, st1⟩ q S1 ι1 σ1 H1 f1 k1 sb lb => ?_⟩
    exact ⟨S1, ι1, lo1, st1, ms, f1, dr.mono k1, q.mono k1 fun r z S2 ι2 σ2 H2 f2 k2 sb2 lb2 => z S2 ι2 σ2 H2 f2 (k1.trans k2) (sb.trans sb2) (lb.trans lb2)⟩
theorem sg_tup {es : List Expr} {k n : Nat} {gs : GFs} (hc : X.calm = true) (h : SGs X B W vs es gs) (hn : (assignEach es X.env).length = n := by rfl) (hst : (assignEach es X.env).findIdx? (·.1) = none := by rfl) : SG X B W vs (.Tuple es k pos) (gT n gs) := by
  refine (PG.orr (pg_tup hc h hn hst) (pg_lst hc h hn hst)).fw fun v σ H Q ⟨S, ι, lo, st, m, fm, d, p⟩ => ?_
  have vr := d.vr fm.rep
  unfold gT at p
  split at p
  · rename_i ms e
    split at p
    · rename_i hl
      rw [e] at vr
      obtain ⟨q, xs, rfl, h1, d1⟩ := vr
      exact .inl ⟨q, xs, rfl, .of h1, by rw [d1.1, hl], S, ι, lo, st, ms, fm, d1, p⟩
    · exact p.elim
  · rename_i ms e
    split at p
    · rename_i hl
      rw [e] at vr
      obtain ⟨q, xs, rfl, h1, d1⟩ := vr
      exact .inr ⟨q, xs, rfl, .of h1, by rw [d1.1, hl], S, ι, lo, st, ms, fm, d1, p⟩
    · exact p.elim
  · exact p.elim
/-- target = e -/
def sAsg (f : EF) (g : GF) : SF := fun lo st => f lo st >>= fun r => frzd r >>= fun (m, st1) => g m lo st1 >>= fun (lo2, st2) => .ok (.nx, lo2, st2)
theorem frzd_ok {B' : Base} {W' : WX} {mg : Wd} {S : Addr → Prop} {ι : List Addr} {H : Hp} {lo : Lo} {σ : L2.St} {st : Sto} {v : V} {m : MV} {k : Kd} {α : Type} {P : α → Prop} {S0 : Addr → Prop} {ι0 : List Addr} {H0 : Hp} {c : MV × Sto → Res α} (fm : Fm mg B S ι H lo σ st) (r : RV mg B S ι H lo σ v m k)
    (p : Post mg B' W' S0 ι0 H0 P (frzd (m, k, st) >>= c)) : (∃ S', Fm mg B S' ι H lo σ st ∧ Keep S ι H S' ι H ∧ Dt mg S' ι H v m) ∧ Post mg B' W' S0 ι0 H0 P (c (m, st)) := by
  cases k with
  | pk j => exact p.elim
  | fz => exact ⟨⟨S, fm, .refl, r⟩, p⟩
  | fr => exact ⟨RV.freeze fm r (fun j z => by cases z), p⟩
theorem ss_asg {tg e : Expr} {f : EF} {g : GF} (he : SE X B W e f) (hg : SG X B W vs tg g) (hs : swapsWithSole [tg] e pos.line X.env = pure false := by rfl) (hw : swappedStores [tg] e X.env = pure none := by rfl)
    (h1 : (assignEach [tg] X.env).map (·.2) = [assign tg X.env] := by rfl) : SS X B W (.Assign [tg] e pos) (sAsg f g) := by
  refine (ps_asg he hg hs hw h1).fw fun D σ H ⟨S, ι, lo, st, fm, p⟩ => ?_
  refine tE.use fm (Post.bind p) fun m k st1 S1 ι1 H1 v f1 k1 r1 p1 => ?_
  obtain ⟨⟨S2, f2, k2, d⟩, p2⟩ := frzd_ok f1 r1 p1
  have k0 := k1.trans k2
  refine ⟨S2, ι1, lo, st1, m, f2, d, ((Post.bind p2).mono k0 fun ⟨lo2, st2⟩ q S3 ι3 σ3 H3 f3 k3 _ _ => q S3 ι3 σ3 H3 f3 (k0.trans k3))⟩

abbrev CK := Lo → Sto → Prop
abbrev IFn := Lo → Sto → Res (List MV × CK × Sto)
def WalkM (mg : Wd) (J : It) (items : List MV) (chk : CK) (S0 : Addr → Prop) (ι0 : List Addr) (H0 : Hp) : Prop :=
  ∀ (B : Base) (i : Nat) S ι H lo σ st, Fm mg B S ι H lo σ st → Keep S0 ι0 H0 S ι H → chk lo st →
    (∀ m, items[i]? = some m → J.go i H ∧ ∀ x H', J.yld i H x H' → ∃ S', Fm mg B S' ι H' lo σ st ∧ Keep S ι H S' ι H' ∧ Dt mg S' ι H' x m) ∧ (items.length ≤ i → J.stop i H)
def tI (mg : Wd) (B : Base) (W : WX) (fi : IFn) : TI := fun σ H R => ∃ S ι lo st, Fm mg B S ι H lo σ st ∧
  Post mg B W S ι H (fun r => ∀ S' ι' H' J, Fm mg B S' ι' H' lo σ r.2.2 → Keep S ι H S' ι' H' → WalkM mg J r.1 r.2.1 S' ι' H' → r.2.1 lo r.2.2 → R J H') (fi lo st)
abbrev SI (X : Cx) (B : Base) (W : WX) (tg iter : Expr) (fi : IFn) : Prop := PI X tg iter (tI X.wd B W fi)
/-- a list or a tuple, its items -/
def src (m : MV) (st : Sto) : Option (List MV × CK) := match m with
  | .lst ms => some (ms, fun _ _ => True)
  | .tup ms => some (ms, fun _ _ => True)
  | .ref n => (match st[n]? with
    | some (.lst ms) => some (ms, fun _ st' => st'[n]? = some (.lst ms))
    | _ => none)
  | _ => none
def iSeq (f : EF) : IFn := fun lo st => f lo st >>= fun r => frzd r >>= fun (m, st1) => match src m st1 with
  | some (ms, ck) => .ok (ms, ck, st1)
  | none => .bad
/-- what data show as a list that is walked -/
theorem src_list {mg : Wd} {S : Addr → Prop} {ι : List Addr} {H : Hp} {lo : Lo} {σ : L2.St} {st : Sto} {v : V} {m : MV} {ms : List MV} {ck : CK} (fm : Fm mg B S ι H lo σ st) (d : Dt mg S ι H v m) (e : src m st = some (ms, ck)) :
    ck lo st ∧ ∃ a, v = .ref a ∧ ((∀ (B : Base) S2 ι2 H2 lo2 σ2 st2, Fm mg B S2 ι2 H2 lo2 σ2 st2 → Keep S ι H S2 ι2 H2 → ck lo2 st2 → ∃ vs, H2 a = some (.lst vs) ∧ AllD mg S2 ι2 H2 vs ms) ∨
      (∀ (B : Base) S2 ι2 H2 lo2 σ2 st2, Fm mg B S2 ι2 H2 lo2 σ2 st2 → Keep S ι H S2 ι2 H2 → ck lo2 st2 → ∃ vs, H2 a = some (.tup vs) ∧ AllD mg S2 ι2 H2 vs ms)) := by
  unfold src at e
  split at e
  · cases e
    cases d with
    | lst hs h hl hi =>
      refine ⟨trivial, _, rfl, .inl fun _ S2 ι2 H2 lo2 σ2 st2 f2 k2 _ => ⟨_, (k2.h _ hs).trans h, ?_⟩⟩
      exact AllD.mono k2 ⟨hl, hi⟩
  · cases e
    cases d with
    | tup hs h hl hi =>
      refine ⟨trivial, _, rfl, .inr fun _ S2 ι2 H2 lo2 σ2 st2 f2 k2 _ => ⟨_, (k2.h _ hs).trans h, ?_⟩⟩
      exact AllD.mono k2 ⟨hl, hi⟩
  · rename_i n
    split at e
    · rename_i e1
      cases e
      cases d with
      | ref h =>
        refine ⟨e1, _, rfl, .inl fun _ S2 ι2 H2 lo2 σ2 st2 f2 k2 c => ?_⟩
        obtain ⟨o, h1, h2⟩ := f2.rep.ent n _ _ (getp k2.i h) c
        obtain ⟨vs, rfl, h3⟩ := h2
        exact ⟨vs, h1, h3⟩
    · cases e
  · cases e
theorem walk_list {mg : Wd} {K : PySem.W.Frag} {S : Addr → Prop} {ι : List Addr} {H : Hp} {a : Addr} {ms : List MV} {ck : CK}
    (h : ∀ (B : Base) S2 ι2 H2 lo2 σ2 st2, Fm mg B S2 ι2 H2 lo2 σ2 st2 → Keep S ι H S2 ι2 H2 → ck lo2 st2 → ∃ vs, H2 a = some (.lst vs) ∧ AllD mg S2 ι2 H2 vs ms) : WalkM mg (Itl K a) ms ck S ι H := by
  intro B i S2 ι2 H2 lo2 σ2 st2 f2 k2 c
  obtain ⟨vs, e, d⟩ := h B S2 ι2 H2 lo2 σ2 st2 f2 k2 c
  refine ⟨fun m hm => ?_, fun hl => ⟨vs, .of e, by rw [d.1]; exact hl⟩⟩
  obtain ⟨v, hv, dv⟩ := d.get hm
  refine ⟨⟨vs, v, .of e, hv⟩, fun x H' y => ?_⟩
  obtain ⟨rfl, y⟩ := y
  have hx := y vs (.of e)
  rw [hv] at hx; cases hx
  exact ⟨S2, f2, .refl, dv⟩
theorem walk_tup {mg : Wd} {K : PySem.W.Frag} {S : Addr → Prop} {ι : List Addr} {H : Hp} {a : Addr} {ms : List MV} {ck : CK}
    (h : ∀ (B : Base) S2 ι2 H2 lo2 σ2 st2, Fm mg B S2 ι2 H2 lo2 σ2 st2 → Keep S ι H S2 ι2 H2 → ck lo2 st2 → ∃ vs, H2 a = some (.tup vs) ∧ AllD mg S2 ι2 H2 vs ms) : WalkM mg (Itt K a) ms ck S ι H := by
  intro B i S2 ι2 H2 lo2 σ2 st2 f2 k2 c
  obtain ⟨vs, e, d⟩ := h B S2 ι2 H2 lo2 σ2 st2 f2 k2 c
  refine ⟨fun m hm => ?_, fun hl => ⟨vs, .of e, by rw [d.1]; exact hl⟩⟩
  obtain ⟨v, hv, dv⟩ := d.get hm
  refine ⟨⟨vs, v, .of e, hv⟩, fun x H' y => ?_⟩
  obtain ⟨rfl, y⟩ := y
  have hx := y vs (.of e)
  rw [hv] at hx; cases hx
  exact ⟨S2, f2, .refl, dv⟩
theorem PI.orr {tg e : Expr} {t t' : TI} (h : PI X tg e t) (h' : PI X tg e t') : PI X tg e (fun σ H R => t σ H R ∨ t' σ H R) := ⟨fun pins s σ H R I q => q.elim (h.run pins s σ H R I) (h'.run pins s σ H R I)⟩
theorem si_seqL {tg e : Expr} {f : EF} (he : SE X B W e f) : PI X tg e (fun σ H R => ∃ S ι lo st, Fm X.wd B S ι H lo σ st ∧ Post X.wd B W S ι H (fun r => ∀ S' ι' H' v, Fm X.wd B S' ι' H' lo σ r.2.2 → Keep S ι H S' ι' H' → RV X.wd B S' ι' H' lo σ v r.1 r.2.1 →
    ∃ a, v = .ref a ∧ ((∃ vs, H' a = some (.lst vs) ∧ R (Itl X.K a) H') ∨ ∃ vs, H' a = some (.tup vs) ∧ R (Itt X.K a) H')) (f lo st)) := by
  refine ⟨fun pins s σ H R I ⟨S, ι, lo, st, fm, p⟩ => ?_⟩
  refine thn (he.run pins s σ H (fun v H' => ∃ a, v = .ref a ∧ ((∃ vs, H' a = some (.lst vs) ∧ R (Itl X.K a) H') ∨ ∃ vs, H' a = some (.tup vs) ∧ R (Itt X.K a) H')) I ⟨S, ι, lo, st, fm, p⟩) fun u s1 h1 => ?_
  obtain ⟨v, H1, I1, r1, a, rfl, q⟩ := h1
  cases r1
  rcases q with ⟨vs, e1, q⟩ | ⟨vs, e1, q⟩
  · obtain ⟨its, rv, pl, hz⟩ := I1.list (SqL.of e1)
    refine wpAny_pyIter_list pl.isList ?_
    refine ⟨s1.heap.objs.size, [s1.heap.objs.size], _, _, H1, rfl, I1.kept (t' := s1.toks) fun b o e => Heap.get?_push_of_some _ e, turn_list a _, ⟨_, Heap.get?_push_size _ rfl, rfl, rfl⟩, fun b hb => ?_, q⟩
    obtain rfl : b = s1.heap.objs.size := by simpa using hb
    exact I1.fpOk (Nat.le_refl _) (I1.hok.fresh (Nat.le_refl _))
  · obtain ⟨its, rv, pl, hz⟩ := I1.tuple (SqT.of e1)
    refine wpAny_pyIter_tuple (show s1.heap.IsTuple a its.toArray from pl) ?_
    refine ⟨s1.heap.objs.size, [s1.heap.objs.size], _, _, H1, rfl, I1.kept (t' := s1.toks) fun b o e => Heap.get?_push_of_some _ e, turn_tuple a _, ⟨_, Heap.get?_push_size _ rfl, rfl, rfl⟩, fun b hb => ?_, q⟩
    obtain rfl : b = s1.heap.objs.size := by simpa using hb
    exact I1.fpOk (Nat.le_refl _) (I1.hok.fresh (Nat.le_refl _))
theorem si_seq {tg e : Expr} {f : EF} (he : SE X B W e f) : SI X B W tg e (iSeq f) := by
  refine (si_seqL he).fw fun σ H R ⟨S, ι, lo, st, fm, p⟩ => ⟨S, ι, lo, st, fm, (Post.bind p).imp fun ⟨m, k, st1⟩ q S1 ι1 H1 v f1 k1 r1 => ?_⟩
  obtain ⟨⟨S2, f2, k2, d⟩, p2⟩ := frzd_ok f1 r1 q
  dsimp only at p2
  split at p2
  · rename_i ms ck e1
    obtain ⟨c, a, rfl, hh⟩ := src_list f2 d e1
    rcases hh with hh | hh
    · obtain ⟨vs, e2, _⟩ := hh _ _ _ _ _ _ _ f2 .refl c
      exact ⟨a, rfl, .inl ⟨vs, e2, p2 S2 ι1 H1 _ f2 (k1.trans k2) (walk_list hh) c⟩⟩
    · obtain ⟨vs, e2, _⟩ := hh _ _ _ _ _ _ _ f2 .refl c
      exact ⟨a, rfl, .inr ⟨vs, e2, p2 S2 ι1 H1 _ f2 (k1.trans k2) (walk_tup hh) c⟩⟩
  · exact p2.elim
def rgM (i j : Int) : List MV := (List.range (j - i).toNat).map fun k => .int (i + (k : Nat))
def Rg62 (i j : Int) : Prop := -(2 ^ 62) ≤ i ∧ i < 2 ^ 62 ∧ -(2 ^ 62) ≤ j ∧ j < 2 ^ 62
instance (i j : Int) : Decidable (Rg62 i j) := by unfold Rg62; infer_instance
def iRg1 (f : EF) : IFn := fun lo st => f lo st >>= fun (m, _, st1) => match m with
  | .int j => if Rg62 0 j then .ok (rgM 0 j, fun _ _ => True, st1) else .bad
  | _ => .bad
def iRg2 (f g : EF) : IFn := fun lo st => f lo st >>= fun (m, _, st1) => g lo st1 >>= fun (n, _, st2) => match m, n with
  | .int i, .int j => if Rg62 i j then .ok (rgM i j, fun _ _ => True, st2) else .bad
  | _, _ => .bad
theorem walk_rg {mg : Wd} {S : Addr → Prop} {ι : List Addr} {H : Hp} {i j : Int} : WalkM mg (Itr i (j - i).toNat) (rgM i j) (fun _ _ => True) S ι H := by
  intro B n S2 ι2 H2 lo2 σ2 st2 f2 k2 _
  refine ⟨fun m hm => ?_, fun hl => ?_⟩
  · unfold rgM at hm
    rw [List.getElem?_map] at hm
    obtain ⟨k, hk, rfl⟩ := Option.map_eq_some_iff.mp hm
    have hk' := List.getElem?_eq_some_iff.mp hk
    obtain ⟨h1, h2⟩ := hk'
    rw [List.getElem_range] at h2
    subst h2
    refine ⟨show n < (j - i).toNat by simpa using h1, fun x H' y => ?_⟩
    obtain ⟨rfl, rfl⟩ := y
    exact ⟨S2, f2, .refl, .int _⟩
  · show (j - i).toNat ≤ n
    unfold rgM at hl
    simpa using hl
theorem si_rg1 {tg a : Expr} {f : EF} {p : Pos} (hg : Gl X "range") (hm : X.mg "range" = none) (ha : SE X B W a f) (h1 : starEach [a] X.env = (false, eval a X.env) :: starEach [] X.env := by rfl) (hs : starEach [a] X.env = [(false, eval a X.env)] := by rfl) :
    SI X B W tg (.Call (.Name "range" p) [a] [] pos) (iRg1 f) := by
  refine (pi_range1 hg hm (pa_cons ha pa_nil h1) hs).fw fun σ H R ⟨S, ι, lo, st, fm, p⟩ => ?_
  refine tE.use fm (Post.bind p) fun m k st1 S1 ι1 H1 v f1 k1 r1 p1 => ?_
  dsimp only at p1
  split at p1
  · split at p1
    · rename_i j hj
      refine ⟨j, by rw [rv_int f1 r1], hj.2.2.1, hj.2.2.2, ?_⟩
      have w := walk_rg (mg := X.wd) (S := S1) (ι := ι1) (H := H1) (i := 0) (j := j)
      rw [Int.sub_zero] at w
      exact p1 S1 ι1 H1 _ f1 k1 w trivial
    · exact p1.elim
  · exact p1.elim
theorem si_rg2 {tg a b : Expr} {f g : EF} {p : Pos} (hg : Gl X "range") (hm : X.mg "range" = none) (ha : SE X B W a f) (hb : SE X B W b g) (h1 : starEach [a, b] X.env = (false, eval a X.env) :: starEach [b] X.env := by rfl) (h2 : starEach [b] X.env = (false, eval b X.env) :: starEach [] X.env := by rfl)
    (hs : starEach [a, b] X.env = [(false, eval a X.env), (false, eval b X.env)] := by rfl) (hs2 : starEach [b] X.env = [(false, eval b X.env)] := by rfl) :
    SI X B W tg (.Call (.Name "range" p) [a, b] [] pos) (iRg2 f g) := by
  refine (pi_range2 hg hm (pa_cons ha (pa_cons hb pa_nil h2) h1) hs hs2).fw fun σ H R ⟨S, ι, lo, st, fm, p⟩ => ?_
  refine tE.use fm (Post.bind p) fun m k st1 S1 ι1 H1 v f1 k1 r1 p1 => ?_
  obtain ⟨S1', f1', k1', h1⟩ := r1.hand f1
  refine tE.use f1' (Post.bind (p1.mono (k1.trans k1') fun _ z => z)) fun b kb st2 S2 ι2 H2 y f2 k2 r2 p2 => ?_
  obtain ⟨S2', f2', k2', h2⟩ := r2.hand f2
  have v1 := (h1.mono (k2.trans k2')).vr f2'
  have v2 := h2.vr f2'
  dsimp only at p2
  split at p2
  · split at p2
    · rename_i hj
      cases v1; cases v2
      exact ⟨_, _, rfl, ⟨hj.1, hj.2.1, hj.2.2.1, hj.2.2.2⟩, p2 S2' ι2 H2 _ f2' (k1.trans (k1'.trans (k2.trans k2'))) walk_rg trivial⟩
    · exact p2.elim
  · exact p2.elim
def enumM (ms : List MV) : List MV := ms.zipIdx.map fun z => .tup [.int (z.2 : Nat), z.1]
def iEn (f : EF) : IFn := fun lo st => f lo st >>= fun r => frzd r >>= fun (m, st1) => match m with
  | .lst ms => .ok (enumM ms, fun _ _ => True, st1)
  | .ref n => (match st1[n]? with
    | some (.lst ms) => .ok (enumM ms, fun _ st' => st'[n]? = some (.lst ms), st1)
    | _ => .bad)
  | _ => .bad
theorem enumM_get {ms : List MV} {i : Nat} {m : MV} (h : (enumM ms)[i]? = some m) : ∃ x, ms[i]? = some x ∧ m = .tup [.int (i : Nat), x] := by
  unfold enumM at h
  rw [List.getElem?_map] at h
  obtain ⟨z, hz, rfl⟩ := Option.map_eq_some_iff.mp h
  rw [List.getElem?_zipIdx] at hz
  obtain ⟨x, hx, rfl⟩ := Option.map_eq_some_iff.mp hz
  exact ⟨x, hx, by simp⟩
theorem walk_enum {mg : Wd} {K : PySem.W.Frag} {S : Addr → Prop} {ι : List Addr} {H : Hp} {a : Addr} {ms : List MV} {ck : CK}
    (h : ∀ (B : Base) S2 ι2 H2 lo2 σ2 st2, Fm mg B S2 ι2 H2 lo2 σ2 st2 → Keep S ι H S2 ι2 H2 → ck lo2 st2 → ∃ vs, H2 a = some (.lst vs) ∧ AllD mg S2 ι2 H2 vs ms) : WalkM mg (Ite K a) (enumM ms) ck S ι H := by
  intro B i S2 ι2 H2 lo2 σ2 st2 f2 k2 c
  obtain ⟨vs, e, d⟩ := h B S2 ι2 H2 lo2 σ2 st2 f2 k2 c
  refine ⟨fun m hm => ?_, fun hl => ⟨vs, .of e, by rw [d.1]; unfold enumM at hl; simpa using hl⟩⟩
  obtain ⟨x0, hx0, rfl⟩ := enumM_get hm
  obtain ⟨v, hv, dv⟩ := d.get hx0
  refine ⟨⟨vs, v, .of e, hv⟩, fun x H' y => ?_⟩
  obtain ⟨T, x1, rfl, hT, rfl, y⟩ := y
  have hx := y vs (.of e)
  rw [hv] at hx
  obtain rfl : v = x1 := Option.some.inj hx
  have f3 := f2.new (o := .tup [.int (i : Nat), v]) hT
  obtain ⟨n1, n2, n3, n4⟩ := f2.free hT
  have f4 := f3.freeze (a := T) upd_same n2 n3 n4
  have k4 : Keep S2 ι2 H2 (fz1 S2 T) ι2 (upd H2 T (.tup [.int (i : Nat), v])) := ((Ext.new hT).keep f2.rep).trans .fz1
  refine ⟨_, f4, k4, .tup (.inr rfl) upd_same rfl fun j w n h1 h2 => ?_⟩
  match j, h1, h2 with
  | 0, h1, h2 => simp at h1 h2; subst h1; subst h2; exact .int _
  | 1, h1, h2 => simp at h1 h2; subst h1; subst h2; exact dv.mono k4
theorem si_enum {elts : List Expr} {kk : Nat} {tpos : Pos} {e : Expr} {f : EF} {p : Pos} (hg : Gl X "enumerate") (hm : X.mg "enumerate" = none) (he : SE X B W e f) (h1 : starEach [e] X.env = (false, eval e X.env) :: starEach [] X.env := by rfl) (hs : starEach [e] X.env = [(false, eval e X.env)] := by rfl) :
    SI X B W (.Tuple elts kk tpos) (.Call (.Name "enumerate" p) [e] [] pos) (iEn f) := by
  refine (pi_enum hg hm (pa_cons he pa_nil h1) hs).fw fun σ H R ⟨S, ι, lo, st, fm, p⟩ => ?_
  refine tE.use fm (Post.bind p) fun m k st1 S1 ι1 H1 v f1 k1 r1 p1 => ?_
  obtain ⟨⟨S2, f2, k2, d⟩, p2⟩ := frzd_ok f1 r1 p1
  have go : ∀ ms ck, src m st1 = some (ms, ck) → (∀ ns, m ≠ .tup ns) → Post X.wd B W S ι H (fun r => ∀ S' ι' H' J, Fm X.wd B S' ι' H' lo σ r.2.2 → Keep S ι H S' ι' H' → WalkM X.wd J r.1 r.2.1 S' ι' H' → r.2.1 lo r.2.2 → R J H') (.ok (enumM ms, ck, st1)) →
      ∃ a xs, [v] = [V.ref a] ∧ SqL X.K H1 a xs ∧ R (Ite X.K a) H1 := fun ms ck e1 nt q => by
    obtain ⟨c, a, rfl, hh⟩ := src_list f2 d e1
    rcases hh with hh | hh
    · obtain ⟨vs, e2, _⟩ := hh _ _ _ _ _ _ _ f2 .refl c
      exact ⟨a, vs, rfl, .of e2, q S2 ι1 H1 _ f2 (k1.trans k2) (walk_enum hh) c⟩
    · exfalso
      obtain ⟨vs, e2, _⟩ := hh _ _ _ _ _ _ _ f2 .refl c
      unfold src at e1
      split at e1
      · cases d with
        | lst hs h hl hi => rw [e2] at h; cases h
      · exact nt _ rfl
      · rename_i n
        split at e1
        · rename_i q1
          cases d with
          | ref h =>
            obtain ⟨o, h1, vs', rfl, _⟩ := f2.rep.ent n _ _ h q1
            rw [e2] at h1; cases h1
        · cases e1
      · cases e1
  dsimp only at p2
  split at p2
  · exact go _ _ rfl (fun ns z => by cases z) p2
  · rename_i n
    split at p2
    · rename_i ms q1
      refine go ms _ ?_ (fun ns z => by cases z) p2
      unfold src
      simp only [q1]
    · exact p2.elim
  · exact p2.elim

open Classical in
noncomputable def forL (ck : CK) (gf : GF) (body : SF) : List MV → SF
  | [], lo, st => if ck lo st then .ok (.nx, lo, st) else .bad
  | x :: xs, lo, st => if ck lo st then gf x lo st >>= fun (lo1, st1) => body lo1 st1 >>= fun (fl, lo2, st2) => (match fl with
      | .nx => forL ck gf body xs lo2 st2
      | .ct => forL ck gf body xs lo2 st2
      | .bk => .ok (.nx, lo2, st2)
      | .rt m k => .ok (.rt m k, lo2, st2)) else .bad
noncomputable def sFor (fi : IFn) (gf : GF) (body : SF) : SF := fun lo st => fi lo st >>= fun (items, ck, st1) => forL ck gf body items lo st1
theorem ss_for {tg iter : Expr} {body : List Stmt} {fi : IFn} {gf : GF} {g : SF} (hp : PassesOwn (model X.prog X.w) X.A X.env X.xe) (hc : X.calm = true) (hi : SI X B W tg iter fi) (hg : SG X B W vs tg gf) (hb : SSs X B W body g)
    (hs : ∀ x, foldedSetIterable iter X.env x = pure x := by intro _; rfl) : SS X B W (.For tg iter body [] pos) (sFor fi gf g) := by
  refine (ps_for hp hc hi hg hb hs).fw fun D σ H ⟨S, ι, lo, st, fm, p⟩ => ?_
  refine ⟨S, ι, lo, st, fm, (Post.bind p).imp fun ⟨items, ck, st1⟩ q S0 ι0 H0 J f0 k0 wk c0 => ?_⟩
  refine ⟨fun i m σ H => m = items.length - i ∧ i ≤ items.length ∧ ∃ S ι lo st, Fm X.wd B S ι H lo σ st ∧ Keep S0 ι0 H0 S ι H ∧ Post X.wd B W S ι H (PS1 X.wd B S ι H D) (forL ck gf g (items.drop i) lo st),
    ⟨items.length, by simp, Nat.zero_le _, S0, ι0, lo, st1, f0, .refl, by rw [List.drop_zero]; exact q.mono k0 fun r z => z.mono k0⟩, ?_⟩
  rintro i m σ H ⟨rfl, hi, S1, ι1, lo1, st1, f1, k1, p1⟩
  by_cases hlt : i < items.length
  · rw [List.drop_eq_getElem_cons hlt] at p1
    unfold forL at p1
    split at p1
    · rename_i hck
      obtain ⟨go, yl⟩ := (wk B i S1 ι1 H lo1 σ st1 f1 k1 hck).1 items[i] (by simp [hlt])
      refine .inr ⟨go, _, fun σ' H' n => n, fun x H' y => ?_⟩
      obtain ⟨S2, f2, k2, d2⟩ := yl x H' y
      refine ⟨S2, ι1, lo1, st1, items[i], f2, d2, ((Post.bind p1).mono k2 fun ⟨lo3, st3⟩ q3 S3 ι3 σ3 H3 f3 k3 _ _ => ?_)⟩
      refine ⟨S3, ι3, lo3, st3, f3, (Post.bind q3).mono (k2.trans k3) fun ⟨fl, lo4, st4⟩ q4 => ?_⟩
      have k13 := k2.trans k3
      cases fl with
      | nx => exact fun S5 ι5 σ5 H5 f5 k5 => ⟨_, by omega, rfl, hlt, S5, ι5, lo4, st4, f5, k1.trans (k13.trans k5), q4.mono (k13.trans k5) fun r z => z.mono (k13.trans k5)⟩
      | ct => exact fun S5 ι5 σ5 H5 f5 k5 => ⟨_, by omega, rfl, hlt, S5, ι5, lo4, st4, f5, k1.trans (k13.trans k5), q4.mono (k13.trans k5) fun r z => z.mono (k13.trans k5)⟩
      | bk => exact fun S5 ι5 σ5 H5 f5 k5 => q4 S5 ι5 σ5 H5 f5 (k13.trans k5)
      | rt m k => exact fun S5 ι5 σ5 H5 v f5 k5 => q4 S5 ι5 σ5 H5 v f5 (k13.trans k5)
    · exact p1.elim
  · have e : i = items.length := by omega
    subst e
    rw [List.drop_length] at p1
    unfold forL at p1
    split at p1
    · rename_i hck
      exact .inl ⟨(wk B _ S1 ι1 H lo1 σ st1 f1 k1 hck).2 (Nat.le_refl _), p1 S1 ι1 σ H f1 .refl⟩
    · exact p1.elim

def whN (c : TF) (g : SF) : Nat → SF
  | 0, _, _ => .bad
  | n + 1, lo, st => c lo st >>= fun (b, st1) => if b = true then g lo st1 >>= fun (fl, lo2, st2) => (match fl with
      | .nx => whN c g n lo2 st2
      | .ct => whN c g n lo2 st2
      | .bk => .ok (.nx, lo2, st2)
      | .rt m k => .ok (.rt m k, lo2, st2)) else .ok (.nx, lo, st1)
open Classical in
noncomputable def sWhile (c : TF) (g : SF) : SF := fun lo st => if h : ∃ n, whN c g n lo st ≠ .bad then whN c g h.choose lo st else .bad
theorem ss_while {c : Expr} {body : List Stmt} {tc : TF} {g : SF} (hp : PassesOwn (model X.prog X.w) X.A X.env X.xe) (hc : STe X B W c tc) (hb : SSs X B W body g) : SS X B W (.While c body [] pos) (sWhile tc g) := by
  refine (ps_while hp hc hb).fw fun D σ H ⟨S, ι, lo, st, fm, p⟩ => ?_
  obtain ⟨n, p⟩ : ∃ n, Post X.wd B W S ι H (PS1 X.wd B S ι H D) (whN tc g n lo st) := by
    unfold sWhile at p
    split at p
    · exact ⟨_, p⟩
    · exact p.elim
  refine ⟨fun m σ H => ∃ S1 ι1 lo1 st1, Fm X.wd B S1 ι1 H lo1 σ st1 ∧ Post X.wd B W S1 ι1 H (PS1 X.wd B S1 ι1 H D) (whN tc g m lo1 st1), ⟨n, S, ι, lo, st, fm, p⟩, ?_⟩
  rintro m σ H ⟨S1, ι1, lo1, st1, f1, p1⟩
  cases m with
  | zero => exact p1.elim
  | succ m =>
    refine tT.use f1 (Post.bind p1) fun b st2 S2 ι2 H2 f2 k2 p2 => ?_
    dsimp only at p2
    cases b with
    | true =>
      rw [if_pos rfl] at p2 ⊢
      refine ⟨_, fun σ' H' n => ⟨m, Nat.lt_succ_self m, n⟩, S2, ι2, lo1, st2, f2, (Post.bind p2).mono k2 fun ⟨fl, lo3, st3⟩ q => ?_⟩
      cases fl with
      | nx => exact fun S5 ι5 σ5 H5 f5 k5 => ⟨S5, ι5, lo3, st3, f5, q.mono (k2.trans k5) fun r z => z.mono (k2.trans k5)⟩
      | ct => exact fun S5 ι5 σ5 H5 f5 k5 => ⟨S5, ι5, lo3, st3, f5, q.mono (k2.trans k5) fun r z => z.mono (k2.trans k5)⟩
      | bk => exact fun S5 ι5 σ5 H5 f5 k5 => q S5 ι5 σ5 H5 f5 (k2.trans k5)
      | rt m k => exact fun S5 ι5 σ5 H5 v f5 k5 => q S5 ι5 σ5 H5 v f5 (k2.trans k5)
    | false =>
      rw [if_neg Bool.false_ne_true] at p2 ⊢
      exact p2 S2 ι2 σ H2 f2 k2
end
end FW

namespace FW
open PySem L2 PySem.Spec PyProof.Rows

def Base.put (B : Base) (D : Addr) (o : HO) : Base := { B with G := fun a => if a = D then some o else B.G a }
section
variable {mg : Wd} {B : Base} {W : WX} {S S' S2 : Addr → Prop} {ι ι' ι2 : List Addr} {H H' H2 : Hp} {lo lo' : Lo} {σ σ' : L2.St} {st st' : Sto} {v : V} {m : MV} {D : Addr} {o : HO}
theorem put_new {a : Addr} (h : (B.put D o).New a) : B.New a ∧ a ≠ D := by
  obtain ⟨h1, h2⟩ := h
  have h2' : (if a = D then some o else B.G a) = none := h2
  by_cases e : a = D
  · rw [if_pos e] at h2'; cases h2'
  · rw [if_neg e] at h2'; exact ⟨⟨h1, h2'⟩, e⟩
theorem Fm.guard (f : Fm mg B S ι H lo σ st) (e : H D = some o) (h1 : ¬ S D) (h2 : D ∉ ι) (h3 : B.New D) (h4 : ∀ (i : Nat) m', lo[i]? = some (some (m', true)) → σ[i]? ≠ some (some (.ref D))) : Fm mg (B.put D o) S ι H lo σ st := by
  refine ⟨f.ext, f.rep, ⟨f.loc.len, f.loc.val, fun i m h => ?_, f.loc.dis, f.loc.pin⟩, fun a u h => ?_⟩
  · obtain ⟨a, q, n1, n2, n3, d⟩ := f.loc.own i m h
    refine ⟨a, q, n1, n2, ⟨n3.1, ?_⟩, d⟩
    show (if a = D then some o else B.G a) = none
    rw [if_neg (fun z => h4 i m h (by rw [← z]; exact q))]
    exact n3.2
  · have h' : (if a = D then some o else B.G a) = some u := h
    by_cases z : a = D
    · rw [if_pos z] at h'; cases h'; subst z; exact ⟨e, h2, h1⟩
    · rw [if_neg z] at h'; exact f.g a u h'
theorem Fm.unguard (f : Fm mg (B.put D o) S ι H lo σ st) (h3 : B.New D) : Fm mg B S ι H lo σ st ∧ H D = some o ∧ ¬ S D ∧ D ∉ ι ∧ ∀ (i : Nat) m', lo[i]? = some (some (m', true)) → σ[i]? ≠ some (some (.ref D)) := by
  obtain ⟨q1, q2, q3⟩ := f.g D o (if_pos rfl)
  refine ⟨⟨f.ext, f.rep, ⟨f.loc.len, f.loc.val, fun i m h => ?_, f.loc.dis, f.loc.pin⟩, fun a u h => ?_⟩, q1, q3, q2, fun i m' h hs => ?_⟩
  · obtain ⟨a, q, n1, n2, n3, d⟩ := f.loc.own i m h
    exact ⟨a, q, n1, n2, (put_new n3).1, d⟩
  · refine f.g a u ?_
    show (if a = D then some o else B.G a) = some u
    rw [if_neg (fun z => by subst z; rw [h3.2] at h; cases h)]
    exact h
  · obtain ⟨a, q, n1, n2, n3, d⟩ := f.loc.own i m' h
    rw [q] at hs
    have e : a = D := by simpa using hs
    exact (put_new n3).2 e
/-- what no one speaks of is changed -/
theorem Fm.updFree (f : Fm mg B S ι H lo σ st) (h1 : ¬ S D) (h2 : D ∉ ι) (h3 : B.New D) (h4 : ∀ (i : Nat) m', lo[i]? = some (some (m', true)) → σ[i]? ≠ some (some (.ref D))) : Fm mg B S ι (upd H D o) lo σ st := by
  have k : Keep S ι H S ι (upd H D o) := Keep.upd h1
  refine ⟨⟨f.ext.s, fun b u q n => ?_, fun b hb => f.ext.b b hb, f.ext.i, f.ext.n⟩, ⟨f.rep.len, f.rep.nd, f.rep.sep, fun b hb => ?_, fun n b q q1 q2 => ?_⟩, ⟨f.loc.len, fun i m h => ?_, fun i m h => ?_, f.loc.dis, f.loc.pin⟩, fun a u h => ?_⟩
  · rw [upd_ne (fun z => by subst z; rw [h3.1] at q; cases q)]; exact f.ext.k b u q n
  · rw [upd_ne (fun (z : b = D) => h1 (by rw [← z]; exact hb))]; exact f.rep.som b hb
  · exact (f.rep.ent n b q q1 q2).mono k (upd_ne (fun (z : b = D) => h2 (by rw [← z]; exact List.mem_of_getElem? q1)))
  · obtain ⟨w, q, d⟩ := f.loc.val i m h
    exact ⟨w, q, d.mono k⟩
  · obtain ⟨a, q, n1, n2, n3, d⟩ := f.loc.own i m h
    exact ⟨a, q, n1, n2, n3, d.mono k (upd_ne fun z => h4 i m h (by rw [← z]; exact q))⟩
  · obtain ⟨q1, q2, q3⟩ := f.g a u h
    exact ⟨(upd_ne fun (z : a = D) => by subst z; rw [h3.2] at h; cases h).trans q1, q2, q3⟩
/-- names put out of sight -/
def wipeM (lo : Lo) : List Nat → Lo
  | [] => lo
  | v :: vs => (wipeM lo vs).set v none
def clrOk (lo : Lo) (vs : List Nat) : Bool := vs.all fun v => match lo[v]? with
  | some (some (_, true)) => false
  | _ => true
theorem wipeM_len (lo : Lo) : ∀ vs : List Nat, (wipeM lo vs).length = lo.length
  | [] => rfl
  | v :: vs => by unfold wipeM; rw [List.length_set, wipeM_len lo vs]
theorem wipeM_out (lo : Lo) : ∀ {vs : List Nat} {j : Nat}, j ∉ vs → (wipeM lo vs)[j]? = lo[j]?
  | [], _, _ => rfl
  | v :: vs, j, h => by
    unfold wipeM
    rw [List.getElem?_set_ne (fun e => h (by rw [e]; exact List.mem_cons_self)), wipeM_out lo (fun e => h (List.mem_cons_of_mem _ e))]
theorem wipeM_in (lo : Lo) : ∀ {vs : List Nat} {j : Nat} {z : MV × Bool}, j ∈ vs → (wipeM lo vs)[j]? ≠ some (some z)
  | v :: vs, j, z, h => by
    unfold wipeM
    by_cases e : v = j
    · subst e
      by_cases hl : v < (wipeM lo vs).length
      · rw [List.getElem?_set_self hl]; intro q; cases q
      · rw [List.getElem?_eq_none (by rw [List.length_set]; omega)]; intro q; cases q
    · rw [List.getElem?_set_ne e]
      exact wipeM_in lo ((List.mem_cons.mp h).resolve_left fun q => e q.symm)
theorem wipe_out (σ : L2.St) : ∀ {vs : List Nat} {j : Nat}, j ∉ vs → (L2.wipe σ vs)[j]? = σ[j]?
  | [], _, _ => rfl
  | v :: vs, j, h => by
    show ((L2.wipe σ vs).set v none)[j]? = σ[j]?
    rw [List.getElem?_set_ne (fun e => h (by rw [e]; exact List.mem_cons_self)), wipe_out σ (fun e => h (List.mem_cons_of_mem _ e))]
theorem wipe_wipe (σ : L2.St) (vs : List Nat) : L2.wipe (L2.wipe σ vs) vs = L2.wipe σ vs := by
  have : SameBut vs σ (L2.wipe σ vs) := ⟨wipe_length σ vs, fun j h => wipe_out σ h⟩
  exact this.wipe
theorem Fm.wipe {vs : List Nat} (f : Fm mg B S ι H lo σ st) : Fm mg B S ι H (wipeM lo vs) (L2.wipe σ vs) st := by
  have ne : ∀ {i : Nat} {z : MV × Bool}, (wipeM lo vs)[i]? = some (some z) → i ∉ vs := fun {i z} h hm => wipeM_in lo hm h
  refine ⟨f.ext, f.rep, ⟨by rw [wipeM_len, wipe_length]; exact f.loc.len, fun i m h => ?_, fun i m h => ?_, fun i j m m' a hij h1 h2 h3 => ?_, fun i c fs h => ?_⟩, f.g⟩
  · have n := ne h
    rw [wipeM_out lo n] at h
    rw [wipe_out σ n]
    exact f.loc.val i m h
  · have n := ne h
    rw [wipeM_out lo n] at h
    rw [wipe_out σ n]
    exact f.loc.own i m h
  · have n1 := ne h1
    have n2 := ne h2
    rw [wipeM_out lo n1] at h1
    rw [wipeM_out lo n2] at h2
    rw [wipe_out σ n1] at h3
    rw [wipe_out σ n2]
    exact f.loc.dis i j m m' a hij h1 h2 h3
  · have n := ne h
    rw [wipeM_out lo n] at h
    rw [wipe_out σ n]
    exact f.loc.pin i c fs h
theorem Fm.unwipe {vs : List Nat} (f0 : Fm mg B S ι H lo σ st) (f : Fm mg B S' ι' H' (wipeM lo vs) (L2.wipe σ vs) st') (k : Keep S ι H S' ι' H') (c : clrOk lo vs = true) : Fm mg B S' ι' H' lo σ st' := by
  have ne : ∀ {i : Nat} {m : MV}, lo[i]? = some (some (m, true)) → i ∉ vs := fun {i m} h hm => by
    have q := List.all_eq_true.mp c i hm
    rw [h] at q
    cases q
  refine ⟨f.ext, f.rep, ⟨f0.loc.len, fun i m h => ?_, fun i m h => ?_, f0.loc.dis, f0.loc.pin⟩, f.g⟩
  · obtain ⟨v, e, d⟩ := f0.loc.val i m h
    exact ⟨v, e, d.mono k⟩
  · have n := ne h
    have q := f.loc.own i m (by rw [wipeM_out lo n]; exact h)
    rw [wipe_out σ n] at q
    exact q
end

def noExc {α : Type} : Res α → Res α
  | .ok a => .ok a
  | _ => .bad
theorem Post.noExc {mg : Wd} {B B' : Base} {W W' : WX} {S S' : Addr → Prop} {ι ι' : List Addr} {H H' : Hp} {α : Type} {P : α → Prop} {r : Res α} (p : Post mg B W S ι H P (noExc r)) : Post mg B' W' S' ι' H' P r := by
  cases r with
  | ok a => exact p
  | exc c fs lo st => exact p.elim
  | bad => exact p.elim
open Classical in
noncomputable def lcL (ck : CK) (gf : GF) (tt : TF) (fe : EF) (lo0 : Lo) : List MV → List MV → Sto → Res (List MV × Sto)
  | [], acc, st => if ck lo0 st then .ok (acc, st) else .bad
  | x :: xs, acc, st => if ck lo0 st then noExc (gf x lo0 st) >>= fun (lo1, st1) => noExc (tt lo1 st1) >>= fun (b, st2) =>
      if b = true then noExc (fe lo1 st2) >>= fun r => frzd r >>= fun (y, st3) => (if acc.length < sizeLine then lcL ck gf tt fe lo0 xs (acc ++ [y]) st3 else .bad)
      else lcL ck gf tt fe lo0 xs acc st2 else .bad
/-- [fe for gf in fi if tt]; the comprehension's own names in the slots vs -/
noncomputable def mLc (vs : List Nat) (fi : IFn) (gf : GF) (tt : TF) (fe : EF) : EF := fun lo st => if clrOk lo vs = true then fi lo st >>= fun (items, ck, st1) => lcL ck gf tt fe (wipeM lo vs) items [] st1 >>= fun (acc, st2) => .ok (.lst acc, .fr, st2) else .bad
def tYesM : TF := fun _ st => .ok (true, st)
section
variable {X : Cx} {B : Base} {W : WX} {pos : Pos}
abbrev W0 : WX := fun _ _ _ _ => False
abbrev SPTs (X : Cx) (B : Base) (W : WX) (ifs : List Expr) (f : TF) : Prop := PTs X ifs (tT X.wd B W f)
theorem _root_.L2.PTs.fw {X : Cx} {e : List Expr} {t t' : TT} (h : PTs X e t) (i : ∀ σ H Q, t' σ H Q → t σ H Q) : PTs X e t' := ⟨fun pins s σ H Q I q => h.run pins s σ H Q I (i σ H Q q)⟩
theorem spts_nil : SPTs X B W [] tYesM := pts_nil.fw fun σ H Q ⟨S, ι, lo, st, f, p⟩ => p S ι H f .refl
theorem spts_one {c : Expr} {f : TF} (h : STe X B W c f) : SPTs X B W [c] f := pts_one h
/-- the element's parts hold over every base -/
def Any (P : Base → Prop) : Prop := ∀ B, P B
theorem tLc_of {vs : List Nat} {fi : IFn} {gf : GF} {tt : TF} {fe : EF} {mg : Wd} {TGt : TG} {TTt : TT} {TEt : TE} {σ : L2.St} {H : Hp} {Q : VK}
    (hG : ∀ B v σ H Q, tG mg B W0 vs gf v σ H Q → TGt v σ H Q) (hT : ∀ B σ H Q, tT mg B W0 tt σ H Q → TTt σ H Q) (hE : ∀ B σ H Q, tE mg B W0 fe σ H Q → TEt σ H Q)
    (h : tE mg B W (mLc vs fi gf tt fe) σ H Q) : tLc (tI mg B W fi) TGt TTt TEt vs σ H Q := by
  obtain ⟨S, ι, lo, st, fm, p⟩ := h
  unfold mLc at p
  split at p
  case isFalse => exact p.elim
  rename_i hclr
  refine ⟨S, ι, lo, st, fm, (Post.bind p).imp fun ⟨items, ck, st1⟩ q S0 ι0 H0 J f0 k0 wk c0 => ?_⟩
  intro D hD
  obtain ⟨d1, d2, d3, d4⟩ := f0.free hD
  have q := Post.bind q
  -- W: the list so far
  refine ⟨fun i n H1 => n = items.length - i ∧ i ≤ items.length ∧ ∃ S1 ι1 st1 acc accM, Fm mg B S1 ι1 H1 (wipeM lo vs) (L2.wipe σ vs) st1 ∧ Keep S0 ι0 H0 S1 ι1 H1 ∧ ¬ S1 D ∧ D ∉ ι1 ∧ H1 D = some (.lst acc) ∧ AllD mg S1 ι1 H1 acc accM ∧
      Post mg B W S ι H (fun a => Post mg B W S ι H (fun r => ∀ S' ι' H' v, Fm mg B S' ι' H' lo σ r.2.2 → Keep S ι H S' ι' H' → RV mg B S' ι' H' lo σ v r.1 r.2.1 → Q v H') (.ok (.lst a.1, .fr, a.2))) (lcL ck gf tt fe (wipeM lo vs) (items.drop i) accM st1),
    ⟨items.length, by simp, Nat.zero_le _, S0, ι0, st1, [], [], (f0.new (o := .lst []) hD).wipe, (Ext.new hD).keep f0.rep, d1, d2, upd_same, AllD.nil, by rw [List.drop_zero]; exact q⟩, ?_⟩
  rintro i n H1 ⟨rfl, hi, S1, ι1, s1, acc, accM, f1, k1, n1, n2, e1, da, p1⟩
  have own1 : ∀ (j : Nat) m', (wipeM lo vs)[j]? = some (some (m', true)) → (L2.wipe σ vs)[j]? ≠ some (some (.ref D)) := fun j m' h z => by
    have nj : j ∉ vs := fun hm => wipeM_in lo hm h
    rw [wipeM_out lo nj] at h
    rw [wipe_out σ nj] at z
    exact d4 j m' h z
  by_cases hlt : i < items.length
  · rw [List.drop_eq_getElem_cons hlt] at p1
    unfold lcL at p1
    split at p1
    case isFalse => exact p1.elim
    rename_i hck
    have f1g := f1.guard e1 n1 n2 d3 own1
    obtain ⟨go, yl⟩ := (wk (B.put D (.lst acc)) i S1 ι1 H1 _ _ s1 f1g k1 hck).1 items[i] (by simp [hlt])
    refine .inr ⟨go, _, fun H' z => z, fun x H' y => ?_⟩
    obtain ⟨S2, f2, k2, dx⟩ := yl x H' y
    refine hG (B.put D (.lst acc)) _ _ _ _ ⟨S2, ι1, _, s1, items[i], f2, dx, (Post.noExc (Post.bind p1)).imp fun ⟨lo3, s3⟩ p3 S3 ι3 σ3 H3 f3 k3 sb lb => ?_⟩
    refine ⟨sb.wipe.trans (wipe_wipe σ vs), ?_⟩
    refine hT (B.put D (.lst acc)) _ _ _ ⟨S3, ι3, lo3, s3, f3, (Post.noExc (Post.bind p3)).imp fun ⟨b, s4⟩ p4 S4 ι4 H4 f4 k4 => ?_⟩
    have k14 := k1.trans (k2.trans (k3.trans k4))
    -- behind the turn the frame's names are as they were ahead of it
    have back : ∀ {S5 : Addr → Prop} {ι5 : List Addr} {H5 : Hp} {s5 : Sto}, Fm mg (B.put D (.lst acc)) S5 ι5 H5 lo3 σ3 s5 → Keep S0 ι0 H0 S5 ι5 H5 → Fm mg B S5 ι5 H5 (wipeM lo vs) (L2.wipe σ vs) s5 ∧ H5 D = some (.lst acc) ∧ ¬ S5 D ∧ D ∉ ι5 := by
      intro S5 ι5 H5 s5 f5 k5
      obtain ⟨f6, e6, n6, i6, _⟩ := f5.unguard d3
      refine ⟨⟨f6.ext, f6.rep, ⟨f1.loc.len, fun j m h => ?_, fun j m h => ?_, f1.loc.dis, f1.loc.pin⟩, f6.g⟩, e6, n6, i6⟩
      · obtain ⟨w, ew, dw⟩ := (f0.wipe (vs := vs)).loc.val j m h
        exact ⟨w, ew, dw.mono k5⟩
      · have nj : j ∉ vs := fun hm => wipeM_in lo hm h
        have q := f6.loc.own j m (by rw [lb j nj]; exact h)
        rw [sb.2 j nj] at q
        exact q
    cases b with
    | true =>
      refine iteT ?_
      dsimp only at p4
      rw [if_pos rfl] at p4
      refine hE (B.put D (.lst acc)) _ _ _ ⟨S4, ι4, lo3, s4, f4, (Post.noExc (Post.bind p4)).imp fun ⟨m, kd, s5⟩ p5 S5 ι5 H5 v f5 k5 r5 => ?_⟩
      obtain ⟨⟨S6, f6, k6, d6⟩, p6⟩ := frzd_ok f5 r5 p5
      dsimp only at p6
      split at p6
      case isFalse => exact p6.elim
      rename_i hsz
      have k06 := k14.trans (k5.trans k6)
      obtain ⟨g1, g2, g3, g4⟩ := back f6 k06
      have hk := Keep.upd (ι := ι5) (o := .lst (acc ++ [v])) g3 (H := H5)
      refine ⟨acc, g2, by rw [da.1]; exact hsz, _, by omega, rfl, hlt, S6, ι5, s5, acc ++ [v], accM ++ [m], g1.updFree g3 g4 d3 own1, k06.trans hk, g3, g4, upd_same, ?_, p6⟩
      exact (((da.mono (k2.trans (k3.trans k4))).mono (k5.trans k6)).append (AllD.cons d6 .nil)).mono hk
    | false =>
      refine iteF ?_
      dsimp only at p4
      rw [if_neg Bool.false_ne_true] at p4
      obtain ⟨g1, g2, g3, g4⟩ := back f4 k14
      exact ⟨_, by omega, rfl, hlt, S4, ι4, s4, acc, accM, g1, k14, g3, g4, g2, da.mono (k2.trans (k3.trans k4)), p4⟩
  · have e : i = items.length := by omega
    subst e
    rw [List.drop_length] at p1
    unfold lcL at p1
    split at p1
    case isFalse => exact p1.elim
    rename_i hck
    refine .inl ⟨(wk B _ S1 ι1 H1 _ _ s1 f1 k1 hck).2 (Nat.le_refl _), ?_⟩
    have fr := Fm.unwipe (st := st1) f0 f1 k1 hclr
    exact p1 S1 ι1 H1 (.ref D) fr (k0.trans k1) ⟨D, rfl, n1, n2, d3, ⟨_, e1, acc, rfl, da⟩, d4⟩
theorem PG.ex {X : Cx} {e : Expr} {t : Base → TG} (h : ∀ B, PG X e (t B)) : PG X e (fun v σ H Q => ∃ B, t B v σ H Q) := ⟨fun pins s σ H v u Q I r ⟨B, q⟩ => (h B).run pins s σ H v u Q I r q⟩
theorem PTs.ex {X : Cx} {e : List Expr} {t : Base → TT} (h : ∀ B, PTs X e (t B)) : PTs X e (fun σ H Q => ∃ B, t B σ H Q) := ⟨fun pins s σ H Q I ⟨B, q⟩ => (h B).run pins s σ H Q I q⟩
theorem PE.ex {X : Cx} {e : Expr} {t : Base → TE} (h : ∀ B, PE X e (t B)) : PE X e (fun σ H Q => ∃ B, t B σ H Q) := ⟨fun pins s σ H Q I ⟨B, q⟩ => (h B).run pins s σ H Q I q⟩
section
variable {elt tg iter : Expr} {ifs : List Expr} {scope : Scope} {own : List (Str × Nat)} {fi : IFn} {gf : GF} {tt : TF} {fe : EF}
theorem se_lc (hc : X.calm = true) (hN : X.N.Nodup) (hi : SI X B W tg iter fi) (ok : BlkOk X.N X.env.scope scope own)
    (hg : ∀ (s : Shared) (H : Hp) (C : Addr) (cl : List (Str × Addr)) (fp : List Addr) (B' : Base), SG (X.blk s H scope (compEnvC scope cl C X.env) fp) B' W0 (own.map (·.2)) tg gf)
    (ht : ∀ (s : Shared) (H : Hp) (C : Addr) (cl : List (Str × Addr)) (fp : List Addr) (B' : Base), SPTs (X.blk s H scope (compEnvC scope cl C X.env) fp) B' W0 ifs tt)
    (he : ∀ (s : Shared) (H : Hp) (C : Addr) (cl : List (Str × Addr)) (fp : List Addr) (B' : Base), SE (X.blk s H scope (compEnvC scope cl C X.env) fp) B' W0 elt fe)
    (hs : ∀ x, foldedSetIterable iter X.env x = pure x := by intro _; rfl) : SE X B W (.ListComp elt [⟨tg, iter, ifs, 0⟩] scope pos) (mLc (own.map (·.2)) fi gf tt fe) := by
  refine (pe_lc hc hN hi ok (fun s H C cl fp => PG.ex (t := fun B' => tG X.wd B' W0 (own.map (·.2)) gf) fun B' => hg s H C cl fp B') (fun s H C cl fp => PTs.ex (t := fun B' => tT X.wd B' W0 tt) fun B' => ht s H C cl fp B') (fun s H C cl fp => PE.ex (t := fun B' => tE X.wd B' W0 fe) fun B' => he s H C cl fp B') hs).fw fun σ H Q h => ?_
  exact tLc_of (fun B' v σ H Q z => ⟨B', z⟩) (fun B' σ H Q z => ⟨B', z⟩) (fun B' σ H Q z => ⟨B', z⟩) h
/-- name = [..] on one line -/
theorem ss_setLc (i : Nat) {y : Str} {py spos : Pos} (hc : X.calm = true) (hN : X.N.Nodup) (hsw : swapsWith (.ListComp elt [⟨tg, iter, ifs, 0⟩] scope pos) (some (.Name y py)) spos.line X.env = pure true) (hi : SI X B W tg iter fi) (ok : BlkOk X.N X.env.scope scope own)
    (hg : ∀ (s : Shared) (H : Hp) (C : Addr) (cl : List (Str × Addr)) (fp : List Addr) (B' : Base), SG (X.blk s H scope (compEnvC scope cl C X.env) fp) B' W0 (own.map (·.2)) tg gf)
    (ht : ∀ (s : Shared) (H : Hp) (C : Addr) (cl : List (Str × Addr)) (fp : List Addr) (B' : Base), SPTs (X.blk s H scope (compEnvC scope cl C X.env) fp) B' W0 ifs tt)
    (he : ∀ (s : Shared) (H : Hp) (C : Addr) (cl : List (Str × Addr)) (fp : List Addr) (B' : Base), SE (X.blk s H scope (compEnvC scope cl C X.env) fp) B' W0 elt fe)
    (hy : X.N[i]? = some y := by rfl) (hyl : X.env.scope.names.lookup y = some .local := by rfl)
    (hs : ∀ x, foldedSetIterable iter X.env x = pure x := by intro _; rfl) : SS X B W (.Assign [.Name y py] (.ListComp elt [⟨tg, iter, ifs, 0⟩] scope pos) spos) (sSet i (mLc (own.map (·.2)) fi gf tt fe)) := by
  refine (ps_setLc hc hN hy hyl hsw hi ok (fun s H C cl fp => PG.ex (t := fun B' => tG X.wd B' W0 (own.map (·.2)) gf) fun B' => hg s H C cl fp B') (fun s H C cl fp => PTs.ex (t := fun B' => tT X.wd B' W0 tt) fun B' => ht s H C cl fp B') (fun s H C cl fp => PE.ex (t := fun B' => tE X.wd B' W0 fe) fun B' => he s H C cl fp B') hs).fw fun D σ H h => ?_
  refine tLc_of (W := W) (B := B) (fun B' v σ H Q z => ⟨B', z⟩) (fun B' σ H Q z => ⟨B', z⟩) (fun B' σ H Q z => ⟨B', z⟩) ?_
  obtain ⟨S, ι, lo, st, fm, p⟩ := h
  refine tE.use fm (Post.bind p) fun m k st1 S1 ι1 H1 v f1 k1 r1 p1 => ?_
  obtain ⟨⟨S2, f2, k2, d⟩, p2⟩ := frzd_ok f1 r1 p1
  exact p2 S2 ι1 _ H1 (f2.set_val i d) (k1.trans k2)
theorem ss_ownLc (i : Nat) {y : Str} {py spos : Pos} (hc : X.calm = true) (hN : X.N.Nodup) (hsw : swapsWith (.ListComp elt [⟨tg, iter, ifs, 0⟩] scope pos) (some (.Name y py)) spos.line X.env = pure true) (hi : SI X B W tg iter fi) (ok : BlkOk X.N X.env.scope scope own)
    (hg : ∀ (s : Shared) (H : Hp) (C : Addr) (cl : List (Str × Addr)) (fp : List Addr) (B' : Base), SG (X.blk s H scope (compEnvC scope cl C X.env) fp) B' W0 (own.map (·.2)) tg gf)
    (ht : ∀ (s : Shared) (H : Hp) (C : Addr) (cl : List (Str × Addr)) (fp : List Addr) (B' : Base), SPTs (X.blk s H scope (compEnvC scope cl C X.env) fp) B' W0 ifs tt)
    (he : ∀ (s : Shared) (H : Hp) (C : Addr) (cl : List (Str × Addr)) (fp : List Addr) (B' : Base), SE (X.blk s H scope (compEnvC scope cl C X.env) fp) B' W0 elt fe)
    (hy : X.N[i]? = some y := by rfl) (hyl : X.env.scope.names.lookup y = some .local := by rfl)
    (hs : ∀ x, foldedSetIterable iter X.env x = pure x := by intro _; rfl) : SS X B W (.Assign [.Name y py] (.ListComp elt [⟨tg, iter, ifs, 0⟩] scope pos) spos) (sOwn i (mLc (own.map (·.2)) fi gf tt fe)) := by
  refine (ps_setLc hc hN hy hyl hsw hi ok (fun s H C cl fp => PG.ex (t := fun B' => tG X.wd B' W0 (own.map (·.2)) gf) fun B' => hg s H C cl fp B') (fun s H C cl fp => PTs.ex (t := fun B' => tT X.wd B' W0 tt) fun B' => ht s H C cl fp B') (fun s H C cl fp => PE.ex (t := fun B' => tE X.wd B' W0 fe) fun B' => he s H C cl fp B') hs).fw fun D σ H h => ?_
  refine tLc_of (W := W) (B := B) (fun B' v σ H Q z => ⟨B', z⟩) (fun B' σ H Q z => ⟨B', z⟩) (fun B' σ H Q z => ⟨B', z⟩) ?_
  obtain ⟨S, ι, lo, st, fm, p⟩ := h
  refine tE.use fm (Post.bind p) fun m k st1 S1 ι1 H1 v f1 k1 r1 p1 => ?_
  cases k with
  | pk j => exact p1.elim
  | fz => exact p1.elim
  | fr =>
    dsimp only at p1
    split at p1
    case isFalse => exact p1.elim
    rename_i hm
    obtain ⟨a, rfl, h1, h2, h3, d, h4⟩ := r1
    exact p1 S1 ι1 _ H1 ⟨f1.ext, f1.rep, f1.loc.set_own i hm h1 h2 h3 d h4, f1.g⟩ k1
end
end
end FW

namespace FW
open PySem L2 PySem.Spec PyProof.Rows

/-- what is changed: a frame's own thing, or a place of the store -/
def ownAt : Option (Option (MV × Bool)) → Option MV
  | some (some (c, true)) => some c
  | _ => none
def refAt (st : Sto) : MV → Option MV
  | .ref n => st[n]?
  | _ => none
def putRef (st : Sto) (c : MV) : MV → Sto
  | .ref n => st.set n c
  | _ => st
def targetOf (m : MV) (k : Kd) (lo : Lo) (st : Sto) : Option MV := match k with
  | .pk i => ownAt lo[i]?
  | .fz => refAt st m
  | .fr => none
def putBack (m : MV) (k : Kd) (c : MV) (lo : Lo) (st : Sto) : Lo × Sto := match k with
  | .pk i => (lo.set i (some (c, true)), st)
  | .fz => (lo, putRef st c m)
  | .fr => (lo, st)
section
variable {mg : Wd} {B : Base} {W : WX} {S S' S2 : Addr → Prop} {ι ι' ι2 : List Addr} {H H' H2 : Hp} {lo lo' : Lo} {σ σ' : L2.St} {st st' : Sto} {v : V} {m c c' : MV} {k : Kd}
/-- a target in hand: its address; what it shows; how it is changed -/
def Tgt (S : Addr → Prop) (ι : List Addr) (lo : Lo) (σ : L2.St) (v : V) (m : MV) : Kd → Prop
  | .pk i => ∃ a c, v = .ref a ∧ lo[i]? = some (some (c, true)) ∧ σ[i]? = some (some (.ref a))
  | .fz => ∃ n a, m = .ref n ∧ v = .ref a ∧ ι[n]? = some a
  | .fr => False
theorem RV.tgt (f : Fm mg B S ι H lo σ st) (r : RV mg B S ι H lo σ v m k) (e : targetOf m k lo st = some c) : Tgt S ι lo σ v m k := by
  cases k with
  | pk i =>
    obtain ⟨a, rfl, h1, h2, _⟩ := r
    exact ⟨a, m, rfl, h1, h2⟩
  | fz =>
    cases m with
    | ref n =>
      cases r with
      | ref h => exact ⟨n, _, rfl, rfl, h⟩
    | _ => cases e
  | fr => cases m <;> cases e
theorem Tgt.mono (k0 : Keep S ι H S' ι' H') (t : Tgt S ι lo σ v m k) : Tgt S' ι' lo σ v m k := by
  cases k with
  | pk i => exact t
  | fz => obtain ⟨n, a, e1, e2, e3⟩ := t; exact ⟨n, a, e1, e2, getp k0.i e3⟩
  | fr => exact t
theorem Tgt.sh (f : Fm mg B S ι H lo σ st) (t : Tgt S ι lo σ v m k) (e : targetOf m k lo st = some c) : ∃ a, v = .ref a ∧ Sh mg S ι H a c := by
  cases k with
  | pk i =>
    obtain ⟨a, c', rfl, h1, h2⟩ := t
    have e' : ownAt lo[i]? = some c := e
    rw [h1] at e'
    cases e'
    obtain ⟨b, q, _, _, _, d⟩ := f.loc.own i _ h1
    rw [h2] at q; cases q
    exact ⟨a, rfl, d⟩
  | fz =>
    obtain ⟨n, a, rfl, rfl, h⟩ := t
    exact ⟨a, rfl, f.rep.ent n a c h e⟩
  | fr => exact t.elim
theorem Tgt.put {a : Addr} {o : HO} (f : Fm mg B S ι H lo σ st) (t : Tgt S ι lo σ (.ref a) m k) (d : Ob mg S ι H o c') (hins : ∀ q fs, c' = .ins q fs → ∃ q' fs', targetOf m k lo st = some (.ins q' fs')) : Fm mg B S ι (upd H a o) (putBack m k c' lo st).1 σ (putBack m k c' lo st).2 ∧ Keep S ι H S ι (upd H a o) := by
  cases k with
  | pk i =>
    obtain ⟨b, c', q, h1, h2⟩ := t
    cases q
    obtain ⟨b, q, n1, _, _, _⟩ := f.loc.own i _ h1
    rw [h2] at q; cases q
    refine ⟨f.mutOwn h1 h2 d fun q fs e => ?_, Keep.upd n1⟩
    obtain ⟨q', fs', e'⟩ := hins q fs e
    have e2 : ownAt lo[i]? = some (.ins q' fs') := e'
    rw [h1] at e2
    exact ⟨q', fs', by cases e2; rfl⟩
  | fz =>
    obtain ⟨n, b, rfl, q, h⟩ := t
    cases q
    exact ⟨f.mutSto h d, Keep.upd (f.rep.sep _ (List.mem_of_getElem? h))⟩
  | fr => exact t.elim
end

section
variable {X : Cx} {B : Base} {W : WX} {pos : Pos} {o e i : Expr} {fo fe fi : EF}
theorem tgt_of {mg : Wd} {S : Addr → Prop} {ι : List Addr} {H : Hp} {lo : Lo} {σ : L2.St} {st2 : Sto} {ov : V} {t c : MV} {kt : Kd} (r3 : RV mg B S ι H lo σ ov t kt) (et : targetOf t kt lo st2 = some c) : Tgt S ι lo σ ov t kt := by
  cases kt with
  | pk q => obtain ⟨a, rfl, q1, q2, _⟩ := r3; exact ⟨a, t, rfl, q1, q2⟩
  | fz =>
    cases t with
    | ref n => cases r3 with
      | ref h => exact ⟨n, _, rfl, rfl, h⟩
    | _ => cases et
  | fr => cases t <;> cases et
def sPutIx (fe fo fi : EF) : SF := fun lo st => fe lo st >>= fun r => frzd r >>= fun (m, st1) => fo lo st1 >>= fun (t, k, st2) => fi lo st2 >>= fun (j, _, st3) =>
  match targetOf t k lo st3, j with
  | some (.lst xs), .int j => (match ixN xs.length j with
    | some n => .ok (.nx, (putBack t k (.lst (xs.set n m)) lo st3).1, (putBack t k (.lst (xs.set n m)) lo st3).2)
    | none => .bad)
  | _, _ => .bad
theorem ss_putIx {p' : Pos} (he : SE X B W e fe) (ho : SE X B W o fo) (hi : SE X B W i fi)
    (ha : ∀ v, assign (.Subscript o i p') X.env v = (do
      let ov ← holding [v] (eval o X.env)
      let iv ← holding [v, ov] (eval i X.env)
      standAt p'
      holding [v, ov, iv] (setItem ov iv v)
      release [v, ov, iv] []) := by intro _; rfl)
    (hs : swapsWithSole [.Subscript o i p'] e pos.line X.env = pure false := by rfl) (hw : swappedStores [.Subscript o i p'] e X.env = pure none := by rfl)
    (h1 : (assignEach [.Subscript o i p'] X.env).map (·.2) = [assign (.Subscript o i p') X.env] := by rfl) : SS X B W (.Assign [.Subscript o i p'] e pos) (sPutIx fe fo fi) := by
  refine (ps_asg he (pg_sub ho hi set_list ha) hs hw h1).fw fun D σ H ⟨S, ι, lo, st, fm, p⟩ => ?_
  refine tE.use fm (Post.bind p) fun m k st1 S1 ι1 H1 v f1 k1 r1 p1 => ?_
  obtain ⟨⟨S2, f2, k2, d⟩, p2⟩ := frzd_ok f1 r1 p1
  have k02 := k1.trans k2
  refine tE.use f2 (Post.bind (p2.mono k02 fun _ z => z)) fun t kt st3 S3 ι3 H3 ov f3 k3 r3 p3 => ?_
  have tg : ∀ c, targetOf t kt lo st3 = some c → Tgt S3 ι3 lo σ ov t kt := fun c e => RV.tgt f3 r3 e
  obtain ⟨S3', f3', k3', h3⟩ := r3.hand f3
  refine tE.use f3' (Post.bind (p3.mono (k3.trans k3') fun _ z => z)) fun j kj st4 S4 ι4 H4 iv f4 k4 r4 p4 => ?_
  dsimp only at p4
  split at p4
  · rename_i xs jj et
    split at p4
    · rename_i n hn
      have T0 : Tgt S3 ι3 lo σ ov t kt := tgt_of r3 et
      have T4 := (T0.mono k3').mono (H := H3) k4
      obtain ⟨a, rfl, oo, e1, vs, rfl, dv⟩ := T4.sh f4 et
      have d4 := ((d.mono k3).mono k3').mono k4
      obtain ⟨f5, k5⟩ := Tgt.put (c' := .lst (xs.set n m)) f4 T4 ⟨vs.set n v, rfl, dv.set d4 n⟩ (fun _ _ z => by cases z)
      refine ⟨a, vs, jj, n, rfl, rv_int f4 r4, e1, by rw [dv.1]; exact hn, p4 S4 ι4 σ _ f5 ?_⟩
      exact k02.trans (k3.trans (k3'.trans (k4.trans k5)))
    · exact p4.elim
  · exact p4.elim
def isLst : Option MV → Bool
  | some (.lst _) => true
  | _ => false
def sApp (fo fe : EF) : SF := fun lo st => fo lo st >>= fun (t, k, st1) => if isLst (targetOf t k lo st1) = true then fe lo st1 >>= fun r => frzd r >>= fun (m, st2) => (match targetOf t k lo st2 with
  | some (.lst xs) => if xs.length < sizeLine then .ok (.nx, (putBack t k (.lst (xs ++ [m])) lo st2).1, (putBack t k (.lst (xs ++ [m])) lo st2).2) else .bad
  | _ => .bad) else .bad
theorem ss_app {apos cpos : Pos} (ho : SE X B W o fo) (he : SE X B W e fe)
    (hbase : attributeBase o "append" X.env (eval o X.env) = eval o X.env := by rfl)
    (hfew : ((backTo cpos (starEach [e] X.env)).all (fun x => !x.1) && (backToKw cpos (keywordEach [] X.env)).all (fun x => x.1.isSome)
      && decide (([e] : List Expr).length + ([] : List Keyword).length + (if ([] : List Keyword).isEmpty then 0 else 1) < 30)) = true := by rfl)
    (hline : (apos.endLine == cpos.line) = true := by rfl) (hst : starEach [e] X.env = (false, eval e X.env) :: starEach [] X.env := by rfl) (hplain : (backTo cpos (starEach [] X.env)).any (·.1) = false := by rfl)
    (hs : swapsWith (.Call (.Attribute o "append" apos) [e] [] cpos) none pos.line X.env = pure false := by rfl) :
    SS X B W (.Expr (.Call (.Attribute o "append" apos) [e] [] cpos) pos) (sApp fo fe) := by
  refine (ps_expr (pe_bm PySem.F.plainAttrs_list PySem.F.slot_list_append PySem.F.type_list_append (r := rAppend) (fun pins s σ H x xs v us Q => mt_append pins s σ H x xs v us Q) ho (pa_cons he pa_nil hst) hbase hfew hline hst hplain) hs).fw fun D σ H ⟨S, ι, lo, st, fm, p⟩ => ?_
  refine tE.use fm (Post.bind p) fun t kt st1 S1 ι1 H1 ov f1 k1 r1 p1 => ?_
  dsimp only at p1
  split at p1
  case isFalse => exact p1.elim
  rename_i hl
  obtain ⟨xs0, et0⟩ : ∃ xs, targetOf t kt lo st1 = some (.lst xs) := by
    cases q : targetOf t kt lo st1 with
    | none => rw [q] at hl; cases hl
    | some c => cases c with
      | lst xs => exact ⟨xs, rfl⟩
      | _ => rw [q] at hl; cases hl
  have T0 := tgt_of r1 et0
  obtain ⟨a, rfl, oo, e1, vs, rfl, dv⟩ := T0.sh f1 et0
  refine ⟨.inl ⟨rfl, vs, .of e1⟩, ?_⟩
  refine tE.use f1 (Post.bind (p1.mono k1 fun _ z => z)) fun m k st2 S2 ι2 H2 v f2 k2 r2 p2 => ?_
  obtain ⟨⟨S3, f3, k3, d⟩, p3⟩ := frzd_ok f2 r2 p2
  dsimp only at p3
  split at p3
  · rename_i xs et
    split at p3
    · rename_i hz
      have T3 := (T0.mono k2).mono (H := H2) k3
      obtain ⟨b, q, oo, e3, ws, rfl, dw⟩ := T3.sh f3 et
      cases q
      obtain ⟨f5, k5⟩ := Tgt.put (c' := .lst (xs ++ [m])) f3 T3 ⟨ws ++ [v], rfl, dw.append (AllD.cons d .nil)⟩ (fun _ _ z => by cases z)
      exact ⟨a, ws, v, rfl, rfl, e3, by rw [dw.1]; exact hz, p3 S3 ι2 σ _ f5 (k1.trans (k2.trans (k3.trans k5)))⟩
    · exact p3.elim
  · exact p3.elim
end
end FW

namespace FW
open PySem L2 PySem.Spec PyProof.Rows

section
open PySem.W PySem.Calls
variable {prog : Program} {w : World}
/-- the def of such an __init__ -/
structure IniDef (K : PySem.W.Frag) (fv : Str) (C fI : Addr) (fd : FuncData) : Prop where
  ex : ∃ (oc ccl cl : Value) (od cdd cld : Option Addr) (osl ccs csl : Array (Option Value)) (name qual file : Str) (tf : Tok) (vs : Array Value) (params : Arguments) (scope : Scope) (dV kV doc pm ct : Value) (an : Option Addr) (cda cc : Addr) (ar : Arg) (p0 p1 p2 p3 p4 p5 p6 p7 p8 p9 : Pos) (pl : Addr → Sem Bool),
    fd = ksFn name qual params [.Expr (.Call (.Attribute (.Call (.Name "super" p0) [] [] p1) "__init__" p2) [.Name fv p3] [] p4) p5, .Assign [.Attribute (.Name "self" p6) fv p7] (.Name fv p8) p9] scope dV kV doc pm an (.ref cda) ct cc ∧
    K.lookup fI = some ⟨oc, od, .func fd, osl⟩ ∧ codeIn K (.ref cda) qual = true ∧ K.lookup cda = some ⟨ccl, cdd, .fields vs, ccs⟩ ∧ vs[2]? = some (.str file tf) ∧ ((prog.main.file : Str) == file) = true ∧ (prog.main.scope.names.lookup ("super" : Str)).isSome = false ∧
    K.lookup cc = some ⟨cl, cld, .cell (some (.ref C)), csl⟩ ∧ (params.posonlyargs ++ params.args).head? = some ar ∧ ar.arg = "self" ∧
    (scope.names.lookup ("super" : Str) = some .globalImplicit ∧ scope.names.lookup ("__class__" : Str) = some .free ∧ scope.names.lookup ("self" : Str) = some .local ∧ scope.names.lookup fv = some .local ∧ (∀ x ∈ scope.names, x.2 ≠ .cell) ∧ scope.isCoroutine = false ∧ scope.isGenerator = false ∧ scope.kind = .function) ∧
    (∀ L, eval (.Call (.Attribute (.Call (.Name "super" p0) [] [] p1) "__init__" p2) [.Name fv p3] [] p4) (ksEnv qual scope L fI (.ref cda) cc) = (do
      let ov ← attributeBase (.Call (.Name "super" p0) [] [] p1) "__init__" (ksEnv qual scope L fI (.ref cda) cc) (eval (.Call (.Name "super" p0) [] [] p1) (ksEnv qual scope L fI (.ref cda) cc))
      standAt p2.atName
      let (f, first) ← holding [ov] (getMethod ov "__init__" (pl L))
      callWith p4 f first (backTo p4 (starEach [.Name fv p3] (ksEnv qual scope L fI (.ref cda) cc))) [])) ∧
    (∀ L, swapsWith (.Call (.Attribute (.Call (.Name "super" p0) [] [] p1) "__init__" p2) [.Name fv p3] [] p4) none p5.line (ksEnv qual scope L fI (.ref cda) cc) = pure false) ∧
    (∀ L, interactive (ksEnv qual scope L fI (.ref cda) cc) = false) ∧
    (∀ L, starEach [.Name fv p3] (ksEnv qual scope L fI (.ref cda) cc) = [(false, eval (.Name fv p3) (ksEnv qual scope L fI (.ref cda) cc))]) ∧
    (∀ L, swapsWith (.Name fv p8) (some (.Attribute (.Name "self" p6) fv p7)) p9.line (ksEnv qual scope L fI (.ref cda) cc) = pure false)
end
structure Ini (prog : Program) (K : PySem.W.Frag) (mg : Str → Option Value) (fv : Str) (C fI : Addr) (fd : FuncData) : Prop where
  df : IniDef (prog := prog) K fv C fI fd
  fvo : fv = "value" ∨ fv = "name"
  T : OexC K C
  iC : PySem.W.findIn K (.ref C) "__init__" = some (some (.ref fI))
  tI : PySem.W.typeIn K (.ref fI) = some (.type "function")
  sup : PySem.W.ks_superIn K C C "__init__" = some (some (.builtin "ValueError.__init__"))
  ve : PySem.W.subIn K (.ref C) (.type "ValueError") = some true
  mr : PySem.W.mroIn K C (.ref C) = some true
  th : PySem.W.nsIn K cStatics "thirdparty.any" = some none
  no : PySem.W.findIn K (.ref C) fv = some none
  ms : mg "super" = none

section
open PySem.W PySem.Calls
variable {prog : Program} {w : World} {A : Around} {K : PySem.W.Frag} {mg : Str → Option Value} {C fI e t0 : Addr} {fd : FuncData} {hp : Heap} {g : Array GenState} {d : Drawn} {t : Nat} {os : OsState} {args : Args} {v : Value} {fv : Str}
theorem ini_run {base : Heap} (F : Ini prog K mg fv C fI fd) (M : L2.Mod K mg base) (hb : ∀ b o, base.get? b = some o → hp.get? b = some o) (hbe : base.get? e = none) (hroom : A.depth < recursionLimit) (he : hp.get? e = some ({ cls := .ref C, dict := none, data := .fields #[.ref t0, .none, .none, .none, .bool false, .none] } : Obj))
    (hbind : BindsTo ⟨hp, g, d, t, os⟩ fd args [("self", .ref e), (fv, v)]) {R : Result → Shared → Prop}
    (hq : ∀ h' tk t1 dx, (∀ b o, b ≠ e → hp.get? b = some o → h'.get? b = some o) → hp.objs.size ≤ dx → h'.get? e = some ({ cls := .ref C, dict := some dx, data := .fields #[.ref t1, .none, .none, .none, .bool false, .none] } : Obj) →
      h'.Ns1 dx (fun y => if y = fv then some v else none) → R (.ok (.ret .none)) ⟨h', g, d, tk, os⟩) :
    codeAny (model prog w) A (.call (.ref fI) args) R ⟨hp, g, d, t, os⟩ := by
  obtain ⟨⟨oc, ccl, cl, od, cdd, cld, osl, ccs, csl, name, qual, file, tf, vs, params, scope, dV, kV, doc, pm, ct, an, cda, cc, ar, p0, p1, p2, p3, p4, p5, p6, p7, p8, p9, pl, rfl, lk, hcd, lc, hvs, hfile, htop, hcell, hhead, har, hsc, hev, hs1, hint, hst, hs2⟩, fvo, T, iC, tI, sup, ve, mr, th, no, ms⟩ := F
  obtain ⟨k1, k2, k3, k4, k5, k6, k7, k8⟩ := hsc
  obtain ⟨nm, q, N, bs, bm, sn, sub, ab, col, dd, q0, q1, q2, q3, q5, hC, hbm⟩ := T.cls
  have X0 : K.In hp := M.kin.keeps hb
  have hlim : hp.NoLimit := M.nolimit.keeps hb
  refine ks_codeAny_call_defAt (fd := ksFn name qual params _ scope dV kV doc pm an (.ref cda) ct cc) (binds := [("self", .ref e), (fv, v)]) hroom (X0 _ _ lk) rfl hlim (codeRec_of X0 hcd) rfl hbind k5 ?_ (fun h0 hns hk => ?_) k6 k7 k8
  · intro x hx
    simp only [List.mem_cons, List.not_mem_nil, or_false] at hx
    rcases hx with rfl | rfl
    · exact k3
    · exact k4
  show _root_.PySem.wpAt _ (A.deeper (ksEnv qual scope hp.objs.size fI (.ref cda) cc)) (.func _ (ksEnv qual scope hp.objs.size fI (.ref cda) cc)) (execs _ (ksEnv qual scope hp.objs.size fI (.ref cda) cc)) _ _ _
  have hC0 : hp.get? C = some _ := X0 _ _ hC
  have X1 : K.In h0 := X0.keeps hk
  have e1 : h0.get? e = some _ := hk _ _ he
  obtain ⟨mb, hmb, hmbt⟩ := M.blt
  have kb : ∀ b o, base.get? b = some o → h0.get? b = some o := fun b o z => hk b o (hb b o z)
  have lS : (fun x => [(("self" : Str), Value.ref e), ((fv : Str), v)].reverse.lookup x) "self" = some (.ref e) := by rcases fvo with rfl | rfl <;> rfl
  have lV : (fun x => [(("self" : Str), Value.ref e), ((fv : Str), v)].reverse.lookup x) fv = some v := by rcases fvo with rfl | rfl <;> rfl
  obtain ⟨cdC, hcdC⟩ : ∃ cdC : ClassData, clsIn K C = some cdC ∧ cdC = { name := nm, bases := bs, mro := .ref C :: bm, ns := N, qualname := q, hasDict := true, slotNames := sn, subclasses := sub, abstract := ab, collection := col, hasDel := false } := ⟨_, by unfold clsIn; rw [hC] <;> rfl, rfl⟩
  obtain ⟨hclC, hcdeq⟩ := hcdC
  refine ks_wpAt_execs_cons (ks_wpAt_Expr_any ?_ (hint _) (hs1 _))
  refine ks_wpAt_MethodCall ?_ (hev _)
  refine ks_wpAt_super_base (env := ksEnv qual scope hp.objs.size fI (.ref cda) cc) k1 k2 rfl rfl (X1 _ _ lk) rfl hhead rfl (X1 _ _ lc) rfl hvs hfile htop ?_
  refine ks_loadName_global k8 k1 (loadGlobal_builtin (env := ksEnv qual scope hp.objs.size fI (.ref cda) cc) (M.glob.keeps kb) ms (hmb.keeps kb) ((hmbt _ (by decide +kernel)).trans PyProof.Rows.Boot.«super») ⟨rfl, ?_⟩)
  refine wpAny_loadName_free k8 k2 rfl ⟨_, X1 _ _ hcell, rfl⟩ ?_
  rw [har]
  refine wpAny_loadName_local k8 k3 hns lS ?_
  refine ks_wpAny_isType_cls (X1 _ _ hC) rfl ⟨rfl, ?_⟩
  refine ks_wpAny_call_super (X1 _ _ hC) rfl e1 rfl (fun c z => by cases z) (looks_mroIn X1 mr) (fun h1 ho1 hk1 => ?_)
  -- the method
  have X2 : K.In h1 := X1.keeps hk1
  have e2 := hk1 _ _ e1
  have I2 : InstAt h1 e { cls := .ref C, dict := none, data := .fields #[.ref t0, .none, .none, .none, .bool false, .none] } C none := ⟨e2, rfl, rfl, trivial⟩
  have hI : Looks (model prog w) h1 (isInstance (.ref e) (.type "ValueError")) true := I2.type.andThen (looks_subIn X2 ve)
  have sup' : alongIn K "__init__" ((cdC.mro.dropWhile (· != .ref C)).drop 1) = some (some (.builtin "ValueError.__init__")) := by
    unfold ks_superIn at sup
    rw [hclC] at sup
    exact sup
  refine kxs_getMethod kxs_ValueError ho1 (looks_opaque X2 th) (l₀ := cdC.mro) (fun A Q E s k q => wpAny_bind ((looks_clsIn X2 hclC) A _ E s k (wpAny_pure q))) rfl X2 sup' hI (ks_ne X2 I2 hclC) rfl ?_
  -- the call
  have hk3 : ∀ b o, h1.get? b = some o → (h1.push (kxs_mw "ValueError.__init__" e)).get? b = some o := fun b o z => Heap.get?_push_of_some _ z
  have hu : (h1.push (kxs_mw "ValueError.__init__" e)).get? h1.objs.size = some (kxs_mw "ValueError.__init__" e) := Heap.get?_push_at rfl rfl
  have hst' : starEach [.Name fv p3] (ksEnv qual scope hp.objs.size fI (.ref cda) cc) = (false, eval (.Name fv p3) (ksEnv qual scope hp.objs.size fI (.ref cda) cc)) :: starEach [] (ksEnv qual scope hp.objs.size fI (.ref cda) cc) := hst _
  have spl : ∀ {A' : Around} {Q : List Value → Shared → Prop} {E' : Value → Shared → Prop} {hh : Heap} {t' : Nat}, (∀ b o, h0.get? b = some o → hh.get? b = some o) → Q [v] ⟨hh, g, d, t', os⟩ → wpAny (model prog w) A' (spliced (backTo p4 (starEach [.Name fv p3] (ksEnv qual scope hp.objs.size fI (.ref cda) cc)))) Q E' ⟨hh, g, d, t', os⟩ := by
    intro A' Q E' hh t' kk q
    refine PyProof.Rows.spliced_more (wpAny_Name (wpAny_loadName_local k8 k4 (hns.keeps kk) lV ?_) (by rcases fvo with rfl | rfl <;> decide)) hst'
    exact PyProof.Rows.spliced_none q
  refine kxs_callWith (i := "ValueError.__init__") (x := e) (by rw [hst']; rfl) ?_
  have go : wpAny (model prog w) (A.deeper (ksEnv qual scope hp.objs.size fI (.ref cda) cc)) (spliced (backTo p4 (starEach [.Name fv p3] (ksEnv qual scope hp.objs.size fI (.ref cda) cc)))) (fun vs s1 => KxsAt "ValueError.__init__" h1.objs.size e s1.heap ∧ wpAny (model prog w) (A.deeper (ksEnv qual scope hp.objs.size fI (.ref cda) cc)) (call (.ref h1.objs.size) vs) (fun _ s2 => _root_.PySem.wpAt (model prog w) (A.deeper (ksEnv qual scope hp.objs.size fI (.ref cda) cc)) (.func [.Expr (.Call (.Attribute (.Call (.Name "super" p0) [] [] p1) "__init__" p2) [.Name fv p3] [] p4) p5, .Assign [.Attribute (.Name "self" p6) fv p7] (.Name fv p8) p9] (ksEnv qual scope hp.objs.size fI (.ref cda) cc))
      (execs [.Assign [.Attribute (.Name "self" p6) fv p7] (.Name fv p8) p9] (ksEnv qual scope hp.objs.size fI (.ref cda) cc)) (fun f s' => R (.ok (.ret (match f with | .ret v => v | _ => .none))) s')
        (fun e s' => wpAny (model prog w) (A.deeper (ksEnv qual scope hp.objs.size fI (.ref cda) cc)) (leaving (ksEnv qual scope hp.objs.size fI (.ref cda) cc) e) (fun _ s'' => R (.error e) s'') (fun e' s'' => R (.error e') s'') s') s2)
        (fun e s' => wpAny (model prog w) (A.deeper (ksEnv qual scope hp.objs.size fI (.ref cda) cc)) (leaving (ksEnv qual scope hp.objs.size fI (.ref cda) cc) e) (fun _ s'' => R (.error e) s'') (fun e' s'' => R (.error e') s'') s') s1)
        (fun e s' => wpAny (model prog w) (A.deeper (ksEnv qual scope hp.objs.size fI (.ref cda) cc)) (leaving (ksEnv qual scope hp.objs.size fI (.ref cda) cc) e) (fun _ s'' => R (.error e) s'') (fun e' s'' => R (.error e') s'') s')
        ⟨h1.push (kxs_mw "ValueError.__init__" e), g, d, t + [(("self" : Str), Value.ref e), ((fv : Str), v)].length + 1, os⟩ := by
    refine spl (fun b o z => hk3 b o (hk1 b o z)) ⟨hu, ?_⟩
    have e3 := hk3 _ _ e2
    have hC3 := hk3 _ _ (hk1 _ _ (hk _ _ hC0))
    refine wpAny_call (codeAny_of_tree (?_ : wpAny _ (A.deeper (ksEnv qual scope hp.objs.size fI (.ref cda) cc)).in1 (callAny (.ref h1.objs.size) ⟨[v], []⟩) _ _ _))
    unfold callAny; dsimp only; refine wpAny_bind (wpAny_load hu ?_)
    have bnd : ((Value.type "method-wrapper" == .type "method") || (Value.type "method-wrapper" == .type "builtin_function_or_method") || (Value.type "method-wrapper" == .type "method-wrapper")) = true := by decide
    simp only [bnd, kxs_mw, if_true]; refine KFB.if_so (by decide) ?_
    refine wpAny_bind (check_bound_init PySem.F.excBase_ValueError.toExcCallFacts hC3 e3 rfl ?_)
    refine wpAny_bind (wpAny_pure (wpAny_pure ?_)); refine ⟨plainId_quiet PySem.F.excBase_ValueError.init.plain _, codeAny_builtin PySem.F.excBase_ValueError.initEntry ?_⟩
    refine exc_init_tree (cls := .ref C) (t0 := t0) (dv := none) (c2 := .none) (c3 := .none) (b4 := .bool false) e3 (by rw [sizeLine_eq]; show 1 ≤ _; omega) fun h2 hk4 e4 _ => ?_
    have hk5 : ∀ b o, b ≠ e → hp.get? b = some o → h2.get? b = some o := fun b o hbe z => hk4 b o hbe (hk3 b o (hk1 b o (hk b o z)))
    have hns5 : h2.Ns hp.objs.size _ := hns.at fun o z => hk4 _ o (fun z2 => absurd (Heap.lt_size he) (by rw [← z2]; exact Nat.lt_irrefl _)) (hk3 _ o (hk1 _ o z))
    refine ks_wpAt_execs_cons (ks_wpAt_Assign_Attr ?_ (hs2 _))
    have nsE : h2.Ns (ksEnv qual scope hp.objs.size fI (.ref cda) cc).locals (fun x => [(("self" : Str), Value.ref e), ((fv : Str), v)].reverse.lookup x) := hns5
    refine wpAt_of_wpAny (wpAny_Name (wpAny_loadName_local (m := fun x => [(("self" : Str), Value.ref e), ((fv : Str), v)].reverse.lookup x) k8 k4 nsE lV ?_) (by rcases fvo with rfl | rfl <;> decide))
    refine wpAny_Name (wpAny_loadName_local (m := fun x => [(("self" : Str), Value.ref e), ((fv : Str), v)].reverse.lookup x) k8 k3 nsE lS ?_) (by decide)
    have X3 : K.In h2 := fun b o z => hk5 b o (fun y => by subst y; rw [M.kin _ _ z] at hbe; cases hbe) (X0 _ _ z)
    refine PySem.W.set_plain X3 (od := none) ⟨e4, rfl, rfl, trivial⟩ T.sa ?_
    refine PySem.HandSPX.exc_osa X3 e4 hclC (by rw [hcdeq]; exact hbm) (by rw [hcdeq]) no (fun h' tk' dx hk6 dn dne hx hn => ?_)
    show _root_.PySem.wpAt _ _ _ (execs [] _) _ _ _
    rw [execs_nil]
    refine wpAt_of_wpAny (wpAny_pure ?_)
    refine hq h' tk' _ dx (fun b o hne z => hk6 b o hne (hk5 b o hne z)) ?_ hx hn
    refine Nat.le_trans ?_ dn
    obtain ⟨oL, _, _, hL, _⟩ := hns5
    exact Nat.le_of_lt (Heap.lt_size hL)
  exact evalArgs_plain go
end
end FW

namespace FW
open PySem L2 PySem.Spec PyProof.Rows

/-- C(e, ..), C an error of the program -/
def tIni (fv : Str) (C : Addr) (dvs : List V) (ta : TA) : L2.St → Hp → XK → Prop := fun σ H Q => ta σ H fun vs H1 => ∃ v, vs ++ dvs = [v] ∧ ∀ d, H1 d = none → Q (.ref C) (some d) (upd H1 d (.xd [(fv, v)]))
theorem vals_one {v : V} : ∀ {us : List Value}, Vals [v] us → ∃ u, us = [u] ∧ RelV v u
  | _, .cons r .nil => ⟨_, rfl, r⟩
/-- the heap in which an error of the class C has just been made of us: its args, then itself -/
def made2 (h : Heap) (us : List Value) (C : Addr) : Heap := (h.push (PySem.W.kdv_tup us)).push (PySem.HandSPX.excO C h.objs.size)
abbrev spot (h : Heap) : Addr := h.objs.size + 1
theorem made2_old {h : Heap} {us : List Value} {C b : Addr} {o : Obj} (z : h.get? b = some o) : (made2 h us C).get? b = some o := Heap.get?_push_of_some _ (Heap.get?_push_of_some _ z)
theorem made2_new (h : Heap) (us : List Value) (C : Addr) : (made2 h us C).get? (spot h) = some (PySem.HandSPX.excO C h.objs.size) := by unfold made2; heap_get
theorem made2_size (h : Heap) (us : List Value) (C : Addr) : h.objs.size ≤ (made2 h us C).objs.size := by unfold made2; rw [Heap.size_push, Heap.size_push]; omega
theorem spot_ne {h : Heap} {b : Addr} {o : Obj} (z : h.get? b = some o) : b ≠ spot h := Nat.ne_of_lt (Nat.lt_succ_of_lt (Heap.lt_size z))
section
variable {X : Cx} {e : Expr} {es : List Expr} {ta : TA} {p pos : Pos}
theorem pmk_ini {k : Nat} {x : Str} {C fI : Addr} {fd : FuncData} {ds : List Value} {dvs : List V} {fv : Str} (F : Ini X.prog X.K X.mg fv C fI fd) (hr : Room (k + 1) X.A)
    (hb : Binds X.K fd ["self", fv] ds) (hd : Vals dvs ds) (hg : Gl X x) (hm : X.mg x = some (.ref C)) (ha : PA X (e :: es) ta)
    (hdb : (x == ("__debug__" : Str)) = false := by decide) (he : starEach (e :: es) X.env = (false, eval e X.env) :: starEach es X.env := by rfl)
    (hpl : (backTo pos (starEach es X.env)).any (·.1) = false := by rfl) :
    PMk X (.Call (.Name x p) (e :: es) [] pos) (tIni fv C dvs ta) := by
  intro pins s0 σ0 H0 Q0 I0 want
  have kn := F.T
  obtain ⟨cn, cq, cN, cb, cm, _, _, _, _, _, _, _, _, _, _, atC, tail⟩ := kn.cls
  refine wpAny_Call_Name_kw (ld_glob I0 hg hm (PySem.W.callWith_K (h₀ := X.base) I0.ok.mod.kin kn.kC (thn (ha.run pos pins s0 σ0 H0 _ I0 want) fun us s1 got => ?_) he hpl) hdb)
  obtain ⟨vs, H1, I1, r1, v, ev, wish⟩ := got
  obtain ⟨h, gn, dw, tk, oo⟩ := s1
  refine ⟨I1.kIn, wpAny_call ?_⟩
  obtain ⟨u, eu, ru⟩ : ∃ u, us ++ ds = [u] ∧ RelV v u := vals_one (ev ▸ r1.append hd)
  have few : us.length ≤ sizeLine := by
    have l1 := congrArg List.length eu
    rw [List.length_append, List.length_singleton] at l1
    rw [sizeLine_eq]; omega
  have small : X.base.objs.size ≤ h.objs.size := Nat.le_trans I1.ok.bsz I1.sz
  have noBase : X.base.get? (spot h) = none := by
    rcases z : X.base.get? (spot h) with _ | o
    · rfl
    · exact absurd (Nat.lt_of_lt_of_le (Heap.lt_size z) small) (Nat.not_lt.mpr (Nat.le_succ _))
  have bound : BindsTo ⟨made2 h us C, gn, dw, tk, oo⟩ fd ⟨.ref (spot h) :: us, []⟩ [(("self" : Str), .ref (spot h)), (fv, u)] := by
    have z := hb ⟨made2 h us C, gn, dw, tk, oo⟩ (.ref (spot h) :: us) (I1.kIn.keeps fun _ _ q => made2_old q) (by show (us ++ ds).length + 1 = 2; rw [eu]; rfl)
    rw [List.cons_append, eu] at z
    exact z
  have unseen : H1 (spot h) = none := I1.hok.fresh (Nat.le_succ _)
  refine PySem.HandSPX.call_own PySem.F.excBase_ValueError (fun Y => PySem.HandSPX.refsVE_contains Y cm tail) (I1.kIn _ _ atC) (PySem.W.looks_findIn I1.kIn F.iC) (fun me => PySem.W.bind_fn I1.kIn me F.tI) few ?_
  refine ini_run F I1.ok.mod (fun b o z => made2_old (I1.bk b o z)) noBase (hr.make C us []).depth (made2_new h us C) bound fun h3 tk3 t3 dx keep later atE atD => ⟨rfl, ?_⟩
  obtain ⟨G, in1, out1⟩ := restrict h3 fun b => decide (b ≠ spot h)
  have same : ∀ b, b ≠ spot h → G.get? b = h3.get? b := fun b z => in1 b (decide_eq_true z)
  have gone : G.get? (spot h) = none := out1 _ (decide_eq_false (fun z => z rfl))
  have apart : dx ≠ spot h := by
    rintro rfl
    obtain ⟨_, _, _, q1, q2, _⟩ := atD
    rw [atE] at q1; cases q1; cases q2
  have late : h.objs.size ≤ dx := Nat.le_trans (made2_size h us C) later
  have J : Inv X pins σ0 (upd H1 dx (.xd [(fv, v)])) ⟨G, gn, dw, tk3, oo⟩ := by
    refine I1.laid (t' := tk3) (a := dx) (o := .xd [(fv, v)]) (h' := G) (fun b o z => ?_) late ⟨_, atD.at fun o y => (same dx apart).trans y, relO_put (fs := []) (mA := fun _ => none) ru fun _ => True.intro⟩
    rw [same b (spot_ne z)]
    exact keep b o (spot_ne z) (made2_old z)
  refine ⟨spot h, _, _, ⟨G, gn, dw, tk3, oo⟩, _, .ref C, some dx, rfl, J, fun b o z => ?_, gone, atE, ⟨rfl, rfl⟩, rfl, rfl, (upd_ne (Ne.symm apart)).trans unseen, rfl, J.bare, raises_own kn.exC kn.tyC, wish dx (I1.hok.fresh late)⟩
  by_cases hs : b = spot h
  · subst hs; rw [gone] at z; cases z
  · rw [← same b hs]; exact z
end

/-- raise C(e, ..) -/
def sRaise (c fv : Str) (dms : List MV) (g : AF) : SF := fun lo st => g lo st >>= fun (l, st1) => match allFz l with
  | some ms => (match ms ++ dms with
    | [m] => .exc c [(fv, m)] lo st1
    | _ => .bad)
  | none => .bad
section
variable {X : Cx} {B : Base} {W : WX} {e : Expr} {es : List Expr} {p pos pos' : Pos} {g : AF}
theorem ss_raise {k : Nat} {x : Str} {C fI : Addr} {fd : FuncData} {ds : List Value} {dvs : List V} {dms : List MV} (hc : X.calm = true) (tk : Takes X W) {fv : Str} (F : Ini X.prog X.K X.mg fv C fI fd) (hr : RoomG (k + 1) X.A) (hb : Binds X.K fd ["self", fv] ds) (hd : Vals dvs ds)
    (dd : ∀ S ι H, AllD X.wd S ι H dvs dms) (hg : Gl X x) (hm : X.mg x = some (.ref C)) (ha : SA X B W (e :: es) g)
    (hdb : (x == ("__debug__" : Str)) = false := by decide) (he : starEach (e :: es) X.env = (false, eval e X.env) :: starEach es X.env := by rfl)
    (hpl : (backTo pos (starEach es X.env)).any (·.1) = false := by rfl) :
    SS X B W (.Raise (some (.Call (.Name x p) (e :: es) [] pos)) none pos') (sRaise x fv dms g) := by
  refine (ps_raise hc tk (pmk_ini F hr.r hb hd hg hm ha hdb he hpl)).fw fun D σ H ⟨S, ι, lo, st, fm, pp⟩ => ?_
  refine tA.use fm (Post.bind pp) fun l st1 S1 ι1 H1 vs f1 k1 r1 p1 => ?_
  dsimp only at p1
  split at p1
  · rename_i ms hz
    split at p1
    · rename_i m em
      have d1 := (r1.data hz).append (dd S1 ι1 H1)
      rw [em] at d1
      obtain ⟨v, vs', ev, dv, dn⟩ := d1.inv_cons
      have en := dn.inv_nil
      subst en
      refine ⟨v, ev, fun d hd' => ?_⟩
      obtain ⟨h1, h2, h3, h4⟩ := f1.free hd'
      have fn := f1.new (o := .xd [(fv, v)]) hd'
      have kn : Keep S1 ι1 H1 S1 ι1 (upd H1 d (.xd [(fv, v)])) := (Ext.new hd').keep f1.rep
      refine p1 (fz1 S1 d) ι1 σ (upd H1 d (.xd [(fv, v)])) (.ref C) (some d) (fn.freeze upd_same h2 h3 h4) (k1.trans (kn.trans .fz1)) ⟨C, rfl, hm, .inr ⟨d, _, rfl, .inr rfl, upd_same, rfl, fun i f m' q1 q2 => ?_⟩⟩
      cases i with
      | zero => cases q1; cases q2; exact (dv.mono kn).mono .fz1
      | succ i => cases q1
    · exact p1.elim
  · exact p1.elim
end
end FW

namespace FW
open PySem L2 PySem.Spec PyProof.Rows

section
variable {X : Cx} {pins : List (Addr × Obj)} {σ : L2.St} {H : Hp} {sI s s' : Shared} {B : Heap}
/-- back on the ground, the error's object tracked -/
theorem landedX {a : Addr} {o : HO} (I : L2.Inv X pins σ H sI) (nb : ∀ b o, sI.heap.get? b = some o → b ∉ frs X.stack → B.get? b = some o) (st : B.StaysIn s'.heap) (up : sI.heap.UpToSlots s'.heap) (os : s'.os = sI.os) (ag : AllBare s'.gens)
    (na : sI.heap.get? a = none) (hn : H a = none) (ok : ObjOk X.prog X.w (upd H a o) s'.heap a o) : L2.Inv X pins σ (upd H a o) s' := by
  have slot : ∀ b, b ∈ frs X.stack → ∀ u, sI.heap.get? b = some u → ∃ sl, s'.heap.get? b = some { u with slots := sl } := by
    intro b m u z
    obtain ⟨_, u2, z2, q⟩ := I.stack.mem m
    rw [z] at z2; cases z2
    exact up b u z q
  have ne : ∀ {b : Addr} {u : HO}, H b = some u → b ≠ a := fun {b u} z y => by rw [y, hn] at z; cases z
  have hokB : HOk X.prog X.w H s'.heap := (I.inGround nb).kept st
  have J := I.call (ch := []) (h' := s'.heap) (g' := s'.gens) (t' := s'.toks) (d' := s'.drawn) (H' := upd H a o)
    ⟨fun b o e _ hb _ => st b o (nb b o e hb), fun b o e _ hb _ => slot b hb o e, fun b o e n _ => by rw [upd_ne (fun z => by rw [z, na] at e; cases e)]; exact n, fun b o e _ => by
      by_cases hb : b ∈ frs X.stack
      · exact (slot b hb o e).elim fun sl q => ⟨_, q⟩
      · exact ⟨o, st b o (nb b o e hb)⟩, fun _ _ e => by rw [upd_ne (ne e)]; exact e, fun _ _ _ e => by rw [upd_ne (ne e)]; exact e, fun b ps e => ⟨#[], by rw [upd_ne (ne e), e]; simp⟩⟩
    (fun b u q => by
      by_cases hb : b = a
      · subst hb
        rw [upd_same] at q; cases q; exact ok
      · rw [upd_ne hb] at q
        exact (hokB b u q).stay (fun _ _ _ z => z) (fun c hc => by rw [upd_ne (ne hc)]; exact hc) fun c xs hc => by rw [upd_ne (ne hc)]; exact hc) ag (fun _ z => nomatch z)
  have es : s' = { sI with heap := s'.heap, gens := s'.gens, toks := s'.toks, drawn := s'.drawn } := by cases s'; cases os; rfl
  rw [es]; exact J
theorem exO_ok {P : Program} {w : World} {h : Heap} {C a : Addr} {d : Option Addr} {oe : Obj} {vs : Array Value} (he : h.get? a = some oe) (hz : Zc (.ref C) d oe) (hd : oe.data = .fields vs) : ObjOk P w H h a (exO C d a) :=
  ⟨⟨oe, he, hz.1, hz.2, vs, hd⟩, ⟨oe, he⟩, fun h1 h2 z k => by
    obtain ⟨o, q, r⟩ := z
    exact ⟨o, k _ q, r⟩⟩
theorem exO_at {C a : Addr} {d : Option Addr} (I : L2.Inv X pins σ H s) (e : H a = some (exO C d a)) : ∃ oe vs, s.heap.get? a = some oe ∧ oe.cls = .ref C ∧ oe.dict = d ∧ oe.data = .fields vs := by
  have x : ObjOk X.prog X.w H s.heap a (.ext fun h => ∃ o, h.get? a = some o ∧ o.cls = .ref C ∧ o.dict = d ∧ ∃ vs, o.data = .fields vs) := I.hok a _ e
  obtain ⟨oe, h1, h2, h3, vs, h4⟩ := x.1
  exact ⟨oe, vs, h1, h2, h3, h4⟩
theorem suite0 (I : L2.Inv X pins σ H s) (a : Addr) : L2.Inv (X.suite a (X.pn ++ pins)) [] σ H s :=
  ⟨I.ok.suite _ _, I.os, I.bare, I.base, I.loc, I.cell, I.free, I.freeC, fun p hp => I.pin p (by rw [List.append_nil] at hp; exact hp), I.hok, I.len⟩
theorem unsuite0 {a : Addr} {pn' : List (Addr × Obj)} (I : L2.Inv (X.suite a (X.pn ++ pins)) pn' σ H s) (ok : X.Ok) : L2.Inv X pins σ H s :=
  { ok := ok, os := I.os, bare := I.bare, base := I.base, loc := I.loc, cell := I.cell, free := I.free, freeC := I.freeC, pin := fun p hp => I.pin p (List.mem_append_left _ hp), hok := I.hok, len := I.len }
end

/-- an error of the body that has come down at its clause: a, its class and dict; the heap h; what was known of it -/
structure Down (X : Cx) (W : WX) (pins : List (Addr × Obj)) (s' : Shared) (a : Addr) (cls : Value) (d : Option Addr) (σ : L2.St) (H : Hp) (sI : Shared) (B h : Heap) : Prop where
  inv : L2.Inv X pins σ H sI
  nb : ∀ b o, sI.heap.get? b = some o → b ∉ frs X.stack → B.get? b = some o
  up : sI.heap.UpToSlots h
  fly : HandSPX.FlyingZ B (X.env :: X.outer) a (Zc cls d) h
  na : H a = none
  os : s'.os = sI.os
  ag : AllBare s'.gens
  w : W cls d σ H
section
variable {X : Cx} {W : WX} {pins : List (Addr × Obj)} {s' : Shared} {a : Addr} {cls : Value} {d : Option Addr} {σ : L2.St} {H : Hp} {sI : Shared} {B h h' : Heap}
theorem Down.on (D : Down X W pins s' a cls d σ H sI B h) (f : HandSPX.FlyingZ B (X.env :: X.outer) a (Zc cls d) h') (u : h.UpToSlots h') : Down X W pins s' a cls d σ H sI B h' :=
  { inv := D.inv, nb := D.nb, up := D.up.trans u, fly := f, na := D.na, os := D.os, ag := D.ag, w := D.w }
theorem Down.plain (D : Down X W pins s' a cls d σ H sI B h) : L2.Inv X pins σ H { s' with heap := h } := Inv.landed (s' := { s' with heap := h }) D.inv D.nb D.fly.1 D.up D.os D.ag
theorem Down.noframe (D : Down X W pins s' a cls d σ H sI B h) : a ∉ frs (X.env :: X.outer) := fun m => by
  obtain ⟨o1, v1, g1, _, g3⟩ := D.fly.there
  obtain ⟨_, o2, g4, g5⟩ := D.fly.2.2.1.mem m
  rw [g1] at g4; cases g4
  exact g5 v1 g3
theorem Down.tracked {C : Addr} (D : Down X W pins s' a (.ref C) d σ H sI B h) (hs : X.stack = X.env :: X.outer) : L2.Inv X pins σ (upd H a (exO C d a)) { s' with heap := h } := by
  obtain ⟨o1, v1, g1, g2, g3⟩ := D.fly.there
  have fresh : sI.heap.get? a = none := by
    rcases z : sI.heap.get? a with _ | o
    · rfl
    · have y := D.nb a o z (hs ▸ D.noframe)
      exact absurd y (by rw [D.fly.2.1]; exact fun e => nomatch e)
  exact landedX (s' := { s' with heap := h }) D.inv D.nb D.fly.1 D.up D.os D.ag fresh D.na (exO_ok g1 g2 g3)
/-- an error in the air comes down -/
theorem comes_down {Q : Unit → Shared → Prop} {E : Value → Shared → Prop} {u : Value} {xe : Value → Shared → Prop} (ok : X.Ok) (hs : X.stack = X.env :: X.outer) (hf : X.env.frame = some X.env.locals) (x : XE (X.tr (X.pn ++ pins) xe) W u s')
    (go : ∀ a cls d σ H sI B h, u = .ref a → Down X W pins s' a cls d σ H sI B h → Q () { s' with heap := h }) :
    wpAny (model X.prog X.w) X.A (noteFrame u X.env) (fun _ s2 => wpAny (model X.prog X.w) X.A (setFlight u none) Q E s2) E s' := by
  obtain ⟨a, B, sI, q0, σ, H, cls, d, rfl, J, nb, up, sky, na, os, ag, w⟩ := x
  have sk : Sky B (X.env :: X.outer) a (Zc cls d) X.env.locals s'.heap := hs ▸ sky
  refine Sky.land Zc.steady (by rw [ok.frames, hs]) hf sk fun h fl hu => go a cls d σ H sI B h rfl ?_
  exact { inv := J.ofTry ok, nb := nb, up := up.trans hu, fly := fl, na := na, os := os, ag := ag, w := w }
end

/-- what the clause wishes of an error of the body, its object tracked: slot i is n's -/
def wAsT (K : PySem.W.Frag) (c : Value) (i : Nat) (ts : TS) (D : Ends) : WX := fun cls d σ H =>
  ∃ C : Addr, cls = .ref C ∧ PySem.W.exmOne K cls c = some true ∧ ∀ a, H a = none →
    ts { nx := fun σ' H' => D.nx (σ'.set i none) H', rt := D.rt, bk := fun σ' H' => D.bk (σ'.set i none) H', ct := fun σ' H' => D.ct (σ'.set i none) H' } (σ.set i (some (.ref a))) (upd H a (exO C d a))
section
variable {X : Cx} {x n : Str} {c : Value} {i : Nat} {body suite : List Stmt} {b₀ : Stmt} {np pos pos' : Pos} {tb : WX → TS} {ts : TS}
theorem ps_tryT (hs : X.stack = X.env :: X.outer) (hf : X.env.frame = some X.env.locals) (hN : X.N.Nodup) (hi : X.N[i]? = some n) (hln : X.env.kindOf n = some .local) (hc : Names X x c)
    (hb : ∀ (W : WX) (pn : List (Addr × Obj)) (xe : Value → Shared → Prop), L2.Takes (X.tr pn xe) W → PassesOwn (model X.prog X.w) X.A X.env xe → PSs (X.tr pn xe) body (tb W))
    (hsu : ∀ (a : Addr) (pn : List (Addr × Obj)), PSs (X.suite a pn) (b₀ :: suite) ts) :
    PS X (.Try body [.ExceptHandler (some (.Name x np)) (some n) (b₀ :: suite) pos'] [] [] pos) (fun D σ H => tb (wAsT X.K c i ts D) D σ H) := by
  refine ⟨fun pins s σ H D I want => wpAny_Try_except ?_⟩
  have caught : L2.Takes (X.tr (X.pn ++ pins) (fun e s1 => wpAny (model X.prog X.w) X.A (noteFrame e X.env) (fun _ s2 => wpAny (model X.prog X.w) X.A (setFlight e none)
      (fun _ s3 => wpAny (model X.prog X.w) X.A (handleBy e X.env [.ExceptHandler (some (.Name x np)) (some n) (b₀ :: suite) pos']) (SP X pins D) X.xe s3) X.xe s2) X.xe s1)) (wAsT X.K c i ts D) := by
    intro u s1 air
    refine comes_down I.ok hs hf air fun a cls d σ1 H1 sI B h eu dn => ?_
    subst eu
    obtain ⟨C, ec, em, yes⟩ := dn.w
    subst ec
    obtain ⟨o1, v1, g1, g2, g3⟩ := dn.fly.there
    have P1 := dn.plain
    have S1 := suite0 P1 a
    refine wpAny_handleBy_cons (codeAny_handlers_test ?_) (fun z => nomatch z)
    have ty : PySem.W.Looks (model X.prog X.w) h (typeOf (.ref a)) (.ref C) := fun A Q E s k q => wpAny_typeOf_ref (k _ _ g1) (by rw [g2.1]; exact q)
    have yields := PySem.W.exm_one (M := model X.prog X.w) P1.kIn ty em
    have named : ∀ {Q : Value → Shared → Prop} {E : Value → Shared → Prop}, Q c { s1 with heap := h } → wpAny (model X.prog X.w) (X.A.mark (some (.ref a))) (eval (.Name x np) X.env) Q E { s1 with heap := h } := by
      intro Q E q
      rcases hc with ⟨hg, hdbg, hm | ⟨hm, hv, hnn⟩⟩
      · exact ld_glob (X := X.suite a (X.pn ++ pins)) S1 hg hm q hdbg
      · exact ld_blt (X := X.suite a (X.pn ++ pins)) S1 hg hm hv q hnn hdbg
    refine named (yields.here ?_)
    show codeAny _ _ (.handlers (.ref a) [.ExceptHandler none (some n) (b₀ :: suite) pos'] X.env) _ _
    refine codeAny_handlers_suite_as (HandSPX.lands_againZ dn.fly fun h2 fl2 u2 => ?_)
    have S2 := suite0 ((dn.on fl2 u2).tracked hs) a
    refine store_ok (X := X.suite a (X.pn ++ pins)) (v := .ref a) S2 hN hi (.inl hln) rfl (fun s2 S3 => ?_) (.inr hln)
    have ends : ∀ {σ6 : L2.St} {H6 : Hp} {s6 : Shared} {Q : Shared → Prop}, L2.Inv (X.suite a (X.pn ++ pins)) [] σ6 H6 s6 → (∀ s7, L2.Inv X pins (σ6.set i none) H6 s7 → Q s7) →
        wpAny (model X.prog X.w) X.A (do bindName X.env n .none; unbindBehindTheSuite X.env n pos') (fun _ s7 => Q s7) X.xe s6 := fun S6 k => gone_ok (unsuite0 S6 I.ok) hN hi hln k
    refine wpAny_mono ((hsu a (X.pn ++ pins)).run [] s2 _ _ _ S3 (yes a dn.na)) (fun f s6 z => ?_) (fun _ _ z => z.elim)
    rcases f with _ | _ | _ | v
    · obtain ⟨_, _, J, w⟩ := z; exact ends J fun s7 J7 => ⟨_, _, J7, w⟩
    · obtain ⟨_, _, J, w⟩ := z; exact ends J fun s7 J7 => ⟨_, _, J7, w⟩
    · obtain ⟨_, _, J, w⟩ := z; exact ends J fun s7 J7 => ⟨_, _, J7, w⟩
    · obtain ⟨_, _, _, J, r, w⟩ := z; exact ends J fun s7 J7 => ⟨_, _, _, J7, r, w⟩
  refine wpAny_mono ((hb _ _ _ caught PassesOwn.looking).run [] s σ H D (I.toTry _) want) (fun f s1 z => ?_) fun _ _ z => z
  rcases f with _ | _ | _ | v
  · obtain ⟨_, _, J, w⟩ := z; exact wpAny_execs_nil ⟨_, _, J.ofTry I.ok, w⟩
  · obtain ⟨_, _, J, w⟩ := z; exact ⟨_, _, J.ofTry I.ok, w⟩
  · obtain ⟨_, _, J, w⟩ := z; exact ⟨_, _, J.ofTry I.ok, w⟩
  · obtain ⟨_, _, _, J, r, w⟩ := z; exact ⟨_, _, _, J.ofTry I.ok, r, w⟩
end
end FW

namespace FW
open PySem L2 PySem.Spec PyProof.Rows

def sTry (p : Str → Bool) (i : Nat) (g gs : SF) : SF := fun lo st => match g lo st with
  | .ok r => .ok r
  | .bad => .bad
  | .exc c fs lo1 st1 => if p c = true then (match gs (lo1.set i (some (.exc c fs, false))) st1 with
    | .ok (.nx, lo2, st2) => .ok (.nx, lo2.set i none, st2)
    | .ok (.rt m .fz, lo2, st2) => .ok (.rt m .fz, lo2.set i none, st2)
    | _ => .bad) else .bad
section
variable {mg : Wd} {B : Base} {S : Addr → Prop} {ι : List Addr} {H : Hp} {lo : Lo} {σ : L2.St} {st : Sto}
theorem Loc.unset (l : Loc mg B S ι H lo σ) (i : Nat) : Loc mg B S ι H (lo.set i none) (σ.set i none) := by
  have back : ∀ {j : Nat} {z : MV × Bool}, (lo.set i none)[j]? = some (some z) → i ≠ j ∧ lo[j]? = some (some z) := fun {j z} h => by
    by_cases e : i = j
    · subst e
      by_cases hi : i < lo.length
      · rw [List.getElem?_set_self hi] at h; cases h
      · rw [List.getElem?_eq_none (by simp; omega)] at h; cases h
    · rw [List.getElem?_set_ne e] at h; exact ⟨e, h⟩
  refine ⟨by simp [l.len], fun j n h => ?_, fun j n h => ?_, fun j k n n' a hjk h1 h2 h3 => ?_, fun j c fs h => ?_⟩
  · obtain ⟨e, h⟩ := back h
    rw [List.getElem?_set_ne e]; exact l.val j n h
  · obtain ⟨e, h⟩ := back h
    rw [List.getElem?_set_ne e]; exact l.own j n h
  · obtain ⟨e1, h1⟩ := back h1
    obtain ⟨e2, h2⟩ := back h2
    rw [List.getElem?_set_ne e1] at h3
    rw [List.getElem?_set_ne e2]
    exact l.dis j k n n' a hjk h1 h2 h3
  · obtain ⟨e, h⟩ := back h
    rw [List.getElem?_set_ne e]; exact l.pin j c fs h
theorem Fm.unset (f : Fm mg B S ι H lo σ st) (i : Nat) : Fm mg B S ι H (lo.set i none) (σ.set i none) st := ⟨f.ext, f.rep, f.loc.unset i, f.g⟩
end
section
variable {X : Cx} {B : Base} {W : WX} {x n : Str} {c : Value} {i : Nat} {body suite : List Stmt} {b₀ : Stmt} {np pos pos' : Pos} {g gs : SF} {p : Str → Bool}
theorem ss_try (hs : X.stack = X.env :: X.outer) (hf : X.env.frame = some X.env.locals) (hN : X.N.Nodup) (hc : Names X x c) (tk : Takes X W) (hp : ∀ e C, p e = true → X.mg e = some (.ref C) → PySem.W.exmOne X.K (.ref C) c = some true)
    (hb : ∀ (W : WX) (pn : List (Addr × Obj)) (xe : Value → Shared → Prop), Takes (X.tr pn xe) W → PassesOwn (model X.prog X.w) X.A X.env xe → SSs (X.tr pn xe) B W body g)
    (hsu : ∀ (a : Addr) (pn : List (Addr × Obj)), SSs (X.suite a pn) B W0 (b₀ :: suite) gs) (hi : X.N[i]? = some n := by rfl) (hln : X.env.kindOf n = some .local := by rfl) :
    SS X B W (.Try body [.ExceptHandler (some (.Name x np)) (some n) (b₀ :: suite) pos'] [] [] pos) (sTry p i g gs) := by
  refine (ps_tryT (tb := fun W => tS X.wd B W g) (ts := tS X.wd B W0 gs) hs hf hN hi hln hc hb hsu).fw fun D σ H ⟨S, ι, lo, st, fm, pp⟩ => ?_
  refine ⟨S, ι, lo, st, fm, ?_⟩
  unfold sTry at pp
  cases e : g lo st with
  | bad => rw [e] at pp; exact pp.elim
  | ok r => rw [e] at pp; exact pp
  | exc cl fs lo1 st1 =>
    rw [e] at pp
    dsimp only at pp
    split at pp
    case isFalse => exact pp.elim
    rename_i hpc
    intro S1 ι1 σ1 H1 cls d f1 k1 xr
    obtain ⟨C, rfl, hm, hd⟩ := xr
    refine ⟨C, rfl, hp cl C hpc hm, fun a ha => ?_⟩
    obtain ⟨q1, q2, q3, q4⟩ := f1.free ha
    have fn := f1.new (o := exO C d a) ha
    have kn : Keep S1 ι1 H1 S1 ι1 (upd H1 a (exO C d a)) := (Ext.new ha).keep f1.rep
    have ff := fn.freeze upd_same q2 q3 q4
    have dt : Dt X.wd (fz1 S1 a) ι1 (upd H1 a (exO C d a)) (.ref a) (.exc cl fs) := by
      rcases hd with ⟨rfl, rfl⟩ | ⟨dd, vs, rfl, hsd, hxd, hn, hi⟩
      · exact .exc0 (.inr rfl) upd_same hm
      · refine .exc (.inr rfl) upd_same (.inl hsd) ((upd_ne (fun z => ?_)).trans hxd) hm hn fun j f m z1 z2 => ((hi j f m z1 z2).mono kn).mono .fz1
        rw [z, ha] at hxd; cases hxd
    have fs' := ff.set_val i dt
    refine ⟨fz1 S1 a, ι1, _, st1, fs', ?_⟩
    have kk : Keep S ι H (fz1 S1 a) ι1 (upd H1 a (exO C d a)) := k1.trans (kn.trans .fz1)
    split at pp
    · rename_i lo2 st2 eg
      rw [eg]
      exact fun S' ι' σ' H' fm' k' => pp S' ι' (σ'.set i none) H' (fm'.unset i) (kk.trans k')
    · rename_i m lo2 st2 eg
      rw [eg]
      exact fun S' ι' σ' H' v fm' k' rv => pp S' ι' (σ'.set i none) H' v (fm'.unset i) (kk.trans k') rv
    · exact pp.elim
end

section
open PySem.W PySem.Calls
theorem exc_cls {prog : Program} {w : World} {A : Around} {E : Value → Shared → Prop} {s : Shared} {K : Frag} {x D : Addr} {ox : Obj} {od : Option Obj} {Q : Option Value → Shared → Prop} (c : ExcC K D) (hf : findObj K D od "__class__" = some (.bind (.builtin "getset_descriptor.__get__") (.builtin "object.__class__")))
    (X : K.In s.heap) (I : PySem.W.InstAt s.heap x ox D od) (h : Q (some (.ref D)) { s with toks := s.toks + 1 }) : wpAny (model prog w) A (getAttr? (.ref x) "__class__") Q E s := by
  obtain ⟨h0, gn, dw, t, oo⟩ := s
  have tyx := I.type (M := model prog w)
  have isx : Looks (model prog w) h0 (isInstance (.ref x) (.type "BaseException")) true := tyx.andThen (looks_subIn X c.hs)
  unfold getAttr? getAttrBy? getAttrBy
  refine wpAny_bind (wpAny_mkText (wpAny_bind (wpAny_attempt (wpAny_holding (wpAny_bind (tyx.at (wpAny_bind ((looks_findIn (M := model prog w) X c.hg).at ?_))))))))
  have notobj : (onTheHeap (Value.ref D) && Value.builtin "BaseException.__getattribute__" == Value.builtin "object.__getattribute__") = false := by
    rw [show (Value.builtin "BaseException.__getattribute__" == Value.builtin "object.__getattribute__") = false by decide +kernel, Bool.and_false]
  refine KFB.if_not notobj ?_
  unfold getAttrByItsOwn hookBefore
  refine wpAny_bind (KFB.if_so rfl ((looks_findIn (M := model prog w) X c.hk).at ?_))
  refine wpAny_bind (wpAny_attempt (wpAny_holding ?_))
  unfold callGetattribute
  refine KFB.if_not rfl ?_
  unfold boundAndCalled
  rw [PySem.F.excAttr_ValueError.ga.bind (.ref x)]
  refine wpAny_bind (wpAny_pure (wpAny_call (codeAny_call_builtin PySem.F.excAttr_ValueError.ga.plain PySem.F.entry_bexc_ga
    (@check_slot (model prog w) _ _ ⟨h0, gn, dw, t + 1, oo⟩ "BaseException.__getattribute__" "BaseException" "__getattribute__" (.ref x) [.str "__class__" t] [] _ (by decide +kernel) (by decide +kernel) isx (PySem.F.args_bexc_ga (.ref x) (.str "__class__" t)) ?_))))
  unfold Builtin.«object.__getattribute__»
  refine wpAny_bind (wpAny_of_eq (a := ((Value.ref x : Value), [Value.str "__class__" t])) (by first | rfl | (simp only [slotArgs]; rfl)) (wpAny_bind (wpAny_pure (wpAny_bind (tyx.at (wpAny_bind ((looks_find (M := model prog w) X I hf).at ?_)))))))
  refine wpAny_bind (wpAny_holding (wpAny_call (class_get (s := ⟨h0, gn, dw, t + 1, oo⟩) X I c.hm ?_)))
  refine wpAny_pure (?_ : wpAny _ _ (handedOut (.ref D)) _ _ _)
  rw [handedOut_of (v := .ref D) rfl]
  first
    | exact wpAny_pure (wpAny_pure h)
    | exact wpAny_pure h
    | exact wpAny_pure (wpAny_bind (wpAny_pure (wpAny_pure h)))
theorem findObj_cls {K : Frag} {D : Addr} (c : ExcC K D) (od : Option Obj) : findObj K D od "__class__" = some (.bind (.builtin "getset_descriptor.__get__") (.builtin "object.__class__")) := by
  have hc : (clsIn K D).isSome = true := by
    obtain ⟨cd, e, _⟩ := any_some c.hd
    rw [e]; rfl
  rcases od with _ | o
  · exact findObj_dataN hc c.ha c.hn c.ht
  · exact findObj_data hc c.ha c.hn c.ht
theorem kitx_err {K : Frag} {x D : Addr} (c : ExcC K D) : KitX K (.ref x) (.ref D) (fun h => ∃ ox od, PySem.W.InstAt h x ox D od) := by
  obtain ⟨cd, hcd, _⟩ := any_some c.hd
  have there : ∃ o, K.lookup D = some o ∧ o.data = .cls cd := by
    unfold clsIn at hcd
    split at hcd
    · rename_i e; cases hcd; exact ⟨_, e, rfl⟩
    · cases hcd
  obtain ⟨o, lk, hdat⟩ := there
  refine ⟨fun _ _ _ ⟨_, _, I⟩ => I.type, fun M h X _ => ?_, fun h tp dd its n sl X z => ?_, fun {prog w A E Q s} X ⟨_, od, I⟩ k => exc_cls c (findObj_cls c od) X I k⟩
  · intro A Q E s k q
    unfold isType loadHead
    refine wpAny_bind (wpAny_loadPart (k _ _ (X _ _ lk)) ?_)
    rw [hdat]; exact wpAny_pure q
  · refine Bool.eq_false_iff.mpr fun e => ?_
    obtain rfl : D = tp := Value.ref.inj (beq_iff_eq.mp e)
    have e2 := (X _ _ lk).symm.trans z
    cases e2; cases hdat
end
/-- an error's object as the library's rules want it -/
theorem err_inst {X : Cx} {pins : List (Addr × Obj)} {σ : L2.St} {H : Hp} {s : Shared} {C a : Addr} {d : Option Addr} (I : L2.Inv X pins σ H s) (e : H a = some (exO C d a)) (hd : d = none ∨ ∃ dd fs, d = some dd ∧ H dd = some (.xd fs)) :
    ∃ ox od, PySem.W.InstAt s.heap a ox C od ∧ (∀ dd fs, d = some dd → H dd = some (.xd fs) → ∃ o mA, od = some o ∧ s.heap.get? dd = some o ∧ s.heap.Ns1 dd mA ∧ ∀ f, RelO (fs.lookup f) (mA f)) := by
  obtain ⟨oe, vs, g1, g2, g3, g4⟩ := exO_at I e
  obtain ⟨oc, odi, oda, osl⟩ := oe
  dsimp only at g2 g3 g4
  subst g2 g3 g4
  rcases hd with rfl | ⟨dd, fs, rfl, hx⟩
  · exact ⟨_, none, ⟨g1, rfl, rfl, trivial⟩, fun dd fs z => nomatch z⟩
  · obtain ⟨mA, hns, rel⟩ : ∃ mA, s.heap.Ns1 dd mA ∧ ∀ f, RelO (fs.lookup f) (mA f) := I.hok dd _ hx
    obtain ⟨o, es, ep, q1, q2⟩ := hns
    refine ⟨_, some o, ⟨g1, rfl, rfl, q1⟩, fun d2 f2 z1 z2 => ?_⟩
    cases z1
    rw [hx] at z2; cases z2
    exact ⟨o, mA, rfl, q1, ⟨o, es, ep, q1, q2⟩, rel⟩
/-- what a value's class is, as isinstance sees it -/
structure InsC (K : PySem.W.Frag) (C : Addr) : Prop where
  cls : L2.Cls K C
  ha : PySem.W.findIn K (.ref C) "__class__" = some (some (.builtin "object.__class__"))
  hn : PySem.W.specialIn K (.builtin "object.__class__") "__get__" = some (some (.builtin "getset_descriptor.__get__"))
  ht : PySem.W.takesIn K (.builtin "object.__class__") = some true
  hm : PySem.W.mroIn K C (.type "object") = some true
def rIsiA (K : PySem.W.Frag) : List V → Hp → VK → Prop := fun xs H Q => ∃ (x c : V) (t u : Value) (b : Bool), xs = [x, c] ∧ ClsV c u ∧
  (TyX K H x t ∨ (∃ a C d, x = .ref a ∧ H a = some (exO C d a) ∧ (d = none ∨ ∃ dd fs, d = some dd ∧ H dd = some (.xd fs)) ∧ ExcC K C ∧ t = .ref C) ∨ (∃ a o kvs, x = .ref a ∧ H a = some (.frz o (.dT kvs)) ∧ t = .type "dict")) ∧ PySem.W.kitOne K t u = some b ∧ Q (.bl b) H
theorem call_isiA {X : Cx} : CallR X (.builtin "isinstance") (rIsiA X.K) := by
  intro pins s σ H xs us Q I r h
  obtain ⟨x, c, t, u, b, rfl, k, ty, e, q⟩ := h
  rcases ty with ty | ⟨a, C, d, rfl, hH, hd, ec, rfl⟩ | ⟨a, ob, kvs, rfl, hH, rfl⟩
  · exact call_isi pins s σ H _ us Q I r ⟨x, c, t, u, b, rfl, k, ty, e, q⟩
  · obtain ⟨u1, u2, rfl, r1, r2⟩ := vals2 r
    obtain rfl := k.eq r2
    cases (show u1 = Value.ref a from r1)
    obtain ⟨ox, od, J, _⟩ := err_inst I hH hd
    exact PySem.W.kia_one (kitx_err ec) I.kIn ⟨ox, od, J⟩ e (fun z => nomatch z) fun tk => ⟨.bl b, H, I.tok tk, rfl, q⟩
  · obtain ⟨u1, u2, rfl, r1, r2⟩ := vals2 r
    obtain rfl := k.eq r2
    cases (show u1 = Value.ref a from r1)
    obtain ⟨_, _, _, _, _, o, _, _, h1, h2, _⟩ := (show ObjOk X.prog X.w H s.heap a (.frz ob (.dT kvs)) from I.hok a _ hH)
    exact PySem.W.kia_one PySem.W.kitx_dict I.kIn ⟨o, h1, h2.1⟩ e (fun z => nomatch z) fun tk => ⟨.bl b, H, I.tok tk, rfl, q⟩
def tyAns (ans : String → Option Bool) (oi oe : Str → Option Bool) : MV → Option Bool
  | .non => ans "NoneType"
  | .bl _ => ans "bool"
  | .int _ => ans "int"
  | .str _ => ans "str"
  | .tup _ => ans "tuple"
  | .lst _ => ans "list"
  | .dct _ => ans "dict"
  | .ins c _ => oi c
  | .exc c _ => oe c
  | _ => none
def mIsi (ans : String → Option Bool) (oi oe : Str → Option Bool) (fa : EF) : EF := fun lo st => fa lo st >>= fun (a, _, st1) => match tyAns ans oi oe (vw st1 a) with
  | some b => .ok (.bl b, .fz, st1)
  | none => .bad
section
variable {X : Cx} {B : Base} {W : WX} {a ec : Expr} {fa : EF} {p pos : Pos} {ans : String → Option Bool} {oi oe : Str → Option Bool} {u : Value} {c : V}
theorem se_isi (hg : Gl X "isinstance") (hm : X.mg "isinstance" = none) (ha : SE X B W a fa) (hc : PE X ec (tC c)) (k : ClsV c u)
    (hA : ∀ t b, ans t = some b → PySem.W.kitOne X.K (.type t) u = some b) (hI : ∀ n C b, oi n = some b → X.mg n = some (.ref C) → InsC X.K C ∧ PySem.W.kitOne X.K (.ref C) u = some b)
    (hE : ∀ n C b, oe n = some b → X.mg n = some (.ref C) → ExcC X.K C ∧ PySem.W.kitOne X.K (.ref C) u = some b)
    (he : starEach [a, ec] X.env = (false, eval a X.env) :: starEach [ec] X.env := by rfl) (he2 : starEach [ec] X.env = (false, eval ec X.env) :: starEach [] X.env := by rfl) (hpl : (backTo pos (starEach [ec] X.env)).any (·.1) = false := by rfl) :
    SE X B W (.Call (.Name "isinstance" p) [a, ec] [] pos) (mIsi ans oi oe fa) := by
  refine (pe_callB (r := rIsiA X.K) call_isiA hg hm PyProof.Rows.Boot.«isinstance» (pa_cons ha (pa_cons hc pa_nil he2) he) (by decide) (by decide) he hpl).fw fun σ H Q ⟨S, ι, lo, st, fm, pp⟩ => ?_
  refine tE.use fm (Post.bind pp) fun m kd st1 S1 ι1 H1 v f1 k1 r1 p1 => ?_
  obtain ⟨S1', f1', k1', h1⟩ := r1.hand f1
  have vr := h1.vr f1'
  dsimp only at p1
  split at p1
  case h_2 => exact p1.elim
  rename_i b eb
  have out := p1 S1' ι1 H1 _ f1' (k1.trans k1') (.bl b)
  show rIsiA X.K [v, c] H1 Q
  revert eb vr
  generalize vw st1 m = m2
  intro vr eb
  cases m2 with
  | non => cases vr; exact ⟨_, c, _, u, b, rfl, k, .inl (.base .non), hA _ b eb, out⟩
  | bl x => cases vr; exact ⟨_, c, _, u, b, rfl, k, .inl (.base (.bl _)), hA _ b eb, out⟩
  | int x => cases vr; exact ⟨_, c, _, u, b, rfl, k, .inl (.base (.int _)), hA _ b eb, out⟩
  | str x => cases vr; exact ⟨_, c, _, u, b, rfl, k, .inl (.base (.str _)), hA _ b eb, out⟩
  | tup x => obtain ⟨q, ws, rfl, g, _⟩ := vr; exact ⟨_, c, _, u, b, rfl, k, .inl (.base (.tup g)), hA _ b eb, out⟩
  | lst x => obtain ⟨q, ws, rfl, g, _⟩ := vr; exact ⟨_, c, _, u, b, rfl, k, .inl (.base (.lst g)), hA _ b eb, out⟩
  | dct x =>
    obtain ⟨q, rfl, ⟨kvs, g, _⟩ | ⟨kvs, g, _⟩⟩ := vr
    · rcases g with g | ⟨o, g⟩
      · exact ⟨_, c, _, u, b, rfl, k, .inl (.base (.dK g)), hA _ b eb, out⟩
      · exact ⟨_, c, _, u, b, rfl, k, .inl (.fDict g), hA _ b eb, out⟩
    · rcases g with g | ⟨o, g⟩
      · exact ⟨_, c, _, u, b, rfl, k, .inl (.base (.dT g)), hA _ b eb, out⟩
      · exact ⟨_, c, _, u, b, rfl, k, .inr (.inr ⟨q, o, kvs, rfl, g, rfl⟩), hA _ b eb, out⟩
  | ins n fs =>
    obtain ⟨q, C, dx, ws, rfl, g, hmc, _⟩ := vr
    obtain ⟨ic, kk⟩ := hI n C b eb hmc
    exact ⟨_, c, _, u, b, rfl, k, .inl (.base (.ins g ic.cls ic.ha ic.hn ic.ht ic.hm)), kk, out⟩
  | exc n fs =>
    obtain ⟨q, C, rfl, hmc, hd⟩ := vr
    obtain ⟨ic, kk⟩ := hE n C b eb hmc
    rcases hd with ⟨_, g⟩ | ⟨dd, ws, g, _, g2, _⟩
    · exact ⟨_, c, _, u, b, rfl, k, .inr (.inl ⟨q, C, _, rfl, g, .inl rfl, ic, rfl⟩), kk, out⟩
    · exact ⟨_, c, _, u, b, rfl, k, .inr (.inl ⟨q, C, _, rfl, g, .inr ⟨dd, ws, rfl, g2⟩, ic, rfl⟩), kk, out⟩
  | _ => cases eb
end
end FW

namespace FW
open PySem L2 PySem.Spec PyProof.Rows

section
variable {mg : Wd} {S : Addr → Prop} {ι : List Addr} {H : Hp}
theorem lookup_put {β : Type} (f g : Str) (y : β) (fs : List (Str × β)) : ((f, y) :: fs).lookup g = if g = f then some y else fs.lookup g := by
  by_cases h : g = f
  · subst h; simp [List.lookup]
  · have e : (g == f) = false := by simpa using h
    rw [if_neg h]; simp [List.lookup, e]
theorem look_both {f : Str} : ∀ {fs : List (Str × V)} {ms : List (Str × MV)} {m : MV}, fs.map (·.1) = ms.map (·.1) → (∀ (i : Nat) f m, fs[i]? = some f → ms[i]? = some m → Dt mg S ι H f.2 m.2) → ms.lookup f = some m → ∃ v, fs.lookup f = some v ∧ Dt mg S ι H v m
  | [], [], _, _, _, h => by cases h
  | [], _ :: _, _, hn, _, _ => by cases hn
  | _ :: _, [], _, hn, _, _ => by cases hn
  | (f1, v1) :: fs, (f2, m2) :: ms, m, hn, hi, h => by
    rw [List.map_cons, List.map_cons] at hn
    obtain ⟨e1, e2⟩ := List.cons.inj hn
    have e1' : f1 = f2 := e1
    subst e1'
    rw [FW.lookup_put] at h ⊢
    by_cases hf : f = f1
    · rw [if_pos hf] at h ⊢
      cases h
      exact ⟨v1, rfl, hi 0 _ _ rfl rfl⟩
    · rw [if_neg hf] at h ⊢
      exact look_both e2 (fun i a b q1 q2 => hi (i + 1) a b (by simpa using q1) (by simpa using q2)) h
end
def tFldA (K : PySem.W.Frag) (ta : TE) (f : Str) : TE := fun σ H Q => ta σ H fun x H1 => (∃ a C dx fs v, x = .ref a ∧ H1 a = some (.ins C dx fs) ∧ L2.Cls K C ∧ NoAttr K C f ∧ fs.lookup f = some v ∧ Q v H1) ∨
  ∃ a C dd fs v, x = .ref a ∧ H1 a = some (exO C (some dd) a) ∧ H1 dd = some (.xd fs) ∧ ExcC K C ∧ NoAttr K C f ∧ fs.lookup f = some v ∧ Q v H1
def gFld (f : Str) (oi oe : Str → Bool) : MV → Option MV
  | .ins c fs => if oi c = true then fs.lookup f else none
  | .exc c fs => if oe c = true then fs.lookup f else none
  | _ => none
def mFld (f : Str) (oi oe : Str → Bool) (fa : EF) : EF := fun lo st => fa lo st >>= fun (a, _, st1) => match gFld f oi oe (vw st1 a) with
  | some m => .ok (m, .fz, st1)
  | none => .bad
section
variable {X : Cx} {B : Base} {W : WX} {e : Expr} {f : Str} {fa : EF} {pos : Pos} {oi oe : Str → Bool}
theorem pe_fldA {ta : TE} (he : PE X e ta) (hb : attributeBase e f X.env (eval e X.env) = eval e X.env) : PE X (.Attribute e f pos) (tFldA X.K ta f) := by
  refine ⟨fun pins s σ H Q I h => attr_of hb (thn (he.run pins s σ H _ I h) fun u s1 got => ?_)⟩
  obtain ⟨x, H1, I1, rx, alt⟩ := got
  rcases alt with ⟨a, C, dx, fs, v, ex, ea, c, n, l, q⟩ | ⟨a, C, dd, fs, v, ex, ea, ed, c, n, l, q⟩
  · subst ex
    cases (show u = Value.ref a from rx)
    exact getattr_ok I1 ea c n l fun u2 s2 I2 ru => ⟨v, H1, I2, ru, q⟩
  · subst ex
    cases (show u = Value.ref a from rx)
    obtain ⟨ox, od, J, hod⟩ := err_inst I1 ea (.inr ⟨dd, fs, rfl, ed⟩)
    obtain ⟨o, mA, rfl, gd, ns, rel⟩ := hod dd fs rfl ed
    obtain ⟨o2, gd2, look⟩ := lookIn_ns ns
    rw [gd] at gd2; cases gd2
    obtain ⟨w, hw, rw2⟩ := RelO.some_of (v := v) (o := mA f) (by rw [← l]; exact rel f)
    exact PySem.HandSPX.exc_get I1.kIn J c.hg c.hk c.hs (PySem.W.findObj_own c.hd n rfl (by rw [look, hw])) (handed_of rw2) ⟨v, H1, I1.tok _, rw2, q⟩
theorem se_fld (he : SE X B W e fa) (hI : ∀ n C, oi n = true → X.mg n = some (.ref C) → L2.Cls X.K C ∧ NoAttr X.K C f) (hE : ∀ n C, oe n = true → X.mg n = some (.ref C) → ExcC X.K C ∧ NoAttr X.K C f)
    (hb : attributeBase e f X.env (eval e X.env) = eval e X.env := by rfl) : SE X B W (.Attribute e f pos) (mFld f oi oe fa) := by
  refine (pe_fldA he hb).fw fun σ H Q ⟨S, ι, lo, st, fm, pp⟩ => ?_
  refine tE.use fm (Post.bind pp) fun m kd st1 S1 ι1 H1 v f1 k1 r1 p1 => ?_
  obtain ⟨S1', f1', k1', h1⟩ := r1.hand f1
  have vr := h1.vr f1'
  dsimp only at p1
  split at p1
  case h_2 => exact p1.elim
  rename_i b eb
  have out := fun w d => p1 S1' ι1 H1 w f1' (k1.trans k1') d
  revert eb vr
  generalize vw st1 m = m2
  intro vr eb
  cases m2 with
  | ins n fs =>
    obtain ⟨q, C, dx, ws, rfl, g, hmc, hn, hi⟩ := vr
    have eb : (if oi n = true then fs.lookup f else none) = some b := eb
    split at eb
    · rename_i ho
      obtain ⟨c, na⟩ := hI n C ho hmc
      obtain ⟨w, l, d⟩ := look_both hn hi eb
      exact .inl ⟨q, C, dx, ws, w, rfl, g, c, na, l, out w d⟩
    · cases eb
  | exc n fs =>
    obtain ⟨q, C, rfl, hmc, hd⟩ := vr
    have eb : (if oe n = true then fs.lookup f else none) = some b := eb
    split at eb
    · rename_i ho
      obtain ⟨c, na⟩ := hE n C ho hmc
      rcases hd with ⟨rfl, _⟩ | ⟨dd, ws, g, _, g2, hn, hi⟩
      · cases eb
      · obtain ⟨w, l, d⟩ := look_both hn hi eb
        exact .inr ⟨q, C, dd, ws, w, rfl, g, g2, c, na, l, out w d⟩
    · cases eb
  | _ => cases eb
end

mutual
/-- plain data at a value, {} among them -/
inductive RdX (h : Heap) : Value → PyData → Prop
  | non : RdX h .none .none
  | bl (b : Bool) : RdX h (.bool b) (.bool b)
  | int (i : Int) (t : Tok) : RdX h (.int i t) (.int i)
  | str (x : Str) (t : Tok) : RdX h (.str x t) (.str x)
  | lst {a : Addr} {o : Obj} {vs : Array Value} {n : Nat} {xs : List PyData} : h.get? a = some o → o.cls = .type "list" → o.data = .seq vs n → RdXs h vs.toList xs → RdX h (.ref a) (.list xs)
  | tup {a : Addr} {o : Obj} {vs : Array Value} {n : Nat} {xs : List PyData} : h.get? a = some o → o.cls = .type "tuple" → o.data = .seq vs n → RdXs h vs.toList xs → RdX h (.ref a) (.tuple xs)
  | dct {a : Addr} {o : Obj} {es : Array DictEntry} {n : Nat} : h.get? a = some o → o.cls = .type "dict" → o.data = .dict es n → es.toList = [] → (a == sysModules) = false → RdX h (.ref a) (.dict [])
inductive RdXs (h : Heap) : List Value → List PyData → Prop
  | nil : RdXs h [] []
  | cons {v : Value} {vs : List Value} {d : PyData} {ds : List PyData} : RdX h v d → RdXs h vs ds → RdXs h (v :: vs) (d :: ds)
end
section
variable {prog : Program} {w : World} {h : Heap}
mutual
theorem RdX.reads : ∀ {v : Value} {d : PyData}, RdX h v d → ∃ as, Reads h v d as
  | _, _, .non => ⟨_, .none⟩
  | _, _, .bl b => ⟨_, .bool b⟩
  | _, _, .int i t => ⟨_, .int i t⟩
  | _, _, .str x t => ⟨_, .str x t⟩
  | _, _, .lst h1 h2 h3 h4 => let ⟨_, r⟩ := RdXs.reads h4; ⟨_, .list h1 h2 h3 r⟩
  | _, _, .tup h1 h2 h3 h4 => let ⟨_, r⟩ := RdXs.reads h4; ⟨_, .tuple h1 h2 h3 r⟩
  | _, _, .dct h1 h2 h3 h4 _ => ⟨_, .dict h1 h2 h3 (by rw [h4]; exact .nil) (by rw [h4]; exact .nil)⟩
theorem RdXs.reads : ∀ {vs : List Value} {ds : List PyData}, RdXs h vs ds → ∃ as, ReadsAll h vs ds as
  | _, _, .nil => ⟨_, .nil⟩
  | _, _, .cons a b => let ⟨_, r⟩ := RdX.reads a; let ⟨_, q⟩ := RdXs.reads b; ⟨_, .cons r q⟩
end
theorem dict_empty_kv {es : Array DictEntry} (h4 : es.toList = []) {as : List Addr} {d : Nat} : ReprEntriesK prog w as h d es.toList (PyData.shownKv []) := by
  rw [h4]
  exact .nil
mutual
theorem RdX.reprK : ∀ {v : Value} {d : PyData}, RdX h v d → d.showable = true → d.shown.length ≤ sizeLine → ∃ bs, ReadAtMost h d.depth bs ∧ ReprK prog w bs h d.depth v d.shown
  | _, _, .non, _, _ => ⟨[], (fun _ h => nomatch h), by simp only [PyData.shown]; exact .of_is ReprIs.none _ _ _⟩
  | _, _, .bl b, _, _ => ⟨[], (fun _ h => nomatch h), by simp only [PyData.shown]; exact .of_is (ReprIs.bool b) _ _ _⟩
  | _, _, .int i t, hs, _ => ⟨[], (fun _ h => nomatch h), by simp only [PyData.shown]; exact .of_is (ReprIs.int t (by simpa [PyData.showable] using hs)) _ _ _⟩
  | _, _, .str x t, _, hz => ⟨[], (fun _ h => nomatch h), by simp only [PyData.shown]; exact .of_is (ReprIs.str x t (by simpa only [PyData.shown] using hz)) _ _ _⟩
  | _, _, .lst (a := a) (vs := vs) (xs := xs) h1 h2 h3 h4, hs, hz => by
    have hz' : (listText (PyData.shownAll xs)).length ≤ sizeLine := by simpa only [PyData.shown] using hz
    obtain ⟨bs, hb, hk⟩ := RdXs.reprK h4 (by simpa [PyData.showable] using hs) (fun t ht => Nat.le_trans (listText_mem_le ht) hz')
    obtain ⟨as, q⟩ := h4.reads
    have r : Reads h (.ref a) (.list xs) _ := .list h1 h2 h3 q
    have hna : a ∉ bs := not_mem_of_deeper r (by simp only [PyData.depth]; omega) hb
    refine ⟨a :: bs, ReadAtMost.cons r (by simp only [PyData.depth]; omega) hb, ?_⟩
    simp only [PyData.depth, PyData.shown]
    obtain ⟨l⟩ := vs
    cases l with
    | nil =>
      have h4' : RdXs h [] xs := h4
      cases h4'
      simp only [PyData.shownAll, listText_nil]
      exact ReprK.listEmpty h1 h2 h3
    | cons x l => exact ReprK.list h1 h2 h3 hna (by simpa using hk.length_eq) (fun i y e => hk.item i y (by simpa using e))
  | _, _, .tup (a := a) (xs := xs) h1 h2 h3 h4, hs, hz => by
    have hz' : (tupleText (PyData.shownAll xs)).length ≤ sizeLine := by simpa only [PyData.shown] using hz
    obtain ⟨bs, hb, hk⟩ := RdXs.reprK h4 (by simpa [PyData.showable] using hs) (fun t ht => Nat.le_trans (tupleText_mem_le ht) hz')
    obtain ⟨as, q⟩ := h4.reads
    have r : Reads h (.ref a) (.tuple xs) _ := .tuple h1 h2 h3 q
    have hna : a ∉ bs := not_mem_of_deeper r (by simp only [PyData.depth]; omega) hb
    refine ⟨a :: bs, ReadAtMost.cons r (by simp only [PyData.depth]; omega) hb, ?_⟩
    simp only [PyData.depth, PyData.shown]
    exact ReprK.tuple h1 h2 h3 hna hk
  | _, _, .dct (a := a) (es := es) h1 h2 h3 h4 h5, hs, hz => by
    have r : Reads h (.ref a) (.dict []) _ := .dict h1 h2 h3 (by rw [h4]; exact .nil) (by rw [h4]; exact .nil)
    refine ⟨[a], ReadAtMost.cons r (Nat.zero_le _) (fun _ h => nomatch h), ?_⟩
    have := ReprK.dict (prog := prog) (w := w) (as := []) h1 h2 h3 h5 (by simp) (dict_empty_kv (d := 0) h4)
    simpa only [PyData.depth, PyData.shown, PyData.depthKv] using this
theorem RdXs.reprK : ∀ {vs : List Value} {ds : List PyData}, RdXs h vs ds → PyData.showableAll ds = true → (∀ t ∈ PyData.shownAll ds, t.length ≤ sizeLine) →
    ∃ bs, ReadAtMost h (PyData.depthAll ds) bs ∧ ReprAllK prog w bs h (PyData.depthAll ds) vs (PyData.shownAll ds)
  | _, _, .nil, _, _ => ⟨[], (fun _ h => nomatch h), by simp only [PyData.shownAll]; exact .nil⟩
  | _, _, .cons (d := d) (ds := ds) r rs, hs, hz => by
    have hs' : d.showable = true ∧ PyData.showableAll ds = true := by simpa [PyData.showableAll] using hs
    obtain ⟨b1, hb1, k1⟩ := RdX.reprK r hs'.1 (hz _ (by simp only [PyData.shownAll]; exact List.mem_cons_self ..))
    obtain ⟨b2, hb2, k2⟩ := RdXs.reprK rs hs'.2 (fun t ht => hz t (by simp only [PyData.shownAll]; exact List.mem_cons_of_mem _ ht))
    refine ⟨b1 ++ b2, ?_, ?_⟩
    · intro b hm
      simp only [PyData.depthAll]
      rcases List.mem_append.mp hm with hm | hm
      · obtain ⟨d', as', r', hd'⟩ := hb1 b hm
        exact ⟨d', as', r', Nat.le_trans hd' (Nat.le_max_left _ _)⟩
      · obtain ⟨d', as', r', hd'⟩ := hb2 b hm
        exact ⟨d', as', r', Nat.le_trans hd' (Nat.le_max_right _ _)⟩
    · simp only [PyData.depthAll, PyData.shownAll]
      exact .cons ((k1.more fun b hb => List.mem_append_left _ hb).level_le (Nat.le_max_left _ _)) (k2.more_le (fun b hb => List.mem_append_right _ hb) (Nat.le_max_right _ _))
end
/-- repr of a list or a tuple with {} in it -/
theorem shows_rdx {a : Addr} {d : PyData} (r : RdX h (.ref a) d) (hd : ∀ kv, d ≠ .dict kv) (hs : d.showable = true) (hsz : d.shown.length ≤ sizeLine) : ∃ T idr, ShowsBy prog w h a d T idr := by
  cases r with
  | lst h1 h2 h3 h4 =>
    rename_i o vs n xs
    have hz' : (listText (PyData.shownAll xs)).length ≤ sizeLine := by simpa only [PyData.shown] using hsz
    obtain ⟨bs, hb, hk⟩ := RdXs.reprK (prog := prog) (w := w) h4 (by simpa [PyData.showable] using hs) (fun t ht => Nat.le_trans (listText_mem_le ht) hz')
    obtain ⟨as, q⟩ := h4.reads
    have hna : a ∉ bs := not_mem_of_deeper (.list h1 h2 h3 q) (by simp only [PyData.depth]; omega) hb
    refine ⟨"list", "list.__repr__", F.slot_list_repr.toG, F.slot_list_str, F.slot_list_format, fun s hk0 => ⟨o, hk0 _ _ h1, h2⟩, fun A E s Q hg hu hk0 hQ => ?_⟩
    simp only [PyData.depth] at hu
    simp only [PyData.shown] at hQ
    obtain ⟨l⟩ := vs
    cases l with
    | nil =>
      have h4' : RdXs h [] xs := h4
      cases h4'
      simp only [PyData.shownAll, listText_nil] at hQ
      exact call_list_repr_empty ⟨o, hk0 _ _ h1, h2⟩ (hk0 _ _ h1) h3 (hQ s.heap _ _ fun _ _ e => e)
    | cons x l =>
      exact call_list_reprK h1 h2 h3 hna (by simpa using hk.length_eq) (fun i y e => hk.item i y (by simpa using e)) hg (fun b _ => Clear.nil b) hu hk0 hQ hz'
  | tup h1 h2 h3 h4 =>
    rename_i o vs n xs
    have hz' : (tupleText (PyData.shownAll xs)).length ≤ sizeLine := by simpa only [PyData.shown] using hsz
    obtain ⟨bs, hb, hk⟩ := RdXs.reprK (prog := prog) (w := w) h4 (by simpa [PyData.showable] using hs) (fun t ht => Nat.le_trans (tupleText_mem_le ht) hz')
    obtain ⟨as, q⟩ := h4.reads
    have hna : a ∉ bs := not_mem_of_deeper (.tuple h1 h2 h3 q) (by simp only [PyData.depth]; omega) hb
    refine ⟨"tuple", "tuple.__repr__", F.slot_tuple_repr, F.slot_tuple_str, F.slot_tuple_format, fun s hk0 => ⟨o, hk0 _ _ h1, h2⟩, fun A E s Q hg hu hk0 hQ => ?_⟩
    simp only [PyData.depth] at hu
    simp only [PyData.shown] at hQ
    exact call_tuple_reprK h1 h2 h3 hna hk hg (fun b _ => Clear.nil b) hu hk0 hQ hz'
  | dct _ _ _ _ _ => exact absurd rfl (hd [])
end
mutual
inductive DpX (K : PySem.W.Frag) (H : Hp) : V → PyData → Prop
  | non : DpX K H .non .none
  | bl (b : Bool) : DpX K H (.bl b) (.bool b)
  | int (i : Int) : DpX K H (.int i) (.int i)
  | str (x : Str) : DpX K H (.str x) (.str x)
  | lst {a : Addr} {xs : List V} {ds : List PyData} : Rd H a (.lst xs) → DpXs K H xs ds → DpX K H (.ref a) (.list ds)
  | tup {a : Addr} {xs : List V} {ds : List PyData} : Rd H a (.tup xs) → DpXs K H xs ds → DpX K H (.ref a) (.tuple ds)
  | dct {a : Addr} : (Rd H a (.dK []) ∨ Rd H a (.dT [])) → DpX K H (.ref a) (.dict [])
inductive DpXs (K : PySem.W.Frag) (H : Hp) : List V → List PyData → Prop
  | nil : DpXs K H [] []
  | cons {v : V} {vs : List V} {d : PyData} {ds : List PyData} : DpX K H v d → DpXs K H vs ds → DpXs K H (v :: vs) (d :: ds)
end
section
variable {X : Cx} {pins : List (Addr × Obj)} {σ : L2.St} {H : Hp} {s : Shared}
mutual
theorem DpX.rdx (I : Inv X pins σ H s) : ∀ (d : PyData) (v : V) (u : Value), DpX X.K H v d → RelV v u → RdX s.heap u d
  | .none, _, _, h, r => by
    cases h
    cases r
    exact .non
  | .bool b, _, _, h, r => by
    cases h
    cases r
    exact .bl b
  | .int i, _, _, h, r => by
    cases h
    obtain ⟨t, rfl⟩ := r
    exact .int i t
  | .str x, _, _, h, r => by
    cases h
    obtain ⟨t, rfl⟩ := r
    exact .str x t
  | .list ds, _, _, h, r => by
    cases h with
    | lst hs ha =>
      cases r
      obtain ⟨its, rv, ⟨o, n, ho, hc, _, hd⟩, _⟩ := I.list (.inl hs)
      exact .lst ho hc hd (DpX.rdxs I ds _ its ha rv)
  | .tuple ds, _, _, h, r => by
    cases h with
    | tup hs ha =>
      cases r
      obtain ⟨its, rv, ⟨o, ho, hc, n, hd⟩, _⟩ := I.tuple (.inl hs)
      exact .tup ho hc hd (DpX.rdxs I ds _ its ha rv)
  | .dict kvs, _, u, h, r => by
    cases h with
    | dct hp =>
      rename_i p
      cases (show u = Value.ref p from r)
      rcases hp with hp | hp
      · obtain ⟨_, n, vs, kv, o, es, ep, g1, g2, g3, _, g4, _⟩ := hp.ok I.hok
        cases kv
        exact .dct g1 g2.1 g3 (List.length_eq_zero_iff.mp (Pairs.length g4)) n
      · obtain ⟨_, n, vs, kv, o, es, ep, g1, g2, g3, g4, _⟩ := hp.ok I.hok
        cases kv
        exact .dct g1 g2.1 g3 g4 n
theorem DpX.rdxs (I : Inv X pins σ H s) : ∀ (ds : List PyData) (vs : List V) (us : List Value), DpXs X.K H vs ds → Vals vs us → RdXs s.heap us ds
  | [], _, _, h, r => by
    cases h
    cases r
    exact .nil
  | d :: ds, _, _, h, r => by
    cases h with
    | cons h1 h2 =>
      cases r with
      | cons r1 r2 => exact .cons (DpX.rdx I d _ _ h1 r1) (DpX.rdxs I ds _ _ h2 r2)
end
end
def rReprD (K : PySem.W.Frag) : List V → Hp → VK → Prop := fun xs H Q => ∃ x d, xs = [x] ∧ DpX K H x d ∧ d.showable = true ∧ d.shown.length ≤ sizeLine ∧ d.depth ≤ 60 ∧ Q (.str d.shown) H
theorem call_repr {X : Cx} {k : Nat} (hr : RoomG k X.A) : CallR X (.builtin "repr") (rReprD X.K) := by
  intro pins s σ H xs us Q I r h
  obtain ⟨x, d, rfl, hd, hs, hl, hz, q⟩ := h
  obtain ⟨u, rfl, ru⟩ := vals_one r
  have units := hr.r.units
  have big : ∀ {a : Addr}, RdX s.heap (.ref a) d → (∀ kv, d ≠ .dict kv) → wpAny (model X.prog X.w) X.A (call (.builtin "repr") [.ref a]) (EP X pins σ Q) X.xe s := fun {a} rd hk => by
    obtain ⟨T, idr, S⟩ := shows_rdx (prog := X.prog) (w := X.w) rd hk hs hl
    exact call_repr_slot (by omega) (S.typeIs s (fun _ _ z => z)) S.slotRepr (S.call X.A.in1 X.xe s _ hr.g (by show X.A.units + 1 + d.depth < cLine; omega) (fun _ _ z => z) fun h' u tk hk => ⟨_, _, rfl, ⟨.str d.shown, H, I.kept (t' := tk) hk, ⟨_, rfl⟩, q⟩⟩)
  have rd := DpX.rdx I d x u hd ru
  cases hd with
  | non =>
    cases (show u = Value.none from ru)
    exact PySem.P.repr_of_none ⟨.str _, H, I.tok _, ⟨_, rfl⟩, by simpa only [PyData.shown] using q⟩
  | bl b =>
    cases (show u = Value.bool b from ru)
    exact PySem.P.repr_of_bool ⟨.str _, H, I.tok _, ⟨_, rfl⟩, by simpa only [PyData.shown] using q⟩
  | int i =>
    obtain ⟨t, rfl⟩ := (show ∃ t, u = Value.int i t from ru)
    exact PySem.P.repr_of_int (by simpa [PyData.showable] using hs) ⟨.str _, H, I.tok _, ⟨_, rfl⟩, by simpa only [PyData.shown] using q⟩
  | str z =>
    obtain ⟨t, rfl⟩ := (show ∃ t, u = Value.str z t from ru)
    exact PySem.P.repr_of_str ⟨.str _, H, I.tok _, ⟨_, rfl⟩, by simpa only [PyData.shown] using q⟩ (by simpa only [PyData.shown] using hl)
  | lst _ _ => cases (show u = Value.ref _ from ru); exact big rd fun kv e => by cases e
  | tup _ _ => cases (show u = Value.ref _ from ru); exact big rd fun kv e => by cases e
  | dct hp =>
    rename_i p
    cases (show u = Value.ref p from ru)
    cases rd with
    | dct g1 g2 g3 g4 n =>
      refine repr_of_reads' (as := p :: [] ++ []) (.dict g1 g2 g3 (by rw [g4]; exact .nil) (by rw [g4]; exact .nil)) hs (fun _ hm => ?_) hr.g (by omega) (fun _ _ z => z) (fun h' u tk hk => ⟨.str _, H, I.kept (t' := tk) hk, ⟨_, rfl⟩, q⟩) hl
      rw [List.append_nil, List.mem_singleton] at hm
      rw [hm] at n
      simp at n
/-- data for repr: {} among them -/
def toX (st : Sto) : Nat → MV → Option PyData
  | 0, _ => none
  | k + 1, m => match vw st m with
    | .non => some .none
    | .bl b => some (.bool b)
    | .int i => some (.int i)
    | .str x => some (.str x)
    | .lst xs => (mapO (toX st k) xs).map .list
    | .tup xs => (mapO (toX st k) xs).map .tuple
    | .dct [] => some (.dict [])
    | _ => none
section
variable {mg : Wd} {S : Addr → Prop} {ι : List Addr} {H : Hp} {st : Sto} {v : V} {m : MV}
theorem dpXs_of {f : MV → Option PyData} : ∀ {ms : List MV} {vs : List V} {ds : List PyData}, AllD mg S ι H vs ms → (∀ v m d, Dt mg S ι H v m → f m = some d → DpX mg.K H v d) → mapO f ms = some ds → DpXs mg.K H vs ds
  | [], vs, ds, a, h, e => by
    obtain rfl := a.inv_nil
    cases e; exact .nil
  | m :: ms, vs, ds, a, h, e => by
    obtain ⟨v, vs', rfl, d, r⟩ := a.inv_cons
    unfold mapO at e
    split at e
    · rename_i y ys e1 e2
      cases e
      exact .cons (h v m y d e1) (dpXs_of r h e2)
    · cases e
theorem VR.dpx (r : Rep mg S ι H st) : ∀ (k : Nat) (v : V) (m : MV) (d : PyData), VR mg S ι H v (vw st m) → toX st k m = some d → DpX mg.K H v d
  | 0, v, m, d, h, e => by cases e
  | k + 1, v, m, d, h, e => by
    have go : ∀ v m d, Dt mg S ι H v m → toX st k m = some d → DpX mg.K H v d := fun v m d q e => VR.dpx r k v m d (q.vr r) e
    unfold toX at e
    split at e
    · rename_i q; rw [q] at h; cases h; cases e; exact .non
    · rename_i q; rw [q] at h; cases h; cases e; exact .bl _
    · rename_i q; rw [q] at h; cases h; cases e; exact .int _
    · rename_i q; rw [q] at h; cases h; cases e; exact .str _
    · rename_i xs q
      rw [q] at h
      obtain ⟨p, vs, rfl, h1, d1⟩ := h
      obtain ⟨ds, e1, rfl⟩ := Option.map_eq_some_iff.mp e
      exact .lst (.inl h1) (dpXs_of d1 go e1)
    · rename_i xs q
      rw [q] at h
      obtain ⟨p, vs, rfl, h1, d1⟩ := h
      obtain ⟨ds, e1, rfl⟩ := Option.map_eq_some_iff.mp e
      exact .tup (.inl h1) (dpXs_of d1 go e1)
    · rename_i q
      rw [q] at h
      cases e
      obtain ⟨p, rfl, ⟨kvs, g, hl, _⟩ | ⟨kvs, g, hl, _⟩⟩ := h
      · obtain rfl := List.length_eq_zero_iff.mp hl
        exact .dct (.inl g)
      · obtain rfl := List.length_eq_zero_iff.mp hl
        exact .dct (.inr g)
    · cases e
end
def gRepr : GL
  | st, [m] => (toX st dpt m).bind fun d => if d.showable = true ∧ d.shown.length ≤ sizeLine ∧ d.depth ≤ 60 then some (.str d.shown, false) else none
  | _, _ => none
theorem ok_repr {X : Cx} : CallOk X (rReprD X.K) gRepr := by
  intro S ι H st vs as z Q hr ha e w
  unfold gRepr at e
  split at e
  case h_2 => cases e
  rename_i m
  obtain ⟨v, rfl, vr⟩ := ha.one
  obtain ⟨d, ed, e⟩ := Option.bind_eq_some_iff.mp e
  split at e
  case isFalse => cases e
  rename_i hc
  cases e
  exact ⟨v, d, rfl, VR.dpx (mg := X.wd) hr _ v m d (by rw [vw_of_vr vr]; exact vr) ed, hc.1, hc.2.1, hc.2.2, w _ (.str _)⟩

def gIn (neg : Bool) : G2 := fun st a b => match toD st dpt a, toD st dpt b with
  | some d, some (.list ds) => if SeqAt.shaped d = true ∧ SeqAt.shaped (.list ds) = true then some (.bl (if neg then !(ds.any fun z => PyData.eqv z d) else ds.any fun z => PyData.eqv z d), false) else none
  | _, _ => none
theorem ok_in {X : Cx} : Op2 X (rInD X.K) (gIn false) := by
  intro S ι H st x y a b z Q hr ha hb e w
  unfold gIn at e
  split at e
  · rename_i d ds e1 e2
    split at e
    · rename_i hs
      cases e
      exact ⟨d, ds, VR.dp (mg := X.wd) hr _ x a d (by rw [vw_of_vr ha]; exact ha) e1, VR.dp (mg := X.wd) hr _ y b (.list ds) (by rw [vw_of_vr hb]; exact hb) e2, hs.1, hs.2, w _ (.bl _)⟩
    · cases e
  · cases e
theorem ok_notIn {X : Cx} : Op2 X (rNotInD X.K) (gIn true) := by
  intro S ι H st x y a b z Q hr ha hb e w
  unfold gIn at e
  split at e
  · rename_i d ds e1 e2
    split at e
    · rename_i hs
      cases e
      exact ⟨d, ds, VR.dp (mg := X.wd) hr _ x a d (by rw [vw_of_vr ha]; exact ha) e1, VR.dp (mg := X.wd) hr _ y b (.list ds) (by rw [vw_of_vr hb]; exact hb) e2, hs.1, hs.2, w _ (.bl _)⟩
    · cases e
  · cases e
section
variable {X : Cx} {B : Base} {W : WX} {a b : Expr} {fa fb : EF} {pos apos cpos : Pos} {k : Nat}
theorem se_in (hr : RoomG k X.A) (ha : SE X B W a fa) (hb : SE X B W b fb) (hm : behindInMarks .In b = false := by first | exact nomark _ | rfl) : SE X B W (.Compare a [.In] [b] pos) (mOp (gIn false) fa fb) := se_cmp (op_inD (by have := hr.r.un; omega)) ok_in ha hb hm
theorem se_notIn (hr : RoomG k X.A) (ha : SE X B W a fa) (hb : SE X B W b fb) (hm : behindInMarks .NotIn b = false := by first | exact nomark _ | rfl) : SE X B W (.Compare a [.NotIn] [b] pos) (mOp (gIn true) fa fb) := se_cmp (op_notInD (by have := hr.r.un; omega)) ok_notIn ha hb hm
end
end FW

namespace FW
open PySem L2 PySem.Spec PyProof.Rows

def tyOk (T : String) : MV → Bool
  | .lst _ => T == "list"
  | .str _ => T == "str"
  | .int _ => T == "int"
  | _ => false
theorem tyOk_v {mg : Wd} {S : Addr → Prop} {ι : List Addr} {H : Hp} {T : String} {v : V} {m : MV} (vr : VR mg S ι H v m) (h : tyOk T m = true) : tyV mg.K T v H := by
  cases m with
  | lst xs => obtain ⟨p, vs, rfl, g, _⟩ := vr; exact .inl ⟨eq_of_beq h, vs, .of g⟩
  | str x => cases vr; exact eq_of_beq h
  | int x => cases vr; exact eq_of_beq h
  | _ => cases h
def MethOk (X : Cx) (r : V → List V → Hp → VK → Prop) (g : GL) : Prop := ∀ S ι H st v vs a as z Q, Rep X.wd S ι H st → VR X.wd S ι H v a → VRs X.wd S ι H vs as → g st (a :: as) = some z → Wants X.wd S ι H Q z → r v vs H Q
def mBm (T : String) (gl : GL) (fo : EF) (g : AF) : EF := fun lo st => fo lo st >>= fun (t, _, st1) => if tyOk T (vw st1 t) = true then g lo st1 >>= fun (l, st2) => giveOut (gl st2 (vw st2 t :: l.map fun z => vw st2 z.1)) st2 else .bad
def mBm0 (T : String) (gl : GL) (fo : EF) : EF := fun lo st => fo lo st >>= fun (t, _, st1) => if tyOk T (vw st1 t) = true then giveOut (gl st1 [vw st1 t]) st1 else .bad
section
variable {X : Cx} {B : Base} {W : WX} {o e : Expr} {es : List Expr} {fo : EF} {g : AF} {apos cpos : Pos} {T id : String} {name : Str} {r : V → List V → Hp → VK → Prop} {gl : GL}
theorem se_bm (pa : PlainAttrs T) (slot : Slot T name id) (hty : typeOf (.builtin id) = pure (.type "method_descriptor")) (hm : MtR X id r) (ok : MethOk X r gl) (ho : SE X B W o fo) (ha : SA X B W (e :: es) g)
    (hbase : attributeBase o name X.env (eval o X.env) = eval o X.env := by rfl)
    (hfew : ((backTo cpos (starEach (e :: es) X.env)).all (fun x => !x.1) && (backToKw cpos (keywordEach [] X.env)).all (fun x => x.1.isSome) && decide ((e :: es).length + ([] : List Keyword).length + (if ([] : List Keyword).isEmpty then 0 else 1) < 30)) = true := by rfl)
    (hline : (apos.endLine == cpos.line) = true := by rfl) (hs : starEach (e :: es) X.env = (false, eval e X.env) :: starEach es X.env := by rfl) (hplain : (backTo cpos (starEach es X.env)).any (·.1) = false := by rfl) :
    SE X B W (.Call (.Attribute o name apos) (e :: es) [] cpos) (mBm T gl fo g) := by
  refine (pe_bm pa slot hty hm ho ha hbase hfew hline hs hplain).fw fun σ H Q ⟨S, ι, lo, st, fm, pp⟩ => ?_
  refine tE.use fm (Post.bind pp) fun t kt st1 S1 ι1 H1 ov f1 k1 r1 p1 => ?_
  obtain ⟨S1', f1', k1', h1⟩ := r1.hand f1
  dsimp only at p1
  split at p1
  case isFalse => exact p1.elim
  rename_i hT
  refine ⟨tyOk_v (h1.vr f1') hT, ?_⟩
  refine tA.use f1' (Post.bind (p1.mono (k1.trans k1') fun _ z => z)) fun l st2 S2 ι2 H2 vs f2 k2 r2 p2 => ?_
  obtain ⟨u, e2, w⟩ := give_of f2 ((k1.trans k1').trans k2) p2
  exact ok S2 ι2 H2 _ ov vs _ _ u Q f2.rep ((h1.mono k2).vr f2) (r2.vrs f2) e2 w
theorem se_bm0 (pa : PlainAttrs T) (slot : Slot T name id) (hty : typeOf (.builtin id) = pure (.type "method_descriptor")) (hm : MtR X id r) (ok : MethOk X r gl) (ho : SE X B W o fo)
    (hbase : attributeBase o name X.env (eval o X.env) = eval o X.env := by rfl) (hline : (apos.endLine == cpos.line) = true := by rfl) : SE X B W (.Call (.Attribute o name apos) [] [] cpos) (mBm0 T gl fo) := by
  refine (pe_bm0 pa slot hty hm ho hbase hline).fw fun σ H Q ⟨S, ι, lo, st, fm, pp⟩ => ?_
  refine tE.use fm (Post.bind pp) fun t kt st1 S1 ι1 H1 ov f1 k1 r1 p1 => ?_
  obtain ⟨S1', f1', k1', h1⟩ := r1.hand f1
  dsimp only at p1
  split at p1
  case isFalse => exact p1.elim
  rename_i hT
  have vr := h1.vr f1'
  obtain ⟨u, e2, w⟩ := give_of f1' (k1.trans k1') p1
  exact ⟨tyOk_v vr hT, ok S1' ι1 H1 _ ov [] _ [] u Q f1'.rep vr ⟨rfl, fun i v m z => by simp at z⟩ e2 w⟩
end

def fstIx (d : PyData) : Nat → List PyData → Option Nat
  | _, [] => none
  | n, z :: zs => if PyData.eqv z d = true then some n else fstIx d (n + 1) zs
theorem fstIx_spec {d : PyData} : ∀ {ds : List PyData} {n j : Nat}, fstIx d n ds = some j → ∃ i z, j = n + i ∧ ds[i]? = some z ∧ PyData.eqv z d = true ∧ ∀ (m : Nat) z', m < i → ds[m]? = some z' → PyData.eqv z' d = false
  | [], _, _, h => by cases h
  | x :: ds, n, j, h => by
    unfold fstIx at h
    split at h
    · rename_i e
      cases h
      exact ⟨0, x, rfl, rfl, e, fun m _ hm => absurd hm (Nat.not_lt_zero _)⟩
    · rename_i ne
      obtain ⟨i, z, rfl, hz, he, hno⟩ := fstIx_spec h
      refine ⟨i + 1, z, by omega, by simpa using hz, he, fun m z' hm q => ?_⟩
      cases m with
      | zero => simp at q; subst q; simpa using ne
      | succ m => exact hno m z' (by omega) (by simpa using q)
def gIndex : GL
  | st, [.lst xs, b] => match toD st dpt (.lst xs), toD st dpt b with
    | some (.list ds), some d => if SeqAt.shaped (.list ds) = true ∧ SeqAt.shaped d = true then (fstIx d 0 ds).map fun j => (.int (j : Nat), false) else none
    | _, _ => none
  | _, _ => none
theorem ok_index {X : Cx} : MethOk X (rIndexD X.K) gIndex := by
  intro S ι H st v vs a as z Q hr ha hb e w
  unfold gIndex at e
  split at e
  case h_2 => cases e
  rename_i xs b heq
  cases heq
  split at e
  case h_2 => cases e
  rename_i ds d e1 e2
  split at e
  case isFalse => cases e
  rename_i hs
  obtain ⟨j, hj, rfl⟩ := Option.map_eq_some_iff.mp e
  obtain ⟨i, y, rfl, hy, he, hno⟩ := fstIx_spec hj
  obtain ⟨u, rfl, vb⟩ := hb.one
  have va := ha
  obtain ⟨p, ws, rfl, g, dw⟩ := ha
  refine ⟨p, u, d, ds, i, y, rfl, rfl, VR.dp (mg := X.wd) hr _ _ (.lst xs) (.list ds) va e1, VR.dp (mg := X.wd) hr _ u b d (by rw [vw_of_vr vb]; exact vb) e2, hs.1, hs.2, hy, he, hno, ?_⟩
  have := w _ (.int _)
  simpa using this
section
variable {X : Cx} {B : Base} {W : WX} {o e : Expr} {fo : EF} {g : AF} {apos cpos : Pos} {k : Nat}
theorem se_index (hr : RoomG k X.A) (ho : SE X B W o fo) (ha : SA X B W [e] g)
    (hbase : attributeBase o "index" X.env (eval o X.env) = eval o X.env := by rfl)
    (hfew : ((backTo cpos (starEach [e] X.env)).all (fun x => !x.1) && (backToKw cpos (keywordEach [] X.env)).all (fun x => x.1.isSome) && decide (([e] : List Expr).length + ([] : List Keyword).length + (if ([] : List Keyword).isEmpty then 0 else 1) < 30)) = true := by rfl)
    (hline : (apos.endLine == cpos.line) = true := by rfl) (hs : starEach [e] X.env = (false, eval e X.env) :: starEach [] X.env := by rfl) (hplain : (backTo cpos (starEach [] X.env)).any (·.1) = false := by rfl) :
    SE X B W (.Call (.Attribute o "index" apos) [e] [] cpos) (mBm "list" gIndex fo g) :=
  se_bm PySem.F.plainAttrs_list PySem.F.slot_list_index (by rfl) (mt_indexD (by have := hr.r.un; omega)) ok_index ho ha hbase hfew hline hs hplain
end
end FW

namespace FW
open PySem L2 PySem.Spec PyProof.Rows PySem.W

/-- one address tracked -/
def one (a : Addr) (o : Option HO) : Hp := fun b => if b = a then o else none
theorem one_ne {a b : Addr} {o : Option HO} (h : b ≠ a) : one a o b = none := if_neg h
theorem one_self {a : Addr} {o : Option HO} : one a o a = o := if_pos rfl
/-- the law's def is called at the heap behind the top -/
theorem law_end1 {P : Program} {w : World} {K : Frag} {mg mb : Str → Option Value} {k : Nat} {fa a : Addr} {fd : FuncData} {x : Str} {FM : FF} {s1 : Shared} {vs : List Value} {ns : List Int} {oo : Option HO} {S : Addr → Prop}
    (KX : K.In s1.heap) (hns : s1.heap.Ns mainGlobals mg) (hb : s1.heap.Ns builtinsNs mb) (hbb : ∀ x : Str, x ≠ "__name__" → mb x = bootBuiltins x) (hlim : s1.heap.NoLimit) (hg : s1.gens = #[])
    (ha : s1.heap.get? a = some { cls := .type "list", data := .seq vs.toArray }) (hr : RoomG k callerA)
    (F : ∀ base : Heap, K.In base → base.Ns mainGlobals mg → FnG P w K mg base k fa fd [x] (spM ⟨K, mg⟩ 1 FM)) (hbind : ∀ (s : Shared) (u : Value), K.In s.heap → BindsTo s fd ⟨[u], []⟩ [(x, u)])
    (hK : oo ≠ none → K.lookup a = none) (hok : HOk P w (one a oo) s1.heap) (hoo : ∀ u, oo = some u → ∃ o xs, u = .frz o (.lst xs)) (hS : ∀ b, S b → oo ≠ none ∧ b = a)
    (hd : Dt ⟨K, mg⟩ S [] (one a oo) (.ref a) (.scr ns)) (hF : ∃ st, FM [.scr ns] [] = .ok (.bl true, false, st)) :
    codeAny (model P w) callerA (.call (.ref fa) ⟨[.ref a], []⟩) (fun r s' => r = .ok (.ret (.bool true)) ∧ OldK s1.heap s'.heap ∧ s'.os = s1.os ∧ AllBare s'.gens) s1 := by
  have hide : ∀ {b : Addr} {o : Obj}, s1.heap.get? b = some o → one a oo b = none → (hidT s1.heap (one a oo)).get? b = some o := fun e n => hidT_get e n
  have away : ∀ {b : Addr} {o : Obj} {es : Array DictEntry} {ep : Nat}, s1.heap.get? b = some o → o.data = .dict es ep → one a oo b = none := by
    intro b o es ep e d
    refine one_ne fun z => ?_
    subst z
    rw [ha] at e; cases e; cases d
  have ns' : ∀ {b : Addr} {m : Str → Option Value}, s1.heap.Ns b m → (hidT s1.heap (one a oo)).Ns b m := by
    rintro b m ⟨o, es, ep, e, d, r⟩
    exact ⟨o, es, ep, hide e (away e d), d, r⟩
  have kin : K.In (hidT s1.heap (one a oo)) := by
    intro b o e
    refine hide (KX b o e) ?_
    by_cases z : b = a
    · subst z
      rw [one_self]
      cases q : oo with
      | none => rfl
      | some u => rw [hK (by rw [q]; exact fun y => nomatch y)] at e; cases e
    · exact one_ne z
  obtain ⟨mc, l1, l2⟩ := hlim
  have e0 : Env0 P w K mg (hidT s1.heap (one a oo)) callerA [] s1 (one a oo) :=
    { frames := rfl, mod := ⟨kin, ns' hns, ⟨mb, ns' hb, hbb⟩, ⟨mc, ns' l1, l2⟩⟩, bs := fun b o e => of_hidT e, bsz := Nat.le_of_eq (hidT_size _ _), funs := trivial, frf := fun b z => absurd (show b ∈ ([] : List Addr) from z) List.not_mem_nil, hok := hok, bare := .of_eq hg }
  obtain ⟨st, hF⟩ := hF
  have rep : Rep ⟨K, mg⟩ S [] (one a oo) [] := by
    refine ⟨rfl, List.nodup_nil, fun b z => absurd z List.not_mem_nil, fun b z => ?_, fun n b m z => by simp at z⟩
    obtain ⟨h1, rfl⟩ := hS b z
    rw [one_self]
    cases oo with
    | none => exact absurd rfl h1
    | some u => exact ⟨u, rfl⟩
  have sp : spM ⟨K, mg⟩ 1 FM [.ref a] (one a oo) (fun v _ => v = .bl true) (fun _ _ _ => False) := by
    refine ⟨rfl, S, [], [], [.scr ns], rep, AllD.cons hd .nil, ?_⟩
    rw [hF]
    intro S' ι' H' v _ _ rv
    cases (show Dt ⟨K, mg⟩ S' ι' H' v (.bl true) from rv)
    rfl
  refine codeAny_mono ((F _ kin (ns' hns)).run callerA [] s1 (one a oo) ⟨[.ref a], []⟩ [.ref a] [.ref a] _ _ hr e0 (hbind s1 (.ref a) KX) (.cons rfl .nil) sp) fun r s' h => ?_
  rcases r with e | (_ | _ | _ | u)
  · obtain ⟨_, _, _, _, _, _, _, _, _, _, _, _, z⟩ := (show L2.CX P w [] (one a oo) s1 (fun _ _ _ => False) e s' from h)
    exact z.elim
  · exact (show False from h).elim
  · exact (show False from h).elim
  · exact (show False from h).elim
  · obtain ⟨v, H2, os, bare, un, hok2, rv, q⟩ := (show CE [] P w (one a oo) s1 (fun v _ => v = .bl true) u s' from h)
    subst q
    obtain rfl : u = Value.bool true := rv
    refine ⟨rfl, OldK.of_keep fun b o e => ?_, os, bare⟩
    by_cases z : b = a
    · subst z
      cases q : oo with
      | none => exact un.keep b o e (by rw [one_self, q]) (fun z => nomatch z) (fun z => nomatch z)
      | some u =>
        obtain ⟨ob, xs, rfl⟩ := hoo u q
        have t0 : one b oo b = some (.frz ob (.lst xs)) := by rw [one_self, q]
        have t2 := un.frzs b ob _ t0
        obtain ⟨g1, _⟩ := hok b _ t0
        obtain ⟨g2, _⟩ := hok2 b _ t2
        rw [g1] at e; cases e; exact g2
    · exact un.keep b o e (one_ne z) (fun z => nomatch z) (fun z => nomatch z)
theorem law_end {l : OpenLaw} {n k : Nat} {q : Program} {loose : List Str} {XP : (Str → Option Value) → Heap → Prop} {YP : World → Heap → Prop} {d : DefRec} {K : Params → Frag} {FM : FF} {x : Str}
    (hn : l.most = some n) (hn2 : n ≤ sizeLine) (hdf : d.params.defaults = []) (hr : RoomG k callerA) (hY : ∀ (w : World) (h : Heap), YP w h → (K w.params).In h)
    (F : ∀ (w : World) (mg : Str → Option Value) (fa : Addr) (h : Heap), (K w.params).In h → h.Ns mainGlobals mg → mg d.name = some (.ref fa) →
      ∃ fd : FuncData, (∀ (s : Shared) (u : Value), (K w.params).In s.heap → BindsTo s fd ⟨[u], []⟩ [(x, u)]) ∧ ∀ base : Heap, (K w.params).In base → base.Ns mainGlobals mg → FnG l.prog w (K w.params) mg base k fa fd [x] (spM ⟨K w.params, mg⟩ 1 FM))
    (hF : ∀ ns : List Int, ns.length ≤ n → ∃ st, FM [.scr ns] [] = .ok (.bl true, false, st)) :
    WalkO q loose XP YP l.row.toRowW d [] (fun f vs => PySem.call f vs) := by
  refine Att.attach_call hn hdf fun w s0 s1 mg mb fa o pm cd doc a vs ns G Y ho hd hcd hmg hobj hints hlen hg => ?_
  have KX := hY w _ Y
  obtain ⟨fd, hb, hF2⟩ := F w mg fa _ KX G.T.g hmg
  have rv := vals_ints hints
  have hl : ns.length ≤ sizeLine := Nat.le_trans hlen hn2
  have lenV := hints.length
  cases hk : (K w.params).lookup a with
  | some ob =>
    have e := KX a ob hk
    rw [hobj] at e; cases e
    refine law_end1 (oo := none) (S := fun _ => False) (ns := ns) KX G.T.g G.T.b G.T.builtins G.T.nolimit hg hobj hr hF2 hb (fun z => absurd rfl z) (fun b u z => ?_) (fun u z => nomatch z) (fun b z => z.elim) (.scr (.inr fun H' => ?_)) (hF ns hlen)
    · have z2 : one a none b = some u := z
      unfold one at z2
      split at z2 <;> cases z2
    · exact .inr ⟨_, vs.toArray, _, hk, rfl, rfl, rfl, by rw [List.size_toArray, lenV]; exact hl, by simpa using rv⟩
  | none =>
    refine law_end1 (oo := some (.frz { cls := .type "list", data := .seq vs.toArray } (.lst (ns.map V.int)))) (S := fun b => b = a) (ns := ns) KX G.T.g G.T.b G.T.builtins G.T.nolimit hg hobj hr hF2 hb (fun _ => hk) (fun b u z => ?_) (fun u z => ?_) (fun b z => ⟨(fun y => nomatch y), z⟩) (.scr (.inl ⟨rfl, .inr ⟨_, one_self⟩⟩)) (hF ns hlen)
    · unfold one at z
      split at z
      · cases z
        rename_i hb'
        subst hb'
        exact ⟨hobj, by rw [List.length_map]; exact hl, vs, _, rv, hobj⟩
      · cases z
    · cases z; exact ⟨_, _, rfl⟩
end FW
namespace FW
open PySem L2 PySem.Spec PyProof.Rows PySem.W
theorem end_use {P : Program} {w : World} {K : Frag} {mg : Str → Option Value} {k : Nat} {fa : Addr} {x : Str} {sp : Sp} (h : ∃ fd : FuncData, (∀ (s : Shared) (v : Value), K.In s.heap → BindsTo s fd ⟨[v], []⟩ [(x, v)]) ∧ ∀ (w : World) (base : Heap), FnG P w K mg base k fa fd [x] sp) :
    ∃ fd : FuncData, (∀ (s : Shared) (u : Value), K.In s.heap → BindsTo s fd ⟨[u], []⟩ [(x, u)]) ∧ ∀ base : Heap, K.In base → base.Ns mainGlobals mg → FnG P w K mg base k fa fd [x] sp := by
  obtain ⟨fd, h1, h2⟩ := h
  exact ⟨fd, h1, fun base _ _ => h2 w base⟩
end FW

namespace FW
open PySem L2 PySem.Spec PyProof.Rows

def tys7 : List String := ["NoneType", "bool", "int", "str", "tuple", "list", "dict"]
def isT (T t : String) : Option Bool := if t ∈ tys7 then some (t == T || (T == "int" && t == "bool")) else none
theorem isT_by {K : PySem.W.Frag} {T : String} (h : ∀ t ∈ tys7, kitB t T = some (t == T || (T == "int" && t == "bool"))) : ∀ t b, isT T t = some b → PySem.W.kitOne K (.type t) (.type T) = some b := by
  intro t b e
  unfold isT at e
  split at e
  · rename_i m
    cases e
    exact kit_ty (h t m)
  · cases e
theorem isT_int {K : PySem.W.Frag} : ∀ t b, isT "int" t = some b → PySem.W.kitOne K (.type t) (.type "int") = some b := isT_by (by decide +kernel)
theorem isT_bool {K : PySem.W.Frag} : ∀ t b, isT "bool" t = some b → PySem.W.kitOne K (.type t) (.type "bool") = some b := isT_by (by decide +kernel)
theorem isT_str {K : PySem.W.Frag} : ∀ t b, isT "str" t = some b → PySem.W.kitOne K (.type t) (.type "str") = some b := isT_by (by decide +kernel)
theorem isT_tuple {K : PySem.W.Frag} : ∀ t b, isT "tuple" t = some b → PySem.W.kitOne K (.type t) (.type "tuple") = some b := isT_by (by decide +kernel)
theorem isT_list {K : PySem.W.Frag} : ∀ t b, isT "list" t = some b → PySem.W.kitOne K (.type t) (.type "list") = some b := isT_by (by decide +kernel)
theorem isT_dict {K : PySem.W.Frag} : ∀ t b, isT "dict" t = some b → PySem.W.kitOne K (.type t) (.type "dict") = some b := isT_by (by decide +kernel)
/-- none of the program's classes -/
def noC : Str → Option Bool := fun _ => none
/-- an own class among those told, asked to be d -/
def eqc (l : List Str) (d : Str) : Str → Option Bool := fun c => if c ∈ l then some (decide (c = d)) else none
theorem eqc_use {l : List Str} {d : Str} {mg : Str → Option Value} {R : Addr → Bool → Prop} (h : ∀ c, c ∈ l → ∀ C, mg c = some (.ref C) → R C (decide (c = d))) : ∀ n C b, eqc l d n = some b → mg n = some (.ref C) → R C b := by
  intro n C b e hm
  unfold eqc at e
  split at e
  · rename_i m
    cases e
    exact h n m C hm
  · cases e
/-- a type asked to be an own class -/
def noT (t : String) : Option Bool := if t ∈ tys7 then some false else none
theorem noT_by {K : PySem.W.Frag} {D : Addr} (c : PySem.W.isClsIn K D = true) (ty : PySem.W.typeIn K (.ref D) = some (.type "type")) (h : ∀ t ∈ tys7, PySem.W.subIn K (.type t) (.ref D) = some false) : ∀ t b, noT t = some b → PySem.W.kitOne K (.type t) (.ref D) = some b := by
  intro t b e
  unfold noT at e
  split at e
  · rename_i m
    cases e
    unfold PySem.W.kitOne PySem.W.kitCls
    have hc : (PySem.W.clsIn K D).isSome = true := c
    have hn : ¬ ((Value.type t == Value.ref D) = true) := by simp
    rw [if_neg hn]
    show (if ((PySem.W.clsIn K D).isSome && PySem.W.typeIn K (.ref D) == some (.type "type")) = true then PySem.W.subIn K (.type t) (.ref D) else none) = some false
    rw [hc, ty, if_pos (by decide +kernel)]
    exact h t m
  · cases e
def noRefs (o : Option (List Value)) : Bool := match o with
  | some l => l.all (fun v => match v with | .ref _ => false | _ => true)
  | none => false
theorem noRefs_map {D : Addr} {o : Option (List Value)} (h : noRefs o = true) : o.map (fun x => x.contains (.ref D)) = some false := by
  cases o with
  | none => cases h
  | some l =>
    show some (l.contains (.ref D)) = some false
    congr 1
    rw [Bool.eq_false_iff]
    intro z
    cases List.all_eq_true.mp h _ (List.contains_iff_mem.mp z)
theorem sub_ty_own {K : PySem.W.Frag} {D : Addr} {T : String} (h : noRefs (PySem.fastBuiltinMro T) = true) : PySem.W.subIn K (.type T) (.ref D) = some false := by
  show (PySem.fastBuiltinMro T).map (fun x => x.contains (.ref D)) = some false
  exact noRefs_map h
theorem sub7 {K : PySem.W.Frag} {D : Addr} : ∀ t ∈ tys7, PySem.W.subIn K (.type t) (.ref D) = some false := by
  intro t m
  unfold tys7 at m
  simp only [List.mem_cons, List.not_mem_nil, or_false] at m
  rcases m with rfl | rfl | rfl | rfl | rfl | rfl | rfl
  all_goals exact sub_ty_own (by decide +kernel)
theorem noT_ok {K : PySem.W.Frag} {D : Addr} (c : PySem.W.isClsIn K D = true) (ty : PySem.W.typeIn K (.ref D) = some (.type "type")) : ∀ t b, noT t = some b → PySem.W.kitOne K (.type t) (.ref D) = some b := noT_by c ty sub7
theorem kit_own {K : PySem.W.Frag} {C D : Addr} {b : Bool} (c : PySem.W.isClsIn K D = true) (ty : PySem.W.typeIn K (.ref D) = some (.type "type")) (h : PySem.W.subIn K (.ref C) (.ref D) = some b) (hb : C = D → b = true) : PySem.W.kitOne K (.ref C) (.ref D) = some b := by
  unfold PySem.W.kitOne PySem.W.kitCls
  by_cases e : C = D
  · subst e
    rw [if_pos (by simp), hb rfl]
  · have hn : ¬ ((Value.ref C == Value.ref D) = true) := by simpa using e
    have hc : (PySem.W.clsIn K D).isSome = true := c
    rw [if_neg hn]
    show (if ((PySem.W.clsIn K D).isSome && PySem.W.typeIn K (.ref D) == some (.type "type")) = true then PySem.W.subIn K (.ref C) (.ref D) else none) = some b
    rw [hc, ty, if_pos (by decide +kernel)]
    exact h
section
variable {X : Cx} {B : Base} {W : WX} {a : Expr} {fa : EF} {p p2 pos : Pos}
/-- isinstance(a, T), T a built-in type -/
theorem se_isT (T : String) {oi oe : Str → Option Bool} {x : Str} (hg : Gl X "isinstance") (hm : X.mg "isinstance" = none) (hg2 : Gl X x) (hm2 : X.mg x = none) (hv : bootBuiltins x = some (.type T)) (hA : ∀ t b, isT T t = some b → PySem.W.kitOne X.K (.type t) (.type T) = some b)
    (ha : SE X B W a fa) (hI : ∀ n C b, oi n = some b → X.mg n = some (.ref C) → InsC X.K C ∧ PySem.W.kitOne X.K (.ref C) (.type T) = some b)
    (hE : ∀ n C b, oe n = some b → X.mg n = some (.ref C) → ExcC X.K C ∧ PySem.W.kitOne X.K (.ref C) (.type T) = some b) (hn : x ≠ "__name__" := by decide) (hd : (x == ("__debug__" : Str)) = false := by decide)
    (he : starEach [a, .Name x p2] X.env = (false, eval a X.env) :: starEach [.Name x p2] X.env := by rfl) (he2 : starEach [.Name x p2] X.env = (false, eval (.Name x p2) X.env) :: starEach [] X.env := by rfl) (hpl : (backTo pos (starEach [.Name x p2] X.env)).any (·.1) = false := by rfl) :
    SE X B W (.Call (.Name "isinstance" p) [a, .Name x p2] [] pos) (mIsi (isT T) oi oe fa) :=
  se_isi hg hm ha (pe_bltn hg2 hm2 hv (v := .ty T) rfl hn hd) (.ty T) hA hI hE he he2 hpl
theorem noC_I {R : Addr → Bool → Prop} {mg : Str → Option Value} : ∀ n C b, noC n = some b → mg n = some (.ref C) → R C b := fun n C b h => by cases h
/-- isinstance(a, D), D an own class -/
theorem se_isD {oi oe : Str → Option Bool} {x : Str} {D : Addr} (hg : Gl X "isinstance") (hm : X.mg "isinstance" = none) (hg2 : Gl X x) (hm2 : X.mg x = some (.ref D)) (hA : ∀ t b, noT t = some b → PySem.W.kitOne X.K (.type t) (.ref D) = some b)
    (ha : SE X B W a fa) (hI : ∀ n C b, oi n = some b → X.mg n = some (.ref C) → InsC X.K C ∧ PySem.W.kitOne X.K (.ref C) (.ref D) = some b)
    (hE : ∀ n C b, oe n = some b → X.mg n = some (.ref C) → ExcC X.K C ∧ PySem.W.kitOne X.K (.ref C) (.ref D) = some b) (hd : (x == ("__debug__" : Str)) = false := by decide)
    (he : starEach [a, .Name x p2] X.env = (false, eval a X.env) :: starEach [.Name x p2] X.env := by rfl) (he2 : starEach [.Name x p2] X.env = (false, eval (.Name x p2) X.env) :: starEach [] X.env := by rfl) (hpl : (backTo pos (starEach [.Name x p2] X.env)).any (·.1) = false := by rfl) :
    SE X B W (.Call (.Name "isinstance" p) [a, .Name x p2] [] pos) (mIsi noT oi oe fa) :=
  se_isi hg hm ha (pe_glob hg2 hm2 (v := .ref D) rfl hd) (.own D) hA hI hE he he2 hpl
end
section
variable {X : Cx} {B : Base} {W : WX} {a b : Expr} {fa fb : EF} {pos : Pos} {k : Nat}
theorem st_lt (ha : SE X B W a fa) (hb : SE X B W b fb) : STe X B W (.Compare a [.Lt] [b] pos) (mTv (mOp gLt fa fb)) := st_cmp op_lt (ok_i0 fun _ _ _ _ _ _ => .bl _) ha hb (nomark _)
theorem st_le (ha : SE X B W a fa) (hb : SE X B W b fb) : STe X B W (.Compare a [.LtE] [b] pos) (mTv (mOp gLe fa fb)) := st_cmp op_le (ok_i0 fun _ _ _ _ _ _ => .bl _) ha hb (nomark _)
theorem st_gt (ha : SE X B W a fa) (hb : SE X B W b fb) : STe X B W (.Compare a [.Gt] [b] pos) (mTv (mOp gGt fa fb)) := st_cmp op_gt (ok_i0 fun _ _ _ _ _ _ => .bl _) ha hb (nomark _)
theorem st_ge (ha : SE X B W a fa) (hb : SE X B W b fb) : STe X B W (.Compare a [.GtE] [b] pos) (mTv (mOp gGe fa fb)) := st_cmp op_ge (ok_i0 fun _ _ _ _ _ _ => .bl _) ha hb (nomark _)
theorem st_eq (hr : RoomG k X.A) (ha : SE X B W a fa) (hb : SE X B W b fb) : STe X B W (.Compare a [.Eq] [b] pos) (mTv (mOp (gEqB false) fa fb)) := st_cmp (op_eqD hr.r.units) ok_eq ha hb (nomark _)
theorem st_ne (hr : RoomG k X.A) (ha : SE X B W a fa) (hb : SE X B W b fb) : STe X B W (.Compare a [.NotEq] [b] pos) (mTv (mOp (gEqB true) fa fb)) := st_cmp (op_neD hr.r.units) ok_ne ha hb (nomark _)
theorem st_isN (ha : SE X B W a fa) (hb : SE X B W b fb) : STe X B W (.Compare a [.Is] [b] pos) (mTv (mOp (gIsN false) fa fb)) := st_cmp op_isN ok_isN ha hb (nomark _)
theorem st_notN (ha : SE X B W a fa) (hb : SE X B W b fb) : STe X B W (.Compare a [.IsNot] [b] pos) (mTv (mOp (gIsN true) fa fb)) := st_cmp op_notN ok_notN ha hb (nomark _)
theorem st_in (hr : RoomG k X.A) (ha : SE X B W a fa) (hb : SE X B W b fb) (hm : behindInMarks .In b = false := by first | exact nomark _ | rfl) : STe X B W (.Compare a [.In] [b] pos) (mTv (mOp (gIn false) fa fb)) := st_cmp (op_inD (by have := hr.r.un; omega)) ok_in ha hb hm
theorem st_notIn (hr : RoomG k X.A) (ha : SE X B W a fa) (hb : SE X B W b fb) (hm : behindInMarks .NotIn b = false := by first | exact nomark _ | rfl) : STe X B W (.Compare a [.NotIn] [b] pos) (mTv (mOp (gIn true) fa fb)) := st_cmp (op_notInD (by have := hr.r.un; omega)) ok_notIn ha hb hm
end
theorem binds_def {K : PySem.W.Frag} {x qual : Str} {st : Stmt} {f : Addr} {fd : FuncData} {ps : List Str} (F : Fun K x qual st f fd)
    (h : ∀ (kV doc pm : Value) (an : Option Addr) (cdv ct : Value) (us : List Value), us.length = ps.length → bindArgs (PySem.W.fnOf x qual (defArgs st) (defBody st) (defScope st) .none kV doc pm an cdv ct) ⟨us, []⟩ = pure (ps.zip us)) : Binds K fd ps [] := F.binds h
end FW
namespace FW
open PySem L2 PySem.Spec PyProof.Rows
def inB (l : List Str) : Str → Bool := fun c => decide (c ∈ l)
theorem inB_mem {l : List Str} {c : Str} (h : inB l c = true) : c ∈ l := of_decide_eq_true h
def noB : Str → Bool := fun _ => false
theorem noB_I {R : Addr → Prop} {mg : Str → Option Value} : ∀ n C, noB n = true → mg n = some (.ref C) → R C := fun n C h => by cases h
end FW
namespace FW
open PySem L2 PySem.Spec PyProof.Rows
theorem exm_by {K : PySem.W.Frag} {C D : Addr} {b : Bool} (e : PySem.W.subIn K (.ref D) (.type "BaseException") = some true) (c : PySem.W.isClsIn K D = true) (ty : PySem.W.typeIn K (.ref D) = some (.type "type")) (h : PySem.W.subIn K (.ref C) (.ref D) = some b) : PySem.W.exmOne K (.ref C) (.ref D) = some b := by
  have hc : (PySem.W.clsIn K D).isSome = true := c
  show (if (PySem.W.subIn K (.ref D) (.type "BaseException") == some true) = true then (if ((PySem.W.clsIn K D).isSome && PySem.W.typeIn K (.ref D) == some (.type "type")) = true then PySem.W.subIn K (.ref C) (.ref D) else none) else none) = some b
  rw [e, if_pos (by decide +kernel), hc, ty, if_pos (by decide +kernel)]
  exact h
end FW

namespace FW
open PySem L2 PySem.Spec PyProof.Rows

@[simp] theorem vw_non (st : Sto) : vw st .non = .non := rfl
@[simp] theorem vw_bl (st : Sto) (b) : vw st (.bl b) = .bl b := rfl
@[simp] theorem vw_int (st : Sto) (i) : vw st (.int i) = .int i := rfl
@[simp] theorem vw_str (st : Sto) (x) : vw st (.str x) = .str x := rfl
@[simp] theorem vw_tup (st : Sto) (x) : vw st (.tup x) = .tup x := rfl
@[simp] theorem vw_lst (st : Sto) (x) : vw st (.lst x) = .lst x := rfl
@[simp] theorem vw_dct (st : Sto) (x) : vw st (.dct x) = .dct x := rfl
@[simp] theorem vw_ins (st : Sto) (c x) : vw st (.ins c x) = .ins c x := rfl
@[simp] theorem vw_exc (st : Sto) (c x) : vw st (.exc c x) = .exc c x := rfl
@[simp] theorem vw_scr (st : Sto) (x) : vw st (.scr x) = .scr x := rfl
theorem vw_ref (st : Sto) (n : Nat) {m : MV} (h : st[n]? = some m) : vw st (.ref n) = m := by show (st[n]?).getD _ = m; rw [h]; rfl
section
variable (lo : Lo) (st : Sto)
@[simp] theorem d_mVar (i : Nat) : mVar i lo st = (match lo[i]? with
  | some (some (m, false)) => .ok (m, .fz, st)
  | some (some (m, true)) => .ok (m, .pk i, st)
  | _ => .bad) := (Eq.refl _).trans rfl
@[simp] theorem d_mC (m : MV) : mC m lo st = .ok (m, .fz, st) := (Eq.refl _).trans rfl
@[simp] theorem d_mOp (g : G2) (fa fb : EF) : mOp g fa fb lo st = (fa lo st >>= fun (a, _, st1) => fb lo st1 >>= fun (b, _, st2) => giveOut (g st2 (vw st2 a) (vw st2 b)) st2) := by
  unfold mOp giveOut
  cases fa lo st with
  | ok r =>
    obtain ⟨a, ka, st1⟩ := r
    simp only [Res.ok_bind]
    all_goals (cases fb lo st1 with
      | ok r =>
        obtain ⟨b, kb, st2⟩ := r
        simp only [Res.ok_bind]
        all_goals (rcases g st2 (vw st2 a) (vw st2 b) with _ | ⟨m, _ | _⟩ <;> rfl)
      | exc => rfl
      | bad => rfl)
  | exc => rfl
  | bad => rfl
@[simp] theorem d_give0 (m : MV) : giveOut (some (m, false)) st = .ok (m, .fz, st) := (Eq.refl _).trans rfl
@[simp] theorem d_give1 (m : MV) : giveOut (some (m, true)) st = .ok (m, .fr, st) := (Eq.refl _).trans rfl
@[simp] theorem d_giveN : giveOut none st = .bad := (Eq.refl _).trans rfl
@[simp] theorem d_mUn (g : MV → Option MV) (fa : EF) : mUn g fa lo st = (fa lo st >>= fun (a, _, st1) => match g a with
  | some m => .ok (m, .fz, st1)
  | none => .bad) := (Eq.refl _).trans rfl
@[simp] theorem d_mTv (fa : EF) : mTv fa lo st = (fa lo st >>= fun (a, _, st1) => match a with
  | .bl b => .ok (b, st1)
  | _ => .bad) := (Eq.refl _).trans rfl
@[simp] theorem d_mAnd (fa fb : TF) : mAnd fa fb lo st = (fa lo st >>= fun (a, st1) => if a = true then fb lo st1 else .ok (false, st1)) := (Eq.refl _).trans rfl
@[simp] theorem d_mOr (fa fb : TF) : mOr fa fb lo st = (fa lo st >>= fun (a, st1) => if a = true then .ok (true, st1) else fb lo st1) := (Eq.refl _).trans rfl
@[simp] theorem d_mNotT (fa : TF) : mNotT fa lo st = (fa lo st >>= fun (a, st1) => .ok (!a, st1)) := (Eq.refl _).trans rfl
@[simp] theorem d_mAndV (fa fb : EF) : mAndV fa fb lo st = (fa lo st >>= fun (a, _, st1) => match a with
  | .bl true => fb lo st1
  | .bl false => .ok (.bl false, .fz, st1)
  | _ => .bad) := by
  unfold mAndV
  cases fa lo st with
  | ok r => obtain ⟨a, ka, st1⟩ := r; cases a with
    | bl b => cases b <;> rfl
    | _ => rfl
  | exc => rfl
  | bad => rfl
@[simp] theorem d_mOrV (fa fb : EF) : mOrV fa fb lo st = (fa lo st >>= fun (a, _, st1) => match a with
  | .bl true => .ok (.bl true, .fz, st1)
  | .bl false => fb lo st1
  | _ => .bad) := by
  unfold mOrV
  cases fa lo st with
  | ok r => obtain ⟨a, ka, st1⟩ := r; cases a with
    | bl b => cases b <;> rfl
    | _ => rfl
  | exc => rfl
  | bad => rfl
@[simp] theorem d_mIfE (c : TF) (fa fb : EF) : mIfE c fa fb lo st = (c lo st >>= fun (b, st1) => if b = true then fa lo st1 else fb lo st1) := (Eq.refl _).trans rfl
@[simp] theorem d_mNil : mNil lo st = .ok ([], st) := (Eq.refl _).trans rfl
@[simp] theorem d_mCons (f : EF) (g : AF) : mCons f g lo st = (f lo st >>= fun (m, k, st1) => g lo st1 >>= fun (l, st2) => .ok ((m, isPk k) :: l, st2)) := (Eq.refl _).trans rfl
@[simp] theorem d_isPk1 : isPk .fz = false := (Eq.refl _).trans rfl
@[simp] theorem d_isPk2 : isPk .fr = false := (Eq.refl _).trans rfl
@[simp] theorem d_isPk3 (i) : isPk (.pk i) = true := (Eq.refl _).trans rfl
@[simp] theorem d_isFr1 : isFr .fz = false := (Eq.refl _).trans rfl
@[simp] theorem d_isFr2 : isFr .fr = true := (Eq.refl _).trans rfl
@[simp] theorem d_isFr3 (i) : isFr (.pk i) = true := (Eq.refl _).trans rfl
@[simp] theorem d_allFz0 : allFz [] = some [] := (Eq.refl _).trans rfl
@[simp] theorem d_allFz1 (m : MV) (l) : allFz ((m, false) :: l) = (allFz l).map (m :: ·) := by
  unfold allFz
  simp only [List.all_cons, Bool.not_false, Bool.true_and, List.map_cons]
  split <;> rfl
@[simp] theorem d_allFz2 (m : MV) (l) : allFz ((m, true) :: l) = none := (Eq.refl _).trans rfl
@[simp] theorem d_mLst (g : AF) : mLst g lo st = (g lo st >>= fun (l, st1) => match allFz l with
  | some ms => if ms.length ≤ sizeLine then .ok (.lst ms, .fr, st1) else .bad
  | none => .bad) := (Eq.refl _).trans rfl
@[simp] theorem d_mTup (g : AF) : mTup g lo st = (g lo st >>= fun (l, st1) => match allFz l with
  | some ms => if ms.length ≤ sizeLine then .ok (.tup ms, .fr, st1) else .bad
  | none => .bad) := (Eq.refl _).trans rfl
@[simp] theorem d_mDct0 : mDct0 lo st = .ok (.dct [], .fr, st) := (Eq.refl _).trans rfl
@[simp] theorem d_mCallB (gl : GL) (g : AF) : mCallB gl g lo st = (g lo st >>= fun (l, st1) => giveOut (gl st1 (l.map fun z => vw st1 z.1)) st1) := (Eq.refl _).trans rfl
@[simp] theorem d_mCall (n : Nat) (F : FF) (dms : List MV) (g : AF) : mCall n F dms g lo st = (g lo st >>= fun (l, st1) => callF n F dms l lo st1) := (Eq.refl _).trans rfl
@[simp] theorem d_callF (n : Nat) (F : FF) (dms : List MV) (l) : callF n F dms l lo st = (match allFz l with
  | some ms => if (ms ++ dms).length = n then callR F (ms ++ dms) lo st else .bad
  | none => .bad) := (Eq.refl _).trans rfl
theorem callR_ok {F : FF} {ms : List MV} {m : MV} {b : Bool} {st' : Sto} (h : F ms st = .ok (m, b, st')) : callR F ms lo st = .ok (m, if b then .fr else .fz, st') := by unfold callR; rw [h]
theorem callR_exc {F : FF} {ms : List MV} {c fs lo' st'} (h : F ms st = .exc c fs lo' st') : callR F ms lo st = .exc c fs lo st' := by unfold callR; rw [h]
@[simp] theorem d_mIsi (ans oi oe) (fa : EF) : mIsi ans oi oe fa lo st = (fa lo st >>= fun (a, _, st1) => match tyAns ans oi oe (vw st1 a) with
  | some b => .ok (.bl b, .fz, st1)
  | none => .bad) := (Eq.refl _).trans rfl
@[simp] theorem d_mFld (f oi oe) (fa : EF) : mFld f oi oe fa lo st = (fa lo st >>= fun (a, _, st1) => match gFld f oi oe (vw st1 a) with
  | some m => .ok (m, .fz, st1)
  | none => .bad) := (Eq.refl _).trans rfl
@[simp] theorem d_mBm (T) (gl : GL) (fo : EF) (g : AF) : mBm T gl fo g lo st = (fo lo st >>= fun (t, _, st1) => if tyOk T (vw st1 t) = true then g lo st1 >>= fun (l, st2) => giveOut (gl st2 (vw st2 t :: l.map fun z => vw st2 z.1)) st2 else .bad) := (Eq.refl _).trans rfl
@[simp] theorem d_mBm0 (T) (gl : GL) (fo : EF) : mBm0 T gl fo lo st = (fo lo st >>= fun (t, _, st1) => if tyOk T (vw st1 t) = true then giveOut (gl st1 [vw st1 t]) st1 else .bad) := (Eq.refl _).trans rfl
@[simp] theorem d_mBits (fa : EF) : mBits fa lo st = (fa lo st >>= fun (a, _, st1) => match a with
  | .int i => .ok (.int (Builtin.Int.intBits i : Nat), .fz, st1)
  | _ => .bad) := (Eq.refl _).trans rfl
@[simp] theorem d_mRg (fa fb : EF) : mRg fa fb lo st = (fa lo st >>= fun (a, _, st1) => fb lo st1 >>= fun (b, _, st2) => match a, b with
  | .int i, .int j => if RgOk i j then .ok (.lst ((List.range (j - i).toNat).map fun k => .int (i + (k : Nat))), .fr, st2) else .bad
  | _, _ => .bad) := (Eq.refl _).trans rfl
@[simp] theorem d_mSto (f : EF) : mSto f lo st = (f lo st >>= fun (m, k, st1) => match k with
  | .fr => .ok (.ref st1.length, .fz, st1 ++ [m])
  | _ => .bad) := (Eq.refl _).trans rfl
@[simp] theorem d_frz0 (m : MV) : frzd (m, .fz, st) = .ok (m, st) := (Eq.refl _).trans rfl
@[simp] theorem d_frz1 (m : MV) : frzd (m, .fr, st) = .ok (m, st) := (Eq.refl _).trans rfl
@[simp] theorem d_frz2 (m : MV) (i) : frzd (m, .pk i, st) = .bad := (Eq.refl _).trans rfl
@[simp] theorem d_sNil : sNil lo st = .ok (.nx, lo, st) := (Eq.refl _).trans rfl
@[simp] theorem d_sSeq (g g' : SF) : sSeq g g' lo st = (g lo st >>= fun (fl, lo1, st1) => match fl with
  | .nx => g' lo1 st1
  | fl => .ok (fl, lo1, st1)) := (Eq.refl _).trans rfl
@[simp] theorem d_sSet (i : Nat) (f : EF) : sSet i f lo st = (f lo st >>= fun r => frzd r >>= fun (m, st1) => .ok (.nx, lo.set i (some (m, false)), st1)) := (Eq.refl _).trans rfl
@[simp] theorem d_own1 (x) : ownOk (.lst x) = true := rfl
@[simp] theorem d_own2 (x) : ownOk (.dct x) = true := rfl
@[simp] theorem d_own3 (x) : ownOk (.tup x) = true := rfl
@[simp] theorem d_sOwn (i : Nat) (f : EF) : sOwn i f lo st = (f lo st >>= fun (m, k, st1) => match k with
  | .fr => if ownOk m = true then .ok (.nx, lo.set i (some (m, true)), st1) else .bad
  | _ => .bad) := (Eq.refl _).trans rfl
@[simp] theorem d_sExpr (f : EF) : sExpr f lo st = (f lo st >>= fun (_, _, st1) => .ok (.nx, lo, st1)) := (Eq.refl _).trans rfl
@[simp] theorem d_sRet (f : EF) : sRet f lo st = (f lo st >>= fun (m, k, st1) => .ok (.rt m k, lo, st1)) := (Eq.refl _).trans rfl
@[simp] theorem d_sRetN : sRetN lo st = .ok (.rt .non .fz, lo, st) := (Eq.refl _).trans rfl
@[simp] theorem d_sIf (c : TF) (g g' : SF) : sIf c g g' lo st = (c lo st >>= fun (b, st1) => if b = true then g lo st1 else g' lo st1) := (Eq.refl _).trans rfl
@[simp] theorem d_sAsg (f : EF) (g : GF) : sAsg f g lo st = (f lo st >>= fun r => frzd r >>= fun (m, st1) => g m lo st1 >>= fun (lo2, st2) => .ok (.nx, lo2, st2)) := (Eq.refl _).trans rfl
@[simp] theorem d_gN (i : Nat) (m : MV) : gN i m lo st = .ok (lo.set i (some (m, false)), st) := (Eq.refl _).trans rfl
@[simp] theorem d_gsNil : gsNil [] lo st = .ok (lo, st) := (Eq.refl _).trans rfl
@[simp] theorem d_gsCons (g : GF) (gs : GFs) (m : MV) (ms) : gsCons g gs (m :: ms) lo st = (g m lo st >>= fun (lo1, st1) => gs ms lo1 st1) := (Eq.refl _).trans rfl
@[simp] theorem d_gT (n : Nat) (gs : GFs) (m : MV) : gT n gs m lo st = (match vw st m with
  | .tup ms => if ms.length = n then gs ms lo st else .bad
  | .lst ms => if ms.length = n then gs ms lo st else .bad
  | _ => .bad) := (Eq.refl _).trans rfl
@[simp] theorem d_sPutIx (fe fo fi : EF) : sPutIx fe fo fi lo st = (fe lo st >>= fun r => frzd r >>= fun (m, st1) => fo lo st1 >>= fun (t, k, st2) => fi lo st2 >>= fun (j, _, st3) =>
  match targetOf t k lo st3, j with
  | some (.lst xs), .int j => (match ixN xs.length j with
    | some n => .ok (.nx, (putBack t k (.lst (xs.set n m)) lo st3).1, (putBack t k (.lst (xs.set n m)) lo st3).2)
    | none => .bad)
  | _, _ => .bad) := (Eq.refl _).trans rfl
@[simp] theorem d_sApp (fo fe : EF) : sApp fo fe lo st = (fo lo st >>= fun (t, k, st1) => if isLst (targetOf t k lo st1) = true then fe lo st1 >>= fun r => frzd r >>= fun (m, st2) => (match targetOf t k lo st2 with
  | some (.lst xs) => if xs.length < sizeLine then .ok (.nx, (putBack t k (.lst (xs ++ [m])) lo st2).1, (putBack t k (.lst (xs ++ [m])) lo st2).2) else .bad
  | _ => .bad) else .bad) := (Eq.refl _).trans rfl
@[simp] theorem d_tgt1 (m : MV) (i) : targetOf m (.pk i) lo st = ownAt lo[i]? := (Eq.refl _).trans rfl
@[simp] theorem d_tgt2 (m : MV) : targetOf m .fz lo st = refAt st m := (Eq.refl _).trans rfl
@[simp] theorem d_refAt (n : Nat) : refAt st (.ref n) = st[n]? := (Eq.refl _).trans rfl
@[simp] theorem d_put1 (m c : MV) (i) : putBack m (.pk i) c lo st = (lo.set i (some (c, true)), st) := (Eq.refl _).trans rfl
@[simp] theorem d_put2 (n : Nat) (c : MV) : putBack (.ref n) .fz c lo st = (lo, st.set n c) := (Eq.refl _).trans rfl
@[simp] theorem d_sRaise (c fv dms) (g : AF) : sRaise c fv dms g lo st = (g lo st >>= fun (l, st1) => match allFz l with
  | some ms => (match ms ++ dms with
    | [m] => .exc c [(fv, m)] lo st1
    | _ => .bad)
  | none => .bad) := (Eq.refl _).trans rfl
theorem d_runF (n : Nat) (g : SF) (ms : List MV) : runF n g ms st = (match g (startM n ms) st with
  | .ok (.nx, _, st') => .ok (.non, false, st')
  | .ok (.rt m k, _, st') => .ok (m, isFr k, st')
  | .ok _ => .bad
  | .exc c fs lo st' => .exc c fs lo st'
  | .bad => .bad) := (Eq.refl _).trans rfl
end
section
variable (st : Sto) (i j : Int)
@[simp] theorem d_gAdd : gAdd st (.int i) (.int j) = some (.int (i + j), false) := (Eq.refl _).trans rfl
theorem d_gAddL (xs ys) : gAdd st (.lst xs) (.lst ys) = if xs.length + ys.length ≤ sizeLine then some (.lst (xs ++ ys), true) else none := (Eq.refl _).trans rfl
@[simp] theorem d_gSub : gSub st (.int i) (.int j) = some (.int (i - j), false) := (Eq.refl _).trans rfl
theorem d_gMul (h : CMulW i j) : gMul st (.int i) (.int j) = some (.int (i * j), false) := by simp [gMul, gII, h]
theorem d_gDiv (h : CDivW i j) : gDiv st (.int i) (.int j) = some (.int (i / j), false) := by simp [gDiv, gII, h]
theorem d_gMod (h : 0 < j) : gMod st (.int i) (.int j) = some (.int (i % j), false) := by simp [gMod, gII, h]
theorem d_gPow (h : CPowW i j) : gPow st (.int i) (.int j) = some (.int (i ^ j.toNat), false) := by simp [gPow, gII, h]
@[simp] theorem d_gLt : gLt st (.int i) (.int j) = some (.bl (decide (i < j)), false) := (Eq.refl _).trans rfl
@[simp] theorem d_gLe : gLe st (.int i) (.int j) = some (.bl (decide (i ≤ j)), false) := (Eq.refl _).trans rfl
@[simp] theorem d_gGt : gGt st (.int i) (.int j) = some (.bl (decide (j < i)), false) := (Eq.refl _).trans rfl
@[simp] theorem d_gGe : gGe st (.int i) (.int j) = some (.bl (decide (j ≤ i)), false) := (Eq.refl _).trans rfl
@[simp] theorem d_gIsN0 (a : MV) : gIsN false st a .non = some (.bl (isNon a), false) := (Eq.refl _).trans rfl
@[simp] theorem d_gIsN1 (a : MV) : gIsN true st a .non = some (.bl (!isNon a), false) := (Eq.refl _).trans rfl
@[simp] theorem d_gNeg : gNeg (.int i) = some (.int (-i)) := (Eq.refl _).trans rfl
@[simp] theorem d_gNot (b) : gNot (.bl b) = some (.bl (!b)) := (Eq.refl _).trans rfl
@[simp] theorem d_gMax2 : gMax2 st [.int i, .int j] = some (.int (if j > i then j else i), false) := (Eq.refl _).trans rfl
@[simp] theorem d_gMin2 : gMin2 st [.int i, .int j] = some (.int (if j < i then j else i), false) := (Eq.refl _).trans rfl
@[simp] theorem d_gInt1 : gInt1 st [.int i] = some (.int i, false) := (Eq.refl _).trans rfl
@[simp] theorem d_gLenL (xs) : gLen st [.lst xs] = some (.int xs.length, false) := (Eq.refl _).trans rfl
@[simp] theorem d_gLenT (xs) : gLen st [.tup xs] = some (.int xs.length, false) := (Eq.refl _).trans rfl
@[simp] theorem d_gLenR (xs) : gLen st [.scr xs] = some (.int xs.length, false) := (Eq.refl _).trans rfl
@[simp] theorem d_gListL (xs) : gListOf st [.lst xs] = some (.lst xs, true) := (Eq.refl _).trans rfl
@[simp] theorem d_gListT (xs) : gListOf st [.tup xs] = some (.lst xs, true) := (Eq.refl _).trans rfl
@[simp] theorem d_gTupL (xs) : gTupOf st [.lst xs] = some (.tup xs, true) := (Eq.refl _).trans rfl
@[simp] theorem d_gIxL (xs) : gIx st (.lst xs) (.int i) = (atI xs i).map (·, false) := (Eq.refl _).trans rfl
@[simp] theorem d_gIxT (xs) : gIx st (.tup xs) (.int i) = (atI xs i).map (·, false) := (Eq.refl _).trans rfl
@[simp] theorem d_gIxR (xs) : gIx st (.scr xs) (.int i) = (atI xs i).map fun n => (.int n, false) := (Eq.refl _).trans rfl
end
section
open Classical
variable {ck : CK} {gf : GF} {body : SF} {lo0 : Lo} {tt : TF} {fe : EF}
theorem forL_run {Inv : Nat → Lo → Sto → Prop} {items : List MV} (hck : ∀ k lo st, Inv k lo st → ck lo st)
    (hb : ∀ k x lo st, items[k]? = some x → Inv k lo st → ∃ lo1 st1 lo2 st2, gf x lo st = .ok (lo1, st1) ∧ body lo1 st1 = .ok (.nx, lo2, st2) ∧ Inv (k + 1) lo2 st2) :
    ∀ lo st, Inv 0 lo st → ∃ lo' st', forL ck gf body items lo st = .ok (.nx, lo', st') ∧ Inv items.length lo' st' := by
  have go : ∀ (rest : List MV) (k : Nat), rest = items.drop k → k ≤ items.length → ∀ lo st, Inv k lo st → ∃ lo' st', forL ck gf body rest lo st = .ok (.nx, lo', st') ∧ Inv items.length lo' st' := by
    intro rest
    induction rest with
    | nil =>
      intro k hk hle lo st hi
      have e : k = items.length := by
        have := congrArg List.length hk
        rw [List.length_drop, List.length_nil] at this
        omega
      subst e
      exact ⟨lo, st, by unfold forL; rw [if_pos (hck _ _ _ hi)], hi⟩
    | cons x rest ih =>
      intro k hk hle lo st hi
      have hx : items[k]? = some x := by
        have := congrArg (·[0]?) hk
        simpa using this.symm
      have hlt : k < items.length := (List.getElem?_eq_some_iff.mp hx).1
      obtain ⟨lo1, st1, lo2, st2, e1, e2, hi2⟩ := hb k x lo st hx hi
      have hr : rest = items.drop (k + 1) := by
        have := congrArg List.tail hk
        simpa using this
      obtain ⟨lo', st', e3, hi3⟩ := ih (k + 1) hr (by omega) lo2 st2 hi2
      refine ⟨lo', st', ?_, hi3⟩
      unfold forL
      rw [if_pos (hck _ _ _ hi), e1]
      simp only [Res.ok_bind]
      rw [e2]
      simp only [Res.ok_bind]
      exact e3
  intro lo st h
  exact go items 0 (by simp) (Nat.zero_le _) lo st h
theorem forL_cons (x : MV) (xs : List MV) (lo : Lo) (st : Sto) : forL ck gf body (x :: xs) lo st = if ck lo st then gf x lo st >>= fun (lo1, st1) => body lo1 st1 >>= fun (fl, lo2, st2) => (match fl with
      | .nx => forL ck gf body xs lo2 st2
      | .ct => forL ck gf body xs lo2 st2
      | .bk => .ok (.nx, lo2, st2)
      | .rt m k => .ok (.rt m k, lo2, st2)) else .bad := by
  rw [forL] <;> rfl
theorem forL_nil (lo : Lo) (st : Sto) : forL ck gf body [] lo st = if ck lo st then .ok (.nx, lo, st) else .bad := by rw [forL]
theorem forL_app {pre rest : List MV} {lo lo1 : Lo} {st st1 : Sto} (h : forL ck gf body pre lo st = .ok (.nx, lo1, st1)) (nb : ∀ a b lo2 st2, body a b ≠ .ok (.bk, lo2, st2)) : forL ck gf body (pre ++ rest) lo st = forL ck gf body rest lo1 st1 := by
  induction pre generalizing lo st with
  | nil =>
    rw [forL_nil] at h
    split at h
    · cases h; rfl
    · cases h
  | cons x pre ih =>
    rw [List.cons_append, forL_cons]
    rw [forL_cons] at h
    split at h
    case isFalse => cases h
    rename_i hc
    rw [if_pos hc]
    cases e1 : gf x lo st with
    | bad => rw [e1] at h; cases h
    | exc => rw [e1] at h; cases h
    | ok r =>
      obtain ⟨a, b⟩ := r
      rw [e1] at h
      simp only [Res.ok_bind] at h ⊢
      cases e2 : body a b with
      | bad => rw [e2] at h; cases h
      | exc => rw [e2] at h; cases h
      | ok r =>
        obtain ⟨fl, lo2, st2⟩ := r
        rw [e2] at h
        simp only [Res.ok_bind] at h ⊢
        cases fl with
        | nx => exact ih h
        | ct => exact ih h
        | bk => exact absurd e2 (nb a b lo2 st2)
        | rt m k => cases h
/-- a comprehension whose elements are reckoned one by one -/
theorem lcL_run {Inv : Nat → List MV → Sto → Prop} {items : List MV} (hck : ∀ k acc st, Inv k acc st → ck lo0 st) (hz : items.length ≤ sizeLine) (hl : ∀ k acc st, Inv k acc st → acc.length ≤ k)
    (hb : ∀ k x acc st, items[k]? = some x → Inv k acc st → ∃ lo1 st1 b st2, gf x lo0 st = .ok (lo1, st1) ∧ tt lo1 st1 = .ok (b, st2) ∧
      ((b = false ∧ Inv (k + 1) acc st2) ∨ (b = true ∧ ∃ y kd st3, fe lo1 st2 = .ok (y, kd, st3) ∧ isPk kd = false ∧ Inv (k + 1) (acc ++ [y]) st3))) :
    ∀ acc st, Inv 0 acc st → ∃ acc' st', lcL ck gf tt fe lo0 items acc st = .ok (acc', st') ∧ Inv items.length acc' st' := by
  have go : ∀ (rest : List MV) (k : Nat), rest = items.drop k → k ≤ items.length → ∀ acc st, Inv k acc st → ∃ acc' st', lcL ck gf tt fe lo0 rest acc st = .ok (acc', st') ∧ Inv items.length acc' st' := by
    intro rest
    induction rest with
    | nil =>
      intro k hk hle acc st hi
      have e : k = items.length := by
        have := congrArg List.length hk
        rw [List.length_drop, List.length_nil] at this
        omega
      subst e
      exact ⟨acc, st, by unfold lcL; rw [if_pos (hck _ _ _ hi)], hi⟩
    | cons x rest ih =>
      intro k hk hle acc st hi
      have hx : items[k]? = some x := by
        have := congrArg (·[0]?) hk
        simpa using this.symm
      have hlt : k < items.length := (List.getElem?_eq_some_iff.mp hx).1
      obtain ⟨lo1, st1, b, st2, e1, e2, alt⟩ := hb k x acc st hx hi
      have hr : rest = items.drop (k + 1) := by
        have := congrArg List.tail hk
        simpa using this
      unfold lcL
      rw [if_pos (hck _ _ _ hi), e1]
      simp only [noExc, Res.ok_bind]
      rw [e2]
      simp only [noExc, Res.ok_bind]
      rcases alt with ⟨rfl, hi2⟩ | ⟨rfl, y, kd, st3, e3, hp, hi2⟩
      · rw [if_neg Bool.false_ne_true]
        exact ih (k + 1) hr (by omega) acc st2 hi2
      · rw [if_pos rfl, e3]
        simp only [noExc, Res.ok_bind]
        have ef : frzd (y, kd, st3) = .ok (y, st3) := by cases kd <;> first | rfl | cases hp
        rw [ef]
        simp only [Res.ok_bind]
        rw [if_pos (by have := hl k acc st hi; omega)]
        exact ih (k + 1) hr (by omega) _ st3 hi2
  intro acc st h
  exact go items 0 (by simp) (Nat.zero_le _) acc st h
end
theorem rgM_get {i j : Int} {k : Nat} {x : MV} (h : (rgM i j)[k]? = some x) : x = .int (i + (k : Nat)) ∧ k < (j - i).toNat := by
  unfold rgM at h
  rw [List.getElem?_map] at h
  obtain ⟨a, h1, rfl⟩ := Option.map_eq_some_iff.mp h
  have := List.getElem?_eq_some_iff.mp h1
  obtain ⟨h2, h3⟩ := this
  simp at h2 h3
  subst h3
  exact ⟨rfl, by omega⟩
theorem rgM_len {i j : Int} : (rgM i j).length = (j - i).toNat := by unfold rgM; simp
end FW
namespace FW
open PySem L2 PySem.Spec PyProof.Rows
theorem seq_ok {g g' : SF} {lo lo1 : Lo} {st st1 : Sto} {r} (h : g lo st = .ok (.nx, lo1, st1)) (h' : g' lo1 st1 = r) : sSeq g g' lo st = r := by unfold sSeq; rw [h]; exact h'
theorem seq_rt {g g' : SF} {lo lo1 : Lo} {st st1 : Sto} {m k} (h : g lo st = .ok (.rt m k, lo1, st1)) : sSeq g g' lo st = .ok (.rt m k, lo1, st1) := by unfold sSeq; rw [h]; rfl
theorem seq_exc {g g' : SF} {lo lo1 : Lo} {st st1 : Sto} {c fs} (h : g lo st = .exc c fs lo1 st1) : sSeq g g' lo st = .exc c fs lo1 st1 := by unfold sSeq; rw [h]; rfl
theorem for_ok {fi : IFn} {gf : GF} {body : SF} {lo : Lo} {st st1 : Sto} {items ck r} (h : fi lo st = .ok (items, ck, st1)) (h' : forL ck gf body items lo st1 = r) : sFor fi gf body lo st = r := by unfold sFor; rw [h]; exact h'
theorem runF_rt {n : Nat} {g : SF} {ms : List MV} {lo0 lo : Lo} {st st' : Sto} {m k} (h0 : startM n ms = lo0) (h : g lo0 st = .ok (.rt m k, lo, st')) : runF n g ms st = .ok (m, isFr k, st') := by subst h0; unfold runF; rw [h]
theorem runF_nx {n : Nat} {g : SF} {ms : List MV} {lo0 lo : Lo} {st st' : Sto} (h0 : startM n ms = lo0) (h : g lo0 st = .ok (.nx, lo, st')) : runF n g ms st = .ok (.non, false, st') := by subst h0; unfold runF; rw [h]
theorem runF_exc {n : Nat} {g : SF} {ms : List MV} {lo0 lo : Lo} {st st' : Sto} {c fs} (h0 : startM n ms = lo0) (h : g lo0 st = .exc c fs lo st') : runF n g ms st = .exc c fs lo st' := by subst h0; unfold runF; rw [h]
end FW
namespace FW
open PySem L2 PySem.Spec PyProof.Rows
theorem iRg1_ok {f : EF} {lo : Lo} {st st1 : Sto} {j : Int} {k} (h : f lo st = .ok (.int j, k, st1)) (hr : Rg62 0 j) : iRg1 f lo st = .ok (rgM 0 j, fun _ _ => True, st1) := by unfold iRg1; rw [h]; exact if_pos hr
theorem iRg2_ok {f g : EF} {lo : Lo} {st st1 st2 : Sto} {i j : Int} {k k2} (h : f lo st = .ok (.int i, k, st1)) (h2 : g lo st1 = .ok (.int j, k2, st2)) (hr : Rg62 i j) : iRg2 f g lo st = .ok (rgM i j, fun _ _ => True, st2) := by
  unfold iRg2; rw [h]; simp only [Res.ok_bind]; rw [h2]; exact if_pos hr
theorem iSeq_lst {f : EF} {lo : Lo} {st st1 : Sto} {xs : List MV} {k} (h : f lo st = .ok (.lst xs, k, st1)) (hk : isPk k = false) : iSeq f lo st = .ok (xs, fun _ _ => True, st1) := by
  unfold iSeq; rw [h]; cases k <;> first | rfl | cases hk
end FW

namespace FW
open PySem L2 PySem.Spec PyProof.Rows

def del (H : Hp) (a : Addr) : Hp := fun b => if b = a then none else H b
def startI (c : Str) (n : Nat) (ms : List MV) : Lo := some (.ins c [], true) :: startM (n - 1) ms
def selfOf (lo : Lo) : Option MV := match lo[0]? with
  | some (some (MV.ins c fs, true)) => some (.ins c fs)
  | _ => none
/-- an own class's __init__ by its body: n names, the first the instance -/
def runI (c : Str) (n : Nat) (g : SF) : FF := fun ms st => match g (startI c n ms) st with
  | .ok (.nx, lo, st') => (match selfOf lo with
    | some m => .ok (m, true, st')
    | none => .bad)
  | .ok _ => .bad
  | .exc c fs lo st' => .exc c fs lo st'
  | .bad => .bad
def PostI (mg : Wd) (S : Addr → Prop) (ι : List Addr) (H0 : Hp) (a : Addr) (Q : VK) (E : XK) : Res (MV × Bool × Sto) → Prop
  | .ok (m, b, st') => b = true → ∀ S' ι' H', Ext S ι H0 S' ι' H' → Rep mg S' ι' H' st' → ¬ S' a → a ∉ ι' → Sh mg S' ι' H' a m → Q .non H'
  | .exc c fs _ st' => ∀ S' ι' H' cls d, Ext S ι H0 S' ι' H' → Rep mg S' ι' H' st' → XR mg S' ι' H' c fs cls d → E cls d H'
  | .bad => False
def spI (mg : Wd) (c : Str) (n : Nat) (F : FF) : Sp := fun vs H Q E => vs.length = n ∧ ∃ a C dx vs' S ι st ms, vs = .ref a :: vs' ∧ H a = some (.ins C dx []) ∧ mg.mg c = some (.ref C) ∧ ¬ S a ∧ a ∉ ι ∧ Rep mg S ι H st ∧ AllD mg S ι H vs' ms ∧
  PostI mg S ι (del H a) a Q E (F ms st)
section
variable {mgw : Wd} {S : Addr → Prop} {ι : List Addr} {H : Hp} {st : Sto} {vs : List V} {ms : List MV}
theorem startM_get {n : Nat} {i : Nat} {z : MV × Bool} (h : (startM n ms)[i]? = some (some z)) : ∃ m, ms[i]? = some m ∧ z = (m, false) := by
  unfold startM at h
  by_cases hi : i < ms.length
  · rw [List.getElem?_append_left (by simpa using hi), List.getElem?_map] at h
    obtain ⟨x, hx, e⟩ := Option.map_eq_some_iff.mp h
    exact ⟨x, hx, by cases e; rfl⟩
  · rw [List.getElem?_append_right (by simpa using hi), List.getElem?_replicate] at h
    split at h <;> cases h
theorem fm_startI {N : List Str} {a C dx : Addr} {c : Str} (r : Rep mgw S ι H st) (d : AllD mgw S ι H vs ms) (hl : ms.length + 1 ≤ N.length) (ha : H a = some (.ins C dx [])) (hc : mgw.mg c = some (.ref C)) (hs : ¬ S a) (hi : a ∉ ι) :
    Fm mgw { S := S, ι := ι, H := del H a, P := some a } S ι H (startI c N.length ms) (start N (.ref a :: vs)) st := by
  have hv := d.1
  have own : ∀ {i : Nat} {m : MV}, (startI c N.length ms)[i]? = some (some (m, true)) → i = 0 ∧ m = .ins c [] := fun {i m} h => by
    cases i with
    | zero => unfold startI at h; simp at h; exact ⟨rfl, h.symm⟩
    | succ i =>
      unfold startI at h
      rw [List.getElem?_cons_succ] at h
      obtain ⟨x, _, e⟩ := startM_get h
      cases e
  have s0 : (start N (.ref a :: vs))[0]? = some (some (.ref a)) := rfl
  have hdel : del H a a = none := if_pos rfl
  refine ⟨⟨fun _ h => h, fun b o e _ => ?_, fun _ h => .inl h, List.prefix_refl _, fun _ h => .inl h⟩, r, ⟨?_, fun i m h => ?_, fun i m h => ?_, fun i j m m' b hij h1 h2 => ?_, fun i c fs h => ?_⟩, fun b o h => by cases h⟩
  · have e' : (if b = a then none else H b) = some o := e
    split at e'
    · cases e'
    · exact e'
  · unfold startI startM L2.start
    simp only [List.length_append, List.length_map, List.length_replicate, List.length_cons]
    rw [hv]; omega
  · cases i with
    | zero => unfold startI at h; simp at h
    | succ i =>
      unfold startI at h
      rw [List.getElem?_cons_succ] at h
      obtain ⟨x, hx, e⟩ := startM_get h
      cases e
      obtain ⟨v, h1, h2⟩ := d.get hx
      refine ⟨v, ?_, h2⟩
      have hiv : i < vs.length := (List.getElem?_eq_some_iff.mp h1).1
      unfold L2.start
      rw [List.map_cons, List.cons_append, List.getElem?_cons_succ, List.getElem?_append_left (by simpa using hiv), List.getElem?_map, h1]
      rfl
  · obtain ⟨rfl, rfl⟩ := own h
    exact ⟨a, s0, hs, hi, ⟨hdel, rfl⟩, .ins C dx [], ha, C, dx, [], rfl, hc, rfl, fun i f m q => by simp at q⟩
  · obtain ⟨rfl, _⟩ := own h1
    obtain ⟨rfl, _⟩ := own h2
    exact absurd rfl hij
  · obtain ⟨rfl, _⟩ := own h
    exact ⟨a, rfl, s0⟩
end
section
variable {P : Program} {w : World} {K : PySem.W.Frag} {mg : Str → Option Value} {base : Heap}
/-- AN __init__ KEEPS ITS MIRROR, by its body's mirror -/
theorem fnI {k : Nat} {x qual c : Str} {st : Stmt} {f : Addr} {fd : FuncData} {N ps : List Str} {g : SF} (F : Fun K x qual st f fd) (Sc : FnScope N ps (defScope st)) (hle : ps.length ≤ N.length)
    (hbody : ∀ (X : Cx) (B : Base) (W : WX) (cdv : Value) (A : Around) (outer : List Env) (s : Shared) (H : Hp) (E : XK), X = cxG P w K mg base N qual (defScope st) f cdv A outer s H E → RoomG k X.A → Takes X W →
      SSs (cxG P w K mg base N qual (defScope st) f cdv A outer s H E) B W (defBody st) g) :
    FnG P w K mg base (k + 1) f fd ps (spI ⟨K, mg⟩ c ps.length (runI c N.length g)) := by
  obtain ⟨oc, od, kV, doc, pm, an, cdv, ct, osl, rfl, lk, hcd⟩ := F.ex
  refine fnG_of lk hcd Sc (fun vs H Q E h => h.1) fun A outer s H vs Q E room want => ?_
  obtain ⟨hvl, a, C, dx, vs', S, ι, st0, ms, rfl, ha, hc, hns, hni, r, d, p⟩ := want
  have hms : ms.length + 1 = ps.length := by rw [← d.1, ← hvl]; rfl
  refine ⟨_, hbody _ { S := S, ι := ι, H := del H a, P := some a } (fun cls dd _ H' => E cls dd H') cdv A outer s H E rfl room (takes_of rfl rfl rfl rfl), S, ι, startI c N.length ms, st0, fm_startI r d (by omega) ha hc hns hni, ?_⟩
  unfold runI at p
  show Post (⟨K, mg⟩ : Wd) _ _ S ι H _ _
  cases hg : g (startI c N.length ms) st0 with
  | bad => rw [hg] at p; exact p
  | exc c fs lo st' =>
    rw [hg] at p
    intro S' ι' σ' H' cls dd fm kp xr
    exact p S' ι' H' cls dd fm.ext fm.rep xr
  | ok z =>
    rw [hg] at p
    obtain ⟨fl, lo', st'⟩ := z
    cases fl with
    | nx =>
      intro S' ι' σ' H' fm kp
      dsimp only at p
      unfold selfOf at p
      split at p
      · rename_i m hm
        split at hm
        · rename_i c2 fs2 e2
          cases hm
          obtain ⟨b, hb, hs⟩ := fm.loc.pin 0 c2 fs2 e2
          cases hb
          obtain ⟨b, e3, h1, h2, _, h4⟩ := fm.loc.own 0 _ e2
          rw [hs] at e3; cases e3
          exact p rfl S' ι' H' fm.ext fm.rep h1 h2 h4
        · cases hm
      · exact p.elim
    | bk => exact p.elim
    | ct => exact p.elim
    | rt m kd => exact p.elim
end

section
variable {X : Cx} {B : Base} {W : WX}
theorem roomG_make {k : Nat} {A : Around} (r : RoomG (k + 1) A) (C : Addr) (us : List Value) (kw : List (Str × Value)) : RoomG k (A.under (.builtin "type.__call__" ⟨.ref C :: us, kw⟩)) := by
  refine ⟨r.r.make C us kw, ?_⟩
  have e : Code.guards (.builtin "type.__call__" ⟨.ref C :: us, kw⟩) = [] := by
    have h : Code.isGuard (.builtin "type.__call__" ⟨.ref C :: us, kw⟩) = false := (by decide +kernel : guardIds.contains "type.__call__" = false)
    unfold Code.guards
    rw [if_neg (by rw [h]; exact Bool.false_ne_true)]
  simp only [Around.under, r.g, e]
  rfl
theorem run_makeG {k : Nat} {C f : Addr} {fd : FuncData} {ps : List Str} {sp : Sp} {E : XK} {pins : List (Addr × Obj)} {σ : L2.St} {H : Hp} {s : Shared} {Q : VK} {us : List Value} {vs : List V} {ds : List Value} {dvs : List V} (M : Mk X.K C f)
    (F : FnG X.prog X.w X.K X.mg X.base k f fd ps sp) (hr : RoomG (k + 1) X.A) (hb : Binds X.K fd ps ds) (hd : Vals dvs ds) (hx : ∀ cls d H', E cls d H' → W cls d σ H') (tk : Takes X W) (I : Inv X pins σ H s) (r : Vals vs us)
    (h : ∀ x dx, H x = none → H dx = none → dx ≠ x → sp (.ref x :: (vs ++ dvs)) (upd (upd H dx (.own x)) x (.ins C dx [])) (fun v H2 => v = .non ∧ Q (.ref x) H2) E) :
    wpAny (model X.prog X.w) X.A (call (.ref C) us) (EP X pins σ Q) X.xe s := by
  have hq := h (s.heap.objs.size + 1) s.heap.objs.size (I.hok.fresh (Nat.le_succ _)) (I.hok.fresh (Nat.le_refl _)) (Nat.ne_of_lt (Nat.lt_succ_self _))
  have J := Inv.made (C := C) I
  have vv : Vals (V.ref (s.heap.objs.size + 1) :: (vs ++ dvs)) (Value.ref (s.heap.objs.size + 1) :: (us ++ ds)) := .cons rfl (r.append hd)
  have many : (Value.ref (s.heap.objs.size + 1) :: us ++ ds).length = ps.length := by
    have e := vv.length
    rw [F.len _ _ _ _ hq] at e
    exact e.symm
  refine wpAny_call (make_map (f := f) I.kIn M.makes M.init (beq_iff_eq.mp M.fn) (codeAny_mono (F.run _ X.stack _ _ ⟨Value.ref (s.heap.objs.size + 1) :: us, []⟩ (Value.ref (s.heap.objs.size + 1) :: (us ++ ds)) _ _ E (roomG_make hr C us [])
    (J.env0.make C us []) (hb _ (Value.ref (s.heap.objs.size + 1) :: us) J.kIn many) vv hq) fun res s' got => ?_))
  match res, got with
  | .error e, got => exact tk e s' (XE.of_call J hx got)
  | .ok (.ret u), got =>
    obtain ⟨v, H', J2, rv, ev, q3⟩ := J.after got
    subst ev
    exact ⟨rv, ⟨V.ref (s.heap.objs.size + 1), H', J2, rfl, q3⟩⟩
theorem del_upd {H : Hp} {x dx : Addr} {C : Addr} (hx : H x = none) (ne : dx ≠ x) : del (upd (upd H dx (.own x)) x (.ins C dx [])) x = upd H dx (.own x) := by
  funext b
  show (if b = x then none else upd (upd H dx (.own x)) x (.ins C dx []) b) = _
  by_cases e : b = x
  · rw [if_pos e, e, upd_ne (fun z => ne z.symm), hx]
  · rw [if_neg e, upd_ne e]
theorem wants_make {c : Str} {C : Addr} {n : Nat} {F : FF} {S S0 : Addr → Prop} {ι ι0 : List Addr} {H H0 : Hp} {lo : Lo} {σ : L2.St} {st : Sto} {vs : List V} {ms : List MV} {Q : VK} (hc : X.mg c = some (.ref C)) (fm : Fm X.wd B S ι H lo σ st) (d : AllD X.wd S ι H vs ms) (hn : vs.length + 1 = n) (k0 : Keep S0 ι0 H0 S ι H)
    (p : Post X.wd B W S0 ι0 H0 (fun r => ∀ S' ι' H' v, Fm X.wd B S' ι' H' lo σ r.2.2 → Keep S0 ι0 H0 S' ι' H' → RV X.wd B S' ι' H' lo σ v r.1 r.2.1 → Q v H') (callR F ms lo st)) (x dx : Addr) (hx : H x = none) (hdx : H dx = none) (ne : dx ≠ x) :
    spI X.wd c n F (.ref x :: vs) (upd (upd H dx (.own x)) x (.ins C dx [])) (fun v H2 => v = .non ∧ Q (.ref x) H2) (fun cls dd H' => ∃ S' ι' st' c fs, Fm X.wd B S' ι' H' lo σ st' ∧ Keep S ι H S' ι' H' ∧ XR X.wd S' ι' H' c fs cls dd ∧ W cls dd σ H') := by
  obtain ⟨f1, f2, f3, f4⟩ := fm.free hx
  have hx2 : upd H dx (.own x) x = none := by rw [upd_ne (fun z => ne z.symm)]; exact hx
  have fmA := fm.new (o := .own x) hdx
  have fmB := fmA.new (o := .ins C dx []) hx2
  have kB := ((Ext.new (o := .own x) hdx).keep fm.rep).trans ((Ext.new (o := .ins C dx []) hx2).keep fmA.rep)
  refine ⟨by simpa using hn, x, C, dx, vs, S, ι, st, ms, rfl, upd_same, hc, f1, f2, fmB.rep, d.mono kB, ?_⟩
  rw [del_upd hx ne]
  have up : ∀ {S' : Addr → Prop} {ι' : List Addr} {H' : Hp} {st' : Sto}, Ext S ι (upd H dx (.own x)) S' ι' H' → Rep X.wd S' ι' H' st' → Fm X.wd B S' ι' H' lo σ st' ∧ Keep S ι H S' ι' H' := fun {S' ι' H' st'} e r => by
    have e0 : Ext S ι H S' ι' H' := (Ext.new (o := .own x) hdx).trans e fun b hb => r.pre e.i b hb
    exact ⟨fm.step e0 r, e0.keep fm.rep⟩
  unfold callR at p
  cases hF : F ms st with
  | bad => rw [hF] at p; exact p
  | exc c fs lo' st' =>
    rw [hF] at p
    intro S' ι' H' cls dd e r xr
    obtain ⟨fm', kk⟩ := up e r
    exact ⟨S', ι', st', c, fs, fm', kk, xr, p S' ι' σ H' cls dd fm' (k0.trans kk) xr⟩
  | ok z =>
    rw [hF] at p
    obtain ⟨m, b, st'⟩ := z
    cases b with
    | false => exact fun z => nomatch z
    | true =>
      refine fun _ S' ι' H' e r h1 h2 h4 => ⟨rfl, ?_⟩
      obtain ⟨fm', kk⟩ := up e r
      exact p S' ι' H' _ fm' (k0.trans kk) ⟨x, rfl, h1, h2, f3, h4, f4⟩
/-- C(e, ..) of an own class: a new instance -/
theorem se_make {k n : Nat} {C f : Addr} {fd : FuncData} {ps : List Str} {FM : FF} {x : Str} {p pos : Pos} {e : Expr} {es : List Expr} {g : AF} (M : Mk X.K C f)
    (F : FnG X.prog X.w X.K X.mg X.base k f fd ps (spI X.wd x (n + 1) FM)) (hr : RoomG (k + 1) X.A) (tk : Takes X W) (hg : Gl X x) (hm : X.mg x = some (.ref C)) (hb : Binds X.K fd ps [])
    (ha : SA X B W (e :: es) g) (hdb : (x == ("__debug__" : Str)) = false := by decide) (he : starEach (e :: es) X.env = (false, eval e X.env) :: starEach es X.env := by rfl)
    (hpl : (backTo pos (starEach es X.env)).any (·.1) = false := by rfl) : SE X B W (.Call (.Name x p) (e :: es) [] pos) (mCall n FM [] g) := by
  refine ⟨fun pins s σ H Q I ⟨S, ι, lo, st, fm, pp⟩ => ?_⟩
  refine wpAny_Call_Name_kw (ld_glob I hg hm ?_ hdb)
  have run := ha.run pos pins s σ H (fun vs H1 => ∃ E : XK, (∀ cls d H', E cls d H' → W cls d σ H') ∧ ∀ y dx, H1 y = none → H1 dx = none → dx ≠ y → spI X.wd x (n + 1) FM (.ref y :: (vs ++ [])) (upd (upd H1 dx (.own y)) y (.ins C dx [])) (fun v H2 => v = .non ∧ Q (.ref y) H2) E) I ?_
  · refine PySem.W.callWith_K (h₀ := X.base) I.ok.mod.kin M.kp (thn run fun us s1 ⟨vs, H1, I1, r, q⟩ => ⟨I1.kIn, ?_⟩) he hpl
    obtain ⟨E, hE, q⟩ := q
    exact run_makeG M F hr hb .nil hE tk I1 r q
  · refine tA.use fm (Post.bind pp) fun l st1 S1 ι1 H1 vs f1 k1 r1 p1 => ?_
    dsimp only at p1
    unfold callF at p1
    split at p1
    · rename_i ms hz
      split at p1
      · rename_i hlen
        have d1 := r1.data hz
        rw [List.append_nil] at hlen p1
        refine ⟨_, ?_, fun x dx hx hdx ne => by rw [List.append_nil]; exact wants_make hm f1 d1 (by rw [d1.1, hlen]) k1 p1 x dx hx hdx ne⟩
        rintro cls d H' ⟨_, _, _, _, _, _, _, _, z⟩
        exact z
      · exact p1.elim
    · exact p1.elim
/-- C() of an own class -/
theorem se_make0 {k : Nat} {C f : Addr} {fd : FuncData} {ps : List Str} {FM : FF} {x : Str} {p pos : Pos} (M : Mk X.K C f)
    (F : FnG X.prog X.w X.K X.mg X.base k f fd ps (spI X.wd x 1 FM)) (hr : RoomG (k + 1) X.A) (tk : Takes X W) (hg : Gl X x) (hm : X.mg x = some (.ref C)) (hb : Binds X.K fd ps [])
    (hdb : (x == ("__debug__" : Str)) = false := by decide) : SE X B W (.Call (.Name x p) [] [] pos) (mCall 0 FM [] mNil) := by
  refine ⟨fun pins s σ H Q I ⟨S, ι, lo, st, fm, pp⟩ => ?_⟩
  refine wpAny_Call_Name_kw (ld_glob I hg hm ?_ hdb)
  have p2 : Post X.wd B W S ι H (fun r => ∀ S' ι' H' v, Fm X.wd B S' ι' H' lo σ r.2.2 → Keep S ι H S' ι' H' → RV X.wd B S' ι' H' lo σ v r.1 r.2.1 → Q v H') (callR FM [] lo st) := pp
  have w := fun x dx hx hdx ne => wants_make (n := 1) (vs := []) hm fm (AllD.nil) rfl .refl p2 x dx hx hdx ne
  refine PySem.W.callWith_K0 I.kIn M.kp (run_makeG (us := []) (vs := []) (dvs := []) M F hr hb .nil ?_ tk I .nil w)
  rintro cls d H' ⟨_, _, _, _, _, _, _, _, z⟩
  exact z
/-- f() -/
theorem se_call0 {k : Nat} {f : Addr} {fd : FuncData} {ps : List Str} {FM : FF} {x : Str} {p pos : Pos}
    (F : FnG X.prog X.w X.K X.mg X.base k f fd ps (spM X.wd 0 FM)) (hr : RoomG k X.A) (tk : Takes X W) (hg : Gl X x) (hm : X.mg x = some (.ref f)) (hk : PySem.W.keepIn X.K (.ref f) = true) (hb : Binds X.K fd ps [])
    (hdb : (x == ("__debug__" : Str)) = false := by decide) : SE X B W (.Call (.Name x p) [] [] pos) (mCall 0 FM [] mNil) := by
  refine ⟨fun pins s σ H Q I ⟨S, ι, lo, st, fm, pp⟩ => ?_⟩
  refine wpAny_Call_Name_kw (ld_glob I hg hm ?_ hdb)
  have p2 : Post X.wd B W S ι H (fun r => ∀ S' ι' H' v, Fm X.wd B S' ι' H' lo σ r.2.2 → Keep S ι H S' ι' H' → RV X.wd B S' ι' H' lo σ v r.1 r.2.1 → Q v H') (callR FM [] lo st) := pp
  refine PySem.W.callWith_K0 I.kIn hk (run_fnG (us := []) (vs := []) (dvs := []) F hr hb .nil ?_ tk I .nil (wants_callee fm AllD.nil rfl .refl p2))
  rintro cls d H' ⟨_, _, _, _, _, _, _, _, z⟩
  exact z
end

theorem look_none {β γ : Type} {f : Str} : ∀ {fs : List (Str × β)} {ms : List (Str × γ)}, fs.map (·.1) = ms.map (·.1) → ms.lookup f = none → fs.lookup f = none
  | [], [], _, _ => rfl
  | [], _ :: _, hn, _ => by cases hn
  | _ :: _, [], hn, _ => by cases hn
  | (f1, v1) :: fs, (f2, m2) :: ms, hn, h => by
    rw [List.map_cons, List.map_cons] at hn
    obtain ⟨e1, e2⟩ := List.cons.inj hn
    have e1' : f1 = f2 := e1
    subst e1'
    rw [FW.lookup_put] at h ⊢
    by_cases hf : f = f1
    · rw [if_pos hf] at h; cases h
    · rw [if_neg hf] at h ⊢
      exact look_none e2 h
def insOf (c m : Str) : MV → Bool
  | .ins c' fs => decide (c' = c) && (fs.lookup m).isNone
  | _ => false
theorem insOf_ok {c m : Str} {t : MV} (h : insOf c m t = true) : ∃ fs, t = .ins c fs ∧ fs.lookup m = none := by
  cases t with
  | ins c' fs =>
    have h' : (decide (c' = c) && (fs.lookup m).isNone) = true := h
    rw [Bool.and_eq_true] at h'
    obtain ⟨h1, h2⟩ := h'
    have h1 := of_decide_eq_true h1
    subst h1
    exact ⟨fs, rfl, Option.isNone_iff_eq_none.mp h2⟩
  | _ => cases h
def mMeth (c m : Str) (n : Nat) (F : FF) (fo : EF) (g : AF) : EF := fun lo st => fo lo st >>= fun (t, k, st1) => if isPk k = false ∧ insOf c m (vw st1 t) = true then g lo st1 >>= fun (l, st2) => callF n F [] ((t, false) :: l) lo st2 else .bad
section
variable {X : Cx} {B : Base} {W : WX} {o e : Expr} {es : List Expr} {fo : EF} {g : AF} {apos pos : Pos} {k n : Nat} {C f : Addr} {fd : FuncData} {ps : List Str} {FM : FF} {c m : Str} {pl : Sem Bool}
theorem se_meth (ho : SE X B W o fo) (cl : L2.Cls X.K C) (hm : Meth X.K C m f) (hc : X.mg c = some (.ref C)) (F : FnG X.prog X.w X.K X.mg X.base k f fd ps (spM X.wd n FM)) (hr : RoomG k X.A) (tk : Takes X W) (hb : Binds X.K fd ps []) (ha : SA X B W (e :: es) g)
    (hst : starEach (e :: es) X.env = (false, eval e X.env) :: starEach es X.env := by rfl) (hpl : (backTo pos (starEach es X.env)).any (·.1) = false := by rfl)
    (ht : eval (.Call (.Attribute o m apos) (e :: es) [] pos) X.env = (do
      let ov ← eval o X.env
      standAt apos.atName
      let (f, first) ← holding [ov] (getMethod ov m pl)
      callWith pos f first (backTo pos (starEach (e :: es) X.env)) (backToKw pos (keywordEach [] X.env))) := by rfl) :
    SE X B W (.Call (.Attribute o m apos) (e :: es) [] pos) (mMeth c m n FM fo g) := by
  refine ⟨fun pins s σ H Q I ⟨S, ι, lo, st, fm, pp⟩ => ?_⟩
  have run := ho.run pins s σ H (fun x H1 => ∃ a dx fs, x = .ref a ∧ H1 a = some (.ins C dx fs) ∧ fs.lookup m = none ∧ tA X.wd B W g σ H1 (fun vs H2 => ∃ E : XK, (∀ cls d H', E cls d H' → W cls d σ H') ∧ spM X.wd n FM (x :: vs) H2 Q E)) I ?_
  · refine PySem.W.methodCall_KW (pl := pl) (thn run fun u s1 ⟨x, H1, I1, rx, a, dx, fs, ex, ea, l, q⟩ => ?_) ht
    subst ex
    cases (show u = Value.ref a from rx)
    refine getmeth_ok I1 ea cl hm l ?_
    refine PySem.W.callWith_K (first := [.ref a]) (h₀ := X.base) I.ok.mod.kin hm.kp (thn (ha.run pos pins s1 σ H1 _ I1 q) fun us s2 ⟨vs, H2, I2, r, E, hE, q2⟩ => ⟨I2.kIn, ?_⟩) hst hpl
    exact run_fnG (us := .ref a :: us) (vs := .ref a :: vs) (dvs := []) F hr hb .nil hE tk I2 (.cons rfl r) (by rw [List.append_nil]; exact q2)
  · refine tE.use fm (Post.bind pp) fun t kt st1 S1 ι1 H1 ov f1 k1 r1 p1 => ?_
    dsimp only at p1
    split at p1
    case isFalse => exact p1.elim
    rename_i hh
    obtain ⟨hk, hi⟩ := hh
    obtain ⟨S1', f1', k1', h1⟩ := r1.hand f1
    rw [hk] at h1
    have vr := Hand.vr (b := false) f1' h1
    obtain ⟨fs, ev, hl⟩ := insOf_ok hi
    rw [ev] at vr
    obtain ⟨q, C', dx, ws, rfl, g1, hmc, hn, _⟩ := vr
    cases (show some (Value.ref C) = some (Value.ref C') from hc.symm.trans hmc)
    refine ⟨q, dx, ws, rfl, g1, look_none hn hl, ?_⟩
    refine tA.use f1' (Post.bind (p1.mono (k1.trans k1') fun _ z => z)) fun l st2 S2 ι2 H2 vs f2 k2 r2 p2 => ?_
    dsimp only at p2
    unfold callF at p2
    split at p2
    · rename_i ms hz
      split at p2
      · rename_i hlen
        rw [d_allFz1] at hz
        obtain ⟨ms', hz', rfl⟩ := Option.map_eq_some_iff.mp hz
        have d2 := AllD.cons (Dt.mono k2 h1) (r2.data hz')
        rw [List.append_nil] at hlen p2
        refine ⟨_, ?_, wants_callee f2 d2 (by rw [d2.1, hlen]) k2 (p2.imp fun r z S' ι' H' v f kk rv => z S' ι' H' v f ((k1.trans k1').trans kk) rv)⟩
        rintro cls d H' ⟨_, _, _, _, _, _, _, _, z⟩
        exact z
      · exact p2.elim
    · exact p2.elim
theorem se_meth0 (ho : SE X B W o fo) (cl : L2.Cls X.K C) (hm : Meth X.K C m f) (hc : X.mg c = some (.ref C)) (F : FnG X.prog X.w X.K X.mg X.base k f fd ps (spM X.wd n FM)) (hr : RoomG k X.A) (tk : Takes X W) (hb : Binds X.K fd ps [])
    (ht : eval (.Call (.Attribute o m apos) [] [] pos) X.env = (do
      let ov ← eval o X.env
      standAt apos.atName
      let (f, first) ← holding [ov] (getMethod ov m pl)
      callWith pos f first (backTo pos (starEach [] X.env)) (backToKw pos (keywordEach [] X.env))) := by rfl) :
    SE X B W (.Call (.Attribute o m apos) [] [] pos) (mMeth c m n FM fo mNil) := by
  refine ⟨fun pins s σ H Q I ⟨S, ι, lo, st, fm, pp⟩ => ?_⟩
  have run := ho.run pins s σ H (fun x H1 => ∃ a dx fs, x = .ref a ∧ H1 a = some (.ins C dx fs) ∧ fs.lookup m = none ∧ ∃ E : XK, (∀ cls d H', E cls d H' → W cls d σ H') ∧ spM X.wd n FM [x] H1 Q E) I ?_
  · refine PySem.W.methodCall_KW (pl := pl) (thn run fun u s1 ⟨x, H1, I1, rx, a, dx, fs, ex, ea, l, E, hE, q⟩ => ?_) ht
    subst ex
    cases (show u = Value.ref a from rx)
    refine getmeth_ok I1 ea cl hm l ?_
    exact PySem.W.callWith_K0 (first := [.ref a]) I1.kIn hm.kp (run_fnG (us := [.ref a]) (vs := [.ref a]) (dvs := []) F hr hb .nil hE tk I1 (.cons rfl .nil) q)
  · refine tE.use fm (Post.bind pp) fun t kt st1 S1 ι1 H1 ov f1 k1 r1 p1 => ?_
    dsimp only at p1
    split at p1
    case isFalse => exact p1.elim
    rename_i hh
    obtain ⟨hk, hi⟩ := hh
    obtain ⟨S1', f1', k1', h1⟩ := r1.hand f1
    rw [hk] at h1
    have vr := Hand.vr (b := false) f1' h1
    obtain ⟨fs, ev, hl⟩ := insOf_ok hi
    rw [ev] at vr
    obtain ⟨q, C', dx, ws, rfl, g1, hmc, hn, _⟩ := vr
    cases (show some (Value.ref C) = some (Value.ref C') from hc.symm.trans hmc)
    refine ⟨q, dx, ws, rfl, g1, look_none hn hl, ?_⟩
    have p2 := p1.mono (k1.trans k1') fun _ z => z
    simp only [d_mNil, Res.ok_bind] at p2
    unfold callF at p2
    simp only [d_allFz1, d_allFz0, Option.map_some, List.append_nil] at p2
    split at p2
    · rename_i hlen
      refine ⟨_, ?_, wants_callee f1' (AllD.cons h1 .nil) (by simpa using hlen) .refl (p2.imp fun r z S' ι' H' v f kk rv => z S' ι' H' v f ((k1.trans k1').trans kk) rv)⟩
      rintro cls d H' ⟨_, _, _, _, _, _, _, _, z⟩
      exact z
    · exact p2.elim
def putM (f : Str) (v : MV) : List (Str × MV) → List (Str × MV)
  | [] => [(f, v)]
  | (g, x) :: r => if g = f then (g, v) :: r else (g, x) :: putM f v r
theorem putM_names {mg : Wd} {S : Addr → Prop} {ι : List Addr} {H : Hp} {f : Str} {v : V} {m : MV} (d : Dt mg S ι H v m) : ∀ {fs : List (Str × V)} {ms : List (Str × MV)}, fs.map (·.1) = ms.map (·.1) → (∀ (i : Nat) f m, fs[i]? = some f → ms[i]? = some m → Dt mg S ι H f.2 m.2) →
    (putF f v fs).map (·.1) = (putM f m ms).map (·.1) ∧ ∀ (i : Nat) f' m', (putF f v fs)[i]? = some f' → (putM f m ms)[i]? = some m' → Dt mg S ι H f'.2 m'.2
  | [], [], _, _ => ⟨rfl, fun i f' m' h1 h2 => by
      cases i with
      | zero => cases h1; cases h2; exact d
      | succ i => cases h1⟩
  | [], _ :: _, hn, _ => by cases hn
  | _ :: _, [], hn, _ => by cases hn
  | (f1, v1) :: fs, (f2, m2) :: ms, hn, hi => by
    rw [List.map_cons, List.map_cons] at hn
    obtain ⟨e1, e2⟩ := List.cons.inj hn
    have e1' : f1 = f2 := e1
    subst e1'
    unfold putF putM
    by_cases hf : f1 = f
    · rw [if_pos hf, if_pos hf]
      refine ⟨by rw [List.map_cons, List.map_cons, e2], fun i f' m' h1 h2 => ?_⟩
      cases i with
      | zero => cases h1; cases h2; exact d
      | succ i => exact hi (i + 1) f' m' (by simpa using h1) (by simpa using h2)
    · rw [if_neg hf, if_neg hf]
      obtain ⟨a1, a2⟩ := putM_names (f := f) d e2 (fun i a b q1 q2 => hi (i + 1) a b (by simpa using q1) (by simpa using q2))
      refine ⟨by rw [List.map_cons, List.map_cons, a1], fun i f' m' h1 h2 => ?_⟩
      cases i with
      | zero => cases h1; cases h2; exact hi 0 _ _ rfl rfl
      | succ i => exact a2 i f' m' (by simpa using h1) (by simpa using h2)
def sPutF (f : Str) (oi : Str → Bool) (fe fo : EF) : SF := fun lo st => fe lo st >>= fun r => frzd r >>= fun (m, st1) => fo lo st1 >>= fun (t, k, st2) => match targetOf t k lo st2 with
  | some (.ins c fs) => if oi c = true ∧ fs.length < 1000 then .ok (.nx, (putBack t k (.ins c (putM f m fs)) lo st2).1, (putBack t k (.ins c (putM f m fs)) lo st2).2) else .bad
  | _ => .bad
theorem ss_putF {fx : Str} {oi : Str → Bool} {fe : EF} {pos' : Pos} (he : SE X B W e fe) (ho : SE X B W o fo) (hI : ∀ n C, oi n = true → X.mg n = some (.ref C) → L2.Cls X.K C ∧ NoAttr X.K C fx)
    (hs : swapsWith e (some (.Attribute o fx pos')) pos.line X.env = pure false := by rfl) : SS X B W (.Assign [.Attribute o fx pos'] e pos) (sPutF fx oi fe fo) := by
  refine (ps_fld ho he hs).fw fun D σ H ⟨S, ι, lo, st, fm, p⟩ => ?_
  refine tE.use fm (Post.bind p) fun m k st1 S1 ι1 H1 v f1 k1 r1 p1 => ?_
  obtain ⟨⟨S2, f2, k2, d⟩, p2⟩ := frzd_ok f1 r1 p1
  have k02 := k1.trans k2
  refine tE.use f2 (Post.bind (p2.mono k02 fun _ z => z)) fun t kt st3 S3 ι3 H3 ov f3 k3 r3 p3 => ?_
  dsimp only at p3
  split at p3
  · rename_i c fs et
    split at p3
    · rename_i hh
      have T0 : Tgt S3 ι3 lo σ ov t kt := RV.tgt f3 r3 et
      obtain ⟨a, rfl, oo, e1, C, dx, ws, rfl, hmc, hn, hi⟩ := T0.sh f3 et
      obtain ⟨cl, na⟩ := hI c C hh.1 hmc
      obtain ⟨n1, n2⟩ := putM_names (f := fx) (d.mono k3) hn hi
      obtain ⟨f5, k5⟩ := Tgt.put (c' := .ins c (putM fx m fs)) (o := .ins C dx (putF fx v ws)) f3 T0 ⟨C, dx, _, rfl, hmc, n1, n2⟩ (fun _ _ _ => ⟨c, fs, et⟩)
      have hlen : ws.length = fs.length := by have := congrArg List.length hn; simpa using this
      exact ⟨a, C, dx, ws, rfl, e1, cl, na, by rw [hlen]; exact hh.2, p3 S3 ι3 σ _ f5 (k02.trans (k3.trans k5))⟩
    · exact p3.elim
  · exact p3.elim
end
/-- what is never reached -/
def sBad : SF := fun _ _ => .bad
def mBad : EF := fun _ _ => .bad
theorem ss_bad {X : Cx} {B : Base} {W : WX} {s : Stmt} : SS X B W s sBad := ps_never.fw fun D σ H ⟨S, ι, lo, st, fm, p⟩ => p.elim
theorem se_bad {X : Cx} {B : Base} {W : WX} {e : Expr} : SE X B W e mBad := ⟨fun pins s σ H Q I ⟨S, ι, lo, st, fm, p⟩ => p.elim⟩
end FW

namespace FW
open PySem L2 PySem.Spec PyProof.Rows

def takeK (o : Bool) (r : MV × Kd × Sto) : Res (MV × Sto) := match o with
  | false => frzd r
  | true => (match r with
    | (m, .fr, st) => if ownOk m = true then .ok (m, st) else .bad
    | _ => .bad)
def sPar (i j : Nat) (o1 o2 : Bool) (f1 f2 : EF) : SF := fun lo st => f1 lo st >>= fun r1 => takeK o1 r1 >>= fun (m1, st1) =>
  (if o1 = true then noExc (f2 lo st1) else f2 lo st1) >>= fun r2 => takeK o2 r2 >>= fun (m2, st2) => .ok (.nx, (lo.set i (some (m1, o1))).set j (some (m2, o2)), st2)
section
variable {mg : Wd} {B : Base} {W : WX} {S S' S2 : Addr → Prop} {ι ι' ι2 : List Addr} {H H' H2 : Hp} {lo lo' : Lo} {σ σ' : L2.St} {st st' : Sto} {v w : V} {m : MV}
theorem Fm.set_own {a : Addr} (f : Fm mg B S ι H lo σ st) (i : Nat) (hm : ownOk m = true) (h1 : ¬ S a) (h2 : a ∉ ι) (h3 : B.New a) (d : Sh mg S ι H a m) (h4 : ∀ (j : Nat) m', lo[j]? = some (some (m', true)) → σ[j]? ≠ some (some (.ref a))) :
    Fm mg B S ι H (lo.set i (some (m, true))) (σ.set i (some (.ref a))) st := ⟨f.ext, f.rep, f.loc.set_own i hm h1 h2 h3 d h4, f.g⟩
theorem set_apart {i : Nat} {z : Option (MV × Bool)} {x : Option V} {a : Addr} (hl : lo.length = σ.length) (h4 : ∀ (j : Nat) m', lo[j]? = some (some (m', true)) → σ[j]? ≠ some (some (.ref a))) (hz : ∀ m', z = some (m', true) → x ≠ some (.ref a)) :
    ∀ (j : Nat) m', (lo.set i z)[j]? = some (some (m', true)) → (σ.set i x)[j]? ≠ some (some (.ref a)) := by
  intro j m' h
  by_cases e : i = j
  · subst e
    by_cases hi : i < lo.length
    · rw [List.getElem?_set_self hi] at h
      rw [List.getElem?_set_self (by omega)]
      intro q
      exact hz m' (Option.some.inj h) (Option.some.inj q)
    · rw [List.getElem?_eq_none (by simp; omega)] at h; cases h
  · rw [List.getElem?_set_ne e] at h ⊢
    exact h4 j m' h
end
section
variable {X : Cx} {B : Base} {W : WX} {e1 e2 : Expr} {f1 f2 : EF}
theorem par_core (i j : Nat) (o1 o2 : Bool) {D : Ends} {σ : L2.St} {H : Hp} {S : Addr → Prop} {ι : List Addr} {lo : Lo} {st : Sto} {R : V → V → Hp → Prop} (fm : Fm X.wd B S ι H lo σ st) (p : Post X.wd B W S ι H (PS1 X.wd B S ι H D) (sPar i j o1 o2 f1 f2 lo st))
    (hfin : ∀ v w S' ι' H' lo' st', Fm X.wd B S' ι' H' lo' ((σ.set i (some v)).set j (some w)) st' → Keep S ι H S' ι' H' → PS1 X.wd B S ι H D (.nx, lo', st') → R v w H') :
    tE X.wd B W f1 σ H (fun v H1 => ∃ B', tE X.wd B' W f2 σ H1 (R v)) := by
  refine tE.use fm (Post.bind p) fun m k st1 S1 ι1 H1 v fm1 kp1 r1 p1 => ?_
  have hlen : lo.length = σ.length := fm.loc.len
  cases o1 with
  | false =>
    obtain ⟨⟨S2, fm2, kp2, d⟩, p2⟩ := frzd_ok fm1 r1 p1
    dsimp only at p2
    rw [if_neg Bool.false_ne_true] at p2
    have k02 := kp1.trans kp2
    refine ⟨B, tE.use fm2 (Post.bind (p2.mono k02 fun _ z => z)) fun m2 kd2 st2 S3 ι3 H3 w fm3 kp3 r2 p3 => ?_⟩
    cases o2 with
    | false =>
      obtain ⟨⟨S4, fm4, kp4, d2⟩, p4⟩ := frzd_ok fm3 r2 p3
      exact hfin v w S4 ι3 H3 _ _ ((fm4.set_val i (d.mono (kp3.trans kp4))).set_val j d2) (k02.trans (kp3.trans kp4)) p4
    | true =>
      cases kd2 with
      | fr =>
        unfold takeK at p3
        dsimp only at p3
        split at p3
        · rename_i hm
          obtain ⟨a, rfl, q1, q2, q3, q4, q5⟩ := r2
          exact hfin v _ S3 ι3 H3 _ _ ((fm3.set_val i (d.mono kp3)).set_own j hm q1 q2 q3 q4 (set_apart hlen q5 fun _ z => nomatch z)) (k02.trans kp3) p3
        · exact p3.elim
      | _ => exact p3.elim
  | true =>
    cases k with
    | fr =>
      unfold takeK at p1
      dsimp only at p1
      split at p1
      case isFalse => exact p1.elim
      rename_i hm
      obtain ⟨a, rfl, q1, q2, q3, q4, q5⟩ := r1
      obtain ⟨o, ho, hob⟩ := q4
      have fg := fm1.guard ho q1 q2 q3 q5
      simp only [Res.ok_bind, if_true] at p1
      refine ⟨B.put a o, tE.use fg ((Post.bind p1).noExc) fun m2 kd2 st2 S3 ι3 H3 w fm3 kp3 r2 p3 => ?_⟩
      obtain ⟨fm4, g1, g2, g3, g4⟩ := fm3.unguard q3
      have sh : Sh X.wd S3 ι3 H3 a m := ⟨o, g1, hob.mono kp3⟩
      have ff := fm4.set_own i hm g2 g3 q3 sh g4
      cases o2 with
      | false =>
        cases kd2 with
        | pk q => exact p3.elim
        | fz => exact hfin _ w S3 ι3 H3 _ _ (ff.set_val j r2) (kp1.trans kp3) p3
        | fr =>
          obtain ⟨b, rfl, b1, b2, b3, b4, b5⟩ := r2
          obtain ⟨b3, bne⟩ := put_new b3
          obtain ⟨ob, hob2, hob3⟩ := b4
          have f5 := ff.freeze hob2 b2 b3 (set_apart hlen b5 fun m' _ z => bne (by cases z; rfl))
          have k5 : Keep S3 ι3 H3 (fz1 S3 b) ι3 H3 := .fz1
          exact hfin _ _ _ ι3 H3 _ _ (f5.set_val j ((Sh.mono (a := b) k5 rfl ⟨ob, hob2, hob3⟩).frozen (.inr rfl))) (kp1.trans (kp3.trans k5)) p3
      | true =>
        cases kd2 with
        | fr =>
          dsimp only at p3
          split at p3
          · rename_i hm2
            obtain ⟨b, rfl, b1, b2, b3, b4, b5⟩ := r2
            obtain ⟨b3, bne⟩ := put_new b3
            exact hfin _ _ S3 ι3 H3 _ _ (ff.set_own j hm2 b1 b2 b3 b4 (set_apart hlen b5 fun m' _ z => bne (by cases z; rfl))) (kp1.trans kp3) p3
          · exact p3.elim
        | _ => exact p3.elim
    | _ => exact p1.elim
theorem ss_par (i j : Nat) (o1 o2 : Bool) {x y : Str} {px py pt pos : Pos} {kt k2 pt2} (hc : X.calm = true) (hN : X.N.Nodup) (h1 : SE X B W e1 f1) (h2 : ∀ B', SE X B' W e2 f2) (hi : X.N[i]? = some x := by rfl) (hj : X.N[j]? = some y := by rfl) (hij : i ≠ j := by decide)
    (hx : X.env.scope.names.lookup x = some .local := by rfl) (hy : X.env.scope.names.lookup y = some .local := by rfl)
    (hw : swappedStores [.Tuple [.Name x px, .Name y py] kt pt] (.Tuple [e1, e2] k2 pt2) X.env = pure (some [x, y]) := by rfl)
    (hs : swapsWithSole [.Tuple [.Name x px, .Name y py] kt pt] (.Tuple [e1, e2] k2 pt2) pos.line X.env = pure false := by rfl)
    (ha1 : starEach [e1, e2] X.env = (false, eval e1 X.env) :: starEach [e2] X.env := by rfl) (ha2 : starEach [e2] X.env = (false, eval e2 X.env) :: starEach [] X.env := by rfl) :
    SS X B W (.Assign [.Tuple [.Name x px, .Name y py] kt pt] (.Tuple [e1, e2] k2 pt2) pos) (sPar i j o1 o2 f1 f2) := by
  refine (ps_par hc hN hi hj hij hx hy (pa_cons h1 (pa_cons (PE.ex (t := fun B' => tE X.wd B' W f2) h2) pa_nil ha2) ha1) hw hs).fw fun D σ H ⟨S, ι, lo, st, fm, p⟩ => ?_
  exact par_core (R := fun v w H1 => ∃ v' w', [v, w] = [v', w'] ∧ D.nx ((σ.set i (some v')).set j (some w')) H1) i j o1 o2 fm p fun v w S' ι' H' lo' st' f k q => ⟨v, w, rfl, q S' ι' _ H' f k⟩
/-- .. where the pair is made first (a name that a comprehension reads) -/
theorem ss_parT (i j : Nat) (o1 o2 : Bool) {x y : Str} {px py pt pos : Pos} {kt k2 pt2} (hc : X.calm = true) (hN : X.N.Nodup) (h1 : SE X B W e1 f1) (h2 : ∀ B', SE X B' W e2 f2) (hi : X.N[i]? = some x := by rfl) (hj : X.N[j]? = some y := by rfl)
    (hx : L2.Loc X.env.scope x := by first | exact Or.inl rfl | exact Or.inr rfl) (hy : L2.Loc X.env.scope y := by first | exact Or.inl rfl | exact Or.inr rfl)
    (hfx : X.fn x = true ∨ X.env.scope.names.lookup x = some .local := by first | exact .inl rfl | exact .inr rfl) (hfy : X.fn y = true ∨ X.env.scope.names.lookup y = some .local := by first | exact .inl rfl | exact .inr rfl)
    (hw : swappedStores [.Tuple [.Name x px, .Name y py] kt pt] (.Tuple [e1, e2] k2 pt2) X.env = pure none := by rfl)
    (hs : swapsWithSole [.Tuple [.Name x px, .Name y py] kt pt] (.Tuple [e1, e2] k2 pt2) pos.line X.env = pure false := by rfl)
    (h3 : (assignEach [.Tuple [.Name x px, .Name y py] kt pt] X.env).map (·.2) = [assign (.Tuple [.Name x px, .Name y py] kt pt) X.env] := by rfl)
    (h4 : (assignEach [.Name x px, .Name y py] X.env).map (·.2) = assign (.Name x px) X.env :: (assignEach [.Name y py] X.env).map (·.2) := by rfl) (h5 : (assignEach [.Name y py] X.env).map (·.2) = assign (.Name y py) X.env :: (assignEach [] X.env).map (·.2) := by rfl)
    (hn : (assignEach [.Name x px, .Name y py] X.env).length = 2 := by rfl) (hst : (assignEach [.Name x px, .Name y py] X.env).findIdx? (·.1) = none := by rfl)
    (ha1 : starEach [e1, e2] X.env = (false, eval e1 X.env) :: starEach [e2] X.env := by rfl) (ha2 : starEach [e2] X.env = (false, eval e2 X.env) :: starEach [] X.env := by rfl) :
    SS X B W (.Assign [.Tuple [.Name x px, .Name y py] kt pt] (.Tuple [e1, e2] k2 pt2) pos) (sPar i j o1 o2 f1 f2) := by
  refine (ps_asg (pe_tup (pa_cons h1 (pa_cons (PE.ex (t := fun B' => tE X.wd B' W f2) h2) pa_nil ha2) ha1)) (pg_tup hc (pgs_cons (pg_name hN hi hx hfx) (pgs_cons (pg_name hN hj hy hfy) pgs_nil h5) h4) hn hst) hs hw h3).fw fun D σ H ⟨S, ι, lo, st, fm, p⟩ => ?_
  refine par_core (R := fun v w H1 => [v, w].length ≤ sizeLine ∧ ∀ t, H1 t = none → gTup X.K 2 (gCons (gName i) (gCons (gName j) gNil)) (.ref t) σ (upd H1 t (.tup [v, w])) fun σ' H' => D.nx σ' H') i j o1 o2 fm p fun v w S' ι' H' lo' st' f k q => ?_
  refine ⟨(by decide +kernel : (2 : Nat) ≤ sizeLine), fun t ht => ⟨t, [v, w], rfl, .of upd_same, rfl, v, [w], rfl, w, [], rfl, rfl, ?_⟩⟩
  exact q S' ι' _ _ (f.new ht) (k.trans ((Ext.new ht).keep f.rep))
def sPar3 (i j l : Nat) (f1 f2 f3 : EF) : SF := fun lo st => f1 lo st >>= fun r1 => frzd r1 >>= fun (m1, st1) => f2 lo st1 >>= fun r2 => frzd r2 >>= fun (m2, st2) => f3 lo st2 >>= fun r3 => frzd r3 >>= fun (m3, st3) =>
  .ok (.nx, ((lo.set i (some (m1, false))).set j (some (m2, false))).set l (some (m3, false)), st3)
theorem ss_par3 (i j l : Nat) {e3 : Expr} {f3 : EF} {x y z : Str} {px py pz pt pos : Pos} {kt k2 pt2} (hc : X.calm = true) (hN : X.N.Nodup) (h1 : SE X B W e1 f1) (h2 : SE X B W e2 f2) (h3 : SE X B W e3 f3) (hi : X.N[i]? = some x := by rfl) (hj : X.N[j]? = some y := by rfl) (hl : X.N[l]? = some z := by rfl)
    (hij : i ≠ j := by decide) (hil : i ≠ l := by decide) (hjl : j ≠ l := by decide)
    (hx : X.env.scope.names.lookup x = some .local := by rfl) (hy : X.env.scope.names.lookup y = some .local := by rfl) (hz : X.env.scope.names.lookup z = some .local := by rfl)
    (hw : swappedStores [.Tuple [.Name x px, .Name y py, .Name z pz] kt pt] (.Tuple [e1, e2, e3] k2 pt2) X.env = pure (some [x, y, z]) := by rfl)
    (hs : swapsWithSole [.Tuple [.Name x px, .Name y py, .Name z pz] kt pt] (.Tuple [e1, e2, e3] k2 pt2) pos.line X.env = pure false := by rfl)
    (ha1 : starEach [e1, e2, e3] X.env = (false, eval e1 X.env) :: starEach [e2, e3] X.env := by rfl) (ha2 : starEach [e2, e3] X.env = (false, eval e2 X.env) :: starEach [e3] X.env := by rfl) (ha3 : starEach [e3] X.env = (false, eval e3 X.env) :: starEach [] X.env := by rfl) :
    SS X B W (.Assign [.Tuple [.Name x px, .Name y py, .Name z pz] kt pt] (.Tuple [e1, e2, e3] k2 pt2) pos) (sPar3 i j l f1 f2 f3) := by
  refine (ps_par3 hc hN hi hj hl hij hil hjl hx hy hz (pa_cons h1 (pa_cons h2 (pa_cons h3 pa_nil ha3) ha2) ha1) hw hs).fw fun D σ H ⟨S, ι, lo, st, fm, p⟩ => ?_
  refine tE.use fm (Post.bind p) fun m k st1 S1 ι1 H1 v fm1 kp1 r1 p1 => ?_
  obtain ⟨⟨S2, fm2, kp2, d1⟩, p2⟩ := frzd_ok fm1 r1 p1
  have k2 := kp1.trans kp2
  refine tE.use fm2 (Post.bind (p2.mono k2 fun _ z => z)) fun m2 kd2 st2 S3 ι3 H3 w fm3 kp3 r2 p3 => ?_
  obtain ⟨⟨S4, fm4, kp4, d2⟩, p4⟩ := frzd_ok fm3 r2 p3
  have k4 := kp3.trans kp4
  refine tE.use fm4 (Post.bind (p4.mono k4 fun _ z => z)) fun m3 kd3 st3 S5 ι5 H5 u fm5 kp5 r3 p5 => ?_
  obtain ⟨⟨S6, fm6, kp6, d3⟩, p6⟩ := frzd_ok fm5 r3 p5
  have k6 := kp5.trans kp6
  exact ⟨v, w, u, rfl, p6 S6 ι5 _ H5 (((fm6.set_val i ((d1.mono k4).mono k6)).set_val j (d2.mono k6)).set_val l d3) (k2.trans (k4.trans k6))⟩

def sFz (i : Nat) (g : SF) : SF := fun lo st => match lo[i]? with
  | some (some (m, true)) => g (lo.set i (some (m, false))) st
  | _ => g lo st
theorem ss_fz (i : Nat) {s : Stmt} {g : SF} (h : SS X B W s g) : SS X B W s (sFz i g) := by
  refine h.fw fun D σ H ⟨S, ι, lo, st, fm, p⟩ => ?_
  unfold sFz at p
  split at p
  · rename_i m e
    obtain ⟨a, ea, n1, n2, n3, d⟩ := fm.loc.own i m e
    have hi : i < lo.length := (List.getElem?_eq_some_iff.mp e).1
    have hl := fm.loc.len
    -- the slot is out of sight, then it holds data
    have f0 : Fm X.wd B S ι H (lo.set i none) σ st := by
      have ne : ∀ {j : Nat} {z : MV × Bool}, (lo.set i none)[j]? = some (some z) → i ≠ j ∧ lo[j]? = some (some z) := fun {j z} h => by
        by_cases q : i = j
        · subst q
          rw [List.getElem?_set_self hi] at h; cases h
        · rw [List.getElem?_set_ne q] at h; exact ⟨q, h⟩
      refine ⟨fm.ext, fm.rep, ⟨by simp [hl], fun j n h => fm.loc.val j n (ne h).2, fun j n h => fm.loc.own j n (ne h).2, fun j k n n' b hjk h1 h2 => fm.loc.dis j k n n' b hjk (ne h1).2 (ne h2).2, fun j c fs h => fm.loc.pin j c fs (ne h).2⟩, fm.g⟩
    obtain ⟨o, ho, hob⟩ := d
    have ff := f0.freeze ho n2 n3 fun j m' h q => by
      have hj : i ≠ j := fun z => by subst z; rw [List.getElem?_set_self hi] at h; cases h
      rw [List.getElem?_set_ne hj] at h
      exact fm.loc.dis i j m m' a hj e h ea q
    have k1 : Keep S ι H (fz1 S a) ι H := .fz1
    have dd : Dt X.wd (fz1 S a) ι H (.ref a) m := (Sh.mono (a := a) k1 rfl ⟨o, ho, hob⟩).frozen (.inr rfl)
    have fs := ff.set_val i dd
    rw [List.set_set] at fs
    have es : σ.set i (some (.ref a)) = σ := by
      apply List.ext_getElem?
      intro j
      by_cases q : i = j
      · subst q; rw [List.getElem?_set_self (by omega), ea]
      · rw [List.getElem?_set_ne q]
    rw [es] at fs
    exact ⟨_, ι, _, st, fs, p.mono k1 fun r z => z.mono k1⟩
  · exact ⟨S, ι, lo, st, fm, p⟩

def mRev (fa : EF) : EF := fun lo st => fa lo st >>= fun (a, _, st1) => match vw st1 a with
  | .lst xs => .ok (.lst xs.reverse, .fr, st1)
  | _ => .bad
theorem AllD.reverse {mg : Wd} {S : Addr → Prop} {ι : List Addr} {H : Hp} {vs : List V} {ms : List MV} (d : AllD mg S ι H vs ms) : AllD mg S ι H vs.reverse ms.reverse := by
  refine ⟨by simp [d.1], fun i v m h1 h2 => ?_⟩
  have hi : i < vs.length := by have := (List.getElem?_eq_some_iff.mp h1).1; simpa using this
  rw [List.getElem?_reverse hi] at h1
  rw [List.getElem?_reverse (by rw [← d.1]; exact hi)] at h2
  rw [← d.1] at h2
  exact d.2 _ v m h1 h2
theorem se_revL {a : Expr} {fa : EF} {k : Nat} {p1 p2 p3 pos : Pos} (ha : SE X B W a fa) : SE X B W (.Subscript a (.Slice none none (some (.UnaryOp .USub (.Constant (.int 1) k p1) p2)) p3) pos) (mRev fa) := by
  refine (pe_revL ha).fw fun σ H Q ⟨S, ι, lo, st, fm, p⟩ => ?_
  refine tE.use fm (Post.bind p) fun m k st1 S1 ι1 H1 v fm1 kp1 r1 p1 => ?_
  obtain ⟨S1', f1', k1', h1⟩ := r1.hand fm1
  have vr := h1.vr f1'
  dsimp only at p1
  split at p1
  · rename_i xs e
    rw [e] at vr
    obtain ⟨q, vs, rfl, g, d⟩ := vr
    refine ⟨q, vs, rfl, .of g, fun r hr => ?_⟩
    exact wants_of (z := (.lst xs.reverse, true)) (st2 := st1) f1' p1 (kp1.trans k1') r _ hr ⟨_, rfl, d.reverse⟩
  · exact p1.elim

def strsOf : List MV → Option (List Str)
  | [] => some []
  | .str x :: ms => (strsOf ms).map (x :: ·)
  | _ :: _ => none
def gInT (neg : Bool) : G2
  | _, .str x, .tup ms => (strsOf ms).map fun xs => (.bl (if neg then !(xs.any fun y => decide (y = x)) else xs.any fun y => decide (y = x)), false)
  | _, _, _ => none
def gInC (neg : Bool) : G2
  | _, .str x, .str z => (match x.cps.toList with
    | [c] => some (.bl (if neg then !decide (c ∈ z.cps.toList) else decide (c ∈ z.cps.toList)), false)
    | _ => none)
  | _, _, _ => none
theorem strs_of {mg : Wd} {S : Addr → Prop} {ι : List Addr} {H : Hp} : ∀ {ms : List MV} {vs : List V} {xs : List Str}, AllD mg S ι H vs ms → strsOf ms = some xs → vs = xs.map V.str
  | [], vs, xs, d, e => by
    obtain rfl := d.inv_nil
    cases e; rfl
  | m :: ms, vs, xs, d, e => by
    obtain ⟨v, vs', rfl, d1, dr⟩ := d.inv_cons
    cases m with
    | str x =>
      have e' : (strsOf ms).map (x :: ·) = some xs := e
      obtain ⟨ys, h1, rfl⟩ := Option.map_eq_some_iff.mp e'
      cases d1
      rw [strs_of dr h1]; rfl
    | _ => cases e
theorem inV_strs (x : Str) : ∀ xs : List Str, inV (.str x) (xs.map V.str) = xs.any fun y => decide (y = x)
  | [] => rfl
  | y :: xs => by
    show ((V.str y :: xs.map V.str).any _) = _
    rw [List.any_cons, List.any_cons]
    have := inV_strs x xs
    unfold inV at this
    rw [this]
    have e : eqV (.str y) (.str x) = decide (y = x) := by
      unfold eqV
      by_cases h : y = x
      · subst h; simp
      · simp [h]
    rw [e]
theorem all_flat : ∀ xs : List Str, (xs.map V.str).all flatV = true
  | [] => rfl
  | x :: xs => by rw [List.map_cons, List.all_cons, all_flat xs]; rfl
theorem ok_inT {neg : Bool} : Op2 X (rIn X.K neg) (gInT neg) := by
  intro S ι H st x y a b z Q hr ha hb e w
  unfold gInT at e
  split at e
  · rename_i s ms
    obtain ⟨xs, hx, rfl⟩ := Option.map_eq_some_iff.mp e
    obtain ⟨p, vs, rfl, g, d⟩ := hb
    cases ha
    have ev := strs_of d hx
    subst ev
    refine ⟨p, _, rfl, .inr (.of g), rfl, all_flat xs, ?_⟩
    rw [inV_strs]
    exact w _ (.bl _)
  · cases e
abbrev rSign (neg : Bool) : R2 := fun x y H Q => ∃ (c : Nat) (z : Str), x = .str ⟨#[c]⟩ ∧ y = .str z ∧ Q (.bl (if neg then !decide (c ∈ z.cps.toList) else decide (c ∈ z.cps.toList))) H
theorem ok_inC {neg : Bool} : Op2 X (rSign neg) (gInC neg) := by
  intro S ι H st x y a b z Q hr ha hb e w
  unfold gInC at e
  split at e
  · rename_i s t
    split at e
    · rename_i c hc
      cases e
      cases ha; cases hb
      have hs : s = ⟨#[c]⟩ := by
        obtain ⟨a⟩ := s
        have ha : a = #[c] := Array.ext' (by simpa using hc)
        rw [ha]
      subst hs
      exact ⟨c, t, rfl, rfl, w _ (.bl _)⟩
    · cases e
  · cases e
theorem op_sign : OpR X (compareOp .In) (rSign false) := op_in_sign
theorem op_nsign : OpR X (compareOp .NotIn) (rSign true) := op_notIn_sign
def gInA (neg : Bool) : G2 := fun st a b => (gIn neg st a b).or ((gInT neg st a b).or (gInC neg st a b))
section
variable {a b : Expr} {fa fb : EF} {pos : Pos} {k : Nat}
theorem se_inA (hr : RoomG k X.A) (ha : SE X B W a fa) (hb : SE X B W b fb) (hm : behindInMarks .In b = false := by first | exact nomark _ | rfl) : SE X B W (.Compare a [.In] [b] pos) (mOp (gInA false) fa fb) :=
  se_cmp ((op_inD (by have := hr.r.un; omega)).or (op_in_seq.or op_sign)) (Op2.or ok_in (Op2.or ok_inT ok_inC)) ha hb hm
theorem se_notInA (hr : RoomG k X.A) (ha : SE X B W a fa) (hb : SE X B W b fb) (hm : behindInMarks .NotIn b = false := by first | exact nomark _ | rfl) : SE X B W (.Compare a [.NotIn] [b] pos) (mOp (gInA true) fa fb) :=
  se_cmp ((op_notInD (by have := hr.r.un; omega)).or (op_notIn_seq.or op_nsign)) (Op2.or ok_notIn (Op2.or ok_inT ok_inC)) ha hb hm
theorem st_inA (hr : RoomG k X.A) (ha : SE X B W a fa) (hb : SE X B W b fb) (hm : behindInMarks .In b = false := by first | exact nomark _ | rfl) : STe X B W (.Compare a [.In] [b] pos) (mTv (mOp (gInA false) fa fb)) :=
  st_cmp ((op_inD (by have := hr.r.un; omega)).or (op_in_seq.or op_sign)) (Op2.or ok_in (Op2.or ok_inT ok_inC)) ha hb hm
theorem st_notInA (hr : RoomG k X.A) (ha : SE X B W a fa) (hb : SE X B W b fb) (hm : behindInMarks .NotIn b = false := by first | exact nomark _ | rfl) : STe X B W (.Compare a [.NotIn] [b] pos) (mTv (mOp (gInA true) fa fb)) :=
  st_cmp ((op_notInD (by have := hr.r.un; omega)).or (op_notIn_seq.or op_nsign)) (Op2.or ok_notIn (Op2.or ok_inT ok_inC)) ha hb hm
end

def intsOf : List MV → Option (List Int)
  | [] => some []
  | .int x :: ms => (intsOf ms).map (x :: ·)
  | _ :: _ => none
def maxI : List Int → Int
  | [] => 0
  | [x] => x
  | x :: xs => if maxI xs < x then x else maxI xs
def minI : List Int → Int
  | [] => 0
  | [x] => x
  | x :: xs => if x < minI xs then x else minI xs
theorem maxI_spec : ∀ {xs : List Int}, xs ≠ [] → maxI xs ∈ xs ∧ ∀ y, y ∈ xs → y ≤ maxI xs
  | [], h => absurd rfl h
  | [x], _ => ⟨List.mem_singleton.mpr rfl, fun y hy => by rw [List.mem_singleton] at hy; subst hy; exact Int.le_refl _⟩
  | x :: z :: xs, _ => by
    obtain ⟨h1, h2⟩ := maxI_spec (xs := z :: xs) (fun q => by cases q)
    have e : maxI (x :: z :: xs) = if maxI (z :: xs) < x then x else maxI (z :: xs) := rfl
    rw [e]
    split
    · refine ⟨List.mem_cons_self, fun y hy => ?_⟩
      rcases List.mem_cons.mp hy with rfl | hy
      · exact Int.le_refl _
      · have := h2 y hy; omega
    · refine ⟨List.mem_cons_of_mem _ h1, fun y hy => ?_⟩
      rcases List.mem_cons.mp hy with rfl | hy
      · omega
      · exact h2 y hy
theorem minI_spec : ∀ {xs : List Int}, xs ≠ [] → minI xs ∈ xs ∧ ∀ y, y ∈ xs → minI xs ≤ y
  | [], h => absurd rfl h
  | [x], _ => ⟨List.mem_singleton.mpr rfl, fun y hy => by rw [List.mem_singleton] at hy; subst hy; exact Int.le_refl _⟩
  | x :: z :: xs, _ => by
    obtain ⟨h1, h2⟩ := minI_spec (xs := z :: xs) (fun q => by cases q)
    have e : minI (x :: z :: xs) = if x < minI (z :: xs) then x else minI (z :: xs) := rfl
    rw [e]
    split
    · refine ⟨List.mem_cons_self, fun y hy => ?_⟩
      rcases List.mem_cons.mp hy with rfl | hy
      · exact Int.le_refl _
      · have := h2 y hy; omega
    · refine ⟨List.mem_cons_of_mem _ h1, fun y hy => ?_⟩
      rcases List.mem_cons.mp hy with rfl | hy
      · omega
      · exact h2 y hy
theorem ints_of {mg : Wd} {S : Addr → Prop} {ι : List Addr} {H : Hp} : ∀ {ms : List MV} {vs : List V} {xs : List Int}, AllD mg S ι H vs ms → intsOf ms = some xs → vs = xs.map V.int
  | [], vs, xs, d, e => by
    obtain rfl := d.inv_nil
    cases e; rfl
  | m :: ms, vs, xs, d, e => by
    obtain ⟨v, vs', rfl, d1, dr⟩ := d.inv_cons
    cases m with
    | int x =>
      have e' : (intsOf ms).map (x :: ·) = some xs := e
      obtain ⟨ys, h1, rfl⟩ := Option.map_eq_some_iff.mp e'
      cases d1
      rw [ints_of dr h1]; rfl
    | _ => cases e
theorem intsOf_map (xs : List Int) : intsOf (xs.map MV.int) = some xs := by
  induction xs with
  | nil => rfl
  | cons x xs ih => rw [List.map_cons]; show (intsOf (xs.map MV.int)).map (x :: ·) = _; rw [ih]; rfl
theorem strsOf_map (xs : List Str) : strsOf (xs.map MV.str) = some xs := by
  induction xs with
  | nil => rfl
  | cons x xs ih => rw [List.map_cons]; show (strsOf (xs.map MV.str)).map (x :: ·) = _; rw [ih]; rfl
def gMaxL : GL
  | _, [.lst ms] => (intsOf ms).bind fun ns => if ns = [] then none else some (.int (maxI ns), false)
  | _, _ => none
def gMinL : GL
  | _, [.lst ms] => (intsOf ms).bind fun ns => if ns = [] then none else some (.int (minI ns), false)
  | _, _ => none
theorem ok_maxL : CallOk X (rMax X.K) gMaxL := by
  intro S ι H st vs as z Q hr ha e w
  unfold gMaxL at e
  split at e
  · rename_i ms
    obtain ⟨ns, h1, h2⟩ := Option.bind_eq_some_iff.mp e
    split at h2
    · cases h2
    rename_i hne
    cases h2
    obtain ⟨v, rfl, p, ws, rfl, g, d⟩ := ha.one
    have ev := ints_of d h1
    subst ev
    refine ⟨p, ns, rfl, .of g, List.length_pos_iff.mpr hne, fun m hm hall => ?_⟩
    obtain ⟨s1, s2⟩ := maxI_spec hne
    have : m = maxI ns := Int.le_antisymm (s2 m hm) (hall _ s1)
    rw [this]
    exact w _ (.int _)
  · cases e
theorem ok_minL : CallOk X (rMin X.K) gMinL := by
  intro S ι H st vs as z Q hr ha e w
  unfold gMinL at e
  split at e
  · rename_i ms
    obtain ⟨ns, h1, h2⟩ := Option.bind_eq_some_iff.mp e
    split at h2
    · cases h2
    rename_i hne
    cases h2
    obtain ⟨v, rfl, p, ws, rfl, g, d⟩ := ha.one
    have ev := ints_of d h1
    subst ev
    refine ⟨p, ns, rfl, .of g, List.length_pos_iff.mpr hne, fun m hm hall => ?_⟩
    obtain ⟨s1, s2⟩ := minI_spec hne
    have : m = minI ns := Int.le_antisymm (hall _ s1) (s2 m hm)
    rw [this]
    exact w _ (.int _)
  · cases e
def gMax3 : GL
  | _, [.int i, .int j, .int k] => some (.int (if (if i < j then j else i) < k then k else (if i < j then j else i)), false)
  | _, _ => none
theorem VRs.three {mg : Wd} {S : Addr → Prop} {ι : List Addr} {H : Hp} {vs : List V} {a b c : MV} (h : VRs mg S ι H vs [a, b, c]) : ∃ u v w, vs = [u, v, w] ∧ VR mg S ι H u a ∧ VR mg S ι H v b ∧ VR mg S ι H w c := by
  obtain ⟨hl, h⟩ := h
  match vs, hl with
  | [u, v, w], _ => exact ⟨u, v, w, rfl, h 0 u a rfl rfl, h 1 v b rfl rfl, h 2 w c rfl rfl⟩
theorem ok_max3 : CallOk X (rNuC3 nuMax3) gMax3 := by
  intro S ι H st vs as z Q hr ha e w
  unfold gMax3 at e
  split at e
  · cases e
    obtain ⟨u, v, x, rfl, rfl, rfl, rfl⟩ := ha.three
    refine ⟨_, _, _, .int _, rfl, ?_, w _ (.int _)⟩
    rename_i i j k
    have l2 : ∀ i j : Int, nuMax2 (.int i) (.int j) = some (.int (if i < j then j else i)) := fun i j => by
      unfold nuMax2
      show (some (decide (i < j))).map _ = _
      by_cases h : i < j <;> simp [h]
    unfold nuMax3
    rw [l2]
    show nuMax2 (.int _) (.int k) = _
    rw [l2]
  · cases e

def iStrM (f : EF) : IFn := fun lo st => f lo st >>= fun (m, _, st1) => match m with
  | .str z => .ok (z.cps.toList.map fun c => .str ⟨#[c]⟩, fun _ _ => True, st1)
  | _ => .bad
theorem si_str {tg e : Expr} {f : EF} (he : SE X B W e f) : SI X B W tg e (iStrM f) := by
  refine (pi_str he).fw fun σ H R ⟨S, ι, lo, st, fm, p⟩ => ?_
  refine tE.use fm (Post.bind p) fun m k st1 S1 ι1 H1 v f1 k1 r1 p1 => ?_
  obtain ⟨S1', f1', k1', h1⟩ := r1.hand f1
  have vr := h1.vr f1'
  dsimp only at p1
  split at p1
  · rename_i z
    cases vr
    refine ⟨z, rfl, p1 S1' ι1 H1 _ f1' (k1.trans k1') ?_ trivial⟩
    intro B2 i S2 ι2 H2 lo2 σ2 st2 f2 k2 _
    refine ⟨fun m hm => ?_, fun hl => ?_⟩
    · rw [List.getElem?_map] at hm
      obtain ⟨c, hc, rfl⟩ := Option.map_eq_some_iff.mp hm
      have hc' : z.cps[i]? = some c := by rw [← hc]; simp
      refine ⟨(show i < z.cps.size from by have := (List.getElem?_eq_some_iff.mp hc).1; simpa using this), fun x H' y => ?_⟩
      obtain ⟨rfl, c2, h2, rfl⟩ := y
      rw [hc'] at h2; cases h2
      exact ⟨S2, f2, .refl, .str _⟩
    · show z.cps.size ≤ i
      simpa using hl
  · exact p1.elim
end
end FW

namespace FW
open PySem L2 PySem.Spec PyProof.Rows

def ES : List Str := ["InvalidNumber", "InvalidList", "InvalidItem", "InvalidProgram", "InvalidRow", "InvalidText", "InvalidName", "TakenName", "UnknownName"]
def CS : List Str := ["Program", "Tested", "Live", "Library", "Window", "Book", "Cover", "Below"]
/-- an own class among those told: no -/
def eqf (l : List Str) : Str → Option Bool := fun c => if c ∈ l then some false else none
theorem eqf_use {l : List Str} {mg : Str → Option Value} {R : Addr → Bool → Prop} (h : ∀ c, c ∈ l → ∀ C, mg c = some (.ref C) → R C false) : ∀ n C b, eqf l n = some b → mg n = some (.ref C) → R C b := by
  intro n C b e hm
  unfold eqf at e
  split at e
  · rename_i m
    cases e
    exact h n m C hm
  · cases e
section
variable {X : Cx} {B : Base} {W : WX} {b : Expr} {fb : EF} {p p' pos pos' : Pos}
theorem se_listRg1 (hc : X.calm = true) (hg : Gl X "list") (hm : X.mg "list" = none) (hg' : Gl X "range") (hm' : X.mg "range" = none) (hb : SE X B W b fb)
    (nb : starEach [b] X.env = (false, eval b X.env) :: starEach [] X.env := by rfl)
    (nn : starEach [.Call (.Name "range" p') [b] [] pos'] X.env = (false, eval (.Call (.Name "range" p') [b] [] pos') X.env) :: starEach [] X.env := by rfl) :
    SE X B W (.Call (.Name "list" p) [.Call (.Name "range" p') [b] [] pos'] [] pos) (mRg (mC (.int 0)) fb) := by
  refine (pe_listRg hc hg hm (prg_1 hg' hm' hb nb) nn).fw fun σ H Q ⟨S, ι, lo, st, fm, p⟩ => ?_
  unfold mRg mC at p
  simp only [Res.ok_bind] at p
  refine tE.use fm (Post.bind p) fun b kb st2 S2 ι2 H2 y f2 k2 r2 p2 => ?_
  obtain ⟨S2', f2', k2', h2⟩ := r2.hand f2
  have v2 := h2.vr f2'
  dsimp only at p2
  split at p2
  · rename_i i j hi
    split at p2
    · cases hi
      cases v2
      refine ⟨_, rfl, by assumption, fun q hq => ?_⟩
      exact wants_of (z := (.lst _, true)) (st2 := st2) f2' p2 (k2.trans k2') q _ hq ⟨_, rfl, allD_rg _ _⟩
    · exact p2.elim
  · exact p2.elim
end
section
variable {X : Cx} {B : Base} {W : WX} {a b c : Expr} {fa fb fc : EF} {pos : Pos}
theorem st_lele (ha : SE X B W a fa) (hb : SE X B W b fb) (hc : SE X B W c fc) (hm : lastMarks [.LtE, .LtE] [b, c] = false := by with_unfolding_all rfl) : STe X B W (.Compare a [.LtE, .LtE] [b, c] pos) (mTv (mChain gLe gLe fa fb fc)) :=
  st_chain op_le op_le (ok_i0 fun _ _ _ _ _ _ => .bl _) (ok_i0 fun _ _ _ _ _ _ => .bl _) ha hb hc hm
theorem st_lelt (ha : SE X B W a fa) (hb : SE X B W b fb) (hc : SE X B W c fc) (hm : lastMarks [.LtE, .Lt] [b, c] = false := by with_unfolding_all rfl) : STe X B W (.Compare a [.LtE, .Lt] [b, c] pos) (mTv (mChain gLe gLt fa fb fc)) :=
  st_chain op_le op_lt (ok_i0 fun _ _ _ _ _ _ => .bl _) (ok_i0 fun _ _ _ _ _ _ => .bl _) ha hb hc hm
theorem st_ltlt (ha : SE X B W a fa) (hb : SE X B W b fb) (hc : SE X B W c fc) (hm : lastMarks [.Lt, .Lt] [b, c] = false := by with_unfolding_all rfl) : STe X B W (.Compare a [.Lt, .Lt] [b, c] pos) (mTv (mChain gLt gLt fa fb fc)) :=
  st_chain op_lt op_lt (ok_i0 fun _ _ _ _ _ _ => .bl _) (ok_i0 fun _ _ _ _ _ _ => .bl _) ha hb hc hm
end
section
variable (lo : Lo) (st : Sto)
theorem d_runI (c : Str) (n : Nat) (g : SF) (ms : List MV) : runI c n g ms st = (match g (startI c n ms) st with
  | .ok (.nx, lo, st') => (match selfOf lo with
    | some m => .ok (m, true, st')
    | none => .bad)
  | .ok _ => .bad
  | .exc c fs lo st' => .exc c fs lo st'
  | .bad => .bad) := (Eq.refl _).trans rfl
@[simp] theorem d_mMeth (c m : Str) (n : Nat) (F : FF) (fo : EF) (g : AF) : mMeth c m n F fo g lo st = (fo lo st >>= fun (t, k, st1) => if isPk k = false ∧ insOf c m (vw st1 t) = true then g lo st1 >>= fun (l, st2) => callF n F [] ((t, false) :: l) lo st2 else .bad) := (Eq.refl _).trans rfl
@[simp] theorem d_insOf (c m : Str) (fs) : insOf c m (.ins c fs) = (fs.lookup m).isNone := by
  show (decide (c = c) && (fs.lookup m).isNone) = _
  rw [decide_eq_true rfl, Bool.true_and]
@[simp] theorem d_sPutF (f : Str) (oi) (fe fo : EF) : sPutF f oi fe fo lo st = (fe lo st >>= fun r => frzd r >>= fun (m, st1) => fo lo st1 >>= fun (t, k, st2) => match targetOf t k lo st2 with
  | some (.ins c fs) => if oi c = true ∧ fs.length < 1000 then .ok (.nx, (putBack t k (.ins c (putM f m fs)) lo st2).1, (putBack t k (.ins c (putM f m fs)) lo st2).2) else .bad
  | _ => .bad) := (Eq.refl _).trans rfl
@[simp] theorem d_sPar (i j o1 o2) (f1 f2 : EF) : sPar i j o1 o2 f1 f2 lo st = (f1 lo st >>= fun r1 => takeK o1 r1 >>= fun (m1, st1) =>
  (if o1 = true then noExc (f2 lo st1) else f2 lo st1) >>= fun r2 => takeK o2 r2 >>= fun (m2, st2) => .ok (.nx, (lo.set i (some (m1, o1))).set j (some (m2, o2)), st2)) := (Eq.refl _).trans rfl
@[simp] theorem d_sPar3 (i j l) (f1 f2 f3 : EF) : sPar3 i j l f1 f2 f3 lo st = (f1 lo st >>= fun r1 => frzd r1 >>= fun (m1, st1) => f2 lo st1 >>= fun r2 => frzd r2 >>= fun (m2, st2) => f3 lo st2 >>= fun r3 => frzd r3 >>= fun (m3, st3) =>
  .ok (.nx, ((lo.set i (some (m1, false))).set j (some (m2, false))).set l (some (m3, false)), st3)) := (Eq.refl _).trans rfl
@[simp] theorem d_takeF (r) : takeK false r = frzd r := (Eq.refl _).trans rfl
@[simp] theorem d_takeT (m : MV) : takeK true (m, .fr, st) = if ownOk m = true then .ok (m, st) else .bad := (Eq.refl _).trans rfl
@[simp] theorem d_noExc {α : Type} (a : α) : noExc (.ok a) = .ok a := (Eq.refl _).trans rfl
@[simp] theorem d_sFz (i : Nat) (g : SF) : sFz i g lo st = (match lo[i]? with
  | some (some (m, true)) => g (lo.set i (some (m, false))) st
  | _ => g lo st) := (Eq.refl _).trans rfl
@[simp] theorem d_mRev (fa : EF) : mRev fa lo st = (fa lo st >>= fun (a, _, st1) => match vw st1 a with
  | .lst xs => .ok (.lst xs.reverse, .fr, st1)
  | _ => .bad) := (Eq.refl _).trans rfl
end
end FW

namespace FW
open PySem L2 PySem.Spec PyProof.Rows

mutual
def md : MV → PyData
  | .non => .none
  | .bl b => .bool b
  | .int i => .int i
  | .str x => .str x
  | .tup xs => .tuple (mds xs)
  | .lst xs => .list (mds xs)
  | .dct _ => .dict []
  | .ins _ _ => .none
  | .exc _ _ => .none
  | .ref _ => .none
  | .scr _ => .none
def mds : List MV → List PyData
  | [] => []
  | x :: xs => md x :: mds xs
end
/-- plain data, not deeper than n -/
def gd : Nat → MV → Bool
  | 0, _ => false
  | _ + 1, .non => true
  | _ + 1, .bl _ => true
  | _ + 1, .int i => decide (i.natAbs.log2 < 1600)
  | _ + 1, .str x => PyData.strOk x
  | n + 1, .tup xs => xs.all (gd n)
  | n + 1, .lst xs => xs.all (gd n)
  | _, _ => false
/-- .. or {} -/
def gx : Nat → MV → Bool
  | 0, _ => false
  | _ + 1, .non => true
  | _ + 1, .bl _ => true
  | _ + 1, .int i => decide (i.natAbs.log2 < 1600)
  | _ + 1, .str x => PyData.strOk x
  | n + 1, .tup xs => xs.all (gx n)
  | n + 1, .lst xs => xs.all (gx n)
  | _ + 1, .dct [] => true
  | _, _ => false
mutual
def wt : MV → Nat
  | .non => 5
  | .bl _ => 5
  | .int _ => 501
  | .str x => 10 * x.length + 2
  | .tup xs => wts xs + 3
  | .lst xs => wts xs + 3
  | .dct _ => 5
  | .ins _ _ => 0
  | .exc _ _ => 0
  | .ref _ => 0
  | .scr _ => 0
def wts : List MV → Nat
  | [] => 0
  | x :: xs => wt x + 2 + wts xs
end
abbrev rp (m : MV) : Str := (md m).shown
theorem mds_map (xs : List MV) : mds xs = xs.map md := by
  induction xs with
  | nil => simp [mds]
  | cons x xs ih => simp [mds, ih]
theorem gd_tup {n : Nat} {xs : List MV} (h : ∀ x, x ∈ xs → gd n x = true) : gd (n + 1) (.tup xs) = true := List.all_eq_true.mpr h
theorem gd_lst {n : Nat} {xs : List MV} (h : ∀ x, x ∈ xs → gd n x = true) : gd (n + 1) (.lst xs) = true := List.all_eq_true.mpr h
theorem gd_int {n : Nat} {i : Int} (h : i.natAbs < 10 ^ 400) : gd (n + 1) (.int i) = true := by
  have h2 : i.natAbs < 2 ^ 1600 := Nat.lt_of_lt_of_le h (by decide +kernel)
  show decide (i.natAbs.log2 < 1600) = true
  rw [decide_eq_true_eq]
  by_cases z : i.natAbs = 0
  · rw [z]; decide
  · exact (Nat.log2_lt z).mpr h2
theorem gd_up : ∀ {n : Nat} {m : MV}, gd n m = true → gd (n + 1) m = true
  | 0, _, h => by cases h
  | n + 1, .non, _ => rfl
  | n + 1, .bl _, _ => rfl
  | n + 1, .int _, h => h
  | n + 1, .str _, h => h
  | n + 1, .tup xs, h => List.all_eq_true.mpr fun x hx => gd_up (List.all_eq_true.mp h x hx)
  | n + 1, .lst xs, h => List.all_eq_true.mpr fun x hx => gd_up (List.all_eq_true.mp h x hx)
  | n + 1, .dct _, h => by cases h
  | n + 1, .ins _ _, h => by cases h
  | n + 1, .exc _ _, h => by cases h
  | n + 1, .ref _, h => by cases h
  | n + 1, .scr _, h => by cases h
theorem gx_up : ∀ {n : Nat} {m : MV}, gx n m = true → gx (n + 1) m = true
  | 0, _, h => by cases h
  | n + 1, .non, _ => rfl
  | n + 1, .bl _, _ => rfl
  | n + 1, .int _, h => h
  | n + 1, .str _, h => h
  | n + 1, .tup xs, h => List.all_eq_true.mpr fun x hx => gx_up (List.all_eq_true.mp h x hx)
  | n + 1, .lst xs, h => List.all_eq_true.mpr fun x hx => gx_up (List.all_eq_true.mp h x hx)
  | n + 1, .dct [], _ => rfl
  | n + 1, .dct (_ :: _), h => by cases h
  | n + 1, .ins _ _, h => by cases h
  | n + 1, .exc _ _, h => by cases h
  | n + 1, .ref _, h => by cases h
  | n + 1, .scr _, h => by cases h
theorem gx_le {n k : Nat} {m : MV} (h : gx n m = true) (hk : n ≤ k) : gx k m = true := by
  induction hk with
  | refl => exact h
  | step _ ih => exact gx_up ih
theorem gx_tup {n : Nat} {xs : List MV} (h : ∀ x, x ∈ xs → gx n x = true) : gx (n + 1) (.tup xs) = true := List.all_eq_true.mpr h
theorem gx_lst {n : Nat} {xs : List MV} (h : ∀ x, x ∈ xs → gx n x = true) : gx (n + 1) (.lst xs) = true := List.all_eq_true.mpr h
theorem gd_gx : ∀ {n : Nat} {m : MV}, gd n m = true → gx n m = true
  | 0, _, h => by cases h
  | n + 1, .non, _ => rfl
  | n + 1, .bl _, _ => rfl
  | n + 1, .int _, h => h
  | n + 1, .str _, h => h
  | n + 1, .tup xs, h => List.all_eq_true.mpr fun x hx => gd_gx (List.all_eq_true.mp h x hx)
  | n + 1, .lst xs, h => List.all_eq_true.mpr fun x hx => gd_gx (List.all_eq_true.mp h x hx)
  | n + 1, .dct _, h => by cases h
  | n + 1, .ins _ _, h => by cases h
  | n + 1, .exc _ _, h => by cases h
  | n + 1, .ref _, h => by cases h
  | n + 1, .scr _, h => by cases h
theorem gx_vw {n : Nat} {m : MV} (h : gx n m = true) (st : Sto) : vw st m = m := by
  cases n with
  | zero => cases h
  | succ n => cases m <;> first | rfl | (cases h)
theorem gd_le {n k : Nat} {m : MV} (h : gd n m = true) (hk : n ≤ k) : gd k m = true := by
  induction hk with
  | refl => exact h
  | step _ ih => exact gd_up ih
theorem gd_vw {n : Nat} {m : MV} (h : gd n m = true) (st : Sto) : vw st m = m := by
  cases n with
  | zero => cases h
  | succ n => cases m <;> first | rfl | (cases h)
theorem mapO_eq {β γ : Type} {f : β → Option γ} {h : β → γ} : ∀ {l : List β}, (∀ a, a ∈ l → f a = some (h a)) → mapO f l = some (l.map h)
  | [], _ => rfl
  | a :: l, e => by
    rw [List.map_cons]
    unfold mapO
    rw [e a (List.mem_cons_self ..), mapO_eq fun b hb => e b (List.mem_cons_of_mem _ hb)]
theorem toD_gd (st : Sto) : ∀ {n : Nat} {m : MV}, gd n m = true → toD st n m = some (md m)
  | 0, _, h => by cases h
  | n + 1, .non, _ => by simp [toD, md]
  | n + 1, .bl _, _ => by simp [toD, md]
  | n + 1, .int _, _ => by simp [toD, md]
  | n + 1, .str _, _ => by simp [toD, md]
  | n + 1, .tup xs, h => by
    have e := mapO_eq (f := toD st n) (h := md) fun x hx => toD_gd st (List.all_eq_true.mp h x hx)
    simp [toD, md, e, mds_map]
  | n + 1, .lst xs, h => by
    have e := mapO_eq (f := toD st n) (h := md) fun x hx => toD_gd st (List.all_eq_true.mp h x hx)
    simp [toD, md, e, mds_map]
  | n + 1, .dct _, h => by cases h
  | n + 1, .ins _ _, h => by cases h
  | n + 1, .exc _ _, h => by cases h
  | n + 1, .ref _, h => by cases h
  | n + 1, .scr _, h => by cases h
theorem toX_gx (st : Sto) : ∀ {n : Nat} {m : MV}, gx n m = true → toX st n m = some (md m)
  | 0, _, h => by cases h
  | n + 1, .non, _ => by simp [toX, md]
  | n + 1, .bl _, _ => by simp [toX, md]
  | n + 1, .int _, _ => by simp [toX, md]
  | n + 1, .str _, _ => by simp [toX, md]
  | n + 1, .tup xs, h => by
    have e := mapO_eq (f := toX st n) (h := md) fun x hx => toX_gx st (List.all_eq_true.mp h x hx)
    simp [toX, md, e, mds_map]
  | n + 1, .lst xs, h => by
    have e := mapO_eq (f := toX st n) (h := md) fun x hx => toX_gx st (List.all_eq_true.mp h x hx)
    simp [toX, md, e, mds_map]
  | n + 1, .dct [], _ => by simp [toX, md]
  | n + 1, .dct (_ :: _), h => by cases h
  | n + 1, .ins _ _, h => by cases h
  | n + 1, .exc _ _, h => by cases h
  | n + 1, .ref _, h => by cases h
  | n + 1, .scr _, h => by cases h
theorem lay_all {xs : List MV} (h : ∀ x, x ∈ xs → (md x).canLay0 = true) : PyData.canLayAll0 (mds xs) = true := by
  induction xs with
  | nil => simp [mds, PyData.canLayAll0]
  | cons x xs ih => simp [mds, PyData.canLayAll0, h x (List.mem_cons_self ..), ih fun y hy => h y (List.mem_cons_of_mem _ hy)]
theorem lay_gd : ∀ {n : Nat} {m : MV}, gd n m = true → (md m).canLay0 = true
  | 0, _, h => by cases h
  | n + 1, .non, _ => by simp [md, PyData.canLay0]
  | n + 1, .bl _, _ => by simp [md, PyData.canLay0]
  | n + 1, .int _, _ => by simp [md, PyData.canLay0]
  | n + 1, .str x, h => by
    have h' : PyData.strOk x = true := h
    simp [md, PyData.canLay0, h']
  | n + 1, .tup xs, h => by
    have := lay_all fun x hx => lay_gd (List.all_eq_true.mp h x hx)
    simp [md, PyData.canLay0, this]
  | n + 1, .lst xs, h => by
    have := lay_all fun x hx => lay_gd (List.all_eq_true.mp h x hx)
    simp [md, PyData.canLay0, this]
  | n + 1, .dct _, h => by cases h
  | n + 1, .ins _ _, h => by cases h
  | n + 1, .exc _ _, h => by cases h
  | n + 1, .ref _, h => by cases h
  | n + 1, .scr _, h => by cases h
theorem dep_all {xs : List MV} {n : Nat} (h : ∀ x, x ∈ xs → (md x).depth ≤ n) : PyData.depthAll (mds xs) ≤ n := by
  induction xs with
  | nil => simp [mds, PyData.depthAll]
  | cons x xs ih =>
    have h1 := h x (List.mem_cons_self ..)
    have h2 := ih fun y hy => h y (List.mem_cons_of_mem _ hy)
    simp only [mds, PyData.depthAll]
    omega
theorem dep_gd : ∀ {n : Nat} {m : MV}, gd n m = true → (md m).depth ≤ n
  | 0, _, h => by cases h
  | n + 1, .non, _ => by simp [md, PyData.depth]
  | n + 1, .bl _, _ => by simp [md, PyData.depth]
  | n + 1, .int _, _ => by simp [md, PyData.depth]
  | n + 1, .str x, _ => by simp [md, PyData.depth]
  | n + 1, .tup xs, h => by
    have := dep_all fun x hx => dep_gd (List.all_eq_true.mp h x hx)
    simp only [md, PyData.depth]; omega
  | n + 1, .lst xs, h => by
    have := dep_all fun x hx => dep_gd (List.all_eq_true.mp h x hx)
    simp only [md, PyData.depth]; omega
  | n + 1, .dct _, h => by cases h
  | n + 1, .ins _ _, h => by cases h
  | n + 1, .exc _ _, h => by cases h
  | n + 1, .ref _, h => by cases h
  | n + 1, .scr _, h => by cases h
theorem dep_gx : ∀ {n : Nat} {m : MV}, gx n m = true → (md m).depth ≤ n
  | 0, _, h => by cases h
  | n + 1, .non, _ => by simp [md, PyData.depth]
  | n + 1, .bl _, _ => by simp [md, PyData.depth]
  | n + 1, .int _, _ => by simp [md, PyData.depth]
  | n + 1, .str x, _ => by simp [md, PyData.depth]
  | n + 1, .tup xs, h => by
    have := dep_all fun x hx => dep_gx (List.all_eq_true.mp h x hx)
    simp only [md, PyData.depth]; omega
  | n + 1, .lst xs, h => by
    have := dep_all fun x hx => dep_gx (List.all_eq_true.mp h x hx)
    simp only [md, PyData.depth]; omega
  | n + 1, .dct [], _ => by simp [md, PyData.depth, PyData.depthKv]
  | n + 1, .dct (_ :: _), h => by cases h
  | n + 1, .ins _ _, h => by cases h
  | n + 1, .exc _ _, h => by cases h
  | n + 1, .ref _, h => by cases h
  | n + 1, .scr _, h => by cases h
theorem shaped_gd {m : MV} (h : gd dpt m = true) : SeqAt.shaped (md m) = true := by
  have h1 := lay_gd h
  have h2 := dep_gd h
  simp only [SeqAt.shaped, h1, Bool.true_and, decide_eq_true_eq]
  exact Nat.le_trans h2 (by decide)
def eqM (a b : MV) : Bool := PyData.eqv (md a) (md b)
theorem eqv_all_refl {xs : List MV} (h : ∀ x, x ∈ xs → eqM x x = true) : PyData.eqvAll (mds xs) (mds xs) = true := by
  induction xs with
  | nil => simp [mds, PyData.eqvAll]
  | cons x xs ih =>
    have h1 : PyData.eqv (md x) (md x) = true := h x (List.mem_cons_self ..)
    simp [mds, PyData.eqvAll, h1, ih fun y hy => h y (List.mem_cons_of_mem _ hy)]
theorem eqM_refl : ∀ {n : Nat} {m : MV}, gd n m = true → eqM m m = true
  | 0, _, h => by cases h
  | n + 1, .non, _ => by simp [eqM, md, PyData.eqv]
  | n + 1, .bl _, _ => by simp [eqM, md, PyData.eqv]
  | n + 1, .int _, _ => by simp [eqM, md, PyData.eqv]
  | n + 1, .str x, _ => by simp [eqM, md, PyData.eqv]
  | n + 1, .tup xs, h => by
    have := eqv_all_refl fun x hx => eqM_refl (List.all_eq_true.mp h x hx)
    simp [eqM, md, PyData.eqv, this]
  | n + 1, .lst xs, h => by
    have := eqv_all_refl fun x hx => eqM_refl (List.all_eq_true.mp h x hx)
    simp [eqM, md, PyData.eqv, this]
  | n + 1, .dct _, h => by cases h
  | n + 1, .ins _ _, h => by cases h
  | n + 1, .exc _ _, h => by cases h
  | n + 1, .ref _, h => by cases h
  | n + 1, .scr _, h => by cases h
theorem eq_gd {neg : Bool} {st : Sto} {a b : MV} (ha : gd dpt a = true) (hb : gd dpt b = true) : gEqB neg st a b = some (.bl (if neg then !eqM a b else eqM a b), false) := by
  unfold gEqB
  rw [toD_gd st ha, toD_gd st hb]
  exact if_pos ⟨shaped_gd ha, shaped_gd hb⟩
theorem in_gd {neg : Bool} {st : Sto} {a : MV} {bs : List MV} (ha : gd dpt a = true) (hb : gd dpt (.lst bs) = true) : gInA neg st a (.lst bs) = some (.bl (if neg then !(bs.any fun z => eqM z a) else bs.any fun z => eqM z a), false) := by
  have e : gIn neg st a (.lst bs) = some (.bl (if neg then !(bs.any fun z => eqM z a) else bs.any fun z => eqM z a), false) := by
    unfold gIn
    rw [toD_gd st ha, toD_gd st hb]
    have s := shaped_gd hb
    simp only [md] at s ⊢
    rw [if_pos ⟨shaped_gd ha, s⟩, mds_map, List.any_map]
    rfl
  unfold gInA
  rw [e]; rfl
theorem ok_str (s : String) : PyData.strOk (Str.ofString s) = true := by
  unfold PyData.strOk
  rw [Str.ofString_eq_toList]
  simp only [List.all_toArray, List.all_map, List.all_eq_true]
  intro c _
  have h := c.valid
  have e : c.toNat < 0x110000 := by
    rcases h with h | h
    · have : c.toNat < 0xd800 := h
      omega
    · exact h.2
  simpa using e
theorem ok_app {a b : Str} (ha : PyData.strOk a = true) (hb : PyData.strOk b = true) : PyData.strOk (a ++ b) = true := by
  unfold PyData.strOk at *
  show (a.cps ++ b.cps).all _ = true
  rw [Array.all_append, ha, hb]; rfl
theorem ok_join {p : Str} (hp : PyData.strOk p = true) : ∀ ts : List Str, (∀ t, t ∈ ts → PyData.strOk t = true) → PyData.strOk (Str.join p ts) = true
  | [], _ => (by decide +kernel : PyData.strOk Str.empty = true)
  | [x], h => h x (List.mem_cons_self ..)
  | x :: y :: r, h => by
    show PyData.strOk (x ++ p ++ Str.join p (y :: r)) = true
    exact ok_app (ok_app (h x (List.mem_cons_self ..)) hp) (ok_join hp (y :: r) fun t ht => h t (List.mem_cons_of_mem _ ht))
theorem ok_tup {ts : List Str} (h : ∀ t, t ∈ ts → PyData.strOk t = true) : PyData.strOk (tupleText ts) = true := by
  unfold tupleText
  exact ok_app (ok_app (ok_str _) (ok_join (ok_str _) ts h)) (by split <;> exact ok_str _)
theorem ok_from : ∀ (ts : List Str) (k : Nat) (acc : Str), PyData.strOk acc = true → (∀ t, t ∈ ts → PyData.strOk t = true) → PyData.strOk (textFrom k acc ts) = true
  | [], k, acc, h, _ => h
  | t :: r, k, acc, h, hs => by
    show PyData.strOk (textFrom (k + 1) (acc ++ (if k > 0 then ", " else "" : String) ++ t) r) = true
    exact ok_from r (k + 1) _ (ok_app (ok_app h (ok_str _)) (hs t (List.mem_cons_self ..))) fun u hu => hs u (List.mem_cons_of_mem _ hu)
theorem ok_lst {ts : List Str} (h : ∀ t, t ∈ ts → PyData.strOk t = true) : PyData.strOk (listText ts) = true := by
  show PyData.strOk (textFrom 0 "[" ts ++ "]") = true
  exact ok_app (ok_from ts 0 _ (ok_str _) h) (ok_str _)
theorem shownAll_map : ∀ ds : List PyData, PyData.shownAll ds = ds.map PyData.shown
  | [] => by simp [PyData.shownAll]
  | d :: ds => by rw [List.map_cons, ← shownAll_map ds]; simp [PyData.shownAll]
theorem shown_mds (xs : List MV) : PyData.shownAll (mds xs) = xs.map rp := by
  rw [shownAll_map, mds_map, List.map_map]; rfl
theorem strOk_mem {x : Str} (h : PyData.strOk x = true) (c : Nat) (hc : c ∈ x.cps.toList) : c < 0x110000 := by
  unfold PyData.strOk at h
  have := Array.all_eq_true_iff_forall_mem.mp h c (by simpa using hc)
  simpa using this
theorem reprChar_ok {q c : Nat} (hq : q < 0x110000) (hc : c < 0x110000) : ∀ d, d ∈ Builtin.Str.reprChar q c → d < 0x110000 := by
  have hex : ∀ w d, d ∈ (List.replicate (w - ((Nat.toDigits 16 c).map Char.toNat).length) 48 ++ (Nat.toDigits 16 c).map Char.toNat) → d < 0x110000 := by
    intro w d hd
    rcases List.mem_append.mp hd with hd | hd
    · have := List.eq_of_mem_replicate hd; omega
    · obtain ⟨ch, _, rfl⟩ := List.mem_map.mp hd
      have h := ch.valid
      rcases h with h | h
      · have : ch.toNat < 0xd800 := h
        omega
      · exact h.2
  intro d hd
  unfold Builtin.Str.reprChar at hd
  dsimp only at hd
  split at hd
  · simp only [List.mem_cons, List.not_mem_nil, or_false] at hd; omega
  split at hd
  · simp only [List.mem_cons, List.not_mem_nil, or_false] at hd; omega
  split at hd
  · simp only [List.mem_cons, List.not_mem_nil, or_false] at hd; omega
  split at hd
  · simp only [List.mem_cons, List.not_mem_nil, or_false] at hd; omega
  split at hd
  · simp only [List.mem_cons, List.not_mem_nil, or_false] at hd; omega
  split at hd
  · rcases List.mem_append.mp hd with hd | hd
    · simp only [List.mem_cons, List.not_mem_nil, or_false] at hd; omega
    · exact hex _ d hd
  split at hd
  · rcases List.mem_append.mp hd with hd | hd
    · simp only [List.mem_cons, List.not_mem_nil, or_false] at hd; omega
    · exact hex _ d hd
  · rcases List.mem_append.mp hd with hd | hd
    · simp only [List.mem_cons, List.not_mem_nil, or_false] at hd; omega
    · exact hex _ d hd
theorem fold_ok {q : Nat} (hq : q < 0x110000) : ∀ (l : List Nat) (acc : Array Nat), (∀ c, c ∈ l → c < 0x110000) → (∀ d, d ∈ acc.toList → d < 0x110000) → ∀ d, d ∈ (l.foldl (fun out c => out ++ (Builtin.Str.reprChar q c).toArray) acc).toList → d < 0x110000
  | [], acc, _, h => h
  | c :: r, acc, hl, h => by
    rw [List.foldl_cons]
    refine fold_ok hq r _ (fun d hd => hl d (List.mem_cons_of_mem _ hd)) fun d hd => ?_
    rw [Array.toList_append, List.mem_append] at hd
    rcases hd with hd | hd
    · exact h d hd
    · exact reprChar_ok hq (hl c (List.mem_cons_self ..)) d (by simpa using hd)
theorem ok_reprText {x : Str} (h : PyData.strOk x = true) : PyData.strOk (reprText x) = true := by
  have hq : reprQuote x < 0x110000 := by unfold reprQuote; split <;> decide
  have key := fold_ok hq x.cps.toList #[reprQuote x] (fun c hc => strOk_mem h c hc) (fun d hd => by simp at hd; omega)
  unfold PyData.strOk reprText
  rw [Array.all_eq_true_iff_forall_mem]
  intro d hd
  rw [Array.mem_push] at hd
  rw [decide_eq_true_eq]
  rcases hd with hd | rfl
  · refine key d ?_
    rw [Array.foldl_toList]
    first | exact Array.mem_toList_iff.mpr hd | exact Array.mem_toList.mpr hd | exact hd.val
  · exact hq
theorem ok_rp : ∀ {n : Nat} {m : MV}, gx n m = true → PyData.strOk (rp m) = true
  | 0, _, h => by cases h
  | n + 1, .non, _ => by simp only [rp, md, PyData.shown]; exact ok_str _
  | n + 1, .bl b, _ => by simp only [rp, md, PyData.shown]; cases b <;> exact ok_str _
  | n + 1, .int _, _ => by simp only [rp, md, PyData.shown]; exact ok_str _
  | n + 1, .str x, h => by
    simp only [rp, md, PyData.shown]; exact ok_reprText h
  | n + 1, .tup xs, h => by
    simp only [rp, md, PyData.shown]
    rw [shown_mds]
    exact ok_tup fun t ht => by
      obtain ⟨x, hx, rfl⟩ := List.mem_map.mp ht
      exact ok_rp (List.all_eq_true.mp h x hx)
  | n + 1, .lst xs, h => by
    simp only [rp, md, PyData.shown]
    rw [shown_mds]
    exact ok_lst fun t ht => by
      obtain ⟨x, hx, rfl⟩ := List.mem_map.mp ht
      exact ok_rp (List.all_eq_true.mp h x hx)
  | n + 1, .dct [], _ => by simp only [rp, md, PyData.shown, PyData.shownKv]; decide +kernel
  | n + 1, .dct (_ :: _), h => by cases h
  | n + 1, .ins _ _, h => by cases h
  | n + 1, .exc _ _, h => by cases h
  | n + 1, .ref _, h => by cases h
  | n + 1, .scr _, h => by cases h
theorem len_all {xs : List MV} (h : ∀ x, x ∈ xs → (rp x).length ≤ wt x) : ((xs.map rp).map (·.length)).sum + 2 * (xs.map rp).length ≤ wts xs := by
  induction xs with
  | nil => simp [wts]
  | cons x xs ih =>
    have h1 := h x (List.mem_cons_self ..)
    have h2 := ih fun y hy => h y (List.mem_cons_of_mem _ hy)
    simp only [List.map_cons, List.sum_cons, List.length_cons, wts] at h2 ⊢
    omega
theorem len_rp : ∀ {n : Nat} {m : MV}, gx n m = true → (rp m).length ≤ wt m
  | 0, _, h => by cases h
  | n + 1, .non, _ => by simp only [rp, md, PyData.shown, wt]; decide +kernel
  | n + 1, .bl b, _ => by simp only [rp, md, PyData.shown, wt]; cases b <;> decide +kernel
  | n + 1, .int i, h => by
    have h' : i.natAbs.log2 < 1600 := of_decide_eq_true h
    simp only [rp, md, PyData.shown, wt]
    show (Str.ofString (toString i)).length ≤ 501
    rw [PySem.ofString_length]
    refine int_text_length_le10 (by decide) ?_
    by_cases z : i.natAbs = 0
    · rw [z]; decide +kernel
    · exact Nat.lt_of_lt_of_le ((Nat.log2_lt z).mp h') (by decide +kernel)
  | n + 1, .str x, h => by
    have h' : PyData.strOk x = true := h
    simp only [rp, md, PyData.shown, wt]
    refine StrLaws.reprText_len x fun c hc => ?_
    have := strOk_mem h' c hc
    exact Nat.lt_of_lt_of_le this (by decide)
  | n + 1, .tup xs, h => by
    have := len_all fun x hx => len_rp (List.all_eq_true.mp h x hx)
    simp only [rp, md, PyData.shown, wt]
    rw [shown_mds]
    have t := tupleText_len_le (xs.map rp)
    omega
  | n + 1, .lst xs, h => by
    have := len_all fun x hx => len_rp (List.all_eq_true.mp h x hx)
    simp only [rp, md, PyData.shown, wt]
    rw [shown_mds]
    have t := listText_len_le (xs.map rp)
    omega
  | n + 1, .dct [], _ => by simp only [rp, md, PyData.shown, PyData.shownKv, wt]; decide +kernel
  | n + 1, .dct (_ :: _), h => by cases h
  | n + 1, .ins _ _, h => by cases h
  | n + 1, .exc _ _, h => by cases h
  | n + 1, .ref _, h => by cases h
  | n + 1, .scr _, h => by cases h
theorem show_all {xs : List MV} (h : ∀ x, x ∈ xs → (md x).showable = true) : PyData.showableAll (mds xs) = true := by
  induction xs with
  | nil => simp [mds, PyData.showableAll]
  | cons x xs ih => simp [mds, PyData.showableAll, h x (List.mem_cons_self ..), ih fun y hy => h y (List.mem_cons_of_mem _ hy)]
theorem show_gd : ∀ {n : Nat} {m : MV}, gx n m = true → (md m).showable = true
  | 0, _, h => by cases h
  | n + 1, .non, _ => by simp [md, PyData.showable]
  | n + 1, .bl _, _ => by simp [md, PyData.showable]
  | n + 1, .int i, h => by
    have h' : i.natAbs.log2 < 1600 := of_decide_eq_true h
    simp only [md, PyData.showable, decide_eq_true_eq]; omega
  | n + 1, .str x, _ => by simp [md, PyData.showable]
  | n + 1, .tup xs, h => by
    have := show_all fun x hx => show_gd (List.all_eq_true.mp h x hx)
    simp [md, PyData.showable, this]
  | n + 1, .lst xs, h => by
    have := show_all fun x hx => show_gd (List.all_eq_true.mp h x hx)
    simp [md, PyData.showable, this]
  | n + 1, .dct [], _ => by simp [md, PyData.showable, PyData.showableKv]
  | n + 1, .dct (_ :: _), h => by cases h
  | n + 1, .ins _ _, h => by cases h
  | n + 1, .exc _ _, h => by cases h
  | n + 1, .ref _, h => by cases h
  | n + 1, .scr _, h => by cases h
/-- shown by repr: plain data, {} among it -/
def rgd (m : MV) : Bool := gx dpt m && decide (wt m ≤ sizeLine)
theorem rgd_gx {m : MV} (h : rgd m = true) : gx dpt m = true := by
  unfold rgd at h
  rw [Bool.and_eq_true] at h
  exact h.1
theorem rgd_of {m : MV} (h : gx dpt m = true) (hw : wt m ≤ sizeLine) : rgd m = true := by
  unfold rgd
  rw [h, Bool.true_and, decide_eq_true_eq]
  exact hw
theorem repr_gd {m : MV} (h : rgd m = true) (st : Sto) : gRepr st [m] = some (.str (rp m), false) := by
  unfold rgd at h
  rw [Bool.and_eq_true, decide_eq_true_eq] at h
  obtain ⟨h1, h2⟩ := h
  show ((toX st dpt m).bind fun d => if d.showable = true ∧ d.shown.length ≤ sizeLine ∧ d.depth ≤ 60 then some (MV.str d.shown, false) else none) = _
  rw [toX_gx st h1]
  exact if_pos ⟨show_gd h1, Nat.le_trans (len_rp h1) h2, Nat.le_trans (dep_gx h1) (by decide)⟩
theorem rgd_ok {m : MV} (h : rgd m = true) : PyData.strOk (rp m) = true := ok_rp (rgd_gx h)
/-- a text that repr gave, compared -/
theorem eq_ok {neg : Bool} {st : Sto} {x y : Str} (hx : PyData.strOk x = true) (hy : PyData.strOk y = true) : gEqB neg st (.str x) (.str y) = some (.bl (if neg then !(x == y) else x == y), false) := by
  have sh : ∀ x : Str, PyData.strOk x = true → SeqAt.shaped (.str x) = true := fun x h => by simp [SeqAt.shaped, PyData.canLay0, PyData.depth, h]
  show (if SeqAt.shaped (.str x) = true ∧ SeqAt.shaped (.str y) = true then some (MV.bl (if neg then !PyData.eqv (.str x) (.str y) else PyData.eqv (.str x) (.str y)), false) else none) = _
  rw [if_pos ⟨sh x hx, sh y hy⟩]
  simp [PyData.eqv]
theorem wts_le {xs : List MV} {b : Nat} (h : ∀ x, x ∈ xs → wt x ≤ b) : wts xs ≤ (b + 2) * xs.length := by
  induction xs with
  | nil => simp [wts]
  | cons x xs ih =>
    have h1 := h x (List.mem_cons_self ..)
    have h2 := ih fun y hy => h y (List.mem_cons_of_mem _ hy)
    simp only [wts, List.length_cons, Nat.mul_add, Nat.mul_one]
    omega
end FW

namespace FW
open PySem L2 PySem.Spec PyProof.Rows

section
variable {M : Model} {prog : Program} {w : World} {A : Around} {E : Value → Shared → Prop} {s : Shared} {K : PySem.W.Frag} {x C f : Addr} {ox : Obj} {od : Option Obj}
theorem ifB_ne {args : List Value} {Q : Option Value → Shared → Prop} (X : K.In s.heap) (I : PySem.W.InstAt s.heap x ox C od) (hs : PySem.W.findIn K (.ref C) "__ne__" = some (some (.builtin "object.__ne__")))
    (h : wpAny M A (call (.builtin "object.__ne__") (.ref x :: args)) (fun v => Q (some v)) E s) : wpAny M A (callSpecialIfBound? (.ref x) "__ne__" args) Q E s := by
  simp only [callSpecialIfBound?, bindSpecialIfBound?]
  refine wpAny_holding (wpAny_bind (wpAny_bind (wpAny_bind (I.type.here ((PySem.W.looks_findIn X hs).here ?_)))))
  refine wpAny_bind (wpAny_askSetting (wpAny_ite ?_))
  have fin : wpAny M A (call (.builtin "object.__ne__") ([.ref x] ++ args) >>= fun v => pure (some v)) Q E s := wpAny_bind (wpAny_mono h (fun v s' h' => wpAny_pure h') fun _ _ h' => h')
  split
  · exact wpAny_bind (wpAny_of_eq (F.cmp_object.ne.bind _) (wpAny_pure (by exact fin)))
  · exact wpAny_tryCatch (wpAny_bind (wpAny_of_eq (F.cmp_object.ne.bind _) (wpAny_pure (by exact fin))))
theorem entry_ne {b : Value} {Q : Fin → Shared → Prop} (hu : A.units < cLine) (X : K.In s.heap) (I : PySem.W.InstAt s.heap x ox C od) (hs : PySem.W.findIn K (.ref C) "__eq__" = some (some (.ref f))) (hf : PySem.W.isFn K (.ref f) = true)
    (h : wpAny (model prog w) A (call (.ref f) [.ref x, b]) (fun v s' => ∃ r, v = .bool r ∧ Q (.done (.ret (.bool (!r)))) s') E s) : wpAny (model prog w) A (Builtin.«object.__ne__» ⟨[.ref x, b], []⟩) Q E s := by
  unfold Builtin.«object.__ne__»
  repeat (first
    | with_reducible refine wpAny_cRoomFor hu ?_
    | (refine wpAny_bind (m := callSpecialIfBound? (.ref x) (Str.ofString "__eq__") [b])
        (PySem.W.ifBound_K X I hs hf (wpAny_mono h (fun r s' hr => by
          obtain ⟨b, rfl, hq⟩ := hr
          repeat (first | exact hq | exact wpAny_pure hq | exact wpAny_truthy_bool hq | (refine wpAny_bind (m := truthy (.bool _)) (wpAny_truthy_bool ?_)) | wp_step)) fun _ _ e => e)))
    | wp_step)
theorem call_objNe {b : Value} {Q : Value → Shared → Prop} (hu : A.units + 1 < cLine) (X : K.In s.heap) (I : PySem.W.InstAt s.heap x ox C od) (hm : PySem.W.mroIn K C (.type "object") = some true) (hs : PySem.W.findIn K (.ref C) "__eq__" = some (some (.ref f))) (hf : PySem.W.isFn K (.ref f) = true)
    (h : wpAny (model prog w) A.in1 (call (.ref f) [.ref x, b]) (fun v s' => ∃ r, v = .bool r ∧ Q (.bool (!r)) s') E s) : wpAny (model prog w) A (call (.builtin "object.__ne__") [.ref x, b]) Q E s :=
  wpAny_call (codeAny_call_builtin F.cmp_object.ne.plain F.cmpEntry_ne (PySem.W.check_slot F.cmpKind_ne F.cmpSplit_ne (I.type.andThen (PySem.W.looks_mroIn X hm)) (F.cmpArgs_ne _ _)
    (entry_ne (A := A.in1) hu X I hs hf (wpAny_mono h (fun v s' z => by
      obtain ⟨r, rfl, q⟩ := z
      exact ⟨r, rfl, q⟩) fun _ _ e => e))))
/-- x != b, x an instance of a class with an own __eq__ -/
theorem cmp_neK {b tb : Value} {L : Addr} {h₀ : Heap} {m : Str → Option Value} {Q : Value → Shared → Prop} (hu : A.units + 1 < cLine) (F : Fr h₀ L s.heap m) (X₀ : K.In h₀) (I : PySem.W.InstAt s.heap x ox C od) (hb : PySem.W.Looks (model prog w) s.heap (typeOf b) tb) (hn : PySem.W.notFirst K C tb = true)
    (hne : PySem.W.findIn K (.ref C) "__ne__" = some (some (.builtin "object.__ne__"))) (hm : PySem.W.mroIn K C (.type "object") = some true)
    (hs : PySem.W.findIn K (.ref C) "__eq__" = some (some (.ref f))) (hf : PySem.W.isFn K (.ref f) = true)
    (h : wpAny (model prog w) A.in1 (call (.ref f) [.ref x, b]) (fun v s' => ∃ r, v = .bool r ∧ Q (.bool (!r)) s') E s) : wpAny (model prog w) A (richCompare .NotEq (.ref x) b) Q E s := by
  have X := X₀.keeps F.keep
  have one : wpAny (model prog w) A (tryCompare (.ref x) (cmpInfo .NotEq).2.1 b) (fun r s' => ∃ v, r = some v ∧ Q v s') E s := by
    unfold tryCompare
    refine wpAny_bind (ifB_ne X I hne (call_objNe hu X I hm hs hf (wpAny_mono h (fun v s' hv => ?_) fun _ _ e => e)))
    obtain ⟨r, rfl, q⟩ := hv
    exact ⟨r, rfl, wpAny_pure ⟨_, rfl, q⟩⟩
  unfold richCompare
  simp only [oneThing_ref]
  refine wpAny_holding (wpAny_bind (wpAny_cRoomFor (by omega) ?_))
  refine wpAny_bind (I.type.here (wpAny_bind (hb.here ?_)))
  split
  · rename_i q
    have e : PySem.W.subIn K tb (.ref C) = some false := by
      rcases Bool.or_eq_true_iff.mp hn with e | e
      · rw [beq_iff_eq.mp e] at q; simp at q
      · exact beq_iff_eq.mp e
    refine wpAny_bind ((PySem.W.looks_subIn X e).here ?_)
    simp only [Bool.false_eq_true, if_false]
    refine wpAny_bind (wpAny_mono one (fun r s' z => ?_) fun _ _ e => e)
    obtain ⟨v, rfl, hq⟩ := z
    exact wpAny_pure hq
  · refine wpAny_bind (wpAny_pure ?_)
    simp only [Bool.false_eq_true, if_false]
    refine wpAny_bind (wpAny_mono one (fun r s' z => ?_) fun _ _ e => e)
    obtain ⟨v, rfl, hq⟩ := z
    exact wpAny_pure hq
theorem sub_plain {T : String} (hT : T = "NoneType" ∨ T = "bool" ∨ T = "int" ∨ T = "str" ∨ T = "list" ∨ T = "tuple" ∨ T = "dict") : PySem.W.notFirst K C (.type T) = true := by
  have go : ∀ T : String, ∀ l, fastBuiltinMro T = some l → l.contains (.ref C) = false → PySem.W.notFirst K C (.type T) = true := fun T l e h => by
    unfold PySem.W.notFirst
    have : PySem.W.subIn K (.type T) (.ref C) = some false := by
      show (fastBuiltinMro T).map (·.contains (.ref C)) = some false
      rw [e, Option.map_some, h]
    rw [this]
    simp
  rcases hT with rfl | rfl | rfl | rfl | rfl | rfl | rfl
  · exact go _ [.type "NoneType", .type "object"] (by decide +kernel) (by simp)
  · exact go _ [.type "bool", .type "int", .type "object"] (by decide +kernel) (by simp)
  · exact go _ [.type "int", .type "object"] (by decide +kernel) (by simp)
  · exact go _ [.type "str", .type "object"] (by decide +kernel) (by simp)
  · exact go _ [.type "list", .type "object"] (by decide +kernel) (by simp)
  · exact go _ [.type "tuple", .type "object"] (by decide +kernel) (by simp)
  · exact go _ [.type "dict", .type "object"] (by decide +kernel) (by simp)
end
/-- a value whose type is known not to lie below the class at C -/
def KnV (C : Addr) (H : Hp) (y : V) : Prop := y = .non ∨ (∃ b, y = .bl b) ∨ (∃ i, y = .int i) ∨ (∃ z, y = .str z) ∨ (∃ p vs, y = .ref p ∧ H p = some (.lst vs)) ∨ (∃ p vs, y = .ref p ∧ H p = some (.tup vs)) ∨ (∃ p dx fs, y = .ref p ∧ H p = some (.ins C dx fs))
def knM (c : Str) : MV → Bool
  | .non => true
  | .bl _ => true
  | .int _ => true
  | .str _ => true
  | .lst _ => true
  | .tup _ => true
  | .ins c' _ => decide (c' = c)
  | _ => false
theorem knV_of {mg : Wd} {S : Addr → Prop} {ι : List Addr} {H : Hp} {y : V} {m : MV} {c : Str} {C : Addr} (hc : mg.mg c = some (.ref C)) (vr : VR mg S ι H y m) (h : knM c m = true) : KnV C H y := by
  cases m with
  | non => exact .inl vr
  | bl b => exact .inr (.inl ⟨b, vr⟩)
  | int i => exact .inr (.inr (.inl ⟨i, vr⟩))
  | str z => exact .inr (.inr (.inr (.inl ⟨z, vr⟩)))
  | lst ms => obtain ⟨p, vs, rfl, h1, _⟩ := vr; exact .inr (.inr (.inr (.inr (.inl ⟨p, vs, rfl, h1⟩))))
  | tup ms => obtain ⟨p, vs, rfl, h1, _⟩ := vr; exact .inr (.inr (.inr (.inr (.inr (.inl ⟨p, vs, rfl, h1⟩)))))
  | ins c' fs =>
    obtain ⟨q, C', dx, ws, rfl, g1, hmc, _, _⟩ := vr
    have e : c' = c := of_decide_eq_true h
    subst e
    cases (show some (Value.ref C) = some (Value.ref C') from hc.symm.trans hmc)
    exact .inr (.inr (.inr (.inr (.inr (.inr ⟨q, dx, ws, rfl, g1⟩)))))
  | _ => cases h
theorem knV_type {X : Cx} {pins : List (Addr × Obj)} {σ : L2.St} {H : Hp} {s : Shared} {C : Addr} {y : V} {u : Value} (I : Inv X pins σ H s) (ry : RelV y u) (h : KnV C H y) : ∃ tb, PySem.W.Looks (model X.prog X.w) s.heap (typeOf u) tb ∧ PySem.W.notFirst X.K C tb = true := by
  rcases h with rfl | ⟨b, rfl⟩ | ⟨i, rfl⟩ | ⟨z, rfl⟩ | ⟨p, vs, rfl, h⟩ | ⟨p, vs, rfl, h⟩ | ⟨p, dx, fs, rfl, h⟩
  · cases ry
    exact ⟨.type "NoneType", PySem.W.Looks.of_pure rfl, sub_plain (.inl rfl)⟩
  · cases ry
    exact ⟨.type "bool", PySem.W.Looks.of_pure rfl, sub_plain (.inr (.inl rfl))⟩
  · obtain ⟨t, rfl⟩ := ry
    exact ⟨.type "int", PySem.W.Looks.of_pure rfl, sub_plain (.inr (.inr (.inl rfl)))⟩
  · obtain ⟨t, rfl⟩ := ry
    exact ⟨.type "str", PySem.W.Looks.of_pure rfl, sub_plain (.inr (.inr (.inr (.inl rfl))))⟩
  · cases ry
    obtain ⟨its, _, ⟨o, n, ho, hcl, _, _⟩, _⟩ := I.list (.of h)
    refine ⟨.type "list", ?_, sub_plain (.inr (.inr (.inr (.inr (.inl rfl)))))⟩
    rw [← hcl]
    exact (PySem.W.Looks.ld ho).andThen .now
  · cases ry
    obtain ⟨its, _, ⟨o, ho, hcl, n, _⟩, _⟩ := I.tuple (.of h)
    refine ⟨.type "tuple", ?_, sub_plain (.inr (.inr (.inr (.inr (.inr (.inl rfl))))))⟩
    rw [← hcl]
    exact (PySem.W.Looks.ld ho).andThen .now
  · cases ry
    obtain ⟨mA, J, _⟩ := ins_get I.hok h
    obtain ⟨od, J, _⟩ := J.look
    exact ⟨.ref C, J.type, by simp [PySem.W.notFirst]⟩
/-- a == b, a != b by the own __eq__ of a's class -/
def mEqI (neg : Bool) (c : Str) (F : FF) (fa fb : EF) : EF := fun lo st => fa lo st >>= fun (a, ka, st1) => fb lo st1 >>= fun (b, kb, st2) =>
  if isPk ka = false ∧ isPk kb = false ∧ insOf c "__eq__" (vw st2 a) = true ∧ knM c (vw st2 b) = true then (callF 2 F [] [(a, false), (b, false)] lo st2 >>= fun (r, _, st3) => match r with
    | .bl z => .ok (.bl (if neg then !z else z), .fz, st3)
    | _ => .bad) else .bad
section
variable {X : Cx} {B : Base} {W : WX} {a b : Expr} {fa fb : EF} {k : Nat} {C f : Addr} {fd : FuncData} {ps : List Str} {FM : FF} {c : Str}
theorem run_in1 {sp : Sp} {E : XK} {pins : List (Addr × Obj)} {σ : L2.St} {H : Hp} {s : Shared} {Q : VK} {us : List Value} {vs : List V}
    (F : FnG X.prog X.w X.K X.mg X.base k f fd ps sp) (hr : RoomG (k + 1) X.A) (hb : Binds X.K fd ps []) (hx : ∀ cls d H', E cls d H' → W cls d σ H') (tk : Takes X W)
    (I : Inv X pins σ H s) (r : Vals vs us) (h : sp vs H Q E) : wpAny (model X.prog X.w) X.A.in1 (call (.ref f) us) (EP X pins σ Q) X.xe s := by
  have ll : us.length = ps.length := by rw [← r.length]; exact F.len _ _ _ _ h
  have go := F.run X.A.in1 X.stack s H ⟨us, []⟩ us vs Q E ⟨hr.r.in1, hr.g⟩ I.env0.in1 (by have := hb s us I.kIn (by simpa using ll); simpa using this) r h
  refine wpAny_call (codeAny_mono go fun res s' hq => ?_)
  match res, hq with
  | .error e, hq => exact tk e s' (XE.of_call I hx hq)
  | .ok (.ret u), hq => exact I.after hq
structure EqOwn (K : PySem.W.Frag) (C f : Addr) : Prop where
  m : Meth K C "__eq__" f
  ne : PySem.W.findIn K (.ref C) "__ne__" = some (some (.builtin "object.__ne__"))
  ob : PySem.W.mroIn K C (.type "object") = some true
theorem pc_eqI (neg : Bool) (ha : SE X B W a fa) (hb' : SE X B W b fb) (hm : EqOwn X.K C f) (hc : X.mg c = some (.ref C)) (F : FnG X.prog X.w X.K X.mg X.base k f fd ps (spM X.wd 2 FM)) (hr : RoomG (k + 1) X.A) (tk : Takes X W) (hb : Binds X.K fd ps []) :
    PC X (if neg = true then .NotEq else .Eq) a b (tE X.wd B W (mEqI neg c FM fa fb)) := by
  refine ⟨fun pins s σ H Q I ⟨S, ι, lo, st, fm, pp⟩ => ?_⟩
  have run := ha.run pins s σ H (fun x H1 => tE X.wd B W fb σ H1 (fun y H2 => ∃ p dx fs, x = .ref p ∧ H2 p = some (.ins C dx fs) ∧ KnV C H2 y ∧ ∃ E : XK, (∀ cls d H', E cls d H' → W cls d σ H') ∧ spM X.wd 2 FM [x, y] H2 (fun v H3 => ∃ r, v = .bl r ∧ Q (.bl (if neg then !r else r)) H3) E)) I ?_
  · refine thn run fun v s1 ⟨x, H1, I1, rx, q1⟩ => ?_
    refine thn (hb'.run pins s1 σ H1 _ I1 q1) fun u s2 ⟨y, H2, I2, ry, p, dx, fs, ex, ea, kv, E, hE, q⟩ => ?_
    subst ex
    cases (show v = Value.ref p from rx)
    obtain ⟨mA, J, _⟩ := ins_get I2.hok ea
    obtain ⟨od, J, _⟩ := J.look
    obtain ⟨m, hF⟩ := I2.fr
    obtain ⟨tb, ht, hn⟩ := knV_type I2 ry kv
    cases neg with
    | false =>
      show wpAny (model X.prog X.w) X.A (richCompare .Eq (.ref p) u) (EP X pins σ Q) X.xe s2
      refine PySem.W.cmp_K (op := .Eq) (tb := tb) hr.r.units0 hF I2.ok.mod.kin J ht hn hm.m.at_ hm.m.fn ?_
      refine wpAny_mono (run_fnG (us := [.ref p, u]) (vs := [.ref p, y]) (dvs := []) F ⟨hr.r.mono (Nat.le_succ k), hr.g⟩ hb .nil hE tk I2 (.cons rfl (.cons ry .nil)) (by rw [List.append_nil]; exact q)) (fun w s' z => ?_) fun _ _ e => e
      obtain ⟨v', H', I', rv, r, ev, qr⟩ := z
      subst ev
      cases rv
      exact ⟨.bl r, H', I', rfl, qr⟩
    | true =>
      show wpAny (model X.prog X.w) X.A (compareOp .NotEq (.ref p) u) (EP X pins σ Q) X.xe s2
      have hu : X.A.units + 1 < cLine := by have := hr.r.units; omega
      unfold compareOp
      refine cmp_neK (tb := tb) hu hF I2.ok.mod.kin J ht hn hm.ne hm.ob hm.m.at_ hm.m.fn ?_
      refine wpAny_mono (run_in1 (us := [.ref p, u]) (vs := [.ref p, y]) F hr hb hE tk I2 (.cons rfl (.cons ry .nil)) q) (fun w s' z => ?_) fun _ _ e => e
      obtain ⟨v', H', I', rv, r, ev, qr⟩ := z
      subst ev
      cases rv
      exact ⟨r, rfl, .bl (!r), H', I', rfl, qr⟩
  · refine tE.use fm (Post.bind pp) fun t kt st1 S1 ι1 H1 x f1 k1 r1 p1 => ?_
    obtain ⟨S1', f1', k1', h1⟩ := r1.hand f1
    dsimp only at p1
    refine tE.use f1' (Post.bind (p1.mono (k1.trans k1') fun _ z => z)) fun t2 kt2 st2 S2 ι2 H2 y f2 k2 r2 p2 => ?_
    obtain ⟨S2', f2', k2', h2⟩ := r2.hand f2
    dsimp only at p2
    split at p2
    case isFalse => exact p2.elim
    rename_i hh
    obtain ⟨hk, hk2, hi, hkn⟩ := hh
    rw [hk] at h1
    rw [hk2] at h2
    have h1' : Dt X.wd S2' ι2 H2 x t := Dt.mono (k2.trans k2') h1
    have vr := Hand.vr (b := false) f2' h1'
    have vr2 := Hand.vr (b := false) f2' h2
    obtain ⟨fs, ev, hl⟩ := insOf_ok hi
    rw [ev] at vr
    have kv := knV_of (mg := X.wd) hc vr2 hkn
    obtain ⟨q, C', dx, ws, rfl, g1, hmc, hn, _⟩ := vr
    cases (show some (Value.ref C) = some (Value.ref C') from hc.symm.trans hmc)
    refine ⟨q, dx, ws, rfl, g1, kv, ?_⟩
    have p3 := Post.bind (p2.mono (k2.trans k2') fun _ z => z)
    unfold callF at p3
    simp only [d_allFz1, d_allFz0, Option.map_some, List.append_nil] at p3
    rw [if_pos (show [t, t2].length = 2 from rfl)] at p3
    refine ⟨_, ?_, wants_callee f2' (AllD.cons h1' (AllD.cons h2 .nil)) rfl .refl (p3.imp fun r z S' ι' H' v f kk rv => ?_)⟩
    · rintro cls d H' ⟨_, _, _, _, _, _, _, _, z⟩
      exact z
    · obtain ⟨rm, rk, rst⟩ := r
      dsimp only at z
      obtain ⟨S3, f3, k3, h3⟩ := rv.hand f
      have v3 := h3.vr f3
      cases rm with
      | bl zb =>
        have ev3 : v = .bl zb := v3
        refine ⟨zb, ev3, ?_⟩
        exact z S3 ι' H' (.bl (if neg then !zb else zb)) f3 ((k1.trans k1').trans ((k2.trans k2').trans (kk.trans k3))) (.bl _)
      | _ => exact z.elim
theorem st_of_pc {op : CmpOp} {f : EF} {pos : Pos} (h : PC X op a b (tE X.wd B W f)) (hm : behindInMarks op b = false := by first | exact nomark _ | rfl) : STe X B W (.Compare a [op] [b] pos) (mTv f) := by
  refine (pt_cmp h hm).fw fun σ H Q h => ?_
  obtain ⟨S, ι, lo, st, fm, p⟩ := h
  refine tE.use fm (Post.bind p) fun a ka st1 S1 ι1 H1 x f1 k1 r1 p1 => ?_
  dsimp only at p1
  split at p1
  · exact ⟨_, rv_bl f1 r1, p1 S1 ι1 H1 f1 k1⟩
  · exact p1.elim
section
variable {pos : Pos}
theorem se_eqI (ha : SE X B W a fa) (hb' : SE X B W b fb) (hm : EqOwn X.K C f) (hc : X.mg c = some (.ref C)) (F : FnG X.prog X.w X.K X.mg X.base k f fd ps (spM X.wd 2 FM)) (hr : RoomG (k + 1) X.A) (tk : Takes X W) (hb : Binds X.K fd ps []) :
    SE X B W (.Compare a [.Eq] [b] pos) (mEqI false c FM fa fb) := pe_cmp (pc_eqI false ha hb' hm hc F hr tk hb)
theorem se_neI (ha : SE X B W a fa) (hb' : SE X B W b fb) (hm : EqOwn X.K C f) (hc : X.mg c = some (.ref C)) (F : FnG X.prog X.w X.K X.mg X.base k f fd ps (spM X.wd 2 FM)) (hr : RoomG (k + 1) X.A) (tk : Takes X W) (hb : Binds X.K fd ps []) :
    SE X B W (.Compare a [.NotEq] [b] pos) (mEqI true c FM fa fb) := pe_cmp (pc_eqI true ha hb' hm hc F hr tk hb)
theorem st_eqI (ha : SE X B W a fa) (hb' : SE X B W b fb) (hm : EqOwn X.K C f) (hc : X.mg c = some (.ref C)) (F : FnG X.prog X.w X.K X.mg X.base k f fd ps (spM X.wd 2 FM)) (hr : RoomG (k + 1) X.A) (tk : Takes X W) (hb : Binds X.K fd ps []) :
    STe X B W (.Compare a [.Eq] [b] pos) (mTv (mEqI false c FM fa fb)) := st_of_pc (pc_eqI false ha hb' hm hc F hr tk hb)
theorem st_neI (ha : SE X B W a fa) (hb' : SE X B W b fb) (hm : EqOwn X.K C f) (hc : X.mg c = some (.ref C)) (F : FnG X.prog X.w X.K X.mg X.base k f fd ps (spM X.wd 2 FM)) (hr : RoomG (k + 1) X.A) (tk : Takes X W) (hb : Binds X.K fd ps []) :
    STe X B W (.Compare a [.NotEq] [b] pos) (mTv (mEqI true c FM fa fb)) := st_of_pc (pc_eqI true ha hb' hm hc F hr tk hb)
end
end
section
variable {c : Str} {F : FF} {fa fb : EF} {lo : Lo} {st st1 st2 st3 : Sto} {a b : MV} {ka kb : Kd} {neg r : Bool}
theorem eqI_ok (h1 : fa lo st = .ok (a, ka, st1)) (k1 : isPk ka = false) (h2 : fb lo st1 = .ok (b, kb, st2)) (k2 : isPk kb = false) (hi : insOf c "__eq__" (vw st2 a) = true) (hk : knM c (vw st2 b) = true) (hF : F [a, b] st2 = .ok (.bl r, false, st3)) :
    mEqI neg c F fa fb lo st = .ok (.bl (if neg then !r else r), .fz, st3) := by
  unfold mEqI
  rw [h1]
  simp only [Res.ok_bind]
  rw [h2]
  simp only [Res.ok_bind]
  rw [if_pos ⟨k1, k2, hi, hk⟩]
  unfold callF
  simp only [d_allFz1, d_allFz0, Option.map_some, List.append_nil]
  rw [if_pos (show [a, b].length = 2 from rfl), callR_ok _ _ hF]
  rfl
end
end FW

namespace FW
open PySem L2 PySem.Spec PyProof.Rows PySem.SeqAt
open AutoSeq1 (wpAny_loadPart')
theorem int_eq_ins (b : Int) (u : Tok) (x : Addr) (C : Value) (dx : Option Addr) :
    Meets (Builtin.«int.__eq__» ⟨[.int b u, .ref x], []⟩) (fun _ R s => s.heap.get? x = some { cls := C, dict := dx } ∧ R (.ok (.ret .notImplemented)) s) :=
  .of_wp fun prog w A R s h => by obtain ⟨hp, g, d, tk, os⟩ := s; obtain ⟨hl, h⟩ := h; wp_walk using wpAny_loadPart' hl, wpAny_load hl; exact ⟨_, rfl, h⟩
theorem str_eq_ins (b : Str) (u : Tok) (x : Addr) (C : Value) (dx : Option Addr) :
    Meets (Builtin.«str.__eq__» ⟨[.str b u, .ref x], []⟩) (fun _ R s => s.heap.get? x = some { cls := C, dict := dx } ∧ R (.ok (.ret .notImplemented)) s) :=
  .of_wp fun prog w A R s h => by obtain ⟨hp, g, d, tk, os⟩ := s; obtain ⟨hl, h⟩ := h; wp_walk using wpAny_loadPart' hl, wpAny_load hl; exact ⟨_, rfl, h⟩
theorem list_eq_ins (l : Addr) (items : Array Value) (n : Nat) (dd : Option Addr) (sl : Array (Option Value)) (x : Addr) :
    Meets (Builtin.«list.__eq__» ⟨[.ref l, .ref x], []⟩) (fun _ R s => s.heap.get? l = some { cls := .type "list", dict := dd, data := .seq items n, slots := sl } ∧ (∀ M : Model, PySem.W.Looks M s.heap (isInstance (.ref x) (.type "list")) false) ∧ R (.ok (.ret .notImplemented)) s) :=
  .of_wp fun prog w A R s h => by
    obtain ⟨hp, g, d, tk, os⟩ := s
    obtain ⟨hl, hI, h⟩ := h
    wp_walk using wpAny_loadPart' hl, wpAny_load hl, ((hI (model prog w)).here)
    exact ⟨_, rfl, h⟩
theorem dict_eq_ins (l : Addr) (es : Array DictEntry) (n : Nat) (dd : Option Addr) (sl : Array (Option Value)) (x : Addr) :
    Meets (Builtin.«dict.__eq__» ⟨[.ref l, .ref x], []⟩) (fun _ R s => s.heap.get? l = some { cls := .type "dict", dict := dd, data := .dict es n, slots := sl } ∧ (∀ M : Model, PySem.W.Looks M s.heap (isInstance (.ref x) (.type "dict")) false) ∧ R (.ok (.ret .notImplemented)) s) :=
  .of_wp fun prog w A R s h => by
    obtain ⟨hp, g, d, tk, os⟩ := s
    obtain ⟨hl, hI, h⟩ := h
    wp_walk using wpAny_loadPart' hl, wpAny_load hl, ((hI (model prog w)).here)
    exact ⟨_, rfl, h⟩
section
variable {M : Model} {prog : Program} {w : World} {A : Around} {E : Value → Shared → Prop} {s : Shared} {K : PySem.W.Frag} {x C f : Addr} {ox : Obj} {od : Option Obj}
/-- a == x, a of a type that declines, x an instance of a class with an own __eq__ -/
theorem cmp_backK {a : Value} {T : String} {L : Addr} {h₀ : Heap} {m : Str → Option Value} {Q : Value → Shared → Prop} (hu : A.units < cLine) (F : Fr h₀ L s.heap m) (X₀ : K.In h₀) (I : PySem.W.InstAt s.heap x ox C od) (hT : s.TypeIs a T)
    (hsub : PySem.W.subIn K (.ref C) (.type T) = some false) (hdec : ∀ Q' : Option Value → Shared → Prop, Q' none s → wpAny (model prog w) A (tryCompare a (cmpInfo .Eq).2.1 (.ref x)) Q' E s)
    (hs : PySem.W.findIn K (.ref C) "__eq__" = some (some (.ref f))) (hf : PySem.W.isFn K (.ref f) = true)
    (h : wpAny (model prog w) A (call (.ref f) [.ref x, a]) (PySem.W.CmpBack Q) E s) : wpAny (model prog w) A (richCompare .Eq a (.ref x)) Q E s := by
  have X := X₀.keeps F.keep
  have two : wpAny (model prog w) A (tryCompare (.ref x) (cmpInfo .Eq).2.2 a) (fun r s' => ∃ v, r = some v ∧ Q v s') E s := by
    unfold tryCompare
    refine wpAny_bind (PySem.W.ifBound_K X I hs hf (wpAny_mono h (fun v s' hv => ?_) fun _ _ e => e))
    cases v <;> first | exact hv.elim | exact wpAny_pure ⟨_, rfl, hv⟩
  unfold richCompare
  simp only [hT.oneThing_none]
  refine wpAny_holding (wpAny_bind (wpAny_cRoomFor hu ?_))
  refine wpAny_bind (wpAny_typeOf hT ?_)
  refine wpAny_bind (I.type.here ?_)
  split
  · refine wpAny_bind ((PySem.W.looks_subIn X hsub).here ?_)
    simp only [Bool.false_eq_true, if_false, Bool.not_false, if_true]
    refine wpAny_bind (hdec _ ?_)
    refine wpAny_bind (wpAny_mono two (fun r s' z => ?_) fun _ _ e => e)
    obtain ⟨v, rfl, hq⟩ := z
    exact wpAny_pure hq
  · rename_i q
    exact absurd (by simp) q
end
/-- a value whose own == declines an instance -/
def DecV (H : Hp) (y : V) : Prop := y = .non ∨ (∃ i, y = .int i) ∨ (∃ z, y = .str z) ∨ (∃ p vs, y = .ref p ∧ H p = some (.lst vs)) ∨ (∃ p, y = .ref p ∧ (Rd H p (.dK []) ∨ Rd H p (.dT [])))
def decM : MV → Bool
  | .non => true
  | .int _ => true
  | .str _ => true
  | .lst _ => true
  | .dct [] => true
  | _ => false
theorem decV_of {mg : Wd} {S : Addr → Prop} {ι : List Addr} {H : Hp} {y : V} {m : MV} (vr : VR mg S ι H y m) (h : decM m = true) : DecV H y := by
  cases m with
  | non => exact .inl vr
  | int i => exact .inr (.inl ⟨i, vr⟩)
  | str z => exact .inr (.inr (.inl ⟨z, vr⟩))
  | lst ms => obtain ⟨p, vs, rfl, h1, _⟩ := vr; exact .inr (.inr (.inr (.inl ⟨p, vs, rfl, h1⟩)))
  | dct ps =>
    cases ps with
    | nil =>
      obtain ⟨p, rfl, ⟨kvs, g, hl, _⟩ | ⟨kvs, g, hl, _⟩⟩ := vr
      · obtain rfl := List.length_eq_zero_iff.mp hl
        exact .inr (.inr (.inr (.inr ⟨p, rfl, .inl g⟩)))
      · obtain rfl := List.length_eq_zero_iff.mp hl
        exact .inr (.inr (.inr (.inr ⟨p, rfl, .inr g⟩)))
    | cons _ _ => cases h
  | _ => cases h
structure EqBack (K : PySem.W.Frag) (C : Addr) : Prop where
  s1 : PySem.W.subIn K (.ref C) (.type "NoneType") = some false
  s2 : PySem.W.subIn K (.ref C) (.type "int") = some false
  s3 : PySem.W.subIn K (.ref C) (.type "str") = some false
  s4 : PySem.W.subIn K (.ref C) (.type "list") = some false
  s5 : PySem.W.subIn K (.ref C) (.type "dict") = some false
  m4 : PySem.W.mroIn K C (.type "list") = some false
  m5 : PySem.W.mroIn K C (.type "dict") = some false
theorem dec_ok {X : Cx} {pins : List (Addr × Obj)} {σ : L2.St} {H : Hp} {s : Shared} {C x dx : Addr} {y : V} {u : Value} {A : Around} {E : Value → Shared → Prop} {mA : Str → Option Value} (I : Inv X pins σ H s) (b : EqBack X.K C) (J0 : ObjM s.heap x dx C mA) (ry : RelV y u) (h : DecV H y) :
    ∃ T, s.TypeIs u T ∧ PySem.W.subIn X.K (.ref C) (.type T) = some false ∧ ∀ Q' : Option Value → Shared → Prop, Q' none s → wpAny (model X.prog X.w) A (tryCompare u (cmpInfo .Eq).2.1 (.ref x)) Q' E s := by
  have hx : s.heap.get? x = some { cls := .ref C, dict := some dx } := J0.obj
  obtain ⟨od, J, _⟩ := J0.look
  rcases h with rfl | ⟨i, rfl⟩ | ⟨z, rfl⟩ | ⟨p, vs, rfl, h⟩ | ⟨p, rfl, h⟩
  · cases ry
    exact ⟨"NoneType", rfl, b.s1, fun Q' q => wpAny_tryCompare_declines (show s.TypeIs .none "NoneType" from rfl) F.slot_NoneType_eq_refl (call_gives F.slot_NoneType_eq_refl rfl F.entry_NoneType_eq (F.args_NoneType_eq_2 _ _) (NoneType___eq___none_ref_0 x) ⟨rfl, q⟩)⟩
  · obtain ⟨t, rfl⟩ := ry
    exact ⟨"int", rfl, b.s2, fun Q' q => wpAny_tryCompare_declines (typeIs_int s i t) F.slot_int_eq (call_meets F.slot_int_eq (typeIs_int s i t) F.entry_int_eq (F.args_int_eq_2 _ _) (int_eq_ins i t x _ _) ⟨hx, rfl, q⟩)⟩
  · obtain ⟨t, rfl⟩ := ry
    exact ⟨"str", rfl, b.s3, fun Q' q => wpAny_tryCompare_declines (typeIs_str s z t) F.slot_str_eq (call_meets F.slot_str_eq (typeIs_str s z t) F.entry_str_eq (F.args_str_eq_2 _ _) (str_eq_ins z t x _ _) ⟨hx, rfl, q⟩)⟩
  · cases ry
    obtain ⟨its, _, ⟨o, n, ho, hcl, hdd, hda⟩, _⟩ := I.list (.of h)
    obtain ⟨oc, od', oda, osl⟩ := o
    cases hcl
    cases hda
    have hI : ∀ M : Model, PySem.W.Looks M s.heap (isInstance (.ref x) (.type "list")) false := fun M => J.type.andThen (PySem.W.looks_mroIn I.kIn b.m4)
    exact ⟨"list", ⟨_, ho, rfl⟩, b.s4, fun Q' q => wpAny_tryCompare_declines (T := "list") ⟨_, ho, rfl⟩ F.slot_list_eq (call_meets F.slot_list_eq ⟨_, ho, rfl⟩ F.entry_list_eq (F.args_list_eq_2 _ _) (list_eq_ins p _ _ _ _ x) ⟨ho, hI, rfl, q⟩)⟩
  · cases ry
    have ⟨o, es, ep, g1, g2, g3⟩ : ∃ o es ep, s.heap.get? p = some o ∧ o.cls = .type "dict" ∧ o.data = .dict es ep := by
      rcases h with hp | hp
      · obtain ⟨_, n, vs, kv, o, es, ep, g1, g2, g3, _⟩ := hp.ok I.hok
        exact ⟨o, es, ep, g1, g2.1, g3⟩
      · obtain ⟨_, n, vs, kv, o, es, ep, g1, g2, g3, _⟩ := hp.ok I.hok
        exact ⟨o, es, ep, g1, g2.1, g3⟩
    obtain ⟨oc, od', oda, osl⟩ := o
    cases g2
    cases g3
    have hI : ∀ M : Model, PySem.W.Looks M s.heap (isInstance (.ref x) (.type "dict")) false := fun M => J.type.andThen (PySem.W.looks_mroIn I.kIn b.m5)
    exact ⟨"dict", ⟨_, g1, rfl⟩, b.s5, fun Q' q => wpAny_tryCompare_declines (T := "dict") ⟨_, g1, rfl⟩ F.slot_dict_eq (call_meets F.slot_dict_eq ⟨_, g1, rfl⟩ F.entry_dict_eq (F.args_dict_eq_2 _ _) (dict_eq_ins p _ _ _ _ x) ⟨g1, hI, rfl, q⟩)⟩
theorem dec_type {X : Cx} {pins : List (Addr × Obj)} {σ : L2.St} {H : Hp} {s : Shared} {C : Addr} {y : V} {u : Value} (I : Inv X pins σ H s) (ry : RelV y u) (h : KnV C H y ∨ DecV H y) : ∃ tb, PySem.W.Looks (model X.prog X.w) s.heap (typeOf u) tb ∧ PySem.W.notFirst X.K C tb = true := by
  rcases h with h | h
  · exact knV_type I ry h
  · rcases h with rfl | ⟨i, rfl⟩ | ⟨z, rfl⟩ | ⟨p, vs, rfl, h⟩ | ⟨p, rfl, h⟩
    · exact knV_type I ry (.inl rfl)
    · exact knV_type I ry (.inr (.inr (.inl ⟨i, rfl⟩)))
    · exact knV_type I ry (.inr (.inr (.inr (.inl ⟨z, rfl⟩))))
    · exact knV_type I ry (.inr (.inr (.inr (.inr (.inl ⟨p, vs, rfl, h⟩)))))
    · cases ry
      have ⟨o, g1, g2⟩ : ∃ o, s.heap.get? p = some o ∧ o.cls = .type "dict" := by
        rcases h with hp | hp
        · obtain ⟨_, n, vs, kv, o, es, ep, g1, g2, g3, _⟩ := hp.ok I.hok
          exact ⟨o, g1, g2.1⟩
        · obtain ⟨_, n, vs, kv, o, es, ep, g1, g2, g3, _⟩ := hp.ok I.hok
          exact ⟨o, g1, g2.1⟩
      refine ⟨.type "dict", ?_, sub_plain (.inr (.inr (.inr (.inr (.inr (.inr rfl))))))⟩
      rw [← g2]
      exact (PySem.W.Looks.ld g1).andThen .now
/-- a == b, a != b by an own __eq__, of a's class or, reflected, of b's -/
def mEqA (neg : Bool) (c : Str) (F : FF) (fa fb : EF) : EF := fun lo st => fa lo st >>= fun (a, ka, st1) => fb lo st1 >>= fun (b, kb, st2) =>
  if isPk ka = false ∧ isPk kb = false then
    (if insOf c "__eq__" (vw st2 a) = true ∧ (knM c (vw st2 b) || decM (vw st2 b)) = true then (callF 2 F [] [(a, false), (b, false)] lo st2 >>= fun (r, _, st3) => match r with
      | .bl z => .ok (.bl (if neg then !z else z), .fz, st3)
      | _ => .bad)
    else if neg = false ∧ decM (vw st2 a) = true ∧ insOf c "__eq__" (vw st2 b) = true then (callF 2 F [] [(b, false), (a, false)] lo st2 >>= fun (r, _, st3) => match r with
      | .bl z => .ok (.bl z, .fz, st3)
      | _ => .bad)
    else .bad) else .bad
section
variable {X : Cx} {B : Base} {W : WX} {a b : Expr} {fa fb : EF} {k : Nat} {C f : Addr} {fd : FuncData} {ps : List Str} {FM : FF} {c : Str}
theorem pc_eqA (neg : Bool) (ha : SE X B W a fa) (hb' : SE X B W b fb) (hm : EqOwn X.K C f) (hbk : EqBack X.K C) (hc : X.mg c = some (.ref C)) (F : FnG X.prog X.w X.K X.mg X.base k f fd ps (spM X.wd 2 FM)) (hr : RoomG (k + 1) X.A) (tk : Takes X W) (hb : Binds X.K fd ps []) :
    PC X (if neg = true then .NotEq else .Eq) a b (tE X.wd B W (mEqA neg c FM fa fb)) := by
  refine ⟨fun pins s σ H Q I ⟨S, ι, lo, st, fm, pp⟩ => ?_⟩
  have run := ha.run pins s σ H (fun x H1 => tE X.wd B W fb σ H1 (fun y H2 =>
    (∃ p dx fs, x = .ref p ∧ H2 p = some (.ins C dx fs) ∧ (KnV C H2 y ∨ DecV H2 y) ∧ ∃ E : XK, (∀ cls d H', E cls d H' → W cls d σ H') ∧ spM X.wd 2 FM [x, y] H2 (fun v H3 => ∃ r, v = .bl r ∧ Q (.bl (if neg then !r else r)) H3) E) ∨
    (neg = false ∧ DecV H2 x ∧ ∃ p dx fs, y = .ref p ∧ H2 p = some (.ins C dx fs) ∧ ∃ E : XK, (∀ cls d H', E cls d H' → W cls d σ H') ∧ spM X.wd 2 FM [y, x] H2 (fun v H3 => ∃ r, v = .bl r ∧ Q (.bl r) H3) E))) I ?_
  · refine thn run fun v s1 ⟨x, H1, I1, rx, q1⟩ => ?_
    refine thn (hb'.run pins s1 σ H1 _ I1 q1) fun u s2 ⟨y, H2, I2, ry, h⟩ => ?_
    rcases h with ⟨p, dx, fs, ex, ea, kv, E, hE, q⟩ | ⟨hn0, dv, p, dx, fs, ey, ea, E, hE, q⟩
    · subst ex
      cases (show v = Value.ref p from rx)
      obtain ⟨mA, J, _⟩ := ins_get I2.hok ea
      obtain ⟨od, J, _⟩ := J.look
      obtain ⟨m, hF⟩ := I2.fr
      obtain ⟨tb, ht, hn⟩ := dec_type I2 ry kv
      cases neg with
      | false =>
        show wpAny (model X.prog X.w) X.A (richCompare .Eq (.ref p) u) (EP X pins σ Q) X.xe s2
        refine PySem.W.cmp_K (op := .Eq) (tb := tb) hr.r.units0 hF I2.ok.mod.kin J ht hn hm.m.at_ hm.m.fn ?_
        refine wpAny_mono (run_fnG (us := [.ref p, u]) (vs := [.ref p, y]) (dvs := []) F ⟨hr.r.mono (Nat.le_succ k), hr.g⟩ hb .nil hE tk I2 (.cons rfl (.cons ry .nil)) (by rw [List.append_nil]; exact q)) (fun w s' z => ?_) fun _ _ e => e
        obtain ⟨v', H', I', rv, r, ev, qr⟩ := z
        subst ev
        cases rv
        exact ⟨.bl r, H', I', rfl, qr⟩
      | true =>
        show wpAny (model X.prog X.w) X.A (compareOp .NotEq (.ref p) u) (EP X pins σ Q) X.xe s2
        have hu : X.A.units + 1 < cLine := by have := hr.r.units; omega
        unfold compareOp
        refine cmp_neK (tb := tb) hu hF I2.ok.mod.kin J ht hn hm.ne hm.ob hm.m.at_ hm.m.fn ?_
        refine wpAny_mono (run_in1 (us := [.ref p, u]) (vs := [.ref p, y]) F hr hb hE tk I2 (.cons rfl (.cons ry .nil)) q) (fun w s' z => ?_) fun _ _ e => e
        obtain ⟨v', H', I', rv, r, ev, qr⟩ := z
        subst ev
        cases rv
        exact ⟨r, rfl, .bl (!r), H', I', rfl, qr⟩
    · subst hn0
      subst ey
      cases (show u = Value.ref p from ry)
      obtain ⟨mA, J0, _⟩ := ins_get I2.hok ea
      obtain ⟨m, hF⟩ := I2.fr
      obtain ⟨T, hT, hsub, hdec⟩ := dec_ok (A := X.A) (E := X.xe) I2 hbk J0 rx dv
      obtain ⟨od, J, _⟩ := J0.look
      show wpAny (model X.prog X.w) X.A (richCompare .Eq v (.ref p)) (EP X pins σ Q) X.xe s2
      refine cmp_backK hr.r.units0 hF I2.ok.mod.kin J hT hsub hdec hm.m.at_ hm.m.fn ?_
      refine wpAny_mono (run_fnG (us := [.ref p, v]) (vs := [.ref p, x]) (dvs := []) F ⟨hr.r.mono (Nat.le_succ k), hr.g⟩ hb .nil hE tk I2 (.cons rfl (.cons rx .nil)) (by rw [List.append_nil]; exact q)) (fun w s' z => ?_) fun _ _ e => e
      obtain ⟨v', H', I', rv, r, ev, qr⟩ := z
      subst ev
      cases rv
      exact ⟨.bl r, H', I', rfl, qr⟩
  · refine tE.use fm (Post.bind pp) fun t kt st1 S1 ι1 H1 x f1 k1 r1 p1 => ?_
    obtain ⟨S1', f1', k1', h1⟩ := r1.hand f1
    dsimp only at p1
    refine tE.use f1' (Post.bind (p1.mono (k1.trans k1') fun _ z => z)) fun t2 kt2 st2 S2 ι2 H2 y f2 k2 r2 p2 => ?_
    obtain ⟨S2', f2', k2', h2⟩ := r2.hand f2
    dsimp only at p2
    split at p2
    case isFalse => exact p2.elim
    rename_i hh
    obtain ⟨hk, hk2⟩ := hh
    rw [hk] at h1
    rw [hk2] at h2
    have h1' : Dt X.wd S2' ι2 H2 x t := Dt.mono (k2.trans k2') h1
    have vr := Hand.vr (b := false) f2' h1'
    have vr2 := Hand.vr (b := false) f2' h2
    have fin : ∀ {rm : MV} {rk : Kd} {rst : Sto} {S' : Addr → Prop} {ι' : List Addr} {H' : Hp} {v : V} (g : Bool → Bool) (f : Fm X.wd B S' ι' H' lo σ rst) (kk : Keep S2' ι2 H2 S' ι' H') (rv : RV X.wd B S' ι' H' lo σ v rm rk)
      (z : Post X.wd B W S2' ι2 H2 (fun r => ∀ S' ι' H' v, Fm X.wd B S' ι' H' lo σ r.2.2 → Keep S ι H S' ι' H' → RV X.wd B S' ι' H' lo σ v r.1 r.2.1 → Q v H') (match rm with | .bl z => Res.ok (MV.bl (g z), Kd.fz, rst) | _ => .bad)), ∃ r, v = .bl r ∧ Q (.bl (g r)) H' := by
      intro rm rk rst S' ι' H' v g f kk rv z
      obtain ⟨S3, f3, k3, h3⟩ := rv.hand f
      have v3 := h3.vr f3
      cases rm with
      | bl zb =>
        have ev3 : v = .bl zb := v3
        exact ⟨zb, ev3, z S3 ι' H' (.bl (g zb)) f3 ((k1.trans k1').trans ((k2.trans k2').trans (kk.trans k3))) (.bl _)⟩
      | _ => exact z.elim
    split at p2
    · rename_i hh
      obtain ⟨hi, hkn⟩ := hh
      obtain ⟨fs, ev, hl⟩ := insOf_ok hi
      rw [ev] at vr
      have kv : KnV C H2 y ∨ DecV H2 y := by
        rcases Bool.or_eq_true_iff.mp hkn with e | e
        · exact .inl (knV_of (mg := X.wd) hc vr2 e)
        · exact .inr (decV_of vr2 e)
      obtain ⟨q, C', dx, ws, rfl, g1, hmc, hn, _⟩ := vr
      cases (show some (Value.ref C) = some (Value.ref C') from hc.symm.trans hmc)
      refine .inl ⟨q, dx, ws, rfl, g1, kv, ?_⟩
      have p3 := Post.bind (p2.mono (k2.trans k2') fun _ z => z)
      unfold callF at p3
      simp only [d_allFz1, d_allFz0, Option.map_some, List.append_nil] at p3
      rw [if_pos (show [t, t2].length = 2 from rfl)] at p3
      refine ⟨_, ?_, wants_callee f2' (AllD.cons h1' (AllD.cons h2 .nil)) rfl .refl (p3.imp fun r z S' ι' H' v f kk rv => fin (fun z => if neg then !z else z) f kk rv z)⟩
      rintro cls d H' ⟨_, _, _, _, _, _, _, _, z⟩
      exact z
    · split at p2
      case isFalse => exact p2.elim
      rename_i hh
      obtain ⟨hn0, hd, hi⟩ := hh
      obtain ⟨fs, ev, hl⟩ := insOf_ok hi
      have dv : DecV H2 x := decV_of vr hd
      rw [ev] at vr2
      obtain ⟨q, C', dx, ws, rfl, g1, hmc, hn, _⟩ := vr2
      cases (show some (Value.ref C) = some (Value.ref C') from hc.symm.trans hmc)
      refine .inr ⟨hn0, dv, q, dx, ws, rfl, g1, ?_⟩
      have p3 := Post.bind (p2.mono (k2.trans k2') fun _ z => z)
      unfold callF at p3
      simp only [d_allFz1, d_allFz0, Option.map_some, List.append_nil] at p3
      rw [if_pos (show [t2, t].length = 2 from rfl)] at p3
      refine ⟨_, ?_, wants_callee f2' (AllD.cons h2 (AllD.cons h1' .nil)) rfl .refl (p3.imp fun r z S' ι' H' v f kk rv => fin (fun z => z) f kk rv z)⟩
      rintro cls d H' ⟨_, _, _, _, _, _, _, _, z⟩
      exact z
section
variable {pos : Pos}
theorem se_eqA (ha : SE X B W a fa) (hb' : SE X B W b fb) (hm : EqOwn X.K C f) (hbk : EqBack X.K C) (hc : X.mg c = some (.ref C)) (F : FnG X.prog X.w X.K X.mg X.base k f fd ps (spM X.wd 2 FM)) (hr : RoomG (k + 1) X.A) (tk : Takes X W) (hb : Binds X.K fd ps []) :
    SE X B W (.Compare a [.Eq] [b] pos) (mEqA false c FM fa fb) := pe_cmp (pc_eqA false ha hb' hm hbk hc F hr tk hb)
theorem se_neA (ha : SE X B W a fa) (hb' : SE X B W b fb) (hm : EqOwn X.K C f) (hbk : EqBack X.K C) (hc : X.mg c = some (.ref C)) (F : FnG X.prog X.w X.K X.mg X.base k f fd ps (spM X.wd 2 FM)) (hr : RoomG (k + 1) X.A) (tk : Takes X W) (hb : Binds X.K fd ps []) :
    SE X B W (.Compare a [.NotEq] [b] pos) (mEqA true c FM fa fb) := pe_cmp (pc_eqA true ha hb' hm hbk hc F hr tk hb)
theorem st_eqA (ha : SE X B W a fa) (hb' : SE X B W b fb) (hm : EqOwn X.K C f) (hbk : EqBack X.K C) (hc : X.mg c = some (.ref C)) (F : FnG X.prog X.w X.K X.mg X.base k f fd ps (spM X.wd 2 FM)) (hr : RoomG (k + 1) X.A) (tk : Takes X W) (hb : Binds X.K fd ps []) :
    STe X B W (.Compare a [.Eq] [b] pos) (mTv (mEqA false c FM fa fb)) := st_of_pc (pc_eqA false ha hb' hm hbk hc F hr tk hb)
theorem st_neA (ha : SE X B W a fa) (hb' : SE X B W b fb) (hm : EqOwn X.K C f) (hbk : EqBack X.K C) (hc : X.mg c = some (.ref C)) (F : FnG X.prog X.w X.K X.mg X.base k f fd ps (spM X.wd 2 FM)) (hr : RoomG (k + 1) X.A) (tk : Takes X W) (hb : Binds X.K fd ps []) :
    STe X B W (.Compare a [.NotEq] [b] pos) (mTv (mEqA true c FM fa fb)) := st_of_pc (pc_eqA true ha hb' hm hbk hc F hr tk hb)
end
end
section
variable {c : Str} {F : FF} {fa fb : EF} {lo : Lo} {st st1 st2 st3 : Sto} {a b : MV} {ka kb : Kd} {neg r : Bool}
theorem eqA_l (h1 : fa lo st = .ok (a, ka, st1)) (k1 : isPk ka = false) (h2 : fb lo st1 = .ok (b, kb, st2)) (k2 : isPk kb = false) (hi : insOf c "__eq__" (vw st2 a) = true) (hk : (knM c (vw st2 b) || decM (vw st2 b)) = true) (hF : F [a, b] st2 = .ok (.bl r, false, st3)) :
    mEqA neg c F fa fb lo st = .ok (.bl (if neg then !r else r), .fz, st3) := by
  unfold mEqA
  rw [h1]
  simp only [Res.ok_bind]
  rw [h2]
  simp only [Res.ok_bind]
  rw [if_pos ⟨k1, k2⟩, if_pos ⟨hi, hk⟩]
  unfold callF
  simp only [d_allFz1, d_allFz0, Option.map_some, List.append_nil]
  rw [if_pos (show [a, b].length = 2 from rfl), callR_ok _ _ hF]
  rfl
theorem eqA_r (h1 : fa lo st = .ok (a, ka, st1)) (k1 : isPk ka = false) (h2 : fb lo st1 = .ok (b, kb, st2)) (k2 : isPk kb = false) (hd : decM (vw st2 a) = true) (hi : insOf c "__eq__" (vw st2 b) = true) (hF : F [b, a] st2 = .ok (.bl r, false, st3)) :
    mEqA false c F fa fb lo st = .ok (.bl r, .fz, st3) := by
  unfold mEqA
  rw [h1]
  simp only [Res.ok_bind]
  rw [h2]
  simp only [Res.ok_bind]
  have no : ¬ (insOf c "__eq__" (vw st2 a) = true ∧ (knM c (vw st2 b) || decM (vw st2 b)) = true) := fun z => by
    obtain ⟨fs, e, _⟩ := insOf_ok z.1
    rw [e] at hd
    cases hd
  rw [if_pos ⟨k1, k2⟩, if_neg no, if_pos ⟨trivial, hd, hi⟩]
  unfold callF
  simp only [d_allFz1, d_allFz0, Option.map_some, List.append_nil]
  rw [if_pos (show [b, a].length = 2 from rfl), callR_ok _ _ hF]
  rfl
end
end FW

namespace FW
open PySem L2 PySem.Spec PyProof.Rows

abbrev KK := Key ⊕ List Key
def kyI : MV → Option Key
  | .int i => some (.inl i)
  | .str x => some (.inr x)
  | _ => none
def kyM : MV → Option KK
  | .int i => some (.inl (.inl i))
  | .str x => some (.inl (.inr x))
  | .tup ms => (mapO kyI ms).map Sum.inr
  | _ => none
theorem kyI_kM (k : Key) : kyI (kM k) = some k := by cases k <;> rfl
theorem kyM_kM (k : Key) : kyM (kM k) = some (.inl k) := by cases k <;> rfl
theorem mapO_kM (ks : List Key) : mapO kyI (ks.map kM) = some ks := by
  induction ks with
  | nil => rfl
  | cons k ks ih => rw [List.map_cons]; unfold mapO; rw [kyI_kM, ih]
theorem kyM_tup (ks : List Key) : kyM (.tup (ks.map kM)) = some (.inr ks) := by
  show (mapO kyI (ks.map kM)).map Sum.inr = _
  rw [mapO_kM]; rfl
theorem kyI_inv {m : MV} {k : Key} (h : kyI m = some k) : m = kM k := by
  cases m <;> first | (cases h; rfl) | cases h
theorem mapO_inv : ∀ {ms : List MV} {ks : List Key}, mapO kyI ms = some ks → ms = ks.map kM
  | [], ks, h => by cases h; rfl
  | m :: ms, ks, h => by
    unfold mapO at h
    cases e1 : kyI m with
    | none => rw [e1] at h; cases h
    | some k =>
      rw [e1] at h
      cases e2 : mapO kyI ms with
      | none => rw [e2] at h; cases h
      | some r =>
        rw [e2] at h
        cases h
        rw [kyI_inv e1, mapO_inv e2]; rfl
theorem kyM_inv {m : MV} {k : KK} (h : kyM m = some k) : (∃ j, k = .inl j ∧ m = kM j) ∨ ∃ ks, k = .inr ks ∧ m = .tup (ks.map kM) := by
  cases m with
  | int i => cases h; exact .inl ⟨_, rfl, rfl⟩
  | str x => cases h; exact .inl ⟨_, rfl, rfl⟩
  | tup ms =>
    obtain ⟨ks, e, rfl⟩ := Option.map_eq_some_iff.mp (show (mapO kyI ms).map Sum.inr = some k from h)
    exact .inr ⟨ks, rfl, by rw [mapO_inv e]⟩
  | _ => cases h
/-- what stands at a key -/
def lkD (ps : List (MV × MV)) (k : KK) : Option MV := (ps.find? fun p => decide (kyM p.1 = some k)).map (·.2)
def isInl : KK → Bool
  | .inl _ => true
  | .inr _ => false
def sameSort (ps : List (MV × MV)) (k : KK) : Bool := ps.all fun p => match kyM p.1 with
  | some j => isInl j == isInl k
  | none => false
section
variable {mg : Wd} {S : Addr → Prop} {ι : List Addr} {H : Hp}
theorem lk_K : ∀ {kvs : List (Key × V)} {ps : List (MV × MV)}, kvs.length = ps.length → (∀ (i : Nat) kv q, kvs[i]? = some kv → ps[i]? = some q → q.1 = kM kv.1 ∧ Dt mg S ι H kv.2 q.2) → ∀ k : Key,
    (∀ m, lkD ps (.inl k) = some m → ∃ v, valV kvs k = some v ∧ Dt mg S ι H v m) ∧ (lkD ps (.inl k) = none → valV kvs k = none)
  | [], ps, hl, _, k => by
    have e : ps = [] := List.length_eq_zero_iff.mp hl.symm
    subst e
    exact ⟨fun m h => (nomatch h), fun _ => rfl⟩
  | kv :: kvs, [], hl, _, _ => by cases hl
  | kv :: kvs, p :: ps, hl, h, k => by
    have h0 := h 0 kv p rfl rfl
    have ih := lk_K (kvs := kvs) (ps := ps) (by simpa using hl) (fun i a b h1 h2 => h (i + 1) a b (by simpa using h1) (by simpa using h2)) k
    have e : kyM p.1 = some (.inl kv.1) := by rw [h0.1, kyM_kM]
    by_cases hk : kv.1 = k
    · have d : decide (kyM p.1 = some (.inl k)) = true := decide_eq_true (by rw [e, hk])
      have e1 : lkD (p :: ps) (.inl k) = some p.2 := by simp [lkD, List.find?_cons, d]
      rw [e1]
      exact ⟨fun m hm => by cases hm; exact ⟨kv.2, valV_pos hk, h0.2⟩, fun z => by cases z⟩
    · have d : decide (kyM p.1 = some (.inl k)) = false := decide_eq_false (by rw [e]; intro z; exact hk (Sum.inl.inj (Option.some.inj z)))
      have e1 : lkD (p :: ps) (.inl k) = lkD ps (.inl k) := by simp [lkD, List.find?_cons, d]
      rw [e1, valV_neg hk]
      exact ih
theorem lk_Kr : ∀ {kvs : List (Key × V)} {ps : List (MV × MV)}, kvs.length = ps.length → (∀ (i : Nat) kv q, kvs[i]? = some kv → ps[i]? = some q → q.1 = kM kv.1 ∧ Dt mg S ι H kv.2 q.2) → ∀ k : List Key, lkD ps (.inr k) = none ∧ (sameSort ps (.inr k) = true → kvs = [])
  | [], ps, hl, _, k => by
    have e : ps = [] := List.length_eq_zero_iff.mp hl.symm
    subst e
    exact ⟨rfl, fun _ => rfl⟩
  | kv :: kvs, [], hl, _, _ => by cases hl
  | kv :: kvs, p :: ps, hl, h, k => by
    have h0 := h 0 kv p rfl rfl
    have ih := lk_Kr (kvs := kvs) (ps := ps) (by simpa using hl) (fun i a b h1 h2 => h (i + 1) a b (by simpa using h1) (by simpa using h2)) k
    have e : kyM p.1 = some (.inl kv.1) := by rw [h0.1, kyM_kM]
    have d : decide (kyM p.1 = some (.inr k)) = false := decide_eq_false (by rw [e]; intro z; cases Option.some.inj z)
    have e1 : lkD (p :: ps) (.inr k) = lkD ps (.inr k) := by simp [lkD, List.find?_cons, d]
    refine ⟨e1.trans ih.1, fun z => ?_⟩
    unfold sameSort at z
    rw [List.all_cons, e] at z
    simp [isInl] at z
theorem lk_T : ∀ {kvs : List (List Key × V)} {ps : List (MV × MV)}, kvs.length = ps.length → (∀ (i : Nat) kv q, kvs[i]? = some kv → ps[i]? = some q → q.1 = .tup (kv.1.map kM) ∧ Dt mg S ι H kv.2 q.2) → ∀ k : List Key,
    (∀ m, lkD ps (.inr k) = some m → ∃ v, valV kvs k = some v ∧ Dt mg S ι H v m) ∧ (lkD ps (.inr k) = none → valV kvs k = none)
  | [], ps, hl, _, k => by
    have e : ps = [] := List.length_eq_zero_iff.mp hl.symm
    subst e
    exact ⟨fun m h => (nomatch h), fun _ => rfl⟩
  | kv :: kvs, [], hl, _, _ => by cases hl
  | kv :: kvs, p :: ps, hl, h, k => by
    have h0 := h 0 kv p rfl rfl
    have ih := lk_T (kvs := kvs) (ps := ps) (by simpa using hl) (fun i a b h1 h2 => h (i + 1) a b (by simpa using h1) (by simpa using h2)) k
    have e : kyM p.1 = some (.inr kv.1) := by rw [h0.1, kyM_tup]
    by_cases hk : kv.1 = k
    · have d : decide (kyM p.1 = some (.inr k)) = true := decide_eq_true (by rw [e, hk])
      have e1 : lkD (p :: ps) (.inr k) = some p.2 := by simp [lkD, List.find?_cons, d]
      rw [e1]
      exact ⟨fun m hm => by cases hm; exact ⟨kv.2, valV_pos hk, h0.2⟩, fun z => by cases z⟩
    · have d : decide (kyM p.1 = some (.inr k)) = false := decide_eq_false (by rw [e]; intro z; exact hk (Sum.inr.inj (Option.some.inj z)))
      have e1 : lkD (p :: ps) (.inr k) = lkD ps (.inr k) := by simp [lkD, List.find?_cons, d]
      rw [e1, valV_neg hk]
      exact ih
theorem lk_Tr : ∀ {kvs : List (List Key × V)} {ps : List (MV × MV)}, kvs.length = ps.length → (∀ (i : Nat) kv q, kvs[i]? = some kv → ps[i]? = some q → q.1 = .tup (kv.1.map kM) ∧ Dt mg S ι H kv.2 q.2) → ∀ k : Key, lkD ps (.inl k) = none ∧ (sameSort ps (.inl k) = true → kvs = [])
  | [], ps, hl, _, k => by
    have e : ps = [] := List.length_eq_zero_iff.mp hl.symm
    subst e
    exact ⟨rfl, fun _ => rfl⟩
  | kv :: kvs, [], hl, _, _ => by cases hl
  | kv :: kvs, p :: ps, hl, h, k => by
    have h0 := h 0 kv p rfl rfl
    have ih := lk_Tr (kvs := kvs) (ps := ps) (by simpa using hl) (fun i a b h1 h2 => h (i + 1) a b (by simpa using h1) (by simpa using h2)) k
    have e : kyM p.1 = some (.inr kv.1) := by rw [h0.1, kyM_tup]
    have d : decide (kyM p.1 = some (.inl k)) = false := decide_eq_false (by rw [e]; intro z; cases Option.some.inj z)
    have e1 : lkD (p :: ps) (.inl k) = lkD ps (.inl k) := by simp [lkD, List.find?_cons, d]
    refine ⟨e1.trans ih.1, fun z => ?_⟩
    unfold sameSort at z
    rw [List.all_cons, e] at z
    simp [isInl] at z
theorem dt_kM {v : V} {k : Key} (d : Dt mg S ι H v (kM k)) : v = kV k := by
  cases k with
  | inl i => cases d; rfl
  | inr x => cases d; rfl
theorem allD_kM : ∀ {vs : List V} {ks : List Key}, AllD mg S ι H vs (ks.map kM) → vs = ks.map kV
  | vs, [], r => by rw [r.inv_nil]; rfl
  | vs, k :: ks, r => by
    obtain ⟨v, vs', rfl, d, r'⟩ := r.inv_cons
    rw [dt_kM d, allD_kM r']; rfl
/-- a key, as the heap has it -/
theorem vr_key {y : V} {m : MV} {k : KK} (vr : VR mg S ι H y m) (h : kyM m = some k) : (∃ j, k = .inl j ∧ y = kV j) ∨ ∃ ks b, k = .inr ks ∧ y = .ref b ∧ H b = some (.tup (ks.map kV)) := by
  rcases kyM_inv h with ⟨j, rfl, rfl⟩ | ⟨ks, rfl, rfl⟩
  · refine .inl ⟨j, rfl, ?_⟩
    cases j with
    | inl i => cases vr; rfl
    | inr x => cases vr; rfl
  · obtain ⟨p, vs, rfl, e, d⟩ := vr
    exact .inr ⟨ks, p, rfl, rfl, by rw [e, allD_kM d]⟩
end

def gDGet : MV → MV → Option MV
  | .dct ps, k => (kyM k).bind (lkD ps)
  | _, _ => none
def mDGet (fd fk : EF) : EF := fun lo st => fd lo st >>= fun (d, _, st1) => fk lo st1 >>= fun (k, _, st2) => match gDGet (vw st2 d) (vw st2 k) with
  | some m => .ok (m, .fz, st2)
  | none => .bad
/-- what d holds at k -/
theorem dget_of {mg : Wd} {S : Addr → Prop} {ι : List Addr} {H : Hp} {x y : V} {ps : List (MV × MV)} {k m : MV} {kk : KK} (vd : VR mg S ι H x (.dct ps)) (vk : VR mg S ι H y k) (hk : kyM k = some kk) (h : lkD ps kk = some m) : ∃ a v, x = .ref a ∧ DGet H a y (some v) ∧ Dt mg S ι H v m := by
  obtain ⟨a, rfl, al⟩ := vd
  rcases vr_key vk hk with ⟨j, rfl, rfl⟩ | ⟨ks, b, rfl, rfl, eb⟩
  · rcases al with ⟨kvs, r, hl, hp⟩ | ⟨kvs, r, hl, hp⟩
    · obtain ⟨v, e, d⟩ := (lk_K hl hp j).1 m h
      exact ⟨a, v, rfl, .inl ⟨kvs, j, r, rfl, e.symm⟩, d⟩
    · rw [(lk_Tr hl hp j).1] at h; cases h
  · rcases al with ⟨kvs, r, hl, hp⟩ | ⟨kvs, r, hl, hp⟩
    · rw [(lk_Kr hl hp ks).1] at h; cases h
    · obtain ⟨v, e, d⟩ := (lk_T hl hp ks).1 m h
      exact ⟨a, v, rfl, .inr ⟨kvs, ks, b, r, rfl, eb, e.symm⟩, d⟩
section
variable {X : Cx} {B : Base} {W : WX} {o i : Expr} {fd fk : EF} {k : Nat} {pos : Pos}
theorem se_dget (hr : RoomG k X.A) (ho : SE X B W o fd) (hi : SE X B W i fk) (hs : NoSl i := by intro _ _; rfl) : SE X B W (.Subscript o i pos) (mDGet fd fk) := by
  refine (pe_dget (by have := hr.r.un; omega) ho hi hs).fw fun σ H Q ⟨S, ι, lo, st, fm, pp⟩ => ?_
  refine tE.use fm (Post.bind pp) fun t kt st1 S1 ι1 H1 x f1 k1 r1 p1 => ?_
  obtain ⟨S1', f1', k1', h1⟩ := r1.hand f1
  refine tE.use f1' (Post.bind (p1.mono (k1.trans k1') fun _ z => z)) fun b kb st2 S2 ι2 H2 y f2 k2 r2 p2 => ?_
  obtain ⟨S2', f2', k2', h2⟩ := r2.hand f2
  have v1 := (h1.mono (k2.trans k2')).vr f2'
  have v2 := h2.vr f2'
  dsimp only at p2
  split at p2
  · rename_i m e
    unfold gDGet at e
    split at e
    · rename_i ps k' eq
      obtain ⟨kk, hk, hl⟩ := Option.bind_eq_some_iff.mp e
      rw [eq] at v1
      obtain ⟨a, v, ea, g, d⟩ := dget_of v1 v2 hk hl
      exact ⟨a, v, ea, g, p2 S2' ι2 H2 v f2' ((k1.trans k1').trans (k2.trans k2')) d⟩
    · cases e
  · exact p2.elim
end

/-- an empty dict: of either sort -/
def DNil (H : Hp) (a : Addr) : Prop := Rd H a (.dK []) ∨ Rd H a (.dT [])
def DAsk (H : Hp) (a : Addr) (y : V) (o : Option V) : Prop := DGet H a y o ∨ (o = none ∧ DNil H a ∧ ((∃ k, y = kV k) ∨ ∃ (ks : List Key) (b : Addr), y = .ref b ∧ H b = some (.tup (ks.map kV))))
section
variable {X : Cx} {pins : List (Addr × Obj)} {σ : L2.St} {H : Hp} {s : Shared} {A : Around} {E : Value → Shared → Prop} {a : Addr} {y : V} {u : Value} {o : Option V}
theorem dnil_at (I : L2.Inv X pins σ H s) (h : DNil H a) : (a == sysModules) = false ∧ s.heap.DictOf (mixKind X.prog X.w) a [] ∧ s.heap.DictOfH (tupleKind (mixKind X.prog X.w)) a [] := by
  rcases h with h | h
  · obtain ⟨_, hd, vs, rel, dd⟩ := dk_rd I.hok h
    cases rel
    obtain ⟨ob, es, ep, h1, h2, h3, h4, h5, h6⟩ := id dd
    cases e : es.toList with
    | nil => exact ⟨hd, dd, ob, es, ep, h1, h2, h3, e, fun x hx => (nomatch hx), List.nodup_nil⟩
    | cons _ _ => rw [e] at h5; cases h5
  · obtain ⟨_, hd, xs, rel, dd⟩ := dt_rd I.hok h
    cases rel
    obtain ⟨ob, es, ep, h1, h2, h3, h4, h5, h6⟩ := id dd
    have e : es.toList = [] := h4
    refine ⟨hd, ⟨ob, es, ep, h1, h2, h3, fun z hz => ?_, by rw [e]; exact .nil, List.nodup_nil⟩, dd⟩
    rw [Array.mem_def, e] at hz
    cases hz
theorem d_ask {Q : Value → Shared → Prop} (neg : Bool) (hu : A.units + 1 < cLine) (I : L2.Inv X pins σ H s) (g : DAsk H a y o) (ry : RelV y u) (h : ∀ s', L2.Inv X pins σ H s' → Q (.bool (if neg then !o.isSome else o.isSome)) s') :
    wpAny (model X.prog X.w) A (compareOp (if neg then .NotIn else .In) u (.ref a)) Q E s := by
  rcases g with g | ⟨rfl, hn, hy⟩
  · cases neg with
    | false => exact d_in hu I g ry h
    | true => exact d_notIn hu I g ry h
  · obtain ⟨hd, dK, dT⟩ := dnil_at I hn
    rcases hy with ⟨k, rfl⟩ | ⟨ks, b, rfl, eb⟩
    · cases neg with
      | false => exact wpAny_in_of (kV_is ry) hd dK.mapOf (h _ (I.tok _))
      | true => exact wpAny_notIn_of (kV_is ry) hd dK.mapOf (h _ (I.tok _))
    · cases (show u = Value.ref b from ry)
      cases neg with
      | false => exact wpAny_in_heap (tupleKind_room_in1 hu) (key_of I.hok eb) hd dT (h _ (I.tok _))
      | true => exact wpAny_notIn_heap (tupleKind_room_in1 hu) (key_of I.hok eb) hd dT (h _ (I.tok _))
end
/-- y in d, y not in d -/
def tAsk (neg : Bool) (ty td : TE) : TE := fun σ H Q => ty σ H fun y H1 => td σ H1 fun x H2 => ∃ a o, x = .ref a ∧ DAsk H2 a y o ∧ Q (.bl (if neg then !o.isSome else o.isSome)) H2
theorem pc_ask (neg : Bool) {X : Cx} {o i : Expr} {td ty : TE} (hu : X.A.units + 1 < cLine) (hi : PE X i ty) (ho : PE X o td) : PC X (if neg then .NotIn else .In) i o (tAsk neg ty td) := by
  refine ⟨fun pins s σ H Q I h => ?_⟩
  refine thn (hi.run pins s σ H _ I h) fun iv s1 ⟨y, H1, I1, ry, q1⟩ => thn (ho.run pins s1 σ H1 _ I1 q1) fun u s2 ⟨x, H2, I2, rx, a, ov, ex, g, q2⟩ => ?_
  subst ex
  obtain rfl : u = Value.ref a := rx
  exact d_ask neg hu I2 g ry fun s3 I3 => ⟨.bl _, H2, I3, rfl, q2⟩
def gAsk : MV → MV → Option Bool
  | .dct ps, k => (kyM k).bind fun kk => if sameSort ps kk = true then some (lkD ps kk).isSome else none
  | _, _ => none
def mAsk (neg : Bool) (fk fd : EF) : EF := fun lo st => fk lo st >>= fun (k, _, st1) => fd lo st1 >>= fun (d, _, st2) => match gAsk (vw st2 d) (vw st2 k) with
  | some b => .ok (.bl (if neg then !b else b), .fz, st2)
  | none => .bad
theorem ask_of {mg : Wd} {S : Addr → Prop} {ι : List Addr} {H : Hp} {x y : V} {ps : List (MV × MV)} {k : MV} {kk : KK} (vd : VR mg S ι H x (.dct ps)) (vk : VR mg S ι H y k) (hk : kyM k = some kk) (h : sameSort ps kk = true) : ∃ a o, x = .ref a ∧ DAsk H a y o ∧ o.isSome = (lkD ps kk).isSome := by
  obtain ⟨a, rfl, al⟩ := vd
  rcases vr_key vk hk with ⟨j, rfl, rfl⟩ | ⟨ks, b, rfl, rfl, eb⟩
  · rcases al with ⟨kvs, r, hl, hp⟩ | ⟨kvs, r, hl, hp⟩
    · refine ⟨a, valV kvs j, rfl, .inl (.inl ⟨kvs, j, r, rfl, rfl⟩), ?_⟩
      have l := lk_K hl hp j
      cases e : lkD ps (.inl j) with
      | none => rw [l.2 e]; rfl
      | some m => obtain ⟨v, e2, _⟩ := l.1 m e; rw [e2]; rfl
    · have l := lk_Tr hl hp j
      have e := l.2 h
      subst e
      exact ⟨a, none, rfl, .inr ⟨rfl, .inr r, .inl ⟨j, rfl⟩⟩, by rw [l.1]; rfl⟩
  · rcases al with ⟨kvs, r, hl, hp⟩ | ⟨kvs, r, hl, hp⟩
    · have l := lk_Kr hl hp ks
      have e := l.2 h
      subst e
      exact ⟨a, none, rfl, .inr ⟨rfl, .inl r, .inr ⟨ks, b, rfl, eb⟩⟩, by rw [l.1]; rfl⟩
    · refine ⟨a, valV kvs ks, rfl, .inl (.inr ⟨kvs, ks, b, r, rfl, eb, rfl⟩), ?_⟩
      have l := lk_T hl hp ks
      cases e : lkD ps (.inr ks) with
      | none => rw [l.2 e]; rfl
      | some m => obtain ⟨v, e2, _⟩ := l.1 m e; rw [e2]; rfl
section
variable {X : Cx} {B : Base} {W : WX} {o i : Expr} {fd fk : EF} {k : Nat} {pos : Pos}
theorem pc_askM (neg : Bool) (hr : RoomG k X.A) (hi : SE X B W i fk) (ho : SE X B W o fd) : PC X (if neg then .NotIn else .In) i o (tE X.wd B W (mAsk neg fk fd)) := by
  refine ⟨fun pins s σ H Q I h => ((pc_ask neg (by have := hr.r.un; omega) hi ho).run pins s σ H Q I ?_)⟩
  obtain ⟨S, ι, lo, st, fm, pp⟩ := h
  refine tE.use fm (Post.bind pp) fun t kt st1 S1 ι1 H1 y f1 k1 r1 p1 => ?_
  obtain ⟨S1', f1', k1', h1⟩ := r1.hand f1
  refine tE.use f1' (Post.bind (p1.mono (k1.trans k1') fun _ z => z)) fun b kb st2 S2 ι2 H2 x f2 k2 r2 p2 => ?_
  obtain ⟨S2', f2', k2', h2⟩ := r2.hand f2
  have v1 := (h1.mono (k2.trans k2')).vr f2'
  have v2 := h2.vr f2'
  dsimp only at p2
  split at p2
  · rename_i bb e
    unfold gAsk at e
    split at e
    · rename_i ps k' eq
      obtain ⟨kk, hk, hl⟩ := Option.bind_eq_some_iff.mp e
      split at hl
      · rename_i ss
        cases hl
        rw [eq] at v2
        obtain ⟨a, ov, ea, g, io⟩ := ask_of v2 v1 hk ss
        refine ⟨a, ov, ea, g, ?_⟩
        rw [io]
        exact p2 S2' ι2 H2 _ f2' ((k1.trans k1').trans (k2.trans k2')) (.bl _)
      · cases hl
    · cases e
  · exact p2.elim
end
theorem st_of_pcM {X : Cx} {B : Base} {W : WX} {a b : Expr} {op : CmpOp} {f : EF} {pos : Pos} (h : PC X op a b (tE X.wd B W f)) (hm : behindInMarks op b = false := by first | exact nomark _ | rfl) : STe X B W (.Compare a [op] [b] pos) (mTv f) := by
  exact st_of_pc h hm
section
variable {X : Cx} {B : Base} {W : WX} {o i : Expr} {fd fk : EF} {k : Nat} {pos : Pos}
theorem se_din (hr : RoomG k X.A) (hi : SE X B W i fk) (ho : SE X B W o fd) (hm : behindInMarks .In o = false := by first | exact nomark _ | rfl) : SE X B W (.Compare i [.In] [o] pos) (mAsk false fk fd) := pe_cmp (pc_askM false hr hi ho) hm
theorem se_dnotin (hr : RoomG k X.A) (hi : SE X B W i fk) (ho : SE X B W o fd) (hm : behindInMarks .NotIn o = false := by first | exact nomark _ | rfl) : SE X B W (.Compare i [.NotIn] [o] pos) (mAsk true fk fd) := pe_cmp (pc_askM true hr hi ho) hm
theorem st_din (hr : RoomG k X.A) (hi : SE X B W i fk) (ho : SE X B W o fd) (hm : behindInMarks .In o = false := by first | exact nomark _ | rfl) : STe X B W (.Compare i [.In] [o] pos) (mTv (mAsk false fk fd)) := st_of_pc (pc_askM false hr hi ho) hm
theorem st_dnotin (hr : RoomG k X.A) (hi : SE X B W i fk) (ho : SE X B W o fd) (hm : behindInMarks .NotIn o = false := by first | exact nomark _ | rfl) : STe X B W (.Compare i [.NotIn] [o] pos) (mTv (mAsk true fk fd)) := st_of_pc (pc_askM true hr hi ho) hm
end

/-- a plain key put -/
def putD (ps : List (MV × MV)) (k : Key) (m : MV) : List (MV × MV) :=
  if (ps.any fun p => decide (kyM p.1 = some (.inl k))) = true then ps.map fun p => if kyM p.1 = some (.inl k) then (p.1, m) else p else ps ++ [(kM k, m)]
section
variable {mg : Wd} {S : Addr → Prop} {ι : List Addr} {H : Hp}
/-- keys and data, side by side -/
def KD (mg : Wd) (S : Addr → Prop) (ι : List Addr) (H : Hp) (kvs : List (Key × V)) (ps : List (MV × MV)) : Prop := kvs.length = ps.length ∧ ∀ (i : Nat) kv q, kvs[i]? = some kv → ps[i]? = some q → q.1 = kM kv.1 ∧ Dt mg S ι H kv.2 q.2
theorem KD.nil : KD mg S ι H [] [] := ⟨rfl, fun i kv q h => by simp at h⟩
theorem KD.cons {kv : Key × V} {p : MV × MV} {kvs : List (Key × V)} {ps : List (MV × MV)} (h1 : p.1 = kM kv.1) (h2 : Dt mg S ι H kv.2 p.2) (r : KD mg S ι H kvs ps) : KD mg S ι H (kv :: kvs) (p :: ps) := by
  refine ⟨by simp [r.1], fun i a b e1 e2 => ?_⟩
  cases i with
  | zero => simp at e1 e2; subst e1; subst e2; exact ⟨h1, h2⟩
  | succ i => exact r.2 i a b (by simpa using e1) (by simpa using e2)
theorem KD.inv {kv : Key × V} {kvs : List (Key × V)} {ps : List (MV × MV)} (r : KD mg S ι H (kv :: kvs) ps) : ∃ p ps', ps = p :: ps' ∧ p.1 = kM kv.1 ∧ Dt mg S ι H kv.2 p.2 ∧ KD mg S ι H kvs ps' := by
  obtain ⟨hl, h⟩ := r
  cases ps with
  | nil => cases hl
  | cons p ps' => exact ⟨p, ps', rfl, (h 0 kv p rfl rfl).1, (h 0 kv p rfl rfl).2, by simpa using hl, fun i a b e1 e2 => h (i + 1) a b (by simpa using e1) (by simpa using e2)⟩
theorem KD.mono {S' : Addr → Prop} {ι' : List Addr} {H' : Hp} {kvs : List (Key × V)} {ps : List (MV × MV)} (k : Keep S ι H S' ι' H') (r : KD mg S ι H kvs ps) : KD mg S' ι' H' kvs ps := ⟨r.1, fun i a b e1 e2 => ⟨(r.2 i a b e1 e2).1, (r.2 i a b e1 e2).2.mono k⟩⟩
theorem KD.any (k : Key) : ∀ {kvs : List (Key × V)} {ps : List (MV × MV)}, KD mg S ι H kvs ps → (ps.any fun p => decide (kyM p.1 = some (.inl k))) = kvs.any fun kv => decide (kv.1 = k)
  | [], ps, r => by
    have e : ps = [] := List.length_eq_zero_iff.mp r.1.symm
    subst e; rfl
  | kv :: kvs, ps, r => by
    obtain ⟨p, ps', rfl, h1, _, r'⟩ := r.inv
    rw [List.any_cons, List.any_cons, KD.any k r', h1, kyM_kM]
    congr 1
    by_cases e : kv.1 = k
    · rw [decide_eq_true e, decide_eq_true (by rw [e])]
    · rw [decide_eq_false e, decide_eq_false (fun z => e (Sum.inl.inj (Option.some.inj z)))]
theorem KD.repl (k : Key) {v : V} {m : MV} (d : Dt mg S ι H v m) : ∀ {kvs : List (Key × V)} {ps : List (MV × MV)}, KD mg S ι H kvs ps → KD mg S ι H (kvs.map fun kv => if kv.1 = k then (kv.1, v) else kv) (ps.map fun p => if kyM p.1 = some (.inl k) then (p.1, m) else p)
  | [], ps, r => by
    have e : ps = [] := List.length_eq_zero_iff.mp r.1.symm
    subst e; exact .nil
  | kv :: kvs, ps, r => by
    obtain ⟨p, ps', rfl, h1, h2, r'⟩ := r.inv
    rw [List.map_cons, List.map_cons]
    refine KD.cons ?_ ?_ (KD.repl k d r')
    · by_cases e : kv.1 = k
      · rw [if_pos e, if_pos (by rw [h1, kyM_kM, e])]; exact h1
      · rw [if_neg e, if_neg (by rw [h1, kyM_kM]; exact fun z => e (Sum.inl.inj (Option.some.inj z)))]; exact h1
    · by_cases e : kv.1 = k
      · rw [if_pos e, if_pos (by rw [h1, kyM_kM, e])]; exact d
      · rw [if_neg e, if_neg (by rw [h1, kyM_kM]; exact fun z => e (Sum.inl.inj (Option.some.inj z)))]; exact h2
theorem KD.snoc (k : Key) {v : V} {m : MV} (d : Dt mg S ι H v m) : ∀ {kvs : List (Key × V)} {ps : List (MV × MV)}, KD mg S ι H kvs ps → KD mg S ι H (kvs ++ [(k, v)]) (ps ++ [(kM k, m)])
  | [], ps, r => by
    have e : ps = [] := List.length_eq_zero_iff.mp r.1.symm
    subst e; exact .cons rfl d .nil
  | kv :: kvs, ps, r => by
    obtain ⟨p, ps', rfl, h1, h2, r'⟩ := r.inv
    exact .cons h1 h2 (KD.snoc k d r')
theorem KD.put {kvs : List (Key × V)} {ps : List (MV × MV)} (r : KD mg S ι H kvs ps) (k : Key) {v : V} {m : MV} (d : Dt mg S ι H v m) : KD mg S ι H (putK kvs k v) (putD ps k m) := by
  unfold putK putD
  rw [r.any k]
  cases kvs.any fun kv => decide (kv.1 = k) with
  | true => rw [if_pos rfl, if_pos rfl]; exact r.repl k d
  | false => rw [if_neg Bool.false_ne_true, if_neg Bool.false_ne_true]; exact r.snoc k d
end
open Classical in
noncomputable def dcL (ck : CK) (gf : GF) (tt : TF) (fk fe : EF) (lo0 : Lo) : List MV → List (MV × MV) → Sto → Res (List (MV × MV) × Sto)
  | [], acc, st => if ck lo0 st then .ok (acc, st) else .bad
  | x :: xs, acc, st => if ck lo0 st then noExc (gf x lo0 st) >>= fun (lo1, st1) => noExc (tt lo1 st1) >>= fun (b, st2) =>
      if b = true then noExc (fk lo1 st2) >>= fun (km, kk, st3) => noExc (fe lo1 st3) >>= fun r => frzd r >>= fun (y, st4) => (match kyI km with
        | some k => if acc.length < sizeLine then dcL ck gf tt fk fe lo0 xs (putD acc k y) st4 else .bad
        | none => .bad)
      else dcL ck gf tt fk fe lo0 xs acc st2 else .bad
noncomputable def mDc (vs : List Nat) (fi : IFn) (gf : GF) (tt : TF) (fk fe : EF) : EF := fun lo st => if clrOk lo vs = true then fi lo st >>= fun (items, ck, st1) => dcL ck gf tt fk fe (wipeM lo vs) items [] st1 >>= fun (acc, st2) => .ok (.dct acc, .fr, st2) else .bad
theorem rv_key {mg : Wd} {B : Base} {S : Addr → Prop} {ι : List Addr} {H : Hp} {lo : Lo} {σ : L2.St} {st : Sto} {v : V} {m : MV} {kd : Kd} {k : Key} (f : Fm mg B S ι H lo σ st) (r : RV mg B S ι H lo σ v m kd) (h : kyI m = some k) : v = kV k := by
  obtain ⟨S', f', _, hh⟩ := r.hand f
  have e := kyI_inv h
  subst e
  have vr := hh.vr f'
  cases k with
  | inl i => exact vr
  | inr x => exact vr
section
variable {X : Cx} {B : Base} {W : WX} {pos : Pos}
theorem tDc_of {vs : List Nat} {fi : IFn} {gf : GF} {tt : TF} {fk fe : EF} {mg : Wd} {TGt : TG} {TTt : TT} {TKt TEt : TE} {σ : L2.St} {H : Hp} {Q : VK}
    (hG : ∀ B v σ H Q, tG mg B W0 vs gf v σ H Q → TGt v σ H Q) (hT : ∀ B σ H Q, tT mg B W0 tt σ H Q → TTt σ H Q) (hK : ∀ B σ H Q, tE mg B W0 fk σ H Q → TKt σ H Q) (hE : ∀ B σ H Q, tE mg B W0 fe σ H Q → TEt σ H Q)
    (h : tE mg B W (mDc vs fi gf tt fk fe) σ H Q) : tDc (tI mg B W fi) TGt TTt TKt TEt vs σ H Q := by
  obtain ⟨S, ι, lo, st, fm, p⟩ := h
  unfold mDc at p
  split at p
  case isFalse => exact p.elim
  rename_i hclr
  refine ⟨S, ι, lo, st, fm, (Post.bind p).imp fun ⟨items, ck, st1⟩ q S0 ι0 H0 J f0 k0 wk c0 => ?_⟩
  intro D hD
  obtain ⟨d1, d2, d3, d4⟩ := f0.free hD
  have q := Post.bind q
  -- W: the dict so far
  refine ⟨fun i n H1 => n = items.length - i ∧ i ≤ items.length ∧ ∃ S1 ι1 st1 acc accM, Fm mg B S1 ι1 H1 (wipeM lo vs) (L2.wipe σ vs) st1 ∧ Keep S0 ι0 H0 S1 ι1 H1 ∧ ¬ S1 D ∧ D ∉ ι1 ∧ H1 D = some (.dK acc) ∧ KD mg S1 ι1 H1 acc accM ∧
      Post mg B W S ι H (fun a => Post mg B W S ι H (fun r => ∀ S' ι' H' v, Fm mg B S' ι' H' lo σ r.2.2 → Keep S ι H S' ι' H' → RV mg B S' ι' H' lo σ v r.1 r.2.1 → Q v H') (.ok (.dct a.1, .fr, a.2))) (dcL ck gf tt fk fe (wipeM lo vs) (items.drop i) accM st1),
    ⟨items.length, by simp, Nat.zero_le _, S0, ι0, st1, [], [], (f0.new (o := .dK []) hD).wipe, (Ext.new hD).keep f0.rep, d1, d2, upd_same, KD.nil, by rw [List.drop_zero]; exact q⟩, ?_⟩
  rintro i n H1 ⟨rfl, hi, S1, ι1, s1, acc, accM, f1, k1, n1, n2, e1, da, p1⟩
  have own1 : ∀ (j : Nat) m', (wipeM lo vs)[j]? = some (some (m', true)) → (L2.wipe σ vs)[j]? ≠ some (some (.ref D)) := fun j m' h z => by
    have nj : j ∉ vs := fun hm => wipeM_in lo hm h
    rw [wipeM_out lo nj] at h
    rw [wipe_out σ nj] at z
    exact d4 j m' h z
  by_cases hlt : i < items.length
  · rw [List.drop_eq_getElem_cons hlt] at p1
    unfold dcL at p1
    split at p1
    case isFalse => exact p1.elim
    rename_i hck
    have f1g := f1.guard e1 n1 n2 d3 own1
    obtain ⟨go, yl⟩ := (wk (B.put D (.dK acc)) i S1 ι1 H1 _ _ s1 f1g k1 hck).1 items[i] (by simp [hlt])
    refine .inr ⟨go, _, fun H' z => z, fun x H' y => ?_⟩
    obtain ⟨S2, f2, k2, dx⟩ := yl x H' y
    refine hG (B.put D (.dK acc)) _ _ _ _ ⟨S2, ι1, _, s1, items[i], f2, dx, (Post.noExc (Post.bind p1)).imp fun ⟨lo3, s3⟩ p3 S3 ι3 σ3 H3 f3 k3 sb lb => ?_⟩
    refine ⟨sb.wipe.trans (wipe_wipe σ vs), ?_⟩
    refine hT (B.put D (.dK acc)) _ _ _ ⟨S3, ι3, lo3, s3, f3, (Post.noExc (Post.bind p3)).imp fun ⟨b, s4⟩ p4 S4 ι4 H4 f4 k4 => ?_⟩
    have k14 := k1.trans (k2.trans (k3.trans k4))
    -- behind the turn the frame's names are as they were ahead of it
    have back : ∀ {S5 : Addr → Prop} {ι5 : List Addr} {H5 : Hp} {s5 : Sto}, Fm mg (B.put D (.dK acc)) S5 ι5 H5 lo3 σ3 s5 → Keep S0 ι0 H0 S5 ι5 H5 → Fm mg B S5 ι5 H5 (wipeM lo vs) (L2.wipe σ vs) s5 ∧ H5 D = some (.dK acc) ∧ ¬ S5 D ∧ D ∉ ι5 := by
      intro S5 ι5 H5 s5 f5 k5
      obtain ⟨f6, e6, n6, i6, _⟩ := f5.unguard d3
      refine ⟨⟨f6.ext, f6.rep, ⟨f1.loc.len, fun j m h => ?_, fun j m h => ?_, f1.loc.dis, f1.loc.pin⟩, f6.g⟩, e6, n6, i6⟩
      · obtain ⟨w, ew, dw⟩ := (f0.wipe (vs := vs)).loc.val j m h
        exact ⟨w, ew, dw.mono k5⟩
      · have nj : j ∉ vs := fun hm => wipeM_in lo hm h
        have q := f6.loc.own j m (by rw [lb j nj]; exact h)
        rw [sb.2 j nj] at q
        exact q
    cases b with
    | true =>
      refine iteT ?_
      dsimp only at p4
      rw [if_pos rfl] at p4
      refine hK (B.put D (.dK acc)) _ _ _ ⟨S4, ι4, lo3, s4, f4, (Post.noExc (Post.bind p4)).imp fun ⟨km, kkd, s45⟩ p45 S45 ι45 H45 yv f45 k45 r45 => ?_⟩
      refine hE (B.put D (.dK acc)) _ _ _ ⟨S45, ι45, lo3, s45, f45, (Post.noExc (Post.bind p45)).imp fun ⟨m, kd, s5⟩ p5 S5 ι5 H5 v f5 k5 r5 => ?_⟩
      obtain ⟨⟨S6, f6, k6, d6⟩, p6⟩ := frzd_ok f5 r5 p5
      dsimp only at p6
      split at p6
      case h_2 => exact p6.elim
      rename_i key hkey
      split at p6
      case isFalse => exact p6.elim
      rename_i hsz
      have k06 := k14.trans (k45.trans (k5.trans k6))
      obtain ⟨g1, g2, g3, g4⟩ := back f6 k06
      have hk := Keep.upd (ι := ι5) (o := .dK (putK acc key v)) g3 (H := H5)
      refine ⟨acc, key, rv_key f45 r45 hkey, g2, by rw [da.1]; exact hsz, _, by omega, rfl, hlt, S6, ι5, s5, putK acc key v, putD accM key m, g1.updFree g3 g4 d3 own1, k06.trans hk, g3, g4, upd_same, ?_, p6⟩
      exact (((da.mono (k2.trans (k3.trans k4))).mono (k45.trans (k5.trans k6))).put key d6).mono hk
    | false =>
      refine iteF ?_
      dsimp only at p4
      rw [if_neg Bool.false_ne_true] at p4
      obtain ⟨g1, g2, g3, g4⟩ := back f4 k14
      exact ⟨_, by omega, rfl, hlt, S4, ι4, s4, acc, accM, g1, k14, g3, g4, g2, da.mono (k2.trans (k3.trans k4)), p4⟩
  · have e : i = items.length := by omega
    subst e
    rw [List.drop_length] at p1
    unfold dcL at p1
    split at p1
    case isFalse => exact p1.elim
    rename_i hck
    refine .inl ⟨(wk B _ S1 ι1 H1 _ _ s1 f1 k1 hck).2 (Nat.le_refl _), ?_⟩
    have fr := Fm.unwipe (st := st1) f0 f1 k1 hclr
    exact p1 S1 ι1 H1 (.ref D) fr (k0.trans k1) ⟨D, rfl, n1, n2, d3, ⟨_, e1, .inl ⟨acc, rfl, da.1, da.2⟩⟩, d4⟩
variable {kx vx tg iter : Expr} {ifs : List Expr} {scope : Scope} {own : List (Str × Nat)} {fi : IFn} {gf : GF} {tt : TF} {fk fe : EF}
theorem se_dc (hc : X.calm = true) (hN : X.N.Nodup) (hi : SI X B W tg iter fi) (ok : BlkOk X.N X.env.scope scope own)
    (hg : ∀ (s : Shared) (H : Hp) (C : Addr) (cl : List (Str × Addr)) (fp : List Addr) (B' : Base), SG (X.blk s H scope (compEnvC scope cl C X.env) fp) B' W0 (own.map (·.2)) tg gf)
    (ht : ∀ (s : Shared) (H : Hp) (C : Addr) (cl : List (Str × Addr)) (fp : List Addr) (B' : Base), SPTs (X.blk s H scope (compEnvC scope cl C X.env) fp) B' W0 ifs tt)
    (hk : ∀ (s : Shared) (H : Hp) (C : Addr) (cl : List (Str × Addr)) (fp : List Addr) (B' : Base), SE (X.blk s H scope (compEnvC scope cl C X.env) fp) B' W0 kx fk)
    (he : ∀ (s : Shared) (H : Hp) (C : Addr) (cl : List (Str × Addr)) (fp : List Addr) (B' : Base), SE (X.blk s H scope (compEnvC scope cl C X.env) fp) B' W0 vx fe)
    (hs : ∀ x, foldedSetIterable iter X.env x = pure x := by intro _; rfl) : SE X B W (.DictComp kx vx [⟨tg, iter, ifs, 0⟩] scope pos) (mDc (own.map (·.2)) fi gf tt fk fe) := by
  refine (pe_dc hc hN hi ok (fun s H C cl fp => PG.ex (t := fun B' => tG X.wd B' W0 (own.map (·.2)) gf) fun B' => hg s H C cl fp B') (fun s H C cl fp => PTs.ex (t := fun B' => tT X.wd B' W0 tt) fun B' => ht s H C cl fp B') (fun s H C cl fp => PE.ex (t := fun B' => tE X.wd B' W0 fk) fun B' => hk s H C cl fp B') (fun s H C cl fp => PE.ex (t := fun B' => tE X.wd B' W0 fe) fun B' => he s H C cl fp B') hs).fw fun σ H Q h => ?_
  exact tDc_of (fun B' v σ H Q z => ⟨B', z⟩) (fun B' σ H Q z => ⟨B', z⟩) (fun B' σ H Q z => ⟨B', z⟩) (fun B' σ H Q z => ⟨B', z⟩) h
end

section
variable {X : Cx} {B : Base} {W : WX} {pos : Pos} {kx vx tg iter : Expr} {ifs : List Expr} {scope : Scope} {own : List (Str × Nat)} {fi : IFn} {gf : GF} {tt : TF} {fk fe : EF}
/-- name = {k: v for ..} on one line -/
theorem ps_putDc {i : Nat} {y : Str} {py spos : Pos} {wi : TI} {g : TG} {t1 : TT} {t2 t3 : TE} (calm : X.calm = true) (nodup : X.N.Nodup) (at_ : X.N[i]? = some y) (loc : X.env.scope.names.lookup y = some .local)
    (sw : swapsWith (.DictComp kx vx [⟨tg, iter, ifs, 0⟩] scope pos) (some (.Name y py)) spos.line X.env = pure true) (hi : PI X tg iter wi) (ok : BlkOk X.N X.env.scope scope own)
    (hg : ∀ s H C cl fp, PG (X.blk s H scope (compEnvC scope cl C X.env) fp) tg g) (ht : ∀ s H C cl fp, PTs (X.blk s H scope (compEnvC scope cl C X.env) fp) ifs t1)
    (hk : ∀ s H C cl fp, PE (X.blk s H scope (compEnvC scope cl C X.env) fp) kx t2) (he : ∀ s H C cl fp, PE (X.blk s H scope (compEnvC scope cl C X.env) fp) vx t3) (hs : ∀ x, foldedSetIterable iter X.env x = pure x) :
    PS X (.Assign [.Name y py] (.DictComp kx vx [⟨tg, iter, ifs, 0⟩] scope pos) spos) (tAsg (tDc wi g t1 t2 t3 (own.map (·.2))) (gName i)) := by
  constructor
  intro pins s σ H D I want
  have w : tDc wi g t1 t2 t3 (own.map (·.2)) σ H (fun v H1 => gName i v σ H1 D.nx) := want
  rw [exec_Assign_Name_used _ _ _ _ sw]
  refine wpAny_bind (wpAny_standAt (wpAny_bind (wpAny_bind (thn (Q := fun _ s1 => SP X pins D .next s1) ?_ fun _ s1 z => wpAny_pure (wpAny_pure z)))))
  refine dc_core (Qf := fun _ s1 => SP X pins D .next s1) calm nodup I hi ok hg ht hk he hs w fun L C s1 m H1 I1 q ns fp => ?_
  obtain ⟨a0, a1, a2, a3, a4, a5⟩ := fp
  refine wpAny_assign_Name (store_ok2 (v := V.ref L) I1 nodup at_ (.inl loc) rfl (fun s2 I2 ⟨b, sb, hb⟩ => ?_) (.inr loc))
  have apart : C ≠ b := by
    rcases hb with z | z
    · exact z ▸ a1
    · exact fun e => a4 y b z e.symm
  refine ⟨m, ns.sameBut sb apart, fun h3 sb3 => ⟨_, H1, ?_, q⟩⟩
  exact I2.turned (t' := s2.toks) (fun c o hc e => (sb3.2 c hc).trans e) a0 a1 a3 a4 a5
theorem ss_setDc (i : Nat) {y : Str} {py spos : Pos} (hc : X.calm = true) (hN : X.N.Nodup) (hsw : swapsWith (.DictComp kx vx [⟨tg, iter, ifs, 0⟩] scope pos) (some (.Name y py)) spos.line X.env = pure true) (hi : SI X B W tg iter fi) (ok : BlkOk X.N X.env.scope scope own)
    (hg : ∀ (s : Shared) (H : Hp) (C : Addr) (cl : List (Str × Addr)) (fp : List Addr) (B' : Base), SG (X.blk s H scope (compEnvC scope cl C X.env) fp) B' W0 (own.map (·.2)) tg gf)
    (ht : ∀ (s : Shared) (H : Hp) (C : Addr) (cl : List (Str × Addr)) (fp : List Addr) (B' : Base), SPTs (X.blk s H scope (compEnvC scope cl C X.env) fp) B' W0 ifs tt)
    (hk : ∀ (s : Shared) (H : Hp) (C : Addr) (cl : List (Str × Addr)) (fp : List Addr) (B' : Base), SE (X.blk s H scope (compEnvC scope cl C X.env) fp) B' W0 kx fk)
    (he : ∀ (s : Shared) (H : Hp) (C : Addr) (cl : List (Str × Addr)) (fp : List Addr) (B' : Base), SE (X.blk s H scope (compEnvC scope cl C X.env) fp) B' W0 vx fe)
    (hy : X.N[i]? = some y := by rfl) (hyl : X.env.scope.names.lookup y = some .local := by rfl)
    (hs : ∀ x, foldedSetIterable iter X.env x = pure x := by intro _; rfl) : SS X B W (.Assign [.Name y py] (.DictComp kx vx [⟨tg, iter, ifs, 0⟩] scope pos) spos) (sSet i (mDc (own.map (·.2)) fi gf tt fk fe)) := by
  refine (ps_putDc hc hN hy hyl hsw hi ok (fun s H C cl fp => PG.ex (t := fun B' => tG X.wd B' W0 (own.map (·.2)) gf) fun B' => hg s H C cl fp B') (fun s H C cl fp => PTs.ex (t := fun B' => tT X.wd B' W0 tt) fun B' => ht s H C cl fp B') (fun s H C cl fp => PE.ex (t := fun B' => tE X.wd B' W0 fk) fun B' => hk s H C cl fp B') (fun s H C cl fp => PE.ex (t := fun B' => tE X.wd B' W0 fe) fun B' => he s H C cl fp B') hs).fw fun D σ H h => ?_
  refine tDc_of (W := W) (B := B) (fun B' v σ H Q z => ⟨B', z⟩) (fun B' σ H Q z => ⟨B', z⟩) (fun B' σ H Q z => ⟨B', z⟩) (fun B' σ H Q z => ⟨B', z⟩) ?_
  obtain ⟨S, ι, lo, st, fm, p⟩ := h
  refine tE.use fm (Post.bind p) fun m k st1 S1 ι1 H1 v f1 k1 r1 p1 => ?_
  obtain ⟨⟨S2, f2, k2, d⟩, p2⟩ := frzd_ok f1 r1 p1
  exact p2 S2 ι1 _ H1 (f2.set_val i d) (k1.trans k2)
end

def gStrT : GL
  | _, [.int i] => if i.natAbs.log2 < 1920 then some (.str (toString i), false) else none
  | _, [.str a] => some (.str a, false)
  | _, _ => none
theorem ok_strT {X : Cx} : CallOk X (fun xs H Q => (∃ i, xs = [.int i] ∧ i.natAbs.log2 < 1920 ∧ Q (.str (toString i)) H) ∨ ∃ a, xs = [.str a] ∧ Q (.str a) H) gStrT := by
  intro S ι H st vs as z Q hr ha e w
  unfold gStrT at e
  split at e
  · split at e
    · cases e
      obtain ⟨v, rfl, vr⟩ := ha.one
      cases vr
      exact .inl ⟨_, rfl, by assumption, w _ (.str _)⟩
    · cases e
  · cases e
    obtain ⟨v, rfl, vr⟩ := ha.one
    cases vr
    exact .inr ⟨_, rfl, w _ (.str _)⟩
  · cases e
def gSplit : GL
  | _, [.str a, .str b] => if (b.length == 0) = false ∧ a.length + 2 ≤ sizeLine then some (.lst ((Txt.split a b).map .str), true) else none
  | _, _ => none
theorem allD_strs {mg : Wd} {S : Addr → Prop} {ι : List Addr} {H : Hp} : ∀ xs : List Str, AllD mg S ι H (xs.map V.str) (xs.map MV.str)
  | [] => AllD.nil
  | x :: xs => AllD.cons (.str x) (allD_strs xs)
theorem ok_split {X : Cx} : MethOk X (fun x xs H Q => ∃ a b, x = .str a ∧ xs = [.str b] ∧ (b.length == 0) = false ∧ a.length + 2 ≤ sizeLine ∧ rNewStrs (Txt.split a b) H Q) gSplit := by
  intro S ι H st v vs a as z Q hr ha hb e w
  unfold gSplit at e
  split at e
  · rename_i heq
    cases heq
    split at e
    · rename_i hc
      cases e
      obtain ⟨u, rfl, vb⟩ := hb.one
      cases ha
      cases vb
      exact ⟨_, _, rfl, rfl, hc.1, hc.2, fun p hp => w p _ hp ⟨_, rfl, allD_strs _⟩⟩
    · cases e
  · cases e
def gJoin : GL
  | _, [.str a, .lst xs] => (strsOf xs).bind fun ys => if (ys.map (·.length)).sum + ys.length * a.length ≤ 16777216 then some (.str (Txt.join a ys), false) else none
  | _, _ => none
theorem ok_joinT {X : Cx} : MethOk X (fun x xs H Q => ∃ a p, ∃ ys : List Str, x = .str a ∧ xs = [.ref p] ∧ (SqL X.K H p (ys.map V.str) ∨ SqT X.K H p (ys.map V.str)) ∧ (ys.map (·.length)).sum + ys.length * a.length ≤ 16777216 ∧ Q (.str (Txt.join a ys)) H) gJoin := by
  intro S ι H st v vs a as z Q hr ha hb e w
  unfold gJoin at e
  split at e
  · rename_i heq
    cases heq
    obtain ⟨ys, e1, e2⟩ := Option.bind_eq_some_iff.mp e
    split at e2
    · rename_i hc
      cases e2
      obtain ⟨u, rfl, vb⟩ := hb.one
      cases ha
      obtain ⟨p, ws, rfl, g, d⟩ := vb
      have es := strs_of d e1
      subst es
      exact ⟨_, p, ys, rfl, rfl, .inl (SqL.of g), hc, w _ (.str _)⟩
    · cases e2
  · cases e
section
variable {X : Cx} {B : Base} {W : WX} {o e : Expr} {fo : EF} {g : AF} {apos cpos : Pos} {k : Nat}
theorem se_split (ho : SE X B W o fo) (ha : SA X B W [e] g)
    (hbase : attributeBase o "split" X.env (eval o X.env) = eval o X.env := by rfl)
    (hfew : ((backTo cpos (starEach [e] X.env)).all (fun x => !x.1) && (backToKw cpos (keywordEach [] X.env)).all (fun x => x.1.isSome) && decide (([e] : List Expr).length + ([] : List Keyword).length + (if ([] : List Keyword).isEmpty then 0 else 1) < 30)) = true := by rfl)
    (hline : (apos.endLine == cpos.line) = true := by rfl) (hs : starEach [e] X.env = (false, eval e X.env) :: starEach [] X.env := by rfl) (hplain : (backTo cpos (starEach [] X.env)).any (·.1) = false := by rfl) :
    SE X B W (.Call (.Attribute o "split" apos) [e] [] cpos) (mBm "str" gSplit fo g) :=
  se_bm PySem.F.plainAttrs_str PySem.F.slot_str_split (by rfl) mt_split ok_split ho ha hbase hfew hline hs hplain
theorem se_join (ho : SE X B W o fo) (ha : SA X B W [e] g)
    (hbase : attributeBase o "join" X.env (eval o X.env) = eval o X.env := by rfl)
    (hfew : ((backTo cpos (starEach [e] X.env)).all (fun x => !x.1) && (backToKw cpos (keywordEach [] X.env)).all (fun x => x.1.isSome) && decide (([e] : List Expr).length + ([] : List Keyword).length + (if ([] : List Keyword).isEmpty then 0 else 1) < 30)) = true := by rfl)
    (hline : (apos.endLine == cpos.line) = true := by rfl) (hs : starEach [e] X.env = (false, eval e X.env) :: starEach [] X.env := by rfl) (hplain : (backTo cpos (starEach [] X.env)).any (·.1) = false := by rfl) :
    SE X B W (.Call (.Attribute o "join" apos) [e] [] cpos) (mBm "str" gJoin fo g) :=
  se_bm PySem.F.plainAttrs_str PySem.F.slot_str_join (by rfl) mt_join ok_joinT ho ha hbase hfew hline hs hplain
theorem se_strT {es : List Expr} {x : Str} {p : Pos} (hg : Gl X x) (hm : X.mg x = none) (hv : bootBuiltins x = some (.type "str")) (ha : SA X B W (e :: es) g)
    (hn : x ≠ "__name__" := by decide) (hdb : (x == ("__debug__" : Str)) = false := by decide)
    (he : starEach (e :: es) X.env = (false, eval e X.env) :: starEach es X.env := by rfl) (hpl : (backTo cpos (starEach es X.env)).any (·.1) = false := by rfl) : SE X B W (.Call (.Name x p) (e :: es) [] cpos) (mCallB gStrT g) :=
  se_callTy (call_str_int.or SkE.call_str_str) ok_strT hg hm hv ha hn hdb he hpl
end

def mStarA (f : EF) (g : AF) : AF := fun lo st => f lo st >>= fun (m, k, st1) => match vw st1 m with
  | .lst xs => (match k with
    | .fr => g lo st1 >>= fun (l, st2) => .ok (xs.map (·, false) ++ l, st2)
    | .fz => (match m with
      | .lst _ => g lo st1 >>= fun (l, st2) => .ok (xs.map (·, false) ++ l, st2)
      | _ => .bad)
    | _ => .bad)
  | _ => .bad
theorem HandAll.of_all {mg : Wd} {S : Addr → Prop} {ι : List Addr} {H : Hp} {lo : Lo} {σ : L2.St} : ∀ {vs : List V} {ms : List MV}, AllD mg S ι H vs ms → HandAll mg S ι H lo σ vs (ms.map (·, false))
  | vs, [], r => by rw [r.inv_nil]; exact .nil
  | vs, m :: ms, r => by
    obtain ⟨v, vs', rfl, d, r'⟩ := r.inv_cons
    exact .cons (z := (m, false)) d (HandAll.of_all r')
theorem HandAll.append {mg : Wd} {S : Addr → Prop} {ι : List Addr} {H : Hp} {lo : Lo} {σ : L2.St} : ∀ {vs ws : List V} {l l' : List (MV × Bool)}, HandAll mg S ι H lo σ vs l → HandAll mg S ι H lo σ ws l' → HandAll mg S ι H lo σ (vs ++ ws) (l ++ l')
  | vs, ws, [], l', r, r' => by rw [r.inv_nil]; exact r'
  | vs, ws, z :: l, l', r, r' => by
    obtain ⟨v, vs', rfl, d, r2⟩ := r.inv_cons
    exact .cons d (HandAll.append r2 r')
section
variable {X : Cx} {B : Base} {W : WX} {e : Expr} {es : List Expr} {f : EF} {g : AF} {p : Pos}
theorem sa_star (he : SE X B W e f) (hr : SA X B W es g) (hs : starEach (.Starred e p :: es) X.env = (true, eval e X.env) :: starEach es X.env := by rfl) : SA X B W (.Starred e p :: es) (mStarA f g) := by
  refine (StX.pa_star he hr hs).fw fun σ H Q ⟨S, ι, lo, st, fm, pp⟩ => ?_
  refine tE.use fm (Post.bind pp) fun m k st1 S1 ι1 H1 x f1 k1 r1 p1 => ?_
  have go : ∀ (xs : List MV) (S2 : Addr → Prop), Fm X.wd B S2 ι1 H1 lo σ st1 → Keep S1 ι1 H1 S2 ι1 H1 → (∃ a vs, x = .ref a ∧ H1 a = some (.lst vs) ∧ AllD X.wd S2 ι1 H1 vs xs) →
      Post X.wd B W S ι H (fun r => ∀ S' ι' H' vs, Fm X.wd B S' ι' H' lo σ r.2 → Keep S ι H S' ι' H' → HandAll X.wd S' ι' H' lo σ vs r.1 → Q vs H') (g lo st1 >>= fun (l, st2) => .ok (xs.map (·, false) ++ l, st2)) →
      ∃ p xs, x = V.ref p ∧ (SqT X.K H1 p xs ∨ SqL X.K H1 p xs) ∧ (tA X.wd B W g) σ H1 fun ys H2 => Q (xs ++ ys) H2 := by
    intro xs S2 f2 k2 ⟨a, vs, ex, ea, da⟩ p2
    refine ⟨a, vs, ex, .inr (SqL.of ea), ?_⟩
    refine tA.use f2 (Post.bind (p2.mono (k1.trans k2) fun _ z => z)) fun l st2 S3 ι3 H3 ws f3 k3 r3 p3 => ?_
    exact p3 S3 ι3 H3 (vs ++ ws) f3 ((k1.trans k2).trans k3) ((HandAll.of_all (da.mono k3)).append r3)
  dsimp only at p1
  split at p1
  case h_2 => exact p1.elim
  rename_i xs ev
  split at p1
  · -- a new list
    obtain ⟨S2, f2, k2, h2⟩ := r1.hand f1
    have vr := h2.vr f2
    rw [ev] at vr
    obtain ⟨a, vs, ex, ea, d⟩ := vr
    exact go xs S2 f2 k2 ⟨a, vs, ex, ea, d⟩ p1
  · split at p1
    · obtain ⟨S2, f2, k2, h2⟩ := r1.hand f1
      have vr := h2.vr f2
      rw [ev] at vr
      obtain ⟨a, vs, ex, ea, d⟩ := vr
      exact go xs S2 f2 k2 ⟨a, vs, ex, ea, d⟩ p1
    · exact p1.elim
  · exact p1.elim
end

def sThru (g : SF) : SF := fun lo st => noExc (g lo st)
theorem ss_thru {X : Cx} {B : Base} {W : WX} {body : List Stmt} {h₀ : ExceptHandler} {hs : List ExceptHandler} {pos : Pos} {g : SF} (hb : SSs X.nox B W0 body g) : SS X B W (.Try body (h₀ :: hs) [] [] pos) (sThru g) := by
  refine (ps_try_thru0 hb).fw fun D σ H ⟨S, ι, lo, st, fm, p⟩ => ⟨S, ι, lo, st, fm, ?_⟩
  exact Post.noExc p
end FW

namespace FW
open PySem L2 PySem.Spec PyProof.Rows

theorem flying_on {h h' B : Heap} {l : List Env} {a : Addr} {Z : Obj → Prop} (k : ∀ b o, h.get? b = some o → h'.get? b = some o) (x : HandSPX.FlyingZ B l a Z h) : HandSPX.FlyingZ B l a Z h' := by
  obtain ⟨x1, x2, x3, oe, vs, T, oT, ts, y1, y2, y3, y4, y5, y6, y7, y8, y9⟩ := x
  exact ⟨fun b o e => k b o (x1 b o e), x2, x3.of_keeps fun b o e _ => ⟨o, k b o e, rfl⟩, oe, vs, T, oT, ts, k _ _ y1, y2, y3, y4, y5, y6, k _ _ y7, y8, y9⟩
theorem any2 {K : PySem.W.Frag} {cls c1 c2 : Value} {b1 b2 : Bool} (h1 : PySem.W.exmOne K cls c1 = some b1) (h2 : PySem.W.exmOne K cls c2 = some b2) (h : (b1 || b2) = true) : PySem.W.exmAny K cls [c1, c2] = some true := by
  simp [PySem.W.exmAny, h1, h2, h]
/-- what the clause wishes of an error of the body: it is caught -/
def wAny (K : PySem.W.Frag) (cs : List Value) (ts : TS) (D : Ends) : WX := fun cls d σ H => ∃ C : Addr, cls = .ref C ∧ PySem.W.exmAny K cls cs = some true ∧ ts D σ H
section
variable {X : Cx} {x1 x2 : Str} {c1 c2 : Value} {body suite : List Stmt} {b₀ : Stmt} {p1 p2 tp pos pos' : Pos} {kk : Nat} {tb : WX → TS} {ts : TS}
theorem ps_tryTwo (hs : X.stack = X.env :: X.outer) (hf : X.env.frame = some X.env.locals) (hc1 : Names X x1 c1) (hc2 : Names X x2 c2)
    (hb : ∀ (W : WX) (pn : List (Addr × Obj)) (xe : Value → Shared → Prop), L2.Takes (X.tr pn xe) W → PassesOwn (model X.prog X.w) X.A X.env xe → PSs (X.tr pn xe) body (tb W))
    (hsu : ∀ (a : Addr) (pn : List (Addr × Obj)), PSs (X.suite a pn) (b₀ :: suite) ts) :
    PS X (.Try body [.ExceptHandler (some (.Tuple [.Name x1 p1, .Name x2 p2] kk tp)) none (b₀ :: suite) pos'] [] [] pos) (fun D σ H => tb (wAny X.K [c1, c2] ts D) D σ H) := by
  refine ⟨fun pins s σ H D I want => wpAny_Try_except ?_⟩
  have caught : L2.Takes (X.tr (X.pn ++ pins) (fun e s1 => wpAny (model X.prog X.w) X.A (noteFrame e X.env) (fun _ s2 => wpAny (model X.prog X.w) X.A (setFlight e none)
      (fun _ s3 => wpAny (model X.prog X.w) X.A (handleBy e X.env [.ExceptHandler (some (.Tuple [.Name x1 p1, .Name x2 p2] kk tp)) none (b₀ :: suite) pos']) (SP X pins D) X.xe s3) X.xe s2) X.xe s1)) (wAny X.K [c1, c2] ts D) := by
    intro u s1 air
    refine comes_down I.ok hs hf air fun a cls d σ1 H1 sI B h eu dn => ?_
    subst eu
    obtain ⟨C, ec, em, yes⟩ := dn.w
    subst ec
    obtain ⟨o1, v1, g1, g2, g3⟩ := dn.fly.there
    have P1 := dn.plain
    have S1 := suite0 P1 a
    refine wpAny_handleBy_cons (codeAny_handlers_test ?_) (fun z => nomatch z)
    have named : ∀ {x : Str} {c : Value} {np : Pos} {Q : Value → Shared → Prop} {E : Value → Shared → Prop}, Names X x c → Q c { s1 with heap := h } → wpAny (model X.prog X.w) (X.A.mark (some (.ref a))) (eval (.Name x np) X.env) Q E { s1 with heap := h } := by
      intro x c np Q E hc q
      rcases hc with ⟨hg, hdbg, hm | ⟨hm, hv, hnn⟩⟩
      · exact ld_glob (X := X.suite a (X.pn ++ pins)) S1 hg hm q hdbg
      · exact ld_blt (X := X.suite a (X.pn ++ pins)) S1 hg hm hv q hnn hdbg
    refine wpAny_Tuple (wpAny_items_cons (named hc1 (wpAny_items_cons (named hc2 (wpAny_items_nil ⟨by size_fits, ?_⟩)))))
    have grow : ∀ q o, h.get? q = some o → (h.push { cls := .type "tuple", data := .seq [c1, c2].toArray }).get? q = some o := fun _ _ z => Heap.get?_push_of_some _ z
    have ty : PySem.W.Looks (model X.prog X.w) (h.push { cls := .type "tuple", data := .seq [c1, c2].toArray }) (typeOf (.ref a)) (.ref C) := fun A Q E s k q => wpAny_typeOf_ref (k _ _ (grow _ _ g1)) (by rw [g2.1]; exact q)
    have dn2 := dn.on (flying_on grow dn.fly) (fun b o e _ => ⟨o.slots, grow b o e⟩)
    have yields := PySem.W.exm_tup2 (M := model X.prog X.w) dn2.plain.kIn ty (Heap.get?_push_size h rfl) em
    refine yields.here ?_
    refine codeAny_handlers_suite (HandSPX.lands_againZ dn2.fly fun h2 fl2 u2 => ?_)
    have S2 := suite0 (dn2.on fl2 u2).plain a
    refine wpAny_mono ((hsu a (X.pn ++ pins)).run [] _ _ _ _ S2 yes) (fun f s6 z => ?_) (fun _ _ z => z.elim)
    rcases f with _ | _ | _ | v
    · obtain ⟨_, _, J, w⟩ := z; exact ⟨_, _, unsuite0 J I.ok, w⟩
    · obtain ⟨_, _, J, w⟩ := z; exact ⟨_, _, unsuite0 J I.ok, w⟩
    · obtain ⟨_, _, J, w⟩ := z; exact ⟨_, _, unsuite0 J I.ok, w⟩
    · obtain ⟨_, _, _, J, r, w⟩ := z; exact ⟨_, _, _, unsuite0 J I.ok, r, w⟩
  refine wpAny_mono ((hb _ _ _ caught PassesOwn.looking).run [] s σ H D (I.toTry _) want) (fun f s1 z => ?_) fun _ _ z => z
  rcases f with _ | _ | _ | v
  · obtain ⟨_, _, J, w⟩ := z; exact wpAny_execs_nil ⟨_, _, J.ofTry I.ok, w⟩
  · obtain ⟨_, _, J, w⟩ := z; exact ⟨_, _, J.ofTry I.ok, w⟩
  · obtain ⟨_, _, J, w⟩ := z; exact ⟨_, _, J.ofTry I.ok, w⟩
  · obtain ⟨_, _, _, J, r, w⟩ := z; exact ⟨_, _, _, J.ofTry I.ok, r, w⟩
end
def sTry2 (p : Str → Bool) (g gs : SF) : SF := fun lo st => match g lo st with
  | .ok r => .ok r
  | .bad => .bad
  | .exc c fs lo1 st1 => if p c = true then noExc (gs lo1 st1) else .bad
section
variable {X : Cx} {B : Base} {W : WX} {x1 x2 : Str} {c1 c2 : Value} {body suite : List Stmt} {b₀ : Stmt} {p1 p2 tp pos pos' : Pos} {kk : Nat} {g gs : SF} {p : Str → Bool}
theorem ss_try2 (hs : X.stack = X.env :: X.outer) (hf : X.env.frame = some X.env.locals) (hc1 : Names X x1 c1) (hc2 : Names X x2 c2) (hp : ∀ e C, p e = true → X.mg e = some (.ref C) → PySem.W.exmAny X.K (.ref C) [c1, c2] = some true)
    (hb : ∀ (W : WX) (pn : List (Addr × Obj)) (xe : Value → Shared → Prop), Takes (X.tr pn xe) W → PassesOwn (model X.prog X.w) X.A X.env xe → SSs (X.tr pn xe) B W body g)
    (hsu : ∀ (a : Addr) (pn : List (Addr × Obj)), SSs (X.suite a pn) B W0 (b₀ :: suite) gs) :
    SS X B W (.Try body [.ExceptHandler (some (.Tuple [.Name x1 p1, .Name x2 p2] kk tp)) none (b₀ :: suite) pos'] [] [] pos) (sTry2 p g gs) := by
  refine (ps_tryTwo (tb := fun W => tS X.wd B W g) (ts := tS X.wd B W0 gs) hs hf hc1 hc2 hb hsu).fw fun D σ H ⟨S, ι, lo, st, fm, pp⟩ => ?_
  refine ⟨S, ι, lo, st, fm, ?_⟩
  unfold sTry2 at pp
  cases e : g lo st with
  | bad => rw [e] at pp; exact pp.elim
  | ok r => rw [e] at pp; exact pp
  | exc cl fs lo1 st1 =>
    rw [e] at pp
    dsimp only at pp
    split at pp
    case isFalse => exact pp.elim
    rename_i hpc
    intro S1 ι1 σ1 H1 cls d f1 k1 xr
    obtain ⟨C, rfl, hm, hd⟩ := xr
    exact ⟨C, rfl, hp cl C hpc hm, S1, ι1, lo1, st1, f1, (Post.noExc pp).imp fun r hr => hr.mono k1⟩
theorem try2_ok {lo : Lo} {st : Sto} {r} (h : g lo st = .ok r) : sTry2 p g gs lo st = .ok r := by unfold sTry2; rw [h]
theorem try2_exc {lo lo1 : Lo} {st st1 : Sto} {c : Str} {fs} {r} (h : g lo st = .exc c fs lo1 st1) (hp : p c = true) (h2 : gs lo1 st1 = .ok r) : sTry2 p g gs lo st = .ok r := by
  unfold sTry2; rw [h]; simp only; rw [if_pos hp, h2]; rfl
end
end FW

namespace FW
open PySem L2 PySem.Spec PyProof.Rows

def repS (a : Str) (n : Nat) : Str := ⟨(List.replicate n a.cps).foldl (· ++ ·) #[]⟩
theorem foldl_tl : ∀ (xs : List (Array Nat)) (acc : Array Nat), (xs.foldl (· ++ ·) acc).toList = acc.toList ++ (xs.map (·.toList)).flatten
  | [], acc => by simp
  | x :: xs, acc => by
    rw [List.foldl_cons, foldl_tl xs, List.map_cons, List.flatten_cons, Array.toList_append, List.append_assoc]
theorem repS_tl (a : Str) (n : Nat) : TL.tl (repS a n) = (List.replicate n (TL.tl a)).flatten := by
  show ((List.replicate n a.cps).foldl (· ++ ·) #[]).toList = _
  rw [foldl_tl, List.map_replicate]
  rfl
theorem repS_len (a : Str) (n : Nat) : (repS a n).length = a.length * n := by
  rw [TL.len_tl, repS_tl]
  induction n with
  | zero => rfl
  | succ n ih => rw [List.replicate_succ, List.flatten_cons, List.length_append, ih, ← TL.len_tl, Nat.mul_succ, Nat.add_comm]
def RepOk (a : Str) (k : Int) : Prop := 2 ≤ k ∧ k ≤ 10000 ∧ 1 ≤ a.length ∧ a.length ≤ 100
instance : ∀ a k, Decidable (RepOk a k) := fun a k => by unfold RepOk; infer_instance
theorem op_mulS {X : Cx} : OpR X (binaryOp .Mult) (fun x y H Q => ∃ a k, x = .str a ∧ y = .int k ∧ RepOk a k ∧ Q (.str (repS a k.toNat)) H) := by
  intro pins s σ H x y v u Q I rx ry h
  obtain ⟨a, k, rfl, rfl, ⟨k2, k4, l1, l2⟩, q⟩ := h
  obtain ⟨t, rfl⟩ := rx
  obtain ⟨t', rfl⟩ := ry
  have hm : a.length * k.toNat ≤ 100 * 10000 := Nat.mul_le_mul l2 (by omega)
  have n1 : (k == 1 || a.length == 0) = false := by
    have h1 : (k == 1) = false := beq_eq_false_iff_ne.mpr (by omega)
    have h2 : (a.length == 0) = false := beq_eq_false_iff_ne.mpr (by omega)
    rw [h1, h2]; rfl
  have n0 : ¬ k < 1 := by omega
  obtain ⟨B, hB⟩ : ∃ B : Int, B = 2 ^ 63 := ⟨_, rfl⟩
  have hB1 : (10 ^ 18 : Int) ≤ B := by rw [hB]; decide
  refine P.mul_str ?_ (fun _ _ => ?_) (fun _ _ => ?_) ?_
  · rw [← hB]
    rw [decide_eq_false (by omega), decide_eq_false (by omega)]; rfl
  · rw [← hB]
    have : (100 : Int) ≤ (B - 1) / k := by
      rw [Int.le_ediv_iff_mul_le (by omega)]
      have : 100 * k ≤ 100 * 10000 := by omega
      omega
    omega
  · unfold Builtin.Str.tooLong
    exact decide_eq_false (by have : (100 * 10000 : Nat) ≤ sizeLine := by decide +kernel
                              omega)
  · rw [if_neg n0, if_neg (by rw [n1]; exact Bool.false_ne_true)]
    exact ⟨by
      have : (100 * 10000 : Nat) ≤ sizeLine := by decide +kernel
      show (repS a k.toNat).length ≤ sizeLine
      rw [repS_len]; omega, .str _, H, I.tok _, ⟨_, rfl⟩, q⟩
abbrev rMulA : R2 := fun x y H Q => ((rI CMulW fun i j => .int (i * j)) x y H Q ∨ rRep x y H Q) ∨ ∃ a k, x = .str a ∧ y = .int k ∧ RepOk a k ∧ Q (.str (repS a k.toNat)) H
def gRepS : G2
  | _, .str a, .int k => if RepOk a k then some (.str (repS a k.toNat), false) else none
  | _, _, _ => none
theorem ok_repS {X : Cx} : Op2 X (fun x y H Q => ∃ a k, x = .str a ∧ y = .int k ∧ RepOk a k ∧ Q (.str (repS a k.toNat)) H) gRepS := by
  intro S ι H st x y a b z Q hr ha hb e w
  unfold gRepS at e
  split at e
  · split at e
    · cases e
      cases ha; cases hb
      exact ⟨_, _, rfl, rfl, by assumption, w _ (.str _)⟩
    · cases e
  · cases e
theorem se_mulS {X : Cx} {B : Base} {W : WX} {a b : Expr} {pos : Pos} {fa fb : EF} (ha : SE X B W a fa) (hb : SE X B W b fb) : SE X B W (.BinOp a .Mult b pos) (mOp gRepS fa fb) := se_op op_mulS ok_repS ha hb
end FW

namespace FL
open PySem L2 PySem.Spec PyProof.Rows FW
noncomputable def g_law_cell : SF := (sSeq (sIf (mTv (mOp gLt (mVar 1) (mCallB gLen (mCons (mVar 0) mNil)))) (sRet (mOp gIx (mVar 0) (mVar 1))) sNil)
  (sRet (mC (.int 0))))
noncomputable def M_law_cell : FF := runF 2 g_law_cell
noncomputable def g_law_generator : SF := (sSeq (sSet 2 (mCall 2 M_law_cell [] (mCons (mVar 0) (mCons (mVar 1) mNil))))
  (sRet (mLst (mCons (mOp gMod (mCallB gInt1 (mCons (mCallB gMax2 (mCons (mOp gSub (mVar 2) (mOp gPow (mC (.int 10)) (mC (.int 18)))) (mCons (mC (.int 0)) mNil))) mNil)) (mOp gPow (mOp gPow (mC (.int 10)) (mC (.int 60))) (mC (.int 10)))) (mCons (mOp gMod (mCallB gInt1 (mCons (mVar 2) mNil)) (mC (.int 2147483647))) (mCons (mOp gMul (mC (.int 1000)) (mVar 1)) mNil))))))
noncomputable def M_law_generator : FF := runF 3 g_law_generator
noncomputable def g_law_hash : SF := (sSeq (sSet 2 (mOp gMod (mCallB gInt1 (mCons (mOp gAdd (mOp gAdd (mOp gAdd (mOp gMul (mVar 0) (mC (.int 1103515245))) (mOp gMul (mOp gMul (mC (.int 7919)) (mVar 1)) (mVar 1))) (mVar 1)) (mC (.int 1))) mNil)) (mC (.int 2147483647))))
  (sSeq (sSet 2 (mOp gMod (mCallB gInt1 (mCons (mOp gAdd (mOp gMul (mVar 2) (mVar 2)) (mC (.int 69621))) mNil)) (mC (.int 2147483629))))
  (sRet (mOp gMod (mCallB gInt1 (mCons (mOp gMul (mVar 2) (mC (.int 48271))) mNil)) (mC (.int 2147483587))))))
noncomputable def M_law_hash : FF := runF 3 g_law_hash
noncomputable abbrev b1_law_random : SF := (sSeq (sPutIx (mOp gAdd (mOp gIx (mVar 0) (mC (.int 2))) (mC (.int 1))) (mVar 0) (mC (.int 2)))
  (sSet 2 (mOp gAdd (mOp gMul (mVar 2) (mC (.int 2147483587))) (mCall 2 M_law_hash [] (mCons (mOp gIx (mVar 0) (mC (.int 1))) (mCons (mOp gIx (mVar 0) (mC (.int 2))) mNil))))))
noncomputable def g_law_random : SF := (sSeq (sIf (mTv (mOp gGt (mOp gIx (mVar 0) (mC (.int 0))) (mC (.int 0)))) (sSeq (sSet 2 (mOp gMod (mCallB gInt1 (mCons (mOp gIx (mVar 0) (mC (.int 0))) mNil)) (mVar 1)))
  (sSeq (sPutIx (mOp gDiv (mOp gIx (mVar 0) (mC (.int 0))) (mVar 1)) (mVar 0) (mC (.int 0)))
  (sRet (mVar 2)))) sNil)
  (sSeq (sSet 2 (mC (.int 0)))
  (sSeq (sFor (iRg1 (mOp gAdd (mC (.int 1)) (mOp gDiv (mBits (mVar 1)) (mC (.int 30))))) (gN 3) b1_law_random)
  (sRet (mOp gMod (mCallB gInt1 (mCons (mVar 2) mNil)) (mVar 1))))))
noncomputable def M_law_random : FF := runF 4 g_law_random
noncomputable def g_law_move : SF := (sSeq (sSet 3 (mOp gSub (mCall 2 M_law_random [] (mCons (mVar 0) (mCons (mOp gAdd (mOp gMul (mC (.int 2)) (mVar 2)) (mC (.int 1))) mNil))) (mVar 2)))
  (sSeq (sSet 4 (mCallB gMax2 (mCons (mC (.int 0)) (mCons (mOp gSub (mC (.int 0)) (mVar 3)) mNil))))
  (sSeq (sSet 5 (mOp gAdd (mVar 4) (mOp gIx (mLst (mCons (mC (.int 0)) (mCons (mC (.int 0)) (mCons (mC (.int 0)) (mCons (mC (.int 1)) (mCons (mC (.int 2)) (mCons (mC (.int 4)) mNil))))))) (mCall 2 M_law_random [] (mCons (mVar 0) (mCons (mC (.int 6)) mNil))))))
  (sSeq (sIf (mOr (mTv (mOp gGt (mOp gAdd (mVar 5) (mVar 3)) (mC (.int 8)))) (mTv (mOp gGt (mVar 5) (mC (.int 8))))) (sSet 5 (mVar 4)) sNil)
  (sSeq (sPar 6 7 false false (mOp gIx (mVar 1) (mCall 2 M_law_random [] (mCons (mVar 0) (mCons (mCallB gLen (mCons (mVar 1) mNil)) mNil)))) (mOp gIx (mVar 1) (mCall 2 M_law_random [] (mCons (mVar 0) (mCons (mCallB gLen (mCons (mVar 1) mNil)) mNil)))))
  (sRet (mTup (mCons (mVar 6) (mCons (mVar 5) (mCons (mVar 3) (mCons (mVar 7) mNil)))))))))))
noncomputable def M_law_move : FF := runF 8 g_law_move
noncomputable abbrev b1_law_parts : SF := (sApp (mVar 5) (mCall 3 M_law_move [] (mCons (mVar 0) (mCons (mVar 4) (mCons (mVar 3) mNil)))))
noncomputable def g_law_parts : SF := (sSeq (sSet 4 (mSl (mLst (mCons (mC (.str "up")) (mCons (mC (.str "down")) (mCons (mC (.str "mid")) (mCons (mC (.str "low")) mNil))))) oNone (oSome (mOp gAdd (mC (.int 1)) (mCall 2 M_law_random [] (mCons (mVar 0) (mCons (mVar 1) mNil)))))))
  (sSeq (sOwn 5 (mLst mNil))
  (sSeq (sFor (iRg1 (mCall 2 M_law_random [] (mCons (mVar 0) (mCons (mOp gAdd (mVar 2) (mC (.int 1))) mNil)))) (gN 6) b1_law_parts)
  (sFz 5 (sRet (mLst (mCons (mVar 4) (mCons (mVar 5) mNil))))))))
noncomputable def M_law_parts : FF := runF 7 g_law_parts
noncomputable def g_is_whole : SF := (sRet (mAndV (mIsi (isT "int") noC noC (mVar 0)) (mUn gNot (mIsi (isT "bool") noC noC (mVar 0)))))
noncomputable def M_is_whole : FF := runF 1 g_is_whole
noncomputable def g_is_within : SF := (sRet (mAndV (mCall 1 M_is_whole [] (mCons (mVar 0) mNil)) (mChain gLe gLe (mVar 1) (mVar 0) (mVar 2))))
noncomputable def M_is_within : FF := runF 3 g_is_within
noncomputable def g_is_move : SF := (sSeq (sIf (mOr (mNotT (mTv (mIsi (isT "tuple") noC noC (mVar 0)))) (mOr (mTv (mOp (gEqB true) (mCallB gLen (mCons (mVar 0) mNil)) (mC (.int 4)))) (mOr (mTv (mOp (gInA true) (mOp gIx (mVar 0) (mC (.int 0))) (mVar 1))) (mTv (mOp (gInA true) (mOp gIx (mVar 0) (mC (.int 3))) (mVar 1)))))) (sRet (mC (.bl false))) sNil)
  (sSeq (sIf (mOr (mNotT (mTv (mCall 3 M_is_within [] (mCons (mOp gIx (mVar 0) (mC (.int 1))) (mCons (mC (.int 0)) (mCons (mC (.int 8)) mNil)))))) (mNotT (mTv (mCall 3 M_is_within [] (mCons (mOp gIx (mVar 0) (mC (.int 2))) (mCons (mUn gNeg (mC (.int 4))) (mCons (mC (.int 4)) mNil))))))) (sRet (mC (.bl false))) sNil)
  (sRet (mChain gLe gLe (mC (.int 0)) (mOp gAdd (mOp gIx (mVar 0) (mC (.int 1))) (mOp gIx (mVar 0) (mC (.int 2)))) (mC (.int 8))))))
noncomputable def M_is_move : FF := runF 2 g_is_move
noncomputable def g_is_name : SF := (sSeq (sIf (mOr (mNotT (mTv (mIsi (isT "str") noC noC (mVar 0)))) (mNotT (mTv (mChain gLe gLe (mC (.int 1)) (mCallB gLen (mCons (mVar 0) mNil)) (mC (.int 8)))))) (sRet (mC (.bl false))) sNil)
  (sRet (mOp (gEqB false) (mLc [1] (iStrM (mVar 0)) (gN 1) (mTv (mOp (gInA true) (mVar 1) (mC (.str "abcdefghijklmnopqrstuvwxyz")))) (mVar 1)) (mLst mNil))))
noncomputable def M_is_name : FF := runF 2 g_is_name
noncomputable abbrev b2_Program_init : SF := (sIf (mNotT (mTv (mCall 2 M_is_move [] (mCons (mVar 5) (mCons (mVar 1) mNil))))) (sRaise "InvalidItem" "value" [] (mCons (mVar 5) mNil)) sNil)
noncomputable abbrev b1_Program_init : SF := (sIf (mOr (mNotT (mTv (mCall 1 M_is_name [] (mCons (mVar 4) mNil)))) (mTv (mOp (gInA false) (mVar 4) (mSl (mVar 1) oNone (oSome (mVar 3)))))) (sRaise "InvalidItem" "value" [] (mCons (mVar 4) mNil)) sNil)
noncomputable def g_Program_init : SF := (sSeq (sIf (mOr (mNotT (mTv (mIsi (isT "list") noC noC (mVar 1)))) (mNotT (mTv (mChain gLe gLe (mC (.int 1)) (mCallB gLen (mCons (mVar 1) mNil)) (mC (.int 4)))))) (sRaise "InvalidList" "value" [] (mCons (mVar 1) mNil)) sNil)
  (sSeq (sFor (iEn (mVar 1)) (gT 2 (gsCons (gN 3) (gsCons (gN 4) gsNil))) b1_Program_init)
  (sSeq (sIf (mOr (mNotT (mTv (mIsi (isT "list") noC noC (mVar 2)))) (mTv (mOp gGt (mCallB gLen (mCons (mVar 2) mNil)) (mC (.int 10))))) (sRaise "InvalidList" "value" [] (mCons (mVar 2) mNil)) sNil)
  (sSeq (sFor (iSeq (mVar 2)) (gN 5) b2_Program_init)
  (sSeq (sPutF "stands" (inB ["Program"]) (mCallB gTupOf (mCons (mVar 1) mNil)) (mVar 0))
  (sSeq (sPutF "steps" (inB ["Program"]) (mCallB gTupOf (mCons (mVar 2) mNil)) (mVar 0))
  (sPutF "folio" (inB ["Program"]) (mLst mNil) (mVar 0))))))))
noncomputable def M_Program_init : FF := runI "Program" 6 g_Program_init
noncomputable def g_law_program : SF := (sRet (mCall 2 M_Program_init [] (mCons (mCallB gListOf (mCons (mOp gIx (mVar 0) (mC (.int 0))) mNil)) (mCons (mCallB gListOf (mCons (mOp gIx (mVar 0) (mC (.int 1))) mNil)) mNil))))
noncomputable def M_law_program : FF := runF 1 g_law_program
noncomputable def g_check_program : SF := (sIf (mNotT (mTv (mIsi noT (eqc CS "Program") noC (mVar 0)))) (sRaise "InvalidProgram" "value" [] (mCons (mVar 0) mNil)) sNil)
noncomputable def M_check_program : FF := runF 1 g_check_program
noncomputable abbrev b1_is_part : SF := (sSeq (sIf (mOr (mNotT (mTv (mCall 1 M_is_whole [] (mCons (mVar 3) mNil)))) (mNotT (mTv (mChain gLe gLt (mC (.int 0)) (mVar 3) (mCallB gLen (mCons (mFld "steps" (inB ["Program"]) noB (mVar 0)) mNil)))))) (sRet (mC (.bl false))) sNil)
  (sSeq (sIf (mAnd (mTv (mOp (gIsN true) (mVar 2) (mC .non))) (mTv (mOp (gEqB true) (mOp gIx (mOp gIx (mFld "steps" (inB ["Program"]) noB (mVar 0)) (mVar 3)) (mC (.int 0))) (mVar 2)))) (sRet (mC (.bl false))) sNil)
  (sSet 2 (mOp gIx (mOp gIx (mFld "steps" (inB ["Program"]) noB (mVar 0)) (mVar 3)) (mC (.int 3))))))
noncomputable def g_is_part : SF := (sSeq (sIf (mOr (mNotT (mTv (mIsi (isT "tuple") noC noC (mVar 1)))) (mOr (mTv (mOp (gEqB true) (mCallB gLen (mCons (mVar 1) mNil)) (mC (.int 2)))) (mOr (mNotT (mTv (mCall 1 M_is_whole [] (mCons (mOp gIx (mVar 1) (mC (.int 0))) mNil)))) (mTv (mOp gLt (mOp gIx (mVar 1) (mC (.int 0))) (mC (.int 1))))))) (sRet (mC (.bl false))) sNil)
  (sSeq (sIf (mOr (mNotT (mTv (mIsi (isT "list") noC noC (mOp gIx (mVar 1) (mC (.int 1)))))) (mTv (mOp (gEqB false) (mOp gIx (mVar 1) (mC (.int 1))) (mLst mNil)))) (sRet (mC (.bl false))) sNil)
  (sSeq (sSet 2 (mC .non))
  (sSeq (sFor (iSeq (mOp gIx (mVar 1) (mC (.int 1)))) (gN 3) b1_is_part)
  (sRet (mOrV (mOp (gEqB false) (mOp gIx (mVar 1) (mC (.int 0))) (mC (.int 1))) (mOp (gEqB false) (mOp gIx (mOp gIx (mFld "steps" (inB ["Program"]) noB (mVar 0)) (mOp gIx (mOp gIx (mVar 1) (mC (.int 1))) (mC (.int 0)))) (mC (.int 0))) (mVar 2))))))))
noncomputable def M_is_part : FF := runF 4 g_is_part
noncomputable abbrev b1_end_of : SF := (sSeq (sIf (mOr (mNotT (mTv (mCall 2 M_is_part [] (mCons (mVar 0) (mCons (mVar 4) mNil))))) (mTv (mOp (gEqB true) (mOp gIx (mOp gIx (mFld "steps" (inB ["Program"]) noB (mVar 0)) (mOp gIx (mOp gIx (mVar 4) (mC (.int 1))) (mC (.int 0)))) (mC (.int 0))) (mVar 3)))) (sRet (mC .non)) sNil)
  (sSet 3 (mOp gIx (mOp gIx (mFld "steps" (inB ["Program"]) noB (mVar 0)) (mOp gIx (mOp gIx (mVar 4) (mC (.int 1))) (mUn gNeg (mC (.int 1))))) (mC (.int 3)))))
noncomputable def g_end_of : SF := (sSeq (sIf (mNotT (mTv (mIsi (isT "list") noC noC (mVar 2)))) (sRet (mC .non)) sNil)
  (sSeq (sSet 3 (mVar 1))
  (sSeq (sFor (iSeq (mVar 2)) (gN 4) b1_end_of)
  (sRet (mVar 3)))))
noncomputable def M_end_of : FF := runF 5 g_end_of
noncomputable def g_begin_of : SF := (sSeq (sIf (mNotT (mTv (mIsi (isT "list") noC noC (mVar 1)))) (sRet (mC .non)) sNil)
  (sSeq (sIf (mTv (mOp (gEqB false) (mVar 1) (mLst mNil))) (sRet (mOp gIx (mFld "stands" (inB ["Program"]) noB (mVar 0)) (mC (.int 0)))) sNil)
  (sSeq (sIf (mNotT (mTv (mCall 2 M_is_part [] (mCons (mVar 0) (mCons (mOp gIx (mVar 1) (mC (.int 0))) mNil))))) (sRet (mC .non)) sNil)
  (sSeq (sSet 2 (mOp gIx (mOp gIx (mFld "steps" (inB ["Program"]) noB (mVar 0)) (mOp gIx (mOp gIx (mOp gIx (mVar 1) (mC (.int 0))) (mC (.int 1))) (mC (.int 0)))) (mC (.int 0))))
  (sRet (mIfE (mTv (mOp (gIsN false) (mCall 3 M_end_of [] (mCons (mVar 0) (mCons (mVar 2) (mCons (mVar 1) mNil)))) (mC .non))) (mC .non) (mVar 2)))))))
noncomputable def M_begin_of : FF := runF 3 g_begin_of
noncomputable def g_check_row : SF := (sIf (mTv (mOp (gIsN false) (mCall 2 M_begin_of [] (mCons (mVar 0) (mCons (mVar 1) mNil))) (mC .non))) (sRaise "InvalidRow" "value" [] (mCons (mVar 1) mNil)) sNil)
noncomputable def M_check_row : FF := runF 2 g_check_row
noncomputable def g_joined : SF := (sRet (mTup (mCons (mCallB gMax2 (mCons (mOp gIx (mVar 0) (mC (.int 0))) (mCons (mOp gSub (mOp gIx (mVar 1) (mC (.int 0))) (mOp gIx (mVar 0) (mC (.int 1)))) mNil))) (mCons (mOp gAdd (mOp gIx (mVar 0) (mC (.int 1))) (mOp gIx (mVar 1) (mC (.int 1)))) mNil))))
noncomputable def M_joined : FF := runF 2 g_joined
noncomputable def g_rounded : SF := (sSeq (sAsg (mVar 0) (gT 2 (gsCons (gN 2) (gsCons (gN 3) gsNil))))
  (sRet (mTup (mCons (mIfE (mTv (mOp gGe (mVar 3) (mC (.int 0)))) (mVar 2) (mOp gSub (mVar 2) (mOp gMul (mOp gSub (mVar 1) (mC (.int 1))) (mVar 3)))) (mCons (mOp gMul (mVar 1) (mVar 3)) mNil)))))
noncomputable def M_rounded : FF := runF 4 g_rounded
noncomputable abbrev b2_measured : SF := (sSeq (sAsg (mOp gIx (mFld "steps" (inB ["Program"]) noB (mVar 0)) (mVar 6)) (gT 4 (gsCons (gN 7) (gsCons (gN 8) (gsCons (gN 9) (gsCons (gN 10) gsNil))))))
  (sSet 5 (mCall 2 M_joined [] (mCons (mVar 5) (mCons (mTup (mCons (mVar 8) (mCons (mVar 9) mNil))) mNil)))))
noncomputable abbrev b1_measured : SF := (sSeq (sSet 5 (mTup (mCons (mC (.int 0)) (mCons (mC (.int 0)) mNil))))
  (sSeq (sFor (iSeq (mVar 4)) (gN 6) b2_measured)
  (sSet 2 (mCall 2 M_joined [] (mCons (mVar 2) (mCons (mCall 2 M_rounded [] (mCons (mVar 5) (mCons (mVar 3) mNil))) mNil))))))
noncomputable def g_measured : SF := (sSeq (sSet 2 (mTup (mCons (mC (.int 0)) (mCons (mC (.int 0)) mNil))))
  (sSeq (sFor (iSeq (mVar 1)) (gT 2 (gsCons (gN 3) (gsCons (gN 4) gsNil))) b1_measured)
  (sRet (mVar 2))))
noncomputable def M_measured : FF := runF 11 g_measured
noncomputable def g_change_of : SF := (sSeq (sExpr (mCall 1 M_check_program [] (mCons (mVar 0) mNil)))
  (sSeq (sExpr (mCall 2 M_check_row [] (mCons (mVar 0) (mCons (mVar 1) mNil))))
  (sRet (mOp gIx (mCall 2 M_measured [] (mCons (mVar 0) (mCons (mVar 1) mNil))) (mC (.int 1))))))
noncomputable def M_change_of : FF := runF 2 g_change_of
noncomputable def g_check_counter : SF := (sIf (mOr (mNotT (mTv (mCall 1 M_is_whole [] (mCons (mVar 0) mNil)))) (mTv (mOp gLt (mVar 0) (mC (.int 0))))) (sRaise "InvalidNumber" "value" [] (mCons (mVar 0) mNil)) sNil)
noncomputable def M_check_counter : FF := runF 1 g_check_counter
noncomputable def g_check_place : SF := (sIf (mOr (mNotT (mTv (mIsi (isT "str") noC noC (mVar 1)))) (mTv (mOp (gInA true) (mVar 1) (mFld "stands" (inB ["Program"]) noB (mVar 0))))) (sRaise "UnknownName" "name" [] (mCons (mVar 1) mNil)) sNil)
noncomputable def M_check_place : FF := runF 2 g_check_place
noncomputable def g_led : SF := (sSeq (sExpr (mCall 1 M_check_program [] (mCons (mVar 0) mNil)))
  (sSeq (sExpr (mCall 2 M_check_place [] (mCons (mVar 0) (mCons (mVar 1) mNil))))
  (sSeq (sExpr (mCall 1 M_check_counter [] (mCons (mVar 2) mNil)))
  (sSeq (sSet 4 (mCall 3 M_end_of [] (mCons (mVar 0) (mCons (mVar 1) (mCons (mVar 3) mNil)))))
  (sSeq (sIf (mTv (mOp (gIsN false) (mVar 4) (mC .non))) (sRaise "InvalidRow" "value" [] (mCons (mVar 3) mNil)) sNil)
  (sSeq (sAsg (mCall 2 M_measured [] (mCons (mVar 0) (mCons (mVar 3) mNil))) (gT 2 (gsCons (gN 5) (gsCons (gN 6) gsNil))))
  (sRet (mIfE (mTv (mOp gLt (mVar 2) (mVar 5))) (mC .non) (mTup (mCons (mVar 4) (mCons (mOp gAdd (mVar 2) (mVar 6)) mNil)))))))))))
noncomputable def M_led : FF := runF 7 g_led
noncomputable def g_need_of : SF := (sSeq (sExpr (mCall 1 M_check_program [] (mCons (mVar 0) mNil)))
  (sSeq (sExpr (mCall 2 M_check_row [] (mCons (mVar 0) (mCons (mVar 1) mNil))))
  (sRet (mOp gIx (mCall 2 M_measured [] (mCons (mVar 0) (mCons (mVar 1) mNil))) (mC (.int 0))))))
noncomputable def M_need_of : FF := runF 2 g_need_of
noncomputable def g_law_is_whole : SF := (sRet (mAndV (mIsi (isT "int") noC noC (mVar 0)) (mUn gNot (mIsi (isT "bool") noC noC (mVar 0)))))
noncomputable def M_law_is_whole : FF := runF 1 g_law_is_whole
noncomputable abbrev b2_law_last : SF := (sSeq (sIf (mOr (mNotT (mTv (mCall 1 M_law_is_whole [] (mCons (mVar 6) mNil)))) (mOr (mNotT (mTv (mChain gLe gLt (mC (.int 0)) (mVar 6) (mCallB gLen (mCons (mOp gIx (mVar 0) (mC (.int 1))) mNil))))) (mTv (mOp (gEqB true) (mOp gIx (mOp gIx (mOp gIx (mVar 0) (mC (.int 1))) (mVar 6)) (mC (.int 0))) (mVar 3))))) (sRet (mC .non)) sNil)
  (sSet 3 (mOp gIx (mOp gIx (mOp gIx (mVar 0) (mC (.int 1))) (mVar 6)) (mC (.int 3)))))
noncomputable abbrev b1_law_last : SF := (sSeq (sIf (mOr (mNotT (mTv (mIsi (isT "tuple") noC noC (mVar 4)))) (mOr (mTv (mOp (gEqB true) (mCallB gLen (mCons (mVar 4) mNil)) (mC (.int 2)))) (mOr (mNotT (mTv (mCall 1 M_law_is_whole [] (mCons (mOp gIx (mVar 4) (mC (.int 0))) mNil)))) (mTv (mOp gLt (mOp gIx (mVar 4) (mC (.int 0))) (mC (.int 1))))))) (sRet (mC .non)) sNil)
  (sSeq (sIf (mOr (mNotT (mTv (mIsi (isT "list") noC noC (mOp gIx (mVar 4) (mC (.int 1)))))) (mTv (mOp (gEqB false) (mOp gIx (mVar 4) (mC (.int 1))) (mLst mNil)))) (sRet (mC .non)) sNil)
  (sSeq (sSet 5 (mVar 3))
  (sSeq (sFor (iSeq (mOp gIx (mVar 4) (mC (.int 1)))) (gN 6) b2_law_last)
  (sIf (mAnd (mTv (mOp gGt (mOp gIx (mVar 4) (mC (.int 0))) (mC (.int 1)))) (mTv (mOp (gEqB true) (mVar 3) (mVar 5)))) (sRet (mC .non)) sNil)))))
noncomputable def g_law_last : SF := (sSeq (sSet 3 (mVar 1))
  (sSeq (sIf (mNotT (mTv (mIsi (isT "list") noC noC (mVar 2)))) (sRet (mC .non)) sNil)
  (sSeq (sFor (iSeq (mVar 2)) (gN 4) b1_law_last)
  (sRet (mVar 3)))))
noncomputable def M_law_last : FF := runF 7 g_law_last
noncomputable abbrev b2_law_row_drawn : SF := (sSeq (sSet 10 (mLc [12] (iRg1 (mCallB gLen (mCons (mOp gIx (mVar 1) (mC (.int 1))) mNil))) (gN 12) (mTv (mOp (gEqB false) (mOp gIx (mOp gIx (mOp gIx (mVar 1) (mC (.int 1))) (mVar 12)) (mC (.int 0))) (mVar 8))) (mVar 12)))
  (sIf (mTv (mOp (gEqB true) (mVar 10) (mLst mNil))) (sSeq (sApp (mVar 7) (mOp gIx (mVar 10) (mCall 2 M_law_random [] (mCons (mVar 0) (mCons (mCallB gLen (mCons (mVar 10) mNil)) mNil)))))
  (sSet 8 (mOp gIx (mOp gIx (mOp gIx (mVar 1) (mC (.int 1))) (mOp gIx (mVar 7) (mUn gNeg (mC (.int 1))))) (mC (.int 3))))) sNil))
noncomputable abbrev b1_law_row_drawn : SF := (sSeq (sPar 7 8 true false (mLst mNil) (mVar 5))
  (sSeq (sFor (iRg1 (mOp gAdd (mC (.int 1)) (mCall 2 M_law_random [] (mCons (mVar 0) (mCons (mC (.int 4)) mNil))))) (gN 9) b2_law_row_drawn)
  (sIf (mTv (mOp (gEqB true) (mVar 7) (mLst mNil))) (sSeq (sSet 11 (mIfE (mTv (mOp (gEqB false) (mVar 8) (mVar 5))) (mOp gIx (mLst (mCons (mC (.int 1)) (mCons (mC (.int 2)) (mCons (mC (.int 3)) (mCons (mOp gPow (mC (.int 10)) (mC (.int 30))) mNil))))) (mCall 2 M_law_random [] (mCons (mVar 0) (mCons (mC (.int 4)) mNil)))) (mC (.int 1))))
  (sSeq (sFz 7 (sApp (mVar 4) (mTup (mCons (mVar 11) (mCons (mVar 7) mNil)))))
  (sSet 5 (mVar 8)))) sNil)))
noncomputable def g_law_row_drawn : SF := (sSeq (sPar 4 5 true false (mLst mNil) (mVar 2))
  (sSeq (sFor (iRg1 (mCall 2 M_law_random [] (mCons (mVar 0) (mCons (mOp gAdd (mVar 3) (mC (.int 1))) mNil)))) (gN 6) b1_law_row_drawn)
  (sRet (mVar 4))))
noncomputable def M_law_row_drawn : FF := runF 13 g_law_row_drawn
end FL

namespace FL
open PySem L2 PySem.Spec PyProof.Rows FW

theorem log2_lt {n k : Nat} (h : n < 2 ^ k) (hk : 0 < k) : n.log2 < k := by
  by_cases z : n = 0
  · subst z; simpa using hk
  · exact (Nat.log2_lt z).mpr h
theorem mul_ok {i j : Int} (hi : i.natAbs < 2 ^ 4000) (hj : j.natAbs < 2 ^ 4000) : CMulW i j := by
  unfold CMulW
  have a := log2_lt hi (by decide)
  have b := log2_lt hj (by decide)
  omega
theorem div_ok {i j : Int} (h0 : 0 < j) (hj : j.natAbs < 2 ^ 8000) : CDivW i j := by
  unfold CDivW
  have b := log2_lt hj (by decide)
  omega
/-- products of numbers of a hundred figures -/
theorem mul100 {i j : Int} (hi : i.natAbs < 10 ^ 100) (hj : j.natAbs < 10 ^ 100) : CMulW i j := mul_ok (Nat.lt_of_lt_of_le hi (by decide +kernel)) (Nat.lt_of_lt_of_le hj (by decide +kernel))
theorem div100 {i j : Int} (h0 : 0 < j) (hj : j.natAbs < 10 ^ 100) : CDivW i j := div_ok h0 (Nat.lt_of_lt_of_le hj (by decide +kernel))
theorem sz {n : Nat} (h : n ≤ 100000) : n ≤ sizeLine := Nat.le_trans h (by decide +kernel)
theorem cell_ok (ns : List Int) (i : Nat) (st : Sto) : ∃ n, M_law_cell [.scr ns, .int i] st = .ok (.int n, false, st) := by
  by_cases h : i < ns.length
  · refine ⟨ns[i], ?_⟩
    have h2 : ((i : Int) < (ns.length : Int)) := by omega
    have h3 : atI ns (i : Int) = some ns[i] := by
      unfold atI ixN
      simp [h]
    simp [M_law_cell, d_runF, startM, g_law_cell, h2, h3]
  · refine ⟨0, ?_⟩
    have h2 : ¬ ((i : Int) < (ns.length : Int)) := by omega
    simp [M_law_cell, d_runF, startM, g_law_cell, h2]
theorem pw1 : CPowW 10 18 := by decide +kernel
theorem pw2 : CPowW 10 60 := by decide +kernel
theorem pw3 : CPowW ((10 : Int) ^ 60) 10 := by decide +kernel
theorem pw30 : CPowW 10 30 := by decide +kernel
theorem pw25 : CPowW 10 25 := by decide +kernel
theorem pw20 : CPowW 10 20 := by decide +kernel
theorem s3 : 3 ≤ sizeLine := by decide +kernel
theorem gen_ok (ns : List Int) (i : Nat) (hi : i ≤ 63) (st : Sto) : ∃ a b : Int, 0 ≤ a ∧ 0 ≤ b ∧ b < 2147483647 ∧ M_law_generator [.scr ns, .int i] st = .ok (.lst [.int a, .int b, .int (1000 * i)], true, st) := by
  obtain ⟨n, hn⟩ := cell_ok ns i st
  have p3 : (0 : Int) < (10 ^ 60) ^ 10 := by decide +kernel
  refine ⟨(if 0 > n - 10 ^ 18 then 0 else n - 10 ^ 18) % ((10 : Int) ^ 60) ^ 10, n % 2147483647, Int.emod_nonneg _ (fun z => absurd (z ▸ p3) (Int.lt_irrefl _)), Int.emod_nonneg _ (by decide), Int.emod_lt_of_pos _ (by decide), ?_⟩
  · have m1 : CMulW 1000 (i : Int) := mul_ok (by decide +kernel) (by omega)
    simp [-Int.reducePow, -Nat.reducePow, M_law_generator, d_runF, startM, g_law_generator, callR_ok _ _ hn, d_gPow, pw1, pw2, pw3, d_gMod, d_gMul, m1, p3, s3]
theorem hash_ok (s i : Int) (st : Sto) (h0 : 0 ≤ s) (h1 : s < 2147483647) (h2 : 0 ≤ i) (h3 : i ≤ 10 ^ 12) : ∃ r : Int, 0 ≤ r ∧ r < 2147483587 ∧ M_law_hash [.int s, .int i] st = .ok (.int r, false, st) := by
  have big : ∀ x : Int, x.natAbs < 10 ^ 30 → x.natAbs < 2 ^ 4000 := fun x hx => Nat.lt_of_lt_of_le hx (by decide +kernel)
  have b1 : CMulW s 1103515245 := mul_ok (big _ (by omega)) (by decide +kernel)
  have b2 : CMulW 7919 i := mul_ok (by decide +kernel) (big _ (by omega))
  have b3 : CMulW (7919 * i) i := mul_ok (big _ (by omega)) (big _ (by omega))
  have m1 := Int.emod_nonneg (s * 1103515245 + 7919 * i * i + i + 1) (b := 2147483647) (by decide)
  have m2 := Int.emod_lt_of_pos (s * 1103515245 + 7919 * i * i + i + 1) (b := 2147483647) (by decide)
  have b4 : ∀ x : Int, 0 ≤ x → x < 2147483647 → CMulW x x := fun x hx hy => mul_ok (big _ (by omega)) (big _ (by omega))
  have b5 : ∀ x : Int, 0 ≤ x → x < 2147483629 → CMulW x 48271 := fun x hx hy => mul_ok (big _ (by omega)) (by decide +kernel)
  have b6 := b4 _ m1 m2
  have m3 := Int.emod_nonneg ((s * 1103515245 + 7919 * i * i + i + 1) % 2147483647 * ((s * 1103515245 + 7919 * i * i + i + 1) % 2147483647) + 69621) (b := 2147483629) (by decide)
  have m4 := Int.emod_lt_of_pos ((s * 1103515245 + 7919 * i * i + i + 1) % 2147483647 * ((s * 1103515245 + 7919 * i * i + i + 1) % 2147483647) + 69621) (b := 2147483629) (by decide)
  have b7 := b5 _ m3 m4
  refine ⟨((s * 1103515245 + 7919 * i * i + i + 1) % 2147483647 * ((s * 1103515245 + 7919 * i * i + i + 1) % 2147483647) + 69621) % 2147483629 * 48271 % 2147483587, Int.emod_nonneg _ (by decide), Int.emod_lt_of_pos _ (by decide), ?_⟩
  simp [M_law_hash, d_runF, startM, g_law_hash, d_gMul, d_gMod, b1, b2, b3, b6, b7]
/-- a generator stands in the store -/
def GenAt (st : Sto) (n : Nat) (N : Int) : Prop := ∃ a b c : Int, st[n]? = some (.lst [.int a, .int b, .int c]) ∧ 0 ≤ a ∧ 0 ≤ b ∧ b < 2147483647 ∧ 0 ≤ c ∧ c ≤ N ∧ 0 ≤ N
theorem GenAt.up {st : Sto} {n : Nat} {N N' : Int} (g : GenAt st n N) (h : N ≤ N') : GenAt st n N' := by
  obtain ⟨a, b, c, h1, h2, h4, h5, h6, h7, h8⟩ := g
  exact ⟨a, b, c, h1, h2, h4, h5, h6, by omega, by omega⟩
/-- a store in which only the generator went on -/
structure GS (st : Sto) (n : Nat) (N : Int) (st' : Sto) : Prop where
  g : GenAt st' n N
  o : ∀ m, m ≠ n → st'[m]? = st[m]?
  l : st'.length = st.length
theorem GS.refl {st : Sto} {n : Nat} {N : Int} (g : GenAt st n N) : GS st n N st := ⟨g, fun _ _ => rfl, rfl⟩
theorem GS.trans {st st' st2 : Sto} {n : Nat} {N N' : Int} (a : GS st n N st') (b : GS st' n N' st2) : GS st n N' st2 := ⟨b.g, fun m h => (b.o m h).trans (a.o m h), b.l.trans a.l⟩
theorem GS.up {st st' : Sto} {n : Nat} {N N' : Int} (a : GS st n N st') (h : N ≤ N') : GS st n N' st' := ⟨a.g.up h, a.o, a.l⟩
theorem bits_ok {x : Int} (h : x.natAbs < 2 ^ 100) : Builtin.Int.intBits x ≤ 100 := by
  unfold Builtin.Int.intBits
  split
  · omega
  · have := log2_lt h (by decide); omega
theorem random_ok {st : Sto} {n : Nat} {N bound : Int} (g : GenAt st n N) (hN : N ≤ 10 ^ 9) (hb : 1 ≤ bound) (hB : bound ≤ 10 ^ 30) :
    ∃ (r : Int) (st' : Sto), 0 ≤ r ∧ r < bound ∧ M_law_random [.ref n, .int bound] st = .ok (.int r, false, st') ∧ GS st n (N + 10) st' := by
  obtain ⟨a, b, c, hst, ha, hb1, hb2, hc, hcN, h0⟩ := g
  have hn : n < st.length := (List.getElem?_eq_some_iff.mp hst).1
  have hv := vw_ref st n hst
  have x0 : ∀ x y z : MV, atI [x, y, z] 0 = some x := fun _ _ _ => rfl
  have x1 : ∀ x y z : MV, atI [x, y, z] 1 = some y := fun _ _ _ => rfl
  have x2 : ∀ x y z : MV, atI [x, y, z] 2 = some z := fun _ _ _ => rfl
  have i0 : ixN 3 0 = some 0 := rfl
  have i2 : ixN 3 2 = some 2 := rfl
  have hbp : (0 : Int) < bound := by omega
  have hdiv : CDivW a bound := div_ok hbp (Nat.lt_of_lt_of_le (by omega : bound.natAbs < 10 ^ 30 + 1) (by decide +kernel))
  have gs : ∀ gm, GenAt (st.set n gm) n (N + 10) → GS st n (N + 10) (st.set n gm) := fun gm g => ⟨g, fun m h => by rw [List.getElem?_set_ne (fun e => h e.symm)], by simp⟩
  by_cases hp : 0 < a
  · refine ⟨a % bound, st.set n (.lst [.int (a / bound), .int b, .int c]), Int.emod_nonneg _ (by omega), Int.emod_lt_of_pos _ hbp, ?_, gs _ ⟨a / bound, b, c, by simp [hn], Int.ediv_nonneg ha (by omega), hb1, hb2, hc, by omega, by omega⟩⟩
    · simp [M_law_random, d_runF, startM, g_law_random, hv, hst, hp, x0, d_gMod, d_gDiv, hbp, hdiv, i0, refAt]
  · have hbits : Builtin.Int.intBits bound ≤ 100 := bits_ok (Nat.lt_of_lt_of_le (by omega : bound.natAbs < 10 ^ 30 + 1) (by decide +kernel))
    generalize hq : Builtin.Int.intBits bound = q at hbits
    have hd30 : CDivW (q : Int) 30 := div_ok (by decide) (by decide +kernel)
    have hlen : (1 + (q : Int) / 30 - 0).toNat ≤ 4 := by omega
    have hrg : Rg62 0 (1 + (q : Int) / 30) := by unfold Rg62; omega
    have small : ∀ k : Nat, k ≤ 4 → ((2 : Int) ^ 32) ^ k ≤ 2 ^ 128 := fun k hk => by
      match k, hk with
      | 0, _ => decide +kernel
      | 1, _ => decide +kernel
      | 2, _ => decide +kernel
      | 3, _ => decide +kernel
      | 4, _ => decide +kernel
    have loop := forL_run (ck := fun _ _ => True) (gf := gN 3) (body := sSeq (sPutIx (mOp gAdd (mOp gIx (mVar 0) (mC (.int 2))) (mC (.int 1))) (mVar 0) (mC (.int 2)))
        (sSet 2 (mOp gAdd (mOp gMul (mVar 2) (mC (.int 2147483587))) (mCall 2 M_law_hash [] (mCons (mOp gIx (mVar 0) (mC (.int 1))) (mCons (mOp gIx (mVar 0) (mC (.int 2))) mNil))))))
      (Inv := fun k lo st' => ∃ (d : Int) (t : Option (MV × Bool)), lo = [some (.ref n, false), some (.int bound, false), some (.int d, false), t] ∧ st' = st.set n (.lst [.int a, .int b, .int (c + (k : Nat))]) ∧ 0 ≤ d ∧ d < ((2 : Int) ^ 32) ^ k)
      (items := rgM 0 (1 + (q : Int) / 30)) (fun _ _ _ _ => trivial) (fun k x lo st' hx ⟨d, t, hlo, hst', hd0, hd1⟩ => by
        obtain ⟨hx1, hk⟩ := rgM_get hx
        have hk4 : k ≤ 3 := by omega
        subst hlo hst'
        obtain ⟨h, hh0, hh1, hhash⟩ := hash_ok b (c + (k : Nat) + 1) (st.set n (.lst [.int a, .int b, .int (c + (k : Nat) + 1)])) hb1 hb2 (by omega) (by omega)
        have sm := small k (by omega)
        have hm : CMulW d 2147483587 := mul_ok (Nat.lt_of_lt_of_le (by omega : d.natAbs < 2 ^ 128 + 1) (by decide +kernel)) (by decide +kernel)
        have hg1 : (st.set n (MV.lst [.int a, .int b, .int (c + (k : Nat))]))[n]? = some (.lst [.int a, .int b, .int (c + (k : Nat))]) := by simp [hn]
        have hg2 : (st.set n (MV.lst [.int a, .int b, .int (c + (k : Nat) + 1)]))[n]? = some (.lst [.int a, .int b, .int (c + (k : Nat) + 1)]) := by simp [hn]
        refine ⟨_, _, [some (.ref n, false), some (.int bound, false), some (.int (d * 2147483587 + h), false), some (x, false)], st.set n (.lst [.int a, .int b, .int (c + (k : Nat) + 1)]), rfl, ?_, d * 2147483587 + h, _, rfl, by rw [show (c + ((k + 1 : Nat) : Int)) = c + (k : Nat) + 1 by omega], by omega, ?_⟩
        · have cr := callR_ok [some (.ref n, false), some (.int bound, false), some (.int d, false), some (x, false)] _ hhash
          simp [vw_ref _ n hg1, vw_ref _ n hg2, hg1, hn, x0, x1, x2, i2, d_gMul, hm, cr]
        · rw [Int.pow_succ]; omega)
      [some (.ref n, false), some (.int bound, false), some (.int 0, false), none] st ⟨0, none, rfl, by simp [← List.getElem?_eq_some_iff.mp hst |>.2], by decide, by decide⟩
    obtain ⟨lo', st', e, d, t, hlo, hst', hd0, hd1⟩ := loop
    subst hlo hst'
    rw [rgM_len] at e
    refine ⟨d % bound, st.set n (.lst [.int a, .int b, .int (c + ((1 + (q : Int) / 30 - 0).toNat : Nat))]), Int.emod_nonneg _ (by omega), Int.emod_lt_of_pos _ hbp, ?_, gs _ ⟨a, b, c + ((1 + (q : Int) / 30 - 0).toNat : Nat), List.getElem?_set_self hn, ha, hb1, hb2, by omega, by omega, by omega⟩⟩
    have hi : iRg1 (mOp gAdd (mC (.int 1)) (mOp gDiv (mBits (mVar 1)) (mC (.int 30)))) [some (.ref n, false), some (.int bound, false), some (.int 0, false), none] st = .ok (rgM 0 (1 + (q : Int) / 30), fun _ _ => True, st) := by
      refine iRg1_ok (k := .fz) ?_ hrg
      simp [hq, d_gDiv, hd30]
    unfold M_law_random g_law_random
    refine runF_rt (k := .fz) (lo := [some (.ref n, false), some (.int bound, false), some (.int d, false), t]) (lo0 := [some (.ref n, false), some (.int bound, false), none, none]) rfl (seq_ok (lo1 := [some (.ref n, false), some (.int bound, false), none, none]) (st1 := st) ?_ (seq_ok (lo1 := [some (.ref n, false), some (.int bound, false), some (.int 0, false), none]) (st1 := st) ?_ (seq_ok (for_ok hi e) ?_)))
    · simp [hv, hst, hp, x0]
    · simp
    · simp [d_gMod, hbp]
end FL

namespace FL
open PySem L2 PySem.Spec PyProof.Rows FW

structure Move where
  p : Str
  l : Int
  c : Int
  o : Str
structure Prog where
  pl : List Str
  mv : List Move
def mM (m : Move) : MV := .tup [.str m.p, .int m.l, .int m.c, .str m.o]
def plM (P : Prog) : List MV := P.pl.map .str
def mvM (P : Prog) : List MV := P.mv.map mM
def partsM (P : Prog) : MV := .lst [.lst (plM P), .lst (mvM P)]
def progM (P : Prog) : MV := .ins "Program" [("stands", .tup (plM P)), ("steps", .tup (mvM P)), ("folio", .lst [])]
structure Move.Ok (pl : List Str) (m : Move) : Prop where
  p : m.p ∈ pl
  o : m.o ∈ pl
  l0 : 0 ≤ m.l
  l8 : m.l ≤ 8
  c4 : -4 ≤ m.c
  c5 : m.c ≤ 4
  s0 : 0 ≤ m.l + m.c
  s8 : m.l + m.c ≤ 8
def NA : List Str := ["up", "down", "mid", "low"]
def NB : List Str := ["up", "down", "mid", "move"]
structure Prog.Ok (P : Prog) : Prop where
  nm : ∃ k, 1 ≤ k ∧ k ≤ 4 ∧ (P.pl = NA.take k ∨ P.pl = NB.take k)
  mv : ∀ m, m ∈ P.mv → m.Ok P.pl
  len : P.mv.length ≤ 10
theorem atI_ok {α : Type} (xs : List α) {r : Int} (h0 : 0 ≤ r) (h1 : r < xs.length) : ∃ x, atI xs r = some x ∧ x ∈ xs := by
  have hl : r.toNat < xs.length := by omega
  refine ⟨xs[r.toNat], ?_, List.getElem_mem hl⟩
  unfold atI ixN
  rw [if_pos h0, if_pos h1]
  simp [hl]
theorem atI_str {pl : List Str} {r : Int} (h0 : 0 ≤ r) (h1 : r < pl.length) : ∃ x, atI (pl.map MV.str) r = some (.str x) ∧ x ∈ pl := by
  obtain ⟨x, h, hm⟩ := atI_ok pl h0 h1
  exact ⟨x, by rw [atI_map, h]; rfl, hm⟩
theorem move_ok {st : Sto} {n : Nat} {N : Int} (g : GenAt st n N) (hN : N ≤ 10 ^ 8) {pl : List Str} (h1 : 1 ≤ pl.length) (h4 : pl.length ≤ 4) {most : Int} (m0 : 0 ≤ most) (m4 : most ≤ 4) :
    ∃ m st', Move.Ok pl m ∧ M_law_move [.ref n, .lst (pl.map .str), .int most] st = .ok (mM m, true, st') ∧ GS st n (N + 100) st' := by
  obtain ⟨r1, s1, a1, b1, e1, G1⟩ := random_ok (bound := 2 * most + 1) g (by omega) (by omega) (by omega)
  obtain ⟨r2, s2, a2, b2, e2, G2⟩ := random_ok (bound := 6) G1.g (by omega) (by decide) (by decide)
  obtain ⟨r3, t3, a3, b3, e3, G3⟩ := random_ok (bound := (pl.length : Int)) G2.g (by omega) (by omega) (by omega)
  obtain ⟨r4, t4, a4, b4, e4, G4⟩ := random_ok (bound := (pl.length : Int)) G3.g (by omega) (by omega) (by omega)
  obtain ⟨w, hw, wm⟩ := atI_ok [(0 : Int), 0, 0, 1, 2, 4] a2 (by simpa using b2)
  have hw' : atI [MV.int 0, .int 0, .int 0, .int 1, .int 2, .int 4] r2 = some (.int w) := by
    rw [show [MV.int 0, .int 0, .int 0, .int 1, .int 2, .int 4] = [(0 : Int), 0, 0, 1, 2, 4].map MV.int from rfl, atI_map, hw]; rfl
  have hwb : 0 ≤ w ∧ w ≤ 4 := by
    simp only [List.mem_cons, List.not_mem_nil, or_false] at wm
    rcases wm with rfl | rfl | rfl | rfl | rfl | rfl <;> decide
  obtain ⟨x, hx, xm⟩ := atI_str a3 b3
  obtain ⟨y, hy, ym⟩ := atI_str a4 b4
  have k1 : CMulW 2 most := mul100 (by decide +kernel) (by omega)
  have z4 : 4 ≤ sizeLine := by decide +kernel
  have z6 : 6 ≤ sizeLine := by decide +kernel
  have gs := (G1.trans G2).trans (G3.trans G4)
  generalize hc : r1 - most = c at *
  have low := (Eq.refl (if 0 - c > 0 then 0 - c else (0 : Int)))
  generalize hlow : (if 0 - c > 0 then 0 - c else (0 : Int)) = lw at low
  have lw0 : 0 ≤ lw ∧ lw ≤ 4 ∧ 0 ≤ lw + c ∧ lw + c ≤ 4 := by
    rw [← hlow]; split <;> omega
  have hle : ∃ l : Int, (0 ≤ l ∧ l ≤ 8 ∧ 0 ≤ l + c ∧ l + c ≤ 8) ∧ (sIf (mOr (mTv (mOp gGt (mOp gAdd (mVar 5) (mVar 3)) (mC (.int 8)))) (mTv (mOp gGt (mVar 5) (mC (.int 8))))) (sSet 5 (mVar 4)) sNil)
      [some (.ref n, false), some (.lst (pl.map .str), false), some (.int most, false), some (.int c, false), some (.int lw, false), some (.int (lw + w), false), none, none] s2
      = .ok (.nx, [some (.ref n, false), some (.lst (pl.map .str), false), some (.int most, false), some (.int c, false), some (.int lw, false), some (.int l, false), none, none], s2) := by
    by_cases q : 8 < lw + w + c
    · exact ⟨lw, by omega, by simp [q]⟩
    · by_cases q2 : 8 < lw + w
      · exact ⟨lw, by omega, by simp [q, q2]⟩
      · exact ⟨lw + w, by omega, by simp [q, q2]⟩
  obtain ⟨l, hl, el⟩ := hle
  refine ⟨⟨x, l, c, y⟩, t4, ⟨xm, ym, hl.1, hl.2.1, by show -4 ≤ c; omega, by show c ≤ 4; omega, hl.2.2.1, hl.2.2.2⟩, ?_, gs.up (by omega)⟩
  unfold M_law_move g_law_move
  refine runF_rt (k := .fr) (lo0 := [some (.ref n, false), some (.lst (pl.map .str), false), some (.int most, false), none, none, none, none, none]) (lo := [some (.ref n, false), some (.lst (pl.map .str), false), some (.int most, false), some (.int c, false), some (.int lw, false), some (.int l, false), some (.str x, false), some (.str y, false)]) rfl
    (seq_ok (lo1 := [some (.ref n, false), some (.lst (pl.map .str), false), some (.int most, false), some (.int c, false), none, none, none, none]) (st1 := s1) ?_
    (seq_ok (lo1 := [some (.ref n, false), some (.lst (pl.map .str), false), some (.int most, false), some (.int c, false), some (.int lw, false), none, none, none]) (st1 := s1) ?_
    (seq_ok (lo1 := [some (.ref n, false), some (.lst (pl.map .str), false), some (.int most, false), some (.int c, false), some (.int lw, false), some (.int (lw + w), false), none, none]) (st1 := s2) ?_
    (seq_ok el
    (seq_ok (lo1 := [some (.ref n, false), some (.lst (pl.map .str), false), some (.int most, false), some (.int c, false), some (.int lw, false), some (.int l, false), some (.str x, false), some (.str y, false)]) (st1 := t4) ?_ ?_)))))
  · simp [callR_ok _ _ e1, d_gMul, k1, hc]
  · rw [← hlow]; rfl
  · simp [callR_ok _ _ e2, hw', z6]
  · simp [callR_ok _ _ e3, callR_ok _ _ e4, hx, hy]
  · simp [z4, mM]
end FL

namespace FL
open PySem L2 PySem.Spec PyProof.Rows FW

abbrev fz (m : MV) : Option (MV × Bool) := some (m, false)
abbrev ow (m : MV) : Option (MV × Bool) := some (m, true)
def Fz (t : Option (MV × Bool)) : Prop := t = none ∨ ∃ m, t = some (m, false)
theorem Fz.no : Fz none := .inl rfl
theorem Fz.so {m : MV} : Fz (some (m, false)) := .inr ⟨m, rfl⟩
/-- places' names -/
structure PlOk (pl : List Str) : Prop where
  nm : ∃ k, 1 ≤ k ∧ k ≤ 4 ∧ (pl = NA.take k ∨ pl = NB.take k)
theorem Prog.Ok.pl {P : Prog} (h : P.Ok) : PlOk P.pl := ⟨h.nm⟩
theorem take_cases (xs : List Str) {k : Nat} (h1 : 1 ≤ k) (h4 : k ≤ 4) : xs.take k = xs.take 1 ∨ xs.take k = xs.take 2 ∨ xs.take k = xs.take 3 ∨ xs.take k = xs.take 4 := by
  have : k = 1 ∨ k = 2 ∨ k = 3 ∨ k = 4 := by omega
  rcases this with rfl | rfl | rfl | rfl
  · exact .inl rfl
  · exact .inr (.inl rfl)
  · exact .inr (.inr (.inl rfl))
  · exact .inr (.inr (.inr rfl))
/-- the places are one of eight rows of names -/
theorem PlOk.cases {pl : List Str} (h : PlOk pl) {Q : List Str → Prop} (a1 : Q ["up"]) (a2 : Q ["up", "down"]) (a3 : Q ["up", "down", "mid"]) (a4 : Q ["up", "down", "mid", "low"]) (a5 : Q ["up", "down", "mid", "move"]) : Q pl := by
  obtain ⟨k, h1, h4, h | h⟩ := h.nm <;> subst h
  · rcases take_cases NA h1 h4 with e | e | e | e <;> rw [e] <;> first | exact a1 | exact a2 | exact a3 | exact a4
  · rcases take_cases NB h1 h4 with e | e | e | e <;> rw [e] <;> first | exact a1 | exact a2 | exact a3 | exact a5
theorem PlOk.len1 {pl : List Str} (h : PlOk pl) : 1 ≤ pl.length := h.cases (Q := fun l => 1 ≤ l.length) (by decide) (by decide) (by decide) (by decide) (by decide)
theorem PlOk.len4 {pl : List Str} (h : PlOk pl) : pl.length ≤ 4 := h.cases (Q := fun l => l.length ≤ 4) (by decide) (by decide) (by decide) (by decide) (by decide)
theorem runF_own {n : Nat} {g : SF} {ms : List MV} {lo0 lo : Lo} {st st' : Sto} {m k} {b : Bool} (h0 : startM n ms = lo0) (h : g lo0 st = .ok (.rt m k, lo, st')) (hb : isFr k = b) : runF n g ms st = .ok (m, b, st') := by subst hb; exact runF_rt h0 h
theorem app_ok {fo fe : EF} {lo : Lo} {st st1 : Sto} {i : Nat} {xs : List MV} {m : MV} {kd : Kd} {x : MV} (h1 : fo lo st = .ok (x, .pk i, st)) (h2 : lo[i]? = some (ow (.lst xs))) (h3 : fe lo st = .ok (m, kd, st1)) (h4 : isPk kd = false) (hz : xs.length < sizeLine) :
    sApp fo fe lo st = .ok (.nx, lo.set i (ow (.lst (xs ++ [m]))), st1) := by
  unfold sApp
  rw [h1]
  have ef : frzd (m, kd, st1) = .ok (m, st1) := by cases kd <;> first | rfl | cases h4
  simp only [Res.ok_bind, targetOf, h2, ownAt, isLst, if_true, h3, ef, if_pos hz, putBack]
theorem parts_ok {st : Sto} {n : Nat} {N : Int} (g : GenAt st n N) (hN : N ≤ 10 ^ 7) {many moves most : Int} (c1 : 1 ≤ many) (c4 : many ≤ 4) (v0 : 0 ≤ moves) (v9 : moves ≤ 10) (m0 : 0 ≤ most) (m4 : most ≤ 4) :
    ∃ P st', Prog.Ok P ∧ M_law_parts [.ref n, .int many, .int moves, .int most] st = .ok (partsM P, true, st') ∧ GS st n (N + 2000) st' := by
  obtain ⟨r1, s1, a1, b1, e1, G1⟩ := random_ok (bound := many) g (by omega) (by omega) (by omega)
  obtain ⟨r2, s2, a2, b2, e2, G2⟩ := random_ok (bound := moves + 1) G1.g (by omega) (by omega) (by omega)
  have z4 : 4 ≤ sizeLine := by decide +kernel
  have z2 : 2 ≤ sizeLine := by decide +kernel
  have hsl : ∃ k : Nat, 1 ≤ k ∧ k ≤ 4 ∧ cutM [MV.str "up", .str "down", .str "mid", .str "low"] none (some (1 + r1)) = (NA.take k).map .str := by
    have : r1 = 0 ∨ r1 = 1 ∨ r1 = 2 ∨ r1 = 3 := by omega
    rcases this with rfl | rfl | rfl | rfl
    · exact ⟨1, by decide, by decide, rfl⟩
    · exact ⟨2, by decide, by decide, rfl⟩
    · exact ⟨3, by decide, by decide, rfl⟩
    · exact ⟨4, by decide, by decide, rfl⟩
  obtain ⟨k, k1, k4, hcut⟩ := hsl
  have pk : PlOk (NA.take k) := ⟨k, k1, k4, .inl rfl⟩
  generalize NA.take k = pl at *
  obtain ⟨lo', st', e3, ms, t, hlo, hml, hmo, G3⟩ := forL_run (ck := fun _ _ => True) (gf := gN 6) (body := sApp (mVar 5) (mCall 3 M_law_move [] (mCons (mVar 0) (mCons (mVar 4) (mCons (mVar 3) mNil)))))
    (Inv := fun j lo st' => ∃ (ms : List Move) (t : Option (MV × Bool)), lo = [fz (.ref n), fz (.int many), fz (.int moves), fz (.int most), fz (.lst (pl.map .str)), ow (.lst (ms.map mM)), t] ∧ ms.length = j ∧ (∀ m, m ∈ ms → m.Ok pl) ∧ GS s2 n (N + 20 + 100 * j) st') (items := rgM 0 r2) (fun _ _ _ _ => trivial)
    (fun j x lo st' hx ⟨ms, t, hlo, hl, ho, G⟩ => by
      subst hlo
      obtain ⟨hx1, hj⟩ := rgM_get hx
      obtain ⟨m, s3, hm, em, Gm⟩ := move_ok G.g (by omega) pk.len1 pk.len4 m0 m4
      refine ⟨_, _, [fz (.ref n), fz (.int many), fz (.int moves), fz (.int most), fz (.lst (pl.map .str)), ow (.lst ((ms ++ [m]).map mM)), fz x], s3, rfl, ?_, ms ++ [m], fz x, rfl, by simp [hl], ?_, (G.trans Gm).up (by omega)⟩
      · rw [List.map_append]
        exact app_ok (i := 5) (x := .lst (ms.map mM)) (m := mM m) (kd := .fr) rfl rfl (by simp [callR_ok _ _ em]) rfl (Nat.lt_of_lt_of_le (by rw [List.length_map]; omega : (ms.map mM).length < 20) (by decide +kernel))
      · intro y hy
        rcases List.mem_append.mp hy with hy | hy
        · exact ho y hy
        · rw [List.mem_singleton] at hy; subst hy; exact hm)
    [fz (.ref n), fz (.int many), fz (.int moves), fz (.int most), fz (.lst (pl.map .str)), ow (.lst []), none] s2 ⟨[], none, rfl, rfl, fun m h => (by cases h), (GS.refl G2.g).up (by omega)⟩
  subst hlo
  rw [rgM_len] at hml
  refine ⟨⟨pl, ms⟩, st', ⟨pk.nm, hmo, by show ms.length ≤ 10; omega⟩, ?_, (G1.trans (G2.trans G3)).up (by rw [rgM_len]; omega)⟩
  unfold M_law_parts g_law_parts
  refine runF_own (k := .fr) (lo0 := [fz (.ref n), fz (.int many), fz (.int moves), fz (.int most), none, none, none]) (lo := [fz (.ref n), fz (.int many), fz (.int moves), fz (.int most), fz (.lst (pl.map .str)), fz (.lst (ms.map mM)), t]) rfl
    (seq_ok (lo1 := [fz (.ref n), fz (.int many), fz (.int moves), fz (.int most), fz (.lst (pl.map .str)), none, none]) (st1 := s1) ?_
    (seq_ok (lo1 := [fz (.ref n), fz (.int many), fz (.int moves), fz (.int most), fz (.lst (pl.map .str)), ow (.lst []), none]) (st1 := s1) ?_
    (seq_ok (for_ok (iRg1_ok (k := .fz) (j := r2) (st1 := s2) ?_ (by unfold Rg62; omega)) e3) ?_))) rfl
  · have hs : mSl (mLst (mCons (mC (.str "up")) (mCons (mC (.str "down")) (mCons (mC (.str "mid")) (mCons (mC (.str "low")) mNil))))) oNone (oSome (mOp gAdd (mC (.int 1)) (mCall 2 M_law_random [] (mCons (mVar 0) (mCons (mVar 1) mNil)))))
        [fz (.ref n), fz (.int many), fz (.int moves), fz (.int most), none, none, none] st = .ok (.lst (pl.map .str), .fr, s1) := by
      unfold mSl oSome oNone
      simp [z4, callR_ok _ _ e1, gSl, hcut]
    unfold sSet
    rw [hs]; rfl
  · simp
  · simp [callR_ok _ _ e2]
  · simp [z2, partsM, plM, mvM]
end FL

namespace FL
open PySem L2 PySem.Spec PyProof.Rows FW

/-- plain at its top -/
def pln : MV → Bool
  | .non => true
  | .bl _ => true
  | .int _ => true
  | .str _ => true
  | .tup _ => true
  | .lst _ => true
  | .dct _ => true
  | _ => false
theorem gd_pln {n : Nat} {m : MV} (h : gd n m = true) : pln m = true := by
  cases n with
  | zero => cases h
  | succ n => cases m <;> first | rfl | cases h
theorem gx_pln {n : Nat} {m : MV} (h : gx n m = true) : pln m = true := by
  cases n with
  | zero => cases h
  | succ n => cases m <;> first | rfl | cases h
theorem rgd_pln {m : MV} (h : rgd m = true) : pln m = true := gx_pln (rgd_gx h)
theorem pln_vw {b : MV} (h : pln b = true) (st : Sto) : vw st b = b := by cases b <;> first | rfl | (exact Bool.noConfusion h)
def wh : MV → Bool
  | .int _ => true
  | _ => false
theorem wh_int {m : MV} (h : wh m = true) : ∃ i, m = .int i := by cases m <;> first | (exact Bool.noConfusion h) | exact ⟨_, rfl⟩
theorem whole_ok {m : MV} (h : pln m = true) (st : Sto) : M_is_whole [m] st = .ok (.bl (wh m), false, st) := by
  cases m <;> first | (exact Bool.noConfusion h) | simp [M_is_whole, d_runF, startM, g_is_whole, tyAns, isT, tys7, wh]
theorem lwhole_ok {m : MV} (h : pln m = true) (st : Sto) : M_law_is_whole [m] st = .ok (.bl (wh m), false, st) := by
  cases m <;> first | (exact Bool.noConfusion h) | simp [M_law_is_whole, d_runF, startM, g_law_is_whole, tyAns, isT, tys7, wh]
@[simp] theorem d_mChain (g g' : G2) (fa fb fc : EF) (lo : Lo) (st : Sto) : mChain g g' fa fb fc lo st = (fa lo st >>= fun (a, _, st1) => fb lo st1 >>= fun (b, _, st2) =>
  match g st2 (vw st2 a) (vw st2 b) with
  | some (.bl true, false) => fc lo st2 >>= fun (c, _, st3) => giveOut (g' st3 (vw st3 b) (vw st3 c)) st3
  | some (.bl false, false) => .ok (.bl false, .fz, st2)
  | _ => .bad) := by
  unfold mChain giveOut
  cases fa lo st with
  | ok r =>
    obtain ⟨a, ka, st1⟩ := r
    simp only [Res.ok_bind]
    all_goals (cases fb lo st1 with
      | ok r =>
        obtain ⟨b, kb, st2⟩ := r
        simp only [Res.ok_bind]
        all_goals (rcases g st2 (vw st2 a) (vw st2 b) with _ | ⟨m, _ | _⟩)
        · rfl
        · cases m with
          | bl z =>
            cases z with
            | false => rfl
            | true =>
              simp only
              all_goals (cases fc lo st2 with
                | ok r =>
                  obtain ⟨c, kc, st3⟩ := r
                  simp only [Res.ok_bind]
                  all_goals (rcases g' st3 (vw st3 b) (vw st3 c) with _ | ⟨m, _ | _⟩ <;> rfl)
                | exc => rfl
                | bad => rfl)
          | _ => rfl
        · rfl
      | exc => rfl
      | bad => rfl)
  | exc => rfl
  | bad => rfl
def win (a b : Int) : MV → Bool
  | .int i => decide (a ≤ i) && decide (i ≤ b)
  | _ => false
theorem within_ok {m : MV} (h : pln m = true) (a b : Int) (st : Sto) : M_is_within [m, .int a, .int b] st = .ok (.bl (win a b m), false, st) := by
  cases w : wh m with
  | false =>
    have e : win a b m = false := by cases m <;> first | rfl | exact Bool.noConfusion w
    rw [e]
    simp [M_is_within, d_runF, startM, g_is_within, callR_ok _ _ (whole_ok h st), w]
  | true =>
    obtain ⟨i, rfl⟩ := wh_int w
    by_cases q : a ≤ i
    · simp [M_is_within, d_runF, startM, g_is_within, callR_ok _ _ (whole_ok h st), w, q, win]
    · simp [M_is_within, d_runF, startM, g_is_within, callR_ok _ _ (whole_ok h st), w, q, win]
theorem eqI (neg : Bool) (st : Sto) (i j : Int) : gEqB neg st (.int i) (.int j) = some (.bl (if neg then !(i == j) else (i == j)), false) := by
  have sh : ∀ i : Int, SeqAt.shaped (.int i) = true := fun i => by simp [SeqAt.shaped, PyData.canLay0, PyData.depth]
  show (if SeqAt.shaped (.int i) = true ∧ SeqAt.shaped (.int j) = true then some (MV.bl (if neg then !PyData.eqv (.int i) (.int j) else PyData.eqv (.int i) (.int j)), false) else none) = _
  rw [if_pos ⟨sh i, sh j⟩]
  simp [PyData.eqv]
theorem eqNil {neg : Bool} {xs : List MV} (h : gd dpt (.lst xs) = true) (st : Sto) : gEqB neg st (.lst xs) (.lst []) = some (.bl (if neg then !xs.isEmpty else xs.isEmpty), false) := by
  rw [eq_gd h rfl]
  cases xs with
  | nil => simp [eqM, md, mds, PyData.eqv, PyData.eqvAll]
  | cons x xs => simp [eqM, md, mds, PyData.eqv, PyData.eqvAll]
def LT : List Nat := (Str.ofString "abcdefghijklmnopqrstuvwxyz").cps.toList
def nameB : MV → Bool
  | .str x => decide (1 ≤ x.length) && decide (x.length ≤ 8) && x.cps.toList.all fun c => decide (c ∈ LT)
  | _ => false
theorem inSign {neg : Bool} {st : Sto} {c : Nat} {z : Str} : gInA neg st (.str ⟨#[c]⟩) (.str z) = some (.bl (if neg then !decide (c ∈ z.cps.toList) else decide (c ∈ z.cps.toList)), false) := by
  have e1 : gIn neg st (.str ⟨#[c]⟩) (.str z) = none := by
    unfold gIn
    have : toD st dpt (.str z) = some (.str z) := rfl
    rw [this]
    split
    · rename_i h; cases h
    · rfl
  unfold gInA
  rw [e1]; rfl
theorem lc_ok {vs : List Nat} {fi : IFn} {gf : GF} {tt : TF} {fe : EF} {lo : Lo} {st st1 st2 : Sto} {items ck acc} (hc : clrOk lo vs = true) (hi : fi lo st = .ok (items, ck, st1)) (hl : lcL ck gf tt fe (wipeM lo vs) items [] st1 = .ok (acc, st2)) : mLc vs fi gf tt fe lo st = .ok (.lst acc, .fr, st2) := by
  unfold mLc; rw [if_pos hc, hi]; simp only [Res.ok_bind]; rw [hl]; rfl
/-- a comprehension [x for x in .. if test], nothing changed -/
theorem lc_filter {vs : List Nat} {fi : IFn} {gf : GF} {tt : TF} {fe : EF} {lo : Lo} {st : Sto} {items ck} {p : MV → Bool} {f : MV → MV} (hc : clrOk lo vs = true) (hi : fi lo st = .ok (items, ck, st)) (hck : ∀ st, ck (wipeM lo vs) st) (hz : items.length ≤ sizeLine)
    (hb : ∀ x, x ∈ items → ∃ lo1, gf x (wipeM lo vs) st = .ok (lo1, st) ∧ tt lo1 st = .ok (p x, st) ∧ (p x = true → ∃ kd, fe lo1 st = .ok (f x, kd, st) ∧ isPk kd = false)) : mLc vs fi gf tt fe lo st = .ok (.lst ((items.filter p).map f), .fr, st) := by
  obtain ⟨acc, st2, e, ha, hs⟩ := lcL_run (ck := ck) (gf := gf) (tt := tt) (fe := fe) (lo0 := wipeM lo vs) (Inv := fun k acc st2 => acc = ((items.take k).filter p).map f ∧ st2 = st) (items := items) (fun _ _ _ _ => hck _) hz (fun k acc st2 ⟨h, _⟩ => by
      rw [h, List.length_map]; exact Nat.le_trans (List.length_filter_le _ _) (by rw [List.length_take]; omega))
    (fun k m acc st2 hm ⟨ha, hs⟩ => by
      subst hs
      obtain ⟨lo1, e1, e2, e3⟩ := hb m (List.mem_of_getElem? hm)
      have tk : items.take (k + 1) = items.take k ++ [m] := by rw [List.take_add_one, hm]; rfl
      refine ⟨lo1, st2, p m, st2, e1, e2, ?_⟩
      cases hp : p m with
      | false => exact .inl ⟨rfl, by rw [ha, tk, List.filter_append]; simp [hp], rfl⟩
      | true =>
        obtain ⟨kd, e4, hk⟩ := e3 hp
        exact .inr ⟨rfl, f m, kd, st2, e4, hk, by rw [ha, tk, List.filter_append, List.map_append]; simp [hp], rfl⟩)
    [] st ⟨rfl, rfl⟩
  subst hs
  rw [List.take_length] at ha
  subst ha
  exact lc_ok hc hi e
theorem name_ok {m : MV} (h : pln m = true) (hs : ∀ x, m = .str x → x.length ≤ sizeLine ∧ PyData.strOk x = true) (st : Sto) : M_is_name [m] st = .ok (.bl (nameB m), false, st) := by
  cases m with
  | str x =>
    obtain ⟨hx, hso⟩ := hs x rfl
    have gl : gLen st [.str x] = some (.int x.length, false) := if_pos hx
    by_cases c1 : (1 : Int) ≤ (x.length : Int)
    · by_cases c2 : (x.length : Int) ≤ 8
      · have hn : x.cps.toList.length ≤ 8 := by
          have : x.length = x.cps.toList.length := by show x.cps.size = _; simp
          omega
        have hf := lc_filter (vs := [1]) (fi := iStrM (mVar 0)) (gf := gN 1) (tt := mTv (mOp (gInA true) (mVar 1) (mC (.str "abcdefghijklmnopqrstuvwxyz")))) (fe := mVar 1) (lo := [fz (.str x), none]) (st := st) (items := x.cps.toList.map fun c => .str ⟨#[c]⟩) (ck := fun _ _ => True)
          (p := fun m => match m with | .str z => (match z.cps.toList with | [c] => !decide (c ∈ LT) | _ => false) | _ => false) (f := id) rfl (by unfold iStrM; simp) (fun _ => trivial) (sz (by rw [List.length_map]; omega))
          (fun y hy => by
            obtain ⟨c, hc, rfl⟩ := List.mem_map.mp hy
            refine ⟨[fz (.str x), fz (.str ⟨#[c]⟩)], rfl, ?_, fun _ => ⟨.fz, rfl, rfl⟩⟩
            have := inSign (neg := true) (st := st) (c := c) (z := "abcdefghijklmnopqrstuvwxyz")
            simp only [d_mTv, d_mOp, d_mVar, d_mC, Res.ok_bind, List.getElem?_cons_succ, List.getElem?_cons_zero, vw_str, this, d_give0]
            rfl)
        rw [List.map_id] at hf
        generalize hL : ((x.cps.toList.map fun c => MV.str ⟨#[c]⟩).filter fun m => match m with | .str z => (match z.cps.toList with | [c] => !decide (c ∈ LT) | _ => false) | _ => false) = L at hf
        have hg : gd dpt (.lst L) = true := gd_lst fun y hy => by
          rw [← hL] at hy
          obtain ⟨hy1, _⟩ := List.mem_filter.mp hy
          obtain ⟨c, hc, rfl⟩ := List.mem_map.mp hy1
          have := strOk_mem hso c hc
          show PyData.strOk ⟨#[c]⟩ = true
          simp [PyData.strOk]; omega
        have hemp : L.isEmpty = x.cps.toList.all fun c => decide (c ∈ LT) := by
          rw [← hL]
          induction x.cps.toList with
          | nil => rfl
          | cons c cs ih =>
            rw [List.map_cons, List.filter_cons, List.all_cons, ← ih]
            by_cases q : c ∈ LT
            · simp [q]
            · simp [q]
        have e := eqNil (neg := false) hg st
        unfold M_is_name g_is_name
        refine runF_rt (k := .fz) (lo0 := [fz (.str x), none]) (lo := [fz (.str x), none]) rfl (seq_ok (lo1 := [fz (.str x), none]) (st1 := st) ?_ ?_)
        · simp [tyAns, isT, tys7, gl, c1, c2]
        · rw [d_sRet, d_mOp, hf]
          simp only [Res.ok_bind, d_mLst, d_mNil, d_allFz0, List.length_nil, Nat.zero_le, if_true, vw_lst, e, d_give0]
          rw [hemp]
          have d1 : decide (1 ≤ x.length) = true := by simp; omega
          have d2 : decide (x.length ≤ 8) = true := by simp; omega
          show _ = Res.ok (Fl.rt (.bl (nameB (.str x))) .fz, _, _)
          rw [show nameB (.str x) = (decide (1 ≤ x.length) && decide (x.length ≤ 8) && x.cps.toList.all fun c => decide (c ∈ LT)) from rfl, d1, d2]; rfl
      · have d2 : nameB (.str x) = false := by
          have : decide (x.length ≤ 8) = false := by simp; omega
          show (decide (1 ≤ x.length) && decide (x.length ≤ 8) && x.cps.toList.all fun c => decide (c ∈ LT)) = false
          rw [this]; simp
        rw [d2]
        simp [M_is_name, d_runF, startM, g_is_name, tyAns, isT, tys7, gl, c1, c2]
    · have d2 : nameB (.str x) = false := by
        have : decide (1 ≤ x.length) = false := by simp; omega
        show (decide (1 ≤ x.length) && decide (x.length ≤ 8) && x.cps.toList.all fun c => decide (c ∈ LT)) = false
        rw [this]; simp
      rw [d2]
      simp [M_is_name, d_runF, startM, g_is_name, tyAns, isT, tys7, gl, c1]
  | _ => first | (exact Bool.noConfusion h) | simp [M_is_name, d_runF, startM, g_is_name, tyAns, isT, tys7, nameB]
end FL

namespace FL
open PySem L2 PySem.Spec PyProof.Rows FW

theorem opV {g : G2} {fa fb : EF} {lo : Lo} {st st1 st2 : Sto} {a b : MV} {ka kb : Kd} {z : MV} (ha : fa lo st = .ok (a, ka, st1)) (hb : fb lo st1 = .ok (b, kb, st2)) (h : g st2 (vw st2 a) (vw st2 b) = some (z, false)) : mOp g fa fb lo st = .ok (z, .fz, st2) := by
  rw [d_mOp, ha]; simp only [Res.ok_bind]; rw [hb]; simp only [Res.ok_bind]; rw [h]; rfl
theorem opN {g : G2} {fa fb : EF} {lo : Lo} {st st1 st2 : Sto} {a b : MV} {ka kb : Kd} {z : MV} (ha : fa lo st = .ok (a, ka, st1)) (hb : fb lo st1 = .ok (b, kb, st2)) (h : g st2 (vw st2 a) (vw st2 b) = some (z, true)) : mOp g fa fb lo st = .ok (z, .fr, st2) := by
  rw [d_mOp, ha]; simp only [Res.ok_bind]; rw [hb]; simp only [Res.ok_bind]; rw [h]; rfl
section
variable {lo : Lo} {st st1 st2 : Sto}
theorem tv_ok {f : EF} {b : Bool} {k} (h : f lo st = .ok (.bl b, k, st1)) : mTv f lo st = .ok (b, st1) := by unfold mTv; rw [h]; rfl
theorem not_ok {f : TF} {b : Bool} (h : f lo st = .ok (b, st1)) : mNotT f lo st = .ok (!b, st1) := by unfold mNotT; rw [h]; rfl
theorem or_ff {f g : TF} {r} (h : f lo st = .ok (false, st1)) (h2 : g lo st1 = r) : mOr f g lo st = r := by rw [d_mOr, h]; simp only [Res.ok_bind]; rw [if_neg Bool.false_ne_true]; exact h2
theorem or_tt {f g : TF} (h : f lo st = .ok (true, st1)) : mOr f g lo st = .ok (true, st1) := by rw [d_mOr, h]; rfl
theorem and_tt {f g : TF} {r} (h : f lo st = .ok (true, st1)) (h2 : g lo st1 = r) : mAnd f g lo st = r := by rw [d_mAnd, h]; simp only [Res.ok_bind]; exact (if_pos trivial).trans h2
theorem and_ff {f g : TF} (h : f lo st = .ok (false, st1)) : mAnd f g lo st = .ok (false, st1) := by rw [d_mAnd, h]; rfl
theorem if_tt {c : TF} {g g' : SF} {r} (h : c lo st = .ok (true, st1)) (h2 : g lo st1 = r) : sIf c g g' lo st = r := by rw [d_sIf, h]; simp only [Res.ok_bind]; exact (if_pos trivial).trans h2
theorem if_ff {c : TF} {g g' : SF} {r} (h : c lo st = .ok (false, st1)) (h2 : g' lo st1 = r) : sIf c g g' lo st = r := by rw [d_sIf, h]; simp only [Res.ok_bind]; rw [if_neg Bool.false_ne_true]; exact h2
theorem ret_ok {f : EF} {m k} (h : f lo st = .ok (m, k, st1)) : sRet f lo st = .ok (.rt m k, lo, st1) := by unfold sRet; rw [h]; rfl
theorem ifE_tt {c : TF} {f g : EF} {r} (h : c lo st = .ok (true, st1)) (h2 : f lo st1 = r) : mIfE c f g lo st = r := by rw [d_mIfE, h]; simp only [Res.ok_bind]; exact (if_pos trivial).trans h2
theorem ifE_ff {c : TF} {f g : EF} {r} (h : c lo st = .ok (false, st1)) (h2 : g lo st1 = r) : mIfE c f g lo st = r := by rw [d_mIfE, h]; simp only [Res.ok_bind]; rw [if_neg Bool.false_ne_true]; exact h2
theorem set_ok {i : Nat} {f : EF} {m k} (h : f lo st = .ok (m, k, st1)) (hk : isPk k = false) : sSet i f lo st = .ok (.nx, lo.set i (fz m), st1) := by
  unfold sSet; rw [h]; cases k <;> first | rfl | cases hk
theorem own_ok {i : Nat} {f : EF} {m} (h : f lo st = .ok (m, .fr, st1)) (hk : ownOk m = true) : sOwn i f lo st = .ok (.nx, lo.set i (ow m), st1) := by
  unfold sOwn; rw [h]; simp only [Res.ok_bind]; rw [if_pos hk]
theorem expr_ok {f : EF} {m k} (h : f lo st = .ok (m, k, st1)) : sExpr f lo st = .ok (.nx, lo, st1) := by unfold sExpr; rw [h]; rfl
theorem expr_exc {f : EF} {c fs} (h : f lo st = .exc c fs lo st1) : sExpr f lo st = .exc c fs lo st1 := by unfold sExpr; rw [h]; rfl
end
theorem gd_strs {n : Nat} (xs : List Str) (h : ∀ x, x ∈ xs → PyData.strOk x = true) : gd (n + 2) (.lst (xs.map .str)) = true := gd_lst fun y hy => by
  obtain ⟨x, hx, rfl⟩ := List.mem_map.mp hy
  exact h x hx
theorem PlOk.good {pl : List Str} (h : PlOk pl) : ∀ x, x ∈ pl → PyData.strOk x = true := h.cases (Q := fun l => ∀ x, x ∈ l → PyData.strOk x = true) (by decide +kernel) (by decide +kernel) (by decide +kernel) (by decide +kernel) (by decide +kernel)
theorem PlOk.name {pl : List Str} (h : PlOk pl) : ∀ x, x ∈ pl → nameB (.str x) = true := h.cases (Q := fun l => ∀ x, x ∈ l → nameB (.str x) = true) (by decide +kernel) (by decide +kernel) (by decide +kernel) (by decide +kernel) (by decide +kernel)
theorem PlOk.nodup {pl : List Str} (h : PlOk pl) : pl.Nodup := h.cases (by decide +kernel) (by decide +kernel) (by decide +kernel) (by decide +kernel) (by decide +kernel)
theorem PlOk.short {pl : List Str} (h : PlOk pl) : ∀ x, x ∈ pl → x.length ≤ 8 := h.cases (Q := fun l => ∀ x, x ∈ l → x.length ≤ 8) (by decide +kernel) (by decide +kernel) (by decide +kernel) (by decide +kernel) (by decide +kernel)
theorem PlOk.up {pl : List Str} (h : PlOk pl) : ("up" : Str) ∈ pl := h.cases (Q := fun l => ("up" : Str) ∈ l) (by decide +kernel) (by decide +kernel) (by decide +kernel) (by decide +kernel) (by decide +kernel)
def inPl (pl : List Str) (m : MV) : Bool := (pl.map MV.str).any fun z => eqM z m
theorem eqM_str (x y : Str) : eqM (.str x) (.str y) = decide (x = y) := by
  by_cases h : x = y
  · subst h; simp [eqM, md, PyData.eqv]
  · simp [eqM, md, PyData.eqv, h]
theorem inPl_str {pl : List Str} {x : Str} : inPl pl (.str x) = decide (x ∈ pl) := by
  unfold inPl
  induction pl with
  | nil => rfl
  | cons p pl ih =>
    rw [List.map_cons, List.any_cons, ih, eqM_str]
    by_cases h : p = x
    · subst h; simp
    · have h' : ¬ (x = p) := fun z => h z.symm
      simp [h, h']
theorem inPl_ok {neg : Bool} {pl : List Str} (hp : ∀ x, x ∈ pl → PyData.strOk x = true) {m : MV} (h : gd dpt m = true) (st : Sto) : gInA neg st m (.lst (pl.map .str)) = some (.bl (if neg then !inPl pl m else inPl pl m), false) := in_gd h (gd_strs pl hp)
def moveB (pl : List Str) : MV → Bool
  | .tup [a, b, c, d] => inPl pl a && (inPl pl d && (win 0 8 b && (win (-4) 4 c && (match b, c with
    | .int l, .int ch => decide (0 ≤ l + ch) && decide (l + ch ≤ 8)
    | _, _ => false))))
  | _ => false
theorem win_int {a b : Int} {m : MV} (h : win a b m = true) : ∃ i, m = .int i := by cases m <;> first | exact ⟨_, rfl⟩ | cases h
theorem isMove_ok {pl : List Str} (hp : ∀ x, x ∈ pl → PyData.strOk x = true) {m : MV} (h : pln m = true) (hx : ∀ xs, m = .tup xs → ∀ x, x ∈ xs → gd dpt x = true) (st : Sto) : M_is_move [m, .lst (pl.map .str)] st = .ok (.bl (moveB pl m), false, st) := by
  cases m with
  | tup xs =>
    have ha := hx xs rfl
    match xs, ha with
    | [], _ => simp [M_is_move, d_runF, startM, g_is_move, tyAns, isT, tys7, eqI, moveB]
    | [_], _ => simp [M_is_move, d_runF, startM, g_is_move, tyAns, isT, tys7, eqI, moveB]
    | [_, _], _ => simp [M_is_move, d_runF, startM, g_is_move, tyAns, isT, tys7, eqI, moveB]
    | [_, _, _], _ => simp [M_is_move, d_runF, startM, g_is_move, tyAns, isT, tys7, eqI, moveB]
    | _ :: _ :: _ :: _ :: _ :: r, _ =>
      have e : ((r.length : Int) + 1 + 1 + 1 + 1 + 1 == 4) = false := by simp; omega
      simp [M_is_move, d_runF, startM, g_is_move, tyAns, isT, tys7, eqI, moveB, e]
    | [a, b, c, d], ha =>
      have ga := ha a (by simp)
      have gb := ha b (by simp)
      have gc := ha c (by simp)
      have gdd := ha d (by simp)
      have y0 : atI [a, b, c, d] 0 = some a := rfl
      have y1 : atI [a, b, c, d] 1 = some b := rfl
      have y2 : atI [a, b, c, d] 2 = some c := rfl
      have y3 : atI [a, b, c, d] 3 = some d := rfl
      have ia := inPl_ok (neg := true) hp ga st
      have id := inPl_ok (neg := true) hp gdd st
      have va := gd_vw ga st
      have vd := gd_vw gdd st
      have wb := callR_ok [fz (.tup [a, b, c, d]), fz (.lst (pl.map .str))] st (within_ok (gd_pln gb) 0 8 st)
      have wc := callR_ok [fz (.tup [a, b, c, d]), fz (.lst (pl.map .str))] st (within_ok (gd_pln gc) (-4) 4 st)
      show _ = Res.ok (MV.bl (inPl pl a && (inPl pl d && (win 0 8 b && (win (-4) 4 c && _)))), false, st)
      cases qa : inPl pl a with
      | false => rw [qa] at ia; simp [M_is_move, d_runF, startM, g_is_move, tyAns, isT, tys7, eqI, y0, va, ia]
      | true =>
        cases qd : inPl pl d with
        | false => rw [qa] at ia; rw [qd] at id; simp [M_is_move, d_runF, startM, g_is_move, tyAns, isT, tys7, eqI, y0, y3, va, vd, ia, id]
        | true =>
          rw [qa] at ia; rw [qd] at id
          cases qb : win 0 8 b with
          | false => rw [qb] at wb; simp [M_is_move, d_runF, startM, g_is_move, tyAns, isT, tys7, eqI, y0, y1, y3, va, vd, ia, id, wb]
          | true =>
            rw [qb] at wb
            cases qc : win (-4) 4 c with
            | false => rw [qc] at wc; simp [M_is_move, d_runF, startM, g_is_move, tyAns, isT, tys7, eqI, y0, y1, y2, y3, va, vd, ia, id, wb, wc]
            | true =>
              rw [qc] at wc
              obtain ⟨l, rfl⟩ := win_int qb
              obtain ⟨ch, rfl⟩ := win_int qc
              by_cases q0 : 0 ≤ l + ch
              · simp [M_is_move, d_runF, startM, g_is_move, tyAns, isT, tys7, eqI, y0, y1, y2, y3, va, vd, ia, id, wb, wc, q0]
              · simp [M_is_move, d_runF, startM, g_is_move, tyAns, isT, tys7, eqI, y0, y1, y2, y3, va, vd, ia, id, wb, wc, q0]
  | _ => first | (exact Bool.noConfusion h) | simp [M_is_move, d_runF, startM, g_is_move, tyAns, isT, tys7, moveB]
theorem moveB_ok {pl : List Str} {m : Move} (h : m.Ok pl) : moveB pl (mM m) = true := by
  show (inPl pl (.str m.p) && (inPl pl (.str m.o) && (win 0 8 (.int m.l) && (win (-4) 4 (.int m.c) && (decide (0 ≤ m.l + m.c) && decide (m.l + m.c ≤ 8)))))) = true
  rw [inPl_str, inPl_str]
  simp only [win, Bool.and_eq_true, decide_eq_true_eq]
  exact ⟨h.p, h.o, ⟨h.l0, h.l8⟩, ⟨h.c4, h.c5⟩, h.s0, h.s8⟩
theorem gd_mM {n : Nat} {pl : List Str} (hp : ∀ x, x ∈ pl → PyData.strOk x = true) {m : Move} (h : m.Ok pl) : ∀ xs, mM m = .tup xs → ∀ x, x ∈ xs → gd (n + 1) x = true := by
  intro xs e x hx
  cases e
  have := h.l0; have := h.l8; have := h.c4; have := h.c5
  simp only [List.mem_cons, List.not_mem_nil, or_false] at hx
  rcases hx with rfl | rfl | rfl | rfl
  · exact hp _ h.p
  · exact gd_int (Nat.lt_of_lt_of_le (by omega : m.l.natAbs < 10) (by decide +kernel))
  · exact gd_int (Nat.lt_of_lt_of_le (by omega : m.c.natAbs < 10) (by decide +kernel))
  · exact hp _ h.o
theorem iEn_lst {f : EF} {lo : Lo} {st st1 : Sto} {xs : List MV} {k} (h : f lo st = .ok (.lst xs, k, st1)) (hk : isPk k = false) : iEn f lo st = .ok (enumM xs, fun _ _ => True, st1) := by
  unfold iEn; rw [h]; cases k <;> first | rfl | cases hk
theorem cut_take (xs : List MV) {k : Nat} (h : k ≤ xs.length) : cutM xs none (some (k : Int)) = xs.take k := by
  unfold cutM
  rw [HT.sIx_nat, HT.sIx_none, List.drop_zero, Nat.sub_zero, Nat.min_eq_left h]
theorem enum_get {xs : List MV} {i : Nat} {m : MV} (h : (enumM xs)[i]? = some m) : ∃ x, xs[i]? = some x ∧ m = .tup [.int (i : Nat), x] := enumM_get h
theorem enumM_len (xs : List MV) : (enumM xs).length = xs.length := by unfold enumM; simp
theorem runI_nx {c : Str} {n : Nat} {g : SF} {ms : List MV} {lo0 lo : Lo} {st st' : Sto} {fs} (h0 : startI c n ms = lo0) (h : g lo0 st = .ok (.nx, lo, st')) (hs : lo[0]? = some (ow (.ins c fs))) : runI c n g ms st = .ok (.ins c fs, true, st') := by
  subst h0; unfold runI; rw [h]; simp only [selfOf, hs]
theorem runI_exc {c : Str} {n : Nat} {g : SF} {ms : List MV} {lo0 lo : Lo} {st st' : Sto} {e fs} (h0 : startI c n ms = lo0) (h : g lo0 st = .exc e fs lo st') : runI c n g ms st = .exc e fs lo st' := by subst h0; unfold runI; rw [h]
/-- a slot that holds a program that is being made -/
abbrev LOI (s p m t3 t4 t5 : Option (MV × Bool)) : Lo := [s, p, m, t3, t4, t5]
theorem init_names {pl : List Str} (hg : ∀ x, x ∈ pl → PyData.strOk x = true) (hn : ∀ x, x ∈ pl → nameB (.str x) = true) (hd : pl.Nodup) (hl : ∀ x, x ∈ pl → x.length ≤ 100) (hz : pl.length ≤ 100) (s m t5 : Option (MV × Bool)) (st : Sto) :
    ∃ t3 t4, forL (fun _ _ => True) (gT 2 (gsCons (gN 3) (gsCons (gN 4) gsNil))) (sIf (mOr (mNotT (mTv (mCall 1 M_is_name [] (mCons (mVar 4) mNil)))) (mTv (mOp (gInA false) (mVar 4) (mSl (mVar 1) oNone (oSome (mVar 3)))))) (sRaise "InvalidItem" "value" [] (mCons (mVar 4) mNil)) sNil)
      (enumM (pl.map .str)) (LOI s (fz (.lst (pl.map .str))) m none none t5) st = .ok (.nx, LOI s (fz (.lst (pl.map .str))) m t3 t4 t5, st) := by
  obtain ⟨lo', st', e, t3, t4, hlo, hst⟩ := forL_run (ck := fun _ _ => True) (gf := gT 2 (gsCons (gN 3) (gsCons (gN 4) gsNil))) (body := sIf (mOr (mNotT (mTv (mCall 1 M_is_name [] (mCons (mVar 4) mNil)))) (mTv (mOp (gInA false) (mVar 4) (mSl (mVar 1) oNone (oSome (mVar 3)))))) (sRaise "InvalidItem" "value" [] (mCons (mVar 4) mNil)) sNil)
    (Inv := fun k lo st' => ∃ t3 t4, lo = LOI s (fz (.lst (pl.map .str))) m t3 t4 t5 ∧ st' = st) (items := enumM (pl.map .str)) (fun _ _ _ _ => trivial)
    (fun k x lo st' hx ⟨t3, t4, hlo, hst⟩ => by
      subst hlo hst
      obtain ⟨y, hy, rfl⟩ := enum_get hx
      rw [List.getElem?_map] at hy
      obtain ⟨z, hz1, rfl⟩ := Option.map_eq_some_iff.mp hy
      have zm := List.mem_of_getElem? hz1
      have hk : k < pl.length := (List.getElem?_eq_some_iff.mp hz1).1
      refine ⟨LOI s (fz (.lst (pl.map .str))) m (fz (.int (k : Nat))) (fz (.str z)) t5, st', LOI s (fz (.lst (pl.map .str))) m (fz (.int (k : Nat))) (fz (.str z)) t5, st', by simp [LOI], ?_, _, _, rfl, rfl⟩
      have nm := name_ok (m := .str z) rfl (fun x e => by cases e; exact ⟨sz (Nat.le_trans (hl z zm) (by decide)), hg z zm⟩) st'
      rw [hn z zm] at nm
      have ct : cutM (pl.map MV.str) none (some (k : Int)) = (pl.take k).map .str := by rw [cut_take _ (by rw [List.length_map]; omega), List.map_take]
      have hi := inPl_ok (neg := false) (pl := pl.take k) (fun x hx => hg x (List.mem_of_mem_take hx)) (m := .str z) (hg z zm) st'
      have no : inPl (pl.take k) (.str z) = false := by
        rw [inPl_str, decide_eq_false_iff_not]
        intro hm
        obtain ⟨i, hi⟩ := List.mem_iff_getElem?.mp hm
        rw [List.getElem?_take] at hi
        split at hi
        · rename_i hik
          have h1 := List.getElem?_eq_some_iff.mp hi
          have h2 := List.getElem?_eq_some_iff.mp hz1
          have := (List.getElem_inj hd).mp (h1.2.trans h2.2.symm)
          omega
        · cases hi
      rw [no] at hi
      have hs : mSl (mVar 1) oNone (oSome (mVar 3)) (LOI s (fz (.lst (pl.map .str))) m (fz (.int (k : Nat))) (fz (.str z)) t5) st' = .ok (.lst ((pl.take k).map .str), .fr, st') := by
        unfold mSl oSome oNone
        simp [gSl, LOI, ct]
      have ho : mOp (gInA false) (mVar 4) (mSl (mVar 1) oNone (oSome (mVar 3))) (LOI s (fz (.lst (pl.map .str))) m (fz (.int (k : Nat))) (fz (.str z)) t5) st' = .ok (.bl false, .fz, st') := by
        exact opV (a := .str z) (ka := .fz) (st1 := st') rfl hs hi
      exact if_ff (or_ff (st1 := st') (by simp [callR_ok _ _ nm]) (tv_ok ho)) rfl)
    (LOI s (fz (.lst (pl.map .str))) m none none t5) st ⟨none, none, rfl, rfl⟩
  subst hlo hst
  exact ⟨t3, t4, e⟩
theorem init_moves {pl : List Str} (hg : ∀ x, x ∈ pl → PyData.strOk x = true) {ms : List Move} (hm : ∀ m, m ∈ ms → m.Ok pl) (s t3 t4 : Option (MV × Bool)) (st : Sto) :
    ∃ t5, forL (fun _ _ => True) (gN 5) (sIf (mNotT (mTv (mCall 2 M_is_move [] (mCons (mVar 5) (mCons (mVar 1) mNil))))) (sRaise "InvalidItem" "value" [] (mCons (mVar 5) mNil)) sNil)
      (ms.map mM) (LOI s (fz (.lst (pl.map .str))) (fz (.lst (ms.map mM))) t3 t4 none) st = .ok (.nx, LOI s (fz (.lst (pl.map .str))) (fz (.lst (ms.map mM))) t3 t4 t5, st) := by
  obtain ⟨lo', st', e, t5, hlo, hst⟩ := forL_run (ck := fun _ _ => True) (gf := gN 5) (body := sIf (mNotT (mTv (mCall 2 M_is_move [] (mCons (mVar 5) (mCons (mVar 1) mNil))))) (sRaise "InvalidItem" "value" [] (mCons (mVar 5) mNil)) sNil)
    (Inv := fun k lo st' => ∃ t5, lo = LOI s (fz (.lst (pl.map .str))) (fz (.lst (ms.map mM))) t3 t4 t5 ∧ st' = st) (items := ms.map mM) (fun _ _ _ _ => trivial)
    (fun k x lo st' hx ⟨t5, hlo, hst⟩ => by
      subst hlo hst
      rw [List.getElem?_map] at hx
      obtain ⟨m, hm1, rfl⟩ := Option.map_eq_some_iff.mp hx
      have ok := hm m (List.mem_of_getElem? hm1)
      refine ⟨LOI s (fz (.lst (pl.map .str))) (fz (.lst (ms.map mM))) t3 t4 (fz (mM m)), st', LOI s (fz (.lst (pl.map .str))) (fz (.lst (ms.map mM))) t3 t4 (fz (mM m)), st', rfl, ?_, _, rfl, rfl⟩
      have im := isMove_ok hg (m := mM m) rfl (gd_mM hg ok) st'
      rw [moveB_ok ok] at im
      simp [LOI, callR_ok _ _ im])
    (LOI s (fz (.lst (pl.map .str))) (fz (.lst (ms.map mM))) t3 t4 none) st ⟨none, rfl, rfl⟩
  subst hlo hst
  exact ⟨t5, e⟩
theorem put2 (x y : MV) : putM "steps" y [(("stands" : Str), x)] = [(("stands" : Str), x), (("steps" : Str), y)] := by unfold putM; rw [if_neg (by decide)]; rfl
theorem put3 (x y z : MV) : putM "folio" z [(("stands" : Str), x), (("steps" : Str), y)] = [(("stands" : Str), x), (("steps" : Str), y), (("folio" : Str), z)] := by unfold putM; rw [if_neg (by decide)]; unfold putM; rw [if_neg (by decide)]; rfl
/-- Program(places, moves) of what fits -/
theorem make_ok {P : Prog} (h : P.Ok) (st : Sto) : M_Program_init [.lst (plM P), .lst (mvM P)] st = .ok (progM P, true, st) := by
  have hp := h.pl
  obtain ⟨t3, t4, e1⟩ := init_names hp.good hp.name hp.nodup (fun x hx => Nat.le_trans (hp.short x hx) (by decide)) (Nat.le_trans hp.len4 (by decide)) (ow (.ins "Program" [])) (fz (.lst (P.mv.map mM))) none st
  obtain ⟨t5, e2⟩ := init_moves hp.good h.mv (ow (.ins "Program" [])) t3 t4 st
  have l1 := hp.len1
  have l4 := hp.len4
  have l10 := h.len
  have q1 : (1 : Int) ≤ (P.pl.length : Int) := by omega
  have q2 : (P.pl.length : Int) ≤ 4 := by omega
  have q3 : ¬ ((10 : Int) < (P.mv.length : Int)) := by omega
  have cls : inB ["Program"] "Program" = true := rfl
  unfold M_Program_init g_Program_init
  refine runI_nx (lo0 := LOI (ow (.ins "Program" [])) (fz (.lst (P.pl.map .str))) (fz (.lst (P.mv.map mM))) none none none) (lo := LOI (ow (progM P)) (fz (.lst (P.pl.map .str))) (fz (.lst (P.mv.map mM))) t3 t4 t5) rfl
    (seq_ok (lo1 := LOI (ow (.ins "Program" [])) (fz (.lst (P.pl.map .str))) (fz (.lst (P.mv.map mM))) none none none) (st1 := st) ?_ (seq_ok (for_ok (iEn_lst (k := .fz) (xs := P.pl.map .str) (st1 := st) rfl rfl) e1)
    (seq_ok (lo1 := LOI (ow (.ins "Program" [])) (fz (.lst (P.pl.map .str))) (fz (.lst (P.mv.map mM))) t3 t4 none) (st1 := st) ?_ (seq_ok (for_ok (iSeq_lst (k := .fz) (xs := P.mv.map mM) (st1 := st) rfl rfl) e2)
    (seq_ok (lo1 := LOI (ow (.ins "Program" [("stands", .tup (plM P))])) (fz (.lst (P.pl.map .str))) (fz (.lst (P.mv.map mM))) t3 t4 t5) (st1 := st) ?_ (seq_ok (lo1 := LOI (ow (.ins "Program" [("stands", .tup (plM P)), ("steps", .tup (mvM P))])) (fz (.lst (P.pl.map .str))) (fz (.lst (P.mv.map mM))) t3 t4 t5) (st1 := st) ?_ ?_)))))) rfl
  · simp [LOI, tyAns, isT, tys7, q1, q2]
  · simp [LOI, tyAns, isT, tys7, q3]
  · simp [LOI, ownAt, cls, putM, plM]
  · simp [LOI, ownAt, cls, put2, plM, mvM]
  · simp [LOI, ownAt, cls, put3, progM, plM, mvM]
theorem program_ok {P : Prog} (h : P.Ok) (st : Sto) : M_law_program [partsM P] st = .ok (progM P, true, st) := by
  have y0 : atI [MV.lst (plM P), .lst (mvM P)] 0 = some (.lst (plM P)) := rfl
  have y1 : atI [MV.lst (plM P), .lst (mvM P)] 1 = some (.lst (mvM P)) := rfl
  simp [M_law_program, d_runF, startM, g_law_program, partsM, y0, y1, callR_ok _ _ (make_ok h st)]
theorem chkP_ok (P : Prog) (st : Sto) : M_check_program [progM P] st = .ok (.non, false, st) := by
  have e : eqc CS "Program" "Program" = some true := rfl
  simp [M_check_program, d_runF, startM, g_check_program, progM, tyAns, e]
theorem chkP_no {m : MV} (h : pln m = true) (st : Sto) : ∃ lo, M_check_program [m] st = .exc "InvalidProgram" [("value", m)] lo st := by
  refine ⟨[fz m], ?_⟩
  cases m <;> first | (exact Bool.noConfusion h) | simp [M_check_program, d_runF, startM, g_check_program, tyAns, noT, tys7]
theorem chkC_ok {c : Int} (h : 0 ≤ c) (st : Sto) : M_check_counter [.int c] st = .ok (.non, false, st) := by
  have e : ¬ (c < 0) := by omega
  simp [M_check_counter, d_runF, startM, g_check_counter, callR_ok _ _ (whole_ok (m := .int c) rfl st), wh, e]
def cntB : MV → Bool
  | .int i => decide (0 ≤ i)
  | _ => false
theorem chkC_no {m : MV} (h : pln m = true) (hc : cntB m = false) (st : Sto) : ∃ lo, M_check_counter [m] st = .exc "InvalidNumber" [("value", m)] lo st := by
  refine ⟨[fz m], ?_⟩
  have w := callR_ok [fz m] st (whole_ok h st)
  cases m with
  | int i =>
    have hi : i < 0 := by
      have : decide (0 ≤ i) = false := hc
      simp at this; exact this
    simp [M_check_counter, d_runF, startM, g_check_counter, w, wh, hi]
  | _ => first | (exact Bool.noConfusion h) | simp [M_check_counter, d_runF, startM, g_check_counter, w, wh]
theorem strsOf_pl (P : Prog) : strsOf (plM P) = some P.pl := strsOf_map P.pl
theorem inT_pl {neg : Bool} {P : Prog} {x : Str} (st : Sto) : gInA neg st (.str x) (.tup (plM P)) = some (.bl (if neg then !decide (x ∈ P.pl) else decide (x ∈ P.pl)), false) := by
  have e1 : gIn neg st (.str x) (.tup (plM P)) = none := by
    unfold gIn
    split
    · rename_i d ds _ h
      have : toD st dpt (.tup (plM P)) = (mapO (toD st 11) (plM P)).map .tuple := rfl
      rw [this] at h
      obtain ⟨_, _, h2⟩ := Option.map_eq_some_iff.mp h
      cases h2
    · rfl
  have e2 : gInT neg st (.str x) (.tup (plM P)) = some (.bl (if neg then !(P.pl.any fun y => decide (y = x)) else P.pl.any fun y => decide (y = x)), false) := by
    show (strsOf (plM P)).map _ = _
    rw [strsOf_pl]; rfl
  have e3 : (P.pl.any fun y => decide (y = x)) = decide (x ∈ P.pl) := by
    induction P.pl with
    | nil => rfl
    | cons p pl ih =>
      rw [List.any_cons, ih]
      by_cases h : p = x
      · subst h; simp
      · have h' : ¬ (x = p) := fun z => h z.symm
        simp [h, h']
  unfold gInA
  rw [e1, e2, e3]; rfl
theorem fld1 (P : Prog) : gFld "stands" (inB ["Program"]) noB (progM P) = some (.tup (plM P)) := rfl
theorem fld2 (P : Prog) : gFld "steps" (inB ["Program"]) noB (progM P) = some (.tup (mvM P)) := rfl
theorem vwP (P : Prog) (st : Sto) : vw st (progM P) = progM P := rfl
theorem chkS_ok {P : Prog} {x : Str} (h : x ∈ P.pl) (st : Sto) : M_check_place [progM P, .str x] st = .ok (.non, false, st) := by
  have i := inT_pl (neg := true) (P := P) (x := x) st
  simp [M_check_place, d_runF, startM, g_check_place, tyAns, isT, tys7, fld1, vwP, i, h]
def plcB (pl : List Str) : MV → Bool
  | .str x => decide (x ∈ pl)
  | _ => false
theorem chkS_no {P : Prog} {m : MV} (h : pln m = true) (hc : plcB P.pl m = false) (st : Sto) : ∃ lo, M_check_place [progM P, m] st = .exc "UnknownName" [("name", m)] lo st := by
  refine ⟨[fz (progM P), fz m], ?_⟩
  cases m with
  | str x =>
    have hx : ¬ (x ∈ P.pl) := by
      have : decide (x ∈ P.pl) = false := hc
      simpa using this
    have i := inT_pl (neg := true) (P := P) (x := x) st
    simp [M_check_place, d_runF, startM, g_check_place, tyAns, isT, tys7, fld1, vwP, i, hx]
  | _ => first | (exact Bool.noConfusion h) | simp [M_check_place, d_runF, startM, g_check_place, tyAns, isT, tys7]
end FL

namespace FL
open PySem L2 PySem.Spec PyProof.Rows FW

section
variable {gf : GF} {body : SF} {x : MV} {xs : List MV} {lo lo1 lo2 : Lo} {st st1 st2 : Sto}
abbrev ckT : CK := fun _ _ => True
theorem forL_nx {r} (h1 : gf x lo st = .ok (lo1, st1)) (h2 : body lo1 st1 = .ok (.nx, lo2, st2)) (h3 : forL ckT gf body xs lo2 st2 = r) : forL ckT gf body (x :: xs) lo st = r := by
  rw [forL_cons, if_pos trivial, h1]; simp only [Res.ok_bind]; rw [h2]; exact h3
theorem forL_rt {m k} (h1 : gf x lo st = .ok (lo1, st1)) (h2 : body lo1 st1 = .ok (.rt m k, lo2, st2)) : forL ckT gf body (x :: xs) lo st = .ok (.rt m k, lo2, st2) := by
  rw [forL_cons, if_pos trivial, h1]; simp only [Res.ok_bind]; rw [h2]; rfl
theorem forL_exc {c fs} (h1 : gf x lo st = .ok (lo1, st1)) (h2 : body lo1 st1 = .exc c fs lo2 st2) : forL ckT gf body (x :: xs) lo st = .exc c fs lo2 st2 := by
  rw [forL_cons, if_pos trivial, h1]; simp only [Res.ok_bind]; rw [h2]; rfl
theorem forL_end : forL ckT gf body [] lo st = .ok (.nx, lo, st) := by rw [forL_nil, if_pos trivial]
end
def oS : Option Str → MV
  | none => .non
  | some s => .str s
def stepAt (P : Prog) : MV → Option Move
  | .int i => if 0 ≤ i then P.mv[i.toNat]? else none
  | _ => none
/-- where numbers of moves lead to, one behind the other -/
def chain (P : Prog) : Str → List MV → Option Str
  | p, [] => some p
  | p, m :: ms => match stepAt P m with
    | some s => if s.p = p then chain P s.o ms else none
    | none => none
def partEnd (P : Prog) (p : Str) : MV → Option Str
  | .tup [.int t, .lst (x :: xs)] => if 1 ≤ t then (match chain P p (x :: xs) with
    | some q => if 1 < t ∧ q ≠ p then none else some q
    | none => none) else none
  | _ => none
def rowEnd (P : Prog) : Str → List MV → Option Str
  | p, [] => some p
  | p, m :: ms => match partEnd P p m with
    | some q => rowEnd P q ms
    | none => none
def rowEndM (P : Prog) (p : Str) : MV → Option Str
  | .lst xs => rowEnd P p xs
  | _ => none
/-- a part that can be judged -/
def PartG (m : MV) : Prop := pln m = true ∧ ∀ xs, m = .tup xs → ∀ x, x ∈ xs → pln x = true ∧ ∀ ys, x = .lst ys → gd dpt (.lst ys) = true
def RowG (m : MV) : Prop := pln m = true ∧ ∀ xs, m = .lst xs → ∀ x, x ∈ xs → PartG x
section
variable {P : Prog} {st : Sto}
theorem stepAt_ok (h : P.Ok) {m : MV} {s : Move} (e : stepAt P m = some s) : s.Ok P.pl ∧ ∃ i : Int, m = .int i ∧ 0 ≤ i ∧ i < (P.mv.length : Int) ∧ atI (mvM P) i = some (mM s) := by
  cases m with
  | int i =>
    have e' : (if 0 ≤ i then P.mv[i.toNat]? else none) = some s := e
    split at e'
    · rename_i h0
      have hl := (List.getElem?_eq_some_iff.mp e').1
      refine ⟨h.mv s (List.mem_of_getElem? e'), i, rfl, h0, by omega, ?_⟩
      unfold mvM
      rw [atI_map]
      unfold atI ixN
      rw [if_pos h0, if_pos (by omega)]
      simp [e']
    · cases e'
  | _ => cases e
theorem stepAt_no {i : Int} (e : stepAt P (.int i) = none) : ¬ (0 ≤ i ∧ i < (P.mv.length : Int)) := by
  intro ⟨h0, h1⟩
  have e' : (if 0 ≤ i then P.mv[i.toNat]? else none) = none := e
  rw [if_pos h0] at e'
  have := List.getElem?_eq_none_iff.mp e'
  omega
theorem mvM_len (P : Prog) : (mvM P).length = P.mv.length := by simp [mvM]
theorem ix0 (s : Move) : gIx st (mM s) (.int 0) = some (.str s.p, false) := rfl
theorem ix3 (s : Move) : gIx st (mM s) (.int 3) = some (.str s.o, false) := rfl
theorem ixT {xs : List MV} {i : Int} {x : MV} (h : atI xs i = some x) : gIx st (.tup xs) (.int i) = some (x, false) := by show (atI xs i).map _ = _; rw [h]; rfl
theorem ixL {xs : List MV} {i : Int} {x : MV} (h : atI xs i = some x) : gIx st (.lst xs) (.int i) = some (x, false) := by show (atI xs i).map _ = _; rw [h]; rfl
theorem eqS {neg : Bool} {x y : Str} (hx : PyData.strOk x = true) (hy : PyData.strOk y = true) : gEqB neg st (.str x) (.str y) = some (.bl (if neg then !decide (x = y) else decide (x = y)), false) := by
  rw [eq_gd (a := .str x) (b := .str y) hx hy, eqM_str]
/-- the steps of a program, in a slot -/
theorem fldSt {lo : Lo} {f : EF} (h : f lo st = .ok (progM P, .fz, st)) : mFld "steps" (inB ["Program"]) noB f lo st = .ok (.tup (mvM P), .fz, st) := by rw [d_mFld, h]; rfl
theorem fldPl {lo : Lo} {f : EF} (h : f lo st = .ok (progM P, .fz, st)) : mFld "stands" (inB ["Program"]) noB f lo st = .ok (.tup (plM P), .fz, st) := by rw [d_mFld, h]; rfl
theorem ixOk {lo : Lo} {f g : EF} {xs : List MV} {i : Int} {x : MV} {k1 k2} (h : f lo st = .ok (.tup xs, k1, st)) (h2 : g lo st = .ok (.int i, k2, st)) (h3 : atI xs i = some x) : mOp gIx f g lo st = .ok (x, .fz, st) := opV h h2 (ixT h3)
theorem ixLk {lo : Lo} {f g : EF} {xs : List MV} {i : Int} {x : MV} {k1 k2} (h : f lo st = .ok (.lst xs, k1, st)) (h2 : g lo st = .ok (.int i, k2, st)) (h3 : atI xs i = some x) : mOp gIx f g lo st = .ok (x, .fz, st) := opV h h2 (ixL h3)
theorem callV {n : Nat} {F : FF} {lo : Lo} {g : AF} {ms : List MV} {m : MV} {b : Bool} {st1 st2 : Sto} (h : g lo st = .ok (ms.map (·, false), st1)) (hl : ms.length = n) (hf : F ms st1 = .ok (m, b, st2)) : mCall n F [] g lo st = .ok (m, if b then .fr else .fz, st2) := by
  rw [d_mCall, h]
  simp only [Res.ok_bind, d_callF]
  have e : allFz (ms.map (·, false)) = some ms := by
    clear h hl hf
    induction ms with
    | nil => rfl
    | cons x xs ih => rw [List.map_cons, d_allFz1, ih]; rfl
  rw [e]
  simp only [List.append_nil]
  rw [if_pos hl]
  exact callR_ok _ _ hf
theorem callX {n : Nat} {F : FF} {lo : Lo} {g : AF} {ms : List MV} {c fs lo'} {st1 st2 : Sto} (h : g lo st = .ok (ms.map (·, false), st1)) (hl : ms.length = n) (hf : F ms st1 = .exc c fs lo' st2) : mCall n F [] g lo st = .exc c fs lo st2 := by
  rw [d_mCall, h]
  simp only [Res.ok_bind, d_callF]
  have e : allFz (ms.map (·, false)) = some ms := by
    clear h hl hf
    induction ms with
    | nil => rfl
    | cons x xs ih => rw [List.map_cons, d_allFz1, ih]; rfl
  rw [e]
  simp only [List.append_nil]
  rw [if_pos hl]
  exact callR_exc _ _ hf
/-- .. from anywhere, or behind l -/
def chainO (P : Prog) : Option Str → List MV → Option (Option Str)
  | l, [] => some l
  | l, m :: ms => match stepAt P m with
    | some s => if l = none ∨ l = some s.p then chainO P (some s.o) ms else none
    | none => none
theorem chainO_some (p : Str) : ∀ xs, chainO P (some p) xs = (chain P p xs).map some
  | [] => rfl
  | m :: ms => by
    unfold chainO chain
    cases stepAt P m with
    | none => rfl
    | some s =>
      by_cases h : s.p = p
      · subst h
        simp only [or_true, if_true]
        exact chainO_some s.o ms
      · have h' : ¬ (some p = none ∨ some p = some s.p) := fun z => z.elim (fun q => nomatch q) fun q => h (by cases q; rfl)
        simp only [if_neg h, if_neg h']
        rfl
theorem oS_isN (l : Option Str) : isNon (oS l) = l.isNone := by cases l <;> rfl
theorem part_loop (h : P.Ok) (m : MV) : ∀ (xs : List MV) (l : Option Str) (t3 : Option (MV × Bool)), (∀ x, x ∈ xs → pln x = true) → (∀ p, l = some p → p ∈ P.pl) →
    (∃ l', chainO P l xs = some l' ∧ ∃ t3', forL ckT (gN 3) b1_is_part xs [fz (progM P), fz m, fz (oS l), t3] st = .ok (.nx, [fz (progM P), fz m, fz (oS l'), t3'], st)) ∨
    (chainO P l xs = none ∧ ∃ lo', forL ckT (gN 3) b1_is_part xs [fz (progM P), fz m, fz (oS l), t3] st = .ok (.rt (.bl false) .fz, lo', st))
  | [], l, t3, _, _ => .inl ⟨l, rfl, t3, forL_end⟩
  | x :: xs, l, t3, hp, hl => by
    have hx := hp x (List.mem_cons_self ..)
    have gdP := h.pl.good
    have w := whole_ok hx st
    cases e : stepAt P x with
    | none =>
      refine .inr ⟨by unfold chainO; rw [e], ?_⟩
      refine ⟨[fz (progM P), fz m, fz (oS l), fz x], ?_⟩
      refine forL_rt (lo1 := [fz (progM P), fz m, fz (oS l), fz x]) (st1 := st) rfl ?_
      have hb : b1_is_part [fz (progM P), fz m, fz (oS l), fz x] st = .ok (.rt (.bl false) .fz, [fz (progM P), fz m, fz (oS l), fz x], st) := by
        refine seq_rt (if_tt ?_ (ret_ok rfl))
        cases q : wh x with
        | false => rw [q] at w; exact or_tt (not_ok (b := false) (tv_ok (k := .fz) (callV (ms := [x]) rfl rfl w)))
        | true =>
          rw [q] at w
          obtain ⟨i, rfl⟩ := wh_int q
          have no := stepAt_no e
          refine or_ff (st1 := st) (not_ok (b := true) (tv_ok (k := .fz) (callV (ms := [.int i]) rfl rfl w))) (not_ok (b := false) (tv_ok (k := .fz) ?_))
          have hf : mFld "steps" (inB ["Program"]) noB (mVar 0) [fz (progM P), fz m, fz (oS l), fz (.int i)] st = .ok (.tup (mvM P), .fz, st) := fldSt rfl
          by_cases q0 : 0 ≤ i
          · have q1 : ¬ (i < (P.mv.length : Int)) := fun z => no ⟨q0, z⟩
            simp [-d_mFld, hf, mvM_len, q0, q1]
          · simp [q0]
      exact hb
    | some s =>
      obtain ⟨so, i, rfl, i0, i1, ia⟩ := stepAt_ok h e
      have hf : mFld "steps" (inB ["Program"]) noB (mVar 0) [fz (progM P), fz m, fz (oS l), fz (.int i)] st = .ok (.tup (mvM P), .fz, st) := fldSt rfl
      have hs : mOp gIx (mFld "steps" (inB ["Program"]) noB (mVar 0)) (mVar 3) [fz (progM P), fz m, fz (oS l), fz (.int i)] st = .ok (mM s, .fz, st) := ixOk hf rfl ia
      have c1 : mOr (mNotT (mTv (mCall 1 M_is_whole [] (mCons (mVar 3) mNil)))) (mNotT (mTv (mChain gLe gLt (mC (.int 0)) (mVar 3) (mCallB gLen (mCons (mFld "steps" (inB ["Program"]) noB (mVar 0)) mNil))))) [fz (progM P), fz m, fz (oS l), fz (.int i)] st = .ok (false, st) := by
        refine or_ff (st1 := st) (not_ok (b := true) (tv_ok (k := .fz) (callV (ms := [.int i]) rfl rfl w))) (not_ok (b := true) (tv_ok (k := .fz) ?_))
        simp [-d_mFld, hf, mvM_len, i0, i1]
      by_cases q : l = none ∨ l = some s.p
      · have hb : b1_is_part [fz (progM P), fz m, fz (oS l), fz (.int i)] st = .ok (.nx, [fz (progM P), fz m, fz (oS (some s.o)), fz (.int i)], st) := by
          refine seq_ok (if_ff c1 rfl) (seq_ok (lo1 := [fz (progM P), fz m, fz (oS l), fz (.int i)]) (st1 := st) (if_ff (st1 := st) ?_ rfl) (set_ok (k := .fz) (opV hs rfl (ix3 s)) rfl))
          rcases q with rfl | rfl
          · exact and_ff (tv_ok (k := .fz) rfl)
          · refine and_tt (st1 := st) (tv_ok (k := .fz) rfl) (tv_ok (k := .fz) (opV (opV hs rfl (ix0 s)) rfl ?_))
            have := eqS (neg := true) (st := st) (gdP _ so.p) (gdP _ so.p)
            simpa [oS] using this
        have hc : chainO P l (.int i :: xs) = chainO P (some s.o) xs := by
          show (match stepAt P (.int i) with | some s => _ | none => _) = _
          rw [e]; exact if_pos q
        rw [hc]
        have step : ∀ r, forL ckT (gN 3) b1_is_part xs [fz (progM P), fz m, fz (oS (some s.o)), fz (.int i)] st = r → forL ckT (gN 3) b1_is_part (.int i :: xs) [fz (progM P), fz m, fz (oS l), t3] st = r := by
          intro r hr
          exact forL_nx (lo1 := [fz (progM P), fz m, fz (oS l), fz (.int i)]) (st1 := st) rfl hb hr
        rcases part_loop h m xs (some s.o) (fz (.int i)) (fun y hy => hp y (List.mem_cons_of_mem _ hy)) (fun p hq => by cases hq; exact so.o) with ⟨l', a1, t3', a2⟩ | ⟨a1, lo', a2⟩
        · exact .inl ⟨l', a1, t3', step _ a2⟩
        · exact .inr ⟨a1, lo', step _ a2⟩
      · have hc : chainO P l (.int i :: xs) = none := by
          show (match stepAt P (.int i) with | some s => _ | none => _) = _
          rw [e]; exact if_neg q
        refine .inr ⟨hc, [fz (progM P), fz m, fz (oS l), fz (.int i)], ?_⟩
        refine forL_rt (lo1 := [fz (progM P), fz m, fz (oS l), fz (.int i)]) (st1 := st) rfl ?_
        have hb : b1_is_part [fz (progM P), fz m, fz (oS l), fz (.int i)] st = .ok (.rt (.bl false) .fz, [fz (progM P), fz m, fz (oS l), fz (.int i)], st) := by
          refine seq_ok (if_ff c1 rfl) (seq_rt (if_tt (st1 := st) ?_ (ret_ok rfl)))
          cases l with
          | none => exact absurd (.inl rfl) q
          | some p =>
            have hne : ¬ (s.p = p) := fun z => q (.inr (by rw [z]))
            refine and_tt (st1 := st) (tv_ok (k := .fz) rfl) (tv_ok (k := .fz) (opV (opV hs rfl (ix0 s)) rfl ?_))
            have := eqS (neg := true) (st := st) (gdP _ so.p) (gdP p (hl p rfl))
            simpa [hne, oS] using this
        exact hb
theorem orV_tt {f g : EF} {lo : Lo} {st st1 : Sto} {k} (h : f lo st = .ok (.bl true, k, st1)) : mOrV f g lo st = .ok (.bl true, .fz, st1) := by rw [d_mOrV, h]; rfl
theorem orV_ff {f g : EF} {lo : Lo} {st st1 : Sto} {k r} (h : f lo st = .ok (.bl false, k, st1)) (h2 : g lo st1 = r) : mOrV f g lo st = r := by rw [d_mOrV, h]; exact h2
theorem andV_tt {f g : EF} {lo : Lo} {st st1 : Sto} {k r} (h : f lo st = .ok (.bl true, k, st1)) (h2 : g lo st1 = r) : mAndV f g lo st = r := by rw [d_mAndV, h]; exact h2
theorem andV_ff {f g : EF} {lo : Lo} {st st1 : Sto} {k} (h : f lo st = .ok (.bl false, k, st1)) : mAndV f g lo st = .ok (.bl false, .fz, st1) := by rw [d_mAndV, h]; rfl
def partB (P : Prog) : MV → Bool
  | .tup [.int t, .lst (x :: xs)] => decide (1 ≤ t) && (match stepAt P x with
    | some s => (match chain P s.p (x :: xs) with
      | some q => decide (t = 1) || decide (s.p = q)
      | none => false)
    | none => false)
  | _ => false
theorem atI_0 {α : Type} (x : α) (xs : List α) : atI (x :: xs) 0 = some x := by unfold atI ixN; simp
theorem chain_mem (h : P.Ok) {q : Str} : ∀ (xs : List MV) (p : Str), p ∈ P.pl → chain P p xs = some q → q ∈ P.pl
  | [], p, hp, e => by cases e; exact hp
  | y :: ys, p, hp, e => by
    unfold chain at e
    cases e2 : stepAt P y with
    | none => rw [e2] at e; cases e
    | some s2 =>
      rw [e2] at e
      simp only at e
      split at e
      · exact chain_mem h ys _ (stepAt_ok h e2).1.o e
      · cases e
theorem partB_no1 {a b : MV} (h : wh a = false) : partB P (.tup [a, b]) = false := by cases a <;> first | rfl | (exact Bool.noConfusion h)
theorem isPart_ok (h : P.Ok) {m : MV} (hm : PartG m) : M_is_part [progM P, m] st = .ok (.bl (partB P m), false, st) := by
  obtain ⟨hp, hx⟩ := hm
  cases m with
  | tup zs =>
    have hz := hx zs rfl
    match zs, hz with
    | [], _ => simp [M_is_part, d_runF, startM, g_is_part, tyAns, isT, tys7, eqI, partB]
    | [_], _ => simp [M_is_part, d_runF, startM, g_is_part, tyAns, isT, tys7, eqI, partB]
    | _ :: _ :: _ :: r, _ =>
      have e : ((r.length : Int) + 1 + 1 + 1 == 2) = false := by simp; omega
      simp [M_is_part, d_runF, startM, g_is_part, tyAns, isT, tys7, eqI, partB, e]
    | [a, b], hz =>
      obtain ⟨pa, _⟩ := hz a (by simp)
      obtain ⟨pb, gb⟩ := hz b (by simp)
      have y0 : atI [a, b] 0 = some a := rfl
      have y1 : atI [a, b] 1 = some b := rfl
      have wa := callR_ok [fz (progM P), fz (.tup [a, b]), none, none] st (whole_ok pa st)
      cases qa : wh a with
      | false =>
        rw [partB_no1 qa]
        rw [qa] at wa
        simp [M_is_part, d_runF, startM, g_is_part, tyAns, isT, tys7, eqI, y0, wa]
      | true =>
        rw [qa] at wa
        obtain ⟨t, rfl⟩ := wh_int qa
        by_cases t1 : t < 1
        · have e : partB P (.tup [.int t, b]) = false := by
            have h1 : decide (1 ≤ t) = false := by simp; omega
            unfold partB
            split
            · rename_i e2; cases e2; rw [h1]; rfl
            · rfl
          rw [e]
          simp [M_is_part, d_runF, startM, g_is_part, tyAns, isT, tys7, eqI, y0, wa, t1]
        · cases b with
          | lst ys =>
            have gy := gb ys rfl
            cases ys with
            | nil =>
              have en := eqNil (neg := false) gy st
              simp [M_is_part, d_runF, startM, g_is_part, tyAns, isT, tys7, eqI, y0, y1, wa, t1, en, partB]
            | cons x xs =>
              have en := eqNil (neg := false) gy st
              have hpl : ∀ y, y ∈ x :: xs → pln y = true := fun y hy => gd_pln (List.all_eq_true.mp (show (x :: xs).all (gd 11) = true from gy) y hy)
              have d1 : decide (1 ≤ t) = true := by simp; omega
              have t1' : ¬ (t < 1) := t1
              have c1 : mOr (mNotT (mTv (mIsi (isT "tuple") noC noC (mVar 1)))) (mOr (mTv (mOp (gEqB true) (mCallB gLen (mCons (mVar 1) mNil)) (mC (.int 2)))) (mOr (mNotT (mTv (mCall 1 M_is_whole [] (mCons (mOp gIx (mVar 1) (mC (.int 0))) mNil)))) (mTv (mOp gLt (mOp gIx (mVar 1) (mC (.int 0))) (mC (.int 1))))))
                  [fz (progM P), fz (.tup [.int t, .lst (x :: xs)]), none, none] st = .ok (false, st) := by
                simp [tyAns, isT, tys7, eqI, y0, wa, t1]
              have c2 : mOr (mNotT (mTv (mIsi (isT "list") noC noC (mOp gIx (mVar 1) (mC (.int 1)))))) (mTv (mOp (gEqB false) (mOp gIx (mVar 1) (mC (.int 1))) (mLst mNil)))
                  [fz (progM P), fz (.tup [.int t, .lst (x :: xs)]), none, none] st = .ok (false, st) := by
                simp [tyAns, isT, tys7, y1, en]
              have hit : iSeq (mOp gIx (mVar 1) (mC (.int 1))) [fz (progM P), fz (.tup [.int t, .lst (x :: xs)]), fz .non, none] st = .ok (x :: xs, ckT, st) := iSeq_lst (k := .fz) (ixOk (i := 1) rfl rfl rfl) rfl
              rcases part_loop (st := st) h (.tup [.int t, .lst (x :: xs)]) (x :: xs) none none hpl (fun p z => nomatch z) with ⟨l', a1, t3, a2⟩ | ⟨a1, lo', a2⟩
              · -- the chain holds
                obtain ⟨s, es, ec⟩ : ∃ s, stepAt P x = some s ∧ chainO P (some s.p) (x :: xs) = some l' := by
                  unfold chainO at a1
                  cases e : stepAt P x with
                  | none => rw [e] at a1; cases a1
                  | some s =>
                    rw [e] at a1
                    refine ⟨s, rfl, ?_⟩
                    unfold chainO
                    rw [e]
                    simpa using a1
                rw [chainO_some] at ec
                obtain ⟨q, eq, rfl⟩ := Option.map_eq_some_iff.mp ec
                obtain ⟨so, i, rfl, i0, i1, ia⟩ := stepAt_ok h es
                have hq : q ∈ P.pl := by
                  exact chain_mem h _ _ so.p eq
                have val : partB P (.tup [.int t, .lst (.int i :: xs)]) = (decide (t = 1) || decide (s.p = q)) := by
                  show (decide (1 ≤ t) && _) = _
                  rw [d1, es]
                  simp only [eq, Bool.true_and]
                rw [val]
                unfold M_is_part g_is_part
                refine runF_own (k := .fz) (lo0 := [fz (progM P), fz (.tup [.int t, .lst (.int i :: xs)]), none, none]) (lo := [fz (progM P), fz (.tup [.int t, .lst (.int i :: xs)]), fz (oS (some q)), t3]) rfl
                  (seq_ok (if_ff c1 rfl) (seq_ok (if_ff c2 rfl) (seq_ok (lo1 := [fz (progM P), fz (.tup [.int t, .lst (.int i :: xs)]), fz .non, none]) (st1 := st) rfl (seq_ok (for_ok hit a2) (ret_ok ?_))))) rfl
                have e0 : mOp (gEqB false) (mOp gIx (mVar 1) (mC (.int 0))) (mC (.int 1)) [fz (progM P), fz (.tup [.int t, .lst (.int i :: xs)]), fz (oS (some q)), t3] st = .ok (.bl (decide (t = 1)), .fz, st) := by
                  refine opV (ixOk (i := 0) rfl rfl rfl) rfl ?_
                  have := eqI false st t 1
                  simp only [vw_int, this]
                  by_cases z : t = 1
                  · subst z; rfl
                  · simp [z]
                by_cases z : t = 1
                · rw [decide_eq_true z] at e0 ⊢
                  exact orV_tt e0
                · rw [decide_eq_false z] at e0 ⊢
                  refine orV_ff e0 ?_
                  have hf : mFld "steps" (inB ["Program"]) noB (mVar 0) [fz (progM P), fz (.tup [.int t, .lst (.int i :: xs)]), fz (oS (some q)), t3] st = .ok (.tup (mvM P), .fz, st) := fldSt rfl
                  refine opV (opV (ixOk hf (opV (ixOk (i := 1) rfl rfl rfl) rfl (ixL (i := 0) (atI_0 _ _))) ia) rfl (ix0 s)) rfl ?_
                  have := eqS (neg := false) (st := st) (h.pl.good _ so.p) (h.pl.good _ hq)
                  simpa [oS] using this
              · have val : partB P (.tup [.int t, .lst (x :: xs)]) = false := by
                  show (decide (1 ≤ t) && _) = _
                  rw [d1]
                  cases e : stepAt P x with
                  | none => rfl
                  | some s =>
                    have : chainO P (some s.p) (x :: xs) = none := by
                      unfold chainO at a1 ⊢
                      rw [e] at a1 ⊢
                      simpa using a1
                    rw [chainO_some] at this
                    cases e3 : chain P s.p (x :: xs) with
                    | none => simp [e3]
                    | some q => rw [e3] at this; cases this
                rw [val]
                unfold M_is_part g_is_part
                exact runF_own (k := .fz) (lo0 := [fz (progM P), fz (.tup [.int t, .lst (x :: xs)]), none, none]) (lo := lo') rfl
                  (seq_ok (if_ff c1 rfl) (seq_ok (if_ff c2 rfl) (seq_ok (lo1 := [fz (progM P), fz (.tup [.int t, .lst (x :: xs)]), fz .non, none]) (st1 := st) rfl (seq_rt (for_ok hit a2))))) rfl
          | _ => first | (exact Bool.noConfusion pb) | simp [M_is_part, d_runF, startM, g_is_part, tyAns, isT, tys7, eqI, y0, y1, wa, t1, partB]
  | _ => first | (exact Bool.noConfusion hp) | simp [M_is_part, d_runF, startM, g_is_part, tyAns, isT, tys7, partB]
end
end FL

namespace FL
open PySem L2 PySem.Spec PyProof.Rows FW

section
variable {P : Prog} {st : Sto}
theorem partEnd_eq (p : Str) (t : Int) (x : MV) (xs : List MV) : partEnd P p (.tup [.int t, .lst (x :: xs)]) = if 1 ≤ t then (match chain P p (x :: xs) with | some q => if 1 < t ∧ q ≠ p then none else some q | none => none) else none := rfl
theorem partB_spec {m : MV} (hb : partB P m = true) : ∃ t x xs s q, m = .tup [.int t, .lst (x :: xs)] ∧ 1 ≤ t ∧ stepAt P x = some s ∧ chain P s.p (x :: xs) = some q ∧ (t = 1 ∨ s.p = q) := by
  unfold partB at hb
  split at hb
  · rename_i t x xs
    rw [Bool.and_eq_true, decide_eq_true_eq] at hb
    obtain ⟨h1, hb⟩ := hb
    cases e : stepAt P x with
    | none => rw [e] at hb; cases hb
    | some s =>
      rw [e] at hb
      simp only at hb
      cases e2 : chain P s.p (x :: xs) with
      | none => rw [e2] at hb; cases hb
      | some q =>
        rw [e2] at hb
        simp only [Bool.or_eq_true, decide_eq_true_eq] at hb
        exact ⟨t, x, xs, s, q, rfl, h1, e, e2, hb⟩
  · cases hb
theorem partEnd_no {m : MV} {p : Str} (hb : partB P m = false) : partEnd P p m = none := by
  cases e : partEnd P p m with
  | none => rfl
  | some r =>
    exfalso
    unfold partEnd at e
    split at e
    · rename_i t x xs
      split at e
      · rename_i h1
        cases e2 : chain P p (x :: xs) with
        | none => rw [e2] at e; cases e
        | some q =>
          rw [e2] at e
          simp only at e
          split at e
          · cases e
          · rename_i hq
            cases e3 : stepAt P x with
            | none => unfold chain at e2; rw [e3] at e2; cases e2
            | some s =>
              have hs : s.p = p := by
                unfold chain at e2
                rw [e3] at e2
                simp only at e2
                split at e2
                · assumption
                · cases e2
              have : partB P (.tup [.int t, .lst (x :: xs)]) = true := by
                show (decide (1 ≤ t) && (match stepAt P x with | some s => _ | none => _)) = true
                rw [e3]
                simp only [hs, e2]
                simp only [h1, decide_true, Bool.true_and, Bool.or_eq_true, decide_eq_true_eq]
                by_cases z : t = 1
                · exact .inl z
                · right
                  have : 1 < t := by omega
                  by_cases w : q = p
                  · exact w.symm
                  · exact absurd ⟨this, w⟩ hq
              rw [this] at hb; cases hb
      · cases e
    · cases e
theorem partEnd_yes {p q : Str} {t : Int} {x : MV} {xs : List MV} {s : Move} (h1 : 1 ≤ t) (e : stepAt P x = some s) (ec : chain P s.p (x :: xs) = some q) (ht : t = 1 ∨ s.p = q) : partEnd P p (.tup [.int t, .lst (x :: xs)]) = if s.p = p then some q else none := by
  by_cases hp : s.p = p
  · subst hp
    rw [if_pos rfl]
    rw [partEnd_eq, if_pos h1, ec]
    simp only
    rw [if_neg]
    rintro ⟨a, b⟩
    rcases ht with z | z
    · omega
    · exact b z.symm
  · rw [if_neg hp]
    rw [partEnd_eq, if_pos h1]
    have : chain P p (x :: xs) = none := by
      unfold chain
      rw [e]
      simp only [if_neg hp]
    rw [this]
theorem chain_last {q : Str} : ∀ (xs : List MV) (x : MV) (p : Str), chain P p (x :: xs) = some q → ∃ s, stepAt P ((x :: xs).getLast (by simp)) = some s ∧ s.o = q
  | [], x, p, e => by
    unfold chain at e
    cases e2 : stepAt P x with
    | none => rw [e2] at e; cases e
    | some s =>
      rw [e2] at e
      simp only at e
      split at e
      · unfold chain at e
        exact ⟨s, e2, Option.some.inj e⟩
      · cases e
  | y :: ys, x, p, e => by
    unfold chain at e
    cases e2 : stepAt P x with
    | none => rw [e2] at e; cases e
    | some s =>
      rw [e2] at e
      simp only at e
      split at e
      · rw [List.getLast_cons (by simp)]
        exact chain_last ys y _ e
      · cases e
theorem atI_m1 {α : Type} (x : α) (xs : List α) : atI (x :: xs) (-1) = some ((x :: xs).getLast (by simp)) := by
  have h : (x :: xs) ≠ [] := by simp
  have e : ixN (x :: xs).length (-1) = some xs.length := by
    show ixN (xs.length + 1) (-1) = _
    unfold ixN
    rw [if_neg (by decide)]
    split
    · congr 1; omega
    · omega
  unfold atI
  rw [e]
  show (x :: xs)[xs.length]? = _
  rw [List.getLast_eq_getElem]
  simp
abbrev LE (P : Prog) (p : Str) (v : MV) (l : Str) (t : Option (MV × Bool)) : Lo := [fz (progM P), fz (.str p), fz v, fz (.str l), t]
theorem end_loop (h : P.Ok) (p0 : Str) (v : MV) : ∀ (xs : List MV) (p : Str) (t : Option (MV × Bool)), (∀ x, x ∈ xs → PartG x) → p ∈ P.pl →
    (∃ q, rowEnd P p xs = some q ∧ ∃ t', forL ckT (gN 4) b1_end_of xs (LE P p0 v p t) st = .ok (.nx, LE P p0 v q t', st)) ∨
    (rowEnd P p xs = none ∧ ∃ lo', forL ckT (gN 4) b1_end_of xs (LE P p0 v p t) st = .ok (.rt .non .fz, lo', st))
  | [], p, t, _, _ => .inl ⟨p, rfl, t, forL_end⟩
  | x :: xs, p, t, hx, hp => by
    have ip := isPart_ok (st := st) h (hx x (List.mem_cons_self ..))
    have hc : mTv (mCall 2 M_is_part [] (mCons (mVar 0) (mCons (mVar 4) mNil))) (LE P p0 v p (fz x)) st = .ok (partB P x, st) := tv_ok (k := .fz) (callV (ms := [progM P, x]) rfl rfl ip)
    cases hb : partB P x with
    | false =>
      rw [hb] at hc
      refine .inr ⟨by unfold rowEnd; rw [partEnd_no hb], LE P p0 v p (fz x), ?_⟩
      exact forL_rt (lo1 := LE P p0 v p (fz x)) (st1 := st) rfl (seq_rt (if_tt (or_tt (not_ok hc)) (ret_ok rfl)))
    | true =>
      rw [hb] at hc
      obtain ⟨n, y, ys, s, q, rfl, h1, es, ec, ht⟩ := partB_spec hb
      obtain ⟨so, i, rfl, i0, i1, ia⟩ := stepAt_ok h es
      have hq := chain_mem h _ _ so.p ec
      have pe := partEnd_yes (p := p) h1 es ec ht
      have hf : mFld "steps" (inB ["Program"]) noB (mVar 0) (LE P p0 v p (fz (.tup [.int n, .lst (.int i :: ys)]))) st = .ok (.tup (mvM P), .fz, st) := fldSt rfl
      have e1 : mOp (gEqB true) (mOp gIx (mOp gIx (mFld "steps" (inB ["Program"]) noB (mVar 0)) (mOp gIx (mOp gIx (mVar 4) (mC (.int 1))) (mC (.int 0)))) (mC (.int 0))) (mVar 3) (LE P p0 v p (fz (.tup [.int n, .lst (.int i :: ys)]))) st = .ok (.bl (!decide (s.p = p)), .fz, st) := by
        refine opV (opV (ixOk hf (opV (ixOk (i := 1) rfl rfl rfl) rfl (ixL (i := 0) (atI_0 _ _))) ia) rfl (ix0 s)) rfl ?_
        have := eqS (neg := true) (st := st) (h.pl.good _ so.p) (h.pl.good _ hp)
        simpa using this
      by_cases hsp : s.p = p
      · rw [decide_eq_true hsp] at e1
        rw [if_pos hsp] at pe
        obtain ⟨s2, es2, eo⟩ := chain_last ys (.int i) s.p ec
        obtain ⟨so2, j, ej, j0, j1, ja⟩ := stepAt_ok h es2
        have e2 : mOp gIx (mOp gIx (mFld "steps" (inB ["Program"]) noB (mVar 0)) (mOp gIx (mOp gIx (mVar 4) (mC (.int 1))) (mUn gNeg (mC (.int 1))))) (mC (.int 3)) (LE P p0 v p (fz (.tup [.int n, .lst (.int i :: ys)]))) st = .ok (.str q, .fz, st) := by
          have hl : mOp gIx (mOp gIx (mVar 4) (mC (.int 1))) (mUn gNeg (mC (.int 1))) (LE P p0 v p (fz (.tup [.int n, .lst (.int i :: ys)]))) st = .ok (.int j, .fz, st) := by
            refine opV (b := .int (-1)) (ixOk (i := 1) rfl rfl rfl) rfl ?_
            rw [← ej]
            exact ixL (i := -1) (atI_m1 _ _)
          rw [← eo]
          exact opV (ixOk hf hl ja) rfl (ix3 s2)
        have hbd : b1_end_of (LE P p0 v p (fz (.tup [.int n, .lst (.int i :: ys)]))) st = .ok (.nx, LE P p0 v q (fz (.tup [.int n, .lst (.int i :: ys)])), st) :=
          seq_ok (if_ff (or_ff (not_ok hc) (tv_ok e1)) rfl) (set_ok e2 rfl)
        have hr : rowEnd P p (.tup [.int n, .lst (.int i :: ys)] :: xs) = rowEnd P q xs := by
          show (match partEnd P p _ with | some q => _ | none => _) = _
          rw [pe]
        rw [hr]
        rcases end_loop h p0 v xs q (fz (.tup [.int n, .lst (.int i :: ys)])) (fun y hy => hx y (List.mem_cons_of_mem _ hy)) hq with ⟨r, a1, t', a2⟩ | ⟨a1, lo', a2⟩
        · exact .inl ⟨r, a1, t', forL_nx rfl hbd a2⟩
        · exact .inr ⟨a1, lo', forL_nx rfl hbd a2⟩
      · rw [decide_eq_false hsp] at e1
        rw [if_neg hsp] at pe
        refine .inr ⟨?_, LE P p0 v p (fz (.tup [.int n, .lst (.int i :: ys)])), ?_⟩
        · show (match partEnd P p _ with | some q => _ | none => _) = _
          rw [pe]
        · exact forL_rt (lo1 := LE P p0 v p (fz (.tup [.int n, .lst (.int i :: ys)]))) (st1 := st) rfl (seq_rt (if_tt (or_ff (not_ok hc) (tv_ok e1)) (ret_ok rfl)))
theorem endOf_ok (h : P.Ok) {p : Str} (hp : p ∈ P.pl) {m : MV} (hm : RowG m) : M_end_of [progM P, .str p, m] st = .ok (oS (rowEndM P p m), false, st) := by
  obtain ⟨h1, h2⟩ := hm
  cases m with
  | lst xs =>
    rcases end_loop (st := st) h p (.lst xs) xs p none (h2 xs rfl) hp with ⟨q, a1, t', a2⟩ | ⟨a1, lo', a2⟩
    · have e : rowEndM P p (.lst xs) = some q := a1
      rw [e]
      unfold M_end_of g_end_of
      exact runF_own (k := .fz) (lo0 := [fz (progM P), fz (.str p), fz (.lst xs), none, none]) (lo := LE P p (.lst xs) q t') rfl
        (seq_ok (lo1 := [fz (progM P), fz (.str p), fz (.lst xs), none, none]) (st1 := st) (by simp [tyAns, isT, tys7]) (seq_ok (lo1 := LE P p (.lst xs) p none) (st1 := st) rfl (seq_ok (for_ok (iSeq_lst (k := .fz) (xs := xs) (st1 := st) rfl rfl) a2) (ret_ok rfl)))) rfl
    · have e : rowEndM P p (.lst xs) = none := a1
      rw [e]
      unfold M_end_of g_end_of
      exact runF_own (k := .fz) (lo0 := [fz (progM P), fz (.str p), fz (.lst xs), none, none]) (lo := lo') rfl
        (seq_ok (lo1 := [fz (progM P), fz (.str p), fz (.lst xs), none, none]) (st1 := st) (by simp [tyAns, isT, tys7]) (seq_ok (lo1 := LE P p (.lst xs) p none) (st1 := st) rfl (seq_rt (for_ok (iSeq_lst (k := .fz) (xs := xs) (st1 := st) rfl rfl) a2)))) rfl
  | _ => first | (exact Bool.noConfusion h1) | simp [M_end_of, d_runF, startM, g_end_of, tyAns, isT, tys7, rowEndM, oS]
end
end FL

namespace FL
open PySem L2 PySem.Spec PyProof.Rows FW

section
variable {P : Prog} {st : Sto}
abbrev LL (P : Prog) (a b : Option (MV × Bool)) (p : Str) (t4 t5 t6 : Option (MV × Bool)) : Lo := [fz (partsM P), a, b, fz (.str p), t4, t5, t6]
theorem parts1 {lo : Lo} {f : EF} (h : f lo st = .ok (partsM P, .fz, st)) : mOp gIx f (mC (.int 1)) lo st = .ok (.lst (mvM P), .fz, st) := ixLk (i := 1) h rfl rfl
theorem parts0 {lo : Lo} {f : EF} (h : f lo st = .ok (partsM P, .fz, st)) : mOp gIx f (mC (.int 0)) lo st = .ok (.lst (plM P), .fz, st) := ixLk (i := 0) h rfl rfl
theorem lchain_loop (h : P.Ok) (a b t4 t5 : Option (MV × Bool)) : ∀ (xs : List MV) (p : Str) (t6 : Option (MV × Bool)), (∀ x, x ∈ xs → pln x = true) → p ∈ P.pl →
    (∃ q, chain P p xs = some q ∧ ∃ t', forL ckT (gN 6) b2_law_last xs (LL P a b p t4 t5 t6) st = .ok (.nx, LL P a b q t4 t5 t', st)) ∨
    (chain P p xs = none ∧ ∃ lo', forL ckT (gN 6) b2_law_last xs (LL P a b p t4 t5 t6) st = .ok (.rt .non .fz, lo', st))
  | [], p, t6, _, _ => .inl ⟨p, rfl, t6, forL_end⟩
  | x :: xs, p, t6, hp, hl => by
    have hx := hp x (List.mem_cons_self ..)
    have w := lwhole_ok hx st
    have hmv : mOp gIx (mVar 0) (mC (.int 1)) (LL P a b p t4 t5 (fz x)) st = .ok (.lst (mvM P), .fz, st) := parts1 rfl
    cases e : stepAt P x with
    | none =>
      refine .inr ⟨by unfold chain; rw [e], LL P a b p t4 t5 (fz x), forL_rt (lo1 := LL P a b p t4 t5 (fz x)) (st1 := st) rfl (seq_rt (if_tt (st1 := st) ?_ (ret_ok rfl)))⟩
      cases q : wh x with
      | false => rw [q] at w; exact or_tt (not_ok (b := false) (tv_ok (k := .fz) (callV (ms := [x]) rfl rfl w)))
      | true =>
        rw [q] at w
        obtain ⟨i, rfl⟩ := wh_int q
        have no := stepAt_no e
        refine or_ff (st1 := st) (not_ok (b := true) (tv_ok (k := .fz) (callV (ms := [.int i]) rfl rfl w))) (or_tt (not_ok (b := false) (tv_ok (k := .fz) ?_)))
        by_cases q0 : 0 ≤ i
        · have q1 : ¬ (i < (P.mv.length : Int)) := fun z => no ⟨q0, z⟩
          simp [-d_mOp, hmv, mvM_len, q0, q1]
        · simp [q0]
    | some s =>
      obtain ⟨so, i, rfl, i0, i1, ia⟩ := stepAt_ok h e
      have hs : mOp gIx (mOp gIx (mVar 0) (mC (.int 1))) (mVar 6) (LL P a b p t4 t5 (fz (.int i))) st = .ok (mM s, .fz, st) := ixLk hmv rfl ia
      have e1 : mOp (gEqB true) (mOp gIx (mOp gIx (mOp gIx (mVar 0) (mC (.int 1))) (mVar 6)) (mC (.int 0))) (mVar 3) (LL P a b p t4 t5 (fz (.int i))) st = .ok (.bl (!decide (s.p = p)), .fz, st) := by
        refine opV (opV hs rfl (ix0 s)) rfl ?_
        have := eqS (neg := true) (st := st) (h.pl.good _ so.p) (h.pl.good _ hl)
        simpa using this
      have c1 : ∀ r, mTv (mOp (gEqB true) (mOp gIx (mOp gIx (mOp gIx (mVar 0) (mC (.int 1))) (mVar 6)) (mC (.int 0))) (mVar 3)) (LL P a b p t4 t5 (fz (.int i))) st = r → mOr (mNotT (mTv (mCall 1 M_law_is_whole [] (mCons (mVar 6) mNil)))) (mOr (mNotT (mTv (mChain gLe gLt (mC (.int 0)) (mVar 6) (mCallB gLen (mCons (mOp gIx (mVar 0) (mC (.int 1))) mNil))))) (mTv (mOp (gEqB true) (mOp gIx (mOp gIx (mOp gIx (mVar 0) (mC (.int 1))) (mVar 6)) (mC (.int 0))) (mVar 3))))
          (LL P a b p t4 t5 (fz (.int i))) st = r := by
        intro r hr
        refine or_ff (st1 := st) (not_ok (b := true) (tv_ok (k := .fz) (callV (ms := [.int i]) rfl rfl w))) (or_ff (st1 := st) (not_ok (b := true) (tv_ok (k := .fz) ?_)) hr)
        simp [-d_mOp, hmv, mvM_len, i0, i1]
      by_cases q : s.p = p
      · rw [decide_eq_true q] at e1
        have hb : b2_law_last (LL P a b p t4 t5 (fz (.int i))) st = .ok (.nx, LL P a b s.o t4 t5 (fz (.int i)), st) :=
          seq_ok (if_ff (c1 _ (tv_ok e1)) rfl) (set_ok (k := .fz) (opV hs rfl (ix3 s)) rfl)
        have hc : chain P p (.int i :: xs) = chain P s.o xs := by
          show (match stepAt P (.int i) with | some s => _ | none => _) = _
          rw [e]; exact if_pos q
        rw [hc]
        rcases lchain_loop h a b t4 t5 xs s.o (fz (.int i)) (fun y hy => hp y (List.mem_cons_of_mem _ hy)) so.o with ⟨r, a1, t', a2⟩ | ⟨a1, lo', a2⟩
        · exact .inl ⟨r, a1, t', forL_nx rfl hb a2⟩
        · exact .inr ⟨a1, lo', forL_nx rfl hb a2⟩
      · rw [decide_eq_false q] at e1
        refine .inr ⟨?_, LL P a b p t4 t5 (fz (.int i)), forL_rt (lo1 := LL P a b p t4 t5 (fz (.int i))) (st1 := st) rfl (seq_rt (if_tt (c1 _ (tv_ok e1)) (ret_ok rfl)))⟩
        show (match stepAt P (.int i) with | some s => _ | none => _) = _
        rw [e]; exact if_neg q
theorem partEnd_no1 {p : Str} {a b : MV} (h : wh a = false) : partEnd P p (.tup [a, b]) = none := by cases a <;> first | rfl | (exact Bool.noConfusion h)
theorem partEnd_no2 {p : Str} {t : Int} {b : MV} (h : t < 1) : partEnd P p (.tup [.int t, b]) = none := by
  cases b with
  | lst ys => cases ys with
    | nil => rfl
    | cons y ys => rw [partEnd_eq, if_neg (by omega)]
  | _ => rfl
theorem lpart_ok (h : P.Ok) (a b : Option (MV × Bool)) {p : Str} (hp : p ∈ P.pl) {m : MV} (hm : PartG m) (t5 t6 : Option (MV × Bool)) :
    (∃ q, partEnd P p m = some q ∧ ∃ u5 u6, b1_law_last (LL P a b p (fz m) t5 t6) st = .ok (.nx, LL P a b q (fz m) u5 u6, st)) ∨
    (partEnd P p m = none ∧ ∃ lo', b1_law_last (LL P a b p (fz m) t5 t6) st = .ok (.rt .non .fz, lo', st)) := by
  obtain ⟨hpl, hx⟩ := hm
  cases m with
  | tup zs =>
    have hz := hx zs rfl
    match zs, hz with
    | [], _ => exact .inr ⟨rfl, _, seq_rt (if_tt (st1 := st) (by simp [LL, tyAns, isT, tys7, eqI]) (ret_ok rfl))⟩
    | [_], _ => exact .inr ⟨by unfold partEnd; split <;> first | rfl | (rename_i h; cases h), _, seq_rt (if_tt (st1 := st) (by simp [LL, tyAns, isT, tys7, eqI]) (ret_ok rfl))⟩
    | _ :: _ :: _ :: r, _ =>
      have e : ((r.length : Int) + 1 + 1 + 1 == 2) = false := by simp; omega
      exact .inr ⟨by unfold partEnd; split <;> first | rfl | (rename_i h; cases h), _, seq_rt (if_tt (st1 := st) (by simp [LL, tyAns, isT, tys7, eqI, e]) (ret_ok rfl))⟩
    | [c, d], hz =>
      obtain ⟨pc, _⟩ := hz c (by simp)
      obtain ⟨pd, gb⟩ := hz d (by simp)
      have y0 : atI [c, d] 0 = some c := rfl
      have y1 : atI [c, d] 1 = some d := rfl
      have wa := callR_ok (LL P a b p (fz (.tup [c, d])) t5 t6) st (lwhole_ok pc st)
      cases qa : wh c with
      | false =>
        rw [qa] at wa
        exact .inr ⟨partEnd_no1 qa, _, seq_rt (if_tt (st1 := st) (by simp [LL, tyAns, isT, tys7, eqI, y0] at wa ⊢; simp [wa]) (ret_ok rfl))⟩
      | true =>
        rw [qa] at wa
        obtain ⟨t, rfl⟩ := wh_int qa
        by_cases t1 : t < 1
        · exact .inr ⟨partEnd_no2 t1, _, seq_rt (if_tt (st1 := st) (by simp [LL, tyAns, isT, tys7, eqI, y0] at wa ⊢; simp [wa, t1]) (ret_ok rfl))⟩
        · have c1 : ∀ e5 e6, mOr (mNotT (mTv (mIsi (isT "tuple") noC noC (mVar 4)))) (mOr (mTv (mOp (gEqB true) (mCallB gLen (mCons (mVar 4) mNil)) (mC (.int 2)))) (mOr (mNotT (mTv (mCall 1 M_law_is_whole [] (mCons (mOp gIx (mVar 4) (mC (.int 0))) mNil)))) (mTv (mOp gLt (mOp gIx (mVar 4) (mC (.int 0))) (mC (.int 1))))))
              (LL P a b p (fz (.tup [.int t, d])) e5 e6) st = .ok (false, st) := by
            intro e5 e6
            have wa := callR_ok (LL P a b p (fz (.tup [.int t, d])) e5 e6) st (lwhole_ok (m := .int t) rfl st)
            simp [LL, tyAns, isT, tys7, eqI, y0, wh] at wa ⊢; simp [wa, t1]
          have nolist : (∀ ys, d ≠ .lst ys) → (partEnd P p (.tup [.int t, d]) = none ∧ ∃ lo', b1_law_last (LL P a b p (fz (.tup [.int t, d])) t5 t6) st = .ok (.rt .non .fz, lo', st)) := fun hn => by
            refine ⟨by cases d <;> first | rfl | exact absurd rfl (hn _), _, seq_ok (if_ff (c1 _ _) rfl) (seq_rt (if_tt (st1 := st) (or_tt ?_) (ret_ok rfl)))⟩
            cases d <;> first | (exact absurd rfl (hn _)) | (exact Bool.noConfusion pd) | simp [LL, tyAns, isT, tys7, y1]
          cases d with
          | lst ys =>
            have gy := gb ys rfl
            have en := eqNil (neg := false) gy st
            cases ys with
            | nil =>
              refine .inr ⟨rfl, _, seq_ok (if_ff (c1 _ _) rfl) (seq_rt (if_tt (st1 := st) (or_ff (st1 := st) (by simp [LL, tyAns, isT, tys7, y1]) ?_) (ret_ok rfl)))⟩
              simp [LL, y1, en]
            | cons x xs =>
              have hpl2 : ∀ y, y ∈ x :: xs → pln y = true := fun y hy => gd_pln (List.all_eq_true.mp (show (x :: xs).all (gd 11) = true from gy) y hy)
              have c2 : mOr (mNotT (mTv (mIsi (isT "list") noC noC (mOp gIx (mVar 4) (mC (.int 1)))))) (mTv (mOp (gEqB false) (mOp gIx (mVar 4) (mC (.int 1))) (mLst mNil))) (LL P a b p (fz (.tup [.int t, .lst (x :: xs)])) t5 t6) st = .ok (false, st) := by
                refine or_ff (st1 := st) (by simp [LL, tyAns, isT, tys7, y1]) ?_
                simp [LL, y1, en]
              have hit : iSeq (mOp gIx (mVar 4) (mC (.int 1))) (LL P a b p (fz (.tup [.int t, .lst (x :: xs)])) (fz (.str p)) t6) st = .ok (x :: xs, ckT, st) := iSeq_lst (k := .fz) (ixOk (i := 1) rfl rfl rfl) rfl
              rcases lchain_loop (st := st) h a b (fz (.tup [.int t, .lst (x :: xs)])) (fz (.str p)) (x :: xs) p t6 hpl2 hp with ⟨q, a1, t', a2⟩ | ⟨a1, lo', a2⟩
              · have hq := chain_mem h _ _ hp a1
                have val : partEnd P p (.tup [.int t, .lst (x :: xs)]) = if 1 < t ∧ q ≠ p then none else some q := by
                  rw [partEnd_eq, if_pos (by omega), a1]
                have e0 : mTv (mOp gGt (mOp gIx (mVar 4) (mC (.int 0))) (mC (.int 1))) (LL P a b q (fz (.tup [.int t, .lst (x :: xs)])) (fz (.str p)) t') st = .ok (decide (1 < t), st) := tv_ok (k := .fz) (opV (ixOk (i := 0) rfl rfl rfl) rfl rfl)
                have e1 : mTv (mOp (gEqB true) (mVar 3) (mVar 5)) (LL P a b q (fz (.tup [.int t, .lst (x :: xs)])) (fz (.str p)) t') st = .ok (!decide (q = p), st) := by
                  refine tv_ok (k := .fz) (opV (a := .str q) (b := .str p) rfl rfl ?_)
                  have := eqS (neg := true) (st := st) (h.pl.good _ hq) (h.pl.good _ hp)
                  simpa using this
                by_cases z1 : 1 < t
                · rw [decide_eq_true z1] at e0
                  by_cases z2 : q = p
                  · rw [decide_eq_true z2] at e1
                    rw [if_neg (fun z => z.2 z2)] at val
                    exact .inl ⟨q, val, _, _, seq_ok (if_ff (c1 _ _) rfl) (seq_ok (if_ff c2 rfl) (seq_ok (lo1 := LL P a b p (fz (.tup [.int t, .lst (x :: xs)])) (fz (.str p)) t6) (st1 := st) rfl (seq_ok (for_ok hit a2) (if_ff (and_tt e0 e1) rfl))))⟩
                  · rw [decide_eq_false z2] at e1
                    rw [if_pos ⟨z1, z2⟩] at val
                    exact .inr ⟨val, _, seq_ok (if_ff (c1 _ _) rfl) (seq_ok (if_ff c2 rfl) (seq_ok (lo1 := LL P a b p (fz (.tup [.int t, .lst (x :: xs)])) (fz (.str p)) t6) (st1 := st) rfl (seq_ok (for_ok hit a2) (if_tt (and_tt e0 e1) (ret_ok rfl)))))⟩
                · rw [decide_eq_false z1] at e0
                  rw [if_neg (fun z => z1 z.1)] at val
                  exact .inl ⟨q, val, _, _, seq_ok (if_ff (c1 _ _) rfl) (seq_ok (if_ff c2 rfl) (seq_ok (lo1 := LL P a b p (fz (.tup [.int t, .lst (x :: xs)])) (fz (.str p)) t6) (st1 := st) rfl (seq_ok (for_ok hit a2) (if_ff (and_ff e0) rfl))))⟩
              · have val : partEnd P p (.tup [.int t, .lst (x :: xs)]) = none := by
                  rw [partEnd_eq, if_pos (by omega), a1]
                exact .inr ⟨val, lo', seq_ok (if_ff (c1 _ _) rfl) (seq_ok (if_ff c2 rfl) (seq_ok (lo1 := LL P a b p (fz (.tup [.int t, .lst (x :: xs)])) (fz (.str p)) t6) (st1 := st) rfl (seq_rt (for_ok hit a2))))⟩
          | _ => exact .inr (nolist (fun ys z => by cases z))
  | _ => first | (exact Bool.noConfusion hpl) | exact .inr ⟨rfl, _, seq_rt (if_tt (st1 := st) (or_tt (by simp [LL, tyAns, isT, tys7])) (ret_ok rfl))⟩
theorem last_loop (h : P.Ok) (a b : Option (MV × Bool)) : ∀ (xs : List MV) (p : Str) (t4 t5 t6 : Option (MV × Bool)), (∀ x, x ∈ xs → PartG x) → p ∈ P.pl →
    (∃ q, rowEnd P p xs = some q ∧ ∃ u4 u5 u6, forL ckT (gN 4) b1_law_last xs (LL P a b p t4 t5 t6) st = .ok (.nx, LL P a b q u4 u5 u6, st)) ∨
    (rowEnd P p xs = none ∧ ∃ lo', forL ckT (gN 4) b1_law_last xs (LL P a b p t4 t5 t6) st = .ok (.rt .non .fz, lo', st))
  | [], p, t4, t5, t6, _, _ => .inl ⟨p, rfl, t4, t5, t6, forL_end⟩
  | x :: xs, p, t4, t5, t6, hx, hp => by
    rcases lpart_ok (st := st) h a b hp (hx x (List.mem_cons_self ..)) t5 t6 with ⟨q, a1, u5, u6, a2⟩ | ⟨a1, lo', a2⟩
    · have hr : rowEnd P p (x :: xs) = rowEnd P q xs := by
        show (match partEnd P p x with | some q => _ | none => _) = _
        rw [a1]
      have hq : q ∈ P.pl := by
        cases hb : partB P x with
        | false => rw [partEnd_no hb] at a1; cases a1
        | true =>
          obtain ⟨n, y, ys, s, q', rfl, h1, es, ec, ht⟩ := partB_spec hb
          rw [partEnd_yes h1 es ec ht] at a1
          split at a1
          · cases a1; exact chain_mem h _ _ (stepAt_ok h es).1.p ec
          · cases a1
      rw [hr]
      rcases last_loop h a b xs q (fz x) u5 u6 (fun y hy => hx y (List.mem_cons_of_mem _ hy)) hq with ⟨r, b1, u4, v5, v6, b2⟩ | ⟨b1, lo', b2⟩
      · exact .inl ⟨r, b1, u4, v5, v6, forL_nx (lo1 := LL P a b p (fz x) t5 t6) rfl a2 b2⟩
      · exact .inr ⟨b1, lo', forL_nx (lo1 := LL P a b p (fz x) t5 t6) rfl a2 b2⟩
    · refine .inr ⟨?_, lo', forL_rt (lo1 := LL P a b p (fz x) t5 t6) rfl a2⟩
      show (match partEnd P p x with | some q => _ | none => _) = _
      rw [a1]
theorem lastOf_ok (h : P.Ok) {p : Str} (hp : p ∈ P.pl) {m : MV} (hm : RowG m) : M_law_last [partsM P, .str p, m] st = .ok (oS (rowEndM P p m), false, st) := by
  obtain ⟨h1, h2⟩ := hm
  unfold M_law_last g_law_last
  cases m with
  | lst xs =>
    rcases last_loop (st := st) h (fz (.str p)) (fz (.lst xs)) xs p none none none (h2 xs rfl) hp with ⟨q, a1, u4, u5, u6, a2⟩ | ⟨a1, lo', a2⟩
    · have e : rowEndM P p (.lst xs) = some q := a1
      rw [e]
      exact runF_own (k := .fz) (lo0 := [fz (partsM P), fz (.str p), fz (.lst xs), none, none, none, none]) (lo := LL P (fz (.str p)) (fz (.lst xs)) q u4 u5 u6) rfl
        (seq_ok (lo1 := LL P (fz (.str p)) (fz (.lst xs)) p none none none) (st1 := st) rfl (seq_ok (lo1 := LL P (fz (.str p)) (fz (.lst xs)) p none none none) (st1 := st) (by simp [LL, tyAns, isT, tys7]) (seq_ok (for_ok (iSeq_lst (k := .fz) (xs := xs) (st1 := st) rfl rfl) a2) (ret_ok rfl)))) rfl
    · have e : rowEndM P p (.lst xs) = none := a1
      rw [e]
      exact runF_own (k := .fz) (lo0 := [fz (partsM P), fz (.str p), fz (.lst xs), none, none, none, none]) (lo := lo') rfl
        (seq_ok (lo1 := LL P (fz (.str p)) (fz (.lst xs)) p none none none) (st1 := st) rfl (seq_ok (lo1 := LL P (fz (.str p)) (fz (.lst xs)) p none none none) (st1 := st) (by simp [LL, tyAns, isT, tys7]) (seq_rt (for_ok (iSeq_lst (k := .fz) (xs := xs) (st1 := st) rfl rfl) a2)))) rfl
  | _ => first | (exact Bool.noConfusion h1) | simp [d_runF, startM, tyAns, isT, tys7, rowEndM, oS]
end
end FL

namespace FL
open PySem L2 PySem.Spec PyProof.Rows FW

def pr (a : Int × Int) : MV := .tup [.int a.1, .int a.2]
def join (a b : Int × Int) : Int × Int := (if b.1 - a.2 > a.1 then b.1 - a.2 else a.1, a.2 + b.2)
def rnd (a : Int × Int) (t : Int) : Int × Int := (if a.2 ≥ 0 then a.1 else a.1 - (t - 1) * a.2, t * a.2)
def measN (P : Prog) : Int × Int → List MV → Int × Int
  | a, [] => a
  | a, x :: xs => match stepAt P x with
    | some s => measN P (join a (s.l, s.c)) xs
    | none => a
def measR (P : Prog) : Int × Int → List MV → Int × Int
  | a, [] => a
  | a, x :: xs => match x with
    | .tup [.int t, .lst ns] => measR P (join a (rnd (measN P (0, 0) ns) t)) xs
    | _ => a
/-- a row that is not too long, its times not too great -/
def RowS (xs : List MV) : Prop := ∀ x, x ∈ xs → ∀ t ns, x = .tup [.int t, .lst ns] → t.natAbs < 10 ^ 90 ∧ ns.length ≤ 10 ^ 5
section
variable {P : Prog} {st : Sto}
theorem pr0 (a : Int × Int) : gIx st (pr a) (.int 0) = some (.int a.1, false) := rfl
theorem pr1 (a : Int × Int) : gIx st (pr a) (.int 1) = some (.int a.2, false) := rfl
theorem pr_vw (a : Int × Int) : vw st (pr a) = pr a := rfl
theorem joined_ok (a b : Int × Int) (st : Sto) : M_joined [pr a, pr b] st = .ok (pr (join a b), true, st) := by
  have z2 : 2 ≤ sizeLine := by decide +kernel
  simp [M_joined, d_runF, startM, g_joined, pr_vw, pr0, pr1, z2, join]
  rfl
theorem rounded_ok (a : Int × Int) (t : Int) (ht : t.natAbs < 10 ^ 95) (ha : a.2.natAbs < 10 ^ 95) (st : Sto) : M_rounded [pr a, .int t] st = .ok (pr (rnd a t), true, st) := by
  have z2 : 2 ≤ sizeLine := by decide +kernel
  have m1 : CMulW (t - 1) a.2 := mul100 (by omega) (by omega)
  have m2 : CMulW t a.2 := mul100 (by omega) (by omega)
  by_cases h : 0 ≤ a.2
  · simp [M_rounded, d_runF, startM, g_rounded, pr_vw, z2, d_gMul, m1, m2, h, pr, rnd]
  · simp [M_rounded, d_runF, startM, g_rounded, pr_vw, z2, d_gMul, m1, m2, h, pr, rnd]
theorem join_c (a b : Int × Int) : (join a b).2 = a.2 + b.2 := rfl
theorem measN_c (h : P.Ok) : ∀ (xs : List MV) (a : Int × Int), (measN P a xs).2.natAbs ≤ a.2.natAbs + 4 * xs.length
  | [], a => by show a.2.natAbs ≤ _; omega
  | x :: xs, a => by
    unfold measN
    cases e : stepAt P x with
    | none => simp only [List.length_cons]; omega
    | some s =>
      have so := (stepAt_ok h e).1
      have := measN_c h xs (join a (s.l, s.c))
      rw [join_c] at this
      have h4 := so.c4
      have h5 := so.c5
      simp only [List.length_cons] at this ⊢
      omega
abbrev LM (P : Prog) (r : Option (MV × Bool)) (w : MV) (t3 t4 : Option (MV × Bool)) (p : MV) (t6 t7 t8 t9 t10 : Option (MV × Bool)) : Lo := [fz (progM P), r, fz w, t3, t4, fz p, t6, t7, t8, t9, t10]
theorem meas_in (h : P.Ok) (r : Option (MV × Bool)) (w : MV) (t3 t4 : Option (MV × Bool)) : ∀ (xs : List MV) (p q : Str) (a : Int × Int) (t6 t7 t8 t9 t10 : Option (MV × Bool)), chain P p xs = some q →
    ∃ u6 u7 u8 u9 u10, forL ckT (gN 6) b2_measured xs (LM P r w t3 t4 (pr a) t6 t7 t8 t9 t10) st = .ok (.nx, LM P r w t3 t4 (pr (measN P a xs)) u6 u7 u8 u9 u10, st)
  | [], p, q, a, t6, t7, t8, t9, t10, _ => ⟨t6, t7, t8, t9, t10, forL_end⟩
  | x :: xs, p, q, a, t6, t7, t8, t9, t10, e => by
    unfold chain at e
    cases e2 : stepAt P x with
    | none => rw [e2] at e; cases e
    | some s =>
      rw [e2] at e
      simp only at e
      split at e
      case isFalse => cases e
      obtain ⟨so, i, rfl, i0, i1, ia⟩ := stepAt_ok h e2
      have hf : mFld "steps" (inB ["Program"]) noB (mVar 0) (LM P r w t3 t4 (pr a) (fz (.int i)) t7 t8 t9 t10) st = .ok (.tup (mvM P), .fz, st) := fldSt rfl
      have hs : mOp gIx (mFld "steps" (inB ["Program"]) noB (mVar 0)) (mVar 6) (LM P r w t3 t4 (pr a) (fz (.int i)) t7 t8 t9 t10) st = .ok (mM s, .fz, st) := ixOk hf rfl ia
      have z2 : 2 ≤ sizeLine := by decide +kernel
      have e3 : measN P a (.int i :: xs) = measN P (join a (s.l, s.c)) xs := by
        show (match stepAt P (.int i) with | some s => _ | none => _) = _
        rw [e2]
      rw [e3]
      obtain ⟨u6, u7, u8, u9, u10, e4⟩ := meas_in h r w t3 t4 xs s.o q (join a (s.l, s.c)) (fz (.int i)) (fz (.str s.p)) (fz (.int s.l)) (fz (.int s.c)) (fz (.str s.o)) e
      refine ⟨u6, u7, u8, u9, u10, forL_nx (lo1 := LM P r w t3 t4 (pr a) (fz (.int i)) t7 t8 t9 t10) (st1 := st) (lo2 := LM P r w t3 t4 (pr (join a (s.l, s.c))) (fz (.int i)) (fz (.str s.p)) (fz (.int s.l)) (fz (.int s.c)) (fz (.str s.o))) rfl ?_ e4⟩
      refine seq_ok (lo1 := LM P r w t3 t4 (pr a) (fz (.int i)) (fz (.str s.p)) (fz (.int s.l)) (fz (.int s.c)) (fz (.str s.o))) (st1 := st) ?_ ?_
      · unfold sAsg
        rw [hs]; rfl
      · refine set_ok (k := .fr) (callV (ms := [pr a, pr (s.l, s.c)]) (st1 := st) ?_ rfl (joined_ok _ _ st)) rfl
        simp [LM, z2, pr]
theorem meas_out (h : P.Ok) (r : Option (MV × Bool)) : ∀ (xs : List MV) (p q : Str) (a : Int × Int) (t3 t4 t5 t6 t7 t8 t9 t10 : Option (MV × Bool)), rowEnd P p xs = some q → RowS xs →
    ∃ u3 u4 u5 u6 u7 u8 u9 u10, forL ckT (gT 2 (gsCons (gN 3) (gsCons (gN 4) gsNil))) b1_measured xs [fz (progM P), r, fz (pr a), t3, t4, t5, t6, t7, t8, t9, t10] st = .ok (.nx, [fz (progM P), r, fz (pr (measR P a xs)), u3, u4, u5, u6, u7, u8, u9, u10], st)
  | [], p, q, a, t3, t4, t5, t6, t7, t8, t9, t10, _, _ => ⟨t3, t4, t5, t6, t7, t8, t9, t10, forL_end⟩
  | x :: xs, p, q, a, t3, t4, t5, t6, t7, t8, t9, t10, e, hs => by
    unfold rowEnd at e
    cases e2 : partEnd P p x with
    | none => rw [e2] at e; cases e
    | some p2 =>
      rw [e2] at e
      simp only at e
      cases hb : partB P x with
      | false => rw [partEnd_no hb] at e2; cases e2
      | true =>
        obtain ⟨n, y, ys, s, q', rfl, h1, es, ec, ht⟩ := partB_spec hb
        obtain ⟨hn, hl⟩ := hs _ (List.mem_cons_self ..) n (y :: ys) rfl
        have z2 : 2 ≤ sizeLine := by decide +kernel
        have hc := measN_c h (y :: ys) (0, 0)
        have e3 : measR P a (.tup [.int n, .lst (y :: ys)] :: xs) = measR P (join a (rnd (measN P (0, 0) (y :: ys)) n)) xs := rfl
        rw [e3]
        obtain ⟨v6, v7, v8, v9, v10, e5⟩ := meas_in (st := st) h r (pr a) (fz (.int n)) (fz (.lst (y :: ys))) (y :: ys) s.p q' (0, 0) t6 t7 t8 t9 t10 ec
        obtain ⟨u3, u4, u5, u6, u7, u8, u9, u10, e4⟩ := meas_out h r xs p2 q (join a (rnd (measN P (0, 0) (y :: ys)) n)) (fz (.int n)) (fz (.lst (y :: ys))) (fz (pr (measN P (0, 0) (y :: ys)))) v6 v7 v8 v9 v10 e (fun z hz => hs z (List.mem_cons_of_mem _ hz))
        refine ⟨u3, u4, u5, u6, u7, u8, u9, u10, forL_nx (lo1 := [fz (progM P), r, fz (pr a), fz (.int n), fz (.lst (y :: ys)), t5, t6, t7, t8, t9, t10]) (st1 := st) rfl ?_ e4⟩
        refine seq_ok (lo1 := LM P r (pr a) (fz (.int n)) (fz (.lst (y :: ys))) (pr (0, 0)) t6 t7 t8 t9 t10) (st1 := st) ?_ (seq_ok (for_ok (iSeq_lst (k := .fz) (xs := y :: ys) (st1 := st) rfl rfl) e5) ?_)
        · simp [LM, z2, pr]
        · have er : mCall 2 M_rounded [] (mCons (mVar 5) (mCons (mVar 3) mNil)) (LM P r (pr a) (fz (.int n)) (fz (.lst (y :: ys))) (pr (measN P (0, 0) (y :: ys))) v6 v7 v8 v9 v10) st = .ok (pr (rnd (measN P (0, 0) (y :: ys)) n), .fr, st) :=
            callV (ms := [pr (measN P (0, 0) (y :: ys)), .int n]) (b := true) rfl rfl (rounded_ok _ _ (Nat.lt_of_lt_of_le hn (by decide +kernel)) (Nat.lt_of_le_of_lt hc (Nat.lt_of_le_of_lt (by simp only [Int.natAbs_zero, Nat.zero_add]; exact Nat.mul_le_mul_left 4 hl) (by decide +kernel))) st)
          refine set_ok (k := .fr) (callV (ms := [pr a, pr (rnd (measN P (0, 0) (y :: ys)) n)]) (b := true) (st1 := st) ?_ rfl (joined_ok _ _ st)) rfl
          rw [d_mCons]
          show (_ >>= _) = _
          rw [show mVar 2 (LM P r (pr a) (fz (.int n)) (fz (.lst (y :: ys))) (pr (measN P (0, 0) (y :: ys))) v6 v7 v8 v9 v10) st = .ok (pr a, .fz, st) from rfl]
          simp only [Res.ok_bind, d_mCons, er, d_mNil]
          rfl
theorem measured_ok (h : P.Ok) {p q : Str} {xs : List MV} (e : rowEnd P p xs = some q) (hs : RowS xs) : M_measured [progM P, .lst xs] st = .ok (pr (measR P (0, 0) xs), false, st) := by
  obtain ⟨u3, u4, u5, u6, u7, u8, u9, u10, e4⟩ := meas_out (st := st) h (fz (.lst xs)) xs p q (0, 0) none none none none none none none none e hs
  have z2 : 2 ≤ sizeLine := by decide +kernel
  unfold M_measured g_measured
  refine runF_own (k := .fz) (lo0 := [fz (progM P), fz (.lst xs), none, none, none, none, none, none, none, none, none]) (lo := [fz (progM P), fz (.lst xs), fz (pr (measR P (0, 0) xs)), u3, u4, u5, u6, u7, u8, u9, u10]) rfl
    (seq_ok (lo1 := [fz (progM P), fz (.lst xs), fz (pr (0, 0)), none, none, none, none, none, none, none, none]) (st1 := st) ?_ (seq_ok (for_ok (iSeq_lst (k := .fz) (xs := xs) (st1 := st) rfl rfl) e4) (ret_ok rfl))) rfl
  simp [z2, pr]
end
end FL

namespace FL
open PySem L2 PySem.Spec PyProof.Rows FW

section
variable {P : Prog} {st : Sto}
theorem runF_call {n : Nat} {g : SF} {ms : List MV} {lo0 : Lo} {st st' : Sto} {c fs lo} (h0 : startM n ms = lo0) (h : g lo0 st = .exc c fs lo st') : runF n g ms st = .exc c fs lo st' := by subst h0; unfold runF; rw [h]
theorem plM_0 (h : P.Ok) : ∃ p, p ∈ P.pl ∧ atI (plM P) 0 = some (.str p) := by
  have l := h.pl.len1
  unfold plM
  cases e : P.pl with
  | nil => rw [e] at l; simp at l
  | cons p ps => exact ⟨p, List.mem_cons_self .., atI_0 _ _⟩
theorem RowG.tl {x : MV} {xs : List MV} (h : RowG (.lst (x :: xs))) : PartG x := h.2 _ rfl x (List.mem_cons_self ..)
theorem eqNilR {neg : Bool} {xs : List MV} (st : Sto) (h : xs ≠ [] → gd dpt (.lst xs) = true) : gEqB neg st (.lst xs) (.lst []) = some (.bl (if neg then !xs.isEmpty else xs.isEmpty), false) := by
  cases xs with
  | nil => exact eqNil rfl st
  | cons x xs => exact eqNil (h (by simp)) st
/-- where a row begins -/
theorem beginOf_ok (h : P.Ok) {m : MV} (hm : RowG m) (hg : ∀ xs, m = .lst xs → gd dpt m = true) : ∃ o : Option Str, M_begin_of [progM P, m] st = .ok (oS o, false, st) ∧ (∀ p, o = some p → p ∈ P.pl ∧ (rowEndM P p m).isSome = true) ∧ (o = none → ∀ p, p ∈ P.pl → rowEndM P p m = none) := by
  obtain ⟨h1, h2⟩ := id hm
  unfold M_begin_of g_begin_of
  cases m with
  | lst xs =>
    have g := hg xs rfl
    have en := eqNil (neg := false) g st
    cases xs with
    | nil =>
      obtain ⟨p, hp, e0⟩ := plM_0 h
      have hf : mFld "stands" (inB ["Program"]) noB (mVar 0) [fz (progM P), fz (.lst []), none] st = .ok (.tup (plM P), .fz, st) := fldPl rfl
      refine ⟨some p, ?_, fun q z => by cases z; exact ⟨hp, rfl⟩, fun z => nomatch z⟩
      exact runF_own (k := .fz) (lo0 := [fz (progM P), fz (.lst []), none]) (lo := [fz (progM P), fz (.lst []), none]) rfl
        (seq_ok (lo1 := [fz (progM P), fz (.lst []), none]) (st1 := st) (by simp [tyAns, isT, tys7]) (seq_rt (if_tt (st1 := st) (by simp [en]) (ret_ok (ixOk (i := 0) hf rfl e0))))) rfl
    | cons x xs =>
      have ip := isPart_ok (st := st) h hm.tl
      have y0 : atI (x :: xs) 0 = some x := atI_0 _ _
      have hc : mTv (mCall 2 M_is_part [] (mCons (mVar 0) (mCons (mOp gIx (mVar 1) (mC (.int 0))) mNil))) [fz (progM P), fz (.lst (x :: xs)), none] st = .ok (partB P x, st) := tv_ok (k := .fz) (callV (ms := [progM P, x]) (by simp [y0]) rfl ip)
      have c2 : mTv (mOp (gEqB false) (mVar 1) (mLst mNil)) [fz (progM P), fz (.lst (x :: xs)), none] st = .ok (false, st) := by simp [en]
      cases hb : partB P x with
      | false =>
        rw [hb] at hc
        refine ⟨none, ?_, fun q z => (nomatch z), fun _ p hp => ?_⟩
        · exact runF_own (k := .fz) (lo0 := [fz (progM P), fz (.lst (x :: xs)), none]) (lo := [fz (progM P), fz (.lst (x :: xs)), none]) rfl
            (seq_ok (lo1 := [fz (progM P), fz (.lst (x :: xs)), none]) (st1 := st) (by simp [tyAns, isT, tys7]) (seq_ok (if_ff c2 rfl) (seq_rt (if_tt (not_ok hc) (ret_ok rfl))))) rfl
        · show rowEnd P p (x :: xs) = none
          unfold rowEnd
          rw [partEnd_no hb]
      | true =>
        rw [hb] at hc
        obtain ⟨n, y, ys, s, q, rfl, q1, es, ec, ht⟩ := partB_spec hb
        obtain ⟨so, i, rfl, i0, i1, ia⟩ := stepAt_ok h es
        have hf : mFld "steps" (inB ["Program"]) noB (mVar 0) [fz (progM P), fz (.lst (.tup [.int n, .lst (.int i :: ys)] :: xs)), none] st = .ok (.tup (mvM P), .fz, st) := fldSt rfl
        have e1 : mOp gIx (mOp gIx (mFld "steps" (inB ["Program"]) noB (mVar 0)) (mOp gIx (mOp gIx (mOp gIx (mVar 1) (mC (.int 0))) (mC (.int 1))) (mC (.int 0)))) (mC (.int 0)) [fz (progM P), fz (.lst (.tup [.int n, .lst (.int i :: ys)] :: xs)), none] st = .ok (.str s.p, .fz, st) :=
          opV (ixOk hf (opV (opV (opV (a := .lst (.tup [.int n, .lst (.int i :: ys)] :: xs)) (b := .int 0) rfl rfl (ixL (atI_0 _ _))) rfl (ixT (i := 1) rfl)) rfl (ixL (i := 0) (atI_0 _ _))) ia) rfl (ix0 s)
        have ee := endOf_ok (st := st) h so.p hm
        have e2 : mOp (gIsN false) (mCall 3 M_end_of [] (mCons (mVar 0) (mCons (mVar 2) (mCons (mVar 1) mNil)))) (mC .non) [fz (progM P), fz (.lst (.tup [.int n, .lst (.int i :: ys)] :: xs)), fz (.str s.p)] st = .ok (.bl (rowEndM P s.p (.lst (.tup [.int n, .lst (.int i :: ys)] :: xs))).isNone, .fz, st) := by
          refine opV (callV (ms := [progM P, .str s.p, .lst (.tup [.int n, .lst (.int i :: ys)] :: xs)]) rfl rfl ee) rfl ?_
          rw [← oS_isN]
          cases rowEndM P s.p (.lst (.tup [.int n, .lst (.int i :: ys)] :: xs)) <;> rfl
        cases er : rowEndM P s.p (.lst (.tup [.int n, .lst (.int i :: ys)] :: xs)) with
        | none =>
          rw [er] at e2
          refine ⟨none, ?_, fun q z => (nomatch z), fun _ p hp => ?_⟩
          · exact runF_own (k := .fz) (lo0 := [fz (progM P), fz (.lst (.tup [.int n, .lst (.int i :: ys)] :: xs)), none]) (lo := [fz (progM P), fz (.lst (.tup [.int n, .lst (.int i :: ys)] :: xs)), fz (.str s.p)]) rfl
              (seq_ok (lo1 := [fz (progM P), fz (.lst (.tup [.int n, .lst (.int i :: ys)] :: xs)), none]) (st1 := st) (by simp [tyAns, isT, tys7]) (seq_ok (if_ff c2 rfl) (seq_ok (if_ff (not_ok hc) rfl) (seq_ok (set_ok e1 rfl) (ret_ok (ifE_tt (tv_ok e2) rfl)))))) rfl
          · show rowEnd P p _ = none
            by_cases hsp : s.p = p
            · rw [← hsp]; exact er
            · unfold rowEnd
              rw [partEnd_yes q1 es ec ht, if_neg hsp]
        | some r =>
          rw [er] at e2
          refine ⟨some s.p, ?_, fun q z => by cases z; exact ⟨so.p, by rw [er]; rfl⟩, fun z => nomatch z⟩
          exact runF_own (k := .fz) (lo0 := [fz (progM P), fz (.lst (.tup [.int n, .lst (.int i :: ys)] :: xs)), none]) (lo := [fz (progM P), fz (.lst (.tup [.int n, .lst (.int i :: ys)] :: xs)), fz (.str s.p)]) rfl
            (seq_ok (lo1 := [fz (progM P), fz (.lst (.tup [.int n, .lst (.int i :: ys)] :: xs)), none]) (st1 := st) (by simp [tyAns, isT, tys7]) (seq_ok (if_ff c2 rfl) (seq_ok (if_ff (not_ok hc) rfl) (seq_ok (set_ok e1 rfl) (ret_ok (ifE_ff (tv_ok e2) rfl)))))) rfl
  | _ => first | (exact Bool.noConfusion h1) | exact ⟨none, by simp [d_runF, startM, tyAns, isT, tys7, oS], fun q z => (nomatch z), fun _ p _ => rfl⟩
theorem chkR_ok (h : P.Ok) {p q : Str} (hp : p ∈ P.pl) {xs : List MV} (hm : RowG (.lst xs)) (hg : gd dpt (.lst xs) = true) (e : rowEnd P p xs = some q) : M_check_row [progM P, .lst xs] st = .ok (.non, false, st) := by
  obtain ⟨o, e1, e2, e3⟩ := beginOf_ok (st := st) h hm (fun _ _ => hg)
  cases o with
  | none => have := e3 rfl p hp; rw [show rowEndM P p (.lst xs) = rowEnd P p xs from rfl, e] at this; cases this
  | some r =>
    have cr := callR_ok [fz (progM P), fz (.lst xs)] st e1
    simp [M_check_row, d_runF, startM, g_check_row, cr, oS, FW.isNon]
theorem chkR_no (h : P.Ok) {m : MV} (hm : RowG m) (hg : ∀ xs, m = .lst xs → gd dpt m = true) (e : ∀ p, p ∈ P.pl → rowEndM P p m = none) : ∃ lo, M_check_row [progM P, m] st = .exc "InvalidRow" [("value", m)] lo st := by
  obtain ⟨o, e1, e2, e3⟩ := beginOf_ok (st := st) h hm hg
  cases o with
  | some r => obtain ⟨a, b⟩ := e2 r rfl; rw [e r a] at b; cases b
  | none =>
    have cr := callR_ok [fz (progM P), fz m] st e1
    refine ⟨[fz (progM P), fz m], ?_⟩
    simp [M_check_row, d_runF, startM, g_check_row, cr, oS, FW.isNon]
theorem changeOf_ok (h : P.Ok) {p q : Str} (hp : p ∈ P.pl) {xs : List MV} (hm : RowG (.lst xs)) (hg : gd dpt (.lst xs) = true) (e : rowEnd P p xs = some q) (hs : RowS xs) : M_change_of [progM P, .lst xs] st = .ok (.int (measR P (0, 0) xs).2, false, st) := by
  have c1 := callR_ok [fz (progM P), fz (.lst xs)] st (chkP_ok P st)
  have c2 := callR_ok [fz (progM P), fz (.lst xs)] st (chkR_ok (st := st) h hp hm hg e)
  have c3 := callR_ok [fz (progM P), fz (.lst xs)] st (measured_ok (st := st) h e hs)
  simp [M_change_of, d_runF, startM, g_change_of, c1, c2, c3, pr_vw, pr1]
theorem needOf_ok (h : P.Ok) {p q : Str} (hp : p ∈ P.pl) {xs : List MV} (hm : RowG (.lst xs)) (hg : gd dpt (.lst xs) = true) (e : rowEnd P p xs = some q) (hs : RowS xs) : M_need_of [progM P, .lst xs] st = .ok (.int (measR P (0, 0) xs).1, false, st) := by
  have c1 := callR_ok [fz (progM P), fz (.lst xs)] st (chkP_ok P st)
  have c2 := callR_ok [fz (progM P), fz (.lst xs)] st (chkR_ok (st := st) h hp hm hg e)
  have c3 := callR_ok [fz (progM P), fz (.lst xs)] st (measured_ok (st := st) h e hs)
  simp [M_need_of, d_runF, startM, g_need_of, c1, c2, c3, pr_vw, pr0]
/-- change_of and need_of of what is no program, no row -/
theorem changeOf_P {m v : MV} (hm : pln m = true) : ∃ lo, M_change_of [m, v] st = .exc "InvalidProgram" [("value", m)] lo st := by
  obtain ⟨lo, e⟩ := chkP_no hm st
  exact ⟨[fz m, fz v], by simp [M_change_of, d_runF, startM, g_change_of, callR_exc _ _ e]⟩
theorem needOf_P {m v : MV} (hm : pln m = true) : ∃ lo, M_need_of [m, v] st = .exc "InvalidProgram" [("value", m)] lo st := by
  obtain ⟨lo, e⟩ := chkP_no hm st
  exact ⟨[fz m, fz v], by simp [M_need_of, d_runF, startM, g_need_of, callR_exc _ _ e]⟩
theorem changeOf_R (h : P.Ok) {m : MV} (hm : RowG m) (hg : ∀ xs, m = .lst xs → gd dpt m = true) (e : ∀ p, p ∈ P.pl → rowEndM P p m = none) : ∃ lo, M_change_of [progM P, m] st = .exc "InvalidRow" [("value", m)] lo st := by
  obtain ⟨lo, e⟩ := chkR_no (st := st) h hm hg e
  exact ⟨[fz (progM P), fz m], by simp [M_change_of, d_runF, startM, g_change_of, callR_ok _ _ (chkP_ok P st), callR_exc _ _ e]⟩
theorem needOf_R (h : P.Ok) {m : MV} (hm : RowG m) (hg : ∀ xs, m = .lst xs → gd dpt m = true) (e : ∀ p, p ∈ P.pl → rowEndM P p m = none) : ∃ lo, M_need_of [progM P, m] st = .exc "InvalidRow" [("value", m)] lo st := by
  obtain ⟨lo, e⟩ := chkR_no (st := st) h hm hg e
  exact ⟨[fz (progM P), fz m], by simp [M_need_of, d_runF, startM, g_need_of, callR_ok _ _ (chkP_ok P st), callR_exc _ _ e]⟩
def ledM (P : Prog) (c : Int) (q : Str) (xs : List MV) : MV := if c < (measR P (0, 0) xs).1 then .non else .tup [.str q, .int (c + (measR P (0, 0) xs).2)]
theorem led_ok (h : P.Ok) {p q : Str} (hp : p ∈ P.pl) {xs : List MV} (hm : RowG (.lst xs)) (e : rowEnd P p xs = some q) (hs : RowS xs) {c : Int} (hc : 0 ≤ c) : ∃ b, M_led [progM P, .str p, .int c, .lst xs] st = .ok (ledM P c q xs, b, st) := by
  have c1 := callR_ok [fz (progM P), fz (.str p), fz (.int c), fz (.lst xs), none, none, none] st (chkP_ok P st)
  have c2 := callR_ok [fz (progM P), fz (.str p), fz (.int c), fz (.lst xs), none, none, none] st (chkS_ok hp st)
  have c3 := callR_ok [fz (progM P), fz (.str p), fz (.int c), fz (.lst xs), none, none, none] st (chkC_ok hc st)
  have ee := endOf_ok (st := st) h hp hm
  rw [show rowEndM P p (.lst xs) = rowEnd P p xs from rfl, e] at ee
  have c4 := callR_ok [fz (progM P), fz (.str p), fz (.int c), fz (.lst xs), none, none, none] st ee
  have c5 := callR_ok [fz (progM P), fz (.str p), fz (.int c), fz (.lst xs), fz (.str q), none, none] st (measured_ok (st := st) h e hs)
  have z2 : 2 ≤ sizeLine := by decide +kernel
  by_cases hn : c < (measR P (0, 0) xs).1
  · refine ⟨false, ?_⟩
    unfold ledM
    rw [if_pos hn]
    simp [M_led, d_runF, startM, g_led, c1, c2, c3, c4, c5, oS, FW.isNon, pr, hn]
  · refine ⟨true, ?_⟩
    unfold ledM
    rw [if_neg hn]
    simp [M_led, d_runF, startM, g_led, c1, c2, c3, c4, c5, oS, FW.isNon, pr, hn, z2]
theorem led_P {m a b c : MV} (hm : pln m = true) : ∃ lo, M_led [m, a, b, c] st = .exc "InvalidProgram" [("value", m)] lo st := by
  obtain ⟨lo, e⟩ := chkP_no hm st
  exact ⟨[fz m, fz a, fz b, fz c, none, none, none], by simp [M_led, d_runF, startM, g_led, callR_exc _ _ e]⟩
theorem led_S {m b c : MV} (hm : pln m = true) (hc : plcB P.pl m = false) : ∃ lo, M_led [progM P, m, b, c] st = .exc "UnknownName" [("name", m)] lo st := by
  obtain ⟨lo, e⟩ := chkS_no (P := P) hm hc st
  exact ⟨[fz (progM P), fz m, fz b, fz c, none, none, none], by simp [M_led, d_runF, startM, g_led, callR_ok _ _ (chkP_ok P st), callR_exc _ _ e]⟩
theorem led_C {p : Str} (hp : p ∈ P.pl) {m c : MV} (hm : pln m = true) (hc : cntB m = false) : ∃ lo, M_led [progM P, .str p, m, c] st = .exc "InvalidNumber" [("value", m)] lo st := by
  obtain ⟨lo, e⟩ := chkC_no hm hc st
  exact ⟨[fz (progM P), fz (.str p), fz m, fz c, none, none, none], by simp [M_led, d_runF, startM, g_led, callR_ok _ _ (chkP_ok P st), callR_ok _ _ (chkS_ok hp st), callR_exc _ _ e]⟩
theorem led_R (h : P.Ok) {p : Str} (hp : p ∈ P.pl) {c : Int} (hc : 0 ≤ c) {m : MV} (hm : RowG m) (e : rowEndM P p m = none) : ∃ lo, M_led [progM P, .str p, .int c, m] st = .exc "InvalidRow" [("value", m)] lo st := by
  have ee := endOf_ok (st := st) h hp hm
  rw [e] at ee
  exact ⟨[fz (progM P), fz (.str p), fz (.int c), fz m, fz .non, none, none], by simp [M_led, d_runF, startM, g_led, callR_ok _ _ (chkP_ok P st), callR_ok _ _ (chkS_ok hp st), callR_ok _ _ (chkC_ok hc st), callR_ok _ _ ee, oS, FW.isNon]⟩
end
end FL

namespace FL
open PySem L2 PySem.Spec PyProof.Rows FW

def nM (ns : List Nat) : List MV := ns.map fun k => .int (k : Nat)
def partM (x : Int × List Nat) : MV := .tup [.int x.1, .lst (nM x.2)]
def rowM (R : List (Int × List Nat)) : List MV := R.map partM
structure Row (P : Prog) (p q : Str) (B : Int) (R : List (Int × List Nat)) : Prop where
  e : rowEnd P p (rowM R) = some q
  t : ∀ x, x ∈ R → 1 ≤ x.1 ∧ x.1 ≤ B
  l : ∀ x, x ∈ R → x.2.length ≤ 5
  n : ∀ x, x ∈ R → ∀ k, k ∈ x.2 → k < 10
  z : R.length ≤ 10
theorem nM_app (a b : List Nat) : nM (a ++ b) = nM a ++ nM b := List.map_append
theorem nM_len (a : List Nat) : (nM a).length = a.length := List.length_map _
theorem rowM_app (a b : List (Int × List Nat)) : rowM (a ++ b) = rowM a ++ rowM b := List.map_append
theorem rowM_len (a : List (Int × List Nat)) : (rowM a).length = a.length := List.length_map _
theorem atI_last {α : Type} (xs : List α) (x : α) : atI (xs ++ [x]) (-1) = some x := by
  have e : ixN (xs ++ [x]).length (-1) = some xs.length := by
    unfold ixN
    rw [if_neg (by decide)]
    simp only [List.length_append, List.length_singleton]
    split
    · congr 1; omega
    · omega
  unfold atI
  rw [e]
  show (xs ++ [x])[xs.length]? = _
  simp
section
variable {P : Prog} {st : Sto}
theorem chain_app {y : MV} {s : Move} {q : Str} (es : stepAt P y = some s) (hq : s.p = q) : ∀ (xs : List MV) (p : Str), chain P p xs = some q → chain P p (xs ++ [y]) = some s.o
  | [], p, e => by
    have : p = q := Option.some.inj e
    subst this
    show (match stepAt P y with | some s => if s.p = p then chain P s.o [] else none | none => none) = _
    rw [es]
    simp only [if_pos hq]
    rfl
  | x :: xs, p, e => by
    unfold chain at e
    cases e2 : stepAt P x with
    | none => rw [e2] at e; cases e
    | some s2 =>
      rw [e2] at e
      simp only at e
      split at e
      · rename_i h2
        show (match stepAt P x with | some s => if s.p = p then chain P s.o (xs ++ [y]) else none | none => none) = _
        rw [e2]
        simp only [if_pos h2]
        exact chain_app es hq xs _ e
      · cases e
theorem rowEnd_app {m : MV} {q r : Str} (em : partEnd P q m = some r) : ∀ (xs : List MV) (p : Str), rowEnd P p xs = some q → rowEnd P p (xs ++ [m]) = some r
  | [], p, e => by
    have : p = q := Option.some.inj e
    subst this
    show (match partEnd P p m with | some q => rowEnd P q [] | none => none) = _
    rw [em]; rfl
  | x :: xs, p, e => by
    unfold rowEnd at e
    cases e2 : partEnd P p x with
    | none => rw [e2] at e; cases e
    | some p2 =>
      rw [e2] at e
      show (match partEnd P p x with | some q => rowEnd P q (xs ++ [m]) | none => none) = _
      rw [e2]
      exact rowEnd_app em xs _ e
theorem gd_nat {n k : Nat} (h : k < 10 ^ 6) : gd (n + 1) (.int (k : Nat)) = true := gd_int (Nat.lt_of_lt_of_le (show ((k : Nat) : Int).natAbs < 10 ^ 6 by omega) (by decide +kernel))
abbrev LR (n : Nat) (P : Prog) (b c f a t6 nu he t9 t10 t11 : Option (MV × Bool)) : Lo := [fz (.ref n), fz (partsM P), b, c, f, a, t6, nu, he, t9, t10, t11, none]
theorem drawn_in (h : P.Ok) {n : Nat} {N : Int} (g : GenAt st n N) (hN : N ≤ 10 ^ 8) (b c f a t6 t9 t10 t11 : Option (MV × Bool)) {p0 hh : Str} {ns : List Nat} (hc : chain P p0 (nM ns) = some hh) (hm : hh ∈ P.pl) (hn : ∀ k, k ∈ ns → k < 10) (hl : ns.length ≤ 100) :
    ∃ (ns' : List Nat) (h' : Str) (u10 : Option (MV × Bool)) (st' : Sto), b2_law_row_drawn (LR n P b c f a t6 (ow (.lst (nM ns))) (fz (.str hh)) t9 t10 t11) st = .ok (.nx, LR n P b c f a t6 (ow (.lst (nM ns'))) (fz (.str h')) t9 u10 t11, st') ∧
      chain P p0 (nM ns') = some h' ∧ h' ∈ P.pl ∧ (∀ k, k ∈ ns' → k < 10) ∧ ns'.length ≤ ns.length + 1 ∧ GS st n (N + 10) st' := by
  have len10 := h.len
  have hp1 : ∀ lo : Lo, mVar 1 lo st = .ok (partsM P, .fz, st) → mOp gIx (mVar 1) (mC (.int 1)) lo st = .ok (.lst (mvM P), .fz, st) := fun lo e => parts1 e
  have hpL : mOp gIx (mVar 1) (mC (.int 1)) (LR n P b c f a t6 (ow (.lst (nM ns))) (fz (.str hh)) t9 t10 t11) st = .ok (.lst (mvM P), .fz, st) := hp1 _ rfl
  let tst : MV → Bool := fun m => match stepAt P m with | some s => decide (s.p = hh) | none => false
  have items : ∀ x, x ∈ rgM 0 (P.mv.length : Int) → ∃ k : Nat, x = .int (k : Nat) ∧ k < 10 ∧ ∃ s, stepAt P x = some s := by
    intro x hx
    obtain ⟨i, hi⟩ := List.mem_iff_getElem?.mp hx
    obtain ⟨e, hk⟩ := rgM_get hi
    refine ⟨i, by rw [e]; congr 1; omega, by omega, ?_⟩
    have hlt : i < P.mv.length := by omega
    refine ⟨P.mv[i], ?_⟩
    rw [e]
    show (if (0 : Int) ≤ 0 + (i : Nat) then P.mv[((0 : Int) + (i : Nat)).toNat]? else none) = _
    rw [if_pos (by omega), show ((0 : Int) + (i : Nat)).toNat = i by omega]
    exact List.getElem?_eq_getElem hlt
  have hf := lc_filter (vs := [12]) (fi := iRg1 (mCallB gLen (mCons (mOp gIx (mVar 1) (mC (.int 1))) mNil))) (gf := gN 12) (tt := mTv (mOp (gEqB false) (mOp gIx (mOp gIx (mOp gIx (mVar 1) (mC (.int 1))) (mVar 12)) (mC (.int 0))) (mVar 8))) (fe := mVar 12)
    (lo := LR n P b c f a t6 (ow (.lst (nM ns))) (fz (.str hh)) t9 t10 t11) (st := st) (items := rgM 0 (P.mv.length : Int)) (ck := fun _ _ => True) (p := tst) (f := id) rfl
    (iRg1_ok (k := .fz) (by simp [-d_mOp, hpL, mvM_len]) (by unfold Rg62; omega)) (fun _ => trivial) (sz (by rw [rgM_len]; omega))
    (fun x hx => by
      obtain ⟨k, rfl, hk, s, es⟩ := items x hx
      obtain ⟨so, i, ei, i0, i1, ia⟩ := stepAt_ok h es
      cases ei
      refine ⟨[fz (.ref n), fz (partsM P), b, c, f, a, t6, ow (.lst (nM ns)), fz (.str hh), t9, t10, t11, fz (.int (k : Nat))], rfl, ?_, fun _ => ⟨.fz, rfl, rfl⟩⟩
      refine tv_ok (k := .fz) (opV (b := .str hh) (opV (ixLk (hp1 _ rfl) rfl ia) rfl (ix0 s)) rfl ?_)
      have := eqS (neg := false) (st := st) (h.pl.good _ so.p) (h.pl.good _ hm)
      have et : tst (.int (k : Nat)) = decide (s.p = hh) := by show (match stepAt P (.int (k : Nat)) with | some s => decide (s.p = hh) | none => false) = _; rw [es]
      rw [et]
      simpa using this)
  rw [List.map_id] at hf
  have mem : ∀ x, x ∈ (rgM 0 (P.mv.length : Int)).filter tst → ∃ k : Nat, x = .int (k : Nat) ∧ k < 10 ∧ ∃ s, stepAt P x = some s ∧ s.p = hh := by
    intro x hx
    obtain ⟨h1, h2⟩ := List.mem_filter.mp hx
    obtain ⟨k, e, hk, s, es⟩ := items x h1
    refine ⟨k, e, hk, s, es, ?_⟩
    have : (match stepAt P x with | some s => decide (s.p = hh) | none => false) = true := h2
    rw [es] at this
    exact of_decide_eq_true this
  have lenL : ((rgM 0 (P.mv.length : Int)).filter tst).length ≤ 10 := Nat.le_trans (List.length_filter_le _ _) (by rw [rgM_len]; omega)
  generalize (rgM 0 (P.mv.length : Int)).filter tst = L at hf mem lenL
  have gL : gd dpt (.lst L) = true := gd_lst fun x hx => by
    obtain ⟨k, rfl, hk, _⟩ := mem x hx
    exact gd_nat (by omega)
  have s1 : sSet 10 (mLc [12] (iRg1 (mCallB gLen (mCons (mOp gIx (mVar 1) (mC (.int 1))) mNil))) (gN 12) (mTv (mOp (gEqB false) (mOp gIx (mOp gIx (mOp gIx (mVar 1) (mC (.int 1))) (mVar 12)) (mC (.int 0))) (mVar 8))) (mVar 12))
      (LR n P b c f a t6 (ow (.lst (nM ns))) (fz (.str hh)) t9 t10 t11) st = .ok (.nx, LR n P b c f a t6 (ow (.lst (nM ns))) (fz (.str hh)) t9 (fz (.lst L)) t11, st) := set_ok (k := .fr) hf rfl
  have en := eqNil (neg := true) gL st
  have c1 : mTv (mOp (gEqB true) (mVar 10) (mLst mNil)) (LR n P b c f a t6 (ow (.lst (nM ns))) (fz (.str hh)) t9 (fz (.lst L)) t11) st = .ok (!L.isEmpty, st) := tv_ok (k := .fz) (opV (a := .lst L) (b := .lst []) rfl rfl en)
  cases L with
  | nil => exact ⟨ns, hh, fz (.lst []), st, seq_ok s1 (if_ff c1 rfl), hc, hm, hn, by omega, (GS.refl g).up (by omega)⟩
  | cons y ys =>
    obtain ⟨r, st', r0, r1, er, G⟩ := random_ok (bound := ((y :: ys).length : Int)) g (by omega) (by simp only [List.length_cons]; omega) (by omega)
    obtain ⟨x, ex, xm⟩ := atI_ok (y :: ys) r0 r1
    obtain ⟨k, rfl, hk, s, es, hs⟩ := mem x xm
    obtain ⟨so, i, ei, i0, i1, ia⟩ := stepAt_ok h es
    cases ei
    have nk : nM (ns ++ [k]) = nM ns ++ [.int (k : Nat)] := nM_app ns [k]
    have hp2 : ∀ lo : Lo, mVar 1 lo st' = .ok (partsM P, .fz, st') → mOp gIx (mVar 1) (mC (.int 1)) lo st' = .ok (.lst (mvM P), .fz, st') := fun lo e => parts1 e
    refine ⟨ns ++ [k], s.o, fz (.lst (y :: ys)), st', seq_ok s1 (if_tt c1 (seq_ok (lo1 := LR n P b c f a t6 (ow (.lst (nM (ns ++ [k])))) (fz (.str hh)) t9 (fz (.lst (y :: ys))) t11) (st1 := st') ?_ (set_ok (k := .fz) (m := .str s.o) ?_ rfl))), ?_, so.o, ?_, by simp, G⟩
    · rw [nk]
      refine app_ok (i := 7) (x := .lst (nM ns)) (m := .int (k : Nat)) (kd := .fz) rfl rfl ?_ rfl (Nat.lt_of_le_of_lt (by rw [nM_len]; exact hl) (by decide +kernel))
      exact opV (a := .lst (y :: ys)) (ka := .fz) (st1 := st) rfl (callV (ms := [.ref n, .int ((y :: ys).length : Int)]) (b := false) (st1 := st) (by simp) rfl er) (ixL ex)
    · refine opV (ixLk (hp2 _ rfl) (opV (a := .lst (nM (ns ++ [k]))) (b := .int (-1)) rfl rfl (ixL (x := .int (k : Nat)) ?_)) ia) rfl (ix3 s)
      rw [nk]; exact atI_last _ _
    · rw [nk]; exact chain_app es hs _ _ hc
    · intro j hj
      rcases List.mem_append.mp hj with hj | hj
      · exact hn j hj
      · rw [List.mem_singleton] at hj; omega
theorem partEnd_ok {at0 hh : Str} {ns : List Nat} {t : Int} (hc : chain P at0 (nM ns) = some hh) (h0 : ns ≠ []) (h1 : 1 ≤ t) (h2 : 1 < t → hh = at0) : partEnd P at0 (partM (t, ns)) = some hh := by
  cases ns with
  | nil => exact absurd rfl h0
  | cons k ks =>
    show partEnd P at0 (.tup [.int t, .lst (.int (k : Nat) :: nM ks)]) = _
    rw [partEnd_eq, if_pos h1, show chain P at0 (.int (k : Nat) :: nM ks) = some hh from hc]
    simp only
    rw [if_neg (fun z => z.2 (h2 z.1))]
theorem gd_nM {n : Nat} {ns : List Nat} (hn : ∀ k, k ∈ ns → k < 10) : gd (n + 2) (.lst (nM ns)) = true := gd_lst fun x hx => by
  obtain ⟨k, hk, rfl⟩ := List.mem_map.mp hx
  exact gd_nat (Nat.lt_of_lt_of_le (hn k hk) (by decide))
theorem drawn_turn (h : P.Ok) {n : Nat} {N : Int} (g : GenAt st n N) (hN : N ≤ 10 ^ 7) (b c t6 t7 t8 t9 t10 t11 : Option (MV × Bool)) {p a : Str} {R : List (Int × List Nat)} (hr : Row P p a (10 ^ 30) R) (ha : a ∈ P.pl) (hz : R.length ≤ 9) :
    ∃ (R' : List (Int × List Nat)) (a' : Str) (u7 u8 u9 u10 u11 : Option (MV × Bool)) (st' : Sto), b1_law_row_drawn (LR n P b c (ow (.lst (rowM R))) (fz (.str a)) t6 t7 t8 t9 t10 t11) st = .ok (.nx, LR n P b c (ow (.lst (rowM R'))) (fz (.str a')) t6 u7 u8 u9 u10 u11, st') ∧
      Row P p a' (10 ^ 30) R' ∧ a' ∈ P.pl ∧ R'.length ≤ R.length + 1 ∧ GS st n (N + 100) st' := by
  obtain ⟨r, s1, r0, r1, er, G1⟩ := random_ok (bound := 4) g (by omega) (by decide) (by decide)
  have loop := forL_run (ck := fun _ _ => True) (gf := gN 9) (body := b2_law_row_drawn)
    (Inv := fun k lo s' => ∃ (ns : List Nat) (hh : Str) (u9 u10 : Option (MV × Bool)), lo = LR n P b c (ow (.lst (rowM R))) (fz (.str a)) t6 (ow (.lst (nM ns))) (fz (.str hh)) u9 u10 t11 ∧ chain P a (nM ns) = some hh ∧ hh ∈ P.pl ∧ (∀ k, k ∈ ns → k < 10) ∧ ns.length ≤ k ∧ GS s1 n (N + 10 + 10 * (k : Nat)) s')
    (items := rgM 0 (1 + r)) (fun _ _ _ _ => trivial) (fun k x lo s' hx ⟨ns, hh, u9, u10, hlo, hc, hm, hn, hl, G⟩ => by
      obtain ⟨_, hk⟩ := rgM_get hx
      subst hlo
      obtain ⟨ns', h', v10, s2, e, hc', hm', hn', hl', G'⟩ := drawn_in h G.g (by omega) b c (ow (.lst (rowM R))) (fz (.str a)) t6 (fz x) u10 t11 hc hm hn (by omega)
      exact ⟨_, _, _, s2, rfl, e, ns', h', fz x, v10, rfl, hc', hm', hn', by omega, (G.trans G').up (by omega)⟩)
    (LR n P b c (ow (.lst (rowM R))) (fz (.str a)) t6 (ow (.lst [])) (fz (.str a)) t9 t10 t11) s1 ⟨[], a, t9, t10, rfl, rfl, ha, fun k hk => (by cases hk), Nat.le_refl _, (GS.refl G1.g).up (by omega)⟩
  obtain ⟨lo', s2, e2, ns, hh, u9, u10, hlo, hc, hm, hn, hl, G2⟩ := loop
  subst hlo
  rw [rgM_len] at hl G2
  have hl4 : ns.length ≤ 4 := by omega
  have G12 : GS st n (N + 60) s2 := (G1.trans G2).up (by omega)
  have e0 : sPar 7 8 true false (mLst mNil) (mVar 5) (LR n P b c (ow (.lst (rowM R))) (fz (.str a)) t6 t7 t8 t9 t10 t11) st = .ok (.nx, LR n P b c (ow (.lst (rowM R))) (fz (.str a)) t6 (ow (.lst [])) (fz (.str a)) t9 t10 t11, st) := rfl
  have e1 : iRg1 (mOp gAdd (mC (.int 1)) (mCall 2 M_law_random [] (mCons (mVar 0) (mCons (mC (.int 4)) mNil)))) (LR n P b c (ow (.lst (rowM R))) (fz (.str a)) t6 (ow (.lst [])) (fz (.str a)) t9 t10 t11) st = .ok (rgM 0 (1 + r), fun _ _ => True, s1) :=
    iRg1_ok (k := .fz) (opV (a := .int 1) (b := .int r) (ka := .fz) (st1 := st) rfl (callV (ms := [.ref n, .int 4]) (b := false) (st1 := st) rfl rfl er) rfl) (by unfold Rg62; omega)
  have gn : gd dpt (.lst (nM ns)) = true := gd_nM hn
  have en := eqNil (neg := true) gn s2
  have c1 : mTv (mOp (gEqB true) (mVar 7) (mLst mNil)) (LR n P b c (ow (.lst (rowM R))) (fz (.str a)) t6 (ow (.lst (nM ns))) (fz (.str hh)) u9 u10 t11) s2 = .ok (!(nM ns).isEmpty, s2) := tv_ok (k := .fz) (opV (a := .lst (nM ns)) (b := .lst []) rfl rfl en)
  cases hns : ns with
  | nil =>
    subst hns
    exact ⟨R, a, _, _, _, _, _, s2, seq_ok e0 (seq_ok (for_ok e1 e2) (if_ff c1 rfl)), hr, ha, by omega, G12.up (by omega)⟩
  | cons y ys =>
    have nn : ns ≠ [] := by rw [hns]; simp
    rw [show (nM ns).isEmpty = false by rw [hns]; rfl] at c1
    have he : mTv (mOp (gEqB false) (mVar 8) (mVar 5)) (LR n P b c (ow (.lst (rowM R))) (fz (.str a)) t6 (ow (.lst (nM ns))) (fz (.str hh)) u9 u10 t11) s2 = .ok (decide (hh = a), s2) := by
      refine tv_ok (k := .fz) (opV (a := .str hh) (b := .str a) rfl rfl ?_)
      have := eqS (neg := false) (st := s2) (h.pl.good _ hm) (h.pl.good _ ha)
      simpa using this
    have ht : ∃ (t : Int) (s3 : Sto), sSet 11 (mIfE (mTv (mOp (gEqB false) (mVar 8) (mVar 5))) (mOp gIx (mLst (mCons (mC (.int 1)) (mCons (mC (.int 2)) (mCons (mC (.int 3)) (mCons (mOp gPow (mC (.int 10)) (mC (.int 30))) mNil))))) (mCall 2 M_law_random [] (mCons (mVar 0) (mCons (mC (.int 4)) mNil)))) (mC (.int 1)))
        (LR n P b c (ow (.lst (rowM R))) (fz (.str a)) t6 (ow (.lst (nM ns))) (fz (.str hh)) u9 u10 t11) s2 = .ok (.nx, LR n P b c (ow (.lst (rowM R))) (fz (.str a)) t6 (ow (.lst (nM ns))) (fz (.str hh)) u9 u10 (fz (.int t)), s3) ∧ 1 ≤ t ∧ t ≤ 10 ^ 30 ∧ (1 < t → hh = a) ∧ GS s2 n (N + 70) s3 := by
      by_cases q : hh = a
      · rw [decide_eq_true q] at he
        obtain ⟨w, s3, w0, w1, ew, G3⟩ := random_ok (bound := 4) G12.g (by omega) (by decide) (by decide)
        obtain ⟨t, et, tm⟩ := atI_ok [(1 : Int), 2, 3, 10 ^ 30] w0 (by simpa using w1)
        have et' : atI [MV.int 1, .int 2, .int 3, .int (10 ^ 30)] w = some (.int t) := by
          rw [show [MV.int 1, .int 2, .int 3, .int (10 ^ 30)] = [(1 : Int), 2, 3, 10 ^ 30].map MV.int from rfl, atI_map, et]; rfl
        have tb : 1 ≤ t ∧ t ≤ 10 ^ 30 := by
          simp only [List.mem_cons, List.not_mem_nil, or_false] at tm
          rcases tm with rfl | rfl | rfl | rfl <;> exact ⟨by decide, by decide⟩
        refine ⟨t, s3, set_ok (k := .fz) (ifE_tt he ?_) rfl, tb.1, tb.2, fun _ => q, G3.up (by omega)⟩
        refine opV (a := .lst [.int 1, .int 2, .int 3, .int (10 ^ 30)]) (b := .int w) (ka := .fr) (kb := .fz) (st1 := s2) ?_ (callV (ms := [.ref n, .int 4]) (b := false) (st1 := s2) rfl rfl ew) (ixL et')
        have z4 : 4 ≤ sizeLine := by decide +kernel
        simp [-Int.reducePow, -Nat.reducePow, d_gPow, pw30, z4]
      · rw [decide_eq_false q] at he
        exact ⟨1, s2, set_ok (k := .fz) (ifE_ff he rfl) rfl, by decide, by decide, fun z => absurd z (by decide), (GS.refl G12.g).up (by omega)⟩
    obtain ⟨t, s3, e3, t1, tB, tq, G3⟩ := ht
    have rr : rowM (R ++ [(t, ns)]) = rowM R ++ [partM (t, ns)] := rowM_app R [(t, ns)]
    refine ⟨R ++ [(t, ns)], hh, fz (.lst (nM ns)), fz (.str hh), u9, u10, fz (.int t), s3, seq_ok e0 (seq_ok (for_ok e1 e2) (if_tt c1 (seq_ok e3 (seq_ok (lo1 := LR n P b c (ow (.lst (rowM (R ++ [(t, ns)])))) (fz (.str a)) t6 (fz (.lst (nM ns))) (fz (.str hh)) u9 u10 (fz (.int t))) (st1 := s3) ?_ rfl)))), ⟨?_, ?_, ?_, ?_, ?_⟩, hm, by simp, (G12.trans G3).up (by omega)⟩
    · show sApp (mVar 4) (mTup (mCons (mVar 11) (mCons (mVar 7) mNil))) (LR n P b c (ow (.lst (rowM R))) (fz (.str a)) t6 (fz (.lst (nM ns))) (fz (.str hh)) u9 u10 (fz (.int t))) s3 = _
      rw [rr]
      refine app_ok (i := 4) (x := .lst (rowM R)) (m := partM (t, ns)) (kd := .fr) rfl rfl ?_ rfl (Nat.lt_of_le_of_lt (by rw [rowM_len]; exact hz) (by decide +kernel))
      have z2 : 2 ≤ sizeLine := by decide +kernel
      simp [LR, z2, partM]
    · rw [rr]
      exact rowEnd_app (partEnd_ok hc nn t1 tq) _ _ hr.e
    · intro x hx
      rcases List.mem_append.mp hx with hx | hx
      · exact hr.t x hx
      · rw [List.mem_singleton] at hx; subst hx; exact ⟨t1, tB⟩
    · intro x hx
      rcases List.mem_append.mp hx with hx | hx
      · exact hr.l x hx
      · rw [List.mem_singleton] at hx; subst hx; exact Nat.le_succ_of_le hl4
    · intro x hx
      rcases List.mem_append.mp hx with hx | hx
      · exact hr.n x hx
      · rw [List.mem_singleton] at hx; subst hx; exact hn
    · simp; omega
theorem rowDrawn_ok (h : P.Ok) {n : Nat} {N : Int} (g : GenAt st n N) (hN : N ≤ 10 ^ 6) {p : Str} (hp : p ∈ P.pl) {most : Int} (m0 : 0 ≤ most) (m9 : most ≤ 9) :
    ∃ (R : List (Int × List Nat)) (q : Str) (st' : Sto), M_law_row_drawn [.ref n, partsM P, .str p, .int most] st = .ok (.lst (rowM R), true, st') ∧ Row P p q (10 ^ 30) R ∧ q ∈ P.pl ∧ GS st n (N + 2000) st' := by
  obtain ⟨r, s1, r0, r1, er, G1⟩ := random_ok (bound := most + 1) g (by omega) (by omega) (by omega)
  have loop := forL_run (ck := fun _ _ => True) (gf := gN 6) (body := b1_law_row_drawn)
    (Inv := fun k lo s' => ∃ (R : List (Int × List Nat)) (a : Str) (u6 u7 u8 u9 u10 u11 : Option (MV × Bool)), lo = LR n P (fz (.str p)) (fz (.int most)) (ow (.lst (rowM R))) (fz (.str a)) u6 u7 u8 u9 u10 u11 ∧ Row P p a (10 ^ 30) R ∧ a ∈ P.pl ∧ R.length ≤ k ∧ GS s1 n (N + 10 + 100 * (k : Nat)) s')
    (items := rgM 0 r) (fun _ _ _ _ => trivial) (fun k x lo s' hx ⟨R, a, u6, u7, u8, u9, u10, u11, hlo, hr, ha, hl, G⟩ => by
      obtain ⟨_, hk⟩ := rgM_get hx
      subst hlo
      obtain ⟨R', a', v7, v8, v9, v10, v11, s2, e, hr', ha', hl', G'⟩ := drawn_turn h G.g (by omega) (fz (.str p)) (fz (.int most)) (fz x) u7 u8 u9 u10 u11 hr ha (by omega)
      exact ⟨_, _, _, s2, rfl, e, R', a', fz x, v7, v8, v9, v10, v11, rfl, hr', ha', by omega, (G.trans G').up (by omega)⟩)
    (LR n P (fz (.str p)) (fz (.int most)) (ow (.lst [])) (fz (.str p)) none none none none none none) s1 ⟨[], p, none, none, none, none, none, none, rfl, ⟨rfl, fun x hx => (by cases hx), fun x hx => (by cases hx), fun x hx => (by cases hx), by decide⟩, hp, Nat.le_refl _, (GS.refl G1.g).up (by omega)⟩
  obtain ⟨lo', s2, e2, R, q, u6, u7, u8, u9, u10, u11, hlo, hr, hq, hl, G2⟩ := loop
  subst hlo
  rw [rgM_len] at hl G2
  refine ⟨R, q, s2, ?_, hr, hq, (G1.trans G2).up (by omega)⟩
  unfold M_law_row_drawn g_law_row_drawn
  refine runF_own (k := .pk 4) (lo0 := [fz (.ref n), fz (partsM P), fz (.str p), fz (.int most), none, none, none, none, none, none, none, none, none]) (lo := LR n P (fz (.str p)) (fz (.int most)) (ow (.lst (rowM R))) (fz (.str q)) u6 u7 u8 u9 u10 u11) rfl
    (seq_ok (lo1 := LR n P (fz (.str p)) (fz (.int most)) (ow (.lst [])) (fz (.str p)) none none none none none none) (st1 := st) rfl (seq_ok (for_ok (iRg1_ok (k := .fz) (j := r) (st1 := s1) ?_ (by unfold Rg62; omega)) e2) (ret_ok rfl))) rfl
  exact callV (ms := [.ref n, .int (most + 1)]) (b := false) (st1 := st) (by simp) rfl er
end
end FL

namespace FL
open PySem L2 PySem.Spec PyProof.Rows FW

abbrev Pos (a : Int × Int) : Prop := 0 ≤ a.1 ∧ 0 ≤ a.1 + a.2
theorem ext2 {a b : Int × Int} (h1 : a.1 = b.1) (h2 : a.2 = b.2) : a = b := Prod.ext h1 h2
theorem join_assoc (a b c : Int × Int) : join (join a b) c = join a (join b c) := by
  refine ext2 ?_ ?_
  · simp only [join]; split <;> split <;> split <;> (try split) <;> omega
  · simp only [join]; omega
theorem join_zr {a : Int × Int} (h : Pos a) : join a (0, 0) = a := by
  obtain ⟨h1, h2⟩ := h
  refine ext2 ?_ ?_
  · simp only [join]; split <;> omega
  · simp only [join]; omega
theorem join_zl {a : Int × Int} (h : Pos a) : join (0, 0) a = a := by
  obtain ⟨h1, h2⟩ := h
  refine ext2 ?_ ?_
  · simp only [join]; split <;> omega
  · simp only [join]; omega
theorem join_pos {a b : Int × Int} (h : Pos a) (k : Pos b) : Pos (join a b) := by
  obtain ⟨h1, h2⟩ := h; obtain ⟨k1, k2⟩ := k
  unfold Pos
  simp only [join]; split <;> omega
theorem rnd1 (a : Int × Int) : rnd a 1 = a := by
  refine ext2 ?_ ?_
  · simp only [rnd]; split <;> omega
  · simp only [rnd]; omega
theorem mul_neg_le {t x : Int} (ht : 1 ≤ t) (hx : x < 0) : t * x ≤ x := by
  have := Int.mul_le_mul_of_nonpos_right ht (Int.le_of_lt hx)
  omega
theorem mul_pos_ge {t x : Int} (ht : 1 ≤ t) (hx : 0 ≤ x) : x ≤ t * x := by
  have := Int.mul_le_mul_of_nonneg_right ht hx
  omega
theorem rnd_pos {a : Int × Int} {t : Int} (ht : 1 ≤ t) (h : Pos a) : Pos (rnd a t) := by
  obtain ⟨h1, h2⟩ := h
  unfold Pos
  simp only [rnd, Int.sub_mul, Int.one_mul]
  split
  · rename_i q; have := mul_pos_ge ht q; omega
  · rename_i q; have := mul_neg_le ht (Int.lt_of_not_ge q); omega
theorem rnd_succ {a : Int × Int} {t : Int} (ht : 1 ≤ t) : join a (rnd a t) = rnd a (t + 1) := by
  refine ext2 ?_ ?_
  · simp only [join, rnd, Int.sub_mul, Int.add_mul, Int.one_mul]
    by_cases q : a.2 ≥ 0
    · have := mul_pos_ge ht q
      simp only [if_pos q]; split <;> omega
    · have := mul_neg_le ht (Int.lt_of_not_ge q)
      simp only [if_neg q]; split <;> omega
  · simp only [join, rnd, Int.add_mul, Int.one_mul]; omega
section
variable {P : Prog}
theorem chain_cons (h : P.Ok) {p q : Str} {x : MV} {xs : List MV} (e : chain P p (x :: xs) = some q) : ∃ s, stepAt P x = some s ∧ s.Ok P.pl ∧ s.p = p ∧ chain P s.o xs = some q ∧ (∀ a, measN P a (x :: xs) = measN P (join a (s.l, s.c)) xs) := by
  unfold chain at e
  cases e2 : stepAt P x with
  | none => rw [e2] at e; cases e
  | some s =>
    rw [e2] at e
    simp only at e
    split at e
    · rename_i hp
      refine ⟨s, rfl, (stepAt_ok h e2).1, hp, e, fun a => ?_⟩
      show (match stepAt P x with | some s => measN P (join a (s.l, s.c)) xs | none => a) = _
      rw [e2]
    · cases e
theorem Move.Ok.pos {pl : List Str} {m : Move} (h : m.Ok pl) : Pos (m.l, m.c) := ⟨h.l0, h.s0⟩
theorem measN_pos (h : P.Ok) : ∀ (xs : List MV) (p q : Str) (a : Int × Int), chain P p xs = some q → Pos a → Pos (measN P a xs)
  | [], _, _, a, _, ha => ha
  | x :: xs, p, q, a, e, ha => by
    obtain ⟨s, _, so, _, e2, e3⟩ := chain_cons h e
    rw [e3]
    exact measN_pos h xs _ _ _ e2 (join_pos ha so.pos)
theorem measN_join (h : P.Ok) : ∀ (xs : List MV) (p q : Str) (a : Int × Int), chain P p xs = some q → Pos a → measN P a xs = join a (measN P (0, 0) xs)
  | [], _, _, a, _, ha => (join_zr ha).symm
  | x :: xs, p, q, a, e, ha => by
    obtain ⟨s, _, so, _, e2, e3⟩ := chain_cons h e
    rw [e3, e3, join_zl so.pos, measN_join h xs _ _ _ e2 (join_pos ha so.pos), measN_join h xs _ _ _ e2 so.pos, join_assoc]
theorem rowEnd_cons (h : P.Ok) {p q : Str} {x : MV} {xs : List MV} (e : rowEnd P p (x :: xs) = some q) : ∃ t y ys r, x = .tup [.int t, .lst (y :: ys)] ∧ 1 ≤ t ∧ chain P p (y :: ys) = some r ∧ rowEnd P r xs = some q ∧ (1 < t → r = p) ∧ partEnd P p x = some r ∧ (∀ a, measR P a (x :: xs) = measR P (join a (rnd (measN P (0, 0) (y :: ys)) t)) xs) := by
  unfold rowEnd at e
  cases e2 : partEnd P p x with
  | none => rw [e2] at e; cases e
  | some r =>
    rw [e2] at e
    have e3 := e2
    unfold partEnd at e3
    split at e3
    · rename_i t y ys
      split at e3
      · rename_i h1
        cases e4 : chain P p (y :: ys) with
        | none => rw [e4] at e3; cases e3
        | some q2 =>
          rw [e4] at e3
          simp only at e3
          split at e3
          · cases e3
          · rename_i hq
            cases e3
            refine ⟨t, y, ys, r, rfl, h1, e4, e, fun z => ?_, rfl, fun a => rfl⟩
            by_cases w : r = p
            · exact w
            · exact absurd ⟨z, w⟩ hq
      · cases e3
    · cases e3
theorem measR_pos (h : P.Ok) : ∀ (xs : List MV) (p q : Str) (a : Int × Int), rowEnd P p xs = some q → Pos a → Pos (measR P a xs)
  | [], _, _, a, _, ha => ha
  | x :: xs, p, q, a, e, ha => by
    obtain ⟨t, y, ys, r, _, h1, ec, er, _, _, em⟩ := rowEnd_cons h e
    rw [em]
    exact measR_pos h xs _ _ _ er (join_pos ha (rnd_pos h1 (measN_pos h _ _ _ _ ec ⟨by decide, by decide⟩)))
theorem measR_join (h : P.Ok) : ∀ (xs : List MV) (p q : Str) (a : Int × Int), rowEnd P p xs = some q → Pos a → measR P a xs = join a (measR P (0, 0) xs)
  | [], _, _, a, _, ha => (join_zr ha).symm
  | x :: xs, p, q, a, e, ha => by
    obtain ⟨t, y, ys, r, _, h1, ec, er, _, _, em⟩ := rowEnd_cons h e
    have pp := rnd_pos h1 (measN_pos h _ _ _ (0, 0) ec ⟨by decide, by decide⟩)
    rw [em, em, join_zl pp, measR_join h xs _ _ _ er (join_pos ha pp), measR_join h xs _ _ _ er pp, join_assoc]
theorem rowEnd_split (h : P.Ok) : ∀ (xs ys : List MV) (p q : Str), rowEnd P p (xs ++ ys) = some q → ∃ r, rowEnd P p xs = some r ∧ rowEnd P r ys = some q ∧ (∀ a, measR P a (xs ++ ys) = measR P (measR P a xs) ys)
  | [], ys, p, q, e => ⟨p, rfl, e, fun a => rfl⟩
  | x :: xs, ys, p, q, e => by
    obtain ⟨t, y, ys', r, rfl, h1, ec, er, _, ep, em⟩ := rowEnd_cons h e
    obtain ⟨r2, a1, a2, a3⟩ := rowEnd_split h xs ys r q er
    refine ⟨r2, ?_, a2, fun a => ?_⟩
    · show (match partEnd P p _ with | some q => rowEnd P q xs | none => none) = _
      rw [ep]; exact a1
    · exact a3 _
/-- a row cut in two -/
theorem measR_split (h : P.Ok) {xs ys : List MV} {p q : Str} (e : rowEnd P p (xs ++ ys) = some q) : join (measR P (0, 0) xs) (measR P (0, 0) ys) = measR P (0, 0) (xs ++ ys) := by
  obtain ⟨r, a1, a2, a3⟩ := rowEnd_split h xs ys p q e
  rw [a3, measR_join h ys _ _ _ a2 (measR_pos h xs _ _ _ a1 ⟨by decide, by decide⟩)]
def wlk (c : Int) (a : Int × Int) : Option Int := if c < a.1 then none else some (c + a.2)
theorem join_lt (c : Int) (a b : Int × Int) : c < (join a b).1 ↔ c < a.1 ∨ c + a.2 < b.1 := by
  simp only [join]; split <;> omega
theorem wlk_join (c : Int) (a b : Int × Int) : wlk c (join a b) = (wlk c a).bind fun d => wlk d b := by
  unfold wlk
  by_cases q : c < a.1
  · rw [if_pos q, if_pos ((join_lt c a b).mpr (.inl q))]
    rfl
  · rw [if_neg q]
    simp only [Option.bind_some]
    by_cases r : c + a.2 < b.1
    · rw [if_pos r, if_pos ((join_lt c a b).mpr (.inr r))]
    · rw [if_neg r, if_neg (fun z => ((join_lt c a b).mp z).elim q r)]
      congr 1; rw [join_c]; omega
theorem wlk_nn {c d : Int} {a : Int × Int} (h : Pos a) (e : wlk c a = some d) : 0 ≤ d := by
  unfold wlk at e
  split at e
  · cases e
  · cases e; obtain ⟨h1, h2⟩ := h; omega
theorem measN_b (h : P.Ok) : ∀ (xs : List MV) (p q : Str) (a : Int × Int) (M Y : Nat), chain P p xs = some q → a.1.natAbs ≤ M → a.2.natAbs ≤ Y → 8 + Y + 4 * xs.length ≤ M → (measN P a xs).1.natAbs ≤ M ∧ (measN P a xs).2.natAbs ≤ Y + 4 * xs.length
  | [], _, _, a, M, Y, _, h1, h2, h3 => ⟨h1, by simpa [measN] using h2⟩
  | x :: xs, p, q, a, M, Y, e, h1, h2, h3 => by
    obtain ⟨s, _, so, _, e2, e3⟩ := chain_cons h e
    have := so.l0; have := so.l8; have := so.c4; have := so.c5
    simp only [List.length_cons] at h3
    rw [e3]
    have := measN_b h xs _ _ (join a (s.l, s.c)) M (Y + 4) e2 (by simp only [join]; split <;> omega) (by simp only [join]; omega) (by omega)
    simp only [List.length_cons]
    exact ⟨this.1, by omega⟩
theorem mul_b {t x : Int} {T X : Nat} (ht : t.natAbs ≤ T) (hx : x.natAbs ≤ X) : (t * x).natAbs ≤ T * X := by
  rw [Int.natAbs_mul]; exact Nat.mul_le_mul ht hx
theorem rnd_b {a : Int × Int} {t : Int} {B : Nat} (h1 : 1 ≤ t) (hB : t ≤ B) (ha : a.1.natAbs ≤ 28) (hb : a.2.natAbs ≤ 20) : (rnd a t).1.natAbs ≤ 60 * B ∧ (rnd a t).2.natAbs ≤ 60 * B := by
  have m1 := mul_b (t := t - 1) (x := a.2) (T := B) (X := 20) (by omega) hb
  have m2 := mul_b (t := t) (x := a.2) (T := B) (X := 20) (by omega) hb
  simp only [rnd]
  constructor
  · split <;> omega
  · omega
theorem measR_b (h : P.Ok) {B : Nat} (hB : 1 ≤ B) : ∀ (xs : List MV) (p q : Str) (a : Int × Int) (M Y : Nat), rowEnd P p xs = some q → (∀ x, x ∈ xs → ∀ t ns, x = .tup [.int t, .lst ns] → t ≤ B ∧ ns.length ≤ 5) → a.1.natAbs ≤ M → a.2.natAbs ≤ Y → 60 * B + Y + 60 * B * xs.length ≤ M → (measR P a xs).1.natAbs ≤ M ∧ (measR P a xs).2.natAbs ≤ Y + 60 * B * xs.length
  | [], _, _, a, M, Y, _, _, h1, h2, h3 => ⟨h1, by simpa [measR] using h2⟩
  | x :: xs, p, q, a, M, Y, e, hx, h1, h2, h3 => by
    obtain ⟨t, y, ys, r, ex, t1, ec, er, _, _, em⟩ := rowEnd_cons h e
    obtain ⟨tB, hl⟩ := hx x (List.mem_cons_self ..) t (y :: ys) ex
    have mb := measN_b h (y :: ys) _ _ (0, 0) 28 0 ec (by decide) (by decide) (by omega)
    have rb := rnd_b (B := B) t1 tB mb.1 (by omega)
    simp only [List.length_cons, Nat.mul_add, Nat.mul_one] at h3
    rw [em]
    have := measR_b h hB xs _ _ (join a (rnd (measN P (0, 0) (y :: ys)) t)) M (Y + 60 * B) er (fun z hz => hx z (List.mem_cons_of_mem _ hz)) (by simp only [join]; split <;> omega) (by simp only [join]; omega) (by omega)
    simp only [List.length_cons, Nat.mul_add, Nat.mul_one]
    exact ⟨this.1, by omega⟩
variable {p q : Str} {B : Int} {R : List (Int × List Nat)}
theorem Row.up {B' : Int} (h : Row P p q B R) (hB : B ≤ B') : Row P p q B' R := ⟨h.e, fun x hx => ⟨(h.t x hx).1, Int.le_trans (h.t x hx).2 hB⟩, h.l, h.n, h.z⟩
theorem Row.G (h : Row P p q B R) : RowG (.lst (rowM R)) := by
  refine ⟨rfl, fun xs e x hx => ?_⟩
  cases e
  obtain ⟨y, hy, rfl⟩ := List.mem_map.mp hx
  refine ⟨rfl, fun zs e z hz => ?_⟩
  cases e
  simp only [List.mem_cons, List.not_mem_nil, or_false] at hz
  rcases hz with rfl | rfl
  · exact ⟨rfl, fun ys e => by cases e⟩
  · exact ⟨rfl, fun ys e => by cases e; exact gd_nM (h.n y hy)⟩
theorem Row.part_gd (h : Row P p q B R) (hB : B ≤ 10 ^ 31 := by decide) : ∀ x, x ∈ rowM R → gd 11 x = true := fun x hx => by
  obtain ⟨y, hy, rfl⟩ := List.mem_map.mp hx
  obtain ⟨t1, t2⟩ := h.t y hy
  refine gd_tup fun z hz => ?_
  simp only [List.mem_cons, List.not_mem_nil, or_false] at hz
  rcases hz with rfl | rfl
  · exact gd_int (Nat.lt_of_lt_of_le (by omega : y.1.natAbs < 10 ^ 31 + 1) (by decide +kernel))
  · exact gd_nM (h.n y hy)
theorem Row.gd (h : Row P p q B R) (hB : B ≤ 10 ^ 31 := by decide) : gd dpt (.lst (rowM R)) = true := gd_lst (h.part_gd hB)
theorem wt_nM (ns : List Nat) : wts (nM ns) ≤ 503 * ns.length := by
  have := wts_le (xs := nM ns) (b := 501) fun x hx => by
    obtain ⟨k, hk, rfl⟩ := List.mem_map.mp hx
    exact Nat.le_refl _
  rwa [nM_len] at this
theorem Row.wt (h : Row P p q B R) : FW.wt (.lst (rowM R)) ≤ 100000 := by
  have := wts_le (xs := rowM R) (b := 4000) fun x hx => by
    obtain ⟨y, hy, rfl⟩ := List.mem_map.mp hx
    have hl := h.l y hy
    have := wt_nM y.2
    show wts [.int y.1, .lst (nM y.2)] + 3 ≤ 4000
    simp only [wts, FW.wt]
    omega
  have hz := h.z
  rw [rowM_len] at this
  show wts (rowM R) + 3 ≤ 100000
  omega
theorem Row.rgd (h : Row P p q B R) (hB : B ≤ 10 ^ 31 := by decide) : rgd (.lst (rowM R)) = true := rgd_of (gd_gx (h.gd hB)) (sz h.wt)
theorem Row.S (h : Row P p q B R) (hB : B ≤ 10 ^ 31 := by decide) : RowS (rowM R) := by
  intro x hx t ns e
  obtain ⟨y, hy, rfl⟩ := List.mem_map.mp hx
  cases e
  obtain ⟨t1, t2⟩ := h.t y hy
  have hl := h.l y hy
  exact ⟨Nat.lt_of_lt_of_le (by omega : y.1.natAbs < 10 ^ 31 + 1) (by decide +kernel), by rw [nM_len]; omega⟩
theorem Row.b (h : Row P p q B R) (hp : P.Ok) (h1 : 1 ≤ B) : (measR P (0, 0) (rowM R)).1.natAbs ≤ 660 * B.toNat ∧ (measR P (0, 0) (rowM R)).2.natAbs ≤ 660 * B.toNat := by
  have hz := h.z
  have := measR_b hp (B := B.toNat) (by omega) (rowM R) _ _ (0, 0) (660 * B.toNat) 0 h.e (fun x hx t ns e => by
    obtain ⟨y, hy, rfl⟩ := List.mem_map.mp hx
    cases e
    have := h.t y hy
    exact ⟨by omega, by rw [nM_len]; exact h.l y hy⟩) (by simp) (by simp) (by
      have : 60 * B.toNat * (rowM R).length ≤ 60 * B.toNat * 10 := Nat.mul_le_mul_left _ (by rw [rowM_len]; exact hz)
      omega)
  refine ⟨this.1, ?_⟩
  have h2 := this.2
  have : 60 * B.toNat * (rowM R).length ≤ 60 * B.toNat * 10 := Nat.mul_le_mul_left _ (by rw [rowM_len]; exact hz)
  omega
/-- no part more often than three times -/
def shortR (R : List (Int × List Nat)) : List (Int × List Nat) := R.map fun x => (if x.1 > 3 then 3 else x.1, x.2)
theorem partEnd_short {x : Int × List Nat} {p : Str} (h : 1 ≤ x.1) : partEnd P p (partM (if x.1 > 3 then 3 else x.1, x.2)) = partEnd P p (partM x) := by
  obtain ⟨t, ns⟩ := x
  cases ns with
  | nil => rfl
  | cons k ks =>
    have h : 1 ≤ t := h
    show partEnd P p (.tup [.int (if t > 3 then 3 else t), .lst (.int (k : Nat) :: nM ks)]) = partEnd P p (.tup [.int t, .lst (.int (k : Nat) :: nM ks)])
    rw [partEnd_eq, partEnd_eq, if_pos h, if_pos (by split <;> omega)]
    have : (1 < (if t > 3 then 3 else t)) = (1 < t) := by
      refine propext ⟨fun z => ?_, fun z => ?_⟩
      · split at z <;> omega
      · split <;> omega
    simp only [this]
theorem Row.short (h : Row P p q B R) : Row P p q 3 (shortR R) := by
  have key : ∀ (R : List (Int × List Nat)) (p : Str), (∀ x, x ∈ R → 1 ≤ x.1) → rowEnd P p (rowM (shortR R)) = rowEnd P p (rowM R) := by
    intro R
    induction R with
    | nil => intro p _; rfl
    | cons x xs ih =>
      intro p hx
      have e1 := partEnd_short (P := P) (p := p) (hx x (List.mem_cons_self ..))
      show (match partEnd P p (partM (if x.1 > 3 then 3 else x.1, x.2)) with | some q => rowEnd P q (rowM (shortR xs)) | none => none) = (match partEnd P p (partM x) with | some q => rowEnd P q (rowM xs) | none => none)
      rw [e1]
      cases partEnd P p (partM x) with
      | none => rfl
      | some q => exact ih q fun y hy => hx y (List.mem_cons_of_mem _ hy)
  refine ⟨(key R p fun x hx => (h.t x hx).1).trans h.e, fun x hx => ?_, fun x hx => ?_, fun x hx => ?_, by unfold shortR; rw [List.length_map]; exact h.z⟩ <;> (obtain ⟨y, hy, rfl⟩ := List.mem_map.mp hx)
  · have := (h.t y hy).1
    show 1 ≤ (if y.1 > 3 then 3 else y.1) ∧ (if y.1 > 3 then 3 else y.1) ≤ 3
    split <;> omega
  · exact h.l y hy
  · exact h.n y hy
theorem Row.last (h : Row P p q B R) (hp : P.Ok) (hm : p ∈ P.pl) : q ∈ P.pl := by
  have key : ∀ (xs : List MV) (p : Str), p ∈ P.pl → rowEnd P p xs = some q → q ∈ P.pl := by
    intro xs
    induction xs with
    | nil => intro p hm e; cases e; exact hm
    | cons x xs ih =>
      intro p hm e
      obtain ⟨t, y, ys, r, _, _, ec, er, _⟩ := rowEnd_cons hp e
      exact ih r (chain_mem hp _ _ hm ec) er
  exact key _ _ hm h.e
end
end FL

namespace FL
open PySem L2 PySem.Spec PyProof.Rows FW

theorem try_exc {p : Str → Bool} {i : Nat} {g gs : SF} {lo lo1 lo2 : Lo} {st st1 st2 : Sto} {c fs} (h : g lo st = .exc c fs lo1 st1) (hp : p c = true) (hs : gs (lo1.set i (some (.exc c fs, false))) st1 = .ok (.nx, lo2, st2)) : sTry p i g gs lo st = .ok (.nx, lo2.set i none, st2) := by
  unfold sTry; rw [h]; simp only; rw [if_pos hp, hs]
theorem try_ok {p : Str → Bool} {i : Nat} {g gs : SF} {lo : Lo} {st : Sto} {r} (h : g lo st = .ok r) : sTry p i g gs lo st = .ok r := by
  unfold sTry; rw [h]
theorem inES {c : Str} (h : c ∈ ES) : inB ES c = true := by unfold inB; exact decide_eq_true h
theorem eqcES {c : Str} (h : c ∈ ES) (d : Str) : eqc ES d c = some (decide (c = d)) := by unfold eqc; rw [if_pos h]
theorem index_gd {xs : List MV} {b : MV} (hx : gd dpt (.lst xs) = true) (hb : gd dpt b = true) (st : Sto) : gIndex st [.lst xs, b] = (fstIx (md b) 0 (mds xs)).map fun j => (.int (j : Nat), false) := by
  show (match FW.toD st dpt (.lst xs), FW.toD st dpt b with
    | some (.list ds), some d => if SeqAt.shaped (.list ds) = true ∧ SeqAt.shaped d = true then (fstIx d 0 ds).map fun j => (MV.int (j : Nat), false) else none
    | _, _ => none) = _
  rw [toD_gd st hx, toD_gd st hb]
  have s1 := shaped_gd hx
  have s2 := shaped_gd hb
  show (if SeqAt.shaped (.list (mds xs)) = true ∧ SeqAt.shaped (md b) = true then (fstIx (md b) 0 (mds xs)).map fun j => (MV.int (j : Nat), false) else none) = _
  rw [if_pos ⟨s1, s2⟩]
theorem eq_self {neg : Bool} {a : MV} (h : gd dpt a = true) (st : Sto) : gEqB neg st a a = some (.bl (!neg), false) := by
  rw [eq_gd h h, eqM_refl h]
  cases neg <;> rfl
/-- the answer of what is caught -/
theorem gd_kR {n : Nat} {R : Str} (k : Int) (hk : k.natAbs < 10 ^ 6) (h : PyData.strOk R = true) : gd (n + 2) (.lst [.int k, .str R]) = true := gd_lst fun x hx => by
  simp only [List.mem_cons, List.not_mem_nil, or_false] at hx
  rcases hx with rfl | rfl
  · exact gd_int (Nat.lt_of_lt_of_le hk (by decide +kernel))
  · exact h
def partgB : MV → Bool
  | .tup ys => ys.all fun y => pln y && match y with | .lst zs => gd dpt (.lst zs) | _ => true
  | m => pln m
def rowgB : MV → Bool
  | .lst xs => xs.all partgB
  | m => pln m
theorem partgB_ok {m : MV} (h : partgB m = true) : PartG m := by
  cases m with
  | tup ys =>
    refine ⟨rfl, fun xs e x hx => ?_⟩
    cases e
    have := List.all_eq_true.mp (show (ys.all fun y => pln y && match y with | .lst zs => gd dpt (.lst zs) | _ => true) = true from h) x hx
    rw [Bool.and_eq_true] at this
    refine ⟨this.1, fun zs e => ?_⟩
    subst e
    exact this.2
  | _ => exact ⟨h, fun xs e => by cases e⟩
theorem rowgB_ok {m : MV} (h : rowgB m = true) : RowG m := by
  cases m with
  | lst ys =>
    refine ⟨rfl, fun xs e x hx => ?_⟩
    cases e
    exact partgB_ok (List.all_eq_true.mp (show ys.all partgB = true from h) x hx)
  | _ => exact ⟨h, fun xs e => by cases e⟩
/-- repr of a thing -/
theorem repr_ok {f : EF} {lo : Lo} {st st1 : Sto} {v : MV} {k : Kd} (h : f lo st = .ok (v, k, st1)) (hr : rgd v = true) : mCallB gRepr (mCons f mNil) lo st = .ok (.str (rp v), .fz, st1) := by
  have hv := pln_vw (rgd_pln hr) st1
  have hR := repr_gd hr st1
  rw [d_mCallB, d_mCons, h]
  simp only [Res.ok_bind, d_mNil, List.map_cons, List.map_nil, hv, hR, d_give0]
/-- the same thing shown twice -/
theorem eq_reprs {neg : Bool} {f g : EF} {lo : Lo} {st st1 st2 : Sto} {v : MV} {k1 k2 : Kd} (h1 : f lo st = .ok (v, k1, st1)) (h2 : g lo st1 = .ok (v, k2, st2)) (hr : rgd v = true) : mOp (gEqB neg) (mCallB gRepr (mCons f mNil)) (mCallB gRepr (mCons g mNil)) lo st = .ok (.bl (!neg), .fz, st2) :=
  opV (repr_ok h1 hr) (repr_ok h2 hr) (eq_self (a := .str (rp v)) (rgd_ok hr) st2)
theorem eqBl {neg : Bool} (a b : Bool) (st : Sto) : gEqB neg st (.bl a) (.bl b) = some (.bl (if neg = true then !(a == b) else (a == b)), false) := by
  rw [eq_gd (a := .bl a) (b := .bl b) rfl rfl]
  cases a <;> cases b <;> cases neg <;> rfl
theorem cut_drop (xs : List MV) {k : Nat} (h : k ≤ xs.length) : cutM xs (some (k : Int)) none = xs.drop k := by
  unfold cutM
  rw [HT.sIx_nat, HT.sIx_none]
  rw [Nat.min_eq_left h]
  have : (xs.drop k).length = xs.length - k := by simp
  rw [← this, List.take_length]
theorem eqvAll_len : ∀ (xs ys : List PyData), PyData.eqvAll xs ys = true → xs.length = ys.length
  | [], [], _ => rfl
  | [], _ :: _, h => by simp [PyData.eqvAll] at h
  | _ :: _, [], h => by simp [PyData.eqvAll] at h
  | x :: xs, y :: ys, h => by
    simp only [PyData.eqvAll, Bool.and_eq_true] at h
    simp [eqvAll_len xs ys h.2]
theorem eqM_len {xs ys : List MV} (h : eqM (.lst xs) (.lst ys) = true) : xs.length = ys.length := by
  have := eqvAll_len (mds xs) (mds ys) (by simpa [eqM, md, PyData.eqv] using h)
  rwa [mds_map, mds_map, List.length_map, List.length_map] at this
theorem iSeq_ok {f : EF} {lo : Lo} {st st1 : Sto} {xs : List MV} {k} (h : f lo st = .ok (.lst xs, k, st1)) (hk : isPk k = false) : iSeq f lo st = .ok (xs, ckT, st1) := iSeq_lst h hk
theorem asg_ok {f : EF} {gf : GF} {lo lo2 : Lo} {st st1 st2 : Sto} {m : MV} {k : Kd} (h : f lo st = .ok (m, k, st1)) (hk : isPk k = false) (hg : gf m lo st1 = .ok (lo2, st2)) : sAsg f gf lo st = .ok (.nx, lo2, st2) := by
  unfold sAsg
  rw [h]
  cases k with
  | pk i => cases hk
  | fz => simp only [Res.ok_bind, d_frz0, hg]
  | fr => simp only [Res.ok_bind, d_frz1, hg]
theorem nil_ok {lo : Lo} {st : Sto} : mNil lo st = .ok (([] : List MV).map (·, false), st) := rfl
theorem cons_ok {f : EF} {g : AF} {lo : Lo} {st st1 st2 : Sto} {m : MV} {k : Kd} {ms : List MV} (h : f lo st = .ok (m, k, st1)) (hk : isPk k = false) (h2 : g lo st1 = .ok (ms.map (·, false), st2)) : mCons f g lo st = .ok ((m :: ms).map (·, false), st2) := by
  rw [d_mCons, h]
  simp only [Res.ok_bind, h2, hk]
  rfl
end FL

namespace FL
open PySem L2 PySem.Spec PyProof.Rows FW
noncomputable abbrev b1_law_moves_drawn : SF := (sSeq (sSet 5 (mOp gSub (mCall 2 M_law_random [] (mCons (mVar 0) (mCons (mC (.int 9)) mNil))) (mC (.int 4))))
  (sSeq (sSet 6 (mOp gIx (mLst (mCons (mC (.int 0)) (mCons (mC (.int 0)) (mCons (mC (.int 1)) (mCons (mC (.int 2)) (mCons (mC (.int 4)) mNil)))))) (mCall 2 M_law_random [] (mCons (mVar 0) (mCons (mC (.int 5)) mNil)))))
  (sSeq (sSet 7 (mCallB gMin2 (mCons (mOp gAdd (mCallB gMax2 (mCons (mC (.int 0)) (mCons (mOp gSub (mC (.int 0)) (mVar 5)) mNil))) (mVar 6)) (mCons (mOp gSub (mC (.int 8)) (mCallB gMax2 (mCons (mC (.int 0)) (mCons (mVar 5) mNil)))) mNil))))
  (sSeq (sPar 8 9 false false (mOp gIx (mVar 1) (mCall 2 M_law_random [] (mCons (mVar 0) (mCons (mCallB gLen (mCons (mVar 1) mNil)) mNil)))) (mOp gIx (mVar 1) (mCall 2 M_law_random [] (mCons (mVar 0) (mCons (mCallB gLen (mCons (mVar 1) mNil)) mNil)))))
  (sApp (mVar 3) (mTup (mCons (mVar 8) (mCons (mVar 7) (mCons (mVar 5) (mCons (mVar 9) mNil))))))))))
noncomputable def g_law_moves_drawn : SF := (sSeq (sOwn 3 (mLst mNil))
  (sSeq (sFor (iRg1 (mCall 2 M_law_random [] (mCons (mVar 0) (mCons (mOp gAdd (mVar 2) (mC (.int 1))) mNil)))) (gN 4) b1_law_moves_drawn)
  (sRet (mVar 3))))
noncomputable def M_law_moves_drawn : FF := runF 10 g_law_moves_drawn
noncomputable def g_law_drawn : SF := (sSeq (sSet 3 (mSl (mLst (mCons (mC (.str "up")) (mCons (mC (.str "down")) (mCons (mC (.str "mid")) (mCons (mC (.str "move")) mNil))))) oNone (oSome (mOp gAdd (mC (.int 1)) (mCall 2 M_law_random [] (mCons (mVar 0) (mCons (mVar 1) mNil)))))))
  (sRet (mLst (mCons (mVar 3) (mCons (mCall 3 M_law_moves_drawn [] (mCons (mVar 0) (mCons (mVar 3) (mCons (mVar 2) mNil)))) mNil)))))
noncomputable def M_law_drawn : FF := runF 4 g_law_drawn
noncomputable abbrev b2_top_of : SF := (sSeq (sSet 9 (mOp gAdd (mVar 9) (mOp gIx (mOp gIx (mFld "steps" (inB ["Program"]) noB (mVar 0)) (mVar 10)) (mC (.int 2)))))
  (sSet 8 (mCallB gMax2 (mCons (mVar 8) (mCons (mVar 9) mNil)))))
noncomputable abbrev b1_top_of : SF := (sSeq (sAsg (mTup (mCons (mC (.int 0)) (mCons (mC (.int 0)) mNil))) (gT 2 (gsCons (gN 8) (gsCons (gN 9) gsNil))))
  (sSeq (sFor (iSeq (mVar 7)) (gN 10) b2_top_of)
  (sSeq (sSet 5 (mCallB gMax2 (mCons (mVar 5) (mCons (mOp gAdd (mOp gAdd (mVar 4) (mVar 8)) (mCallB gMax2 (mCons (mC (.int 0)) (mCons (mOp gMul (mOp gSub (mVar 6) (mC (.int 1))) (mVar 9)) mNil)))) mNil))))
  (sSet 4 (mOp gAdd (mVar 4) (mOp gMul (mVar 6) (mVar 9)))))))
noncomputable def g_top_of : SF := (sSeq (sExpr (mCall 1 M_check_program [] (mCons (mVar 0) mNil)))
  (sSeq (sExpr (mCall 2 M_check_place [] (mCons (mVar 0) (mCons (mVar 1) mNil))))
  (sSeq (sExpr (mCall 1 M_check_counter [] (mCons (mVar 2) mNil)))
  (sSeq (sIf (mTv (mOp (gIsN false) (mCall 3 M_end_of [] (mCons (mVar 0) (mCons (mVar 1) (mCons (mVar 3) mNil)))) (mC .non))) (sRaise "InvalidRow" "value" [] (mCons (mVar 3) mNil)) sNil)
  (sSeq (sIf (mTv (mOp gLt (mVar 2) (mOp gIx (mCall 2 M_measured [] (mCons (mVar 0) (mCons (mVar 3) mNil))) (mC (.int 0))))) (sRet (mC .non)) sNil)
  (sSeq (sPar 4 5 false false (mVar 2) (mVar 2))
  (sSeq (sFor (iSeq (mVar 3)) (gT 2 (gsCons (gN 6) (gsCons (gN 7) gsNil))) b1_top_of)
  (sRet (mVar 5)))))))))
noncomputable def M_top_of : FF := runF 11 g_top_of
end FL

namespace FL
open PySem L2 PySem.Spec PyProof.Rows FW

abbrev LD (n : Nat) (pl : List Str) (m3 f t4 t5 t6 t7 t8 t9 : Option (MV × Bool)) : Lo := [fz (.ref n), fz (.lst (pl.map .str)), m3, f, t4, t5, t6, t7, t8, t9]
theorem drawn_move {st : Sto} {n : Nat} {N : Int} (g : GenAt st n N) (hN : N ≤ 10 ^ 8) {pl : List Str} (h1 : 1 ≤ pl.length) (h4 : pl.length ≤ 4) {ms : List Move} (hl : ms.length ≤ 100) (m3 t4 t5 t6 t7 t8 t9 : Option (MV × Bool)) :
    ∃ m u5 u6 u7 u8 u9 st', Move.Ok pl m ∧ b1_law_moves_drawn (LD n pl m3 (ow (.lst (ms.map mM))) t4 t5 t6 t7 t8 t9) st = .ok (.nx, LD n pl m3 (ow (.lst ((ms ++ [m]).map mM))) t4 u5 u6 u7 u8 u9, st') ∧ GS st n (N + 100) st' := by
  obtain ⟨r1, s1, a1, b1, e1, G1⟩ := random_ok (bound := 9) g (by omega) (by decide) (by decide)
  obtain ⟨r2, s2, a2, b2, e2, G2⟩ := random_ok (bound := 5) G1.g (by omega) (by decide) (by decide)
  obtain ⟨r3, t3, a3, b3, e3, G3⟩ := random_ok (bound := (pl.length : Int)) G2.g (by omega) (by omega) (by omega)
  obtain ⟨r4, s4, a4, b4, e4, G4⟩ := random_ok (bound := (pl.length : Int)) G3.g (by omega) (by omega) (by omega)
  obtain ⟨w, hw, wm⟩ := atI_ok [(0 : Int), 0, 1, 2, 4] a2 (by simpa using b2)
  have hw' : atI [MV.int 0, .int 0, .int 1, .int 2, .int 4] r2 = some (.int w) := by
    rw [show [MV.int 0, .int 0, .int 1, .int 2, .int 4] = [(0 : Int), 0, 1, 2, 4].map MV.int from rfl, atI_map, hw]; rfl
  have hwb : 0 ≤ w ∧ w ≤ 4 := by
    simp only [List.mem_cons, List.not_mem_nil, or_false] at wm
    rcases wm with rfl | rfl | rfl | rfl | rfl <;> decide
  obtain ⟨x, hx, xm⟩ := atI_str a3 b3
  obtain ⟨y, hy, ym⟩ := atI_str a4 b4
  have z5 : 5 ≤ sizeLine := by decide +kernel
  have z4 : 4 ≤ sizeLine := by decide +kernel
  have gs := (G1.trans G2).trans (G3.trans G4)
  generalize hc : r1 - 4 = c at *
  have cb : -4 ≤ c ∧ c ≤ 4 := by omega
  obtain ⟨l, hl'⟩ : ∃ l : Int, l = (if (8 - if c > 0 then c else 0) < (if 0 - c > 0 then 0 - c else 0) + w then 8 - (if c > 0 then c else 0) else (if 0 - c > 0 then 0 - c else 0) + w) := ⟨_, rfl⟩
  have lb : 0 ≤ l ∧ l ≤ 8 ∧ 0 ≤ l + c ∧ l + c ≤ 8 := by
    rw [hl']; split <;> split <;> (try split) <;> omega
  have c5 : sSet 5 (mOp gSub (mCall 2 M_law_random [] (mCons (mVar 0) (mCons (mC (.int 9)) mNil))) (mC (.int 4))) (LD n pl m3 (ow (.lst (ms.map mM))) t4 t5 t6 t7 t8 t9) st = .ok (.nx, LD n pl m3 (ow (.lst (ms.map mM))) t4 (fz (.int c)) t6 t7 t8 t9, s1) := by
    simp [LD, callR_ok _ _ e1, hc]
  have c6 : sSet 6 (mOp gIx (mLst (mCons (mC (.int 0)) (mCons (mC (.int 0)) (mCons (mC (.int 1)) (mCons (mC (.int 2)) (mCons (mC (.int 4)) mNil)))))) (mCall 2 M_law_random [] (mCons (mVar 0) (mCons (mC (.int 5)) mNil)))) (LD n pl m3 (ow (.lst (ms.map mM))) t4 (fz (.int c)) t6 t7 t8 t9) s1 = .ok (.nx, LD n pl m3 (ow (.lst (ms.map mM))) t4 (fz (.int c)) (fz (.int w)) t7 t8 t9, s2) := by
    simp [LD, callR_ok _ _ e2, hw', z5]
  have c7 : sSet 7 (mCallB gMin2 (mCons (mOp gAdd (mCallB gMax2 (mCons (mC (.int 0)) (mCons (mOp gSub (mC (.int 0)) (mVar 5)) mNil))) (mVar 6)) (mCons (mOp gSub (mC (.int 8)) (mCallB gMax2 (mCons (mC (.int 0)) (mCons (mVar 5) mNil)))) mNil))) (LD n pl m3 (ow (.lst (ms.map mM))) t4 (fz (.int c)) (fz (.int w)) t7 t8 t9) s2 = .ok (.nx, LD n pl m3 (ow (.lst (ms.map mM))) t4 (fz (.int c)) (fz (.int w)) (fz (.int l)) t8 t9, s2) := by
    rw [hl']; rfl
  have c89 : sPar 8 9 false false (mOp gIx (mVar 1) (mCall 2 M_law_random [] (mCons (mVar 0) (mCons (mCallB gLen (mCons (mVar 1) mNil)) mNil)))) (mOp gIx (mVar 1) (mCall 2 M_law_random [] (mCons (mVar 0) (mCons (mCallB gLen (mCons (mVar 1) mNil)) mNil)))) (LD n pl m3 (ow (.lst (ms.map mM))) t4 (fz (.int c)) (fz (.int w)) (fz (.int l)) t8 t9) s2 = .ok (.nx, LD n pl m3 (ow (.lst (ms.map mM))) t4 (fz (.int c)) (fz (.int w)) (fz (.int l)) (fz (.str x)) (fz (.str y)), s4) := by
    simp [LD, callR_ok _ _ e3, callR_ok _ _ e4, hx, hy]
  refine ⟨⟨x, l, c, y⟩, fz (.int c), fz (.int w), fz (.int l), fz (.str x), fz (.str y), s4, ⟨xm, ym, lb.1, lb.2.1, cb.1, cb.2, lb.2.2.1, lb.2.2.2⟩, seq_ok c5 (seq_ok c6 (seq_ok c7 (seq_ok c89 ?_))), gs.up (by omega)⟩
  rw [List.map_append]
  refine app_ok (i := 3) (x := .lst (ms.map mM)) (m := mM ⟨x, l, c, y⟩) (kd := .fr) (st1 := s4) rfl rfl ?_ rfl (Nat.lt_of_le_of_lt (by rw [List.length_map]; exact hl) (by decide +kernel))
  simp [z4, mM]
theorem movesDrawn_ok {st : Sto} {n : Nat} {N : Int} (g : GenAt st n N) (hN : N ≤ 10 ^ 7) {pl : List Str} (h1 : 1 ≤ pl.length) (h4 : pl.length ≤ 4) {most : Nat} (m9 : most ≤ 10) :
    ∃ (ms : List Move) (st' : Sto), (∀ m, m ∈ ms → Move.Ok pl m) ∧ ms.length ≤ most ∧ M_law_moves_drawn [.ref n, .lst (pl.map .str), .int (most : Nat)] st = .ok (.lst (ms.map mM), true, st') ∧ GS st n (N + 2000) st' := by
  obtain ⟨r, s1, a1, b1, e1, G1⟩ := random_ok (bound := (most : Int) + 1) g (by omega) (by omega) (by omega)
  obtain ⟨lo', s2, e2, ms, u4, u5, u6, u7, u8, u9, hlo, hms, hl, G2⟩ := forL_run (ck := fun _ _ => True) (gf := gN 4) (body := b1_law_moves_drawn)
    (Inv := fun j lo s' => ∃ (ms : List Move) (u4 u5 u6 u7 u8 u9 : Option (MV × Bool)), lo = LD n pl (fz (.int (most : Nat))) (ow (.lst (ms.map mM))) u4 u5 u6 u7 u8 u9 ∧ (∀ m, m ∈ ms → Move.Ok pl m) ∧ ms.length = j ∧ GS s1 n (N + 10 + 100 * (j : Nat)) s') (items := rgM 0 r) (fun _ _ _ _ => trivial)
    (fun j x lo s' hx ⟨ms, u4, u5, u6, u7, u8, u9, hlo, hms, hl, G⟩ => by
      obtain ⟨_, hj⟩ := rgM_get hx
      subst hlo
      obtain ⟨m, v5, v6, v7, v8, v9, s3, hm, e, G'⟩ := drawn_move G.g (by omega) h1 h4 (ms := ms) (by omega) (fz (.int (most : Nat))) (fz x) u5 u6 u7 u8 u9
      refine ⟨_, _, _, s3, rfl, e, ms ++ [m], fz x, v5, v6, v7, v8, v9, rfl, fun y hy => ?_, by simp [hl], (G.trans G').up (by omega)⟩
      rcases List.mem_append.mp hy with hy | hy
      · exact hms y hy
      · rw [List.mem_singleton] at hy; subst hy; exact hm)
    (LD n pl (fz (.int (most : Nat))) (ow (.lst [])) none none none none none none) s1 ⟨[], none, none, none, none, none, none, rfl, fun m hm => (by cases hm), rfl, (GS.refl G1.g).up (by omega)⟩
  subst hlo
  rw [rgM_len] at hl G2
  refine ⟨ms, s2, hms, by omega, ?_, (G1.trans G2).up (by omega)⟩
  unfold M_law_moves_drawn g_law_moves_drawn
  exact runF_own (k := .pk 3) (lo0 := [fz (.ref n), fz (.lst (pl.map .str)), fz (.int (most : Nat)), none, none, none, none, none, none, none]) rfl
    (seq_ok (lo1 := LD n pl (fz (.int (most : Nat))) (ow (.lst [])) none none none none none none) (st1 := st) rfl (seq_ok (for_ok (iRg1_ok (k := .fz) (j := r) (st1 := s1) (callV (ms := [.ref n, .int ((most : Int) + 1)]) (b := false) (st1 := st) (by simp) rfl e1) (by unfold Rg62; omega)) e2) (ret_ok rfl))) rfl
theorem drawn_ok {st : Sto} {n : Nat} {N : Int} (g : GenAt st n N) (hN : N ≤ 10 ^ 6) {many : Int} (c1 : 1 ≤ many) (c4 : many ≤ 4) {most : Nat} (m9 : most ≤ 10) :
    ∃ P st', Prog.Ok P ∧ (∃ k : Nat, 1 ≤ k ∧ (k : Int) ≤ many ∧ P.pl = NB.take k) ∧ P.mv.length ≤ most ∧ M_law_drawn [.ref n, .int many, .int (most : Nat)] st = .ok (partsM P, true, st') ∧ GS st n (N + 3000) st' := by
  obtain ⟨r1, s1, a1, b1, e1, G1⟩ := random_ok (bound := many) g (by omega) (by omega) (by omega)
  have z4 : 4 ≤ sizeLine := by decide +kernel
  have z2 : 2 ≤ sizeLine := by decide +kernel
  have hsl : ∃ k : Nat, 1 ≤ k ∧ k ≤ 4 ∧ (k : Int) ≤ many ∧ cutM [MV.str "up", .str "down", .str "mid", .str "move"] none (some (1 + r1)) = (NB.take k).map .str := by
    have : r1 = 0 ∨ r1 = 1 ∨ r1 = 2 ∨ r1 = 3 := by omega
    rcases this with rfl | rfl | rfl | rfl
    · exact ⟨1, by decide, by decide, by omega, rfl⟩
    · exact ⟨2, by decide, by decide, by omega, rfl⟩
    · exact ⟨3, by decide, by decide, by omega, rfl⟩
    · exact ⟨4, by decide, by decide, by omega, rfl⟩
  obtain ⟨k, k1, k4, km, hcut⟩ := hsl
  have pk : PlOk (NB.take k) := ⟨k, k1, k4, .inr rfl⟩
  obtain ⟨ms, s2, hms, hl, e2, G2⟩ := movesDrawn_ok G1.g (by omega) pk.len1 pk.len4 m9
  refine ⟨⟨NB.take k, ms⟩, s2, ⟨⟨k, k1, k4, .inr rfl⟩, hms, by show ms.length ≤ 10; omega⟩, ⟨k, k1, km, rfl⟩, hl, ?_, (G1.trans G2).up (by omega)⟩
  unfold M_law_drawn g_law_drawn
  refine runF_own (k := .fr) (lo0 := [fz (.ref n), fz (.int many), fz (.int (most : Nat)), none]) (lo := [fz (.ref n), fz (.int many), fz (.int (most : Nat)), fz (.lst ((NB.take k).map .str))]) rfl
    (seq_ok (lo1 := [fz (.ref n), fz (.int many), fz (.int (most : Nat)), fz (.lst ((NB.take k).map .str))]) (st1 := s1) ?_ (ret_ok ?_)) rfl
  · have hs : mSl (mLst (mCons (mC (.str "up")) (mCons (mC (.str "down")) (mCons (mC (.str "mid")) (mCons (mC (.str "move")) mNil))))) oNone (oSome (mOp gAdd (mC (.int 1)) (mCall 2 M_law_random [] (mCons (mVar 0) (mCons (mVar 1) mNil))))) [fz (.ref n), fz (.int many), fz (.int (most : Nat)), none] st = .ok (.lst ((NB.take k).map .str), .fr, s1) := by
      unfold mSl oSome oNone
      simp [z4, callR_ok _ _ e1, gSl, hcut]
    exact set_ok hs rfl
  · have e3 : mCall 3 M_law_moves_drawn [] (mCons (mVar 0) (mCons (mVar 3) (mCons (mVar 2) mNil))) [fz (.ref n), fz (.int many), fz (.int (most : Nat)), fz (.lst ((NB.take k).map .str))] s1 = .ok (.lst (ms.map mM), .fr, s2) :=
      callV (ms := [.ref n, .lst ((NB.take k).map .str), .int (most : Nat)]) (b := true) (st1 := s1) rfl rfl e2
    simp only [d_mLst, d_mCons, d_mVar, e3, d_mNil, Res.ok_bind, List.getElem?_cons_succ, List.getElem?_cons_zero]
    simp [z2, e3, partsM, plM, mvM]
end FL

namespace FL
open PySem L2 PySem.Spec PyProof.Rows FW

def mx (i j : Int) : Int := if j > i then j else i
theorem mx_l (i j : Int) : i ≤ mx i j := by unfold mx; split <;> omega
theorem mx_r (i j : Int) : j ≤ mx i j := by unfold mx; split <;> omega
theorem mx_le {i j k : Int} (h : i ≤ k) (h2 : j ≤ k) : mx i j ≤ k := by unfold mx; split <;> omega
theorem mx_eq_l {i j : Int} (h : j ≤ i) : mx i j = i := by unfold mx; split <;> omega
theorem mx_eq_r {i j : Int} (h : i ≤ j) : mx i j = j := by unfold mx; split <;> omega
/-- rise and change of numbers -/
def riN (P : Prog) : Int × Int → List MV → Int × Int
  | a, [] => a
  | a, x :: xs => match stepAt P x with
    | some s => riN P (mx a.1 (a.2 + s.c), a.2 + s.c) xs
    | none => a
def topR (P : Prog) : Int × Int → List MV → Int × Int
  | a, [] => a
  | a, x :: xs => match x with
    | .tup [.int t, .lst ns] => topR P (a.1 + t * (riN P (0, 0) ns).2, mx a.2 (a.1 + (riN P (0, 0) ns).1 + mx 0 ((t - 1) * (riN P (0, 0) ns).2))) xs
    | _ => a
def topM (P : Prog) (c : Int) (xs : List MV) : MV := if c < (measR P (0, 0) xs).1 then .non else .int (topR P (c, c) xs).2
section
variable {P : Prog} {st : Sto}
theorem riN_cons (h : P.Ok) {p q : Str} {x : MV} {xs : List MV} (e : chain P p (x :: xs) = some q) : ∃ s, stepAt P x = some s ∧ s.Ok P.pl ∧ s.p = p ∧ chain P s.o xs = some q ∧ (∀ a, riN P a (x :: xs) = riN P (mx a.1 (a.2 + s.c), a.2 + s.c) xs) := by
  obtain ⟨s, es, so, hp, e2, _⟩ := chain_cons h e
  refine ⟨s, es, so, hp, e2, fun a => ?_⟩
  show (match stepAt P x with | some s => riN P (mx a.1 (a.2 + s.c), a.2 + s.c) xs | none => a) = _
  rw [es]
theorem riN_c (h : P.Ok) : ∀ (xs : List MV) (p q : Str) (a b : Int × Int), chain P p xs = some q → a.2 = b.2 → (riN P a xs).2 = (measN P b xs).2
  | [], _, _, a, b, _, e => e
  | x :: xs, p, q, a, b, e, hab => by
    obtain ⟨s, es, so, _, e2, e3⟩ := riN_cons h e
    obtain ⟨s', es', _, _, _, e3'⟩ := chain_cons h e
    rw [es] at es'; cases es'
    rw [e3, e3']
    exact riN_c h xs _ _ _ _ e2 (by rw [join_c]; show a.2 + s.c = b.2 + s.c; rw [hab])
theorem riN_b (h : P.Ok) : ∀ (xs : List MV) (p q : Str) (a : Int × Int) (M : Int), chain P p xs = some q → a.1 ≤ M → a.2 + 4 * xs.length ≤ M → (riN P a xs).1 ≤ M
  | [], _, _, a, M, _, h1, _ => h1
  | x :: xs, p, q, a, M, e, h1, h2 => by
    obtain ⟨s, es, so, _, e2, e3⟩ := riN_cons h e
    have := so.c5
    simp only [List.length_cons] at h2
    rw [e3]
    exact riN_b h xs _ _ _ M e2 (mx_le h1 (by omega)) (by show a.2 + s.c + 4 * (xs.length : Int) ≤ M; omega)
theorem riN_le (h : P.Ok) : ∀ (xs : List MV) (p q : Str) (a : Int × Int), chain P p xs = some q → a.1 ≤ (riN P a xs).1 ∧ (xs ≠ [] → (riN P a xs).2 ≤ (riN P a xs).1)
  | [], _, _, a, _ => ⟨Int.le_refl _, fun z => absurd rfl z⟩
  | x :: xs, p, q, a, e => by
    obtain ⟨s, es, so, _, e2, e3⟩ := riN_cons h e
    rw [e3]
    obtain ⟨a1, a2⟩ := riN_le h xs _ _ (mx a.1 (a.2 + s.c), a.2 + s.c) e2
    refine ⟨Int.le_trans (mx_l _ _) a1, fun _ => ?_⟩
    cases xs with
    | nil => exact mx_r _ _
    | cons y ys => exact a2 (by simp)
abbrev LTo (P : Prog) (a b c : Option (MV × Bool)) (now top : Int) (t6 t7 t8 t9 t10 : Option (MV × Bool)) : Lo := [fz (progM P), a, b, c, fz (.int now), fz (.int top), t6, t7, t8, t9, t10]
theorem ix2 (s : Move) : gIx st (mM s) (.int 2) = some (.int s.c, false) := rfl
theorem top_in (h : P.Ok) (a b c : Option (MV × Bool)) (now top : Int) (t6 t7 : Option (MV × Bool)) : ∀ (xs : List MV) (p q : Str) (r : Int × Int) (t10 : Option (MV × Bool)), chain P p xs = some q →
    ∃ u10, forL ckT (gN 10) b2_top_of xs (LTo P a b c now top t6 t7 (fz (.int r.1)) (fz (.int r.2)) t10) st = .ok (.nx, LTo P a b c now top t6 t7 (fz (.int (riN P r xs).1)) (fz (.int (riN P r xs).2)) u10, st)
  | [], p, q, r, t10, _ => ⟨t10, forL_end⟩
  | x :: xs, p, q, r, t10, e => by
    obtain ⟨s, es, so, _, e2, e3⟩ := riN_cons h e
    obtain ⟨_, i, rfl, i0, i1, ia⟩ := stepAt_ok h es
    rw [e3]
    obtain ⟨u10, e4⟩ := top_in h a b c now top t6 t7 xs s.o q (mx r.1 (r.2 + s.c), r.2 + s.c) (fz (.int i)) e2
    have hf : mFld "steps" (inB ["Program"]) noB (mVar 0) (LTo P a b c now top t6 t7 (fz (.int r.1)) (fz (.int r.2)) (fz (.int i))) st = .ok (.tup (mvM P), .fz, st) := fldSt rfl
    refine ⟨u10, forL_nx (lo1 := LTo P a b c now top t6 t7 (fz (.int r.1)) (fz (.int r.2)) (fz (.int i))) (st1 := st) rfl (seq_ok (lo1 := LTo P a b c now top t6 t7 (fz (.int r.1)) (fz (.int (r.2 + s.c))) (fz (.int i))) (st1 := st) (set_ok (k := .fz) (opV (a := .int r.2) (b := .int s.c) rfl (opV (ixOk hf rfl ia) rfl (ix2 s)) rfl) rfl) rfl) e4⟩
theorem top_out (h : P.Ok) (a b c : Option (MV × Bool)) : ∀ (xs : List MV) (p q : Str) (w : Int × Int) (t6 t7 t8 t9 t10 : Option (MV × Bool)), rowEnd P p xs = some q → RowS xs →
    ∃ u6 u7 u8 u9 u10, forL ckT (gT 2 (gsCons (gN 6) (gsCons (gN 7) gsNil))) b1_top_of xs (LTo P a b c w.1 w.2 t6 t7 t8 t9 t10) st = .ok (.nx, LTo P a b c (topR P w xs).1 (topR P w xs).2 u6 u7 u8 u9 u10, st)
  | [], p, q, w, t6, t7, t8, t9, t10, _, _ => ⟨t6, t7, t8, t9, t10, forL_end⟩
  | x :: xs, p, q, w, t6, t7, t8, t9, t10, e, hs => by
    obtain ⟨n, y, ys, r2, rfl, h1, ec, er, _, _, _⟩ := rowEnd_cons h e
    obtain ⟨hn, hl⟩ := hs _ (List.mem_cons_self ..) n (y :: ys) rfl
    have hc := measN_c h (y :: ys) (0, 0)
    rw [← riN_c h (y :: ys) p r2 (0, 0) (0, 0) ec rfl] at hc
    obtain ⟨v10, e5⟩ := top_in (st := st) h a b c w.1 w.2 (fz (.int n)) (fz (.lst (y :: ys))) (y :: ys) p r2 (0, 0) t10 ec
    have em : topR P w (.tup [.int n, .lst (y :: ys)] :: xs) = topR P (w.1 + n * (riN P (0, 0) (y :: ys)).2, mx w.2 (w.1 + (riN P (0, 0) (y :: ys)).1 + mx 0 ((n - 1) * (riN P (0, 0) (y :: ys)).2))) xs := rfl
    rw [em]
    generalize riN P (0, 0) (y :: ys) = m at *
    have hm2 : m.2.natAbs < 10 ^ 100 := Nat.lt_of_le_of_lt hc (Nat.lt_of_le_of_lt (by simp only [Int.natAbs_zero, Nat.zero_add]; exact Nat.mul_le_mul_left 4 hl) (by decide +kernel))
    have hn2 : n.natAbs < 10 ^ 100 := Nat.lt_of_lt_of_le hn (by decide +kernel)
    have hn3 : (n - 1).natAbs < 10 ^ 100 := by
      have : (10 : Nat) ^ 90 < 10 ^ 100 := by decide +kernel
      omega
    have m1 : CMulW (n - 1) m.2 := mul100 hn3 hm2
    have m2 : CMulW n m.2 := mul100 hn2 hm2
    obtain ⟨u6, u7, u8, u9, u10, e4⟩ := top_out h a b c xs r2 q (w.1 + n * m.2, mx w.2 (w.1 + m.1 + mx 0 ((n - 1) * m.2))) (fz (.int n)) (fz (.lst (y :: ys))) (fz (.int m.1)) (fz (.int m.2)) v10 er (fun z hz => hs z (List.mem_cons_of_mem _ hz))
    refine ⟨u6, u7, u8, u9, u10, forL_nx (lo1 := LTo P a b c w.1 w.2 (fz (.int n)) (fz (.lst (y :: ys))) t8 t9 t10) (st1 := st) rfl (seq_ok (lo1 := LTo P a b c w.1 w.2 (fz (.int n)) (fz (.lst (y :: ys))) (fz (.int 0)) (fz (.int 0)) t10) (st1 := st) (asg_ok (k := .fr) (m := .tup [.int 0, .int 0]) (st1 := st) (by simp [show 2 ≤ sizeLine by decide +kernel]) rfl rfl) (seq_ok (for_ok (iSeq_ok (k := .fz) (xs := y :: ys) (st1 := st) rfl rfl) e5) (seq_ok (lo1 := LTo P a b c w.1 (mx w.2 (w.1 + m.1 + mx 0 ((n - 1) * m.2))) (fz (.int n)) (fz (.lst (y :: ys))) (fz (.int m.1)) (fz (.int m.2)) v10) (st1 := st) ?_ (set_ok (k := .fz) (m := .int (w.1 + n * m.2)) ?_ rfl)))) e4⟩
    · refine set_ok (k := .fz) ?_ rfl
      have e6 : mOp gMul (mOp gSub (mVar 6) (mC (.int 1))) (mVar 9) (LTo P a b c w.1 w.2 (fz (.int n)) (fz (.lst (y :: ys))) (fz (.int m.1)) (fz (.int m.2)) v10) st = .ok (.int ((n - 1) * m.2), .fz, st) := opV (a := .int (n - 1)) (b := .int m.2) rfl rfl (d_gMul _ _ _ m1)
      rw [d_mCallB, d_mCons]
      show (_ >>= _) = _
      simp only [d_mVar, List.getElem?_cons_succ, List.getElem?_cons_zero, Res.ok_bind, d_mCons, d_mOp, d_mCallB, d_mC, vw_int, d_gAdd, d_give0, d_gSub, d_gMul _ _ _ m1, d_mNil, List.map_cons, List.map_nil, d_gMax2]
      rfl
    · exact opV (a := .int w.1) (b := .int (n * m.2)) rfl (opV (a := .int n) (b := .int m.2) rfl rfl (d_gMul _ _ _ m2)) rfl
theorem topOf_ok (h : P.Ok) {p q : Str} (hp : p ∈ P.pl) {xs : List MV} (hm : RowG (.lst xs)) (e : rowEnd P p xs = some q) (hs : RowS xs) {c : Int} (hc : 0 ≤ c) : M_top_of [progM P, .str p, .int c, .lst xs] st = .ok (topM P c xs, false, st) := by
  have c1 : sExpr (mCall 1 M_check_program [] (mCons (mVar 0) mNil)) [fz (progM P), fz (.str p), fz (.int c), fz (.lst xs), none, none, none, none, none, none, none] st = .ok (.nx, [fz (progM P), fz (.str p), fz (.int c), fz (.lst xs), none, none, none, none, none, none, none], st) := expr_ok (k := .fz) (callV (ms := [progM P]) (b := false) (st1 := st) rfl rfl (chkP_ok P st))
  have c2 : sExpr (mCall 2 M_check_place [] (mCons (mVar 0) (mCons (mVar 1) mNil))) [fz (progM P), fz (.str p), fz (.int c), fz (.lst xs), none, none, none, none, none, none, none] st = .ok (.nx, [fz (progM P), fz (.str p), fz (.int c), fz (.lst xs), none, none, none, none, none, none, none], st) := expr_ok (k := .fz) (callV (ms := [progM P, .str p]) (b := false) (st1 := st) rfl rfl (chkS_ok hp st))
  have c3 : sExpr (mCall 1 M_check_counter [] (mCons (mVar 2) mNil)) [fz (progM P), fz (.str p), fz (.int c), fz (.lst xs), none, none, none, none, none, none, none] st = .ok (.nx, [fz (progM P), fz (.str p), fz (.int c), fz (.lst xs), none, none, none, none, none, none, none], st) := expr_ok (k := .fz) (callV (ms := [.int c]) (b := false) (st1 := st) rfl rfl (chkC_ok hc st))
  have ee := endOf_ok (st := st) h hp hm
  rw [show rowEndM P p (.lst xs) = rowEnd P p xs from rfl, e] at ee
  have c4 : mTv (mOp (gIsN false) (mCall 3 M_end_of [] (mCons (mVar 0) (mCons (mVar 1) (mCons (mVar 3) mNil)))) (mC .non)) [fz (progM P), fz (.str p), fz (.int c), fz (.lst xs), none, none, none, none, none, none, none] st = .ok (false, st) := tv_ok (k := .fz) (opV (callV (ms := [progM P, .str p, .lst xs]) (b := false) (st1 := st) rfl rfl ee) rfl rfl)
  have em := measured_ok (st := st) h e hs
  have c5 : mTv (mOp gLt (mVar 2) (mOp gIx (mCall 2 M_measured [] (mCons (mVar 0) (mCons (mVar 3) mNil))) (mC (.int 0)))) [fz (progM P), fz (.str p), fz (.int c), fz (.lst xs), none, none, none, none, none, none, none] st = .ok (decide (c < (measR P (0, 0) xs).1), st) :=
    tv_ok (k := .fz) (opV (a := .int c) (b := .int (measR P (0, 0) xs).1) (st1 := st) rfl (opV (callV (ms := [progM P, .lst xs]) (b := false) (st1 := st) rfl rfl em) rfl (pr0 _)) rfl)
  unfold M_top_of g_top_of
  by_cases hn : c < (measR P (0, 0) xs).1
  · rw [decide_eq_true hn] at c5
    rw [show topM P c xs = .non from if_pos hn]
    exact runF_own (k := .fz) (lo0 := [fz (progM P), fz (.str p), fz (.int c), fz (.lst xs), none, none, none, none, none, none, none]) rfl (seq_ok c1 (seq_ok c2 (seq_ok c3 (seq_ok (if_ff c4 rfl) (seq_rt (if_tt c5 (ret_ok rfl))))))) rfl
  · rw [decide_eq_false hn] at c5
    rw [show topM P c xs = .int (topR P (c, c) xs).2 from if_neg hn]
    obtain ⟨u6, u7, u8, u9, u10, e6⟩ := top_out (st := st) h (fz (.str p)) (fz (.int c)) (fz (.lst xs)) xs p q (c, c) none none none none none e hs
    exact runF_own (k := .fz) (lo0 := [fz (progM P), fz (.str p), fz (.int c), fz (.lst xs), none, none, none, none, none, none, none]) rfl (seq_ok c1 (seq_ok c2 (seq_ok c3 (seq_ok (if_ff c4 rfl) (seq_ok (if_ff c5 rfl) (seq_ok (lo1 := LTo P (fz (.str p)) (fz (.int c)) (fz (.lst xs)) c c none none none none none) (st1 := st) rfl (seq_ok (for_ok (iSeq_ok (k := .fz) (xs := xs) (st1 := st) rfl rfl) e6) (ret_ok rfl)))))))) rfl
theorem topOf_P {m a b c : MV} (hm : pln m = true) : ∃ lo, M_top_of [m, a, b, c] st = .exc "InvalidProgram" [("value", m)] lo st := by
  obtain ⟨lo, e⟩ := chkP_no hm st
  exact ⟨[fz m, fz a, fz b, fz c, none, none, none, none, none, none, none], by simp [M_top_of, d_runF, startM, g_top_of, callR_exc _ _ e]⟩
theorem topOf_S {m b c : MV} (hm : pln m = true) (hc : plcB P.pl m = false) : ∃ lo, M_top_of [progM P, m, b, c] st = .exc "UnknownName" [("name", m)] lo st := by
  obtain ⟨lo, e⟩ := chkS_no (P := P) hm hc st
  exact ⟨[fz (progM P), fz m, fz b, fz c, none, none, none, none, none, none, none], by simp [M_top_of, d_runF, startM, g_top_of, callR_ok _ _ (chkP_ok P st), callR_exc _ _ e]⟩
theorem topOf_C {p : Str} (hp : p ∈ P.pl) {m c : MV} (hm : pln m = true) (hc : cntB m = false) : ∃ lo, M_top_of [progM P, .str p, m, c] st = .exc "InvalidNumber" [("value", m)] lo st := by
  obtain ⟨lo, e⟩ := chkC_no hm hc st
  exact ⟨[fz (progM P), fz (.str p), fz m, fz c, none, none, none, none, none, none, none], by simp [M_top_of, d_runF, startM, g_top_of, callR_ok _ _ (chkP_ok P st), callR_ok _ _ (chkS_ok hp st), callR_exc _ _ e]⟩
theorem topOf_R (h : P.Ok) {p : Str} (hp : p ∈ P.pl) {c : Int} (hc : 0 ≤ c) {m : MV} (hm : RowG m) (e : rowEndM P p m = none) : ∃ lo, M_top_of [progM P, .str p, .int c, m] st = .exc "InvalidRow" [("value", m)] lo st := by
  have ee := endOf_ok (st := st) h hp hm
  rw [e] at ee
  exact ⟨[fz (progM P), fz (.str p), fz (.int c), fz m, none, none, none, none, none, none, none], by simp [M_top_of, d_runF, startM, g_top_of, callR_ok _ _ (chkP_ok P st), callR_ok _ _ (chkS_ok hp st), callR_ok _ _ (chkC_ok hc st), callR_ok _ _ ee, oS, FW.isNon]⟩
end
end FL

namespace FL
open PySem L2 PySem.Spec PyProof.Rows FW

theorem isMove_okB {pl : List Str} (hp : ∀ x, x ∈ pl → PyData.strOk x = true) {m b' : MV} (h : pln m = true) (hx : ∀ xs, m = .tup xs → ∀ x, x ∈ xs → gd dpt x = true) (st : Sto) (hB : vw st b' = .lst (pl.map .str)) : M_is_move [m, b'] st = .ok (.bl (moveB pl m), false, st) := by
  cases m with
  | tup xs =>
    have ha := hx xs rfl
    match xs, ha with
    | [], _ => simp [M_is_move, d_runF, startM, g_is_move, hB, tyAns, isT, tys7, eqI, moveB]
    | [_], _ => simp [M_is_move, d_runF, startM, g_is_move, hB, tyAns, isT, tys7, eqI, moveB]
    | [_, _], _ => simp [M_is_move, d_runF, startM, g_is_move, hB, tyAns, isT, tys7, eqI, moveB]
    | [_, _, _], _ => simp [M_is_move, d_runF, startM, g_is_move, hB, tyAns, isT, tys7, eqI, moveB]
    | _ :: _ :: _ :: _ :: _ :: r, _ =>
      have e : ((r.length : Int) + 1 + 1 + 1 + 1 + 1 == 4) = false := by simp; omega
      simp [M_is_move, d_runF, startM, g_is_move, hB, tyAns, isT, tys7, eqI, moveB, e]
    | [a, b, c, d], ha =>
      have ga := ha a (by simp)
      have gb := ha b (by simp)
      have gc := ha c (by simp)
      have gdd := ha d (by simp)
      have y0 : atI [a, b, c, d] 0 = some a := rfl
      have y1 : atI [a, b, c, d] 1 = some b := rfl
      have y2 : atI [a, b, c, d] 2 = some c := rfl
      have y3 : atI [a, b, c, d] 3 = some d := rfl
      have ia := inPl_ok (neg := true) hp ga st
      have id := inPl_ok (neg := true) hp gdd st
      have va := gd_vw ga st
      have vd := gd_vw gdd st
      have wb := callR_ok [fz (.tup [a, b, c, d]), fz b'] st (within_ok (gd_pln gb) 0 8 st)
      have wc := callR_ok [fz (.tup [a, b, c, d]), fz b'] st (within_ok (gd_pln gc) (-4) 4 st)
      show _ = Res.ok (MV.bl (inPl pl a && (inPl pl d && (win 0 8 b && (win (-4) 4 c && _)))), false, st)
      cases qa : inPl pl a with
      | false => rw [qa] at ia; simp [M_is_move, d_runF, startM, g_is_move, hB, tyAns, isT, tys7, eqI, y0, va, ia]
      | true =>
        cases qd : inPl pl d with
        | false => rw [qa] at ia; rw [qd] at id; simp [M_is_move, d_runF, startM, g_is_move, hB, tyAns, isT, tys7, eqI, y0, y3, va, vd, ia, id]
        | true =>
          rw [qa] at ia; rw [qd] at id
          cases qb : win 0 8 b with
          | false => rw [qb] at wb; simp [M_is_move, d_runF, startM, g_is_move, hB, tyAns, isT, tys7, eqI, y0, y1, y3, va, vd, ia, id, wb]
          | true =>
            rw [qb] at wb
            cases qc : win (-4) 4 c with
            | false => rw [qc] at wc; simp [M_is_move, d_runF, startM, g_is_move, hB, tyAns, isT, tys7, eqI, y0, y1, y2, y3, va, vd, ia, id, wb, wc]
            | true =>
              rw [qc] at wc
              obtain ⟨l, rfl⟩ := win_int qb
              obtain ⟨ch, rfl⟩ := win_int qc
              by_cases q0 : 0 ≤ l + ch
              · simp [M_is_move, d_runF, startM, g_is_move, hB, tyAns, isT, tys7, eqI, y0, y1, y2, y3, va, vd, ia, id, wb, wc, q0]
              · simp [M_is_move, d_runF, startM, g_is_move, hB, tyAns, isT, tys7, eqI, y0, y1, y2, y3, va, vd, ia, id, wb, wc, q0]
  | _ => first | (exact Bool.noConfusion h) | simp [M_is_move, d_runF, startM, g_is_move, hB, tyAns, isT, tys7, moveB]
/-- a list, or the place of one in the store -/
def IsL (st : Sto) (a : MV) (xs : List MV) : Prop := a = .lst xs ∨ ∃ n, a = .ref n ∧ st[n]? = some (.lst xs)
theorem IsL.vw {st : Sto} {a : MV} {xs : List MV} (h : IsL st a xs) : vw st a = .lst xs := by
  rcases h with rfl | ⟨n, rfl, e⟩
  · rfl
  · exact vw_ref st n e
theorem iEn_any {f : EF} {lo : Lo} {st : Sto} {a : MV} {xs : List MV} {k : Kd} (h : f lo st = .ok (a, k, st)) (hk : isPk k = false) (hL : IsL st a xs) : ∃ ck : CK, iEn f lo st = .ok (enumM xs, ck, st) ∧ ∀ lo, ck lo st := by
  have ef : frzd (a, k, st) = .ok (a, st) := by cases k <;> first | rfl | cases hk
  rcases hL with rfl | ⟨n, rfl, e⟩
  · exact ⟨fun _ _ => True, by unfold iEn; rw [h]; simp only [Res.ok_bind, ef], fun _ => trivial⟩
  · exact ⟨fun _ st' => st'[n]? = some (.lst xs), by unfold iEn; rw [h]; simp only [Res.ok_bind, ef, e], fun _ => e⟩
theorem iSeq_any {f : EF} {lo : Lo} {st : Sto} {a : MV} {xs : List MV} {k : Kd} (h : f lo st = .ok (a, k, st)) (hk : isPk k = false) (hL : IsL st a xs) : ∃ ck : CK, iSeq f lo st = .ok (xs, ck, st) ∧ ∀ lo, ck lo st := by
  have ef : frzd (a, k, st) = .ok (a, st) := by cases k <;> first | rfl | cases hk
  rcases hL with rfl | ⟨n, rfl, e⟩
  · exact ⟨fun _ _ => True, by unfold iSeq; rw [h]; simp only [Res.ok_bind, ef, src], fun _ => trivial⟩
  · exact ⟨fun _ st' => st'[n]? = some (.lst xs), by unfold iSeq; rw [h]; simp only [Res.ok_bind, ef, src, e], fun _ => e⟩
/-- the first turns of a loop, that go on -/
theorem forL_pre {ck : CK} {gf : GF} {body : SF} {st : Sto} {Inv : Lo → Prop} (hck : ∀ lo, ck lo st) : ∀ (pre rest : List MV) (lo : Lo), (∀ (i : Nat) (x : MV) (lo : Lo), pre[i]? = some x → Inv lo → ∃ lo1 lo2, gf x lo st = .ok (lo1, st) ∧ body lo1 st = .ok (.nx, lo2, st) ∧ Inv lo2) → Inv lo → ∃ lo', Inv lo' ∧ forL ck gf body (pre ++ rest) lo st = forL ck gf body rest lo' st
  | [], rest, lo, _, h => ⟨lo, h, rfl⟩
  | x :: xs, rest, lo, hb, h => by
    obtain ⟨lo1, lo2, e1, e2, h2⟩ := hb 0 x lo rfl h
    obtain ⟨lo', h', e'⟩ := forL_pre hck xs rest lo2 (fun i y lo hy hi => hb (i + 1) y lo (by simpa using hy) hi) h2
    refine ⟨lo', h', ?_⟩
    rw [List.cons_append, forL_cons, if_pos (hck _), e1]
    simp only [Res.ok_bind]
    rw [e2]
    exact e'
theorem enum_split (xs : List MV) (k : Nat) : enumM xs = (enumM xs).take k ++ (enumM xs).drop k := (List.take_append_drop k _).symm
theorem enumM_at {xs : List MV} {k : Nat} {x : MV} (h : xs[k]? = some x) : (enumM xs)[k]? = some (.tup [.int (k : Nat), x]) := by
  unfold enumM
  rw [List.getElem?_map, List.getElem?_zipIdx, h]
  simp
theorem drop_at {α : Type} {xs : List α} {k : Nat} {x : α} (h : xs[k]? = some x) : xs.drop k = x :: xs.drop (k + 1) := by
  have hl := (List.getElem?_eq_some_iff.mp h)
  rw [List.drop_eq_getElem_cons hl.1, hl.2]
section
variable {st : Sto} {a : MV} {xs : List MV}
theorem slice_ok (ha : vw st a = .lst xs) {k : Nat} (hk : k ≤ xs.length) (s m t4 t5 : Option (MV × Bool)) : mSl (mVar 1) oNone (oSome (mVar 3)) (LOI s (fz a) m (fz (.int (k : Nat))) t4 t5) st = .ok (.lst (xs.take k), .fr, st) := by
  unfold mSl oSome oNone
  simp [gSl, LOI, ha, cut_take _ hk]
/-- a name in its turn -/
theorem name_turn (ha : vw st a = .lst xs) {k : Nat} (hk : k ≤ xs.length) {x : MV} (hp : pln x = true) (hs : ∀ z, x = .str z → z.length ≤ sizeLine ∧ PyData.strOk z = true) (hg : ∀ y, y ∈ xs.take k → gd 11 y = true) (s m t5 : Option (MV × Bool)) :
    b1_Program_init (LOI s (fz a) m (fz (.int (k : Nat))) (fz x) t5) st = if nameB x = true ∧ ((xs.take k).any fun z => eqM z x) = false then .ok (.nx, LOI s (fz a) m (fz (.int (k : Nat))) (fz x) t5, st) else .exc "InvalidItem" [("value", x)] (LOI s (fz a) m (fz (.int (k : Nat))) (fz x) t5) st := by
  have nm := name_ok hp hs st
  have c1 : mTv (mCall 1 M_is_name [] (mCons (mVar 4) mNil)) (LOI s (fz a) m (fz (.int (k : Nat))) (fz x) t5) st = .ok (nameB x, st) := tv_ok (k := .fz) (callV (ms := [x]) (b := false) (st1 := st) rfl rfl nm)
  have rs : sRaise "InvalidItem" "value" [] (mCons (mVar 4) mNil) (LOI s (fz a) m (fz (.int (k : Nat))) (fz x) t5) st = .exc "InvalidItem" [("value", x)] (LOI s (fz a) m (fz (.int (k : Nat))) (fz x) t5) st := by simp [LOI]
  cases hn : nameB x with
  | false =>
    rw [hn] at c1
    rw [if_neg (fun z => by cases z.1)]
    exact if_tt (or_tt (not_ok c1)) rs
  | true =>
    rw [hn] at c1
    obtain ⟨z, rfl⟩ : ∃ z, x = .str z := by cases x <;> first | exact ⟨_, rfl⟩ | cases hn
    have hi := in_gd (neg := false) (st := st) (a := .str z) (bs := xs.take k) (hs z rfl).2 (gd_lst hg)
    have c2 : mTv (mOp (gInA false) (mVar 4) (mSl (mVar 1) oNone (oSome (mVar 3)))) (LOI s (fz a) m (fz (.int (k : Nat))) (fz (.str z)) t5) st = .ok ((xs.take k).any fun y => eqM y (.str z), st) := tv_ok (k := .fz) (opV (a := .str z) (ka := .fz) (st1 := st) rfl (slice_ok ha hk s m _ t5) hi)
    cases he : (xs.take k).any fun y => eqM y (.str z) with
    | true =>
      rw [he] at c2
      rw [if_neg (fun z => by cases z.2)]
      exact if_tt (or_ff (not_ok c1) c2) rs
    | false =>
      rw [he] at c2
      rw [if_pos ⟨rfl, rfl⟩]
      exact if_ff (or_ff (not_ok c1) c2) rfl
/-- a name that may stand at its place -/
def NmAt (xs : List MV) (i : Nat) : Prop := ∃ z : Str, xs[i]? = some (.str z) ∧ PyData.strOk z = true ∧ z.length ≤ 100 ∧ nameB (.str z) = true ∧ ((xs.take i).any fun y => eqM y (.str z)) = false
theorem nm_gd {n : Nat} (h : ∀ i, i < n → NmAt xs i) {k : Nat} (hk : k ≤ n) : ∀ y, y ∈ xs.take k → gd 11 y = true := by
  intro y hy
  obtain ⟨j, hj⟩ := List.mem_iff_getElem?.mp hy
  rw [List.getElem?_take] at hj
  split at hj
  · rename_i hjk
    obtain ⟨z, hz, ho, _⟩ := h j (by omega)
    rw [hz] at hj
    cases hj
    exact ho
  · cases hj
abbrev gfN : GF := gT 2 (gsCons (gN 3) (gsCons (gN 4) gsNil))
theorem names_pre (ha : vw st a = .lst xs) {ck : CK} (hck : ∀ lo, ck lo st) {n : Nat} (hn : n ≤ xs.length) (h : ∀ i, i < n → NmAt xs i) (s m t5 : Option (MV × Bool)) :
    ∃ t3 t4, forL ck gfN b1_Program_init (enumM xs) (LOI s (fz a) m none none t5) st = forL ck gfN b1_Program_init ((enumM xs).drop n) (LOI s (fz a) m t3 t4 t5) st := by
  obtain ⟨lo', ⟨t3, t4, e1⟩, e2⟩ := forL_pre (st := st) (gf := gfN) (body := b1_Program_init) (Inv := fun lo => ∃ t3 t4, lo = LOI s (fz a) m t3 t4 t5) hck ((enumM xs).take n) ((enumM xs).drop n) (LOI s (fz a) m none none t5) (fun i x lo hx ⟨t3, t4, hlo⟩ => by
    subst hlo
    rw [List.getElem?_take] at hx
    split at hx
    · rename_i hin
      obtain ⟨z, hz, ho, hlz, hnm, hno⟩ := h i hin
      rw [enumM_at hz] at hx
      cases hx
      refine ⟨LOI s (fz a) m (fz (.int (i : Nat))) (fz (.str z)) t5, LOI s (fz a) m (fz (.int (i : Nat))) (fz (.str z)) t5, rfl, ?_, _, _, rfl⟩
      rw [name_turn ha (by omega) rfl (fun w e => by cases e; exact ⟨sz (Nat.le_trans hlz (by decide)), ho⟩) (nm_gd h (by omega)), if_pos ⟨hnm, hno⟩]
    · cases hx) ⟨none, none, rfl⟩
  subst e1
  exact ⟨t3, t4, by rw [← enum_split] at e2; exact e2⟩
theorem names_all (ha : vw st a = .lst xs) {ck : CK} (hck : ∀ lo, ck lo st) (h : ∀ i, i < xs.length → NmAt xs i) (s m t5 : Option (MV × Bool)) :
    ∃ t3 t4, forL ck gfN b1_Program_init (enumM xs) (LOI s (fz a) m none none t5) st = .ok (.nx, LOI s (fz a) m t3 t4 t5, st) := by
  obtain ⟨t3, t4, e⟩ := names_pre ha hck (Nat.le_refl _) h s m t5
  refine ⟨t3, t4, e.trans ?_⟩
  rw [List.drop_eq_nil_iff.mpr (by rw [enumM_len]; exact Nat.le_refl _), forL_nil, if_pos (hck _)]
theorem names_bad (ha : vw st a = .lst xs) {ck : CK} (hck : ∀ lo, ck lo st) {n : Nat} (h : ∀ i, i < n → NmAt xs i) {x : MV} (hx : xs[n]? = some x) (hp : pln x = true) (hs : ∀ z, x = .str z → z.length ≤ sizeLine ∧ PyData.strOk z = true) (hb : ¬ (nameB x = true ∧ ((xs.take n).any fun z => eqM z x) = false)) (s m t5 : Option (MV × Bool)) :
    ∃ lo', forL ck gfN b1_Program_init (enumM xs) (LOI s (fz a) m none none t5) st = .exc "InvalidItem" [("value", x)] lo' st := by
  have hl : n < xs.length := (List.getElem?_eq_some_iff.mp hx).1
  obtain ⟨t3, t4, e⟩ := names_pre ha hck (by omega) h s m t5
  refine ⟨LOI s (fz a) m (fz (.int (n : Nat))) (fz x) t5, e.trans ?_⟩
  rw [drop_at (enumM_at hx), forL_cons, if_pos (hck _)]
  show (_ >>= _) = _
  rw [show gfN (.tup [.int (n : Nat), x]) (LOI s (fz a) m t3 t4 t5) st = .ok (LOI s (fz a) m (fz (.int (n : Nat))) (fz x) t5, st) from rfl]
  simp only [Res.ok_bind]
  rw [name_turn ha (by omega) hp hs (nm_gd h (Nat.le_refl _)), if_neg hb]
  rfl
theorem move_turn {pl : List Str} (hg : ∀ x, x ∈ pl → PyData.strOk x = true) (ha : vw st a = .lst (pl.map .str)) {x : MV} (hp : pln x = true) (hx : ∀ xs, x = .tup xs → ∀ y, y ∈ xs → gd dpt y = true) (s m t3 t4 : Option (MV × Bool)) :
    b2_Program_init (LOI s (fz a) m t3 t4 (fz x)) st = if moveB pl x = true then .ok (.nx, LOI s (fz a) m t3 t4 (fz x), st) else .exc "InvalidItem" [("value", x)] (LOI s (fz a) m t3 t4 (fz x)) st := by
  have im := isMove_okB hg hp hx st ha
  have c1 : mTv (mCall 2 M_is_move [] (mCons (mVar 5) (mCons (mVar 1) mNil))) (LOI s (fz a) m t3 t4 (fz x)) st = .ok (moveB pl x, st) := tv_ok (k := .fz) (callV (ms := [x, a]) (b := false) (st1 := st) rfl rfl im)
  cases hm : moveB pl x with
  | true =>
    rw [hm] at c1
    exact if_ff (not_ok c1) rfl
  | false =>
    rw [hm] at c1
    exact if_tt (not_ok c1) (by simp [LOI])
def MvAt (pl : List Str) (ys : List MV) (i : Nat) : Prop := ∃ m : Move, ys[i]? = some (mM m) ∧ m.Ok pl
theorem moves_pre {pl : List Str} (hg : ∀ x, x ∈ pl → PyData.strOk x = true) (ha : vw st a = .lst (pl.map .str)) {ys : List MV} {ck : CK} (hck : ∀ lo, ck lo st) {n : Nat} (hn : n ≤ ys.length) (h : ∀ i, i < n → MvAt pl ys i) (s m t3 t4 : Option (MV × Bool)) :
    ∃ t5, forL ck (gN 5) b2_Program_init ys (LOI s (fz a) m t3 t4 none) st = forL ck (gN 5) b2_Program_init (ys.drop n) (LOI s (fz a) m t3 t4 t5) st := by
  obtain ⟨lo', ⟨t5, e1⟩, e2⟩ := forL_pre (st := st) (gf := gN 5) (body := b2_Program_init) (Inv := fun lo => ∃ t5, lo = LOI s (fz a) m t3 t4 t5) hck (ys.take n) (ys.drop n) (LOI s (fz a) m t3 t4 none) (fun i x lo hx ⟨t5, hlo⟩ => by
    subst hlo
    rw [List.getElem?_take] at hx
    split at hx
    · rename_i hin
      obtain ⟨w, hz, ho⟩ := h i hin
      rw [hz] at hx
      cases hx
      refine ⟨LOI s (fz a) m t3 t4 (fz (mM w)), LOI s (fz a) m t3 t4 (fz (mM w)), rfl, ?_, _, rfl⟩
      rw [move_turn hg ha rfl (gd_mM hg ho), if_pos (moveB_ok ho)]
    · cases hx) ⟨none, rfl⟩
  subst e1
  exact ⟨t5, by rw [List.take_append_drop] at e2; exact e2⟩
theorem moves_all {pl : List Str} (hg : ∀ x, x ∈ pl → PyData.strOk x = true) (ha : vw st a = .lst (pl.map .str)) {ys : List MV} {ck : CK} (hck : ∀ lo, ck lo st) (h : ∀ i, i < ys.length → MvAt pl ys i) (s m t3 t4 : Option (MV × Bool)) :
    ∃ t5, forL ck (gN 5) b2_Program_init ys (LOI s (fz a) m t3 t4 none) st = .ok (.nx, LOI s (fz a) m t3 t4 t5, st) := by
  obtain ⟨t5, e⟩ := moves_pre hg ha hck (Nat.le_refl _) h s m t3 t4
  refine ⟨t5, e.trans ?_⟩
  rw [List.drop_eq_nil_iff.mpr (Nat.le_refl _), forL_nil, if_pos (hck _)]
theorem moves_bad {pl : List Str} (hg : ∀ x, x ∈ pl → PyData.strOk x = true) (ha : vw st a = .lst (pl.map .str)) {ys : List MV} {ck : CK} (hck : ∀ lo, ck lo st) {n : Nat} (h : ∀ i, i < n → MvAt pl ys i) {x : MV} (hx : ys[n]? = some x) (hp : pln x = true) (hd : ∀ xs, x = .tup xs → ∀ y, y ∈ xs → gd dpt y = true) (hb : moveB pl x = false) (s m t3 t4 : Option (MV × Bool)) :
    ∃ lo', forL ck (gN 5) b2_Program_init ys (LOI s (fz a) m t3 t4 none) st = .exc "InvalidItem" [("value", x)] lo' st := by
  have hl : n < ys.length := (List.getElem?_eq_some_iff.mp hx).1
  obtain ⟨t5, e⟩ := moves_pre hg ha hck (by omega) h s m t3 t4
  refine ⟨LOI s (fz a) m t3 t4 (fz x), e.trans ?_⟩
  rw [drop_at hx, forL_cons, if_pos (hck _)]
  show (_ >>= _) = _
  rw [show gN 5 x (LOI s (fz a) m t3 t4 t5) st = .ok (LOI s (fz a) m t3 t4 (fz x), st) from rfl]
  simp only [Res.ok_bind]
  rw [move_turn hg ha hp hd, if_neg (by rw [hb]; exact Bool.false_ne_true)]
  rfl
structure PlG (pl : List Str) : Prop where
  l1 : 1 ≤ pl.length
  l4 : pl.length ≤ 4
  nm : ∀ i, i < pl.length → NmAt (pl.map .str) i
theorem PlG.good {pl : List Str} (h : PlG pl) : ∀ x, x ∈ pl → PyData.strOk x = true := by
  intro x hx
  obtain ⟨i, hi⟩ := List.mem_iff_getElem?.mp hx
  obtain ⟨z, hz, ho, _⟩ := h.nm i (List.getElem?_eq_some_iff.mp hi).1
  rw [List.getElem?_map, hi] at hz
  cases hz
  exact ho
def noL4 : MV → Bool
  | .lst xs => decide (¬ (1 ≤ xs.length ∧ xs.length ≤ 4))
  | _ => true
def noL10 : MV → Bool
  | .lst xs => decide (10 < xs.length)
  | _ => true
abbrev gI0 : Lo → Lo := id
theorem c_list {w : MV} (hv : vw st a = w) (hw : pln w = true) (s m t3 t4 t5 : Option (MV × Bool)) :
    mOr (mNotT (mTv (mIsi (isT "list") noC noC (mVar 1)))) (mNotT (mTv (mChain gLe gLe (mC (.int 1)) (mCallB gLen (mCons (mVar 1) mNil)) (mC (.int 4))))) (LOI s (fz a) m t3 t4 t5) st = .ok (noL4 w, st) := by
  cases w with
  | lst xs =>
    by_cases q1 : (1 : Int) ≤ (xs.length : Int)
    · by_cases q2 : (xs.length : Int) ≤ 4
      · have : noL4 (.lst xs) = false := decide_eq_false (by omega)
        rw [this]
        simp [LOI, hv, tyAns, isT, tys7, q1, q2]
      · have : noL4 (.lst xs) = true := decide_eq_true (by omega)
        rw [this]
        simp [LOI, hv, tyAns, isT, tys7, q1, q2]
    · have : noL4 (.lst xs) = true := decide_eq_true (by omega)
      rw [this]
      simp [LOI, hv, tyAns, isT, tys7, q1]
  | _ => first | (exact Bool.noConfusion hw) | simp [LOI, hv, tyAns, isT, tys7, noL4]
theorem c_list10 {b w : MV} (hv : vw st b = w) (hw : pln w = true) (s m t3 t4 t5 : Option (MV × Bool)) :
    mOr (mNotT (mTv (mIsi (isT "list") noC noC (mVar 2)))) (mTv (mOp gGt (mCallB gLen (mCons (mVar 2) mNil)) (mC (.int 10)))) (LOI s m (fz b) t3 t4 t5) st = .ok (noL10 w, st) := by
  cases w with
  | lst xs =>
    by_cases q1 : (10 : Int) < (xs.length : Int)
    · have : noL10 (.lst xs) = true := decide_eq_true (by omega)
      rw [this]
      simp [LOI, hv, tyAns, isT, tys7, q1]
    · have : noL10 (.lst xs) = false := decide_eq_false (by omega)
      rw [this]
      simp [LOI, hv, tyAns, isT, tys7, q1]
  | _ => first | (exact Bool.noConfusion hw) | simp [LOI, hv, tyAns, isT, tys7, noL10]
theorem init_L1 {w b : MV} (hv : vw st a = w) (hw : pln w = true) (hn : noL4 w = true) : ∃ lo, M_Program_init [a, b] st = .exc "InvalidList" [("value", a)] lo st := by
  have c := c_list hv hw (ow (.ins "Program" [])) (fz b) none none none
  rw [hn] at c
  unfold M_Program_init g_Program_init
  exact ⟨_, runI_exc (lo0 := LOI (ow (.ins "Program" [])) (fz a) (fz b) none none none) (lo := LOI (ow (.ins "Program" [])) (fz a) (fz b) none none none) rfl (seq_exc (if_tt c (by simp [LOI])))⟩
theorem init_I1 {b : MV} (hL : IsL st a xs) (h4 : noL4 (.lst xs) = false) {n : Nat} (h : ∀ i, i < n → NmAt xs i) {x : MV} (hx : xs[n]? = some x) (hp : pln x = true) (hs : ∀ z, x = .str z → z.length ≤ sizeLine ∧ PyData.strOk z = true) (hb : ¬ (nameB x = true ∧ ((xs.take n).any fun z => eqM z x) = false)) :
    ∃ lo, M_Program_init [a, b] st = .exc "InvalidItem" [("value", x)] lo st := by
  have c := c_list hL.vw rfl (ow (.ins "Program" [])) (fz b) none none none
  rw [h4] at c
  obtain ⟨ck, ei, hck⟩ := iEn_any (f := mVar 1) (lo := LOI (ow (.ins "Program" [])) (fz a) (fz b) none none none) (k := .fz) rfl rfl hL
  obtain ⟨lo', e⟩ := names_bad hL.vw hck h hx hp hs hb (ow (.ins "Program" [])) (fz b) none
  unfold M_Program_init g_Program_init
  exact ⟨lo', runI_exc (lo0 := LOI (ow (.ins "Program" [])) (fz a) (fz b) none none none) rfl (seq_ok (if_ff c rfl) (seq_exc (for_ok ei e)))⟩
theorem init_L2 {pl : List Str} {b w : MV} (hg : PlG pl) (hL : IsL st a (pl.map .str)) (hv : vw st b = w) (hw : pln w = true) (hn : noL10 w = true) : ∃ lo, M_Program_init [a, b] st = .exc "InvalidList" [("value", b)] lo st := by
  have l1 := hg.l1
  have l4 := hg.l4
  have c := c_list hL.vw rfl (ow (.ins "Program" [])) (fz b) none none none
  rw [show noL4 (.lst (pl.map .str)) = false from decide_eq_false (by rw [List.length_map]; omega)] at c
  obtain ⟨ck, ei, hck⟩ := iEn_any (f := mVar 1) (lo := LOI (ow (.ins "Program" [])) (fz a) (fz b) none none none) (k := .fz) rfl rfl hL
  obtain ⟨t3, t4, e⟩ := names_all hL.vw hck (fun i hi => hg.nm i (by rw [List.length_map] at hi; exact hi)) (ow (.ins "Program" [])) (fz b) none
  have c2 := c_list10 hv hw (ow (.ins "Program" [])) (fz a) t3 t4 none
  rw [hn] at c2
  unfold M_Program_init g_Program_init
  exact ⟨LOI (ow (.ins "Program" [])) (fz a) (fz b) t3 t4 none, runI_exc (lo0 := LOI (ow (.ins "Program" [])) (fz a) (fz b) none none none) rfl (seq_ok (if_ff c rfl) (seq_ok (for_ok ei e) (seq_exc (if_tt c2 (by simp [LOI])))))⟩
theorem init_I2 {pl : List Str} {b : MV} {ys : List MV} (hg : PlG pl) (hL : IsL st a (pl.map .str)) (hM : IsL st b ys) (h10 : noL10 (.lst ys) = false) {n : Nat} (h : ∀ i, i < n → MvAt pl ys i) {x : MV} (hx : ys[n]? = some x) (hp : pln x = true) (hd : ∀ xs, x = .tup xs → ∀ y, y ∈ xs → gd dpt y = true) (hb : moveB pl x = false) :
    ∃ lo, M_Program_init [a, b] st = .exc "InvalidItem" [("value", x)] lo st := by
  have l1 := hg.l1
  have l4 := hg.l4
  have c := c_list hL.vw rfl (ow (.ins "Program" [])) (fz b) none none none
  rw [show noL4 (.lst (pl.map .str)) = false from decide_eq_false (by rw [List.length_map]; omega)] at c
  obtain ⟨ck, ei, hck⟩ := iEn_any (f := mVar 1) (lo := LOI (ow (.ins "Program" [])) (fz a) (fz b) none none none) (k := .fz) rfl rfl hL
  obtain ⟨t3, t4, e⟩ := names_all hL.vw hck (fun i hi => hg.nm i (by rw [List.length_map] at hi; exact hi)) (ow (.ins "Program" [])) (fz b) none
  have c2 := c_list10 hM.vw rfl (ow (.ins "Program" [])) (fz a) t3 t4 none
  rw [h10] at c2
  obtain ⟨ck2, ei2, hck2⟩ := iSeq_any (f := mVar 2) (lo := LOI (ow (.ins "Program" [])) (fz a) (fz b) t3 t4 none) (k := .fz) rfl rfl hM
  obtain ⟨lo', e2⟩ := moves_bad hg.good hL.vw hck2 h hx hp hd hb (ow (.ins "Program" [])) (fz b) t3 t4
  unfold M_Program_init g_Program_init
  exact ⟨lo', runI_exc (lo0 := LOI (ow (.ins "Program" [])) (fz a) (fz b) none none none) rfl (seq_ok (if_ff c rfl) (seq_ok (for_ok ei e) (seq_ok (if_ff c2 rfl) (seq_exc (for_ok ei2 e2)))))⟩
theorem init_ok {pl : List Str} {b : MV} {ms : List Move} (hg : PlG pl) (hm : ∀ m, m ∈ ms → m.Ok pl) (hl : ms.length ≤ 10) (hL : IsL st a (pl.map .str)) (hM : IsL st b (ms.map mM)) : M_Program_init [a, b] st = .ok (progM ⟨pl, ms⟩, true, st) := by
  have l1 := hg.l1
  have l4 := hg.l4
  have c := c_list hL.vw rfl (ow (.ins "Program" [])) (fz b) none none none
  rw [show noL4 (.lst (pl.map .str)) = false from decide_eq_false (by rw [List.length_map]; omega)] at c
  obtain ⟨ck, ei, hck⟩ := iEn_any (f := mVar 1) (lo := LOI (ow (.ins "Program" [])) (fz a) (fz b) none none none) (k := .fz) rfl rfl hL
  obtain ⟨t3, t4, e⟩ := names_all hL.vw hck (fun i hi => hg.nm i (by rw [List.length_map] at hi; exact hi)) (ow (.ins "Program" [])) (fz b) none
  have c2 := c_list10 hM.vw rfl (ow (.ins "Program" [])) (fz a) t3 t4 none
  rw [show noL10 (.lst (ms.map mM)) = false from decide_eq_false (by rw [List.length_map]; omega)] at c2
  obtain ⟨ck2, ei2, hck2⟩ := iSeq_any (f := mVar 2) (lo := LOI (ow (.ins "Program" [])) (fz a) (fz b) t3 t4 none) (k := .fz) rfl rfl hM
  obtain ⟨t5, e2⟩ := moves_all hg.good hL.vw hck2 (ys := ms.map mM) (fun i hi => by
    rw [List.length_map] at hi
    exact ⟨ms[i], by rw [List.getElem?_map, List.getElem?_eq_getElem hi]; rfl, hm _ (List.getElem_mem hi)⟩) (ow (.ins "Program" [])) (fz b) t3 t4
  have cls : inB ["Program"] "Program" = true := rfl
  have va := hL.vw
  have vb := hM.vw
  unfold M_Program_init g_Program_init
  refine runI_nx (lo0 := LOI (ow (.ins "Program" [])) (fz a) (fz b) none none none) (lo := LOI (ow (progM ⟨pl, ms⟩)) (fz a) (fz b) t3 t4 t5) rfl
    (seq_ok (if_ff c rfl) (seq_ok (for_ok ei e) (seq_ok (if_ff c2 rfl) (seq_ok (for_ok ei2 e2)
    (seq_ok (lo1 := LOI (ow (.ins "Program" [("stands", .tup (pl.map .str))])) (fz a) (fz b) t3 t4 t5) (st1 := st) ?_ (seq_ok (lo1 := LOI (ow (.ins "Program" [("stands", .tup (pl.map .str)), ("steps", .tup (ms.map mM))])) (fz a) (fz b) t3 t4 t5) (st1 := st) ?_ ?_)))))) rfl
  · simp [LOI, ownAt, cls, putM, va]
  · simp [LOI, ownAt, cls, put2, vb]
  · simp [LOI, ownAt, cls, put3, progM, plM, mvM]
end
end FL

namespace FL
open PySem L2 PySem.Spec PyProof.Rows FW

/-- each turn keeps what is wanted -/
theorem for_inv {ck : CK} {gf : GF} {body : SF} {I : Lo → Sto → Prop} : ∀ (items : List MV) (lo : Lo) (st : Sto), (∀ lo st, I lo st → ck lo st) →
    (∀ x, x ∈ items → ∀ lo st, I lo st → ∃ lo1 st1 lo2 st2, gf x lo st = .ok (lo1, st1) ∧ body lo1 st1 = .ok (.nx, lo2, st2) ∧ I lo2 st2) → I lo st →
    ∃ lo' st', forL ck gf body items lo st = .ok (.nx, lo', st') ∧ I lo' st'
  | [], lo, st, hc, _, h => ⟨lo, st, by rw [forL_nil, if_pos (hc _ _ h)], h⟩
  | x :: xs, lo, st, hc, hb, h => by
    obtain ⟨lo1, st1, lo2, st2, e1, e2, h2⟩ := hb x (List.mem_cons_self ..) lo st h
    obtain ⟨lo', st', e3, h3⟩ := for_inv xs lo2 st2 hc (fun y hy => hb y (List.mem_cons_of_mem _ hy)) h2
    refine ⟨lo', st', ?_, h3⟩
    rw [forL_cons, if_pos (hc _ _ h), e1]
    simp only [Res.ok_bind]
    rw [e2]
    exact e3
/-- .. the store stays -/
theorem for_lo {gf : GF} {body : SF} {st : Sto} {I : Lo → Prop} (items : List MV) (lo : Lo)
    (hb : ∀ x, x ∈ items → ∀ lo, I lo → ∃ lo1 lo2, gf x lo st = .ok (lo1, st) ∧ body lo1 st = .ok (.nx, lo2, st) ∧ I lo2) (h : I lo) :
    ∃ lo', forL ckT gf body items lo st = .ok (.nx, lo', st) ∧ I lo' := by
  obtain ⟨lo', st', e, h1, h2⟩ := for_inv (ck := ckT) (gf := gf) (body := body) (I := fun lo s => I lo ∧ s = st) items lo st (fun _ _ _ => trivial) (fun x hx lo s ⟨h1, h2⟩ => by
    subst h2
    obtain ⟨lo1, lo2, e1, e2, h3⟩ := hb x hx lo h1
    exact ⟨lo1, s, lo2, s, e1, e2, h3, rfl⟩) ⟨h, rfl⟩
  subst h2
  exact ⟨lo', e, h1⟩
theorem szl {n : Nat} (h : n < 100000) : n < sizeLine := Nat.lt_of_lt_of_le h (by decide +kernel)
theorem gRepN (st : Sto) (xs : List MV) (k : Nat) (h : xs.length * k ≤ 100000) (hk : k ≤ 1000) : gMul st (.lst xs) (.int (k : Nat)) = some (.lst (List.replicate k xs).flatten, true) := by
  have : gRep st (.lst xs) (.int (k : Nat)) = some (.lst (List.replicate k xs).flatten, true) := by
    have c : -(2 ^ 63 : Int) ≤ (k : Int) ∧ (k : Int) < 2 ^ 63 ∧ xs.length * ((k : Int)).toNat ≤ sizeLine := ⟨Int.le_trans (by decide) (Int.natCast_nonneg k), Int.lt_of_le_of_lt (Int.ofNat_le.mpr hk) (by decide), by rw [Int.toNat_natCast]; exact sz h⟩
    unfold gRep
    refine (if_pos c).trans ?_
    rw [Int.toNat_natCast]
  show ((gII CMulW (fun i j => .int (i * j)) st (.lst xs) (.int (k : Nat))).or (gRep st (.lst xs) (.int (k : Nat)))) = _
  rw [this]
  rfl
theorem eqM_int (x y : Int) : eqM (.int x) (.int y) = decide (x = y) := by
  by_cases h : x = y
  · subst h; simp [eqM, md, PyData.eqv]
  · simp [eqM, md, PyData.eqv, h]
/-- repr of the lists of a program -/
theorem wt_mM {pl : List Str} (hp : ∀ x, x ∈ pl → x.length ≤ 100) {m : Move} (h : m.Ok pl) : wt (mM m) ≤ 3100 := by
  have h1 := hp _ h.p
  have h2 := hp _ h.o
  simp only [mM, wt, wts]
  omega
/-- a place of the store shows what stands there -/
theorem toD_ref {st : Sto} {n k : Nat} {m : MV} (h : st[n]? = some m) (hv : vw st m = m) : toD st k (.ref n) = toD st k m := by
  cases k with
  | zero => simp [toD]
  | succ k => simp only [toD, vw_ref st n h, hv]
theorem toX_ref {st : Sto} {n k : Nat} {m : MV} (h : st[n]? = some m) (hv : vw st m = m) : toX st k (.ref n) = toX st k m := by
  cases k with
  | zero => simp [toX]
  | succ k => simp only [toX, vw_ref st n h, hv]
theorem eq_of {neg : Bool} {st : Sto} {a a' b b' : MV} (ha : toD st dpt a = toD st dpt a') (hb : toD st dpt b = toD st dpt b') : gEqB neg st a b = gEqB neg st a' b' := by
  unfold gEqB; rw [ha, hb]
theorem repr_of {st : Sto} {a a' : MV} (ha : toX st dpt a = toX st dpt a') : gRepr st [a] = gRepr st [a'] := by
  show (toX st dpt a).bind _ = (toX st dpt a').bind _
  rw [ha]
theorem two_D {st : Sto} {n k : Nat} {x y : MV} (h1 : st[n]? = some x) (v1 : vw st x = x) (h2 : st[k]? = some y) (v2 : vw st y = y) : toD st dpt (.lst [.ref n, .ref k]) = toD st dpt (.lst [x, y]) := by
  have e1 := toD_ref (k := 11) h1 v1
  have e2 := toD_ref (k := 11) h2 v2
  show (mapO (toD st 11) [.ref n, .ref k]).map PyData.list = (mapO (toD st 11) [x, y]).map PyData.list
  unfold mapO
  rw [e1]
  unfold mapO
  rw [e2]
theorem two_X {st : Sto} {n k : Nat} {x y : MV} (h1 : st[n]? = some x) (v1 : vw st x = x) (h2 : st[k]? = some y) (v2 : vw st y = y) : toX st dpt (.lst [.ref n, .ref k]) = toX st dpt (.lst [x, y]) := by
  have e1 := toX_ref (k := 11) h1 v1
  have e2 := toX_ref (k := 11) h2 v2
  show (mapO (toX st 11) [.ref n, .ref k]).map PyData.list = (mapO (toX st 11) [x, y]).map PyData.list
  unfold mapO
  rw [e1]
  unfold mapO
  rw [e2]
end FL

namespace FL
open PySem L2 PySem.Spec PyProof.Rows FW
noncomputable def g_Program_eq : SF := (sRet (mAndV (mIsi noT (eqc CS "Program") noC (mVar 1)) (mOp (gEqB false) (mTup (mCons (mFld "stands" (inB ["Program"]) noB (mVar 0)) (mCons (mFld "steps" (inB ["Program"]) noB (mVar 0)) mNil))) (mTup (mCons (mFld "stands" (inB ["Program"]) noB (mVar 1)) (mCons (mFld "steps" (inB ["Program"]) noB (mVar 1)) mNil))))))
noncomputable def M_Program_eq : FF := runF 2 g_Program_eq
noncomputable def g_Program_moves : SF := (sRet (mCallB gListOf (mCons (mFld "steps" (inB ["Program"]) noB (mVar 0)) mNil)))
noncomputable def M_Program_moves : FF := runF 1 g_Program_moves
noncomputable def g_Program_places : SF := (sRet (mCallB gListOf (mCons (mFld "stands" (inB ["Program"]) noB (mVar 0)) mNil)))
noncomputable def M_Program_places : FF := runF 1 g_Program_places
noncomputable def g_signed : SF := (sRet (mIfE (mTv (mOp gGe (mVar 0) (mC (.int 0)))) (mOp gAdd (mC (.str "+")) (mCallB gStrT (mCons (mVar 0) mNil))) (mCallB gStrT (mCons (mVar 0) mNil))))
noncomputable def M_signed : FF := runF 1 g_signed
noncomputable def g_move_in : SF := (sSeq (sSet 1 (mDc [3] (iRg1 (mOp gAdd (mC (.int 8)) (mC (.int 1)))) (gN 3) tYesM (mCallB gStrT (mCons (mVar 3) mNil)) (mVar 3)))
  (sSeq (sSet 2 (mDc [3] (iRg2 (mUn gNeg (mC (.int 4))) (mOp gAdd (mC (.int 4)) (mC (.int 1)))) (gN 3) tYesM (mCall 1 M_signed [] (mCons (mVar 3) mNil)) (mVar 3)))
  (sSeq (sIf (mOr (mTv (mOp (gEqB true) (mCallB gLen (mCons (mVar 0) mNil)) (mC (.int 5)))) (mOr (mTv (mOp (gEqB true) (mOp gIx (mVar 0) (mC (.int 0))) (mC (.str "move")))) (mOr (mTv (mAsk true (mOp gIx (mVar 0) (mC (.int 2))) (mVar 1))) (mTv (mAsk true (mOp gIx (mVar 0) (mC (.int 3))) (mVar 2)))))) (sRet (mC .non)) sNil)
  (sRet (mTup (mCons (mOp gIx (mVar 0) (mC (.int 1))) (mCons (mDGet (mVar 1) (mOp gIx (mVar 0) (mC (.int 2)))) (mCons (mDGet (mVar 2) (mOp gIx (mVar 0) (mC (.int 3)))) (mCons (mOp gIx (mVar 0) (mC (.int 4))) mNil)))))))))
noncomputable def M_move_in : FF := runF 4 g_move_in
noncomputable def g_parts_of : SF := (sRet (mLc [1] (iSeq (mBm "str" gSplit (mVar 0) (mCons (mC (.str " ")) mNil))) (gN 1) (mTv (mOp (gEqB true) (mVar 1) (mC (.str "")))) (mVar 1)))
noncomputable def M_parts_of : FF := runF 2 g_parts_of
noncomputable def g_program_in : SF := (sSeq (sSet 1 (mLc [3] (iSeq (mBm "str" gSplit (mVar 0) (mCons (mC (.str "\n")) mNil))) (gN 3) (mTv (mOp (gEqB true) (mCall 1 M_parts_of [] (mCons (mVar 3) mNil)) (mLst mNil))) (mCall 1 M_parts_of [] (mCons (mVar 3) mNil))))
  (sSeq (sIf (mOr (mTv (mOp (gEqB false) (mVar 1) (mLst mNil))) (mTv (mOp (gEqB true) (mOp gIx (mOp gIx (mVar 1) (mC (.int 0))) (mC (.int 0))) (mC (.str "places"))))) (sRet (mC .non)) sNil)
  (sSeq (sSet 2 (mLc [4] (iSeq (mSl (mVar 1) (oSome (mC (.int 1))) oNone)) (gN 4) tYesM (mCall 1 M_move_in [] (mCons (mVar 4) mNil))))
  (sSeq (sIf (mTv (mOp (gInA false) (mC .non) (mVar 2))) (sRet (mC .non)) sNil)
  (sTry2 (inB ["InvalidItem", "InvalidList"]) (sRet (mCall 2 M_Program_init [] (mCons (mSl (mOp gIx (mVar 1) (mC (.int 0))) (oSome (mC (.int 1))) oNone) (mCons (mVar 2) mNil)))) (sRet (mC .non)))))))
noncomputable def M_program_in : FF := runF 5 g_program_in
noncomputable def g_read_program : SF := (sSeq (sSet 1 (mIfE (mTv (mIsi (isT "str") noC noC (mVar 0))) (mCall 1 M_program_in [] (mCons (mVar 0) mNil)) (mC .non)))
  (sSeq (sIf (mTv (mOp (gIsN false) (mVar 1) (mC .non))) (sRaise "InvalidText" "value" [] (mCons (mVar 0) mNil)) sNil)
  (sRet (mVar 1))))
noncomputable def M_read_program : FF := runF 2 g_read_program
noncomputable abbrev b1_text_of : SF := (sApp (mVar 1) (mLst (mCons (mC (.str "move")) (mCons (mVar 2) (mCons (mCallB gStrT (mCons (mVar 3) mNil)) (mCons (mCall 1 M_signed [] (mCons (mVar 4) mNil)) (mCons (mVar 5) mNil)))))))
noncomputable def g_text_of : SF := (sSeq (sExpr (mCall 1 M_check_program [] (mCons (mVar 0) mNil)))
  (sSeq (sOwn 1 (mLst (mCons (mLst (mCons (mC (.str "places")) (mStarA (mMeth "Program" "places" 1 M_Program_places (mVar 0) mNil) mNil))) mNil)))
  (sSeq (sFor (iSeq (mFld "steps" (inB ["Program"]) noB (mVar 0))) (gT 4 (gsCons (gN 2) (gsCons (gN 3) (gsCons (gN 4) (gsCons (gN 5) gsNil))))) b1_text_of)
  (sFz 1 (sRet (mBm "str" gJoin (mC (.str "\n")) (mCons (mLc [6] (iSeq (mVar 1)) (gN 6) tYesM (mBm "str" gJoin (mC (.str " ")) (mCons (mVar 6) mNil))) mNil)))))))
noncomputable def M_text_of : FF := runF 7 g_text_of
end FL

namespace FL
open PySem L2 PySem.Spec PyProof.Rows FW

theorem spl1_cons (c x : Nat) (acc r : List Nat) : TL.spl [c] 0 acc (x :: r) = if x = c then acc :: TL.spl [c] 0 [] r else TL.spl [c] 0 (acc ++ [x]) r := by
  by_cases h : x = c
  · subst h
    rw [if_pos rfl]
    exact TL.spl_hit (by simp [TL.pre])
  · rw [if_neg h]
    exact TL.spl_miss (by simp [TL.pre, h])
theorem spl1_app (c : Nat) : ∀ (a acc b : List Nat), TL.spl [c] 0 acc (a ++ c :: b) = TL.spl [c] 0 acc a ++ TL.spl [c] 0 [] b
  | [], acc, b => by
    rw [List.nil_append, spl1_cons, if_pos rfl, TL.spl_nil]
    rfl
  | x :: a, acc, b => by
    rw [List.cons_append, spl1_cons, spl1_cons]
    by_cases h : x = c
    · rw [if_pos h, if_pos h, spl1_app c a [] b]; rfl
    · rw [if_neg h, if_neg h, spl1_app c a _ b]
theorem spl1_mem (c : Nat) : ∀ (l acc q : List Nat), q ∈ TL.spl [c] 0 acc l → ∀ z, z ∈ q → z ∈ acc ∨ z ∈ l
  | [], acc, q, h, z, hz => by
    rw [TL.spl_nil, List.mem_singleton] at h
    subst h; exact .inl hz
  | x :: l, acc, q, h, z, hz => by
    rw [spl1_cons] at h
    by_cases e : x = c
    · rw [if_pos e] at h
      rcases List.mem_cons.mp h with h | h
      · subst h; exact .inl hz
      · rcases spl1_mem c l [] q h z hz with y | y
        · cases y
        · exact .inr (List.mem_cons_of_mem _ y)
    · rw [if_neg e] at h
      rcases spl1_mem c l _ q h z hz with y | y
      · rcases List.mem_append.mp y with y | y
        · exact .inl y
        · rw [List.mem_singleton] at y; subst y; exact .inr (List.mem_cons_self ..)
      · exact .inr (List.mem_cons_of_mem _ y)
theorem spl1_size (c : Nat) : ∀ (l acc : List Nat), (TL.spl [c] 0 acc l).length ≤ l.length + 1 ∧ ∀ q, q ∈ TL.spl [c] 0 acc l → q.length ≤ acc.length + l.length
  | [], acc => by rw [TL.spl_nil]; exact ⟨by simp, fun q h => by rw [List.mem_singleton] at h; subst h; simp⟩
  | x :: l, acc => by
    rw [spl1_cons]
    by_cases e : x = c
    · rw [if_pos e]
      obtain ⟨h1, h2⟩ := spl1_size c l []
      refine ⟨by simp; omega, fun q h => ?_⟩
      rcases List.mem_cons.mp h with h | h
      · subst h; simp
      · have := h2 q h; simp at this ⊢; omega
    · rw [if_neg e]
      obtain ⟨h1, h2⟩ := spl1_size c l (acc ++ [x])
      refine ⟨by simp; omega, fun q h => ?_⟩
      have := h2 q h; simp at this ⊢; omega
theorem spl1_free (c : Nat) {l : List Nat} (h : c ∉ l) (acc : List Nat) : TL.spl [c] 0 acc l = [acc ++ l] := TL.spl_last1 h
/-- the parts of a line -/
def P32 (l : List Nat) : List (List Nat) := (TL.spl [32] 0 [] l).filter fun q => !q.isEmpty
theorem P32_app (a b : List Nat) : P32 (a ++ 32 :: b) = P32 a ++ P32 b := by unfold P32; rw [spl1_app, List.filter_append]
theorem P32_nil : P32 [] = [] := by unfold P32; rw [TL.spl_nil]; rfl
theorem P32_tok {l : List Nat} (h : 32 ∉ l) (h0 : l ≠ []) : P32 l = [l] := by
  unfold P32
  rw [spl1_free 32 h]
  cases l with
  | nil => exact absurd rfl h0
  | cons x l => rfl
theorem P32_lead (n : Nat) (l : List Nat) : P32 (List.replicate n 32 ++ l) = P32 l := by
  induction n with
  | zero => rfl
  | succ n ih =>
    rw [List.replicate_succ, List.cons_append]
    have := P32_app [] (List.replicate n 32 ++ l)
    rw [List.nil_append, P32_nil, List.nil_append] at this
    rw [this, ih]
theorem P32_gap (n : Nat) (a b : List Nat) : P32 (a ++ (List.replicate (n + 1) 32 ++ b)) = P32 a ++ P32 b := by
  rw [List.replicate_succ, List.cons_append, P32_app, P32_lead]
theorem P32_trail (n : Nat) (a : List Nat) : P32 (a ++ List.replicate n 32) = P32 a := by
  cases n with
  | zero => rw [List.replicate_zero, List.append_nil]
  | succ n =>
    have := P32_gap n a []
    rw [List.append_nil, P32_nil, List.append_nil] at this
    exact this
/-- the rows of a text -/
def R10 (l : List Nat) : List (List (List Nat)) := ((TL.spl [10] 0 [] l).map P32).filter fun r => !r.isEmpty
theorem R10_app (a b : List Nat) : R10 (a ++ 10 :: b) = R10 a ++ R10 b := by unfold R10; rw [spl1_app, List.map_append, List.filter_append]
theorem R10_join {ps : List (List Nat)} (h0 : ps ≠ []) (h : ∀ p, p ∈ ps → 10 ∉ p) : R10 (TL.joinL [10] ps) = (ps.map P32).filter fun r => !r.isEmpty := by
  unfold R10; rw [TL.spl_join h0 h]
theorem strOk_of {x : Str} (h : ∀ c, c ∈ TL.tl x → c < 0x110000) : PyData.strOk x = true := by
  unfold PyData.strOk
  simp only [Array.all_eq_true_iff_forall_mem, decide_eq_true_eq]
  exact fun c hc => h c (Array.mem_toList_iff.mpr hc)
theorem filt_map {α β : Type} {f : α → β} {p : β → Bool} {q : α → Bool} : ∀ xs : List α, (∀ x, x ∈ xs → p (f x) = q x) → (xs.map f).filter p = (xs.filter q).map f
  | [], _ => rfl
  | x :: xs, h => by
    have ih := filt_map xs fun y hy => h y (List.mem_cons_of_mem _ hy)
    rw [List.map_cons, List.filter_cons, List.filter_cons, h x (List.mem_cons_self ..), ih]
    split <;> simp
theorem tl_empty : TL.tl ("" : Str) = [] := rfl
theorem emp_iff (x : Str) : (!(x == ("" : Str))) = !(TL.tl x).isEmpty := by
  congr 1
  by_cases h : x = ""
  · subst h; rfl
  · have h2 : TL.tl x ≠ [] := fun e => h (TL.ext_tl (e.trans tl_empty.symm))
    rw [beq_eq_false_iff_ne.mpr h]
    cases e : TL.tl x with
    | nil => exact absurd e h2
    | cons _ _ => rfl
theorem splT (x : Str) (s : Str) (c : Nat) (e : TL.tl s = [c]) (h : s.cps.all (· < 256) = true) : (Txt.split x s).map TL.tl = TL.spl [c] 0 [] (TL.tl x) := by
  rw [TL.split_spl x s (by rw [e]; simp) (TL.kind_ok h), e]
def ptS (x : Str) : List Str := (Txt.split x " ").filter fun s => !(s == ("" : Str))
theorem splSp (x : Str) : (Txt.split x " ").map TL.tl = TL.spl [32] 0 [] (TL.tl x) := splT x " " 32 rfl (by decide +kernel)
theorem splNl (x : Str) : (Txt.split x "\n").map TL.tl = TL.spl [10] 0 [] (TL.tl x) := splT x "\n" 10 rfl (by decide +kernel)
theorem ptS_tl (x : Str) : (ptS x).map TL.tl = P32 (TL.tl x) := by
  unfold ptS P32
  rw [← splSp]
  exact (filt_map (f := TL.tl) (p := fun q : List Nat => !q.isEmpty) (q := fun s => !(s == ("" : Str))) _ fun s _ => (emp_iff s).symm).symm
def rwS (x : Str) : List (List Str) := ((Txt.split x "\n").map ptS).filter fun r => !r.isEmpty
theorem rwS_tl (x : Str) : (rwS x).map (·.map TL.tl) = R10 (TL.tl x) := by
  unfold rwS R10
  rw [← splNl, List.map_map]
  have e : (P32 ∘ TL.tl) = fun s => (ptS s).map TL.tl := by funext s; exact (ptS_tl s).symm
  rw [e]
  have e2 : ((Txt.split x "\n").map fun s => (ptS s).map TL.tl) = ((Txt.split x "\n").map ptS).map (·.map TL.tl) := by rw [List.map_map]; rfl
  rw [e2]
  exact (filt_map (f := fun r : List Str => r.map TL.tl) (p := fun r : List (List Nat) => !r.isEmpty) (q := fun r : List Str => !r.isEmpty) _ fun r _ => by cases r <;> rfl).symm
theorem maps_inj : ∀ {a b : List (List Str)}, a.map (·.map TL.tl) = b.map (·.map TL.tl) → a = b
  | [], [], _ => rfl
  | [], _ :: _, h => by cases h
  | _ :: _, [], h => by cases h
  | x :: a, y :: b, h => by
    simp only [List.map_cons, List.cons.injEq] at h
    rw [TL.map_tl_inj h.1, maps_inj h.2]
/-- sizes and signs of what is parted -/
structure TxOk (x : Str) : Prop where
  s : PyData.strOk x = true
  l : x.length ≤ 90000
theorem split_size {x s : Str} {c : Nat} (e : (Txt.split x s).map TL.tl = TL.spl [c] 0 [] (TL.tl x)) : (Txt.split x s).length ≤ x.length + 1 := by
  have := (spl1_size c (TL.tl x) []).1
  rw [← e, List.length_map, ← TL.len_tl] at this
  exact this
theorem split_part {x s : Str} {c : Nat} (e : (Txt.split x s).map TL.tl = TL.spl [c] 0 [] (TL.tl x)) (h : TxOk x) : ∀ p, p ∈ Txt.split x s → TxOk p := by
  intro p hp
  have hm : TL.tl p ∈ TL.spl [c] 0 [] (TL.tl x) := by rw [← e]; exact List.mem_map_of_mem hp
  refine ⟨strOk_of fun z hz => ?_, ?_⟩
  · rcases spl1_mem c _ _ _ hm z hz with y | y
    · cases y
    · exact strOk_mem h.s z y
  · have := (spl1_size c (TL.tl x) []).2 _ hm
    rw [List.length_nil, Nat.zero_add, ← TL.len_tl, ← TL.len_tl] at this
    exact Nat.le_trans this h.l
theorem ptS_ok {x : Str} (h : TxOk x) : (∀ p, p ∈ ptS x → TxOk p) ∧ (ptS x).length ≤ 90001 := by
  refine ⟨fun p hp => split_part (splSp x) h p (List.mem_filter.mp hp).1, ?_⟩
  have := split_size (splSp x)
  have := h.l
  exact Nat.le_trans (List.length_filter_le _ _) (by omega)
theorem rwS_ok {x : Str} (h : TxOk x) : (∀ r, r ∈ rwS x → r ≠ [] ∧ (∀ p, p ∈ r → TxOk p) ∧ r.length ≤ 90001) ∧ (rwS x).length ≤ 90001 := by
  refine ⟨fun r hr => ?_, ?_⟩
  · unfold rwS at hr
    rw [List.mem_filter] at hr
    obtain ⟨hr, hne⟩ := hr
    obtain ⟨l, hl, rfl⟩ := List.mem_map.mp hr
    have := ptS_ok (split_part (splNl x) h l hl)
    exact ⟨fun e => (by rw [e] at hne; cases hne), this.1, this.2⟩
  · have := split_size (splNl x)
    have := h.l
    exact Nat.le_trans (List.length_filter_le _ _) (by rw [List.length_map]; omega)
end FL

namespace FL
open PySem L2 PySem.Spec PyProof.Rows FW

/-- data without truth values -/
def nb : Nat → MV → Bool
  | 0, _ => false
  | _ + 1, .non => true
  | _ + 1, .int _ => true
  | _ + 1, .str _ => true
  | n + 1, .tup xs => xs.all (nb n)
  | n + 1, .lst xs => xs.all (nb n)
  | _, _ => false
theorem eqvAll_inj {n : Nat} (ih : ∀ a b : MV, nb n a = true → nb n b = true → eqM a b = true → a = b) : ∀ xs ys : List MV, xs.all (nb n) = true → ys.all (nb n) = true → PyData.eqvAll (mds xs) (mds ys) = true → xs = ys
  | [], [], _, _, _ => rfl
  | [], _ :: _, _, _, h => by simp [mds, PyData.eqvAll] at h
  | _ :: _, [], _, _, h => by simp [mds, PyData.eqvAll] at h
  | x :: xs, y :: ys, hx, hy, h => by
    simp only [List.all_cons, Bool.and_eq_true] at hx hy
    simp only [mds, PyData.eqvAll, Bool.and_eq_true] at h
    rw [ih x y hx.1 hy.1 h.1, eqvAll_inj ih xs ys hx.2 hy.2 h.2]
theorem eqM_inj : ∀ (n : Nat) (a b : MV), nb n a = true → nb n b = true → eqM a b = true → a = b
  | 0, a, b, ha, _, _ => by cases ha
  | n + 1, a, b, ha, hb, h => by
    have ih := eqM_inj n
    cases a with
    | non => cases b <;> first | rfl | (cases hb; done) | (simp [eqM, md, PyData.eqv] at h; done)
    | int i => cases b <;> first | (cases hb; done) | (simp [eqM, md, PyData.eqv] at h; done) | (simp [eqM, md, PyData.eqv] at h; rw [h])
    | str x => cases b <;> first | (cases hb; done) | (simp [eqM, md, PyData.eqv] at h; done) | (simp [eqM, md, PyData.eqv] at h; rw [h])
    | tup xs =>
      cases b with
      | tup ys =>
        have h' : PyData.eqvAll (mds xs) (mds ys) = true := by simpa [eqM, md, PyData.eqv] using h
        rw [eqvAll_inj ih xs ys ha hb h']
      | _ => first | (cases hb; done) | (simp [eqM, md, PyData.eqv] at h)
    | lst xs =>
      cases b with
      | lst ys =>
        have h' : PyData.eqvAll (mds xs) (mds ys) = true := by simpa [eqM, md, PyData.eqv] using h
        rw [eqvAll_inj ih xs ys ha hb h']
      | _ => first | (cases hb; done) | (simp [eqM, md, PyData.eqv] at h)
    | _ => cases ha
/-- a program made of any names -/
structure PG (P : Prog) : Prop where
  pl : PlG P.pl
  mv : ∀ m, m ∈ P.mv → m.Ok P.pl
  len : P.mv.length ≤ 10
theorem PG.of {P : Prog} (h : P.Ok) (hn : PlG P.pl) : PG P := ⟨hn, h.mv, h.len⟩
theorem mM_nb {m : FL.Move} : nb 2 (mM m) = true := rfl
theorem plM_nb (P : Prog) : (plM P).all (nb 3) = true := by
  unfold plM
  rw [List.all_map]
  exact List.all_eq_true.mpr fun x _ => rfl
theorem mvM_nb (P : Prog) : (mvM P).all (nb 3) = true := by
  unfold mvM
  rw [List.all_map]
  exact List.all_eq_true.mpr fun x _ => rfl
def two (P : Prog) : MV := .tup [.tup (plM P), .tup (mvM P)]
theorem two_nb (P : Prog) : nb 5 (two P) = true := by
  show (nb 4 (.tup (plM P)) && (nb 4 (.tup (mvM P)) && true)) = true
  rw [show nb 4 (.tup (plM P)) = true from plM_nb P, show nb 4 (.tup (mvM P)) = true from mvM_nb P]
  rfl
theorem mM_inj {m w : FL.Move} (h : mM m = mM w) : m = w := by
  obtain ⟨a, b, c, d⟩ := m
  obtain ⟨a', b', c', d'⟩ := w
  simp only [mM, MV.tup.injEq, List.cons.injEq, MV.str.injEq, MV.int.injEq] at h
  obtain ⟨rfl, rfl, rfl, rfl, _⟩ := h
  rfl
theorem map_inj {α β : Type} {f : α → β} (hf : ∀ a b, f a = f b → a = b) : ∀ xs ys : List α, xs.map f = ys.map f → xs = ys
  | [], [], _ => rfl
  | [], _ :: _, h => by simp at h
  | _ :: _, [], h => by simp at h
  | x :: xs, y :: ys, h => by
    simp only [List.map_cons, List.cons.injEq] at h
    rw [hf _ _ h.1, map_inj hf xs ys h.2]
theorem two_inj {P Q : Prog} (h : two P = two Q) : P = Q := by
  obtain ⟨a, b⟩ := P
  obtain ⟨c, d⟩ := Q
  simp only [two, MV.tup.injEq, List.cons.injEq, plM, mvM] at h
  rw [map_inj (fun x y e => MV.str.inj e) a c h.1, map_inj (fun x y e => mM_inj e) b d h.2.1]
theorem PG.two_gd {P : Prog} (h : PG P) : gd dpt (two P) = true := by
  refine gd_tup fun x hx => ?_
  simp only [List.mem_cons, List.not_mem_nil, or_false] at hx
  rcases hx with rfl | rfl
  · exact gd_tup fun y hy => by
      obtain ⟨z, hz, rfl⟩ := List.mem_map.mp hy
      exact h.pl.good z hz
  · exact gd_tup fun y hy => by
      obtain ⟨z, hz, rfl⟩ := List.mem_map.mp hy
      exact gd_tup (gd_mM h.pl.good (h.mv z hz) _ rfl)
section
variable {P Q : Prog} {st : Sto}
theorem pEq_P (hP : PG P) (hQ : PG Q) : M_Program_eq [progM P, progM Q] st = .ok (.bl (eqM (two P) (two Q)), false, st) := by
  have e : eqc CS "Program" "Program" = some true := rfl
  have z2 : 2 ≤ sizeLine := by decide +kernel
  have f0 : ∀ i, i = 0 ∨ i = 1 → True := fun _ _ => trivial
  have c1 : mIsi noT (eqc CS "Program") noC (mVar 1) [fz (progM P), fz (progM Q)] st = .ok (.bl true, .fz, st) := by simp [progM, tyAns, e]
  have t1 : mTup (mCons (mFld "stands" (inB ["Program"]) noB (mVar 0)) (mCons (mFld "steps" (inB ["Program"]) noB (mVar 0)) mNil)) [fz (progM P), fz (progM Q)] st = .ok (two P, .fr, st) := by
    have a1 : mFld "stands" (inB ["Program"]) noB (mVar 0) [fz (progM P), fz (progM Q)] st = .ok (.tup (plM P), .fz, st) := fldPl rfl
    have a2 : mFld "steps" (inB ["Program"]) noB (mVar 0) [fz (progM P), fz (progM Q)] st = .ok (.tup (mvM P), .fz, st) := fldSt rfl
    simp only [d_mTup, d_mCons, a1, a2, d_mNil, Res.ok_bind]
    simp [z2, two]
  have t2 : mTup (mCons (mFld "stands" (inB ["Program"]) noB (mVar 1)) (mCons (mFld "steps" (inB ["Program"]) noB (mVar 1)) mNil)) [fz (progM P), fz (progM Q)] st = .ok (two Q, .fr, st) := by
    have a1 : mFld "stands" (inB ["Program"]) noB (mVar 1) [fz (progM P), fz (progM Q)] st = .ok (.tup (plM Q), .fz, st) := fldPl rfl
    have a2 : mFld "steps" (inB ["Program"]) noB (mVar 1) [fz (progM P), fz (progM Q)] st = .ok (.tup (mvM Q), .fz, st) := fldSt rfl
    simp only [d_mTup, d_mCons, a1, a2, d_mNil, Res.ok_bind]
    simp [z2, two]
  unfold M_Program_eq g_Program_eq
  exact runF_own (k := .fz) (lo0 := [fz (progM P), fz (progM Q)]) rfl (ret_ok (andV_tt c1 (opV t1 t2 (eq_gd (neg := false) hP.two_gd hQ.two_gd)))) rfl
theorem pEq_same (hP : PG P) : M_Program_eq [progM P, progM P] st = .ok (.bl true, false, st) := by
  rw [pEq_P hP hP, eqM_refl hP.two_gd]
theorem pEq_diff (hP : PG P) (hQ : PG Q) (h : P ≠ Q) : M_Program_eq [progM P, progM Q] st = .ok (.bl false, false, st) := by
  rw [pEq_P hP hQ]
  cases e : eqM (two P) (two Q) with
  | false => rfl
  | true => exact absurd (two_inj (eqM_inj 5 _ _ (two_nb P) (two_nb Q) e)) h
theorem pEq_other {x : MV} (hx : pln x = true) : M_Program_eq [progM P, x] st = .ok (.bl false, false, st) := by
  have c1 : mIsi noT (eqc CS "Program") noC (mVar 1) [fz (progM P), fz x] st = .ok (.bl false, .fz, st) := by
    cases x <;> first | (exact Bool.noConfusion hx) | simp [tyAns, noT, tys7]
  unfold M_Program_eq g_Program_eq
  exact runF_own (k := .fz) (lo0 := [fz (progM P), fz x]) rfl (ret_ok (andV_ff c1)) rfl
end
section
variable {P : Prog} {st : Sto}
theorem places_ok (P : Prog) (st : Sto) : M_Program_places [progM P] st = .ok (.lst (plM P), true, st) := by
  have a1 : mFld "stands" (inB ["Program"]) noB (mVar 0) [fz (progM P)] st = .ok (.tup (plM P), .fz, st) := fldPl rfl
  unfold M_Program_places g_Program_places
  refine runF_own (k := .fr) (lo0 := [fz (progM P)]) rfl (ret_ok ?_) rfl
  simp [-d_mFld, a1]
theorem moves_ok (P : Prog) (st : Sto) : M_Program_moves [progM P] st = .ok (.lst (mvM P), true, st) := by
  have a1 : mFld "steps" (inB ["Program"]) noB (mVar 0) [fz (progM P)] st = .ok (.tup (mvM P), .fz, st) := fldSt rfl
  unfold M_Program_moves g_Program_moves
  refine runF_own (k := .fr) (lo0 := [fz (progM P)]) rfl (ret_ok ?_) rfl
  simp [-d_mFld, a1]
end
theorem NM_of {pl : List Str} (h : PlOk pl) : PlG pl := by
  refine h.cases (Q := PlG) ?_ ?_ ?_ ?_ ?_
  all_goals
    refine ⟨by decide, by decide, fun i hi => ?_⟩
    simp only [List.length_cons, List.length_nil] at hi
    have hc : i = 0 ∨ i = 1 ∨ i = 2 ∨ i = 3 := by omega
    rcases hc with rfl | rfl | rfl | rfl <;> first | (exact ⟨_, rfl, by decide +kernel, by decide +kernel, by decide +kernel, by decide +kernel⟩) | (exfalso; omega)
def nmsB (l : List Str) : Bool := (List.range l.length).all fun i => match l[i]? with
  | some z => PyData.strOk z && decide (z.length ≤ 100) && nameB (.str z) && !(((l.map MV.str).take i).any fun y => eqM y (.str z))
  | none => false
theorem nms_of {l : List Str} (h : nmsB l = true) : ∀ i, i < l.length → NmAt (l.map .str) i := by
  intro i hi
  have := List.all_eq_true.mp h i (List.mem_range.mpr hi)
  have e : l[i]? = some l[i] := List.getElem?_eq_getElem hi
  rw [e] at this
  simp only [Bool.and_eq_true, decide_eq_true_eq, Bool.not_eq_true'] at this
  exact ⟨l[i], by rw [List.getElem?_map, e]; rfl, this.1.1.1, this.1.1.2, this.1.2, this.2⟩
theorem makeG {Q : Prog} (h : PG Q) (st : Sto) : M_law_program [partsM Q] st = .ok (progM Q, true, st) := by
  have e := init_ok (st := st) (a := .lst (plM Q)) (b := .lst (mvM Q)) h.pl h.mv h.len (.inl rfl) (.inl rfl)
  have y0 : atI [MV.lst (plM Q), .lst (mvM Q)] 0 = some (.lst (plM Q)) := rfl
  have y1 : atI [MV.lst (plM Q), .lst (mvM Q)] 1 = some (.lst (mvM Q)) := rfl
  simp [M_law_program, d_runF, startM, g_law_program, partsM, y0, y1, callR_ok _ _ e]
theorem insP (P : Prog) (st : Sto) : insOf "Program" "__eq__" (vw st (progM P)) = true := by
  show insOf "Program" "__eq__" (progM P) = true
  unfold progM
  rw [d_insOf]
  rfl
theorem places_m {P : Prog} {fo : EF} {lo : Lo} {st st1 : Sto} {k : Kd} (h : fo lo st = .ok (progM P, k, st1)) (hk : isPk k = false) : mMeth "Program" "places" 1 M_Program_places fo mNil lo st = .ok (.lst (plM P), .fr, st1) := by
  have e := callR_ok lo st1 (places_ok P st1)
  have i : insOf "Program" "places" (vw st1 (progM P)) = true := by
    show insOf "Program" "places" (progM P) = true
    unfold progM; rw [d_insOf]; rfl
  rw [d_mMeth, h]
  simp only [Res.ok_bind]
  rw [if_pos ⟨hk, i⟩]
  simp [callF, e]
theorem moves_m {P : Prog} {fo : EF} {lo : Lo} {st st1 : Sto} {k : Kd} (h : fo lo st = .ok (progM P, k, st1)) (hk : isPk k = false) : mMeth "Program" "moves" 1 M_Program_moves fo mNil lo st = .ok (.lst (mvM P), .fr, st1) := by
  have e := callR_ok lo st1 (moves_ok P st1)
  have i : insOf "Program" "moves" (vw st1 (progM P)) = true := by
    show insOf "Program" "moves" (progM P) = true
    unfold progM; rw [d_insOf]; rfl
  rw [d_mMeth, h]
  simp only [Res.ok_bind]
  rw [if_pos ⟨hk, i⟩]
  simp [callF, e]
theorem sto_ok {f : EF} {lo : Lo} {st st1 : Sto} {m : MV} (h : f lo st = .ok (m, .fr, st1)) : mSto f lo st = .ok (.ref st1.length, .fz, st1 ++ [m]) := by rw [d_mSto, h]; rfl
theorem appR_ok {fo fe : EF} {lo : Lo} {st st1 : Sto} {n : Nat} {xs : List MV} {m : MV} {kd : Kd} (h1 : fo lo st = .ok (.ref n, .fz, st)) (h2 : st[n]? = some (.lst xs)) (h3 : fe lo st = .ok (m, kd, st1)) (h4 : isPk kd = false) (h5 : st1[n]? = some (.lst xs)) (hz : xs.length < sizeLine) :
    sApp fo fe lo st = .ok (.nx, lo, st1.set n (.lst (xs ++ [m]))) := by
  unfold sApp
  rw [h1]
  have ef : frzd (m, kd, st1) = .ok (m, st1) := by cases kd <;> first | rfl | cases h4
  simp only [Res.ok_bind, targetOf, refAt, h2, isLst, if_true, h3, ef, h5, if_pos hz, putBack, putRef]
section
variable {P : Prog}
theorem len_pl (h : P.Ok) : (plM P).length < sizeLine := by
  have := h.pl.len4
  exact Nat.lt_of_le_of_lt (by unfold plM; rw [List.length_map]; omega : _ ≤ 100) (by decide +kernel)
theorem len_mv (h : P.Ok) : (mvM P).length < sizeLine := by
  have := h.len
  exact Nat.lt_of_le_of_lt (by unfold mvM; rw [List.length_map]; omega : _ ≤ 100) (by decide +kernel)
theorem refs_two {lo : Lo} {st : Sto} {i : Nat} {a b : Nat} (h : lo[i]? = some (fz (.lst [.ref a, .ref b]))) : mOp gIx (mVar i) (mC (.int 0)) lo st = .ok (.ref a, .fz, st) ∧ mOp gIx (mVar i) (mC (.int 1)) lo st = .ok (.ref b, .fz, st) := by
  have y0 : atI [MV.ref a, .ref b] 0 = some (.ref a) := rfl
  have y1 : atI [MV.ref a, .ref b] 1 = some (.ref b) := rfl
  constructor <;> simp [h, y0, y1]
end
section
variable {st : Sto}
theorem slTake {f : EF} {lo : Lo} {xs : List MV} {k : Kd} (h : f lo st = .ok (.lst xs, k, st)) (n : Nat) (hn : n ≤ 100) : mSl f oNone (oSome (mC (.int (n : Nat)))) lo st = .ok (.lst (xs.take n), .fr, st) := by
  unfold mSl oSome oNone
  have e : cutM xs none (some (n : Int)) = xs.take n := by
    by_cases hl : n ≤ xs.length
    · exact cut_take xs hl
    · unfold cutM
      rw [HT.sIx_nat, HT.sIx_none, List.drop_zero, Nat.sub_zero, Nat.min_eq_right (by omega), List.take_of_length_le (Nat.le_refl _), List.take_of_length_le (by omega)]
  simp [h, gSl, e]
end
def okM (pl : List Str) (m : FL.Move) : Bool := decide (m.p ∈ pl) && decide (m.o ∈ pl) && decide (0 ≤ m.l) && decide (m.l ≤ 8) && decide (-4 ≤ m.c) && decide (m.c ≤ 4) && decide (0 ≤ m.l + m.c) && decide (m.l + m.c ≤ 8)
theorem okM_ok {pl : List Str} {m : FL.Move} (h : okM pl m = true) : m.Ok pl := by
  unfold okM at h
  simp only [Bool.and_eq_true, decide_eq_true_eq] at h
  obtain ⟨⟨⟨⟨⟨⟨⟨a, b⟩, c⟩, d⟩, e⟩, f⟩, g⟩, i⟩ := h
  exact ⟨a, b, c, d, e, f, g, i⟩
end FL

namespace FL
open PySem L2 PySem.Spec PyProof.Rows FW

theorem dcL_map {ck : CK} {gf : GF} {tt : TF} {fk fe : EF} {lo0 : Lo} {st : Sto} {fK : MV → Key} {fV : MV → MV} (hck : ck lo0 st) : ∀ (items : List MV) (acc : List (MV × MV)), (∀ x, x ∈ items → ∃ lo1, gf x lo0 st = .ok (lo1, st) ∧ tt lo1 st = .ok (true, st) ∧ (∃ kd, fk lo1 st = .ok (kM (fK x), kd, st)) ∧ ∃ kd, fe lo1 st = .ok (fV x, kd, st) ∧ isPk kd = false) →
    acc.length + items.length ≤ 1000 → dcL ck gf tt fk fe lo0 items acc st = .ok (items.foldl (fun a x => putD a (fK x) (fV x)) acc, st)
  | [], acc, _, _ => by unfold dcL; rw [if_pos hck]; rfl
  | x :: xs, acc, h, hz => by
    obtain ⟨lo1, e1, e2, ⟨kd, e3⟩, kd2, e4, hk⟩ := h x (List.mem_cons_self ..)
    have ef : frzd (fV x, kd2, st) = .ok (fV x, st) := by cases kd2 <;> first | rfl | cases hk
    have pl : (putD acc (fK x) (fV x)).length ≤ acc.length + 1 := by
      unfold putD
      split
      · rw [List.length_map]; omega
      · simp
    have ih := dcL_map (gf := gf) (tt := tt) (fk := fk) (fe := fe) (fK := fK) (fV := fV) hck xs (putD acc (fK x) (fV x)) (fun y hy => h y (List.mem_cons_of_mem _ hy)) (by simp at hz; omega)
    unfold dcL
    rw [if_pos hck, e1]
    simp only [noExc, Res.ok_bind, e2, e3, e4, if_true, ef, kyI_kM]
    rw [if_pos (szl (by simp at hz; omega))]
    exact ih
theorem dc_ok {vs : List Nat} {fi : IFn} {gf : GF} {tt : TF} {fk fe : EF} {lo : Lo} {st : Sto} {items : List MV} {fK : MV → Key} {fV : MV → MV} (hc : clrOk lo vs = true) (hi : fi lo st = .ok (items, ckT, st)) (hz : items.length ≤ 1000)
    (hb : ∀ x, x ∈ items → ∃ lo1, gf x (wipeM lo vs) st = .ok (lo1, st) ∧ tt lo1 st = .ok (true, st) ∧ (∃ kd, fk lo1 st = .ok (kM (fK x), kd, st)) ∧ ∃ kd, fe lo1 st = .ok (fV x, kd, st) ∧ isPk kd = false) :
    mDc vs fi gf tt fk fe lo st = .ok (.dct (items.foldl (fun a x => putD a (fK x) (fV x)) []), .fr, st) := by
  unfold mDc
  rw [if_pos hc, hi]
  simp only [Res.ok_bind]
  rw [dcL_map (fK := fK) (fV := fV) trivial items [] hb (by simpa using hz)]
  rfl
def sI (i : Int) : Str := toString i
def sgS (c : Int) : Str := if 0 ≤ c then ("+" : Str) ++ sI c else sI c
theorem log_small {i : Int} (h : i.natAbs < 2 ^ 100) : i.natAbs.log2 < 1920 := by
  by_cases z : i.natAbs = 0
  · rw [z]; decide
  · exact Nat.lt_of_lt_of_le ((Nat.log2_lt z).mpr h) (by decide)
theorem strI {i : Int} (h : i.natAbs < 2 ^ 100) (st : Sto) : gStrT st [.int i] = some (.str (sI i), false) := by
  show (if i.natAbs.log2 < 1920 then some (MV.str (toString i), false) else none) = _
  rw [if_pos (log_small h)]; rfl
theorem small9 {c : Int} (h1 : -4 ≤ c) (h2 : c ≤ 4) : c = -4 ∨ c = -3 ∨ c = -2 ∨ c = -1 ∨ c = 0 ∨ c = 1 ∨ c = 2 ∨ c = 3 ∨ c = 4 := by omega
theorem small8 {c : Int} (h1 : 0 ≤ c) (h2 : c ≤ 8) : c = 0 ∨ c = 1 ∨ c = 2 ∨ c = 3 ∨ c = 4 ∨ c = 5 ∨ c = 6 ∨ c = 7 ∨ c = 8 := by omega
/-- a part of a text -/
def tokB (s : Str) : Bool := !(TL.tl s).isEmpty && (!(TL.tl s).contains 32 && (!(TL.tl s).contains 10 && (decide (s.length ≤ 9) && PyData.strOk s)))
theorem tok_c {c : Int} (h1 : -4 ≤ c) (h2 : c ≤ 4) : tokB (sgS c) = true ∧ (sI c).length ≤ 2 := by
  rcases small9 h1 h2 with rfl | rfl | rfl | rfl | rfl | rfl | rfl | rfl | rfl <;> decide +kernel
theorem tok_l {l : Int} (h1 : 0 ≤ l) (h2 : l ≤ 8) : tokB (sI l) = true := by
  rcases small8 h1 h2 with rfl | rfl | rfl | rfl | rfl | rfl | rfl | rfl | rfl <;> decide +kernel
theorem gAddS (st : Sto) (x y : Str) (h : x.length + y.length ≤ 100000) : gAdd st (.str x) (.str y) = some (.str (x ++ y), false) := by
  show (if x.length + y.length ≤ sizeLine then some (MV.str (x ++ y), false) else none) = _
  rw [if_pos (sz h)]
theorem plus_len : ("+" : Str).length = 1 := by decide +kernel
theorem signed_ok {c : Int} (h1 : -4 ≤ c) (h2 : c ≤ 4) (st : Sto) : M_signed [.int c] st = .ok (.str (sgS c), false, st) := by
  have e := strI (i := c) (by omega) st
  have l := (tok_c h1 h2).2
  have pl := plus_len
  unfold M_signed g_signed
  refine runF_own (k := .fz) (lo0 := [fz (.int c)]) rfl (ret_ok ?_) rfl
  unfold sgS
  by_cases q : 0 ≤ c
  · rw [if_pos q]
    refine ifE_tt (st1 := st) (by simp [q]) ?_
    simp [e, gAddS st ("+" : Str) (sI c) (by omega)]
  · rw [if_neg q]
    refine ifE_ff (st1 := st) (by simp [q]) ?_
    simp [e]
def LsM : List (MV × MV) := [(.str "0", .int 0), (.str "1", .int 1), (.str "2", .int 2), (.str "3", .int 3), (.str "4", .int 4), (.str "5", .int 5), (.str "6", .int 6), (.str "7", .int 7), (.str "8", .int 8)]
def CgM : List (MV × MV) := [(.str "-4", .int (-4)), (.str "-3", .int (-3)), (.str "-2", .int (-2)), (.str "-1", .int (-1)), (.str "+0", .int 0), (.str "+1", .int 1), (.str "+2", .int 2), (.str "+3", .int 3), (.str "+4", .int 4)]
def kLM (x : MV) : Key := match x with
  | .int i => .inr (sI i)
  | _ => .inl 0
def kCM (x : MV) : Key := match x with
  | .int i => .inr (sgS i)
  | _ => .inl 0
theorem LM_e : (rgM 0 9).foldl (fun a x => putD a (kLM x) x) [] = LsM := by kernel_rfl
theorem CM_e : (rgM (-4) 5).foldl (fun a x => putD a (kCM x) x) [] = CgM := by kernel_rfl
abbrev LMI (r t1 t2 : Option (MV × Bool)) : Lo := [r, t1, t2, none]
theorem leasts_ok (r t1 t2 : Option (MV × Bool)) (st : Sto) : mDc [3] (iRg1 (mOp gAdd (mC (.int 8)) (mC (.int 1)))) (gN 3) tYesM (mCallB gStrT (mCons (mVar 3) mNil)) (mVar 3) (LMI r t1 t2) st = .ok (.dct LsM, .fr, st) := by
  rw [← LM_e]
  refine dc_ok (fK := kLM) (fV := fun x => x) rfl (iRg1_ok (k := .fz) (j := 9) (st1 := st) rfl (by decide)) (by decide) fun x hx => ?_
  obtain ⟨i, hi⟩ := List.mem_iff_getElem?.mp hx
  obtain ⟨rfl, hk⟩ := rgM_get hi
  refine ⟨[r, t1, t2, fz (.int (0 + (i : Nat)))], rfl, rfl, ⟨.fz, ?_⟩, .fz, rfl, rfl⟩
  have e := strI (i := (i : Nat)) (by omega) st
  simp [e, kLM, kM]
theorem changes_ok (r t1 t2 : Option (MV × Bool)) (st : Sto) : mDc [3] (iRg2 (mUn gNeg (mC (.int 4))) (mOp gAdd (mC (.int 4)) (mC (.int 1)))) (gN 3) tYesM (mCall 1 M_signed [] (mCons (mVar 3) mNil)) (mVar 3) (LMI r t1 t2) st = .ok (.dct CgM, .fr, st) := by
  rw [← CM_e]
  refine dc_ok (fK := kCM) (fV := fun x => x) rfl (iRg2_ok (k := .fz) (k2 := .fz) (i := -4) (j := 5) (st1 := st) (st2 := st) rfl rfl (by decide)) (by decide) fun x hx => ?_
  obtain ⟨i, hi⟩ := List.mem_iff_getElem?.mp hx
  obtain ⟨rfl, hk⟩ := rgM_get hi
  exact ⟨[r, t1, t2, fz (.int (-4 + (i : Nat)))], rfl, rfl, ⟨.fz, callV (ms := [.int (-4 + (i : Nat))]) (b := false) (st1 := st) rfl rfl (signed_ok (by omega) (by omega) st)⟩, .fz, rfl, rfl⟩
def kS (s : Str) : KK := .inl (.inr s)
/-- a row of parts, read as a move -/
def moveS : List Str → MV
  | [a, p, l, c, o] => if a = "move" then (match lkD LsM (kS l), lkD CgM (kS c) with
    | some x, some y => .tup [.str p, x, y, .str o]
    | _, _ => .non) else .non
  | _ => .non
theorem ask_S {ps : List (MV × MV)} (h : sameSort ps (kS "") = true) (s : Str) : gAsk (.dct ps) (.str s) = some (lkD ps (kS s)).isSome := by
  have h' : sameSort ps (kS s) = true := h
  show ((kyM (.str s)).bind fun kk => if sameSort ps kk = true then some (lkD ps kk).isSome else none) = _
  show (if sameSort ps (kS s) = true then some (lkD ps (kS s)).isSome else none) = _
  rw [if_pos h']
theorem get_S {ps : List (MV × MV)} {s : Str} {m : MV} (h : lkD ps (kS s) = some m) : gDGet (.dct ps) (.str s) = some m := h
theorem moveS_len {r : List Str} (q : r.length ≠ 5) : moveS r = .non := by
  match r, q with
  | [], _ => rfl
  | [_], _ => rfl
  | [_, _], _ => rfl
  | [_, _, _], _ => rfl
  | [_, _, _, _], _ => rfl
  | [_, _, _, _, _], q => exact absurd rfl q
  | _ :: _ :: _ :: _ :: _ :: _ :: _, _ => rfl
theorem moveIn_ok {r : List Str} (h : ∀ p, p ∈ r → TxOk p) (hl : r.length ≤ 90001) (st : Sto) : ∃ b, M_move_in [.lst (r.map .str)] st = .ok (moveS r, b, st) := by
  have e1 := leasts_ok (fz (.lst (r.map .str))) none none st
  have e2 := changes_ok (fz (.lst (r.map .str))) (fz (.dct LsM)) none st
  have s1 : sSet 1 (mDc [3] (iRg1 (mOp gAdd (mC (.int 8)) (mC (.int 1)))) (gN 3) tYesM (mCallB gStrT (mCons (mVar 3) mNil)) (mVar 3)) (LMI (fz (.lst (r.map .str))) none none) st = .ok (.nx, LMI (fz (.lst (r.map .str))) (fz (.dct LsM)) none, st) := set_ok e1 rfl
  have s2 : sSet 2 (mDc [3] (iRg2 (mUn gNeg (mC (.int 4))) (mOp gAdd (mC (.int 4)) (mC (.int 1)))) (gN 3) tYesM (mCall 1 M_signed [] (mCons (mVar 3) mNil)) (mVar 3)) (LMI (fz (.lst (r.map .str))) (fz (.dct LsM)) none) st = .ok (.nx, LMI (fz (.lst (r.map .str))) (fz (.dct LsM)) (fz (.dct CgM)), st) := set_ok e2 rfl
  have aL := ask_S (ps := LsM) (by decide +kernel)
  have aC := ask_S (ps := CgM) (by decide +kernel)
  -- the test's ways
  have c1 : mTv (mOp (gEqB true) (mCallB gLen (mCons (mVar 0) mNil)) (mC (.int 5))) (LMI (fz (.lst (r.map .str))) (fz (.dct LsM)) (fz (.dct CgM))) st = .ok (!((r.length : Int) == 5), st) := by simp [eqI]
  have no : ∀ {t : TF}, t (LMI (fz (.lst (r.map .str))) (fz (.dct LsM)) (fz (.dct CgM))) st = .ok (true, st) → sIf t (sRet (mC .non)) sNil (LMI (fz (.lst (r.map .str))) (fz (.dct LsM)) (fz (.dct CgM))) st = .ok (.rt .non .fz, LMI (fz (.lst (r.map .str))) (fz (.dct LsM)) (fz (.dct CgM)), st) := fun ht => if_tt ht rfl
  have fin : ∀ {g : SF} {m : MV} {k : Kd} {lo : Lo}, g (LMI (fz (.lst (r.map .str))) (fz (.dct LsM)) (fz (.dct CgM))) st = .ok (.rt m k, lo, st) → runF 4 (sSeq (sSet 1 (mDc [3] (iRg1 (mOp gAdd (mC (.int 8)) (mC (.int 1)))) (gN 3) tYesM (mCallB gStrT (mCons (mVar 3) mNil)) (mVar 3))) (sSeq (sSet 2 (mDc [3] (iRg2 (mUn gNeg (mC (.int 4))) (mOp gAdd (mC (.int 4)) (mC (.int 1)))) (gN 3) tYesM (mCall 1 M_signed [] (mCons (mVar 3) mNil)) (mVar 3))) g)) [.lst (r.map .str)] st = .ok (m, isFr k, st) := fun hg =>
    runF_own (lo0 := LMI (fz (.lst (r.map .str))) none none) rfl (seq_ok s1 (seq_ok s2 hg)) rfl
  unfold M_move_in g_move_in
  by_cases q5 : r.length = 5
  · match r, q5, h with
    | [a, p, l, c, o], _, h =>
      have y0 : atI [MV.str a, .str p, .str l, .str c, .str o] 0 = some (.str a) := rfl
      have y1 : atI [MV.str a, .str p, .str l, .str c, .str o] 1 = some (.str p) := rfl
      have y2 : atI [MV.str a, .str p, .str l, .str c, .str o] 2 = some (.str l) := rfl
      have y3 : atI [MV.str a, .str p, .str l, .str c, .str o] 3 = some (.str c) := rfl
      have y4 : atI [MV.str a, .str p, .str l, .str c, .str o] 4 = some (.str o) := rfl
      have c1' : mTv (mOp (gEqB true) (mCallB gLen (mCons (mVar 0) mNil)) (mC (.int 5))) (LMI (fz (.lst [.str a, .str p, .str l, .str c, .str o])) (fz (.dct LsM)) (fz (.dct CgM))) st = .ok (false, st) := c1
      have c2 : mTv (mOp (gEqB true) (mOp gIx (mVar 0) (mC (.int 0))) (mC (.str "move"))) (LMI (fz (.lst [.str a, .str p, .str l, .str c, .str o])) (fz (.dct LsM)) (fz (.dct CgM))) st = .ok (!(a == ("move" : Str)), st) := by
        have := eq_ok (neg := true) (st := st) (h a (by simp)).s (show PyData.strOk ("move" : Str) = true by decide +kernel)
        simp [y0, this]
      have c3 : mTv (mAsk true (mOp gIx (mVar 0) (mC (.int 2))) (mVar 1)) (LMI (fz (.lst [.str a, .str p, .str l, .str c, .str o])) (fz (.dct LsM)) (fz (.dct CgM))) st = .ok (!(lkD LsM (kS l)).isSome, st) := by
        refine tv_ok (k := .fz) ?_
        unfold mAsk
        simp [y2, aL]
      have c4 : mTv (mAsk true (mOp gIx (mVar 0) (mC (.int 3))) (mVar 2)) (LMI (fz (.lst [.str a, .str p, .str l, .str c, .str o])) (fz (.dct LsM)) (fz (.dct CgM))) st = .ok (!(lkD CgM (kS c)).isSome, st) := by
        refine tv_ok (k := .fz) ?_
        unfold mAsk
        simp [y3, aC]
      by_cases qa : a = "move"
      · subst qa
        rw [show (!(("move" : Str) == ("move" : Str))) = false by decide +kernel] at c2
        cases ql : lkD LsM (kS l) with
        | none =>
          rw [ql] at c3
          refine ⟨isFr .fz, ?_⟩
          rw [show moveS ["move", p, l, c, o] = .non by simp [moveS, ql]]
          exact fin (seq_rt (no (or_ff c1' (or_ff c2 (or_tt c3)))))
        | some x =>
          rw [ql] at c3
          cases qc : lkD CgM (kS c) with
          | none =>
            rw [qc] at c4
            refine ⟨isFr .fz, ?_⟩
            rw [show moveS ["move", p, l, c, o] = .non by simp [moveS, ql, qc]]
            exact fin (seq_rt (no (or_ff c1' (or_ff c2 (or_ff c3 c4)))))
          | some y =>
            rw [qc] at c4
            refine ⟨isFr .fr, ?_⟩
            rw [show moveS ["move", p, l, c, o] = .tup [.str p, x, y, .str o] by simp [moveS, ql, qc]]
            refine fin (seq_ok (if_ff (or_ff c1' (or_ff c2 (or_ff c3 c4))) rfl) (ret_ok ?_))
            have g1 : mDGet (mVar 1) (mOp gIx (mVar 0) (mC (.int 2))) (LMI (fz (.lst [.str "move", .str p, .str l, .str c, .str o])) (fz (.dct LsM)) (fz (.dct CgM))) st = .ok (x, .fz, st) := by
              unfold mDGet
              simp [y2, get_S ql]
            have g2 : mDGet (mVar 2) (mOp gIx (mVar 0) (mC (.int 3))) (LMI (fz (.lst [.str "move", .str p, .str l, .str c, .str o])) (fz (.dct LsM)) (fz (.dct CgM))) st = .ok (y, .fz, st) := by
              unfold mDGet
              simp [y3, get_S qc]
            have i1 : mOp gIx (mVar 0) (mC (.int 1)) (LMI (fz (.lst [.str "move", .str p, .str l, .str c, .str o])) (fz (.dct LsM)) (fz (.dct CgM))) st = .ok (.str p, .fz, st) := by simp [y1]
            have i4 : mOp gIx (mVar 0) (mC (.int 4)) (LMI (fz (.lst [.str "move", .str p, .str l, .str c, .str o])) (fz (.dct LsM)) (fz (.dct CgM))) st = .ok (.str o, .fz, st) := by simp [y4]
            have ar := cons_ok (ms := [x, y, .str o]) i1 rfl (cons_ok g1 rfl (cons_ok g2 rfl (cons_ok i4 rfl nil_ok)))
            show mTup _ (LMI (fz (.lst [.str "move", .str p, .str l, .str c, .str o])) (fz (.dct LsM)) (fz (.dct CgM))) st = _
            rw [d_mTup, ar]
            simp [sz]
      · have qa' : (!(a == ("move" : Str))) = true := by simp [qa]
        rw [qa'] at c2
        refine ⟨isFr .fz, ?_⟩
        rw [show moveS [a, p, l, c, o] = .non by simp [moveS, qa]]
        exact fin (seq_rt (no (or_ff c1' (or_tt c2))))
  · refine ⟨isFr .fz, ?_⟩
    have hm := moveS_len q5
    rw [hm]
    have : (!((r.length : Int) == 5)) = true := by
      have : ¬ ((r.length : Int) = 5) := by omega
      simp [this]
    rw [this] at c1
    exact fin (seq_rt (no (or_tt c1)))
end FL

namespace FL
open PySem L2 PySem.Spec PyProof.Rows FW

def neS : MV → Bool
  | .str s => !(s == ("" : Str))
  | _ => false
def neP : MV → Bool
  | .str s => !(ptS s).isEmpty
  | _ => false
def rowL (r : List Str) : MV := .lst (r.map .str)
def rowF : MV → MV
  | .str s => rowL (ptS s)
  | m => m
theorem partsOf_ok {x : Str} (h : TxOk x) (st : Sto) : M_parts_of [.str x] st = .ok (.lst ((ptS x).map .str), true, st) := by
  have hl := h.l
  have sp : mBm "str" gSplit (mVar 0) (mCons (mC (.str " ")) mNil) [fz (.str x), none] st = .ok (.lst ((Txt.split x " ").map .str), .fr, st) := by
    have g : gSplit st [.str x, .str " "] = some (.lst ((Txt.split x " ").map .str), true) := by
      show (if ((" " : Str).length == 0) = false ∧ x.length + 2 ≤ sizeLine then some (MV.lst ((Txt.split x " ").map .str), true) else none) = _
      rw [if_pos ⟨by decide +kernel, sz (by omega)⟩]
    unfold mBm
    simp [tyOk, g]
  have ss := split_size (splSp x)
  have e := lc_filter (vs := [1]) (fi := iSeq (mBm "str" gSplit (mVar 0) (mCons (mC (.str " ")) mNil))) (gf := gN 1) (tt := mTv (mOp (gEqB true) (mVar 1) (mC (.str "")))) (fe := mVar 1)
    (lo := [fz (.str x), none]) (st := st) (items := (Txt.split x " ").map .str) (ck := ckT) (p := neS) (f := id) rfl (iSeq_lst sp rfl) (fun _ => trivial) (sz (by rw [List.length_map]; omega)) (fun m hm => by
      obtain ⟨s, hs, rfl⟩ := List.mem_map.mp hm
      have q := eq_ok (neg := true) (st := st) (split_part (splSp x) h s hs).s (show PyData.strOk ("" : Str) = true by decide +kernel)
      exact ⟨[fz (.str x), fz (.str s)], rfl, by simp [q, neS], fun _ => ⟨.fz, rfl, rfl⟩⟩)
  rw [List.map_id, filt_map (f := MV.str) (p := neS) (q := fun s => !(s == ("" : Str))) _ fun s _ => rfl] at e
  unfold M_parts_of g_parts_of
  exact runF_own (k := .fr) (lo0 := [fz (.str x), none]) rfl (ret_ok e) rfl
def rwM (x : Str) : List MV := (rwS x).map rowL
theorem gd_row {n : Nat} {r : List Str} (h : ∀ p, p ∈ r → TxOk p) : gd (n + 2) (rowL r) = true := gd_strs r fun x hx => (h x hx).s
theorem gd_rows {n : Nat} {x : Str} (h : TxOk x) : gd (n + 3) (.lst (rwM x)) = true := gd_lst fun y hy => by
  obtain ⟨r, hr, rfl⟩ := List.mem_map.mp hy
  exact gd_row ((rwS_ok h).1 r hr).2.1
theorem rows_ok {x : Str} (h : TxOk x) (t1 t2 t4 : Option (MV × Bool)) (st : Sto) :
    mLc [3] (iSeq (mBm "str" gSplit (mVar 0) (mCons (mC (.str "\n")) mNil))) (gN 3) (mTv (mOp (gEqB true) (mCall 1 M_parts_of [] (mCons (mVar 3) mNil)) (mLst mNil))) (mCall 1 M_parts_of [] (mCons (mVar 3) mNil)) [fz (.str x), t1, t2, none, t4] st = .ok (.lst (rwM x), .fr, st) := by
  have hl := h.l
  have sp : mBm "str" gSplit (mVar 0) (mCons (mC (.str "\n")) mNil) [fz (.str x), t1, t2, none, t4] st = .ok (.lst ((Txt.split x "\n").map .str), .fr, st) := by
    have g : gSplit st [.str x, .str "\n"] = some (.lst ((Txt.split x "\n").map .str), true) := by
      show (if (("\n" : Str).length == 0) = false ∧ x.length + 2 ≤ sizeLine then some (MV.lst ((Txt.split x "\n").map .str), true) else none) = _
      rw [if_pos ⟨by decide +kernel, sz (by omega)⟩]
    unfold mBm
    simp [tyOk, g]
  have ss := split_size (splNl x)
  have e := lc_filter (vs := [3]) (fi := iSeq (mBm "str" gSplit (mVar 0) (mCons (mC (.str "\n")) mNil))) (gf := gN 3) (tt := mTv (mOp (gEqB true) (mCall 1 M_parts_of [] (mCons (mVar 3) mNil)) (mLst mNil))) (fe := mCall 1 M_parts_of [] (mCons (mVar 3) mNil))
    (lo := [fz (.str x), t1, t2, none, t4]) (st := st) (items := (Txt.split x "\n").map .str) (ck := ckT) (p := neP) (f := rowF) rfl (iSeq_lst sp rfl) (fun _ => trivial) (sz (by rw [List.length_map]; omega)) (fun m hm => by
      obtain ⟨s, hs, rfl⟩ := List.mem_map.mp hm
      have ok := split_part (splNl x) h s hs
      have ev : mCall 1 M_parts_of [] (mCons (mVar 3) mNil) [fz (.str x), t1, t2, fz (.str s), t4] st = .ok (rowL (ptS s), .fr, st) := callV (ms := [.str s]) (b := true) (st1 := st) rfl rfl (partsOf_ok ok st)
      have q := eqNil (neg := true) (xs := (ptS s).map .str) (gd_row (n := 10) (ptS_ok ok).1) st
      refine ⟨[fz (.str x), t1, t2, fz (.str s), t4], rfl, tv_ok (k := .fz) ?_, fun _ => ⟨.fr, ev, rfl⟩⟩
      refine opV (b := .lst []) (kb := .fr) (st2 := st) ev (by simp [sz]) ?_
      rw [show neP (.str s) = !((ptS s).map MV.str).isEmpty by show (!(ptS s).isEmpty) = _; cases ptS s <;> rfl]
      exact q)
  have e2 : ((Txt.split x "\n").map MV.str).filter neP = ((Txt.split x "\n").filter fun s => !(ptS s).isEmpty).map .str := filt_map (f := MV.str) (p := neP) _ fun s _ => rfl
  rw [e2, List.map_map] at e
  have e3 : ((Txt.split x "\n").filter fun s => !(ptS s).isEmpty).map (rowF ∘ MV.str) = rwM x := by
    unfold rwM rwS
    rw [filt_map (f := ptS) (p := fun r : List Str => !r.isEmpty) (q := fun s => !(ptS s).isEmpty) _ fun s _ => rfl, List.map_map]
    rfl
  rw [e3] at e
  exact e
def lineS (m : Move) : List Str := ["move", m.p, sI m.l, sgS m.c, m.o]
def linesS (P : Prog) : List (List Str) := ("places" :: P.pl) :: P.mv.map lineS
def textS (P : Prog) : Str := Txt.join "\n" ((linesS P).map (Txt.join " "))
theorem move_line {pl : List Str} {m : Move} (h : m.Ok pl) : moveS (lineS m) = mM m := by
  have e1 : lkD LsM (kS (sI m.l)) = some (.int m.l) := by
    rcases small8 h.l0 h.l8 with e | e | e | e | e | e | e | e | e <;> rw [e] <;> rfl
  have e2 : lkD CgM (kS (sgS m.c)) = some (.int m.c) := by
    rcases small9 h.c4 h.c5 with e | e | e | e | e | e | e | e | e <;> rw [e] <;> rfl
  simp [lineS, moveS, e1, e2, mM]
/-- a program whose names are parts of a text -/
structure TP (P : Prog) : Prop where
  pl : PlG P.pl
  mv : ∀ m, m ∈ P.mv → m.Ok P.pl
  len : P.mv.length ≤ 10
  tok : ∀ p, p ∈ P.pl → tokB p = true
theorem TP.of {P : Prog} (h : P.Ok) : TP P := ⟨NM_of h.pl, h.mv, h.len, h.pl.cases (Q := fun l => ∀ p, p ∈ l → tokB p = true) (by decide +kernel) (by decide +kernel) (by decide +kernel) (by decide +kernel) (by decide +kernel)⟩
theorem TP.pg {P : Prog} (h : TP P) : PG P := ⟨h.pl, h.mv, h.len⟩
theorem tok_lines {P : Prog} (h : TP P) : ∀ r, r ∈ linesS P → (∀ p, p ∈ r → tokB p = true) ∧ r ≠ [] ∧ r.length ≤ 5 := by
  intro r hr
  have l4 := h.pl.l4
  rcases List.mem_cons.mp hr with rfl | hr
  · refine ⟨fun p hp => ?_, by simp, by simp; omega⟩
    rcases List.mem_cons.mp hp with rfl | hp
    · decide +kernel
    · exact h.tok p hp
  · obtain ⟨m, hm, rfl⟩ := List.mem_map.mp hr
    have ok := h.mv m hm
    refine ⟨fun p hp => ?_, by simp [lineS], by simp [lineS]⟩
    simp only [lineS, List.mem_cons, List.not_mem_nil, or_false] at hp
    rcases hp with rfl | rfl | rfl | rfl | rfl
    · decide +kernel
    · exact h.tok _ ok.p
    · exact tok_l ok.l0 ok.l8
    · exact (tok_c ok.c4 ok.c5).1
    · exact h.tok _ ok.o
theorem tokB_ok {s : Str} (h : tokB s = true) : TL.tl s ≠ [] ∧ 32 ∉ TL.tl s ∧ 10 ∉ TL.tl s ∧ s.length ≤ 9 ∧ PyData.strOk s = true := by
  unfold tokB at h
  simp only [Bool.and_eq_true, Bool.not_eq_true', decide_eq_true_eq] at h
  obtain ⟨h1, h2, h3, h4, h5⟩ := h
  refine ⟨fun e => (by rw [e] at h1; cases h1), fun m => ?_, fun m => ?_, h4, h5⟩
  · rw [List.contains_iff_mem.mpr m] at h2; cases h2
  · rw [List.contains_iff_mem.mpr m] at h3; cases h3
theorem joinL_mem {S : List Nat} : ∀ {ps : List (List Nat)} {z : Nat}, z ∈ TL.joinL S ps → z ∈ S ∨ ∃ p, p ∈ ps ∧ z ∈ p
  | [], z, h => by cases h
  | [p], z, h => .inr ⟨p, by simp, h⟩
  | p :: q :: ps, z, h => by
    have h' : z ∈ p ++ S ++ TL.joinL S (q :: ps) := by simpa [TL.joinL] using h
    rcases List.mem_append.mp h' with h' | h'
    · rcases List.mem_append.mp h' with h' | h'
      · exact .inr ⟨p, by simp, h'⟩
      · exact .inl h'
    · rcases joinL_mem h' with y | ⟨w, hw, hz⟩
      · exact .inl y
      · exact .inr ⟨w, List.mem_cons_of_mem _ hw, hz⟩
theorem tl_joinT (y : Str) (parts : List Str) : TL.tl (Txt.join y parts) = TL.joinL (TL.tl y) (parts.map TL.tl) := by rw [TL.join_eq, TL.tl_join]
/-- a row whose parts are right is parted into them -/
theorem P32_join {r : List Str} (h : ∀ p, p ∈ r → tokB p = true) (h0 : r ≠ []) : P32 (TL.tl (Txt.join " " r)) = r.map TL.tl := by
  rw [tl_joinT]
  show P32 (TL.joinL [32] (r.map TL.tl)) = _
  unfold P32
  rw [TL.spl_join (by cases r <;> simp at h0 ⊢) (fun p hp => by
    obtain ⟨s, hs, rfl⟩ := List.mem_map.mp hp
    exact (tokB_ok (h s hs)).2.1)]
  refine List.filter_eq_self.mpr fun p hp => ?_
  obtain ⟨s, hs, rfl⟩ := List.mem_map.mp hp
  have := (tokB_ok (h s hs)).1
  cases e : TL.tl s with
  | nil => exact absurd e this
  | cons _ _ => rfl
theorem no10_row {r : List Str} (h : ∀ p, p ∈ r → tokB p = true) : 10 ∉ TL.tl (Txt.join " " r) := by
  rw [tl_joinT]
  intro z
  rcases joinL_mem z with y | ⟨p, hp, hz⟩
  · exact absurd y (by decide +kernel)
  · obtain ⟨s, hs, rfl⟩ := List.mem_map.mp hp
    exact (tokB_ok (h s hs)).2.2.1 hz
theorem textS_R {P : Prog} (h : TP P) : R10 (TL.tl (textS P)) = (linesS P).map (·.map TL.tl) := by
  unfold textS
  rw [tl_joinT]
  show R10 (TL.joinL [10] _) = _
  have hl := tok_lines h
  rw [R10_join (by simp [linesS]) (fun p hp => by
    rw [List.map_map] at hp
    obtain ⟨r, hr, rfl⟩ := List.mem_map.mp hp
    exact no10_row (hl r hr).1)]
  rw [List.map_map, List.map_map]
  have e : (linesS P).map ((P32 ∘ TL.tl) ∘ Txt.join " ") = (linesS P).map (·.map TL.tl) := List.map_congr_left fun r hr => P32_join (hl r hr).1 (hl r hr).2.1
  rw [e]
  refine List.filter_eq_self.mpr fun p hp => ?_
  obtain ⟨r, hr, rfl⟩ := List.mem_map.mp hp
  have := (hl r hr).2.1
  cases r with
  | nil => exact absurd rfl this
  | cons _ _ => rfl
theorem textS_rw {P : Prog} (h : TP P) : rwS (textS P) = linesS P := maps_inj (by rw [rwS_tl, textS_R h])
end FL

namespace FL
open PySem L2 PySem.Spec PyProof.Rows FW

theorem sum_le {xs : List Nat} {b : Nat} (h : ∀ x, x ∈ xs → x ≤ b) : xs.sum ≤ b * xs.length := by
  induction xs with
  | nil => simp
  | cons x xs ih =>
    have h1 := h x (List.mem_cons_self ..)
    have h2 := ih fun y hy => h y (List.mem_cons_of_mem _ hy)
    rw [List.sum_cons, List.length_cons, Nat.mul_succ]
    omega
theorem join_sz {y : Str} {ps : List Str} {b n : Nat} (h : ∀ p, p ∈ ps → p.length ≤ b) (hn : ps.length ≤ n) : (ps.map (·.length)).sum + ps.length * y.length ≤ (b + y.length) * n := by
  have h1 : (ps.map (·.length)).sum ≤ b * (ps.map (·.length)).length := sum_le fun x hx => by
    obtain ⟨p, hp, rfl⟩ := List.mem_map.mp hx
    exact h p hp
  rw [List.length_map] at h1
  calc (ps.map (·.length)).sum + ps.length * y.length ≤ b * ps.length + ps.length * y.length := Nat.add_le_add_right h1 _
    _ = (b + y.length) * ps.length := by rw [Nat.add_mul, Nat.mul_comm ps.length]
    _ ≤ (b + y.length) * n := Nat.mul_le_mul_left _ hn
theorem join_len {y : Str} {ps : List Str} {b n : Nat} (h : ∀ p, p ∈ ps → p.length ≤ b) (hn : ps.length ≤ n) : (Txt.join y ps).length ≤ (b + y.length) * n := by
  rw [TL.join_eq]
  exact Nat.le_trans (StrLaws.join_length_le y ps) (join_sz h hn)
theorem join_g {y : Str} {ps : List Str} (st : Sto) (h : (ps.map (·.length)).sum + ps.length * y.length ≤ 16777216) : gJoin st [.str y, .lst (ps.map .str)] = some (.str (Txt.join y ps), false) := by
  show ((strsOf (ps.map MV.str)).bind fun ys => if (ys.map (·.length)).sum + ys.length * y.length ≤ 16777216 then some (MV.str (Txt.join y ys), false) else none) = _
  rw [strsOf_map]
  exact if_pos h
theorem join_ok {f g : EF} {lo : Lo} {st st1 st2 : Sto} {y : Str} {ps : List Str} {k1 k2 : Kd} (h1 : f lo st = .ok (.str y, k1, st1)) (h2 : g lo st1 = .ok (.lst (ps.map .str), k2, st2)) (h : (ps.map (·.length)).sum + ps.length * y.length ≤ 16777216) :
    mBm "str" gJoin f (mCons g mNil) lo st = .ok (.str (Txt.join y ps), .fz, st2) := by
  have e : mCons g mNil lo st1 = .ok ([(.lst (ps.map .str), isPk k2)], st2) := by rw [d_mCons, h2]; rfl
  unfold mBm
  rw [h1]
  show (if tyOk "str" (MV.str y) = true then (mCons g mNil lo st1 >>= fun (l, s) => giveOut (gJoin s (vw s (.str y) :: l.map fun z => vw s z.1)) s) else .bad) = _
  rw [if_pos (by rfl), e]
  show giveOut (gJoin st2 [.str y, .lst (ps.map .str)]) st2 = _
  rw [join_g st2 h, d_give0]
theorem strOk_join {y : Str} {ps : List Str} (hy : PyData.strOk y = true) (h : ∀ p, p ∈ ps → PyData.strOk p = true) : PyData.strOk (Txt.join y ps) = true := by
  rw [TL.join_eq]
  exact FW.ok_join hy ps h
theorem sp_len : (" " : Str).length = 1 := by decide +kernel
theorem nl_len : ("\n" : Str).length = 1 := by decide +kernel
theorem row_len {r : List Str} (h : ∀ p, p ∈ r → tokB p = true) (hl : r.length ≤ 5) : (Txt.join " " r).length ≤ 50 := by
  have := join_len (y := " ") (b := 9) (n := 5) (fun p hp => (tokB_ok (h p hp)).2.2.2.1) hl
  rw [sp_len] at this
  exact this
theorem lines_len {P : Prog} (h : TP P) : (linesS P).length ≤ 11 := by
  have := h.len
  simp [linesS]; omega
theorem textS_ok {P : Prog} (h : TP P) : PyData.strOk (textS P) = true ∧ (textS P).length ≤ 1000 := by
  have hl := tok_lines h
  refine ⟨strOk_join (by decide +kernel) fun p hp => ?_, ?_⟩
  · obtain ⟨r, hr, rfl⟩ := List.mem_map.mp hp
    exact strOk_join (by decide +kernel) fun q hq => (tokB_ok ((hl r hr).1 q hq)).2.2.2.2
  · have := join_len (y := "\n") (ps := (linesS P).map (Txt.join " ")) (b := 50) (n := 11) (fun p hp => by
      obtain ⟨r, hr, rfl⟩ := List.mem_map.mp hp
      exact row_len (hl r hr).1 (hl r hr).2.2) (by rw [List.length_map]; exact lines_len h)
    rw [nl_len] at this
    exact Nat.le_trans this (by decide)
theorem textS_tx {P : Prog} (h : TP P) : TxOk (textS P) := ⟨(textS_ok h).1, Nat.le_trans (textS_ok h).2 (by decide)⟩
theorem join_rows {P : Prog} (h : TP P) : (((linesS P).map (Txt.join " ")).map (·.length)).sum + ((linesS P).map (Txt.join " ")).length * ("\n" : Str).length ≤ 16777216 := by
  have hl := tok_lines h
  have := join_sz (y := "\n") (ps := (linesS P).map (Txt.join " ")) (b := 50) (n := 11) (fun p hp => by
      obtain ⟨r, hr, rfl⟩ := List.mem_map.mp hp
      exact row_len (hl r hr).1 (hl r hr).2.2) (by rw [List.length_map]; exact lines_len h)
  rw [nl_len] at this
  exact Nat.le_trans this (by decide)
theorem join_row {r : List Str} (h : ∀ p, p ∈ r → tokB p = true) (hl : r.length ≤ 5) : (r.map (·.length)).sum + r.length * (" " : Str).length ≤ 16777216 := by
  have := join_sz (y := " ") (b := 9) (n := 5) (fun p hp => (tokB_ok (h p hp)).2.2.2.1) hl
  rw [sp_len] at this
  exact Nat.le_trans this (by decide)
def joinF : MV → MV
  | .lst xs => .str (Txt.join " " ((strsOf xs).getD []))
  | m => m
theorem joinF_row (r : List Str) : joinF (rowL r) = .str (Txt.join " " r) := by
  show MV.str (Txt.join " " ((strsOf (r.map MV.str)).getD [])) = _
  rw [strsOf_map]; rfl
def moveF : MV → MV
  | .lst xs => moveS ((strsOf xs).getD [])
  | m => m
theorem moveF_row (r : List Str) : moveF (rowL r) = moveS r := by
  show moveS ((strsOf (r.map MV.str)).getD []) = _
  rw [strsOf_map]; rfl
/-- the rows joined, each by blanks -/
theorem glued_ok {P : Prog} (h : TP P) {i j : Nat} {lo : Lo} {st : Sto} {f : EF} {k : Kd} (hc : clrOk lo [j] = true) (hf : f lo st = .ok (.lst ((linesS P).map rowL), k, st)) (hk : isPk k = false) (hj : j < lo.length) :
    mBm "str" gJoin (mC (.str "\n")) (mCons (mLc [j] (iSeq f) (gN j) tYesM (mBm "str" gJoin (mC (.str " ")) (mCons (mVar j) mNil))) mNil) lo st = .ok (.str (textS P), .fz, st) := by
  have hl := tok_lines h
  have e := lc_filter (vs := [j]) (fi := iSeq f) (gf := gN j) (tt := tYesM) (fe := mBm "str" gJoin (mC (.str " ")) (mCons (mVar j) mNil)) (lo := lo) (st := st) (items := (linesS P).map rowL) (ck := ckT) (p := fun _ => true)
    (f := joinF) hc (iSeq_lst hf hk) (fun _ => trivial) (sz (by rw [List.length_map]; have := lines_len h; omega)) (fun m hm => by
      obtain ⟨r, hr, rfl⟩ := List.mem_map.mp hm
      refine ⟨(wipeM lo [j]).set j (fz (rowL r)), rfl, rfl, fun _ => ⟨.fz, ?_, rfl⟩⟩
      have v : mVar j ((wipeM lo [j]).set j (fz (rowL r))) st = .ok (rowL r, .fz, st) := by
        rw [d_mVar, List.getElem?_set_self (by rw [wipeM_len]; exact hj)]
      rw [joinF_row]
      exact join_ok (k1 := .fz) (st1 := st) rfl v (join_row (hl r hr).1 (hl r hr).2.2))
  rw [List.filter_eq_self.mpr (by simp), List.map_map] at e
  have e2 : (linesS P).map (joinF ∘ rowL) = ((linesS P).map (Txt.join " ")).map MV.str := by
    rw [List.map_map]
    exact List.map_congr_left fun r _ => joinF_row r
  rw [e2] at e
  exact join_ok (k1 := .fz) (st1 := st) rfl e (join_rows h)
abbrev LTx (P : Prog) (R : List (List Str)) (t2 t3 t4 t5 : Option (MV × Bool)) : Lo := [fz (progM P), ow (.lst (R.map rowL)), t2, t3, t4, t5, none]
theorem starV {f : EF} {lo : Lo} {st st1 : Sto} {xs : List MV} (h : f lo st = .ok (.lst xs, .fr, st1)) : mStarA f mNil lo st = .ok (xs.map (·, false), st1) := by
  unfold mStarA
  rw [h]
  simp only [Res.ok_bind, vw_lst, d_mNil, List.append_nil]
theorem allFz_map (xs : List MV) : allFz (xs.map (·, false)) = some xs := by
  unfold allFz
  have e : ∀ xs : List MV, (xs.map (·, false)).map (·.1) = xs := fun xs => by induction xs <;> simp_all
  rw [if_pos (by simp), e]
theorem atI_cons0 (x : MV) (xs : List MV) : atI (x :: xs) 0 = some x := by
  unfold atI
  rw [show ixN (x :: xs).length 0 = some 0 by unfold ixN; simp]
  rfl
theorem text_turn {P : Prog} {m : Move} (ok : m.Ok P.pl) (R : List (List Str)) (hR : R.length ≤ 100) (st : Sto) :
    b1_text_of (LTx P R (fz (.str m.p)) (fz (.int m.l)) (fz (.int m.c)) (fz (.str m.o))) st = .ok (.nx, LTx P (R ++ [lineS m]) (fz (.str m.p)) (fz (.int m.l)) (fz (.int m.c)) (fz (.str m.o)), st) := by
  have a := ok.l0; have b := ok.l8
  have e1 := strI (i := m.l) (by omega) st
  have e2 := callR_ok (LTx P R (fz (.str m.p)) (fz (.int m.l)) (fz (.int m.c)) (fz (.str m.o))) st (signed_ok ok.c4 ok.c5 st)
  rw [show LTx P (R ++ [lineS m]) (fz (.str m.p)) (fz (.int m.l)) (fz (.int m.c)) (fz (.str m.o)) = (LTx P R (fz (.str m.p)) (fz (.int m.l)) (fz (.int m.c)) (fz (.str m.o))).set 1 (ow (.lst (R.map rowL ++ [rowL (lineS m)]))) by simp [LTx]]
  refine app_ok (fo := mVar 1) (i := 1) (x := .lst (R.map rowL)) (kd := .fr) rfl rfl ?_ rfl (szl (by rw [List.length_map]; omega))
  simp [e1, e2, sz, rowL, lineS]
theorem text_loop {P : Prog} : ∀ (ms : List Move) (R : List (List Str)) (t2 t3 t4 t5 : Option (MV × Bool)) (st : Sto), (∀ m, m ∈ ms → m.Ok P.pl) → R.length + ms.length ≤ 100 →
    ∃ u2 u3 u4 u5, forL ckT (gT 4 (gsCons (gN 2) (gsCons (gN 3) (gsCons (gN 4) (gsCons (gN 5) gsNil))))) b1_text_of (ms.map mM) (LTx P R t2 t3 t4 t5) st = .ok (.nx, LTx P (R ++ ms.map lineS) u2 u3 u4 u5, st)
  | [], R, t2, t3, t4, t5, st, _, _ => ⟨t2, t3, t4, t5, by rw [List.map_nil, List.map_nil, List.append_nil, forL_nil, if_pos trivial]⟩
  | m :: ms, R, t2, t3, t4, t5, st, h, hl => by
    simp only [List.length_cons] at hl
    obtain ⟨u2, u3, u4, u5, e⟩ := text_loop ms (R ++ [lineS m]) (fz (.str m.p)) (fz (.int m.l)) (fz (.int m.c)) (fz (.str m.o)) st (fun w hw => h w (List.mem_cons_of_mem _ hw)) (by simp; omega)
    refine ⟨u2, u3, u4, u5, ?_⟩
    rw [List.append_assoc] at e
    exact forL_nx (lo1 := LTx P R (fz (.str m.p)) (fz (.int m.l)) (fz (.int m.c)) (fz (.str m.o))) (st1 := st) rfl (text_turn (h m (List.mem_cons_self ..)) R (by omega) st) e
theorem textOf_ok {P : Prog} (h : TP P) (st : Sto) : M_text_of [progM P] st = .ok (.str (textS P), false, st) := by
  have l4 := h.pl.l4
  have l10 := h.len
  obtain ⟨u2, u3, u4, u5, e⟩ := text_loop P.mv ["places" :: P.pl] none none none none st h.mv (by simp; omega)
  have e0 : sOwn 1 (mLst (mCons (mLst (mCons (mC (.str "places")) (mStarA (mMeth "Program" "places" 1 M_Program_places (mVar 0) mNil) mNil))) mNil)) [fz (progM P), none, none, none, none, none, none] st = .ok (.nx, LTx P ["places" :: P.pl] none none none none, st) := by
    have s1 := starV (places_m (lo := [fz (progM P), none, none, none, none, none, none]) (fo := mVar 0) (k := .fz) (st := st) (st1 := st) rfl rfl)
    have s2 := cons_ok (f := mC (.str "places")) (k := .fz) (m := .str "places") (st1 := st) (ms := plM P) rfl rfl s1
    have s3 : mLst (mCons (mC (.str "places")) (mStarA (mMeth "Program" "places" 1 M_Program_places (mVar 0) mNil) mNil)) [fz (progM P), none, none, none, none, none, none] st = .ok (rowL ("places" :: P.pl), .fr, st) := by
      rw [d_mLst, s2]
      simp only [Res.ok_bind, allFz_map]
      rw [if_pos (sz (by simp [plM]; omega))]
      rfl
    refine own_ok ?_ rfl
    rw [d_mLst, cons_ok s3 rfl nil_ok]
    simp [sz]
  have fs : mFld "steps" (inB ["Program"]) noB (mVar 0) (LTx P ["places" :: P.pl] none none none none) st = .ok (.tup (mvM P), .fz, st) := fldSt rfl
  have it : iSeq (mFld "steps" (inB ["Program"]) noB (mVar 0)) (LTx P ["places" :: P.pl] none none none none) st = .ok (mvM P, ckT, st) := by
    unfold iSeq; rw [fs]; rfl
  unfold M_text_of g_text_of
  refine runF_own (k := .fz) (lo0 := [fz (progM P), none, none, none, none, none, none]) (lo := [fz (progM P), fz (.lst ((linesS P).map rowL)), u2, u3, u4, u5, none]) rfl
    (seq_ok (expr_ok (callV (ms := [progM P]) (b := false) (st1 := st) rfl rfl (chkP_ok P st))) (seq_ok e0 (seq_ok (for_ok it e) ?_))) rfl
  rw [d_sFz]
  exact ret_ok (glued_ok (i := 0) (k := .fz) h rfl rfl rfl (by simp))
abbrev LP (x : Str) (t1 t2 : Option (MV × Bool)) : Lo := [fz (.str x), t1, t2, none, none]
theorem rows_of {x : Str} {P : Prog} (e : rwS x = linesS P) : rwM x = rowL ("places" :: P.pl) :: (P.mv.map lineS).map rowL := by
  unfold rwM; rw [e]; rfl
theorem programIn_ok {x : Str} (hx : TxOk x) {P : Prog} (h : TP P) (e : rwS x = linesS P) (st : Sto) : M_program_in [.str x] st = .ok (progM P, true, st) := by
  have er := rows_of e
  have r1 := rows_ok hx none none none st
  rw [er] at r1
  have l10 := h.len
  have l4 := h.pl.l4
  have gr := gd_rows (n := 9) hx
  rw [er] at gr
  generalize hR : rowL ("places" :: P.pl) :: (P.mv.map lineS).map rowL = R at *
  have y0 : atI R 0 = some (rowL ("places" :: P.pl)) := by subst hR; exact atI_cons0 _ _
  have y00 : atI (MV.str "places" :: P.pl.map MV.str) 0 = some (.str "places") := atI_cons0 _ _
  have s1 : sSet 1 (mLc [3] (iSeq (mBm "str" gSplit (mVar 0) (mCons (mC (.str "\n")) mNil))) (gN 3) (mTv (mOp (gEqB true) (mCall 1 M_parts_of [] (mCons (mVar 3) mNil)) (mLst mNil))) (mCall 1 M_parts_of [] (mCons (mVar 3) mNil))) (LP x none none) st = .ok (.nx, LP x (fz (.lst R)) none, st) := set_ok r1 rfl
  have i0 : ∀ t2, mOp gIx (mVar 1) (mC (.int 0)) (LP x (fz (.lst R)) t2) st = .ok (rowL ("places" :: P.pl), .fz, st) := fun t2 => by simp [y0]
  have c1 : mTv (mOp (gEqB false) (mVar 1) (mLst mNil)) (LP x (fz (.lst R)) none) st = .ok (false, st) := by
    have q := eqNil (neg := false) gr st
    rw [show R.isEmpty = false by subst hR; rfl] at q
    exact tv_ok (opV (ka := .fz) (kb := .fr) (b := .lst []) (st1 := st) rfl (by simp [sz]) q)
  have c2 : mTv (mOp (gEqB true) (mOp gIx (mOp gIx (mVar 1) (mC (.int 0))) (mC (.int 0))) (mC (.str "places"))) (LP x (fz (.lst R)) none) st = .ok (false, st) := by
    have q := eq_ok (neg := true) (st := st) (x := ("places" : Str)) (y := "places") (by decide +kernel) (by decide +kernel)
    have i00 : mOp gIx (mOp gIx (mVar 1) (mC (.int 0))) (mC (.int 0)) (LP x (fz (.lst R)) none) st = .ok (.str "places", .fz, st) := opV (kb := .fz) (b := .int 0) (st1 := st) (i0 none) rfl (by show gIx st (rowL _) (.int 0) = _; simp [rowL, y00])
    exact tv_ok (opV (kb := .fz) (b := .str "places") (st2 := st) i00 rfl q)
  have ct : cutM R (some 1) none = (P.mv.map lineS).map rowL := by
    have := cut_drop R (k := 1) (by subst hR; simp)
    exact this.trans (by subst hR; rfl)
  have sl : mSl (mVar 1) (oSome (mC (.int 1))) oNone (LP x (fz (.lst R)) none) st = .ok (.lst ((P.mv.map lineS).map rowL), .fr, st) := by
    unfold mSl oSome oNone
    simp [gSl, ct]
  have hl := tok_lines h
  have m1 := lc_filter (vs := [4]) (fi := iSeq (mSl (mVar 1) (oSome (mC (.int 1))) oNone)) (gf := gN 4) (tt := tYesM) (fe := mCall 1 M_move_in [] (mCons (mVar 4) mNil)) (lo := LP x (fz (.lst R)) none) (st := st) (items := (P.mv.map lineS).map rowL) (ck := ckT) (p := fun _ => true)
    (f := moveF) rfl (iSeq_lst sl rfl) (fun _ => trivial) (sz (by rw [List.length_map, List.length_map]; omega)) (fun m hm => by
      obtain ⟨r, hr, rfl⟩ := List.mem_map.mp hm
      have hr' : r ∈ linesS P := List.mem_cons_of_mem _ hr
      obtain ⟨b, eb⟩ := moveIn_ok (r := r) (fun p hp => ⟨(tokB_ok ((hl r hr').1 p hp)).2.2.2.2, by have := (tokB_ok ((hl r hr').1 p hp)).2.2.2.1; omega⟩) (by have := (hl r hr').2.2; omega) st
      refine ⟨[fz (.str x), fz (.lst R), none, none, fz (rowL r)], rfl, rfl, fun _ => ⟨if b then .fr else .fz, ?_, by cases b <;> rfl⟩⟩
      rw [moveF_row]
      exact callV (ms := [rowL r]) (b := b) (st1 := st) rfl rfl eb)
  rw [List.filter_eq_self.mpr (by simp), List.map_map, List.map_map] at m1
  have em : P.mv.map ((moveF ∘ rowL) ∘ lineS) = mvM P := List.map_congr_left fun m hm => (moveF_row (lineS m)).trans (move_line (h.mv m hm))
  rw [em] at m1
  have s2 : sSet 2 (mLc [4] (iSeq (mSl (mVar 1) (oSome (mC (.int 1))) oNone)) (gN 4) tYesM (mCall 1 M_move_in [] (mCons (mVar 4) mNil))) (LP x (fz (.lst R)) none) st = .ok (.nx, LP x (fz (.lst R)) (fz (.lst (mvM P))), st) := set_ok m1 rfl
  have gm : gd dpt (.lst (mvM P)) = true := gd_lst fun y hy => by
    obtain ⟨m, hm, rfl⟩ := List.mem_map.mp hy
    exact gd_tup (gd_mM h.pl.good (h.mv m hm) _ rfl)
  have c3 : mTv (mOp (gInA false) (mC .non) (mVar 2)) (LP x (fz (.lst R)) (fz (.lst (mvM P)))) st = .ok (false, st) := by
    have q := in_gd (neg := false) (st := st) (a := .non) rfl gm
    have : ((mvM P).any fun z => eqM z .non) = false := by
      rw [Bool.eq_false_iff]
      intro z
      obtain ⟨y, hy, hz⟩ := List.any_eq_true.mp z
      obtain ⟨m, hm, rfl⟩ := List.mem_map.mp hy
      simp [eqM, md, mM, PyData.eqv] at hz
    rw [this] at q
    exact tv_ok (opV (ka := .fz) (kb := .fz) (st1 := st) rfl rfl q)
  have sl2 : mSl (mOp gIx (mVar 1) (mC (.int 0))) (oSome (mC (.int 1))) oNone (LP x (fz (.lst R)) (fz (.lst (mvM P)))) st = .ok (.lst (plM P), .fr, st) := by
    have ct2 : cutM (MV.str "places" :: P.pl.map MV.str) (some 1) none = plM P := by
      have := cut_drop (MV.str "places" :: P.pl.map MV.str) (k := 1) (by simp)
      exact this.trans rfl
    unfold mSl oSome oNone
    rw [i0]
    simp [gSl, rowL, ct2]
  have t1 : sRet (mCall 2 M_Program_init [] (mCons (mSl (mOp gIx (mVar 1) (mC (.int 0))) (oSome (mC (.int 1))) oNone) (mCons (mVar 2) mNil))) (LP x (fz (.lst R)) (fz (.lst (mvM P)))) st = .ok (.rt (progM P) .fr, LP x (fz (.lst R)) (fz (.lst (mvM P))), st) :=
    ret_ok (callV (ms := [.lst (plM P), .lst (mvM P)]) (b := true) (st1 := st) (cons_ok sl2 rfl (cons_ok (k := .fz) rfl rfl nil_ok)) rfl (init_ok h.pl h.mv h.len (.inl rfl) (.inl rfl)))
  unfold M_program_in g_program_in
  exact runF_own (k := .fr) (lo0 := LP x none none) rfl (seq_ok s1 (seq_ok (if_ff (or_ff c1 c2) rfl) (seq_ok s2 (seq_ok (if_ff c3 rfl) (try2_ok t1))))) rfl
theorem read_ok {x : Str} (hx : TxOk x) {P : Prog} (h : TP P) (e : rwS x = linesS P) (st : Sto) : M_read_program [.str x] st = .ok (progM P, false, st) := by
  have ep : mCall 1 M_program_in [] (mCons (mVar 0) mNil) [fz (.str x), none] st = .ok (progM P, .fr, st) := callV (ms := [.str x]) (b := true) (st1 := st) rfl rfl (programIn_ok hx h e st)
  have s1 : sSet 1 (mIfE (mTv (mIsi (isT "str") noC noC (mVar 0))) (mCall 1 M_program_in [] (mCons (mVar 0) mNil)) (mC .non)) [fz (.str x), none] st = .ok (.nx, [fz (.str x), fz (progM P)], st) :=
    set_ok (ifE_tt (st1 := st) (by simp [tyAns, isT, tys7]) ep) rfl
  unfold M_read_program g_read_program
  exact runF_own (k := .fz) (lo0 := [fz (.str x), none]) rfl (seq_ok s1 (seq_ok (if_ff (st1 := st) (by simp [progM, FW.isNon]) rfl) (ret_ok rfl))) rfl
end FL

namespace FL
open PySem L2 PySem.Spec PyProof.Rows FW

structure Cd (Q : Prog) : Prop where
  pn : ∀ i, i < Q.pl.length → NmAt (Q.pl.map .str) i
  l1 : 1 ≤ Q.pl.length
  l5 : Q.pl.length ≤ 5
  mv : ∀ m, m ∈ Q.mv → m.Ok Q.pl
  l11 : Q.mv.length ≤ 11
theorem ok_mono {pl pl' : List Str} {m : Move} (h : m.Ok pl) (hs : ∀ x, x ∈ pl → x ∈ pl') : m.Ok pl' := ⟨hs _ h.p, hs _ h.o, h.l0, h.l8, h.c4, h.c5, h.s0, h.s8⟩
theorem Cd.str {Q : Prog} (h : Cd Q) : ∀ x, x ∈ Q.pl → PyData.strOk x = true ∧ x.length ≤ 100 := by
  intro x hx
  obtain ⟨i, hi⟩ := List.mem_iff_getElem?.mp hx
  obtain ⟨z, hz, ho, hl, _⟩ := h.pn i (List.getElem?_eq_some_iff.mp hi).1
  rw [List.getElem?_map, hi] at hz
  cases hz
  exact ⟨ho, hl⟩
theorem Cd.rgd {Q : Prog} (h : Cd Q) : rgd (partsM Q) = true := by
  have l5 := h.l5
  have l11 := h.l11
  refine rgd_of (gx_lst fun x hx => ?_) ?_
  · simp only [List.mem_cons, List.not_mem_nil, or_false] at hx
    rcases hx with rfl | rfl
    · exact gx_lst fun y hy => by
        obtain ⟨z, hz, rfl⟩ := List.mem_map.mp hy
        exact (h.str z hz).1
    · exact gx_lst fun y hy => by
        obtain ⟨m, hm, rfl⟩ := List.mem_map.mp hy
        exact gd_gx (gd_tup (gd_mM (fun x hx => (h.str x hx).1) (h.mv m hm) _ rfl))
  · have w1 : wts (plM Q) ≤ (1002 + 2) * (plM Q).length := wts_le fun x hx => by
      obtain ⟨z, hz, rfl⟩ := List.mem_map.mp hx
      have := (h.str z hz).2
      simp only [wt]; omega
    have w2 : wts (mvM Q) ≤ (3100 + 2) * (mvM Q).length := wts_le fun x hx => by
      obtain ⟨m, hm, rfl⟩ := List.mem_map.mp hx
      exact wt_mM (fun x hx => (h.str x hx).2) (h.mv m hm)
    have e1 : (plM Q).length = Q.pl.length := List.length_map _
    have e2 : (mvM Q).length = Q.mv.length := List.length_map _
    rw [e1] at w1
    rw [e2] at w2
    refine sz ?_
    simp only [partsM, wt, wts]
    omega
theorem PG.rgd {P : Prog} (h : PG P) : rgd (partsM P) = true := Cd.rgd ⟨h.pl.nm, h.pl.l1, by have := h.pl.l4; omega, h.mv, by have := h.len; omega⟩
theorem PG.gd {P : Prog} (h : PG P) : gd dpt (partsM P) = true := gd_lst fun x hx => by
  simp only [List.mem_cons, List.not_mem_nil, or_false] at hx
  rcases hx with rfl | rfl
  · exact gd_strs P.pl h.pl.good
  · exact gd_lst fun y hy => by
      obtain ⟨m, hm, rfl⟩ := List.mem_map.mp hy
      exact gd_tup (gd_mM h.pl.good (h.mv m hm) _ rfl)
end FL

namespace K71
open PySem L2 PySem.Spec PyProof.Rows FW FL
def top (i : Nat) : Stmt := PySem.Challenge.pw_floorwalks_k71_texts_of_no_program.main.body.getD i (.Pass ⟨0, 0, 0, 0⟩)
abbrev s_law_hash : Stmt := top 27
abbrev s_law_random : Stmt := top 30
abbrev s_law_bent : Stmt := top 37
abbrev s_law_moves_drawn : Stmt := top 29
abbrev s_law_drawn : Stmt := top 33
abbrev s_law_cell : Stmt := top 28
abbrev s_law_generator : Stmt := top 31
abbrev s_is_whole : Stmt := top 13
abbrev s_is_within : Stmt := top 14
abbrev s_is_move : Stmt := top 16
abbrev s_is_name : Stmt := top 15
abbrev s_Program_init : Stmt := inClass (top 17) 0
abbrev s_law_program : Stmt := top 32
abbrev s_Program_eq : Stmt := inClass (top 17) 3
abbrev s_law_move_in : Stmt := top 34
abbrev s_law_due : Stmt := top 35
abbrev s_signed : Stmt := top 20
abbrev s_move_in : Stmt := top 23
abbrev s_parts_of : Stmt := top 22
abbrev s_program_in : Stmt := top 24
abbrev s_read_program : Stmt := top 25
abbrev s_law_right : Stmt := top 36
abbrev s_Program_places : Stmt := inClass (top 17) 1
abbrev s_check_program : Stmt := top 18
abbrev s_text_of : Stmt := top 21
abbrev s_law : Stmt := top 38
abbrev N_law_hash : List Str := ["_law_seed", "_law_index", "_law_mixed"]
abbrev P_law_hash : List Str := ["_law_seed", "_law_index"]
theorem sc_law_hash : FnScope N_law_hash P_law_hash (defScope s_law_hash) := ⟨rfl, rfl, rfl, by decide +kernel, rfl, by decide +kernel, by decide +kernel⟩
abbrev N_law_random : List Str := ["_law_generator_here", "_law_bound", "_law_drawn_here", "_law_turn"]
abbrev P_law_random : List Str := ["_law_generator_here", "_law_bound"]
theorem sc_law_random : FnScope N_law_random P_law_random (defScope s_law_random) := ⟨rfl, rfl, rfl, by decide +kernel, rfl, by decide +kernel, by decide +kernel⟩
noncomputable def g_law_bent : SF := (sSeq (sPar 2 3 false false (mCall 2 M_law_random [] (mCons (mVar 0) (mCons (mOp gAdd (mCallB gLen (mCons (mVar 1) mNil)) (mC (.int 1))) mNil))) (mCall 2 M_law_random [] (mCons (mVar 0) (mCons (mOp gAdd (mCallB gLen (mCons (mVar 1) mNil)) (mC (.int 1))) mNil))))
  (sSeq (sSet 4 (mLst (mCons (mC (.str "a")) (mCons (mC (.str "+")) (mCons (mC (.str "-")) (mCons (mC (.str " ")) (mCons (mC (.str "\n")) (mCons (mC (.str "A")) (mCons (mC (.str "\t")) (mCons (mC (.str "0")) (mCons (mC (.str "")) (mCons (mC (.str "9")) (mCons (mC (.str " move ")) (mCons (mC (.str "4")) (mCons (mC (.str ".")) (mCons (mC (.str "\nmove up 0 +1 up")) mNil))))))))))))))))
  (sSeq (sSet 4 (mOp gAdd (mVar 4) (mLst (mCons (mC (.str "\nplaces a")) (mCons (mC (.str "_")) mNil)))))
  (sSeq (sPar 5 6 false false (mOp gIx (mVar 4) (mCall 2 M_law_random [] (mCons (mVar 0) (mCons (mC (.int 16)) mNil)))) (mBm "str" gSplit (mVar 1) (mCons (mC (.str "\n")) mNil)))
  (sSeq (sOwn 7 (mLst (mCons (mOp gAdd (mSl (mVar 1) oNone (oSome (mVar 2))) (mSl (mVar 1) (oSome (mOp gAdd (mVar 2) (mC (.int 1)))) oNone)) (mCons (mOp gAdd (mOp gAdd (mSl (mVar 1) oNone (oSome (mVar 2))) (mVar 5)) (mSl (mVar 1) (oSome (mVar 2)) oNone)) (mCons (mOp gAdd (mOp gAdd (mSl (mVar 1) oNone (oSome (mVar 2))) (mVar 5)) (mSl (mVar 1) (oSome (mOp gAdd (mVar 2) (mC (.int 1)))) oNone)) (mCons (mSl (mVar 1) (oSome (mVar 2)) oNone) mNil))))))
  (sSeq (sOwn 7 (mOp gAdd (mVar 7) (mLst (mCons (mSl (mVar 1) oNone (oSome (mVar 2))) (mCons (mOp gAdd (mVar 1) (mVar 5)) (mCons (mOp gAdd (mVar 5) (mVar 1)) (mCons (mOp gAdd (mSl (mVar 1) oNone (oSome (mVar 3))) (mSl (mVar 1) (oSome (mVar 2)) oNone)) (mCons (mOp gAdd (mOp gAdd (mVar 1) (mC (.str "\n"))) (mVar 1)) mNil))))))))
  (sSeq (sSet 8 (mCall 2 M_law_random [] (mCons (mVar 0) (mCons (mCallB gLen (mCons (mVar 6) mNil)) mNil))))
  (sSeq (sApp (mVar 7) (mBm "str" gJoin (mC (.str "\n")) (mCons (mOp gAdd (mSl (mVar 6) oNone (oSome (mVar 8))) (mSl (mVar 6) (oSome (mOp gAdd (mVar 8) (mC (.int 1)))) oNone)) mNil)))
  (sSeq (sSet 9 (mRev (mSl (mVar 6) (oSome (mVar 8)) (oSome (mOp gAdd (mVar 8) (mC (.int 2)))))))
  (sSeq (sApp (mVar 7) (mBm "str" gJoin (mC (.str "\n")) (mCons (mOp gAdd (mOp gAdd (mSl (mVar 6) oNone (oSome (mVar 8))) (mVar 9)) (mSl (mVar 6) (oSome (mOp gAdd (mVar 8) (mC (.int 2)))) oNone)) mNil)))
  (sRet (mOp gAdd (mVar 7) (mLst (mCons (mBm "str" gJoin (mC (.str "\n")) (mCons (mOp gAdd (mVar 6) (mSl (mVar 6) (oSome (mVar 8)) (oSome (mOp gAdd (mVar 8) (mC (.int 1)))))) mNil)) (mCons (mBm "str" gJoin (mC (.str "\n")) (mCons (mRev (mVar 6)) mNil)) mNil)))))))))))))))
noncomputable def M_law_bent : FF := runF 10 g_law_bent
abbrev N_law_bent : List Str := ["_law_generator_here", "_law_text", "_law_at", "_law_other", "_law_signs", "_law_sign", "_law_lines", "_law_some", "_law_row", "_law_pair"]
abbrev P_law_bent : List Str := ["_law_generator_here", "_law_text"]
theorem sc_law_bent : FnScope N_law_bent P_law_bent (defScope s_law_bent) := ⟨rfl, rfl, rfl, by decide +kernel, rfl, by decide +kernel, by decide +kernel⟩
abbrev N_law_moves_drawn : List Str := ["_law_generator_here", "_law_places", "_law_most", "_law_found", "_law_turn", "_law_change", "_law_more", "_law_least", "_law_place", "_law_other"]
abbrev P_law_moves_drawn : List Str := ["_law_generator_here", "_law_places", "_law_most"]
theorem sc_law_moves_drawn : FnScope N_law_moves_drawn P_law_moves_drawn (defScope s_law_moves_drawn) := ⟨rfl, rfl, rfl, by decide +kernel, rfl, by decide +kernel, by decide +kernel⟩
abbrev N_law_drawn : List Str := ["_law_generator_here", "_law_many", "_law_most", "_law_places"]
abbrev P_law_drawn : List Str := ["_law_generator_here", "_law_many", "_law_most"]
theorem sc_law_drawn : FnScope N_law_drawn P_law_drawn (defScope s_law_drawn) := ⟨rfl, rfl, rfl, by decide +kernel, rfl, by decide +kernel, by decide +kernel⟩
abbrev N_law_cell : List Str := ["_law_script", "_law_index"]
abbrev P_law_cell : List Str := ["_law_script", "_law_index"]
theorem sc_law_cell : FnScope N_law_cell P_law_cell (defScope s_law_cell) := ⟨rfl, rfl, rfl, by decide +kernel, rfl, by decide +kernel, by decide +kernel⟩
abbrev N_law_generator : List Str := ["_law_script", "_law_index", "_law_seed"]
abbrev P_law_generator : List Str := ["_law_script", "_law_index"]
theorem sc_law_generator : FnScope N_law_generator P_law_generator (defScope s_law_generator) := ⟨rfl, rfl, rfl, by decide +kernel, rfl, by decide +kernel, by decide +kernel⟩
abbrev N_is_whole : List Str := ["value"]
abbrev P_is_whole : List Str := ["value"]
theorem sc_is_whole : FnScope N_is_whole P_is_whole (defScope s_is_whole) := ⟨rfl, rfl, rfl, by decide +kernel, rfl, by decide +kernel, by decide +kernel⟩
abbrev N_is_within : List Str := ["value", "low", "high"]
abbrev P_is_within : List Str := ["value", "low", "high"]
theorem sc_is_within : FnScope N_is_within P_is_within (defScope s_is_within) := ⟨rfl, rfl, rfl, by decide +kernel, rfl, by decide +kernel, by decide +kernel⟩
abbrev N_is_move : List Str := ["value", "places"]
abbrev P_is_move : List Str := ["value", "places"]
theorem sc_is_move : FnScope N_is_move P_is_move (defScope s_is_move) := ⟨rfl, rfl, rfl, by decide +kernel, rfl, by decide +kernel, by decide +kernel⟩
abbrev N_is_name : List Str := ["value", "letter"]
abbrev P_is_name : List Str := ["value"]
theorem sc_is_name : FnScope N_is_name P_is_name (defScope s_is_name) := ⟨rfl, rfl, rfl, by decide +kernel, rfl, by decide +kernel, by decide +kernel⟩
abbrev N_Program_init : List Str := ["self", "places", "moves", "at", "place", "move"]
abbrev P_Program_init : List Str := ["self", "places", "moves"]
theorem sc_Program_init : FnScope N_Program_init P_Program_init (defScope s_Program_init) := ⟨rfl, rfl, rfl, by decide +kernel, rfl, by decide +kernel, by decide +kernel⟩
abbrev N_law_program : List Str := ["_law_parts"]
abbrev P_law_program : List Str := ["_law_parts"]
theorem sc_law_program : FnScope N_law_program P_law_program (defScope s_law_program) := ⟨rfl, rfl, rfl, by decide +kernel, rfl, by decide +kernel, by decide +kernel⟩
abbrev N_Program_eq : List Str := ["self", "other"]
abbrev P_Program_eq : List Str := ["self", "other"]
theorem sc_Program_eq : FnScope N_Program_eq P_Program_eq (defScope s_Program_eq) := ⟨rfl, rfl, rfl, by decide +kernel, rfl, by decide +kernel, by decide +kernel⟩
noncomputable def g_law_move_in : SF := (sSeq (sIf (mOr (mTv (mOp (gEqB true) (mCallB gLen (mCons (mVar 0) mNil)) (mC (.int 5)))) (mTv (mOp (gEqB true) (mOp gIx (mVar 0) (mC (.int 0))) (mC (.str "move"))))) (sRet (mC .non)) sNil)
  (sSeq (sSet 1 (mLst (mCons (mC (.str "0")) (mCons (mC (.str "1")) (mCons (mC (.str "2")) (mCons (mC (.str "3")) (mCons (mC (.str "4")) (mCons (mC (.str "5")) (mCons (mC (.str "6")) (mCons (mC (.str "7")) (mCons (mC (.str "8")) mNil)))))))))))
  (sSeq (sSet 2 (mLst (mCons (mC (.str "-4")) (mCons (mC (.str "-3")) (mCons (mC (.str "-2")) (mCons (mC (.str "-1")) (mCons (mC (.str "+0")) (mCons (mC (.str "+1")) (mCons (mC (.str "+2")) (mCons (mC (.str "+3")) (mCons (mC (.str "+4")) mNil)))))))))))
  (sSeq (sIf (mOr (mTv (mOp (gInA true) (mOp gIx (mVar 0) (mC (.int 2))) (mVar 1))) (mTv (mOp (gInA true) (mOp gIx (mVar 0) (mC (.int 3))) (mVar 2)))) (sRet (mC .non)) sNil)
  (sRet (mTup (mCons (mOp gIx (mVar 0) (mC (.int 1))) (mCons (mBm "list" gIndex (mVar 1) (mCons (mOp gIx (mVar 0) (mC (.int 2))) mNil)) (mCons (mOp gSub (mBm "list" gIndex (mVar 2) (mCons (mOp gIx (mVar 0) (mC (.int 3))) mNil)) (mC (.int 4))) (mCons (mOp gIx (mVar 0) (mC (.int 4))) mNil))))))))))
noncomputable def M_law_move_in : FF := runF 3 g_law_move_in
abbrev N_law_move_in : List Str := ["_law_tokens", "_law_leasts", "_law_changes"]
abbrev P_law_move_in : List Str := ["_law_tokens"]
theorem sc_law_move_in : FnScope N_law_move_in P_law_move_in (defScope s_law_move_in) := ⟨rfl, rfl, rfl, by decide +kernel, rfl, by decide +kernel, by decide +kernel⟩
noncomputable def g_law_due : SF := (sSeq (sSet 1 (mLc [4] (iSeq (mBm "str" gSplit (mVar 0) (mCons (mC (.str "\n")) mNil))) (gN 4) tYesM (mLc [6] (iSeq (mBm "str" gSplit (mVar 4) (mCons (mC (.str " ")) mNil))) (gN 6) (mTv (mOp (gEqB true) (mVar 6) (mC (.str "")))) (mVar 6))))
  (sSeq (sSet 1 (mLc [5] (iSeq (mVar 1)) (gN 5) (mTv (mOp (gEqB true) (mVar 5) (mLst mNil))) (mVar 5)))
  (sSeq (sIf (mOr (mTv (mOp (gEqB false) (mVar 1) (mLst mNil))) (mTv (mOp (gEqB true) (mOp gIx (mOp gIx (mVar 1) (mC (.int 0))) (mC (.int 0))) (mC (.str "places"))))) (sRet (mC .non)) sNil)
  (sSeq (sPar 2 3 false false (mLc [5] (iSeq (mSl (mVar 1) (oSome (mC (.int 1))) oNone)) (gN 5) tYesM (mCall 1 M_law_move_in [] (mCons (mVar 5) mNil))) (mC .non))
  (sSeq (sIf (mTv (mOp (gInA false) (mC .non) (mVar 2))) (sRet (mC .non)) sNil)
  (sSeq (sTry2 (inB ["InvalidItem", "InvalidList"]) (sSet 3 (mCall 2 M_Program_init [] (mCons (mSl (mOp gIx (mVar 1) (mC (.int 0))) (oSome (mC (.int 1))) oNone) (mCons (mVar 2) mNil)))) (sSet 3 (mC .non)))
  (sRet (mVar 3))))))))
noncomputable def M_law_due : FF := runF 7 g_law_due
abbrev N_law_due : List Str := ["_law_text", "_law_rows", "_law_moves", "_law_found", "_law_line", "_law_row", "_law_part"]
abbrev P_law_due : List Str := ["_law_text"]
theorem sc_law_due : FnScope N_law_due P_law_due (defScope s_law_due) := ⟨rfl, rfl, rfl, by decide +kernel, rfl, by decide +kernel, by decide +kernel⟩
abbrev N_signed : List Str := ["change"]
abbrev P_signed : List Str := ["change"]
theorem sc_signed : FnScope N_signed P_signed (defScope s_signed) := ⟨rfl, rfl, rfl, by decide +kernel, rfl, by decide +kernel, by decide +kernel⟩
abbrev N_move_in : List Str := ["parts", "leasts", "changes", "number"]
abbrev P_move_in : List Str := ["parts"]
theorem sc_move_in : FnScope N_move_in P_move_in (defScope s_move_in) := ⟨rfl, rfl, rfl, by decide +kernel, rfl, by decide +kernel, by decide +kernel⟩
abbrev N_parts_of : List Str := ["line", "part"]
abbrev P_parts_of : List Str := ["line"]
theorem sc_parts_of : FnScope N_parts_of P_parts_of (defScope s_parts_of) := ⟨rfl, rfl, rfl, by decide +kernel, rfl, by decide +kernel, by decide +kernel⟩
abbrev N_program_in : List Str := ["text", "rows", "moves", "line", "parts"]
abbrev P_program_in : List Str := ["text"]
theorem sc_program_in : FnScope N_program_in P_program_in (defScope s_program_in) := ⟨rfl, rfl, rfl, by decide +kernel, rfl, by decide +kernel, by decide +kernel⟩
abbrev N_read_program : List Str := ["text", "found"]
abbrev P_read_program : List Str := ["text"]
theorem sc_read_program : FnScope N_read_program P_read_program (defScope s_read_program) := ⟨rfl, rfl, rfl, by decide +kernel, rfl, by decide +kernel, by decide +kernel⟩
noncomputable def g_law_right : SF := (sSeq (sPar3 1 2 3 (mCall 1 M_law_due [] (mCons (mVar 0) mNil)) (mC .non) (mC .non))
  (sSeq (sTry (inB ES) 4 (sSet 3 (mCall 1 M_read_program [] (mCons (mVar 0) mNil))) (sSet 2 (mVar 4)))
  (sSeq (sIf (mTv (mOp (gIsN false) (mVar 1) (mC .non))) (sRet (mAndV (mIsi noT noC (eqc ES "InvalidText") (mVar 2)) (mOp (gEqB false) (mCallB gRepr (mCons (mFld "value" noB (inB ES) (mVar 2)) mNil)) (mCallB gRepr (mCons (mVar 0) mNil))))) sNil)
  (sRet (mAndV (mOp (gIsN false) (mVar 2) (mC .non)) (mEqA false "Program" M_Program_eq (mVar 3) (mVar 1)))))))
noncomputable def M_law_right : FF := runF 5 g_law_right
abbrev N_law_right : List Str := ["_law_text", "_law_due_here", "_law_caught", "_law_told", "error"]
abbrev P_law_right : List Str := ["_law_text"]
theorem sc_law_right : FnScope N_law_right P_law_right (defScope s_law_right) := ⟨rfl, rfl, rfl, by decide +kernel, rfl, by decide +kernel, by decide +kernel⟩
abbrev N_Program_places : List Str := ["self"]
abbrev P_Program_places : List Str := ["self"]
theorem sc_Program_places : FnScope N_Program_places P_Program_places (defScope s_Program_places) := ⟨rfl, rfl, rfl, by decide +kernel, rfl, by decide +kernel, by decide +kernel⟩
abbrev N_check_program : List Str := ["value"]
abbrev P_check_program : List Str := ["value"]
theorem sc_check_program : FnScope N_check_program P_check_program (defScope s_check_program) := ⟨rfl, rfl, rfl, by decide +kernel, rfl, by decide +kernel, by decide +kernel⟩
abbrev N_text_of : List Str := ["program", "rows", "place", "least", "change", "other", "row"]
abbrev P_text_of : List Str := ["program"]
theorem sc_text_of : FnScope N_text_of P_text_of (defScope s_text_of) := ⟨rfl, rfl, rfl, by decide +kernel, rfl, by decide +kernel, by decide +kernel⟩
noncomputable abbrev b4_law : SF := (sSeq (sSet 8 (mC .non))
  (sSeq (sTry (inB ["InvalidText"]) 9 (sExpr (mCall 1 M_read_program [] (mCons (mVar 7) mNil))) (sSet 8 (mVar 9)))
  (sIf (mOr (mTv (mOp (gIsN false) (mVar 8) (mC .non))) (mTv (mOp (gEqB true) (mCallB gRepr (mCons (mFld "value" noB (inB ES) (mVar 8)) mNil)) (mCallB gRepr (mCons (mVar 7) mNil))))) (sRet (mC (.bl false))) sNil)))
noncomputable abbrev b3_law : SF := (sIf (mNotT (mTv (mCall 1 M_law_right [] (mCons (mVar 3) mNil)))) (sRet (mC (.bl false))) sNil)
noncomputable abbrev b2_law : SF := (sIf (mTv (mOp (gEqB true) (mLc [11] (iSeq (mCall 2 M_law_bent [] (mCons (mVar 2) (mCons (mVar 3) mNil)))) (gN 11) (mNotT (mTv (mCall 1 M_law_right [] (mCons (mVar 11) mNil)))) (mVar 11)) (mLst mNil))) (sRet (mC (.bl false))) sNil)
noncomputable abbrev b1_law : SF := (sSeq (sSet 2 (mSto (mCall 2 M_law_generator [] (mCons (mVar 0) (mCons (mVar 1) mNil)))))
  (sSeq (sSet 3 (mCall 1 M_text_of [] (mCons (mCall 1 M_law_program [] (mCons (mCall 3 M_law_drawn [] (mCons (mVar 2) (mCons (mC (.int 3)) (mCons (mC (.int 6)) mNil)))) mNil)) mNil)))
  (sFor (iRg1 (mC (.int 3))) (gN 4) b2_law)))
noncomputable def g_law : SF := (sSeq (sFor (iRg1 (mC (.int 5))) (gN 1) b1_law)
  (sSeq (sSet 5 (mLst (mCons (mC (.str "move up 0 +0 up")) (mCons (mC (.str "move up 0 -0 up")) (mCons (mC (.str "move up 0 0 up")) (mCons (mC (.str "move up 00 +1 up")) (mCons (mC (.str "move up 1 -01 up")) mNil)))))))
  (sSeq (sSet 5 (mOp gAdd (mVar 5) (mLst (mCons (mC (.str "move up 9 -4 up")) mNil))))
  (sSeq (sSet 5 (mOp gAdd (mVar 5) (mLst (mCons (mC (.str "move up 3 -4 up")) (mCons (mC (.str "move up 6 +3 up")) (mCons (mC (.str "move up 0 +5 up")) (mCons (mC (.str "move up 0 + 1 up")) mNil)))))))
  (sSeq (sSet 5 (mOp gAdd (mVar 5) (mLst (mCons (mC (.str "move up +0 +1 up")) (mCons (mC (.str "move up up")) mNil)))))
  (sSeq (sSet 5 (mOp gAdd (mVar 5) (mLst (mCons (mC (.str "move  up  4  -4  up")) (mCons (mC (.str "move up 0 +1")) (mCons (mC (.str "move up 0 +1 up up")) (mCons (mC (.str "move zz 0 +1 up")) mNil)))))))
  (sSeq (sSet 5 (mOp gAdd (mVar 5) (mLst (mCons (mC (.str "move up 0 +1 zz")) (mCons (mC (.str "up 0 +1 up")) mNil)))))
  (sSeq (sSet 5 (mOp gAdd (mVar 5) (mLst (mCons (mC (.str "places up")) (mCons (mC (.str "move")) (mCons (mC (.str "Move up 0 +1 up")) (mCons (mC (.str "move up 0 --1 up")) (mCons (mC (.str "move up 0 +1up")) (mCons (mC (.str "moveup 0 +1 up")) mNil)))))))))
  (sSeq (sSet 5 (mOp gAdd (mVar 5) (mLst (mCons (mC (.str "\tmove up 0 +1 up")) mNil))))
  (sSeq (sSet 6 (mLst (mCons (mC (.str "")) (mCons (mC (.str " ")) (mCons (mC (.str "\n")) (mCons (mC (.str "places")) (mCons (mC (.str "places up up")) (mCons (mC (.str "places up Up")) (mCons (mC (.str "places abcdefghi")) (mCons (mC (.str "places a b c d e")) mNil))))))))))
  (sSeq (sSet 6 (mOp gAdd (mVar 6) (mLst (mCons (mC (.str "place up")) (mCons (mC (.str " places up ")) mNil)))))
  (sSeq (sSet 6 (mOp gAdd (mVar 6) (mLst (mCons (mC (.str "move up 0 +1 up")) (mCons (mC (.str "move up 0 +1 up\nplaces up")) (mCons (mOp gAdd (mC (.str "places up")) (mOp gRepS (mC (.str "\nmove up 0 +0 up")) (mC (.int 10)))) mNil))))))
  (sSeq (sSet 6 (mOp gAdd (mVar 6) (mLst (mCons (mC (.str "placesup")) (mCons (mC (.str "places up1")) mNil)))))
  (sSeq (sSet 6 (mOp gAdd (mVar 6) (mLst (mCons (mOp gAdd (mC (.str "places up")) (mOp gRepS (mC (.str "\nmove up 0 +0 up")) (mC (.int 11)))) (mCons (mOp gAdd (mC (.str "places up\n")) (mOp gRepS (mC (.str " ")) (mC (.int 2000)))) mNil)))))
  (sSeq (sFor (iSeq (mOp gAdd (mVar 6) (mLc [10] (iSeq (mVar 5)) (gN 10) tYesM (mOp gAdd (mC (.str "places up\n")) (mVar 10))))) (gN 3) b3_law)
  (sSeq (sFor (iSeq (mLst (mCons (mC .non) (mCons (mC (.int 3)) (mCons (mLst (mCons (mC (.str "places up")) mNil)) (mCons (mTup (mCons (mC (.str "places up")) mNil)) (mCons mDct0 (mCons (mC (.bl true)) (mCons (mC (.int 0)) mNil))))))))) (gN 7) b4_law)
  (sRet (mC (.bl true)))))))))))))))))))
noncomputable def M_law : FF := runF 12 g_law
abbrev N_law : List Str := ["_law_script", "_law_index", "_law_generator_here", "_law_text", "_law_turn", "_law_rows", "_law_odd", "_law_thing", "_law_caught", "error", "_law_row", "_law_some"]
abbrev P_law : List Str := ["_law_script"]
theorem sc_law : FnScope N_law P_law (defScope s_law) := ⟨rfl, rfl, rfl, by decide +kernel, rfl, by decide +kernel, by decide +kernel⟩
structure Tx (P : Program) (K : PySem.W.Frag) (mg : Str → Option Value) where
  f_law_hash : Addr
  d_law_hash : FuncData
  F_law_hash : Fun K "_law_hash" "_law_hash" s_law_hash f_law_hash d_law_hash
  b_law_hash : Binds K d_law_hash P_law_hash []
  m_law_hash : mg "_law_hash" = some (.ref f_law_hash)
  p_law_hash : PySem.W.keepIn K (.ref f_law_hash) = true
  f_law_random : Addr
  d_law_random : FuncData
  F_law_random : Fun K "_law_random" "_law_random" s_law_random f_law_random d_law_random
  b_law_random : Binds K d_law_random P_law_random []
  m_law_random : mg "_law_random" = some (.ref f_law_random)
  p_law_random : PySem.W.keepIn K (.ref f_law_random) = true
  f_law_bent : Addr
  d_law_bent : FuncData
  F_law_bent : Fun K "_law_bent" "_law_bent" s_law_bent f_law_bent d_law_bent
  b_law_bent : Binds K d_law_bent P_law_bent []
  m_law_bent : mg "_law_bent" = some (.ref f_law_bent)
  p_law_bent : PySem.W.keepIn K (.ref f_law_bent) = true
  f_law_moves_drawn : Addr
  d_law_moves_drawn : FuncData
  F_law_moves_drawn : Fun K "_law_moves_drawn" "_law_moves_drawn" s_law_moves_drawn f_law_moves_drawn d_law_moves_drawn
  b_law_moves_drawn : Binds K d_law_moves_drawn P_law_moves_drawn []
  m_law_moves_drawn : mg "_law_moves_drawn" = some (.ref f_law_moves_drawn)
  p_law_moves_drawn : PySem.W.keepIn K (.ref f_law_moves_drawn) = true
  f_law_drawn : Addr
  d_law_drawn : FuncData
  F_law_drawn : Fun K "_law_drawn" "_law_drawn" s_law_drawn f_law_drawn d_law_drawn
  b_law_drawn : Binds K d_law_drawn P_law_drawn []
  m_law_drawn : mg "_law_drawn" = some (.ref f_law_drawn)
  p_law_drawn : PySem.W.keepIn K (.ref f_law_drawn) = true
  f_law_cell : Addr
  d_law_cell : FuncData
  F_law_cell : Fun K "_law_cell" "_law_cell" s_law_cell f_law_cell d_law_cell
  b_law_cell : Binds K d_law_cell P_law_cell []
  m_law_cell : mg "_law_cell" = some (.ref f_law_cell)
  p_law_cell : PySem.W.keepIn K (.ref f_law_cell) = true
  f_law_generator : Addr
  d_law_generator : FuncData
  F_law_generator : Fun K "_law_generator" "_law_generator" s_law_generator f_law_generator d_law_generator
  b_law_generator : Binds K d_law_generator P_law_generator []
  m_law_generator : mg "_law_generator" = some (.ref f_law_generator)
  p_law_generator : PySem.W.keepIn K (.ref f_law_generator) = true
  f_is_whole : Addr
  d_is_whole : FuncData
  F_is_whole : Fun K "is_whole" "is_whole" s_is_whole f_is_whole d_is_whole
  b_is_whole : Binds K d_is_whole P_is_whole []
  m_is_whole : mg "is_whole" = some (.ref f_is_whole)
  p_is_whole : PySem.W.keepIn K (.ref f_is_whole) = true
  f_is_within : Addr
  d_is_within : FuncData
  F_is_within : Fun K "is_within" "is_within" s_is_within f_is_within d_is_within
  b_is_within : Binds K d_is_within P_is_within []
  m_is_within : mg "is_within" = some (.ref f_is_within)
  p_is_within : PySem.W.keepIn K (.ref f_is_within) = true
  f_is_move : Addr
  d_is_move : FuncData
  F_is_move : Fun K "is_move" "is_move" s_is_move f_is_move d_is_move
  b_is_move : Binds K d_is_move P_is_move []
  m_is_move : mg "is_move" = some (.ref f_is_move)
  p_is_move : PySem.W.keepIn K (.ref f_is_move) = true
  f_is_name : Addr
  d_is_name : FuncData
  F_is_name : Fun K "is_name" "is_name" s_is_name f_is_name d_is_name
  b_is_name : Binds K d_is_name P_is_name []
  m_is_name : mg "is_name" = some (.ref f_is_name)
  p_is_name : PySem.W.keepIn K (.ref f_is_name) = true
  f_Program_init : Addr
  d_Program_init : FuncData
  F_Program_init : Fun K "__init__" "Program.__init__" s_Program_init f_Program_init d_Program_init
  b_Program_init : Binds K d_Program_init P_Program_init []
  f_law_program : Addr
  d_law_program : FuncData
  F_law_program : Fun K "_law_program" "_law_program" s_law_program f_law_program d_law_program
  b_law_program : Binds K d_law_program P_law_program []
  m_law_program : mg "_law_program" = some (.ref f_law_program)
  p_law_program : PySem.W.keepIn K (.ref f_law_program) = true
  f_Program_eq : Addr
  d_Program_eq : FuncData
  F_Program_eq : Fun K "__eq__" "Program.__eq__" s_Program_eq f_Program_eq d_Program_eq
  b_Program_eq : Binds K d_Program_eq P_Program_eq []
  f_law_move_in : Addr
  d_law_move_in : FuncData
  F_law_move_in : Fun K "_law_move_in" "_law_move_in" s_law_move_in f_law_move_in d_law_move_in
  b_law_move_in : Binds K d_law_move_in P_law_move_in []
  m_law_move_in : mg "_law_move_in" = some (.ref f_law_move_in)
  p_law_move_in : PySem.W.keepIn K (.ref f_law_move_in) = true
  f_law_due : Addr
  d_law_due : FuncData
  F_law_due : Fun K "_law_due" "_law_due" s_law_due f_law_due d_law_due
  b_law_due : Binds K d_law_due P_law_due []
  m_law_due : mg "_law_due" = some (.ref f_law_due)
  p_law_due : PySem.W.keepIn K (.ref f_law_due) = true
  f_signed : Addr
  d_signed : FuncData
  F_signed : Fun K "signed" "signed" s_signed f_signed d_signed
  b_signed : Binds K d_signed P_signed []
  m_signed : mg "signed" = some (.ref f_signed)
  p_signed : PySem.W.keepIn K (.ref f_signed) = true
  f_move_in : Addr
  d_move_in : FuncData
  F_move_in : Fun K "move_in" "move_in" s_move_in f_move_in d_move_in
  b_move_in : Binds K d_move_in P_move_in []
  m_move_in : mg "move_in" = some (.ref f_move_in)
  p_move_in : PySem.W.keepIn K (.ref f_move_in) = true
  f_parts_of : Addr
  d_parts_of : FuncData
  F_parts_of : Fun K "parts_of" "parts_of" s_parts_of f_parts_of d_parts_of
  b_parts_of : Binds K d_parts_of P_parts_of []
  m_parts_of : mg "parts_of" = some (.ref f_parts_of)
  p_parts_of : PySem.W.keepIn K (.ref f_parts_of) = true
  f_program_in : Addr
  d_program_in : FuncData
  F_program_in : Fun K "program_in" "program_in" s_program_in f_program_in d_program_in
  b_program_in : Binds K d_program_in P_program_in []
  m_program_in : mg "program_in" = some (.ref f_program_in)
  p_program_in : PySem.W.keepIn K (.ref f_program_in) = true
  f_read_program : Addr
  d_read_program : FuncData
  F_read_program : Fun K "read_program" "read_program" s_read_program f_read_program d_read_program
  b_read_program : Binds K d_read_program P_read_program []
  m_read_program : mg "read_program" = some (.ref f_read_program)
  p_read_program : PySem.W.keepIn K (.ref f_read_program) = true
  f_law_right : Addr
  d_law_right : FuncData
  F_law_right : Fun K "_law_right" "_law_right" s_law_right f_law_right d_law_right
  b_law_right : Binds K d_law_right P_law_right []
  m_law_right : mg "_law_right" = some (.ref f_law_right)
  p_law_right : PySem.W.keepIn K (.ref f_law_right) = true
  f_Program_places : Addr
  d_Program_places : FuncData
  F_Program_places : Fun K "places" "Program.places" s_Program_places f_Program_places d_Program_places
  b_Program_places : Binds K d_Program_places P_Program_places []
  f_check_program : Addr
  d_check_program : FuncData
  F_check_program : Fun K "check_program" "check_program" s_check_program f_check_program d_check_program
  b_check_program : Binds K d_check_program P_check_program []
  m_check_program : mg "check_program" = some (.ref f_check_program)
  p_check_program : PySem.W.keepIn K (.ref f_check_program) = true
  f_text_of : Addr
  d_text_of : FuncData
  F_text_of : Fun K "text_of" "text_of" s_text_of f_text_of d_text_of
  b_text_of : Binds K d_text_of P_text_of []
  m_text_of : mg "text_of" = some (.ref f_text_of)
  p_text_of : PySem.W.keepIn K (.ref f_text_of) = true
  f_law : Addr
  d_law : FuncData
  F_law : Fun K "law" "law" s_law f_law d_law
  b_law : Binds K d_law P_law []
  m_law : mg "law" = some (.ref f_law)
  p_law : PySem.W.keepIn K (.ref f_law) = true
  z_bool : mg "bool" = none
  z_enumerate : mg "enumerate" = none
  z_int : mg "int" = none
  z_isinstance : mg "isinstance" = none
  z_len : mg "len" = none
  z_list : mg "list" = none
  z_max : mg "max" = none
  z_min : mg "min" = none
  z_range : mg "range" = none
  z_repr : mg "repr" = none
  z_str : mg "str" = none
  z_tuple : mg "tuple" = none
  t_LETTERS : Tok
  g_LETTERS : mg "LETTERS" = some (.str "abcdefghijklmnopqrstuvwxyz" t_LETTERS)
  t_MOST_CHANGE : Tok
  g_MOST_CHANGE : mg "MOST_CHANGE" = some (.int 4 t_MOST_CHANGE)
  t_MOST_LEAST : Tok
  g_MOST_LEAST : mg "MOST_LEAST" = some (.int 8 t_MOST_LEAST)
  t_MOST_LETTERS : Tok
  g_MOST_LETTERS : mg "MOST_LETTERS" = some (.int 8 t_MOST_LETTERS)
  t_MOST_MOVES : Tok
  g_MOST_MOVES : mg "MOST_MOVES" = some (.int 10 t_MOST_MOVES)
  t_MOST_PLACES : Tok
  g_MOST_PLACES : mg "MOST_PLACES" = some (.int 4 t_MOST_PLACES)
  c_Program : Addr
  mc_Program : mg "Program" = some (.ref c_Program)
  cl_Program : L2.Cls K c_Program
  mk_Program : Mk K c_Program f_Program_init
  nt_Program : ∀ t b, noT t = some b → PySem.W.kitOne K (.type t) (.ref c_Program) = some b
  eqi_Program : ∀ c, c ∈ CS → ∀ C, mg c = some (.ref C) → InsC K C ∧ PySem.W.kitOne K (.ref C) (.ref c_Program) = some (decide (c = "Program"))
  me_Program_eq : Meth K c_Program "__eq__" f_Program_eq
  me_Program_places : Meth K c_Program "places" f_Program_places
  eo_Program : EqOwn K c_Program f_Program_eq
  eb_Program : EqBack K c_Program
  fI_folio : ∀ n C, inB ["Program"] n = true → mg n = some (.ref C) → L2.Cls K C ∧ NoAttr K C "folio"
  fI_stands : ∀ n C, inB ["Program"] n = true → mg n = some (.ref C) → L2.Cls K C ∧ NoAttr K C "stands"
  fI_steps : ∀ n C, inB ["Program"] n = true → mg n = some (.ref C) → L2.Cls K C ∧ NoAttr K C "steps"
  c_InvalidItem : Addr
  mc_InvalidItem : mg "InvalidItem" = some (.ref c_InvalidItem)
  em_InvalidItem : ∀ e C, inB ["InvalidItem"] e = true → mg e = some (.ref C) → PySem.W.exmOne K (.ref C) (.ref c_InvalidItem) = some true
  j_InvalidItem : Addr
  dj_InvalidItem : FuncData
  i_InvalidItem : Ini P K mg "value" c_InvalidItem j_InvalidItem dj_InvalidItem
  bi_InvalidItem : Binds K dj_InvalidItem ["self", "value"] []
  c_InvalidList : Addr
  mc_InvalidList : mg "InvalidList" = some (.ref c_InvalidList)
  em_InvalidList : ∀ e C, inB ["InvalidList"] e = true → mg e = some (.ref C) → PySem.W.exmOne K (.ref C) (.ref c_InvalidList) = some true
  j_InvalidList : Addr
  dj_InvalidList : FuncData
  i_InvalidList : Ini P K mg "value" c_InvalidList j_InvalidList dj_InvalidList
  bi_InvalidList : Binds K dj_InvalidList ["self", "value"] []
  c_InvalidProgram : Addr
  mc_InvalidProgram : mg "InvalidProgram" = some (.ref c_InvalidProgram)
  j_InvalidProgram : Addr
  dj_InvalidProgram : FuncData
  i_InvalidProgram : Ini P K mg "value" c_InvalidProgram j_InvalidProgram dj_InvalidProgram
  bi_InvalidProgram : Binds K dj_InvalidProgram ["self", "value"] []
  c_InvalidText : Addr
  mc_InvalidText : mg "InvalidText" = some (.ref c_InvalidText)
  nt_InvalidText : ∀ t b, noT t = some b → PySem.W.kitOne K (.type t) (.ref c_InvalidText) = some b
  eq_InvalidText : ∀ c, c ∈ ES → ∀ C, mg c = some (.ref C) → ExcC K C ∧ PySem.W.kitOne K (.ref C) (.ref c_InvalidText) = some (decide (c = "InvalidText"))
  em_InvalidText : ∀ e C, inB ["InvalidText"] e = true → mg e = some (.ref C) → PySem.W.exmOne K (.ref C) (.ref c_InvalidText) = some true
  j_InvalidText : Addr
  dj_InvalidText : FuncData
  i_InvalidText : Ini P K mg "value" c_InvalidText j_InvalidText dj_InvalidText
  bi_InvalidText : Binds K dj_InvalidText ["self", "value"] []
  c_WalkError : Addr
  mc_WalkError : mg "WalkError" = some (.ref c_WalkError)
  em_WalkError : ∀ e C, inB ES e = true → mg e = some (.ref C) → PySem.W.exmOne K (.ref C) (.ref c_WalkError) = some true
  e2_InvalidItem_InvalidList : ∀ e C, inB ["InvalidItem", "InvalidList"] e = true → mg e = some (.ref C) → PySem.W.exmAny K (.ref C) [.ref c_InvalidItem, .ref c_InvalidList] = some true
  fE_value : ∀ n C, inB ES n = true → mg n = some (.ref C) → ExcC K C ∧ NoAttr K C "value"
section
variable {P : Program} {w : World} {K : PySem.W.Frag} {mg : Str → Option Value}
theorem Tx.k_law_hash (T : Tx P K mg) (base : Heap) : FnG P w K mg base 3 T.f_law_hash T.d_law_hash P_law_hash (spM ⟨K, mg⟩ 2 M_law_hash) := by
  refine fnM (k := 2) (N := N_law_hash) T.F_law_hash sc_law_hash (by decide) fun X B W cdv A outer s H E hX hr tk => ?_
  subst hX
  have nd : (N_law_hash).Nodup := sc_law_hash.nd
  exact (ss_cons (ss_set 2 nd (se_mod (se_callTy call_int1 ok_int1 (by rfl) T.z_int PyProof.Rows.Boot.«int» (sa_cons (se_add (se_add (se_add (se_mul (se_var 0) se_int) (se_mul (se_mul se_int (se_var 1)) (se_var 1))) (se_var 1)) se_int) sa_nil)) se_int))
      (ss_cons (ss_set 2 nd (se_mod (se_callTy call_int1 ok_int1 (by rfl) T.z_int PyProof.Rows.Boot.«int» (sa_cons (se_add (se_mul (se_var 2) (se_var 2)) se_int) sa_nil)) se_int))
      (ss_one (ss_ret (se_mod (se_callTy call_int1 ok_int1 (by rfl) T.z_int PyProof.Rows.Boot.«int» (sa_cons (se_mul (se_var 2) se_int) sa_nil)) se_int)))))
theorem Tx.k_law_random (T : Tx P K mg) (base : Heap) : FnG P w K mg base 4 T.f_law_random T.d_law_random P_law_random (spM ⟨K, mg⟩ 2 M_law_random) := by
  refine fnM (k := 3) (N := N_law_random) T.F_law_random sc_law_random (by decide) fun X B W cdv A outer s H E hX hr tk => ?_
  subst hX
  have nd : (N_law_random).Nodup := sc_law_random.nd
  exact (ss_cons (ss_if (st_gt (se_ix (se_var 0) se_int) se_int) (ss_cons (ss_set 2 nd (se_mod (se_callTy call_int1 ok_int1 (by rfl) T.z_int PyProof.Rows.Boot.«int» (sa_cons (se_ix (se_var 0) se_int) sa_nil)) (se_var 1)))
      (ss_cons (ss_putIx (se_fdiv (se_ix (se_var 0) se_int) (se_var 1)) (se_var 0) se_int)
      (ss_one (ss_ret (se_var 2))))) ss_nil)
      (ss_cons (ss_set 2 nd se_int)
      (ss_cons (ss_for (vs := [3]) (passes_of rfl) rfl (si_rg1 (by rfl) T.z_range (se_add se_int (se_fdiv (se_bits (se_var 1)) se_int))) (sg_name (vs := [3]) 3 nd) (ss_cons (ss_putIx (se_add (se_ix (se_var 0) se_int) se_int) (se_var 0) se_int)
      (ss_one (ss_set 2 nd (se_add (se_mul (se_var 2) se_int) (se_call (T.k_law_hash base) (hr.mono (by decide)) tk (by rfl) T.m_law_hash T.p_law_hash T.b_law_hash .nil (fun _ _ _ => .nil) (sa_cons (se_ix (se_var 0) se_int) (sa_cons (se_ix (se_var 0) se_int) sa_nil))))))))
      (ss_one (ss_ret (se_mod (se_callTy call_int1 ok_int1 (by rfl) T.z_int PyProof.Rows.Boot.«int» (sa_cons (se_var 2) sa_nil)) (se_var 1)))))))
theorem Tx.k_law_bent (T : Tx P K mg) (base : Heap) : FnG P w K mg base 5 T.f_law_bent T.d_law_bent P_law_bent (spM ⟨K, mg⟩ 2 M_law_bent) := by
  refine fnM (k := 4) (N := N_law_bent) T.F_law_bent sc_law_bent (by decide) fun X B W cdv A outer s H E hX hr tk => ?_
  subst hX
  have nd : (N_law_bent).Nodup := sc_law_bent.nd
  exact (ss_cons (ss_par 2 3 false false rfl nd (se_call (T.k_law_random base) (hr.mono (by decide)) tk (by rfl) T.m_law_random T.p_law_random T.b_law_random .nil (fun _ _ _ => .nil) (sa_cons (se_var 0) (sa_cons (se_add (se_callB call_len ok_len (by rfl) T.z_len PyProof.Rows.Boot.«len» (sa_cons (se_var 1) sa_nil)) se_int) sa_nil))) (fun _ => (se_call (T.k_law_random base) (hr.mono (by decide)) tk (by rfl) T.m_law_random T.p_law_random T.b_law_random .nil (fun _ _ _ => .nil) (sa_cons (se_var 0) (sa_cons (se_add (se_callB call_len ok_len (by rfl) T.z_len PyProof.Rows.Boot.«len» (sa_cons (se_var 1) sa_nil)) se_int) sa_nil)))))
      (ss_cons (ss_set 4 nd (se_lst (sa_cons se_str (sa_cons se_str (sa_cons se_str (sa_cons se_str (sa_cons se_str (sa_cons se_str (sa_cons se_str (sa_cons se_str (sa_cons se_str (sa_cons se_str (sa_cons se_str (sa_cons se_str (sa_cons se_str (sa_cons se_str sa_nil))))))))))))))))
      (ss_cons (ss_set 4 nd (se_add (se_var 4) (se_lst (sa_cons se_str (sa_cons se_str sa_nil)))))
      (ss_cons (ss_par 5 6 false false rfl nd (se_ix (se_var 4) (se_call (T.k_law_random base) (hr.mono (by decide)) tk (by rfl) T.m_law_random T.p_law_random T.b_law_random .nil (fun _ _ _ => .nil) (sa_cons (se_var 0) (sa_cons se_int sa_nil)))) (fun _ => (se_split (se_var 1) (sa_cons se_str sa_nil))))
      (ss_cons (ss_own 7 nd (se_lst (sa_cons (se_add (se_slice (se_var 1) so_none (so_some (se_var 2))) (se_slice (se_var 1) (so_some (se_add (se_var 2) se_int)) so_none)) (sa_cons (se_add (se_add (se_slice (se_var 1) so_none (so_some (se_var 2))) (se_var 5)) (se_slice (se_var 1) (so_some (se_var 2)) so_none)) (sa_cons (se_add (se_add (se_slice (se_var 1) so_none (so_some (se_var 2))) (se_var 5)) (se_slice (se_var 1) (so_some (se_add (se_var 2) se_int)) so_none)) (sa_cons (se_slice (se_var 1) (so_some (se_var 2)) so_none) sa_nil))))))
      (ss_cons (ss_own 7 nd (se_add (se_var 7) (se_lst (sa_cons (se_slice (se_var 1) so_none (so_some (se_var 2))) (sa_cons (se_add (se_var 1) (se_var 5)) (sa_cons (se_add (se_var 5) (se_var 1)) (sa_cons (se_add (se_slice (se_var 1) so_none (so_some (se_var 3))) (se_slice (se_var 1) (so_some (se_var 2)) so_none)) (sa_cons (se_add (se_add (se_var 1) se_str) (se_var 1)) sa_nil))))))))
      (ss_cons (ss_set 8 nd (se_call (T.k_law_random base) (hr.mono (by decide)) tk (by rfl) T.m_law_random T.p_law_random T.b_law_random .nil (fun _ _ _ => .nil) (sa_cons (se_var 0) (sa_cons (se_callB call_len ok_len (by rfl) T.z_len PyProof.Rows.Boot.«len» (sa_cons (se_var 6) sa_nil)) sa_nil))))
      (ss_cons (ss_app (se_var 7) (se_join se_str (sa_cons (se_add (se_slice (se_var 6) so_none (so_some (se_var 8))) (se_slice (se_var 6) (so_some (se_add (se_var 8) se_int)) so_none)) sa_nil)))
      (ss_cons (ss_set 9 nd (se_revL (se_slice (se_var 6) (so_some (se_var 8)) (so_some (se_add (se_var 8) se_int)))))
      (ss_cons (ss_app (se_var 7) (se_join se_str (sa_cons (se_add (se_add (se_slice (se_var 6) so_none (so_some (se_var 8))) (se_var 9)) (se_slice (se_var 6) (so_some (se_add (se_var 8) se_int)) so_none)) sa_nil)))
      (ss_one (ss_ret (se_add (se_var 7) (se_lst (sa_cons (se_join se_str (sa_cons (se_add (se_var 6) (se_slice (se_var 6) (so_some (se_var 8)) (so_some (se_add (se_var 8) se_int)))) sa_nil)) (sa_cons (se_join se_str (sa_cons (se_revL (se_var 6)) sa_nil)) sa_nil))))))))))))))))
theorem Tx.k_law_moves_drawn (T : Tx P K mg) (base : Heap) : FnG P w K mg base 5 T.f_law_moves_drawn T.d_law_moves_drawn P_law_moves_drawn (spM ⟨K, mg⟩ 3 M_law_moves_drawn) := by
  refine fnM (k := 4) (N := N_law_moves_drawn) T.F_law_moves_drawn sc_law_moves_drawn (by decide) fun X B W cdv A outer s H E hX hr tk => ?_
  subst hX
  have nd : (N_law_moves_drawn).Nodup := sc_law_moves_drawn.nd
  exact (ss_cons (ss_own 3 nd (se_lst sa_nil))
      (ss_cons (ss_for (vs := [4]) (passes_of rfl) rfl (si_rg1 (by rfl) T.z_range (se_call (T.k_law_random base) (hr.mono (by decide)) tk (by rfl) T.m_law_random T.p_law_random T.b_law_random .nil (fun _ _ _ => .nil) (sa_cons (se_var 0) (sa_cons (se_add (se_var 2) se_int) sa_nil)))) (sg_name (vs := [4]) 4 nd) (ss_cons (ss_set 5 nd (se_sub (se_call (T.k_law_random base) (hr.mono (by decide)) tk (by rfl) T.m_law_random T.p_law_random T.b_law_random .nil (fun _ _ _ => .nil) (sa_cons (se_var 0) (sa_cons se_int sa_nil))) se_int))
      (ss_cons (ss_set 6 nd (se_ix (se_lst (sa_cons se_int (sa_cons se_int (sa_cons se_int (sa_cons se_int (sa_cons se_int sa_nil)))))) (se_call (T.k_law_random base) (hr.mono (by decide)) tk (by rfl) T.m_law_random T.p_law_random T.b_law_random .nil (fun _ _ _ => .nil) (sa_cons (se_var 0) (sa_cons se_int sa_nil)))))
      (ss_cons (ss_set 7 nd (se_callB (call_min2 rfl) ok_min2 (by rfl) T.z_min PyProof.Rows.Boot.«min» (sa_cons (se_add (se_callB (call_max2 rfl) ok_max2 (by rfl) T.z_max PyProof.Rows.Boot.«max» (sa_cons se_int (sa_cons (se_sub se_int (se_var 5)) sa_nil))) (se_var 6)) (sa_cons (se_sub se_int (se_callB (call_max2 rfl) ok_max2 (by rfl) T.z_max PyProof.Rows.Boot.«max» (sa_cons se_int (sa_cons (se_var 5) sa_nil)))) sa_nil))))
      (ss_cons (ss_par 8 9 false false rfl nd (se_ix (se_var 1) (se_call (T.k_law_random base) (hr.mono (by decide)) tk (by rfl) T.m_law_random T.p_law_random T.b_law_random .nil (fun _ _ _ => .nil) (sa_cons (se_var 0) (sa_cons (se_callB call_len ok_len (by rfl) T.z_len PyProof.Rows.Boot.«len» (sa_cons (se_var 1) sa_nil)) sa_nil)))) (fun _ => (se_ix (se_var 1) (se_call (T.k_law_random base) (hr.mono (by decide)) tk (by rfl) T.m_law_random T.p_law_random T.b_law_random .nil (fun _ _ _ => .nil) (sa_cons (se_var 0) (sa_cons (se_callB call_len ok_len (by rfl) T.z_len PyProof.Rows.Boot.«len» (sa_cons (se_var 1) sa_nil)) sa_nil))))))
      (ss_one (ss_app (se_var 3) (se_tup (sa_cons (se_var 8) (sa_cons (se_var 7) (sa_cons (se_var 5) (sa_cons (se_var 9) sa_nil))))))))))))
      (ss_one (ss_ret (se_var 3)))))
theorem Tx.k_law_drawn (T : Tx P K mg) (base : Heap) : FnG P w K mg base 6 T.f_law_drawn T.d_law_drawn P_law_drawn (spM ⟨K, mg⟩ 3 M_law_drawn) := by
  refine fnM (k := 5) (N := N_law_drawn) T.F_law_drawn sc_law_drawn (by decide) fun X B W cdv A outer s H E hX hr tk => ?_
  subst hX
  have nd : (N_law_drawn).Nodup := sc_law_drawn.nd
  exact (ss_cons (ss_set 3 nd (se_slice (se_lst (sa_cons se_str (sa_cons se_str (sa_cons se_str (sa_cons se_str sa_nil))))) so_none (so_some (se_add se_int (se_call (T.k_law_random base) (hr.mono (by decide)) tk (by rfl) T.m_law_random T.p_law_random T.b_law_random .nil (fun _ _ _ => .nil) (sa_cons (se_var 0) (sa_cons (se_var 1) sa_nil)))))))
      (ss_one (ss_ret (se_lst (sa_cons (se_var 3) (sa_cons (se_call (T.k_law_moves_drawn base) (hr.mono (by decide)) tk (by rfl) T.m_law_moves_drawn T.p_law_moves_drawn T.b_law_moves_drawn .nil (fun _ _ _ => .nil) (sa_cons (se_var 0) (sa_cons (se_var 3) (sa_cons (se_var 2) sa_nil)))) sa_nil))))))
theorem Tx.k_law_cell (T : Tx P K mg) (base : Heap) : FnG P w K mg base 3 T.f_law_cell T.d_law_cell P_law_cell (spM ⟨K, mg⟩ 2 M_law_cell) := by
  refine fnM (k := 2) (N := N_law_cell) T.F_law_cell sc_law_cell (by decide) fun X B W cdv A outer s H E hX hr tk => ?_
  subst hX
  have nd : (N_law_cell).Nodup := sc_law_cell.nd
  exact (ss_cons (ss_if (st_lt (se_var 1) (se_callB call_len ok_len (by rfl) T.z_len PyProof.Rows.Boot.«len» (sa_cons (se_var 0) sa_nil))) (ss_one (ss_ret (se_ix (se_var 0) (se_var 1)))) ss_nil)
      (ss_one (ss_ret se_int)))
theorem Tx.k_law_generator (T : Tx P K mg) (base : Heap) : FnG P w K mg base 4 T.f_law_generator T.d_law_generator P_law_generator (spM ⟨K, mg⟩ 2 M_law_generator) := by
  refine fnM (k := 3) (N := N_law_generator) T.F_law_generator sc_law_generator (by decide) fun X B W cdv A outer s H E hX hr tk => ?_
  subst hX
  have nd : (N_law_generator).Nodup := sc_law_generator.nd
  exact (ss_cons (ss_set 2 nd (se_call (T.k_law_cell base) (hr.mono (by decide)) tk (by rfl) T.m_law_cell T.p_law_cell T.b_law_cell .nil (fun _ _ _ => .nil) (sa_cons (se_var 0) (sa_cons (se_var 1) sa_nil))))
      (ss_one (ss_ret (se_lst (sa_cons (se_mod (se_callTy call_int1 ok_int1 (by rfl) T.z_int PyProof.Rows.Boot.«int» (sa_cons (se_callB (call_max2 rfl) ok_max2 (by rfl) T.z_max PyProof.Rows.Boot.«max» (sa_cons (se_sub (se_var 2) (se_pow se_int se_int)) (sa_cons se_int sa_nil))) sa_nil)) (se_pow (se_pow se_int se_int) se_int)) (sa_cons (se_mod (se_callTy call_int1 ok_int1 (by rfl) T.z_int PyProof.Rows.Boot.«int» (sa_cons (se_var 2) sa_nil)) se_int) (sa_cons (se_mul se_int (se_var 1)) sa_nil)))))))
theorem Tx.k_is_whole (T : Tx P K mg) (base : Heap) : FnG P w K mg base 3 T.f_is_whole T.d_is_whole P_is_whole (spM ⟨K, mg⟩ 1 M_is_whole) := by
  refine fnM (k := 2) (N := N_is_whole) T.F_is_whole sc_is_whole (by decide) fun X B W cdv A outer s H E hX hr tk => ?_
  subst hX
  have nd : (N_is_whole).Nodup := sc_is_whole.nd
  exact (ss_one (ss_ret (se_and (se_isT "int" (by rfl) T.z_isinstance (by rfl) T.z_int PyProof.Rows.Boot.«int» isT_int (se_var 0) noC_I noC_I) (se_one (se_not (se_isT "bool" (by rfl) T.z_isinstance (by rfl) T.z_bool PyProof.Rows.Boot.«bool» isT_bool (se_var 0) noC_I noC_I))))))
theorem Tx.k_is_within (T : Tx P K mg) (base : Heap) : FnG P w K mg base 4 T.f_is_within T.d_is_within P_is_within (spM ⟨K, mg⟩ 3 M_is_within) := by
  refine fnM (k := 3) (N := N_is_within) T.F_is_within sc_is_within (by decide) fun X B W cdv A outer s H E hX hr tk => ?_
  subst hX
  have nd : (N_is_within).Nodup := sc_is_within.nd
  exact (ss_one (ss_ret (se_and (se_call (T.k_is_whole base) (hr.mono (by decide)) tk (by rfl) T.m_is_whole T.p_is_whole T.b_is_whole .nil (fun _ _ _ => .nil) (sa_cons (se_var 0) sa_nil)) (se_one (se_lele (se_var 1) (se_var 0) (se_var 2))))))
theorem Tx.k_is_move (T : Tx P K mg) (base : Heap) : FnG P w K mg base 5 T.f_is_move T.d_is_move P_is_move (spM ⟨K, mg⟩ 2 M_is_move) := by
  refine fnM (k := 4) (N := N_is_move) T.F_is_move sc_is_move (by decide) fun X B W cdv A outer s H E hX hr tk => ?_
  subst hX
  have nd : (N_is_move).Nodup := sc_is_move.nd
  exact (ss_cons (ss_if (st_w (sw_or (st_not (st_val (se_isT "tuple" (by rfl) T.z_isinstance (by rfl) T.z_tuple PyProof.Rows.Boot.«tuple» isT_tuple (se_var 0) noC_I noC_I))) (sw_or (st_ne hr (se_callB call_len ok_len (by rfl) T.z_len PyProof.Rows.Boot.«len» (sa_cons (se_var 0) sa_nil)) se_int) (sw_or (st_notInA hr (se_ix (se_var 0) se_int) (se_var 1)) (sw_or1 (st_notInA hr (se_ix (se_var 0) se_int) (se_var 1))))))) (ss_one (ss_ret se_bl)) ss_nil)
      (ss_cons (ss_if (st_w (sw_or (st_not (st_val (se_call (T.k_is_within base) (hr.mono (by decide)) tk (by rfl) T.m_is_within T.p_is_within T.b_is_within .nil (fun _ _ _ => .nil) (sa_cons (se_ix (se_var 0) se_int) (sa_cons se_int (sa_cons (se_glob (v := .int 8) (by rfl) T.g_MOST_LEAST ⟨_, rfl⟩ (fun _ _ _ => .int _)) sa_nil)))))) (sw_or1 (st_not (st_val (se_call (T.k_is_within base) (hr.mono (by decide)) tk (by rfl) T.m_is_within T.p_is_within T.b_is_within .nil (fun _ _ _ => .nil) (sa_cons (se_ix (se_var 0) se_int) (sa_cons (se_neg (se_glob (v := .int 4) (by rfl) T.g_MOST_CHANGE ⟨_, rfl⟩ (fun _ _ _ => .int _))) (sa_cons (se_glob (v := .int 4) (by rfl) T.g_MOST_CHANGE ⟨_, rfl⟩ (fun _ _ _ => .int _)) sa_nil))))))))) (ss_one (ss_ret se_bl)) ss_nil)
      (ss_one (ss_ret (se_lele se_int (se_add (se_ix (se_var 0) se_int) (se_ix (se_var 0) se_int)) (se_glob (v := .int 8) (by rfl) T.g_MOST_LEAST ⟨_, rfl⟩ (fun _ _ _ => .int _)))))))
theorem Tx.k_is_name (T : Tx P K mg) (base : Heap) : FnG P w K mg base 3 T.f_is_name T.d_is_name P_is_name (spM ⟨K, mg⟩ 1 M_is_name) := by
  refine fnM (k := 2) (N := N_is_name) T.F_is_name sc_is_name (by decide) fun X B W cdv A outer s H E hX hr tk => ?_
  subst hX
  have nd : (N_is_name).Nodup := sc_is_name.nd
  exact (ss_cons (ss_if (st_w (sw_or (st_not (st_val (se_isT "str" (by rfl) T.z_isinstance (by rfl) T.z_str PyProof.Rows.Boot.«str» isT_str (se_var 0) noC_I noC_I))) (sw_or1 (st_not (st_lele se_int (se_callB call_len ok_len (by rfl) T.z_len PyProof.Rows.Boot.«len» (sa_cons (se_var 0) sa_nil)) (se_glob (v := .int 8) (by rfl) T.g_MOST_LETTERS ⟨_, rfl⟩ (fun _ _ _ => .int _))))))) (ss_one (ss_ret se_bl)) ss_nil)
      (ss_one (ss_ret (se_eq hr.r (se_lc rfl nd (si_str (se_var 0)) (blkOk_by (own := [("letter", 1)]) (by show blkC N_is_name (defScope s_is_name) _ _ = true; decide +kernel)) (fun _ _ _ _ _ _ => (sg_name (vs := _) 1 nd)) (fun _ _ _ _ _ _ => (spts_one (st_notInA hr (se_var 1) (se_glob (v := .str "abcdefghijklmnopqrstuvwxyz") (by rfl) T.g_LETTERS ⟨_, rfl⟩ (fun _ _ _ => .str _))))) (fun _ _ _ _ _ _ => (se_var 1))) (se_lst sa_nil)))))
theorem Tx.k_Program_init (T : Tx P K mg) (base : Heap) : FnG P w K mg base 6 T.f_Program_init T.d_Program_init P_Program_init (spI ⟨K, mg⟩ "Program" 3 M_Program_init) := by
  refine fnI (k := 5) (N := N_Program_init) T.F_Program_init sc_Program_init (by decide) fun X B W cdv A outer s H E hX hr tk => ?_
  subst hX
  have nd : (N_Program_init).Nodup := sc_Program_init.nd
  exact (ss_cons (ss_if (st_w (sw_or (st_not (st_val (se_isT "list" (by rfl) T.z_isinstance (by rfl) T.z_list PyProof.Rows.Boot.«list» isT_list (se_var 1) noC_I noC_I))) (sw_or1 (st_not (st_lele se_int (se_callB call_len ok_len (by rfl) T.z_len PyProof.Rows.Boot.«len» (sa_cons (se_var 1) sa_nil)) (se_glob (v := .int 4) (by rfl) T.g_MOST_PLACES ⟨_, rfl⟩ (fun _ _ _ => .int _))))))) (ss_one (ss_raise (k := 0) rfl tk T.i_InvalidList (hr.mono (by decide)) T.bi_InvalidList .nil (fun _ _ _ => .nil) rfl T.mc_InvalidList (sa_cons (se_var 1) sa_nil))) ss_nil)
      (ss_cons (ss_for (vs := [3, 4]) (passes_of rfl) rfl (si_enum (by rfl) T.z_enumerate (se_var 1)) (sg_tup rfl (sgs_cons (sg_name (vs := [3, 4]) 3 nd) (sgs_cons (sg_name (vs := [3, 4]) 4 nd) sgs_nil))) (ss_one (ss_if (st_w (sw_or (st_not (st_val (se_call (T.k_is_name base) (hr.mono (by decide)) tk (by rfl) T.m_is_name T.p_is_name T.b_is_name .nil (fun _ _ _ => .nil) (sa_cons (se_var 4) sa_nil)))) (sw_or1 (st_inA hr (se_var 4) (se_slice (se_var 1) so_none (so_some (se_var 3))))))) (ss_one (ss_raise (k := 0) rfl tk T.i_InvalidItem (hr.mono (by decide)) T.bi_InvalidItem .nil (fun _ _ _ => .nil) rfl T.mc_InvalidItem (sa_cons (se_var 4) sa_nil))) ss_nil)))
      (ss_cons (ss_if (st_w (sw_or (st_not (st_val (se_isT "list" (by rfl) T.z_isinstance (by rfl) T.z_list PyProof.Rows.Boot.«list» isT_list (se_var 2) noC_I noC_I))) (sw_or1 (st_gt (se_callB call_len ok_len (by rfl) T.z_len PyProof.Rows.Boot.«len» (sa_cons (se_var 2) sa_nil)) (se_glob (v := .int 10) (by rfl) T.g_MOST_MOVES ⟨_, rfl⟩ (fun _ _ _ => .int _)))))) (ss_one (ss_raise (k := 0) rfl tk T.i_InvalidList (hr.mono (by decide)) T.bi_InvalidList .nil (fun _ _ _ => .nil) rfl T.mc_InvalidList (sa_cons (se_var 2) sa_nil))) ss_nil)
      (ss_cons (ss_for (vs := [5]) (passes_of rfl) rfl (si_seq (se_var 2)) (sg_name (vs := [5]) 5 nd) (ss_one (ss_if (st_not (st_val (se_call (T.k_is_move base) (hr.mono (by decide)) tk (by rfl) T.m_is_move T.p_is_move T.b_is_move .nil (fun _ _ _ => .nil) (sa_cons (se_var 5) (sa_cons (se_var 1) sa_nil))))) (ss_one (ss_raise (k := 0) rfl tk T.i_InvalidItem (hr.mono (by decide)) T.bi_InvalidItem .nil (fun _ _ _ => .nil) rfl T.mc_InvalidItem (sa_cons (se_var 5) sa_nil))) ss_nil)))
      (ss_cons (ss_putF (se_callTy call_tuple_of ok_tupOf (by rfl) T.z_tuple PyProof.Rows.Boot.«tuple» (sa_cons (se_var 1) sa_nil)) (se_var 0) T.fI_stands)
      (ss_cons (ss_putF (se_callTy call_tuple_of ok_tupOf (by rfl) T.z_tuple PyProof.Rows.Boot.«tuple» (sa_cons (se_var 2) sa_nil)) (se_var 0) T.fI_steps)
      (ss_one (ss_putF (se_lst sa_nil) (se_var 0) T.fI_folio))))))))
theorem Tx.k_law_program (T : Tx P K mg) (base : Heap) : FnG P w K mg base 8 T.f_law_program T.d_law_program P_law_program (spM ⟨K, mg⟩ 1 M_law_program) := by
  refine fnM (k := 7) (N := N_law_program) T.F_law_program sc_law_program (by decide) fun X B W cdv A outer s H E hX hr tk => ?_
  subst hX
  have nd : (N_law_program).Nodup := sc_law_program.nd
  exact (ss_one (ss_ret (se_make (n := 2) T.mk_Program (T.k_Program_init base) (hr.mono (by decide)) tk (by rfl) T.mc_Program T.b_Program_init (sa_cons (se_callTy call_list_of ok_listOf (by rfl) T.z_list PyProof.Rows.Boot.«list» (sa_cons (se_ix (se_var 0) se_int) sa_nil)) (sa_cons (se_callTy call_list_of ok_listOf (by rfl) T.z_list PyProof.Rows.Boot.«list» (sa_cons (se_ix (se_var 0) se_int) sa_nil)) sa_nil)))))
theorem Tx.k_Program_eq (T : Tx P K mg) (base : Heap) : FnG P w K mg base 3 T.f_Program_eq T.d_Program_eq P_Program_eq (spM ⟨K, mg⟩ 2 M_Program_eq) := by
  refine fnM (k := 2) (N := N_Program_eq) T.F_Program_eq sc_Program_eq (by decide) fun X B W cdv A outer s H E hX hr tk => ?_
  subst hX
  have nd : (N_Program_eq).Nodup := sc_Program_eq.nd
  exact (ss_one (ss_ret (se_and (se_isD (by rfl) T.z_isinstance (by rfl) T.mc_Program T.nt_Program (se_var 1) (eqc_use T.eqi_Program) noC_I) (se_one (se_eq hr.r (se_tup (sa_cons (se_fld (se_var 0) T.fI_stands noB_I) (sa_cons (se_fld (se_var 0) T.fI_steps noB_I) sa_nil))) (se_tup (sa_cons (se_fld (se_var 1) T.fI_stands noB_I) (sa_cons (se_fld (se_var 1) T.fI_steps noB_I) sa_nil))))))))
theorem Tx.k_law_move_in (T : Tx P K mg) (base : Heap) : FnG P w K mg base 3 T.f_law_move_in T.d_law_move_in P_law_move_in (spM ⟨K, mg⟩ 1 M_law_move_in) := by
  refine fnM (k := 2) (N := N_law_move_in) T.F_law_move_in sc_law_move_in (by decide) fun X B W cdv A outer s H E hX hr tk => ?_
  subst hX
  have nd : (N_law_move_in).Nodup := sc_law_move_in.nd
  exact (ss_cons (ss_if (st_w (sw_or (st_ne hr (se_callB call_len ok_len (by rfl) T.z_len PyProof.Rows.Boot.«len» (sa_cons (se_var 0) sa_nil)) se_int) (sw_or1 (st_ne hr (se_ix (se_var 0) se_int) se_str)))) (ss_one (ss_ret se_non)) ss_nil)
      (ss_cons (ss_set 1 nd (se_lst (sa_cons se_str (sa_cons se_str (sa_cons se_str (sa_cons se_str (sa_cons se_str (sa_cons se_str (sa_cons se_str (sa_cons se_str (sa_cons se_str sa_nil)))))))))))
      (ss_cons (ss_set 2 nd (se_lst (sa_cons se_str (sa_cons se_str (sa_cons se_str (sa_cons se_str (sa_cons se_str (sa_cons se_str (sa_cons se_str (sa_cons se_str (sa_cons se_str sa_nil)))))))))))
      (ss_cons (ss_if (st_w (sw_or (st_notInA hr (se_ix (se_var 0) se_int) (se_var 1)) (sw_or1 (st_notInA hr (se_ix (se_var 0) se_int) (se_var 2))))) (ss_one (ss_ret se_non)) ss_nil)
      (ss_one (ss_ret (se_tup (sa_cons (se_ix (se_var 0) se_int) (sa_cons (se_index hr (se_var 1) (sa_cons (se_ix (se_var 0) se_int) sa_nil)) (sa_cons (se_sub (se_index hr (se_var 2) (sa_cons (se_ix (se_var 0) se_int) sa_nil)) se_int) (sa_cons (se_ix (se_var 0) se_int) sa_nil)))))))))))
theorem Tx.k_law_due (T : Tx P K mg) (base : Heap) : FnG P w K mg base 8 T.f_law_due T.d_law_due P_law_due (spM ⟨K, mg⟩ 1 M_law_due) := by
  refine fnM (k := 7) (N := N_law_due) T.F_law_due sc_law_due (by decide) fun X B W cdv A outer s H E hX hr tk => ?_
  subst hX
  have nd : (N_law_due).Nodup := sc_law_due.nd
  exact (ss_cons (ss_setLc 1 rfl nd (by rfl) (si_seq (se_split (se_var 0) (sa_cons se_str sa_nil))) (blkOk_by (own := [("_law_line", 4)]) (by show blkC N_law_due (defScope s_law_due) _ _ = true; decide +kernel)) (fun _ _ _ _ _ _ => (sg_name (vs := _) 4 nd)) (fun _ _ _ _ _ _ => spts_nil) (fun _ _ _ _ _ _ => (se_lc rfl nd (si_seq (se_split (se_var 4) (sa_cons se_str sa_nil))) (blkOk_by (own := [("_law_part", 6)]) (by kernel_rfl)) (fun _ _ _ _ _ _ => (sg_name (vs := _) 6 nd)) (fun _ _ _ _ _ _ => (spts_one (st_ne hr (se_var 6) se_str))) (fun _ _ _ _ _ _ => (se_var 6)))))
      (ss_cons (ss_setLc 1 rfl nd (by rfl) (si_seq (se_var 1)) (blkOk_by (own := [("_law_row", 5)]) (by show blkC N_law_due (defScope s_law_due) _ _ = true; decide +kernel)) (fun _ _ _ _ _ _ => (sg_name (vs := _) 5 nd)) (fun _ _ _ _ _ _ => (spts_one (st_ne hr (se_var 5) (se_lst sa_nil)))) (fun _ _ _ _ _ _ => (se_var 5)))
      (ss_cons (ss_if (st_w (sw_or (st_eq hr (se_var 1) (se_lst sa_nil)) (sw_or1 (st_ne hr (se_ix (se_ix (se_var 1) se_int) se_int) se_str)))) (ss_one (ss_ret se_non)) ss_nil)
      (ss_cons (ss_par 2 3 false false rfl nd (se_lc rfl nd (si_seq (se_slice (se_var 1) (so_some se_int) so_none)) (blkOk_by (own := [("_law_row", 5)]) (by show blkC N_law_due (defScope s_law_due) _ _ = true; decide +kernel)) (fun _ _ _ _ _ _ => (sg_name (vs := _) 5 nd)) (fun _ _ _ _ _ _ => spts_nil) (fun _ _ _ _ _ _ => (se_call (T.k_law_move_in base) (hr.mono (by decide)) L2.takes0 (by rfl) T.m_law_move_in T.p_law_move_in T.b_law_move_in .nil (fun _ _ _ => .nil) (sa_cons (se_var 5) sa_nil)))) (fun _ => se_non))
      (ss_cons (ss_if (st_inA hr se_non (se_var 2)) (ss_one (ss_ret se_non)) ss_nil)
      (ss_cons (ss_try2 (p := inB ["InvalidItem", "InvalidList"]) rfl rfl ⟨rfl, by decide, .inl T.mc_InvalidItem⟩ ⟨rfl, by decide, .inl T.mc_InvalidList⟩ T.e2_InvalidItem_InvalidList (fun _ _ _ tk2 po2 => (ss_one (ss_set 3 nd (se_make (n := 2) T.mk_Program (T.k_Program_init base) (hr.mono (by decide)) tk2 (by rfl) T.mc_Program T.b_Program_init (sa_cons (se_slice (se_ix (se_var 1) se_int) (so_some se_int) so_none) (sa_cons (se_var 2) sa_nil)))))) (fun _ _ => (ss_one (ss_set 3 nd se_non))))
      (ss_one (ss_ret (se_var 3)))))))))
theorem Tx.k_signed (T : Tx P K mg) (base : Heap) : FnG P w K mg base 3 T.f_signed T.d_signed P_signed (spM ⟨K, mg⟩ 1 M_signed) := by
  refine fnM (k := 2) (N := N_signed) T.F_signed sc_signed (by decide) fun X B W cdv A outer s H E hX hr tk => ?_
  subst hX
  have nd : (N_signed).Nodup := sc_signed.nd
  exact (ss_one (ss_ret (se_if (st_ge (se_var 0) se_int) (se_add se_str (se_strT (by rfl) T.z_str PyProof.Rows.Boot.«str» (sa_cons (se_var 0) sa_nil))) (se_strT (by rfl) T.z_str PyProof.Rows.Boot.«str» (sa_cons (se_var 0) sa_nil)))))
theorem Tx.k_move_in (T : Tx P K mg) (base : Heap) : FnG P w K mg base 4 T.f_move_in T.d_move_in P_move_in (spM ⟨K, mg⟩ 1 M_move_in) := by
  refine fnM (k := 3) (N := N_move_in) T.F_move_in sc_move_in (by decide) fun X B W cdv A outer s H E hX hr tk => ?_
  subst hX
  have nd : (N_move_in).Nodup := sc_move_in.nd
  exact (ss_cons (ss_setDc 1 rfl nd (by rfl) (si_rg1 (by rfl) T.z_range (se_add (se_glob (v := .int 8) (by rfl) T.g_MOST_LEAST ⟨_, rfl⟩ (fun _ _ _ => .int _)) se_int)) (blkOk_by (own := [("number", 3)]) (by show blkC N_move_in (defScope s_move_in) _ _ = true; decide +kernel)) (fun _ _ _ _ _ _ => (sg_name (vs := _) 3 nd)) (fun _ _ _ _ _ _ => spts_nil) (fun _ _ _ _ _ _ => (se_strT (by rfl) T.z_str PyProof.Rows.Boot.«str» (sa_cons (se_var 3) sa_nil))) (fun _ _ _ _ _ _ => (se_var 3)))
      (ss_cons (ss_setDc 2 rfl nd (by rfl) (si_rg2 (by rfl) T.z_range (se_neg (se_glob (v := .int 4) (by rfl) T.g_MOST_CHANGE ⟨_, rfl⟩ (fun _ _ _ => .int _))) (se_add (se_glob (v := .int 4) (by rfl) T.g_MOST_CHANGE ⟨_, rfl⟩ (fun _ _ _ => .int _)) se_int)) (blkOk_by (own := [("number", 3)]) (by show blkC N_move_in (defScope s_move_in) _ _ = true; decide +kernel)) (fun _ _ _ _ _ _ => (sg_name (vs := _) 3 nd)) (fun _ _ _ _ _ _ => spts_nil) (fun _ _ _ _ _ _ => (se_call (T.k_signed base) (hr.mono (by decide)) L2.takes0 (by rfl) T.m_signed T.p_signed T.b_signed .nil (fun _ _ _ => .nil) (sa_cons (se_var 3) sa_nil))) (fun _ _ _ _ _ _ => (se_var 3)))
      (ss_cons (ss_if (st_w (sw_or (st_ne hr (se_callB call_len ok_len (by rfl) T.z_len PyProof.Rows.Boot.«len» (sa_cons (se_var 0) sa_nil)) se_int) (sw_or (st_ne hr (se_ix (se_var 0) se_int) se_str) (sw_or (st_dnotin hr (se_ix (se_var 0) se_int) (se_var 1)) (sw_or1 (st_dnotin hr (se_ix (se_var 0) se_int) (se_var 2))))))) (ss_one (ss_ret se_non)) ss_nil)
      (ss_one (ss_ret (se_tup (sa_cons (se_ix (se_var 0) se_int) (sa_cons (se_dget hr (se_var 1) (se_ix (se_var 0) se_int)) (sa_cons (se_dget hr (se_var 2) (se_ix (se_var 0) se_int)) (sa_cons (se_ix (se_var 0) se_int) sa_nil))))))))))
theorem Tx.k_parts_of (T : Tx P K mg) (base : Heap) : FnG P w K mg base 3 T.f_parts_of T.d_parts_of P_parts_of (spM ⟨K, mg⟩ 1 M_parts_of) := by
  refine fnM (k := 2) (N := N_parts_of) T.F_parts_of sc_parts_of (by decide) fun X B W cdv A outer s H E hX hr tk => ?_
  subst hX
  have nd : (N_parts_of).Nodup := sc_parts_of.nd
  exact (ss_one (ss_ret (se_lc rfl nd (si_seq (se_split (se_var 0) (sa_cons se_str sa_nil))) (blkOk_by (own := [("part", 1)]) (by show blkC N_parts_of (defScope s_parts_of) _ _ = true; decide +kernel)) (fun _ _ _ _ _ _ => (sg_name (vs := _) 1 nd)) (fun _ _ _ _ _ _ => (spts_one (st_ne hr (se_var 1) se_str))) (fun _ _ _ _ _ _ => (se_var 1)))))
theorem Tx.k_program_in (T : Tx P K mg) (base : Heap) : FnG P w K mg base 8 T.f_program_in T.d_program_in P_program_in (spM ⟨K, mg⟩ 1 M_program_in) := by
  refine fnM (k := 7) (N := N_program_in) T.F_program_in sc_program_in (by decide) fun X B W cdv A outer s H E hX hr tk => ?_
  subst hX
  have nd : (N_program_in).Nodup := sc_program_in.nd
  exact (ss_cons (ss_setLc 1 rfl nd (by rfl) (si_seq (se_split (se_var 0) (sa_cons se_str sa_nil))) (blkOk_by (own := [("line", 3)]) (by show blkC N_program_in (defScope s_program_in) _ _ = true; decide +kernel)) (fun _ _ _ _ _ _ => (sg_name (vs := _) 3 nd)) (fun _ _ _ _ _ _ => (spts_one (st_ne hr (se_call (T.k_parts_of base) (hr.mono (by decide)) L2.takes0 (by rfl) T.m_parts_of T.p_parts_of T.b_parts_of .nil (fun _ _ _ => .nil) (sa_cons (se_var 3) sa_nil)) (se_lst sa_nil)))) (fun _ _ _ _ _ _ => (se_call (T.k_parts_of base) (hr.mono (by decide)) L2.takes0 (by rfl) T.m_parts_of T.p_parts_of T.b_parts_of .nil (fun _ _ _ => .nil) (sa_cons (se_var 3) sa_nil))))
      (ss_cons (ss_if (st_w (sw_or (st_eq hr (se_var 1) (se_lst sa_nil)) (sw_or1 (st_ne hr (se_ix (se_ix (se_var 1) se_int) se_int) se_str)))) (ss_one (ss_ret se_non)) ss_nil)
      (ss_cons (ss_setLc 2 rfl nd (by rfl) (si_seq (se_slice (se_var 1) (so_some se_int) so_none)) (blkOk_by (own := [("parts", 4)]) (by show blkC N_program_in (defScope s_program_in) _ _ = true; decide +kernel)) (fun _ _ _ _ _ _ => (sg_name (vs := _) 4 nd)) (fun _ _ _ _ _ _ => spts_nil) (fun _ _ _ _ _ _ => (se_call (T.k_move_in base) (hr.mono (by decide)) L2.takes0 (by rfl) T.m_move_in T.p_move_in T.b_move_in .nil (fun _ _ _ => .nil) (sa_cons (se_var 4) sa_nil))))
      (ss_cons (ss_if (st_inA hr se_non (se_var 2)) (ss_one (ss_ret se_non)) ss_nil)
      (ss_one (ss_try2 (p := inB ["InvalidItem", "InvalidList"]) rfl rfl ⟨rfl, by decide, .inl T.mc_InvalidItem⟩ ⟨rfl, by decide, .inl T.mc_InvalidList⟩ T.e2_InvalidItem_InvalidList (fun _ _ _ tk2 po2 => (ss_one (ss_ret (se_make (n := 2) T.mk_Program (T.k_Program_init base) (hr.mono (by decide)) tk2 (by rfl) T.mc_Program T.b_Program_init (sa_cons (se_slice (se_ix (se_var 1) se_int) (so_some se_int) so_none) (sa_cons (se_var 2) sa_nil)))))) (fun _ _ => (ss_one (ss_ret se_non)))))))))
theorem Tx.k_read_program (T : Tx P K mg) (base : Heap) : FnG P w K mg base 9 T.f_read_program T.d_read_program P_read_program (spM ⟨K, mg⟩ 1 M_read_program) := by
  refine fnM (k := 8) (N := N_read_program) T.F_read_program sc_read_program (by decide) fun X B W cdv A outer s H E hX hr tk => ?_
  subst hX
  have nd : (N_read_program).Nodup := sc_read_program.nd
  exact (ss_cons (ss_set 1 nd (se_if (st_val (se_isT "str" (by rfl) T.z_isinstance (by rfl) T.z_str PyProof.Rows.Boot.«str» isT_str (se_var 0) noC_I noC_I)) (se_call (T.k_program_in base) (hr.mono (by decide)) tk (by rfl) T.m_program_in T.p_program_in T.b_program_in .nil (fun _ _ _ => .nil) (sa_cons (se_var 0) sa_nil)) se_non))
      (ss_cons (ss_if (st_isN (se_var 1) se_non) (ss_one (ss_raise (k := 0) rfl tk T.i_InvalidText (hr.mono (by decide)) T.bi_InvalidText .nil (fun _ _ _ => .nil) rfl T.mc_InvalidText (sa_cons (se_var 0) sa_nil))) ss_nil)
      (ss_one (ss_ret (se_var 1)))))
theorem Tx.k_law_right (T : Tx P K mg) (base : Heap) : FnG P w K mg base 10 T.f_law_right T.d_law_right P_law_right (spM ⟨K, mg⟩ 1 M_law_right) := by
  refine fnM (k := 9) (N := N_law_right) T.F_law_right sc_law_right (by decide) fun X B W cdv A outer s H E hX hr tk => ?_
  subst hX
  have nd : (N_law_right).Nodup := sc_law_right.nd
  exact (ss_cons (ss_par3 1 2 3 rfl nd (se_call (T.k_law_due base) (hr.mono (by decide)) tk (by rfl) T.m_law_due T.p_law_due T.b_law_due .nil (fun _ _ _ => .nil) (sa_cons (se_var 0) sa_nil)) se_non se_non)
      (ss_cons (ss_try (p := (inB ES)) (i := 4) rfl rfl nd ⟨rfl, by decide, .inl T.mc_WalkError⟩ tk T.em_WalkError (fun _ _ _ tk2 po2 => (ss_one (ss_set 3 nd (se_call (T.k_read_program base) (hr.mono (by decide)) tk2 (by rfl) T.m_read_program T.p_read_program T.b_read_program .nil (fun _ _ _ => .nil) (sa_cons (se_var 0) sa_nil))))) (fun _ _ => (ss_one (ss_set 2 nd (se_var 4)))))
      (ss_cons (ss_if (st_isN (se_var 1) se_non) (ss_one (ss_ret (se_and (se_isD (by rfl) T.z_isinstance (by rfl) T.mc_InvalidText T.nt_InvalidText (se_var 2) noC_I (eqc_use T.eq_InvalidText)) (se_one (se_eq hr.r (se_callB (call_repr hr) ok_repr (by rfl) T.z_repr PyProof.Rows.Boot.«repr» (sa_cons (se_fld (se_var 2) noB_I T.fE_value) sa_nil)) (se_callB (call_repr hr) ok_repr (by rfl) T.z_repr PyProof.Rows.Boot.«repr» (sa_cons (se_var 0) sa_nil))))))) ss_nil)
      (ss_one (ss_ret (se_and (se_isN (se_var 2) se_non) (se_one (se_eqA (se_var 3) (se_var 1) T.eo_Program T.eb_Program T.mc_Program (T.k_Program_eq base) (hr.mono (by decide)) tk T.b_Program_eq))))))))
theorem Tx.k_Program_places (T : Tx P K mg) (base : Heap) : FnG P w K mg base 3 T.f_Program_places T.d_Program_places P_Program_places (spM ⟨K, mg⟩ 1 M_Program_places) := by
  refine fnM (k := 2) (N := N_Program_places) T.F_Program_places sc_Program_places (by decide) fun X B W cdv A outer s H E hX hr tk => ?_
  subst hX
  have nd : (N_Program_places).Nodup := sc_Program_places.nd
  exact (ss_one (ss_ret (se_callTy call_list_of ok_listOf (by rfl) T.z_list PyProof.Rows.Boot.«list» (sa_cons (se_fld (se_var 0) T.fI_stands noB_I) sa_nil))))
theorem Tx.k_check_program (T : Tx P K mg) (base : Heap) : FnG P w K mg base 3 T.f_check_program T.d_check_program P_check_program (spM ⟨K, mg⟩ 1 M_check_program) := by
  refine fnM (k := 2) (N := N_check_program) T.F_check_program sc_check_program (by decide) fun X B W cdv A outer s H E hX hr tk => ?_
  subst hX
  have nd : (N_check_program).Nodup := sc_check_program.nd
  exact (ss_one (ss_if (st_not (st_val (se_isD (by rfl) T.z_isinstance (by rfl) T.mc_Program T.nt_Program (se_var 0) (eqc_use T.eqi_Program) noC_I))) (ss_one (ss_raise (k := 0) rfl tk T.i_InvalidProgram (hr.mono (by decide)) T.bi_InvalidProgram .nil (fun _ _ _ => .nil) rfl T.mc_InvalidProgram (sa_cons (se_var 0) sa_nil))) ss_nil))
theorem Tx.k_text_of (T : Tx P K mg) (base : Heap) : FnG P w K mg base 4 T.f_text_of T.d_text_of P_text_of (spM ⟨K, mg⟩ 1 M_text_of) := by
  refine fnM (k := 3) (N := N_text_of) T.F_text_of sc_text_of (by decide) fun X B W cdv A outer s H E hX hr tk => ?_
  subst hX
  have nd : (N_text_of).Nodup := sc_text_of.nd
  exact (ss_cons (ss_expr (se_call (T.k_check_program base) (hr.mono (by decide)) tk (by rfl) T.m_check_program T.p_check_program T.b_check_program .nil (fun _ _ _ => .nil) (sa_cons (se_var 0) sa_nil)))
      (ss_cons (ss_own 1 nd (se_lst (sa_cons (se_lst (sa_cons se_str (sa_star (se_meth0 (c := "Program") (se_var 0) T.cl_Program T.me_Program_places T.mc_Program (T.k_Program_places base) (hr.mono (by decide)) tk T.b_Program_places) sa_nil))) sa_nil)))
      (ss_cons (ss_for (vs := [2, 3, 4, 5]) (passes_of rfl) rfl (si_seq (se_fld (se_var 0) T.fI_steps noB_I)) (sg_tup rfl (sgs_cons (sg_name (vs := [2, 3, 4, 5]) 2 nd) (sgs_cons (sg_name (vs := [2, 3, 4, 5]) 3 nd) (sgs_cons (sg_name (vs := [2, 3, 4, 5]) 4 nd) (sgs_cons (sg_name (vs := [2, 3, 4, 5]) 5 nd) sgs_nil))))) (ss_one (ss_app (se_var 1) (se_lst (sa_cons se_str (sa_cons (se_var 2) (sa_cons (se_strT (by rfl) T.z_str PyProof.Rows.Boot.«str» (sa_cons (se_var 3) sa_nil)) (sa_cons (se_call (T.k_signed base) (hr.mono (by decide)) tk (by rfl) T.m_signed T.p_signed T.b_signed .nil (fun _ _ _ => .nil) (sa_cons (se_var 4) sa_nil)) (sa_cons (se_var 5) sa_nil)))))))))
      (ss_one (ss_fz 1 (ss_ret (se_join se_str (sa_cons (se_lc rfl nd (si_seq (se_var 1)) (blkOk_by (own := [("row", 6)]) (by show blkC N_text_of (defScope s_text_of) _ _ = true; decide +kernel)) (fun _ _ _ _ _ _ => (sg_name (vs := _) 6 nd)) (fun _ _ _ _ _ _ => spts_nil) (fun _ _ _ _ _ _ => (se_join se_str (sa_cons (se_var 6) sa_nil)))) sa_nil))))))))
theorem Tx.k_law (T : Tx P K mg) (base : Heap) : FnG P w K mg base 11 T.f_law T.d_law P_law (spM ⟨K, mg⟩ 1 M_law) := by
  refine fnM (k := 10) (N := N_law) T.F_law sc_law (by decide) fun X B W cdv A outer s H E hX hr tk => ?_
  subst hX
  have nd : (N_law).Nodup := sc_law.nd
  exact (ss_cons (ss_for (vs := [1]) (passes_of rfl) rfl (si_rg1 (by rfl) T.z_range se_int) (sg_name (vs := [1]) 1 nd) (ss_cons (ss_set 2 nd (se_sto (se_call (T.k_law_generator base) (hr.mono (by decide)) tk (by rfl) T.m_law_generator T.p_law_generator T.b_law_generator .nil (fun _ _ _ => .nil) (sa_cons (se_var 0) (sa_cons (se_var 1) sa_nil)))))
      (ss_cons (ss_set 3 nd (se_call (T.k_text_of base) (hr.mono (by decide)) tk (by rfl) T.m_text_of T.p_text_of T.b_text_of .nil (fun _ _ _ => .nil) (sa_cons (se_call (T.k_law_program base) (hr.mono (by decide)) tk (by rfl) T.m_law_program T.p_law_program T.b_law_program .nil (fun _ _ _ => .nil) (sa_cons (se_call (T.k_law_drawn base) (hr.mono (by decide)) tk (by rfl) T.m_law_drawn T.p_law_drawn T.b_law_drawn .nil (fun _ _ _ => .nil) (sa_cons (se_var 2) (sa_cons se_int (sa_cons se_int sa_nil)))) sa_nil)) sa_nil)))
      (ss_one (ss_for (vs := [4]) (passes_of rfl) rfl (si_rg1 (by rfl) T.z_range se_int) (sg_name (vs := [4]) 4 nd) (ss_one (ss_if (st_ne hr (se_lc rfl nd (si_seq (se_call (T.k_law_bent base) (hr.mono (by decide)) tk (by rfl) T.m_law_bent T.p_law_bent T.b_law_bent .nil (fun _ _ _ => .nil) (sa_cons (se_var 2) (sa_cons (se_var 3) sa_nil)))) (blkOk_by (own := [("_law_some", 11)]) (by show blkC N_law (defScope s_law) _ _ = true; decide +kernel)) (fun _ _ _ _ _ _ => (sg_name (vs := _) 11 nd)) (fun _ _ _ _ _ _ => (spts_one (st_not (st_val (se_call (T.k_law_right base) (hr.mono (by decide)) L2.takes0 (by rfl) T.m_law_right T.p_law_right T.b_law_right .nil (fun _ _ _ => .nil) (sa_cons (se_var 11) sa_nil)))))) (fun _ _ _ _ _ _ => (se_var 11))) (se_lst sa_nil)) (ss_one (ss_ret se_bl)) ss_nil)))))))
      (ss_cons (ss_set 5 nd (se_lst (sa_cons se_str (sa_cons se_str (sa_cons se_str (sa_cons se_str (sa_cons se_str sa_nil)))))))
      (ss_cons (ss_set 5 nd (se_add (se_var 5) (se_lst (sa_cons se_str sa_nil))))
      (ss_cons (ss_set 5 nd (se_add (se_var 5) (se_lst (sa_cons se_str (sa_cons se_str (sa_cons se_str (sa_cons se_str sa_nil)))))))
      (ss_cons (ss_set 5 nd (se_add (se_var 5) (se_lst (sa_cons se_str (sa_cons se_str sa_nil)))))
      (ss_cons (ss_set 5 nd (se_add (se_var 5) (se_lst (sa_cons se_str (sa_cons se_str (sa_cons se_str (sa_cons se_str sa_nil)))))))
      (ss_cons (ss_set 5 nd (se_add (se_var 5) (se_lst (sa_cons se_str (sa_cons se_str sa_nil)))))
      (ss_cons (ss_set 5 nd (se_add (se_var 5) (se_lst (sa_cons se_str (sa_cons se_str (sa_cons se_str (sa_cons se_str (sa_cons se_str (sa_cons se_str sa_nil)))))))))
      (ss_cons (ss_set 5 nd (se_add (se_var 5) (se_lst (sa_cons se_str sa_nil))))
      (ss_cons (ss_set 6 nd (se_lst (sa_cons se_str (sa_cons se_str (sa_cons se_str (sa_cons se_str (sa_cons se_str (sa_cons se_str (sa_cons se_str (sa_cons se_str sa_nil))))))))))
      (ss_cons (ss_set 6 nd (se_add (se_var 6) (se_lst (sa_cons se_str (sa_cons se_str sa_nil)))))
      (ss_cons (ss_set 6 nd (se_add (se_var 6) (se_lst (sa_cons se_str (sa_cons se_str (sa_cons (se_add se_str (se_mulS se_str se_int)) sa_nil))))))
      (ss_cons (ss_set 6 nd (se_add (se_var 6) (se_lst (sa_cons se_str (sa_cons se_str sa_nil)))))
      (ss_cons (ss_set 6 nd (se_add (se_var 6) (se_lst (sa_cons (se_add se_str (se_mulS se_str se_int)) (sa_cons (se_add se_str (se_mulS se_str se_int)) sa_nil)))))
      (ss_cons (ss_for (vs := [3]) (passes_of rfl) rfl (si_seq (se_add (se_var 6) (se_lc rfl nd (si_seq (se_var 5)) (blkOk_by (own := [("_law_row", 10)]) (by show blkC N_law (defScope s_law) _ _ = true; decide +kernel)) (fun _ _ _ _ _ _ => (sg_name (vs := _) 10 nd)) (fun _ _ _ _ _ _ => spts_nil) (fun _ _ _ _ _ _ => (se_add se_str (se_var 10)))))) (sg_name (vs := [3]) 3 nd) (ss_one (ss_if (st_not (st_val (se_call (T.k_law_right base) (hr.mono (by decide)) tk (by rfl) T.m_law_right T.p_law_right T.b_law_right .nil (fun _ _ _ => .nil) (sa_cons (se_var 3) sa_nil)))) (ss_one (ss_ret se_bl)) ss_nil)))
      (ss_cons (ss_for (vs := [7]) (passes_of rfl) rfl (si_seq (se_lst (sa_cons se_non (sa_cons se_int (sa_cons (se_lst (sa_cons se_str sa_nil)) (sa_cons (se_tup (sa_cons se_str sa_nil)) (sa_cons se_dct0 (sa_cons se_bl (sa_cons se_int sa_nil))))))))) (sg_name (vs := [7]) 7 nd) (ss_cons (ss_set 8 nd se_non)
      (ss_cons (ss_try (p := (inB ["InvalidText"])) (i := 9) rfl rfl nd ⟨rfl, by decide, .inl T.mc_InvalidText⟩ tk T.em_InvalidText (fun _ _ _ tk2 po2 => (ss_one (ss_expr (se_call (T.k_read_program base) (hr.mono (by decide)) tk2 (by rfl) T.m_read_program T.p_read_program T.b_read_program .nil (fun _ _ _ => .nil) (sa_cons (se_var 7) sa_nil))))) (fun _ _ => (ss_one (ss_set 8 nd (se_var 9)))))
      (ss_one (ss_if (st_w (sw_or (st_isN (se_var 8) se_non) (sw_or1 (st_ne hr (se_callB (call_repr hr) ok_repr (by rfl) T.z_repr PyProof.Rows.Boot.«repr» (sa_cons (se_fld (se_var 8) noB_I T.fE_value) sa_nil)) (se_callB (call_repr hr) ok_repr (by rfl) T.z_repr PyProof.Rows.Boot.«repr» (sa_cons (se_var 7) sa_nil)))))) (ss_one (ss_ret se_bl)) ss_nil)))))
      (ss_one (ss_ret se_bl))))))))))))))))))
end
end K71

namespace K71
open PySem L2 PySem.Spec PyProof.Rows FW FL

theorem first_bad {P : Nat → Prop} : ∀ n : Nat, (∀ i, i < n → P i) ∨ ∃ k, k < n ∧ ¬ P k ∧ ∀ i, i < k → P i
  | 0 => .inl fun i h => absurd h (Nat.not_lt_zero i)
  | n + 1 => by
    rcases first_bad (P := P) n with h | ⟨k, hk, h1, h2⟩
    · by_cases hn : P n
      · refine .inl fun i hi => ?_
        by_cases e : i = n
        · subst e; exact hn
        · exact h i (by omega)
      · exact .inr ⟨n, Nat.lt_succ_self n, hn, h⟩
    · exact .inr ⟨k, Nat.lt_succ_of_lt hk, h1, h2⟩
/-- a move as it is read: any names -/
structure MvL (y : MV) (p o : Str) (l c : Int) : Prop where
  e : y = .tup [.str p, .int l, .int c, .str o]
  p : TxOk p
  o : TxOk o
  l0 : 0 ≤ l
  l8 : l ≤ 8
  c4 : -4 ≤ c
  c5 : c ≤ 4
theorem moveB_inv {pl : List Str} {y : MV} {p o : Str} {l c : Int} (h : MvL y p o l c) (hb : moveB pl y = true) : FL.Move.Ok pl ⟨p, l, c, o⟩ := by
  have e := h.e
  subst e
  have hb' : (inPl pl (.str p) && (inPl pl (.str o) && (win 0 8 (.int l) && (win (-4) 4 (.int c) && (decide (0 ≤ l + c) && decide (l + c ≤ 8)))))) = true := hb
  rw [inPl_str, inPl_str] at hb'
  simp only [Bool.and_eq_true, decide_eq_true_eq] at hb'
  obtain ⟨h1, h2, h3, h4, h5, h6⟩ := hb'
  exact ⟨h1, h2, h.l0, h.l8, h.c4, h.c5, h5, h6⟩
theorem mvs_of {pl : List Str} : ∀ ys : List MV, (∀ i, i < ys.length → MvAt pl ys i) → ∃ ms : List FL.Move, ys = ms.map mM ∧ ∀ m, m ∈ ms → m.Ok pl
  | [], _ => ⟨[], rfl, fun m h => (nomatch h)⟩
  | y :: ys, h => by
    obtain ⟨m, e, ok⟩ := h 0 (by simp)
    obtain ⟨ms, e2, ok2⟩ := mvs_of ys fun i hi => by
      obtain ⟨w, e3, ok3⟩ := h (i + 1) (by simp; omega)
      exact ⟨w, by simpa using e3, ok3⟩
    have e' : y = mM m := by simpa using e
    refine ⟨m :: ms, by rw [e2, e']; rfl, fun w hw => ?_⟩
    rcases List.mem_cons.mp hw with rfl | hw
    · exact ok
    · exact ok2 w hw
section
variable {st : Sto}
/-- Program(names, moves): made, or refused -/
theorem init_any {names : List Str} (hn : ∀ p, p ∈ names → TxOk p) {ys : List MV} (hy : ∀ y, y ∈ ys → ∃ p o l c, MvL y p o l c) (st : Sto) :
    (∃ Q, PG Q ∧ M_Program_init [.lst (names.map .str), .lst ys] st = .ok (progM Q, true, st)) ∨ ∃ e v lo, inB ["InvalidItem", "InvalidList"] e = true ∧ M_Program_init [.lst (names.map .str), .lst ys] st = .exc e [("value", v)] lo st := by
  by_cases q4 : noL4 (.lst (names.map .str)) = true
  · obtain ⟨lo, e⟩ := init_L1 (a := .lst (names.map .str)) (b := .lst ys) (st := st) rfl rfl q4
    exact .inr ⟨_, _, lo, rfl, e⟩
  have q4' : noL4 (.lst (names.map .str)) = false := by simpa using q4
  rcases first_bad (P := NmAt (names.map .str)) names.length with h | ⟨k, hk, h1, h2⟩
  · have hl : ¬ ¬ (1 ≤ (names.map MV.str).length ∧ (names.map MV.str).length ≤ 4) := of_decide_eq_false q4'
    rw [List.length_map] at hl
    have pl : PlG names := ⟨by omega, by omega, h⟩
    by_cases q10 : noL10 (.lst ys) = true
    · obtain ⟨lo, e⟩ := init_L2 (a := .lst (names.map .str)) (b := .lst ys) (st := st) pl (.inl rfl) rfl rfl q10
      exact .inr ⟨_, _, lo, rfl, e⟩
    have q10' : noL10 (.lst ys) = false := by simpa using q10
    have hl10 : ¬ 10 < ys.length := of_decide_eq_false q10'
    rcases first_bad (P := MvAt names ys) ys.length with h' | ⟨k, hk, h1, h2⟩
    · obtain ⟨ms, rfl, ok⟩ := mvs_of ys h'
      rw [List.length_map] at hl10
      exact .inl ⟨⟨names, ms⟩, ⟨pl, ok, by show ms.length ≤ 10; omega⟩, init_ok pl ok (by omega) (.inl rfl) (.inl rfl)⟩
    · obtain ⟨p, o, l, c, hm⟩ := hy ys[k] (List.getElem_mem hk)
      have ey : ys[k]? = some ys[k] := List.getElem?_eq_getElem hk
      obtain ⟨lo, e⟩ := init_I2 (a := .lst (names.map .str)) (b := .lst ys) (st := st) pl (.inl rfl) (.inl rfl) q10' h2 ey (by rw [hm.e]; rfl) (fun xs e y hy => by
        rw [hm.e] at e
        cases e
        simp only [List.mem_cons, List.not_mem_nil, or_false] at hy
        have a := hm.l0; have b := hm.l8; have c1 := hm.c4; have d := hm.c5
        rcases hy with rfl | rfl | rfl | rfl
        · exact hm.p.s
        · exact gd_int (Nat.lt_of_lt_of_le (by omega : l.natAbs < 10) (by decide +kernel))
        · exact gd_int (Nat.lt_of_lt_of_le (by omega : c.natAbs < 10) (by decide +kernel))
        · exact hm.o.s) (by
        rw [Bool.eq_false_iff]
        intro hb
        exact h1 ⟨⟨p, l, c, o⟩, by rw [ey, hm.e]; rfl, moveB_inv hm hb⟩)
      exact .inr ⟨_, _, lo, rfl, e⟩
  · have ex : (names.map MV.str)[k]? = some (.str names[k]) := by rw [List.getElem?_map, List.getElem?_eq_getElem hk]; rfl
    have tx := hn names[k] (List.getElem_mem hk)
    obtain ⟨lo, e⟩ := init_I1 (a := .lst (names.map .str)) (b := .lst ys) (st := st) (.inl rfl) q4' h2 ex rfl (fun z e => by
      cases e
      exact ⟨sz (Nat.le_trans tx.l (by decide)), tx.s⟩) (fun ⟨a, b⟩ => h1 ⟨names[k], ex, tx.s, by
        have a' : (decide (1 ≤ names[k].length) && decide (names[k].length ≤ 8) && names[k].cps.toList.all fun c => decide (c ∈ FL.LT)) = true := a
        simp only [Bool.and_eq_true, decide_eq_true_eq] at a'
        omega, a, b⟩)
    exact .inr ⟨_, _, lo, rfl, e⟩
end
def readS (x : Str) : Option (List Str × List MV) := match rwS x with
  | (w :: names) :: rs => if w = "places" then (if (rs.map moveS).any FW.isNon = true then none else some (names, rs.map moveS)) else none
  | _ => none
theorem lkD_mem {ps : List (MV × MV)} {k : KK} {m : MV} (h : lkD ps k = some m) : ∃ p, p ∈ ps ∧ p.2 = m := by
  obtain ⟨p, hp, rfl⟩ := Option.map_eq_some_iff.mp h
  exact ⟨p, List.mem_of_find?_eq_some hp, rfl⟩
/-- a row read: none, or a move -/
theorem moveS_cases {r : List Str} (h : ∀ p, p ∈ r → TxOk p) : moveS r = .non ∨ ∃ p o l c, MvL (moveS r) p o l c := by
  by_cases q5 : r.length = 5
  · match r, q5, h with
    | [a, p, l, c, o], _, h =>
      by_cases qa : a = "move"
      · cases ql : lkD LsM (kS l) with
        | none => exact .inl (by simp [moveS, qa, ql])
        | some x =>
          cases qc : lkD CgM (kS c) with
          | none => exact .inl (by simp [moveS, qa, ql, qc])
          | some y =>
            have e : moveS [a, p, l, c, o] = .tup [.str p, x, y, .str o] := by simp [moveS, qa, ql, qc]
            obtain ⟨w, hw, rfl⟩ := lkD_mem ql
            obtain ⟨z, hz, rfl⟩ := lkD_mem qc
            have hx : ∃ i, w.2 = .int i ∧ 0 ≤ i ∧ i ≤ 8 := by
              simp only [LsM, List.mem_cons, List.not_mem_nil, or_false] at hw
              rcases hw with rfl | rfl | rfl | rfl | rfl | rfl | rfl | rfl | rfl <;> exact ⟨_, rfl, by decide, by decide⟩
            have hy : ∃ i, z.2 = .int i ∧ -4 ≤ i ∧ i ≤ 4 := by
              simp only [CgM, List.mem_cons, List.not_mem_nil, or_false] at hz
              rcases hz with rfl | rfl | rfl | rfl | rfl | rfl | rfl | rfl | rfl <;> exact ⟨_, rfl, by decide, by decide⟩
            obtain ⟨i, ei, i0, i8⟩ := hx
            obtain ⟨j, ej, j4, j5⟩ := hy
            exact .inr ⟨p, o, i, j, by rw [e, ei, ej], h p (by simp), h o (by simp), i0, i8, j4, j5⟩
      · exact .inl (by simp [moveS, qa])
  · exact .inl (moveS_len q5)
theorem readS_ok {x : Str} (hx : TxOk x) {names : List Str} {ys : List MV} (h : readS x = some (names, ys)) : (∀ p, p ∈ names → TxOk p) ∧ (∀ y, y ∈ ys → ∃ p o l c, MvL y p o l c) ∧ ∃ rs : List (List Str), rwS x = (("places" : Str) :: names) :: rs ∧ ys = rs.map moveS := by
  have ok := rwS_ok hx
  unfold readS at h
  split at h
  case h_2 => cases h
  rename_i w nm rs e
  split at h
  case isFalse => cases h
  rename_i ew
  split at h
  case isTrue => cases h
  rename_i hn
  cases h
  subst ew
  refine ⟨fun p hp => (ok.1 _ (by rw [e]; exact List.mem_cons_self ..)).2.1 p (List.mem_cons_of_mem _ hp), fun y hy => ?_, rs, e, rfl⟩
  obtain ⟨r, hr, rfl⟩ := List.mem_map.mp hy
  rcases moveS_cases (r := r) (ok.1 _ (by rw [e]; exact List.mem_cons_of_mem _ hr)).2.1 with z | z
  · exact absurd (List.any_eq_true.mpr ⟨moveS r, hy, by rw [z]; rfl⟩) hn
  · exact z
end K71

namespace K71
open PySem L2 PySem.Spec PyProof.Rows FW FL

section
variable {st : Sto}
theorem gd_moveS {r : List Str} (h : ∀ p, p ∈ r → TxOk p) : gd 11 (moveS r) = true := by
  rcases moveS_cases h with e | ⟨p, o, l, c, m⟩
  · rw [e]; rfl
  · rw [m.e]
    have a := m.l0; have b := m.l8; have c1 := m.c4; have d := m.c5
    refine gd_tup fun x hx => ?_
    simp only [List.mem_cons, List.not_mem_nil, or_false] at hx
    rcases hx with rfl | rfl | rfl | rfl
    · exact m.p.s
    · exact gd_int (Nat.lt_of_lt_of_le (by omega : l.natAbs < 10) (by decide +kernel))
    · exact gd_int (Nat.lt_of_lt_of_le (by omega : c.natAbs < 10) (by decide +kernel))
    · exact m.o.s
theorem eqM_non {r : List Str} (h : ∀ p, p ∈ r → TxOk p) : eqM (moveS r) .non = FW.isNon (moveS r) := by
  rcases moveS_cases h with e | ⟨p, o, l, c, m⟩
  · rw [e]; rfl
  · rw [m.e]; simp [eqM, md, PyData.eqv, FW.isNon]
theorem any_non {rs : List (List Str)} (h : ∀ r, r ∈ rs → ∀ p, p ∈ r → TxOk p) : ((rs.map moveS).any fun z => eqM z .non) = (rs.map moveS).any FW.isNon := by
  induction rs with
  | nil => rfl
  | cons r rs ih =>
    rw [List.map_cons, List.any_cons, List.any_cons, ih fun x hx => h x (List.mem_cons_of_mem _ hx), eqM_non (h r (List.mem_cons_self ..))]
/-- moves of the rows behind the first -/
theorem moves_lc {F : FF} (hF : ∀ r : List Str, (∀ p, p ∈ r → TxOk p) → r.length ≤ 90001 → ∃ b, F [rowL r] st = .ok (moveS r, b, st)) {rs : List (List Str)} (hr : ∀ r, r ∈ rs → (∀ p, p ∈ r → TxOk p) ∧ r.length ≤ 90001) (hz : rs.length ≤ 90001) {j : Nat} {f : EF} {lo : Lo} {k : Kd} (hc : clrOk lo [j] = true) (hj : j < lo.length)
    (hf : f lo st = .ok (.lst (rs.map rowL), k, st)) (hk : isPk k = false) : mLc [j] (iSeq f) (gN j) tYesM (mCall 1 F [] (mCons (mVar j) mNil)) lo st = .ok (.lst (rs.map moveS), .fr, st) := by
  have e := lc_filter (vs := [j]) (fi := iSeq f) (gf := gN j) (tt := tYesM) (fe := mCall 1 F [] (mCons (mVar j) mNil)) (lo := lo) (st := st) (items := rs.map rowL) (ck := ckT) (p := fun _ => true) (f := moveF) hc (iSeq_lst hf hk) (fun _ => trivial) (sz (by rw [List.length_map]; omega)) (fun m hm => by
    obtain ⟨r, hr', rfl⟩ := List.mem_map.mp hm
    obtain ⟨b, eb⟩ := hF r (hr r hr').1 (hr r hr').2
    refine ⟨(wipeM lo [j]).set j (fz (rowL r)), rfl, rfl, fun _ => ⟨if b then .fr else .fz, ?_, by cases b <;> rfl⟩⟩
    have v : mVar j ((wipeM lo [j]).set j (fz (rowL r))) st = .ok (rowL r, .fz, st) := by
      rw [d_mVar, List.getElem?_set_self (by rw [wipeM_len]; exact hj)]
    rw [moveF_row]
    exact callV (ms := [rowL r]) (b := b) (st1 := st) (cons_ok v rfl nil_ok) rfl eb)
  rw [List.filter_eq_self.mpr (by simp), List.map_map] at e
  rw [show rs.map (moveF ∘ rowL) = rs.map moveS from List.map_congr_left fun r _ => moveF_row r] at e
  exact e
/-- what the first row tells -/
inductive Way (x : Str) : Prop
  | none (h : rwS x = []) (h2 : readS x = Option.none)
  | other (w : Str) (names : List Str) (rs : List (List Str)) (h : rwS x = (w :: names) :: rs) (hw : w ≠ "places") (h2 : readS x = Option.none)
  | bad (names : List Str) (rs : List (List Str)) (h : rwS x = (("places" : Str) :: names) :: rs) (hb : (rs.map moveS).any FW.isNon = true) (h2 : readS x = Option.none)
  | good (names : List Str) (rs : List (List Str)) (h : rwS x = (("places" : Str) :: names) :: rs) (hb : (rs.map moveS).any FW.isNon = false) (h2 : readS x = some (names, rs.map moveS))
theorem way {x : Str} (hx : TxOk x) : Way x := by
  have ok := rwS_ok hx
  cases e : rwS x with
  | nil => exact .none e (by unfold readS; rw [e])
  | cons r rs =>
    cases r with
    | nil => exact absurd rfl (ok.1 [] (by rw [e]; exact List.mem_cons_self ..)).1
    | cons w names =>
      by_cases hw : w = "places"
      · subst hw
        cases hb : (rs.map moveS).any FW.isNon with
        | true => exact .bad names rs e hb (by unfold readS; rw [e]; simp [hb])
        | false => exact .good names rs e hb (by unfold readS; rw [e]; simp [hb])
      · exact .other w names rs e hw (by unfold readS; rw [e]; simp [hw])
/-- the two tests and the moves, for any frame -/
structure Rd2 (x : Str) (lo : Lo) (st : Sto) (i : Nat) : Prop where
  v : mVar i lo st = .ok (.lst (rwM x), .fz, st)
theorem rows_nil {x : Str} (hx : TxOk x) {lo : Lo} {i : Nat} (r : Rd2 x lo st i) : mTv (mOp (gEqB false) (mVar i) (mLst mNil)) lo st = .ok ((rwM x).isEmpty, st) := by
  have q := eqNil (neg := false) (gd_rows (n := 9) hx) st
  exact tv_ok (opV (kb := .fr) (b := .lst []) (st2 := st) r.v (by simp [sz]) q)
theorem rows_head {x : Str} (hx : TxOk x) {lo : Lo} {i : Nat} (r : Rd2 x lo st i) {w : Str} {names : List Str} {rs : List (List Str)} (h : rwS x = (w :: names) :: rs) :
    mOp gIx (mVar i) (mC (.int 0)) lo st = .ok (rowL (w :: names), .fz, st) ∧ mTv (mOp (gEqB true) (mOp gIx (mOp gIx (mVar i) (mC (.int 0))) (mC (.int 0))) (mC (.str "places"))) lo st = .ok (!(w == ("places" : Str)), st) := by
  have er : rwM x = rowL (w :: names) :: rs.map rowL := by unfold rwM; rw [h]; rfl
  have i0 : mOp gIx (mVar i) (mC (.int 0)) lo st = .ok (rowL (w :: names), .fz, st) := by
    refine opV (kb := .fz) (b := .int 0) (st2 := st) r.v rfl ?_
    rw [er, vw_lst, vw_int, d_gIxL, atI_cons0]; rfl
  have tw := ((rwS_ok hx).1 (w :: names) (by rw [h]; exact List.mem_cons_self ..)).2.1 w (List.mem_cons_self ..)
  refine ⟨i0, tv_ok (opV (kb := .fz) (b := .str "places") (a := .str w) (st2 := st) (opV (kb := .fz) (b := .int 0) (st2 := st) i0 rfl ?_) rfl (eq_ok (neg := true) tw.s (by decide +kernel)))⟩
  show gIx st (.lst (.str w :: names.map .str)) (.int 0) = _
  rw [d_gIxL, atI_cons0]; rfl
theorem rows_tail {x : Str} {lo : Lo} {i : Nat} (r : Rd2 x lo st i) {w : Str} {names : List Str} {rs : List (List Str)} (h : rwS x = (w :: names) :: rs) : mSl (mVar i) (oSome (mC (.int 1))) oNone lo st = .ok (.lst (rs.map rowL), .fr, st) := by
  have er : rwM x = rowL (w :: names) :: rs.map rowL := by unfold rwM; rw [h]; rfl
  have ct : cutM (rwM x) (some 1) none = rs.map rowL := by
    have := cut_drop (rwM x) (k := 1) (by rw [er]; simp)
    exact this.trans (by rw [er]; rfl)
  unfold mSl oSome oNone
  rw [r.v]
  simp [gSl, ct]
theorem head_tail {lo : Lo} {f : EF} {w : Str} {names : List Str} {k : Kd} (h : f lo st = .ok (rowL (w :: names), k, st)) : mSl f (oSome (mC (.int 1))) oNone lo st = .ok (.lst (names.map .str), .fr, st) := by
  have ct2 : cutM (MV.str w :: names.map MV.str) (some 1) none = names.map MV.str := by
    have := cut_drop (MV.str w :: names.map MV.str) (k := 1) (by simp)
    exact this.trans rfl
  unfold mSl oSome oNone
  rw [h]
  simp [gSl, rowL, ct2]
theorem none_in {lo : Lo} {i : Nat} {rs : List (List Str)} (hr : ∀ r, r ∈ rs → ∀ p, p ∈ r → TxOk p) (v : mVar i lo st = .ok (.lst (rs.map moveS), .fz, st)) : mTv (mOp (gInA false) (mC .non) (mVar i)) lo st = .ok ((rs.map moveS).any FW.isNon, st) := by
  have gm : gd dpt (.lst (rs.map moveS)) = true := gd_lst fun y hy => by
    obtain ⟨r, hr', rfl⟩ := List.mem_map.mp hy
    exact gd_moveS (hr r hr')
  have q := in_gd (neg := false) (st := st) (a := .non) rfl gm
  rw [any_non hr] at q
  exact tv_ok (opV (ka := .fz) (a := .non) (st1 := st) rfl v q)
theorem progIn_none {x : Str} (hx : TxOk x) (h : readS x = none) (st : Sto) : M_program_in [.str x] st = .ok (.non, false, st) := by
  have r1 := rows_ok hx none none none st
  have s1 : sSet 1 (mLc [3] (iSeq (mBm "str" gSplit (mVar 0) (mCons (mC (.str "\n")) mNil))) (gN 3) (mTv (mOp (gEqB true) (mCall 1 M_parts_of [] (mCons (mVar 3) mNil)) (mLst mNil))) (mCall 1 M_parts_of [] (mCons (mVar 3) mNil))) (LP x none none) st = .ok (.nx, LP x (fz (.lst (rwM x))) none, st) := set_ok r1 rfl
  have rd : Rd2 x (LP x (fz (.lst (rwM x))) none) st 1 := ⟨rfl⟩
  have c1 := rows_nil hx rd
  have ok := rwS_ok hx
  unfold M_program_in g_program_in
  cases way hx with
  | none e _ =>
    rw [show (rwM x).isEmpty = true by unfold rwM; rw [e]; rfl] at c1
    exact runF_own (k := .fz) (lo0 := LP x none none) rfl (seq_ok s1 (seq_rt (if_tt (or_tt c1) rfl))) rfl
  | other w names rs e hw _ =>
    have c2 := (rows_head hx rd e).2
    rw [show (rwM x).isEmpty = false by unfold rwM; rw [e]; rfl] at c1
    rw [show (!(w == ("places" : Str))) = true by simp [hw]] at c2
    exact runF_own (k := .fz) (lo0 := LP x none none) rfl (seq_ok s1 (seq_rt (if_tt (or_ff c1 c2) rfl))) rfl
  | bad names rs e hb _ =>
    have c2 := (rows_head hx rd e).2
    rw [show (rwM x).isEmpty = false by unfold rwM; rw [e]; rfl] at c1
    rw [show (!(("places" : Str) == ("places" : Str))) = false by decide +kernel] at c2
    have hrs : ∀ r, r ∈ rs → (∀ p, p ∈ r → TxOk p) ∧ r.length ≤ 90001 := fun r hr => ⟨(ok.1 r (by rw [e]; exact List.mem_cons_of_mem _ hr)).2.1, (ok.1 r (by rw [e]; exact List.mem_cons_of_mem _ hr)).2.2⟩
    have hz : rs.length ≤ 90001 := by have := ok.2; rw [e] at this; simp at this; omega
    have m1 := moves_lc (F := M_move_in) (fun r h1 h2 => moveIn_ok h1 h2 st) hrs hz (j := 4) (lo := LP x (fz (.lst (rwM x))) none) rfl (by simp) (rows_tail rd e) rfl
    have c3 := none_in (st := st) (lo := LP x (fz (.lst (rwM x))) (fz (.lst (rs.map moveS)))) (i := 2) (fun r hr => (hrs r hr).1) rfl
    rw [hb] at c3
    exact runF_own (k := .fz) (lo0 := LP x none none) rfl (seq_ok s1 (seq_ok (if_ff (or_ff c1 c2) rfl) (seq_ok (set_ok m1 rfl) (seq_rt (if_tt c3 rfl))))) rfl
  | good names rs e hb h2 => rw [h2] at h; cases h
theorem progIn_some {x : Str} (hx : TxOk x) {names : List Str} {ys : List MV} (h : readS x = some (names, ys)) (st : Sto) :
    (∀ Q, M_Program_init [.lst (names.map .str), .lst ys] st = .ok (progM Q, true, st) → M_program_in [.str x] st = .ok (progM Q, true, st)) ∧
    (∀ e v lo, inB ["InvalidItem", "InvalidList"] e = true → M_Program_init [.lst (names.map .str), .lst ys] st = .exc e [("value", v)] lo st → M_program_in [.str x] st = .ok (.non, false, st)) := by
  have r1 := rows_ok hx none none none st
  have s1 : sSet 1 (mLc [3] (iSeq (mBm "str" gSplit (mVar 0) (mCons (mC (.str "\n")) mNil))) (gN 3) (mTv (mOp (gEqB true) (mCall 1 M_parts_of [] (mCons (mVar 3) mNil)) (mLst mNil))) (mCall 1 M_parts_of [] (mCons (mVar 3) mNil))) (LP x none none) st = .ok (.nx, LP x (fz (.lst (rwM x))) none, st) := set_ok r1 rfl
  have rd : Rd2 x (LP x (fz (.lst (rwM x))) none) st 1 := ⟨rfl⟩
  have c1 := rows_nil hx rd
  have ok := rwS_ok hx
  cases way hx with
  | none e h2 => rw [h2] at h; cases h
  | other w names rs e hw h2 => rw [h2] at h; cases h
  | bad names rs e hb h2 => rw [h2] at h; cases h
  | good nm rs e hb h2 =>
    rw [h2] at h
    cases h
    have c2 := (rows_head hx rd e).2
    rw [show (rwM x).isEmpty = false by unfold rwM; rw [e]; rfl] at c1
    rw [show (!(("places" : Str) == ("places" : Str))) = false by decide +kernel] at c2
    have hrs : ∀ r, r ∈ rs → (∀ p, p ∈ r → TxOk p) ∧ r.length ≤ 90001 := fun r hr => ⟨(ok.1 r (by rw [e]; exact List.mem_cons_of_mem _ hr)).2.1, (ok.1 r (by rw [e]; exact List.mem_cons_of_mem _ hr)).2.2⟩
    have hz : rs.length ≤ 90001 := by have := ok.2; rw [e] at this; simp at this; omega
    have m1 := moves_lc (F := M_move_in) (fun r h1 h2 => moveIn_ok h1 h2 st) hrs hz (j := 4) (lo := LP x (fz (.lst (rwM x))) none) rfl (by simp) (rows_tail rd e) rfl
    have c3 := none_in (st := st) (lo := LP x (fz (.lst (rwM x))) (fz (.lst (rs.map moveS)))) (i := 2) (fun r hr => (hrs r hr).1) rfl
    rw [hb] at c3
    have rd2 : Rd2 x (LP x (fz (.lst (rwM x))) (fz (.lst (rs.map moveS)))) st 1 := ⟨rfl⟩
    have hd := head_tail (rows_head hx rd2 e).1
    have ar : mCons (mSl (mOp gIx (mVar 1) (mC (.int 0))) (oSome (mC (.int 1))) oNone) (mCons (mVar 2) mNil) (LP x (fz (.lst (rwM x))) (fz (.lst (rs.map moveS)))) st = .ok (([.lst (names.map .str), .lst (rs.map moveS)] : List MV).map (·, false), st) := cons_ok hd rfl (cons_ok (k := .fz) rfl rfl nil_ok)
    constructor
    · intro Q hQ
      unfold M_program_in g_program_in
      exact runF_own (k := .fr) (lo0 := LP x none none) rfl (seq_ok s1 (seq_ok (if_ff (or_ff c1 c2) rfl) (seq_ok (set_ok m1 rfl) (seq_ok (if_ff c3 rfl) (try2_ok (ret_ok (callV (b := true) ar rfl hQ))))))) rfl
    · intro er v lo hin hE
      have ex : sRet (mCall 2 M_Program_init [] (mCons (mSl (mOp gIx (mVar 1) (mC (.int 0))) (oSome (mC (.int 1))) oNone) (mCons (mVar 2) mNil))) (LP x (fz (.lst (rwM x))) (fz (.lst (rs.map moveS)))) st = .exc er [("value", v)] (LP x (fz (.lst (rwM x))) (fz (.lst (rs.map moveS)))) st := by
        unfold sRet
        rw [callX (n := 2) ar rfl hE]; rfl
      unfold M_program_in g_program_in
      exact runF_own (k := .fz) (lo0 := LP x none none) rfl (seq_ok s1 (seq_ok (if_ff (or_ff c1 c2) rfl) (seq_ok (set_ok m1 rfl) (seq_ok (if_ff c3 rfl) (try2_exc ex hin rfl))))) rfl
end
end K71

namespace K71
open PySem L2 PySem.Spec PyProof.Rows FW FL

def LsS : List Str := ["0", "1", "2", "3", "4", "5", "6", "7", "8"]
def CgS : List Str := ["-4", "-3", "-2", "-1", "+0", "+1", "+2", "+3", "+4"]
section
variable {st : Sto}
theorem anyS (xs : List Str) (s : Str) : ((xs.map MV.str).any fun z => eqM z (.str s)) = decide (s ∈ xs) := inPl_str (pl := xs)
theorem LsS_gd : gd dpt (.lst (LsS.map .str)) = true := by decide +kernel
theorem CgS_gd : gd dpt (.lst (CgS.map .str)) = true := by decide +kernel
theorem ixL (i : Nat) (hi : i < 9) (st : Sto) : ∃ s, LsS[i]? = some s ∧ lkD LsM (kS s) = some (.int (i : Nat)) ∧ gIndex st [.lst (LsS.map .str), .str s] = some (.int (i : Nat), false) := by
  have h : i = 0 ∨ i = 1 ∨ i = 2 ∨ i = 3 ∨ i = 4 ∨ i = 5 ∨ i = 6 ∨ i = 7 ∨ i = 8 := by omega
  rcases h with rfl | rfl | rfl | rfl | rfl | rfl | rfl | rfl | rfl
  all_goals
    refine ⟨_, rfl, rfl, ?_⟩
    rw [index_gd LsS_gd (by decide +kernel)]
    rfl
theorem ixC (i : Nat) (hi : i < 9) (st : Sto) : ∃ s, CgS[i]? = some s ∧ lkD CgM (kS s) = some (.int ((i : Nat) - 4)) ∧ gIndex st [.lst (CgS.map .str), .str s] = some (.int (i : Nat), false) := by
  have h : i = 0 ∨ i = 1 ∨ i = 2 ∨ i = 3 ∨ i = 4 ∨ i = 5 ∨ i = 6 ∨ i = 7 ∨ i = 8 := by omega
  rcases h with rfl | rfl | rfl | rfl | rfl | rfl | rfl | rfl | rfl
  all_goals
    refine ⟨_, rfl, rfl, ?_⟩
    rw [index_gd CgS_gd (by decide +kernel)]
    rfl
theorem lk_no {ps : List (MV × MV)} {xs : List Str} (h : ps.map (·.1) = xs.map MV.str) {s : Str} (hs : s ∉ xs) : lkD ps (kS s) = none := by
  unfold lkD
  rw [List.find?_eq_none.mpr ?_]
  · rfl
  intro p hp
  simp only [decide_eq_true_eq]
  intro e
  have : p.1 ∈ xs.map MV.str := by rw [← h]; exact List.mem_map_of_mem hp
  obtain ⟨w, hw, e2⟩ := List.mem_map.mp this
  rw [← e2] at e
  have : w = s := by
    have e' : (some (.inl (.inr w)) : Option KK) = some (.inl (.inr s)) := e
    injection e' with e'
    injection e' with e'
    injection e' with e'
  subst this
  exact hs hw
theorem least_way (l : Str) (st : Sto) : (l ∈ LsS ∧ ∃ i : Int, lkD LsM (kS l) = some (.int i) ∧ gIndex st [.lst (LsS.map .str), .str l] = some (.int i, false)) ∨ (l ∉ LsS ∧ lkD LsM (kS l) = none) := by
  by_cases h : l ∈ LsS
  · obtain ⟨i, hi⟩ := List.mem_iff_getElem?.mp h
    have hi9 : i < 9 := (List.getElem?_eq_some_iff.mp hi).1
    obtain ⟨s, e1, e2, e3⟩ := ixL i hi9 st
    rw [hi] at e1
    cases e1
    exact .inl ⟨h, _, e2, e3⟩
  · exact .inr ⟨h, lk_no rfl h⟩
theorem change_way (c : Str) (st : Sto) : (c ∈ CgS ∧ ∃ i : Int, lkD CgM (kS c) = some (.int (i - 4)) ∧ gIndex st [.lst (CgS.map .str), .str c] = some (.int i, false)) ∨ (c ∉ CgS ∧ lkD CgM (kS c) = none) := by
  by_cases h : c ∈ CgS
  · obtain ⟨i, hi⟩ := List.mem_iff_getElem?.mp h
    have hi9 : i < 9 := (List.getElem?_eq_some_iff.mp hi).1
    obtain ⟨s, e1, e2, e3⟩ := ixC i hi9 st
    rw [hi] at e1
    cases e1
    exact .inl ⟨h, _, e2, e3⟩
  · exact .inr ⟨h, lk_no rfl h⟩
abbrev LMv (r t1 t2 : Option (MV × Bool)) : Lo := [r, t1, t2]
theorem lmoveIn_ok {r : List Str} (h : ∀ p, p ∈ r → TxOk p) (hl : r.length ≤ 90001) (st : Sto) : ∃ b, M_law_move_in [.lst (r.map .str)] st = .ok (moveS r, b, st) := by
  have c1 : mTv (mOp (gEqB true) (mCallB gLen (mCons (mVar 0) mNil)) (mC (.int 5))) (LMv (fz (.lst (r.map .str))) none none) st = .ok (!((r.length : Int) == 5), st) := by simp [eqI]
  unfold M_law_move_in g_law_move_in
  by_cases q5 : r.length = 5
  · match r, q5, h, c1 with
    | [a, p, l, c, o], _, h, c1 =>
      have y0 : atI [MV.str a, .str p, .str l, .str c, .str o] 0 = some (.str a) := rfl
      have y1 : atI [MV.str a, .str p, .str l, .str c, .str o] 1 = some (.str p) := rfl
      have y2 : atI [MV.str a, .str p, .str l, .str c, .str o] 2 = some (.str l) := rfl
      have y3 : atI [MV.str a, .str p, .str l, .str c, .str o] 3 = some (.str c) := rfl
      have y4 : atI [MV.str a, .str p, .str l, .str c, .str o] 4 = some (.str o) := rfl
      have c1' : mTv (mOp (gEqB true) (mCallB gLen (mCons (mVar 0) mNil)) (mC (.int 5))) (LMv (fz (.lst [.str a, .str p, .str l, .str c, .str o])) none none) st = .ok (false, st) := c1
      have c2 : mTv (mOp (gEqB true) (mOp gIx (mVar 0) (mC (.int 0))) (mC (.str "move"))) (LMv (fz (.lst [.str a, .str p, .str l, .str c, .str o])) none none) st = .ok (!(a == ("move" : Str)), st) := by
        have := eq_ok (neg := true) (st := st) (h a (by simp)).s (show PyData.strOk ("move" : Str) = true by decide +kernel)
        simp [y0, this]
      by_cases qa : a = "move"
      · subst qa
        rw [show (!(("move" : Str) == ("move" : Str))) = false by decide +kernel] at c2
        have s1 : sSet 1 (mLst (mCons (mC (.str "0")) (mCons (mC (.str "1")) (mCons (mC (.str "2")) (mCons (mC (.str "3")) (mCons (mC (.str "4")) (mCons (mC (.str "5")) (mCons (mC (.str "6")) (mCons (mC (.str "7")) (mCons (mC (.str "8")) mNil)))))))))) (LMv (fz (.lst [.str "move", .str p, .str l, .str c, .str o])) none none) st = .ok (.nx, LMv (fz (.lst [.str "move", .str p, .str l, .str c, .str o])) (fz (.lst (LsS.map .str))) none, st) := by
          simp [sz, LsS]
        have s2 : sSet 2 (mLst (mCons (mC (.str "-4")) (mCons (mC (.str "-3")) (mCons (mC (.str "-2")) (mCons (mC (.str "-1")) (mCons (mC (.str "+0")) (mCons (mC (.str "+1")) (mCons (mC (.str "+2")) (mCons (mC (.str "+3")) (mCons (mC (.str "+4")) mNil)))))))))) (LMv (fz (.lst [.str "move", .str p, .str l, .str c, .str o])) (fz (.lst (LsS.map .str))) none) st = .ok (.nx, LMv (fz (.lst [.str "move", .str p, .str l, .str c, .str o])) (fz (.lst (LsS.map .str))) (fz (.lst (CgS.map .str))), st) := by
          simp [sz, CgS]
        have i1 : mOp gIx (mVar 0) (mC (.int 1)) (LMv (fz (.lst [.str "move", .str p, .str l, .str c, .str o])) (fz (.lst (LsS.map .str))) (fz (.lst (CgS.map .str)))) st = .ok (.str p, .fz, st) := by simp [y1]
        have i2 : mOp gIx (mVar 0) (mC (.int 2)) (LMv (fz (.lst [.str "move", .str p, .str l, .str c, .str o])) (fz (.lst (LsS.map .str))) (fz (.lst (CgS.map .str)))) st = .ok (.str l, .fz, st) := by simp [y2]
        have i3 : mOp gIx (mVar 0) (mC (.int 3)) (LMv (fz (.lst [.str "move", .str p, .str l, .str c, .str o])) (fz (.lst (LsS.map .str))) (fz (.lst (CgS.map .str)))) st = .ok (.str c, .fz, st) := by simp [y3]
        have i4 : mOp gIx (mVar 0) (mC (.int 4)) (LMv (fz (.lst [.str "move", .str p, .str l, .str c, .str o])) (fz (.lst (LsS.map .str))) (fz (.lst (CgS.map .str)))) st = .ok (.str o, .fz, st) := by simp [y4]
        have a3 : mTv (mOp (gInA true) (mOp gIx (mVar 0) (mC (.int 2))) (mVar 1)) (LMv (fz (.lst [.str "move", .str p, .str l, .str c, .str o])) (fz (.lst (LsS.map .str))) (fz (.lst (CgS.map .str)))) st = .ok (!decide (l ∈ LsS), st) := by
          have q := in_gd (neg := true) (st := st) (a := .str l) (bs := LsS.map .str) (h l (by simp)).s LsS_gd
          rw [anyS] at q
          exact tv_ok (opV i2 (b := .lst (LsS.map .str)) (kb := .fz) (st2 := st) rfl q)
        have a4 : mTv (mOp (gInA true) (mOp gIx (mVar 0) (mC (.int 3))) (mVar 2)) (LMv (fz (.lst [.str "move", .str p, .str l, .str c, .str o])) (fz (.lst (LsS.map .str))) (fz (.lst (CgS.map .str)))) st = .ok (!decide (c ∈ CgS), st) := by
          have q := in_gd (neg := true) (st := st) (a := .str c) (bs := CgS.map .str) (h c (by simp)).s CgS_gd
          rw [anyS] at q
          exact tv_ok (opV i3 (b := .lst (CgS.map .str)) (kb := .fz) (st2 := st) rfl q)
        rcases least_way l st with ⟨hl1, i, e1, x1⟩ | ⟨hl1, e1⟩
        · rw [decide_eq_true hl1] at a3
          rcases change_way c st with ⟨hc1, j, e2, x2⟩ | ⟨hc1, e2⟩
          · rw [decide_eq_true hc1] at a4
            refine ⟨isFr .fr, ?_⟩
            rw [show moveS ["move", p, l, c, o] = .tup [.str p, .int i, .int (j - 4), .str o] by simp [moveS, e1, e2]]
            have g1 : mBm "list" gIndex (mVar 1) (mCons (mOp gIx (mVar 0) (mC (.int 2))) mNil) (LMv (fz (.lst [.str "move", .str p, .str l, .str c, .str o])) (fz (.lst (LsS.map .str))) (fz (.lst (CgS.map .str)))) st = .ok (.int i, .fz, st) := by
              unfold mBm
              simp [y2, tyOk, x1]
            have g2 : mBm "list" gIndex (mVar 2) (mCons (mOp gIx (mVar 0) (mC (.int 3))) mNil) (LMv (fz (.lst [.str "move", .str p, .str l, .str c, .str o])) (fz (.lst (LsS.map .str))) (fz (.lst (CgS.map .str)))) st = .ok (.int j, .fz, st) := by
              unfold mBm
              simp [y3, tyOk, x2]
            have g3 : mOp gSub (mBm "list" gIndex (mVar 2) (mCons (mOp gIx (mVar 0) (mC (.int 3))) mNil)) (mC (.int 4)) (LMv (fz (.lst [.str "move", .str p, .str l, .str c, .str o])) (fz (.lst (LsS.map .str))) (fz (.lst (CgS.map .str)))) st = .ok (.int (j - 4), .fz, st) := opV g2 (kb := .fz) (b := .int 4) (st2 := st) rfl rfl
            have ar := cons_ok (ms := [.int i, .int (j - 4), .str o]) i1 rfl (cons_ok g1 rfl (cons_ok g3 rfl (cons_ok i4 rfl nil_ok)))
            refine runF_own (lo0 := LMv (fz (.lst [.str "move", .str p, .str l, .str c, .str o])) none none) rfl (seq_ok (if_ff (or_ff c1' c2) rfl) (seq_ok s1 (seq_ok s2 (seq_ok (if_ff (or_ff a3 a4) rfl) (ret_ok (k := .fr) ?_))))) rfl
            rw [d_mTup, ar]
            simp [sz]
          · rw [decide_eq_false hc1] at a4
            refine ⟨isFr .fz, ?_⟩
            rw [show moveS ["move", p, l, c, o] = .non by simp [moveS, e1, e2]]
            exact runF_own (lo0 := LMv (fz (.lst [.str "move", .str p, .str l, .str c, .str o])) none none) rfl (seq_ok (if_ff (or_ff c1' c2) rfl) (seq_ok s1 (seq_ok s2 (seq_rt (if_tt (or_ff a3 a4) rfl))))) rfl
        · rw [decide_eq_false hl1] at a3
          refine ⟨isFr .fz, ?_⟩
          rw [show moveS ["move", p, l, c, o] = .non by simp [moveS, e1]]
          exact runF_own (lo0 := LMv (fz (.lst [.str "move", .str p, .str l, .str c, .str o])) none none) rfl (seq_ok (if_ff (or_ff c1' c2) rfl) (seq_ok s1 (seq_ok s2 (seq_rt (if_tt (or_tt a3) rfl))))) rfl
      · have qa' : (!(a == ("move" : Str))) = true := by simp [qa]
        rw [qa'] at c2
        refine ⟨isFr .fz, ?_⟩
        rw [show moveS [a, p, l, c, o] = .non by simp [moveS, qa]]
        exact runF_own (lo0 := LMv (fz (.lst [.str a, .str p, .str l, .str c, .str o])) none none) rfl (seq_rt (if_tt (or_ff c1' c2) rfl)) rfl
  · refine ⟨isFr .fz, ?_⟩
    rw [moveS_len q5]
    have : (!((r.length : Int) == 5)) = true := by
      have : ¬ ((r.length : Int) = 5) := by omega
      simp [this]
    rw [this] at c1
    exact runF_own (lo0 := LMv (fz (.lst (r.map .str))) none none) rfl (seq_rt (if_tt (or_tt c1) rfl)) rfl
abbrev LD (x : Str) (t1 t2 t3 : Option (MV × Bool)) : Lo := [fz (.str x), t1, t2, t3, none, none, none]
def rawM (x : Str) : List MV := ((Txt.split x "\n").map ptS).map rowL
theorem raw_ok {x : Str} (hx : TxOk x) (st : Sto) : mLc [4] (iSeq (mBm "str" gSplit (mVar 0) (mCons (mC (.str "\n")) mNil))) (gN 4) tYesM (mLc [6] (iSeq (mBm "str" gSplit (mVar 4) (mCons (mC (.str " ")) mNil))) (gN 6) (mTv (mOp (gEqB true) (mVar 6) (mC (.str "")))) (mVar 6)) (LD x none none none) st = .ok (.lst (rawM x), .fr, st) := by
  have hl := hx.l
  have sp : mBm "str" gSplit (mVar 0) (mCons (mC (.str "\n")) mNil) (LD x none none none) st = .ok (.lst ((Txt.split x "\n").map .str), .fr, st) := by
    have g : gSplit st [.str x, .str "\n"] = some (.lst ((Txt.split x "\n").map .str), true) := by
      show (if (("\n" : Str).length == 0) = false ∧ x.length + 2 ≤ sizeLine then some (MV.lst ((Txt.split x "\n").map .str), true) else none) = _
      rw [if_pos ⟨by decide +kernel, sz (by omega)⟩]
    unfold mBm
    simp [tyOk, g]
  have ss := split_size (splNl x)
  have e := lc_filter (vs := [4]) (fi := iSeq (mBm "str" gSplit (mVar 0) (mCons (mC (.str "\n")) mNil))) (gf := gN 4) (tt := tYesM) (fe := mLc [6] (iSeq (mBm "str" gSplit (mVar 4) (mCons (mC (.str " ")) mNil))) (gN 6) (mTv (mOp (gEqB true) (mVar 6) (mC (.str "")))) (mVar 6))
    (lo := LD x none none none) (st := st) (items := (Txt.split x "\n").map .str) (ck := ckT) (p := fun _ => true) (f := rowF) rfl (iSeq_lst sp rfl) (fun _ => trivial) (sz (by rw [List.length_map]; omega)) (fun m hm => by
      obtain ⟨s, hs, rfl⟩ := List.mem_map.mp hm
      have ok := split_part (splNl x) hx s hs
      have sl := ok.l
      refine ⟨[fz (.str x), none, none, none, fz (.str s), none, none], rfl, rfl, fun _ => ⟨.fr, ?_, rfl⟩⟩
      have sp2 : mBm "str" gSplit (mVar 4) (mCons (mC (.str " ")) mNil) [fz (.str x), none, none, none, fz (.str s), none, none] st = .ok (.lst ((Txt.split s " ").map .str), .fr, st) := by
        have g : gSplit st [.str s, .str " "] = some (.lst ((Txt.split s " ").map .str), true) := by
          show (if ((" " : Str).length == 0) = false ∧ s.length + 2 ≤ sizeLine then some (MV.lst ((Txt.split s " ").map .str), true) else none) = _
          rw [if_pos ⟨by decide +kernel, sz (by omega)⟩]
        unfold mBm
        simp [tyOk, g]
      have ss2 := split_size (splSp s)
      have e2 := lc_filter (vs := [6]) (fi := iSeq (mBm "str" gSplit (mVar 4) (mCons (mC (.str " ")) mNil))) (gf := gN 6) (tt := mTv (mOp (gEqB true) (mVar 6) (mC (.str "")))) (fe := mVar 6)
        (lo := [fz (.str x), none, none, none, fz (.str s), none, none]) (st := st) (items := (Txt.split s " ").map .str) (ck := ckT) (p := neS) (f := id) rfl (iSeq_lst sp2 rfl) (fun _ => trivial) (sz (by rw [List.length_map]; omega)) (fun m hm => by
          obtain ⟨w, hw, rfl⟩ := List.mem_map.mp hm
          have q := eq_ok (neg := true) (st := st) (split_part (splSp s) ok w hw).s (show PyData.strOk ("" : Str) = true by decide +kernel)
          exact ⟨[fz (.str x), none, none, none, fz (.str s), none, fz (.str w)], rfl, by simp [q, neS], fun _ => ⟨.fz, rfl, rfl⟩⟩)
      rw [List.map_id, filt_map (f := MV.str) (p := neS) (q := fun s => !(s == ("" : Str))) _ fun s _ => rfl] at e2
      exact e2)
  rw [List.filter_eq_self.mpr (by simp), List.map_map] at e
  have e3 : (Txt.split x "\n").map (rowF ∘ MV.str) = rawM x := by unfold rawM; rw [List.map_map]; rfl
  rw [e3] at e
  exact e
def neR : MV → Bool
  | .lst xs => !xs.isEmpty
  | _ => false
theorem drows_ok {x : Str} (hx : TxOk x) (st : Sto) : mLc [5] (iSeq (mVar 1)) (gN 5) (mTv (mOp (gEqB true) (mVar 5) (mLst mNil))) (mVar 5) (LD x (fz (.lst (rawM x))) none none) st = .ok (.lst (rwM x), .fr, st) := by
  have hl := hx.l
  have ss := split_size (splNl x)
  have e := lc_filter (vs := [5]) (fi := iSeq (mVar 1)) (gf := gN 5) (tt := mTv (mOp (gEqB true) (mVar 5) (mLst mNil))) (fe := mVar 5) (lo := LD x (fz (.lst (rawM x))) none none) (st := st) (items := rawM x) (ck := ckT) (p := neR) (f := id) rfl (iSeq_lst (k := .fz) rfl rfl) (fun _ => trivial) (sz (by unfold rawM; rw [List.length_map, List.length_map]; omega)) (fun m hm => by
    unfold rawM at hm
    obtain ⟨r, hr, rfl⟩ := List.mem_map.mp hm
    obtain ⟨s, hs, rfl⟩ := List.mem_map.mp hr
    have ok := split_part (splNl x) hx s hs
    have q := eqNil (neg := true) (xs := (ptS s).map .str) (gd_row (n := 10) (ptS_ok ok).1) st
    exact ⟨[fz (.str x), fz (.lst (rawM x)), none, none, none, fz (rowL (ptS s)), none], rfl, tv_ok (k := .fz) (opV (ka := .fz) (kb := .fr) (a := rowL (ptS s)) (b := .lst []) (st1 := st) (st2 := st) rfl (by simp [sz]) q), fun _ => ⟨.fz, rfl, rfl⟩⟩)
  rw [List.map_id] at e
  have e2 : (rawM x).filter neR = rwM x := by
    unfold rawM rwM rwS
    exact filt_map (f := rowL) (p := neR) (q := fun r : List Str => !r.isEmpty) _ fun r _ => by
      show (!(r.map MV.str).isEmpty) = _
      cases r <;> rfl
  rw [e2] at e
  exact e
theorem due_head {x : Str} (hx : TxOk x) {g : SF} {r : Res (Fl × Lo × Sto)} (h : g (LD x (fz (.lst (rwM x))) none none) st = r) : sSeq (sSet 1 (mLc [4] (iSeq (mBm "str" gSplit (mVar 0) (mCons (mC (.str "\n")) mNil))) (gN 4) tYesM (mLc [6] (iSeq (mBm "str" gSplit (mVar 4) (mCons (mC (.str " ")) mNil))) (gN 6) (mTv (mOp (gEqB true) (mVar 6) (mC (.str "")))) (mVar 6))))
    (sSeq (sSet 1 (mLc [5] (iSeq (mVar 1)) (gN 5) (mTv (mOp (gEqB true) (mVar 5) (mLst mNil))) (mVar 5))) g) (LD x none none none) st = r :=
  seq_ok (lo1 := LD x (fz (.lst (rawM x))) none none) (set_ok (raw_ok hx st) rfl) (seq_ok (lo1 := LD x (fz (.lst (rwM x))) none none) (set_ok (drows_ok hx st) rfl) h)
theorem due_none {x : Str} (hx : TxOk x) (h : readS x = none) (st : Sto) : M_law_due [.str x] st = .ok (.non, false, st) := by
  have rd : Rd2 x (LD x (fz (.lst (rwM x))) none none) st 1 := ⟨rfl⟩
  have c1 := rows_nil hx rd
  have ok := rwS_ok hx
  unfold M_law_due g_law_due
  cases way hx with
  | none e _ =>
    rw [show (rwM x).isEmpty = true by unfold rwM; rw [e]; rfl] at c1
    exact runF_own (k := .fz) (lo0 := LD x none none none) rfl (due_head hx (seq_rt (if_tt (or_tt c1) rfl))) rfl
  | other w names rs e hw _ =>
    have c2 := (rows_head hx rd e).2
    rw [show (rwM x).isEmpty = false by unfold rwM; rw [e]; rfl] at c1
    rw [show (!(w == ("places" : Str))) = true by simp [hw]] at c2
    exact runF_own (k := .fz) (lo0 := LD x none none none) rfl (due_head hx (seq_rt (if_tt (or_ff c1 c2) rfl))) rfl
  | bad names rs e hb _ =>
    have c2 := (rows_head hx rd e).2
    rw [show (rwM x).isEmpty = false by unfold rwM; rw [e]; rfl] at c1
    rw [show (!(("places" : Str) == ("places" : Str))) = false by decide +kernel] at c2
    have hrs : ∀ r, r ∈ rs → (∀ p, p ∈ r → TxOk p) ∧ r.length ≤ 90001 := fun r hr => ⟨(ok.1 r (by rw [e]; exact List.mem_cons_of_mem _ hr)).2.1, (ok.1 r (by rw [e]; exact List.mem_cons_of_mem _ hr)).2.2⟩
    have hz : rs.length ≤ 90001 := by have := ok.2; rw [e] at this; simp at this; omega
    have m1 := moves_lc (F := M_law_move_in) (fun r h1 h2 => lmoveIn_ok h1 h2 st) hrs hz (j := 5) (lo := LD x (fz (.lst (rwM x))) none none) rfl (by simp) (rows_tail rd e) rfl
    have sp : sPar 2 3 false false (mLc [5] (iSeq (mSl (mVar 1) (oSome (mC (.int 1))) oNone)) (gN 5) tYesM (mCall 1 M_law_move_in [] (mCons (mVar 5) mNil))) (mC .non) (LD x (fz (.lst (rwM x))) none none) st = .ok (.nx, LD x (fz (.lst (rwM x))) (fz (.lst (rs.map moveS))) (fz .non), st) := by
      rw [d_sPar, m1]; rfl
    have c3 := none_in (st := st) (lo := LD x (fz (.lst (rwM x))) (fz (.lst (rs.map moveS))) (fz .non)) (i := 2) (fun r hr => (hrs r hr).1) rfl
    rw [hb] at c3
    exact runF_own (k := .fz) (lo0 := LD x none none none) rfl (due_head hx (seq_ok (if_ff (or_ff c1 c2) rfl) (seq_ok sp (seq_rt (if_tt c3 rfl))))) rfl
  | good names rs e hb h2 => rw [h2] at h; cases h
theorem due_some {x : Str} (hx : TxOk x) {names : List Str} {ys : List MV} (h : readS x = some (names, ys)) (st : Sto) :
    (∀ Q, M_Program_init [.lst (names.map .str), .lst ys] st = .ok (progM Q, true, st) → M_law_due [.str x] st = .ok (progM Q, false, st)) ∧
    (∀ e v lo, inB ["InvalidItem", "InvalidList"] e = true → M_Program_init [.lst (names.map .str), .lst ys] st = .exc e [("value", v)] lo st → M_law_due [.str x] st = .ok (.non, false, st)) := by
  have rd : Rd2 x (LD x (fz (.lst (rwM x))) none none) st 1 := ⟨rfl⟩
  have c1 := rows_nil hx rd
  have ok := rwS_ok hx
  cases way hx with
  | none e h2 => rw [h2] at h; cases h
  | other w names rs e hw h2 => rw [h2] at h; cases h
  | bad names rs e hb h2 => rw [h2] at h; cases h
  | good nm rs e hb h2 =>
    rw [h2] at h
    cases h
    have c2 := (rows_head hx rd e).2
    rw [show (rwM x).isEmpty = false by unfold rwM; rw [e]; rfl] at c1
    rw [show (!(("places" : Str) == ("places" : Str))) = false by decide +kernel] at c2
    have hrs : ∀ r, r ∈ rs → (∀ p, p ∈ r → TxOk p) ∧ r.length ≤ 90001 := fun r hr => ⟨(ok.1 r (by rw [e]; exact List.mem_cons_of_mem _ hr)).2.1, (ok.1 r (by rw [e]; exact List.mem_cons_of_mem _ hr)).2.2⟩
    have hz : rs.length ≤ 90001 := by have := ok.2; rw [e] at this; simp at this; omega
    have m1 := moves_lc (F := M_law_move_in) (fun r h1 h2 => lmoveIn_ok h1 h2 st) hrs hz (j := 5) (lo := LD x (fz (.lst (rwM x))) none none) rfl (by simp) (rows_tail rd e) rfl
    have sp : sPar 2 3 false false (mLc [5] (iSeq (mSl (mVar 1) (oSome (mC (.int 1))) oNone)) (gN 5) tYesM (mCall 1 M_law_move_in [] (mCons (mVar 5) mNil))) (mC .non) (LD x (fz (.lst (rwM x))) none none) st = .ok (.nx, LD x (fz (.lst (rwM x))) (fz (.lst (rs.map moveS))) (fz .non), st) := by
      rw [d_sPar, m1]; rfl
    have c3 := none_in (st := st) (lo := LD x (fz (.lst (rwM x))) (fz (.lst (rs.map moveS))) (fz .non)) (i := 2) (fun r hr => (hrs r hr).1) rfl
    rw [hb] at c3
    have rd2 : Rd2 x (LD x (fz (.lst (rwM x))) (fz (.lst (rs.map moveS))) (fz .non)) st 1 := ⟨rfl⟩
    have hd := head_tail (rows_head hx rd2 e).1
    have ar : mCons (mSl (mOp gIx (mVar 1) (mC (.int 0))) (oSome (mC (.int 1))) oNone) (mCons (mVar 2) mNil) (LD x (fz (.lst (rwM x))) (fz (.lst (rs.map moveS))) (fz .non)) st = .ok (([.lst (names.map .str), .lst (rs.map moveS)] : List MV).map (·, false), st) := cons_ok hd rfl (cons_ok (k := .fz) rfl rfl nil_ok)
    constructor
    · intro Q hQ
      unfold M_law_due g_law_due
      exact runF_own (k := .fz) (lo0 := LD x none none none) rfl (due_head hx (seq_ok (if_ff (or_ff c1 c2) rfl) (seq_ok sp (seq_ok (if_ff c3 rfl) (seq_ok (try2_ok (set_ok (k := .fr) (callV (b := true) ar rfl hQ) rfl)) (ret_ok rfl)))))) rfl
    · intro er v lo hin hE
      have ex : sSet 3 (mCall 2 M_Program_init [] (mCons (mSl (mOp gIx (mVar 1) (mC (.int 0))) (oSome (mC (.int 1))) oNone) (mCons (mVar 2) mNil))) (LD x (fz (.lst (rwM x))) (fz (.lst (rs.map moveS))) (fz .non)) st = .exc er [("value", v)] (LD x (fz (.lst (rwM x))) (fz (.lst (rs.map moveS))) (fz .non)) st := by
        unfold sSet
        rw [callX (n := 2) ar rfl hE]; rfl
      unfold M_law_due g_law_due
      exact runF_own (k := .fz) (lo0 := LD x none none none) rfl (due_head hx (seq_ok (if_ff (or_ff c1 c2) rfl) (seq_ok sp (seq_ok (if_ff c3 rfl) (seq_ok (try2_exc ex hin rfl) (ret_ok rfl)))))) rfl
structure TxS (x : Str) : Prop where
  t : TxOk x
  l : x.length ≤ 9000
theorem TxS.rgd {x : Str} (h : TxS x) : rgd (.str x) = true := rgd_of h.t.s (sz (by have := h.l; simp only [wt]; omega))
theorem read_exc {x : Str} (h : M_program_in [.str x] st = .ok (.non, false, st)) : ∃ lo, M_read_program [.str x] st = .exc "InvalidText" [("value", .str x)] lo st := by
  have ep : mCall 1 M_program_in [] (mCons (mVar 0) mNil) [fz (.str x), none] st = .ok (.non, .fz, st) := callV (ms := [.str x]) (b := false) (st1 := st) rfl rfl h
  have s1 : sSet 1 (mIfE (mTv (mIsi (isT "str") noC noC (mVar 0))) (mCall 1 M_program_in [] (mCons (mVar 0) mNil)) (mC .non)) [fz (.str x), none] st = .ok (.nx, [fz (.str x), fz .non], st) :=
    set_ok (ifE_tt (st1 := st) (by simp [tyAns, isT, tys7]) ep) rfl
  unfold M_read_program g_read_program
  exact ⟨[fz (.str x), fz .non], runF_exc (lo0 := [fz (.str x), none]) rfl (seq_ok s1 (seq_exc (if_tt (st1 := st) (by simp [FW.isNon]) (by simp))))⟩
theorem read_prog {x : Str} {Q : Prog} (h : M_program_in [.str x] st = .ok (progM Q, true, st)) : M_read_program [.str x] st = .ok (progM Q, false, st) := by
  have ep : mCall 1 M_program_in [] (mCons (mVar 0) mNil) [fz (.str x), none] st = .ok (progM Q, .fr, st) := callV (ms := [.str x]) (b := true) (st1 := st) rfl rfl h
  have s1 : sSet 1 (mIfE (mTv (mIsi (isT "str") noC noC (mVar 0))) (mCall 1 M_program_in [] (mCons (mVar 0) mNil)) (mC .non)) [fz (.str x), none] st = .ok (.nx, [fz (.str x), fz (progM Q)], st) :=
    set_ok (ifE_tt (st1 := st) (by simp [tyAns, isT, tys7]) ep) rfl
  unfold M_read_program g_read_program
  exact runF_own (k := .fz) (lo0 := [fz (.str x), none]) rfl (seq_ok s1 (seq_ok (if_ff (st1 := st) (by simp [progM, FW.isNon]) rfl) (ret_ok rfl))) rfl
abbrev LR (x : Str) (t1 t2 t3 t4 : Option (MV × Bool)) : Lo := [fz (.str x), t1, t2, t3, t4]
theorem par3 {x : Str} {m : MV} (h : M_law_due [.str x] st = .ok (m, false, st)) : sPar3 1 2 3 (mCall 1 M_law_due [] (mCons (mVar 0) mNil)) (mC .non) (mC .non) (LR x none none none none) st = .ok (.nx, LR x (fz m) (fz .non) (fz .non) none, st) := by
  have ep : mCall 1 M_law_due [] (mCons (mVar 0) mNil) (LR x none none none none) st = .ok (m, .fz, st) := callV (ms := [.str x]) (b := false) (st1 := st) rfl rfl h
  rw [d_sPar3, ep]; rfl
theorem right_none {x : Str} (hx : TxS x) (hd : M_law_due [.str x] st = .ok (.non, false, st)) (hp : M_program_in [.str x] st = .ok (.non, false, st)) : M_law_right [.str x] st = .ok (.bl true, false, st) := by
  obtain ⟨lo', ex⟩ := read_exc hp
  have hin : inB ES "InvalidText" = true := by decide +kernel
  have hes : ("InvalidText" : Str) ∈ ES := by decide +kernel
  have lk : List.lookup ("value" : Str) [(("value" : Str), MV.str x)] = some (.str x) := by simp [List.lookup]
  have b1 : sSet 3 (mCall 1 M_read_program [] (mCons (mVar 0) mNil)) (LR x (fz .non) (fz .non) (fz .non) none) st = .exc "InvalidText" [("value", .str x)] (LR x (fz .non) (fz .non) (fz .non) none) st := by
    unfold sSet
    rw [callX (n := 1) (ms := [.str x]) (st1 := st) rfl rfl ex]; rfl
  have v2 : mVar 2 (LR x (fz .non) (fz (.exc "InvalidText" [("value", .str x)])) (fz .non) none) st = .ok (.exc "InvalidText" [("value", .str x)], .fz, st) := rfl
  have fld : mFld "value" noB (inB ES) (mVar 2) (LR x (fz .non) (fz (.exc "InvalidText" [("value", .str x)])) (fz .non) none) st = .ok (.str x, .fz, st) := by
    simp [gFld, hin, lk, noB]
  have isI : mIsi noT noC (eqc ES "InvalidText") (mVar 2) (LR x (fz .non) (fz (.exc "InvalidText" [("value", .str x)])) (fz .non) none) st = .ok (.bl true, .fz, st) := by
    have q := eqcES hes "InvalidText"
    unfold mIsi
    rw [v2]
    simp [tyAns, q]
  unfold M_law_right g_law_right
  exact runF_own (k := .fz) (lo0 := LR x none none none none) rfl (seq_ok (par3 hd) (seq_ok (try_exc (lo2 := LR x (fz .non) (fz (.exc "InvalidText" [("value", .str x)])) (fz .non) (fz (.exc "InvalidText" [("value", .str x)]))) (st2 := st) b1 hin rfl)
    (seq_rt (if_tt (st1 := st) (by simp [FW.isNon]) (ret_ok (andV_tt isI (eq_reprs (neg := false) fld (k2 := .fz) (v := .str x) rfl hx.rgd))))))) rfl
theorem right_some {x : Str} {Q : Prog} (hQ : PG Q) (hd : M_law_due [.str x] st = .ok (progM Q, false, st)) (hp : M_program_in [.str x] st = .ok (progM Q, true, st)) : M_law_right [.str x] st = .ok (.bl true, false, st) := by
  have b1 : sSet 3 (mCall 1 M_read_program [] (mCons (mVar 0) mNil)) (LR x (fz (progM Q)) (fz .non) (fz .non) none) st = .ok (.nx, LR x (fz (progM Q)) (fz .non) (fz (progM Q)) none, st) := set_ok (k := .fz) (callV (ms := [.str x]) (b := false) (st1 := st) rfl rfl (read_prog hp)) rfl
  have v3 : mVar 3 (LR x (fz (progM Q)) (fz .non) (fz (progM Q)) none) st = .ok (progM Q, .fz, st) := rfl
  have v1 : mVar 1 (LR x (fz (progM Q)) (fz .non) (fz (progM Q)) none) st = .ok (progM Q, .fz, st) := rfl
  unfold M_law_right g_law_right
  exact runF_own (k := .fz) (lo0 := LR x none none none none) rfl (seq_ok (par3 hd) (seq_ok (try_ok b1) (seq_ok (if_ff (st1 := st) (by simp [progM, FW.isNon]) rfl)
    (ret_ok (andV_tt (st1 := st) (k := .fz) (by simp [FW.isNon]) (eqA_l (neg := false) v3 rfl v1 rfl (insP Q st) rfl (pEq_same hQ))))))) rfl
theorem right_ok {x : Str} (hx : TxS x) (st : Sto) : M_law_right [.str x] st = .ok (.bl true, false, st) := by
  cases h : readS x with
  | none => exact right_none hx (due_none hx.t h st) (progIn_none hx.t h st)
  | some z =>
    obtain ⟨names, ys⟩ := z
    obtain ⟨h1, h2, _⟩ := readS_ok hx.t h
    have hp := progIn_some hx.t h st
    have hd := due_some hx.t h st
    rcases init_any h1 h2 st with ⟨Q, hQ, e⟩ | ⟨er, v, lo, hin, e⟩
    · exact right_some hQ (hd.1 Q e) (hp.1 Q e)
    · exact right_none hx (hd.2 er v lo hin e) (hp.2 er v lo hin e)
end
end K71

namespace K71
open PySem L2 PySem.Spec PyProof.Rows FW FL

structure Pc (s : Str) (b : Nat) : Prop where
  o : PyData.strOk s = true
  l : s.length ≤ b
theorem Pc.up {s : Str} {a b : Nat} (h : Pc s a) (hab : a ≤ b) : Pc s b := ⟨h.o, Nat.le_trans h.l hab⟩
theorem pc_add {x y : Str} {a b : Nat} (hx : Pc x a) (hy : Pc y b) : Pc (x ++ y) (a + b) := ⟨ok_app hx.o hy.o, by
  have := hx.l; have := hy.l
  rw [TL.len_tl, TL.tl_append, List.length_append, ← TL.len_tl, ← TL.len_tl]; omega⟩
theorem pc_cut {x : Str} {b : Nat} (h : Pc x b) (lo hi : Option Int) : Pc (cutS x lo hi) b := by
  have tl : TL.tl (cutS x lo hi) = ((TL.tl x).drop (HT.sIx x.length 0 lo)).take (HT.sIx x.length x.length hi - HT.sIx x.length 0 lo) := rfl
  refine ⟨strOk_of fun c hc => strOk_mem h.o c ?_, ?_⟩
  · rw [tl] at hc
    exact List.mem_of_mem_drop (List.mem_of_mem_take hc)
  · rw [TL.len_tl, tl, List.length_take, List.length_drop, ← TL.len_tl]
    have := h.l
    omega
section
variable {lo : Lo} {st : Sto}
def EI (f : EF) (lo : Lo) (st : Sto) : Prop := ∃ i k, f lo st = .ok (.int i, k, st)
def ES1 (f : EF) (lo : Lo) (st : Sto) (b : Nat) : Prop := ∃ s k, f lo st = .ok (.str s, k, st) ∧ isPk k = false ∧ Pc s b
def EL (f : EF) (lo : Lo) (st : Sto) (n b : Nat) : Prop := ∃ (xs : List Str) (k : Kd), f lo st = .ok (.lst (xs.map .str), k, st) ∧ xs.length ≤ n ∧ (∀ p, p ∈ xs → Pc p b) ∧ (k = .fz ∨ k = .fr)
def EO (o : OF) (lo : Lo) (st : Sto) : Prop := ∃ r, o lo st = .ok (r, st)
def EA (g : AF) (lo : Lo) (st : Sto) (n b : Nat) : Prop := ∃ xs : List Str, g lo st = .ok ((xs.map MV.str).map (·, false), st) ∧ xs.length ≤ n ∧ ∀ p, p ∈ xs → Pc p b
theorem eo_none : EO oNone lo st := ⟨none, rfl⟩
theorem eo_some {f : EF} (h : EI f lo st) : EO (oSome f) lo st := by
  obtain ⟨i, k, e⟩ := h
  exact ⟨some i, by unfold oSome; rw [e]; rfl⟩
theorem ei_var {i : Nat} {m : Int} (h : lo[i]? = some (fz (.int m))) : EI (mVar i) lo st := ⟨m, .fz, by rw [d_mVar, h]⟩
theorem ei_c (m : Int) : EI (mC (.int m)) lo st := ⟨m, .fz, rfl⟩
theorem ei_add {f g : EF} (h : EI f lo st) (h2 : EI g lo st) : EI (mOp gAdd f g) lo st := by
  obtain ⟨i, k, e⟩ := h
  obtain ⟨j, k2, e2⟩ := h2
  exact ⟨i + j, .fz, opV e e2 rfl⟩
theorem es_var {i : Nat} {s : Str} {b : Nat} (h : lo[i]? = some (fz (.str s))) (hs : Pc s b) : ES1 (mVar i) lo st b := ⟨s, .fz, by rw [d_mVar, h], rfl, hs⟩
theorem es_c {s : Str} {b : Nat} (hs : Pc s b) : ES1 (mC (.str s)) lo st b := ⟨s, .fz, rfl, rfl, hs⟩
theorem es_add {f g : EF} {a b : Nat} (h : ES1 f lo st a) (h2 : ES1 g lo st b) (hz : a + b ≤ 90000) : ES1 (mOp gAdd f g) lo st (a + b) := by
  obtain ⟨s, k, e, _, p⟩ := h
  obtain ⟨t, k2, e2, _, p2⟩ := h2
  have := p.l; have := p2.l
  exact ⟨s ++ t, .fz, opV e e2 (gAddS st s t (by omega)), rfl, pc_add p p2⟩
theorem es_cut {f : EF} {b : Nat} {o1 o2 : OF} (h : ES1 f lo st b) (h1 : EO o1 lo st) (h2 : EO o2 lo st) (hz : b ≤ 90000) : ES1 (mSl f o1 o2) lo st b := by
  obtain ⟨s, k, e, _, p⟩ := h
  obtain ⟨r1, e1⟩ := h1
  obtain ⟨r2, e2⟩ := h2
  refine ⟨cutS s r1 r2, .fz, ?_, rfl, pc_cut p r1 r2⟩
  have := p.l
  have hs : s.length ≤ sizeLine := sz (by omega)
  unfold mSl
  rw [e]; simp only [Res.ok_bind]; rw [e1]; simp only [Res.ok_bind]; rw [e2]; simp only [Res.ok_bind, vw_str]
  show giveOut (if s.length ≤ sizeLine then some (MV.str (cutS s r1 r2), false) else none) st = _
  rw [if_pos hs]; rfl
theorem el_var {i : Nat} {xs : List Str} {n b : Nat} (h : lo[i]? = some (fz (.lst (xs.map .str)))) (hn : xs.length ≤ n) (hp : ∀ p, p ∈ xs → Pc p b) : EL (mVar i) lo st n b := ⟨xs, .fz, by rw [d_mVar, h], hn, hp, .inl rfl⟩
theorem el_cut {f : EF} {n b : Nat} {o1 o2 : OF} (h : EL f lo st n b) (h1 : EO o1 lo st) (h2 : EO o2 lo st) : EL (mSl f o1 o2) lo st n b := by
  obtain ⟨xs, k, e, hn, hp, _⟩ := h
  obtain ⟨r1, e1⟩ := h1
  obtain ⟨r2, e2⟩ := h2
  refine ⟨(xs.drop (HT.sIx xs.length 0 r1)).take (HT.sIx xs.length xs.length r2 - HT.sIx xs.length 0 r1), .fr, ?_, ?_, fun p hp' => hp p (List.mem_of_mem_drop (List.mem_of_mem_take hp')), .inr rfl⟩
  · unfold mSl
    rw [e]; simp only [Res.ok_bind]; rw [e1]; simp only [Res.ok_bind]; rw [e2]; simp only [Res.ok_bind, vw_lst]
    show giveOut (some (MV.lst (cutM (xs.map MV.str) r1 r2), true)) st = _
    unfold cutM
    rw [List.length_map, List.map_take, List.map_drop]; rfl
  · rw [List.length_take, List.length_drop]; omega
theorem el_add {f g : EF} {n m b : Nat} (h : EL f lo st n b) (h2 : EL g lo st m b) (hz : n + m ≤ 90000) : EL (mOp gAdd f g) lo st (n + m) b := by
  obtain ⟨xs, k, e, hn, hp, _⟩ := h
  obtain ⟨ys, k2, e2, hm, hp2, _⟩ := h2
  refine ⟨xs ++ ys, .fr, ?_, by rw [List.length_append]; omega, fun p hp' => ?_, .inr rfl⟩
  · rw [List.map_append]
    refine opN e e2 ?_
    rw [vw_lst, vw_lst, d_gAddL, if_pos (sz (by rw [List.length_map, List.length_map]; omega))]
  · rcases List.mem_append.mp hp' with h | h
    · exact hp p h
    · exact hp2 p h
theorem el_rev {f : EF} {n b : Nat} (h : EL f lo st n b) : EL (mRev f) lo st n b := by
  obtain ⟨xs, k, e, hn, hp, _⟩ := h
  refine ⟨xs.reverse, .fr, ?_, by simpa using hn, fun p hp' => hp p (by simpa using hp'), .inr rfl⟩
  rw [d_mRev, e]
  simp only [Res.ok_bind, vw_lst, List.map_reverse]
theorem es_join {f : EF} {n b : Nat} (h : EL f lo st n b) (hz : (b + 1) * n ≤ 90000) : ES1 (mBm "str" gJoin (mC (.str "\n")) (mCons f mNil)) lo st ((b + 1) * n) := by
  obtain ⟨xs, k, e, hn, hp, _⟩ := h
  have s1 := join_sz (y := "\n") (fun p hp' => (hp p hp').l) hn
  have s2 := join_len (y := "\n") (fun p hp' => (hp p hp').l) hn
  rw [nl_len] at s1 s2
  exact ⟨Txt.join "\n" xs, .fz, join_ok (k1 := .fz) (st1 := st) rfl e (by rw [nl_len]; omega), rfl, strOk_join (by decide +kernel) fun p hp' => (hp p hp').o, s2⟩
theorem ea_nil {b : Nat} : EA mNil lo st 0 b := ⟨[], rfl, Nat.le_refl _, fun p h => (nomatch h)⟩
theorem ea_cons {f : EF} {g : AF} {n a b : Nat} (h : ES1 f lo st a) (hab : a ≤ b) (h2 : EA g lo st n b) : EA (mCons f g) lo st (n + 1) b := by
  obtain ⟨s, k, e, hk, p⟩ := h
  obtain ⟨xs, e2, hn, hp⟩ := h2
  refine ⟨s :: xs, cons_ok e hk e2, by simp; omega, fun q hq => ?_⟩
  rcases List.mem_cons.mp hq with rfl | hq
  · exact p.up hab
  · exact hp q hq
theorem el_lst {g : AF} {n b : Nat} (h : EA g lo st n b) (hn : n ≤ 90000) : ∃ xs : List Str, mLst g lo st = .ok (.lst (xs.map .str), .fr, st) ∧ xs.length ≤ n ∧ ∀ p, p ∈ xs → Pc p b := by
  obtain ⟨xs, e, hl, hp⟩ := h
  refine ⟨xs, ?_, hl, hp⟩
  rw [d_mLst, e]
  simp only [Res.ok_bind, allFz_map]
  rw [if_pos (sz (by rw [List.length_map]; omega))]
def SG1 : List Str :=
  "a" ::
  "+" ::
  "-" ::
  " " ::
  "\n" ::
  "A" ::
  "\t" ::
  "0" ::
  "" ::
  "9" ::
  " move " ::
  "4" ::
  "." ::
  "\nmove up 0 +1 up" :: []
def SG : List Str := SG1 ++ (["\nplaces a", "_"] : List Str)
theorem SG_ok : ∀ s, s ∈ SG → Pc s 20 := fun s hs => by
  have := (by decide +kernel : ∀ s, s ∈ SG → PyData.strOk s = true ∧ s.length ≤ 20) s hs
  exact ⟨this.1, this.2⟩
theorem split_text {P : Prog} (h : TP P) : Txt.split (textS P) "\n" = (linesS P).map (Txt.join " ") := by
  unfold textS
  exact TL.split_join (y := "\n") (s := 10) (S := []) rfl (by decide +kernel) (by simp [linesS]) fun p hp => by
    obtain ⟨r, hr, rfl⟩ := List.mem_map.mp hp
    exact no10_row (tok_lines h r hr).1
theorem lines_pc {P : Prog} (h : TP P) : ∀ p, p ∈ (linesS P).map (Txt.join " ") → Pc p 50 := fun p hp => by
  obtain ⟨r, hr, rfl⟩ := List.mem_map.mp hp
  obtain ⟨a, b, c⟩ := tok_lines h r hr
  exact ⟨strOk_join (by decide +kernel) fun q hq => (tokB_ok (a q hq)).2.2.2.2, row_len a c⟩
abbrev LB (n : Nat) (x : Str) (t2 t3 t4 t5 t6 t7 t8 t9 : Option (MV × Bool)) : Lo := [fz (.ref n), fz (.str x), t2, t3, t4, t5, t6, t7, t8, t9]
theorem bent_ok {P : Prog} (h : TP P) {n : Nat} {N : Int} (g : GenAt st n N) (hN : N ≤ 10 ^ 6) :
    ∃ (xs : List Str) (st' : Sto), M_law_bent [.ref n, .str (textS P)] st = .ok (.lst (xs.map .str), true, st') ∧ (∀ p, p ∈ xs → TxS p) ∧ xs.length ≤ 20 ∧ GS st n (N + 100) st' := by
  have hx : Pc (textS P) 1000 := ⟨(textS_ok h).1, (textS_ok h).2⟩
  have hl := hx.l
  obtain ⟨x, hxe⟩ : ∃ x, x = textS P := ⟨_, rfl⟩
  have hsp := split_text h
  rw [← hxe] at hx hl hsp ⊢
  have hn := lines_len h
  have hlp := lines_pc h
  have l1 : 1 ≤ ((linesS P).map (Txt.join " ")).length := by simp [linesS]
  obtain ⟨ls, hls⟩ : ∃ ls, ls = (linesS P).map (Txt.join " ") := ⟨_, rfl⟩
  have hn' : ls.length ≤ 11 := by rw [hls, List.length_map]; exact hn
  rw [← hls] at hsp hlp l1
  obtain ⟨r2, s2, a2, b2, e2, G2⟩ := random_ok (bound := (x.length : Int) + 1) g (by omega) (by omega) (by omega)
  obtain ⟨r3, s3, a3, b3, e3, G3⟩ := random_ok (bound := (x.length : Int) + 1) G2.g (by omega) (by omega) (by omega)
  obtain ⟨r5, s5, a5, b5, e5, G5⟩ := random_ok (bound := 16) G3.g (by omega) (by decide) (by decide)
  obtain ⟨r8, s8, a8, b8, e8, G8⟩ := random_ok (bound := (ls.length : Int)) G5.g (by omega) (by omega) (by omega)
  obtain ⟨sg, hsg, msg⟩ := atI_str (pl := SG) a5 (by simpa [SG, SG1] using b5)
  have psg := SG_ok sg msg
  have pln : mOp gAdd (mCallB gLen (mCons (mVar 1) mNil)) (mC (.int 1)) = mOp gAdd (mCallB gLen (mCons (mVar 1) mNil)) (mC (.int 1)) := rfl
  have len1 : ∀ lo : Lo, lo[1]? = some (fz (.str x)) → ∀ s, mOp gAdd (mCallB gLen (mCons (mVar 1) mNil)) (mC (.int 1)) lo s = .ok (.int ((x.length : Int) + 1), .fz, s) := fun lo hlo s => by
    have gl : gLen s [.str x] = some (.int x.length, false) := by
      show (if x.length ≤ sizeLine then some (MV.int x.length, false) else none) = _
      rw [if_pos (sz (by omega))]
    simp [hlo, gl]
  have rnd : ∀ lo : Lo, lo[0]? = some (fz (.ref n)) → ∀ {f : EF} {b r : Int} {s s' : Sto}, f lo s = .ok (.int b, .fz, s) → M_law_random [.ref n, .int b] s = .ok (.int r, false, s') → mCall 2 M_law_random [] (mCons (mVar 0) (mCons f mNil)) lo s = .ok (.int r, .fz, s') := fun lo hlo f b r s s' hf hr =>
    callV (ms := [.ref n, .int b]) (b := false) (st1 := s) (cons_ok (k := .fz) (m := .ref n) (st1 := s) (by rw [d_mVar, hlo]) rfl (cons_ok hf rfl nil_ok)) rfl hr
  -- 2, 3
  have c23 : sPar 2 3 false false (mCall 2 M_law_random [] (mCons (mVar 0) (mCons (mOp gAdd (mCallB gLen (mCons (mVar 1) mNil)) (mC (.int 1))) mNil))) (mCall 2 M_law_random [] (mCons (mVar 0) (mCons (mOp gAdd (mCallB gLen (mCons (mVar 1) mNil)) (mC (.int 1))) mNil))) (LB n x none none none none none none none none) st =
      .ok (.nx, LB n x (fz (.int r2)) (fz (.int r3)) none none none none none none, s3) := by
    rw [d_sPar, rnd _ rfl (len1 _ rfl st) e2]
    simp only [Res.ok_bind, d_takeF, d_frz0, if_neg Bool.false_ne_true]
    rw [rnd _ rfl (len1 _ rfl s2) e3]
    rfl
  have c4 : sSet 4 (mLst (mCons (mC (.str "a")) (mCons (mC (.str "+")) (mCons (mC (.str "-")) (mCons (mC (.str " ")) (mCons (mC (.str "\n")) (mCons (mC (.str "A")) (mCons (mC (.str "\t")) (mCons (mC (.str "0")) (mCons (mC (.str "")) (mCons (mC (.str "9")) (mCons (mC (.str " move ")) (mCons (mC (.str "4")) (mCons (mC (.str ".")) (mCons (mC (.str "\nmove up 0 +1 up")) mNil)))))))))))))))
      (LB n x (fz (.int r2)) (fz (.int r3)) none none none none none none) s3 = .ok (.nx, LB n x (fz (.int r2)) (fz (.int r3)) (fz (.lst (SG1.map .str))) none none none none none, s3) := by
    simp [sz, SG1]
  have c4b : sSet 4 (mOp gAdd (mVar 4) (mLst (mCons (mC (.str "\nplaces a")) (mCons (mC (.str "_")) mNil)))) (LB n x (fz (.int r2)) (fz (.int r3)) (fz (.lst (SG1.map .str))) none none none none none) s3 = .ok (.nx, LB n x (fz (.int r2)) (fz (.int r3)) (fz (.lst (SG.map .str))) none none none none none, s3) := by
    refine set_ok (opN (a := .lst (SG1.map .str)) (ka := .fz) (b := .lst [.str "\nplaces a", .str "_"]) (kb := .fr) (st1 := s3) rfl (by simp [sz]) ?_) rfl
    rw [vw_lst, vw_lst, d_gAddL, if_pos (sz (by decide))]
    rfl
  have c56 : sPar 5 6 false false (mOp gIx (mVar 4) (mCall 2 M_law_random [] (mCons (mVar 0) (mCons (mC (.int 16)) mNil)))) (mBm "str" gSplit (mVar 1) (mCons (mC (.str "\n")) mNil)) (LB n x (fz (.int r2)) (fz (.int r3)) (fz (.lst (SG.map .str))) none none none none none) s3 =
      .ok (.nx, LB n x (fz (.int r2)) (fz (.int r3)) (fz (.lst (SG.map .str))) (fz (.str sg)) (fz (.lst (ls.map .str))) none none none, s5) := by
    have i1 : mOp gIx (mVar 4) (mCall 2 M_law_random [] (mCons (mVar 0) (mCons (mC (.int 16)) mNil))) (LB n x (fz (.int r2)) (fz (.int r3)) (fz (.lst (SG.map .str))) none none none none none) s3 = .ok (.str sg, .fz, s5) := by
      refine opV (a := .lst (SG.map .str)) (ka := .fz) (st1 := s3) rfl (rnd (f := mC (.int 16)) _ rfl rfl e5) ?_
      rw [vw_lst, vw_int, d_gIxL, hsg]; rfl
    have i2 : mBm "str" gSplit (mVar 1) (mCons (mC (.str "\n")) mNil) (LB n x (fz (.int r2)) (fz (.int r3)) (fz (.lst (SG.map .str))) none none none none none) s5 = .ok (.lst (ls.map .str), .fr, s5) := by
      have gq : gSplit s5 [.str x, .str "\n"] = some (.lst (ls.map .str), true) := by
        show (if (("\n" : Str).length == 0) = false ∧ x.length + 2 ≤ sizeLine then some (MV.lst ((Txt.split x "\n").map .str), true) else none) = _
        rw [if_pos ⟨by decide +kernel, sz (by omega)⟩, hsp]
      unfold mBm
      simp [tyOk, gq]
    rw [d_sPar, i1]
    simp only [Res.ok_bind, d_takeF, d_frz0, if_neg Bool.false_ne_true]
    rw [i2]
    rfl
  -- the list of texts
  obtain ⟨L7, hL7⟩ : ∃ L7 : Option (MV × Bool) → Option (MV × Bool) → Option (MV × Bool) → Lo, L7 = fun t7 t8 t9 => LB n x (fz (.int r2)) (fz (.int r3)) (fz (.lst (SG.map .str))) (fz (.str sg)) (fz (.lst (ls.map .str))) t7 t8 t9 := ⟨_, rfl⟩
  have v1 : ∀ t7 t8 t9 s, ES1 (mVar 1) (L7 t7 t8 t9) s 1000 := fun t7 t8 t9 s => by subst hL7; exact es_var rfl hx
  have v5 : ∀ t7 t8 t9 s, ES1 (mVar 5) (L7 t7 t8 t9) s 20 := fun t7 t8 t9 s => by subst hL7; exact es_var rfl psg
  have v6 : ∀ t7 t8 t9 s, EL (mVar 6) (L7 t7 t8 t9) s 11 50 := fun t7 t8 t9 s => by subst hL7; exact el_var rfl hn' hlp
  have i2 : ∀ t7 t8 t9 s, EI (mVar 2) (L7 t7 t8 t9) s := fun t7 t8 t9 s => by subst hL7; exact ei_var rfl
  have i3 : ∀ t7 t8 t9 s, EI (mVar 3) (L7 t7 t8 t9) s := fun t7 t8 t9 s => by subst hL7; exact ei_var rfl
  have ahead : ∀ t7 t8 t9 s, ES1 (mSl (mVar 1) oNone (oSome (mVar 2))) (L7 t7 t8 t9) s 1000 := fun t7 t8 t9 s => es_cut (v1 _ _ _ _) eo_none (eo_some (i2 _ _ _ _)) (by decide)
  have behind : ∀ t7 t8 t9 s, ES1 (mSl (mVar 1) (oSome (mVar 2)) oNone) (L7 t7 t8 t9) s 1000 := fun t7 t8 t9 s => es_cut (v1 _ _ _ _) (eo_some (i2 _ _ _ _)) eo_none (by decide)
  have behind1 : ∀ t7 t8 t9 s, ES1 (mSl (mVar 1) (oSome (mOp gAdd (mVar 2) (mC (.int 1)))) oNone) (L7 t7 t8 t9) s 1000 := fun t7 t8 t9 s => es_cut (v1 _ _ _ _) (eo_some (ei_add (i2 _ _ _ _) (ei_c 1))) eo_none (by decide)
  obtain ⟨X1, eX1, nX1, pX1⟩ := el_lst (b := 3000) (ea_cons (es_add (ahead none none none s5) (behind1 none none none s5) (by decide)) (by decide) (ea_cons (es_add (es_add (ahead none none none s5) (v5 none none none s5) (by decide)) (behind none none none s5) (by decide)) (by decide)
    (ea_cons (es_add (es_add (ahead none none none s5) (v5 none none none s5) (by decide)) (behind1 none none none s5) (by decide)) (by decide) (ea_cons (behind none none none s5) (by decide) ea_nil)))) (by decide)
  obtain ⟨X2, eX2, nX2, pX2⟩ := el_lst (b := 3000) (ea_cons (ahead (ow (.lst (X1.map .str))) none none s5) (by decide) (ea_cons (es_add (v1 (ow (.lst (X1.map .str))) none none s5) (v5 (ow (.lst (X1.map .str))) none none s5) (by decide)) (by decide) (ea_cons (es_add (v5 (ow (.lst (X1.map .str))) none none s5) (v1 (ow (.lst (X1.map .str))) none none s5) (by decide)) (by decide)
    (ea_cons (es_add (es_cut (v1 (ow (.lst (X1.map .str))) none none s5) eo_none (eo_some (i3 (ow (.lst (X1.map .str))) none none s5)) (by decide)) (behind (ow (.lst (X1.map .str))) none none s5) (by decide)) (by decide)
    (ea_cons (es_add (es_add (v1 (ow (.lst (X1.map .str))) none none s5) (es_c (s := "\n") (b := 1) ⟨by decide +kernel, by decide +kernel⟩) (by decide)) (v1 (ow (.lst (X1.map .str))) none none s5) (by decide)) (by decide) ea_nil))))) (by decide)
  have c7 := own_ok (i := 7) eX1 rfl
  have c7b := own_ok (i := 7) (opN (g := gAdd) (fa := mVar 7) (lo := L7 (ow (.lst (X1.map .str))) none none) (st := s5) (a := .lst (X1.map .str)) (ka := .pk 7) (z := .lst ((X1 ++ X2).map .str)) (by subst hL7; rfl) eX2 (by rw [vw_lst, vw_lst, d_gAddL, if_pos (sz (by rw [List.length_map, List.length_map]; omega)), List.map_append])) rfl
  have c8 : sSet 8 (mCall 2 M_law_random [] (mCons (mVar 0) (mCons (mCallB gLen (mCons (mVar 6) mNil)) mNil))) (L7 (ow (.lst ((X1 ++ X2).map .str))) none none) s5 = .ok (.nx, L7 (ow (.lst ((X1 ++ X2).map .str))) (fz (.int r8)) none, s8) := by
    have : mCallB gLen (mCons (mVar 6) mNil) (L7 (ow (.lst ((X1 ++ X2).map .str))) none none) s5 = .ok (.int (ls.length : Int), .fz, s5) := by subst hL7; simp
    have e := set_ok (i := 8) (rnd _ (by subst hL7; rfl) this e8) rfl
    subst hL7; exact e
  have i8 : ∀ t7 t9 s, EI (mVar 8) (L7 t7 (fz (.int r8)) t9) s := fun t7 t9 s => by subst hL7; exact ei_var rfl
  obtain ⟨y1, ky1, ey1, hky1, py1⟩ := es_join (el_add (el_cut (v6 (ow (.lst ((X1 ++ X2).map .str))) (fz (.int r8)) none s8) eo_none (eo_some (i8 _ _ _))) (el_cut (v6 (ow (.lst ((X1 ++ X2).map .str))) (fz (.int r8)) none s8) (eo_some (ei_add (i8 _ _ _) (ei_c 1))) eo_none) (by decide)) (by decide)
  have c9 := app_ok (fo := mVar 7) (i := 7) (lo := L7 (ow (.lst ((X1 ++ X2).map .str))) (fz (.int r8)) none) (st := s8) (x := .lst ((X1 ++ X2).map .str)) (xs := (X1 ++ X2).map .str) (by subst hL7; rfl) (by subst hL7; rfl) ey1 hky1 (szl (by rw [List.length_map, List.length_append]; omega))
  have c9' : sApp (mVar 7) (mBm "str" gJoin (mC (.str "\n")) (mCons (mOp gAdd (mSl (mVar 6) oNone (oSome (mVar 8))) (mSl (mVar 6) (oSome (mOp gAdd (mVar 8) (mC (.int 1)))) oNone)) mNil)) (L7 (ow (.lst ((X1 ++ X2).map .str))) (fz (.int r8)) none) s8 = .ok (.nx, L7 (ow (.lst ((X1 ++ X2 ++ [y1]).map .str))) (fz (.int r8)) none, s8) := by
    rw [c9]; subst hL7; simp
  obtain ⟨pr, kpr, epr, npr, ppr, hkp⟩ := el_rev (el_cut (v6 (ow (.lst ((X1 ++ X2 ++ [y1]).map .str))) (fz (.int r8)) none s8) (eo_some (i8 _ _ _)) (eo_some (ei_add (i8 _ _ _) (ei_c 2))))
  have c10 : sSet 9 (mRev (mSl (mVar 6) (oSome (mVar 8)) (oSome (mOp gAdd (mVar 8) (mC (.int 2)))))) (L7 (ow (.lst ((X1 ++ X2 ++ [y1]).map .str))) (fz (.int r8)) none) s8 = .ok (.nx, L7 (ow (.lst ((X1 ++ X2 ++ [y1]).map .str))) (fz (.int r8)) (fz (.lst (pr.map .str))), s8) := by
    have e := set_ok (i := 9) epr (by rcases hkp with rfl | rfl <;> rfl)
    subst hL7; exact e
  have v9 : ∀ t7 s, EL (mVar 9) (L7 t7 (fz (.int r8)) (fz (.lst (pr.map .str)))) s 11 50 := fun t7 s => by subst hL7; exact el_var rfl npr ppr
  obtain ⟨y2, ky2, ey2, hky2, py2⟩ := es_join (el_add (el_add (el_cut (v6 (ow (.lst ((X1 ++ X2 ++ [y1]).map .str))) (fz (.int r8)) (fz (.lst (pr.map .str))) s8) eo_none (eo_some (i8 _ _ _))) (v9 (ow (.lst ((X1 ++ X2 ++ [y1]).map .str))) s8) (by decide)) (el_cut (v6 (ow (.lst ((X1 ++ X2 ++ [y1]).map .str))) (fz (.int r8)) (fz (.lst (pr.map .str))) s8) (eo_some (ei_add (i8 _ _ _) (ei_c 2))) eo_none) (by decide)) (by decide)
  have c11 := app_ok (fo := mVar 7) (i := 7) (lo := L7 (ow (.lst ((X1 ++ X2 ++ [y1]).map .str))) (fz (.int r8)) (fz (.lst (pr.map .str)))) (st := s8) (x := .lst ((X1 ++ X2 ++ [y1]).map .str)) (xs := (X1 ++ X2 ++ [y1]).map .str) (by subst hL7; rfl) (by subst hL7; rfl) ey2 hky2 (szl (by rw [List.length_map, List.length_append, List.length_append, List.length_singleton]; omega))
  have c11' : sApp (mVar 7) (mBm "str" gJoin (mC (.str "\n")) (mCons (mOp gAdd (mOp gAdd (mSl (mVar 6) oNone (oSome (mVar 8))) (mVar 9)) (mSl (mVar 6) (oSome (mOp gAdd (mVar 8) (mC (.int 2)))) oNone)) mNil)) (L7 (ow (.lst ((X1 ++ X2 ++ [y1]).map .str))) (fz (.int r8)) (fz (.lst (pr.map .str)))) s8 =
      .ok (.nx, L7 (ow (.lst ((X1 ++ X2 ++ [y1] ++ [y2]).map .str))) (fz (.int r8)) (fz (.lst (pr.map .str))), s8) := by
    rw [c11]; subst hL7; simp
  obtain ⟨t7, ht7⟩ : ∃ t7, t7 = ow (.lst ((X1 ++ X2 ++ [y1] ++ [y2]).map .str)) := ⟨_, rfl⟩
  obtain ⟨X3, eX3, nX3, pX3⟩ := el_lst (b := 3000) (ea_cons (es_join (el_add (v6 t7 (fz (.int r8)) (fz (.lst (pr.map .str))) s8) (el_cut (v6 t7 (fz (.int r8)) (fz (.lst (pr.map .str))) s8) (eo_some (i8 _ _ _)) (eo_some (ei_add (i8 _ _ _) (ei_c 1)))) (by decide)) (by decide)) (by decide) (ea_cons (es_join (el_rev (v6 t7 (fz (.int r8)) (fz (.lst (pr.map .str))) s8)) (by decide)) (by decide) ea_nil)) (by decide)
  rw [ht7] at eX3
  have fin : mOp gAdd (mVar 7) (mLst (mCons (mBm "str" gJoin (mC (.str "\n")) (mCons (mOp gAdd (mVar 6) (mSl (mVar 6) (oSome (mVar 8)) (oSome (mOp gAdd (mVar 8) (mC (.int 1)))))) mNil)) (mCons (mBm "str" gJoin (mC (.str "\n")) (mCons (mRev (mVar 6)) mNil)) mNil))) (L7 (ow (.lst ((X1 ++ X2 ++ [y1] ++ [y2]).map .str))) (fz (.int r8)) (fz (.lst (pr.map .str)))) s8 =
      .ok (.lst ((X1 ++ X2 ++ [y1] ++ [y2] ++ X3).map .str), .fr, s8) := by
    refine opN (a := .lst ((X1 ++ X2 ++ [y1] ++ [y2]).map .str)) (ka := .pk 7) (st1 := s8) (by subst hL7; rfl) eX3 ?_
    rw [vw_lst, vw_lst, d_gAddL, if_pos (sz (by simp only [List.length_map, List.length_append, List.length_singleton]; omega)), ← List.map_append]
  refine ⟨X1 ++ X2 ++ [y1] ++ [y2] ++ X3, s8, ?_, ?_, by simp only [List.length_append, List.length_singleton]; omega, (G2.trans (G3.trans (G5.trans G8))).up (by omega)⟩
  · unfold M_law_bent g_law_bent
    refine runF_own (k := .fr) (lo0 := LB n x none none none none none none none none) (lo := L7 (ow (.lst ((X1 ++ X2 ++ [y1] ++ [y2]).map .str))) (fz (.int r8)) (fz (.lst (pr.map .str)))) rfl
      (seq_ok c23 (seq_ok c4 (seq_ok c4b (seq_ok c56 (seq_ok (lo1 := L7 (ow (.lst (X1.map .str))) none none) (st1 := s5) ?_ (seq_ok (lo1 := L7 (ow (.lst ((X1 ++ X2).map .str))) none none) (st1 := s5) ?_ (seq_ok c8 (seq_ok c9' (seq_ok c10 (seq_ok c11' (ret_ok fin))))))))))) rfl
    · subst hL7; exact c7
    · subst hL7; exact c7b
  · intro p hp
    have ok : Pc p 3000 := by
      simp only [List.mem_append, List.mem_singleton] at hp
      rcases hp with (((hp | hp) | rfl) | rfl) | hp
      · exact pX1 p hp
      · exact pX2 p hp
      · exact py1.up (by decide)
      · exact py2.up (by decide)
      · exact pX3 p hp
    exact ⟨⟨ok.o, Nat.le_trans ok.l (by decide)⟩, Nat.le_trans ok.l (by decide)⟩
end
end K71

namespace K71
open PySem L2 PySem.Spec PyProof.Rows FW FL

theorem lcL_no {gf : GF} {tt : TF} {fe : EF} {lo0 : Lo} {st : Sto} : ∀ (items acc : List MV), (∀ x, x ∈ items → ∃ lo1, gf x lo0 st = .ok (lo1, st) ∧ tt lo1 st = .ok (false, st)) → lcL (fun _ _ => True) gf tt fe lo0 items acc st = .ok (acc, st)
  | [], acc, _ => by unfold lcL; exact if_pos trivial
  | x :: xs, acc, h => by
    obtain ⟨lo1, e1, e2⟩ := h x (List.mem_cons_self ..)
    unfold lcL
    rw [if_pos trivial, e1]
    simp only [noExc, Res.ok_bind]
    rw [e2]
    simp only [noExc, Res.ok_bind, if_neg Bool.false_ne_true]
    exact lcL_no xs acc fun y hy => h y (List.mem_cons_of_mem _ hy)
abbrev LM (ns : List Int) (t1 t2 t3 t4 t5 t6 t7 t8 t9 : Option (MV × Bool)) : Lo := [fz (.scr ns), t1, t2, t3, t4, t5, t6, t7, t8, t9, none, none]
section
variable {st : Sto} {ns : List Int}
theorem bent_turn {P : Prog} (h : TP P) {n : Nat} {N : Int} (g : GenAt st n N) (hN : N ≤ 10 ^ 6) (t1 t4 : Option (MV × Bool)) :
    ∃ st', b2_law (LM ns t1 (fz (.ref n)) (fz (.str (textS P))) t4 none none none none none) st = .ok (.nx, LM ns t1 (fz (.ref n)) (fz (.str (textS P))) t4 none none none none none, st') ∧ GenAt st' n (N + 100) := by
  obtain ⟨xs, s1, e, hx, hl, G⟩ := bent_ok h g hN
  obtain ⟨L, hL⟩ : ∃ L, L = LM ns t1 (fz (.ref n)) (fz (.str (textS P))) t4 none none none none none := ⟨_, rfl⟩
  have i1 : iSeq (mCall 2 M_law_bent [] (mCons (mVar 2) (mCons (mVar 3) mNil))) L st = .ok (xs.map .str, fun _ _ => True, s1) := by
    subst hL; exact iSeq_lst (callV (ms := [.ref n, .str (textS P)]) (b := true) (st1 := st) rfl rfl e) rfl
  have c : mLc [11] (iSeq (mCall 2 M_law_bent [] (mCons (mVar 2) (mCons (mVar 3) mNil)))) (gN 11) (mNotT (mTv (mCall 1 M_law_right [] (mCons (mVar 11) mNil)))) (mVar 11) L st = .ok (.lst [], .fr, s1) :=
    lc_ok (by subst hL; rfl) i1 (lcL_no _ _ fun x hx' => by
      obtain ⟨y, hy, rfl⟩ := List.mem_map.mp hx'
      subst hL
      exact ⟨_, rfl, not_ok (tv_ok (callV (ms := [.str y]) (b := false) (st1 := s1) rfl rfl (right_ok (hx y hy) s1)))⟩)
  refine ⟨s1, ?_, G.g⟩
  rw [← hL]
  exact if_ff (tv_ok (opV (b := .lst []) (kb := .fr) (st2 := s1) c (by simp) (eq_self (neg := true) (a := .lst []) (by decide) s1))) rfl
theorem law_turn (ns : List Int) (k : Nat) (hk : k < 5) (t2 t3 t4 : Option (MV × Bool)) (st : Sto) :
    ∃ u2 u3 u4 st', b1_law (LM ns (fz (.int (k : Nat))) t2 t3 t4 none none none none none) st = .ok (.nx, LM ns (fz (.int (k : Nat))) u2 u3 u4 none none none none none, st') := by
  obtain ⟨a, b, a0, b0, b1, eg⟩ := gen_ok ns k (by omega) st
  have G0 : GenAt (st ++ [MV.lst [.int a, .int b, .int (1000 * (k : Int))]]) st.length 5000 := ⟨a, b, 1000 * (k : Int), by simp, a0, b0, b1, by omega, by omega, by decide⟩
  generalize hs0 : (st ++ [MV.lst [.int a, .int b, .int (1000 * (k : Int))]]) = s0 at *
  obtain ⟨P, s1, hP, hpl, _, ep, G1⟩ := drawn_ok (many := 3) (most := 6) G0 (by decide) (by decide) (by decide) (by decide)
  have h := TP.of hP
  have c2 : sSet 2 (mSto (mCall 2 M_law_generator [] (mCons (mVar 0) (mCons (mVar 1) mNil)))) (LM ns (fz (.int (k : Nat))) t2 t3 t4 none none none none none) st = .ok (.nx, LM ns (fz (.int (k : Nat))) (fz (.ref st.length)) t3 t4 none none none none none, s0) := by
    simp [callR_ok _ _ eg, hs0]
  have pp : mCall 3 M_law_drawn [] (mCons (mVar 2) (mCons (mC (.int 3)) (mCons (mC (.int 6)) mNil))) (LM ns (fz (.int (k : Nat))) (fz (.ref st.length)) t3 t4 none none none none none) s0 = .ok (partsM P, .fr, s1) :=
    callV (ms := [.ref st.length, .int 3, .int 6]) (b := true) (st1 := s0) rfl rfl ep
  have pr : mCall 1 M_law_program [] (mCons (mCall 3 M_law_drawn [] (mCons (mVar 2) (mCons (mC (.int 3)) (mCons (mC (.int 6)) mNil)))) mNil) (LM ns (fz (.int (k : Nat))) (fz (.ref st.length)) t3 t4 none none none none none) s0 = .ok (progM P, .fr, s1) :=
    callV (ms := [partsM P]) (b := true) (st1 := s1) (cons_ok pp rfl nil_ok) rfl (makeG h.pg s1)
  have c3 : sSet 3 (mCall 1 M_text_of [] (mCons (mCall 1 M_law_program [] (mCons (mCall 3 M_law_drawn [] (mCons (mVar 2) (mCons (mC (.int 3)) (mCons (mC (.int 6)) mNil)))) mNil)) mNil)) (LM ns (fz (.int (k : Nat))) (fz (.ref st.length)) t3 t4 none none none none none) s0 = .ok (.nx, LM ns (fz (.int (k : Nat))) (fz (.ref st.length)) (fz (.str (textS P))) t4 none none none none none, s1) :=
    set_ok (k := .fz) (callV (ms := [progM P]) (b := false) (st1 := s1) (cons_ok pr rfl nil_ok) rfl (textOf_ok h s1)) rfl
  obtain ⟨lo', st', e, ⟨t4', hlo⟩, _⟩ := forL_run (ck := ckT) (gf := gN 4) (body := b2_law)
    (Inv := fun j lo s => (∃ t4 : Option (MV × Bool), lo = LM ns (fz (.int (k : Nat))) (fz (.ref st.length)) (fz (.str (textS P))) t4 none none none none none) ∧ GenAt s st.length (8000 + 100 * (j : Int))) (items := rgM 0 3) (fun _ _ _ _ => trivial)
    (fun j m lo s hm ⟨⟨t4, hlo⟩, g⟩ => by
      subst hlo
      obtain ⟨rfl, hj⟩ := rgM_get hm
      obtain ⟨s2, e, g2⟩ := bent_turn (ns := ns) h g (by omega) (fz (.int (k : Nat))) (fz (.int (0 + (j : Int))))
      refine ⟨_, _, _, s2, rfl, e, ⟨_, rfl⟩, ?_⟩
      have : (8000 + 100 * (j : Int) + 100) = 8000 + 100 * ((j + 1 : Nat) : Int) := by omega
      rw [← this]; exact g2)
    (LM ns (fz (.int (k : Nat))) (fz (.ref st.length)) (fz (.str (textS P))) t4 none none none none none) s1 ⟨⟨t4, rfl⟩, by simpa using G1.g⟩
  subst hlo
  exact ⟨_, _, _, st', seq_ok c2 (seq_ok c3 (for_ok (iRg1_ok (k := .fz) (j := 3) (st1 := s1) rfl (by decide)) e))⟩
theorem Pc.tx {s : Str} {b : Nat} (h : Pc s b) (hb : b ≤ 9000) : TxS s := ⟨⟨h.o, Nat.le_trans h.l (by omega)⟩, Nat.le_trans h.l hb⟩
theorem pc_rep {a : Str} {b : Nat} (h : Pc a b) (n : Nat) : Pc (repS a n) (b * n) := ⟨strOk_of fun c hc => by
    rw [repS_tl] at hc
    obtain ⟨l, hl, hc⟩ := List.mem_flatten.mp hc
    rw [(List.mem_replicate.mp hl).2] at hc
    exact strOk_mem h.o c hc, by rw [repS_len]; exact Nat.mul_le_mul_right _ h.l⟩
theorem rep_ok {lo : Lo} {a b : Str} {k : Int} (h : RepOk b k) (hz : a.length + (repS b k.toNat).length ≤ 100000) : mOp gAdd (mC (.str a)) (mOp gRepS (mC (.str b)) (mC (.int k))) lo st = .ok (.str (a ++ repS b k.toNat), .fz, st) := by
  have r : gRepS st (.str b) (.int k) = some (.str (repS b k.toNat), false) := if_pos h
  exact opV (a := .str a) (ka := .fz) (st1 := st) rfl (opV (a := .str b) (ka := .fz) (b := .int k) (kb := .fz) (st1 := st) (st2 := st) rfl rfl r) (gAddS st _ _ hz)
theorem addL {i : Nat} {xs ys : List Str} {f : EF} {lo : Lo} (h : lo[i]? = some (fz (.lst (xs.map .str)))) (hf : f lo st = .ok (.lst (ys.map .str), .fr, st)) (hz : xs.length + ys.length ≤ 1000) : sSet i (mOp gAdd (mVar i) f) lo st = .ok (.nx, lo.set i (fz (.lst ((xs ++ ys).map .str))), st) := by
  refine set_ok (k := .fr) (opN (a := .lst (xs.map .str)) (ka := .fz) (st1 := st) (by rw [d_mVar, h]) hf ?_) rfl
  rw [vw_lst, vw_lst, d_gAddL, if_pos (sz (by rw [List.length_map, List.length_map]; omega)), List.map_append]
def R1 : List Str :=
  "move up 0 +0 up" ::
  "move up 0 -0 up" ::
  "move up 0 0 up" ::
  "move up 00 +1 up" ::
  "move up 1 -01 up" :: []
def R2 : List Str :=
  "move up 9 -4 up" :: []
def R3 : List Str :=
  "move up 3 -4 up" ::
  "move up 6 +3 up" ::
  "move up 0 +5 up" ::
  "move up 0 + 1 up" :: []
def R4 : List Str :=
  "move up +0 +1 up" ::
  "move up up" :: []
def R5 : List Str :=
  "move  up  4  -4  up" ::
  "move up 0 +1" ::
  "move up 0 +1 up up" ::
  "move zz 0 +1 up" :: []
def R6 : List Str :=
  "move up 0 +1 zz" ::
  "up 0 +1 up" :: []
def R7 : List Str :=
  "places up" ::
  "move" ::
  "Move up 0 +1 up" ::
  "move up 0 --1 up" ::
  "move up 0 +1up" ::
  "moveup 0 +1 up" :: []
def R8 : List Str :=
  "\tmove up 0 +1 up" :: []
abbrev RS : List Str := R1 ++ R2 ++ R3 ++ R4 ++ R5 ++ R6 ++ R7 ++ R8
theorem RS_pc : ∀ s, s ∈ RS → Pc s 50 := fun s hs => by
  have := (by decide +kernel : ∀ s, s ∈ RS → PyData.strOk s = true ∧ s.length ≤ 50) s hs
  exact ⟨this.1, this.2⟩
def O1 : List Str :=
  "" ::
  " " ::
  "\n" ::
  "places" ::
  "places up up" ::
  "places up Up" ::
  "places abcdefghi" ::
  "places a b c d e" :: []
def O2 : List Str :=
  "place up" ::
  " places up " :: []
def O3a : List Str :=
  "move up 0 +1 up" ::
  "move up 0 +1 up\nplaces up" :: []
abbrev mz : Str := "\nmove up 0 +0 up"
abbrev pu : Str := "places up"
def O3 : List Str := O3a ++ [pu ++ repS mz 10]
def O4 : List Str :=
  "placesup" ::
  "places up1" :: []
def O5 : List Str := [pu ++ repS mz 11, ("places up\n" : Str) ++ repS " " 2000]
abbrev OT : List Str := O1 ++ O2 ++ O3 ++ O4 ++ O5
theorem Oa_pc : ∀ s, s ∈ O1 ++ O2 ++ O3a ++ O4 → Pc s 50 := fun s hs => by
  have := (by decide +kernel : ∀ s, s ∈ O1 ++ O2 ++ O3a ++ O4 → PyData.strOk s = true ∧ s.length ≤ 50) s hs
  exact ⟨this.1, this.2⟩
theorem pc_mz : Pc mz 16 := ⟨by decide +kernel, by decide +kernel⟩
theorem pc_pu : Pc pu 9 := ⟨by decide +kernel, by decide +kernel⟩
theorem pc_pn : Pc ("places up\n" : Str) 10 := ⟨by decide +kernel, by decide +kernel⟩
theorem pc_sp : Pc (" " : Str) 1 := ⟨by decide +kernel, by decide +kernel⟩
theorem OT_pc : ∀ s, s ∈ OT → Pc s 3000 := fun s hs => by
  simp only [OT, O3, List.mem_append] at hs
  have a := Oa_pc s
  simp only [List.mem_append] at a
  rcases hs with (((h | h) | (h | h)) | h) | h
  · exact (a (.inl (.inl (.inl h)))).up (by decide)
  · exact (a (.inl (.inl (.inr h)))).up (by decide)
  · exact (a (.inl (.inr h))).up (by decide)
  · rw [List.mem_singleton.mp h]; exact (pc_add pc_pu (pc_rep pc_mz 10)).up (by decide)
  · exact (a (.inr h)).up (by decide)
  · simp only [O5, List.mem_cons, List.not_mem_nil, or_false] at h
    rcases h with rfl | rfl
    · exact (pc_add pc_pu (pc_rep pc_mz 11)).up (by decide)
    · exact (pc_add pc_pn (pc_rep pc_sp 2000)).up (by decide)
theorem rp10 {lo : Lo} : mOp gAdd (mC (.str "places up")) (mOp gRepS (mC (.str "\nmove up 0 +0 up")) (mC (.int 10))) lo st = .ok (.str (pu ++ repS mz 10), .fz, st) :=
  rep_ok (by decide +kernel) (by have := pc_pu.l; have := (pc_rep pc_mz 10).l; exact Nat.le_trans (Nat.add_le_add ‹_ ≤ 9› this) (by decide))
theorem rp11 {lo : Lo} : mOp gAdd (mC (.str "places up")) (mOp gRepS (mC (.str "\nmove up 0 +0 up")) (mC (.int 11))) lo st = .ok (.str (pu ++ repS mz 11), .fz, st) :=
  rep_ok (by decide +kernel) (by have := pc_pu.l; have := (pc_rep pc_mz 11).l; exact Nat.le_trans (Nat.add_le_add ‹_ ≤ 9› this) (by decide))
theorem rp2000 {lo : Lo} : mOp gAdd (mC (.str "places up\n")) (mOp gRepS (mC (.str " ")) (mC (.int 2000))) lo st = .ok (.str (("places up\n" : Str) ++ repS " " 2000), .fz, st) :=
  rep_ok (by decide +kernel) (by have := pc_pn.l; have := (pc_rep pc_sp 2000).l; exact Nat.le_trans (Nat.add_le_add ‹_ ≤ 10› this) (by decide))
def hd : MV → MV
  | .str s => .str (("places up\n" : Str) ++ s)
  | m => m
theorem hd_map (xs : List Str) : ((xs.map MV.str).filter fun _ => true).map hd = (xs.map fun s => ("places up\n" : Str) ++ s).map .str := by
  rw [List.filter_eq_self.mpr (fun _ _ => rfl), List.map_map, List.map_map]; rfl
def ODD : List MV := [.non, .int 3, .lst [.str "places up"], .tup [.str "places up"], .dct [], .bl true, .int 0]
theorem ODD_ok : ∀ v, v ∈ ODD → rgd v = true := by decide +kernel
theorem read_no {v : MV} (hv : v ∈ ODD) : ∃ lo, M_read_program [v] st = .exc "InvalidText" [("value", v)] lo st := by
  have t : mTv (mIsi (isT "str") noC noC (mVar 0)) [fz v, none] st = .ok (false, st) := by
    simp only [ODD, List.mem_cons, List.not_mem_nil, or_false] at hv
    rcases hv with rfl | rfl | rfl | rfl | rfl | rfl | rfl <;> simp [tyAns, isT, tys7]
  have s1 : sSet 1 (mIfE (mTv (mIsi (isT "str") noC noC (mVar 0))) (mCall 1 M_program_in [] (mCons (mVar 0) mNil)) (mC .non)) [fz v, none] st = .ok (.nx, [fz v, fz .non], st) :=
    set_ok (k := .fz) (ifE_ff t rfl) rfl
  unfold M_read_program g_read_program
  exact ⟨[fz v, fz .non], runF_exc (lo0 := [fz v, none]) rfl (seq_ok s1 (seq_exc (if_tt (st1 := st) (by simp [FW.isNon]) (by simp))))⟩
theorem odd_turn {v : MV} (hv : v ∈ ODD) (t1 t2 t3 t4 t5 t6 t8 t9 : Option (MV × Bool)) : ∃ u8 u9, b4_law (LM ns t1 t2 t3 t4 t5 t6 (fz v) t8 t9) st = .ok (.nx, LM ns t1 t2 t3 t4 t5 t6 (fz v) u8 u9, st) := by
  have hr := ODD_ok v hv
  obtain ⟨lo', ex⟩ := read_no (st := st) hv
  have hin : inB ["InvalidText"] "InvalidText" = true := rfl
  have hes : inB ES "InvalidText" = true := by decide +kernel
  have lk : List.lookup ("value" : Str) [(("value" : Str), v)] = some v := by simp [List.lookup]
  have b1 : sExpr (mCall 1 M_read_program [] (mCons (mVar 7) mNil)) (LM ns t1 t2 t3 t4 t5 t6 (fz v) (fz .non) t9) st = .exc "InvalidText" [("value", v)] (LM ns t1 t2 t3 t4 t5 t6 (fz v) (fz .non) t9) st := expr_exc (callX (ms := [v]) (st1 := st) rfl rfl ex)
  have fld : mFld "value" noB (inB ES) (mVar 8) (LM ns t1 t2 t3 t4 t5 t6 (fz v) (fz (.exc "InvalidText" [("value", v)])) none) st = .ok (v, .fz, st) := by
    simp [gFld, hes, lk, noB]
  have cnd : sIf (mOr (mTv (mOp (gIsN false) (mVar 8) (mC .non))) (mTv (mOp (gEqB true) (mCallB gRepr (mCons (mFld "value" noB (inB ES) (mVar 8)) mNil)) (mCallB gRepr (mCons (mVar 7) mNil))))) (sRet (mC (.bl false))) sNil (LM ns t1 t2 t3 t4 t5 t6 (fz v) (fz (.exc "InvalidText" [("value", v)])) none) st = .ok (.nx, LM ns t1 t2 t3 t4 t5 t6 (fz v) (fz (.exc "InvalidText" [("value", v)])) none, st) :=
    if_ff (or_ff (st1 := st) (by simp [FW.isNon]) (tv_ok (eq_reprs (neg := true) fld (k2 := .fz) (v := v) rfl hr))) rfl
  exact ⟨fz (.exc "InvalidText" [("value", v)]), none, seq_ok (lo1 := LM ns t1 t2 t3 t4 t5 t6 (fz v) (fz .non) t9) (st1 := st) rfl (seq_ok (try_exc (lo2 := LM ns t1 t2 t3 t4 t5 t6 (fz v) (fz (.exc "InvalidText" [("value", v)])) (fz (.exc "InvalidText" [("value", v)]))) (st2 := st) b1 hin rfl) cnd)⟩
end
abbrev ls (xs : List Str) : Option (MV × Bool) := fz (.lst (xs.map .str))
theorem pure_law (ns : List Int) (_ : ns.length ≤ 63) : ∃ st, M_law [.scr ns] [] = .ok (.bl true, false, st) := by
  obtain ⟨lo', st', e, t1, t2, t3, t4, hlo⟩ := forL_run (ck := ckT) (gf := gN 1) (body := b1_law)
    (Inv := fun _ lo _ => ∃ t1 t2 t3 t4 : Option (MV × Bool), lo = LM ns t1 t2 t3 t4 none none none none none) (items := rgM 0 5) (fun _ _ _ _ => trivial)
    (fun k m lo st hm ⟨t1, t2, t3, t4, hlo⟩ => by
      subst hlo
      obtain ⟨rfl, hk⟩ := rgM_get hm
      obtain ⟨u2, u3, u4, s2, e⟩ := law_turn ns k (by omega) t2 t3 t4 st
      rw [Int.zero_add]
      exact ⟨_, _, _, _, rfl, e, _, _, _, _, rfl⟩)
    (LM ns none none none none none none none none none) [] ⟨none, none, none, none, rfl⟩
  subst hlo
  obtain ⟨lo6, e6, u3, hlo⟩ := for_lo (gf := gN 3) (body := b3_law) (st := st') (I := fun lo => ∃ u3 : Option (MV × Bool), lo = LM ns t1 t2 u3 t4 (ls RS) (ls OT) none none none) ((OT ++ RS.map fun s => ("places up\n" : Str) ++ s).map .str) (LM ns t1 t2 t3 t4 (ls RS) (ls OT) none none none) (fun m hm lo ⟨u3, hlo⟩ => by
    subst hlo
    obtain ⟨x, hx, rfl⟩ := List.mem_map.mp hm
    have hx : TxS x := by
      rcases List.mem_append.mp hx with hx | hx
      · exact (OT_pc x hx).tx (by decide)
      · obtain ⟨y, hy, rfl⟩ := List.mem_map.mp hx
        exact (pc_add pc_pn (RS_pc y hy)).tx (by decide)
    exact ⟨_, _, rfl, if_ff (not_ok (tv_ok (callV (ms := [.str x]) (b := false) (st1 := st') rfl rfl (right_ok hx st')))) rfl, _, rfl⟩) ⟨t3, rfl⟩
  subst hlo
  obtain ⟨lo7, e7, u7, u8, u9, hlo⟩ := for_lo (gf := gN 7) (body := b4_law) (st := st') (I := fun lo => ∃ u7 u8 u9 : Option (MV × Bool), lo = LM ns t1 t2 u3 t4 (ls RS) (ls OT) u7 u8 u9) ODD (LM ns t1 t2 u3 t4 (ls RS) (ls OT) none none none) (fun m hm lo ⟨u7, u8, u9, hlo⟩ => by
    subst hlo
    obtain ⟨v8, v9, e⟩ := odd_turn (ns := ns) (st := st') hm t1 t2 u3 t4 (ls RS) (ls OT) u8 u9
    exact ⟨_, _, rfl, e, _, _, _, rfl⟩) ⟨none, none, none, rfl⟩
  subst hlo
  have it : iSeq (mOp gAdd (mVar 6) (mLc [10] (iSeq (mVar 5)) (gN 10) tYesM (mOp gAdd (mC (.str "places up\n")) (mVar 10)))) (LM ns t1 t2 t3 t4 (ls RS) (ls OT) none none none) st' = .ok ((OT ++ RS.map fun s => ("places up\n" : Str) ++ s).map .str, fun _ _ => True, st') := by
    have c : mLc [10] (iSeq (mVar 5)) (gN 10) tYesM (mOp gAdd (mC (.str "places up\n")) (mVar 10)) (LM ns t1 t2 t3 t4 (ls RS) (ls OT) none none none) st' = .ok (.lst ((RS.map fun s => ("places up\n" : Str) ++ s).map .str), .fr, st') := by
      rw [← hd_map]
      refine lc_filter rfl (iSeq_lst (k := .fz) (st1 := st') rfl rfl) (fun _ => trivial) (sz (by rw [List.length_map]; decide)) fun x hx => ?_
      obtain ⟨y, hy, rfl⟩ := List.mem_map.mp hx
      have := (RS_pc y hy).l
      have := pc_pn.l
      exact ⟨_, rfl, rfl, fun _ => ⟨.fz, opV (a := .str "places up\n") (ka := .fz) (b := .str y) (kb := .fz) (st1 := st') rfl rfl (gAddS st' _ _ (by omega)), rfl⟩⟩
    refine iSeq_lst (k := .fr) (opN (a := .lst (OT.map .str)) (ka := .fz) (st1 := st') rfl c ?_) rfl
    rw [vw_lst, vw_lst, d_gAddL, if_pos (sz (by rw [List.length_map, List.length_map, List.length_map]; decide))]
    simp only [List.map_append]
  have i7 : iSeq (mLst (mCons (mC .non) (mCons (mC (.int 3)) (mCons (mLst (mCons (mC (.str "places up")) mNil)) (mCons (mTup (mCons (mC (.str "places up")) mNil)) (mCons mDct0 (mCons (mC (.bl true)) (mCons (mC (.int 0)) mNil)))))))) (LM ns t1 t2 u3 t4 (ls RS) (ls OT) none none none) st' = .ok (ODD, fun _ _ => True, st') :=
    iSeq_lst (k := .fr) (st1 := st') (by simp [ODD, sz]) rfl
  refine ⟨st', ?_⟩
  unfold M_law g_law
  refine runF_own (k := .fz) (lo0 := LM ns none none none none none none none none none) (lo := LM ns t1 t2 u3 t4 (ls RS) (ls OT) u7 u8 u9) rfl (seq_ok (for_ok (iRg1_ok (k := .fz) (j := 5) (st1 := []) rfl (by decide)) e) ?_) rfl
  refine seq_ok (lo1 := LM ns t1 t2 t3 t4 (ls R1) none none none none) (st1 := st') (set_ok (k := .fr) (m := .lst (R1.map .str)) (by simp [sz, R1]) rfl) ?_
  refine seq_ok (lo1 := LM ns t1 t2 t3 t4 (ls (R1 ++ R2)) none none none none) (st1 := st') (addL rfl (by simp [sz, R2]) (by decide)) ?_
  refine seq_ok (lo1 := LM ns t1 t2 t3 t4 (ls (R1 ++ R2 ++ R3)) none none none none) (st1 := st') (addL rfl (by simp [sz, R3]) (by decide)) ?_
  refine seq_ok (lo1 := LM ns t1 t2 t3 t4 (ls (R1 ++ R2 ++ R3 ++ R4)) none none none none) (st1 := st') (addL rfl (by simp [sz, R4]) (by decide)) ?_
  refine seq_ok (lo1 := LM ns t1 t2 t3 t4 (ls (R1 ++ R2 ++ R3 ++ R4 ++ R5)) none none none none) (st1 := st') (addL rfl (by simp [sz, R5]) (by decide)) ?_
  refine seq_ok (lo1 := LM ns t1 t2 t3 t4 (ls (R1 ++ R2 ++ R3 ++ R4 ++ R5 ++ R6)) none none none none) (st1 := st') (addL rfl (by simp [sz, R6]) (by decide)) ?_
  refine seq_ok (lo1 := LM ns t1 t2 t3 t4 (ls (R1 ++ R2 ++ R3 ++ R4 ++ R5 ++ R6 ++ R7)) none none none none) (st1 := st') (addL rfl (by simp [sz, R7]) (by decide)) ?_
  refine seq_ok (lo1 := LM ns t1 t2 t3 t4 (ls RS) none none none none) (st1 := st') (addL rfl (by simp [sz, R8]) (by decide)) ?_
  refine seq_ok (lo1 := LM ns t1 t2 t3 t4 (ls RS) (ls O1) none none none) (st1 := st') (set_ok (k := .fr) (m := .lst (O1.map .str)) (by simp [sz, O1]) rfl) ?_
  refine seq_ok (lo1 := LM ns t1 t2 t3 t4 (ls RS) (ls (O1 ++ O2)) none none none) (st1 := st') (addL rfl (by simp [sz, O2]) (by decide)) ?_
  refine seq_ok (lo1 := LM ns t1 t2 t3 t4 (ls RS) (ls (O1 ++ O2 ++ O3)) none none none) (st1 := st') (addL rfl ?_ (by decide)) ?_
  · rw [d_mLst, cons_ok (k := .fz) (m := .str "move up 0 +1 up") (st1 := st') rfl rfl (cons_ok (k := .fz) (m := .str "move up 0 +1 up\nplaces up") (st1 := st') rfl rfl (cons_ok rp10 rfl nil_ok))]
    simp [sz, O3, O3a]
  refine seq_ok (lo1 := LM ns t1 t2 t3 t4 (ls RS) (ls (O1 ++ O2 ++ O3 ++ O4)) none none none) (st1 := st') (addL rfl (by simp [sz, O4]) (by decide)) ?_
  refine seq_ok (lo1 := LM ns t1 t2 t3 t4 (ls RS) (ls OT) none none none) (st1 := st') (addL rfl ?_ (by decide)) ?_
  · rw [d_mLst, cons_ok rp11 rfl (cons_ok rp2000 rfl nil_ok)]
    simp [sz, O5]
  exact seq_ok (for_ok it e6) (seq_ok (for_ok i7 e7) (ret_ok rfl))
end K71

namespace K71
open PySem L2 PySem.Spec PyProof.Rows FW FL
theorem all_mk {P : Program} {K : PySem.W.Frag} {hp : Heap} {mg : Str → Option Value} {fa : Addr} (X : K.In hp) (G : hp.Ns mainGlobals mg) (hfa : mg "law" = some (.ref fa))
    {K0 : Addr}
    {f0 : Addr} {oc0 kV0 dc0 pm0 cd0 ct0 : Value} {od0 an0 : Option Addr} {sl0 : Array (Option Value)}
    {f1 : Addr} {oc1 kV1 dc1 pm1 cd1 ct1 : Value} {od1 an1 : Option Addr} {sl1 : Array (Option Value)}
    {f2 : Addr} {oc2 kV2 dc2 pm2 cd2 ct2 : Value} {od2 an2 : Option Addr} {sl2 : Array (Option Value)}
    {f3 : Addr} {oc3 kV3 dc3 pm3 cd3 ct3 : Value} {od3 an3 : Option Addr} {sl3 : Array (Option Value)}
    {f4 : Addr} {oc4 kV4 dc4 pm4 cd4 ct4 : Value} {od4 an4 : Option Addr} {sl4 : Array (Option Value)}
    {f5 : Addr} {oc5 kV5 dc5 pm5 cd5 ct5 : Value} {od5 an5 : Option Addr} {sl5 : Array (Option Value)}
    {f6 : Addr} {oc6 kV6 dc6 pm6 cd6 ct6 : Value} {od6 an6 : Option Addr} {sl6 : Array (Option Value)}
    {f7 : Addr} {oc7 kV7 dc7 pm7 cd7 ct7 : Value} {od7 an7 : Option Addr} {sl7 : Array (Option Value)}
    {f8 : Addr} {oc8 kV8 dc8 pm8 cd8 ct8 : Value} {od8 an8 : Option Addr} {sl8 : Array (Option Value)}
    {f9 : Addr} {oc9 kV9 dc9 pm9 cd9 ct9 : Value} {od9 an9 : Option Addr} {sl9 : Array (Option Value)}
    {f10 : Addr} {oc10 kV10 dc10 pm10 cd10 ct10 : Value} {od10 an10 : Option Addr} {sl10 : Array (Option Value)}
    {f11 : Addr} {oc11 kV11 dc11 pm11 cd11 ct11 : Value} {od11 an11 : Option Addr} {sl11 : Array (Option Value)}
    {f12 : Addr} {oc12 kV12 dc12 pm12 cd12 ct12 : Value} {od12 an12 : Option Addr} {sl12 : Array (Option Value)}
    {f13 : Addr} {oc13 kV13 dc13 pm13 cd13 ct13 : Value} {od13 an13 : Option Addr} {sl13 : Array (Option Value)}
    {f14 : Addr} {oc14 kV14 dc14 pm14 cd14 ct14 : Value} {od14 an14 : Option Addr} {sl14 : Array (Option Value)}
    {f15 : Addr} {oc15 kV15 dc15 pm15 cd15 ct15 : Value} {od15 an15 : Option Addr} {sl15 : Array (Option Value)}
    {f16 : Addr} {oc16 kV16 dc16 pm16 cd16 ct16 : Value} {od16 an16 : Option Addr} {sl16 : Array (Option Value)}
    {f17 : Addr} {oc17 kV17 dc17 pm17 cd17 ct17 : Value} {od17 an17 : Option Addr} {sl17 : Array (Option Value)}
    {f18 : Addr} {oc18 kV18 dc18 pm18 cd18 ct18 : Value} {od18 an18 : Option Addr} {sl18 : Array (Option Value)}
    {f19 : Addr} {oc19 kV19 dc19 pm19 cd19 ct19 : Value} {od19 an19 : Option Addr} {sl19 : Array (Option Value)}
    {f20 : Addr} {oc20 kV20 dc20 pm20 cd20 ct20 : Value} {od20 an20 : Option Addr} {sl20 : Array (Option Value)}
    {f21 : Addr} {oc21 kV21 dc21 pm21 cd21 ct21 : Value} {od21 an21 : Option Addr} {sl21 : Array (Option Value)}
    {f22 : Addr} {oc22 kV22 dc22 pm22 cd22 ct22 : Value} {od22 an22 : Option Addr} {sl22 : Array (Option Value)}
    {f23 : Addr} {oc23 kV23 dc23 pm23 cd23 ct23 : Value} {od23 an23 : Option Addr} {sl23 : Array (Option Value)}
    {f24 : Addr} {oc24 kV24 dc24 pm24 cd24 ct24 : Value} {od24 an24 : Option Addr} {sl24 : Array (Option Value)}
    {f25 : Addr} {oc25 kV25 dc25 pm25 cd25 ct25 : Value} {od25 an25 : Option Addr} {sl25 : Array (Option Value)}
    {t_LETTERS : Tok}
    {t_MOST_CHANGE : Tok}
    {t_MOST_LEAST : Tok}
    {t_MOST_LETTERS : Tok}
    {t_MOST_MOVES : Tok}
    {t_MOST_PLACES : Tok}
    {W : Addr}
    {C0 N0 I0 T0 cda0 cc0 : Addr} {nm0 q0 : Str} {bs0 : List Value} {sn0 : List Str} {sub0 : List Value} {ab0 : Bool} {col0 : Option Bool} {dd0 : Option Addr} {x00 x10 x20 x30 x50 : Option Value} {ioc0 ikV0 idc0 ipm0 ict0 ccl0 ccl20 tcl0 : Value} {iod0 ian0 cdd0 cld0 tod0 : Option Addr} {isl0 ccs0 csl0 tsl0 : Array (Option Value)} {vs0 : Array Value} {n0 : Nat} {file0 : Str} {tf0 : Tok}
    {C1 N1 I1 T1 cda1 cc1 : Addr} {nm1 q1 : Str} {bs1 : List Value} {sn1 : List Str} {sub1 : List Value} {ab1 : Bool} {col1 : Option Bool} {dd1 : Option Addr} {x01 x11 x21 x31 x51 : Option Value} {ioc1 ikV1 idc1 ipm1 ict1 ccl1 ccl21 tcl1 : Value} {iod1 ian1 cdd1 cld1 tod1 : Option Addr} {isl1 ccs1 csl1 tsl1 : Array (Option Value)} {vs1 : Array Value} {n1 : Nat} {file1 : Str} {tf1 : Tok}
    {C2 N2 I2 T2 cda2 cc2 : Addr} {nm2 q2 : Str} {bs2 : List Value} {sn2 : List Str} {sub2 : List Value} {ab2 : Bool} {col2 : Option Bool} {dd2 : Option Addr} {x02 x12 x22 x32 x52 : Option Value} {ioc2 ikV2 idc2 ipm2 ict2 ccl2 ccl22 tcl2 : Value} {iod2 ian2 cdd2 cld2 tod2 : Option Addr} {isl2 ccs2 csl2 tsl2 : Array (Option Value)} {vs2 : Array Value} {n2 : Nat} {file2 : Str} {tf2 : Tok}
    {C3 N3 I3 T3 cda3 cc3 : Addr} {nm3 q3 : Str} {bs3 : List Value} {sn3 : List Str} {sub3 : List Value} {ab3 : Bool} {col3 : Option Bool} {dd3 : Option Addr} {x03 x13 x23 x33 x53 : Option Value} {ioc3 ikV3 idc3 ipm3 ict3 ccl3 ccl23 tcl3 : Value} {iod3 ian3 cdd3 cld3 tod3 : Option Addr} {isl3 ccs3 csl3 tsl3 : Array (Option Value)} {vs3 : Array Value} {n3 : Nat} {file3 : Str} {tf3 : Tok}
    (aK0 : PySem.W.nsIn K mainGlobals "Program" = some (some (.ref K0)))
    (a0 : PySem.W.nsIn K mainGlobals "_law_hash" = some (some (.ref f0)))
    (l0 : K.lookup f0 = some ⟨oc0, od0, .func (PySem.W.fnOf "_law_hash" "_law_hash" (defArgs s_law_hash) (defBody s_law_hash) (defScope s_law_hash) .none kV0 dc0 pm0 an0 cd0 ct0), sl0⟩)
    (c0 : PySem.W.codeIn K cd0 "_law_hash" = true)
    (k0 : PySem.W.keepIn K (.ref f0) = true)
    (a1 : PySem.W.nsIn K mainGlobals "_law_random" = some (some (.ref f1)))
    (l1 : K.lookup f1 = some ⟨oc1, od1, .func (PySem.W.fnOf "_law_random" "_law_random" (defArgs s_law_random) (defBody s_law_random) (defScope s_law_random) .none kV1 dc1 pm1 an1 cd1 ct1), sl1⟩)
    (c1 : PySem.W.codeIn K cd1 "_law_random" = true)
    (k1 : PySem.W.keepIn K (.ref f1) = true)
    (a2 : PySem.W.nsIn K mainGlobals "_law_bent" = some (some (.ref f2)))
    (l2 : K.lookup f2 = some ⟨oc2, od2, .func (PySem.W.fnOf "_law_bent" "_law_bent" (defArgs s_law_bent) (defBody s_law_bent) (defScope s_law_bent) .none kV2 dc2 pm2 an2 cd2 ct2), sl2⟩)
    (c2 : PySem.W.codeIn K cd2 "_law_bent" = true)
    (k2 : PySem.W.keepIn K (.ref f2) = true)
    (a3 : PySem.W.nsIn K mainGlobals "_law_moves_drawn" = some (some (.ref f3)))
    (l3 : K.lookup f3 = some ⟨oc3, od3, .func (PySem.W.fnOf "_law_moves_drawn" "_law_moves_drawn" (defArgs s_law_moves_drawn) (defBody s_law_moves_drawn) (defScope s_law_moves_drawn) .none kV3 dc3 pm3 an3 cd3 ct3), sl3⟩)
    (c3 : PySem.W.codeIn K cd3 "_law_moves_drawn" = true)
    (k3 : PySem.W.keepIn K (.ref f3) = true)
    (a4 : PySem.W.nsIn K mainGlobals "_law_drawn" = some (some (.ref f4)))
    (l4 : K.lookup f4 = some ⟨oc4, od4, .func (PySem.W.fnOf "_law_drawn" "_law_drawn" (defArgs s_law_drawn) (defBody s_law_drawn) (defScope s_law_drawn) .none kV4 dc4 pm4 an4 cd4 ct4), sl4⟩)
    (c4 : PySem.W.codeIn K cd4 "_law_drawn" = true)
    (k4 : PySem.W.keepIn K (.ref f4) = true)
    (a5 : PySem.W.nsIn K mainGlobals "_law_cell" = some (some (.ref f5)))
    (l5 : K.lookup f5 = some ⟨oc5, od5, .func (PySem.W.fnOf "_law_cell" "_law_cell" (defArgs s_law_cell) (defBody s_law_cell) (defScope s_law_cell) .none kV5 dc5 pm5 an5 cd5 ct5), sl5⟩)
    (c5 : PySem.W.codeIn K cd5 "_law_cell" = true)
    (k5 : PySem.W.keepIn K (.ref f5) = true)
    (a6 : PySem.W.nsIn K mainGlobals "_law_generator" = some (some (.ref f6)))
    (l6 : K.lookup f6 = some ⟨oc6, od6, .func (PySem.W.fnOf "_law_generator" "_law_generator" (defArgs s_law_generator) (defBody s_law_generator) (defScope s_law_generator) .none kV6 dc6 pm6 an6 cd6 ct6), sl6⟩)
    (c6 : PySem.W.codeIn K cd6 "_law_generator" = true)
    (k6 : PySem.W.keepIn K (.ref f6) = true)
    (a7 : PySem.W.nsIn K mainGlobals "is_whole" = some (some (.ref f7)))
    (l7 : K.lookup f7 = some ⟨oc7, od7, .func (PySem.W.fnOf "is_whole" "is_whole" (defArgs s_is_whole) (defBody s_is_whole) (defScope s_is_whole) .none kV7 dc7 pm7 an7 cd7 ct7), sl7⟩)
    (c7 : PySem.W.codeIn K cd7 "is_whole" = true)
    (k7 : PySem.W.keepIn K (.ref f7) = true)
    (a8 : PySem.W.nsIn K mainGlobals "is_within" = some (some (.ref f8)))
    (l8 : K.lookup f8 = some ⟨oc8, od8, .func (PySem.W.fnOf "is_within" "is_within" (defArgs s_is_within) (defBody s_is_within) (defScope s_is_within) .none kV8 dc8 pm8 an8 cd8 ct8), sl8⟩)
    (c8 : PySem.W.codeIn K cd8 "is_within" = true)
    (k8 : PySem.W.keepIn K (.ref f8) = true)
    (a9 : PySem.W.nsIn K mainGlobals "is_move" = some (some (.ref f9)))
    (l9 : K.lookup f9 = some ⟨oc9, od9, .func (PySem.W.fnOf "is_move" "is_move" (defArgs s_is_move) (defBody s_is_move) (defScope s_is_move) .none kV9 dc9 pm9 an9 cd9 ct9), sl9⟩)
    (c9 : PySem.W.codeIn K cd9 "is_move" = true)
    (k9 : PySem.W.keepIn K (.ref f9) = true)
    (a10 : PySem.W.nsIn K mainGlobals "is_name" = some (some (.ref f10)))
    (l10 : K.lookup f10 = some ⟨oc10, od10, .func (PySem.W.fnOf "is_name" "is_name" (defArgs s_is_name) (defBody s_is_name) (defScope s_is_name) .none kV10 dc10 pm10 an10 cd10 ct10), sl10⟩)
    (c10 : PySem.W.codeIn K cd10 "is_name" = true)
    (k10 : PySem.W.keepIn K (.ref f10) = true)
    (a11 : PySem.W.findIn K (.ref K0) "__init__" = some (some (.ref f11)))
    (fn11 : PySem.W.isFn K (.ref f11) = true)
    (l11 : K.lookup f11 = some ⟨oc11, od11, .func (PySem.W.fnOf "__init__" "Program.__init__" (defArgs s_Program_init) (defBody s_Program_init) (defScope s_Program_init) .none kV11 dc11 pm11 an11 cd11 ct11), sl11⟩)
    (c11 : PySem.W.codeIn K cd11 "Program.__init__" = true)
    (k11 : PySem.W.keepIn K (.ref f11) = true)
    (a12 : PySem.W.nsIn K mainGlobals "_law_program" = some (some (.ref f12)))
    (l12 : K.lookup f12 = some ⟨oc12, od12, .func (PySem.W.fnOf "_law_program" "_law_program" (defArgs s_law_program) (defBody s_law_program) (defScope s_law_program) .none kV12 dc12 pm12 an12 cd12 ct12), sl12⟩)
    (c12 : PySem.W.codeIn K cd12 "_law_program" = true)
    (k12 : PySem.W.keepIn K (.ref f12) = true)
    (a13 : PySem.W.findIn K (.ref K0) "__eq__" = some (some (.ref f13)))
    (fn13 : PySem.W.isFn K (.ref f13) = true)
    (l13 : K.lookup f13 = some ⟨oc13, od13, .func (PySem.W.fnOf "__eq__" "Program.__eq__" (defArgs s_Program_eq) (defBody s_Program_eq) (defScope s_Program_eq) .none kV13 dc13 pm13 an13 cd13 ct13), sl13⟩)
    (c13 : PySem.W.codeIn K cd13 "Program.__eq__" = true)
    (k13 : PySem.W.keepIn K (.ref f13) = true)
    (a14 : PySem.W.nsIn K mainGlobals "_law_move_in" = some (some (.ref f14)))
    (l14 : K.lookup f14 = some ⟨oc14, od14, .func (PySem.W.fnOf "_law_move_in" "_law_move_in" (defArgs s_law_move_in) (defBody s_law_move_in) (defScope s_law_move_in) .none kV14 dc14 pm14 an14 cd14 ct14), sl14⟩)
    (c14 : PySem.W.codeIn K cd14 "_law_move_in" = true)
    (k14 : PySem.W.keepIn K (.ref f14) = true)
    (a15 : PySem.W.nsIn K mainGlobals "_law_due" = some (some (.ref f15)))
    (l15 : K.lookup f15 = some ⟨oc15, od15, .func (PySem.W.fnOf "_law_due" "_law_due" (defArgs s_law_due) (defBody s_law_due) (defScope s_law_due) .none kV15 dc15 pm15 an15 cd15 ct15), sl15⟩)
    (c15 : PySem.W.codeIn K cd15 "_law_due" = true)
    (k15 : PySem.W.keepIn K (.ref f15) = true)
    (a16 : PySem.W.nsIn K mainGlobals "signed" = some (some (.ref f16)))
    (l16 : K.lookup f16 = some ⟨oc16, od16, .func (PySem.W.fnOf "signed" "signed" (defArgs s_signed) (defBody s_signed) (defScope s_signed) .none kV16 dc16 pm16 an16 cd16 ct16), sl16⟩)
    (c16 : PySem.W.codeIn K cd16 "signed" = true)
    (k16 : PySem.W.keepIn K (.ref f16) = true)
    (a17 : PySem.W.nsIn K mainGlobals "move_in" = some (some (.ref f17)))
    (l17 : K.lookup f17 = some ⟨oc17, od17, .func (PySem.W.fnOf "move_in" "move_in" (defArgs s_move_in) (defBody s_move_in) (defScope s_move_in) .none kV17 dc17 pm17 an17 cd17 ct17), sl17⟩)
    (c17 : PySem.W.codeIn K cd17 "move_in" = true)
    (k17 : PySem.W.keepIn K (.ref f17) = true)
    (a18 : PySem.W.nsIn K mainGlobals "parts_of" = some (some (.ref f18)))
    (l18 : K.lookup f18 = some ⟨oc18, od18, .func (PySem.W.fnOf "parts_of" "parts_of" (defArgs s_parts_of) (defBody s_parts_of) (defScope s_parts_of) .none kV18 dc18 pm18 an18 cd18 ct18), sl18⟩)
    (c18 : PySem.W.codeIn K cd18 "parts_of" = true)
    (k18 : PySem.W.keepIn K (.ref f18) = true)
    (a19 : PySem.W.nsIn K mainGlobals "program_in" = some (some (.ref f19)))
    (l19 : K.lookup f19 = some ⟨oc19, od19, .func (PySem.W.fnOf "program_in" "program_in" (defArgs s_program_in) (defBody s_program_in) (defScope s_program_in) .none kV19 dc19 pm19 an19 cd19 ct19), sl19⟩)
    (c19 : PySem.W.codeIn K cd19 "program_in" = true)
    (k19 : PySem.W.keepIn K (.ref f19) = true)
    (a20 : PySem.W.nsIn K mainGlobals "read_program" = some (some (.ref f20)))
    (l20 : K.lookup f20 = some ⟨oc20, od20, .func (PySem.W.fnOf "read_program" "read_program" (defArgs s_read_program) (defBody s_read_program) (defScope s_read_program) .none kV20 dc20 pm20 an20 cd20 ct20), sl20⟩)
    (c20 : PySem.W.codeIn K cd20 "read_program" = true)
    (k20 : PySem.W.keepIn K (.ref f20) = true)
    (a21 : PySem.W.nsIn K mainGlobals "_law_right" = some (some (.ref f21)))
    (l21 : K.lookup f21 = some ⟨oc21, od21, .func (PySem.W.fnOf "_law_right" "_law_right" (defArgs s_law_right) (defBody s_law_right) (defScope s_law_right) .none kV21 dc21 pm21 an21 cd21 ct21), sl21⟩)
    (c21 : PySem.W.codeIn K cd21 "_law_right" = true)
    (k21 : PySem.W.keepIn K (.ref f21) = true)
    (a22 : PySem.W.findIn K (.ref K0) "places" = some (some (.ref f22)))
    (fn22 : PySem.W.isFn K (.ref f22) = true)
    (l22 : K.lookup f22 = some ⟨oc22, od22, .func (PySem.W.fnOf "places" "Program.places" (defArgs s_Program_places) (defBody s_Program_places) (defScope s_Program_places) .none kV22 dc22 pm22 an22 cd22 ct22), sl22⟩)
    (c22 : PySem.W.codeIn K cd22 "Program.places" = true)
    (k22 : PySem.W.keepIn K (.ref f22) = true)
    (a23 : PySem.W.nsIn K mainGlobals "check_program" = some (some (.ref f23)))
    (l23 : K.lookup f23 = some ⟨oc23, od23, .func (PySem.W.fnOf "check_program" "check_program" (defArgs s_check_program) (defBody s_check_program) (defScope s_check_program) .none kV23 dc23 pm23 an23 cd23 ct23), sl23⟩)
    (c23 : PySem.W.codeIn K cd23 "check_program" = true)
    (k23 : PySem.W.keepIn K (.ref f23) = true)
    (a24 : PySem.W.nsIn K mainGlobals "text_of" = some (some (.ref f24)))
    (l24 : K.lookup f24 = some ⟨oc24, od24, .func (PySem.W.fnOf "text_of" "text_of" (defArgs s_text_of) (defBody s_text_of) (defScope s_text_of) .none kV24 dc24 pm24 an24 cd24 ct24), sl24⟩)
    (c24 : PySem.W.codeIn K cd24 "text_of" = true)
    (k24 : PySem.W.keepIn K (.ref f24) = true)
    (a25 : PySem.W.nsIn K mainGlobals "law" = some (some (.ref f25)))
    (l25 : K.lookup f25 = some ⟨oc25, od25, .func (PySem.W.fnOf "law" "law" (defArgs s_law) (defBody s_law) (defScope s_law) .none kV25 dc25 pm25 an25 cd25 ct25), sl25⟩)
    (c25 : PySem.W.codeIn K cd25 "law" = true)
    (k25 : PySem.W.keepIn K (.ref f25) = true)
    (z_bool : PySem.W.nsIn K mainGlobals "bool" = some none)
    (z_enumerate : PySem.W.nsIn K mainGlobals "enumerate" = some none)
    (z_int : PySem.W.nsIn K mainGlobals "int" = some none)
    (z_isinstance : PySem.W.nsIn K mainGlobals "isinstance" = some none)
    (z_len : PySem.W.nsIn K mainGlobals "len" = some none)
    (z_list : PySem.W.nsIn K mainGlobals "list" = some none)
    (z_max : PySem.W.nsIn K mainGlobals "max" = some none)
    (z_min : PySem.W.nsIn K mainGlobals "min" = some none)
    (z_range : PySem.W.nsIn K mainGlobals "range" = some none)
    (z_repr : PySem.W.nsIn K mainGlobals "repr" = some none)
    (z_str : PySem.W.nsIn K mainGlobals "str" = some none)
    (z_tuple : PySem.W.nsIn K mainGlobals "tuple" = some none)
    (g_LETTERS : PySem.W.nsIn K mainGlobals "LETTERS" = some (some (.str "abcdefghijklmnopqrstuvwxyz" t_LETTERS)))
    (g_MOST_CHANGE : PySem.W.nsIn K mainGlobals "MOST_CHANGE" = some (some (.int 4 t_MOST_CHANGE)))
    (g_MOST_LEAST : PySem.W.nsIn K mainGlobals "MOST_LEAST" = some (some (.int 8 t_MOST_LEAST)))
    (g_MOST_LETTERS : PySem.W.nsIn K mainGlobals "MOST_LETTERS" = some (some (.int 8 t_MOST_LETTERS)))
    (g_MOST_MOVES : PySem.W.nsIn K mainGlobals "MOST_MOVES" = some (some (.int 10 t_MOST_MOVES)))
    (g_MOST_PLACES : PySem.W.nsIn K mainGlobals "MOST_PLACES" = some (some (.int 4 t_MOST_PLACES)))
    (spc : PySem.W.specialIn K (.builtin "object.__class__") "__get__" = some (some (.builtin "getset_descriptor.__get__")))
    (tkc : PySem.W.takesIn K (.builtin "object.__class__") = some true)
    (no_Tested : PySem.W.nsIn K mainGlobals "Tested" = some none)
    (no_Live : PySem.W.nsIn K mainGlobals "Live" = some none)
    (no_Library : PySem.W.nsIn K mainGlobals "Library" = some none)
    (no_Window : PySem.W.nsIn K mainGlobals "Window" = some none)
    (no_Book : PySem.W.nsIn K mainGlobals "Book" = some none)
    (no_Cover : PySem.W.nsIn K mainGlobals "Cover" = some none)
    (no_Below : PySem.W.nsIn K mainGlobals "Below" = some none)
    (pg0 : PySem.W.plainGet K K0 Str.empty = true)
    (hdK0 : PySem.W.hasDictIn K K0 = true)
    (po0 : PySem.W.plainOver K K0 = true)
    (saK0 : PySem.W.findIn K (.ref K0) "__setattr__" = some (some (.builtin "object.__setattr__")))
    (mkK0 : PySem.W.makesIn K K0 = true)
    (kpK0 : PySem.W.keepIn K (.ref K0) = true)
    (neqK0 : PySem.W.findIn K (.ref K0) "__ne__" = some (some (.builtin "object.__ne__")))
    (it0_NoneType : PySem.W.subIn K (.ref K0) (.type "NoneType") = some false)
    (it0_int : PySem.W.subIn K (.ref K0) (.type "int") = some false)
    (it0_str : PySem.W.subIn K (.ref K0) (.type "str") = some false)
    (it0_list : PySem.W.subIn K (.ref K0) (.type "list") = some false)
    (it0_dict : PySem.W.subIn K (.ref K0) (.type "dict") = some false)
    (mr0_list : PySem.W.mroIn K K0 (.type "list") = some false)
    (mr0_dict : PySem.W.mroIn K K0 (.type "dict") = some false)
    (haK0 : PySem.W.findIn K (.ref K0) "__class__" = some (some (.builtin "object.__class__")))
    (moK0 : PySem.W.mroIn K K0 (.type "object") = some true)
    (tyK0 : PySem.W.typeIn K (.ref K0) = some (.type "type"))
    (isK0 : PySem.W.isClsIn K K0 = true)
    (sK0_0 : PySem.W.subIn K (.ref K0) (.ref K0) = some true)
    (nf0_folio : PySem.W.findIn K (.ref K0) "folio" = some none)
    (nf0_stands : PySem.W.findIn K (.ref K0) "stands" = some none)
    (nf0_steps : PySem.W.findIn K (.ref K0) "steps" = some none)
    (z0super : PySem.W.nsIn K mainGlobals "super" = some none)
    (aW : PySem.W.nsIn K mainGlobals "WalkError" = some (some (.ref W)))
    (isW : PySem.W.isClsIn K W = true)
    (tyW : PySem.W.typeIn K (.ref W) = some (.type "type"))
    (exW : PySem.W.subIn K (.ref W) (.type "BaseException") = some true)
    (thc : PySem.W.nsIn K PySem.cStatics "thirdparty.any" = some none)
    (no_InvalidNumber : PySem.W.nsIn K mainGlobals "InvalidNumber" = some none)
    (no_InvalidRow : PySem.W.nsIn K mainGlobals "InvalidRow" = some none)
    (no_InvalidName : PySem.W.nsIn K mainGlobals "InvalidName" = some none)
    (no_TakenName : PySem.W.nsIn K mainGlobals "TakenName" = some none)
    (no_UnknownName : PySem.W.nsIn K mainGlobals "UnknownName" = some none)
    (aC0 : PySem.W.nsIn K mainGlobals "InvalidList" = some (some (.ref C0)))
    (xC0 : K.lookup C0 = some (excClassObj nm0 q0 C0 N0 bs0 [.ref W, .type "ValueError", .type "Exception", .type "BaseException", .type "object"] true sn0 sub0 ab0 col0 dd0 x00 x10 x20 x30 x50 "ValueError.__new__"))
    (sa0 : PySem.W.findIn K (.ref C0) "__setattr__" = some (some (.builtin "object.__setattr__")))
    (ga0 : PySem.W.findIn K (.ref C0) "__getattribute__" = some (some (.builtin "BaseException.__getattribute__")))
    (gg0 : PySem.W.findIn K (.ref C0) "__getattr__" = some (none))
    (nov0 : PySem.W.findIn K (.ref C0) "value" = some (none))
    (non0 : PySem.W.findIn K (.ref C0) "name" = some (none))
    (ha0 : PySem.W.findIn K (.ref C0) "__class__" = some (some (.builtin "object.__class__")))
    (iC0 : PySem.W.findIn K (.ref C0) "__init__" = some (some (.ref I0)))
    (mo0 : PySem.W.mroIn K C0 (.type "object") = some true)
    (mr0 : PySem.W.mroIn K C0 (.ref C0) = some true)
    (ve0 : PySem.W.subIn K (.ref C0) (.type "ValueError") = some true)
    (ex0 : PySem.W.subIn K (.ref C0) (.type "BaseException") = some true)
    (sW0 : PySem.W.subIn K (.ref C0) (.ref W) = some true)
    (tI0 : PySem.W.typeIn K (.ref I0) = some (.type "function"))
    (kC0 : PySem.W.keepIn K (.ref C0) = true)
    (ty0 : PySem.W.typeIn K (.ref C0) = some (.type "type"))
    (hd0 : PySem.W.hasDictIn K C0 = true)
    (is0 : PySem.W.isClsIn K C0 = true)
    (su0 : PySem.W.ks_superIn K C0 C0 "__init__" = some (some (.builtin "ValueError.__init__")))
    (lI0 : K.lookup I0 = some ⟨ioc0, iod0, .func (PySem.W.ksFn "__init__" "InvalidList.__init__" (defArgs (inClass (top 2) 0)) (defBody (inClass (top 2) 0)) (defScope (inClass (top 2) 0)) (.ref T0) ikV0 idc0 ipm0 ian0 (.ref cda0) ict0 cc0), isl0⟩)
    (cI0 : PySem.W.codeIn K (.ref cda0) "InvalidList.__init__" = true)
    (lc0 : K.lookup cda0 = some ⟨ccl0, cdd0, .fields vs0, ccs0⟩)
    (v20 : vs0[2]? = some (.str file0 tf0))
    (fi0 : (P.main.file == file0) = true)
    (lcc0 : K.lookup cc0 = some ⟨ccl20, cld0, .cell (some (.ref C0)), csl0⟩)
    (lT0 : K.lookup T0 = some ⟨tcl0, tod0, .seq #[Value.none] n0, tsl0⟩)
    (aC1 : PySem.W.nsIn K mainGlobals "InvalidItem" = some (some (.ref C1)))
    (xC1 : K.lookup C1 = some (excClassObj nm1 q1 C1 N1 bs1 [.ref W, .type "ValueError", .type "Exception", .type "BaseException", .type "object"] true sn1 sub1 ab1 col1 dd1 x01 x11 x21 x31 x51 "ValueError.__new__"))
    (sa1 : PySem.W.findIn K (.ref C1) "__setattr__" = some (some (.builtin "object.__setattr__")))
    (ga1 : PySem.W.findIn K (.ref C1) "__getattribute__" = some (some (.builtin "BaseException.__getattribute__")))
    (gg1 : PySem.W.findIn K (.ref C1) "__getattr__" = some (none))
    (nov1 : PySem.W.findIn K (.ref C1) "value" = some (none))
    (non1 : PySem.W.findIn K (.ref C1) "name" = some (none))
    (ha1 : PySem.W.findIn K (.ref C1) "__class__" = some (some (.builtin "object.__class__")))
    (iC1 : PySem.W.findIn K (.ref C1) "__init__" = some (some (.ref I1)))
    (mo1 : PySem.W.mroIn K C1 (.type "object") = some true)
    (mr1 : PySem.W.mroIn K C1 (.ref C1) = some true)
    (ve1 : PySem.W.subIn K (.ref C1) (.type "ValueError") = some true)
    (ex1 : PySem.W.subIn K (.ref C1) (.type "BaseException") = some true)
    (sW1 : PySem.W.subIn K (.ref C1) (.ref W) = some true)
    (tI1 : PySem.W.typeIn K (.ref I1) = some (.type "function"))
    (kC1 : PySem.W.keepIn K (.ref C1) = true)
    (ty1 : PySem.W.typeIn K (.ref C1) = some (.type "type"))
    (hd1 : PySem.W.hasDictIn K C1 = true)
    (is1 : PySem.W.isClsIn K C1 = true)
    (su1 : PySem.W.ks_superIn K C1 C1 "__init__" = some (some (.builtin "ValueError.__init__")))
    (lI1 : K.lookup I1 = some ⟨ioc1, iod1, .func (PySem.W.ksFn "__init__" "InvalidItem.__init__" (defArgs (inClass (top 3) 0)) (defBody (inClass (top 3) 0)) (defScope (inClass (top 3) 0)) (.ref T1) ikV1 idc1 ipm1 ian1 (.ref cda1) ict1 cc1), isl1⟩)
    (cI1 : PySem.W.codeIn K (.ref cda1) "InvalidItem.__init__" = true)
    (lc1 : K.lookup cda1 = some ⟨ccl1, cdd1, .fields vs1, ccs1⟩)
    (v21 : vs1[2]? = some (.str file1 tf1))
    (fi1 : (P.main.file == file1) = true)
    (lcc1 : K.lookup cc1 = some ⟨ccl21, cld1, .cell (some (.ref C1)), csl1⟩)
    (lT1 : K.lookup T1 = some ⟨tcl1, tod1, .seq #[Value.none] n1, tsl1⟩)
    (aC2 : PySem.W.nsIn K mainGlobals "InvalidProgram" = some (some (.ref C2)))
    (xC2 : K.lookup C2 = some (excClassObj nm2 q2 C2 N2 bs2 [.ref W, .type "ValueError", .type "Exception", .type "BaseException", .type "object"] true sn2 sub2 ab2 col2 dd2 x02 x12 x22 x32 x52 "ValueError.__new__"))
    (sa2 : PySem.W.findIn K (.ref C2) "__setattr__" = some (some (.builtin "object.__setattr__")))
    (ga2 : PySem.W.findIn K (.ref C2) "__getattribute__" = some (some (.builtin "BaseException.__getattribute__")))
    (gg2 : PySem.W.findIn K (.ref C2) "__getattr__" = some (none))
    (nov2 : PySem.W.findIn K (.ref C2) "value" = some (none))
    (non2 : PySem.W.findIn K (.ref C2) "name" = some (none))
    (ha2 : PySem.W.findIn K (.ref C2) "__class__" = some (some (.builtin "object.__class__")))
    (iC2 : PySem.W.findIn K (.ref C2) "__init__" = some (some (.ref I2)))
    (mo2 : PySem.W.mroIn K C2 (.type "object") = some true)
    (mr2 : PySem.W.mroIn K C2 (.ref C2) = some true)
    (ve2 : PySem.W.subIn K (.ref C2) (.type "ValueError") = some true)
    (ex2 : PySem.W.subIn K (.ref C2) (.type "BaseException") = some true)
    (sW2 : PySem.W.subIn K (.ref C2) (.ref W) = some true)
    (tI2 : PySem.W.typeIn K (.ref I2) = some (.type "function"))
    (kC2 : PySem.W.keepIn K (.ref C2) = true)
    (ty2 : PySem.W.typeIn K (.ref C2) = some (.type "type"))
    (hd2 : PySem.W.hasDictIn K C2 = true)
    (is2 : PySem.W.isClsIn K C2 = true)
    (su2 : PySem.W.ks_superIn K C2 C2 "__init__" = some (some (.builtin "ValueError.__init__")))
    (lI2 : K.lookup I2 = some ⟨ioc2, iod2, .func (PySem.W.ksFn "__init__" "InvalidProgram.__init__" (defArgs (inClass (top 4) 0)) (defBody (inClass (top 4) 0)) (defScope (inClass (top 4) 0)) (.ref T2) ikV2 idc2 ipm2 ian2 (.ref cda2) ict2 cc2), isl2⟩)
    (cI2 : PySem.W.codeIn K (.ref cda2) "InvalidProgram.__init__" = true)
    (lc2 : K.lookup cda2 = some ⟨ccl2, cdd2, .fields vs2, ccs2⟩)
    (v22 : vs2[2]? = some (.str file2 tf2))
    (fi2 : (P.main.file == file2) = true)
    (lcc2 : K.lookup cc2 = some ⟨ccl22, cld2, .cell (some (.ref C2)), csl2⟩)
    (lT2 : K.lookup T2 = some ⟨tcl2, tod2, .seq #[Value.none] n2, tsl2⟩)
    (aC3 : PySem.W.nsIn K mainGlobals "InvalidText" = some (some (.ref C3)))
    (xC3 : K.lookup C3 = some (excClassObj nm3 q3 C3 N3 bs3 [.ref W, .type "ValueError", .type "Exception", .type "BaseException", .type "object"] true sn3 sub3 ab3 col3 dd3 x03 x13 x23 x33 x53 "ValueError.__new__"))
    (sa3 : PySem.W.findIn K (.ref C3) "__setattr__" = some (some (.builtin "object.__setattr__")))
    (ga3 : PySem.W.findIn K (.ref C3) "__getattribute__" = some (some (.builtin "BaseException.__getattribute__")))
    (gg3 : PySem.W.findIn K (.ref C3) "__getattr__" = some (none))
    (nov3 : PySem.W.findIn K (.ref C3) "value" = some (none))
    (non3 : PySem.W.findIn K (.ref C3) "name" = some (none))
    (ha3 : PySem.W.findIn K (.ref C3) "__class__" = some (some (.builtin "object.__class__")))
    (iC3 : PySem.W.findIn K (.ref C3) "__init__" = some (some (.ref I3)))
    (mo3 : PySem.W.mroIn K C3 (.type "object") = some true)
    (mr3 : PySem.W.mroIn K C3 (.ref C3) = some true)
    (ve3 : PySem.W.subIn K (.ref C3) (.type "ValueError") = some true)
    (ex3 : PySem.W.subIn K (.ref C3) (.type "BaseException") = some true)
    (sW3 : PySem.W.subIn K (.ref C3) (.ref W) = some true)
    (tI3 : PySem.W.typeIn K (.ref I3) = some (.type "function"))
    (kC3 : PySem.W.keepIn K (.ref C3) = true)
    (ty3 : PySem.W.typeIn K (.ref C3) = some (.type "type"))
    (hd3 : PySem.W.hasDictIn K C3 = true)
    (is3 : PySem.W.isClsIn K C3 = true)
    (su3 : PySem.W.ks_superIn K C3 C3 "__init__" = some (some (.builtin "ValueError.__init__")))
    (lI3 : K.lookup I3 = some ⟨ioc3, iod3, .func (PySem.W.ksFn "__init__" "InvalidText.__init__" (defArgs (inClass (top 5) 0)) (defBody (inClass (top 5) 0)) (defScope (inClass (top 5) 0)) (.ref T3) ikV3 idc3 ipm3 ian3 (.ref cda3) ict3 cc3), isl3⟩)
    (cI3 : PySem.W.codeIn K (.ref cda3) "InvalidText.__init__" = true)
    (lc3 : K.lookup cda3 = some ⟨ccl3, cdd3, .fields vs3, ccs3⟩)
    (v23 : vs3[2]? = some (.str file3 tf3))
    (fi3 : (P.main.file == file3) = true)
    (lcc3 : K.lookup cc3 = some ⟨ccl23, cld3, .cell (some (.ref C3)), csl3⟩)
    (lT3 : K.lookup T3 = some ⟨tcl3, tod3, .seq #[Value.none] n3, tsl3⟩)
    (tops : (P.main.scope.names.lookup ("super" : Str)).isSome = false)
    (s0_0 : PySem.W.subIn K (.ref C0) (.ref C0) = some true)
    (s0_1 : PySem.W.subIn K (.ref C0) (.ref C1) = some false)
    (ne0_1 : ¬ (C0 = C1))
    (s0_3 : PySem.W.subIn K (.ref C0) (.ref C3) = some false)
    (ne0_3 : ¬ (C0 = C3))
    (s1_0 : PySem.W.subIn K (.ref C1) (.ref C0) = some false)
    (ne1_0 : ¬ (C1 = C0))
    (s1_1 : PySem.W.subIn K (.ref C1) (.ref C1) = some true)
    (s1_3 : PySem.W.subIn K (.ref C1) (.ref C3) = some false)
    (ne1_3 : ¬ (C1 = C3))
    (s2_3 : PySem.W.subIn K (.ref C2) (.ref C3) = some false)
    (ne2_3 : ¬ (C2 = C3))
    (s3_3 : PySem.W.subIn K (.ref C3) (.ref C3) = some true)
    : ∃ fd : FuncData, (∀ (s : Shared) (v : Value), K.In s.heap → BindsTo s fd ⟨[v], []⟩ [("_law_script", v)]) ∧ ∀ (w : World) (base : Heap), FnG P w K mg base 11 fa fd ["_law_script"] (spM ⟨K, mg⟩ 1 M_law) := by
  have hfe : f25 = fa := Value.ref.inj (Option.some.inj ((PySem.W.mg_of X G a25).symm.trans hfa))
  subst hfe
  have mK0 : mg "Program" = some (.ref K0) := PySem.W.mg_of X G aK0
  have clK0 : L2.Cls K K0 := ⟨pg0, hdK0, po0, saK0⟩
  have icK0 : InsC K K0 := ⟨clK0, haK0, spc, tkc, moK0⟩
  have eqK0 : ∀ c, c ∈ CS → ∀ C, mg c = some (.ref C) → InsC K C ∧ PySem.W.kitOne K (.ref C) (.ref K0) = some (decide (c = "Program")) := by
    intro c hc C hC
    simp only [CS, List.mem_cons, List.not_mem_nil, or_false] at hc
    rcases hc with rfl | rfl | rfl | rfl | rfl | rfl | rfl | rfl
    · cases mK0.symm.trans hC
      rw [show decide (("Program" : Str) = "Program") = true by decide +kernel]
      exact ⟨icK0, kit_own isK0 tyK0 sK0_0 (fun _ => rfl)⟩
    · cases (PySem.W.mg_none_of X G no_Tested).symm.trans hC
    · cases (PySem.W.mg_none_of X G no_Live).symm.trans hC
    · cases (PySem.W.mg_none_of X G no_Library).symm.trans hC
    · cases (PySem.W.mg_none_of X G no_Window).symm.trans hC
    · cases (PySem.W.mg_none_of X G no_Book).symm.trans hC
    · cases (PySem.W.mg_none_of X G no_Cover).symm.trans hC
    · cases (PySem.W.mg_none_of X G no_Below).symm.trans hC
  have e0 : ExcC K C0 := ⟨ga0, gg0, ex0, hd0, ha0, spc, tkc, mo0⟩
  have mc0 : mg "InvalidList" = some (.ref C0) := PySem.W.mg_of X G aC0
  have o0 : OexC K C0 := ⟨⟨nm0, q0, N0, bs0, _, sn0, sub0, ab0, col0, dd0, x00, x10, x20, x30, x50, xC0, by first | rfl | decide +kernel⟩, sa0, ex0, ty0, kC0⟩
  have id0 : IniDef (prog := P) K "value" C0 I0 _ := ⟨⟨ioc0, ccl0, ccl20, iod0, cdd0, cld0, isl0, ccs0, csl0, _, _, file0, tf0, vs0, _, _, _, ikV0, idc0, ipm0, ict0, ian0, cda0, cc0, _, _, _, _, _, _, _, _, _, _, _, _, rfl, lI0, cI0, lc0, v20, fi0, tops, lcc0, rfl, rfl, ⟨rfl, rfl, rfl, rfl, by decide +kernel, rfl, rfl, rfl⟩, fun _ => rfl, fun _ => rfl, fun _ => rfl, fun _ => rfl, fun _ => rfl⟩⟩
  have i0 : Ini P K mg "value" C0 I0 _ := ⟨id0, .inl rfl, o0, iC0, tI0, su0, ve0, mr0, thc, nov0, PySem.W.mg_none_of X G z0super⟩
  have bi0 : Binds K (PySem.W.ksFn "__init__" "InvalidList.__init__" (defArgs (inClass (top 2) 0)) (defBody (inClass (top 2) 0)) (defScope (inClass (top 2) 0)) (.ref T0) ikV0 idc0 ipm0 ian0 (.ref cda0) ict0 cc0) ["self", "value"] [] := fun s us hK hl => match us, hl with | [_, _], _ => .of_defaults rfl (hK _ _ lT0) rfl rfl rfl
  have e1 : ExcC K C1 := ⟨ga1, gg1, ex1, hd1, ha1, spc, tkc, mo1⟩
  have mc1 : mg "InvalidItem" = some (.ref C1) := PySem.W.mg_of X G aC1
  have o1 : OexC K C1 := ⟨⟨nm1, q1, N1, bs1, _, sn1, sub1, ab1, col1, dd1, x01, x11, x21, x31, x51, xC1, by first | rfl | decide +kernel⟩, sa1, ex1, ty1, kC1⟩
  have id1 : IniDef (prog := P) K "value" C1 I1 _ := ⟨⟨ioc1, ccl1, ccl21, iod1, cdd1, cld1, isl1, ccs1, csl1, _, _, file1, tf1, vs1, _, _, _, ikV1, idc1, ipm1, ict1, ian1, cda1, cc1, _, _, _, _, _, _, _, _, _, _, _, _, rfl, lI1, cI1, lc1, v21, fi1, tops, lcc1, rfl, rfl, ⟨rfl, rfl, rfl, rfl, by decide +kernel, rfl, rfl, rfl⟩, fun _ => rfl, fun _ => rfl, fun _ => rfl, fun _ => rfl, fun _ => rfl⟩⟩
  have i1 : Ini P K mg "value" C1 I1 _ := ⟨id1, .inl rfl, o1, iC1, tI1, su1, ve1, mr1, thc, nov1, PySem.W.mg_none_of X G z0super⟩
  have bi1 : Binds K (PySem.W.ksFn "__init__" "InvalidItem.__init__" (defArgs (inClass (top 3) 0)) (defBody (inClass (top 3) 0)) (defScope (inClass (top 3) 0)) (.ref T1) ikV1 idc1 ipm1 ian1 (.ref cda1) ict1 cc1) ["self", "value"] [] := fun s us hK hl => match us, hl with | [_, _], _ => .of_defaults rfl (hK _ _ lT1) rfl rfl rfl
  have e2 : ExcC K C2 := ⟨ga2, gg2, ex2, hd2, ha2, spc, tkc, mo2⟩
  have mc2 : mg "InvalidProgram" = some (.ref C2) := PySem.W.mg_of X G aC2
  have o2 : OexC K C2 := ⟨⟨nm2, q2, N2, bs2, _, sn2, sub2, ab2, col2, dd2, x02, x12, x22, x32, x52, xC2, by first | rfl | decide +kernel⟩, sa2, ex2, ty2, kC2⟩
  have id2 : IniDef (prog := P) K "value" C2 I2 _ := ⟨⟨ioc2, ccl2, ccl22, iod2, cdd2, cld2, isl2, ccs2, csl2, _, _, file2, tf2, vs2, _, _, _, ikV2, idc2, ipm2, ict2, ian2, cda2, cc2, _, _, _, _, _, _, _, _, _, _, _, _, rfl, lI2, cI2, lc2, v22, fi2, tops, lcc2, rfl, rfl, ⟨rfl, rfl, rfl, rfl, by decide +kernel, rfl, rfl, rfl⟩, fun _ => rfl, fun _ => rfl, fun _ => rfl, fun _ => rfl, fun _ => rfl⟩⟩
  have i2 : Ini P K mg "value" C2 I2 _ := ⟨id2, .inl rfl, o2, iC2, tI2, su2, ve2, mr2, thc, nov2, PySem.W.mg_none_of X G z0super⟩
  have bi2 : Binds K (PySem.W.ksFn "__init__" "InvalidProgram.__init__" (defArgs (inClass (top 4) 0)) (defBody (inClass (top 4) 0)) (defScope (inClass (top 4) 0)) (.ref T2) ikV2 idc2 ipm2 ian2 (.ref cda2) ict2 cc2) ["self", "value"] [] := fun s us hK hl => match us, hl with | [_, _], _ => .of_defaults rfl (hK _ _ lT2) rfl rfl rfl
  have e3 : ExcC K C3 := ⟨ga3, gg3, ex3, hd3, ha3, spc, tkc, mo3⟩
  have mc3 : mg "InvalidText" = some (.ref C3) := PySem.W.mg_of X G aC3
  have o3 : OexC K C3 := ⟨⟨nm3, q3, N3, bs3, _, sn3, sub3, ab3, col3, dd3, x03, x13, x23, x33, x53, xC3, by first | rfl | decide +kernel⟩, sa3, ex3, ty3, kC3⟩
  have id3 : IniDef (prog := P) K "value" C3 I3 _ := ⟨⟨ioc3, ccl3, ccl23, iod3, cdd3, cld3, isl3, ccs3, csl3, _, _, file3, tf3, vs3, _, _, _, ikV3, idc3, ipm3, ict3, ian3, cda3, cc3, _, _, _, _, _, _, _, _, _, _, _, _, rfl, lI3, cI3, lc3, v23, fi3, tops, lcc3, rfl, rfl, ⟨rfl, rfl, rfl, rfl, by decide +kernel, rfl, rfl, rfl⟩, fun _ => rfl, fun _ => rfl, fun _ => rfl, fun _ => rfl, fun _ => rfl⟩⟩
  have i3 : Ini P K mg "value" C3 I3 _ := ⟨id3, .inl rfl, o3, iC3, tI3, su3, ve3, mr3, thc, nov3, PySem.W.mg_none_of X G z0super⟩
  have bi3 : Binds K (PySem.W.ksFn "__init__" "InvalidText.__init__" (defArgs (inClass (top 5) 0)) (defBody (inClass (top 5) 0)) (defScope (inClass (top 5) 0)) (.ref T3) ikV3 idc3 ipm3 ian3 (.ref cda3) ict3 cc3) ["self", "value"] [] := fun s us hK hl => match us, hl with | [_, _], _ => .of_defaults rfl (hK _ _ lT3) rfl rfl rfl
  have eq3 : ∀ c, c ∈ ES → ∀ C, mg c = some (.ref C) → ExcC K C ∧ PySem.W.kitOne K (.ref C) (.ref C3) = some (decide (c = "InvalidText")) := by
    intro c hc C hC
    simp only [ES, List.mem_cons, List.not_mem_nil, or_false] at hc
    rcases hc with rfl | rfl | rfl | rfl | rfl | rfl | rfl | rfl | rfl
    · cases (PySem.W.mg_none_of X G no_InvalidNumber).symm.trans hC
    · cases mc0.symm.trans hC
      rw [show decide (("InvalidList" : Str) = "InvalidText") = false by decide +kernel]
      exact ⟨e0, kit_own is3 ty3 s0_3 (fun z => absurd z ne0_3)⟩
    · cases mc1.symm.trans hC
      rw [show decide (("InvalidItem" : Str) = "InvalidText") = false by decide +kernel]
      exact ⟨e1, kit_own is3 ty3 s1_3 (fun z => absurd z ne1_3)⟩
    · cases mc2.symm.trans hC
      rw [show decide (("InvalidProgram" : Str) = "InvalidText") = false by decide +kernel]
      exact ⟨e2, kit_own is3 ty3 s2_3 (fun z => absurd z ne2_3)⟩
    · cases (PySem.W.mg_none_of X G no_InvalidRow).symm.trans hC
    · cases mc3.symm.trans hC
      rw [show decide (("InvalidText" : Str) = "InvalidText") = true by decide +kernel]
      exact ⟨e3, kit_own is3 ty3 s3_3 (fun _ => rfl)⟩
    · cases (PySem.W.mg_none_of X G no_InvalidName).symm.trans hC
    · cases (PySem.W.mg_none_of X G no_TakenName).symm.trans hC
    · cases (PySem.W.mg_none_of X G no_UnknownName).symm.trans hC
  have em_InvalidItem : ∀ e C, inB ["InvalidItem"] e = true → mg e = some (.ref C) → PySem.W.exmOne K (.ref C) (.ref C1) = some true := by
    intro c C hc hC
    have hc := inB_mem hc
    rw [List.mem_singleton] at hc
    subst hc
    cases mc1.symm.trans hC; exact exm_by ex1 is1 ty1 s1_1
  have em_InvalidList : ∀ e C, inB ["InvalidList"] e = true → mg e = some (.ref C) → PySem.W.exmOne K (.ref C) (.ref C0) = some true := by
    intro c C hc hC
    have hc := inB_mem hc
    rw [List.mem_singleton] at hc
    subst hc
    cases mc0.symm.trans hC; exact exm_by ex0 is0 ty0 s0_0
  have em_InvalidText : ∀ e C, inB ["InvalidText"] e = true → mg e = some (.ref C) → PySem.W.exmOne K (.ref C) (.ref C3) = some true := by
    intro c C hc hC
    have hc := inB_mem hc
    rw [List.mem_singleton] at hc
    subst hc
    cases mc3.symm.trans hC; exact exm_by ex3 is3 ty3 s3_3
  have emW : ∀ e C, inB ES e = true → mg e = some (.ref C) → PySem.W.exmOne K (.ref C) (.ref W) = some true := by
    intro c C hc hC
    have hc := inB_mem hc
    simp only [ES, List.mem_cons, List.not_mem_nil, or_false] at hc
    rcases hc with rfl | rfl | rfl | rfl | rfl | rfl | rfl | rfl | rfl
    · cases (PySem.W.mg_none_of X G no_InvalidNumber).symm.trans hC
    · cases mc0.symm.trans hC; exact exm_by exW isW tyW sW0
    · cases mc1.symm.trans hC; exact exm_by exW isW tyW sW1
    · cases mc2.symm.trans hC; exact exm_by exW isW tyW sW2
    · cases (PySem.W.mg_none_of X G no_InvalidRow).symm.trans hC
    · cases mc3.symm.trans hC; exact exm_by exW isW tyW sW3
    · cases (PySem.W.mg_none_of X G no_InvalidName).symm.trans hC
    · cases (PySem.W.mg_none_of X G no_TakenName).symm.trans hC
    · cases (PySem.W.mg_none_of X G no_UnknownName).symm.trans hC
  have e2_InvalidItem_InvalidList : ∀ e C, inB ["InvalidItem", "InvalidList"] e = true → mg e = some (.ref C) → PySem.W.exmAny K (.ref C) [.ref C1, .ref C0] = some true := by
    intro c C hc hC
    have hc := inB_mem hc
    simp only [List.mem_cons, List.not_mem_nil, or_false] at hc
    rcases hc with rfl | rfl
    · cases mc1.symm.trans hC; exact any2 (exm_by ex1 is1 ty1 s1_1) (exm_by ex0 is0 ty0 s1_0) rfl
    · cases mc0.symm.trans hC; exact any2 (exm_by ex1 is1 ty1 s0_1) (exm_by ex0 is0 ty0 s0_0) rfl
  have fEvalue : ∀ n C, inB ES n = true → mg n = some (.ref C) → ExcC K C ∧ NoAttr K C "value" := by
    intro c C hc hC
    have hc := inB_mem hc
    simp only [ES, List.mem_cons, List.not_mem_nil, or_false] at hc
    rcases hc with rfl | rfl | rfl | rfl | rfl | rfl | rfl | rfl | rfl
    · cases (PySem.W.mg_none_of X G no_InvalidNumber).symm.trans hC
    · cases mc0.symm.trans hC; exact ⟨e0, nov0⟩
    · cases mc1.symm.trans hC; exact ⟨e1, nov1⟩
    · cases mc2.symm.trans hC; exact ⟨e2, nov2⟩
    · cases (PySem.W.mg_none_of X G no_InvalidRow).symm.trans hC
    · cases mc3.symm.trans hC; exact ⟨e3, nov3⟩
    · cases (PySem.W.mg_none_of X G no_InvalidName).symm.trans hC
    · cases (PySem.W.mg_none_of X G no_TakenName).symm.trans hC
    · cases (PySem.W.mg_none_of X G no_UnknownName).symm.trans hC
  have fIfolio : ∀ n C, inB ["Program"] n = true → mg n = some (.ref C) → L2.Cls K C ∧ NoAttr K C "folio" := by
    intro c C hc hC
    have hc := inB_mem hc
    simp only [List.mem_cons, List.not_mem_nil, or_false] at hc
    subst hc
    cases mK0.symm.trans hC; exact ⟨clK0, nf0_folio⟩
  have fIstands : ∀ n C, inB ["Program"] n = true → mg n = some (.ref C) → L2.Cls K C ∧ NoAttr K C "stands" := by
    intro c C hc hC
    have hc := inB_mem hc
    simp only [List.mem_cons, List.not_mem_nil, or_false] at hc
    subst hc
    cases mK0.symm.trans hC; exact ⟨clK0, nf0_stands⟩
  have fIsteps : ∀ n C, inB ["Program"] n = true → mg n = some (.ref C) → L2.Cls K C ∧ NoAttr K C "steps" := by
    intro c C hc hC
    have hc := inB_mem hc
    simp only [List.mem_cons, List.not_mem_nil, or_false] at hc
    subst hc
    cases mK0.symm.trans hC; exact ⟨clK0, nf0_steps⟩
  obtain ⟨T, hT⟩ : ∃ T : Tx P K mg, T.f_law = f25 := ⟨{
    f_law_hash := f0, d_law_hash := _, F_law_hash := fun_mk (st := s_law_hash) l0 c0 k0,
    b_law_hash := binds_def (fun_mk (st := s_law_hash) l0 c0 k0) fun _ _ _ _ _ _ us hl => match us, hl with | [_, _], _ => rfl,
    m_law_hash := PySem.W.mg_of X G a0, p_law_hash := k0,
    f_law_random := f1, d_law_random := _, F_law_random := fun_mk (st := s_law_random) l1 c1 k1,
    b_law_random := binds_def (fun_mk (st := s_law_random) l1 c1 k1) fun _ _ _ _ _ _ us hl => match us, hl with | [_, _], _ => rfl,
    m_law_random := PySem.W.mg_of X G a1, p_law_random := k1,
    f_law_bent := f2, d_law_bent := _, F_law_bent := fun_mk (st := s_law_bent) l2 c2 k2,
    b_law_bent := binds_def (fun_mk (st := s_law_bent) l2 c2 k2) fun _ _ _ _ _ _ us hl => match us, hl with | [_, _], _ => rfl,
    m_law_bent := PySem.W.mg_of X G a2, p_law_bent := k2,
    f_law_moves_drawn := f3, d_law_moves_drawn := _, F_law_moves_drawn := fun_mk (st := s_law_moves_drawn) l3 c3 k3,
    b_law_moves_drawn := binds_def (fun_mk (st := s_law_moves_drawn) l3 c3 k3) fun _ _ _ _ _ _ us hl => match us, hl with | [_, _, _], _ => rfl,
    m_law_moves_drawn := PySem.W.mg_of X G a3, p_law_moves_drawn := k3,
    f_law_drawn := f4, d_law_drawn := _, F_law_drawn := fun_mk (st := s_law_drawn) l4 c4 k4,
    b_law_drawn := binds_def (fun_mk (st := s_law_drawn) l4 c4 k4) fun _ _ _ _ _ _ us hl => match us, hl with | [_, _, _], _ => rfl,
    m_law_drawn := PySem.W.mg_of X G a4, p_law_drawn := k4,
    f_law_cell := f5, d_law_cell := _, F_law_cell := fun_mk (st := s_law_cell) l5 c5 k5,
    b_law_cell := binds_def (fun_mk (st := s_law_cell) l5 c5 k5) fun _ _ _ _ _ _ us hl => match us, hl with | [_, _], _ => rfl,
    m_law_cell := PySem.W.mg_of X G a5, p_law_cell := k5,
    f_law_generator := f6, d_law_generator := _, F_law_generator := fun_mk (st := s_law_generator) l6 c6 k6,
    b_law_generator := binds_def (fun_mk (st := s_law_generator) l6 c6 k6) fun _ _ _ _ _ _ us hl => match us, hl with | [_, _], _ => rfl,
    m_law_generator := PySem.W.mg_of X G a6, p_law_generator := k6,
    f_is_whole := f7, d_is_whole := _, F_is_whole := fun_mk (st := s_is_whole) l7 c7 k7,
    b_is_whole := binds_def (fun_mk (st := s_is_whole) l7 c7 k7) fun _ _ _ _ _ _ us hl => match us, hl with | [_], _ => rfl,
    m_is_whole := PySem.W.mg_of X G a7, p_is_whole := k7,
    f_is_within := f8, d_is_within := _, F_is_within := fun_mk (st := s_is_within) l8 c8 k8,
    b_is_within := binds_def (fun_mk (st := s_is_within) l8 c8 k8) fun _ _ _ _ _ _ us hl => match us, hl with | [_, _, _], _ => rfl,
    m_is_within := PySem.W.mg_of X G a8, p_is_within := k8,
    f_is_move := f9, d_is_move := _, F_is_move := fun_mk (st := s_is_move) l9 c9 k9,
    b_is_move := binds_def (fun_mk (st := s_is_move) l9 c9 k9) fun _ _ _ _ _ _ us hl => match us, hl with | [_, _], _ => rfl,
    m_is_move := PySem.W.mg_of X G a9, p_is_move := k9,
    f_is_name := f10, d_is_name := _, F_is_name := fun_mk (st := s_is_name) l10 c10 k10,
    b_is_name := binds_def (fun_mk (st := s_is_name) l10 c10 k10) fun _ _ _ _ _ _ us hl => match us, hl with | [_], _ => rfl,
    m_is_name := PySem.W.mg_of X G a10, p_is_name := k10,
    f_Program_init := f11, d_Program_init := _, F_Program_init := fun_mk (st := s_Program_init) l11 c11 k11,
    b_Program_init := binds_def (fun_mk (st := s_Program_init) l11 c11 k11) fun _ _ _ _ _ _ us hl => match us, hl with | [_, _, _], _ => rfl,
    f_law_program := f12, d_law_program := _, F_law_program := fun_mk (st := s_law_program) l12 c12 k12,
    b_law_program := binds_def (fun_mk (st := s_law_program) l12 c12 k12) fun _ _ _ _ _ _ us hl => match us, hl with | [_], _ => rfl,
    m_law_program := PySem.W.mg_of X G a12, p_law_program := k12,
    f_Program_eq := f13, d_Program_eq := _, F_Program_eq := fun_mk (st := s_Program_eq) l13 c13 k13,
    b_Program_eq := binds_def (fun_mk (st := s_Program_eq) l13 c13 k13) fun _ _ _ _ _ _ us hl => match us, hl with | [_, _], _ => rfl,
    f_law_move_in := f14, d_law_move_in := _, F_law_move_in := fun_mk (st := s_law_move_in) l14 c14 k14,
    b_law_move_in := binds_def (fun_mk (st := s_law_move_in) l14 c14 k14) fun _ _ _ _ _ _ us hl => match us, hl with | [_], _ => rfl,
    m_law_move_in := PySem.W.mg_of X G a14, p_law_move_in := k14,
    f_law_due := f15, d_law_due := _, F_law_due := fun_mk (st := s_law_due) l15 c15 k15,
    b_law_due := binds_def (fun_mk (st := s_law_due) l15 c15 k15) fun _ _ _ _ _ _ us hl => match us, hl with | [_], _ => rfl,
    m_law_due := PySem.W.mg_of X G a15, p_law_due := k15,
    f_signed := f16, d_signed := _, F_signed := fun_mk (st := s_signed) l16 c16 k16,
    b_signed := binds_def (fun_mk (st := s_signed) l16 c16 k16) fun _ _ _ _ _ _ us hl => match us, hl with | [_], _ => rfl,
    m_signed := PySem.W.mg_of X G a16, p_signed := k16,
    f_move_in := f17, d_move_in := _, F_move_in := fun_mk (st := s_move_in) l17 c17 k17,
    b_move_in := binds_def (fun_mk (st := s_move_in) l17 c17 k17) fun _ _ _ _ _ _ us hl => match us, hl with | [_], _ => rfl,
    m_move_in := PySem.W.mg_of X G a17, p_move_in := k17,
    f_parts_of := f18, d_parts_of := _, F_parts_of := fun_mk (st := s_parts_of) l18 c18 k18,
    b_parts_of := binds_def (fun_mk (st := s_parts_of) l18 c18 k18) fun _ _ _ _ _ _ us hl => match us, hl with | [_], _ => rfl,
    m_parts_of := PySem.W.mg_of X G a18, p_parts_of := k18,
    f_program_in := f19, d_program_in := _, F_program_in := fun_mk (st := s_program_in) l19 c19 k19,
    b_program_in := binds_def (fun_mk (st := s_program_in) l19 c19 k19) fun _ _ _ _ _ _ us hl => match us, hl with | [_], _ => rfl,
    m_program_in := PySem.W.mg_of X G a19, p_program_in := k19,
    f_read_program := f20, d_read_program := _, F_read_program := fun_mk (st := s_read_program) l20 c20 k20,
    b_read_program := binds_def (fun_mk (st := s_read_program) l20 c20 k20) fun _ _ _ _ _ _ us hl => match us, hl with | [_], _ => rfl,
    m_read_program := PySem.W.mg_of X G a20, p_read_program := k20,
    f_law_right := f21, d_law_right := _, F_law_right := fun_mk (st := s_law_right) l21 c21 k21,
    b_law_right := binds_def (fun_mk (st := s_law_right) l21 c21 k21) fun _ _ _ _ _ _ us hl => match us, hl with | [_], _ => rfl,
    m_law_right := PySem.W.mg_of X G a21, p_law_right := k21,
    f_Program_places := f22, d_Program_places := _, F_Program_places := fun_mk (st := s_Program_places) l22 c22 k22,
    b_Program_places := binds_def (fun_mk (st := s_Program_places) l22 c22 k22) fun _ _ _ _ _ _ us hl => match us, hl with | [_], _ => rfl,
    f_check_program := f23, d_check_program := _, F_check_program := fun_mk (st := s_check_program) l23 c23 k23,
    b_check_program := binds_def (fun_mk (st := s_check_program) l23 c23 k23) fun _ _ _ _ _ _ us hl => match us, hl with | [_], _ => rfl,
    m_check_program := PySem.W.mg_of X G a23, p_check_program := k23,
    f_text_of := f24, d_text_of := _, F_text_of := fun_mk (st := s_text_of) l24 c24 k24,
    b_text_of := binds_def (fun_mk (st := s_text_of) l24 c24 k24) fun _ _ _ _ _ _ us hl => match us, hl with | [_], _ => rfl,
    m_text_of := PySem.W.mg_of X G a24, p_text_of := k24,
    f_law := f25, d_law := _, F_law := fun_mk (st := s_law) l25 c25 k25,
    b_law := binds_def (fun_mk (st := s_law) l25 c25 k25) fun _ _ _ _ _ _ us hl => match us, hl with | [_], _ => rfl,
    m_law := PySem.W.mg_of X G a25, p_law := k25,
    z_bool := PySem.W.mg_none_of X G z_bool,
    z_enumerate := PySem.W.mg_none_of X G z_enumerate,
    z_int := PySem.W.mg_none_of X G z_int,
    z_isinstance := PySem.W.mg_none_of X G z_isinstance,
    z_len := PySem.W.mg_none_of X G z_len,
    z_list := PySem.W.mg_none_of X G z_list,
    z_max := PySem.W.mg_none_of X G z_max,
    z_min := PySem.W.mg_none_of X G z_min,
    z_range := PySem.W.mg_none_of X G z_range,
    z_repr := PySem.W.mg_none_of X G z_repr,
    z_str := PySem.W.mg_none_of X G z_str,
    z_tuple := PySem.W.mg_none_of X G z_tuple,
    t_LETTERS := t_LETTERS, g_LETTERS := PySem.W.mg_of X G g_LETTERS,
    t_MOST_CHANGE := t_MOST_CHANGE, g_MOST_CHANGE := PySem.W.mg_of X G g_MOST_CHANGE,
    t_MOST_LEAST := t_MOST_LEAST, g_MOST_LEAST := PySem.W.mg_of X G g_MOST_LEAST,
    t_MOST_LETTERS := t_MOST_LETTERS, g_MOST_LETTERS := PySem.W.mg_of X G g_MOST_LETTERS,
    t_MOST_MOVES := t_MOST_MOVES, g_MOST_MOVES := PySem.W.mg_of X G g_MOST_MOVES,
    t_MOST_PLACES := t_MOST_PLACES, g_MOST_PLACES := PySem.W.mg_of X G g_MOST_PLACES,
    c_Program := K0, mc_Program := mK0, cl_Program := clK0,
    mk_Program := ⟨mkK0, a11, fn11, kpK0⟩,
    nt_Program := noT_ok isK0 tyK0, eqi_Program := eqK0,
    me_Program_eq := ⟨a13, fn13, k13⟩,
    me_Program_places := ⟨a22, fn22, k22⟩,
    eo_Program := ⟨⟨a13, fn13, k13⟩, neqK0, moK0⟩,
    eb_Program := ⟨it0_NoneType, it0_int, it0_str, it0_list, it0_dict, mr0_list, mr0_dict⟩,
    fI_folio := fIfolio,
    fI_stands := fIstands,
    fI_steps := fIsteps,
    c_InvalidItem := C1, mc_InvalidItem := mc1,
    em_InvalidItem := em_InvalidItem,
    j_InvalidItem := I1, dj_InvalidItem := _, i_InvalidItem := i1, bi_InvalidItem := bi1,
    c_InvalidList := C0, mc_InvalidList := mc0,
    em_InvalidList := em_InvalidList,
    j_InvalidList := I0, dj_InvalidList := _, i_InvalidList := i0, bi_InvalidList := bi0,
    c_InvalidProgram := C2, mc_InvalidProgram := mc2,
    j_InvalidProgram := I2, dj_InvalidProgram := _, i_InvalidProgram := i2, bi_InvalidProgram := bi2,
    c_InvalidText := C3, mc_InvalidText := mc3,
    nt_InvalidText := noT_ok is3 ty3, eq_InvalidText := eq3,
    em_InvalidText := em_InvalidText,
    j_InvalidText := I3, dj_InvalidText := _, i_InvalidText := i3, bi_InvalidText := bi3,
    c_WalkError := W, mc_WalkError := PySem.W.mg_of X G aW, em_WalkError := emW,
    e2_InvalidItem_InvalidList := e2_InvalidItem_InvalidList,
    fE_value := fEvalue,
    }, rfl⟩
  exact ⟨T.d_law, fun s v hK => T.b_law s [v] hK rfl, fun w base => hT ▸ T.k_law base⟩
end K71
open PySem PySem.W PyProof.Rows
set_option maxRecDepth 100000 in
set_option maxHeartbeats 0 in
theorem PySem.Challenge.cw_floorwalks_k71_texts_of_no_program_holds : PySem.Challenge.rw_floorwalks_k71_texts_of_no_program.Holds := by
  w_on; o_law; k_head; (case hw => w_witness2)
  k_fill
  refine FW.law_end (l := PySem.Challenge.rw_floorwalks_k71_texts_of_no_program) (n := 63) (k := 11) (x := "_law_script") (FM := K71.M_law) rfl (by decide) rfl ⟨⟨rfl, by decide, by decide⟩, rfl⟩ (fun w h Y => PySem.W.kIn_of Y) ?F (K71.pure_law)
  case F =>
    intro w mg fa h KX G hmg
    refine' FW.end_use (K71.all_mk (P := PySem.Challenge.rw_floorwalks_k71_texts_of_no_program.prog) KX G hmg ?aK0 ?a0 ?l0 ?c0 ?k0 ?a1 ?l1 ?c1 ?k1 ?a2 ?l2 ?c2 ?k2 ?a3 ?l3 ?c3 ?k3 ?a4 ?l4 ?c4 ?k4 ?a5 ?l5 ?c5 ?k5 ?a6 ?l6 ?c6 ?k6 ?a7 ?l7 ?c7 ?k7 ?a8 ?l8 ?c8 ?k8 ?a9 ?l9 ?c9 ?k9 ?a10 ?l10 ?c10 ?k10 ?a11 ?fn11 ?l11 ?c11 ?k11 ?a12 ?l12 ?c12 ?k12 ?a13 ?fn13 ?l13 ?c13 ?k13 ?a14 ?l14 ?c14 ?k14 ?a15 ?l15 ?c15 ?k15 ?a16 ?l16 ?c16 ?k16 ?a17 ?l17 ?c17 ?k17 ?a18 ?l18 ?c18 ?k18 ?a19 ?l19 ?c19 ?k19 ?a20 ?l20 ?c20 ?k20 ?a21 ?l21 ?c21 ?k21 ?a22 ?fn22 ?l22 ?c22 ?k22 ?a23 ?l23 ?c23 ?k23 ?a24 ?l24 ?c24 ?k24 ?a25 ?l25 ?c25 ?k25 ?z_bool ?z_enumerate ?z_int ?z_isinstance ?z_len ?z_list ?z_max ?z_min ?z_range ?z_repr ?z_str ?z_tuple ?g_LETTERS ?g_MOST_CHANGE ?g_MOST_LEAST ?g_MOST_LETTERS ?g_MOST_MOVES ?g_MOST_PLACES ?spc ?tkc ?no_Tested ?no_Live ?no_Library ?no_Window ?no_Book ?no_Cover ?no_Below ?pg0 ?hdK0 ?po0 ?saK0 ?mkK0 ?kpK0 ?neqK0 ?it0_NoneType ?it0_int ?it0_str ?it0_list ?it0_dict ?mr0_list ?mr0_dict ?haK0 ?moK0 ?tyK0 ?isK0 ?sK0_0 ?nf0_folio ?nf0_stands ?nf0_steps ?z0super ?aW ?isW ?tyW ?exW ?thc ?no_InvalidNumber ?no_InvalidRow ?no_InvalidName ?no_TakenName ?no_UnknownName ?aC0 ?xC0 ?sa0 ?ga0 ?gg0 ?nov0 ?non0 ?ha0 ?iC0 ?mo0 ?mr0 ?ve0 ?ex0 ?sW0 ?tI0 ?kC0 ?ty0 ?hd0 ?is0 ?su0 ?lI0 ?cI0 ?lc0 ?v20 ?fi0 ?lcc0 ?lT0 ?aC1 ?xC1 ?sa1 ?ga1 ?gg1 ?nov1 ?non1 ?ha1 ?iC1 ?mo1 ?mr1 ?ve1 ?ex1 ?sW1 ?tI1 ?kC1 ?ty1 ?hd1 ?is1 ?su1 ?lI1 ?cI1 ?lc1 ?v21 ?fi1 ?lcc1 ?lT1 ?aC2 ?xC2 ?sa2 ?ga2 ?gg2 ?nov2 ?non2 ?ha2 ?iC2 ?mo2 ?mr2 ?ve2 ?ex2 ?sW2 ?tI2 ?kC2 ?ty2 ?hd2 ?is2 ?su2 ?lI2 ?cI2 ?lc2 ?v22 ?fi2 ?lcc2 ?lT2 ?aC3 ?xC3 ?sa3 ?ga3 ?gg3 ?nov3 ?non3 ?ha3 ?iC3 ?mo3 ?mr3 ?ve3 ?ex3 ?sW3 ?tI3 ?kC3 ?ty3 ?hd3 ?is3 ?su3 ?lI3 ?cI3 ?lc3 ?v23 ?fi3 ?lcc3 ?lT3 ?tops ?s0_0 ?s0_1 ?ne0_1 ?s0_3 ?ne0_3 ?s1_0 ?ne1_0 ?s1_1 ?s1_3 ?ne1_3 ?s2_3 ?ne2_3 ?s3_3)
    case aK0 => k_is
    case a0 => k_is
    case l0 => k_is
    case c0 => k_is
    case k0 => k_is
    case a1 => k_is
    case l1 => k_is
    case c1 => k_is
    case k1 => k_is
    case a2 => k_is
    case l2 => k_is
    case c2 => k_is
    case k2 => k_is
    case a3 => k_is
    case l3 => k_is
    case c3 => k_is
    case k3 => k_is
    case a4 => k_is
    case l4 => k_is
    case c4 => k_is
    case k4 => k_is
    case a5 => k_is
    case l5 => k_is
    case c5 => k_is
    case k5 => k_is
    case a6 => k_is
    case l6 => k_is
    case c6 => k_is
    case k6 => k_is
    case a7 => k_is
    case l7 => k_is
    case c7 => k_is
    case k7 => k_is
    case a8 => k_is
    case l8 => k_is
    case c8 => k_is
    case k8 => k_is
    case a9 => k_is
    case l9 => k_is
    case c9 => k_is
    case k9 => k_is
    case a10 => k_is
    case l10 => k_is
    case c10 => k_is
    case k10 => k_is
    case a11 => k_is
    case fn11 => k_is
    case l11 => k_is
    case c11 => k_is
    case k11 => k_is
    case a12 => k_is
    case l12 => k_is
    case c12 => k_is
    case k12 => k_is
    case a13 => k_is
    case fn13 => k_is
    case l13 => k_is
    case c13 => k_is
    case k13 => k_is
    case a14 => k_is
    case l14 => k_is
    case c14 => k_is
    case k14 => k_is
    case a15 => k_is
    case l15 => k_is
    case c15 => k_is
    case k15 => k_is
    case a16 => k_is
    case l16 => k_is
    case c16 => k_is
    case k16 => k_is
    case a17 => k_is
    case l17 => k_is
    case c17 => k_is
    case k17 => k_is
    case a18 => k_is
    case l18 => k_is
    case c18 => k_is
    case k18 => k_is
    case a19 => k_is
    case l19 => k_is
    case c19 => k_is
    case k19 => k_is
    case a20 => k_is
    case l20 => k_is
    case c20 => k_is
    case k20 => k_is
    case a21 => k_is
    case l21 => k_is
    case c21 => k_is
    case k21 => k_is
    case a22 => k_is
    case fn22 => k_is
    case l22 => k_is
    case c22 => k_is
    case k22 => k_is
    case a23 => k_is
    case l23 => k_is
    case c23 => k_is
    case k23 => k_is
    case a24 => k_is
    case l24 => k_is
    case c24 => k_is
    case k24 => k_is
    case a25 => k_is
    case l25 => k_is
    case c25 => k_is
    case k25 => k_is
    case z_bool => k_is
    case z_enumerate => k_is
    case z_int => k_is
    case z_isinstance => k_is
    case z_len => k_is
    case z_list => k_is
    case z_max => k_is
    case z_min => k_is
    case z_range => k_is
    case z_repr => k_is
    case z_str => k_is
    case z_tuple => k_is
    case g_LETTERS => k_is
    case g_MOST_CHANGE => k_is
    case g_MOST_LEAST => k_is
    case g_MOST_LETTERS => k_is
    case g_MOST_MOVES => k_is
    case g_MOST_PLACES => k_is
    case spc => k_is
    case tkc => k_is
    case no_Tested => k_is
    case no_Live => k_is
    case no_Library => k_is
    case no_Window => k_is
    case no_Book => k_is
    case no_Cover => k_is
    case no_Below => k_is
    case pg0 => k_is
    case hdK0 => k_is
    case po0 => k_is
    case saK0 => k_is
    case mkK0 => k_is
    case kpK0 => k_is
    case neqK0 => k_is
    case it0_NoneType => k_is
    case it0_int => k_is
    case it0_str => k_is
    case it0_list => k_is
    case it0_dict => k_is
    case mr0_list => k_is
    case mr0_dict => k_is
    case haK0 => k_is
    case moK0 => k_is
    case tyK0 => k_is
    case isK0 => k_is
    case sK0_0 => first | k_is | rfl
    case nf0_folio => k_is
    case nf0_stands => k_is
    case nf0_steps => k_is
    case z0super => k_is
    case aW => k_is
    case isW => k_is
    case tyW => k_is
    case exW => k_is
    case thc => k_is
    case no_InvalidNumber => k_is
    case no_InvalidRow => k_is
    case no_InvalidName => k_is
    case no_TakenName => k_is
    case no_UnknownName => k_is
    case aC0 => k_is
    case xC0 => k_is
    case sa0 => k_is
    case ga0 => k_is
    case gg0 => k_is
    case nov0 => k_is
    case non0 => k_is
    case ha0 => k_is
    case iC0 => k_is
    case mo0 => k_is
    case mr0 => k_is
    case ve0 => k_is
    case ex0 => k_is
    case sW0 => k_is
    case tI0 => k_is
    case kC0 => k_is
    case ty0 => k_is
    case hd0 => k_is
    case is0 => k_is
    case su0 => ks_is
    case lI0 => k_is
    case cI0 => k_is
    case lc0 => k_is
    case v20 => first | rfl | kernel_rfl
    case fi0 => first | rfl | kernel_rfl | decide +kernel
    case lcc0 => k_is
    case lT0 => k_is
    case aC1 => k_is
    case xC1 => k_is
    case sa1 => k_is
    case ga1 => k_is
    case gg1 => k_is
    case nov1 => k_is
    case non1 => k_is
    case ha1 => k_is
    case iC1 => k_is
    case mo1 => k_is
    case mr1 => k_is
    case ve1 => k_is
    case ex1 => k_is
    case sW1 => k_is
    case tI1 => k_is
    case kC1 => k_is
    case ty1 => k_is
    case hd1 => k_is
    case is1 => k_is
    case su1 => ks_is
    case lI1 => k_is
    case cI1 => k_is
    case lc1 => k_is
    case v21 => first | rfl | kernel_rfl
    case fi1 => first | rfl | kernel_rfl | decide +kernel
    case lcc1 => k_is
    case lT1 => k_is
    case aC2 => k_is
    case xC2 => k_is
    case sa2 => k_is
    case ga2 => k_is
    case gg2 => k_is
    case nov2 => k_is
    case non2 => k_is
    case ha2 => k_is
    case iC2 => k_is
    case mo2 => k_is
    case mr2 => k_is
    case ve2 => k_is
    case ex2 => k_is
    case sW2 => k_is
    case tI2 => k_is
    case kC2 => k_is
    case ty2 => k_is
    case hd2 => k_is
    case is2 => k_is
    case su2 => ks_is
    case lI2 => k_is
    case cI2 => k_is
    case lc2 => k_is
    case v22 => first | rfl | kernel_rfl
    case fi2 => first | rfl | kernel_rfl | decide +kernel
    case lcc2 => k_is
    case lT2 => k_is
    case aC3 => k_is
    case xC3 => k_is
    case sa3 => k_is
    case ga3 => k_is
    case gg3 => k_is
    case nov3 => k_is
    case non3 => k_is
    case ha3 => k_is
    case iC3 => k_is
    case mo3 => k_is
    case mr3 => k_is
    case ve3 => k_is
    case ex3 => k_is
    case sW3 => k_is
    case tI3 => k_is
    case kC3 => k_is
    case ty3 => k_is
    case hd3 => k_is
    case is3 => k_is
    case su3 => ks_is
    case lI3 => k_is
    case cI3 => k_is
    case lc3 => k_is
    case v23 => first | rfl | kernel_rfl
    case fi3 => first | rfl | kernel_rfl | decide +kernel
    case lcc3 => k_is
    case lT3 => k_is
    case tops => first | rfl | kernel_rfl | decide +kernel
    case s0_0 => first | k_is | rfl
    case s0_1 => k_is
    case ne0_1 => decide
    case s0_3 => k_is
    case ne0_3 => decide
    case s1_0 => k_is
    case ne1_0 => decide
    case s1_1 => first | k_is | rfl
    case s1_3 => k_is
    case ne1_3 => decide
    case s2_3 => k_is
    case ne2_3 => decide
    case s3_3 => first | k_is | rfl

