import PyProof.Rows.All
import Wide.All
import OpenK.AllK
import Wide.FinOn
import HandS.ForExc
import HandS.ForMost
import HandS.Wide
import HandS.WideBits
import HandS.IsInst
import HandS.Flow
import HandS.Conv
import HandS.Style
import PyProof.ReprRoads
import HandS.ExcInit
import KE.KExcSuper
import HandS.ExcIs
import HandS.Deep
import KE.RegKSuper
import HandS.Flt
import PyProof.InstEq
import PyProof.EqKinds
import HandS.DictComp
import HandS.Star
import HandS.Text
import HandS.RaiseMore
import KE.KTryMore
import HandS.ExcValue
import HandS.MakeKwOnly
import HandS.Small
import KE.KDictDisplayH
import HandS.TupSets
import HandS.DictEq
import PyProof.NeKinds
import KE.GoesMore
import KE.GoesEnum
import HandS.Iter
import HandS.DictTup
import OpenK.KOps
import PyProof.AssignAttr
import HandS.HotCalls
import PySem.Challenge.RW_floorwalks_k66_whole_copies_of_live_prog
set_option Elab.async false
set_option linter.all false
set_option maxRecDepth 100000
set_option maxHeartbeats 4000000
namespace FW
open PySem L2
inductive MV where
  | non | bl (b : Bool) | int (i : Int) | str (x : Str)
  | tup (xs : List MV) | lst (xs : List MV) | dct (ps : List (MV × MV))
  | ins (c : Str) (fs : List (Str × MV))
  | exc (c : Str) (fs : List (Str × MV))
  | ref (n : Nat)
  | scr (ns : List Int)
  deriving Inhabited
def kM : Key → MV
  | .inl i => .int i
  | .inr x => .str x
def exO (C : Addr) (d : Option Addr) (a : Addr) : HO := .ext fun h => ∃ o, h.get? a = some o ∧ o.cls = .ref C ∧ o.dict = d ∧ ∃ vs, o.data = .fields vs
structure Wd where
  K : PySem.W.Frag
  mg : Str → Option Value
abbrev _root_.L2.Cx.wd (X : Cx) : Wd := ⟨X.K, X.mg⟩
section
variable (mg : Wd) (S : Addr → Prop) (ι : List Addr) (H : Hp)
inductive Dt : V → MV → Prop where
  | non : Dt .non .non
  | bl (b : Bool) : Dt (.bl b) (.bl b)
  | int (i : Int) : Dt (.int i) (.int i)
  | str (x : Str) : Dt (.str x) (.str x)
  | ref {n : Nat} {a : Addr} (h : ι[n]? = some a) : Dt (.ref a) (.ref n)
  | tup {a : Addr} {vs : List V} {ms : List MV} (hs : S a) (h : H a = some (.tup vs)) (hl : vs.length = ms.length)
      (hi : ∀ (i : Nat) v m, vs[i]? = some v → ms[i]? = some m → Dt v m) : Dt (.ref a) (.tup ms)
  | lst {a : Addr} {vs : List V} {ms : List MV} (hs : S a) (h : H a = some (.lst vs)) (hl : vs.length = ms.length)
      (hi : ∀ (i : Nat) v m, vs[i]? = some v → ms[i]? = some m → Dt v m) : Dt (.ref a) (.lst ms)
  | dct {a : Addr} {kvs : List (Key × V)} {ps : List (MV × MV)} (hs : S a) (h : Rd H a (.dK kvs)) (hl : kvs.length = ps.length)
      (hk : ∀ (i : Nat) kv p, kvs[i]? = some kv → ps[i]? = some p → p.1 = kM kv.1)
      (hi : ∀ (i : Nat) kv p, kvs[i]? = some kv → ps[i]? = some p → Dt kv.2 p.2) : Dt (.ref a) (.dct ps)
  | dctT {a : Addr} {kvs : List (List Key × V)} {ps : List (MV × MV)} (hs : S a) (h : Rd H a (.dT kvs)) (hl : kvs.length = ps.length)
      (hk : ∀ (i : Nat) kv p, kvs[i]? = some kv → ps[i]? = some p → p.1 = .tup (kv.1.map kM))
      (hi : ∀ (i : Nat) kv p, kvs[i]? = some kv → ps[i]? = some p → Dt kv.2 p.2) : Dt (.ref a) (.dct ps)
  | ins {a C dx : Addr} {c : Str} {fs : List (Str × V)} {ms : List (Str × MV)} (hs : S a) (h : H a = some (.ins C dx fs)) (hc : mg.mg c = some (.ref C)) (hn : fs.map (·.1) = ms.map (·.1))
      (hi : ∀ (i : Nat) f m, fs[i]? = some f → ms[i]? = some m → Dt f.2 m.2) : Dt (.ref a) (.ins c ms)
  | exc {a d C : Addr} {c : Str} {fs : List (Str × V)} {ms : List (Str × MV)} (hs : S a) (h : H a = some (exO C (some d) a)) (hd : S d) (h2 : H d = some (.xd fs)) (hc : mg.mg c = some (.ref C)) (hn : fs.map (·.1) = ms.map (·.1))
      (hi : ∀ (i : Nat) f m, fs[i]? = some f → ms[i]? = some m → Dt f.2 m.2) : Dt (.ref a) (.exc c ms)
  | exc0 {a C : Addr} {c : Str} (hs : S a) (h : H a = some (exO C none a)) (hc : mg.mg c = some (.ref C)) : Dt (.ref a) (.exc c [])
  | scr {a : Addr} {ns : List Int} (h : (S a ∧ Rd H a (.lst (ns.map V.int))) ∨ ∀ H', SqL mg.K H' a (ns.map V.int)) : Dt (.ref a) (.scr ns)
def AllD (vs : List V) (ms : List MV) : Prop := vs.length = ms.length ∧ ∀ (i : Nat) v m, vs[i]? = some v → ms[i]? = some m → Dt mg S ι H v m
def Ob (o : HO) : MV → Prop
  | .lst ms => ∃ vs, o = .lst vs ∧ AllD mg S ι H vs ms
  | .tup ms => ∃ vs, o = .tup vs ∧ AllD mg S ι H vs ms
  | .dct ps => (∃ kvs : List (Key × V), o = .dK kvs ∧ kvs.length = ps.length ∧ ∀ (i : Nat) kv p, kvs[i]? = some kv → ps[i]? = some p → p.1 = kM kv.1 ∧ Dt mg S ι H kv.2 p.2) ∨
      ∃ kvs : List (List Key × V), o = .dT kvs ∧ kvs.length = ps.length ∧ ∀ (i : Nat) kv p, kvs[i]? = some kv → ps[i]? = some p → p.1 = .tup (kv.1.map kM) ∧ Dt mg S ι H kv.2 p.2
  | .ins c ms => ∃ C dx fs, o = .ins C dx fs ∧ mg.mg c = some (.ref C) ∧ fs.map (·.1) = ms.map (·.1) ∧ ∀ (i : Nat) f m, fs[i]? = some f → ms[i]? = some m → Dt mg S ι H f.2 m.2
  | _ => False
def Sh (a : Addr) (m : MV) : Prop := ∃ o, H a = some o ∧ Ob mg S ι H o m
def Lkd (a : Addr) (m : MV) : Prop := ∃ (ps : List (MV × MV)) (ob : Obj) (kvs : List (List Key × V)), m = .dct ((.non, .non) :: ps) ∧ H a = some (.frz ob (.dT kvs)) ∧ kvs.length = ps.length ∧
  ∀ (i : Nat) kv p, kvs[i]? = some kv → ps[i]? = some p → p.1 = .tup (kv.1.map kM) ∧ Dt mg S ι H kv.2 p.2
def ShL (a : Addr) (m : MV) : Prop := Sh mg S ι H a m ∨ Lkd mg S ι H a m
end
abbrev Sto := List MV
abbrev Lo := List (Option (MV × Bool))
inductive Kd where | fz | fr | pk (i : Nat)
structure Ext (S : Addr → Prop) (ι : List Addr) (H : Hp) (S' : Addr → Prop) (ι' : List Addr) (H' : Hp) : Prop where
  s : ∀ a, S a → S' a
  k : ∀ a o, H a = some o → a ∉ ι → H' a = some o
  b : ∀ a, S' a → S a ∨ H a = none
  i : ι <+: ι'
  n : ∀ a, a ∈ ι' → a ∈ ι ∨ H a = none
  z : ∀ a ob u, H a = some (.frz ob u) → H' a = some (.frz ob u)
structure Rep (mg : Wd) (S : Addr → Prop) (ι : List Addr) (H : Hp) (st : Sto) : Prop where
  len : ι.length = st.length
  nd : ι.Nodup
  sep : ∀ a, a ∈ ι → ¬ S a
  som : ∀ a, S a → ∃ o, H a = some o
  ent : ∀ (n : Nat) a m, ι[n]? = some a → st[n]? = some m → ShL mg S ι H a m
structure Base where
  S : Addr → Prop
  ι : List Addr
  H : Hp
  G : Addr → Option HO := fun _ => none
  P : Option Addr := none
def Base.New (B : Base) (a : Addr) : Prop := B.H a = none ∧ B.G a = none
structure Loc (mg : Wd) (B : Base) (S : Addr → Prop) (ι : List Addr) (H : Hp) (lo : Lo) (σ : St) : Prop where
  len : lo.length = σ.length
  val : ∀ (i : Nat) m, lo[i]? = some (some (m, false)) → ∃ v, σ[i]? = some (some v) ∧ Dt mg S ι H v m
  own : ∀ (i : Nat) m, lo[i]? = some (some (m, true)) → ∃ a, σ[i]? = some (some (.ref a)) ∧ ¬ S a ∧ a ∉ ι ∧ B.New a ∧ Sh mg S ι H a m
  dis : ∀ (i j : Nat) m m' a, i ≠ j → lo[i]? = some (some (m, true)) → lo[j]? = some (some (m', true)) → σ[i]? = some (some (.ref a)) → σ[j]? ≠ some (some (.ref a))
  pin : ∀ (i : Nat) c fs, lo[i]? = some (some (.ins c fs, true)) → ∃ a, B.P = some a ∧ σ[i]? = some (some (.ref a))
structure Fm (mg : Wd) (B : Base) (S : Addr → Prop) (ι : List Addr) (H : Hp) (lo : Lo) (σ : St) (st : Sto) : Prop where
  ext : Ext B.S B.ι B.H S ι H
  rep : Rep mg S ι H st
  loc : Loc mg B S ι H lo σ
  g : ∀ a o, B.G a = some o → H a = some o ∧ a ∉ ι ∧ ¬ S a
def RV (mg : Wd) (B : Base) (S : Addr → Prop) (ι : List Addr) (H : Hp) (lo : Lo) (σ : St) (v : V) (m : MV) : Kd → Prop
  | .fz => Dt mg S ι H v m
  | .fr => ∃ a, v = .ref a ∧ ¬ S a ∧ a ∉ ι ∧ B.New a ∧ Sh mg S ι H a m ∧ ∀ (i : Nat) m', lo[i]? = some (some (m', true)) → σ[i]? ≠ some (some (.ref a))
  | .pk i => ∃ a, v = .ref a ∧ lo[i]? = some (some (m, true)) ∧ σ[i]? = some (some (.ref a)) ∧ Sh mg S ι H a m
section
variable {mg : Wd} {S S' S2 : Addr → Prop} {ι ι' ι2 : List Addr} {H H' H2 : Hp} {B : Base} {lo lo' : Lo} {σ σ' : St} {st st' : Sto} {v : V} {m : MV}
abbrev b0 (S : Addr → Prop) (ι : List Addr) (H : Hp) : Base := { S := S, ι := ι, H := H }
theorem Rd.eq {a : Addr} {u : HO} (e : H' a = H a) (r : Rd H a u) : Rd H' a u := by
  rcases r with r | ⟨o, r⟩
  · exact .inl (e.trans r)
  · exact .inr ⟨o, e.trans r⟩
structure Keep (S : Addr → Prop) (ι : List Addr) (H : Hp) (S' : Addr → Prop) (ι' : List Addr) (H' : Hp) : Prop where
  s : ∀ a, S a → S' a
  h : ∀ a, S a → H' a = H a
  i : ι <+: ι'
  z : ∀ a ob u, H a = some (.frz ob u) → H' a = some (.frz ob u)
theorem Keep.refl : Keep S ι H S ι H := ⟨fun _ h => h, fun _ _ => rfl, List.prefix_refl _, fun _ _ _ h => h⟩
theorem Keep.trans (a : Keep S ι H S' ι' H') (b : Keep S' ι' H' S2 ι2 H2) : Keep S ι H S2 ι2 H2 :=
  ⟨fun x h => b.s x (a.s x h), fun x h => (b.h x (a.s x h)).trans (a.h x h), a.i.trans b.i, fun x ob u h => b.z x ob u (a.z x ob u h)⟩
theorem getp {α : Type} {l l' : List α} (p : l <+: l') {n : Nat} {a : α} (h : l[n]? = some a) : l'[n]? = some a := by
  obtain ⟨t, rfl⟩ := p
  rw [List.getElem?_append_left (List.getElem?_eq_some_iff.mp h).1]; exact h
theorem Dt.mono (k : Keep S ι H S' ι' H') (d : Dt mg S ι H v m) : Dt mg S' ι' H' v m := by
  induction d with
  | non => exact .non
  | bl b => exact .bl b
  | int i => exact .int i
  | str x => exact .str x
  | ref h => exact .ref (getp k.i h)
  | tup hs h hl _ ih => exact .tup (k.s _ hs) ((k.h _ hs).trans h) hl ih
  | lst hs h hl _ ih => exact .lst (k.s _ hs) ((k.h _ hs).trans h) hl ih
  | dct hs h hl hk _ ih => exact .dct (k.s _ hs) (Rd.eq (k.h _ hs) h) hl hk ih
  | dctT hs h hl hk _ ih => exact .dctT (k.s _ hs) (Rd.eq (k.h _ hs) h) hl hk ih
  | ins hs h hc hn _ ih => exact .ins (k.s _ hs) ((k.h _ hs).trans h) hc hn ih
  | exc hs h hd h2 hc hn _ ih => exact .exc (k.s _ hs) ((k.h _ hs).trans h) (k.s _ hd) ((k.h _ hd).trans h2) hc hn ih
  | exc0 hs h hc => exact .exc0 (k.s _ hs) ((k.h _ hs).trans h) hc
  | scr h => exact .scr (h.imp (fun ⟨hs, r⟩ => ⟨k.s _ hs, Rd.eq (k.h _ hs) r⟩) id)
theorem AllD.mono (k : Keep S ι H S' ι' H') {vs : List V} {ms : List MV} (d : AllD mg S ι H vs ms) : AllD mg S' ι' H' vs ms := ⟨d.1, fun i v m h1 h2 => (d.2 i v m h1 h2).mono k⟩
theorem AllD.nil : AllD mg S ι H [] [] := ⟨rfl, fun i v m h => by simp at h⟩
theorem AllD.cons {vs : List V} {ms : List MV} (d : Dt mg S ι H v m) (r : AllD mg S ι H vs ms) : AllD mg S ι H (v :: vs) (m :: ms) := by
  refine ⟨by simp [r.1], fun i w n h1 h2 => ?_⟩
  cases i with
  | zero => simp at h1 h2; subst h1; subst h2; exact d
  | succ i => exact r.2 i w n (by simpa using h1) (by simpa using h2)
theorem AllD.inv_cons {vs : List V} {ms : List MV} (r : AllD mg S ι H vs (m :: ms)) : ∃ v vs', vs = v :: vs' ∧ Dt mg S ι H v m ∧ AllD mg S ι H vs' ms := by
  cases vs with
  | nil => exact absurd r.1 (by simp)
  | cons v vs' => exact ⟨v, vs', rfl, r.2 0 v m rfl rfl, by have := r.1; simpa using this, fun i w n h1 h2 => r.2 (i + 1) w n (by simpa using h1) (by simpa using h2)⟩
theorem AllD.inv_nil {vs : List V} (r : AllD mg S ι H vs []) : vs = [] := List.length_eq_zero_iff.mp r.1
theorem AllD.append {vs ws : List V} {ms ns : List MV} (a : AllD mg S ι H vs ms) (b : AllD mg S ι H ws ns) : AllD mg S ι H (vs ++ ws) (ms ++ ns) := by
  refine ⟨by simp [a.1, b.1], fun i v m h1 h2 => ?_⟩
  by_cases hi : i < vs.length
  · rw [List.getElem?_append_left hi] at h1
    rw [List.getElem?_append_left (by rw [← a.1]; exact hi)] at h2
    exact a.2 i v m h1 h2
  · rw [List.getElem?_append_right (by omega)] at h1
    rw [List.getElem?_append_right (by have := a.1; omega)] at h2
    rw [a.1] at h1
    exact b.2 _ v m h1 h2
theorem AllD.get {vs : List V} {ms : List MV} (a : AllD mg S ι H vs ms) {i : Nat} (h : ms[i]? = some m) : ∃ v, vs[i]? = some v ∧ Dt mg S ι H v m := by
  have hi : i < vs.length := by rw [a.1]; exact (List.getElem?_eq_some_iff.mp h).1
  exact ⟨vs[i], by simp [hi], a.2 i _ m (by simp [hi]) h⟩
theorem AllD.set {vs : List V} {ms : List MV} (a : AllD mg S ι H vs ms) (d : Dt mg S ι H v m) (j : Nat) : AllD mg S ι H (vs.set j v) (ms.set j m) := by
  refine ⟨by simp [a.1], fun i w n h1 h2 => ?_⟩
  by_cases hj : j = i
  · subst hj
    by_cases hl : j < vs.length
    · rw [List.getElem?_set_self hl] at h1; rw [List.getElem?_set_self (by rw [← a.1]; exact hl)] at h2
      cases h1; cases h2; exact d
    · have : (vs.set j v)[j]? = none := List.getElem?_eq_none (by simp; omega)
      rw [this] at h1; cases h1
  · rw [List.getElem?_set_ne hj] at h1 h2
    exact a.2 i w n h1 h2
theorem AllD.take {vs : List V} {ms : List MV} (a : AllD mg S ι H vs ms) (n : Nat) : AllD mg S ι H (vs.take n) (ms.take n) := by
  refine ⟨by simp [a.1], fun i w k h1 h2 => ?_⟩
  rw [List.getElem?_take] at h1 h2
  split at h1
  · rw [if_pos (by assumption)] at h2; exact a.2 i w k h1 h2
  · cases h1
theorem AllD.drop {vs : List V} {ms : List MV} (a : AllD mg S ι H vs ms) (n : Nat) : AllD mg S ι H (vs.drop n) (ms.drop n) := by
  refine ⟨by simp [a.1], fun i w k h1 h2 => ?_⟩
  rw [List.getElem?_drop] at h1 h2
  exact a.2 _ w k h1 h2
theorem Ob.mono {o : HO} (k : Keep S ι H S' ι' H') (d : Ob mg S ι H o m) : Ob mg S' ι' H' o m := by
  cases m with
  | lst ms => obtain ⟨vs, h, d⟩ := d; exact ⟨vs, h, d.mono k⟩
  | tup ms => obtain ⟨vs, h, d⟩ := d; exact ⟨vs, h, d.mono k⟩
  | dct ps =>
    rcases d with ⟨kvs, h, l, d⟩ | ⟨kvs, h, l, d⟩
    · exact .inl ⟨kvs, h, l, fun i kv p h1 h2 => ⟨(d i kv p h1 h2).1, (d i kv p h1 h2).2.mono k⟩⟩
    · exact .inr ⟨kvs, h, l, fun i kv p h1 h2 => ⟨(d i kv p h1 h2).1, (d i kv p h1 h2).2.mono k⟩⟩
  | ins c ms => obtain ⟨C, dx, fs, h, hc, hn, d⟩ := d; exact ⟨C, dx, fs, h, hc, hn, fun i f m h1 h2 => (d i f m h1 h2).mono k⟩
  | _ => exact d.elim
theorem Sh.mono {a : Addr} (k : Keep S ι H S' ι' H') (e : H' a = H a) (d : Sh mg S ι H a m) : Sh mg S' ι' H' a m := by
  obtain ⟨o, h, d⟩ := d
  exact ⟨o, e.trans h, d.mono k⟩
theorem Sh.som {a : Addr} (d : Sh mg S ι H a m) : ∃ o, H a = some o := d.imp fun _ h => h.1
theorem Lkd.mono {a : Addr} (k : Keep S ι H S' ι' H') (e : H' a = H a) (d : Lkd mg S ι H a m) : Lkd mg S' ι' H' a m := by
  obtain ⟨ps, ob, kvs, h, q, l, d⟩ := d
  exact ⟨ps, ob, kvs, h, e.trans q, l, fun i kv p h1 h2 => ⟨(d i kv p h1 h2).1, (d i kv p h1 h2).2.mono k⟩⟩
theorem ShL.mono {a : Addr} (k : Keep S ι H S' ι' H') (e : H' a = H a) (d : ShL mg S ι H a m) : ShL mg S' ι' H' a m := d.imp (fun q => q.mono k e) fun q => q.mono k e
theorem ShL.som {a : Addr} (d : ShL mg S ι H a m) : ∃ o, H a = some o := by
  rcases d with d | ⟨ps, ob, kvs, _, q, _⟩
  · exact d.som
  · exact ⟨_, q⟩
theorem Sh.nz {a : Addr} (d : Sh mg S ι H a m) : ∀ ob u, H a ≠ some (.frz ob u) := fun ob u e => by
  obtain ⟨o, h, d⟩ := d
  rw [h] at e; cases e
  cases m with
  | lst ms => obtain ⟨vs, h, d⟩ := d; cases h
  | tup ms => obtain ⟨vs, h, d⟩ := d; cases h
  | dct ps => rcases d with ⟨kvs, h, l, d⟩ | ⟨kvs, h, l, d⟩ <;> cases h
  | ins c ms => obtain ⟨C, dx, fs, h, hc, hn, d⟩ := d; cases h
  | _ => exact d.elim
def unmk : MV → Bool
  | .dct ((.non, .non) :: _) => false
  | _ => true
theorem ShL.sh {a : Addr} (d : ShL mg S ι H a m) (h : unmk m = true) : Sh mg S ι H a m := by
  rcases d with d | ⟨ps, ob, kvs, rfl, _⟩
  · exact d
  · cases h
theorem Sh.unmk {a : Addr} (d : Sh mg S ι H a m) : unmk m = true := by
  obtain ⟨o, _, d⟩ := d
  unfold FW.unmk
  split
  · rename_i ps
    rcases d with ⟨kvs, _, l, d⟩ | ⟨kvs, _, l, d⟩
    · cases kvs with
      | nil => simp at l
      | cons kv kvs =>
        have q := (d 0 kv (.non, .non) rfl rfl).1
        have q' : MV.non = kM kv.1 := q
        cases e : kv.1 <;> rw [e] at q' <;> cases q'
    · cases kvs with
      | nil => simp at l
      | cons kv kvs =>
        have q := (d 0 kv (.non, .non) rfl rfl).1
        cases q
  · rfl
theorem Ext.refl : Ext S ι H S ι H := ⟨fun _ h => h, fun _ _ h _ => h, fun _ h => .inl h, List.prefix_refl _, fun _ h => .inl h, fun _ _ _ h => h⟩
theorem Ext.keep (r : Rep mg S ι H st) (x : Ext S ι H S' ι' H') : Keep S ι H S' ι' H' := by
  refine ⟨x.s, fun a h => ?_, x.i, x.z⟩
  obtain ⟨o, e⟩ := r.som a h
  rw [e]
  exact x.k a o e fun hm => r.sep a hm h
theorem none_back (x : Ext S ι H S' ι' H') {a : Addr} (hι : a ∉ ι) (h : H' a = none) : H a = none := by
  cases e : H a with
  | none => rfl
  | some o => rw [x.k a o e hι] at h; cases h
theorem Ext.trans (x : Ext S ι H S' ι' H') (y : Ext S' ι' H' S2 ι2 H2) (hS : ∀ a, a ∈ ι → ¬ S2 a) : Ext S ι H S2 ι2 H2 := by
  refine ⟨fun a h => y.s a (x.s a h), fun a o e hn => ?_, fun a h => ?_, x.i.trans y.i, fun a h => ?_, fun a ob u h => y.z a ob u (x.z a ob u h)⟩
  · refine y.k a o (x.k a o e hn) fun hm => ?_
    rcases x.n a hm with z | z
    · exact hn z
    · rw [e] at z; cases z
  · rcases y.b a h with z | z
    · exact x.b a z
    · exact .inr (none_back x (fun hm => hS a hm h) z)
  · rcases y.n a h with z | z
    · exact x.n a z
    · by_cases hm : a ∈ ι
      · exact .inl hm
      · exact .inr (none_back x hm z)
theorem Rep.pre {S' : Addr → Prop} (r : Rep mg S' ι' H' st) (p : ι <+: ι') : ∀ a, a ∈ ι → ¬ S' a := fun a h => r.sep a (p.subset h)
theorem Fm.step (f : Fm mg B S ι H lo σ st) (x : Ext S ι H S' ι' H') (r : Rep mg S' ι' H' st') : Fm mg B S' ι' H' lo σ st' := by
  have k := x.keep f.rep
  have own : ∀ a o, H a = some o → a ∉ ι → ¬ S a → ¬ S' a ∧ a ∉ ι' ∧ H' a = H a := fun a o e n ns => by
    refine ⟨fun h => ?_, fun h => ?_, (x.k a o e n).trans e.symm⟩
    · rcases x.b a h with z | z
      · exact ns z
      · rw [e] at z; cases z
    · rcases x.n a h with z | z
      · exact n z
      · rw [e] at z; cases z
  refine ⟨f.ext.trans x fun a h => r.sep a ((f.ext.i.trans x.i).subset h), r, ⟨f.loc.len, fun i m h => ?_, fun i m h => ?_, f.loc.dis, f.loc.pin⟩, fun a o h => ?_⟩
  · obtain ⟨v, e, d⟩ := f.loc.val i m h
    exact ⟨v, e, d.mono k⟩
  · obtain ⟨a, e, h1, h2, h3, d⟩ := f.loc.own i m h
    obtain ⟨o, he⟩ := d.som
    obtain ⟨q1, q2, q3⟩ := own a o he h2 h1
    exact ⟨a, e, q1, q2, h3, d.mono k q3⟩
  · obtain ⟨q1, q2, q3⟩ := f.g a o h
    obtain ⟨r1, r2, r3⟩ := own a o q1 q2 q3
    exact ⟨r3.trans q1, r2, r1⟩
theorem RV.step {k : Kd} (f : Fm mg B S ι H lo σ st) (x : Ext S ι H S' ι' H') (d : RV mg B S ι H lo σ v m k) : RV mg B S' ι' H' lo σ v m k := by
  have kk := x.keep f.rep
  cases k with
  | fz => exact Dt.mono kk d
  | fr =>
    obtain ⟨a, e, h1, h2, h3, d, h4⟩ := d
    obtain ⟨o, he⟩ := d.som
    refine ⟨a, e, fun h => ?_, fun h => ?_, h3, d.mono kk ((x.k a o he h2).trans he.symm), h4⟩
    · rcases x.b a h with z | z
      · exact h1 z
      · rw [he] at z; cases z
    · rcases x.n a h with z | z
      · exact h2 z
      · rw [he] at z; cases z
  | pk i =>
    obtain ⟨a, e, h1, h2, d⟩ := d
    obtain ⟨a', e', _, hn, _, _⟩ := f.loc.own i m h1
    rw [h2] at e'; cases e'
    obtain ⟨o, he⟩ := d.som
    exact ⟨a, e, h1, h2, d.mono kk ((x.k a o he hn).trans he.symm)⟩
theorem Ext.new {a : Addr} {o : HO} (h : H a = none) : Ext S ι H S ι (upd H a o) :=
  ⟨fun _ h => h, fun b u e _ => by rw [upd_ne (ne_of_none e h)]; exact e, fun _ h => .inl h, List.prefix_refl _, fun _ h => .inl h, fun b ob u e => by rw [upd_ne (ne_of_none e h)]; exact e⟩
theorem Rep.new {a : Addr} {o : HO} (r : Rep mg S ι H st) (h : H a = none) : Rep mg S ι (upd H a o) st := by
  have k : Keep S ι H S ι (upd H a o) := (Ext.new h).keep r
  refine ⟨r.len, r.nd, r.sep, fun b hb => ?_, fun n b m h1 h2 => ?_⟩
  · obtain ⟨u, e⟩ := r.som b hb
    exact ⟨u, by rw [upd_ne (ne_of_none e h)]; exact e⟩
  · have d := r.ent n b m h1 h2
    obtain ⟨u, e⟩ := d.som
    exact d.mono k (upd_ne (ne_of_none e h))
theorem Fm.free (f : Fm mg B S ι H lo σ st) {a : Addr} (h : H a = none) : ¬ S a ∧ a ∉ ι ∧ B.New a ∧ ∀ (i : Nat) m', lo[i]? = some (some (m', true)) → σ[i]? ≠ some (some (.ref a)) := by
  have hι : a ∉ ι := fun hm => by
    obtain ⟨n, hn⟩ := List.mem_iff_getElem?.mp hm
    have hl : n < st.length := by rw [← f.rep.len]; exact (List.getElem?_eq_some_iff.mp hn).1
    obtain ⟨o, e⟩ := (f.rep.ent n a st[n] hn (by simp [hl])).som
    rw [h] at e; cases e
  refine ⟨fun hs => ?_, hι, ⟨none_back f.ext (fun hm => hι (f.ext.i.subset hm)) h, ?_⟩, fun i m' h1 h2 => ?_⟩
  · obtain ⟨o, e⟩ := f.rep.som a hs
    rw [h] at e; cases e
  · cases e : B.G a with
    | none => rfl
    | some o =>
      have q := (f.g a o e).1
      rw [h] at q; cases q
  · obtain ⟨b, e, _, _, _, d⟩ := f.loc.own i m' h1
    rw [h2] at e; cases e
    obtain ⟨o, e⟩ := d.som
    rw [h] at e; cases e
theorem Fm.new {a : Addr} {o : HO} (f : Fm mg B S ι H lo σ st) (h : H a = none) : Fm mg B S ι (upd H a o) lo σ st := f.step (.new h) (f.rep.new h)
def fz1 (S : Addr → Prop) (a : Addr) : Addr → Prop := fun b => S b ∨ b = a
theorem Keep.fz1 {a : Addr} : Keep S ι H (fz1 S a) ι H := ⟨fun _ h => .inl h, fun _ _ => rfl, List.prefix_refl _, fun _ _ _ h => h⟩
theorem Fm.freeze {a : Addr} {o : HO} (f : Fm mg B S ι H lo σ st) (e : H a = some o) (h1 : a ∉ ι) (h2 : B.New a) (h3 : ∀ (i : Nat) m', lo[i]? = some (some (m', true)) → σ[i]? ≠ some (some (.ref a))) :
    Fm mg B (fz1 S a) ι H lo σ st := by
  have k : Keep S ι H (fz1 S a) ι H := .fz1
  refine ⟨⟨fun b h => .inl (f.ext.s b h), f.ext.k, fun b h => ?_, f.ext.i, f.ext.n, f.ext.z⟩, ⟨f.rep.len, f.rep.nd, fun b hb h => ?_, fun b h => ?_, fun n b m q1 q2 => (f.rep.ent n b m q1 q2).mono k rfl⟩,
    ⟨f.loc.len, fun i m h => ?_, fun i m h => ?_, f.loc.dis, f.loc.pin⟩, fun b u hb => ?_⟩
  · rcases h with h | rfl
    · exact f.ext.b b h
    · exact .inr h2.1
  · rcases h with h | rfl
    · exact f.rep.sep b hb h
    · exact h1 hb
  · rcases h with h | rfl
    · exact f.rep.som b h
    · exact ⟨o, e⟩
  · obtain ⟨v, q, d⟩ := f.loc.val i m h
    exact ⟨v, q, d.mono k⟩
  · obtain ⟨b, q, n1, n2, n3, d⟩ := f.loc.own i m h
    refine ⟨b, q, fun hb => ?_, n2, n3, d.mono k rfl⟩
    rcases hb with hb | rfl
    · exact n1 hb
    · exact h3 i m h q
  · obtain ⟨q1, q2, q3⟩ := f.g b u hb
    refine ⟨q1, q2, fun z => ?_⟩
    rcases z with z | rfl
    · exact q3 z
    · rw [h2.2] at hb; cases hb
theorem Sh.frozen {a : Addr} (hs : S a) (d : Sh mg S ι H a m) : Dt mg S ι H (.ref a) m := by
  obtain ⟨o, e, d⟩ := d
  cases m with
  | lst ms => obtain ⟨vs, rfl, l, d⟩ := d; exact .lst hs e l d
  | tup ms => obtain ⟨vs, rfl, l, d⟩ := d; exact .tup hs e l d
  | dct ps =>
    rcases d with ⟨kvs, rfl, l, d⟩ | ⟨kvs, rfl, l, d⟩
    · exact .dct hs (.of e) l (fun i kv p h1 h2 => (d i kv p h1 h2).1) fun i kv p h1 h2 => (d i kv p h1 h2).2
    · exact .dctT hs (.of e) l (fun i kv p h1 h2 => (d i kv p h1 h2).1) fun i kv p h1 h2 => (d i kv p h1 h2).2
  | ins c ms => obtain ⟨C, dx, fs, rfl, hc, hn, d⟩ := d; exact .ins hs e hc hn d
  | _ => exact d.elim
theorem RV.freeze {k : Kd} (f : Fm mg B S ι H lo σ st) (d : RV mg B S ι H lo σ v m k) (hk : ∀ i, k ≠ .pk i) : ∃ S', Fm mg B S' ι H lo σ st ∧ Keep S ι H S' ι H ∧ Dt mg S' ι H v m := by
  cases k with
  | fz => exact ⟨S, f, .refl, d⟩
  | fr =>
    obtain ⟨a, rfl, h1, h2, h3, d, h4⟩ := d
    obtain ⟨o, e⟩ := d.som
    exact ⟨fz1 S a, f.freeze e h2 h3 h4, .fz1, (d.mono .fz1 rfl).frozen (.inr rfl)⟩
  | pk i => exact absurd rfl (hk i)
end
end FW
namespace FW
open PySem L2
inductive Res (α : Type) where
  | ok (a : α)
  | exc (c : Str) (fs : List (Str × MV)) (lo : Lo) (st : Sto)
  | bad
def Res.bind {α β : Type} : Res α → (α → Res β) → Res β
  | .ok a, f => f a
  | .exc c fs lo st, _ => .exc c fs lo st
  | .bad, _ => .bad
instance : Monad Res where
  pure := .ok
  bind := Res.bind
@[simp] theorem Res.ok_bind {α β : Type} (a : α) (f : α → Res β) : (Res.ok a >>= f) = f a := rfl
@[simp] theorem Res.pure_bind' {α β : Type} (a : α) (f : α → Res β) : ((pure a : Res α) >>= f) = f a := rfl
@[simp] theorem Res.exc_bind {α β : Type} (c fs lo st) (f : α → Res β) : ((Res.exc c fs lo st : Res α) >>= f) = .exc c fs lo st := rfl
@[simp] theorem Res.bad_bind {α β : Type} (f : α → Res β) : ((Res.bad : Res α) >>= f) = .bad := rfl
@[simp] theorem Res.pure_eq {α : Type} (a : α) : (pure a : Res α) = .ok a := rfl
abbrev EF := Lo → Sto → Res (MV × Kd × Sto)
abbrev TF := Lo → Sto → Res (Bool × Sto)
abbrev AF := Lo → Sto → Res (List (MV × Bool) × Sto)
inductive Fl where | nx | rt (m : MV) (k : Kd) | bk | ct
abbrev SF := Lo → Sto → Res (Fl × Lo × Sto)
def strip : MV → MV
  | .dct ((.non, .non) :: ps) => .dct ps
  | m => m
theorem strip_of {m : MV} (h : unmk m = true) : strip m = m := by
  unfold strip
  split
  · cases h
  · rfl
def vw (st : Sto) : MV → MV
  | .ref n => strip ((st[n]?).getD (.ref n))
  | m => m
def XR (mg : Wd) (S : Addr → Prop) (ι : List Addr) (H : Hp) (c : Str) (fs : List (Str × MV)) (cls : Value) (d : Option Addr) : Prop :=
  ∃ C, cls = .ref C ∧ mg.mg c = some (.ref C) ∧ ((fs = [] ∧ d = none) ∨
    ∃ dd vs, d = some dd ∧ S dd ∧ H dd = some (.xd vs) ∧ vs.map (·.1) = fs.map (·.1) ∧ ∀ (i : Nat) f m, vs[i]? = some f → fs[i]? = some m → Dt mg S ι H f.2 m.2)
section
variable (mg : Wd) (B : Base) (W : WX)
def XPost (S : Addr → Prop) (ι : List Addr) (H : Hp) (c : Str) (fs : List (Str × MV)) (lo : Lo) (st : Sto) : Prop :=
  ∀ S' ι' σ' H' cls d, Fm mg B S' ι' H' lo σ' st → Keep S ι H S' ι' H' → XR mg S' ι' H' c fs cls d → W cls d σ' H'
def Post (S : Addr → Prop) (ι : List Addr) (H : Hp) {α : Type} (P : α → Prop) : Res α → Prop
  | .ok a => P a
  | .exc c fs lo st => XPost mg B W S ι H c fs lo st
  | .bad => False
def tE (f : EF) : TE := fun σ H Q => ∃ S ι lo st, Fm mg B S ι H lo σ st ∧ Post mg B W S ι H (fun r => ∀ S' ι' H' v, Fm mg B S' ι' H' lo σ r.2.2 → Keep S ι H S' ι' H' → RV mg B S' ι' H' lo σ v r.1 r.2.1 → Q v H') (f lo st)
def tT (f : TF) : TT := fun σ H Q => ∃ S ι lo st, Fm mg B S ι H lo σ st ∧ Post mg B W S ι H (fun r => ∀ S' ι' H', Fm mg B S' ι' H' lo σ r.2 → Keep S ι H S' ι' H' → Q r.1 H') (f lo st)
end
section
variable {mg : Wd} {B : Base} {W : WX} {S S' S2 : Addr → Prop} {ι ι' ι2 : List Addr} {H H' H2 : Hp} {lo lo' : Lo} {σ σ' : St} {st st' : Sto} {v : V} {m : MV} {α β : Type}
theorem XPost.mono {c fs} (k : Keep S ι H S' ι' H') (x : XPost mg B W S ι H c fs lo st) : XPost mg B W S' ι' H' c fs lo st := fun S2 ι2 σ2 H2 cls d f k2 r => x S2 ι2 σ2 H2 cls d f (k.trans k2) r
theorem Post.mono {P P' : α → Prop} {r : Res α} (k : Keep S ι H S' ι' H') (h : ∀ a, P a → P' a) (x : Post mg B W S ι H P r) : Post mg B W S' ι' H' P' r := by
  cases r with
  | ok a => exact h a x
  | exc c fs lo st => exact XPost.mono k x
  | bad => exact x
theorem Post.imp {P P' : α → Prop} {r : Res α} (h : ∀ a, P a → P' a) (x : Post mg B W S ι H P r) : Post mg B W S ι H P' r := x.mono .refl h
theorem Post.bind {P : β → Prop} {r : Res α} {f : α → Res β} (x : Post mg B W S ι H P (r >>= f)) : Post mg B W S ι H (fun a => Post mg B W S ι H P (f a)) r := by
  cases r with
  | ok a => exact x
  | exc c fs lo st => exact x
  | bad => exact x
theorem tE.use {f : EF} {P : MV × Kd × Sto → Prop} {Q : VK} (fm : Fm mg B S ι H lo σ st) (p : Post mg B W S ι H P (f lo st))
    (h : ∀ m k st' S' ι' H' v, Fm mg B S' ι' H' lo σ st' → Keep S ι H S' ι' H' → RV mg B S' ι' H' lo σ v m k → P (m, k, st') → Q v H') : tE mg B W f σ H Q :=
  ⟨S, ι, lo, st, fm, p.imp fun ⟨m, k, st'⟩ hp S' ι' H' v fm' kp rv => h m k st' S' ι' H' v fm' kp rv hp⟩
theorem tT.use {f : TF} {P : Bool × Sto → Prop} {Q : Bool → Hp → Prop} (fm : Fm mg B S ι H lo σ st) (p : Post mg B W S ι H P (f lo st))
    (h : ∀ b st' S' ι' H', Fm mg B S' ι' H' lo σ st' → Keep S ι H S' ι' H' → P (b, st') → Q b H') : tT mg B W f σ H Q :=
  ⟨S, ι, lo, st, fm, p.imp fun ⟨b, st'⟩ hp S' ι' H' fm' kp => h b st' S' ι' H' fm' kp hp⟩
end
theorem _root_.L2.PE.fw {X : Cx} {e : Expr} {t t' : TE} (h : PE X e t) (i : ∀ σ H Q, t' σ H Q → t σ H Q) : PE X e t' := ⟨fun pins s σ H Q I q => h.run pins s σ H Q I (i σ H Q q)⟩
theorem _root_.L2.PT.fw {X : Cx} {e : Expr} {t t' : TT} (h : PT X e t) (i : ∀ σ H Q, t' σ H Q → t σ H Q) : PT X e t' := ⟨fun pins s σ H Q I q => h.run pins s σ H Q I (i σ H Q q)⟩
theorem _root_.L2.PA.fw {X : Cx} {e : List Expr} {t t' : TA} (h : PA X e t) (i : ∀ σ H Q, t' σ H Q → t σ H Q) : PA X e t' := ⟨fun pos pins s σ H Q I q => h.run pos pins s σ H Q I (i σ H Q q)⟩
theorem _root_.L2.PS.fw {X : Cx} {e : Stmt} {t t' : TS} (h : PS X e t) (i : ∀ D σ H, t' D σ H → t D σ H) : PS X e t' := ⟨fun pins s σ H D I q => h.run pins s σ H D I (i D σ H q)⟩
theorem _root_.L2.PSs.fw {X : Cx} {e : List Stmt} {t t' : TS} (h : PSs X e t) (i : ∀ D σ H, t' D σ H → t D σ H) : PSs X e t' := ⟨fun pins s σ H D I q => h.run pins s σ H D I (i D σ H q)⟩
theorem _root_.L2.PI.fw {X : Cx} {tg it : Expr} {t t' : TI} (h : PI X tg it t) (i : ∀ σ H Q, t' σ H Q → t σ H Q) : PI X tg it t' := ⟨fun pins s σ H Q I q => h.run pins s σ H Q I (i σ H Q q)⟩
abbrev SE (X : Cx) (B : Base) (W : WX) (e : Expr) (f : EF) : Prop := PE X e (tE X.wd B W f)
abbrev STe (X : Cx) (B : Base) (W : WX) (e : Expr) (f : TF) : Prop := PT X e (tT X.wd B W f)
section
variable (mg : Wd) (S : Addr → Prop) (ι : List Addr) (H : Hp)
def VR (x : V) : MV → Prop
  | .non => x = .non
  | .bl b => x = .bl b
  | .int i => x = .int i
  | .str s => x = .str s
  | .lst ms => ∃ p vs, x = .ref p ∧ H p = some (.lst vs) ∧ AllD mg S ι H vs ms
  | .tup ms => ∃ p vs, x = .ref p ∧ H p = some (.tup vs) ∧ AllD mg S ι H vs ms
  | .dct ps => ∃ p, x = .ref p ∧ ((∃ kvs : List (Key × V), Rd H p (.dK kvs) ∧ kvs.length = ps.length ∧ ∀ (i : Nat) kv q, kvs[i]? = some kv → ps[i]? = some q → q.1 = kM kv.1 ∧ Dt mg S ι H kv.2 q.2) ∨
      ∃ kvs : List (List Key × V), Rd H p (.dT kvs) ∧ kvs.length = ps.length ∧ ∀ (i : Nat) kv q, kvs[i]? = some kv → ps[i]? = some q → q.1 = .tup (kv.1.map kM) ∧ Dt mg S ι H kv.2 q.2)
  | .ins c ms => ∃ p C dx fs, x = .ref p ∧ H p = some (.ins C dx fs) ∧ mg.mg c = some (.ref C) ∧ fs.map (·.1) = ms.map (·.1) ∧ ∀ (i : Nat) f m, fs[i]? = some f → ms[i]? = some m → Dt mg S ι H f.2 m.2
  | .exc c ms => ∃ p C, x = .ref p ∧ mg.mg c = some (.ref C) ∧ ((ms = [] ∧ H p = some (exO C none p)) ∨ ∃ dd fs, H p = some (exO C (some dd) p) ∧ S dd ∧ H dd = some (.xd fs) ∧ fs.map (·.1) = ms.map (·.1) ∧ ∀ (i : Nat) f m, fs[i]? = some f → ms[i]? = some m → Dt mg S ι H f.2 m.2)
  | .scr ns => ∃ p, x = .ref p ∧ SqL mg.K H p (ns.map V.int)
  | .ref _ => False
end
section
variable {mg : Wd} {B : Base} {W : WX} {S S' S2 : Addr → Prop} {ι ι' ι2 : List Addr} {H H' H2 : Hp} {lo lo' : Lo} {σ σ' : St} {st st' : Sto} {v : V} {m : MV} {α β : Type}
theorem Sh.vr {a : Addr} (d : Sh mg S ι H a m) : VR mg S ι H (.ref a) m := by
  obtain ⟨o, e, d⟩ := d
  cases m with
  | lst ms => obtain ⟨vs, rfl, d⟩ := d; exact ⟨a, vs, rfl, e, d⟩
  | tup ms => obtain ⟨vs, rfl, d⟩ := d; exact ⟨a, vs, rfl, e, d⟩
  | dct ps =>
    rcases d with ⟨kvs, rfl, l, d⟩ | ⟨kvs, rfl, l, d⟩
    · exact ⟨a, rfl, .inl ⟨kvs, .of e, l, d⟩⟩
    · exact ⟨a, rfl, .inr ⟨kvs, .of e, l, d⟩⟩
  | ins c ms => obtain ⟨C, dx, fs, rfl, hc, hn, d⟩ := d; exact ⟨a, C, dx, fs, rfl, e, hc, hn, d⟩
  | _ => exact d.elim
theorem vw_of_vr {x : V} (h : VR mg S ι H x m) (st : Sto) : vw st m = m := by
  cases m with
  | ref n => exact h.elim
  | _ => rfl
theorem Dt.vr (r : Rep mg S ι H st) (d : Dt mg S ι H v m) : VR mg S ι H v (vw st m) := by
  cases d with
  | non => rfl
  | bl b => rfl
  | int i => rfl
  | str x => rfl
  | @ref n a h =>
    have hl : n < st.length := by rw [← r.len]; exact (List.getElem?_eq_some_iff.mp h).1
    have e : st[n]? = some st[n] := by simp [hl]
    show VR mg S ι H (.ref a) (strip ((st[n]?).getD (.ref n)))
    rw [e]
    rcases r.ent n a _ h e with q | ⟨ps, ob, kvs, em, q, l, d⟩
    · show VR mg S ι H (.ref a) (strip st[n])
      rw [strip_of q.unmk]
      exact q.vr
    · show VR mg S ι H (.ref a) (strip st[n])
      rw [em]
      exact ⟨a, rfl, .inr ⟨kvs, .inr ⟨ob, q⟩, l, d⟩⟩
  | tup hs h hl hi => exact ⟨_, _, rfl, h, hl, hi⟩
  | lst hs h hl hi => exact ⟨_, _, rfl, h, hl, hi⟩
  | dct hs h hl hk hi => exact ⟨_, rfl, .inl ⟨_, h, hl, fun i kv q h1 h2 => ⟨hk i kv q h1 h2, hi i kv q h1 h2⟩⟩⟩
  | dctT hs h hl hk hi => exact ⟨_, rfl, .inr ⟨_, h, hl, fun i kv q h1 h2 => ⟨hk i kv q h1 h2, hi i kv q h1 h2⟩⟩⟩
  | ins hs h hc hn hi => exact ⟨_, _, _, _, rfl, h, hc, hn, hi⟩
  | exc hs h hd h2 hc hn hi => exact ⟨_, _, rfl, hc, .inr ⟨_, _, h, hd, h2, hn, hi⟩⟩
  | exc0 hs h hc => exact ⟨_, _, rfl, hc, .inl ⟨rfl, h⟩⟩
  | scr h => exact ⟨_, rfl, h.elim (fun q => .inl q.2) fun q => q H⟩
def Hand (mg : Wd) (S : Addr → Prop) (ι : List Addr) (H : Hp) (lo : Lo) (σ : St) (v : V) (m : MV) (own : Bool) : Prop :=
  match own with
  | false => Dt mg S ι H v m
  | true => ∃ (i : Nat) (a : Addr), v = .ref a ∧ lo[i]? = some (some (m, true)) ∧ σ[i]? = some (some (.ref a))
theorem Hand.mono {b : Bool} (k : Keep S ι H S' ι' H') (h : Hand mg S ι H lo σ v m b) : Hand mg S' ι' H' lo σ v m b := by
  cases b with
  | false => exact Dt.mono k h
  | true => exact h
theorem Hand.vr {b : Bool} (f : Fm mg B S ι H lo σ st) (h : Hand mg S ι H lo σ v m b) : VR mg S ι H v (vw st m) := by
  cases b with
  | false => exact Dt.vr f.rep h
  | true =>
    obtain ⟨i, a, rfl, h1, h2⟩ := h
    obtain ⟨a', e, _, _, _, d⟩ := f.loc.own i m h1
    rw [h2] at e; cases e
    have := d.vr
    rw [vw_of_vr this]; exact this
def isPk : Kd → Bool
  | .pk _ => true
  | _ => false
theorem RV.hand {k : Kd} (f : Fm mg B S ι H lo σ st) (d : RV mg B S ι H lo σ v m k) : ∃ S', Fm mg B S' ι H lo σ st ∧ Keep S ι H S' ι H ∧ Hand mg S' ι H lo σ v m (isPk k) := by
  cases k with
  | pk i =>
    obtain ⟨a, e, h1, h2, _⟩ := d
    exact ⟨S, f, .refl, i, a, e, h1, h2⟩
  | fz => exact ⟨S, f, .refl, d⟩
  | fr => exact RV.freeze f d (fun i => by intro z; cases z)
end
def mVar (i : Nat) : EF := fun lo st => match lo[i]? with
  | some (some (m, false)) => .ok (m, .fz, st)
  | some (some (m, true)) => .ok (m, .pk i, st)
  | _ => .bad
def mC (m : MV) : EF := fun _ st => .ok (m, .fz, st)
section
variable {X : Cx} {B : Base} {W : WX}
theorem se_var (i : Nat) {x : Str} {pos : Pos} (hN : X.N[i]? = some x := by rfl) (hv : Vis X.env.scope x := by first | exact Or.inl rfl | exact Or.inr (Or.inl rfl) | exact Or.inr (Or.inr rfl)) (hd : (x == ("__debug__" : Str)) = false := by decide)
    (hcd : (x == ("__classdict__" : Str)) = false := by decide) : SE X B W (.Name x pos) (mVar i) := by
  refine (pe_var (i := i) hN hv hd hcd).fw fun σ H Q ⟨S, ι, lo, st, f, p⟩ => ?_
  unfold mVar at p
  split at p
  · rename_i m e
    obtain ⟨v, h, d⟩ := f.loc.val i m e
    exact ⟨v, h, p S ι H v f .refl d⟩
  · rename_i m e
    obtain ⟨a, h, h1, h2, h3, d⟩ := f.loc.own i m e
    exact ⟨_, h, p S ι H _ f .refl ⟨a, rfl, e, h, d⟩⟩
  · exact p.elim
theorem se_int {i j pos} : SE X B W (.Constant (.int i) j pos) (mC (.int i)) := pe_int.fw fun σ H Q ⟨S, ι, lo, st, f, p⟩ => p S ι H _ f .refl (.int i)
theorem se_bl {b j pos} : SE X B W (.Constant (.bool b) j pos) (mC (.bl b)) := pe_bl.fw fun σ H Q ⟨S, ι, lo, st, f, p⟩ => p S ι H _ f .refl (.bl b)
theorem se_non {j pos} : SE X B W (.Constant .none j pos) (mC .non) := pe_non.fw fun σ H Q ⟨S, ι, lo, st, f, p⟩ => p S ι H _ f .refl .non
theorem se_str {x j pos} : SE X B W (.Constant (.str x) j pos) (mC (.str x)) := pe_str.fw fun σ H Q ⟨S, ι, lo, st, f, p⟩ => p S ι H _ f .refl (.str x)
theorem se_glob {x : Str} {u : Value} {v : V} {m : MV} {pos : Pos} (hg : Gl X x) (hm : X.mg x = some u) (r : RelV v u) (d : ∀ S ι H, Dt X.wd S ι H v m) (hd : (x == ("__debug__" : Str)) = false := by decide) : SE X B W (.Name x pos) (mC m) :=
  (pe_glob hg hm r hd).fw fun σ H Q ⟨S, ι, lo, st, f, p⟩ => p S ι H _ f .refl (d S ι H)
abbrev G2 := Sto → MV → MV → Option (MV × Bool)
def NewOf (mg : Wd) (S : Addr → Prop) (ι : List Addr) (H : Hp) (m : MV) (Q : VK) : Prop := ∀ p o, H p = none → Ob mg S ι H o m → Q (.ref p) (upd H p o)
def Wants (mg : Wd) (S : Addr → Prop) (ι : List Addr) (H : Hp) (Q : VK) : MV × Bool → Prop
  | (m, false) => ∀ v, Dt mg S ι H v m → Q v H
  | (m, true) => NewOf mg S ι H m Q
def Op2 (X : Cx) (r : R2) (g : G2) : Prop := ∀ S ι H st x y a b z Q, Rep X.wd S ι H st → VR X.wd S ι H x a → VR X.wd S ι H y b → g st a b = some z → Wants X.wd S ι H Q z → r x y H Q
def mOp (g : G2) (fa fb : EF) : EF := fun lo st => fa lo st >>= fun (a, _, st1) => fb lo st1 >>= fun (b, _, st2) =>
  match g st2 (vw st2 a) (vw st2 b) with
  | some (m, true) => .ok (m, .fr, st2)
  | some (m, false) => .ok (m, .fz, st2)
  | none => .bad
theorem wants_of {mg : Wd} {S S0 : Addr → Prop} {ι ι0 : List Addr} {H H0 : Hp} {lo : Lo} {σ : St} {st : Sto} {z : MV × Bool} {Q : VK} {st2 : Sto} (f : Fm mg B S ι H lo σ st)
    (p : ∀ S' ι' H' v, Fm mg B S' ι' H' lo σ st → Keep S0 ι0 H0 S' ι' H' → RV mg B S' ι' H' lo σ v z.1 (if z.2 = true then .fr else .fz) → Q v H') (k : Keep S0 ι0 H0 S ι H) : Wants mg S ι H Q z := by
  obtain ⟨m, b⟩ := z
  cases b with
  | false => exact fun v d => p S ι H v f k d
  | true =>
    intro q o hq d
    obtain ⟨h1, h2, h3, h4⟩ := f.free hq
    exact p S ι (upd H q o) _ (f.new hq) (k.trans ((Ext.new hq).keep f.rep)) ⟨q, rfl, h1, h2, h3, ⟨o, upd_same, d.mono ((Ext.new hq).keep f.rep)⟩, h4⟩
theorem op_imp {g : G2} {r : R2} (ok : Op2 X r g) {fa fb : EF} : ∀ σ H Q, tE X.wd B W (mOp g fa fb) σ H Q → tOp r (tE X.wd B W fa) (tE X.wd B W fb) σ H Q := by
  intro σ H Q ⟨S, ι, lo, st, f, p⟩
  refine tE.use f (Post.bind p) fun a ka st1 S1 ι1 H1 x f1 k1 r1 p1 => ?_
  obtain ⟨S1', f1', k1', h1⟩ := r1.hand f1
  refine tE.use f1' (Post.bind (p1.mono (k1.trans k1') fun _ z => z)) fun b kb st2 S2 ι2 H2 y f2 k2 r2 p2 => ?_
  obtain ⟨S2', f2', k2', h2⟩ := r2.hand f2
  have k0 : Keep S ι H S2' ι2 H2 := k1.trans (k1'.trans (k2.trans k2'))
  have v1 := (h1.mono (k2.trans k2')).vr f2'
  have v2 := h2.vr f2'
  dsimp only at p2
  split at p2
  · rename_i m e
    exact ok S2' ι2 H2 _ x y _ _ _ Q f2'.rep v1 v2 e (wants_of (z := (m, true)) (st2 := st2) f2' p2 k0)
  · rename_i m e
    exact ok S2' ι2 H2 _ x y _ _ _ Q f2'.rep v1 v2 e (wants_of (z := (m, false)) (st2 := st2) f2' p2 k0)
  · exact p2.elim
variable {a b : Expr} {pos : Pos} {fa fb : EF}
theorem se_op {op : Operator} {r : R2} {g : G2} (ho : OpR X (binaryOp op) r) (ok : Op2 X r g) (ha : SE X B W a fa) (hb : SE X B W b fb) : SE X B W (.BinOp a op b pos) (mOp g fa fb) := (pe_op ho ha hb).fw (op_imp ok)
theorem se_cmp {op : CmpOp} {r : R2} {g : G2} (ho : OpR X (compareOp op) r) (ok : Op2 X r g) (ha : SE X B W a fa) (hb : SE X B W b fb) (hm : behindInMarks op b = false := by first | exact nomark _ | rfl) : SE X B W (.Compare a [op] [b] pos) (mOp g fa fb) := (pe_cmpR ho ha hb hm).fw (op_imp ok)
end
end FW
namespace FW
open PySem L2 PySem.Spec PyProof.Rows
section
variable {X : Cx}
def gAdd : G2
  | _, .int i, .int j => some (.int (i + j), false)
  | _, .str x, .str y => if x.length + y.length ≤ sizeLine then some (.str (x ++ y), false) else none
  | _, .lst xs, .lst ys => if xs.length + ys.length ≤ sizeLine then some (.lst (xs ++ ys), true) else none
  | _, _, _ => none
abbrev rAdd3 : R2 := fun x y H Q => (rI0 fun i j => .int (i + j)) x y H Q ∨ ((∃ i j, x = .str i ∧ y = .str j ∧ i.length + j.length ≤ sizeLine ∧ Q (.str (i ++ j)) H) ∨ rCat x y H Q)
theorem op_add3 : OpR X (binaryOp .Add) rAdd3 := op_add.or (op_add_str.or op_cat)
theorem ok_add : Op2 X rAdd3 gAdd := by
  intro S ι H st x y a b z Q hr ha hb e w
  unfold gAdd at e
  split at e
  · cases e; cases ha; cases hb
    exact .inl ⟨_, _, rfl, rfl, w _ (.int _)⟩
  · split at e
    · cases e; cases ha; cases hb
      exact .inr (.inl ⟨_, _, rfl, rfl, by assumption, w _ (.str _)⟩)
    · cases e
  · split at e
    · rename_i hl
      cases e
      obtain ⟨p, vs, rfl, h1, d1⟩ := ha
      obtain ⟨q, ws, rfl, h2, d2⟩ := hb
      exact .inr (.inr ⟨p, q, vs, ws, rfl, rfl, h1, h2, by rw [d1.1, d2.1]; exact hl, fun r hr => w r _ hr ⟨_, rfl, d1.append d2⟩⟩)
    · cases e
  · cases e
def gII (C : Int → Int → Prop) [∀ i j, Decidable (C i j)] (g : Int → Int → MV) : G2
  | _, .int i, .int j => if C i j then some (g i j, false) else none
  | _, _, _ => none
theorem ok_ii {C : Int → Int → Prop} [∀ i j, Decidable (C i j)] {g : Int → Int → MV} {g' : Int → Int → V} (hg : ∀ mg S ι H i j, Dt mg S ι H (g' i j) (g i j)) : Op2 X (rI C g') (gII C g) := by
  intro S ι H st x y a b z Q hr ha hb e w
  unfold gII at e
  split at e
  · split at e
    · cases e; cases ha; cases hb
      exact ⟨_, _, rfl, rfl, by assumption, w _ (hg _ _ _ _ _ _)⟩
    · cases e
  · cases e
def gI0 (g : Int → Int → MV) : G2
  | _, .int i, .int j => some (g i j, false)
  | _, _, _ => none
theorem ok_i0 {g : Int → Int → MV} {g' : Int → Int → V} (hg : ∀ mg S ι H i j, Dt mg S ι H (g' i j) (g i j)) : Op2 X (rI0 g') (gI0 g) := by
  intro S ι H st x y a b z Q hr ha hb e w
  unfold gI0 at e
  split at e
  · cases e; cases ha; cases hb
    exact ⟨_, _, rfl, rfl, w _ (hg _ _ _ _ _ _)⟩
  · cases e
theorem Op2.or {r r' : R2} {g g' : G2} (h : Op2 X r g) (h' : Op2 X r' g') : Op2 X (fun x y H Q => r x y H Q ∨ r' x y H Q) (fun st a b => (g st a b).or (g' st a b)) := by
  intro S ι H st x y a b z Q hr ha hb e w
  dsimp only at e
  cases q : g st a b with
  | some u =>
    rw [q] at e
    have e' : u = z := by simpa using e
    subst e'
    exact .inl (h S ι H st x y a b u Q hr ha hb q w)
  | none =>
    rw [q] at e
    exact .inr (h' S ι H st x y a b z Q hr ha hb (by simpa using e) w)
abbrev gSub : G2 := gI0 fun i j => .int (i - j)
instance : ∀ i j : Int, Decidable (CMulW i j) := fun i j => by unfold CMulW; infer_instance
instance : ∀ i j : Int, Decidable (CMul i j) := fun i j => by unfold CMul; infer_instance
instance : ∀ i j : Int, Decidable (CDivW i j) := fun i j => by unfold CDivW; infer_instance
def gRep : G2
  | _, .lst xs, .int k => if -(2 ^ 63) ≤ k ∧ k < 2 ^ 63 ∧ xs.length * k.toNat ≤ sizeLine then some (.lst (List.replicate k.toNat xs).flatten, true) else none
  | _, _, _ => none
theorem AllD.rep {mg : Wd} {S : Addr → Prop} {ι : List Addr} {H : Hp} {vs : List V} {ms : List MV} (d : AllD mg S ι H vs ms) : ∀ k : Nat, AllD mg S ι H (List.replicate k vs).flatten (List.replicate k ms).flatten
  | 0 => AllD.nil
  | k + 1 => by
    rw [List.replicate_succ, List.replicate_succ, List.flatten_cons, List.flatten_cons]
    exact d.append (d.rep k)
theorem ok_rep : Op2 X rRep gRep := by
  intro S ι H st x y a b z Q hr ha hb e w
  unfold gRep at e
  split at e
  · split at e
    · rename_i hl
      cases e
      obtain ⟨p, vs, rfl, h1, d1⟩ := ha
      cases hb
      exact ⟨p, _, vs, rfl, rfl, h1, hl.1, hl.2.1, by rw [d1.1]; exact hl.2.2, fun r hr => w r _ hr ⟨_, rfl, d1.rep _⟩⟩
    · cases e
  · cases e
abbrev gMul : G2 := fun st a b => (gII CMulW (fun i j => .int (i * j)) st a b).or (gRep st a b)
theorem op_mul2 : OpR X (binaryOp .Mult) (fun x y H Q => (rI CMulW fun i j => .int (i * j)) x y H Q ∨ rRep x y H Q) := op_mulW.or op_rep
theorem ok_mul : Op2 X (fun x y H Q => (rI CMulW fun i j => .int (i * j)) x y H Q ∨ rRep x y H Q) gMul := Op2.or (ok_ii fun _ _ _ _ _ _ => .int _) ok_rep
abbrev gDiv : G2 := gII CDivW fun i j => .int (i / j)
abbrev gMod : G2 := gII (fun _ j => 0 < j) fun i j => .int (i % j)
def CPowW (i j : Int) : Prop := 0 ≤ j ∧ (Builtin.Int.intBits i : Int) * j ≤ 2 ^ 27
instance : ∀ i j : Int, Decidable (CPowW i j) := fun i j => by unfold CPowW; infer_instance
abbrev gPow : G2 := gII CPowW fun i j => .int (i ^ j.toNat)
theorem op_powW : OpR X (binaryOp .Pow) (rI CPowW fun i j => .int (i ^ j.toNat)) := opI fun _ _ _ _ _ _ _ hc q => pow_int hc.1 hc.2 q
section
variable {B : Base} {W : WX} {a b : Expr} {pos : Pos} {fa fb : EF}
theorem se_add (ha : SE X B W a fa) (hb : SE X B W b fb) : SE X B W (.BinOp a .Add b pos) (mOp gAdd fa fb) := se_op op_add3 ok_add ha hb
theorem se_sub (ha : SE X B W a fa) (hb : SE X B W b fb) : SE X B W (.BinOp a .Sub b pos) (mOp gSub fa fb) := se_op op_sub (ok_i0 fun _ _ _ _ _ _ => .int _) ha hb
theorem se_mul (ha : SE X B W a fa) (hb : SE X B W b fb) : SE X B W (.BinOp a .Mult b pos) (mOp gMul fa fb) := se_op op_mul2 ok_mul ha hb
theorem se_fdiv (ha : SE X B W a fa) (hb : SE X B W b fb) : SE X B W (.BinOp a .FloorDiv b pos) (mOp gDiv fa fb) := se_op op_fdivW (ok_ii fun _ _ _ _ _ _ => .int _) ha hb
theorem se_mod (ha : SE X B W a fa) (hb : SE X B W b fb) : SE X B W (.BinOp a .Mod b pos) (mOp gMod fa fb) := se_op op_mod (ok_ii fun _ _ _ _ _ _ => .int _) ha hb
theorem se_pow (ha : SE X B W a fa) (hb : SE X B W b fb) : SE X B W (.BinOp a .Pow b pos) (mOp gPow fa fb) := se_op op_powW (ok_ii fun _ _ _ _ _ _ => .int _) ha hb
abbrev gLt : G2 := gI0 fun i j => .bl (decide (i < j))
abbrev gLe : G2 := gI0 fun i j => .bl (decide (i ≤ j))
abbrev gGt : G2 := gI0 fun i j => .bl (decide (j < i))
abbrev gGe : G2 := gI0 fun i j => .bl (decide (j ≤ i))
end
def mapO {α β : Type} (f : α → Option β) : List α → Option (List β)
  | [] => some []
  | x :: xs => match f x, mapO f xs with
    | some y, some ys => some (y :: ys)
    | _, _ => none
def toD (st : Sto) : Nat → MV → Option PyData
  | 0, _ => none
  | k + 1, m => match vw st m with
    | .non => some .none
    | .bl b => some (.bool b)
    | .int i => some (.int i)
    | .str x => some (.str x)
    | .lst xs => (mapO (toD st k) xs).map .list
    | .tup xs => (mapO (toD st k) xs).map .tuple
    | _ => none
section
variable {mg : Wd} {S : Addr → Prop} {ι : List Addr} {H : Hp} {st : Sto} {v : V} {m : MV}
theorem dpAll_of {f : MV → Option PyData} : ∀ {ms : List MV} {vs : List V} {ds : List PyData}, AllD mg S ι H vs ms → (∀ v m d, Dt mg S ι H v m → f m = some d → Dp mg.K H v d) → mapO f ms = some ds → DpAll mg.K H vs ds
  | [], vs, ds, a, h, e => by
    obtain rfl := a.inv_nil
    cases e; exact .nil
  | m :: ms, vs, ds, a, h, e => by
    obtain ⟨v, vs', rfl, d, r⟩ := a.inv_cons
    unfold mapO at e
    split at e
    · rename_i y ys e1 e2
      cases e
      exact .cons (h v m y d e1) (dpAll_of r h e2)
    · cases e
theorem VR.dp (r : Rep mg S ι H st) : ∀ (k : Nat) (v : V) (m : MV) (d : PyData), VR mg S ι H v (vw st m) → toD st k m = some d → Dp mg.K H v d
  | 0, v, m, d, h, e => by cases e
  | k + 1, v, m, d, h, e => by
    have go : ∀ v m d, Dt mg S ι H v m → toD st k m = some d → Dp mg.K H v d := fun v m d q e => VR.dp r k v m d (q.vr r) e
    unfold toD at e
    split at e
    · rename_i q; rw [q] at h; cases h; cases e; exact .non
    · rename_i q; rw [q] at h; cases h; cases e; exact .bl _
    · rename_i q; rw [q] at h; cases h; cases e; exact .int _
    · rename_i q; rw [q] at h; cases h; cases e; exact .str _
    · rename_i xs q
      rw [q] at h
      obtain ⟨p, vs, rfl, h1, d1⟩ := h
      obtain ⟨ds, e1, rfl⟩ := Option.map_eq_some_iff.mp e
      exact .lst (.of h1) (dpAll_of d1 go e1)
    · rename_i xs q
      rw [q] at h
      obtain ⟨p, vs, rfl, h1, d1⟩ := h
      obtain ⟨ds, e1, rfl⟩ := Option.map_eq_some_iff.mp e
      exact .tup (.of h1) (dpAll_of d1 go e1)
    · cases e
end
abbrev dpt : Nat := 12
def gEqB (neg : Bool) : G2 := fun st a b => match toD st dpt a, toD st dpt b with
  | some d, some e => if SeqAt.shaped d = true ∧ SeqAt.shaped e = true then some (.bl (if neg then !PyData.eqv d e else PyData.eqv d e), false) else none
  | _, _ => none
theorem ok_eq : Op2 X (rEqD X.K) (gEqB false) := by
  intro S ι H st x y a b z Q hr ha hb e w
  unfold gEqB at e
  split at e
  · rename_i d d' e1 e2
    split at e
    · rename_i hs
      cases e
      exact ⟨d, d', VR.dp (mg := X.wd) hr _ x a d (by rw [vw_of_vr ha]; exact ha) e1, VR.dp (mg := X.wd) hr _ y b d' (by rw [vw_of_vr hb]; exact hb) e2, hs.1, hs.2, w _ (.bl _)⟩
    · cases e
  · cases e
theorem ok_ne : Op2 X (rNeD X.K) (gEqB true) := by
  intro S ι H st x y a b z Q hr ha hb e w
  unfold gEqB at e
  split at e
  · rename_i d d' e1 e2
    split at e
    · rename_i hs
      cases e
      exact ⟨d, d', VR.dp (mg := X.wd) hr _ x a d (by rw [vw_of_vr ha]; exact ha) e1, VR.dp (mg := X.wd) hr _ y b d' (by rw [vw_of_vr hb]; exact hb) e2, hs.1, hs.2, w _ (.bl _)⟩
    · cases e
  · cases e
section
variable {B : Base} {W : WX} {a b c : Expr} {pos : Pos} {fa fb fc : EF}
theorem se_eq {k : Nat} (hr : Room k X.A) (ha : SE X B W a fa) (hb : SE X B W b fb) : SE X B W (.Compare a [.Eq] [b] pos) (mOp (gEqB false) fa fb) := se_cmp (op_eqD hr.units) ok_eq ha hb (nomark _)
def isNon : MV → Bool
  | .non => true
  | _ => false
def gIsN (neg : Bool) : G2
  | _, a, .non => some (.bl (if neg then !isNon a else isNon a), false)
  | _, _, _ => none
theorem vr_non {mg : Wd} {S : Addr → Prop} {ι : List Addr} {H : Hp} {x : V} {m : MV} (h : VR mg S ι H x m) : decide (x = .non) = isNon m := by
  cases m with
  | non => rw [show x = .non from h]; rfl
  | bl b => rw [show x = .bl b from h]; rfl
  | int b => rw [show x = .int b from h]; rfl
  | str b => rw [show x = .str b from h]; rfl
  | lst ms => obtain ⟨p, vs, rfl, _⟩ := h; rfl
  | tup ms => obtain ⟨p, vs, rfl, _⟩ := h; rfl
  | dct ms => obtain ⟨p, rfl, _⟩ := h; rfl
  | ins c ms => obtain ⟨p, _, _, _, rfl, _⟩ := h; rfl
  | exc c ms => obtain ⟨p, _, rfl, _⟩ := h; rfl
  | scr ns => obtain ⟨p, rfl, _⟩ := h; rfl
  | ref n => exact h.elim
theorem ok_isN : Op2 X (fun x y H Q => y = .non ∧ Q (.bl (decide (x = .non))) H) (gIsN false) := by
  intro S ι H st x y a b z Q hr ha hb e w
  unfold gIsN at e
  split at e
  · cases e
    refine ⟨hb, ?_⟩
    rw [vr_non ha]
    exact w _ (.bl _)
  · cases e
def mChain (g g' : G2) (fa fb fc : EF) : EF := fun lo st => fa lo st >>= fun (a, _, st1) => fb lo st1 >>= fun (b, _, st2) =>
  match g st2 (vw st2 a) (vw st2 b) with
  | some (.bl true, false) => fc lo st2 >>= fun (c, _, st3) => match g' st3 (vw st3 b) (vw st3 c) with
    | some (m, true) => .ok (m, .fr, st3)
    | some (m, false) => .ok (m, .fz, st3)
    | none => .bad
  | some (.bl false, false) => .ok (.bl false, .fz, st2)
  | _ => .bad
theorem se_chain {op op' : CmpOp} {r r' : R2} {g g' : G2} (ho : OpR X (compareOp op) r) (ho' : OpR X (compareOp op') r') (ok : Op2 X r g) (ok' : Op2 X r' g') (ha : SE X B W a fa) (hb : SE X B W b fb) (hc : SE X B W c fc)
    (hm : lastMarks [op, op'] [b, c] = false := by with_unfolding_all rfl) : SE X B W (.Compare a [op, op'] [b, c] pos) (mChain g g' fa fb fc) := by
  refine (pe_chain ho ho' ha hb hc hm).fw fun σ H Q ⟨S, ι, lo, st, f, p⟩ => ?_
  refine tE.use f (Post.bind p) fun a ka st1 S1 ι1 H1 x f1 k1 r1 p1 => ?_
  obtain ⟨S1', f1', k1', h1⟩ := r1.hand f1
  refine tE.use f1' (Post.bind (p1.mono (k1.trans k1') fun _ z => z)) fun b kb st2 S2 ι2 H2 y f2 k2 r2 p2 => ?_
  obtain ⟨S2', f2', k2', h2⟩ := r2.hand f2
  have k0 : Keep S ι H S2' ι2 H2 := k1.trans (k1'.trans (k2.trans k2'))
  have v1 := (h1.mono (k2.trans k2')).vr f2'
  have v2 := h2.vr f2'
  dsimp only at p2
  split at p2
  · rename_i e
    refine ok S2' ι2 H2 _ x y _ _ _ _ f2'.rep v1 v2 e fun v d => ?_
    cases d
    refine ⟨true, rfl, ?_⟩
    rw [if_pos rfl]
    refine tE.use f2' (Post.bind (p2.mono (k2.trans k2') fun _ z => z)) fun c kc st3 S3 ι3 H3 w f3 k3 r3 p3 => ?_
    obtain ⟨S3', f3', k3', h3⟩ := r3.hand f3
    have v2' := (h2.mono (k3.trans k3')).vr f3'
    have v3 := h3.vr f3'
    dsimp only at p3
    split at p3
    · rename_i m e
      exact ok' S3' ι3 H3 _ y w _ _ _ Q f3'.rep v2' v3 e (wants_of (z := (m, true)) (st2 := st3) f3' p3 (k0.trans (k3.trans k3')))
    · rename_i m e
      exact ok' S3' ι3 H3 _ y w _ _ _ Q f3'.rep v2' v3 e (wants_of (z := (m, false)) (st2 := st3) f3' p3 (k0.trans (k3.trans k3')))
    · exact p3.elim
  · rename_i e
    refine ok S2' ι2 H2 _ x y _ _ _ _ f2'.rep v1 v2 e fun v d => ?_
    cases d
    refine ⟨false, rfl, ?_⟩
    rw [if_neg Bool.false_ne_true]
    exact p2 S2' ι2 H2 _ f2' k0 (.bl _)
  · exact p2.elim
theorem se_lele (ha : SE X B W a fa) (hb : SE X B W b fb) (hc : SE X B W c fc) (hm : lastMarks [.LtE, .LtE] [b, c] = false := by with_unfolding_all rfl) : SE X B W (.Compare a [.LtE, .LtE] [b, c] pos) (mChain gLe gLe fa fb fc) :=
  se_chain op_le op_le (ok_i0 fun _ _ _ _ _ _ => .bl _) (ok_i0 fun _ _ _ _ _ _ => .bl _) ha hb hc hm
def mUn (g : MV → Option MV) (fa : EF) : EF := fun lo st => fa lo st >>= fun (a, _, st1) => match g a with
  | some m => .ok (m, .fz, st1)
  | none => .bad
def gNeg : MV → Option MV
  | .int i => some (.int (-i))
  | _ => none
def gNot : MV → Option MV
  | .bl b => some (.bl (!b))
  | _ => none
theorem rv_int {mg : Wd} {S : Addr → Prop} {ι : List Addr} {H : Hp} {lo : Lo} {σ : L2.St} {st : Sto} {v : V} {i : Int} {k : Kd} (f : Fm mg B S ι H lo σ st) (r : RV mg B S ι H lo σ v (.int i) k) : v = .int i := by
  obtain ⟨S', f', _, h⟩ := r.hand f
  exact h.vr f'
theorem rv_bl {mg : Wd} {S : Addr → Prop} {ι : List Addr} {H : Hp} {lo : Lo} {σ : L2.St} {st : Sto} {v : V} {i : Bool} {k : Kd} (f : Fm mg B S ι H lo σ st) (r : RV mg B S ι H lo σ v (.bl i) k) : v = .bl i := by
  obtain ⟨S', f', _, h⟩ := r.hand f
  exact h.vr f'
theorem se_neg (ha : SE X B W a fa) : SE X B W (.UnaryOp .USub a pos) (mUn gNeg fa) := by
  refine (pe_un un_neg ha).fw fun σ H Q ⟨S, ι, lo, st, f, p⟩ => ?_
  refine tE.use f (Post.bind p) fun a ka st1 S1 ι1 H1 x f1 k1 r1 p1 => ?_
  dsimp only at p1
  split at p1
  · rename_i m e
    unfold gNeg at e
    split at e
    · cases e
      exact ⟨_, rv_int f1 r1, p1 S1 ι1 H1 _ f1 k1 (.int _)⟩
    · cases e
  · exact p1.elim
theorem se_not (ha : SE X B W a fa) : SE X B W (.UnaryOp .Not a pos) (mUn gNot fa) := by
  refine (pe_not ha).fw fun σ H Q ⟨S, ι, lo, st, f, p⟩ => ?_
  refine tE.use f (Post.bind p) fun a ka st1 S1 ι1 H1 x f1 k1 r1 p1 => ?_
  dsimp only at p1
  split at p1
  · rename_i m e
    unfold gNot at e
    split at e
    · cases e
      exact ⟨_, rv_bl f1 r1, p1 S1 ι1 H1 _ f1 k1 (.bl _)⟩
    · cases e
  · exact p1.elim
def mTv (fa : EF) : TF := fun lo st => fa lo st >>= fun (a, _, st1) => match a with
  | .bl b => .ok (b, st1)
  | _ => .bad
theorem tv_imp : ∀ σ H Q, tT X.wd B W (mTv fa) σ H Q → tB (tE X.wd B W fa) σ H Q := by
  intro σ H Q ⟨S, ι, lo, st, f, p⟩
  refine tE.use f (Post.bind p) fun a ka st1 S1 ι1 H1 x f1 k1 r1 p1 => ?_
  dsimp only at p1
  split at p1
  · exact ⟨_, rv_bl f1 r1, p1 S1 ι1 H1 f1 k1⟩
  · exact p1.elim
theorem st_val (ha : SE X B W a fa) (he : ∀ whole, isTrue a X.env whole = (do let v ← whole; standAt a.pos; holding [v] (truthy v)) := by intro _; rfl) : STe X B W a (mTv fa) := (pt_val ha he).fw tv_imp
theorem st_cmp {op : CmpOp} {r : R2} {g : G2} (ho : OpR X (compareOp op) r) (ok : Op2 X r g) (ha : SE X B W a fa) (hb : SE X B W b fb) (hm : behindInMarks op b = false := by first | exact nomark _ | rfl) : STe X B W (.Compare a [op] [b] pos) (mTv (mOp g fa fb)) := by
  refine (pt_cmpR ho ha hb hm).fw fun σ H Q h => ?_
  exact op_imp ok σ H _ (by
    obtain ⟨S, ι, lo, st, f, p⟩ := h
    refine tE.use f (Post.bind p) fun a ka st1 S1 ι1 H1 x f1 k1 r1 p1 => ?_
    dsimp only at p1
    split at p1
    · exact ⟨_, rv_bl f1 r1, p1 S1 ι1 H1 f1 k1⟩
    · exact p1.elim)
theorem st_chain {op op' : CmpOp} {r r' : R2} {g g' : G2} (ho : OpR X (compareOp op) r) (ho' : OpR X (compareOp op') r') (ok : Op2 X r g) (ok' : Op2 X r' g') (ha : SE X B W a fa) (hb : SE X B W b fb) (hc : SE X B W c fc)
    (hm : lastMarks [op, op'] [b, c] = false := by with_unfolding_all rfl) : STe X B W (.Compare a [op, op'] [b, c] pos) (mTv (mChain g g' fa fb fc)) := by
  refine (pt_chain ho ho' ha hb hc hm).fw fun σ H Q ⟨S, ι, lo, st, f, p⟩ => ?_
  have p' := Post.bind p
  show tE X.wd B W fa σ H _
  refine tE.use f (Post.bind p') fun a ka st1 S1 ι1 H1 x f1 k1 r1 p1 => ?_
  obtain ⟨S1', f1', k1', h1⟩ := r1.hand f1
  refine tE.use f1' (Post.bind (p1.mono (k1.trans k1') fun _ z => z)) fun b kb st2 S2 ι2 H2 y f2 k2 r2 p2 => ?_
  obtain ⟨S2', f2', k2', h2⟩ := r2.hand f2
  have k0 : Keep S ι H S2' ι2 H2 := k1.trans (k1'.trans (k2.trans k2'))
  have v1 := (h1.mono (k2.trans k2')).vr f2'
  have v2 := h2.vr f2'
  dsimp only at p2
  split at p2
  · rename_i e
    refine ok S2' ι2 H2 _ x y _ _ _ _ f2'.rep v1 v2 e fun v d => ?_
    cases d
    refine ⟨true, rfl, ?_⟩
    rw [if_pos rfl]
    refine tE.use f2' (Post.bind (p2.mono (k2.trans k2') fun _ z => z)) fun c kc st3 S3 ι3 H3 w f3 k3 r3 p3 => ?_
    obtain ⟨S3', f3', k3', h3⟩ := r3.hand f3
    have v2' := (h2.mono (k3.trans k3')).vr f3'
    have v3 := h3.vr f3'
    dsimp only at p3
    split at p3
    · rename_i m e
      cases m with
      | bl b => exact ok' S3' ι3 H3 _ y w _ _ _ _ f3'.rep v2' v3 e fun p o hq d => False.elim d
      | _ => exact False.elim p3
    · rename_i m e
      cases m with
      | bl b =>
        refine ok' S3' ι3 H3 _ y w _ _ _ _ f3'.rep v2' v3 e fun v d => ?_
        cases d
        exact ⟨_, rfl, p3 S3' ι3 H3 f3' (k0.trans (k3.trans k3'))⟩
      | _ => exact False.elim p3
    · exact p3.elim
  · rename_i e
    refine ok S2' ι2 H2 _ x y _ _ _ _ f2'.rep v1 v2 e fun v d => ?_
    cases d
    refine ⟨false, rfl, ?_⟩
    rw [if_neg Bool.false_ne_true]
    exact ⟨_, rfl, p2 S2' ι2 H2 f2' k0⟩
  · exact p2.elim
abbrev SW (X : Cx) (B : Base) (W : WX) (e : Expr) (f : TF) : Prop := PW X e (tT X.wd B W f)
theorem _root_.L2.PW.fw {X : Cx} {e : Expr} {t t' : TT} (h : PW X e t) (i : ∀ σ H Q, t' σ H Q → t σ H Q) : PW X e t' := ⟨fun wh pins s σ H Q I q => h.run wh pins s σ H Q I (i σ H Q q)⟩
def mAnd (fa fb : TF) : TF := fun lo st => fa lo st >>= fun (a, st1) => if a = true then fb lo st1 else .ok (false, st1)
def mOr (fa fb : TF) : TF := fun lo st => fa lo st >>= fun (a, st1) => if a = true then .ok (true, st1) else fb lo st1
def mNotT (fa : TF) : TF := fun lo st => fa lo st >>= fun (a, st1) => .ok (!a, st1)
variable {ga gb : TF} {rest : List Expr}
theorem sw_and1 (ha : STe X B W a ga) : SW X B W (.BoolOp .And [a] pos) ga := pw_and1 ha
theorem sw_or1 (ha : STe X B W a ga) : SW X B W (.BoolOp .Or [a] pos) ga := pw_or1 ha
theorem sw_and (ha : STe X B W a ga) (hb : SW X B W (.BoolOp .And (b :: rest) pos) gb) : SW X B W (.BoolOp .And (a :: b :: rest) pos) (mAnd ga gb) := by
  refine (pw_and ha hb).fw fun σ H Q ⟨S, ι, lo, st, f, p⟩ => ?_
  refine tT.use f (Post.bind p) fun a st1 S1 ι1 H1 f1 k1 p1 => ?_
  dsimp only at p1
  cases a with
  | true =>
    rw [if_pos rfl] at p1 ⊢
    exact tT.use f1 (p1.mono k1 fun _ z => z) fun b st2 S2 ι2 H2 f2 k2 p2 => p2 S2 ι2 H2 f2 (k1.trans k2)
  | false =>
    rw [if_neg Bool.false_ne_true] at p1 ⊢
    exact p1 S1 ι1 H1 f1 k1
theorem sw_or (ha : STe X B W a ga) (hb : SW X B W (.BoolOp .Or (b :: rest) pos) gb) : SW X B W (.BoolOp .Or (a :: b :: rest) pos) (mOr ga gb) := by
  refine (pw_or ha hb).fw fun σ H Q ⟨S, ι, lo, st, f, p⟩ => ?_
  refine tT.use f (Post.bind p) fun a st1 S1 ι1 H1 f1 k1 p1 => ?_
  dsimp only at p1
  cases a with
  | false =>
    rw [if_neg Bool.false_ne_true] at p1 ⊢
    exact tT.use f1 (p1.mono k1 fun _ z => z) fun b st2 S2 ι2 H2 f2 k2 p2 => p2 S2 ι2 H2 f2 (k1.trans k2)
  | true =>
    rw [if_pos rfl] at p1 ⊢
    exact p1 S1 ι1 H1 f1 k1
theorem st_w {e : Expr} (h : SW X B W e ga) : STe X B W e ga := h.pt
theorem st_not (ha : STe X B W a ga) : STe X B W (.UnaryOp .Not a pos) (mNotT ga) := by
  refine (pt_not ha).fw fun σ H Q ⟨S, ι, lo, st, f, p⟩ => ?_
  exact tT.use f (Post.bind p) fun a st1 S1 ι1 H1 f1 k1 p1 => p1 S1 ι1 H1 f1 k1
def mAndV (fa fb : EF) : EF := fun lo st => fa lo st >>= fun (a, _, st1) => match a with
  | .bl true => fb lo st1
  | .bl false => .ok (.bl false, .fz, st1)
  | _ => .bad
def mOrV (fa fb : EF) : EF := fun lo st => fa lo st >>= fun (a, _, st1) => match a with
  | .bl false => fb lo st1
  | .bl true => .ok (.bl true, .fz, st1)
  | _ => .bad
theorem se_one {op : BoolOp} (ha : SE X B W a fa) : SE X B W (.BoolOp op [a] pos) fa := pe_one ha
theorem se_and (ha : SE X B W a fa) (hb : SE X B W (.BoolOp .And (b :: rest) pos) fb) : SE X B W (.BoolOp .And (a :: b :: rest) pos) (mAndV fa fb) := by
  refine (pe_and ha hb).fw fun σ H Q ⟨S, ι, lo, st, f, p⟩ => ?_
  refine tE.use f (Post.bind p) fun a ka st1 S1 ι1 H1 x f1 k1 r1 p1 => ?_
  dsimp only at p1
  split at p1
  · refine ⟨true, rv_bl f1 r1, ?_⟩
    rw [if_pos rfl]
    exact tE.use f1 (p1.mono k1 fun _ z => z) fun b kb st2 S2 ι2 H2 v f2 k2 r2 p2 => p2 S2 ι2 H2 v f2 (k1.trans k2) r2
  · refine ⟨false, rv_bl f1 r1, ?_⟩
    rw [if_neg Bool.false_ne_true]
    exact p1 S1 ι1 H1 _ f1 k1 (.bl _)
  · exact p1.elim
def mIfE (ga : TF) (fa fb : EF) : EF := fun lo st => ga lo st >>= fun (b, st1) => if b = true then fa lo st1 else fb lo st1
end
end
end FW
namespace FW
open PySem L2 PySem.Spec PyProof.Rows
def HandAll (mg : Wd) (S : Addr → Prop) (ι : List Addr) (H : Hp) (lo : Lo) (σ : L2.St) (vs : List V) (l : List (MV × Bool)) : Prop :=
  vs.length = l.length ∧ ∀ (i : Nat) v z, vs[i]? = some v → l[i]? = some z → Hand mg S ι H lo σ v z.1 z.2
section
variable {mg : Wd} {B : Base} {W : WX} {S S' S2 : Addr → Prop} {ι ι' ι2 : List Addr} {H H' H2 : Hp} {lo lo' : Lo} {σ σ' : L2.St} {st st' : Sto} {v : V} {m : MV} {vs : List V} {l : List (MV × Bool)}
theorem HandAll.nil : HandAll mg S ι H lo σ [] [] := ⟨rfl, fun i v z h => by simp at h⟩
theorem HandAll.cons {z : MV × Bool} (d : Hand mg S ι H lo σ v z.1 z.2) (r : HandAll mg S ι H lo σ vs l) : HandAll mg S ι H lo σ (v :: vs) (z :: l) := by
  refine ⟨by simp [r.1], fun i w n h1 h2 => ?_⟩
  cases i with
  | zero => simp at h1 h2; subst h1; subst h2; exact d
  | succ i => exact r.2 i w n (by simpa using h1) (by simpa using h2)
theorem HandAll.inv_cons {z : MV × Bool} (r : HandAll mg S ι H lo σ vs (z :: l)) : ∃ v vs', vs = v :: vs' ∧ Hand mg S ι H lo σ v z.1 z.2 ∧ HandAll mg S ι H lo σ vs' l := by
  cases vs with
  | nil => exact absurd r.1 (by simp)
  | cons v vs' => exact ⟨v, vs', rfl, r.2 0 v z rfl rfl, by have := r.1; simpa using this, fun i w n h1 h2 => r.2 (i + 1) w n (by simpa using h1) (by simpa using h2)⟩
theorem HandAll.inv_nil (r : HandAll mg S ι H lo σ vs []) : vs = [] := List.length_eq_zero_iff.mp r.1
theorem HandAll.mono (k : Keep S ι H S' ι' H') (r : HandAll mg S ι H lo σ vs l) : HandAll mg S' ι' H' lo σ vs l := ⟨r.1, fun i v z h1 h2 => (r.2 i v z h1 h2).mono k⟩
def allFz (l : List (MV × Bool)) : Option (List MV) := if l.all (fun z => !z.2) = true then some (l.map (·.1)) else none
theorem HandAll.data (r : HandAll mg S ι H lo σ vs l) {ms : List MV} (h : allFz l = some ms) : AllD mg S ι H vs ms := by
  unfold allFz at h
  split at h
  · rename_i ha
    cases h
    refine ⟨by simp [r.1], fun i v m h1 h2 => ?_⟩
    rw [List.getElem?_map] at h2
    obtain ⟨z, hz, rfl⟩ := Option.map_eq_some_iff.mp h2
    have hb : z.2 = false := by
      have := List.all_eq_true.mp ha z (List.mem_of_getElem? hz)
      simpa using this
    have := r.2 i v z h1 hz
    unfold Hand at this
    rw [hb] at this
    exact this
  · cases h
end
def tA (mg : Wd) (B : Base) (W : WX) (f : AF) : TA := fun σ H Q => ∃ S ι lo st, Fm mg B S ι H lo σ st ∧ Post mg B W S ι H (fun r => ∀ S' ι' H' vs, Fm mg B S' ι' H' lo σ r.2 → Keep S ι H S' ι' H' → HandAll mg S' ι' H' lo σ vs r.1 → Q vs H') (f lo st)
abbrev SA (X : Cx) (B : Base) (W : WX) (es : List Expr) (f : AF) : Prop := PA X es (tA X.wd B W f)
theorem tA.use {mg : Wd} {B : Base} {W : WX} {S : Addr → Prop} {ι : List Addr} {H : Hp} {lo : Lo} {σ : L2.St} {st : Sto} {f : AF} {P : List (MV × Bool) × Sto → Prop} {Q : List V → Hp → Prop} (fm : Fm mg B S ι H lo σ st) (p : Post mg B W S ι H P (f lo st))
    (h : ∀ l st' S' ι' H' vs, Fm mg B S' ι' H' lo σ st' → Keep S ι H S' ι' H' → HandAll mg S' ι' H' lo σ vs l → P (l, st') → Q vs H') : tA mg B W f σ H Q :=
  ⟨S, ι, lo, st, fm, p.imp fun ⟨l, st'⟩ hp S' ι' H' vs fm' kp rv => h l st' S' ι' H' vs fm' kp rv hp⟩
def mNil : AF := fun _ st => .ok ([], st)
def mCons (f : EF) (g : AF) : AF := fun lo st => f lo st >>= fun (m, k, st1) => g lo st1 >>= fun (l, st2) => .ok ((m, isPk k) :: l, st2)
section
variable {X : Cx} {B : Base} {W : WX} {e : Expr} {es : List Expr} {f : EF} {g : AF} {pos : Pos}
theorem sa_nil : SA X B W [] mNil := pa_nil.fw fun σ H Q ⟨S, ι, lo, st, fm, p⟩ => p S ι H [] fm .refl .nil
theorem sa_cons (he : SE X B W e f) (hr : SA X B W es g) (hs : starEach (e :: es) X.env = (false, eval e X.env) :: starEach es X.env := by rfl) : SA X B W (e :: es) (mCons f g) := by
  refine (pa_cons he hr hs).fw fun σ H Q ⟨S, ι, lo, st, fm, p⟩ => ?_
  refine tE.use fm (Post.bind p) fun a ka st1 S1 ι1 H1 x f1 k1 r1 p1 => ?_
  obtain ⟨S1', f1', k1', h1⟩ := r1.hand f1
  refine tA.use f1' (Post.bind (p1.mono (k1.trans k1') fun _ z => z)) fun l st2 S2 ι2 H2 vs f2 k2 r2 p2 => ?_
  exact p2 S2 ι2 H2 (x :: vs) f2 (k1.trans (k1'.trans k2)) (.cons (h1.mono k2) r2)
def mLst (g : AF) : EF := fun lo st => g lo st >>= fun (l, st1) => match allFz l with
  | some ms => if ms.length ≤ sizeLine then .ok (.lst ms, .fr, st1) else .bad
  | none => .bad
def mTup (g : AF) : EF := fun lo st => g lo st >>= fun (l, st1) => match allFz l with
  | some ms => if ms.length ≤ sizeLine then .ok (.tup ms, .fr, st1) else .bad
  | none => .bad
theorem se_lst (h : SA X B W es g) : SE X B W (.List es pos) (mLst g) := by
  refine (pe_lst h).fw fun σ H Q ⟨S, ι, lo, st, fm, p⟩ => ?_
  refine tA.use fm (Post.bind p) fun l st1 S1 ι1 H1 vs f1 k1 r1 p1 => ?_
  dsimp only at p1
  split at p1
  · rename_i ms e
    split at p1
    · have d := r1.data e
      refine ⟨by rw [d.1]; assumption, ?_⟩
      exact fun q hq => wants_of (z := (.lst ms, true)) (st2 := st1) f1 p1 k1 q (.lst vs) hq ⟨vs, rfl, d⟩
    · exact p1.elim
  · exact p1.elim
theorem se_tup {x1} (h : SA X B W es g) : SE X B W (.Tuple es x1 pos) (mTup g) := by
  refine (pe_tup h).fw fun σ H Q ⟨S, ι, lo, st, fm, p⟩ => ?_
  refine tA.use fm (Post.bind p) fun l st1 S1 ι1 H1 vs f1 k1 r1 p1 => ?_
  dsimp only at p1
  split at p1
  · rename_i ms e
    split at p1
    · have d := r1.data e
      refine ⟨by rw [d.1]; assumption, ?_⟩
      exact fun q hq => wants_of (z := (.tup ms, true)) (st2 := st1) f1 p1 k1 q (.tup vs) hq ⟨vs, rfl, d⟩
    · exact p1.elim
  · exact p1.elim
def mDct0 : EF := fun _ st => .ok (.dct [], .fr, st)
theorem se_dct0 : SE X B W (.Dict [] [] pos) mDct0 := by
  refine pe_dnewK.fw fun σ H Q ⟨S, ι, lo, st, fm, p⟩ => ?_
  exact fun q hq => wants_of (z := (.dct [], true)) (st2 := st) fm p .refl q (.dK []) hq (.inl ⟨[], rfl, rfl, fun i kv p h => by simp at h⟩)
def VRs (mg : Wd) (S : Addr → Prop) (ι : List Addr) (H : Hp) (vs : List V) (ms : List MV) : Prop := vs.length = ms.length ∧ ∀ (i : Nat) v m, vs[i]? = some v → ms[i]? = some m → VR mg S ι H v m
theorem VRs.one {mg : Wd} {S : Addr → Prop} {ι : List Addr} {H : Hp} {vs : List V} {m : MV} (h : VRs mg S ι H vs [m]) : ∃ v, vs = [v] ∧ VR mg S ι H v m := by
  obtain ⟨hl, h⟩ := h
  match vs, hl with
  | [v], _ => exact ⟨v, rfl, h 0 v m rfl rfl⟩
theorem VRs.two {mg : Wd} {S : Addr → Prop} {ι : List Addr} {H : Hp} {vs : List V} {m n : MV} (h : VRs mg S ι H vs [m, n]) : ∃ v w, vs = [v, w] ∧ VR mg S ι H v m ∧ VR mg S ι H w n := by
  obtain ⟨hl, h⟩ := h
  match vs, hl with
  | [v, w], _ => exact ⟨v, w, rfl, h 0 v m rfl rfl, h 1 w n rfl rfl⟩
abbrev GL := Sto → List MV → Option (MV × Bool)
def CallOk (X : Cx) (r : List V → Hp → VK → Prop) (g : GL) : Prop := ∀ S ι H st vs as z Q, Rep X.wd S ι H st → VRs X.wd S ι H vs as → g st as = some z → Wants X.wd S ι H Q z → r vs H Q
def giveOut (z : Option (MV × Bool)) (st : Sto) : Res (MV × Kd × Sto) := match z with
  | some (m, true) => .ok (m, .fr, st)
  | some (m, false) => .ok (m, .fz, st)
  | none => .bad
def mCallB (gl : GL) (g : AF) : EF := fun lo st => g lo st >>= fun (l, st1) => giveOut (gl st1 (l.map fun z => vw st1 z.1)) st1
theorem HandAll.vrs {mg : Wd} {S : Addr → Prop} {ι : List Addr} {H : Hp} {lo : Lo} {σ : L2.St} {st : Sto} {vs : List V} {l : List (MV × Bool)} (f : Fm mg B S ι H lo σ st) (r : HandAll mg S ι H lo σ vs l) : VRs mg S ι H vs (l.map fun z => vw st z.1) := by
  refine ⟨by simp [r.1], fun i v m h1 h2 => ?_⟩
  rw [List.getElem?_map] at h2
  obtain ⟨z, hz, rfl⟩ := Option.map_eq_some_iff.mp h2
  exact (r.2 i v z h1 hz).vr f
theorem give_of {mg : Wd} {S S0 Sp : Addr → Prop} {ι ι0 ιp : List Addr} {H H0 Hq : Hp} {lo : Lo} {σ : L2.St} {st : Sto} {z : Option (MV × Bool)} {Q : VK} (f : Fm mg B S ι H lo σ st) (k : Keep S0 ι0 H0 S ι H)
    (p : Post mg B W Sp ιp Hq (fun r => ∀ S' ι' H' v, Fm mg B S' ι' H' lo σ r.2.2 → Keep S0 ι0 H0 S' ι' H' → RV mg B S' ι' H' lo σ v r.1 r.2.1 → Q v H') (giveOut z st)) : ∃ u, z = some u ∧ Wants mg S ι H Q u := by
  unfold giveOut at p
  split at p
  · exact ⟨_, rfl, wants_of (z := (_, true)) (st2 := st) f p k⟩
  · exact ⟨_, rfl, wants_of (z := (_, false)) (st2 := st) f p k⟩
  · exact p.elim
theorem callB_imp {r : List V → Hp → VK → Prop} {gl : GL} (ok : CallOk X r gl) : ∀ σ H Q, tE X.wd B W (mCallB gl g) σ H Q → tCB r (tA X.wd B W g) σ H Q := by
  intro σ H Q ⟨S, ι, lo, st, fm, p⟩
  refine tA.use fm (Post.bind p) fun l st1 S1 ι1 H1 vs f1 k1 r1 p1 => ?_
  obtain ⟨u, e, w⟩ := give_of f1 k1 p1
  exact ok S1 ι1 H1 _ vs _ u Q f1.rep (r1.vrs f1) e w
theorem se_callB {id : String} {r : List V → Hp → VK → Prop} {gl : GL} {x : Str} {p : Pos} (hc : CallR X (.builtin id) r) (ok : CallOk X r gl) (hg : Gl X x) (hm : X.mg x = none) (hv : bootBuiltins x = some (.builtin id)) (ha : SA X B W (e :: es) g)
    (hn : x ≠ "__name__" := by decide) (hdb : (x == ("__debug__" : Str)) = false := by decide)
    (he : starEach (e :: es) X.env = (false, eval e X.env) :: starEach es X.env := by rfl) (hpl : (backTo pos (starEach es X.env)).any (·.1) = false := by rfl) : SE X B W (.Call (.Name x p) (e :: es) [] pos) (mCallB gl g) :=
  (pe_callB hc hg hm hv ha hn hdb he hpl).fw (callB_imp ok)
theorem se_callTy {T : String} {r : List V → Hp → VK → Prop} {gl : GL} {x : Str} {p : Pos} (hc : CallR X (.type T) r) (ok : CallOk X r gl) (hg : Gl X x) (hm : X.mg x = none) (hv : bootBuiltins x = some (.type T)) (ha : SA X B W (e :: es) g)
    (hn : x ≠ "__name__" := by decide) (hdb : (x == ("__debug__" : Str)) = false := by decide)
    (he : starEach (e :: es) X.env = (false, eval e X.env) :: starEach es X.env := by rfl) (hpl : (backTo pos (starEach es X.env)).any (·.1) = false := by rfl) : SE X B W (.Call (.Name x p) (e :: es) [] pos) (mCallB gl g) :=
  (pe_callTy hc hg hm hv ha hn hdb he hpl).fw (callB_imp ok)
def gLen : GL
  | _, [.lst xs] => some (.int xs.length, false)
  | _, [.tup xs] => some (.int xs.length, false)
  | _, [.scr xs] => some (.int xs.length, false)
  | _, [.str x] => if x.length ≤ sizeLine then some (.int x.length, false) else none
  | _, _ => none
theorem ok_len : CallOk X (fun xs H Q => ∃ x n, xs = [x] ∧ LenV X.K x H n ∧ Q (.int n) H) gLen := by
  intro S ι H st vs as z Q hr ha e w
  unfold gLen at e
  split at e
  · cases e; obtain ⟨v, rfl, p, xs, rfl, h, d⟩ := ha.one
    exact ⟨_, xs.length, rfl, .inl ⟨xs, .of h, rfl⟩, by rw [d.1]; exact w _ (.int _)⟩
  · cases e; obtain ⟨v, rfl, p, xs, rfl, h, d⟩ := ha.one
    exact ⟨_, xs.length, rfl, .inr ⟨xs, .of h, rfl⟩, by rw [d.1]; exact w _ (.int _)⟩
  · cases e; rename_i ns; obtain ⟨v, rfl, p, rfl, h⟩ := ha.one
    exact ⟨_, ns.length, rfl, .inl ⟨_, h, by simp⟩, w _ (.int _)⟩
  · rename_i s
    split at e
    · cases e; obtain ⟨v, rfl, rfl⟩ := ha.one
      exact ⟨_, s.length, rfl, ⟨by assumption, rfl⟩, w _ (.int _)⟩
    · cases e
  · cases e
def gMax2 : GL
  | _, [.int i, .int j] => some (.int (if j > i then j else i), false)
  | _, _ => none
def gMin2 : GL
  | _, [.int i, .int j] => some (.int (if j < i then j else i), false)
  | _, _ => none
theorem ok_max2 : CallOk X (fun xs H Q => ∃ i j, xs = [.int i, .int j] ∧ Q (.int (if j > i then j else i)) H) gMax2 := by
  intro S ι H st vs as z Q hr ha e w
  unfold gMax2 at e
  split at e
  · cases e; obtain ⟨v, u, rfl, rfl, rfl⟩ := ha.two
    exact ⟨_, _, rfl, w _ (.int _)⟩
  · cases e
theorem ok_min2 : CallOk X (fun xs H Q => ∃ i j, xs = [.int i, .int j] ∧ Q (.int (if j < i then j else i)) H) gMin2 := by
  intro S ι H st vs as z Q hr ha e w
  unfold gMin2 at e
  split at e
  · cases e; obtain ⟨v, u, rfl, rfl, rfl⟩ := ha.two
    exact ⟨_, _, rfl, w _ (.int _)⟩
  · cases e
def gInt1 : GL
  | _, [.int i] => some (.int i, false)
  | _, [.bl k] => some (.int (if k then 1 else 0), false)
  | _, _ => none
theorem ok_int1 : CallOk X (fun xs H Q => (∃ i, xs = [.int i] ∧ Q (.int i) H) ∨ ∃ k, xs = [.bl k] ∧ Q (.int (if k then 1 else 0)) H) gInt1 := by
  intro S ι H st vs as z Q hr ha e w
  unfold gInt1 at e
  split at e
  · cases e; obtain ⟨v, rfl, rfl⟩ := ha.one
    exact .inl ⟨_, rfl, w _ (.int _)⟩
  · cases e; obtain ⟨v, rfl, rfl⟩ := ha.one
    exact .inr ⟨_, rfl, w _ (.int _)⟩
  · cases e
def gListOf : GL
  | _, [.lst xs] => some (.lst xs, true)
  | _, [.tup xs] => some (.lst xs, true)
  | _, _ => none
theorem ok_listOf : CallOk X (fun xs H Q => ∃ p ys, xs = [.ref p] ∧ (SqL X.K H p ys ∨ SqT X.K H p ys) ∧ ∀ l, H l = none → Q (.ref l) (upd H l (.lst ys))) gListOf := by
  intro S ι H st vs as z Q hr ha e w
  unfold gListOf at e
  split at e
  · cases e; obtain ⟨v, rfl, p, xs, rfl, h, d⟩ := ha.one
    exact ⟨_, xs, rfl, .inl (.of h), fun l hl => w l _ hl ⟨xs, rfl, d⟩⟩
  · cases e; obtain ⟨v, rfl, p, xs, rfl, h, d⟩ := ha.one
    exact ⟨_, xs, rfl, .inr (.of h), fun l hl => w l _ hl ⟨xs, rfl, d⟩⟩
  · cases e
def gTupOf : GL
  | _, [.lst xs] => some (.tup xs, true)
  | _, _ => none
theorem ok_tupOf : CallOk X (fun xs H Q => ∃ p ys, xs = [.ref p] ∧ ((SqL X.K H p ys ∧ ∀ l, H l = none → Q (.ref l) (upd H l (.tup ys))) ∨ (SqT X.K H p ys ∧ Q (.ref p) H))) gTupOf := by
  intro S ι H st vs as z Q hr ha e w
  unfold gTupOf at e
  split at e
  · cases e; obtain ⟨v, rfl, p, xs, rfl, h, d⟩ := ha.one
    exact ⟨_, xs, rfl, .inl ⟨.of h, fun l hl => w l _ hl ⟨xs, rfl, d⟩⟩⟩
  · cases e
instance decRg (i j : Int) : Decidable (RgOk i j) := by unfold RgOk; infer_instance
def mRg (fa fb : EF) : EF := fun lo st => fa lo st >>= fun (a, _, st1) => fb lo st1 >>= fun (b, _, st2) => match a, b with
  | .int i, .int j => if RgOk i j then .ok (.lst ((List.range (j - i).toNat).map fun k => .int (i + (k : Nat))), .fr, st2) else .bad
  | _, _ => .bad
variable {a b : Expr} {fa fb : EF}
def mBits (fa : EF) : EF := fun lo st => fa lo st >>= fun (a, _, st1) => match a with
  | .int i => .ok (.int (Builtin.Int.intBits i : Nat), .fz, st1)
  | _ => .bad
theorem se_bits {apos pos : Pos} (ho : SE X B W a fa) (hbase : attributeBase a "bit_length" X.env (eval a X.env) = eval a X.env := by rfl) (hline : (apos.endLine == pos.line) = true := by rfl) : SE X B W (.Call (.Attribute a "bit_length" apos) [] [] pos) (mBits fa) := by
  refine (pe_bits ho hbase hline).fw fun σ H Q ⟨S, ι, lo, st, fm, p⟩ => ?_
  refine tE.use fm (Post.bind p) fun a ka st1 S1 ι1 H1 x f1 k1 r1 p1 => ?_
  dsimp only at p1
  split at p1
  · exact ⟨_, rv_int f1 r1, p1 S1 ι1 H1 _ f1 k1 (.int _)⟩
  · exact p1.elim
def gIx : G2
  | _, .lst xs, .int i => (atI xs i).map (·, false)
  | _, .tup xs, .int i => (atI xs i).map (·, false)
  | _, .scr ns, .int i => (atI ns i).map fun n => (.int n, false)
  | _, .str z, .int i => if z.length ≤ sizeLine then (atI z.cps.toList i).map fun c => (.str ⟨#[c]⟩, false) else none
  | _, _, _ => none
theorem atI_all {mg : Wd} {S : Addr → Prop} {ι : List Addr} {H : Hp} {vs : List V} {ms : List MV} (d : AllD mg S ι H vs ms) {i : Int} {m : MV} (h : atI ms i = some m) : ∃ v, atI vs i = some v ∧ Dt mg S ι H v m := by
  unfold atI at h ⊢
  obtain ⟨j, h1, h2⟩ := Option.bind_eq_some_iff.mp h
  obtain ⟨v, h3, h4⟩ := d.get h2
  exact ⟨v, by rw [d.1, h1]; exact h3, h4⟩
theorem atI_map {α β : Type} (f : α → β) (xs : List α) (i : Int) : atI (xs.map f) i = (atI xs i).map f := by
  unfold atI
  rw [List.length_map]
  cases ixN xs.length i with
  | none => rfl
  | some j => simp
theorem ok_ix : Op2 X (fun x y H Q => rIxL X.K x y H Q ∨ rIxT X.K x y H Q ∨ rIxS x y H Q) gIx := by
  intro S ι H st x y a b z Q hr ha hb e w
  unfold gIx at e
  split at e
  · obtain ⟨p, vs, rfl, h1, d⟩ := ha
    cases hb
    obtain ⟨m, hm, rfl⟩ := Option.map_eq_some_iff.mp e
    obtain ⟨v, hv, dv⟩ := atI_all d hm
    exact .inl ⟨p, vs, _, v, rfl, rfl, .of h1, hv, w v dv⟩
  · obtain ⟨p, vs, rfl, h1, d⟩ := ha
    cases hb
    obtain ⟨m, hm, rfl⟩ := Option.map_eq_some_iff.mp e
    obtain ⟨v, hv, dv⟩ := atI_all d hm
    exact .inr (.inl ⟨p, vs, _, v, rfl, rfl, .of h1, hv, w v dv⟩)
  · obtain ⟨p, rfl, h1⟩ := ha
    cases hb
    obtain ⟨m, hm, rfl⟩ := Option.map_eq_some_iff.mp e
    exact .inl ⟨p, _, _, .int m, rfl, rfl, h1, by rw [atI_map, hm]; rfl, w _ (.int _)⟩
  · split at e
    · cases ha; cases hb
      obtain ⟨m, hm, rfl⟩ := Option.map_eq_some_iff.mp e
      exact .inr (.inr ⟨_, _, m, rfl, rfl, by assumption, hm, w _ (.str _)⟩)
    · cases e
  · cases e
theorem se_ix (ha : SE X B W a fa) (hb : SE X B W b fb) (hs : PlainIx b := by exact fun _ _ => rfl) : SE X B W (.Subscript a b pos) (mOp gIx fa fb) := (pe_ix ix_seq ha hb hs).fw (op_imp ok_ix)
abbrev OF := Lo → Sto → Res (Option Int × Sto)
def tOf (mg : Wd) (B : Base) (W : WX) (f : OF) : L2.TO := fun σ H Q => ∃ S ι lo st, Fm mg B S ι H lo σ st ∧ Post mg B W S ι H (fun r => ∀ S' ι' H', Fm mg B S' ι' H' lo σ r.2 → Keep S ι H S' ι' H' → Q r.1 H') (f lo st)
abbrev SO (X : Cx) (B : Base) (W : WX) (e : Option Expr) (f : OF) : Prop := PO X e (tOf X.wd B W f)
theorem _root_.L2.PO.fw {X : Cx} {e : Option Expr} {t t' : L2.TO} (h : PO X e t) (i : ∀ σ H Q, t' σ H Q → t σ H Q) : PO X e t' := ⟨fun pins s σ H Q I q => h.run pins s σ H Q I (i σ H Q q)⟩
def oNone : OF := fun _ st => .ok (none, st)
def oSome (f : EF) : OF := fun lo st => f lo st >>= fun (a, _, st1) => match a with
  | .int i => .ok (some i, st1)
  | _ => .bad
theorem so_none : SO X B W none oNone := po_none.fw fun σ H Q ⟨S, ι, lo, st, fm, p⟩ => p S ι H fm .refl
theorem so_some (ha : SE X B W a fa) : SO X B W (some a) (oSome fa) := by
  refine (po_some ha).fw fun σ H Q ⟨S, ι, lo, st, fm, p⟩ => ?_
  refine tE.use fm (Post.bind p) fun a ka st1 S1 ι1 H1 x f1 k1 r1 p1 => ?_
  dsimp only at p1
  split at p1
  · exact ⟨_, rv_int f1 r1, p1 S1 ι1 H1 f1 k1⟩
  · exact p1.elim
def cutM (xs : List MV) (lo hi : Option Int) : List MV := (xs.drop (HT.sIx xs.length 0 lo)).take (HT.sIx xs.length xs.length hi - HT.sIx xs.length 0 lo)
def gSl : MV → Option Int → Option Int → Option (MV × Bool)
  | .lst xs, lo, hi => some (.lst (cutM xs lo hi), true)
  | .tup xs, lo, hi => if HT.sIx xs.length 0 lo = 0 ∧ HT.sIx xs.length xs.length hi = xs.length then none else some (.tup (cutM xs lo hi), true)
  | .str z, lo, hi => if z.length ≤ sizeLine then some (.str (cutS z lo hi), false) else none
  | _, _, _ => none
def mSl (fa : EF) (fl fh : OF) : EF := fun lo st => fa lo st >>= fun (a, _, st1) => fl lo st1 >>= fun (l, st2) => fh lo st2 >>= fun (h, st3) => giveOut (gSl (vw st3 a) l h) st3
variable {l h : Option Expr} {fl fh : OF}
theorem tOf.use {mg : Wd} {S : Addr → Prop} {ι : List Addr} {H : Hp} {lo : Lo} {σ : L2.St} {st : Sto} {f : OF} {P : Option Int × Sto → Prop} {Q : Option Int → Hp → Prop} (fm : Fm mg B S ι H lo σ st) (p : Post mg B W S ι H P (f lo st))
    (h : ∀ b st' S' ι' H', Fm mg B S' ι' H' lo σ st' → Keep S ι H S' ι' H' → P (b, st') → Q b H') : tOf mg B W f σ H Q :=
  ⟨S, ι, lo, st, fm, p.imp fun ⟨b, st'⟩ hp S' ι' H' fm' kp => h b st' S' ι' H' fm' kp hp⟩
theorem se_slice {p2 : Pos} (ha : SE X B W a fa) (hl : SO X B W l fl) (hh : SO X B W h fh) : SE X B W (.Subscript a (.Slice l h none p2) pos) (mSl fa fl fh) := by
  refine (pe_slice (sl_list.or (sl_tup.or sl_str)) ha hl hh).fw fun σ H Q ⟨S, ι, lo, st, fm, p⟩ => ?_
  refine tE.use fm (Post.bind p) fun a ka st1 S1 ι1 H1 x f1 k1 r1 p1 => ?_
  obtain ⟨S1', f1', k1', h1⟩ := r1.hand f1
  refine tOf.use f1' (Post.bind (p1.mono (k1.trans k1') fun _ z => z)) fun l st2 S2 ι2 H2 f2 k2 p2 => ?_
  refine tOf.use f2 (Post.bind (p2.mono k2 fun _ z => z)) fun u st3 S3 ι3 H3 f3 k3 p3 => ?_
  have v1 := (h1.mono (k2.trans k3)).vr f3
  obtain ⟨z, e, w⟩ := give_of f3 (((k1.trans k1').trans k2).trans k3) p3
  unfold gSl at e
  split at e
  · rename_i q
    rw [q] at v1
    obtain ⟨p, vs, rfl, h1, d⟩ := v1
    cases e
    refine .inl ⟨p, vs, rfl, .of h1, fun r hr => w r _ hr ⟨_, rfl, ?_⟩⟩
    unfold cutV cutM
    rw [d.1]
    exact (d.drop _).take _
  · rename_i q
    rw [q] at v1
    obtain ⟨p, vs, rfl, h1, d⟩ := v1
    split at e
    · cases e
    · cases e
      refine .inr (.inl ⟨p, vs, rfl, .of h1, by rw [d.1]; assumption, fun r hr => w r _ hr ⟨_, rfl, ?_⟩⟩)
      unfold cutV cutM
      rw [d.1]
      exact (d.drop _).take _
  · rename_i q
    rw [q] at v1
    split at e
    · cases e; cases v1
      exact .inr (.inr ⟨_, rfl, by assumption, w _ (.str _)⟩)
    · cases e
  · cases e
end
end FW
namespace FW
open PySem L2 PySem.Spec PyProof.Rows
section
variable {mg : Wd} {B : Base} {W : WX} {S S' S2 : Addr → Prop} {ι ι' ι2 : List Addr} {H H' H2 : Hp} {lo lo' : Lo} {σ σ' : L2.St} {st st' : Sto} {v : V} {m : MV}
theorem Loc.set_val (l : Loc mg B S ι H lo σ) (i : Nat) (d : Dt mg S ι H v m) : Loc mg B S ι H (lo.set i (some (m, false))) (σ.set i (some v)) := by
  have hl := l.len
  refine ⟨by simp [hl], fun j n h => ?_, fun j n h => ?_, fun j k n n' a hjk h1 h2 h3 => ?_, fun j c fs h => ?_⟩
  · by_cases hj : i = j
    · subst hj
      by_cases hi : i < lo.length
      · rw [List.getElem?_set_self hi] at h; cases h
        exact ⟨v, List.getElem?_set_self (by omega), d⟩
      · rw [List.getElem?_eq_none (by simp; omega)] at h; cases h
    · rw [List.getElem?_set_ne hj] at h
      obtain ⟨w, e, q⟩ := l.val j n h
      exact ⟨w, by rw [List.getElem?_set_ne hj]; exact e, q⟩
  · by_cases hj : i = j
    · subst hj
      by_cases hi : i < lo.length
      · rw [List.getElem?_set_self hi] at h; cases h
      · rw [List.getElem?_eq_none (by simp; omega)] at h; cases h
    · rw [List.getElem?_set_ne hj] at h
      obtain ⟨w, e, q⟩ := l.own j n h
      exact ⟨w, by rw [List.getElem?_set_ne hj]; exact e, q⟩
  · have ne : ∀ {j : Nat} {n : MV}, (lo.set i (some (m, false)))[j]? = some (some (n, true)) → i ≠ j := fun {j n} h e => by
      subst e
      by_cases hi : i < lo.length
      · rw [List.getElem?_set_self hi] at h; cases h
      · rw [List.getElem?_eq_none (by simp; omega)] at h; cases h
    have e1 := ne h1
    have e2 := ne h2
    rw [List.getElem?_set_ne e1] at h1 h3
    rw [List.getElem?_set_ne e2] at h2
    rw [List.getElem?_set_ne e2]
    exact l.dis j k n n' a hjk h1 h2 h3
  · by_cases hj : i = j
    · subst hj
      by_cases hi : i < lo.length
      · rw [List.getElem?_set_self hi] at h; cases h
      · rw [List.getElem?_eq_none (by simp; omega)] at h; cases h
    · rw [List.getElem?_set_ne hj] at h
      obtain ⟨w, e, q⟩ := l.pin j c fs h
      exact ⟨w, e, by rw [List.getElem?_set_ne hj]; exact q⟩
def ownOk : MV → Bool
  | .ins _ _ => false
  | _ => true
theorem Loc.set_own {a : Addr} (l : Loc mg B S ι H lo σ) (i : Nat) (hm : ownOk m = true) (h1 : ¬ S a) (h2 : a ∉ ι) (h3 : B.New a) (d : Sh mg S ι H a m) (h4 : ∀ (j : Nat) m', lo[j]? = some (some (m', true)) → σ[j]? ≠ some (some (.ref a))) :
    Loc mg B S ι H (lo.set i (some (m, true))) (σ.set i (some (.ref a))) := by
  have hl := l.len
  refine ⟨by simp [hl], fun j n h => ?_, fun j n h => ?_, fun j k n n' b hjk q1 q2 q3 => ?_, fun j c fs h => ?_⟩
  · by_cases hj : i = j
    · subst hj
      by_cases hi : i < lo.length
      · rw [List.getElem?_set_self hi] at h; cases h
      · rw [List.getElem?_eq_none (by simp; omega)] at h; cases h
    · rw [List.getElem?_set_ne hj] at h
      obtain ⟨w, e, q⟩ := l.val j n h
      exact ⟨w, by rw [List.getElem?_set_ne hj]; exact e, q⟩
  · by_cases hj : i = j
    · subst hj
      by_cases hi : i < lo.length
      · rw [List.getElem?_set_self hi] at h; cases h
        exact ⟨a, List.getElem?_set_self (by omega), h1, h2, h3, d⟩
      · rw [List.getElem?_eq_none (by simp; omega)] at h; cases h
    · rw [List.getElem?_set_ne hj] at h
      obtain ⟨w, e, q⟩ := l.own j n h
      exact ⟨w, by rw [List.getElem?_set_ne hj]; exact e, q⟩
  · have inr : ∀ {j : Nat} {z : Option (MV × Bool)}, (lo.set i (some (m, true)))[j]? = some z → j < lo.length := fun {j z} h => by
      have := (List.getElem?_eq_some_iff.mp h).1
      simpa using this
    by_cases e1 : i = j
    · subst e1
      have hk : i ≠ k := hjk
      rw [List.getElem?_set_self (by have := inr q1; omega)] at q3
      cases q3
      rw [List.getElem?_set_ne hk] at q2 ⊢
      exact h4 k n' q2
    · rw [List.getElem?_set_ne e1] at q1 q3
      by_cases e2 : i = k
      · subst e2
        rw [List.getElem?_set_self (by have := inr q2; omega)]
        intro z
        have z' : a = b := by simpa using z
        subst z'
        exact h4 j n q1 q3
      · rw [List.getElem?_set_ne e2] at q2 ⊢
        exact l.dis j k n n' b hjk q1 q2 q3
  · by_cases hj : i = j
    · subst hj
      by_cases hi : i < lo.length
      · rw [List.getElem?_set_self hi] at h; cases h; cases hm
      · rw [List.getElem?_eq_none (by simp; omega)] at h; cases h
    · rw [List.getElem?_set_ne hj] at h
      obtain ⟨w, e, q⟩ := l.pin j c fs h
      exact ⟨w, e, by rw [List.getElem?_set_ne hj]; exact q⟩
theorem Fm.set_val (f : Fm mg B S ι H lo σ st) (i : Nat) (d : Dt mg S ι H v m) : Fm mg B S ι H (lo.set i (some (m, false))) (σ.set i (some v)) st := ⟨f.ext, f.rep, f.loc.set_val i d, f.g⟩
theorem Keep.upd {a : Addr} {o : HO} (h : ¬ S a) (hz : ∀ ob u, H a ≠ some (.frz ob u)) : Keep S ι H S ι (upd H a o) :=
  ⟨fun _ h => h, fun b hb => upd_ne (fun e => h (e ▸ hb)), List.prefix_refl _, fun b ob u e => by rw [upd_ne (fun (q : b = a) => by subst q; exact hz ob u e)]; exact e⟩
theorem Fm.mutOwn {a : Addr} {o : HO} {i : Nat} {m m' : MV} (f : Fm mg B S ι H lo σ st) (h1 : lo[i]? = some (some (m, true))) (h2 : σ[i]? = some (some (.ref a))) (d : Ob mg S ι H o m') (hins : ∀ c fs, m' = .ins c fs → ∃ c' fs', m = .ins c' fs') :
    Fm mg B S ι (upd H a o) (lo.set i (some (m', true))) σ st := by
  obtain ⟨a', e, n1, n2, n3, d1⟩ := f.loc.own i m h1
  rw [h2] at e; cases e
  have k : Keep S ι H S ι (upd H a o) := Keep.upd n1 d1.nz
  refine ⟨⟨f.ext.s, fun b u q n => ?_, fun b hb => f.ext.b b hb, f.ext.i, f.ext.n, fun b ob u q => k.z b ob u (f.ext.z b ob u q)⟩, ⟨f.rep.len, f.rep.nd, f.rep.sep, fun b hb => ?_, fun n b q q1 q2 => ?_⟩, ?_, fun b u hb => ?_⟩
  · rw [upd_ne (fun z => by subst z; rw [n3.1] at q; cases q)]; exact f.ext.k b u q n
  · rw [upd_ne (fun (z : b = a) => n1 (by rw [← z]; exact hb))]; exact f.rep.som b hb
  · exact (f.rep.ent n b q q1 q2).mono k (upd_ne (fun z => n2 (z ▸ List.mem_of_getElem? q1)))
  · have hl := f.loc.len
    have hi : i < lo.length := (List.getElem?_eq_some_iff.mp h1).1
    refine ⟨by simp [hl], fun j n h => ?_, fun j n h => ?_, fun j k n n' b hjk q1 q2 q3 => ?_, fun j c fs h => ?_⟩
    · by_cases hj : i = j
      · subst hj; rw [List.getElem?_set_self hi] at h; cases h
      · rw [List.getElem?_set_ne hj] at h
        obtain ⟨w, e, q⟩ := f.loc.val j n h
        exact ⟨w, e, q.mono k⟩
    · by_cases hj : i = j
      · subst hj
        rw [List.getElem?_set_self hi] at h; cases h
        exact ⟨a, h2, n1, n2, n3, ⟨o, upd_same, d.mono k⟩⟩
      · rw [List.getElem?_set_ne hj] at h
        obtain ⟨w, e, q1, q2, q3, q⟩ := f.loc.own j n h
        refine ⟨w, e, q1, q2, q3, q.mono k (upd_ne fun z => ?_)⟩
        subst z
        exact f.loc.dis i j m n w hj h1 h h2 e
    · have back : ∀ {j : Nat} {n : MV}, (lo.set i (some (m', true)))[j]? = some (some (n, true)) → ∃ n0, lo[j]? = some (some (n0, true)) := fun {j n} h => by
        by_cases hj : i = j
        · subst hj; exact ⟨m, h1⟩
        · rw [List.getElem?_set_ne hj] at h; exact ⟨n, h⟩
      obtain ⟨n1, e1⟩ := back q1
      obtain ⟨n2, e2⟩ := back q2
      exact f.loc.dis j k n1 n2 b hjk e1 e2 q3
    · by_cases hj : i = j
      · subst hj
        rw [List.getElem?_set_self hi] at h
        obtain ⟨c', fs', e⟩ := hins c fs (by cases h; rfl)
        exact f.loc.pin i c' fs' (by rw [h1, e])
      · rw [List.getElem?_set_ne hj] at h
        exact f.loc.pin j c fs h
  · obtain ⟨q1, q2, q3⟩ := f.g b u hb
    exact ⟨(upd_ne fun z => by subst z; rw [n3.2] at hb; cases hb).trans q1, q2, q3⟩
theorem Fm.mutSto {a : Addr} {o : HO} {n : Nat} {m' : MV} (f : Fm mg B S ι H lo σ st) (h1 : ι[n]? = some a) (d : Ob mg S ι H o m') (hz : ∀ ob u, H a ≠ some (.frz ob u)) : Fm mg B S ι (upd H a o) lo σ (st.set n m') := by
  have ha : a ∈ ι := List.mem_of_getElem? h1
  have n1 : ¬ S a := f.rep.sep a ha
  have k : Keep S ι H S ι (upd H a o) := Keep.upd n1 hz
  refine ⟨⟨f.ext.s, fun b u q hn => ?_, fun b hb => f.ext.b b hb, f.ext.i, f.ext.n, fun b ob u q => k.z b ob u (f.ext.z b ob u q)⟩, ⟨by simp [f.rep.len], f.rep.nd, f.rep.sep, fun b hb => ?_, fun j b q q1 q2 => ?_⟩, ⟨f.loc.len, fun j q h => ?_, fun j q h => ?_, f.loc.dis, f.loc.pin⟩, fun b u hb => ?_⟩
  · rw [upd_ne (fun z => ?_)]
    · exact f.ext.k b u q hn
    · subst z
      rcases f.ext.n b ha with z | z
      · exact hn z
      · rw [q] at z; cases z
  · rw [upd_ne (fun (z : b = a) => n1 (by rw [← z]; exact hb))]; exact f.rep.som b hb
  · by_cases hj : n = j
    · subst hj
      rw [h1] at q1; cases q1
      have hl : n < st.length := by rw [← f.rep.len]; exact (List.getElem?_eq_some_iff.mp h1).1
      rw [List.getElem?_set_self hl] at q2; cases q2
      exact .inl ⟨o, upd_same, d.mono k⟩
    · rw [List.getElem?_set_ne hj] at q2
      refine (f.rep.ent j b q q1 q2).mono k (upd_ne fun z => ?_)
      subst z
      have i1 := (List.getElem?_eq_some_iff.mp h1)
      have i2 := (List.getElem?_eq_some_iff.mp q1)
      exact hj ((List.getElem_inj f.rep.nd).mp (i1.2.trans i2.2.symm))
  · obtain ⟨w, e, q⟩ := f.loc.val j q h
    exact ⟨w, e, q.mono k⟩
  · obtain ⟨w, e, q1, q2, q3, q⟩ := f.loc.own j q h
    exact ⟨w, e, q1, q2, q3, q.mono k (upd_ne fun z => q2 (z ▸ ha))⟩
  · obtain ⟨q1, q2, q3⟩ := f.g b u hb
    exact ⟨(upd_ne fun (z : b = a) => q2 (by rw [z]; exact ha)).trans q1, q2, q3⟩
theorem Fm.push {a : Addr} {m : MV} (f : Fm mg B S ι H lo σ st) (h1 : ¬ S a) (h2 : a ∉ ι) (h3 : B.New a) (d : Sh mg S ι H a m) (h4 : ∀ (j : Nat) m', lo[j]? = some (some (m', true)) → σ[j]? ≠ some (some (.ref a))) :
    Fm mg B S (ι ++ [a]) H lo σ (st ++ [m]) ∧ Keep S ι H S (ι ++ [a]) H := by
  have k : Keep S ι H S (ι ++ [a]) H := ⟨fun _ h => h, fun _ _ => rfl, List.prefix_append _ _, fun _ _ _ h => h⟩
  refine ⟨⟨⟨f.ext.s, f.ext.k, f.ext.b, f.ext.i.trans (List.prefix_append _ _), fun b hb => ?_, f.ext.z⟩, ⟨by simp [f.rep.len], ?_, fun b hb => ?_, f.rep.som, fun n b q q1 q2 => ?_⟩, ⟨f.loc.len, fun j q h => ?_, fun j q h => ?_, f.loc.dis, f.loc.pin⟩, fun b u hb => ?_⟩, k⟩
  · rcases List.mem_append.mp hb with z | z
    · exact f.ext.n b z
    · rw [List.mem_singleton] at z; subst z; exact .inr h3.1
  · rw [List.nodup_append]
    exact ⟨f.rep.nd, by simp, fun x hx y hy => by rw [List.mem_singleton] at hy; subst hy; intro z; subst z; exact h2 hx⟩
  · rcases List.mem_append.mp hb with z | z
    · exact f.rep.sep b z
    · rw [List.mem_singleton] at z; subst z; exact h1
  · by_cases hn : n < ι.length
    · rw [List.getElem?_append_left hn] at q1
      rw [List.getElem?_append_left (by rw [← f.rep.len]; exact hn)] at q2
      exact (f.rep.ent n b q q1 q2).mono k rfl
    · rw [List.getElem?_append_right (by omega)] at q1
      rw [List.getElem?_append_right (by rw [← f.rep.len]; omega)] at q2
      rw [f.rep.len] at q1
      have e : n - st.length = 0 := by
        have := (List.getElem?_eq_some_iff.mp q1).1
        simp at this; omega
      rw [e] at q1 q2
      simp at q1 q2
      subst q1; subst q2
      exact .inl (d.mono k rfl)
  · obtain ⟨w, e, q⟩ := f.loc.val j q h
    exact ⟨w, e, q.mono k⟩
  · obtain ⟨w, e, q1, q2, q3, q⟩ := f.loc.own j q h
    refine ⟨w, e, q1, fun z => ?_, q3, q.mono k rfl⟩
    rcases List.mem_append.mp z with z | z
    · exact q2 z
    · rw [List.mem_singleton] at z; subst z; exact h4 j _ h e
  · obtain ⟨q1, q2, q3⟩ := f.g b u hb
    refine ⟨q1, fun z => ?_, q3⟩
    rcases List.mem_append.mp z with z | z
    · exact q2 z
    · rw [List.mem_singleton] at z; subst z; rw [h3.2] at hb; cases hb
end
def PS1 (mg : Wd) (B : Base) (S : Addr → Prop) (ι : List Addr) (H : Hp) (D : Ends) : Fl × Lo × Sto → Prop
  | (.nx, lo', st') => ∀ S' ι' σ' H', Fm mg B S' ι' H' lo' σ' st' → Keep S ι H S' ι' H' → D.nx σ' H'
  | (.bk, lo', st') => ∀ S' ι' σ' H', Fm mg B S' ι' H' lo' σ' st' → Keep S ι H S' ι' H' → D.bk σ' H'
  | (.ct, lo', st') => ∀ S' ι' σ' H', Fm mg B S' ι' H' lo' σ' st' → Keep S ι H S' ι' H' → D.ct σ' H'
  | (.rt m k, lo', st') => ∀ S' ι' σ' H' v, Fm mg B S' ι' H' lo' σ' st' → Keep S ι H S' ι' H' → RV mg B S' ι' H' lo' σ' v m k → D.rt v H'
def tS (mg : Wd) (B : Base) (W : WX) (g : SF) : TS := fun D σ H => ∃ S ι lo st, Fm mg B S ι H lo σ st ∧ Post mg B W S ι H (PS1 mg B S ι H D) (g lo st)
abbrev SS (X : Cx) (B : Base) (W : WX) (e : Stmt) (g : SF) : Prop := PS X e (tS X.wd B W g)
abbrev SSs (X : Cx) (B : Base) (W : WX) (e : List Stmt) (g : SF) : Prop := PSs X e (tS X.wd B W g)
theorem PS1.mono {mg : Wd} {B : Base} {S S' : Addr → Prop} {ι ι' : List Addr} {H H' : Hp} {D : Ends} {r : Fl × Lo × Sto} (k : Keep S ι H S' ι' H') (p : PS1 mg B S ι H D r) : PS1 mg B S' ι' H' D r := by
  obtain ⟨fl, lo, st⟩ := r
  cases fl with
  | nx => exact fun S2 ι2 σ2 H2 f k2 => p S2 ι2 σ2 H2 f (k.trans k2)
  | bk => exact fun S2 ι2 σ2 H2 f k2 => p S2 ι2 σ2 H2 f (k.trans k2)
  | ct => exact fun S2 ι2 σ2 H2 f k2 => p S2 ι2 σ2 H2 f (k.trans k2)
  | rt m kd => exact fun S2 ι2 σ2 H2 v f k2 => p S2 ι2 σ2 H2 v f (k.trans k2)
theorem tS.use {mg : Wd} {B : Base} {W : WX} {S : Addr → Prop} {ι : List Addr} {H : Hp} {lo : Lo} {σ : L2.St} {st : Sto} {g : SF} {P : Fl × Lo × Sto → Prop} {D : Ends} (fm : Fm mg B S ι H lo σ st) (p : Post mg B W S ι H P (g lo st))
    (h : ∀ r, P r → PS1 mg B S ι H D r) : tS mg B W g D σ H := ⟨S, ι, lo, st, fm, p.imp h⟩
def sNil : SF := fun lo st => .ok (.nx, lo, st)
def sSeq (g g' : SF) : SF := fun lo st => g lo st >>= fun (fl, lo1, st1) => match fl with
  | .nx => g' lo1 st1
  | fl => .ok (fl, lo1, st1)
def frzd (r : MV × Kd × Sto) : Res (MV × Sto) := match r with
  | (_, .pk _, _) => .bad
  | (m, _, st) => .ok (m, st)
def sSet (i : Nat) (f : EF) : SF := fun lo st => f lo st >>= fun r => frzd r >>= fun (m, st1) => .ok (.nx, lo.set i (some (m, false)), st1)
def sOwn (i : Nat) (f : EF) : SF := fun lo st => f lo st >>= fun (m, k, st1) => match k with
  | .fr => if ownOk m = true then .ok (.nx, lo.set i (some (m, true)), st1) else .bad
  | _ => .bad
def mSto (f : EF) : EF := fun lo st => f lo st >>= fun (m, k, st1) => match k with
  | .fr => .ok (.ref st1.length, .fz, st1 ++ [m])
  | _ => .bad
def sExpr (f : EF) : SF := fun lo st => f lo st >>= fun (_, _, st1) => .ok (.nx, lo, st1)
def sRet (f : EF) : SF := fun lo st => f lo st >>= fun (m, k, st1) => .ok (.rt m k, lo, st1)
def sRetN : SF := fun lo st => .ok (.rt .non .fz, lo, st)
def sIf (c : TF) (g g' : SF) : SF := fun lo st => c lo st >>= fun (b, st1) => if b = true then g lo st1 else g' lo st1
section
variable {X : Cx} {B : Base} {W : WX} {e : Expr} {f : EF} {pos : Pos} {s : Stmt} {ss : List Stmt} {g g' : SF}
theorem ss_nil : SSs X B W [] sNil := pss_nil.fw fun D σ H ⟨S, ι, lo, st, fm, p⟩ => p S ι σ H fm .refl
theorem ss_cons (h1 : SS X B W s g) (h2 : SSs X B W ss g') : SSs X B W (s :: ss) (sSeq g g') := by
  refine (pss_cons h1 h2).fw fun D σ H ⟨S, ι, lo, st, fm, p⟩ => ?_
  refine tS.use fm (Post.bind p) fun r q => ?_
  obtain ⟨fl, lo1, st1⟩ := r
  cases fl with
  | nx => exact fun S' ι' σ' H' fm' k => ⟨S', ι', lo1, st1, fm', q.mono k fun r z => z.mono k⟩
  | bk => exact q
  | ct => exact q
  | rt m kd => exact q
theorem ss_one (h1 : SS X B W s g) : SSs X B W [s] g := pss_one h1
theorem ss_set (i : Nat) {x : Str} {p' : Pos} (hN : X.N.Nodup) (he : SE X B W e f) (hi : X.N[i]? = some x := by rfl) (hx : L2.Loc X.env.scope x := by first | exact Or.inl rfl | exact Or.inr rfl) (hs : swapsWith e (some (.Name x p')) pos.line X.env = pure false := by rfl)
    (hf : X.fn x = true ∨ X.env.scope.names.lookup x = some .local := by first | exact .inl rfl | exact .inr rfl) : SS X B W (.Assign [.Name x p'] e pos) (sSet i f) := by
  refine (ps_set hN hi hx he hs hf).fw fun D σ H ⟨S, ι, lo, st, fm, p⟩ => ?_
  refine tE.use fm (Post.bind p) fun m k st1 S1 ι1 H1 v f1 k1 r1 p1 => ?_
  cases k with
  | pk j => exact p1.elim
  | fz => exact p1 S1 ι1 _ H1 (f1.set_val i r1) k1
  | fr =>
    obtain ⟨S2, f2, k2, d⟩ := RV.freeze f1 r1 (fun j z => by cases z)
    exact p1 S2 ι1 _ H1 (f2.set_val i d) (k1.trans k2)
theorem ss_own (i : Nat) {x : Str} {p' : Pos} (hN : X.N.Nodup) (he : SE X B W e f) (hi : X.N[i]? = some x := by rfl) (hx : L2.Loc X.env.scope x := by first | exact Or.inl rfl | exact Or.inr rfl) (hs : swapsWith e (some (.Name x p')) pos.line X.env = pure false := by rfl)
    (hf : X.fn x = true ∨ X.env.scope.names.lookup x = some .local := by first | exact .inl rfl | exact .inr rfl) : SS X B W (.Assign [.Name x p'] e pos) (sOwn i f) := by
  refine (ps_set hN hi hx he hs hf).fw fun D σ H ⟨S, ι, lo, st, fm, p⟩ => ?_
  refine tE.use fm (Post.bind p) fun m k st1 S1 ι1 H1 v f1 k1 r1 p1 => ?_
  cases k with
  | pk j => exact p1.elim
  | fz => exact p1.elim
  | fr =>
    dsimp only at p1
    split at p1
    case isFalse => exact p1.elim
    rename_i hm
    obtain ⟨a, rfl, h1, h2, h3, d, h4⟩ := r1
    exact p1 S1 ι1 _ H1 ⟨f1.ext, f1.rep, f1.loc.set_own i hm h1 h2 h3 d h4, f1.g⟩ k1
theorem se_sto (he : SE X B W e f) : SE X B W e (mSto f) := by
  refine he.fw fun σ H Q ⟨S, ι, lo, st, fm, p⟩ => ?_
  refine tE.use fm (Post.bind p) fun m k st1 S1 ι1 H1 v f1 k1 r1 p1 => ?_
  cases k with
  | pk j => exact p1.elim
  | fz => exact p1.elim
  | fr =>
    obtain ⟨a, rfl, h1, h2, h3, d, h4⟩ := r1
    obtain ⟨f2, k2⟩ := f1.push h1 h2 h3 d h4
    refine p1 S1 _ H1 _ f2 (k1.trans k2) (.ref ?_)
    rw [← f1.rep.len]; simp
theorem ss_expr (he : SE X B W e f) (hs : swapsWith e none pos.line X.env = pure false := by rfl) : SS X B W (.Expr e pos) (sExpr f) := by
  refine (ps_expr he hs).fw fun D σ H ⟨S, ι, lo, st, fm, p⟩ => ?_
  exact tE.use fm (Post.bind p) fun m k st1 S1 ι1 H1 v f1 k1 r1 p1 => p1 S1 ι1 σ H1 f1 k1
theorem ss_ret (he : SE X B W e f) : SS X B W (.Return (some e) pos) (sRet f) := by
  refine (ps_ret he).fw fun D σ H ⟨S, ι, lo, st, fm, p⟩ => ?_
  exact tE.use fm (Post.bind p) fun m k st1 S1 ι1 H1 v f1 k1 r1 p1 => p1 S1 ι1 σ H1 v f1 k1 r1
theorem ss_retN : SS X B W (.Return none pos) sRetN := ps_retN.fw fun D σ H ⟨S, ι, lo, st, fm, p⟩ => p S ι σ H _ fm .refl .non
theorem ss_if {c : Expr} {a b : List Stmt} {tc : TF} (hc : STe X B W c tc) (ha : SSs X B W a g) (hb : SSs X B W b g') : SS X B W (.If c a b pos) (sIf tc g g') := by
  refine (ps_if hc ha hb).fw fun D σ H ⟨S, ι, lo, st, fm, p⟩ => ?_
  refine tT.use fm (Post.bind p) fun b st1 S1 ι1 H1 f1 k1 p1 => ?_
  dsimp only at p1
  cases b with
  | true =>
    rw [if_pos rfl] at p1 ⊢
    exact ⟨S1, ι1, lo, st1, f1, p1.mono k1 fun r z => z.mono k1⟩
  | false =>
    rw [if_neg Bool.false_ne_true] at p1 ⊢
    exact ⟨S1, ι1, lo, st1, f1, p1.mono k1 fun r z => z.mono k1⟩
end
abbrev FF := List MV → Sto → Res (MV × Bool × Sto)
def RF (mg : Wd) (B : Base) (S : Addr → Prop) (ι : List Addr) (H : Hp) (v : V) (m : MV) : Bool → Prop
  | false => Dt mg S ι H v m
  | true => ∃ a, v = .ref a ∧ ¬ S a ∧ a ∉ ι ∧ B.H a = none ∧ Sh mg S ι H a m
def PostF (mg : Wd) (S : Addr → Prop) (ι : List Addr) (H : Hp) (Q : VK) (E : XK) : Res (MV × Bool × Sto) → Prop
  | .ok (m, b, st') => ∀ S' ι' H' v, Ext S ι H S' ι' H' → Rep mg S' ι' H' st' → RF mg (b0 S ι H) S' ι' H' v m b → Q v H'
  | .exc c fs _ st' => ∀ S' ι' H' cls d, Ext S ι H S' ι' H' → Rep mg S' ι' H' st' → XR mg S' ι' H' c fs cls d → E cls d H'
  | .bad => False
def spM (mg : Wd) (n : Nat) (F : FF) : Sp := fun vs H Q E => vs.length = n ∧ ∃ S ι st ms, Rep mg S ι H st ∧ AllD mg S ι H vs ms ∧ PostF mg S ι H Q E (F ms st)
def startM (n : Nat) (ms : List MV) : Lo := ms.map (fun m => some (m, false)) ++ List.replicate (n - ms.length) none
def isFr : Kd → Bool
  | .fz => false
  | _ => true
def runF (n : Nat) (g : SF) : FF := fun ms st => match g (startM n ms) st with
  | .ok (.nx, _, st') => .ok (.non, false, st')
  | .ok (.rt m k, _, st') => .ok (m, isFr k, st')
  | .ok _ => .bad
  | .exc c fs lo st' => .exc c fs lo st'
  | .bad => .bad
structure RoomG (k : Nat) (A : Around) : Prop where
  r : Room k A
  g : A.guards = some []
theorem RoomG.mono {j k : Nat} {A : Around} (r : RoomG k A) (h : j ≤ k) : RoomG j A := ⟨r.r.mono h, r.g⟩
structure FnG (P : Program) (w : World) (K : PySem.W.Frag) (mg : Str → Option Value) (base : Heap) (k : Nat) (f : Addr) (fd : FuncData) (ps : List Str) (sp : Sp) : Prop where
  len : ∀ vs H Q E, sp vs H Q E → vs.length = ps.length
  run : ∀ (A : Around) (outer : List Env) (s : Shared) (H : Hp) (args : Args) (us : List Value) (vs : List V) (Q : VK) (E : XK), RoomG k A → Env0 P w K mg base A outer s H → BindsTo s fd args (ps.zip us) → Vals vs us → sp vs H Q E →
    codeAny (model P w) A (.call (.ref f) args) (CR (L2.CX P w) outer P w H s Q E) s
theorem FnG.mono {P : Program} {w : World} {K : PySem.W.Frag} {mg : Str → Option Value} {base : Heap} {j k : Nat} {f : Addr} {fd : FuncData} {ps : List Str} {sp : Sp} (F : FnG P w K mg base j f fd ps sp) (h : j ≤ k) : FnG P w K mg base k f fd ps sp :=
  ⟨F.len, fun A outer s H args us vs Q E hr => F.run A outer s H args us vs Q E (hr.mono h)⟩
end FW
namespace FW
open PySem L2 PySem.Spec PyProof.Rows
abbrev cxG (P : Program) (w : World) (K : PySem.W.Frag) (mg : Str → Option Value) (base : Heap) (N : List Str) (qual : Str) (scope : Scope) (f : Addr) (cd : Value) (A : Around) (outer : List Env) (s : Shared) (H : Hp) (E : XK) : Cx :=
  cxOf (L2.CX P w) P w K mg base N qual scope f cd A outer s H E
section
variable {P : Program} {w : World} {K : PySem.W.Frag} {mg : Str → Option Value} {base : Heap}
theorem fnG_of {k : Nat} {f : Addr} {name qual : Str} {params : Arguments} {body : List Stmt} {scope : Scope} {dV kV doc pm cdv ct oc : Value} {an od : Option Addr}
    {osl : Array (Option Value)} {N ps : List Str} {sp : Sp} (look : K.lookup f = some ⟨oc, od, .func (PySem.W.fnOf name qual params body scope dV kV doc pm an cdv ct), osl⟩) (hcode : PySem.W.codeIn K cdv qual = true) (Sc : FnScope N ps scope)
    (hlen : ∀ vs H Q E, sp vs H Q E → vs.length = ps.length)
    (hbody : ∀ (A : Around) (outer : List Env) (s : Shared) (H : Hp) (vs : List V) (Q : VK) (E : XK), RoomG k (A.deeper (envOfC qual scope s.heap.objs.size f cdv)) → sp vs H Q E →
      ∃ t, PSs (cxG P w K mg base N qual scope f cdv A outer s H E) body t ∧ t { nx := fun _ H' => Q .non H', rt := Q } (start N vs) H) :
    FnG P w K mg base (k + 1) f (PySem.W.fnOf name qual params body scope dV kV doc pm an cdv ct) ps sp := by
  constructor
  · exact hlen
  intro A outer s H args us vs Q E room e0 bind rel want
  have many := hlen _ _ _ _ want
  have inK : K.In s.heap := e0.mod.kin.keeps fun b o e => (e0.bs b o e).1
  have noLim : s.heap.NoLimit := e0.mod.nolimit.keeps fun b o e => (e0.bs b o e).1
  have kinds : ∀ y ∈ ps.zip us, scope.names.lookup y.1 = some .local ∨ (scope.names.lookup y.1 = some .cell ∧ ((cellsFrom (s.heap.objs.size + 1) scope.names []).lookup y.1).isSome = true) := by
    rintro ⟨n, v⟩ hy
    have hp := Sc.par n (List.of_mem_zip hy).1
    exact hp.imp id fun q => ⟨q, PySem.W.cellsFrom_some _ _ _ (.inl q)⟩
  refine codeAny_call_function room.r.depth (inK _ _ look) rfl Sc.co Sc.gen rfl (PySem.W.codeRec_of inK hcode) (bind _ _ _ _ ?_)
  refine wpAny_newFunctionEnv_cells Sc.kind kinds fun env he s1 x => ?_
  cases he
  refine ⟨noLim.keeps x.toInCall.keep, codeAny_func ?_⟩
  have room' : RoomG k (A.deeper (envOfC qual scope s.heap.objs.size f cdv)) := ⟨room.r.deeper _, room.g⟩
  obtain ⟨t, ht, hq⟩ := hbody A outer s H vs Q E room' want
  have I := inv_start (CX := L2.CX P w) (E := E) (K := K) (mg := mg) (base := base) (f := f) (cd := cdv) (qual := qual) Sc room.r.hd e0 many rel x
  have done : ∀ {σ' : L2.St} {H' : Hp} {v : V} {u : Value} {s' : Shared}, Inv (cxG P w K mg base N qual scope f cdv A outer s H E) [] σ' H' s' → RelV v u → Q v H' → CE outer P w H s Q u s' := by
    intro σ' H' v u s' J rv q
    exact ⟨v, H', J.os, J.bare, J.base, J.hok, rv, q⟩
  refine wpAny_mono (ht.run [] s1 (start N vs) H _ I hq) (fun fl s' hs => ?_) fun e s' hs => hs
  rcases fl with _ | _ | _ | u
  · obtain ⟨σ', H', J, q⟩ := hs
    exact done (v := V.non) (u := Value.none) J rfl q
  · obtain ⟨_, _, _, q⟩ := hs
    exact False.elim q
  · obtain ⟨_, _, _, q⟩ := hs
    exact False.elim q
  · obtain ⟨v, σ', H', J, rv, q⟩ := hs
    exact done J rv q
section
variable {mgw : Wd} {S : Addr → Prop} {ι : List Addr} {H : Hp} {st : Sto} {vs : List V} {ms : List MV}
theorem fm_start {N : List Str} (r : Rep mgw S ι H st) (d : AllD mgw S ι H vs ms) (hl : ms.length ≤ N.length) : Fm mgw (b0 S ι H) S ι H (startM N.length ms) (start N vs) st := by
  have hv := d.1
  have noOwn : ∀ (i : Nat) m, (startM N.length ms)[i]? ≠ some (some (m, true)) := fun i m h => by
    unfold startM at h
    by_cases hi : i < ms.length
    · rw [List.getElem?_append_left (by simpa using hi), List.getElem?_map] at h
      obtain ⟨x, _, e⟩ := Option.map_eq_some_iff.mp h
      cases e
    · rw [List.getElem?_append_right (by simpa using hi), List.getElem?_replicate] at h
      split at h <;> cases h
  refine ⟨Ext.refl, r, ⟨?_, fun i m h => ?_, fun i m h => absurd h (noOwn i m), fun i j m m' a _ h => absurd h (noOwn i m), fun i c fs h => absurd h (noOwn i _)⟩, fun a o h => by cases h⟩
  · unfold startM L2.start
    simp only [List.length_append, List.length_map, List.length_replicate]
    rw [hv]
  · unfold startM at h
    have hi : i < ms.length := by
      by_cases hi : i < ms.length
      · exact hi
      · rw [List.getElem?_append_right (by simpa using hi), List.getElem?_replicate] at h
        split at h <;> cases h
    rw [List.getElem?_append_left (by simpa using hi), List.getElem?_map] at h
    obtain ⟨x, hx, e⟩ := Option.map_eq_some_iff.mp h
    cases e
    obtain ⟨v, h1, h2⟩ := d.get hx
    refine ⟨v, ?_, h2⟩
    unfold L2.start
    rw [List.getElem?_append_left (by simpa using (by omega : i < vs.length)), List.getElem?_map, h1]
    rfl
end
theorem fnM {k : Nat} {x qual : Str} {st : Stmt} {f : Addr} {fd : FuncData} {N ps : List Str} {g : SF} (F : Fun K x qual st f fd) (Sc : FnScope N ps (defScope st)) (hle : ps.length ≤ N.length)
    (hbody : ∀ (X : Cx) (B : Base) (W : WX) (cdv : Value) (A : Around) (outer : List Env) (s : Shared) (H : Hp) (E : XK), X = cxG P w K mg base N qual (defScope st) f cdv A outer s H E → RoomG k X.A → Takes X W →
      SSs (cxG P w K mg base N qual (defScope st) f cdv A outer s H E) B W (defBody st) g) :
    FnG P w K mg base (k + 1) f fd ps (spM ⟨K, mg⟩ ps.length (runF N.length g)) := by
  obtain ⟨oc, od, kV, doc, pm, an, cdv, ct, osl, rfl, lk, hcd⟩ := F.ex
  refine fnG_of lk hcd Sc (fun vs H Q E h => h.1) fun A outer s H vs Q E room want => ?_
  obtain ⟨hvl, S, ι, st0, ms, r, d, p⟩ := want
  refine ⟨_, hbody _ (b0 S ι H) (fun cls dd _ H' => E cls dd H') cdv A outer s H E rfl room (takes_of rfl rfl rfl rfl), S, ι, startM N.length ms, st0, fm_start r d (by rw [← d.1, hvl]; exact hle), ?_⟩
  unfold runF at p
  show Post (⟨K, mg⟩ : Wd) (b0 S ι H) _ S ι H _ _
  cases hg : g (startM N.length ms) st0 with
  | bad => rw [hg] at p; exact p
  | exc c fs lo st' =>
    rw [hg] at p
    intro S' ι' σ' H' cls dd fm kp xr
    exact p S' ι' H' cls dd fm.ext fm.rep xr
  | ok z =>
    rw [hg] at p
    obtain ⟨fl, lo', st'⟩ := z
    cases fl with
    | nx => exact fun S' ι' σ' H' fm kp => p S' ι' H' _ fm.ext fm.rep .non
    | bk => exact p.elim
    | ct => exact p.elim
    | rt m kd =>
      intro S' ι' σ' H' v fm kp rv
      refine p S' ι' H' v fm.ext fm.rep ?_
      cases kd with
      | fz => exact rv
      | fr => obtain ⟨a, e, h1, h2, h3, h4, _⟩ := rv; exact ⟨a, e, h1, h2, h3.1, h4⟩
      | pk i =>
        obtain ⟨a, e, h1, h2, h3⟩ := rv
        obtain ⟨a', e', q1, q2, q3, q4⟩ := fm.loc.own i m h1
        rw [h2] at e'; cases e'
        exact ⟨a, e, q1, q2, q3.1, q4⟩
end
def callR (F : FF) (ms : List MV) (lo : Lo) (st : Sto) : Res (MV × Kd × Sto) := match F ms st with
  | .ok (m, b, st') => .ok (m, if b then .fr else .fz, st')
  | .exc c fs _ st' => .exc c fs lo st'
  | .bad => .bad
def callF (n : Nat) (F : FF) (dms : List MV) (l : List (MV × Bool)) (lo : Lo) (st : Sto) : Res (MV × Kd × Sto) := match allFz l with
  | some ms => if (ms ++ dms).length = n then callR F (ms ++ dms) lo st else .bad
  | none => .bad
def mCall (n : Nat) (F : FF) (dms : List MV) (g : AF) : EF := fun lo st => g lo st >>= fun (l, st1) => callF n F dms l lo st1
section
variable {X : Cx} {B : Base} {W : WX}
theorem wants_callee {n : Nat} {F : FF} {S S0 : Addr → Prop} {ι ι0 : List Addr} {H H0 : Hp} {lo : Lo} {σ : L2.St} {st : Sto} {vs : List V} {ms : List MV} {Q : VK} (fm : Fm X.wd B S ι H lo σ st) (d : AllD X.wd S ι H vs ms) (hn : vs.length = n) (k0 : Keep S0 ι0 H0 S ι H)
    (p : Post X.wd B W S0 ι0 H0 (fun r => ∀ S' ι' H' v, Fm X.wd B S' ι' H' lo σ r.2.2 → Keep S0 ι0 H0 S' ι' H' → RV X.wd B S' ι' H' lo σ v r.1 r.2.1 → Q v H') (callR F ms lo st)) : spM X.wd n F vs H Q (fun cls dd H' => ∃ S' ι' st' c fs, Fm X.wd B S' ι' H' lo σ st' ∧ Keep S ι H S' ι' H' ∧ XR X.wd S' ι' H' c fs cls dd ∧ W cls dd σ H') := by
  refine ⟨hn, S, ι, st, ms, fm.rep, d, ?_⟩
  unfold callR at p
  cases hF : F ms st with
  | bad => rw [hF] at p; exact p
  | exc c fs lo' st' =>
    rw [hF] at p
    intro S' ι' H' cls dd x r xr
    have fm' := fm.step x r
    have kk := x.keep fm.rep
    exact ⟨S', ι', st', c, fs, fm', kk, xr, p S' ι' σ H' cls dd fm' (k0.trans kk) xr⟩
  | ok z =>
    rw [hF] at p
    obtain ⟨m, b, st'⟩ := z
    intro S' ι' H' v x r rf
    have fm' := fm.step x r
    have kk := x.keep fm.rep
    refine p S' ι' H' v fm' (k0.trans kk) ?_
    cases b with
    | false => exact rf
    | true =>
      obtain ⟨a, e, h1, h2, h3, h4⟩ := rf
      have fr := fm.free h3
      exact ⟨a, e, h1, h2, fr.2.2.1, h4, fr.2.2.2⟩
theorem run_fnG {k : Nat} {f : Addr} {fd : FuncData} {ps : List Str} {sp : Sp} {E : XK} {dvs : List V} {ds : List Value} {pins : List (Addr × Obj)} {σ : L2.St} {H : Hp} {s : Shared} {Q : VK} {us : List Value} {vs : List V}
    (F : FnG X.prog X.w X.K X.mg X.base k f fd ps sp) (hr : RoomG k X.A) (hb : Binds X.K fd ps ds) (hd : Vals dvs ds) (hx : ∀ cls d H', E cls d H' → W cls d σ H') (tk : Takes X W)
    (I : Inv X pins σ H s) (r : Vals vs us) (h : sp (vs ++ dvs) H Q E) : wpAny (model X.prog X.w) X.A (call (.ref f) us) (EP X pins σ Q) X.xe s := by
  have rr : Vals (vs ++ dvs) (us ++ ds) := r.append hd
  have ll : (us ++ ds).length = ps.length := by rw [← rr.length]; exact F.len _ _ _ _ h
  have go := F.run X.A X.stack s H ⟨us, []⟩ (us ++ ds) (vs ++ dvs) Q E hr I.env0 (hb s us I.kIn ll) rr h
  refine wpAny_call (codeAny_mono go fun res s' hq => ?_)
  match res, hq with
  | .error e, hq => exact tk e s' (XE.of_call I hx hq)
  | .ok (.ret u), hq => exact I.after hq
theorem se_call {k n : Nat} {f : Addr} {fd : FuncData} {ps : List Str} {FM : FF} {dvs : List V} {dms : List MV} {ds : List Value} {x : Str} {p pos : Pos} {e : Expr} {es : List Expr} {g : AF}
    (F : FnG X.prog X.w X.K X.mg X.base k f fd ps (spM X.wd n FM)) (hr : RoomG k X.A) (tk : Takes X W) (hg : Gl X x) (hm : X.mg x = some (.ref f)) (hk : PySem.W.keepIn X.K (.ref f) = true) (hb : Binds X.K fd ps ds) (hd : Vals dvs ds)
    (dd : ∀ S ι H, AllD X.wd S ι H dvs dms) (ha : SA X B W (e :: es) g) (hdb : (x == ("__debug__" : Str)) = false := by decide) (he : starEach (e :: es) X.env = (false, eval e X.env) :: starEach es X.env := by rfl)
    (hpl : (backTo pos (starEach es X.env)).any (·.1) = false := by rfl) : SE X B W (.Call (.Name x p) (e :: es) [] pos) (mCall n FM dms g) := by
  refine ⟨fun pins s σ H Q I ⟨S, ι, lo, st, fm, pp⟩ => ?_⟩
  refine wpAny_Call_Name_kw (ld_glob I hg hm ?_ hdb)
  have run := ha.run pos pins s σ H (fun vs H1 => ∃ E : XK, (∀ cls d H', E cls d H' → W cls d σ H') ∧ spM X.wd n FM (vs ++ dvs) H1 Q E) I ?_
  · refine PySem.W.callWith_K (h₀ := X.base) I.ok.mod.kin hk (thn run fun us s1 ⟨vs, H1, I1, r, q⟩ => ⟨I1.kIn, ?_⟩) he hpl
    obtain ⟨E, hE, q⟩ := q
    exact run_fnG F hr hb hd hE tk I1 r q
  · refine tA.use fm (Post.bind pp) fun l st1 S1 ι1 H1 vs f1 k1 r1 p1 => ?_
    dsimp only at p1
    unfold callF at p1
    split at p1
    · rename_i ms hz
      split at p1
      · rename_i hlen
        have d1 := r1.data hz
        have dall := d1.append (dd S1 ι1 H1)
        refine ⟨_, ?_, wants_callee f1 dall (by rw [dall.1]; exact hlen) k1 p1⟩
        rintro cls d H' ⟨_, _, _, _, _, _, _, _, z⟩
        exact z
      · exact p1.elim
    · exact p1.elim
end
end FW
namespace FW
open PySem L2 PySem.Spec PyProof.Rows
abbrev GF := MV → Lo → Sto → Res (Lo × Sto)
def SameBut (vs : List Nat) (σ σ' : L2.St) : Prop := σ'.length = σ.length ∧ ∀ j, j ∉ vs → σ'[j]? = σ[j]?
theorem SameBut.refl {vs : List Nat} {σ : L2.St} : SameBut vs σ σ := ⟨rfl, fun _ _ => rfl⟩
theorem SameBut.trans {vs : List Nat} {σ σ' σ2 : L2.St} (a : SameBut vs σ σ') (b : SameBut vs σ' σ2) : SameBut vs σ σ2 := ⟨b.1.trans a.1, fun j h => (b.2 j h).trans (a.2 j h)⟩
theorem SameBut.wipe {σ σ' : L2.St} : ∀ {vs : List Nat}, SameBut vs σ σ' → L2.wipe σ' vs = L2.wipe σ vs := by
  intro vs h
  apply List.ext_getElem?
  intro j
  have go : ∀ (vs : List Nat) (σ : L2.St) (j : Nat), j ∉ vs → (L2.wipe σ vs)[j]? = σ[j]? := by
    intro vs
    induction vs with
    | nil => intro σ j _; rfl
    | cons v vs ih =>
      intro σ j hj
      show ((L2.wipe σ vs).set v none)[j]? = σ[j]?
      rw [List.getElem?_set_ne (fun e => hj (by rw [e]; exact List.mem_cons_self)), ih σ j (fun e => hj (List.mem_cons_of_mem _ e))]
  have gone : ∀ (vs : List Nat) (σ : L2.St) (j : Nat), j ∈ vs → (L2.wipe σ vs)[j]? = if j < σ.length then some none else none := by
    intro vs
    induction vs with
    | nil => intro σ j h; cases h
    | cons v vs ih =>
      intro σ j hj
      show ((L2.wipe σ vs).set v none)[j]? = _
      by_cases e : v = j
      · subst e
        by_cases hl : v < σ.length
        · rw [List.getElem?_set_self (by rw [wipe_length]; exact hl), if_pos hl]
        · rw [List.getElem?_eq_none (by rw [List.length_set, wipe_length]; omega), if_neg hl]
      · rw [List.getElem?_set_ne e]
        exact ih σ j ((List.mem_cons.mp hj).resolve_left fun z => e z.symm)
  by_cases hj : j ∈ vs
  · rw [gone vs σ' j hj, gone vs σ j hj, h.1]
  · rw [go vs σ' j hj, go vs σ j hj, h.2 j hj]
def LoBut (vs : List Nat) (lo lo' : Lo) : Prop := ∀ j, j ∉ vs → lo'[j]? = lo[j]?
theorem LoBut.refl {vs : List Nat} {lo : Lo} : LoBut vs lo lo := fun _ _ => rfl
theorem LoBut.trans {vs : List Nat} {a b c : Lo} (x : LoBut vs a b) (y : LoBut vs b c) : LoBut vs a c := fun j h => (y j h).trans (x j h)
def tG (mg : Wd) (B : Base) (W : WX) (vs : List Nat) (gf : GF) : TG := fun v σ H Q => ∃ S ι lo st m, Fm mg B S ι H lo σ st ∧ Dt mg S ι H v m ∧
  Post mg B W S ι H (fun r => ∀ S' ι' σ' H', Fm mg B S' ι' H' r.1 σ' r.2 → Keep S ι H S' ι' H' → SameBut vs σ σ' → LoBut vs lo r.1 → Q σ' H') (gf m lo st)
abbrev SG (X : Cx) (B : Base) (W : WX) (vs : List Nat) (e : Expr) (gf : GF) : Prop := PG X e (tG X.wd B W vs gf)
theorem _root_.L2.PG.fw {X : Cx} {e : Expr} {t t' : TG} (h : PG X e t) (i : ∀ v σ H Q, t' v σ H Q → t v σ H Q) : PG X e t' := ⟨fun pins s σ H v u Q I r q => h.run pins s σ H v u Q I r (i v σ H Q q)⟩
theorem _root_.L2.PGs.fw {X : Cx} {e : List Expr} {t t' : TGs} (h : PGs X e t) (i : ∀ v σ H Q, t' v σ H Q → t v σ H Q) : PGs X e t' := ⟨fun pins s σ H v u Q I r q => h.run pins s σ H v u Q I r (i v σ H Q q)⟩
theorem PG.orr {X : Cx} {e : Expr} {t t' : TG} (h : PG X e t) (h' : PG X e t') : PG X e (fun v σ H Q => t v σ H Q ∨ t' v σ H Q) :=
  ⟨fun pins s σ H v u Q I r q => q.elim (h.run pins s σ H v u Q I r) (h'.run pins s σ H v u Q I r)⟩
def gN (i : Nat) : GF := fun m lo st => .ok (lo.set i (some (m, false)), st)
abbrev GFs := List MV → Lo → Sto → Res (Lo × Sto)
def tGs (mg : Wd) (B : Base) (W : WX) (vs : List Nat) (gf : GFs) : TGs := fun xs σ H Q => ∃ S ι lo st ms, Fm mg B S ι H lo σ st ∧ AllD mg S ι H xs ms ∧
  Post mg B W S ι H (fun r => ∀ S' ι' σ' H', Fm mg B S' ι' H' r.1 σ' r.2 → Keep S ι H S' ι' H' → SameBut vs σ σ' → LoBut vs lo r.1 → Q σ' H') (gf ms lo st)
abbrev SGs (X : Cx) (B : Base) (W : WX) (vs : List Nat) (e : List Expr) (gf : GFs) : Prop := PGs X e (tGs X.wd B W vs gf)
def gsNil : GFs
  | [], lo, st => .ok (lo, st)
  | _, _, _ => .bad
def gsCons (g : GF) (gs : GFs) : GFs
  | m :: ms, lo, st => g m lo st >>= fun (lo1, st1) => gs ms lo1 st1
  | [], _, _ => .bad
def gT (n : Nat) (gs : GFs) : GF := fun m lo st => match vw st m with
  | .tup ms => if ms.length = n then gs ms lo st else .bad
  | .lst ms => if ms.length = n then gs ms lo st else .bad
  | _ => .bad
section
variable {X : Cx} {B : Base} {W : WX} {vs : List Nat} {pos : Pos}
theorem sg_name (i : Nat) {x : Str} (hN : X.N.Nodup) (hi : X.N[i]? = some x := by rfl) (hx : L2.Loc X.env.scope x := by first | exact Or.inl rfl | exact Or.inr rfl) (hv : i ∈ vs := by decide)
    (hf : X.fn x = true ∨ X.env.scope.names.lookup x = some .local := by first | exact .inl rfl | exact .inr rfl) : SG X B W vs (.Name x pos) (gN i) := by
  refine (pg_name hN hi hx hf).fw fun v σ H Q ⟨S, ι, lo, st, m, fm, d, p⟩ => ?_
  refine p S ι _ H (fm.set_val i d) .refl ⟨by simp, fun j hj => ?_⟩ fun j hj => ?_
  · exact List.getElem?_set_ne (fun (e : i = j) => hj (by rw [← e]; exact hv))
  · exact List.getElem?_set_ne (fun (e : i = j) => hj (by rw [← e]; exact hv))
theorem sgs_nil : SGs X B W vs [] gsNil := by
  refine pgs_nil.fw fun v σ H Q ⟨S, ι, lo, st, ms, fm, d, p⟩ => ?_
  cases ms with
  | nil => exact ⟨d.inv_nil, p S ι σ H fm .refl .refl .refl⟩
  | cons _ _ => exact p.elim
theorem sgs_cons {e : Expr} {es : List Expr} {g : GF} {gs : GFs} (h1 : SG X B W vs e g) (h2 : SGs X B W vs es gs) (hs : (assignEach (e :: es) X.env).map (·.2) = assign e X.env :: (assignEach es X.env).map (·.2) := by rfl) : SGs X B W vs (e :: es) (gsCons g gs) := by
  refine (pgs_cons h1 h2 hs).fw fun v σ H Q ⟨S, ι, lo, st, ms, fm, d, p⟩ => ?_
  cases ms with
  | nil => exact p.elim
  | cons m ms =>
    obtain ⟨x, xs, rfl, d1, dr⟩ := d.inv_cons
    refine ⟨x, xs, rfl, S, ι, lo, st, m, fm, d1, (Post.bind p).imp fun ⟨lo1, st1⟩ q S1 ι1 σ1 H1 f1 k1 sb lb => ?_⟩
    exact ⟨S1, ι1, lo1, st1, ms, f1, dr.mono k1, q.mono k1 fun r z S2 ι2 σ2 H2 f2 k2 sb2 lb2 => z S2 ι2 σ2 H2 f2 (k1.trans k2) (sb.trans sb2) (lb.trans lb2)⟩
theorem sg_tup {es : List Expr} {k n : Nat} {gs : GFs} (hc : X.calm = true) (h : SGs X B W vs es gs) (hn : (assignEach es X.env).length = n := by rfl) (hst : (assignEach es X.env).findIdx? (·.1) = none := by rfl) : SG X B W vs (.Tuple es k pos) (gT n gs) := by
  refine (PG.orr (pg_tup hc h hn hst) (pg_lst hc h hn hst)).fw fun v σ H Q ⟨S, ι, lo, st, m, fm, d, p⟩ => ?_
  have vr := d.vr fm.rep
  unfold gT at p
  split at p
  · rename_i ms e
    split at p
    · rename_i hl
      rw [e] at vr
      obtain ⟨q, xs, rfl, h1, d1⟩ := vr
      exact .inl ⟨q, xs, rfl, .of h1, by rw [d1.1, hl], S, ι, lo, st, ms, fm, d1, p⟩
    · exact p.elim
  · rename_i ms e
    split at p
    · rename_i hl
      rw [e] at vr
      obtain ⟨q, xs, rfl, h1, d1⟩ := vr
      exact .inr ⟨q, xs, rfl, .of h1, by rw [d1.1, hl], S, ι, lo, st, ms, fm, d1, p⟩
    · exact p.elim
  · exact p.elim
def sAsg (f : EF) (g : GF) : SF := fun lo st => f lo st >>= fun r => frzd r >>= fun (m, st1) => g m lo st1 >>= fun (lo2, st2) => .ok (.nx, lo2, st2)
theorem frzd_ok {B' : Base} {W' : WX} {mg : Wd} {S : Addr → Prop} {ι : List Addr} {H : Hp} {lo : Lo} {σ : L2.St} {st : Sto} {v : V} {m : MV} {k : Kd} {α : Type} {P : α → Prop} {S0 : Addr → Prop} {ι0 : List Addr} {H0 : Hp} {c : MV × Sto → Res α} (fm : Fm mg B S ι H lo σ st) (r : RV mg B S ι H lo σ v m k)
    (p : Post mg B' W' S0 ι0 H0 P (frzd (m, k, st) >>= c)) : (∃ S', Fm mg B S' ι H lo σ st ∧ Keep S ι H S' ι H ∧ Dt mg S' ι H v m) ∧ Post mg B' W' S0 ι0 H0 P (c (m, st)) := by
  cases k with
  | pk j => exact p.elim
  | fz => exact ⟨⟨S, fm, .refl, r⟩, p⟩
  | fr => exact ⟨RV.freeze fm r (fun j z => by cases z), p⟩
theorem ss_asg {tg e : Expr} {f : EF} {g : GF} (he : SE X B W e f) (hg : SG X B W vs tg g) (hs : swapsWithSole [tg] e pos.line X.env = pure false := by rfl) (hw : swappedStores [tg] e X.env = pure none := by rfl)
    (h1 : (assignEach [tg] X.env).map (·.2) = [assign tg X.env] := by rfl) : SS X B W (.Assign [tg] e pos) (sAsg f g) := by
  refine (ps_asg he hg hs hw h1).fw fun D σ H ⟨S, ι, lo, st, fm, p⟩ => ?_
  refine tE.use fm (Post.bind p) fun m k st1 S1 ι1 H1 v f1 k1 r1 p1 => ?_
  obtain ⟨⟨S2, f2, k2, d⟩, p2⟩ := frzd_ok f1 r1 p1
  have k0 := k1.trans k2
  refine ⟨S2, ι1, lo, st1, m, f2, d, ((Post.bind p2).mono k0 fun ⟨lo2, st2⟩ q S3 ι3 σ3 H3 f3 k3 _ _ => q S3 ι3 σ3 H3 f3 (k0.trans k3))⟩
abbrev CK := Lo → Sto → Prop
abbrev IFn := Lo → Sto → Res (List MV × CK × Sto)
def WalkM (mg : Wd) (J : It) (items : List MV) (chk : CK) (S0 : Addr → Prop) (ι0 : List Addr) (H0 : Hp) : Prop :=
  ∀ (B : Base) (i : Nat) S ι H lo σ st, Fm mg B S ι H lo σ st → Keep S0 ι0 H0 S ι H → chk lo st →
    (∀ m, items[i]? = some m → J.go i H ∧ ∀ x H', J.yld i H x H' → ∃ S', Fm mg B S' ι H' lo σ st ∧ Keep S ι H S' ι H' ∧ Dt mg S' ι H' x m) ∧ (items.length ≤ i → J.stop i H)
def tI (mg : Wd) (B : Base) (W : WX) (fi : IFn) : TI := fun σ H R => ∃ S ι lo st, Fm mg B S ι H lo σ st ∧
  Post mg B W S ι H (fun r => ∀ S' ι' H' J, Fm mg B S' ι' H' lo σ r.2.2 → Keep S ι H S' ι' H' → WalkM mg J r.1 r.2.1 S' ι' H' → r.2.1 lo r.2.2 → R J H') (fi lo st)
abbrev SI (X : Cx) (B : Base) (W : WX) (tg iter : Expr) (fi : IFn) : Prop := PI X tg iter (tI X.wd B W fi)
def src (m : MV) (st : Sto) : Option (List MV × CK) := match m with
  | .lst ms => some (ms, fun _ _ => True)
  | .tup ms => some (ms, fun _ _ => True)
  | .ref n => (match st[n]? with
    | some (.lst ms) => some (ms, fun _ st' => st'[n]? = some (.lst ms))
    | _ => none)
  | _ => none
def iSeq (f : EF) : IFn := fun lo st => f lo st >>= fun r => frzd r >>= fun (m, st1) => match src m st1 with
  | some (ms, ck) => .ok (ms, ck, st1)
  | none => .bad
theorem src_list {mg : Wd} {S : Addr → Prop} {ι : List Addr} {H : Hp} {lo : Lo} {σ : L2.St} {st : Sto} {v : V} {m : MV} {ms : List MV} {ck : CK} (fm : Fm mg B S ι H lo σ st) (d : Dt mg S ι H v m) (e : src m st = some (ms, ck)) :
    ck lo st ∧ ∃ a, v = .ref a ∧ ((∀ (B : Base) S2 ι2 H2 lo2 σ2 st2, Fm mg B S2 ι2 H2 lo2 σ2 st2 → Keep S ι H S2 ι2 H2 → ck lo2 st2 → ∃ vs, H2 a = some (.lst vs) ∧ AllD mg S2 ι2 H2 vs ms) ∨
      (∀ (B : Base) S2 ι2 H2 lo2 σ2 st2, Fm mg B S2 ι2 H2 lo2 σ2 st2 → Keep S ι H S2 ι2 H2 → ck lo2 st2 → ∃ vs, H2 a = some (.tup vs) ∧ AllD mg S2 ι2 H2 vs ms)) := by
  unfold src at e
  split at e
  · cases e
    cases d with
    | lst hs h hl hi =>
      refine ⟨trivial, _, rfl, .inl fun _ S2 ι2 H2 lo2 σ2 st2 f2 k2 _ => ⟨_, (k2.h _ hs).trans h, ?_⟩⟩
      exact AllD.mono k2 ⟨hl, hi⟩
  · cases e
    cases d with
    | tup hs h hl hi =>
      refine ⟨trivial, _, rfl, .inr fun _ S2 ι2 H2 lo2 σ2 st2 f2 k2 _ => ⟨_, (k2.h _ hs).trans h, ?_⟩⟩
      exact AllD.mono k2 ⟨hl, hi⟩
  · rename_i n
    split at e
    · rename_i e1
      cases e
      cases d with
      | ref h =>
        refine ⟨e1, _, rfl, .inl fun _ S2 ι2 H2 lo2 σ2 st2 f2 k2 c => ?_⟩
        obtain ⟨o, h1, h2⟩ := (f2.rep.ent n _ _ (getp k2.i h) c).sh rfl
        obtain ⟨vs, rfl, h3⟩ := h2
        exact ⟨vs, h1, h3⟩
    · cases e
  · cases e
theorem walk_list {mg : Wd} {K : PySem.W.Frag} {S : Addr → Prop} {ι : List Addr} {H : Hp} {a : Addr} {ms : List MV} {ck : CK}
    (h : ∀ (B : Base) S2 ι2 H2 lo2 σ2 st2, Fm mg B S2 ι2 H2 lo2 σ2 st2 → Keep S ι H S2 ι2 H2 → ck lo2 st2 → ∃ vs, H2 a = some (.lst vs) ∧ AllD mg S2 ι2 H2 vs ms) : WalkM mg (Itl K a) ms ck S ι H := by
  intro B i S2 ι2 H2 lo2 σ2 st2 f2 k2 c
  obtain ⟨vs, e, d⟩ := h B S2 ι2 H2 lo2 σ2 st2 f2 k2 c
  refine ⟨fun m hm => ?_, fun hl => ⟨vs, .of e, by rw [d.1]; exact hl⟩⟩
  obtain ⟨v, hv, dv⟩ := d.get hm
  refine ⟨⟨vs, v, .of e, hv⟩, fun x H' y => ?_⟩
  obtain ⟨rfl, y⟩ := y
  have hx := y vs (.of e)
  rw [hv] at hx; cases hx
  exact ⟨S2, f2, .refl, dv⟩
theorem walk_tup {mg : Wd} {K : PySem.W.Frag} {S : Addr → Prop} {ι : List Addr} {H : Hp} {a : Addr} {ms : List MV} {ck : CK}
    (h : ∀ (B : Base) S2 ι2 H2 lo2 σ2 st2, Fm mg B S2 ι2 H2 lo2 σ2 st2 → Keep S ι H S2 ι2 H2 → ck lo2 st2 → ∃ vs, H2 a = some (.tup vs) ∧ AllD mg S2 ι2 H2 vs ms) : WalkM mg (Itt K a) ms ck S ι H := by
  intro B i S2 ι2 H2 lo2 σ2 st2 f2 k2 c
  obtain ⟨vs, e, d⟩ := h B S2 ι2 H2 lo2 σ2 st2 f2 k2 c
  refine ⟨fun m hm => ?_, fun hl => ⟨vs, .of e, by rw [d.1]; exact hl⟩⟩
  obtain ⟨v, hv, dv⟩ := d.get hm
  refine ⟨⟨vs, v, .of e, hv⟩, fun x H' y => ?_⟩
  obtain ⟨rfl, y⟩ := y
  have hx := y vs (.of e)
  rw [hv] at hx; cases hx
  exact ⟨S2, f2, .refl, dv⟩
theorem si_seqL {tg e : Expr} {f : EF} (he : SE X B W e f) : PI X tg e (fun σ H R => ∃ S ι lo st, Fm X.wd B S ι H lo σ st ∧ Post X.wd B W S ι H (fun r => ∀ S' ι' H' v, Fm X.wd B S' ι' H' lo σ r.2.2 → Keep S ι H S' ι' H' → RV X.wd B S' ι' H' lo σ v r.1 r.2.1 →
    ∃ a, v = .ref a ∧ ((∃ vs, H' a = some (.lst vs) ∧ R (Itl X.K a) H') ∨ ∃ vs, H' a = some (.tup vs) ∧ R (Itt X.K a) H')) (f lo st)) := by
  refine ⟨fun pins s σ H R I ⟨S, ι, lo, st, fm, p⟩ => ?_⟩
  refine thn (he.run pins s σ H (fun v H' => ∃ a, v = .ref a ∧ ((∃ vs, H' a = some (.lst vs) ∧ R (Itl X.K a) H') ∨ ∃ vs, H' a = some (.tup vs) ∧ R (Itt X.K a) H')) I ⟨S, ι, lo, st, fm, p⟩) fun u s1 h1 => ?_
  obtain ⟨v, H1, I1, r1, a, rfl, q⟩ := h1
  cases r1
  rcases q with ⟨vs, e1, q⟩ | ⟨vs, e1, q⟩
  · obtain ⟨its, rv, pl, hz⟩ := I1.list (SqL.of e1)
    refine wpAny_pyIter_list pl.isList ?_
    refine ⟨s1.heap.objs.size, [s1.heap.objs.size], _, _, H1, rfl, I1.kept (t' := s1.toks) fun b o e => Heap.get?_push_of_some _ e, turn_list a _, ⟨_, Heap.get?_push_size _ rfl, rfl, rfl⟩, fun b hb => ?_, q⟩
    obtain rfl : b = s1.heap.objs.size := by simpa using hb
    exact I1.fpOk (Nat.le_refl _) (I1.hok.fresh (Nat.le_refl _))
  · obtain ⟨its, rv, pl, hz⟩ := I1.tuple (SqT.of e1)
    refine wpAny_pyIter_tuple (show s1.heap.IsTuple a its.toArray from pl) ?_
    refine ⟨s1.heap.objs.size, [s1.heap.objs.size], _, _, H1, rfl, I1.kept (t' := s1.toks) fun b o e => Heap.get?_push_of_some _ e, turn_tuple a _, ⟨_, Heap.get?_push_size _ rfl, rfl, rfl⟩, fun b hb => ?_, q⟩
    obtain rfl : b = s1.heap.objs.size := by simpa using hb
    exact I1.fpOk (Nat.le_refl _) (I1.hok.fresh (Nat.le_refl _))
theorem si_seq {tg e : Expr} {f : EF} (he : SE X B W e f) : SI X B W tg e (iSeq f) := by
  refine (si_seqL he).fw fun σ H R ⟨S, ι, lo, st, fm, p⟩ => ⟨S, ι, lo, st, fm, (Post.bind p).imp fun ⟨m, k, st1⟩ q S1 ι1 H1 v f1 k1 r1 => ?_⟩
  obtain ⟨⟨S2, f2, k2, d⟩, p2⟩ := frzd_ok f1 r1 q
  dsimp only at p2
  split at p2
  · rename_i ms ck e1
    obtain ⟨c, a, rfl, hh⟩ := src_list f2 d e1
    rcases hh with hh | hh
    · obtain ⟨vs, e2, _⟩ := hh _ _ _ _ _ _ _ f2 .refl c
      exact ⟨a, rfl, .inl ⟨vs, e2, p2 S2 ι1 H1 _ f2 (k1.trans k2) (walk_list hh) c⟩⟩
    · obtain ⟨vs, e2, _⟩ := hh _ _ _ _ _ _ _ f2 .refl c
      exact ⟨a, rfl, .inr ⟨vs, e2, p2 S2 ι1 H1 _ f2 (k1.trans k2) (walk_tup hh) c⟩⟩
  · exact p2.elim
def rgM (i j : Int) : List MV := (List.range (j - i).toNat).map fun k => .int (i + (k : Nat))
def Rg62 (i j : Int) : Prop := -(2 ^ 62) ≤ i ∧ i < 2 ^ 62 ∧ -(2 ^ 62) ≤ j ∧ j < 2 ^ 62
instance (i j : Int) : Decidable (Rg62 i j) := by unfold Rg62; infer_instance
def iRg1 (f : EF) : IFn := fun lo st => f lo st >>= fun (m, _, st1) => match m with
  | .int j => if Rg62 0 j then .ok (rgM 0 j, fun _ _ => True, st1) else .bad
  | _ => .bad
def iRg2 (f g : EF) : IFn := fun lo st => f lo st >>= fun (m, _, st1) => g lo st1 >>= fun (n, _, st2) => match m, n with
  | .int i, .int j => if Rg62 i j then .ok (rgM i j, fun _ _ => True, st2) else .bad
  | _, _ => .bad
theorem walk_rg {mg : Wd} {S : Addr → Prop} {ι : List Addr} {H : Hp} {i j : Int} : WalkM mg (Itr i (j - i).toNat) (rgM i j) (fun _ _ => True) S ι H := by
  intro B n S2 ι2 H2 lo2 σ2 st2 f2 k2 _
  refine ⟨fun m hm => ?_, fun hl => ?_⟩
  · unfold rgM at hm
    rw [List.getElem?_map] at hm
    obtain ⟨k, hk, rfl⟩ := Option.map_eq_some_iff.mp hm
    have hk' := List.getElem?_eq_some_iff.mp hk
    obtain ⟨h1, h2⟩ := hk'
    rw [List.getElem_range] at h2
    subst h2
    refine ⟨show n < (j - i).toNat by simpa using h1, fun x H' y => ?_⟩
    obtain ⟨rfl, rfl⟩ := y
    exact ⟨S2, f2, .refl, .int _⟩
  · show (j - i).toNat ≤ n
    unfold rgM at hl
    simpa using hl
theorem si_rg1 {tg a : Expr} {f : EF} {p : Pos} (hg : Gl X "range") (hm : X.mg "range" = none) (ha : SE X B W a f) (h1 : starEach [a] X.env = (false, eval a X.env) :: starEach [] X.env := by rfl) (hs : starEach [a] X.env = [(false, eval a X.env)] := by rfl) :
    SI X B W tg (.Call (.Name "range" p) [a] [] pos) (iRg1 f) := by
  refine (pi_range1 hg hm (pa_cons ha pa_nil h1) hs).fw fun σ H R ⟨S, ι, lo, st, fm, p⟩ => ?_
  refine tE.use fm (Post.bind p) fun m k st1 S1 ι1 H1 v f1 k1 r1 p1 => ?_
  dsimp only at p1
  split at p1
  · split at p1
    · rename_i j hj
      refine ⟨j, by rw [rv_int f1 r1], hj.2.2.1, hj.2.2.2, ?_⟩
      have w := walk_rg (mg := X.wd) (S := S1) (ι := ι1) (H := H1) (i := 0) (j := j)
      rw [Int.sub_zero] at w
      exact p1 S1 ι1 H1 _ f1 k1 w trivial
    · exact p1.elim
  · exact p1.elim
theorem si_rg2 {tg a b : Expr} {f g : EF} {p : Pos} (hg : Gl X "range") (hm : X.mg "range" = none) (ha : SE X B W a f) (hb : SE X B W b g) (h1 : starEach [a, b] X.env = (false, eval a X.env) :: starEach [b] X.env := by rfl) (h2 : starEach [b] X.env = (false, eval b X.env) :: starEach [] X.env := by rfl)
    (hs : starEach [a, b] X.env = [(false, eval a X.env), (false, eval b X.env)] := by rfl) (hs2 : starEach [b] X.env = [(false, eval b X.env)] := by rfl) :
    SI X B W tg (.Call (.Name "range" p) [a, b] [] pos) (iRg2 f g) := by
  refine (pi_range2 hg hm (pa_cons ha (pa_cons hb pa_nil h2) h1) hs hs2).fw fun σ H R ⟨S, ι, lo, st, fm, p⟩ => ?_
  refine tE.use fm (Post.bind p) fun m k st1 S1 ι1 H1 v f1 k1 r1 p1 => ?_
  obtain ⟨S1', f1', k1', h1⟩ := r1.hand f1
  refine tE.use f1' (Post.bind (p1.mono (k1.trans k1') fun _ z => z)) fun b kb st2 S2 ι2 H2 y f2 k2 r2 p2 => ?_
  obtain ⟨S2', f2', k2', h2⟩ := r2.hand f2
  have v1 := (h1.mono (k2.trans k2')).vr f2'
  have v2 := h2.vr f2'
  dsimp only at p2
  split at p2
  · split at p2
    · rename_i hj
      cases v1; cases v2
      exact ⟨_, _, rfl, ⟨hj.1, hj.2.1, hj.2.2.1, hj.2.2.2⟩, p2 S2' ι2 H2 _ f2' (k1.trans (k1'.trans (k2.trans k2'))) walk_rg trivial⟩
    · exact p2.elim
  · exact p2.elim
def enumM (ms : List MV) : List MV := ms.zipIdx.map fun z => .tup [.int (z.2 : Nat), z.1]
def iEn (f : EF) : IFn := fun lo st => f lo st >>= fun r => frzd r >>= fun (m, st1) => match m with
  | .lst ms => .ok (enumM ms, fun _ _ => True, st1)
  | .ref n => (match st1[n]? with
    | some (.lst ms) => .ok (enumM ms, fun _ st' => st'[n]? = some (.lst ms), st1)
    | _ => .bad)
  | _ => .bad
theorem enumM_get {ms : List MV} {i : Nat} {m : MV} (h : (enumM ms)[i]? = some m) : ∃ x, ms[i]? = some x ∧ m = .tup [.int (i : Nat), x] := by
  unfold enumM at h
  rw [List.getElem?_map] at h
  obtain ⟨z, hz, rfl⟩ := Option.map_eq_some_iff.mp h
  rw [List.getElem?_zipIdx] at hz
  obtain ⟨x, hx, rfl⟩ := Option.map_eq_some_iff.mp hz
  exact ⟨x, hx, by simp⟩
theorem walk_enum {mg : Wd} {K : PySem.W.Frag} {S : Addr → Prop} {ι : List Addr} {H : Hp} {a : Addr} {ms : List MV} {ck : CK}
    (h : ∀ (B : Base) S2 ι2 H2 lo2 σ2 st2, Fm mg B S2 ι2 H2 lo2 σ2 st2 → Keep S ι H S2 ι2 H2 → ck lo2 st2 → ∃ vs, H2 a = some (.lst vs) ∧ AllD mg S2 ι2 H2 vs ms) : WalkM mg (Ite K a) (enumM ms) ck S ι H := by
  intro B i S2 ι2 H2 lo2 σ2 st2 f2 k2 c
  obtain ⟨vs, e, d⟩ := h B S2 ι2 H2 lo2 σ2 st2 f2 k2 c
  refine ⟨fun m hm => ?_, fun hl => ⟨vs, .of e, by rw [d.1]; unfold enumM at hl; simpa using hl⟩⟩
  obtain ⟨x0, hx0, rfl⟩ := enumM_get hm
  obtain ⟨v, hv, dv⟩ := d.get hx0
  refine ⟨⟨vs, v, .of e, hv⟩, fun x H' y => ?_⟩
  obtain ⟨T, x1, rfl, hT, rfl, y⟩ := y
  have hx := y vs (.of e)
  rw [hv] at hx
  obtain rfl : v = x1 := Option.some.inj hx
  have f3 := f2.new (o := .tup [.int (i : Nat), v]) hT
  obtain ⟨n1, n2, n3, n4⟩ := f2.free hT
  have f4 := f3.freeze (a := T) upd_same n2 n3 n4
  have k4 : Keep S2 ι2 H2 (fz1 S2 T) ι2 (upd H2 T (.tup [.int (i : Nat), v])) := ((Ext.new hT).keep f2.rep).trans .fz1
  refine ⟨_, f4, k4, .tup (.inr rfl) upd_same rfl fun j w n h1 h2 => ?_⟩
  match j, h1, h2 with
  | 0, h1, h2 => simp at h1 h2; subst h1; subst h2; exact .int _
  | 1, h1, h2 => simp at h1 h2; subst h1; subst h2; exact dv.mono k4
theorem si_enum {elts : List Expr} {kk : Nat} {tpos : Pos} {e : Expr} {f : EF} {p : Pos} (hg : Gl X "enumerate") (hm : X.mg "enumerate" = none) (he : SE X B W e f) (h1 : starEach [e] X.env = (false, eval e X.env) :: starEach [] X.env := by rfl) (hs : starEach [e] X.env = [(false, eval e X.env)] := by rfl) :
    SI X B W (.Tuple elts kk tpos) (.Call (.Name "enumerate" p) [e] [] pos) (iEn f) := by
  refine (pi_enum hg hm (pa_cons he pa_nil h1) hs).fw fun σ H R ⟨S, ι, lo, st, fm, p⟩ => ?_
  refine tE.use fm (Post.bind p) fun m k st1 S1 ι1 H1 v f1 k1 r1 p1 => ?_
  obtain ⟨⟨S2, f2, k2, d⟩, p2⟩ := frzd_ok f1 r1 p1
  have go : ∀ ms ck, src m st1 = some (ms, ck) → (∀ ns, m ≠ .tup ns) → Post X.wd B W S ι H (fun r => ∀ S' ι' H' J, Fm X.wd B S' ι' H' lo σ r.2.2 → Keep S ι H S' ι' H' → WalkM X.wd J r.1 r.2.1 S' ι' H' → r.2.1 lo r.2.2 → R J H') (.ok (enumM ms, ck, st1)) →
      ∃ a xs, [v] = [V.ref a] ∧ SqL X.K H1 a xs ∧ R (Ite X.K a) H1 := fun ms ck e1 nt q => by
    obtain ⟨c, a, rfl, hh⟩ := src_list f2 d e1
    rcases hh with hh | hh
    · obtain ⟨vs, e2, _⟩ := hh _ _ _ _ _ _ _ f2 .refl c
      exact ⟨a, vs, rfl, .of e2, q S2 ι1 H1 _ f2 (k1.trans k2) (walk_enum hh) c⟩
    · exfalso
      obtain ⟨vs, e2, _⟩ := hh _ _ _ _ _ _ _ f2 .refl c
      unfold src at e1
      split at e1
      · cases d with
        | lst hs h hl hi => rw [e2] at h; cases h
      · exact nt _ rfl
      · rename_i n
        split at e1
        · rename_i q1
          cases d with
          | ref h =>
            obtain ⟨o, h1, vs', rfl, _⟩ := (f2.rep.ent n _ _ h q1).sh rfl
            rw [e2] at h1; cases h1
        · cases e1
      · cases e1
  dsimp only at p2
  split at p2
  · exact go _ _ rfl (fun ns z => by cases z) p2
  · rename_i n
    split at p2
    · rename_i ms q1
      refine go ms _ ?_ (fun ns z => by cases z) p2
      unfold src
      simp only [q1]
    · exact p2.elim
  · exact p2.elim
open Classical in
noncomputable def forL (ck : CK) (gf : GF) (body : SF) : List MV → SF
  | [], lo, st => if ck lo st then .ok (.nx, lo, st) else .bad
  | x :: xs, lo, st => if ck lo st then gf x lo st >>= fun (lo1, st1) => body lo1 st1 >>= fun (fl, lo2, st2) => (match fl with
      | .nx => forL ck gf body xs lo2 st2
      | .ct => forL ck gf body xs lo2 st2
      | .bk => .ok (.nx, lo2, st2)
      | .rt m k => .ok (.rt m k, lo2, st2)) else .bad
noncomputable def sFor (fi : IFn) (gf : GF) (body : SF) : SF := fun lo st => fi lo st >>= fun (items, ck, st1) => forL ck gf body items lo st1
theorem ss_for {tg iter : Expr} {body : List Stmt} {fi : IFn} {gf : GF} {g : SF} (hp : PassesOwn (model X.prog X.w) X.A X.env X.xe) (hc : X.calm = true) (hi : SI X B W tg iter fi) (hg : SG X B W vs tg gf) (hb : SSs X B W body g)
    (hs : ∀ x, foldedSetIterable iter X.env x = pure x := by intro _; rfl) : SS X B W (.For tg iter body [] pos) (sFor fi gf g) := by
  refine (ps_for hp hc hi hg hb hs).fw fun D σ H ⟨S, ι, lo, st, fm, p⟩ => ?_
  refine ⟨S, ι, lo, st, fm, (Post.bind p).imp fun ⟨items, ck, st1⟩ q S0 ι0 H0 J f0 k0 wk c0 => ?_⟩
  refine ⟨fun i m σ H => m = items.length - i ∧ i ≤ items.length ∧ ∃ S ι lo st, Fm X.wd B S ι H lo σ st ∧ Keep S0 ι0 H0 S ι H ∧ Post X.wd B W S ι H (PS1 X.wd B S ι H D) (forL ck gf g (items.drop i) lo st),
    ⟨items.length, by simp, Nat.zero_le _, S0, ι0, lo, st1, f0, .refl, by rw [List.drop_zero]; exact q.mono k0 fun r z => z.mono k0⟩, ?_⟩
  rintro i m σ H ⟨rfl, hi, S1, ι1, lo1, st1, f1, k1, p1⟩
  by_cases hlt : i < items.length
  · rw [List.drop_eq_getElem_cons hlt] at p1
    unfold forL at p1
    split at p1
    · rename_i hck
      obtain ⟨go, yl⟩ := (wk B i S1 ι1 H lo1 σ st1 f1 k1 hck).1 items[i] (by simp [hlt])
      refine .inr ⟨go, _, fun σ' H' n => n, fun x H' y => ?_⟩
      obtain ⟨S2, f2, k2, d2⟩ := yl x H' y
      refine ⟨S2, ι1, lo1, st1, items[i], f2, d2, ((Post.bind p1).mono k2 fun ⟨lo3, st3⟩ q3 S3 ι3 σ3 H3 f3 k3 _ _ => ?_)⟩
      refine ⟨S3, ι3, lo3, st3, f3, (Post.bind q3).mono (k2.trans k3) fun ⟨fl, lo4, st4⟩ q4 => ?_⟩
      have k13 := k2.trans k3
      cases fl with
      | nx => exact fun S5 ι5 σ5 H5 f5 k5 => ⟨_, by omega, rfl, hlt, S5, ι5, lo4, st4, f5, k1.trans (k13.trans k5), q4.mono (k13.trans k5) fun r z => z.mono (k13.trans k5)⟩
      | ct => exact fun S5 ι5 σ5 H5 f5 k5 => ⟨_, by omega, rfl, hlt, S5, ι5, lo4, st4, f5, k1.trans (k13.trans k5), q4.mono (k13.trans k5) fun r z => z.mono (k13.trans k5)⟩
      | bk => exact fun S5 ι5 σ5 H5 f5 k5 => q4 S5 ι5 σ5 H5 f5 (k13.trans k5)
      | rt m k => exact fun S5 ι5 σ5 H5 v f5 k5 => q4 S5 ι5 σ5 H5 v f5 (k13.trans k5)
    · exact p1.elim
  · have e : i = items.length := by omega
    subst e
    rw [List.drop_length] at p1
    unfold forL at p1
    split at p1
    · rename_i hck
      exact .inl ⟨(wk B _ S1 ι1 H lo1 σ st1 f1 k1 hck).2 (Nat.le_refl _), p1 S1 ι1 σ H f1 .refl⟩
    · exact p1.elim
end
end FW
namespace FW
open PySem L2 PySem.Spec PyProof.Rows
def Base.put (B : Base) (D : Addr) (o : HO) : Base := { B with G := fun a => if a = D then some o else B.G a }
section
variable {mg : Wd} {B : Base} {W : WX} {S S' S2 : Addr → Prop} {ι ι' ι2 : List Addr} {H H' H2 : Hp} {lo lo' : Lo} {σ σ' : L2.St} {st st' : Sto} {v : V} {m : MV} {D : Addr} {o : HO}
theorem put_new {a : Addr} (h : (B.put D o).New a) : B.New a ∧ a ≠ D := by
  obtain ⟨h1, h2⟩ := h
  have h2' : (if a = D then some o else B.G a) = none := h2
  by_cases e : a = D
  · rw [if_pos e] at h2'; cases h2'
  · rw [if_neg e] at h2'; exact ⟨⟨h1, h2'⟩, e⟩
theorem Fm.guard (f : Fm mg B S ι H lo σ st) (e : H D = some o) (h1 : ¬ S D) (h2 : D ∉ ι) (h3 : B.New D) (h4 : ∀ (i : Nat) m', lo[i]? = some (some (m', true)) → σ[i]? ≠ some (some (.ref D))) : Fm mg (B.put D o) S ι H lo σ st := by
  refine ⟨f.ext, f.rep, ⟨f.loc.len, f.loc.val, fun i m h => ?_, f.loc.dis, f.loc.pin⟩, fun a u h => ?_⟩
  · obtain ⟨a, q, n1, n2, n3, d⟩ := f.loc.own i m h
    refine ⟨a, q, n1, n2, ⟨n3.1, ?_⟩, d⟩
    show (if a = D then some o else B.G a) = none
    rw [if_neg (fun z => h4 i m h (by rw [← z]; exact q))]
    exact n3.2
  · have h' : (if a = D then some o else B.G a) = some u := h
    by_cases z : a = D
    · rw [if_pos z] at h'; cases h'; subst z; exact ⟨e, h2, h1⟩
    · rw [if_neg z] at h'; exact f.g a u h'
theorem Fm.unguard (f : Fm mg (B.put D o) S ι H lo σ st) (h3 : B.New D) : Fm mg B S ι H lo σ st ∧ H D = some o ∧ ¬ S D ∧ D ∉ ι ∧ ∀ (i : Nat) m', lo[i]? = some (some (m', true)) → σ[i]? ≠ some (some (.ref D)) := by
  obtain ⟨q1, q2, q3⟩ := f.g D o (if_pos rfl)
  refine ⟨⟨f.ext, f.rep, ⟨f.loc.len, f.loc.val, fun i m h => ?_, f.loc.dis, f.loc.pin⟩, fun a u h => ?_⟩, q1, q3, q2, fun i m' h hs => ?_⟩
  · obtain ⟨a, q, n1, n2, n3, d⟩ := f.loc.own i m h
    exact ⟨a, q, n1, n2, (put_new n3).1, d⟩
  · refine f.g a u ?_
    show (if a = D then some o else B.G a) = some u
    rw [if_neg (fun z => by subst z; rw [h3.2] at h; cases h)]
    exact h
  · obtain ⟨a, q, n1, n2, n3, d⟩ := f.loc.own i m' h
    rw [q] at hs
    have e : a = D := by simpa using hs
    exact (put_new n3).2 e
theorem Fm.updFree (f : Fm mg B S ι H lo σ st) (h1 : ¬ S D) (h2 : D ∉ ι) (h3 : B.New D) (h4 : ∀ (i : Nat) m', lo[i]? = some (some (m', true)) → σ[i]? ≠ some (some (.ref D))) (hz : ∀ ob u, H D ≠ some (.frz ob u)) : Fm mg B S ι (upd H D o) lo σ st := by
  have k : Keep S ι H S ι (upd H D o) := Keep.upd h1 hz
  refine ⟨⟨f.ext.s, fun b u q n => ?_, fun b hb => f.ext.b b hb, f.ext.i, f.ext.n, fun b ob u q => k.z b ob u (f.ext.z b ob u q)⟩, ⟨f.rep.len, f.rep.nd, f.rep.sep, fun b hb => ?_, fun n b q q1 q2 => ?_⟩, ⟨f.loc.len, fun i m h => ?_, fun i m h => ?_, f.loc.dis, f.loc.pin⟩, fun a u h => ?_⟩
  · rw [upd_ne (fun z => by subst z; rw [h3.1] at q; cases q)]; exact f.ext.k b u q n
  · rw [upd_ne (fun (z : b = D) => h1 (by rw [← z]; exact hb))]; exact f.rep.som b hb
  · exact (f.rep.ent n b q q1 q2).mono k (upd_ne (fun (z : b = D) => h2 (by rw [← z]; exact List.mem_of_getElem? q1)))
  · obtain ⟨w, q, d⟩ := f.loc.val i m h
    exact ⟨w, q, d.mono k⟩
  · obtain ⟨a, q, n1, n2, n3, d⟩ := f.loc.own i m h
    exact ⟨a, q, n1, n2, n3, d.mono k (upd_ne fun z => h4 i m h (by rw [← z]; exact q))⟩
  · obtain ⟨q1, q2, q3⟩ := f.g a u h
    exact ⟨(upd_ne fun (z : a = D) => by subst z; rw [h3.2] at h; cases h).trans q1, q2, q3⟩
def wipeM (lo : Lo) : List Nat → Lo
  | [] => lo
  | v :: vs => (wipeM lo vs).set v none
def clrOk (lo : Lo) (vs : List Nat) : Bool := vs.all fun v => match lo[v]? with
  | some (some (_, true)) => false
  | _ => true
theorem wipeM_len (lo : Lo) : ∀ vs : List Nat, (wipeM lo vs).length = lo.length
  | [] => rfl
  | v :: vs => by unfold wipeM; rw [List.length_set, wipeM_len lo vs]
theorem wipeM_out (lo : Lo) : ∀ {vs : List Nat} {j : Nat}, j ∉ vs → (wipeM lo vs)[j]? = lo[j]?
  | [], _, _ => rfl
  | v :: vs, j, h => by
    unfold wipeM
    rw [List.getElem?_set_ne (fun e => h (by rw [e]; exact List.mem_cons_self)), wipeM_out lo (fun e => h (List.mem_cons_of_mem _ e))]
theorem wipeM_in (lo : Lo) : ∀ {vs : List Nat} {j : Nat} {z : MV × Bool}, j ∈ vs → (wipeM lo vs)[j]? ≠ some (some z)
  | v :: vs, j, z, h => by
    unfold wipeM
    by_cases e : v = j
    · subst e
      by_cases hl : v < (wipeM lo vs).length
      · rw [List.getElem?_set_self hl]; intro q; cases q
      · rw [List.getElem?_eq_none (by rw [List.length_set]; omega)]; intro q; cases q
    · rw [List.getElem?_set_ne e]
      exact wipeM_in lo ((List.mem_cons.mp h).resolve_left fun q => e q.symm)
theorem wipe_out (σ : L2.St) : ∀ {vs : List Nat} {j : Nat}, j ∉ vs → (L2.wipe σ vs)[j]? = σ[j]?
  | [], _, _ => rfl
  | v :: vs, j, h => by
    show ((L2.wipe σ vs).set v none)[j]? = σ[j]?
    rw [List.getElem?_set_ne (fun e => h (by rw [e]; exact List.mem_cons_self)), wipe_out σ (fun e => h (List.mem_cons_of_mem _ e))]
theorem wipe_wipe (σ : L2.St) (vs : List Nat) : L2.wipe (L2.wipe σ vs) vs = L2.wipe σ vs := by
  have : SameBut vs σ (L2.wipe σ vs) := ⟨wipe_length σ vs, fun j h => wipe_out σ h⟩
  exact this.wipe
theorem Fm.wipe {vs : List Nat} (f : Fm mg B S ι H lo σ st) : Fm mg B S ι H (wipeM lo vs) (L2.wipe σ vs) st := by
  have ne : ∀ {i : Nat} {z : MV × Bool}, (wipeM lo vs)[i]? = some (some z) → i ∉ vs := fun {i z} h hm => wipeM_in lo hm h
  refine ⟨f.ext, f.rep, ⟨by rw [wipeM_len, wipe_length]; exact f.loc.len, fun i m h => ?_, fun i m h => ?_, fun i j m m' a hij h1 h2 h3 => ?_, fun i c fs h => ?_⟩, f.g⟩
  · have n := ne h
    rw [wipeM_out lo n] at h
    rw [wipe_out σ n]
    exact f.loc.val i m h
  · have n := ne h
    rw [wipeM_out lo n] at h
    rw [wipe_out σ n]
    exact f.loc.own i m h
  · have n1 := ne h1
    have n2 := ne h2
    rw [wipeM_out lo n1] at h1
    rw [wipeM_out lo n2] at h2
    rw [wipe_out σ n1] at h3
    rw [wipe_out σ n2]
    exact f.loc.dis i j m m' a hij h1 h2 h3
  · have n := ne h
    rw [wipeM_out lo n] at h
    rw [wipe_out σ n]
    exact f.loc.pin i c fs h
theorem Fm.unwipe {vs : List Nat} (f0 : Fm mg B S ι H lo σ st) (f : Fm mg B S' ι' H' (wipeM lo vs) (L2.wipe σ vs) st') (k : Keep S ι H S' ι' H') (c : clrOk lo vs = true) : Fm mg B S' ι' H' lo σ st' := by
  have ne : ∀ {i : Nat} {m : MV}, lo[i]? = some (some (m, true)) → i ∉ vs := fun {i m} h hm => by
    have q := List.all_eq_true.mp c i hm
    rw [h] at q
    cases q
  refine ⟨f.ext, f.rep, ⟨f0.loc.len, fun i m h => ?_, fun i m h => ?_, f0.loc.dis, f0.loc.pin⟩, f.g⟩
  · obtain ⟨v, e, d⟩ := f0.loc.val i m h
    exact ⟨v, e, d.mono k⟩
  · have n := ne h
    have q := f.loc.own i m (by rw [wipeM_out lo n]; exact h)
    rw [wipe_out σ n] at q
    exact q
end
def noExc {α : Type} : Res α → Res α
  | .ok a => .ok a
  | _ => .bad
theorem Post.noExc {mg : Wd} {B B' : Base} {W W' : WX} {S S' : Addr → Prop} {ι ι' : List Addr} {H H' : Hp} {α : Type} {P : α → Prop} {r : Res α} (p : Post mg B W S ι H P (noExc r)) : Post mg B' W' S' ι' H' P r := by
  cases r with
  | ok a => exact p
  | exc c fs lo st => exact p.elim
  | bad => exact p.elim
open Classical in
noncomputable def lcL (ck : CK) (gf : GF) (tt : TF) (fe : EF) (lo0 : Lo) : List MV → List MV → Sto → Res (List MV × Sto)
  | [], acc, st => if ck lo0 st then .ok (acc, st) else .bad
  | x :: xs, acc, st => if ck lo0 st then noExc (gf x lo0 st) >>= fun (lo1, st1) => noExc (tt lo1 st1) >>= fun (b, st2) =>
      if b = true then noExc (fe lo1 st2) >>= fun r => frzd r >>= fun (y, st3) => (if acc.length < sizeLine then lcL ck gf tt fe lo0 xs (acc ++ [y]) st3 else .bad)
      else lcL ck gf tt fe lo0 xs acc st2 else .bad
noncomputable def mLc (vs : List Nat) (fi : IFn) (gf : GF) (tt : TF) (fe : EF) : EF := fun lo st => if clrOk lo vs = true then fi lo st >>= fun (items, ck, st1) => lcL ck gf tt fe (wipeM lo vs) items [] st1 >>= fun (acc, st2) => .ok (.lst acc, .fr, st2) else .bad
def tYesM : TF := fun _ st => .ok (true, st)
section
variable {X : Cx} {B : Base} {W : WX} {pos : Pos}
abbrev W0 : WX := fun _ _ _ _ => False
abbrev SPTs (X : Cx) (B : Base) (W : WX) (ifs : List Expr) (f : TF) : Prop := PTs X ifs (tT X.wd B W f)
theorem _root_.L2.PTs.fw {X : Cx} {e : List Expr} {t t' : TT} (h : PTs X e t) (i : ∀ σ H Q, t' σ H Q → t σ H Q) : PTs X e t' := ⟨fun pins s σ H Q I q => h.run pins s σ H Q I (i σ H Q q)⟩
theorem spts_nil : SPTs X B W [] tYesM := pts_nil.fw fun σ H Q ⟨S, ι, lo, st, f, p⟩ => p S ι H f .refl
theorem spts_one {c : Expr} {f : TF} (h : STe X B W c f) : SPTs X B W [c] f := pts_one h
def Any (P : Base → Prop) : Prop := ∀ B, P B
theorem tLc_of {vs : List Nat} {fi : IFn} {gf : GF} {tt : TF} {fe : EF} {mg : Wd} {TGt : TG} {TTt : TT} {TEt : TE} {σ : L2.St} {H : Hp} {Q : VK}
    (hG : ∀ B v σ H Q, tG mg B W0 vs gf v σ H Q → TGt v σ H Q) (hT : ∀ B σ H Q, tT mg B W0 tt σ H Q → TTt σ H Q) (hE : ∀ B σ H Q, tE mg B W0 fe σ H Q → TEt σ H Q)
    (h : tE mg B W (mLc vs fi gf tt fe) σ H Q) : tLc (tI mg B W fi) TGt TTt TEt vs σ H Q := by
  obtain ⟨S, ι, lo, st, fm, p⟩ := h
  unfold mLc at p
  split at p
  case isFalse => exact p.elim
  rename_i hclr
  refine ⟨S, ι, lo, st, fm, (Post.bind p).imp fun ⟨items, ck, st1⟩ q S0 ι0 H0 J f0 k0 wk c0 => ?_⟩
  intro D hD
  obtain ⟨d1, d2, d3, d4⟩ := f0.free hD
  have q := Post.bind q
  refine ⟨fun i n H1 => n = items.length - i ∧ i ≤ items.length ∧ ∃ S1 ι1 st1 acc accM, Fm mg B S1 ι1 H1 (wipeM lo vs) (L2.wipe σ vs) st1 ∧ Keep S0 ι0 H0 S1 ι1 H1 ∧ ¬ S1 D ∧ D ∉ ι1 ∧ H1 D = some (.lst acc) ∧ AllD mg S1 ι1 H1 acc accM ∧
      Post mg B W S ι H (fun a => Post mg B W S ι H (fun r => ∀ S' ι' H' v, Fm mg B S' ι' H' lo σ r.2.2 → Keep S ι H S' ι' H' → RV mg B S' ι' H' lo σ v r.1 r.2.1 → Q v H') (.ok (.lst a.1, .fr, a.2))) (lcL ck gf tt fe (wipeM lo vs) (items.drop i) accM st1),
    ⟨items.length, by simp, Nat.zero_le _, S0, ι0, st1, [], [], (f0.new (o := .lst []) hD).wipe, (Ext.new hD).keep f0.rep, d1, d2, upd_same, AllD.nil, by rw [List.drop_zero]; exact q⟩, ?_⟩
  rintro i n H1 ⟨rfl, hi, S1, ι1, s1, acc, accM, f1, k1, n1, n2, e1, da, p1⟩
  have own1 : ∀ (j : Nat) m', (wipeM lo vs)[j]? = some (some (m', true)) → (L2.wipe σ vs)[j]? ≠ some (some (.ref D)) := fun j m' h z => by
    have nj : j ∉ vs := fun hm => wipeM_in lo hm h
    rw [wipeM_out lo nj] at h
    rw [wipe_out σ nj] at z
    exact d4 j m' h z
  by_cases hlt : i < items.length
  · rw [List.drop_eq_getElem_cons hlt] at p1
    unfold lcL at p1
    split at p1
    case isFalse => exact p1.elim
    rename_i hck
    have f1g := f1.guard e1 n1 n2 d3 own1
    obtain ⟨go, yl⟩ := (wk (B.put D (.lst acc)) i S1 ι1 H1 _ _ s1 f1g k1 hck).1 items[i] (by simp [hlt])
    refine .inr ⟨go, _, fun H' z => z, fun x H' y => ?_⟩
    obtain ⟨S2, f2, k2, dx⟩ := yl x H' y
    refine hG (B.put D (.lst acc)) _ _ _ _ ⟨S2, ι1, _, s1, items[i], f2, dx, (Post.noExc (Post.bind p1)).imp fun ⟨lo3, s3⟩ p3 S3 ι3 σ3 H3 f3 k3 sb lb => ?_⟩
    refine ⟨sb.wipe.trans (wipe_wipe σ vs), ?_⟩
    refine hT (B.put D (.lst acc)) _ _ _ ⟨S3, ι3, lo3, s3, f3, (Post.noExc (Post.bind p3)).imp fun ⟨b, s4⟩ p4 S4 ι4 H4 f4 k4 => ?_⟩
    have k14 := k1.trans (k2.trans (k3.trans k4))
    have back : ∀ {S5 : Addr → Prop} {ι5 : List Addr} {H5 : Hp} {s5 : Sto}, Fm mg (B.put D (.lst acc)) S5 ι5 H5 lo3 σ3 s5 → Keep S0 ι0 H0 S5 ι5 H5 → Fm mg B S5 ι5 H5 (wipeM lo vs) (L2.wipe σ vs) s5 ∧ H5 D = some (.lst acc) ∧ ¬ S5 D ∧ D ∉ ι5 := by
      intro S5 ι5 H5 s5 f5 k5
      obtain ⟨f6, e6, n6, i6, _⟩ := f5.unguard d3
      refine ⟨⟨f6.ext, f6.rep, ⟨f1.loc.len, fun j m h => ?_, fun j m h => ?_, f1.loc.dis, f1.loc.pin⟩, f6.g⟩, e6, n6, i6⟩
      · obtain ⟨w, ew, dw⟩ := (f0.wipe (vs := vs)).loc.val j m h
        exact ⟨w, ew, dw.mono k5⟩
      · have nj : j ∉ vs := fun hm => wipeM_in lo hm h
        have q := f6.loc.own j m (by rw [lb j nj]; exact h)
        rw [sb.2 j nj] at q
        exact q
    cases b with
    | true =>
      refine iteT ?_
      dsimp only at p4
      rw [if_pos rfl] at p4
      refine hE (B.put D (.lst acc)) _ _ _ ⟨S4, ι4, lo3, s4, f4, (Post.noExc (Post.bind p4)).imp fun ⟨m, kd, s5⟩ p5 S5 ι5 H5 v f5 k5 r5 => ?_⟩
      obtain ⟨⟨S6, f6, k6, d6⟩, p6⟩ := frzd_ok f5 r5 p5
      dsimp only at p6
      split at p6
      case isFalse => exact p6.elim
      rename_i hsz
      have k06 := k14.trans (k5.trans k6)
      obtain ⟨g1, g2, g3, g4⟩ := back f6 k06
      have hz : ∀ ob u, H5 D ≠ some (.frz ob u) := fun ob u q => by rw [g2] at q; cases q
      have hk := Keep.upd (ι := ι5) (o := .lst (acc ++ [v])) g3 (H := H5) hz
      refine ⟨acc, g2, by rw [da.1]; exact hsz, _, by omega, rfl, hlt, S6, ι5, s5, acc ++ [v], accM ++ [m], g1.updFree g3 g4 d3 own1 hz, k06.trans hk, g3, g4, upd_same, ?_, p6⟩
      exact (((da.mono (k2.trans (k3.trans k4))).mono (k5.trans k6)).append (AllD.cons d6 .nil)).mono hk
    | false =>
      refine iteF ?_
      dsimp only at p4
      rw [if_neg Bool.false_ne_true] at p4
      obtain ⟨g1, g2, g3, g4⟩ := back f4 k14
      exact ⟨_, by omega, rfl, hlt, S4, ι4, s4, acc, accM, g1, k14, g3, g4, g2, da.mono (k2.trans (k3.trans k4)), p4⟩
  · have e : i = items.length := by omega
    subst e
    rw [List.drop_length] at p1
    unfold lcL at p1
    split at p1
    case isFalse => exact p1.elim
    rename_i hck
    refine .inl ⟨(wk B _ S1 ι1 H1 _ _ s1 f1 k1 hck).2 (Nat.le_refl _), ?_⟩
    have fr := Fm.unwipe (st := st1) f0 f1 k1 hclr
    exact p1 S1 ι1 H1 (.ref D) fr (k0.trans k1) ⟨D, rfl, n1, n2, d3, ⟨_, e1, acc, rfl, da⟩, d4⟩
theorem PG.ex {X : Cx} {e : Expr} {t : Base → TG} (h : ∀ B, PG X e (t B)) : PG X e (fun v σ H Q => ∃ B, t B v σ H Q) := ⟨fun pins s σ H v u Q I r ⟨B, q⟩ => (h B).run pins s σ H v u Q I r q⟩
theorem PTs.ex {X : Cx} {e : List Expr} {t : Base → TT} (h : ∀ B, PTs X e (t B)) : PTs X e (fun σ H Q => ∃ B, t B σ H Q) := ⟨fun pins s σ H Q I ⟨B, q⟩ => (h B).run pins s σ H Q I q⟩
theorem PE.ex {X : Cx} {e : Expr} {t : Base → TE} (h : ∀ B, PE X e (t B)) : PE X e (fun σ H Q => ∃ B, t B σ H Q) := ⟨fun pins s σ H Q I ⟨B, q⟩ => (h B).run pins s σ H Q I q⟩
section
variable {elt tg iter : Expr} {ifs : List Expr} {scope : Scope} {own : List (Str × Nat)} {fi : IFn} {gf : GF} {tt : TF} {fe : EF}
theorem se_lc (hc : X.calm = true) (hN : X.N.Nodup) (hi : SI X B W tg iter fi) (ok : BlkOk X.N X.env.scope scope own)
    (hg : ∀ (s : Shared) (H : Hp) (C : Addr) (cl : List (Str × Addr)) (fp : List Addr) (B' : Base), SG (X.blk s H scope (compEnvC scope cl C X.env) fp) B' W0 (own.map (·.2)) tg gf)
    (ht : ∀ (s : Shared) (H : Hp) (C : Addr) (cl : List (Str × Addr)) (fp : List Addr) (B' : Base), SPTs (X.blk s H scope (compEnvC scope cl C X.env) fp) B' W0 ifs tt)
    (he : ∀ (s : Shared) (H : Hp) (C : Addr) (cl : List (Str × Addr)) (fp : List Addr) (B' : Base), SE (X.blk s H scope (compEnvC scope cl C X.env) fp) B' W0 elt fe)
    (hs : ∀ x, foldedSetIterable iter X.env x = pure x := by intro _; rfl) : SE X B W (.ListComp elt [⟨tg, iter, ifs, 0⟩] scope pos) (mLc (own.map (·.2)) fi gf tt fe) := by
  refine (pe_lc hc hN hi ok (fun s H C cl fp => PG.ex (t := fun B' => tG X.wd B' W0 (own.map (·.2)) gf) fun B' => hg s H C cl fp B') (fun s H C cl fp => PTs.ex (t := fun B' => tT X.wd B' W0 tt) fun B' => ht s H C cl fp B') (fun s H C cl fp => PE.ex (t := fun B' => tE X.wd B' W0 fe) fun B' => he s H C cl fp B') hs).fw fun σ H Q h => ?_
  exact tLc_of (fun B' v σ H Q z => ⟨B', z⟩) (fun B' σ H Q z => ⟨B', z⟩) (fun B' σ H Q z => ⟨B', z⟩) h
end
end
end FW
namespace FW
open PySem L2 PySem.Spec PyProof.Rows
def ownAt : Option (Option (MV × Bool)) → Option MV
  | some (some (c, true)) => some c
  | _ => none
def refAt (st : Sto) : MV → Option MV
  | .ref n => st[n]?
  | _ => none
def putRef (st : Sto) (c : MV) : MV → Sto
  | .ref n => st.set n c
  | _ => st
def targetOf (m : MV) (k : Kd) (lo : Lo) (st : Sto) : Option MV := match k with
  | .pk i => ownAt lo[i]?
  | .fz => refAt st m
  | .fr => none
def putBack (m : MV) (k : Kd) (c : MV) (lo : Lo) (st : Sto) : Lo × Sto := match k with
  | .pk i => (lo.set i (some (c, true)), st)
  | .fz => (lo, putRef st c m)
  | .fr => (lo, st)
section
variable {mg : Wd} {B : Base} {W : WX} {S S' S2 : Addr → Prop} {ι ι' ι2 : List Addr} {H H' H2 : Hp} {lo lo' : Lo} {σ σ' : L2.St} {st st' : Sto} {v : V} {m c c' : MV} {k : Kd}
def Tgt (S : Addr → Prop) (ι : List Addr) (lo : Lo) (σ : L2.St) (v : V) (m : MV) : Kd → Prop
  | .pk i => ∃ a c, v = .ref a ∧ lo[i]? = some (some (c, true)) ∧ σ[i]? = some (some (.ref a))
  | .fz => ∃ n a, m = .ref n ∧ v = .ref a ∧ ι[n]? = some a
  | .fr => False
theorem RV.tgt (f : Fm mg B S ι H lo σ st) (r : RV mg B S ι H lo σ v m k) (e : targetOf m k lo st = some c) : Tgt S ι lo σ v m k := by
  cases k with
  | pk i =>
    obtain ⟨a, rfl, h1, h2, _⟩ := r
    exact ⟨a, m, rfl, h1, h2⟩
  | fz =>
    cases m with
    | ref n =>
      cases r with
      | ref h => exact ⟨n, _, rfl, rfl, h⟩
    | _ => cases e
  | fr => cases m <;> cases e
theorem Tgt.mono (k0 : Keep S ι H S' ι' H') (t : Tgt S ι lo σ v m k) : Tgt S' ι' lo σ v m k := by
  cases k with
  | pk i => exact t
  | fz => obtain ⟨n, a, e1, e2, e3⟩ := t; exact ⟨n, a, e1, e2, getp k0.i e3⟩
  | fr => exact t
theorem Tgt.sh (f : Fm mg B S ι H lo σ st) (t : Tgt S ι lo σ v m k) (e : targetOf m k lo st = some c) (hu : unmk c = true := by rfl) : ∃ a, v = .ref a ∧ Sh mg S ι H a c := by
  cases k with
  | pk i =>
    obtain ⟨a, c', rfl, h1, h2⟩ := t
    have e' : ownAt lo[i]? = some c := e
    rw [h1] at e'
    cases e'
    obtain ⟨b, q, _, _, _, d⟩ := f.loc.own i _ h1
    rw [h2] at q; cases q
    exact ⟨a, rfl, d⟩
  | fz =>
    obtain ⟨n, a, rfl, rfl, h⟩ := t
    exact ⟨a, rfl, (f.rep.ent n a c h e).sh hu⟩
  | fr => exact t.elim
theorem Tgt.put {a : Addr} {o : HO} (f : Fm mg B S ι H lo σ st) (t : Tgt S ι lo σ (.ref a) m k) (d : Ob mg S ι H o c') (hins : ∀ q fs, c' = .ins q fs → ∃ q' fs', targetOf m k lo st = some (.ins q' fs')) (hz : ∀ ob u, H a ≠ some (.frz ob u)) : Fm mg B S ι (upd H a o) (putBack m k c' lo st).1 σ (putBack m k c' lo st).2 ∧ Keep S ι H S ι (upd H a o) := by
  cases k with
  | pk i =>
    obtain ⟨b, c', q, h1, h2⟩ := t
    cases q
    obtain ⟨b, q, n1, _, _, _⟩ := f.loc.own i _ h1
    rw [h2] at q; cases q
    refine ⟨f.mutOwn h1 h2 d fun q fs e => ?_, Keep.upd n1 hz⟩
    obtain ⟨q', fs', e'⟩ := hins q fs e
    have e2 : ownAt lo[i]? = some (.ins q' fs') := e'
    rw [h1] at e2
    exact ⟨q', fs', by cases e2; rfl⟩
  | fz =>
    obtain ⟨n, b, rfl, q, h⟩ := t
    cases q
    exact ⟨f.mutSto h d hz, Keep.upd (f.rep.sep _ (List.mem_of_getElem? h)) hz⟩
  | fr => exact t.elim
end
section
variable {X : Cx} {B : Base} {W : WX} {pos : Pos} {o e i : Expr} {fo fe fi : EF}
theorem tgt_of {mg : Wd} {S : Addr → Prop} {ι : List Addr} {H : Hp} {lo : Lo} {σ : L2.St} {st2 : Sto} {ov : V} {t c : MV} {kt : Kd} (r3 : RV mg B S ι H lo σ ov t kt) (et : targetOf t kt lo st2 = some c) : Tgt S ι lo σ ov t kt := by
  cases kt with
  | pk q => obtain ⟨a, rfl, q1, q2, _⟩ := r3; exact ⟨a, t, rfl, q1, q2⟩
  | fz =>
    cases t with
    | ref n => cases r3 with
      | ref h => exact ⟨n, _, rfl, rfl, h⟩
    | _ => cases et
  | fr => cases t <;> cases et
def sPutIx (fe fo fi : EF) : SF := fun lo st => fe lo st >>= fun r => frzd r >>= fun (m, st1) => fo lo st1 >>= fun (t, k, st2) => fi lo st2 >>= fun (j, _, st3) =>
  match targetOf t k lo st3, j with
  | some (.lst xs), .int j => (match ixN xs.length j with
    | some n => .ok (.nx, (putBack t k (.lst (xs.set n m)) lo st3).1, (putBack t k (.lst (xs.set n m)) lo st3).2)
    | none => .bad)
  | _, _ => .bad
theorem ss_putIx {p' : Pos} (he : SE X B W e fe) (ho : SE X B W o fo) (hi : SE X B W i fi)
    (ha : ∀ v, assign (.Subscript o i p') X.env v = (do
      let ov ← holding [v] (eval o X.env)
      let iv ← holding [v, ov] (eval i X.env)
      standAt p'
      holding [v, ov, iv] (setItem ov iv v)
      release [v, ov, iv] []) := by intro _; rfl)
    (hs : swapsWithSole [.Subscript o i p'] e pos.line X.env = pure false := by rfl) (hw : swappedStores [.Subscript o i p'] e X.env = pure none := by rfl)
    (h1 : (assignEach [.Subscript o i p'] X.env).map (·.2) = [assign (.Subscript o i p') X.env] := by rfl) : SS X B W (.Assign [.Subscript o i p'] e pos) (sPutIx fe fo fi) := by
  refine (ps_asg he (pg_sub ho hi set_list ha) hs hw h1).fw fun D σ H ⟨S, ι, lo, st, fm, p⟩ => ?_
  refine tE.use fm (Post.bind p) fun m k st1 S1 ι1 H1 v f1 k1 r1 p1 => ?_
  obtain ⟨⟨S2, f2, k2, d⟩, p2⟩ := frzd_ok f1 r1 p1
  have k02 := k1.trans k2
  refine tE.use f2 (Post.bind (p2.mono k02 fun _ z => z)) fun t kt st3 S3 ι3 H3 ov f3 k3 r3 p3 => ?_
  have tg : ∀ c, targetOf t kt lo st3 = some c → Tgt S3 ι3 lo σ ov t kt := fun c e => RV.tgt f3 r3 e
  obtain ⟨S3', f3', k3', h3⟩ := r3.hand f3
  refine tE.use f3' (Post.bind (p3.mono (k3.trans k3') fun _ z => z)) fun j kj st4 S4 ι4 H4 iv f4 k4 r4 p4 => ?_
  dsimp only at p4
  split at p4
  · rename_i xs jj et
    split at p4
    · rename_i n hn
      have T0 : Tgt S3 ι3 lo σ ov t kt := tgt_of r3 et
      have T4 := (T0.mono k3').mono (H := H3) k4
      obtain ⟨a, rfl, oo, e1, vs, rfl, dv⟩ := T4.sh f4 et
      have d4 := ((d.mono k3).mono k3').mono k4
      obtain ⟨f5, k5⟩ := Tgt.put (c' := .lst (xs.set n m)) f4 T4 ⟨vs.set n v, rfl, dv.set d4 n⟩ (fun _ _ z => by cases z) (fun ob u q => by rw [e1] at q; cases q)
      refine ⟨a, vs, jj, n, rfl, rv_int f4 r4, e1, by rw [dv.1]; exact hn, p4 S4 ι4 σ _ f5 ?_⟩
      exact k02.trans (k3.trans (k3'.trans (k4.trans k5)))
    · exact p4.elim
  · exact p4.elim
def isLst : Option MV → Bool
  | some (.lst _) => true
  | _ => false
def sApp (fo fe : EF) : SF := fun lo st => fo lo st >>= fun (t, k, st1) => if isLst (targetOf t k lo st1) = true then fe lo st1 >>= fun r => frzd r >>= fun (m, st2) => (match targetOf t k lo st2 with
  | some (.lst xs) => if xs.length < sizeLine then .ok (.nx, (putBack t k (.lst (xs ++ [m])) lo st2).1, (putBack t k (.lst (xs ++ [m])) lo st2).2) else .bad
  | _ => .bad) else .bad
theorem ss_app {apos cpos : Pos} (ho : SE X B W o fo) (he : SE X B W e fe)
    (hbase : attributeBase o "append" X.env (eval o X.env) = eval o X.env := by rfl)
    (hfew : ((backTo cpos (starEach [e] X.env)).all (fun x => !x.1) && (backToKw cpos (keywordEach [] X.env)).all (fun x => x.1.isSome)
      && decide (([e] : List Expr).length + ([] : List Keyword).length + (if ([] : List Keyword).isEmpty then 0 else 1) < 30)) = true := by rfl)
    (hline : (apos.endLine == cpos.line) = true := by rfl) (hst : starEach [e] X.env = (false, eval e X.env) :: starEach [] X.env := by rfl) (hplain : (backTo cpos (starEach [] X.env)).any (·.1) = false := by rfl)
    (hs : swapsWith (.Call (.Attribute o "append" apos) [e] [] cpos) none pos.line X.env = pure false := by rfl) :
    SS X B W (.Expr (.Call (.Attribute o "append" apos) [e] [] cpos) pos) (sApp fo fe) := by
  refine (ps_expr (pe_bm PySem.F.plainAttrs_list PySem.F.slot_list_append PySem.F.type_list_append (r := rAppend) (fun pins s σ H x xs v us Q => mt_append pins s σ H x xs v us Q) ho (pa_cons he pa_nil hst) hbase hfew hline hst hplain) hs).fw fun D σ H ⟨S, ι, lo, st, fm, p⟩ => ?_
  refine tE.use fm (Post.bind p) fun t kt st1 S1 ι1 H1 ov f1 k1 r1 p1 => ?_
  dsimp only at p1
  split at p1
  case isFalse => exact p1.elim
  rename_i hl
  obtain ⟨xs0, et0⟩ : ∃ xs, targetOf t kt lo st1 = some (.lst xs) := by
    cases q : targetOf t kt lo st1 with
    | none => rw [q] at hl; cases hl
    | some c => cases c with
      | lst xs => exact ⟨xs, rfl⟩
      | _ => rw [q] at hl; cases hl
  have T0 := tgt_of r1 et0
  obtain ⟨a, rfl, oo, e1, vs, rfl, dv⟩ := T0.sh f1 et0
  refine ⟨.inl ⟨rfl, vs, .of e1⟩, ?_⟩
  refine tE.use f1 (Post.bind (p1.mono k1 fun _ z => z)) fun m k st2 S2 ι2 H2 v f2 k2 r2 p2 => ?_
  obtain ⟨⟨S3, f3, k3, d⟩, p3⟩ := frzd_ok f2 r2 p2
  dsimp only at p3
  split at p3
  · rename_i xs et
    split at p3
    · rename_i hz
      have T3 := (T0.mono k2).mono (H := H2) k3
      obtain ⟨b, q, oo, e3, ws, rfl, dw⟩ := T3.sh f3 et
      cases q
      obtain ⟨f5, k5⟩ := Tgt.put (c' := .lst (xs ++ [m])) f3 T3 ⟨ws ++ [v], rfl, dw.append (AllD.cons d .nil)⟩ (fun _ _ z => by cases z) (fun ob u q => by rw [e3] at q; cases q)
      exact ⟨a, ws, v, rfl, rfl, e3, by rw [dw.1]; exact hz, p3 S3 ι2 σ _ f5 (k1.trans (k2.trans (k3.trans k5)))⟩
    · exact p3.elim
  · exact p3.elim
end
end FW
namespace FW
open PySem L2 PySem.Spec PyProof.Rows
section
open PySem.W PySem.Calls
variable {prog : Program} {w : World}
structure IniDef (K : PySem.W.Frag) (fv : Str) (C fI : Addr) (fd : FuncData) : Prop where
  ex : ∃ (oc ccl cl : Value) (od cdd cld : Option Addr) (osl ccs csl : Array (Option Value)) (name qual file : Str) (tf : Tok) (vs : Array Value) (params : Arguments) (scope : Scope) (dV kV doc pm ct : Value) (an : Option Addr) (cda cc : Addr) (ar : Arg) (p0 p1 p2 p3 p4 p5 p6 p7 p8 p9 : Pos) (pl : Addr → Sem Bool),
    fd = ksFn name qual params [.Expr (.Call (.Attribute (.Call (.Name "super" p0) [] [] p1) "__init__" p2) [.Name fv p3] [] p4) p5, .Assign [.Attribute (.Name "self" p6) fv p7] (.Name fv p8) p9] scope dV kV doc pm an (.ref cda) ct cc ∧
    K.lookup fI = some ⟨oc, od, .func fd, osl⟩ ∧ codeIn K (.ref cda) qual = true ∧ K.lookup cda = some ⟨ccl, cdd, .fields vs, ccs⟩ ∧ vs[2]? = some (.str file tf) ∧ ((prog.main.file : Str) == file) = true ∧ (prog.main.scope.names.lookup ("super" : Str)).isSome = false ∧
    K.lookup cc = some ⟨cl, cld, .cell (some (.ref C)), csl⟩ ∧ (params.posonlyargs ++ params.args).head? = some ar ∧ ar.arg = "self" ∧
    (scope.names.lookup ("super" : Str) = some .globalImplicit ∧ scope.names.lookup ("__class__" : Str) = some .free ∧ scope.names.lookup ("self" : Str) = some .local ∧ scope.names.lookup fv = some .local ∧ (∀ x ∈ scope.names, x.2 ≠ .cell) ∧ scope.isCoroutine = false ∧ scope.isGenerator = false ∧ scope.kind = .function) ∧
    (∀ L, eval (.Call (.Attribute (.Call (.Name "super" p0) [] [] p1) "__init__" p2) [.Name fv p3] [] p4) (ksEnv qual scope L fI (.ref cda) cc) = (do
      let ov ← attributeBase (.Call (.Name "super" p0) [] [] p1) "__init__" (ksEnv qual scope L fI (.ref cda) cc) (eval (.Call (.Name "super" p0) [] [] p1) (ksEnv qual scope L fI (.ref cda) cc))
      standAt p2.atName
      let (f, first) ← holding [ov] (getMethod ov "__init__" (pl L))
      callWith p4 f first (backTo p4 (starEach [.Name fv p3] (ksEnv qual scope L fI (.ref cda) cc))) [])) ∧
    (∀ L, swapsWith (.Call (.Attribute (.Call (.Name "super" p0) [] [] p1) "__init__" p2) [.Name fv p3] [] p4) none p5.line (ksEnv qual scope L fI (.ref cda) cc) = pure false) ∧
    (∀ L, interactive (ksEnv qual scope L fI (.ref cda) cc) = false) ∧
    (∀ L, starEach [.Name fv p3] (ksEnv qual scope L fI (.ref cda) cc) = [(false, eval (.Name fv p3) (ksEnv qual scope L fI (.ref cda) cc))]) ∧
    (∀ L, swapsWith (.Name fv p8) (some (.Attribute (.Name "self" p6) fv p7)) p9.line (ksEnv qual scope L fI (.ref cda) cc) = pure false)
end
structure Ini (prog : Program) (K : PySem.W.Frag) (mg : Str → Option Value) (fv : Str) (C fI : Addr) (fd : FuncData) : Prop where
  df : IniDef (prog := prog) K fv C fI fd
  fvo : fv = "value" ∨ fv = "name"
  T : OexC K C
  iC : PySem.W.findIn K (.ref C) "__init__" = some (some (.ref fI))
  tI : PySem.W.typeIn K (.ref fI) = some (.type "function")
  sup : PySem.W.ks_superIn K C C "__init__" = some (some (.builtin "ValueError.__init__"))
  ve : PySem.W.subIn K (.ref C) (.type "ValueError") = some true
  mr : PySem.W.mroIn K C (.ref C) = some true
  th : PySem.W.nsIn K cStatics "thirdparty.any" = some none
  no : PySem.W.findIn K (.ref C) fv = some none
  ms : mg "super" = none
section
open PySem.W PySem.Calls
variable {prog : Program} {w : World} {A : Around} {K : PySem.W.Frag} {mg : Str → Option Value} {C fI e t0 : Addr} {fd : FuncData} {hp : Heap} {g : Array GenState} {d : Drawn} {t : Nat} {os : OsState} {args : Args} {v : Value} {fv : Str}
theorem ini_run {base : Heap} (F : Ini prog K mg fv C fI fd) (M : L2.Mod K mg base) (hb : ∀ b o, base.get? b = some o → hp.get? b = some o) (hbe : base.get? e = none) (hroom : A.depth < recursionLimit) (he : hp.get? e = some ({ cls := .ref C, dict := none, data := .fields #[.ref t0, .none, .none, .none, .bool false, .none] } : Obj))
    (hbind : BindsTo ⟨hp, g, d, t, os⟩ fd args [("self", .ref e), (fv, v)]) {R : Result → Shared → Prop}
    (hq : ∀ h' tk t1 dx, (∀ b o, b ≠ e → hp.get? b = some o → h'.get? b = some o) → hp.objs.size ≤ dx → h'.get? e = some ({ cls := .ref C, dict := some dx, data := .fields #[.ref t1, .none, .none, .none, .bool false, .none] } : Obj) →
      h'.Ns1 dx (fun y => if y = fv then some v else none) → R (.ok (.ret .none)) ⟨h', g, d, tk, os⟩) :
    codeAny (model prog w) A (.call (.ref fI) args) R ⟨hp, g, d, t, os⟩ := by
  obtain ⟨⟨oc, ccl, cl, od, cdd, cld, osl, ccs, csl, name, qual, file, tf, vs, params, scope, dV, kV, doc, pm, ct, an, cda, cc, ar, p0, p1, p2, p3, p4, p5, p6, p7, p8, p9, pl, rfl, lk, hcd, lc, hvs, hfile, htop, hcell, hhead, har, hsc, hev, hs1, hint, hst, hs2⟩, fvo, T, iC, tI, sup, ve, mr, th, no, ms⟩ := F
  obtain ⟨k1, k2, k3, k4, k5, k6, k7, k8⟩ := hsc
  obtain ⟨nm, q, N, bs, bm, sn, sub, ab, col, dd, q0, q1, q2, q3, q5, hC, hbm⟩ := T.cls
  have X0 : K.In hp := M.kin.keeps hb
  have hlim : hp.NoLimit := M.nolimit.keeps hb
  refine ks_codeAny_call_defAt (fd := ksFn name qual params _ scope dV kV doc pm an (.ref cda) ct cc) (binds := [("self", .ref e), (fv, v)]) hroom (X0 _ _ lk) rfl hlim (codeRec_of X0 hcd) rfl hbind k5 ?_ (fun h0 hns hk => ?_) k6 k7 k8
  · intro x hx
    simp only [List.mem_cons, List.not_mem_nil, or_false] at hx
    rcases hx with rfl | rfl
    · exact k3
    · exact k4
  show _root_.PySem.wpAt _ (A.deeper (ksEnv qual scope hp.objs.size fI (.ref cda) cc)) (.func _ (ksEnv qual scope hp.objs.size fI (.ref cda) cc)) (execs _ (ksEnv qual scope hp.objs.size fI (.ref cda) cc)) _ _ _
  have hC0 : hp.get? C = some _ := X0 _ _ hC
  have X1 : K.In h0 := X0.keeps hk
  have e1 : h0.get? e = some _ := hk _ _ he
  obtain ⟨mb, hmb, hmbt⟩ := M.blt
  have kb : ∀ b o, base.get? b = some o → h0.get? b = some o := fun b o z => hk b o (hb b o z)
  have lS : (fun x => [(("self" : Str), Value.ref e), ((fv : Str), v)].reverse.lookup x) "self" = some (.ref e) := by rcases fvo with rfl | rfl <;> rfl
  have lV : (fun x => [(("self" : Str), Value.ref e), ((fv : Str), v)].reverse.lookup x) fv = some v := by rcases fvo with rfl | rfl <;> rfl
  obtain ⟨cdC, hcdC⟩ : ∃ cdC : ClassData, clsIn K C = some cdC ∧ cdC = { name := nm, bases := bs, mro := .ref C :: bm, ns := N, qualname := q, hasDict := true, slotNames := sn, subclasses := sub, abstract := ab, collection := col, hasDel := false } := ⟨_, by unfold clsIn; rw [hC] <;> rfl, rfl⟩
  obtain ⟨hclC, hcdeq⟩ := hcdC
  refine ks_wpAt_execs_cons (ks_wpAt_Expr_any ?_ (hint _) (hs1 _))
  refine ks_wpAt_MethodCall ?_ (hev _)
  refine ks_wpAt_super_base (env := ksEnv qual scope hp.objs.size fI (.ref cda) cc) k1 k2 rfl rfl (X1 _ _ lk) rfl hhead rfl (X1 _ _ lc) rfl hvs hfile htop ?_
  refine ks_loadName_global k8 k1 (loadGlobal_builtin (env := ksEnv qual scope hp.objs.size fI (.ref cda) cc) (M.glob.keeps kb) ms (hmb.keeps kb) ((hmbt _ (by decide +kernel)).trans PyProof.Rows.Boot.«super») ⟨rfl, ?_⟩)
  refine wpAny_loadName_free k8 k2 rfl ⟨_, X1 _ _ hcell, rfl⟩ ?_
  rw [har]
  refine wpAny_loadName_local k8 k3 hns lS ?_
  refine ks_wpAny_isType_cls (X1 _ _ hC) rfl ⟨rfl, ?_⟩
  refine ks_wpAny_call_super (X1 _ _ hC) rfl e1 rfl (fun c z => by cases z) (looks_mroIn X1 mr) (fun h1 ho1 hk1 => ?_)
  have X2 : K.In h1 := X1.keeps hk1
  have e2 := hk1 _ _ e1
  have I2 : InstAt h1 e { cls := .ref C, dict := none, data := .fields #[.ref t0, .none, .none, .none, .bool false, .none] } C none := ⟨e2, rfl, rfl, trivial⟩
  have hI : Looks (model prog w) h1 (isInstance (.ref e) (.type "ValueError")) true := I2.type.andThen (looks_subIn X2 ve)
  have sup' : alongIn K "__init__" ((cdC.mro.dropWhile (· != .ref C)).drop 1) = some (some (.builtin "ValueError.__init__")) := by
    unfold ks_superIn at sup
    rw [hclC] at sup
    exact sup
  refine kxs_getMethod kxs_ValueError ho1 (looks_opaque X2 th) (l₀ := cdC.mro) (fun A Q E s k q => wpAny_bind ((looks_clsIn X2 hclC) A _ E s k (wpAny_pure q))) rfl X2 sup' hI (ks_ne X2 I2 hclC) rfl ?_
  have hk3 : ∀ b o, h1.get? b = some o → (h1.push (kxs_mw "ValueError.__init__" e)).get? b = some o := fun b o z => Heap.get?_push_of_some _ z
  have hu : (h1.push (kxs_mw "ValueError.__init__" e)).get? h1.objs.size = some (kxs_mw "ValueError.__init__" e) := Heap.get?_push_at rfl rfl
  have hst' : starEach [.Name fv p3] (ksEnv qual scope hp.objs.size fI (.ref cda) cc) = (false, eval (.Name fv p3) (ksEnv qual scope hp.objs.size fI (.ref cda) cc)) :: starEach [] (ksEnv qual scope hp.objs.size fI (.ref cda) cc) := hst _
  have spl : ∀ {A' : Around} {Q : List Value → Shared → Prop} {E' : Value → Shared → Prop} {hh : Heap} {t' : Nat}, (∀ b o, h0.get? b = some o → hh.get? b = some o) → Q [v] ⟨hh, g, d, t', os⟩ → wpAny (model prog w) A' (spliced (backTo p4 (starEach [.Name fv p3] (ksEnv qual scope hp.objs.size fI (.ref cda) cc)))) Q E' ⟨hh, g, d, t', os⟩ := by
    intro A' Q E' hh t' kk q
    refine PyProof.Rows.spliced_more (wpAny_Name (wpAny_loadName_local k8 k4 (hns.keeps kk) lV ?_) (by rcases fvo with rfl | rfl <;> decide)) hst'
    exact PyProof.Rows.spliced_none q
  refine kxs_callWith (i := "ValueError.__init__") (x := e) (by rw [hst']; rfl) ?_
  have go : wpAny (model prog w) (A.deeper (ksEnv qual scope hp.objs.size fI (.ref cda) cc)) (spliced (backTo p4 (starEach [.Name fv p3] (ksEnv qual scope hp.objs.size fI (.ref cda) cc)))) (fun vs s1 => KxsAt "ValueError.__init__" h1.objs.size e s1.heap ∧ wpAny (model prog w) (A.deeper (ksEnv qual scope hp.objs.size fI (.ref cda) cc)) (call (.ref h1.objs.size) vs) (fun _ s2 => _root_.PySem.wpAt (model prog w) (A.deeper (ksEnv qual scope hp.objs.size fI (.ref cda) cc)) (.func [.Expr (.Call (.Attribute (.Call (.Name "super" p0) [] [] p1) "__init__" p2) [.Name fv p3] [] p4) p5, .Assign [.Attribute (.Name "self" p6) fv p7] (.Name fv p8) p9] (ksEnv qual scope hp.objs.size fI (.ref cda) cc))
      (execs [.Assign [.Attribute (.Name "self" p6) fv p7] (.Name fv p8) p9] (ksEnv qual scope hp.objs.size fI (.ref cda) cc)) (fun f s' => R (.ok (.ret (match f with | .ret v => v | _ => .none))) s')
        (fun e s' => wpAny (model prog w) (A.deeper (ksEnv qual scope hp.objs.size fI (.ref cda) cc)) (leaving (ksEnv qual scope hp.objs.size fI (.ref cda) cc) e) (fun _ s'' => R (.error e) s'') (fun e' s'' => R (.error e') s'') s') s2)
        (fun e s' => wpAny (model prog w) (A.deeper (ksEnv qual scope hp.objs.size fI (.ref cda) cc)) (leaving (ksEnv qual scope hp.objs.size fI (.ref cda) cc) e) (fun _ s'' => R (.error e) s'') (fun e' s'' => R (.error e') s'') s') s1)
        (fun e s' => wpAny (model prog w) (A.deeper (ksEnv qual scope hp.objs.size fI (.ref cda) cc)) (leaving (ksEnv qual scope hp.objs.size fI (.ref cda) cc) e) (fun _ s'' => R (.error e) s'') (fun e' s'' => R (.error e') s'') s')
        ⟨h1.push (kxs_mw "ValueError.__init__" e), g, d, t + [(("self" : Str), Value.ref e), ((fv : Str), v)].length + 1, os⟩ := by
    refine spl (fun b o z => hk3 b o (hk1 b o z)) ⟨hu, ?_⟩
    have e3 := hk3 _ _ e2
    have hC3 := hk3 _ _ (hk1 _ _ (hk _ _ hC0))
    refine wpAny_call (codeAny_of_tree (?_ : wpAny _ (A.deeper (ksEnv qual scope hp.objs.size fI (.ref cda) cc)).in1 (callAny (.ref h1.objs.size) ⟨[v], []⟩) _ _ _))
    unfold callAny; dsimp only; refine wpAny_bind (wpAny_load hu ?_)
    have bnd : ((Value.type "method-wrapper" == .type "method") || (Value.type "method-wrapper" == .type "builtin_function_or_method") || (Value.type "method-wrapper" == .type "method-wrapper")) = true := by decide
    simp only [bnd, kxs_mw, if_true]; refine KFB.if_so (by decide) ?_
    refine wpAny_bind (check_bound_init PySem.F.excBase_ValueError.toExcCallFacts hC3 e3 rfl ?_)
    refine wpAny_bind (wpAny_pure (wpAny_pure ?_)); refine ⟨plainId_quiet PySem.F.excBase_ValueError.init.plain _, codeAny_builtin PySem.F.excBase_ValueError.initEntry ?_⟩
    refine exc_init_tree (cls := .ref C) (t0 := t0) (dv := none) (c2 := .none) (c3 := .none) (b4 := .bool false) e3 (by rw [sizeLine_eq]; show 1 ≤ _; omega) fun h2 hk4 e4 _ => ?_
    have hk5 : ∀ b o, b ≠ e → hp.get? b = some o → h2.get? b = some o := fun b o hbe z => hk4 b o hbe (hk3 b o (hk1 b o (hk b o z)))
    have hns5 : h2.Ns hp.objs.size _ := hns.at fun o z => hk4 _ o (fun z2 => absurd (Heap.lt_size he) (by rw [← z2]; exact Nat.lt_irrefl _)) (hk3 _ o (hk1 _ o z))
    refine ks_wpAt_execs_cons (ks_wpAt_Assign_Attr ?_ (hs2 _))
    have nsE : h2.Ns (ksEnv qual scope hp.objs.size fI (.ref cda) cc).locals (fun x => [(("self" : Str), Value.ref e), ((fv : Str), v)].reverse.lookup x) := hns5
    refine wpAt_of_wpAny (wpAny_Name (wpAny_loadName_local (m := fun x => [(("self" : Str), Value.ref e), ((fv : Str), v)].reverse.lookup x) k8 k4 nsE lV ?_) (by rcases fvo with rfl | rfl <;> decide))
    refine wpAny_Name (wpAny_loadName_local (m := fun x => [(("self" : Str), Value.ref e), ((fv : Str), v)].reverse.lookup x) k8 k3 nsE lS ?_) (by decide)
    have X3 : K.In h2 := fun b o z => hk5 b o (fun y => by subst y; rw [M.kin _ _ z] at hbe; cases hbe) (X0 _ _ z)
    refine PySem.W.set_plain X3 (od := none) ⟨e4, rfl, rfl, trivial⟩ T.sa ?_
    refine PySem.HandSPX.exc_osa X3 e4 hclC (by rw [hcdeq]; exact hbm) (by rw [hcdeq]) no (fun h' tk' dx hk6 dn dne hx hn => ?_)
    show _root_.PySem.wpAt _ _ _ (execs [] _) _ _ _
    rw [execs_nil]
    refine wpAt_of_wpAny (wpAny_pure ?_)
    refine hq h' tk' _ dx (fun b o hne z => hk6 b o hne (hk5 b o hne z)) ?_ hx hn
    refine Nat.le_trans ?_ dn
    obtain ⟨oL, _, _, hL, _⟩ := hns5
    exact Nat.le_of_lt (Heap.lt_size hL)
  exact evalArgs_plain go
end
end FW
namespace FW
open PySem L2 PySem.Spec PyProof.Rows
def tIni (fv : Str) (C : Addr) (dvs : List V) (ta : TA) : L2.St → Hp → XK → Prop := fun σ H Q => ta σ H fun vs H1 => ∃ v, vs ++ dvs = [v] ∧ ∀ d, H1 d = none → Q (.ref C) (some d) (upd H1 d (.xd [(fv, v)]))
theorem vals_one {v : V} : ∀ {us : List Value}, Vals [v] us → ∃ u, us = [u] ∧ RelV v u
  | _, .cons r .nil => ⟨_, rfl, r⟩
def made2 (h : Heap) (us : List Value) (C : Addr) : Heap := (h.push (PySem.W.kdv_tup us)).push (PySem.HandSPX.excO C h.objs.size)
abbrev spot (h : Heap) : Addr := h.objs.size + 1
theorem made2_old {h : Heap} {us : List Value} {C b : Addr} {o : Obj} (z : h.get? b = some o) : (made2 h us C).get? b = some o := Heap.get?_push_of_some _ (Heap.get?_push_of_some _ z)
theorem made2_new (h : Heap) (us : List Value) (C : Addr) : (made2 h us C).get? (spot h) = some (PySem.HandSPX.excO C h.objs.size) := by unfold made2; heap_get
theorem made2_size (h : Heap) (us : List Value) (C : Addr) : h.objs.size ≤ (made2 h us C).objs.size := by unfold made2; rw [Heap.size_push, Heap.size_push]; omega
theorem spot_ne {h : Heap} {b : Addr} {o : Obj} (z : h.get? b = some o) : b ≠ spot h := Nat.ne_of_lt (Nat.lt_succ_of_lt (Heap.lt_size z))
section
variable {X : Cx} {e : Expr} {es : List Expr} {ta : TA} {p pos : Pos}
theorem pmk_ini {k : Nat} {x : Str} {C fI : Addr} {fd : FuncData} {ds : List Value} {dvs : List V} {fv : Str} (F : Ini X.prog X.K X.mg fv C fI fd) (hr : Room (k + 1) X.A)
    (hb : Binds X.K fd ["self", fv] ds) (hd : Vals dvs ds) (hg : Gl X x) (hm : X.mg x = some (.ref C)) (ha : PA X (e :: es) ta)
    (hdb : (x == ("__debug__" : Str)) = false := by decide) (he : starEach (e :: es) X.env = (false, eval e X.env) :: starEach es X.env := by rfl)
    (hpl : (backTo pos (starEach es X.env)).any (·.1) = false := by rfl) :
    PMk X (.Call (.Name x p) (e :: es) [] pos) (tIni fv C dvs ta) := by
  intro pins s0 σ0 H0 Q0 I0 want
  have kn := F.T
  obtain ⟨cn, cq, cN, cb, cm, _, _, _, _, _, _, _, _, _, _, atC, tail⟩ := kn.cls
  refine wpAny_Call_Name_kw (ld_glob I0 hg hm (PySem.W.callWith_K (h₀ := X.base) I0.ok.mod.kin kn.kC (thn (ha.run pos pins s0 σ0 H0 _ I0 want) fun us s1 got => ?_) he hpl) hdb)
  obtain ⟨vs, H1, I1, r1, v, ev, wish⟩ := got
  obtain ⟨h, gn, dw, tk, oo⟩ := s1
  refine ⟨I1.kIn, wpAny_call ?_⟩
  obtain ⟨u, eu, ru⟩ : ∃ u, us ++ ds = [u] ∧ RelV v u := vals_one (ev ▸ r1.append hd)
  have few : us.length ≤ sizeLine := by
    have l1 := congrArg List.length eu
    rw [List.length_append, List.length_singleton] at l1
    rw [sizeLine_eq]; omega
  have small : X.base.objs.size ≤ h.objs.size := Nat.le_trans I1.ok.bsz I1.sz
  have noBase : X.base.get? (spot h) = none := by
    rcases z : X.base.get? (spot h) with _ | o
    · rfl
    · exact absurd (Nat.lt_of_lt_of_le (Heap.lt_size z) small) (Nat.not_lt.mpr (Nat.le_succ _))
  have bound : BindsTo ⟨made2 h us C, gn, dw, tk, oo⟩ fd ⟨.ref (spot h) :: us, []⟩ [(("self" : Str), .ref (spot h)), (fv, u)] := by
    have z := hb ⟨made2 h us C, gn, dw, tk, oo⟩ (.ref (spot h) :: us) (I1.kIn.keeps fun _ _ q => made2_old q) (by show (us ++ ds).length + 1 = 2; rw [eu]; rfl)
    rw [List.cons_append, eu] at z
    exact z
  have unseen : H1 (spot h) = none := I1.hok.fresh (Nat.le_succ _)
  refine PySem.HandSPX.call_own PySem.F.excBase_ValueError (fun Y => PySem.HandSPX.refsVE_contains Y cm tail) (I1.kIn _ _ atC) (PySem.W.looks_findIn I1.kIn F.iC) (fun me => PySem.W.bind_fn I1.kIn me F.tI) few ?_
  refine ini_run F I1.ok.mod (fun b o z => made2_old (I1.bk b o z)) noBase (hr.make C us []).depth (made2_new h us C) bound fun h3 tk3 t3 dx keep later atE atD => ⟨rfl, ?_⟩
  obtain ⟨G, in1, out1⟩ := restrict h3 fun b => decide (b ≠ spot h)
  have same : ∀ b, b ≠ spot h → G.get? b = h3.get? b := fun b z => in1 b (decide_eq_true z)
  have gone : G.get? (spot h) = none := out1 _ (decide_eq_false (fun z => z rfl))
  have apart : dx ≠ spot h := by
    rintro rfl
    obtain ⟨_, _, _, q1, q2, _⟩ := atD
    rw [atE] at q1; cases q1; cases q2
  have late : h.objs.size ≤ dx := Nat.le_trans (made2_size h us C) later
  have J : Inv X pins σ0 (upd H1 dx (.xd [(fv, v)])) ⟨G, gn, dw, tk3, oo⟩ := by
    refine I1.laid (t' := tk3) (a := dx) (o := .xd [(fv, v)]) (h' := G) (fun b o z => ?_) late ⟨_, atD.at fun o y => (same dx apart).trans y, relO_put (fs := []) (mA := fun _ => none) ru fun _ => True.intro⟩
    rw [same b (spot_ne z)]
    exact keep b o (spot_ne z) (made2_old z)
  refine ⟨spot h, _, _, ⟨G, gn, dw, tk3, oo⟩, _, .ref C, some dx, rfl, J, fun b o z => ?_, gone, atE, ⟨rfl, rfl⟩, rfl, rfl, (upd_ne (Ne.symm apart)).trans unseen, rfl, J.bare, raises_own kn.exC kn.tyC, wish dx (I1.hok.fresh late)⟩
  by_cases hs : b = spot h
  · subst hs; rw [gone] at z; cases z
  · rw [← same b hs]; exact z
end
def sRaise (c fv : Str) (dms : List MV) (g : AF) : SF := fun lo st => g lo st >>= fun (l, st1) => match allFz l with
  | some ms => (match ms ++ dms with
    | [m] => .exc c [(fv, m)] lo st1
    | _ => .bad)
  | none => .bad
section
variable {X : Cx} {B : Base} {W : WX} {e : Expr} {es : List Expr} {p pos pos' : Pos} {g : AF}
theorem ss_raise {k : Nat} {x : Str} {C fI : Addr} {fd : FuncData} {ds : List Value} {dvs : List V} {dms : List MV} (hc : X.calm = true) (tk : Takes X W) {fv : Str} (F : Ini X.prog X.K X.mg fv C fI fd) (hr : RoomG (k + 1) X.A) (hb : Binds X.K fd ["self", fv] ds) (hd : Vals dvs ds)
    (dd : ∀ S ι H, AllD X.wd S ι H dvs dms) (hg : Gl X x) (hm : X.mg x = some (.ref C)) (ha : SA X B W (e :: es) g)
    (hdb : (x == ("__debug__" : Str)) = false := by decide) (he : starEach (e :: es) X.env = (false, eval e X.env) :: starEach es X.env := by rfl)
    (hpl : (backTo pos (starEach es X.env)).any (·.1) = false := by rfl) :
    SS X B W (.Raise (some (.Call (.Name x p) (e :: es) [] pos)) none pos') (sRaise x fv dms g) := by
  refine (ps_raise hc tk (pmk_ini F hr.r hb hd hg hm ha hdb he hpl)).fw fun D σ H ⟨S, ι, lo, st, fm, pp⟩ => ?_
  refine tA.use fm (Post.bind pp) fun l st1 S1 ι1 H1 vs f1 k1 r1 p1 => ?_
  dsimp only at p1
  split at p1
  · rename_i ms hz
    split at p1
    · rename_i m em
      have d1 := (r1.data hz).append (dd S1 ι1 H1)
      rw [em] at d1
      obtain ⟨v, vs', ev, dv, dn⟩ := d1.inv_cons
      have en := dn.inv_nil
      subst en
      refine ⟨v, ev, fun d hd' => ?_⟩
      obtain ⟨h1, h2, h3, h4⟩ := f1.free hd'
      have fn := f1.new (o := .xd [(fv, v)]) hd'
      have kn : Keep S1 ι1 H1 S1 ι1 (upd H1 d (.xd [(fv, v)])) := (Ext.new hd').keep f1.rep
      refine p1 (fz1 S1 d) ι1 σ (upd H1 d (.xd [(fv, v)])) (.ref C) (some d) (fn.freeze upd_same h2 h3 h4) (k1.trans (kn.trans .fz1)) ⟨C, rfl, hm, .inr ⟨d, _, rfl, .inr rfl, upd_same, rfl, fun i f m' q1 q2 => ?_⟩⟩
      cases i with
      | zero => cases q1; cases q2; exact (dv.mono kn).mono .fz1
      | succ i => cases q1
    · exact p1.elim
  · exact p1.elim
end
end FW
namespace FW
open PySem L2 PySem.Spec PyProof.Rows
section
variable {X : Cx} {pins : List (Addr × Obj)} {σ : L2.St} {H : Hp} {sI s s' : Shared} {B : Heap}
theorem landedX {a : Addr} {o : HO} (I : L2.Inv X pins σ H sI) (nb : ∀ b o, sI.heap.get? b = some o → b ∉ frs X.stack → B.get? b = some o) (st : B.StaysIn s'.heap) (up : sI.heap.UpToSlots s'.heap) (os : s'.os = sI.os) (ag : AllBare s'.gens)
    (na : sI.heap.get? a = none) (hn : H a = none) (ok : ObjOk X.prog X.w (upd H a o) s'.heap a o) : L2.Inv X pins σ (upd H a o) s' := by
  have slot : ∀ b, b ∈ frs X.stack → ∀ u, sI.heap.get? b = some u → ∃ sl, s'.heap.get? b = some { u with slots := sl } := by
    intro b m u z
    obtain ⟨_, u2, z2, q⟩ := I.stack.mem m
    rw [z] at z2; cases z2
    exact up b u z q
  have ne : ∀ {b : Addr} {u : HO}, H b = some u → b ≠ a := fun {b u} z y => by rw [y, hn] at z; cases z
  have hokB : HOk X.prog X.w H s'.heap := (I.inGround nb).kept st
  have J := I.call (ch := []) (h' := s'.heap) (g' := s'.gens) (t' := s'.toks) (d' := s'.drawn) (H' := upd H a o)
    ⟨fun b o e _ hb _ => st b o (nb b o e hb), fun b o e _ hb _ => slot b hb o e, fun b o e n _ => by rw [upd_ne (fun z => by rw [z, na] at e; cases e)]; exact n, fun b o e _ => by
      by_cases hb : b ∈ frs X.stack
      · exact (slot b hb o e).elim fun sl q => ⟨_, q⟩
      · exact ⟨o, st b o (nb b o e hb)⟩, fun _ _ e => by rw [upd_ne (ne e)]; exact e, fun _ _ _ e => by rw [upd_ne (ne e)]; exact e, fun b ps e => ⟨#[], by rw [upd_ne (ne e), e]; simp⟩⟩
    (fun b u q => by
      by_cases hb : b = a
      · subst hb
        rw [upd_same] at q; cases q; exact ok
      · rw [upd_ne hb] at q
        exact (hokB b u q).stay (fun _ _ _ z => z) (fun c hc => by rw [upd_ne (ne hc)]; exact hc) fun c xs hc => by rw [upd_ne (ne hc)]; exact hc) ag (fun _ z => nomatch z)
  have es : s' = { sI with heap := s'.heap, gens := s'.gens, toks := s'.toks, drawn := s'.drawn } := by cases s'; cases os; rfl
  rw [es]; exact J
theorem exO_ok {P : Program} {w : World} {h : Heap} {C a : Addr} {d : Option Addr} {oe : Obj} {vs : Array Value} (he : h.get? a = some oe) (hz : Zc (.ref C) d oe) (hd : oe.data = .fields vs) : ObjOk P w H h a (exO C d a) :=
  ⟨⟨oe, he, hz.1, hz.2, vs, hd⟩, ⟨oe, he⟩, fun h1 h2 z k => by
    obtain ⟨o, q, r⟩ := z
    exact ⟨o, k _ q, r⟩⟩
theorem exO_at {C a : Addr} {d : Option Addr} (I : L2.Inv X pins σ H s) (e : H a = some (exO C d a)) : ∃ oe vs, s.heap.get? a = some oe ∧ oe.cls = .ref C ∧ oe.dict = d ∧ oe.data = .fields vs := by
  have x : ObjOk X.prog X.w H s.heap a (.ext fun h => ∃ o, h.get? a = some o ∧ o.cls = .ref C ∧ o.dict = d ∧ ∃ vs, o.data = .fields vs) := I.hok a _ e
  obtain ⟨oe, h1, h2, h3, vs, h4⟩ := x.1
  exact ⟨oe, vs, h1, h2, h3, h4⟩
theorem suite0 (I : L2.Inv X pins σ H s) (a : Addr) : L2.Inv (X.suite a (X.pn ++ pins)) [] σ H s :=
  ⟨I.ok.suite _ _, I.os, I.bare, I.base, I.loc, I.cell, I.free, I.freeC, fun p hp => I.pin p (by rw [List.append_nil] at hp; exact hp), I.hok, I.len⟩
theorem unsuite0 {a : Addr} {pn' : List (Addr × Obj)} (I : L2.Inv (X.suite a (X.pn ++ pins)) pn' σ H s) (ok : X.Ok) : L2.Inv X pins σ H s :=
  { ok := ok, os := I.os, bare := I.bare, base := I.base, loc := I.loc, cell := I.cell, free := I.free, freeC := I.freeC, pin := fun p hp => I.pin p (List.mem_append_left _ hp), hok := I.hok, len := I.len }
end
structure Down (X : Cx) (W : WX) (pins : List (Addr × Obj)) (s' : Shared) (a : Addr) (cls : Value) (d : Option Addr) (σ : L2.St) (H : Hp) (sI : Shared) (B h : Heap) : Prop where
  inv : L2.Inv X pins σ H sI
  nb : ∀ b o, sI.heap.get? b = some o → b ∉ frs X.stack → B.get? b = some o
  up : sI.heap.UpToSlots h
  fly : HandSPX.FlyingZ B (X.env :: X.outer) a (Zc cls d) h
  na : H a = none
  os : s'.os = sI.os
  ag : AllBare s'.gens
  w : W cls d σ H
section
variable {X : Cx} {W : WX} {pins : List (Addr × Obj)} {s' : Shared} {a : Addr} {cls : Value} {d : Option Addr} {σ : L2.St} {H : Hp} {sI : Shared} {B h h' : Heap}
theorem Down.on (D : Down X W pins s' a cls d σ H sI B h) (f : HandSPX.FlyingZ B (X.env :: X.outer) a (Zc cls d) h') (u : h.UpToSlots h') : Down X W pins s' a cls d σ H sI B h' :=
  { inv := D.inv, nb := D.nb, up := D.up.trans u, fly := f, na := D.na, os := D.os, ag := D.ag, w := D.w }
theorem Down.plain (D : Down X W pins s' a cls d σ H sI B h) : L2.Inv X pins σ H { s' with heap := h } := Inv.landed (s' := { s' with heap := h }) D.inv D.nb D.fly.1 D.up D.os D.ag
theorem Down.noframe (D : Down X W pins s' a cls d σ H sI B h) : a ∉ frs (X.env :: X.outer) := fun m => by
  obtain ⟨o1, v1, g1, _, g3⟩ := D.fly.there
  obtain ⟨_, o2, g4, g5⟩ := D.fly.2.2.1.mem m
  rw [g1] at g4; cases g4
  exact g5 v1 g3
theorem Down.tracked {C : Addr} (D : Down X W pins s' a (.ref C) d σ H sI B h) (hs : X.stack = X.env :: X.outer) : L2.Inv X pins σ (upd H a (exO C d a)) { s' with heap := h } := by
  obtain ⟨o1, v1, g1, g2, g3⟩ := D.fly.there
  have fresh : sI.heap.get? a = none := by
    rcases z : sI.heap.get? a with _ | o
    · rfl
    · have y := D.nb a o z (hs ▸ D.noframe)
      exact absurd y (by rw [D.fly.2.1]; exact fun e => nomatch e)
  exact landedX (s' := { s' with heap := h }) D.inv D.nb D.fly.1 D.up D.os D.ag fresh D.na (exO_ok g1 g2 g3)
theorem comes_down {Q : Unit → Shared → Prop} {E : Value → Shared → Prop} {u : Value} {xe : Value → Shared → Prop} (ok : X.Ok) (hs : X.stack = X.env :: X.outer) (hf : X.env.frame = some X.env.locals) (x : XE (X.tr (X.pn ++ pins) xe) W u s')
    (go : ∀ a cls d σ H sI B h, u = .ref a → Down X W pins s' a cls d σ H sI B h → Q () { s' with heap := h }) :
    wpAny (model X.prog X.w) X.A (noteFrame u X.env) (fun _ s2 => wpAny (model X.prog X.w) X.A (setFlight u none) Q E s2) E s' := by
  obtain ⟨a, B, sI, q0, σ, H, cls, d, rfl, J, nb, up, sky, na, os, ag, w⟩ := x
  have sk : Sky B (X.env :: X.outer) a (Zc cls d) X.env.locals s'.heap := hs ▸ sky
  refine Sky.land Zc.steady (by rw [ok.frames, hs]) hf sk fun h fl hu => go a cls d σ H sI B h rfl ?_
  exact { inv := J.ofTry ok, nb := nb, up := up.trans hu, fly := fl, na := na, os := os, ag := ag, w := w }
end
def wAsT (K : PySem.W.Frag) (c : Value) (i : Nat) (ts : TS) (D : Ends) : WX := fun cls d σ H =>
  ∃ C : Addr, cls = .ref C ∧ PySem.W.exmOne K cls c = some true ∧ ∀ a, H a = none →
    ts { nx := fun σ' H' => D.nx (σ'.set i none) H', rt := D.rt, bk := fun σ' H' => D.bk (σ'.set i none) H', ct := fun σ' H' => D.ct (σ'.set i none) H' } (σ.set i (some (.ref a))) (upd H a (exO C d a))
section
variable {X : Cx} {x n : Str} {c : Value} {i : Nat} {body suite : List Stmt} {b₀ : Stmt} {np pos pos' : Pos} {tb : WX → TS} {ts : TS}
theorem ps_tryT (hs : X.stack = X.env :: X.outer) (hf : X.env.frame = some X.env.locals) (hN : X.N.Nodup) (hi : X.N[i]? = some n) (hln : X.env.kindOf n = some .local) (hc : Names X x c)
    (hb : ∀ (W : WX) (pn : List (Addr × Obj)) (xe : Value → Shared → Prop), L2.Takes (X.tr pn xe) W → PassesOwn (model X.prog X.w) X.A X.env xe → PSs (X.tr pn xe) body (tb W))
    (hsu : ∀ (a : Addr) (pn : List (Addr × Obj)), PSs (X.suite a pn) (b₀ :: suite) ts) :
    PS X (.Try body [.ExceptHandler (some (.Name x np)) (some n) (b₀ :: suite) pos'] [] [] pos) (fun D σ H => tb (wAsT X.K c i ts D) D σ H) := by
  refine ⟨fun pins s σ H D I want => wpAny_Try_except ?_⟩
  have caught : L2.Takes (X.tr (X.pn ++ pins) (fun e s1 => wpAny (model X.prog X.w) X.A (noteFrame e X.env) (fun _ s2 => wpAny (model X.prog X.w) X.A (setFlight e none)
      (fun _ s3 => wpAny (model X.prog X.w) X.A (handleBy e X.env [.ExceptHandler (some (.Name x np)) (some n) (b₀ :: suite) pos']) (SP X pins D) X.xe s3) X.xe s2) X.xe s1)) (wAsT X.K c i ts D) := by
    intro u s1 air
    refine comes_down I.ok hs hf air fun a cls d σ1 H1 sI B h eu dn => ?_
    subst eu
    obtain ⟨C, ec, em, yes⟩ := dn.w
    subst ec
    obtain ⟨o1, v1, g1, g2, g3⟩ := dn.fly.there
    have P1 := dn.plain
    have S1 := suite0 P1 a
    refine wpAny_handleBy_cons (codeAny_handlers_test ?_) (fun z => nomatch z)
    have ty : PySem.W.Looks (model X.prog X.w) h (typeOf (.ref a)) (.ref C) := fun A Q E s k q => wpAny_typeOf_ref (k _ _ g1) (by rw [g2.1]; exact q)
    have yields := PySem.W.exm_one (M := model X.prog X.w) P1.kIn ty em
    have named : ∀ {Q : Value → Shared → Prop} {E : Value → Shared → Prop}, Q c { s1 with heap := h } → wpAny (model X.prog X.w) (X.A.mark (some (.ref a))) (eval (.Name x np) X.env) Q E { s1 with heap := h } := by
      intro Q E q
      rcases hc with ⟨hg, hdbg, hm | ⟨hm, hv, hnn⟩⟩
      · exact ld_glob (X := X.suite a (X.pn ++ pins)) S1 hg hm q hdbg
      · exact ld_blt (X := X.suite a (X.pn ++ pins)) S1 hg hm hv q hnn hdbg
    refine named (yields.here ?_)
    show codeAny _ _ (.handlers (.ref a) [.ExceptHandler none (some n) (b₀ :: suite) pos'] X.env) _ _
    refine codeAny_handlers_suite_as (HandSPX.lands_againZ dn.fly fun h2 fl2 u2 => ?_)
    have S2 := suite0 ((dn.on fl2 u2).tracked hs) a
    refine store_ok (X := X.suite a (X.pn ++ pins)) (v := .ref a) S2 hN hi (.inl hln) rfl (fun s2 S3 => ?_) (.inr hln)
    have ends : ∀ {σ6 : L2.St} {H6 : Hp} {s6 : Shared} {Q : Shared → Prop}, L2.Inv (X.suite a (X.pn ++ pins)) [] σ6 H6 s6 → (∀ s7, L2.Inv X pins (σ6.set i none) H6 s7 → Q s7) →
        wpAny (model X.prog X.w) X.A (do bindName X.env n .none; unbindBehindTheSuite X.env n pos') (fun _ s7 => Q s7) X.xe s6 := fun S6 k => gone_ok (unsuite0 S6 I.ok) hN hi hln k
    refine wpAny_mono ((hsu a (X.pn ++ pins)).run [] s2 _ _ _ S3 (yes a dn.na)) (fun f s6 z => ?_) (fun _ _ z => z.elim)
    rcases f with _ | _ | _ | v
    · obtain ⟨_, _, J, w⟩ := z; exact ends J fun s7 J7 => ⟨_, _, J7, w⟩
    · obtain ⟨_, _, J, w⟩ := z; exact ends J fun s7 J7 => ⟨_, _, J7, w⟩
    · obtain ⟨_, _, J, w⟩ := z; exact ends J fun s7 J7 => ⟨_, _, J7, w⟩
    · obtain ⟨_, _, _, J, r, w⟩ := z; exact ends J fun s7 J7 => ⟨_, _, _, J7, r, w⟩
  refine wpAny_mono ((hb _ _ _ caught PassesOwn.looking).run [] s σ H D (I.toTry _) want) (fun f s1 z => ?_) fun _ _ z => z
  rcases f with _ | _ | _ | v
  · obtain ⟨_, _, J, w⟩ := z; exact wpAny_execs_nil ⟨_, _, J.ofTry I.ok, w⟩
  · obtain ⟨_, _, J, w⟩ := z; exact ⟨_, _, J.ofTry I.ok, w⟩
  · obtain ⟨_, _, J, w⟩ := z; exact ⟨_, _, J.ofTry I.ok, w⟩
  · obtain ⟨_, _, _, J, r, w⟩ := z; exact ⟨_, _, _, J.ofTry I.ok, r, w⟩
end
end FW
namespace FW
open PySem L2 PySem.Spec PyProof.Rows
def sTry (p : Str → Bool) (i : Nat) (g gs : SF) : SF := fun lo st => match g lo st with
  | .ok r => .ok r
  | .bad => .bad
  | .exc c fs lo1 st1 => if p c = true then (match gs (lo1.set i (some (.exc c fs, false))) st1 with
    | .ok (.nx, lo2, st2) => .ok (.nx, lo2.set i none, st2)
    | .ok (.rt m .fz, lo2, st2) => .ok (.rt m .fz, lo2.set i none, st2)
    | _ => .bad) else .bad
section
variable {mg : Wd} {B : Base} {S : Addr → Prop} {ι : List Addr} {H : Hp} {lo : Lo} {σ : L2.St} {st : Sto}
theorem Loc.unset (l : Loc mg B S ι H lo σ) (i : Nat) : Loc mg B S ι H (lo.set i none) (σ.set i none) := by
  have back : ∀ {j : Nat} {z : MV × Bool}, (lo.set i none)[j]? = some (some z) → i ≠ j ∧ lo[j]? = some (some z) := fun {j z} h => by
    by_cases e : i = j
    · subst e
      by_cases hi : i < lo.length
      · rw [List.getElem?_set_self hi] at h; cases h
      · rw [List.getElem?_eq_none (by simp; omega)] at h; cases h
    · rw [List.getElem?_set_ne e] at h; exact ⟨e, h⟩
  refine ⟨by simp [l.len], fun j n h => ?_, fun j n h => ?_, fun j k n n' a hjk h1 h2 h3 => ?_, fun j c fs h => ?_⟩
  · obtain ⟨e, h⟩ := back h
    rw [List.getElem?_set_ne e]; exact l.val j n h
  · obtain ⟨e, h⟩ := back h
    rw [List.getElem?_set_ne e]; exact l.own j n h
  · obtain ⟨e1, h1⟩ := back h1
    obtain ⟨e2, h2⟩ := back h2
    rw [List.getElem?_set_ne e1] at h3
    rw [List.getElem?_set_ne e2]
    exact l.dis j k n n' a hjk h1 h2 h3
  · obtain ⟨e, h⟩ := back h
    rw [List.getElem?_set_ne e]; exact l.pin j c fs h
theorem Fm.unset (f : Fm mg B S ι H lo σ st) (i : Nat) : Fm mg B S ι H (lo.set i none) (σ.set i none) st := ⟨f.ext, f.rep, f.loc.unset i, f.g⟩
end
section
variable {X : Cx} {B : Base} {W : WX} {x n : Str} {c : Value} {i : Nat} {body suite : List Stmt} {b₀ : Stmt} {np pos pos' : Pos} {g gs : SF} {p : Str → Bool}
theorem ss_try (hs : X.stack = X.env :: X.outer) (hf : X.env.frame = some X.env.locals) (hN : X.N.Nodup) (hc : Names X x c) (tk : Takes X W) (hp : ∀ e C, p e = true → X.mg e = some (.ref C) → PySem.W.exmOne X.K (.ref C) c = some true)
    (hb : ∀ (W : WX) (pn : List (Addr × Obj)) (xe : Value → Shared → Prop), Takes (X.tr pn xe) W → PassesOwn (model X.prog X.w) X.A X.env xe → SSs (X.tr pn xe) B W body g)
    (hsu : ∀ (a : Addr) (pn : List (Addr × Obj)), SSs (X.suite a pn) B W0 (b₀ :: suite) gs) (hi : X.N[i]? = some n := by rfl) (hln : X.env.kindOf n = some .local := by rfl) :
    SS X B W (.Try body [.ExceptHandler (some (.Name x np)) (some n) (b₀ :: suite) pos'] [] [] pos) (sTry p i g gs) := by
  refine (ps_tryT (tb := fun W => tS X.wd B W g) (ts := tS X.wd B W0 gs) hs hf hN hi hln hc hb hsu).fw fun D σ H ⟨S, ι, lo, st, fm, pp⟩ => ?_
  refine ⟨S, ι, lo, st, fm, ?_⟩
  unfold sTry at pp
  cases e : g lo st with
  | bad => rw [e] at pp; exact pp.elim
  | ok r => rw [e] at pp; exact pp
  | exc cl fs lo1 st1 =>
    rw [e] at pp
    dsimp only at pp
    split at pp
    case isFalse => exact pp.elim
    rename_i hpc
    intro S1 ι1 σ1 H1 cls d f1 k1 xr
    obtain ⟨C, rfl, hm, hd⟩ := xr
    refine ⟨C, rfl, hp cl C hpc hm, fun a ha => ?_⟩
    obtain ⟨q1, q2, q3, q4⟩ := f1.free ha
    have fn := f1.new (o := exO C d a) ha
    have kn : Keep S1 ι1 H1 S1 ι1 (upd H1 a (exO C d a)) := (Ext.new ha).keep f1.rep
    have ff := fn.freeze upd_same q2 q3 q4
    have dt : Dt X.wd (fz1 S1 a) ι1 (upd H1 a (exO C d a)) (.ref a) (.exc cl fs) := by
      rcases hd with ⟨rfl, rfl⟩ | ⟨dd, vs, rfl, hsd, hxd, hn, hi⟩
      · exact .exc0 (.inr rfl) upd_same hm
      · refine .exc (.inr rfl) upd_same (.inl hsd) ((upd_ne (fun z => ?_)).trans hxd) hm hn fun j f m z1 z2 => ((hi j f m z1 z2).mono kn).mono .fz1
        rw [z, ha] at hxd; cases hxd
    have fs' := ff.set_val i dt
    refine ⟨fz1 S1 a, ι1, _, st1, fs', ?_⟩
    have kk : Keep S ι H (fz1 S1 a) ι1 (upd H1 a (exO C d a)) := k1.trans (kn.trans .fz1)
    split at pp
    · rename_i lo2 st2 eg
      rw [eg]
      exact fun S' ι' σ' H' fm' k' => pp S' ι' (σ'.set i none) H' (fm'.unset i) (kk.trans k')
    · rename_i m lo2 st2 eg
      rw [eg]
      exact fun S' ι' σ' H' v fm' k' rv => pp S' ι' (σ'.set i none) H' v (fm'.unset i) (kk.trans k') rv
    · exact pp.elim
end
section
open PySem.W PySem.Calls
theorem exc_cls {prog : Program} {w : World} {A : Around} {E : Value → Shared → Prop} {s : Shared} {K : Frag} {x D : Addr} {ox : Obj} {od : Option Obj} {Q : Option Value → Shared → Prop} (c : ExcC K D) (hf : findObj K D od "__class__" = some (.bind (.builtin "getset_descriptor.__get__") (.builtin "object.__class__")))
    (X : K.In s.heap) (I : PySem.W.InstAt s.heap x ox D od) (h : Q (some (.ref D)) { s with toks := s.toks + 1 }) : wpAny (model prog w) A (getAttr? (.ref x) "__class__") Q E s := by
  obtain ⟨h0, gn, dw, t, oo⟩ := s
  have tyx := I.type (M := model prog w)
  have isx : Looks (model prog w) h0 (isInstance (.ref x) (.type "BaseException")) true := tyx.andThen (looks_subIn X c.hs)
  unfold getAttr? getAttrBy? getAttrBy
  refine wpAny_bind (wpAny_mkText (wpAny_bind (wpAny_attempt (wpAny_holding (wpAny_bind (tyx.at (wpAny_bind ((looks_findIn (M := model prog w) X c.hg).at ?_))))))))
  have notobj : (onTheHeap (Value.ref D) && Value.builtin "BaseException.__getattribute__" == Value.builtin "object.__getattribute__") = false := by
    rw [show (Value.builtin "BaseException.__getattribute__" == Value.builtin "object.__getattribute__") = false by decide +kernel, Bool.and_false]
  refine KFB.if_not notobj ?_
  unfold getAttrByItsOwn hookBefore
  refine wpAny_bind (KFB.if_so rfl ((looks_findIn (M := model prog w) X c.hk).at ?_))
  refine wpAny_bind (wpAny_attempt (wpAny_holding ?_))
  unfold callGetattribute
  refine KFB.if_not rfl ?_
  unfold boundAndCalled
  rw [PySem.F.excAttr_ValueError.ga.bind (.ref x)]
  refine wpAny_bind (wpAny_pure (wpAny_call (codeAny_call_builtin PySem.F.excAttr_ValueError.ga.plain PySem.F.entry_bexc_ga
    (@check_slot (model prog w) _ _ ⟨h0, gn, dw, t + 1, oo⟩ "BaseException.__getattribute__" "BaseException" "__getattribute__" (.ref x) [.str "__class__" t] [] _ (by decide +kernel) (by decide +kernel) isx (PySem.F.args_bexc_ga (.ref x) (.str "__class__" t)) ?_))))
  unfold Builtin.«object.__getattribute__»
  refine wpAny_bind (wpAny_of_eq (a := ((Value.ref x : Value), [Value.str "__class__" t])) (by first | rfl | (simp only [slotArgs]; rfl)) (wpAny_bind (wpAny_pure (wpAny_bind (tyx.at (wpAny_bind ((looks_find (M := model prog w) X I hf).at ?_)))))))
  refine wpAny_bind (wpAny_holding (wpAny_call (class_get (s := ⟨h0, gn, dw, t + 1, oo⟩) X I c.hm ?_)))
  refine wpAny_pure (?_ : wpAny _ _ (handedOut (.ref D)) _ _ _)
  rw [handedOut_of (v := .ref D) rfl]
  first
    | exact wpAny_pure (wpAny_pure h)
    | exact wpAny_pure h
    | exact wpAny_pure (wpAny_bind (wpAny_pure (wpAny_pure h)))
theorem findObj_cls {K : Frag} {D : Addr} (c : ExcC K D) (od : Option Obj) : findObj K D od "__class__" = some (.bind (.builtin "getset_descriptor.__get__") (.builtin "object.__class__")) := by
  have hc : (clsIn K D).isSome = true := by
    obtain ⟨cd, e, _⟩ := any_some c.hd
    rw [e]; rfl
  rcases od with _ | o
  · exact findObj_dataN hc c.ha c.hn c.ht
  · exact findObj_data hc c.ha c.hn c.ht
theorem kitx_err {K : Frag} {x D : Addr} (c : ExcC K D) : KitX K (.ref x) (.ref D) (fun h => ∃ ox od, PySem.W.InstAt h x ox D od) := by
  obtain ⟨cd, hcd, _⟩ := any_some c.hd
  have there : ∃ o, K.lookup D = some o ∧ o.data = .cls cd := by
    unfold clsIn at hcd
    split at hcd
    · rename_i e; cases hcd; exact ⟨_, e, rfl⟩
    · cases hcd
  obtain ⟨o, lk, hdat⟩ := there
  refine ⟨fun _ _ _ ⟨_, _, I⟩ => I.type, fun M h X _ => ?_, fun h tp dd its n sl X z => ?_, fun {prog w A E Q s} X ⟨_, od, I⟩ k => exc_cls c (findObj_cls c od) X I k⟩
  · intro A Q E s k q
    unfold isType loadHead
    refine wpAny_bind (wpAny_loadPart (k _ _ (X _ _ lk)) ?_)
    rw [hdat]; exact wpAny_pure q
  · refine Bool.eq_false_iff.mpr fun e => ?_
    obtain rfl : D = tp := Value.ref.inj (beq_iff_eq.mp e)
    have e2 := (X _ _ lk).symm.trans z
    cases e2; cases hdat
end
theorem err_inst {X : Cx} {pins : List (Addr × Obj)} {σ : L2.St} {H : Hp} {s : Shared} {C a : Addr} {d : Option Addr} (I : L2.Inv X pins σ H s) (e : H a = some (exO C d a)) (hd : d = none ∨ ∃ dd fs, d = some dd ∧ H dd = some (.xd fs)) :
    ∃ ox od, PySem.W.InstAt s.heap a ox C od ∧ (∀ dd fs, d = some dd → H dd = some (.xd fs) → ∃ o mA, od = some o ∧ s.heap.get? dd = some o ∧ s.heap.Ns1 dd mA ∧ ∀ f, RelO (fs.lookup f) (mA f)) := by
  obtain ⟨oe, vs, g1, g2, g3, g4⟩ := exO_at I e
  obtain ⟨oc, odi, oda, osl⟩ := oe
  dsimp only at g2 g3 g4
  subst g2 g3 g4
  rcases hd with rfl | ⟨dd, fs, rfl, hx⟩
  · exact ⟨_, none, ⟨g1, rfl, rfl, trivial⟩, fun dd fs z => nomatch z⟩
  · obtain ⟨mA, hns, rel⟩ : ∃ mA, s.heap.Ns1 dd mA ∧ ∀ f, RelO (fs.lookup f) (mA f) := I.hok dd _ hx
    obtain ⟨o, es, ep, q1, q2⟩ := hns
    refine ⟨_, some o, ⟨g1, rfl, rfl, q1⟩, fun d2 f2 z1 z2 => ?_⟩
    cases z1
    rw [hx] at z2; cases z2
    exact ⟨o, mA, rfl, q1, ⟨o, es, ep, q1, q2⟩, rel⟩
structure InsC (K : PySem.W.Frag) (C : Addr) : Prop where
  cls : L2.Cls K C
  ha : PySem.W.findIn K (.ref C) "__class__" = some (some (.builtin "object.__class__"))
  hn : PySem.W.specialIn K (.builtin "object.__class__") "__get__" = some (some (.builtin "getset_descriptor.__get__"))
  ht : PySem.W.takesIn K (.builtin "object.__class__") = some true
  hm : PySem.W.mroIn K C (.type "object") = some true
def rIsiA (K : PySem.W.Frag) : List V → Hp → VK → Prop := fun xs H Q => ∃ (x c : V) (t u : Value) (b : Bool), xs = [x, c] ∧ ClsV c u ∧
  (TyX K H x t ∨ (∃ a C d, x = .ref a ∧ H a = some (exO C d a) ∧ (d = none ∨ ∃ dd fs, d = some dd ∧ H dd = some (.xd fs)) ∧ ExcC K C ∧ t = .ref C) ∨ (∃ a o kvs, x = .ref a ∧ H a = some (.frz o (.dT kvs)) ∧ t = .type "dict")) ∧ PySem.W.kitOne K t u = some b ∧ Q (.bl b) H
theorem call_isiA {X : Cx} : CallR X (.builtin "isinstance") (rIsiA X.K) := by
  intro pins s σ H xs us Q I r h
  obtain ⟨x, c, t, u, b, rfl, k, ty, e, q⟩ := h
  rcases ty with ty | ⟨a, C, d, rfl, hH, hd, ec, rfl⟩ | ⟨a, ob, kvs, rfl, hH, rfl⟩
  · exact call_isi pins s σ H _ us Q I r ⟨x, c, t, u, b, rfl, k, ty, e, q⟩
  · obtain ⟨u1, u2, rfl, r1, r2⟩ := vals2 r
    obtain rfl := k.eq r2
    cases (show u1 = Value.ref a from r1)
    obtain ⟨ox, od, J, _⟩ := err_inst I hH hd
    exact PySem.W.kia_one (kitx_err ec) I.kIn ⟨ox, od, J⟩ e (fun z => nomatch z) fun tk => ⟨.bl b, H, I.tok tk, rfl, q⟩
  · obtain ⟨u1, u2, rfl, r1, r2⟩ := vals2 r
    obtain rfl := k.eq r2
    cases (show u1 = Value.ref a from r1)
    obtain ⟨_, _, _, _, _, o, _, _, h1, h2, _⟩ := (show ObjOk X.prog X.w H s.heap a (.frz ob (.dT kvs)) from I.hok a _ hH)
    exact PySem.W.kia_one PySem.W.kitx_dict I.kIn ⟨o, h1, h2.1⟩ e (fun z => nomatch z) fun tk => ⟨.bl b, H, I.tok tk, rfl, q⟩
def tyAns (ans : String → Option Bool) (oi oe : Str → Option Bool) : MV → Option Bool
  | .non => ans "NoneType"
  | .bl _ => ans "bool"
  | .int _ => ans "int"
  | .str _ => ans "str"
  | .tup _ => ans "tuple"
  | .lst _ => ans "list"
  | .dct _ => ans "dict"
  | .ins c _ => oi c
  | .exc c _ => oe c
  | _ => none
def mIsi (ans : String → Option Bool) (oi oe : Str → Option Bool) (fa : EF) : EF := fun lo st => fa lo st >>= fun (a, _, st1) => match tyAns ans oi oe (vw st1 a) with
  | some b => .ok (.bl b, .fz, st1)
  | none => .bad
section
variable {X : Cx} {B : Base} {W : WX} {a ec : Expr} {fa : EF} {p pos : Pos} {ans : String → Option Bool} {oi oe : Str → Option Bool} {u : Value} {c : V}
theorem se_isi (hg : Gl X "isinstance") (hm : X.mg "isinstance" = none) (ha : SE X B W a fa) (hc : PE X ec (tC c)) (k : ClsV c u)
    (hA : ∀ t b, ans t = some b → PySem.W.kitOne X.K (.type t) u = some b) (hI : ∀ n C b, oi n = some b → X.mg n = some (.ref C) → InsC X.K C ∧ PySem.W.kitOne X.K (.ref C) u = some b)
    (hE : ∀ n C b, oe n = some b → X.mg n = some (.ref C) → ExcC X.K C ∧ PySem.W.kitOne X.K (.ref C) u = some b)
    (he : starEach [a, ec] X.env = (false, eval a X.env) :: starEach [ec] X.env := by rfl) (he2 : starEach [ec] X.env = (false, eval ec X.env) :: starEach [] X.env := by rfl) (hpl : (backTo pos (starEach [ec] X.env)).any (·.1) = false := by rfl) :
    SE X B W (.Call (.Name "isinstance" p) [a, ec] [] pos) (mIsi ans oi oe fa) := by
  refine (pe_callB (r := rIsiA X.K) call_isiA hg hm PyProof.Rows.Boot.«isinstance» (pa_cons ha (pa_cons hc pa_nil he2) he) (by decide) (by decide) he hpl).fw fun σ H Q ⟨S, ι, lo, st, fm, pp⟩ => ?_
  refine tE.use fm (Post.bind pp) fun m kd st1 S1 ι1 H1 v f1 k1 r1 p1 => ?_
  obtain ⟨S1', f1', k1', h1⟩ := r1.hand f1
  have vr := h1.vr f1'
  dsimp only at p1
  split at p1
  case h_2 => exact p1.elim
  rename_i b eb
  have out := p1 S1' ι1 H1 _ f1' (k1.trans k1') (.bl b)
  show rIsiA X.K [v, c] H1 Q
  revert eb vr
  generalize vw st1 m = m2
  intro vr eb
  cases m2 with
  | non => cases vr; exact ⟨_, c, _, u, b, rfl, k, .inl (.base .non), hA _ b eb, out⟩
  | bl x => cases vr; exact ⟨_, c, _, u, b, rfl, k, .inl (.base (.bl _)), hA _ b eb, out⟩
  | int x => cases vr; exact ⟨_, c, _, u, b, rfl, k, .inl (.base (.int _)), hA _ b eb, out⟩
  | str x => cases vr; exact ⟨_, c, _, u, b, rfl, k, .inl (.base (.str _)), hA _ b eb, out⟩
  | tup x => obtain ⟨q, ws, rfl, g, _⟩ := vr; exact ⟨_, c, _, u, b, rfl, k, .inl (.base (.tup g)), hA _ b eb, out⟩
  | lst x => obtain ⟨q, ws, rfl, g, _⟩ := vr; exact ⟨_, c, _, u, b, rfl, k, .inl (.base (.lst g)), hA _ b eb, out⟩
  | dct x =>
    obtain ⟨q, rfl, ⟨kvs, g, _⟩ | ⟨kvs, g, _⟩⟩ := vr
    · rcases g with g | ⟨o, g⟩
      · exact ⟨_, c, _, u, b, rfl, k, .inl (.base (.dK g)), hA _ b eb, out⟩
      · exact ⟨_, c, _, u, b, rfl, k, .inl (.fDict g), hA _ b eb, out⟩
    · rcases g with g | ⟨o, g⟩
      · exact ⟨_, c, _, u, b, rfl, k, .inl (.base (.dT g)), hA _ b eb, out⟩
      · exact ⟨_, c, _, u, b, rfl, k, .inr (.inr ⟨q, o, kvs, rfl, g, rfl⟩), hA _ b eb, out⟩
  | ins n fs =>
    obtain ⟨q, C, dx, ws, rfl, g, hmc, _⟩ := vr
    obtain ⟨ic, kk⟩ := hI n C b eb hmc
    exact ⟨_, c, _, u, b, rfl, k, .inl (.base (.ins g ic.cls ic.ha ic.hn ic.ht ic.hm)), kk, out⟩
  | exc n fs =>
    obtain ⟨q, C, rfl, hmc, hd⟩ := vr
    obtain ⟨ic, kk⟩ := hE n C b eb hmc
    rcases hd with ⟨_, g⟩ | ⟨dd, ws, g, _, g2, _⟩
    · exact ⟨_, c, _, u, b, rfl, k, .inr (.inl ⟨q, C, _, rfl, g, .inl rfl, ic, rfl⟩), kk, out⟩
    · exact ⟨_, c, _, u, b, rfl, k, .inr (.inl ⟨q, C, _, rfl, g, .inr ⟨dd, ws, rfl, g2⟩, ic, rfl⟩), kk, out⟩
  | _ => cases eb
end
end FW
namespace FW
open PySem L2 PySem.Spec PyProof.Rows
section
variable {mg : Wd} {S : Addr → Prop} {ι : List Addr} {H : Hp}
theorem lookup_put {β : Type} (f g : Str) (y : β) (fs : List (Str × β)) : ((f, y) :: fs).lookup g = if g = f then some y else fs.lookup g := by
  by_cases h : g = f
  · subst h; simp [List.lookup]
  · have e : (g == f) = false := by simpa using h
    rw [if_neg h]; simp [List.lookup, e]
theorem look_both {f : Str} : ∀ {fs : List (Str × V)} {ms : List (Str × MV)} {m : MV}, fs.map (·.1) = ms.map (·.1) → (∀ (i : Nat) f m, fs[i]? = some f → ms[i]? = some m → Dt mg S ι H f.2 m.2) → ms.lookup f = some m → ∃ v, fs.lookup f = some v ∧ Dt mg S ι H v m
  | [], [], _, _, _, h => by cases h
  | [], _ :: _, _, hn, _, _ => by cases hn
  | _ :: _, [], _, hn, _, _ => by cases hn
  | (f1, v1) :: fs, (f2, m2) :: ms, m, hn, hi, h => by
    rw [List.map_cons, List.map_cons] at hn
    obtain ⟨e1, e2⟩ := List.cons.inj hn
    have e1' : f1 = f2 := e1
    subst e1'
    rw [FW.lookup_put] at h ⊢
    by_cases hf : f = f1
    · rw [if_pos hf] at h ⊢
      cases h
      exact ⟨v1, rfl, hi 0 _ _ rfl rfl⟩
    · rw [if_neg hf] at h ⊢
      exact look_both e2 (fun i a b q1 q2 => hi (i + 1) a b (by simpa using q1) (by simpa using q2)) h
end
def tFldA (K : PySem.W.Frag) (ta : TE) (f : Str) : TE := fun σ H Q => ta σ H fun x H1 => (∃ a C dx fs v, x = .ref a ∧ H1 a = some (.ins C dx fs) ∧ L2.Cls K C ∧ NoAttr K C f ∧ fs.lookup f = some v ∧ Q v H1) ∨
  ∃ a C dd fs v, x = .ref a ∧ H1 a = some (exO C (some dd) a) ∧ H1 dd = some (.xd fs) ∧ ExcC K C ∧ NoAttr K C f ∧ fs.lookup f = some v ∧ Q v H1
def gFld (f : Str) (oi oe : Str → Bool) : MV → Option MV
  | .ins c fs => if oi c = true then fs.lookup f else none
  | .exc c fs => if oe c = true then fs.lookup f else none
  | _ => none
def mFld (f : Str) (oi oe : Str → Bool) (fa : EF) : EF := fun lo st => fa lo st >>= fun (a, _, st1) => match gFld f oi oe (vw st1 a) with
  | some m => .ok (m, .fz, st1)
  | none => .bad
section
variable {X : Cx} {B : Base} {W : WX} {e : Expr} {f : Str} {fa : EF} {pos : Pos} {oi oe : Str → Bool}
theorem pe_fldA {ta : TE} (he : PE X e ta) (hb : attributeBase e f X.env (eval e X.env) = eval e X.env) : PE X (.Attribute e f pos) (tFldA X.K ta f) := by
  refine ⟨fun pins s σ H Q I h => attr_of hb (thn (he.run pins s σ H _ I h) fun u s1 got => ?_)⟩
  obtain ⟨x, H1, I1, rx, alt⟩ := got
  rcases alt with ⟨a, C, dx, fs, v, ex, ea, c, n, l, q⟩ | ⟨a, C, dd, fs, v, ex, ea, ed, c, n, l, q⟩
  · subst ex
    cases (show u = Value.ref a from rx)
    exact getattr_ok I1 ea c n l fun u2 s2 I2 ru => ⟨v, H1, I2, ru, q⟩
  · subst ex
    cases (show u = Value.ref a from rx)
    obtain ⟨ox, od, J, hod⟩ := err_inst I1 ea (.inr ⟨dd, fs, rfl, ed⟩)
    obtain ⟨o, mA, rfl, gd, ns, rel⟩ := hod dd fs rfl ed
    obtain ⟨o2, gd2, look⟩ := lookIn_ns ns
    rw [gd] at gd2; cases gd2
    obtain ⟨w, hw, rw2⟩ := RelO.some_of (v := v) (o := mA f) (by rw [← l]; exact rel f)
    exact PySem.HandSPX.exc_get I1.kIn J c.hg c.hk c.hs (PySem.W.findObj_own c.hd n rfl (by rw [look, hw])) (handed_of rw2) ⟨v, H1, I1.tok _, rw2, q⟩
theorem se_fld (he : SE X B W e fa) (hI : ∀ n C, oi n = true → X.mg n = some (.ref C) → L2.Cls X.K C ∧ NoAttr X.K C f) (hE : ∀ n C, oe n = true → X.mg n = some (.ref C) → ExcC X.K C ∧ NoAttr X.K C f)
    (hb : attributeBase e f X.env (eval e X.env) = eval e X.env := by rfl) : SE X B W (.Attribute e f pos) (mFld f oi oe fa) := by
  refine (pe_fldA he hb).fw fun σ H Q ⟨S, ι, lo, st, fm, pp⟩ => ?_
  refine tE.use fm (Post.bind pp) fun m kd st1 S1 ι1 H1 v f1 k1 r1 p1 => ?_
  obtain ⟨S1', f1', k1', h1⟩ := r1.hand f1
  have vr := h1.vr f1'
  dsimp only at p1
  split at p1
  case h_2 => exact p1.elim
  rename_i b eb
  have out := fun w d => p1 S1' ι1 H1 w f1' (k1.trans k1') d
  revert eb vr
  generalize vw st1 m = m2
  intro vr eb
  cases m2 with
  | ins n fs =>
    obtain ⟨q, C, dx, ws, rfl, g, hmc, hn, hi⟩ := vr
    have eb : (if oi n = true then fs.lookup f else none) = some b := eb
    split at eb
    · rename_i ho
      obtain ⟨c, na⟩ := hI n C ho hmc
      obtain ⟨w, l, d⟩ := look_both hn hi eb
      exact .inl ⟨q, C, dx, ws, w, rfl, g, c, na, l, out w d⟩
    · cases eb
  | exc n fs =>
    obtain ⟨q, C, rfl, hmc, hd⟩ := vr
    have eb : (if oe n = true then fs.lookup f else none) = some b := eb
    split at eb
    · rename_i ho
      obtain ⟨c, na⟩ := hE n C ho hmc
      rcases hd with ⟨rfl, _⟩ | ⟨dd, ws, g, _, g2, hn, hi⟩
      · cases eb
      · obtain ⟨w, l, d⟩ := look_both hn hi eb
        exact .inr ⟨q, C, dd, ws, w, rfl, g, g2, c, na, l, out w d⟩
    · cases eb
  | _ => cases eb
end
mutual
inductive RdX (h : Heap) : Value → PyData → Prop
  | non : RdX h .none .none
  | bl (b : Bool) : RdX h (.bool b) (.bool b)
  | int (i : Int) (t : Tok) : RdX h (.int i t) (.int i)
  | str (x : Str) (t : Tok) : RdX h (.str x t) (.str x)
  | lst {a : Addr} {o : Obj} {vs : Array Value} {n : Nat} {xs : List PyData} : h.get? a = some o → o.cls = .type "list" → o.data = .seq vs n → RdXs h vs.toList xs → RdX h (.ref a) (.list xs)
  | tup {a : Addr} {o : Obj} {vs : Array Value} {n : Nat} {xs : List PyData} : h.get? a = some o → o.cls = .type "tuple" → o.data = .seq vs n → RdXs h vs.toList xs → RdX h (.ref a) (.tuple xs)
  | dct {a : Addr} {o : Obj} {es : Array DictEntry} {n : Nat} {kvs : List (PyData × PyData)} : h.get? a = some o → o.cls = .type "dict" → o.data = .dict es n → (a == sysModules) = false →
      RdXs h (es.toList.map (·.key)) (kvs.map (·.1)) → RdXs h (es.toList.map (·.val)) (kvs.map (·.2)) → RdX h (.ref a) (.dict kvs)
inductive RdXs (h : Heap) : List Value → List PyData → Prop
  | nil : RdXs h [] []
  | cons {v : Value} {vs : List Value} {d : PyData} {ds : List PyData} : RdX h v d → RdXs h vs ds → RdXs h (v :: vs) (d :: ds)
end
section
variable {prog : Program} {w : World} {h : Heap}
mutual
theorem RdX.reads : ∀ {v : Value} {d : PyData}, RdX h v d → ∃ as, Reads h v d as
  | _, _, .non => ⟨_, .none⟩
  | _, _, .bl b => ⟨_, .bool b⟩
  | _, _, .int i t => ⟨_, .int i t⟩
  | _, _, .str x t => ⟨_, .str x t⟩
  | _, _, .lst h1 h2 h3 h4 => let ⟨_, r⟩ := RdXs.reads h4; ⟨_, .list h1 h2 h3 r⟩
  | _, _, .tup h1 h2 h3 h4 => let ⟨_, r⟩ := RdXs.reads h4; ⟨_, .tuple h1 h2 h3 r⟩
  | _, _, .dct h1 h2 h3 _ h4 h5 => let ⟨_, r⟩ := RdXs.reads h4; let ⟨_, q⟩ := RdXs.reads h5; ⟨_, .dict h1 h2 h3 r q⟩
theorem RdXs.reads : ∀ {vs : List Value} {ds : List PyData}, RdXs h vs ds → ∃ as, ReadsAll h vs ds as
  | _, _, .nil => ⟨_, .nil⟩
  | _, _, .cons a b => let ⟨_, r⟩ := RdX.reads a; let ⟨_, q⟩ := RdXs.reads b; ⟨_, .cons r q⟩
end
mutual
theorem RdX.reprK : ∀ {v : Value} {d : PyData}, RdX h v d → d.showable = true → d.shown.length ≤ sizeLine → ∃ bs, ReadAtMost h d.depth bs ∧ ReprK prog w bs h d.depth v d.shown
  | _, _, .non, _, _ => ⟨[], (fun _ h => nomatch h), by simp only [PyData.shown]; exact .of_is ReprIs.none _ _ _⟩
  | _, _, .bl b, _, _ => ⟨[], (fun _ h => nomatch h), by simp only [PyData.shown]; exact .of_is (ReprIs.bool b) _ _ _⟩
  | _, _, .int i t, hs, _ => ⟨[], (fun _ h => nomatch h), by simp only [PyData.shown]; exact .of_is (ReprIs.int t (by simpa [PyData.showable] using hs)) _ _ _⟩
  | _, _, .str x t, _, hz => ⟨[], (fun _ h => nomatch h), by simp only [PyData.shown]; exact .of_is (ReprIs.str x t (by simpa only [PyData.shown] using hz)) _ _ _⟩
  | _, _, .lst (a := a) (vs := vs) (xs := xs) h1 h2 h3 h4, hs, hz => by
    have hz' : (listText (PyData.shownAll xs)).length ≤ sizeLine := by simpa only [PyData.shown] using hz
    obtain ⟨bs, hb, hk⟩ := RdXs.reprK h4 (by simpa [PyData.showable] using hs) (fun t ht => Nat.le_trans (listText_mem_le ht) hz')
    obtain ⟨as, q⟩ := h4.reads
    have r : Reads h (.ref a) (.list xs) _ := .list h1 h2 h3 q
    have hna : a ∉ bs := not_mem_of_deeper r (by simp only [PyData.depth]; omega) hb
    refine ⟨a :: bs, ReadAtMost.cons r (by simp only [PyData.depth]; omega) hb, ?_⟩
    simp only [PyData.depth, PyData.shown]
    obtain ⟨l⟩ := vs
    cases l with
    | nil =>
      have h4' : RdXs h [] xs := h4
      cases h4'
      simp only [PyData.shownAll, listText_nil]
      exact ReprK.listEmpty h1 h2 h3
    | cons x l => exact ReprK.list h1 h2 h3 hna (by simpa using hk.length_eq) (fun i y e => hk.item i y (by simpa using e))
  | _, _, .tup (a := a) (xs := xs) h1 h2 h3 h4, hs, hz => by
    have hz' : (tupleText (PyData.shownAll xs)).length ≤ sizeLine := by simpa only [PyData.shown] using hz
    obtain ⟨bs, hb, hk⟩ := RdXs.reprK h4 (by simpa [PyData.showable] using hs) (fun t ht => Nat.le_trans (tupleText_mem_le ht) hz')
    obtain ⟨as, q⟩ := h4.reads
    have r : Reads h (.ref a) (.tuple xs) _ := .tuple h1 h2 h3 q
    have hna : a ∉ bs := not_mem_of_deeper r (by simp only [PyData.depth]; omega) hb
    refine ⟨a :: bs, ReadAtMost.cons r (by simp only [PyData.depth]; omega) hb, ?_⟩
    simp only [PyData.depth, PyData.shown]
    exact ReprK.tuple h1 h2 h3 hna hk
  | _, _, .dct (a := a) (es := es) (kvs := kvs) h1 h2 h3 hy h4 h5, hs, hz => by
    have hz' : (dictText (PyData.shownKv kvs)).length ≤ sizeLine := by simpa only [PyData.shown] using hz
    obtain ⟨s1, s2⟩ := PyData.showableKv_split kvs (by simpa [PyData.showable] using hs)
    obtain ⟨b1, q1, k1⟩ := RdXs.reprK h4 s1 fun t ht => by
      obtain ⟨p, hp, hl⟩ := PyData.shownKv_key_le kvs t ht
      exact Nat.le_trans hl (Nat.le_trans (dictText_mem_le hp) hz')
    obtain ⟨b2, q2, k2⟩ := RdXs.reprK h5 s2 fun t ht => by
      obtain ⟨p, hp, hl⟩ := PyData.shownKv_val_le kvs t ht
      exact Nat.le_trans hl (Nat.le_trans (dictText_mem_le hp) hz')
    have hb : ReadAtMost h (PyData.depthKv kvs) (b1 ++ b2) := (q1.mono (PyData.depthAll_keys_le kvs)).append (q2.mono (PyData.depthAll_vals_le kvs))
    obtain ⟨a1, r1⟩ := h4.reads
    obtain ⟨a2, r2⟩ := h5.reads
    have r : Reads h (.ref a) (.dict kvs) _ := .dict h1 h2 h3 r1 r2
    have hna : a ∉ b1 ++ b2 := not_mem_of_deeper r (by simp only [PyData.depth]; omega) hb
    refine ⟨a :: (b1 ++ b2), ReadAtMost.cons r (by simp only [PyData.depth]; omega) hb, ?_⟩
    simp only [PyData.depth, PyData.shown, PyData.shownKv_eq]
    exact ReprK.dict h1 h2 h3 hy hna (ReprEntriesK.of_two es.toList _ _ (k1.more_le (fun b hb => List.mem_append_left _ hb) (PyData.depthAll_keys_le kvs)) (k2.more_le (fun b hb => List.mem_append_right _ hb) (PyData.depthAll_vals_le kvs)))
theorem RdXs.reprK : ∀ {vs : List Value} {ds : List PyData}, RdXs h vs ds → PyData.showableAll ds = true → (∀ t ∈ PyData.shownAll ds, t.length ≤ sizeLine) →
    ∃ bs, ReadAtMost h (PyData.depthAll ds) bs ∧ ReprAllK prog w bs h (PyData.depthAll ds) vs (PyData.shownAll ds)
  | _, _, .nil, _, _ => ⟨[], (fun _ h => nomatch h), by simp only [PyData.shownAll]; exact .nil⟩
  | _, _, .cons (d := d) (ds := ds) r rs, hs, hz => by
    have hs' : d.showable = true ∧ PyData.showableAll ds = true := by simpa [PyData.showableAll] using hs
    obtain ⟨b1, hb1, k1⟩ := RdX.reprK r hs'.1 (hz _ (by simp only [PyData.shownAll]; exact List.mem_cons_self ..))
    obtain ⟨b2, hb2, k2⟩ := RdXs.reprK rs hs'.2 (fun t ht => hz t (by simp only [PyData.shownAll]; exact List.mem_cons_of_mem _ ht))
    refine ⟨b1 ++ b2, ?_, ?_⟩
    · intro b hm
      simp only [PyData.depthAll]
      rcases List.mem_append.mp hm with hm | hm
      · obtain ⟨d', as', r', hd'⟩ := hb1 b hm
        exact ⟨d', as', r', Nat.le_trans hd' (Nat.le_max_left _ _)⟩
      · obtain ⟨d', as', r', hd'⟩ := hb2 b hm
        exact ⟨d', as', r', Nat.le_trans hd' (Nat.le_max_right _ _)⟩
    · simp only [PyData.depthAll, PyData.shownAll]
      exact .cons ((k1.more fun b hb => List.mem_append_left _ hb).level_le (Nat.le_max_left _ _)) (k2.more_le (fun b hb => List.mem_append_right _ hb) (Nat.le_max_right _ _))
end
theorem shows_rdx {a : Addr} {d : PyData} (r : RdX h (.ref a) d) (hs : d.showable = true) (hsz : d.shown.length ≤ sizeLine) : ∃ T idr, ShowsBy prog w h a d T idr := by
  cases r with
  | lst h1 h2 h3 h4 =>
    rename_i o vs n xs
    have hz' : (listText (PyData.shownAll xs)).length ≤ sizeLine := by simpa only [PyData.shown] using hsz
    obtain ⟨bs, hb, hk⟩ := RdXs.reprK (prog := prog) (w := w) h4 (by simpa [PyData.showable] using hs) (fun t ht => Nat.le_trans (listText_mem_le ht) hz')
    obtain ⟨as, q⟩ := h4.reads
    have hna : a ∉ bs := not_mem_of_deeper (.list h1 h2 h3 q) (by simp only [PyData.depth]; omega) hb
    refine ⟨"list", "list.__repr__", F.slot_list_repr.toG, F.slot_list_str, F.slot_list_format, fun s hk0 => ⟨o, hk0 _ _ h1, h2⟩, fun A E s Q hg hu hk0 hQ => ?_⟩
    simp only [PyData.depth] at hu
    simp only [PyData.shown] at hQ
    obtain ⟨l⟩ := vs
    cases l with
    | nil =>
      have h4' : RdXs h [] xs := h4
      cases h4'
      simp only [PyData.shownAll, listText_nil] at hQ
      exact call_list_repr_empty ⟨o, hk0 _ _ h1, h2⟩ (hk0 _ _ h1) h3 (hQ s.heap _ _ fun _ _ e => e)
    | cons x l =>
      exact call_list_reprK h1 h2 h3 hna (by simpa using hk.length_eq) (fun i y e => hk.item i y (by simpa using e)) hg (fun b _ => Clear.nil b) hu hk0 hQ hz'
  | tup h1 h2 h3 h4 =>
    rename_i o vs n xs
    have hz' : (tupleText (PyData.shownAll xs)).length ≤ sizeLine := by simpa only [PyData.shown] using hsz
    obtain ⟨bs, hb, hk⟩ := RdXs.reprK (prog := prog) (w := w) h4 (by simpa [PyData.showable] using hs) (fun t ht => Nat.le_trans (tupleText_mem_le ht) hz')
    obtain ⟨as, q⟩ := h4.reads
    have hna : a ∉ bs := not_mem_of_deeper (.tuple h1 h2 h3 q) (by simp only [PyData.depth]; omega) hb
    refine ⟨"tuple", "tuple.__repr__", F.slot_tuple_repr, F.slot_tuple_str, F.slot_tuple_format, fun s hk0 => ⟨o, hk0 _ _ h1, h2⟩, fun A E s Q hg hu hk0 hQ => ?_⟩
    simp only [PyData.depth] at hu
    simp only [PyData.shown] at hQ
    exact call_tuple_reprK h1 h2 h3 hna hk hg (fun b _ => Clear.nil b) hu hk0 hQ hz'
  | dct h1 h2 h3 hy h4 h5 =>
    rename_i o es n kvs
    have hz' : (dictText (PyData.shownKv kvs)).length ≤ sizeLine := by simpa only [PyData.shown] using hsz
    obtain ⟨s1, s2⟩ := PyData.showableKv_split kvs (by simpa [PyData.showable] using hs)
    obtain ⟨b1, q1, k1⟩ := RdXs.reprK (prog := prog) (w := w) h4 s1 fun t ht => by
      obtain ⟨p, hp, hl⟩ := PyData.shownKv_key_le kvs t ht
      exact Nat.le_trans hl (Nat.le_trans (dictText_mem_le hp) hz')
    obtain ⟨b2, q2, k2⟩ := RdXs.reprK (prog := prog) (w := w) h5 s2 fun t ht => by
      obtain ⟨p, hp, hl⟩ := PyData.shownKv_val_le kvs t ht
      exact Nat.le_trans hl (Nat.le_trans (dictText_mem_le hp) hz')
    have hb : ReadAtMost h (PyData.depthKv kvs) (b1 ++ b2) := (q1.mono (PyData.depthAll_keys_le kvs)).append (q2.mono (PyData.depthAll_vals_le kvs))
    obtain ⟨a1, r1⟩ := h4.reads
    obtain ⟨a2, r2⟩ := h5.reads
    have hna : a ∉ b1 ++ b2 := not_mem_of_deeper (.dict h1 h2 h3 r1 r2) (by simp only [PyData.depth]; omega) hb
    refine ⟨"dict", "dict.__repr__", F.slot_dict_repr, F.slot_dict_str, F.slot_dict_format, fun s hk0 => ⟨o, hk0 _ _ h1, h2⟩, fun A E s Q hg hu hk0 hQ => ?_⟩
    simp only [PyData.depth] at hu
    simp only [PyData.shown, PyData.shownKv_eq] at hQ
    have hE := ReprEntriesK.of_two es.toList _ _ (k1.more_le (fun b hb => List.mem_append_left b2 hb) (PyData.depthAll_keys_le kvs)) (k2.more_le (fun b hb => List.mem_append_right b1 hb) (PyData.depthAll_vals_le kvs))
    exact call_dict_reprK h1 h2 h3 hy hna hE hg (fun b _ => Clear.nil b) hu hk0 hQ (by rw [← PyData.shownKv_eq]; exact hz')
end
def kD : Key → PyData
  | .inl i => .int i
  | .inr x => .str x
mutual
inductive DpX (K : PySem.W.Frag) (H : Hp) : V → PyData → Prop
  | non : DpX K H .non .none
  | bl (b : Bool) : DpX K H (.bl b) (.bool b)
  | int (i : Int) : DpX K H (.int i) (.int i)
  | str (x : Str) : DpX K H (.str x) (.str x)
  | lst {a : Addr} {xs : List V} {ds : List PyData} : Rd H a (.lst xs) → DpXs K H xs ds → DpX K H (.ref a) (.list ds)
  | tup {a : Addr} {xs : List V} {ds : List PyData} : Rd H a (.tup xs) → DpXs K H xs ds → DpX K H (.ref a) (.tuple ds)
  | dctT {a : Addr} : Rd H a (.dT []) → DpX K H (.ref a) (.dict [])
  | dct {a : Addr} {kvs : List (Key × V)} {ds : List PyData} : Rd H a (.dK kvs) → DpXs K H (kvs.map (·.2)) ds → DpX K H (.ref a) (.dict ((kvs.map fun p => kD p.1).zip ds))
inductive DpXs (K : PySem.W.Frag) (H : Hp) : List V → List PyData → Prop
  | nil : DpXs K H [] []
  | cons {v : V} {vs : List V} {d : PyData} {ds : List PyData} : DpX K H v d → DpXs K H vs ds → DpXs K H (v :: vs) (d :: ds)
end
section
variable {X : Cx} {pins : List (Addr × Obj)} {σ : L2.St} {H : Hp} {s : Shared}
theorem keys_rdx {w : World} {h : Heap} : ∀ {es : List DictEntry} {ks : List Key} {vs : List (Key × Value)}, Pairs (mixKind X.prog w) es vs → vs.map (·.1) = ks → RdXs h (es.map (·.key)) (ks.map kD)
  | _, _, _, .nil, e => by subst e; exact .nil
  | _, _, _, .cons (kv := kv) h1 _ r, e => by
    subst e
    refine .cons ?_ (keys_rdx r rfl)
    show RdX h _ (kD kv.1)
    dsimp only
    rcases keyIs_shape h1 with ⟨i, t, e1, e2⟩ | ⟨x, t, e1, e2⟩
    · rw [e1, e2]; exact .int i t
    · rw [e1, e2]; exact .str x t
theorem pairs_vals {w : World} : ∀ {es : List DictEntry} {vs : List (Key × Value)}, Pairs (mixKind X.prog w) es vs → es.map (·.val) = vs.map (·.2)
  | _, _, .nil => rfl
  | _, _, .cons _ h2 r => by rw [List.map_cons, List.map_cons, h2, pairs_vals r]
theorem kv_two : ∀ {kvs : List (Key × V)} {vs : List (Key × Value)}, KV kvs vs → vs.map (·.1) = kvs.map (·.1) ∧ Vals (kvs.map (·.2)) (vs.map (·.2))
  | _, _, .nil => ⟨rfl, .nil⟩
  | _, _, .cons h r => by
    obtain ⟨a, b⟩ := kv_two r
    exact ⟨by rw [List.map_cons, List.map_cons, a, h.1], .cons h.2 b⟩
theorem RdXs.len {h : Heap} : ∀ {vs : List Value} {ds : List PyData}, RdXs h vs ds → vs.length = ds.length
  | _, _, .nil => rfl
  | _, _, .cons _ r => by rw [List.length_cons, List.length_cons, RdXs.len r]
mutual
theorem DpX.rdx (I : Inv X pins σ H s) : ∀ {v : V} {d : PyData}, DpX X.K H v d → ∀ u : Value, RelV v u → RdX s.heap u d
  | _, _, .non, _, r => by
    cases r
    exact .non
  | _, _, .bl b, _, r => by
    cases r
    exact .bl b
  | _, _, .int i, _, r => by
    obtain ⟨t, rfl⟩ := r
    exact .int i t
  | _, _, .str x, _, r => by
    obtain ⟨t, rfl⟩ := r
    exact .str x t
  | _, _, .lst hs ha, _, r => by
    cases r
    obtain ⟨its, rv, ⟨o, n, ho, hc, _, hd⟩, _⟩ := I.list (.inl hs)
    exact .lst ho hc hd (DpX.rdxs I ha its rv)
  | _, _, .tup hs ha, _, r => by
    cases r
    obtain ⟨its, rv, ⟨o, ho, hc, n, hd⟩, _⟩ := I.tuple (.inl hs)
    exact .tup ho hc hd (DpX.rdxs I ha its rv)
  | _, _, .dctT (a := p) hp, u, r => by
    cases (show u = Value.ref p from r)
    obtain ⟨_, n, vs, kv, o, es, ep, g1, g2, g3, g4, _⟩ := hp.ok I.hok
    cases kv
    have e0 : es.toList = [] := g4
    exact .dct (kvs := []) g1 g2.1 g3 n (by rw [e0]; exact .nil) (by rw [e0]; exact .nil)
  | _, _, .dct (a := p) (kvs := kvs) (ds := ds) hp ha, u, r => by
    cases (show u = Value.ref p from r)
    obtain ⟨_, n, vs, kv, o, es, ep, g1, g2, g3, _, g4, _⟩ := hp.ok I.hok
    obtain ⟨e1, rv⟩ := kv_two kv
    have hv := DpX.rdxs I ha _ rv
    have hk := keys_rdx (h := s.heap) g4 e1
    have hl : (kvs.map fun p => kD p.1).length = ds.length := by
      have q1 := hv.len
      have q2 := hk.len
      have q3 := congrArg List.length (pairs_vals g4)
      have q4 := congrArg List.length e1
      simp only [List.length_map] at q1 q2 q3 q4 ⊢
      omega
    refine .dct g1 g2.1 g3 n ?_ ?_
    · rw [List.map_fst_zip (Nat.le_of_eq hl)]
      rw [List.map_map] at hk
      exact hk
    · rw [List.map_snd_zip (Nat.le_of_eq hl.symm), pairs_vals g4]
      exact hv
theorem DpX.rdxs (I : Inv X pins σ H s) : ∀ {vs : List V} {ds : List PyData}, DpXs X.K H vs ds → ∀ us : List Value, Vals vs us → RdXs s.heap us ds
  | _, _, .nil, _, r => by
    cases r
    exact .nil
  | _, _, .cons h1 h2, _, r => by
    cases r with
    | cons r1 r2 => exact .cons (DpX.rdx I h1 _ r1) (DpX.rdxs I h2 _ r2)
end
end
def rReprD (K : PySem.W.Frag) : List V → Hp → VK → Prop := fun xs H Q => ∃ x d, xs = [x] ∧ DpX K H x d ∧ d.showable = true ∧ d.shown.length ≤ sizeLine ∧ d.depth ≤ 60 ∧ Q (.str d.shown) H
theorem call_repr {X : Cx} {k : Nat} (hr : RoomG k X.A) : CallR X (.builtin "repr") (rReprD X.K) := by
  intro pins s σ H xs us Q I r h
  obtain ⟨x, d, rfl, hd, hs, hl, hz, q⟩ := h
  obtain ⟨u, rfl, ru⟩ := vals_one r
  have units := hr.r.units
  have big : ∀ {a : Addr}, RdX s.heap (.ref a) d → wpAny (model X.prog X.w) X.A (call (.builtin "repr") [.ref a]) (EP X pins σ Q) X.xe s := fun {a} rd => by
    obtain ⟨T, idr, S⟩ := shows_rdx (prog := X.prog) (w := X.w) rd hs hl
    exact call_repr_slot (by omega) (S.typeIs s (fun _ _ z => z)) S.slotRepr (S.call X.A.in1 X.xe s _ hr.g (by show X.A.units + 1 + d.depth < cLine; omega) (fun _ _ z => z) fun h' u tk hk => ⟨_, _, rfl, ⟨.str d.shown, H, I.kept (t' := tk) hk, ⟨_, rfl⟩, q⟩⟩)
  have rd := DpX.rdx I hd u ru
  cases hd with
  | non =>
    cases (show u = Value.none from ru)
    exact PySem.P.repr_of_none ⟨.str _, H, I.tok _, ⟨_, rfl⟩, by simpa only [PyData.shown] using q⟩
  | bl b =>
    cases (show u = Value.bool b from ru)
    exact PySem.P.repr_of_bool ⟨.str _, H, I.tok _, ⟨_, rfl⟩, by simpa only [PyData.shown] using q⟩
  | int i =>
    obtain ⟨t, rfl⟩ := (show ∃ t, u = Value.int i t from ru)
    exact PySem.P.repr_of_int (by simpa [PyData.showable] using hs) ⟨.str _, H, I.tok _, ⟨_, rfl⟩, by simpa only [PyData.shown] using q⟩
  | str z =>
    obtain ⟨t, rfl⟩ := (show ∃ t, u = Value.str z t from ru)
    exact PySem.P.repr_of_str ⟨.str _, H, I.tok _, ⟨_, rfl⟩, by simpa only [PyData.shown] using q⟩ (by simpa only [PyData.shown] using hl)
  | lst _ _ => cases (show u = Value.ref _ from ru); exact big rd
  | tup _ _ => cases (show u = Value.ref _ from ru); exact big rd
  | dctT _ => cases (show u = Value.ref _ from ru); exact big rd
  | dct _ _ => cases (show u = Value.ref _ from ru); exact big rd
def kyD : MV → Option PyData
  | .int i => some (.int i)
  | .str x => some (.str x)
  | _ => none
def toX (st : Sto) : Nat → MV → Option PyData
  | 0, _ => none
  | k + 1, m => match vw st m with
    | .non => some .none
    | .bl b => some (.bool b)
    | .int i => some (.int i)
    | .str x => some (.str x)
    | .lst xs => (mapO (toX st k) xs).map .list
    | .tup xs => (mapO (toX st k) xs).map .tuple
    | .dct [] => some (.dict [])
    | .dct ps => (match mapO kyD (ps.map (·.1)), mapO (toX st k) (ps.map (·.2)) with
      | some ks, some ds => some (.dict (ks.zip ds))
      | _, _ => none)
    | _ => none
section
variable {mg : Wd} {S : Addr → Prop} {ι : List Addr} {H : Hp} {st : Sto} {v : V} {m : MV}
theorem dpXs_of {f : MV → Option PyData} : ∀ {ms : List MV} {vs : List V} {ds : List PyData}, AllD mg S ι H vs ms → (∀ v m d, Dt mg S ι H v m → f m = some d → DpX mg.K H v d) → mapO f ms = some ds → DpXs mg.K H vs ds
  | [], vs, ds, a, h, e => by
    obtain rfl := a.inv_nil
    cases e; exact .nil
  | m :: ms, vs, ds, a, h, e => by
    obtain ⟨v, vs', rfl, d, r⟩ := a.inv_cons
    unfold mapO at e
    split at e
    · rename_i y ys e1 e2
      cases e
      exact .cons (h v m y d e1) (dpXs_of r h e2)
    · cases e
theorem kyD_keys : ∀ {kvs : List (Key × V)} {ps : List (MV × MV)} {ks : List PyData}, kvs.length = ps.length → (∀ (i : Nat) kv q, kvs[i]? = some kv → ps[i]? = some q → q.1 = kM kv.1) → mapO kyD (ps.map (·.1)) = some ks → ks = kvs.map fun q => kD q.1
  | [], [], ks, _, _, e => by cases e; rfl
  | kv :: kvs, p :: ps, ks, hl, h, e => by
    have h0 := h 0 kv p rfl rfl
    rw [List.map_cons] at e
    unfold mapO at e
    split at e
    · rename_i y ys e1 e2
      cases e
      rw [h0] at e1
      have := kyD_keys (kvs := kvs) (ps := ps) (by simpa using hl) (fun i a b q1 q2 => h (i + 1) a b (by simpa using q1) (by simpa using q2)) e2
      rw [List.map_cons, ← this]
      cases hk : kv.1 with
      | inl i => rw [hk] at e1; cases e1; rfl
      | inr x => rw [hk] at e1; cases e1; rfl
    · cases e
theorem VR.dpx (r : Rep mg S ι H st) : ∀ (k : Nat) (v : V) (m : MV) (d : PyData), VR mg S ι H v (vw st m) → toX st k m = some d → DpX mg.K H v d
  | 0, v, m, d, h, e => by cases e
  | k + 1, v, m, d, h, e => by
    have go : ∀ v m d, Dt mg S ι H v m → toX st k m = some d → DpX mg.K H v d := fun v m d q e => VR.dpx r k v m d (q.vr r) e
    unfold toX at e
    split at e
    · rename_i q; rw [q] at h; cases h; cases e; exact .non
    · rename_i q; rw [q] at h; cases h; cases e; exact .bl _
    · rename_i q; rw [q] at h; cases h; cases e; exact .int _
    · rename_i q; rw [q] at h; cases h; cases e; exact .str _
    · rename_i xs q
      rw [q] at h
      obtain ⟨p, vs, rfl, h1, d1⟩ := h
      obtain ⟨ds, e1, rfl⟩ := Option.map_eq_some_iff.mp e
      exact .lst (.inl h1) (dpXs_of d1 go e1)
    · rename_i xs q
      rw [q] at h
      obtain ⟨p, vs, rfl, h1, d1⟩ := h
      obtain ⟨ds, e1, rfl⟩ := Option.map_eq_some_iff.mp e
      exact .tup (.inl h1) (dpXs_of d1 go e1)
    · rename_i q
      rw [q] at h
      cases e
      obtain ⟨p, rfl, ⟨kvs, g, hl, _⟩ | ⟨kvs, g, hl, _⟩⟩ := h
      · obtain rfl := List.length_eq_zero_iff.mp hl
        exact .dct (ds := []) g .nil
      · obtain rfl := List.length_eq_zero_iff.mp hl
        exact .dctT g
    · rename_i ps hne q
      rw [q] at h
      split at e
      · rename_i ks ds e1 e2
        cases e
        obtain ⟨p, rfl, ⟨kvs, g, hl, hi⟩ | ⟨kvs, g, hl, hi⟩⟩ := h
        · have hk : ks = kvs.map fun q => kD q.1 := kyD_keys hl (fun i kv q a b => (hi i kv q a b).1) e1
          rw [hk]
          exact .dct g (dpXs_of ⟨by simp [hl], fun i v m a b => by
            rw [List.getElem?_map] at a b
            obtain ⟨kv, h1, rfl⟩ := Option.map_eq_some_iff.mp a
            obtain ⟨q, h2, rfl⟩ := Option.map_eq_some_iff.mp b
            exact (hi i kv q h1 h2).2⟩ go e2)
        · exfalso
          cases ps with
          | nil => exact hne rfl
          | cons q1 ps =>
            cases kvs with
            | nil => cases hl
            | cons kv kvs =>
              have h0 := (hi 0 kv q1 rfl rfl).1
              rw [List.map_cons, h0] at e1
              cases e1
      · cases e
    · cases e
end
def gRepr : GL
  | st, [m] => (toX st dpt m).bind fun d => if d.showable = true ∧ d.shown.length ≤ sizeLine ∧ d.depth ≤ 60 then some (.str d.shown, false) else none
  | _, _ => none
theorem ok_repr {X : Cx} : CallOk X (rReprD X.K) gRepr := by
  intro S ι H st vs as z Q hr ha e w
  unfold gRepr at e
  split at e
  case h_2 => cases e
  rename_i m
  obtain ⟨v, rfl, vr⟩ := ha.one
  obtain ⟨d, ed, e⟩ := Option.bind_eq_some_iff.mp e
  split at e
  case isFalse => cases e
  rename_i hc
  cases e
  exact ⟨v, d, rfl, VR.dpx (mg := X.wd) hr _ v m d (by rw [vw_of_vr vr]; exact vr) ed, hc.1, hc.2.1, hc.2.2, w _ (.str _)⟩
def gIn (neg : Bool) : G2 := fun st a b => match toD st dpt a, toD st dpt b with
  | some d, some (.list ds) => if SeqAt.shaped d = true ∧ SeqAt.shaped (.list ds) = true then some (.bl (if neg then !(ds.any fun z => PyData.eqv z d) else ds.any fun z => PyData.eqv z d), false) else none
  | _, _ => none
theorem ok_in {X : Cx} : Op2 X (rInD X.K) (gIn false) := by
  intro S ι H st x y a b z Q hr ha hb e w
  unfold gIn at e
  split at e
  · rename_i d ds e1 e2
    split at e
    · rename_i hs
      cases e
      exact ⟨d, ds, VR.dp (mg := X.wd) hr _ x a d (by rw [vw_of_vr ha]; exact ha) e1, VR.dp (mg := X.wd) hr _ y b (.list ds) (by rw [vw_of_vr hb]; exact hb) e2, hs.1, hs.2, w _ (.bl _)⟩
    · cases e
  · cases e
theorem ok_notIn {X : Cx} : Op2 X (rNotInD X.K) (gIn true) := by
  intro S ι H st x y a b z Q hr ha hb e w
  unfold gIn at e
  split at e
  · rename_i d ds e1 e2
    split at e
    · rename_i hs
      cases e
      exact ⟨d, ds, VR.dp (mg := X.wd) hr _ x a d (by rw [vw_of_vr ha]; exact ha) e1, VR.dp (mg := X.wd) hr _ y b (.list ds) (by rw [vw_of_vr hb]; exact hb) e2, hs.1, hs.2, w _ (.bl _)⟩
    · cases e
  · cases e
end FW
namespace FW
open PySem L2 PySem.Spec PyProof.Rows
def tyOk (T : String) : MV → Bool
  | .lst _ => T == "list"
  | .str _ => T == "str"
  | .int _ => T == "int"
  | _ => false
def mBm (T : String) (gl : GL) (fo : EF) (g : AF) : EF := fun lo st => fo lo st >>= fun (t, _, st1) => if tyOk T (vw st1 t) = true then g lo st1 >>= fun (l, st2) => giveOut (gl st2 (vw st2 t :: l.map fun z => vw st2 z.1)) st2 else .bad
def mBm0 (T : String) (gl : GL) (fo : EF) : EF := fun lo st => fo lo st >>= fun (t, _, st1) => if tyOk T (vw st1 t) = true then giveOut (gl st1 [vw st1 t]) st1 else .bad
end FW
namespace FW
open PySem L2 PySem.Spec PyProof.Rows PySem.W
def one (a : Addr) (o : Option HO) : Hp := fun b => if b = a then o else none
theorem one_ne {a b : Addr} {o : Option HO} (h : b ≠ a) : one a o b = none := if_neg h
theorem one_self {a : Addr} {o : Option HO} : one a o a = o := if_pos rfl
theorem law_end1 {P : Program} {w : World} {K : Frag} {mg mb : Str → Option Value} {k : Nat} {fa a : Addr} {fd : FuncData} {x : Str} {FM : FF} {s1 : Shared} {vs : List Value} {ns : List Int} {oo : Option HO} {S : Addr → Prop}
    (KX : K.In s1.heap) (hns : s1.heap.Ns mainGlobals mg) (hb : s1.heap.Ns builtinsNs mb) (hbb : ∀ x : Str, x ≠ "__name__" → mb x = bootBuiltins x) (hlim : s1.heap.NoLimit) (hg : s1.gens = #[])
    (ha : s1.heap.get? a = some { cls := .type "list", data := .seq vs.toArray }) (hr : RoomG k callerA)
    (F : ∀ base : Heap, K.In base → base.Ns mainGlobals mg → FnG P w K mg base k fa fd [x] (spM ⟨K, mg⟩ 1 FM)) (hbind : ∀ (s : Shared) (u : Value), K.In s.heap → BindsTo s fd ⟨[u], []⟩ [(x, u)])
    (hK : oo ≠ none → K.lookup a = none) (hok : HOk P w (one a oo) s1.heap) (hoo : ∀ u, oo = some u → ∃ o xs, u = .frz o (.lst xs)) (hS : ∀ b, S b → oo ≠ none ∧ b = a)
    (hd : Dt ⟨K, mg⟩ S [] (one a oo) (.ref a) (.scr ns)) (hF : ∃ st, FM [.scr ns] [] = .ok (.bl true, false, st)) :
    codeAny (model P w) callerA (.call (.ref fa) ⟨[.ref a], []⟩) (fun r s' => r = .ok (.ret (.bool true)) ∧ OldK s1.heap s'.heap ∧ s'.os = s1.os ∧ AllBare s'.gens) s1 := by
  have hide : ∀ {b : Addr} {o : Obj}, s1.heap.get? b = some o → one a oo b = none → (hidT s1.heap (one a oo)).get? b = some o := fun e n => hidT_get e n
  have away : ∀ {b : Addr} {o : Obj} {es : Array DictEntry} {ep : Nat}, s1.heap.get? b = some o → o.data = .dict es ep → one a oo b = none := by
    intro b o es ep e d
    refine one_ne fun z => ?_
    subst z
    rw [ha] at e; cases e; cases d
  have ns' : ∀ {b : Addr} {m : Str → Option Value}, s1.heap.Ns b m → (hidT s1.heap (one a oo)).Ns b m := by
    rintro b m ⟨o, es, ep, e, d, r⟩
    exact ⟨o, es, ep, hide e (away e d), d, r⟩
  have kin : K.In (hidT s1.heap (one a oo)) := by
    intro b o e
    refine hide (KX b o e) ?_
    by_cases z : b = a
    · subst z
      rw [one_self]
      cases q : oo with
      | none => rfl
      | some u => rw [hK (by rw [q]; exact fun y => nomatch y)] at e; cases e
    · exact one_ne z
  obtain ⟨mc, l1, l2⟩ := hlim
  have e0 : Env0 P w K mg (hidT s1.heap (one a oo)) callerA [] s1 (one a oo) :=
    { frames := rfl, mod := ⟨kin, ns' hns, ⟨mb, ns' hb, hbb⟩, ⟨mc, ns' l1, l2⟩⟩, bs := fun b o e => of_hidT e, bsz := Nat.le_of_eq (hidT_size _ _), funs := trivial, frf := fun b z => absurd (show b ∈ ([] : List Addr) from z) List.not_mem_nil, hok := hok, bare := .of_eq hg }
  obtain ⟨st, hF⟩ := hF
  have rep : Rep ⟨K, mg⟩ S [] (one a oo) [] := by
    refine ⟨rfl, List.nodup_nil, fun b z => absurd z List.not_mem_nil, fun b z => ?_, fun n b m z => by simp at z⟩
    obtain ⟨h1, rfl⟩ := hS b z
    rw [one_self]
    cases oo with
    | none => exact absurd rfl h1
    | some u => exact ⟨u, rfl⟩
  have sp : spM ⟨K, mg⟩ 1 FM [.ref a] (one a oo) (fun v _ => v = .bl true) (fun _ _ _ => False) := by
    refine ⟨rfl, S, [], [], [.scr ns], rep, AllD.cons hd .nil, ?_⟩
    rw [hF]
    intro S' ι' H' v _ _ rv
    cases (show Dt ⟨K, mg⟩ S' ι' H' v (.bl true) from rv)
    rfl
  refine codeAny_mono ((F _ kin (ns' hns)).run callerA [] s1 (one a oo) ⟨[.ref a], []⟩ [.ref a] [.ref a] _ _ hr e0 (hbind s1 (.ref a) KX) (.cons rfl .nil) sp) fun r s' h => ?_
  rcases r with e | (_ | _ | _ | u)
  · obtain ⟨_, _, _, _, _, _, _, _, _, _, _, _, z⟩ := (show L2.CX P w [] (one a oo) s1 (fun _ _ _ => False) e s' from h)
    exact z.elim
  · exact (show False from h).elim
  · exact (show False from h).elim
  · exact (show False from h).elim
  · obtain ⟨v, H2, os, bare, un, hok2, rv, q⟩ := (show CE [] P w (one a oo) s1 (fun v _ => v = .bl true) u s' from h)
    subst q
    obtain rfl : u = Value.bool true := rv
    refine ⟨rfl, OldK.of_keep fun b o e => ?_, os, bare⟩
    by_cases z : b = a
    · subst z
      cases q : oo with
      | none => exact un.keep b o e (by rw [one_self, q]) (fun z => nomatch z) (fun z => nomatch z)
      | some u =>
        obtain ⟨ob, xs, rfl⟩ := hoo u q
        have t0 : one b oo b = some (.frz ob (.lst xs)) := by rw [one_self, q]
        have t2 := un.frzs b ob _ t0
        obtain ⟨g1, _⟩ := hok b _ t0
        obtain ⟨g2, _⟩ := hok2 b _ t2
        rw [g1] at e; cases e; exact g2
    · exact un.keep b o e (one_ne z) (fun z => nomatch z) (fun z => nomatch z)
theorem law_end {l : OpenLaw} {n k : Nat} {q : Program} {loose : List Str} {XP : (Str → Option Value) → Heap → Prop} {YP : World → Heap → Prop} {d : DefRec} {K : Params → Frag} {FM : FF} {x : Str}
    (hn : l.most = some n) (hn2 : n ≤ sizeLine) (hdf : d.params.defaults = []) (hr : RoomG k callerA) (hY : ∀ (w : World) (h : Heap), YP w h → (K w.params).In h)
    (F : ∀ (w : World) (mg : Str → Option Value) (fa : Addr) (h : Heap), (K w.params).In h → h.Ns mainGlobals mg → mg d.name = some (.ref fa) →
      ∃ fd : FuncData, (∀ (s : Shared) (u : Value), (K w.params).In s.heap → BindsTo s fd ⟨[u], []⟩ [(x, u)]) ∧ ∀ base : Heap, (K w.params).In base → base.Ns mainGlobals mg → FnG l.prog w (K w.params) mg base k fa fd [x] (spM ⟨K w.params, mg⟩ 1 FM))
    (hF : ∀ ns : List Int, ns.length ≤ n → ∃ st, FM [.scr ns] [] = .ok (.bl true, false, st)) :
    WalkO q loose XP YP l.row.toRowW d [] (fun f vs => PySem.call f vs) := by
  refine Att.attach_call hn hdf fun w s0 s1 mg mb fa o pm cd doc a vs ns G Y ho hd hcd hmg hobj hints hlen hg => ?_
  have KX := hY w _ Y
  obtain ⟨fd, hb, hF2⟩ := F w mg fa _ KX G.T.g hmg
  have rv := vals_ints hints
  have hl : ns.length ≤ sizeLine := Nat.le_trans hlen hn2
  have lenV := hints.length
  cases hk : (K w.params).lookup a with
  | some ob =>
    have e := KX a ob hk
    rw [hobj] at e; cases e
    refine law_end1 (oo := none) (S := fun _ => False) (ns := ns) KX G.T.g G.T.b G.T.builtins G.T.nolimit hg hobj hr hF2 hb (fun z => absurd rfl z) (fun b u z => ?_) (fun u z => nomatch z) (fun b z => z.elim) (.scr (.inr fun H' => ?_)) (hF ns hlen)
    · have z2 : one a none b = some u := z
      unfold one at z2
      split at z2 <;> cases z2
    · exact .inr ⟨_, vs.toArray, _, hk, rfl, rfl, rfl, by rw [List.size_toArray, lenV]; exact hl, by simpa using rv⟩
  | none =>
    refine law_end1 (oo := some (.frz { cls := .type "list", data := .seq vs.toArray } (.lst (ns.map V.int)))) (S := fun b => b = a) (ns := ns) KX G.T.g G.T.b G.T.builtins G.T.nolimit hg hobj hr hF2 hb (fun _ => hk) (fun b u z => ?_) (fun u z => ?_) (fun b z => ⟨(fun y => nomatch y), z⟩) (.scr (.inl ⟨rfl, .inr ⟨_, one_self⟩⟩)) (hF ns hlen)
    · unfold one at z
      split at z
      · cases z
        rename_i hb'
        subst hb'
        exact ⟨hobj, by rw [List.length_map]; exact hl, vs, _, rv, hobj⟩
      · cases z
    · cases z; exact ⟨_, _, rfl⟩
end FW
namespace FW
open PySem L2 PySem.Spec PyProof.Rows PySem.W
theorem end_use {P : Program} {w : World} {K : Frag} {mg : Str → Option Value} {k : Nat} {fa : Addr} {x : Str} {sp : Sp} (h : ∃ fd : FuncData, (∀ (s : Shared) (v : Value), K.In s.heap → BindsTo s fd ⟨[v], []⟩ [(x, v)]) ∧ ∀ (w : World) (base : Heap), FnG P w K mg base k fa fd [x] sp) :
    ∃ fd : FuncData, (∀ (s : Shared) (u : Value), K.In s.heap → BindsTo s fd ⟨[u], []⟩ [(x, u)]) ∧ ∀ base : Heap, K.In base → base.Ns mainGlobals mg → FnG P w K mg base k fa fd [x] sp := by
  obtain ⟨fd, h1, h2⟩ := h
  exact ⟨fd, h1, fun base _ _ => h2 w base⟩
end FW
namespace FW
open PySem L2 PySem.Spec PyProof.Rows
def tys7 : List String := ["NoneType", "bool", "int", "str", "tuple", "list", "dict"]
def isT (T t : String) : Option Bool := if t ∈ tys7 then some (t == T || (T == "int" && t == "bool")) else none
theorem isT_by {K : PySem.W.Frag} {T : String} (h : ∀ t ∈ tys7, kitB t T = some (t == T || (T == "int" && t == "bool"))) : ∀ t b, isT T t = some b → PySem.W.kitOne K (.type t) (.type T) = some b := by
  intro t b e
  unfold isT at e
  split at e
  · rename_i m
    cases e
    exact kit_ty (h t m)
  · cases e
theorem isT_int {K : PySem.W.Frag} : ∀ t b, isT "int" t = some b → PySem.W.kitOne K (.type t) (.type "int") = some b := isT_by (by decide +kernel)
theorem isT_bool {K : PySem.W.Frag} : ∀ t b, isT "bool" t = some b → PySem.W.kitOne K (.type t) (.type "bool") = some b := isT_by (by decide +kernel)
theorem isT_str {K : PySem.W.Frag} : ∀ t b, isT "str" t = some b → PySem.W.kitOne K (.type t) (.type "str") = some b := isT_by (by decide +kernel)
theorem isT_tuple {K : PySem.W.Frag} : ∀ t b, isT "tuple" t = some b → PySem.W.kitOne K (.type t) (.type "tuple") = some b := isT_by (by decide +kernel)
theorem isT_list {K : PySem.W.Frag} : ∀ t b, isT "list" t = some b → PySem.W.kitOne K (.type t) (.type "list") = some b := isT_by (by decide +kernel)
def noC : Str → Option Bool := fun _ => none
def eqc (l : List Str) (d : Str) : Str → Option Bool := fun c => if c ∈ l then some (decide (c = d)) else none
theorem eqc_use {l : List Str} {d : Str} {mg : Str → Option Value} {R : Addr → Bool → Prop} (h : ∀ c, c ∈ l → ∀ C, mg c = some (.ref C) → R C (decide (c = d))) : ∀ n C b, eqc l d n = some b → mg n = some (.ref C) → R C b := by
  intro n C b e hm
  unfold eqc at e
  split at e
  · rename_i m
    cases e
    exact h n m C hm
  · cases e
def noT (t : String) : Option Bool := if t ∈ tys7 then some false else none
theorem noT_by {K : PySem.W.Frag} {D : Addr} (c : PySem.W.isClsIn K D = true) (ty : PySem.W.typeIn K (.ref D) = some (.type "type")) (h : ∀ t ∈ tys7, PySem.W.subIn K (.type t) (.ref D) = some false) : ∀ t b, noT t = some b → PySem.W.kitOne K (.type t) (.ref D) = some b := by
  intro t b e
  unfold noT at e
  split at e
  · rename_i m
    cases e
    unfold PySem.W.kitOne PySem.W.kitCls
    have hc : (PySem.W.clsIn K D).isSome = true := c
    have hn : ¬ ((Value.type t == Value.ref D) = true) := by simp
    rw [if_neg hn]
    show (if ((PySem.W.clsIn K D).isSome && PySem.W.typeIn K (.ref D) == some (.type "type")) = true then PySem.W.subIn K (.type t) (.ref D) else none) = some false
    rw [hc, ty, if_pos (by decide +kernel)]
    exact h t m
  · cases e
def noRefs (o : Option (List Value)) : Bool := match o with
  | some l => l.all (fun v => match v with | .ref _ => false | _ => true)
  | none => false
theorem noRefs_map {D : Addr} {o : Option (List Value)} (h : noRefs o = true) : o.map (fun x => x.contains (.ref D)) = some false := by
  cases o with
  | none => cases h
  | some l =>
    show some (l.contains (.ref D)) = some false
    congr 1
    rw [Bool.eq_false_iff]
    intro z
    cases List.all_eq_true.mp h _ (List.contains_iff_mem.mp z)
theorem sub_ty_own {K : PySem.W.Frag} {D : Addr} {T : String} (h : noRefs (PySem.fastBuiltinMro T) = true) : PySem.W.subIn K (.type T) (.ref D) = some false := by
  show (PySem.fastBuiltinMro T).map (fun x => x.contains (.ref D)) = some false
  exact noRefs_map h
theorem sub7 {K : PySem.W.Frag} {D : Addr} : ∀ t ∈ tys7, PySem.W.subIn K (.type t) (.ref D) = some false := by
  intro t m
  unfold tys7 at m
  simp only [List.mem_cons, List.not_mem_nil, or_false] at m
  rcases m with rfl | rfl | rfl | rfl | rfl | rfl | rfl
  all_goals exact sub_ty_own (by decide +kernel)
theorem noT_ok {K : PySem.W.Frag} {D : Addr} (c : PySem.W.isClsIn K D = true) (ty : PySem.W.typeIn K (.ref D) = some (.type "type")) : ∀ t b, noT t = some b → PySem.W.kitOne K (.type t) (.ref D) = some b := noT_by c ty sub7
theorem kit_own {K : PySem.W.Frag} {C D : Addr} {b : Bool} (c : PySem.W.isClsIn K D = true) (ty : PySem.W.typeIn K (.ref D) = some (.type "type")) (h : PySem.W.subIn K (.ref C) (.ref D) = some b) (hb : C = D → b = true) : PySem.W.kitOne K (.ref C) (.ref D) = some b := by
  unfold PySem.W.kitOne PySem.W.kitCls
  by_cases e : C = D
  · subst e
    rw [if_pos (by simp), hb rfl]
  · have hn : ¬ ((Value.ref C == Value.ref D) = true) := by simpa using e
    have hc : (PySem.W.clsIn K D).isSome = true := c
    rw [if_neg hn]
    show (if ((PySem.W.clsIn K D).isSome && PySem.W.typeIn K (.ref D) == some (.type "type")) = true then PySem.W.subIn K (.ref C) (.ref D) else none) = some b
    rw [hc, ty, if_pos (by decide +kernel)]
    exact h
section
variable {X : Cx} {B : Base} {W : WX} {a : Expr} {fa : EF} {p p2 pos : Pos}
theorem se_isT (T : String) {oi oe : Str → Option Bool} {x : Str} (hg : Gl X "isinstance") (hm : X.mg "isinstance" = none) (hg2 : Gl X x) (hm2 : X.mg x = none) (hv : bootBuiltins x = some (.type T)) (hA : ∀ t b, isT T t = some b → PySem.W.kitOne X.K (.type t) (.type T) = some b)
    (ha : SE X B W a fa) (hI : ∀ n C b, oi n = some b → X.mg n = some (.ref C) → InsC X.K C ∧ PySem.W.kitOne X.K (.ref C) (.type T) = some b)
    (hE : ∀ n C b, oe n = some b → X.mg n = some (.ref C) → ExcC X.K C ∧ PySem.W.kitOne X.K (.ref C) (.type T) = some b) (hn : x ≠ "__name__" := by decide) (hd : (x == ("__debug__" : Str)) = false := by decide)
    (he : starEach [a, .Name x p2] X.env = (false, eval a X.env) :: starEach [.Name x p2] X.env := by rfl) (he2 : starEach [.Name x p2] X.env = (false, eval (.Name x p2) X.env) :: starEach [] X.env := by rfl) (hpl : (backTo pos (starEach [.Name x p2] X.env)).any (·.1) = false := by rfl) :
    SE X B W (.Call (.Name "isinstance" p) [a, .Name x p2] [] pos) (mIsi (isT T) oi oe fa) :=
  se_isi hg hm ha (pe_bltn hg2 hm2 hv (v := .ty T) rfl hn hd) (.ty T) hA hI hE he he2 hpl
theorem noC_I {R : Addr → Bool → Prop} {mg : Str → Option Value} : ∀ n C b, noC n = some b → mg n = some (.ref C) → R C b := fun n C b h => by cases h
theorem se_isD {oi oe : Str → Option Bool} {x : Str} {D : Addr} (hg : Gl X "isinstance") (hm : X.mg "isinstance" = none) (hg2 : Gl X x) (hm2 : X.mg x = some (.ref D)) (hA : ∀ t b, noT t = some b → PySem.W.kitOne X.K (.type t) (.ref D) = some b)
    (ha : SE X B W a fa) (hI : ∀ n C b, oi n = some b → X.mg n = some (.ref C) → InsC X.K C ∧ PySem.W.kitOne X.K (.ref C) (.ref D) = some b)
    (hE : ∀ n C b, oe n = some b → X.mg n = some (.ref C) → ExcC X.K C ∧ PySem.W.kitOne X.K (.ref C) (.ref D) = some b) (hd : (x == ("__debug__" : Str)) = false := by decide)
    (he : starEach [a, .Name x p2] X.env = (false, eval a X.env) :: starEach [.Name x p2] X.env := by rfl) (he2 : starEach [.Name x p2] X.env = (false, eval (.Name x p2) X.env) :: starEach [] X.env := by rfl) (hpl : (backTo pos (starEach [.Name x p2] X.env)).any (·.1) = false := by rfl) :
    SE X B W (.Call (.Name "isinstance" p) [a, .Name x p2] [] pos) (mIsi noT oi oe fa) :=
  se_isi hg hm ha (pe_glob hg2 hm2 (v := .ref D) rfl hd) (.own D) hA hI hE he he2 hpl
end
section
variable {X : Cx} {B : Base} {W : WX} {a b : Expr} {fa fb : EF} {pos : Pos} {k : Nat}
theorem st_lt (ha : SE X B W a fa) (hb : SE X B W b fb) : STe X B W (.Compare a [.Lt] [b] pos) (mTv (mOp gLt fa fb)) := st_cmp op_lt (ok_i0 fun _ _ _ _ _ _ => .bl _) ha hb (nomark _)
theorem st_gt (ha : SE X B W a fa) (hb : SE X B W b fb) : STe X B W (.Compare a [.Gt] [b] pos) (mTv (mOp gGt fa fb)) := st_cmp op_gt (ok_i0 fun _ _ _ _ _ _ => .bl _) ha hb (nomark _)
theorem st_ge (ha : SE X B W a fa) (hb : SE X B W b fb) : STe X B W (.Compare a [.GtE] [b] pos) (mTv (mOp gGe fa fb)) := st_cmp op_ge (ok_i0 fun _ _ _ _ _ _ => .bl _) ha hb (nomark _)
theorem st_eq (hr : RoomG k X.A) (ha : SE X B W a fa) (hb : SE X B W b fb) : STe X B W (.Compare a [.Eq] [b] pos) (mTv (mOp (gEqB false) fa fb)) := st_cmp (op_eqD hr.r.units) ok_eq ha hb (nomark _)
theorem st_ne (hr : RoomG k X.A) (ha : SE X B W a fa) (hb : SE X B W b fb) : STe X B W (.Compare a [.NotEq] [b] pos) (mTv (mOp (gEqB true) fa fb)) := st_cmp (op_neD hr.r.units) ok_ne ha hb (nomark _)
theorem st_isN (ha : SE X B W a fa) (hb : SE X B W b fb) : STe X B W (.Compare a [.Is] [b] pos) (mTv (mOp (gIsN false) fa fb)) := st_cmp op_isN ok_isN ha hb (nomark _)
end
theorem binds_def {K : PySem.W.Frag} {x qual : Str} {st : Stmt} {f : Addr} {fd : FuncData} {ps : List Str} (F : Fun K x qual st f fd)
    (h : ∀ (kV doc pm : Value) (an : Option Addr) (cdv ct : Value) (us : List Value), us.length = ps.length → bindArgs (PySem.W.fnOf x qual (defArgs st) (defBody st) (defScope st) .none kV doc pm an cdv ct) ⟨us, []⟩ = pure (ps.zip us)) : Binds K fd ps [] := F.binds h
end FW
namespace FW
open PySem L2 PySem.Spec PyProof.Rows
def inB (l : List Str) : Str → Bool := fun c => decide (c ∈ l)
theorem inB_mem {l : List Str} {c : Str} (h : inB l c = true) : c ∈ l := of_decide_eq_true h
def noB : Str → Bool := fun _ => false
theorem noB_I {R : Addr → Prop} {mg : Str → Option Value} : ∀ n C, noB n = true → mg n = some (.ref C) → R C := fun n C h => by cases h
end FW
namespace FW
open PySem L2 PySem.Spec PyProof.Rows
theorem exm_by {K : PySem.W.Frag} {C D : Addr} {b : Bool} (e : PySem.W.subIn K (.ref D) (.type "BaseException") = some true) (c : PySem.W.isClsIn K D = true) (ty : PySem.W.typeIn K (.ref D) = some (.type "type")) (h : PySem.W.subIn K (.ref C) (.ref D) = some b) : PySem.W.exmOne K (.ref C) (.ref D) = some b := by
  have hc : (PySem.W.clsIn K D).isSome = true := c
  show (if (PySem.W.subIn K (.ref D) (.type "BaseException") == some true) = true then (if ((PySem.W.clsIn K D).isSome && PySem.W.typeIn K (.ref D) == some (.type "type")) = true then PySem.W.subIn K (.ref C) (.ref D) else none) else none) = some b
  rw [e, if_pos (by decide +kernel), hc, ty, if_pos (by decide +kernel)]
  exact h
end FW
namespace FW
open PySem L2 PySem.Spec PyProof.Rows
@[simp] theorem vw_non (st : Sto) : vw st .non = .non := rfl
@[simp] theorem vw_bl (st : Sto) (b) : vw st (.bl b) = .bl b := rfl
@[simp] theorem vw_int (st : Sto) (i) : vw st (.int i) = .int i := rfl
@[simp] theorem vw_str (st : Sto) (x) : vw st (.str x) = .str x := rfl
@[simp] theorem vw_tup (st : Sto) (x) : vw st (.tup x) = .tup x := rfl
@[simp] theorem vw_lst (st : Sto) (x) : vw st (.lst x) = .lst x := rfl
@[simp] theorem vw_dct (st : Sto) (x) : vw st (.dct x) = .dct x := rfl
@[simp] theorem vw_ins (st : Sto) (c x) : vw st (.ins c x) = .ins c x := rfl
@[simp] theorem vw_exc (st : Sto) (c x) : vw st (.exc c x) = .exc c x := rfl
@[simp] theorem vw_scr (st : Sto) (x) : vw st (.scr x) = .scr x := rfl
theorem vw_ref (st : Sto) (n : Nat) {m : MV} (h : st[n]? = some m) (hu : unmk m = true := by rfl) : vw st (.ref n) = m := by show strip ((st[n]?).getD _) = m; rw [h]; exact strip_of hu
section
variable (lo : Lo) (st : Sto)
@[simp] theorem d_mVar (i : Nat) : mVar i lo st = (match lo[i]? with
  | some (some (m, false)) => .ok (m, .fz, st)
  | some (some (m, true)) => .ok (m, .pk i, st)
  | _ => .bad) := (Eq.refl _).trans rfl
@[simp] theorem d_mC (m : MV) : mC m lo st = .ok (m, .fz, st) := (Eq.refl _).trans rfl
@[simp] theorem d_mOp (g : G2) (fa fb : EF) : mOp g fa fb lo st = (fa lo st >>= fun (a, _, st1) => fb lo st1 >>= fun (b, _, st2) => giveOut (g st2 (vw st2 a) (vw st2 b)) st2) := by
  unfold mOp giveOut
  cases fa lo st with
  | ok r =>
    obtain ⟨a, ka, st1⟩ := r
    simp only [Res.ok_bind]
    all_goals (cases fb lo st1 with
      | ok r =>
        obtain ⟨b, kb, st2⟩ := r
        simp only [Res.ok_bind]
        all_goals (rcases g st2 (vw st2 a) (vw st2 b) with _ | ⟨m, _ | _⟩ <;> rfl)
      | exc => rfl
      | bad => rfl)
  | exc => rfl
  | bad => rfl
@[simp] theorem d_give0 (m : MV) : giveOut (some (m, false)) st = .ok (m, .fz, st) := (Eq.refl _).trans rfl
@[simp] theorem d_give1 (m : MV) : giveOut (some (m, true)) st = .ok (m, .fr, st) := (Eq.refl _).trans rfl
@[simp] theorem d_giveN : giveOut none st = .bad := (Eq.refl _).trans rfl
@[simp] theorem d_mUn (g : MV → Option MV) (fa : EF) : mUn g fa lo st = (fa lo st >>= fun (a, _, st1) => match g a with
  | some m => .ok (m, .fz, st1)
  | none => .bad) := (Eq.refl _).trans rfl
@[simp] theorem d_mTv (fa : EF) : mTv fa lo st = (fa lo st >>= fun (a, _, st1) => match a with
  | .bl b => .ok (b, st1)
  | _ => .bad) := (Eq.refl _).trans rfl
@[simp] theorem d_mAnd (fa fb : TF) : mAnd fa fb lo st = (fa lo st >>= fun (a, st1) => if a = true then fb lo st1 else .ok (false, st1)) := (Eq.refl _).trans rfl
@[simp] theorem d_mOr (fa fb : TF) : mOr fa fb lo st = (fa lo st >>= fun (a, st1) => if a = true then .ok (true, st1) else fb lo st1) := (Eq.refl _).trans rfl
@[simp] theorem d_mNotT (fa : TF) : mNotT fa lo st = (fa lo st >>= fun (a, st1) => .ok (!a, st1)) := (Eq.refl _).trans rfl
@[simp] theorem d_mAndV (fa fb : EF) : mAndV fa fb lo st = (fa lo st >>= fun (a, _, st1) => match a with
  | .bl true => fb lo st1
  | .bl false => .ok (.bl false, .fz, st1)
  | _ => .bad) := by
  unfold mAndV
  cases fa lo st with
  | ok r => obtain ⟨a, ka, st1⟩ := r; cases a with
    | bl b => cases b <;> rfl
    | _ => rfl
  | exc => rfl
  | bad => rfl
@[simp] theorem d_mOrV (fa fb : EF) : mOrV fa fb lo st = (fa lo st >>= fun (a, _, st1) => match a with
  | .bl true => .ok (.bl true, .fz, st1)
  | .bl false => fb lo st1
  | _ => .bad) := by
  unfold mOrV
  cases fa lo st with
  | ok r => obtain ⟨a, ka, st1⟩ := r; cases a with
    | bl b => cases b <;> rfl
    | _ => rfl
  | exc => rfl
  | bad => rfl
@[simp] theorem d_mIfE (c : TF) (fa fb : EF) : mIfE c fa fb lo st = (c lo st >>= fun (b, st1) => if b = true then fa lo st1 else fb lo st1) := (Eq.refl _).trans rfl
@[simp] theorem d_mNil : mNil lo st = .ok ([], st) := (Eq.refl _).trans rfl
@[simp] theorem d_mCons (f : EF) (g : AF) : mCons f g lo st = (f lo st >>= fun (m, k, st1) => g lo st1 >>= fun (l, st2) => .ok ((m, isPk k) :: l, st2)) := (Eq.refl _).trans rfl
@[simp] theorem d_isPk1 : isPk .fz = false := (Eq.refl _).trans rfl
@[simp] theorem d_isPk2 : isPk .fr = false := (Eq.refl _).trans rfl
@[simp] theorem d_isPk3 (i) : isPk (.pk i) = true := (Eq.refl _).trans rfl
@[simp] theorem d_isFr1 : isFr .fz = false := (Eq.refl _).trans rfl
@[simp] theorem d_isFr2 : isFr .fr = true := (Eq.refl _).trans rfl
@[simp] theorem d_isFr3 (i) : isFr (.pk i) = true := (Eq.refl _).trans rfl
@[simp] theorem d_allFz0 : allFz [] = some [] := (Eq.refl _).trans rfl
@[simp] theorem d_allFz1 (m : MV) (l) : allFz ((m, false) :: l) = (allFz l).map (m :: ·) := by
  unfold allFz
  simp only [List.all_cons, Bool.not_false, Bool.true_and, List.map_cons]
  split <;> rfl
@[simp] theorem d_allFz2 (m : MV) (l) : allFz ((m, true) :: l) = none := (Eq.refl _).trans rfl
@[simp] theorem d_mLst (g : AF) : mLst g lo st = (g lo st >>= fun (l, st1) => match allFz l with
  | some ms => if ms.length ≤ sizeLine then .ok (.lst ms, .fr, st1) else .bad
  | none => .bad) := (Eq.refl _).trans rfl
@[simp] theorem d_mTup (g : AF) : mTup g lo st = (g lo st >>= fun (l, st1) => match allFz l with
  | some ms => if ms.length ≤ sizeLine then .ok (.tup ms, .fr, st1) else .bad
  | none => .bad) := (Eq.refl _).trans rfl
@[simp] theorem d_mDct0 : mDct0 lo st = .ok (.dct [], .fr, st) := (Eq.refl _).trans rfl
@[simp] theorem d_mCallB (gl : GL) (g : AF) : mCallB gl g lo st = (g lo st >>= fun (l, st1) => giveOut (gl st1 (l.map fun z => vw st1 z.1)) st1) := (Eq.refl _).trans rfl
@[simp] theorem d_mCall (n : Nat) (F : FF) (dms : List MV) (g : AF) : mCall n F dms g lo st = (g lo st >>= fun (l, st1) => callF n F dms l lo st1) := (Eq.refl _).trans rfl
@[simp] theorem d_callF (n : Nat) (F : FF) (dms : List MV) (l) : callF n F dms l lo st = (match allFz l with
  | some ms => if (ms ++ dms).length = n then callR F (ms ++ dms) lo st else .bad
  | none => .bad) := (Eq.refl _).trans rfl
theorem callR_ok {F : FF} {ms : List MV} {m : MV} {b : Bool} {st' : Sto} (h : F ms st = .ok (m, b, st')) : callR F ms lo st = .ok (m, if b then .fr else .fz, st') := by unfold callR; rw [h]
theorem callR_exc {F : FF} {ms : List MV} {c fs lo' st'} (h : F ms st = .exc c fs lo' st') : callR F ms lo st = .exc c fs lo st' := by unfold callR; rw [h]
@[simp] theorem d_mIsi (ans oi oe) (fa : EF) : mIsi ans oi oe fa lo st = (fa lo st >>= fun (a, _, st1) => match tyAns ans oi oe (vw st1 a) with
  | some b => .ok (.bl b, .fz, st1)
  | none => .bad) := (Eq.refl _).trans rfl
@[simp] theorem d_mFld (f oi oe) (fa : EF) : mFld f oi oe fa lo st = (fa lo st >>= fun (a, _, st1) => match gFld f oi oe (vw st1 a) with
  | some m => .ok (m, .fz, st1)
  | none => .bad) := (Eq.refl _).trans rfl
@[simp] theorem d_mBm (T) (gl : GL) (fo : EF) (g : AF) : mBm T gl fo g lo st = (fo lo st >>= fun (t, _, st1) => if tyOk T (vw st1 t) = true then g lo st1 >>= fun (l, st2) => giveOut (gl st2 (vw st2 t :: l.map fun z => vw st2 z.1)) st2 else .bad) := (Eq.refl _).trans rfl
@[simp] theorem d_mBm0 (T) (gl : GL) (fo : EF) : mBm0 T gl fo lo st = (fo lo st >>= fun (t, _, st1) => if tyOk T (vw st1 t) = true then giveOut (gl st1 [vw st1 t]) st1 else .bad) := (Eq.refl _).trans rfl
@[simp] theorem d_mBits (fa : EF) : mBits fa lo st = (fa lo st >>= fun (a, _, st1) => match a with
  | .int i => .ok (.int (Builtin.Int.intBits i : Nat), .fz, st1)
  | _ => .bad) := (Eq.refl _).trans rfl
@[simp] theorem d_mRg (fa fb : EF) : mRg fa fb lo st = (fa lo st >>= fun (a, _, st1) => fb lo st1 >>= fun (b, _, st2) => match a, b with
  | .int i, .int j => if RgOk i j then .ok (.lst ((List.range (j - i).toNat).map fun k => .int (i + (k : Nat))), .fr, st2) else .bad
  | _, _ => .bad) := (Eq.refl _).trans rfl
@[simp] theorem d_mSto (f : EF) : mSto f lo st = (f lo st >>= fun (m, k, st1) => match k with
  | .fr => .ok (.ref st1.length, .fz, st1 ++ [m])
  | _ => .bad) := (Eq.refl _).trans rfl
@[simp] theorem d_frz0 (m : MV) : frzd (m, .fz, st) = .ok (m, st) := (Eq.refl _).trans rfl
@[simp] theorem d_frz1 (m : MV) : frzd (m, .fr, st) = .ok (m, st) := (Eq.refl _).trans rfl
@[simp] theorem d_frz2 (m : MV) (i) : frzd (m, .pk i, st) = .bad := (Eq.refl _).trans rfl
@[simp] theorem d_sNil : sNil lo st = .ok (.nx, lo, st) := (Eq.refl _).trans rfl
@[simp] theorem d_sSeq (g g' : SF) : sSeq g g' lo st = (g lo st >>= fun (fl, lo1, st1) => match fl with
  | .nx => g' lo1 st1
  | fl => .ok (fl, lo1, st1)) := (Eq.refl _).trans rfl
@[simp] theorem d_sSet (i : Nat) (f : EF) : sSet i f lo st = (f lo st >>= fun r => frzd r >>= fun (m, st1) => .ok (.nx, lo.set i (some (m, false)), st1)) := (Eq.refl _).trans rfl
@[simp] theorem d_own1 (x) : ownOk (.lst x) = true := rfl
@[simp] theorem d_own2 (x) : ownOk (.dct x) = true := rfl
@[simp] theorem d_own3 (x) : ownOk (.tup x) = true := rfl
@[simp] theorem d_sOwn (i : Nat) (f : EF) : sOwn i f lo st = (f lo st >>= fun (m, k, st1) => match k with
  | .fr => if ownOk m = true then .ok (.nx, lo.set i (some (m, true)), st1) else .bad
  | _ => .bad) := (Eq.refl _).trans rfl
@[simp] theorem d_sExpr (f : EF) : sExpr f lo st = (f lo st >>= fun (_, _, st1) => .ok (.nx, lo, st1)) := (Eq.refl _).trans rfl
@[simp] theorem d_sRet (f : EF) : sRet f lo st = (f lo st >>= fun (m, k, st1) => .ok (.rt m k, lo, st1)) := (Eq.refl _).trans rfl
@[simp] theorem d_sRetN : sRetN lo st = .ok (.rt .non .fz, lo, st) := (Eq.refl _).trans rfl
@[simp] theorem d_sIf (c : TF) (g g' : SF) : sIf c g g' lo st = (c lo st >>= fun (b, st1) => if b = true then g lo st1 else g' lo st1) := (Eq.refl _).trans rfl
@[simp] theorem d_sAsg (f : EF) (g : GF) : sAsg f g lo st = (f lo st >>= fun r => frzd r >>= fun (m, st1) => g m lo st1 >>= fun (lo2, st2) => .ok (.nx, lo2, st2)) := (Eq.refl _).trans rfl
@[simp] theorem d_gN (i : Nat) (m : MV) : gN i m lo st = .ok (lo.set i (some (m, false)), st) := (Eq.refl _).trans rfl
@[simp] theorem d_gsNil : gsNil [] lo st = .ok (lo, st) := (Eq.refl _).trans rfl
@[simp] theorem d_gsCons (g : GF) (gs : GFs) (m : MV) (ms) : gsCons g gs (m :: ms) lo st = (g m lo st >>= fun (lo1, st1) => gs ms lo1 st1) := (Eq.refl _).trans rfl
@[simp] theorem d_gT (n : Nat) (gs : GFs) (m : MV) : gT n gs m lo st = (match vw st m with
  | .tup ms => if ms.length = n then gs ms lo st else .bad
  | .lst ms => if ms.length = n then gs ms lo st else .bad
  | _ => .bad) := (Eq.refl _).trans rfl
@[simp] theorem d_sPutIx (fe fo fi : EF) : sPutIx fe fo fi lo st = (fe lo st >>= fun r => frzd r >>= fun (m, st1) => fo lo st1 >>= fun (t, k, st2) => fi lo st2 >>= fun (j, _, st3) =>
  match targetOf t k lo st3, j with
  | some (.lst xs), .int j => (match ixN xs.length j with
    | some n => .ok (.nx, (putBack t k (.lst (xs.set n m)) lo st3).1, (putBack t k (.lst (xs.set n m)) lo st3).2)
    | none => .bad)
  | _, _ => .bad) := (Eq.refl _).trans rfl
@[simp] theorem d_sApp (fo fe : EF) : sApp fo fe lo st = (fo lo st >>= fun (t, k, st1) => if isLst (targetOf t k lo st1) = true then fe lo st1 >>= fun r => frzd r >>= fun (m, st2) => (match targetOf t k lo st2 with
  | some (.lst xs) => if xs.length < sizeLine then .ok (.nx, (putBack t k (.lst (xs ++ [m])) lo st2).1, (putBack t k (.lst (xs ++ [m])) lo st2).2) else .bad
  | _ => .bad) else .bad) := (Eq.refl _).trans rfl
@[simp] theorem d_tgt1 (m : MV) (i) : targetOf m (.pk i) lo st = ownAt lo[i]? := (Eq.refl _).trans rfl
@[simp] theorem d_tgt2 (m : MV) : targetOf m .fz lo st = refAt st m := (Eq.refl _).trans rfl
@[simp] theorem d_refAt (n : Nat) : refAt st (.ref n) = st[n]? := (Eq.refl _).trans rfl
@[simp] theorem d_put1 (m c : MV) (i) : putBack m (.pk i) c lo st = (lo.set i (some (c, true)), st) := (Eq.refl _).trans rfl
@[simp] theorem d_put2 (n : Nat) (c : MV) : putBack (.ref n) .fz c lo st = (lo, st.set n c) := (Eq.refl _).trans rfl
@[simp] theorem d_sRaise (c fv dms) (g : AF) : sRaise c fv dms g lo st = (g lo st >>= fun (l, st1) => match allFz l with
  | some ms => (match ms ++ dms with
    | [m] => .exc c [(fv, m)] lo st1
    | _ => .bad)
  | none => .bad) := (Eq.refl _).trans rfl
theorem d_runF (n : Nat) (g : SF) (ms : List MV) : runF n g ms st = (match g (startM n ms) st with
  | .ok (.nx, _, st') => .ok (.non, false, st')
  | .ok (.rt m k, _, st') => .ok (m, isFr k, st')
  | .ok _ => .bad
  | .exc c fs lo st' => .exc c fs lo st'
  | .bad => .bad) := (Eq.refl _).trans rfl
end
section
variable (st : Sto) (i j : Int)
@[simp] theorem d_gAdd : gAdd st (.int i) (.int j) = some (.int (i + j), false) := (Eq.refl _).trans rfl
theorem d_gAddL (xs ys) : gAdd st (.lst xs) (.lst ys) = if xs.length + ys.length ≤ sizeLine then some (.lst (xs ++ ys), true) else none := (Eq.refl _).trans rfl
@[simp] theorem d_gSub : gSub st (.int i) (.int j) = some (.int (i - j), false) := (Eq.refl _).trans rfl
theorem d_gMul (h : CMulW i j) : gMul st (.int i) (.int j) = some (.int (i * j), false) := by simp [gMul, gII, h]
theorem d_gDiv (h : CDivW i j) : gDiv st (.int i) (.int j) = some (.int (i / j), false) := by simp [gDiv, gII, h]
theorem d_gMod (h : 0 < j) : gMod st (.int i) (.int j) = some (.int (i % j), false) := by simp [gMod, gII, h]
theorem d_gPow (h : CPowW i j) : gPow st (.int i) (.int j) = some (.int (i ^ j.toNat), false) := by simp [gPow, gII, h]
@[simp] theorem d_gLt : gLt st (.int i) (.int j) = some (.bl (decide (i < j)), false) := (Eq.refl _).trans rfl
@[simp] theorem d_gLe : gLe st (.int i) (.int j) = some (.bl (decide (i ≤ j)), false) := (Eq.refl _).trans rfl
@[simp] theorem d_gGt : gGt st (.int i) (.int j) = some (.bl (decide (j < i)), false) := (Eq.refl _).trans rfl
@[simp] theorem d_gGe : gGe st (.int i) (.int j) = some (.bl (decide (j ≤ i)), false) := (Eq.refl _).trans rfl
@[simp] theorem d_gIsN0 (a : MV) : gIsN false st a .non = some (.bl (isNon a), false) := (Eq.refl _).trans rfl
@[simp] theorem d_gIsN1 (a : MV) : gIsN true st a .non = some (.bl (!isNon a), false) := (Eq.refl _).trans rfl
@[simp] theorem d_gNeg : gNeg (.int i) = some (.int (-i)) := (Eq.refl _).trans rfl
@[simp] theorem d_gNot (b) : gNot (.bl b) = some (.bl (!b)) := (Eq.refl _).trans rfl
@[simp] theorem d_gMax2 : gMax2 st [.int i, .int j] = some (.int (if j > i then j else i), false) := (Eq.refl _).trans rfl
@[simp] theorem d_gMin2 : gMin2 st [.int i, .int j] = some (.int (if j < i then j else i), false) := (Eq.refl _).trans rfl
@[simp] theorem d_gInt1 : gInt1 st [.int i] = some (.int i, false) := (Eq.refl _).trans rfl
@[simp] theorem d_gLenL (xs) : gLen st [.lst xs] = some (.int xs.length, false) := (Eq.refl _).trans rfl
@[simp] theorem d_gLenT (xs) : gLen st [.tup xs] = some (.int xs.length, false) := (Eq.refl _).trans rfl
@[simp] theorem d_gLenR (xs) : gLen st [.scr xs] = some (.int xs.length, false) := (Eq.refl _).trans rfl
@[simp] theorem d_gListL (xs) : gListOf st [.lst xs] = some (.lst xs, true) := (Eq.refl _).trans rfl
@[simp] theorem d_gListT (xs) : gListOf st [.tup xs] = some (.lst xs, true) := (Eq.refl _).trans rfl
@[simp] theorem d_gTupL (xs) : gTupOf st [.lst xs] = some (.tup xs, true) := (Eq.refl _).trans rfl
@[simp] theorem d_gIxL (xs) : gIx st (.lst xs) (.int i) = (atI xs i).map (·, false) := (Eq.refl _).trans rfl
@[simp] theorem d_gIxT (xs) : gIx st (.tup xs) (.int i) = (atI xs i).map (·, false) := (Eq.refl _).trans rfl
@[simp] theorem d_gIxR (xs) : gIx st (.scr xs) (.int i) = (atI xs i).map fun n => (.int n, false) := (Eq.refl _).trans rfl
end
section
open Classical
variable {ck : CK} {gf : GF} {body : SF} {lo0 : Lo} {tt : TF} {fe : EF}
theorem forL_run {Inv : Nat → Lo → Sto → Prop} {items : List MV} (hck : ∀ k lo st, Inv k lo st → ck lo st)
    (hb : ∀ k x lo st, items[k]? = some x → Inv k lo st → ∃ lo1 st1 lo2 st2, gf x lo st = .ok (lo1, st1) ∧ body lo1 st1 = .ok (.nx, lo2, st2) ∧ Inv (k + 1) lo2 st2) :
    ∀ lo st, Inv 0 lo st → ∃ lo' st', forL ck gf body items lo st = .ok (.nx, lo', st') ∧ Inv items.length lo' st' := by
  have go : ∀ (rest : List MV) (k : Nat), rest = items.drop k → k ≤ items.length → ∀ lo st, Inv k lo st → ∃ lo' st', forL ck gf body rest lo st = .ok (.nx, lo', st') ∧ Inv items.length lo' st' := by
    intro rest
    induction rest with
    | nil =>
      intro k hk hle lo st hi
      have e : k = items.length := by
        have := congrArg List.length hk
        rw [List.length_drop, List.length_nil] at this
        omega
      subst e
      exact ⟨lo, st, by unfold forL; rw [if_pos (hck _ _ _ hi)], hi⟩
    | cons x rest ih =>
      intro k hk hle lo st hi
      have hx : items[k]? = some x := by
        have := congrArg (·[0]?) hk
        simpa using this.symm
      have hlt : k < items.length := (List.getElem?_eq_some_iff.mp hx).1
      obtain ⟨lo1, st1, lo2, st2, e1, e2, hi2⟩ := hb k x lo st hx hi
      have hr : rest = items.drop (k + 1) := by
        have := congrArg List.tail hk
        simpa using this
      obtain ⟨lo', st', e3, hi3⟩ := ih (k + 1) hr (by omega) lo2 st2 hi2
      refine ⟨lo', st', ?_, hi3⟩
      unfold forL
      rw [if_pos (hck _ _ _ hi), e1]
      simp only [Res.ok_bind]
      rw [e2]
      simp only [Res.ok_bind]
      exact e3
  intro lo st h
  exact go items 0 (by simp) (Nat.zero_le _) lo st h
theorem forL_cons (x : MV) (xs : List MV) (lo : Lo) (st : Sto) : forL ck gf body (x :: xs) lo st = if ck lo st then gf x lo st >>= fun (lo1, st1) => body lo1 st1 >>= fun (fl, lo2, st2) => (match fl with
      | .nx => forL ck gf body xs lo2 st2
      | .ct => forL ck gf body xs lo2 st2
      | .bk => .ok (.nx, lo2, st2)
      | .rt m k => .ok (.rt m k, lo2, st2)) else .bad := by
  rw [forL] <;> rfl
theorem forL_nil (lo : Lo) (st : Sto) : forL ck gf body [] lo st = if ck lo st then .ok (.nx, lo, st) else .bad := by rw [forL]
theorem lcL_run {Inv : Nat → List MV → Sto → Prop} {items : List MV} (hck : ∀ k acc st, Inv k acc st → ck lo0 st) (hz : items.length ≤ sizeLine) (hl : ∀ k acc st, Inv k acc st → acc.length ≤ k)
    (hb : ∀ k x acc st, items[k]? = some x → Inv k acc st → ∃ lo1 st1 b st2, gf x lo0 st = .ok (lo1, st1) ∧ tt lo1 st1 = .ok (b, st2) ∧
      ((b = false ∧ Inv (k + 1) acc st2) ∨ (b = true ∧ ∃ y kd st3, fe lo1 st2 = .ok (y, kd, st3) ∧ isPk kd = false ∧ Inv (k + 1) (acc ++ [y]) st3))) :
    ∀ acc st, Inv 0 acc st → ∃ acc' st', lcL ck gf tt fe lo0 items acc st = .ok (acc', st') ∧ Inv items.length acc' st' := by
  have go : ∀ (rest : List MV) (k : Nat), rest = items.drop k → k ≤ items.length → ∀ acc st, Inv k acc st → ∃ acc' st', lcL ck gf tt fe lo0 rest acc st = .ok (acc', st') ∧ Inv items.length acc' st' := by
    intro rest
    induction rest with
    | nil =>
      intro k hk hle acc st hi
      have e : k = items.length := by
        have := congrArg List.length hk
        rw [List.length_drop, List.length_nil] at this
        omega
      subst e
      exact ⟨acc, st, by unfold lcL; rw [if_pos (hck _ _ _ hi)], hi⟩
    | cons x rest ih =>
      intro k hk hle acc st hi
      have hx : items[k]? = some x := by
        have := congrArg (·[0]?) hk
        simpa using this.symm
      have hlt : k < items.length := (List.getElem?_eq_some_iff.mp hx).1
      obtain ⟨lo1, st1, b, st2, e1, e2, alt⟩ := hb k x acc st hx hi
      have hr : rest = items.drop (k + 1) := by
        have := congrArg List.tail hk
        simpa using this
      unfold lcL
      rw [if_pos (hck _ _ _ hi), e1]
      simp only [noExc, Res.ok_bind]
      rw [e2]
      simp only [noExc, Res.ok_bind]
      rcases alt with ⟨rfl, hi2⟩ | ⟨rfl, y, kd, st3, e3, hp, hi2⟩
      · rw [if_neg Bool.false_ne_true]
        exact ih (k + 1) hr (by omega) acc st2 hi2
      · rw [if_pos rfl, e3]
        simp only [noExc, Res.ok_bind]
        have ef : frzd (y, kd, st3) = .ok (y, st3) := by cases kd <;> first | rfl | cases hp
        rw [ef]
        simp only [Res.ok_bind]
        rw [if_pos (by have := hl k acc st hi; omega)]
        exact ih (k + 1) hr (by omega) _ st3 hi2
  intro acc st h
  exact go items 0 (by simp) (Nat.zero_le _) acc st h
end
theorem rgM_get {i j : Int} {k : Nat} {x : MV} (h : (rgM i j)[k]? = some x) : x = .int (i + (k : Nat)) ∧ k < (j - i).toNat := by
  unfold rgM at h
  rw [List.getElem?_map] at h
  obtain ⟨a, h1, rfl⟩ := Option.map_eq_some_iff.mp h
  have := List.getElem?_eq_some_iff.mp h1
  obtain ⟨h2, h3⟩ := this
  simp at h2 h3
  subst h3
  exact ⟨rfl, by omega⟩
theorem rgM_len {i j : Int} : (rgM i j).length = (j - i).toNat := by unfold rgM; simp
end FW
namespace FW
open PySem L2 PySem.Spec PyProof.Rows
theorem seq_ok {g g' : SF} {lo lo1 : Lo} {st st1 : Sto} {r} (h : g lo st = .ok (.nx, lo1, st1)) (h' : g' lo1 st1 = r) : sSeq g g' lo st = r := by unfold sSeq; rw [h]; exact h'
theorem seq_rt {g g' : SF} {lo lo1 : Lo} {st st1 : Sto} {m k} (h : g lo st = .ok (.rt m k, lo1, st1)) : sSeq g g' lo st = .ok (.rt m k, lo1, st1) := by unfold sSeq; rw [h]; rfl
theorem seq_exc {g g' : SF} {lo lo1 : Lo} {st st1 : Sto} {c fs} (h : g lo st = .exc c fs lo1 st1) : sSeq g g' lo st = .exc c fs lo1 st1 := by unfold sSeq; rw [h]; rfl
theorem for_ok {fi : IFn} {gf : GF} {body : SF} {lo : Lo} {st st1 : Sto} {items ck r} (h : fi lo st = .ok (items, ck, st1)) (h' : forL ck gf body items lo st1 = r) : sFor fi gf body lo st = r := by unfold sFor; rw [h]; exact h'
theorem runF_rt {n : Nat} {g : SF} {ms : List MV} {lo0 lo : Lo} {st st' : Sto} {m k} (h0 : startM n ms = lo0) (h : g lo0 st = .ok (.rt m k, lo, st')) : runF n g ms st = .ok (m, isFr k, st') := by subst h0; unfold runF; rw [h]
theorem runF_nx {n : Nat} {g : SF} {ms : List MV} {lo0 lo : Lo} {st st' : Sto} (h0 : startM n ms = lo0) (h : g lo0 st = .ok (.nx, lo, st')) : runF n g ms st = .ok (.non, false, st') := by subst h0; unfold runF; rw [h]
theorem runF_exc {n : Nat} {g : SF} {ms : List MV} {lo0 lo : Lo} {st st' : Sto} {c fs} (h0 : startM n ms = lo0) (h : g lo0 st = .exc c fs lo st') : runF n g ms st = .exc c fs lo st' := by subst h0; unfold runF; rw [h]
end FW
namespace FW
open PySem L2 PySem.Spec PyProof.Rows
theorem iRg1_ok {f : EF} {lo : Lo} {st st1 : Sto} {j : Int} {k} (h : f lo st = .ok (.int j, k, st1)) (hr : Rg62 0 j) : iRg1 f lo st = .ok (rgM 0 j, fun _ _ => True, st1) := by unfold iRg1; rw [h]; exact if_pos hr
theorem iRg2_ok {f g : EF} {lo : Lo} {st st1 st2 : Sto} {i j : Int} {k k2} (h : f lo st = .ok (.int i, k, st1)) (h2 : g lo st1 = .ok (.int j, k2, st2)) (hr : Rg62 i j) : iRg2 f g lo st = .ok (rgM i j, fun _ _ => True, st2) := by
  unfold iRg2; rw [h]; simp only [Res.ok_bind]; rw [h2]; exact if_pos hr
theorem iSeq_lst {f : EF} {lo : Lo} {st st1 : Sto} {xs : List MV} {k} (h : f lo st = .ok (.lst xs, k, st1)) (hk : isPk k = false) : iSeq f lo st = .ok (xs, fun _ _ => True, st1) := by
  unfold iSeq; rw [h]; cases k <;> first | rfl | cases hk
end FW
namespace FW
open PySem L2 PySem.Spec PyProof.Rows
def del (H : Hp) (a : Addr) : Hp := fun b => if b = a then none else H b
def startI (c : Str) (n : Nat) (ms : List MV) : Lo := some (.ins c [], true) :: startM (n - 1) ms
def selfOf (lo : Lo) : Option MV := match lo[0]? with
  | some (some (MV.ins c fs, true)) => some (.ins c fs)
  | _ => none
def runI (c : Str) (n : Nat) (g : SF) : FF := fun ms st => match g (startI c n ms) st with
  | .ok (.nx, lo, st') => (match selfOf lo with
    | some m => .ok (m, true, st')
    | none => .bad)
  | .ok _ => .bad
  | .exc c fs lo st' => .exc c fs lo st'
  | .bad => .bad
def PostI (mg : Wd) (S : Addr → Prop) (ι : List Addr) (H0 : Hp) (a : Addr) (Q : VK) (E : XK) : Res (MV × Bool × Sto) → Prop
  | .ok (m, b, st') => b = true → ∀ S' ι' H', Ext S ι H0 S' ι' H' → Rep mg S' ι' H' st' → ¬ S' a → a ∉ ι' → Sh mg S' ι' H' a m → Q .non H'
  | .exc c fs _ st' => ∀ S' ι' H' cls d, Ext S ι H0 S' ι' H' → Rep mg S' ι' H' st' → XR mg S' ι' H' c fs cls d → E cls d H'
  | .bad => False
def spI (mg : Wd) (c : Str) (n : Nat) (F : FF) : Sp := fun vs H Q E => vs.length = n ∧ ∃ a C dx vs' S ι st ms, vs = .ref a :: vs' ∧ H a = some (.ins C dx []) ∧ mg.mg c = some (.ref C) ∧ ¬ S a ∧ a ∉ ι ∧ Rep mg S ι H st ∧ AllD mg S ι H vs' ms ∧
  PostI mg S ι (del H a) a Q E (F ms st)
section
variable {mgw : Wd} {S : Addr → Prop} {ι : List Addr} {H : Hp} {st : Sto} {vs : List V} {ms : List MV}
theorem startM_get {n : Nat} {i : Nat} {z : MV × Bool} (h : (startM n ms)[i]? = some (some z)) : ∃ m, ms[i]? = some m ∧ z = (m, false) := by
  unfold startM at h
  by_cases hi : i < ms.length
  · rw [List.getElem?_append_left (by simpa using hi), List.getElem?_map] at h
    obtain ⟨x, hx, e⟩ := Option.map_eq_some_iff.mp h
    exact ⟨x, hx, by cases e; rfl⟩
  · rw [List.getElem?_append_right (by simpa using hi), List.getElem?_replicate] at h
    split at h <;> cases h
theorem fm_startI {N : List Str} {a C dx : Addr} {c : Str} (r : Rep mgw S ι H st) (d : AllD mgw S ι H vs ms) (hl : ms.length + 1 ≤ N.length) (ha : H a = some (.ins C dx [])) (hc : mgw.mg c = some (.ref C)) (hs : ¬ S a) (hi : a ∉ ι) :
    Fm mgw { S := S, ι := ι, H := del H a, P := some a } S ι H (startI c N.length ms) (start N (.ref a :: vs)) st := by
  have hv := d.1
  have own : ∀ {i : Nat} {m : MV}, (startI c N.length ms)[i]? = some (some (m, true)) → i = 0 ∧ m = .ins c [] := fun {i m} h => by
    cases i with
    | zero => unfold startI at h; simp at h; exact ⟨rfl, h.symm⟩
    | succ i =>
      unfold startI at h
      rw [List.getElem?_cons_succ] at h
      obtain ⟨x, _, e⟩ := startM_get h
      cases e
  have s0 : (start N (.ref a :: vs))[0]? = some (some (.ref a)) := rfl
  have hdel : del H a a = none := if_pos rfl
  refine ⟨⟨fun _ h => h, fun b o e _ => ?_, fun _ h => .inl h, List.prefix_refl _, fun _ h => .inl h, fun b ob u e => by
    have e' : (if b = a then none else H b) = some (.frz ob u) := e
    split at e'
    · cases e'
    · exact e'⟩, r, ⟨?_, fun i m h => ?_, fun i m h => ?_, fun i j m m' b hij h1 h2 => ?_, fun i c fs h => ?_⟩, fun b o h => by cases h⟩
  · have e' : (if b = a then none else H b) = some o := e
    split at e'
    · cases e'
    · exact e'
  · unfold startI startM L2.start
    simp only [List.length_append, List.length_map, List.length_replicate, List.length_cons]
    rw [hv]; omega
  · cases i with
    | zero => unfold startI at h; simp at h
    | succ i =>
      unfold startI at h
      rw [List.getElem?_cons_succ] at h
      obtain ⟨x, hx, e⟩ := startM_get h
      cases e
      obtain ⟨v, h1, h2⟩ := d.get hx
      refine ⟨v, ?_, h2⟩
      have hiv : i < vs.length := (List.getElem?_eq_some_iff.mp h1).1
      unfold L2.start
      rw [List.map_cons, List.cons_append, List.getElem?_cons_succ, List.getElem?_append_left (by simpa using hiv), List.getElem?_map, h1]
      rfl
  · obtain ⟨rfl, rfl⟩ := own h
    exact ⟨a, s0, hs, hi, ⟨hdel, rfl⟩, .ins C dx [], ha, C, dx, [], rfl, hc, rfl, fun i f m q => by simp at q⟩
  · obtain ⟨rfl, _⟩ := own h1
    obtain ⟨rfl, _⟩ := own h2
    exact absurd rfl hij
  · obtain ⟨rfl, _⟩ := own h
    exact ⟨a, rfl, s0⟩
end
section
variable {P : Program} {w : World} {K : PySem.W.Frag} {mg : Str → Option Value} {base : Heap}
theorem fnI {k : Nat} {x qual c : Str} {st : Stmt} {f : Addr} {fd : FuncData} {N ps : List Str} {g : SF} (F : Fun K x qual st f fd) (Sc : FnScope N ps (defScope st)) (hle : ps.length ≤ N.length)
    (hbody : ∀ (X : Cx) (B : Base) (W : WX) (cdv : Value) (A : Around) (outer : List Env) (s : Shared) (H : Hp) (E : XK), X = cxG P w K mg base N qual (defScope st) f cdv A outer s H E → RoomG k X.A → Takes X W →
      SSs (cxG P w K mg base N qual (defScope st) f cdv A outer s H E) B W (defBody st) g) :
    FnG P w K mg base (k + 1) f fd ps (spI ⟨K, mg⟩ c ps.length (runI c N.length g)) := by
  obtain ⟨oc, od, kV, doc, pm, an, cdv, ct, osl, rfl, lk, hcd⟩ := F.ex
  refine fnG_of lk hcd Sc (fun vs H Q E h => h.1) fun A outer s H vs Q E room want => ?_
  obtain ⟨hvl, a, C, dx, vs', S, ι, st0, ms, rfl, ha, hc, hns, hni, r, d, p⟩ := want
  have hms : ms.length + 1 = ps.length := by rw [← d.1, ← hvl]; rfl
  refine ⟨_, hbody _ { S := S, ι := ι, H := del H a, P := some a } (fun cls dd _ H' => E cls dd H') cdv A outer s H E rfl room (takes_of rfl rfl rfl rfl), S, ι, startI c N.length ms, st0, fm_startI r d (by omega) ha hc hns hni, ?_⟩
  unfold runI at p
  show Post (⟨K, mg⟩ : Wd) _ _ S ι H _ _
  cases hg : g (startI c N.length ms) st0 with
  | bad => rw [hg] at p; exact p
  | exc c fs lo st' =>
    rw [hg] at p
    intro S' ι' σ' H' cls dd fm kp xr
    exact p S' ι' H' cls dd fm.ext fm.rep xr
  | ok z =>
    rw [hg] at p
    obtain ⟨fl, lo', st'⟩ := z
    cases fl with
    | nx =>
      intro S' ι' σ' H' fm kp
      dsimp only at p
      unfold selfOf at p
      split at p
      · rename_i m hm
        split at hm
        · rename_i c2 fs2 e2
          cases hm
          obtain ⟨b, hb, hs⟩ := fm.loc.pin 0 c2 fs2 e2
          cases hb
          obtain ⟨b, e3, h1, h2, _, h4⟩ := fm.loc.own 0 _ e2
          rw [hs] at e3; cases e3
          exact p rfl S' ι' H' fm.ext fm.rep h1 h2 h4
        · cases hm
      · exact p.elim
    | bk => exact p.elim
    | ct => exact p.elim
    | rt m kd => exact p.elim
end
section
variable {X : Cx} {B : Base} {W : WX}
theorem roomG_make {k : Nat} {A : Around} (r : RoomG (k + 1) A) (C : Addr) (us : List Value) (kw : List (Str × Value)) : RoomG k (A.under (.builtin "type.__call__" ⟨.ref C :: us, kw⟩)) := by
  refine ⟨r.r.make C us kw, ?_⟩
  have e : Code.guards (.builtin "type.__call__" ⟨.ref C :: us, kw⟩) = [] := by
    have h : Code.isGuard (.builtin "type.__call__" ⟨.ref C :: us, kw⟩) = false := (by decide +kernel : guardIds.contains "type.__call__" = false)
    unfold Code.guards
    rw [if_neg (by rw [h]; exact Bool.false_ne_true)]
  simp only [Around.under, r.g, e]
  rfl
theorem run_makeG {k : Nat} {C f : Addr} {fd : FuncData} {ps : List Str} {sp : Sp} {E : XK} {pins : List (Addr × Obj)} {σ : L2.St} {H : Hp} {s : Shared} {Q : VK} {us : List Value} {vs : List V} {ds : List Value} {dvs : List V} (M : Mk X.K C f)
    (F : FnG X.prog X.w X.K X.mg X.base k f fd ps sp) (hr : RoomG (k + 1) X.A) (hb : Binds X.K fd ps ds) (hd : Vals dvs ds) (hx : ∀ cls d H', E cls d H' → W cls d σ H') (tk : Takes X W) (I : Inv X pins σ H s) (r : Vals vs us)
    (h : ∀ x dx, H x = none → H dx = none → dx ≠ x → sp (.ref x :: (vs ++ dvs)) (upd (upd H dx (.own x)) x (.ins C dx [])) (fun v H2 => v = .non ∧ Q (.ref x) H2) E) :
    wpAny (model X.prog X.w) X.A (call (.ref C) us) (EP X pins σ Q) X.xe s := by
  have hq := h (s.heap.objs.size + 1) s.heap.objs.size (I.hok.fresh (Nat.le_succ _)) (I.hok.fresh (Nat.le_refl _)) (Nat.ne_of_lt (Nat.lt_succ_self _))
  have J := Inv.made (C := C) I
  have vv : Vals (V.ref (s.heap.objs.size + 1) :: (vs ++ dvs)) (Value.ref (s.heap.objs.size + 1) :: (us ++ ds)) := .cons rfl (r.append hd)
  have many : (Value.ref (s.heap.objs.size + 1) :: us ++ ds).length = ps.length := by
    have e := vv.length
    rw [F.len _ _ _ _ hq] at e
    exact e.symm
  refine wpAny_call (make_map (f := f) I.kIn M.makes M.init (beq_iff_eq.mp M.fn) (codeAny_mono (F.run _ X.stack _ _ ⟨Value.ref (s.heap.objs.size + 1) :: us, []⟩ (Value.ref (s.heap.objs.size + 1) :: (us ++ ds)) _ _ E (roomG_make hr C us [])
    (J.env0.make C us []) (hb _ (Value.ref (s.heap.objs.size + 1) :: us) J.kIn many) vv hq) fun res s' got => ?_))
  match res, got with
  | .error e, got => exact tk e s' (XE.of_call J hx got)
  | .ok (.ret u), got =>
    obtain ⟨v, H', J2, rv, ev, q3⟩ := J.after got
    subst ev
    exact ⟨rv, ⟨V.ref (s.heap.objs.size + 1), H', J2, rfl, q3⟩⟩
theorem del_upd {H : Hp} {x dx : Addr} {C : Addr} (hx : H x = none) (ne : dx ≠ x) : del (upd (upd H dx (.own x)) x (.ins C dx [])) x = upd H dx (.own x) := by
  funext b
  show (if b = x then none else upd (upd H dx (.own x)) x (.ins C dx []) b) = _
  by_cases e : b = x
  · rw [if_pos e, e, upd_ne (fun z => ne z.symm), hx]
  · rw [if_neg e, upd_ne e]
theorem wants_make {c : Str} {C : Addr} {n : Nat} {F : FF} {S S0 : Addr → Prop} {ι ι0 : List Addr} {H H0 : Hp} {lo : Lo} {σ : L2.St} {st : Sto} {vs : List V} {ms : List MV} {Q : VK} (hc : X.mg c = some (.ref C)) (fm : Fm X.wd B S ι H lo σ st) (d : AllD X.wd S ι H vs ms) (hn : vs.length + 1 = n) (k0 : Keep S0 ι0 H0 S ι H)
    (p : Post X.wd B W S0 ι0 H0 (fun r => ∀ S' ι' H' v, Fm X.wd B S' ι' H' lo σ r.2.2 → Keep S0 ι0 H0 S' ι' H' → RV X.wd B S' ι' H' lo σ v r.1 r.2.1 → Q v H') (callR F ms lo st)) (x dx : Addr) (hx : H x = none) (hdx : H dx = none) (ne : dx ≠ x) :
    spI X.wd c n F (.ref x :: vs) (upd (upd H dx (.own x)) x (.ins C dx [])) (fun v H2 => v = .non ∧ Q (.ref x) H2) (fun cls dd H' => ∃ S' ι' st' c fs, Fm X.wd B S' ι' H' lo σ st' ∧ Keep S ι H S' ι' H' ∧ XR X.wd S' ι' H' c fs cls dd ∧ W cls dd σ H') := by
  obtain ⟨f1, f2, f3, f4⟩ := fm.free hx
  have hx2 : upd H dx (.own x) x = none := by rw [upd_ne (fun z => ne z.symm)]; exact hx
  have fmA := fm.new (o := .own x) hdx
  have fmB := fmA.new (o := .ins C dx []) hx2
  have kB := ((Ext.new (o := .own x) hdx).keep fm.rep).trans ((Ext.new (o := .ins C dx []) hx2).keep fmA.rep)
  refine ⟨by simpa using hn, x, C, dx, vs, S, ι, st, ms, rfl, upd_same, hc, f1, f2, fmB.rep, d.mono kB, ?_⟩
  rw [del_upd hx ne]
  have up : ∀ {S' : Addr → Prop} {ι' : List Addr} {H' : Hp} {st' : Sto}, Ext S ι (upd H dx (.own x)) S' ι' H' → Rep X.wd S' ι' H' st' → Fm X.wd B S' ι' H' lo σ st' ∧ Keep S ι H S' ι' H' := fun {S' ι' H' st'} e r => by
    have e0 : Ext S ι H S' ι' H' := (Ext.new (o := .own x) hdx).trans e fun b hb => r.pre e.i b hb
    exact ⟨fm.step e0 r, e0.keep fm.rep⟩
  unfold callR at p
  cases hF : F ms st with
  | bad => rw [hF] at p; exact p
  | exc c fs lo' st' =>
    rw [hF] at p
    intro S' ι' H' cls dd e r xr
    obtain ⟨fm', kk⟩ := up e r
    exact ⟨S', ι', st', c, fs, fm', kk, xr, p S' ι' σ H' cls dd fm' (k0.trans kk) xr⟩
  | ok z =>
    rw [hF] at p
    obtain ⟨m, b, st'⟩ := z
    cases b with
    | false => exact fun z => nomatch z
    | true =>
      refine fun _ S' ι' H' e r h1 h2 h4 => ⟨rfl, ?_⟩
      obtain ⟨fm', kk⟩ := up e r
      exact p S' ι' H' _ fm' (k0.trans kk) ⟨x, rfl, h1, h2, f3, h4, f4⟩
theorem se_make {k n : Nat} {C f : Addr} {fd : FuncData} {ps : List Str} {FM : FF} {x : Str} {p pos : Pos} {e : Expr} {es : List Expr} {g : AF} (M : Mk X.K C f)
    (F : FnG X.prog X.w X.K X.mg X.base k f fd ps (spI X.wd x (n + 1) FM)) (hr : RoomG (k + 1) X.A) (tk : Takes X W) (hg : Gl X x) (hm : X.mg x = some (.ref C)) (hb : Binds X.K fd ps [])
    (ha : SA X B W (e :: es) g) (hdb : (x == ("__debug__" : Str)) = false := by decide) (he : starEach (e :: es) X.env = (false, eval e X.env) :: starEach es X.env := by rfl)
    (hpl : (backTo pos (starEach es X.env)).any (·.1) = false := by rfl) : SE X B W (.Call (.Name x p) (e :: es) [] pos) (mCall n FM [] g) := by
  refine ⟨fun pins s σ H Q I ⟨S, ι, lo, st, fm, pp⟩ => ?_⟩
  refine wpAny_Call_Name_kw (ld_glob I hg hm ?_ hdb)
  have run := ha.run pos pins s σ H (fun vs H1 => ∃ E : XK, (∀ cls d H', E cls d H' → W cls d σ H') ∧ ∀ y dx, H1 y = none → H1 dx = none → dx ≠ y → spI X.wd x (n + 1) FM (.ref y :: (vs ++ [])) (upd (upd H1 dx (.own y)) y (.ins C dx [])) (fun v H2 => v = .non ∧ Q (.ref y) H2) E) I ?_
  · refine PySem.W.callWith_K (h₀ := X.base) I.ok.mod.kin M.kp (thn run fun us s1 ⟨vs, H1, I1, r, q⟩ => ⟨I1.kIn, ?_⟩) he hpl
    obtain ⟨E, hE, q⟩ := q
    exact run_makeG M F hr hb .nil hE tk I1 r q
  · refine tA.use fm (Post.bind pp) fun l st1 S1 ι1 H1 vs f1 k1 r1 p1 => ?_
    dsimp only at p1
    unfold callF at p1
    split at p1
    · rename_i ms hz
      split at p1
      · rename_i hlen
        have d1 := r1.data hz
        rw [List.append_nil] at hlen p1
        refine ⟨_, ?_, fun x dx hx hdx ne => by rw [List.append_nil]; exact wants_make hm f1 d1 (by rw [d1.1, hlen]) k1 p1 x dx hx hdx ne⟩
        rintro cls d H' ⟨_, _, _, _, _, _, _, _, z⟩
        exact z
      · exact p1.elim
    · exact p1.elim
theorem se_call0 {k : Nat} {f : Addr} {fd : FuncData} {ps : List Str} {FM : FF} {x : Str} {p pos : Pos}
    (F : FnG X.prog X.w X.K X.mg X.base k f fd ps (spM X.wd 0 FM)) (hr : RoomG k X.A) (tk : Takes X W) (hg : Gl X x) (hm : X.mg x = some (.ref f)) (hk : PySem.W.keepIn X.K (.ref f) = true) (hb : Binds X.K fd ps [])
    (hdb : (x == ("__debug__" : Str)) = false := by decide) : SE X B W (.Call (.Name x p) [] [] pos) (mCall 0 FM [] mNil) := by
  refine ⟨fun pins s σ H Q I ⟨S, ι, lo, st, fm, pp⟩ => ?_⟩
  refine wpAny_Call_Name_kw (ld_glob I hg hm ?_ hdb)
  have p2 : Post X.wd B W S ι H (fun r => ∀ S' ι' H' v, Fm X.wd B S' ι' H' lo σ r.2.2 → Keep S ι H S' ι' H' → RV X.wd B S' ι' H' lo σ v r.1 r.2.1 → Q v H') (callR FM [] lo st) := pp
  refine PySem.W.callWith_K0 I.kIn hk (run_fnG (us := []) (vs := []) (dvs := []) F hr hb .nil ?_ tk I .nil (wants_callee fm AllD.nil rfl .refl p2))
  rintro cls d H' ⟨_, _, _, _, _, _, _, _, z⟩
  exact z
end
theorem look_none {β γ : Type} {f : Str} : ∀ {fs : List (Str × β)} {ms : List (Str × γ)}, fs.map (·.1) = ms.map (·.1) → ms.lookup f = none → fs.lookup f = none
  | [], [], _, _ => rfl
  | [], _ :: _, hn, _ => by cases hn
  | _ :: _, [], hn, _ => by cases hn
  | (f1, v1) :: fs, (f2, m2) :: ms, hn, h => by
    rw [List.map_cons, List.map_cons] at hn
    obtain ⟨e1, e2⟩ := List.cons.inj hn
    have e1' : f1 = f2 := e1
    subst e1'
    rw [FW.lookup_put] at h ⊢
    by_cases hf : f = f1
    · rw [if_pos hf] at h; cases h
    · rw [if_neg hf] at h ⊢
      exact look_none e2 h
def insOf (c m : Str) : MV → Bool
  | .ins c' fs => decide (c' = c) && (fs.lookup m).isNone
  | _ => false
theorem insOf_ok {c m : Str} {t : MV} (h : insOf c m t = true) : ∃ fs, t = .ins c fs ∧ fs.lookup m = none := by
  cases t with
  | ins c' fs =>
    have h' : (decide (c' = c) && (fs.lookup m).isNone) = true := h
    rw [Bool.and_eq_true] at h'
    obtain ⟨h1, h2⟩ := h'
    have h1 := of_decide_eq_true h1
    subst h1
    exact ⟨fs, rfl, Option.isNone_iff_eq_none.mp h2⟩
  | _ => cases h
def mMeth (c m : Str) (n : Nat) (F : FF) (fo : EF) (g : AF) : EF := fun lo st => fo lo st >>= fun (t, k, st1) => if isPk k = false ∧ insOf c m (vw st1 t) = true then g lo st1 >>= fun (l, st2) => callF n F [] ((t, false) :: l) lo st2 else .bad
section
variable {X : Cx} {B : Base} {W : WX} {o e : Expr} {es : List Expr} {fo : EF} {g : AF} {apos pos : Pos} {k n : Nat} {C f : Addr} {fd : FuncData} {ps : List Str} {FM : FF} {c m : Str} {pl : Sem Bool}
theorem se_meth (ho : SE X B W o fo) (cl : L2.Cls X.K C) (hm : Meth X.K C m f) (hc : X.mg c = some (.ref C)) (F : FnG X.prog X.w X.K X.mg X.base k f fd ps (spM X.wd n FM)) (hr : RoomG k X.A) (tk : Takes X W) (hb : Binds X.K fd ps []) (ha : SA X B W (e :: es) g)
    (hst : starEach (e :: es) X.env = (false, eval e X.env) :: starEach es X.env := by rfl) (hpl : (backTo pos (starEach es X.env)).any (·.1) = false := by rfl)
    (ht : eval (.Call (.Attribute o m apos) (e :: es) [] pos) X.env = (do
      let ov ← eval o X.env
      standAt apos.atName
      let (f, first) ← holding [ov] (getMethod ov m pl)
      callWith pos f first (backTo pos (starEach (e :: es) X.env)) (backToKw pos (keywordEach [] X.env))) := by rfl) :
    SE X B W (.Call (.Attribute o m apos) (e :: es) [] pos) (mMeth c m n FM fo g) := by
  refine ⟨fun pins s σ H Q I ⟨S, ι, lo, st, fm, pp⟩ => ?_⟩
  have run := ho.run pins s σ H (fun x H1 => ∃ a dx fs, x = .ref a ∧ H1 a = some (.ins C dx fs) ∧ fs.lookup m = none ∧ tA X.wd B W g σ H1 (fun vs H2 => ∃ E : XK, (∀ cls d H', E cls d H' → W cls d σ H') ∧ spM X.wd n FM (x :: vs) H2 Q E)) I ?_
  · refine PySem.W.methodCall_KW (pl := pl) (thn run fun u s1 ⟨x, H1, I1, rx, a, dx, fs, ex, ea, l, q⟩ => ?_) ht
    subst ex
    cases (show u = Value.ref a from rx)
    refine getmeth_ok I1 ea cl hm l ?_
    refine PySem.W.callWith_K (first := [.ref a]) (h₀ := X.base) I.ok.mod.kin hm.kp (thn (ha.run pos pins s1 σ H1 _ I1 q) fun us s2 ⟨vs, H2, I2, r, E, hE, q2⟩ => ⟨I2.kIn, ?_⟩) hst hpl
    exact run_fnG (us := .ref a :: us) (vs := .ref a :: vs) (dvs := []) F hr hb .nil hE tk I2 (.cons rfl r) (by rw [List.append_nil]; exact q2)
  · refine tE.use fm (Post.bind pp) fun t kt st1 S1 ι1 H1 ov f1 k1 r1 p1 => ?_
    dsimp only at p1
    split at p1
    case isFalse => exact p1.elim
    rename_i hh
    obtain ⟨hk, hi⟩ := hh
    obtain ⟨S1', f1', k1', h1⟩ := r1.hand f1
    rw [hk] at h1
    have vr := Hand.vr (b := false) f1' h1
    obtain ⟨fs, ev, hl⟩ := insOf_ok hi
    rw [ev] at vr
    obtain ⟨q, C', dx, ws, rfl, g1, hmc, hn, _⟩ := vr
    cases (show some (Value.ref C) = some (Value.ref C') from hc.symm.trans hmc)
    refine ⟨q, dx, ws, rfl, g1, look_none hn hl, ?_⟩
    refine tA.use f1' (Post.bind (p1.mono (k1.trans k1') fun _ z => z)) fun l st2 S2 ι2 H2 vs f2 k2 r2 p2 => ?_
    dsimp only at p2
    unfold callF at p2
    split at p2
    · rename_i ms hz
      split at p2
      · rename_i hlen
        rw [d_allFz1] at hz
        obtain ⟨ms', hz', rfl⟩ := Option.map_eq_some_iff.mp hz
        have d2 := AllD.cons (Dt.mono k2 h1) (r2.data hz')
        rw [List.append_nil] at hlen p2
        refine ⟨_, ?_, wants_callee f2 d2 (by rw [d2.1, hlen]) k2 (p2.imp fun r z S' ι' H' v f kk rv => z S' ι' H' v f ((k1.trans k1').trans kk) rv)⟩
        rintro cls d H' ⟨_, _, _, _, _, _, _, _, z⟩
        exact z
      · exact p2.elim
    · exact p2.elim
theorem se_meth0 (ho : SE X B W o fo) (cl : L2.Cls X.K C) (hm : Meth X.K C m f) (hc : X.mg c = some (.ref C)) (F : FnG X.prog X.w X.K X.mg X.base k f fd ps (spM X.wd n FM)) (hr : RoomG k X.A) (tk : Takes X W) (hb : Binds X.K fd ps [])
    (ht : eval (.Call (.Attribute o m apos) [] [] pos) X.env = (do
      let ov ← eval o X.env
      standAt apos.atName
      let (f, first) ← holding [ov] (getMethod ov m pl)
      callWith pos f first (backTo pos (starEach [] X.env)) (backToKw pos (keywordEach [] X.env))) := by rfl) :
    SE X B W (.Call (.Attribute o m apos) [] [] pos) (mMeth c m n FM fo mNil) := by
  refine ⟨fun pins s σ H Q I ⟨S, ι, lo, st, fm, pp⟩ => ?_⟩
  have run := ho.run pins s σ H (fun x H1 => ∃ a dx fs, x = .ref a ∧ H1 a = some (.ins C dx fs) ∧ fs.lookup m = none ∧ ∃ E : XK, (∀ cls d H', E cls d H' → W cls d σ H') ∧ spM X.wd n FM [x] H1 Q E) I ?_
  · refine PySem.W.methodCall_KW (pl := pl) (thn run fun u s1 ⟨x, H1, I1, rx, a, dx, fs, ex, ea, l, E, hE, q⟩ => ?_) ht
    subst ex
    cases (show u = Value.ref a from rx)
    refine getmeth_ok I1 ea cl hm l ?_
    exact PySem.W.callWith_K0 (first := [.ref a]) I1.kIn hm.kp (run_fnG (us := [.ref a]) (vs := [.ref a]) (dvs := []) F hr hb .nil hE tk I1 (.cons rfl .nil) q)
  · refine tE.use fm (Post.bind pp) fun t kt st1 S1 ι1 H1 ov f1 k1 r1 p1 => ?_
    dsimp only at p1
    split at p1
    case isFalse => exact p1.elim
    rename_i hh
    obtain ⟨hk, hi⟩ := hh
    obtain ⟨S1', f1', k1', h1⟩ := r1.hand f1
    rw [hk] at h1
    have vr := Hand.vr (b := false) f1' h1
    obtain ⟨fs, ev, hl⟩ := insOf_ok hi
    rw [ev] at vr
    obtain ⟨q, C', dx, ws, rfl, g1, hmc, hn, _⟩ := vr
    cases (show some (Value.ref C) = some (Value.ref C') from hc.symm.trans hmc)
    refine ⟨q, dx, ws, rfl, g1, look_none hn hl, ?_⟩
    have p2 := p1.mono (k1.trans k1') fun _ z => z
    simp only [d_mNil, Res.ok_bind] at p2
    unfold callF at p2
    simp only [d_allFz1, d_allFz0, Option.map_some, List.append_nil] at p2
    split at p2
    · rename_i hlen
      refine ⟨_, ?_, wants_callee f1' (AllD.cons h1 .nil) (by simpa using hlen) .refl (p2.imp fun r z S' ι' H' v f kk rv => z S' ι' H' v f ((k1.trans k1').trans kk) rv)⟩
      rintro cls d H' ⟨_, _, _, _, _, _, _, _, z⟩
      exact z
    · exact p2.elim
def putM (f : Str) (v : MV) : List (Str × MV) → List (Str × MV)
  | [] => [(f, v)]
  | (g, x) :: r => if g = f then (g, v) :: r else (g, x) :: putM f v r
theorem putM_names {mg : Wd} {S : Addr → Prop} {ι : List Addr} {H : Hp} {f : Str} {v : V} {m : MV} (d : Dt mg S ι H v m) : ∀ {fs : List (Str × V)} {ms : List (Str × MV)}, fs.map (·.1) = ms.map (·.1) → (∀ (i : Nat) f m, fs[i]? = some f → ms[i]? = some m → Dt mg S ι H f.2 m.2) →
    (putF f v fs).map (·.1) = (putM f m ms).map (·.1) ∧ ∀ (i : Nat) f' m', (putF f v fs)[i]? = some f' → (putM f m ms)[i]? = some m' → Dt mg S ι H f'.2 m'.2
  | [], [], _, _ => ⟨rfl, fun i f' m' h1 h2 => by
      cases i with
      | zero => cases h1; cases h2; exact d
      | succ i => cases h1⟩
  | [], _ :: _, hn, _ => by cases hn
  | _ :: _, [], hn, _ => by cases hn
  | (f1, v1) :: fs, (f2, m2) :: ms, hn, hi => by
    rw [List.map_cons, List.map_cons] at hn
    obtain ⟨e1, e2⟩ := List.cons.inj hn
    have e1' : f1 = f2 := e1
    subst e1'
    unfold putF putM
    by_cases hf : f1 = f
    · rw [if_pos hf, if_pos hf]
      refine ⟨by rw [List.map_cons, List.map_cons, e2], fun i f' m' h1 h2 => ?_⟩
      cases i with
      | zero => cases h1; cases h2; exact d
      | succ i => exact hi (i + 1) f' m' (by simpa using h1) (by simpa using h2)
    · rw [if_neg hf, if_neg hf]
      obtain ⟨a1, a2⟩ := putM_names (f := f) d e2 (fun i a b q1 q2 => hi (i + 1) a b (by simpa using q1) (by simpa using q2))
      refine ⟨by rw [List.map_cons, List.map_cons, a1], fun i f' m' h1 h2 => ?_⟩
      cases i with
      | zero => cases h1; cases h2; exact hi 0 _ _ rfl rfl
      | succ i => exact a2 i f' m' (by simpa using h1) (by simpa using h2)
def sPutF (f : Str) (oi : Str → Bool) (fe fo : EF) : SF := fun lo st => fe lo st >>= fun r => frzd r >>= fun (m, st1) => fo lo st1 >>= fun (t, k, st2) => match targetOf t k lo st2 with
  | some (.ins c fs) => if oi c = true ∧ fs.length < 1000 then .ok (.nx, (putBack t k (.ins c (putM f m fs)) lo st2).1, (putBack t k (.ins c (putM f m fs)) lo st2).2) else .bad
  | _ => .bad
theorem ss_putF {fx : Str} {oi : Str → Bool} {fe : EF} {pos' : Pos} (he : SE X B W e fe) (ho : SE X B W o fo) (hI : ∀ n C, oi n = true → X.mg n = some (.ref C) → L2.Cls X.K C ∧ NoAttr X.K C fx)
    (hs : swapsWith e (some (.Attribute o fx pos')) pos.line X.env = pure false := by rfl) : SS X B W (.Assign [.Attribute o fx pos'] e pos) (sPutF fx oi fe fo) := by
  refine (ps_fld ho he hs).fw fun D σ H ⟨S, ι, lo, st, fm, p⟩ => ?_
  refine tE.use fm (Post.bind p) fun m k st1 S1 ι1 H1 v f1 k1 r1 p1 => ?_
  obtain ⟨⟨S2, f2, k2, d⟩, p2⟩ := frzd_ok f1 r1 p1
  have k02 := k1.trans k2
  refine tE.use f2 (Post.bind (p2.mono k02 fun _ z => z)) fun t kt st3 S3 ι3 H3 ov f3 k3 r3 p3 => ?_
  dsimp only at p3
  split at p3
  · rename_i c fs et
    split at p3
    · rename_i hh
      have T0 : Tgt S3 ι3 lo σ ov t kt := RV.tgt f3 r3 et
      obtain ⟨a, rfl, oo, e1, C, dx, ws, rfl, hmc, hn, hi⟩ := T0.sh f3 et
      obtain ⟨cl, na⟩ := hI c C hh.1 hmc
      obtain ⟨n1, n2⟩ := putM_names (f := fx) (d.mono k3) hn hi
      obtain ⟨f5, k5⟩ := Tgt.put (c' := .ins c (putM fx m fs)) (o := .ins C dx (putF fx v ws)) f3 T0 ⟨C, dx, _, rfl, hmc, n1, n2⟩ (fun _ _ _ => ⟨c, fs, et⟩) (fun ob u q => by rw [e1] at q; cases q)
      have hlen : ws.length = fs.length := by have := congrArg List.length hn; simpa using this
      exact ⟨a, C, dx, ws, rfl, e1, cl, na, by rw [hlen]; exact hh.2, p3 S3 ι3 σ _ f5 (k02.trans (k3.trans k5))⟩
    · exact p3.elim
  · exact p3.elim
end
def sBad : SF := fun _ _ => .bad
theorem ss_bad {X : Cx} {B : Base} {W : WX} {s : Stmt} : SS X B W s sBad := ps_never.fw fun D σ H ⟨S, ι, lo, st, fm, p⟩ => p.elim
end FW
namespace FW
open PySem L2 PySem.Spec PyProof.Rows
def takeK (o : Bool) (r : MV × Kd × Sto) : Res (MV × Sto) := match o with
  | false => frzd r
  | true => (match r with
    | (m, .fr, st) => if ownOk m = true then .ok (m, st) else .bad
    | _ => .bad)
def sPar (i j : Nat) (o1 o2 : Bool) (f1 f2 : EF) : SF := fun lo st => f1 lo st >>= fun r1 => takeK o1 r1 >>= fun (m1, st1) =>
  (if o1 = true then noExc (f2 lo st1) else f2 lo st1) >>= fun r2 => takeK o2 r2 >>= fun (m2, st2) => .ok (.nx, (lo.set i (some (m1, o1))).set j (some (m2, o2)), st2)
section
variable {mg : Wd} {B : Base} {W : WX} {S S' S2 : Addr → Prop} {ι ι' ι2 : List Addr} {H H' H2 : Hp} {lo lo' : Lo} {σ σ' : L2.St} {st st' : Sto} {v w : V} {m : MV}
theorem Fm.set_own {a : Addr} (f : Fm mg B S ι H lo σ st) (i : Nat) (hm : ownOk m = true) (h1 : ¬ S a) (h2 : a ∉ ι) (h3 : B.New a) (d : Sh mg S ι H a m) (h4 : ∀ (j : Nat) m', lo[j]? = some (some (m', true)) → σ[j]? ≠ some (some (.ref a))) :
    Fm mg B S ι H (lo.set i (some (m, true))) (σ.set i (some (.ref a))) st := ⟨f.ext, f.rep, f.loc.set_own i hm h1 h2 h3 d h4, f.g⟩
theorem set_apart {i : Nat} {z : Option (MV × Bool)} {x : Option V} {a : Addr} (hl : lo.length = σ.length) (h4 : ∀ (j : Nat) m', lo[j]? = some (some (m', true)) → σ[j]? ≠ some (some (.ref a))) (hz : ∀ m', z = some (m', true) → x ≠ some (.ref a)) :
    ∀ (j : Nat) m', (lo.set i z)[j]? = some (some (m', true)) → (σ.set i x)[j]? ≠ some (some (.ref a)) := by
  intro j m' h
  by_cases e : i = j
  · subst e
    by_cases hi : i < lo.length
    · rw [List.getElem?_set_self hi] at h
      rw [List.getElem?_set_self (by omega)]
      intro q
      exact hz m' (Option.some.inj h) (Option.some.inj q)
    · rw [List.getElem?_eq_none (by simp; omega)] at h; cases h
  · rw [List.getElem?_set_ne e] at h ⊢
    exact h4 j m' h
end
section
variable {X : Cx} {B : Base} {W : WX} {e1 e2 : Expr} {f1 f2 : EF}
theorem par_core (i j : Nat) (o1 o2 : Bool) {D : Ends} {σ : L2.St} {H : Hp} {S : Addr → Prop} {ι : List Addr} {lo : Lo} {st : Sto} {R : V → V → Hp → Prop} (fm : Fm X.wd B S ι H lo σ st) (p : Post X.wd B W S ι H (PS1 X.wd B S ι H D) (sPar i j o1 o2 f1 f2 lo st))
    (hfin : ∀ v w S' ι' H' lo' st', Fm X.wd B S' ι' H' lo' ((σ.set i (some v)).set j (some w)) st' → Keep S ι H S' ι' H' → PS1 X.wd B S ι H D (.nx, lo', st') → R v w H') :
    tE X.wd B W f1 σ H (fun v H1 => ∃ B', tE X.wd B' W f2 σ H1 (R v)) := by
  refine tE.use fm (Post.bind p) fun m k st1 S1 ι1 H1 v fm1 kp1 r1 p1 => ?_
  have hlen : lo.length = σ.length := fm.loc.len
  cases o1 with
  | false =>
    obtain ⟨⟨S2, fm2, kp2, d⟩, p2⟩ := frzd_ok fm1 r1 p1
    dsimp only at p2
    rw [if_neg Bool.false_ne_true] at p2
    have k02 := kp1.trans kp2
    refine ⟨B, tE.use fm2 (Post.bind (p2.mono k02 fun _ z => z)) fun m2 kd2 st2 S3 ι3 H3 w fm3 kp3 r2 p3 => ?_⟩
    cases o2 with
    | false =>
      obtain ⟨⟨S4, fm4, kp4, d2⟩, p4⟩ := frzd_ok fm3 r2 p3
      exact hfin v w S4 ι3 H3 _ _ ((fm4.set_val i (d.mono (kp3.trans kp4))).set_val j d2) (k02.trans (kp3.trans kp4)) p4
    | true =>
      cases kd2 with
      | fr =>
        unfold takeK at p3
        dsimp only at p3
        split at p3
        · rename_i hm
          obtain ⟨a, rfl, q1, q2, q3, q4, q5⟩ := r2
          exact hfin v _ S3 ι3 H3 _ _ ((fm3.set_val i (d.mono kp3)).set_own j hm q1 q2 q3 q4 (set_apart hlen q5 fun _ z => nomatch z)) (k02.trans kp3) p3
        · exact p3.elim
      | _ => exact p3.elim
  | true =>
    cases k with
    | fr =>
      unfold takeK at p1
      dsimp only at p1
      split at p1
      case isFalse => exact p1.elim
      rename_i hm
      obtain ⟨a, rfl, q1, q2, q3, q4, q5⟩ := r1
      obtain ⟨o, ho, hob⟩ := q4
      have fg := fm1.guard ho q1 q2 q3 q5
      simp only [Res.ok_bind, if_true] at p1
      refine ⟨B.put a o, tE.use fg ((Post.bind p1).noExc) fun m2 kd2 st2 S3 ι3 H3 w fm3 kp3 r2 p3 => ?_⟩
      obtain ⟨fm4, g1, g2, g3, g4⟩ := fm3.unguard q3
      have sh : Sh X.wd S3 ι3 H3 a m := ⟨o, g1, hob.mono kp3⟩
      have ff := fm4.set_own i hm g2 g3 q3 sh g4
      cases o2 with
      | false =>
        cases kd2 with
        | pk q => exact p3.elim
        | fz => exact hfin _ w S3 ι3 H3 _ _ (ff.set_val j r2) (kp1.trans kp3) p3
        | fr =>
          obtain ⟨b, rfl, b1, b2, b3, b4, b5⟩ := r2
          obtain ⟨b3, bne⟩ := put_new b3
          obtain ⟨ob, hob2, hob3⟩ := b4
          have f5 := ff.freeze hob2 b2 b3 (set_apart hlen b5 fun m' _ z => bne (by cases z; rfl))
          have k5 : Keep S3 ι3 H3 (fz1 S3 b) ι3 H3 := .fz1
          exact hfin _ _ _ ι3 H3 _ _ (f5.set_val j ((Sh.mono (a := b) k5 rfl ⟨ob, hob2, hob3⟩).frozen (.inr rfl))) (kp1.trans (kp3.trans k5)) p3
      | true =>
        cases kd2 with
        | fr =>
          dsimp only at p3
          split at p3
          · rename_i hm2
            obtain ⟨b, rfl, b1, b2, b3, b4, b5⟩ := r2
            obtain ⟨b3, bne⟩ := put_new b3
            exact hfin _ _ S3 ι3 H3 _ _ (ff.set_own j hm2 b1 b2 b3 b4 (set_apart hlen b5 fun m' _ z => bne (by cases z; rfl))) (kp1.trans kp3) p3
          · exact p3.elim
        | _ => exact p3.elim
    | _ => exact p1.elim
theorem ss_par (i j : Nat) (o1 o2 : Bool) {x y : Str} {px py pt pos : Pos} {kt k2 pt2} (hc : X.calm = true) (hN : X.N.Nodup) (h1 : SE X B W e1 f1) (h2 : ∀ B', SE X B' W e2 f2) (hi : X.N[i]? = some x := by rfl) (hj : X.N[j]? = some y := by rfl) (hij : i ≠ j := by decide)
    (hx : X.env.scope.names.lookup x = some .local := by rfl) (hy : X.env.scope.names.lookup y = some .local := by rfl)
    (hw : swappedStores [.Tuple [.Name x px, .Name y py] kt pt] (.Tuple [e1, e2] k2 pt2) X.env = pure (some [x, y]) := by rfl)
    (hs : swapsWithSole [.Tuple [.Name x px, .Name y py] kt pt] (.Tuple [e1, e2] k2 pt2) pos.line X.env = pure false := by rfl)
    (ha1 : starEach [e1, e2] X.env = (false, eval e1 X.env) :: starEach [e2] X.env := by rfl) (ha2 : starEach [e2] X.env = (false, eval e2 X.env) :: starEach [] X.env := by rfl) :
    SS X B W (.Assign [.Tuple [.Name x px, .Name y py] kt pt] (.Tuple [e1, e2] k2 pt2) pos) (sPar i j o1 o2 f1 f2) := by
  refine (ps_par hc hN hi hj hij hx hy (pa_cons h1 (pa_cons (PE.ex (t := fun B' => tE X.wd B' W f2) h2) pa_nil ha2) ha1) hw hs).fw fun D σ H ⟨S, ι, lo, st, fm, p⟩ => ?_
  exact par_core (R := fun v w H1 => ∃ v' w', [v, w] = [v', w'] ∧ D.nx ((σ.set i (some v')).set j (some w')) H1) i j o1 o2 fm p fun v w S' ι' H' lo' st' f k q => ⟨v, w, rfl, q S' ι' _ H' f k⟩
theorem ss_parT (i j : Nat) (o1 o2 : Bool) {x y : Str} {px py pt pos : Pos} {kt k2 pt2} (hc : X.calm = true) (hN : X.N.Nodup) (h1 : SE X B W e1 f1) (h2 : ∀ B', SE X B' W e2 f2) (hi : X.N[i]? = some x := by rfl) (hj : X.N[j]? = some y := by rfl)
    (hx : L2.Loc X.env.scope x := by first | exact Or.inl rfl | exact Or.inr rfl) (hy : L2.Loc X.env.scope y := by first | exact Or.inl rfl | exact Or.inr rfl)
    (hfx : X.fn x = true ∨ X.env.scope.names.lookup x = some .local := by first | exact .inl rfl | exact .inr rfl) (hfy : X.fn y = true ∨ X.env.scope.names.lookup y = some .local := by first | exact .inl rfl | exact .inr rfl)
    (hw : swappedStores [.Tuple [.Name x px, .Name y py] kt pt] (.Tuple [e1, e2] k2 pt2) X.env = pure none := by rfl)
    (hs : swapsWithSole [.Tuple [.Name x px, .Name y py] kt pt] (.Tuple [e1, e2] k2 pt2) pos.line X.env = pure false := by rfl)
    (h3 : (assignEach [.Tuple [.Name x px, .Name y py] kt pt] X.env).map (·.2) = [assign (.Tuple [.Name x px, .Name y py] kt pt) X.env] := by rfl)
    (h4 : (assignEach [.Name x px, .Name y py] X.env).map (·.2) = assign (.Name x px) X.env :: (assignEach [.Name y py] X.env).map (·.2) := by rfl) (h5 : (assignEach [.Name y py] X.env).map (·.2) = assign (.Name y py) X.env :: (assignEach [] X.env).map (·.2) := by rfl)
    (hn : (assignEach [.Name x px, .Name y py] X.env).length = 2 := by rfl) (hst : (assignEach [.Name x px, .Name y py] X.env).findIdx? (·.1) = none := by rfl)
    (ha1 : starEach [e1, e2] X.env = (false, eval e1 X.env) :: starEach [e2] X.env := by rfl) (ha2 : starEach [e2] X.env = (false, eval e2 X.env) :: starEach [] X.env := by rfl) :
    SS X B W (.Assign [.Tuple [.Name x px, .Name y py] kt pt] (.Tuple [e1, e2] k2 pt2) pos) (sPar i j o1 o2 f1 f2) := by
  refine (ps_asg (pe_tup (pa_cons h1 (pa_cons (PE.ex (t := fun B' => tE X.wd B' W f2) h2) pa_nil ha2) ha1)) (pg_tup hc (pgs_cons (pg_name hN hi hx hfx) (pgs_cons (pg_name hN hj hy hfy) pgs_nil h5) h4) hn hst) hs hw h3).fw fun D σ H ⟨S, ι, lo, st, fm, p⟩ => ?_
  refine par_core (R := fun v w H1 => [v, w].length ≤ sizeLine ∧ ∀ t, H1 t = none → gTup X.K 2 (gCons (gName i) (gCons (gName j) gNil)) (.ref t) σ (upd H1 t (.tup [v, w])) fun σ' H' => D.nx σ' H') i j o1 o2 fm p fun v w S' ι' H' lo' st' f k q => ?_
  refine ⟨(by decide +kernel : (2 : Nat) ≤ sizeLine), fun t ht => ⟨t, [v, w], rfl, .of upd_same, rfl, v, [w], rfl, w, [], rfl, rfl, ?_⟩⟩
  exact q S' ι' _ _ (f.new ht) (k.trans ((Ext.new ht).keep f.rep))
def sPar3 (i j l : Nat) (f1 f2 f3 : EF) : SF := fun lo st => f1 lo st >>= fun r1 => frzd r1 >>= fun (m1, st1) => f2 lo st1 >>= fun r2 => frzd r2 >>= fun (m2, st2) => f3 lo st2 >>= fun r3 => frzd r3 >>= fun (m3, st3) =>
  .ok (.nx, ((lo.set i (some (m1, false))).set j (some (m2, false))).set l (some (m3, false)), st3)
def sFz (i : Nat) (g : SF) : SF := fun lo st => match lo[i]? with
  | some (some (m, true)) => g (lo.set i (some (m, false))) st
  | _ => g lo st
theorem ss_fz (i : Nat) {s : Stmt} {g : SF} (h : SS X B W s g) : SS X B W s (sFz i g) := by
  refine h.fw fun D σ H ⟨S, ι, lo, st, fm, p⟩ => ?_
  unfold sFz at p
  split at p
  · rename_i m e
    obtain ⟨a, ea, n1, n2, n3, d⟩ := fm.loc.own i m e
    have hi : i < lo.length := (List.getElem?_eq_some_iff.mp e).1
    have hl := fm.loc.len
    have f0 : Fm X.wd B S ι H (lo.set i none) σ st := by
      have ne : ∀ {j : Nat} {z : MV × Bool}, (lo.set i none)[j]? = some (some z) → i ≠ j ∧ lo[j]? = some (some z) := fun {j z} h => by
        by_cases q : i = j
        · subst q
          rw [List.getElem?_set_self hi] at h; cases h
        · rw [List.getElem?_set_ne q] at h; exact ⟨q, h⟩
      refine ⟨fm.ext, fm.rep, ⟨by simp [hl], fun j n h => fm.loc.val j n (ne h).2, fun j n h => fm.loc.own j n (ne h).2, fun j k n n' b hjk h1 h2 => fm.loc.dis j k n n' b hjk (ne h1).2 (ne h2).2, fun j c fs h => fm.loc.pin j c fs (ne h).2⟩, fm.g⟩
    obtain ⟨o, ho, hob⟩ := d
    have ff := f0.freeze ho n2 n3 fun j m' h q => by
      have hj : i ≠ j := fun z => by subst z; rw [List.getElem?_set_self hi] at h; cases h
      rw [List.getElem?_set_ne hj] at h
      exact fm.loc.dis i j m m' a hj e h ea q
    have k1 : Keep S ι H (fz1 S a) ι H := .fz1
    have dd : Dt X.wd (fz1 S a) ι H (.ref a) m := (Sh.mono (a := a) k1 rfl ⟨o, ho, hob⟩).frozen (.inr rfl)
    have fs := ff.set_val i dd
    rw [List.set_set] at fs
    have es : σ.set i (some (.ref a)) = σ := by
      apply List.ext_getElem?
      intro j
      by_cases q : i = j
      · subst q; rw [List.getElem?_set_self (by omega), ea]
      · rw [List.getElem?_set_ne q]
    rw [es] at fs
    exact ⟨_, ι, _, st, fs, p.mono k1 fun r z => z.mono k1⟩
  · exact ⟨S, ι, lo, st, fm, p⟩
def mRev (fa : EF) : EF := fun lo st => fa lo st >>= fun (a, _, st1) => match vw st1 a with
  | .lst xs => .ok (.lst xs.reverse, .fr, st1)
  | _ => .bad
theorem AllD.reverse {mg : Wd} {S : Addr → Prop} {ι : List Addr} {H : Hp} {vs : List V} {ms : List MV} (d : AllD mg S ι H vs ms) : AllD mg S ι H vs.reverse ms.reverse := by
  refine ⟨by simp [d.1], fun i v m h1 h2 => ?_⟩
  have hi : i < vs.length := by have := (List.getElem?_eq_some_iff.mp h1).1; simpa using this
  rw [List.getElem?_reverse hi] at h1
  rw [List.getElem?_reverse (by rw [← d.1]; exact hi)] at h2
  rw [← d.1] at h2
  exact d.2 _ v m h1 h2
theorem se_revL {a : Expr} {fa : EF} {k : Nat} {p1 p2 p3 pos : Pos} (ha : SE X B W a fa) : SE X B W (.Subscript a (.Slice none none (some (.UnaryOp .USub (.Constant (.int 1) k p1) p2)) p3) pos) (mRev fa) := by
  refine (pe_revL ha).fw fun σ H Q ⟨S, ι, lo, st, fm, p⟩ => ?_
  refine tE.use fm (Post.bind p) fun m k st1 S1 ι1 H1 v fm1 kp1 r1 p1 => ?_
  obtain ⟨S1', f1', k1', h1⟩ := r1.hand fm1
  have vr := h1.vr f1'
  dsimp only at p1
  split at p1
  · rename_i xs e
    rw [e] at vr
    obtain ⟨q, vs, rfl, g, d⟩ := vr
    refine ⟨q, vs, rfl, .of g, fun r hr => ?_⟩
    exact wants_of (z := (.lst xs.reverse, true)) (st2 := st1) f1' p1 (kp1.trans k1') r _ hr ⟨_, rfl, d.reverse⟩
  · exact p1.elim
def strsOf : List MV → Option (List Str)
  | [] => some []
  | .str x :: ms => (strsOf ms).map (x :: ·)
  | _ :: _ => none
def gInT (neg : Bool) : G2
  | _, .str x, .tup ms => (strsOf ms).map fun xs => (.bl (if neg then !(xs.any fun y => decide (y = x)) else xs.any fun y => decide (y = x)), false)
  | _, _, _ => none
def gInC (neg : Bool) : G2
  | _, .str x, .str z => (match x.cps.toList with
    | [c] => some (.bl (if neg then !decide (c ∈ z.cps.toList) else decide (c ∈ z.cps.toList)), false)
    | _ => none)
  | _, _, _ => none
theorem strs_of {mg : Wd} {S : Addr → Prop} {ι : List Addr} {H : Hp} : ∀ {ms : List MV} {vs : List V} {xs : List Str}, AllD mg S ι H vs ms → strsOf ms = some xs → vs = xs.map V.str
  | [], vs, xs, d, e => by
    obtain rfl := d.inv_nil
    cases e; rfl
  | m :: ms, vs, xs, d, e => by
    obtain ⟨v, vs', rfl, d1, dr⟩ := d.inv_cons
    cases m with
    | str x =>
      have e' : (strsOf ms).map (x :: ·) = some xs := e
      obtain ⟨ys, h1, rfl⟩ := Option.map_eq_some_iff.mp e'
      cases d1
      rw [strs_of dr h1]; rfl
    | _ => cases e
theorem inV_strs (x : Str) : ∀ xs : List Str, inV (.str x) (xs.map V.str) = xs.any fun y => decide (y = x)
  | [] => rfl
  | y :: xs => by
    show ((V.str y :: xs.map V.str).any _) = _
    rw [List.any_cons, List.any_cons]
    have := inV_strs x xs
    unfold inV at this
    rw [this]
    have e : eqV (.str y) (.str x) = decide (y = x) := by
      unfold eqV
      by_cases h : y = x
      · subst h; simp
      · simp [h]
    rw [e]
theorem all_flat : ∀ xs : List Str, (xs.map V.str).all flatV = true
  | [] => rfl
  | x :: xs => by rw [List.map_cons, List.all_cons, all_flat xs]; rfl
theorem ok_inT {neg : Bool} : Op2 X (rIn X.K neg) (gInT neg) := by
  intro S ι H st x y a b z Q hr ha hb e w
  unfold gInT at e
  split at e
  · rename_i s ms
    obtain ⟨xs, hx, rfl⟩ := Option.map_eq_some_iff.mp e
    obtain ⟨p, vs, rfl, g, d⟩ := hb
    cases ha
    have ev := strs_of d hx
    subst ev
    refine ⟨p, _, rfl, .inr (.of g), rfl, all_flat xs, ?_⟩
    rw [inV_strs]
    exact w _ (.bl _)
  · cases e
abbrev rSign (neg : Bool) : R2 := fun x y H Q => ∃ (c : Nat) (z : Str), x = .str ⟨#[c]⟩ ∧ y = .str z ∧ Q (.bl (if neg then !decide (c ∈ z.cps.toList) else decide (c ∈ z.cps.toList))) H
theorem ok_inC {neg : Bool} : Op2 X (rSign neg) (gInC neg) := by
  intro S ι H st x y a b z Q hr ha hb e w
  unfold gInC at e
  split at e
  · rename_i s t
    split at e
    · rename_i c hc
      cases e
      cases ha; cases hb
      have hs : s = ⟨#[c]⟩ := by
        obtain ⟨a⟩ := s
        have ha : a = #[c] := Array.ext' (by simpa using hc)
        rw [ha]
      subst hs
      exact ⟨c, t, rfl, rfl, w _ (.bl _)⟩
    · cases e
  · cases e
theorem op_sign : OpR X (compareOp .In) (rSign false) := op_in_sign
theorem op_nsign : OpR X (compareOp .NotIn) (rSign true) := op_notIn_sign
def gInA (neg : Bool) : G2 := fun st a b => (gIn neg st a b).or ((gInT neg st a b).or (gInC neg st a b))
section
variable {a b : Expr} {fa fb : EF} {pos : Pos} {k : Nat}
theorem st_inA (hr : RoomG k X.A) (ha : SE X B W a fa) (hb : SE X B W b fb) (hm : behindInMarks .In b = false := by first | exact nomark _ | rfl) : STe X B W (.Compare a [.In] [b] pos) (mTv (mOp (gInA false) fa fb)) :=
  st_cmp ((op_inD (by have := hr.r.un; omega)).or (op_in_seq.or op_sign)) (Op2.or ok_in (Op2.or ok_inT ok_inC)) ha hb hm
theorem st_notInA (hr : RoomG k X.A) (ha : SE X B W a fa) (hb : SE X B W b fb) (hm : behindInMarks .NotIn b = false := by first | exact nomark _ | rfl) : STe X B W (.Compare a [.NotIn] [b] pos) (mTv (mOp (gInA true) fa fb)) :=
  st_cmp ((op_notInD (by have := hr.r.un; omega)).or (op_notIn_seq.or op_nsign)) (Op2.or ok_notIn (Op2.or ok_inT ok_inC)) ha hb hm
end
def iStrM (f : EF) : IFn := fun lo st => f lo st >>= fun (m, _, st1) => match m with
  | .str z => .ok (z.cps.toList.map fun c => .str ⟨#[c]⟩, fun _ _ => True, st1)
  | _ => .bad
theorem si_str {tg e : Expr} {f : EF} (he : SE X B W e f) : SI X B W tg e (iStrM f) := by
  refine (pi_str he).fw fun σ H R ⟨S, ι, lo, st, fm, p⟩ => ?_
  refine tE.use fm (Post.bind p) fun m k st1 S1 ι1 H1 v f1 k1 r1 p1 => ?_
  obtain ⟨S1', f1', k1', h1⟩ := r1.hand f1
  have vr := h1.vr f1'
  dsimp only at p1
  split at p1
  · rename_i z
    cases vr
    refine ⟨z, rfl, p1 S1' ι1 H1 _ f1' (k1.trans k1') ?_ trivial⟩
    intro B2 i S2 ι2 H2 lo2 σ2 st2 f2 k2 _
    refine ⟨fun m hm => ?_, fun hl => ?_⟩
    · rw [List.getElem?_map] at hm
      obtain ⟨c, hc, rfl⟩ := Option.map_eq_some_iff.mp hm
      have hc' : z.cps[i]? = some c := by rw [← hc]; simp
      refine ⟨(show i < z.cps.size from by have := (List.getElem?_eq_some_iff.mp hc).1; simpa using this), fun x H' y => ?_⟩
      obtain ⟨rfl, c2, h2, rfl⟩ := y
      rw [hc'] at h2; cases h2
      exact ⟨S2, f2, .refl, .str _⟩
    · show z.cps.size ≤ i
      simpa using hl
  · exact p1.elim
end
end FW
namespace FW
open PySem L2 PySem.Spec PyProof.Rows
def ES : List Str := ["InvalidNumber", "InvalidList", "InvalidItem", "InvalidProgram", "InvalidRow", "InvalidText", "InvalidName", "TakenName", "UnknownName"]
def CS : List Str := ["Program", "Tested", "Live", "Library", "Window", "Book", "Cover", "Below"]
section
variable {X : Cx} {B : Base} {W : WX} {a b c : Expr} {fa fb fc : EF} {pos : Pos}
theorem st_lele (ha : SE X B W a fa) (hb : SE X B W b fb) (hc : SE X B W c fc) (hm : lastMarks [.LtE, .LtE] [b, c] = false := by with_unfolding_all rfl) : STe X B W (.Compare a [.LtE, .LtE] [b, c] pos) (mTv (mChain gLe gLe fa fb fc)) :=
  st_chain op_le op_le (ok_i0 fun _ _ _ _ _ _ => .bl _) (ok_i0 fun _ _ _ _ _ _ => .bl _) ha hb hc hm
end
section
variable (lo : Lo) (st : Sto)
@[simp] theorem d_mMeth (c m : Str) (n : Nat) (F : FF) (fo : EF) (g : AF) : mMeth c m n F fo g lo st = (fo lo st >>= fun (t, k, st1) => if isPk k = false ∧ insOf c m (vw st1 t) = true then g lo st1 >>= fun (l, st2) => callF n F [] ((t, false) :: l) lo st2 else .bad) := (Eq.refl _).trans rfl
@[simp] theorem d_insOf (c m : Str) (fs) : insOf c m (.ins c fs) = (fs.lookup m).isNone := by
  show (decide (c = c) && (fs.lookup m).isNone) = _
  rw [decide_eq_true rfl, Bool.true_and]
@[simp] theorem d_sPutF (f : Str) (oi) (fe fo : EF) : sPutF f oi fe fo lo st = (fe lo st >>= fun r => frzd r >>= fun (m, st1) => fo lo st1 >>= fun (t, k, st2) => match targetOf t k lo st2 with
  | some (.ins c fs) => if oi c = true ∧ fs.length < 1000 then .ok (.nx, (putBack t k (.ins c (putM f m fs)) lo st2).1, (putBack t k (.ins c (putM f m fs)) lo st2).2) else .bad
  | _ => .bad) := (Eq.refl _).trans rfl
@[simp] theorem d_sPar (i j o1 o2) (f1 f2 : EF) : sPar i j o1 o2 f1 f2 lo st = (f1 lo st >>= fun r1 => takeK o1 r1 >>= fun (m1, st1) =>
  (if o1 = true then noExc (f2 lo st1) else f2 lo st1) >>= fun r2 => takeK o2 r2 >>= fun (m2, st2) => .ok (.nx, (lo.set i (some (m1, o1))).set j (some (m2, o2)), st2)) := (Eq.refl _).trans rfl
@[simp] theorem d_sPar3 (i j l) (f1 f2 f3 : EF) : sPar3 i j l f1 f2 f3 lo st = (f1 lo st >>= fun r1 => frzd r1 >>= fun (m1, st1) => f2 lo st1 >>= fun r2 => frzd r2 >>= fun (m2, st2) => f3 lo st2 >>= fun r3 => frzd r3 >>= fun (m3, st3) =>
  .ok (.nx, ((lo.set i (some (m1, false))).set j (some (m2, false))).set l (some (m3, false)), st3)) := (Eq.refl _).trans rfl
@[simp] theorem d_takeF (r) : takeK false r = frzd r := (Eq.refl _).trans rfl
@[simp] theorem d_takeT (m : MV) : takeK true (m, .fr, st) = if ownOk m = true then .ok (m, st) else .bad := (Eq.refl _).trans rfl
@[simp] theorem d_noExc {α : Type} (a : α) : noExc (.ok a) = .ok a := (Eq.refl _).trans rfl
@[simp] theorem d_sFz (i : Nat) (g : SF) : sFz i g lo st = (match lo[i]? with
  | some (some (m, true)) => g (lo.set i (some (m, false))) st
  | _ => g lo st) := (Eq.refl _).trans rfl
@[simp] theorem d_mRev (fa : EF) : mRev fa lo st = (fa lo st >>= fun (a, _, st1) => match vw st1 a with
  | .lst xs => .ok (.lst xs.reverse, .fr, st1)
  | _ => .bad) := (Eq.refl _).trans rfl
end
end FW
namespace FL
open PySem L2 PySem.Spec PyProof.Rows FW
noncomputable def g_law_cell : SF := (sSeq (sIf (mTv (mOp gLt (mVar 1) (mCallB gLen (mCons (mVar 0) mNil)))) (sRet (mOp gIx (mVar 0) (mVar 1))) sNil)
  (sRet (mC (.int 0))))
noncomputable def M_law_cell : FF := runF 2 g_law_cell
noncomputable def g_law_generator : SF := (sSeq (sSet 2 (mCall 2 M_law_cell [] (mCons (mVar 0) (mCons (mVar 1) mNil))))
  (sRet (mLst (mCons (mOp gMod (mCallB gInt1 (mCons (mCallB gMax2 (mCons (mOp gSub (mVar 2) (mOp gPow (mC (.int 10)) (mC (.int 18)))) (mCons (mC (.int 0)) mNil))) mNil)) (mOp gPow (mOp gPow (mC (.int 10)) (mC (.int 60))) (mC (.int 10)))) (mCons (mOp gMod (mCallB gInt1 (mCons (mVar 2) mNil)) (mC (.int 2147483647))) (mCons (mOp gMul (mC (.int 1000)) (mVar 1)) mNil))))))
noncomputable def M_law_generator : FF := runF 3 g_law_generator
noncomputable def g_law_hash : SF := (sSeq (sSet 2 (mOp gMod (mCallB gInt1 (mCons (mOp gAdd (mOp gAdd (mOp gAdd (mOp gMul (mVar 0) (mC (.int 1103515245))) (mOp gMul (mOp gMul (mC (.int 7919)) (mVar 1)) (mVar 1))) (mVar 1)) (mC (.int 1))) mNil)) (mC (.int 2147483647))))
  (sSeq (sSet 2 (mOp gMod (mCallB gInt1 (mCons (mOp gAdd (mOp gMul (mVar 2) (mVar 2)) (mC (.int 69621))) mNil)) (mC (.int 2147483629))))
  (sRet (mOp gMod (mCallB gInt1 (mCons (mOp gMul (mVar 2) (mC (.int 48271))) mNil)) (mC (.int 2147483587))))))
noncomputable def M_law_hash : FF := runF 3 g_law_hash
noncomputable abbrev b1_law_random : SF := (sSeq (sPutIx (mOp gAdd (mOp gIx (mVar 0) (mC (.int 2))) (mC (.int 1))) (mVar 0) (mC (.int 2)))
  (sSet 2 (mOp gAdd (mOp gMul (mVar 2) (mC (.int 2147483587))) (mCall 2 M_law_hash [] (mCons (mOp gIx (mVar 0) (mC (.int 1))) (mCons (mOp gIx (mVar 0) (mC (.int 2))) mNil))))))
noncomputable def g_law_random : SF := (sSeq (sIf (mTv (mOp gGt (mOp gIx (mVar 0) (mC (.int 0))) (mC (.int 0)))) (sSeq (sSet 2 (mOp gMod (mCallB gInt1 (mCons (mOp gIx (mVar 0) (mC (.int 0))) mNil)) (mVar 1)))
  (sSeq (sPutIx (mOp gDiv (mOp gIx (mVar 0) (mC (.int 0))) (mVar 1)) (mVar 0) (mC (.int 0)))
  (sRet (mVar 2)))) sNil)
  (sSeq (sSet 2 (mC (.int 0)))
  (sSeq (sFor (iRg1 (mOp gAdd (mC (.int 1)) (mOp gDiv (mBits (mVar 1)) (mC (.int 30))))) (gN 3) b1_law_random)
  (sRet (mOp gMod (mCallB gInt1 (mCons (mVar 2) mNil)) (mVar 1))))))
noncomputable def M_law_random : FF := runF 4 g_law_random
noncomputable def g_is_whole : SF := (sRet (mAndV (mIsi (isT "int") noC noC (mVar 0)) (mUn gNot (mIsi (isT "bool") noC noC (mVar 0)))))
noncomputable def M_is_whole : FF := runF 1 g_is_whole
noncomputable def g_is_within : SF := (sRet (mAndV (mCall 1 M_is_whole [] (mCons (mVar 0) mNil)) (mChain gLe gLe (mVar 1) (mVar 0) (mVar 2))))
noncomputable def M_is_within : FF := runF 3 g_is_within
noncomputable def g_is_move : SF := (sSeq (sIf (mOr (mNotT (mTv (mIsi (isT "tuple") noC noC (mVar 0)))) (mOr (mTv (mOp (gEqB true) (mCallB gLen (mCons (mVar 0) mNil)) (mC (.int 4)))) (mOr (mTv (mOp (gInA true) (mOp gIx (mVar 0) (mC (.int 0))) (mVar 1))) (mTv (mOp (gInA true) (mOp gIx (mVar 0) (mC (.int 3))) (mVar 1)))))) (sRet (mC (.bl false))) sNil)
  (sSeq (sIf (mOr (mNotT (mTv (mCall 3 M_is_within [] (mCons (mOp gIx (mVar 0) (mC (.int 1))) (mCons (mC (.int 0)) (mCons (mC (.int 8)) mNil)))))) (mNotT (mTv (mCall 3 M_is_within [] (mCons (mOp gIx (mVar 0) (mC (.int 2))) (mCons (mUn gNeg (mC (.int 4))) (mCons (mC (.int 4)) mNil))))))) (sRet (mC (.bl false))) sNil)
  (sRet (mChain gLe gLe (mC (.int 0)) (mOp gAdd (mOp gIx (mVar 0) (mC (.int 1))) (mOp gIx (mVar 0) (mC (.int 2)))) (mC (.int 8))))))
noncomputable def M_is_move : FF := runF 2 g_is_move
noncomputable def g_is_name : SF := (sSeq (sIf (mOr (mNotT (mTv (mIsi (isT "str") noC noC (mVar 0)))) (mNotT (mTv (mChain gLe gLe (mC (.int 1)) (mCallB gLen (mCons (mVar 0) mNil)) (mC (.int 8)))))) (sRet (mC (.bl false))) sNil)
  (sRet (mOp (gEqB false) (mLc [1] (iStrM (mVar 0)) (gN 1) (mTv (mOp (gInA true) (mVar 1) (mC (.str "abcdefghijklmnopqrstuvwxyz")))) (mVar 1)) (mLst mNil))))
noncomputable def M_is_name : FF := runF 2 g_is_name
noncomputable abbrev b2_Program_init : SF := (sIf (mNotT (mTv (mCall 2 M_is_move [] (mCons (mVar 5) (mCons (mVar 1) mNil))))) (sRaise "InvalidItem" "value" [] (mCons (mVar 5) mNil)) sNil)
noncomputable abbrev b1_Program_init : SF := (sIf (mOr (mNotT (mTv (mCall 1 M_is_name [] (mCons (mVar 4) mNil)))) (mTv (mOp (gInA false) (mVar 4) (mSl (mVar 1) oNone (oSome (mVar 3)))))) (sRaise "InvalidItem" "value" [] (mCons (mVar 4) mNil)) sNil)
noncomputable def g_Program_init : SF := (sSeq (sIf (mOr (mNotT (mTv (mIsi (isT "list") noC noC (mVar 1)))) (mNotT (mTv (mChain gLe gLe (mC (.int 1)) (mCallB gLen (mCons (mVar 1) mNil)) (mC (.int 4)))))) (sRaise "InvalidList" "value" [] (mCons (mVar 1) mNil)) sNil)
  (sSeq (sFor (iEn (mVar 1)) (gT 2 (gsCons (gN 3) (gsCons (gN 4) gsNil))) b1_Program_init)
  (sSeq (sIf (mOr (mNotT (mTv (mIsi (isT "list") noC noC (mVar 2)))) (mTv (mOp gGt (mCallB gLen (mCons (mVar 2) mNil)) (mC (.int 10))))) (sRaise "InvalidList" "value" [] (mCons (mVar 2) mNil)) sNil)
  (sSeq (sFor (iSeq (mVar 2)) (gN 5) b2_Program_init)
  (sSeq (sPutF "stands" (inB ["Program"]) (mCallB gTupOf (mCons (mVar 1) mNil)) (mVar 0))
  (sSeq (sPutF "steps" (inB ["Program"]) (mCallB gTupOf (mCons (mVar 2) mNil)) (mVar 0))
  (sPutF "folio" (inB ["Program"]) (mLst mNil) (mVar 0))))))))
noncomputable def M_Program_init : FF := runI "Program" 6 g_Program_init
noncomputable def g_law_program : SF := (sRet (mCall 2 M_Program_init [] (mCons (mCallB gListOf (mCons (mOp gIx (mVar 0) (mC (.int 0))) mNil)) (mCons (mCallB gListOf (mCons (mOp gIx (mVar 0) (mC (.int 1))) mNil)) mNil))))
noncomputable def M_law_program : FF := runF 1 g_law_program
noncomputable def g_check_program : SF := (sIf (mNotT (mTv (mIsi noT (eqc CS "Program") noC (mVar 0)))) (sRaise "InvalidProgram" "value" [] (mCons (mVar 0) mNil)) sNil)
noncomputable def M_check_program : FF := runF 1 g_check_program
end FL
namespace FL
open PySem L2 PySem.Spec PyProof.Rows FW
noncomputable abbrev b1_law_moves_drawn : SF := (sSeq (sSet 5 (mOp gSub (mCall 2 M_law_random [] (mCons (mVar 0) (mCons (mC (.int 9)) mNil))) (mC (.int 4))))
  (sSeq (sSet 6 (mOp gIx (mLst (mCons (mC (.int 0)) (mCons (mC (.int 0)) (mCons (mC (.int 1)) (mCons (mC (.int 2)) (mCons (mC (.int 4)) mNil)))))) (mCall 2 M_law_random [] (mCons (mVar 0) (mCons (mC (.int 5)) mNil)))))
  (sSeq (sSet 7 (mCallB gMin2 (mCons (mOp gAdd (mCallB gMax2 (mCons (mC (.int 0)) (mCons (mOp gSub (mC (.int 0)) (mVar 5)) mNil))) (mVar 6)) (mCons (mOp gSub (mC (.int 8)) (mCallB gMax2 (mCons (mC (.int 0)) (mCons (mVar 5) mNil)))) mNil))))
  (sSeq (sPar 8 9 false false (mOp gIx (mVar 1) (mCall 2 M_law_random [] (mCons (mVar 0) (mCons (mCallB gLen (mCons (mVar 1) mNil)) mNil)))) (mOp gIx (mVar 1) (mCall 2 M_law_random [] (mCons (mVar 0) (mCons (mCallB gLen (mCons (mVar 1) mNil)) mNil)))))
  (sApp (mVar 3) (mTup (mCons (mVar 8) (mCons (mVar 7) (mCons (mVar 5) (mCons (mVar 9) mNil))))))))))
noncomputable def g_law_moves_drawn : SF := (sSeq (sOwn 3 (mLst mNil))
  (sSeq (sFor (iRg1 (mCall 2 M_law_random [] (mCons (mVar 0) (mCons (mOp gAdd (mVar 2) (mC (.int 1))) mNil)))) (gN 4) b1_law_moves_drawn)
  (sRet (mVar 3))))
noncomputable def M_law_moves_drawn : FF := runF 10 g_law_moves_drawn
noncomputable def g_law_drawn : SF := (sSeq (sSet 3 (mSl (mLst (mCons (mC (.str "up")) (mCons (mC (.str "down")) (mCons (mC (.str "mid")) (mCons (mC (.str "move")) mNil))))) oNone (oSome (mOp gAdd (mC (.int 1)) (mCall 2 M_law_random [] (mCons (mVar 0) (mCons (mVar 1) mNil)))))))
  (sRet (mLst (mCons (mVar 3) (mCons (mCall 3 M_law_moves_drawn [] (mCons (mVar 0) (mCons (mVar 3) (mCons (mVar 2) mNil)))) mNil)))))
noncomputable def M_law_drawn : FF := runF 4 g_law_drawn
end FL
namespace FW
open PySem L2 PySem.Spec PyProof.Rows
mutual
def md : MV → PyData
  | .non => .none
  | .bl b => .bool b
  | .int i => .int i
  | .str x => .str x
  | .tup xs => .tuple (mds xs)
  | .lst xs => .list (mds xs)
  | .dct _ => .dict []
  | .ins _ _ => .none
  | .exc _ _ => .none
  | .ref _ => .none
  | .scr _ => .none
def mds : List MV → List PyData
  | [] => []
  | x :: xs => md x :: mds xs
end
def gd : Nat → MV → Bool
  | 0, _ => false
  | _ + 1, .non => true
  | _ + 1, .bl _ => true
  | _ + 1, .int i => decide (i.natAbs.log2 < 1600)
  | _ + 1, .str x => PyData.strOk x
  | n + 1, .tup xs => xs.all (gd n)
  | n + 1, .lst xs => xs.all (gd n)
  | _, _ => false
def gx : Nat → MV → Bool
  | 0, _ => false
  | _ + 1, .non => true
  | _ + 1, .bl _ => true
  | _ + 1, .int i => decide (i.natAbs.log2 < 1600)
  | _ + 1, .str x => PyData.strOk x
  | n + 1, .tup xs => xs.all (gx n)
  | n + 1, .lst xs => xs.all (gx n)
  | _ + 1, .dct [] => true
  | _, _ => false
mutual
def wt : MV → Nat
  | .non => 5
  | .bl _ => 5
  | .int _ => 501
  | .str x => 10 * x.length + 2
  | .tup xs => wts xs + 3
  | .lst xs => wts xs + 3
  | .dct _ => 5
  | .ins _ _ => 0
  | .exc _ _ => 0
  | .ref _ => 0
  | .scr _ => 0
def wts : List MV → Nat
  | [] => 0
  | x :: xs => wt x + 2 + wts xs
end
abbrev rp (m : MV) : Str := (md m).shown
theorem mds_map (xs : List MV) : mds xs = xs.map md := by
  induction xs with
  | nil => simp [mds]
  | cons x xs ih => simp [mds, ih]
theorem gd_tup {n : Nat} {xs : List MV} (h : ∀ x, x ∈ xs → gd n x = true) : gd (n + 1) (.tup xs) = true := List.all_eq_true.mpr h
theorem gd_lst {n : Nat} {xs : List MV} (h : ∀ x, x ∈ xs → gd n x = true) : gd (n + 1) (.lst xs) = true := List.all_eq_true.mpr h
theorem gd_int {n : Nat} {i : Int} (h : i.natAbs < 10 ^ 400) : gd (n + 1) (.int i) = true := by
  have h2 : i.natAbs < 2 ^ 1600 := Nat.lt_of_lt_of_le h (by decide +kernel)
  show decide (i.natAbs.log2 < 1600) = true
  rw [decide_eq_true_eq]
  by_cases z : i.natAbs = 0
  · rw [z]; decide
  · exact (Nat.log2_lt z).mpr h2
theorem gd_up : ∀ {n : Nat} {m : MV}, gd n m = true → gd (n + 1) m = true
  | 0, _, h => by cases h
  | n + 1, .non, _ => rfl
  | n + 1, .bl _, _ => rfl
  | n + 1, .int _, h => h
  | n + 1, .str _, h => h
  | n + 1, .tup xs, h => List.all_eq_true.mpr fun x hx => gd_up (List.all_eq_true.mp h x hx)
  | n + 1, .lst xs, h => List.all_eq_true.mpr fun x hx => gd_up (List.all_eq_true.mp h x hx)
  | n + 1, .dct _, h => by cases h
  | n + 1, .ins _ _, h => by cases h
  | n + 1, .exc _ _, h => by cases h
  | n + 1, .ref _, h => by cases h
  | n + 1, .scr _, h => by cases h
theorem gx_up : ∀ {n : Nat} {m : MV}, gx n m = true → gx (n + 1) m = true
  | 0, _, h => by cases h
  | n + 1, .non, _ => rfl
  | n + 1, .bl _, _ => rfl
  | n + 1, .int _, h => h
  | n + 1, .str _, h => h
  | n + 1, .tup xs, h => List.all_eq_true.mpr fun x hx => gx_up (List.all_eq_true.mp h x hx)
  | n + 1, .lst xs, h => List.all_eq_true.mpr fun x hx => gx_up (List.all_eq_true.mp h x hx)
  | n + 1, .dct [], _ => rfl
  | n + 1, .dct (_ :: _), h => by cases h
  | n + 1, .ins _ _, h => by cases h
  | n + 1, .exc _ _, h => by cases h
  | n + 1, .ref _, h => by cases h
  | n + 1, .scr _, h => by cases h
theorem gx_le {n k : Nat} {m : MV} (h : gx n m = true) (hk : n ≤ k) : gx k m = true := by
  induction hk with
  | refl => exact h
  | step _ ih => exact gx_up ih
theorem gx_lst {n : Nat} {xs : List MV} (h : ∀ x, x ∈ xs → gx n x = true) : gx (n + 1) (.lst xs) = true := List.all_eq_true.mpr h
theorem gd_gx : ∀ {n : Nat} {m : MV}, gd n m = true → gx n m = true
  | 0, _, h => by cases h
  | n + 1, .non, _ => rfl
  | n + 1, .bl _, _ => rfl
  | n + 1, .int _, h => h
  | n + 1, .str _, h => h
  | n + 1, .tup xs, h => List.all_eq_true.mpr fun x hx => gd_gx (List.all_eq_true.mp h x hx)
  | n + 1, .lst xs, h => List.all_eq_true.mpr fun x hx => gd_gx (List.all_eq_true.mp h x hx)
  | n + 1, .dct _, h => by cases h
  | n + 1, .ins _ _, h => by cases h
  | n + 1, .exc _ _, h => by cases h
  | n + 1, .ref _, h => by cases h
  | n + 1, .scr _, h => by cases h
theorem gd_le {n k : Nat} {m : MV} (h : gd n m = true) (hk : n ≤ k) : gd k m = true := by
  induction hk with
  | refl => exact h
  | step _ ih => exact gd_up ih
theorem gd_vw {n : Nat} {m : MV} (h : gd n m = true) (st : Sto) : vw st m = m := by
  cases n with
  | zero => cases h
  | succ n => cases m <;> first | rfl | (cases h)
theorem mapO_eq {β γ : Type} {f : β → Option γ} {h : β → γ} : ∀ {l : List β}, (∀ a, a ∈ l → f a = some (h a)) → mapO f l = some (l.map h)
  | [], _ => rfl
  | a :: l, e => by
    rw [List.map_cons]
    unfold mapO
    rw [e a (List.mem_cons_self ..), mapO_eq fun b hb => e b (List.mem_cons_of_mem _ hb)]
theorem toD_gd (st : Sto) : ∀ {n : Nat} {m : MV}, gd n m = true → toD st n m = some (md m)
  | 0, _, h => by cases h
  | n + 1, .non, _ => by simp [toD, md]
  | n + 1, .bl _, _ => by simp [toD, md]
  | n + 1, .int _, _ => by simp [toD, md]
  | n + 1, .str _, _ => by simp [toD, md]
  | n + 1, .tup xs, h => by
    have e := mapO_eq (f := toD st n) (h := md) fun x hx => toD_gd st (List.all_eq_true.mp h x hx)
    simp [toD, md, e, mds_map]
  | n + 1, .lst xs, h => by
    have e := mapO_eq (f := toD st n) (h := md) fun x hx => toD_gd st (List.all_eq_true.mp h x hx)
    simp [toD, md, e, mds_map]
  | n + 1, .dct _, h => by cases h
  | n + 1, .ins _ _, h => by cases h
  | n + 1, .exc _ _, h => by cases h
  | n + 1, .ref _, h => by cases h
  | n + 1, .scr _, h => by cases h
theorem toX_gx (st : Sto) : ∀ {n : Nat} {m : MV}, gx n m = true → toX st n m = some (md m)
  | 0, _, h => by cases h
  | n + 1, .non, _ => by simp [toX, md]
  | n + 1, .bl _, _ => by simp [toX, md]
  | n + 1, .int _, _ => by simp [toX, md]
  | n + 1, .str _, _ => by simp [toX, md]
  | n + 1, .tup xs, h => by
    have e := mapO_eq (f := toX st n) (h := md) fun x hx => toX_gx st (List.all_eq_true.mp h x hx)
    simp [toX, md, e, mds_map]
  | n + 1, .lst xs, h => by
    have e := mapO_eq (f := toX st n) (h := md) fun x hx => toX_gx st (List.all_eq_true.mp h x hx)
    simp [toX, md, e, mds_map]
  | n + 1, .dct [], _ => by simp [toX, md]
  | n + 1, .dct (_ :: _), h => by cases h
  | n + 1, .ins _ _, h => by cases h
  | n + 1, .exc _ _, h => by cases h
  | n + 1, .ref _, h => by cases h
  | n + 1, .scr _, h => by cases h
theorem lay_all {xs : List MV} (h : ∀ x, x ∈ xs → (md x).canLay0 = true) : PyData.canLayAll0 (mds xs) = true := by
  induction xs with
  | nil => simp [mds, PyData.canLayAll0]
  | cons x xs ih => simp [mds, PyData.canLayAll0, h x (List.mem_cons_self ..), ih fun y hy => h y (List.mem_cons_of_mem _ hy)]
theorem lay_gd : ∀ {n : Nat} {m : MV}, gd n m = true → (md m).canLay0 = true
  | 0, _, h => by cases h
  | n + 1, .non, _ => by simp [md, PyData.canLay0]
  | n + 1, .bl _, _ => by simp [md, PyData.canLay0]
  | n + 1, .int _, _ => by simp [md, PyData.canLay0]
  | n + 1, .str x, h => by
    have h' : PyData.strOk x = true := h
    simp [md, PyData.canLay0, h']
  | n + 1, .tup xs, h => by
    have := lay_all fun x hx => lay_gd (List.all_eq_true.mp h x hx)
    simp [md, PyData.canLay0, this]
  | n + 1, .lst xs, h => by
    have := lay_all fun x hx => lay_gd (List.all_eq_true.mp h x hx)
    simp [md, PyData.canLay0, this]
  | n + 1, .dct _, h => by cases h
  | n + 1, .ins _ _, h => by cases h
  | n + 1, .exc _ _, h => by cases h
  | n + 1, .ref _, h => by cases h
  | n + 1, .scr _, h => by cases h
theorem dep_all {xs : List MV} {n : Nat} (h : ∀ x, x ∈ xs → (md x).depth ≤ n) : PyData.depthAll (mds xs) ≤ n := by
  induction xs with
  | nil => simp [mds, PyData.depthAll]
  | cons x xs ih =>
    have h1 := h x (List.mem_cons_self ..)
    have h2 := ih fun y hy => h y (List.mem_cons_of_mem _ hy)
    simp only [mds, PyData.depthAll]
    omega
theorem dep_gd : ∀ {n : Nat} {m : MV}, gd n m = true → (md m).depth ≤ n
  | 0, _, h => by cases h
  | n + 1, .non, _ => by simp [md, PyData.depth]
  | n + 1, .bl _, _ => by simp [md, PyData.depth]
  | n + 1, .int _, _ => by simp [md, PyData.depth]
  | n + 1, .str x, _ => by simp [md, PyData.depth]
  | n + 1, .tup xs, h => by
    have := dep_all fun x hx => dep_gd (List.all_eq_true.mp h x hx)
    simp only [md, PyData.depth]; omega
  | n + 1, .lst xs, h => by
    have := dep_all fun x hx => dep_gd (List.all_eq_true.mp h x hx)
    simp only [md, PyData.depth]; omega
  | n + 1, .dct _, h => by cases h
  | n + 1, .ins _ _, h => by cases h
  | n + 1, .exc _ _, h => by cases h
  | n + 1, .ref _, h => by cases h
  | n + 1, .scr _, h => by cases h
theorem dep_gx : ∀ {n : Nat} {m : MV}, gx n m = true → (md m).depth ≤ n
  | 0, _, h => by cases h
  | n + 1, .non, _ => by simp [md, PyData.depth]
  | n + 1, .bl _, _ => by simp [md, PyData.depth]
  | n + 1, .int _, _ => by simp [md, PyData.depth]
  | n + 1, .str x, _ => by simp [md, PyData.depth]
  | n + 1, .tup xs, h => by
    have := dep_all fun x hx => dep_gx (List.all_eq_true.mp h x hx)
    simp only [md, PyData.depth]; omega
  | n + 1, .lst xs, h => by
    have := dep_all fun x hx => dep_gx (List.all_eq_true.mp h x hx)
    simp only [md, PyData.depth]; omega
  | n + 1, .dct [], _ => by simp [md, PyData.depth, PyData.depthKv]
  | n + 1, .dct (_ :: _), h => by cases h
  | n + 1, .ins _ _, h => by cases h
  | n + 1, .exc _ _, h => by cases h
  | n + 1, .ref _, h => by cases h
  | n + 1, .scr _, h => by cases h
theorem shaped_gd {m : MV} (h : gd dpt m = true) : SeqAt.shaped (md m) = true := by
  have h1 := lay_gd h
  have h2 := dep_gd h
  simp only [SeqAt.shaped, h1, Bool.true_and, decide_eq_true_eq]
  exact Nat.le_trans h2 (by decide)
def eqM (a b : MV) : Bool := PyData.eqv (md a) (md b)
theorem eqv_all_refl {xs : List MV} (h : ∀ x, x ∈ xs → eqM x x = true) : PyData.eqvAll (mds xs) (mds xs) = true := by
  induction xs with
  | nil => simp [mds, PyData.eqvAll]
  | cons x xs ih =>
    have h1 : PyData.eqv (md x) (md x) = true := h x (List.mem_cons_self ..)
    simp [mds, PyData.eqvAll, h1, ih fun y hy => h y (List.mem_cons_of_mem _ hy)]
theorem eqM_refl : ∀ {n : Nat} {m : MV}, gd n m = true → eqM m m = true
  | 0, _, h => by cases h
  | n + 1, .non, _ => by simp [eqM, md, PyData.eqv]
  | n + 1, .bl _, _ => by simp [eqM, md, PyData.eqv]
  | n + 1, .int _, _ => by simp [eqM, md, PyData.eqv]
  | n + 1, .str x, _ => by simp [eqM, md, PyData.eqv]
  | n + 1, .tup xs, h => by
    have := eqv_all_refl fun x hx => eqM_refl (List.all_eq_true.mp h x hx)
    simp [eqM, md, PyData.eqv, this]
  | n + 1, .lst xs, h => by
    have := eqv_all_refl fun x hx => eqM_refl (List.all_eq_true.mp h x hx)
    simp [eqM, md, PyData.eqv, this]
  | n + 1, .dct _, h => by cases h
  | n + 1, .ins _ _, h => by cases h
  | n + 1, .exc _ _, h => by cases h
  | n + 1, .ref _, h => by cases h
  | n + 1, .scr _, h => by cases h
theorem eq_gd {neg : Bool} {st : Sto} {a b : MV} (ha : gd dpt a = true) (hb : gd dpt b = true) : gEqB neg st a b = some (.bl (if neg then !eqM a b else eqM a b), false) := by
  unfold gEqB
  rw [toD_gd st ha, toD_gd st hb]
  exact if_pos ⟨shaped_gd ha, shaped_gd hb⟩
theorem in_gd {neg : Bool} {st : Sto} {a : MV} {bs : List MV} (ha : gd dpt a = true) (hb : gd dpt (.lst bs) = true) : gInA neg st a (.lst bs) = some (.bl (if neg then !(bs.any fun z => eqM z a) else bs.any fun z => eqM z a), false) := by
  have e : gIn neg st a (.lst bs) = some (.bl (if neg then !(bs.any fun z => eqM z a) else bs.any fun z => eqM z a), false) := by
    unfold gIn
    rw [toD_gd st ha, toD_gd st hb]
    have s := shaped_gd hb
    simp only [md] at s ⊢
    rw [if_pos ⟨shaped_gd ha, s⟩, mds_map, List.any_map]
    rfl
  unfold gInA
  rw [e]; rfl
theorem ok_str (s : String) : PyData.strOk (Str.ofString s) = true := by
  unfold PyData.strOk
  rw [Str.ofString_eq_toList]
  simp only [List.all_toArray, List.all_map, List.all_eq_true]
  intro c _
  have h := c.valid
  have e : c.toNat < 0x110000 := by
    rcases h with h | h
    · have : c.toNat < 0xd800 := h
      omega
    · exact h.2
  simpa using e
theorem ok_app {a b : Str} (ha : PyData.strOk a = true) (hb : PyData.strOk b = true) : PyData.strOk (a ++ b) = true := by
  unfold PyData.strOk at *
  show (a.cps ++ b.cps).all _ = true
  rw [Array.all_append, ha, hb]; rfl
theorem ok_join {p : Str} (hp : PyData.strOk p = true) : ∀ ts : List Str, (∀ t, t ∈ ts → PyData.strOk t = true) → PyData.strOk (Str.join p ts) = true
  | [], _ => (by decide +kernel : PyData.strOk Str.empty = true)
  | [x], h => h x (List.mem_cons_self ..)
  | x :: y :: r, h => by
    show PyData.strOk (x ++ p ++ Str.join p (y :: r)) = true
    exact ok_app (ok_app (h x (List.mem_cons_self ..)) hp) (ok_join hp (y :: r) fun t ht => h t (List.mem_cons_of_mem _ ht))
theorem ok_tup {ts : List Str} (h : ∀ t, t ∈ ts → PyData.strOk t = true) : PyData.strOk (tupleText ts) = true := by
  unfold tupleText
  exact ok_app (ok_app (ok_str _) (ok_join (ok_str _) ts h)) (by split <;> exact ok_str _)
theorem ok_from : ∀ (ts : List Str) (k : Nat) (acc : Str), PyData.strOk acc = true → (∀ t, t ∈ ts → PyData.strOk t = true) → PyData.strOk (textFrom k acc ts) = true
  | [], k, acc, h, _ => h
  | t :: r, k, acc, h, hs => by
    show PyData.strOk (textFrom (k + 1) (acc ++ (if k > 0 then ", " else "" : String) ++ t) r) = true
    exact ok_from r (k + 1) _ (ok_app (ok_app h (ok_str _)) (hs t (List.mem_cons_self ..))) fun u hu => hs u (List.mem_cons_of_mem _ hu)
theorem ok_lst {ts : List Str} (h : ∀ t, t ∈ ts → PyData.strOk t = true) : PyData.strOk (listText ts) = true := by
  show PyData.strOk (textFrom 0 "[" ts ++ "]") = true
  exact ok_app (ok_from ts 0 _ (ok_str _) h) (ok_str _)
theorem shownAll_map : ∀ ds : List PyData, PyData.shownAll ds = ds.map PyData.shown
  | [] => by simp [PyData.shownAll]
  | d :: ds => by rw [List.map_cons, ← shownAll_map ds]; simp [PyData.shownAll]
theorem shown_mds (xs : List MV) : PyData.shownAll (mds xs) = xs.map rp := by
  rw [shownAll_map, mds_map, List.map_map]; rfl
theorem strOk_mem {x : Str} (h : PyData.strOk x = true) (c : Nat) (hc : c ∈ x.cps.toList) : c < 0x110000 := by
  unfold PyData.strOk at h
  have := Array.all_eq_true_iff_forall_mem.mp h c (by simpa using hc)
  simpa using this
theorem reprChar_ok {q c : Nat} (hq : q < 0x110000) (hc : c < 0x110000) : ∀ d, d ∈ Builtin.Str.reprChar q c → d < 0x110000 := by
  have hex : ∀ w d, d ∈ (List.replicate (w - ((Nat.toDigits 16 c).map Char.toNat).length) 48 ++ (Nat.toDigits 16 c).map Char.toNat) → d < 0x110000 := by
    intro w d hd
    rcases List.mem_append.mp hd with hd | hd
    · have := List.eq_of_mem_replicate hd; omega
    · obtain ⟨ch, _, rfl⟩ := List.mem_map.mp hd
      have h := ch.valid
      rcases h with h | h
      · have : ch.toNat < 0xd800 := h
        omega
      · exact h.2
  intro d hd
  unfold Builtin.Str.reprChar at hd
  dsimp only at hd
  split at hd
  · simp only [List.mem_cons, List.not_mem_nil, or_false] at hd; omega
  split at hd
  · simp only [List.mem_cons, List.not_mem_nil, or_false] at hd; omega
  split at hd
  · simp only [List.mem_cons, List.not_mem_nil, or_false] at hd; omega
  split at hd
  · simp only [List.mem_cons, List.not_mem_nil, or_false] at hd; omega
  split at hd
  · simp only [List.mem_cons, List.not_mem_nil, or_false] at hd; omega
  split at hd
  · rcases List.mem_append.mp hd with hd | hd
    · simp only [List.mem_cons, List.not_mem_nil, or_false] at hd; omega
    · exact hex _ d hd
  split at hd
  · rcases List.mem_append.mp hd with hd | hd
    · simp only [List.mem_cons, List.not_mem_nil, or_false] at hd; omega
    · exact hex _ d hd
  · rcases List.mem_append.mp hd with hd | hd
    · simp only [List.mem_cons, List.not_mem_nil, or_false] at hd; omega
    · exact hex _ d hd
theorem fold_ok {q : Nat} (hq : q < 0x110000) : ∀ (l : List Nat) (acc : Array Nat), (∀ c, c ∈ l → c < 0x110000) → (∀ d, d ∈ acc.toList → d < 0x110000) → ∀ d, d ∈ (l.foldl (fun out c => out ++ (Builtin.Str.reprChar q c).toArray) acc).toList → d < 0x110000
  | [], acc, _, h => h
  | c :: r, acc, hl, h => by
    rw [List.foldl_cons]
    refine fold_ok hq r _ (fun d hd => hl d (List.mem_cons_of_mem _ hd)) fun d hd => ?_
    rw [Array.toList_append, List.mem_append] at hd
    rcases hd with hd | hd
    · exact h d hd
    · exact reprChar_ok hq (hl c (List.mem_cons_self ..)) d (by simpa using hd)
theorem ok_reprText {x : Str} (h : PyData.strOk x = true) : PyData.strOk (reprText x) = true := by
  have hq : reprQuote x < 0x110000 := by unfold reprQuote; split <;> decide
  have key := fold_ok hq x.cps.toList #[reprQuote x] (fun c hc => strOk_mem h c hc) (fun d hd => by simp at hd; omega)
  unfold PyData.strOk reprText
  rw [Array.all_eq_true_iff_forall_mem]
  intro d hd
  rw [Array.mem_push] at hd
  rw [decide_eq_true_eq]
  rcases hd with hd | rfl
  · refine key d ?_
    rw [Array.foldl_toList]
    first | exact Array.mem_toList_iff.mpr hd | exact Array.mem_toList.mpr hd | exact hd.val
  · exact hq
theorem ok_rp : ∀ {n : Nat} {m : MV}, gx n m = true → PyData.strOk (rp m) = true
  | 0, _, h => by cases h
  | n + 1, .non, _ => by simp only [rp, md, PyData.shown]; exact ok_str _
  | n + 1, .bl b, _ => by simp only [rp, md, PyData.shown]; cases b <;> exact ok_str _
  | n + 1, .int _, _ => by simp only [rp, md, PyData.shown]; exact ok_str _
  | n + 1, .str x, h => by
    simp only [rp, md, PyData.shown]; exact ok_reprText h
  | n + 1, .tup xs, h => by
    simp only [rp, md, PyData.shown]
    rw [shown_mds]
    exact ok_tup fun t ht => by
      obtain ⟨x, hx, rfl⟩ := List.mem_map.mp ht
      exact ok_rp (List.all_eq_true.mp h x hx)
  | n + 1, .lst xs, h => by
    simp only [rp, md, PyData.shown]
    rw [shown_mds]
    exact ok_lst fun t ht => by
      obtain ⟨x, hx, rfl⟩ := List.mem_map.mp ht
      exact ok_rp (List.all_eq_true.mp h x hx)
  | n + 1, .dct [], _ => by simp only [rp, md, PyData.shown, PyData.shownKv]; decide +kernel
  | n + 1, .dct (_ :: _), h => by cases h
  | n + 1, .ins _ _, h => by cases h
  | n + 1, .exc _ _, h => by cases h
  | n + 1, .ref _, h => by cases h
  | n + 1, .scr _, h => by cases h
theorem len_all {xs : List MV} (h : ∀ x, x ∈ xs → (rp x).length ≤ wt x) : ((xs.map rp).map (·.length)).sum + 2 * (xs.map rp).length ≤ wts xs := by
  induction xs with
  | nil => simp [wts]
  | cons x xs ih =>
    have h1 := h x (List.mem_cons_self ..)
    have h2 := ih fun y hy => h y (List.mem_cons_of_mem _ hy)
    simp only [List.map_cons, List.sum_cons, List.length_cons, wts] at h2 ⊢
    omega
theorem len_rp : ∀ {n : Nat} {m : MV}, gx n m = true → (rp m).length ≤ wt m
  | 0, _, h => by cases h
  | n + 1, .non, _ => by simp only [rp, md, PyData.shown, wt]; decide +kernel
  | n + 1, .bl b, _ => by simp only [rp, md, PyData.shown, wt]; cases b <;> decide +kernel
  | n + 1, .int i, h => by
    have h' : i.natAbs.log2 < 1600 := of_decide_eq_true h
    simp only [rp, md, PyData.shown, wt]
    show (Str.ofString (toString i)).length ≤ 501
    rw [PySem.ofString_length]
    refine int_text_length_le10 (by decide) ?_
    by_cases z : i.natAbs = 0
    · rw [z]; decide +kernel
    · exact Nat.lt_of_lt_of_le ((Nat.log2_lt z).mp h') (by decide +kernel)
  | n + 1, .str x, h => by
    have h' : PyData.strOk x = true := h
    simp only [rp, md, PyData.shown, wt]
    refine StrLaws.reprText_len x fun c hc => ?_
    have := strOk_mem h' c hc
    exact Nat.lt_of_lt_of_le this (by decide)
  | n + 1, .tup xs, h => by
    have := len_all fun x hx => len_rp (List.all_eq_true.mp h x hx)
    simp only [rp, md, PyData.shown, wt]
    rw [shown_mds]
    have t := tupleText_len_le (xs.map rp)
    omega
  | n + 1, .lst xs, h => by
    have := len_all fun x hx => len_rp (List.all_eq_true.mp h x hx)
    simp only [rp, md, PyData.shown, wt]
    rw [shown_mds]
    have t := listText_len_le (xs.map rp)
    omega
  | n + 1, .dct [], _ => by simp only [rp, md, PyData.shown, PyData.shownKv, wt]; decide +kernel
  | n + 1, .dct (_ :: _), h => by cases h
  | n + 1, .ins _ _, h => by cases h
  | n + 1, .exc _ _, h => by cases h
  | n + 1, .ref _, h => by cases h
  | n + 1, .scr _, h => by cases h
theorem show_all {xs : List MV} (h : ∀ x, x ∈ xs → (md x).showable = true) : PyData.showableAll (mds xs) = true := by
  induction xs with
  | nil => simp [mds, PyData.showableAll]
  | cons x xs ih => simp [mds, PyData.showableAll, h x (List.mem_cons_self ..), ih fun y hy => h y (List.mem_cons_of_mem _ hy)]
theorem show_gd : ∀ {n : Nat} {m : MV}, gx n m = true → (md m).showable = true
  | 0, _, h => by cases h
  | n + 1, .non, _ => by simp [md, PyData.showable]
  | n + 1, .bl _, _ => by simp [md, PyData.showable]
  | n + 1, .int i, h => by
    have h' : i.natAbs.log2 < 1600 := of_decide_eq_true h
    simp only [md, PyData.showable, decide_eq_true_eq]; omega
  | n + 1, .str x, _ => by simp [md, PyData.showable]
  | n + 1, .tup xs, h => by
    have := show_all fun x hx => show_gd (List.all_eq_true.mp h x hx)
    simp [md, PyData.showable, this]
  | n + 1, .lst xs, h => by
    have := show_all fun x hx => show_gd (List.all_eq_true.mp h x hx)
    simp [md, PyData.showable, this]
  | n + 1, .dct [], _ => by simp [md, PyData.showable, PyData.showableKv]
  | n + 1, .dct (_ :: _), h => by cases h
  | n + 1, .ins _ _, h => by cases h
  | n + 1, .exc _ _, h => by cases h
  | n + 1, .ref _, h => by cases h
  | n + 1, .scr _, h => by cases h
def rgd (m : MV) : Bool := gx dpt m && decide (wt m ≤ sizeLine)
theorem rgd_gx {m : MV} (h : rgd m = true) : gx dpt m = true := by
  unfold rgd at h
  rw [Bool.and_eq_true] at h
  exact h.1
theorem rgd_of {m : MV} (h : gx dpt m = true) (hw : wt m ≤ sizeLine) : rgd m = true := by
  unfold rgd
  rw [h, Bool.true_and, decide_eq_true_eq]
  exact hw
theorem repr_gd {m : MV} (h : rgd m = true) (st : Sto) : gRepr st [m] = some (.str (rp m), false) := by
  unfold rgd at h
  rw [Bool.and_eq_true, decide_eq_true_eq] at h
  obtain ⟨h1, h2⟩ := h
  show ((toX st dpt m).bind fun d => if d.showable = true ∧ d.shown.length ≤ sizeLine ∧ d.depth ≤ 60 then some (MV.str d.shown, false) else none) = _
  rw [toX_gx st h1]
  exact if_pos ⟨show_gd h1, Nat.le_trans (len_rp h1) h2, Nat.le_trans (dep_gx h1) (by decide)⟩
theorem rgd_ok {m : MV} (h : rgd m = true) : PyData.strOk (rp m) = true := ok_rp (rgd_gx h)
theorem wts_le {xs : List MV} {b : Nat} (h : ∀ x, x ∈ xs → wt x ≤ b) : wts xs ≤ (b + 2) * xs.length := by
  induction xs with
  | nil => simp [wts]
  | cons x xs ih =>
    have h1 := h x (List.mem_cons_self ..)
    have h2 := ih fun y hy => h y (List.mem_cons_of_mem _ hy)
    simp only [wts, List.length_cons, Nat.mul_add, Nat.mul_one]
    omega
end FW
namespace FW
open PySem L2 PySem.Spec PyProof.Rows
section
variable {M : Model} {prog : Program} {w : World} {A : Around} {E : Value → Shared → Prop} {s : Shared} {K : PySem.W.Frag} {x C f : Addr} {ox : Obj} {od : Option Obj}
theorem ifB_ne {args : List Value} {Q : Option Value → Shared → Prop} (X : K.In s.heap) (I : PySem.W.InstAt s.heap x ox C od) (hs : PySem.W.findIn K (.ref C) "__ne__" = some (some (.builtin "object.__ne__")))
    (h : wpAny M A (call (.builtin "object.__ne__") (.ref x :: args)) (fun v => Q (some v)) E s) : wpAny M A (callSpecialIfBound? (.ref x) "__ne__" args) Q E s := by
  simp only [callSpecialIfBound?, bindSpecialIfBound?]
  refine wpAny_holding (wpAny_bind (wpAny_bind (wpAny_bind (I.type.here ((PySem.W.looks_findIn X hs).here ?_)))))
  refine wpAny_bind (wpAny_askSetting (wpAny_ite ?_))
  have fin : wpAny M A (call (.builtin "object.__ne__") ([.ref x] ++ args) >>= fun v => pure (some v)) Q E s := wpAny_bind (wpAny_mono h (fun v s' h' => wpAny_pure h') fun _ _ h' => h')
  split
  · exact wpAny_bind (wpAny_of_eq (F.cmp_object.ne.bind _) (wpAny_pure (by exact fin)))
  · exact wpAny_tryCatch (wpAny_bind (wpAny_of_eq (F.cmp_object.ne.bind _) (wpAny_pure (by exact fin))))
theorem entry_ne {b : Value} {Q : Fin → Shared → Prop} (hu : A.units < cLine) (X : K.In s.heap) (I : PySem.W.InstAt s.heap x ox C od) (hs : PySem.W.findIn K (.ref C) "__eq__" = some (some (.ref f))) (hf : PySem.W.isFn K (.ref f) = true)
    (h : wpAny (model prog w) A (call (.ref f) [.ref x, b]) (fun v s' => ∃ r, v = .bool r ∧ Q (.done (.ret (.bool (!r)))) s') E s) : wpAny (model prog w) A (Builtin.«object.__ne__» ⟨[.ref x, b], []⟩) Q E s := by
  unfold Builtin.«object.__ne__»
  repeat (first
    | with_reducible refine wpAny_cRoomFor hu ?_
    | (refine wpAny_bind (m := callSpecialIfBound? (.ref x) (Str.ofString "__eq__") [b])
        (PySem.W.ifBound_K X I hs hf (wpAny_mono h (fun r s' hr => by
          obtain ⟨b, rfl, hq⟩ := hr
          repeat (first | exact hq | exact wpAny_pure hq | exact wpAny_truthy_bool hq | (refine wpAny_bind (m := truthy (.bool _)) (wpAny_truthy_bool ?_)) | wp_step)) fun _ _ e => e)))
    | wp_step)
theorem call_objNe {b : Value} {Q : Value → Shared → Prop} (hu : A.units + 1 < cLine) (X : K.In s.heap) (I : PySem.W.InstAt s.heap x ox C od) (hm : PySem.W.mroIn K C (.type "object") = some true) (hs : PySem.W.findIn K (.ref C) "__eq__" = some (some (.ref f))) (hf : PySem.W.isFn K (.ref f) = true)
    (h : wpAny (model prog w) A.in1 (call (.ref f) [.ref x, b]) (fun v s' => ∃ r, v = .bool r ∧ Q (.bool (!r)) s') E s) : wpAny (model prog w) A (call (.builtin "object.__ne__") [.ref x, b]) Q E s :=
  wpAny_call (codeAny_call_builtin F.cmp_object.ne.plain F.cmpEntry_ne (PySem.W.check_slot F.cmpKind_ne F.cmpSplit_ne (I.type.andThen (PySem.W.looks_mroIn X hm)) (F.cmpArgs_ne _ _)
    (entry_ne (A := A.in1) hu X I hs hf (wpAny_mono h (fun v s' z => by
      obtain ⟨r, rfl, q⟩ := z
      exact ⟨r, rfl, q⟩) fun _ _ e => e))))
theorem cmp_neK {b tb : Value} {L : Addr} {h₀ : Heap} {m : Str → Option Value} {Q : Value → Shared → Prop} (hu : A.units + 1 < cLine) (F : Fr h₀ L s.heap m) (X₀ : K.In h₀) (I : PySem.W.InstAt s.heap x ox C od) (hb : PySem.W.Looks (model prog w) s.heap (typeOf b) tb) (hn : PySem.W.notFirst K C tb = true)
    (hne : PySem.W.findIn K (.ref C) "__ne__" = some (some (.builtin "object.__ne__"))) (hm : PySem.W.mroIn K C (.type "object") = some true)
    (hs : PySem.W.findIn K (.ref C) "__eq__" = some (some (.ref f))) (hf : PySem.W.isFn K (.ref f) = true)
    (h : wpAny (model prog w) A.in1 (call (.ref f) [.ref x, b]) (fun v s' => ∃ r, v = .bool r ∧ Q (.bool (!r)) s') E s) : wpAny (model prog w) A (richCompare .NotEq (.ref x) b) Q E s := by
  have X := X₀.keeps F.keep
  have one : wpAny (model prog w) A (tryCompare (.ref x) (cmpInfo .NotEq).2.1 b) (fun r s' => ∃ v, r = some v ∧ Q v s') E s := by
    unfold tryCompare
    refine wpAny_bind (ifB_ne X I hne (call_objNe hu X I hm hs hf (wpAny_mono h (fun v s' hv => ?_) fun _ _ e => e)))
    obtain ⟨r, rfl, q⟩ := hv
    exact ⟨r, rfl, wpAny_pure ⟨_, rfl, q⟩⟩
  unfold richCompare
  simp only [oneThing_ref]
  refine wpAny_holding (wpAny_bind (wpAny_cRoomFor (by omega) ?_))
  refine wpAny_bind (I.type.here (wpAny_bind (hb.here ?_)))
  split
  · rename_i q
    have e : PySem.W.subIn K tb (.ref C) = some false := by
      rcases Bool.or_eq_true_iff.mp hn with e | e
      · rw [beq_iff_eq.mp e] at q; simp at q
      · exact beq_iff_eq.mp e
    refine wpAny_bind ((PySem.W.looks_subIn X e).here ?_)
    simp only [Bool.false_eq_true, if_false]
    refine wpAny_bind (wpAny_mono one (fun r s' z => ?_) fun _ _ e => e)
    obtain ⟨v, rfl, hq⟩ := z
    exact wpAny_pure hq
  · refine wpAny_bind (wpAny_pure ?_)
    simp only [Bool.false_eq_true, if_false]
    refine wpAny_bind (wpAny_mono one (fun r s' z => ?_) fun _ _ e => e)
    obtain ⟨v, rfl, hq⟩ := z
    exact wpAny_pure hq
theorem sub_plain {T : String} (hT : T = "NoneType" ∨ T = "bool" ∨ T = "int" ∨ T = "str" ∨ T = "list" ∨ T = "tuple" ∨ T = "dict") : PySem.W.notFirst K C (.type T) = true := by
  have go : ∀ T : String, ∀ l, fastBuiltinMro T = some l → l.contains (.ref C) = false → PySem.W.notFirst K C (.type T) = true := fun T l e h => by
    unfold PySem.W.notFirst
    have : PySem.W.subIn K (.type T) (.ref C) = some false := by
      show (fastBuiltinMro T).map (·.contains (.ref C)) = some false
      rw [e, Option.map_some, h]
    rw [this]
    simp
  rcases hT with rfl | rfl | rfl | rfl | rfl | rfl | rfl
  · exact go _ [.type "NoneType", .type "object"] (by decide +kernel) (by simp)
  · exact go _ [.type "bool", .type "int", .type "object"] (by decide +kernel) (by simp)
  · exact go _ [.type "int", .type "object"] (by decide +kernel) (by simp)
  · exact go _ [.type "str", .type "object"] (by decide +kernel) (by simp)
  · exact go _ [.type "list", .type "object"] (by decide +kernel) (by simp)
  · exact go _ [.type "tuple", .type "object"] (by decide +kernel) (by simp)
  · exact go _ [.type "dict", .type "object"] (by decide +kernel) (by simp)
end
def KnV (C : Addr) (H : Hp) (y : V) : Prop := y = .non ∨ (∃ b, y = .bl b) ∨ (∃ i, y = .int i) ∨ (∃ z, y = .str z) ∨ (∃ p vs, y = .ref p ∧ H p = some (.lst vs)) ∨ (∃ p vs, y = .ref p ∧ H p = some (.tup vs)) ∨ (∃ p dx fs, y = .ref p ∧ H p = some (.ins C dx fs))
def knM (c : Str) : MV → Bool
  | .non => true
  | .bl _ => true
  | .int _ => true
  | .str _ => true
  | .lst _ => true
  | .tup _ => true
  | .ins c' _ => decide (c' = c)
  | _ => false
theorem knV_of {mg : Wd} {S : Addr → Prop} {ι : List Addr} {H : Hp} {y : V} {m : MV} {c : Str} {C : Addr} (hc : mg.mg c = some (.ref C)) (vr : VR mg S ι H y m) (h : knM c m = true) : KnV C H y := by
  cases m with
  | non => exact .inl vr
  | bl b => exact .inr (.inl ⟨b, vr⟩)
  | int i => exact .inr (.inr (.inl ⟨i, vr⟩))
  | str z => exact .inr (.inr (.inr (.inl ⟨z, vr⟩)))
  | lst ms => obtain ⟨p, vs, rfl, h1, _⟩ := vr; exact .inr (.inr (.inr (.inr (.inl ⟨p, vs, rfl, h1⟩))))
  | tup ms => obtain ⟨p, vs, rfl, h1, _⟩ := vr; exact .inr (.inr (.inr (.inr (.inr (.inl ⟨p, vs, rfl, h1⟩)))))
  | ins c' fs =>
    obtain ⟨q, C', dx, ws, rfl, g1, hmc, _, _⟩ := vr
    have e : c' = c := of_decide_eq_true h
    subst e
    cases (show some (Value.ref C) = some (Value.ref C') from hc.symm.trans hmc)
    exact .inr (.inr (.inr (.inr (.inr (.inr ⟨q, dx, ws, rfl, g1⟩)))))
  | _ => cases h
theorem knV_type {X : Cx} {pins : List (Addr × Obj)} {σ : L2.St} {H : Hp} {s : Shared} {C : Addr} {y : V} {u : Value} (I : Inv X pins σ H s) (ry : RelV y u) (h : KnV C H y) : ∃ tb, PySem.W.Looks (model X.prog X.w) s.heap (typeOf u) tb ∧ PySem.W.notFirst X.K C tb = true := by
  rcases h with rfl | ⟨b, rfl⟩ | ⟨i, rfl⟩ | ⟨z, rfl⟩ | ⟨p, vs, rfl, h⟩ | ⟨p, vs, rfl, h⟩ | ⟨p, dx, fs, rfl, h⟩
  · cases ry
    exact ⟨.type "NoneType", PySem.W.Looks.of_pure rfl, sub_plain (.inl rfl)⟩
  · cases ry
    exact ⟨.type "bool", PySem.W.Looks.of_pure rfl, sub_plain (.inr (.inl rfl))⟩
  · obtain ⟨t, rfl⟩ := ry
    exact ⟨.type "int", PySem.W.Looks.of_pure rfl, sub_plain (.inr (.inr (.inl rfl)))⟩
  · obtain ⟨t, rfl⟩ := ry
    exact ⟨.type "str", PySem.W.Looks.of_pure rfl, sub_plain (.inr (.inr (.inr (.inl rfl))))⟩
  · cases ry
    obtain ⟨its, _, ⟨o, n, ho, hcl, _, _⟩, _⟩ := I.list (.of h)
    refine ⟨.type "list", ?_, sub_plain (.inr (.inr (.inr (.inr (.inl rfl)))))⟩
    rw [← hcl]
    exact (PySem.W.Looks.ld ho).andThen .now
  · cases ry
    obtain ⟨its, _, ⟨o, ho, hcl, n, _⟩, _⟩ := I.tuple (.of h)
    refine ⟨.type "tuple", ?_, sub_plain (.inr (.inr (.inr (.inr (.inr (.inl rfl))))))⟩
    rw [← hcl]
    exact (PySem.W.Looks.ld ho).andThen .now
  · cases ry
    obtain ⟨mA, J, _⟩ := ins_get I.hok h
    obtain ⟨od, J, _⟩ := J.look
    exact ⟨.ref C, J.type, by simp [PySem.W.notFirst]⟩
section
variable {X : Cx} {B : Base} {W : WX} {a b : Expr} {fa fb : EF} {k : Nat} {C f : Addr} {fd : FuncData} {ps : List Str} {FM : FF} {c : Str}
theorem run_in1 {sp : Sp} {E : XK} {pins : List (Addr × Obj)} {σ : L2.St} {H : Hp} {s : Shared} {Q : VK} {us : List Value} {vs : List V}
    (F : FnG X.prog X.w X.K X.mg X.base k f fd ps sp) (hr : RoomG (k + 1) X.A) (hb : Binds X.K fd ps []) (hx : ∀ cls d H', E cls d H' → W cls d σ H') (tk : Takes X W)
    (I : Inv X pins σ H s) (r : Vals vs us) (h : sp vs H Q E) : wpAny (model X.prog X.w) X.A.in1 (call (.ref f) us) (EP X pins σ Q) X.xe s := by
  have ll : us.length = ps.length := by rw [← r.length]; exact F.len _ _ _ _ h
  have go := F.run X.A.in1 X.stack s H ⟨us, []⟩ us vs Q E ⟨hr.r.in1, hr.g⟩ I.env0.in1 (by have := hb s us I.kIn (by simpa using ll); simpa using this) r h
  refine wpAny_call (codeAny_mono go fun res s' hq => ?_)
  match res, hq with
  | .error e, hq => exact tk e s' (XE.of_call I hx hq)
  | .ok (.ret u), hq => exact I.after hq
structure EqOwn (K : PySem.W.Frag) (C f : Addr) : Prop where
  m : Meth K C "__eq__" f
  ne : PySem.W.findIn K (.ref C) "__ne__" = some (some (.builtin "object.__ne__"))
  ob : PySem.W.mroIn K C (.type "object") = some true
theorem st_of_pc {op : CmpOp} {f : EF} {pos : Pos} (h : PC X op a b (tE X.wd B W f)) (hm : behindInMarks op b = false := by first | exact nomark _ | rfl) : STe X B W (.Compare a [op] [b] pos) (mTv f) := by
  refine (pt_cmp h hm).fw fun σ H Q h => ?_
  obtain ⟨S, ι, lo, st, fm, p⟩ := h
  refine tE.use fm (Post.bind p) fun a ka st1 S1 ι1 H1 x f1 k1 r1 p1 => ?_
  dsimp only at p1
  split at p1
  · exact ⟨_, rv_bl f1 r1, p1 S1 ι1 H1 f1 k1⟩
  · exact p1.elim
end
end FW
namespace FW
open PySem L2 PySem.Spec PyProof.Rows
abbrev KK := Key ⊕ List Key
def kyI : MV → Option Key
  | .int i => some (.inl i)
  | .str x => some (.inr x)
  | _ => none
def kyM : MV → Option KK
  | .int i => some (.inl (.inl i))
  | .str x => some (.inl (.inr x))
  | .tup ms => (mapO kyI ms).map Sum.inr
  | _ => none
theorem kyI_kM (k : Key) : kyI (kM k) = some k := by cases k <;> rfl
theorem kyM_kM (k : Key) : kyM (kM k) = some (.inl k) := by cases k <;> rfl
theorem mapO_kM (ks : List Key) : mapO kyI (ks.map kM) = some ks := by
  induction ks with
  | nil => rfl
  | cons k ks ih => rw [List.map_cons]; unfold mapO; rw [kyI_kM, ih]
theorem kyM_tup (ks : List Key) : kyM (.tup (ks.map kM)) = some (.inr ks) := by
  show (mapO kyI (ks.map kM)).map Sum.inr = _
  rw [mapO_kM]; rfl
def putD (ps : List (MV × MV)) (k : Key) (m : MV) : List (MV × MV) :=
  if (ps.any fun p => decide (kyM p.1 = some (.inl k))) = true then ps.map fun p => if kyM p.1 = some (.inl k) then (p.1, m) else p else ps ++ [(kM k, m)]
section
variable {mg : Wd} {S : Addr → Prop} {ι : List Addr} {H : Hp}
def KD (mg : Wd) (S : Addr → Prop) (ι : List Addr) (H : Hp) (kvs : List (Key × V)) (ps : List (MV × MV)) : Prop := kvs.length = ps.length ∧ ∀ (i : Nat) kv q, kvs[i]? = some kv → ps[i]? = some q → q.1 = kM kv.1 ∧ Dt mg S ι H kv.2 q.2
theorem KD.nil : KD mg S ι H [] [] := ⟨rfl, fun i kv q h => by simp at h⟩
theorem KD.cons {kv : Key × V} {p : MV × MV} {kvs : List (Key × V)} {ps : List (MV × MV)} (h1 : p.1 = kM kv.1) (h2 : Dt mg S ι H kv.2 p.2) (r : KD mg S ι H kvs ps) : KD mg S ι H (kv :: kvs) (p :: ps) := by
  refine ⟨by simp [r.1], fun i a b e1 e2 => ?_⟩
  cases i with
  | zero => simp at e1 e2; subst e1; subst e2; exact ⟨h1, h2⟩
  | succ i => exact r.2 i a b (by simpa using e1) (by simpa using e2)
theorem KD.inv {kv : Key × V} {kvs : List (Key × V)} {ps : List (MV × MV)} (r : KD mg S ι H (kv :: kvs) ps) : ∃ p ps', ps = p :: ps' ∧ p.1 = kM kv.1 ∧ Dt mg S ι H kv.2 p.2 ∧ KD mg S ι H kvs ps' := by
  obtain ⟨hl, h⟩ := r
  cases ps with
  | nil => cases hl
  | cons p ps' => exact ⟨p, ps', rfl, (h 0 kv p rfl rfl).1, (h 0 kv p rfl rfl).2, by simpa using hl, fun i a b e1 e2 => h (i + 1) a b (by simpa using e1) (by simpa using e2)⟩
theorem KD.mono {S' : Addr → Prop} {ι' : List Addr} {H' : Hp} {kvs : List (Key × V)} {ps : List (MV × MV)} (k : Keep S ι H S' ι' H') (r : KD mg S ι H kvs ps) : KD mg S' ι' H' kvs ps := ⟨r.1, fun i a b e1 e2 => ⟨(r.2 i a b e1 e2).1, (r.2 i a b e1 e2).2.mono k⟩⟩
theorem KD.any (k : Key) : ∀ {kvs : List (Key × V)} {ps : List (MV × MV)}, KD mg S ι H kvs ps → (ps.any fun p => decide (kyM p.1 = some (.inl k))) = kvs.any fun kv => decide (kv.1 = k)
  | [], ps, r => by
    have e : ps = [] := List.length_eq_zero_iff.mp r.1.symm
    subst e; rfl
  | kv :: kvs, ps, r => by
    obtain ⟨p, ps', rfl, h1, _, r'⟩ := r.inv
    rw [List.any_cons, List.any_cons, KD.any k r', h1, kyM_kM]
    congr 1
    by_cases e : kv.1 = k
    · rw [decide_eq_true e, decide_eq_true (by rw [e])]
    · rw [decide_eq_false e, decide_eq_false (fun z => e (Sum.inl.inj (Option.some.inj z)))]
theorem KD.repl (k : Key) {v : V} {m : MV} (d : Dt mg S ι H v m) : ∀ {kvs : List (Key × V)} {ps : List (MV × MV)}, KD mg S ι H kvs ps → KD mg S ι H (kvs.map fun kv => if kv.1 = k then (kv.1, v) else kv) (ps.map fun p => if kyM p.1 = some (.inl k) then (p.1, m) else p)
  | [], ps, r => by
    have e : ps = [] := List.length_eq_zero_iff.mp r.1.symm
    subst e; exact .nil
  | kv :: kvs, ps, r => by
    obtain ⟨p, ps', rfl, h1, h2, r'⟩ := r.inv
    rw [List.map_cons, List.map_cons]
    refine KD.cons ?_ ?_ (KD.repl k d r')
    · by_cases e : kv.1 = k
      · rw [if_pos e, if_pos (by rw [h1, kyM_kM, e])]; exact h1
      · rw [if_neg e, if_neg (by rw [h1, kyM_kM]; exact fun z => e (Sum.inl.inj (Option.some.inj z)))]; exact h1
    · by_cases e : kv.1 = k
      · rw [if_pos e, if_pos (by rw [h1, kyM_kM, e])]; exact d
      · rw [if_neg e, if_neg (by rw [h1, kyM_kM]; exact fun z => e (Sum.inl.inj (Option.some.inj z)))]; exact h2
theorem KD.snoc (k : Key) {v : V} {m : MV} (d : Dt mg S ι H v m) : ∀ {kvs : List (Key × V)} {ps : List (MV × MV)}, KD mg S ι H kvs ps → KD mg S ι H (kvs ++ [(k, v)]) (ps ++ [(kM k, m)])
  | [], ps, r => by
    have e : ps = [] := List.length_eq_zero_iff.mp r.1.symm
    subst e; exact .cons rfl d .nil
  | kv :: kvs, ps, r => by
    obtain ⟨p, ps', rfl, h1, h2, r'⟩ := r.inv
    exact .cons h1 h2 (KD.snoc k d r')
theorem KD.put {kvs : List (Key × V)} {ps : List (MV × MV)} (r : KD mg S ι H kvs ps) (k : Key) {v : V} {m : MV} (d : Dt mg S ι H v m) : KD mg S ι H (putK kvs k v) (putD ps k m) := by
  unfold putK putD
  rw [r.any k]
  cases kvs.any fun kv => decide (kv.1 = k) with
  | true => rw [if_pos rfl, if_pos rfl]; exact r.repl k d
  | false => rw [if_neg Bool.false_ne_true, if_neg Bool.false_ne_true]; exact r.snoc k d
end
def gStrT : GL
  | _, [.int i] => if i.natAbs.log2 < 1920 then some (.str (toString i), false) else none
  | _, [.str a] => some (.str a, false)
  | _, _ => none
def gJoin : GL
  | _, [.str a, .lst xs] => (strsOf xs).bind fun ys => if (ys.map (·.length)).sum + ys.length * a.length ≤ 16777216 then some (.str (Txt.join a ys), false) else none
  | _, _ => none
def mStarA (f : EF) (g : AF) : AF := fun lo st => f lo st >>= fun (m, k, st1) => match vw st1 m with
  | .lst xs => (match k with
    | .fr => g lo st1 >>= fun (l, st2) => .ok (xs.map (·, false) ++ l, st2)
    | .fz => (match m with
      | .lst _ => g lo st1 >>= fun (l, st2) => .ok (xs.map (·, false) ++ l, st2)
      | _ => .bad)
    | _ => .bad)
  | _ => .bad
theorem HandAll.append {mg : Wd} {S : Addr → Prop} {ι : List Addr} {H : Hp} {lo : Lo} {σ : L2.St} : ∀ {vs ws : List V} {l l' : List (MV × Bool)}, HandAll mg S ι H lo σ vs l → HandAll mg S ι H lo σ ws l' → HandAll mg S ι H lo σ (vs ++ ws) (l ++ l')
  | vs, ws, [], l', r, r' => by rw [r.inv_nil]; exact r'
  | vs, ws, z :: l, l', r, r' => by
    obtain ⟨v, vs', rfl, d, r2⟩ := r.inv_cons
    exact .cons d (HandAll.append r2 r')
end FW
namespace FW
open PySem L2 PySem.Spec PyProof.Rows
def sTry2 (p : Str → Bool) (g gs : SF) : SF := fun lo st => match g lo st with
  | .ok r => .ok r
  | .bad => .bad
  | .exc c fs lo1 st1 => if p c = true then noExc (gs lo1 st1) else .bad
end FW
namespace FL
open PySem L2 PySem.Spec PyProof.Rows FW
noncomputable def g_Program_eq : SF := (sRet (mAndV (mIsi noT (eqc CS "Program") noC (mVar 1)) (mOp (gEqB false) (mTup (mCons (mFld "stands" (inB ["Program"]) noB (mVar 0)) (mCons (mFld "steps" (inB ["Program"]) noB (mVar 0)) mNil))) (mTup (mCons (mFld "stands" (inB ["Program"]) noB (mVar 1)) (mCons (mFld "steps" (inB ["Program"]) noB (mVar 1)) mNil))))))
noncomputable def M_Program_eq : FF := runF 2 g_Program_eq
noncomputable def g_Program_moves : SF := (sRet (mCallB gListOf (mCons (mFld "steps" (inB ["Program"]) noB (mVar 0)) mNil)))
noncomputable def M_Program_moves : FF := runF 1 g_Program_moves
noncomputable def g_Program_places : SF := (sRet (mCallB gListOf (mCons (mFld "stands" (inB ["Program"]) noB (mVar 0)) mNil)))
noncomputable def M_Program_places : FF := runF 1 g_Program_places
noncomputable def g_signed : SF := (sRet (mIfE (mTv (mOp gGe (mVar 0) (mC (.int 0)))) (mOp gAdd (mC (.str "+")) (mCallB gStrT (mCons (mVar 0) mNil))) (mCallB gStrT (mCons (mVar 0) mNil))))
noncomputable def M_signed : FF := runF 1 g_signed
noncomputable abbrev b1_text_of : SF := (sApp (mVar 1) (mLst (mCons (mC (.str "move")) (mCons (mVar 2) (mCons (mCallB gStrT (mCons (mVar 3) mNil)) (mCons (mCall 1 M_signed [] (mCons (mVar 4) mNil)) (mCons (mVar 5) mNil)))))))
noncomputable def g_text_of : SF := (sSeq (sExpr (mCall 1 M_check_program [] (mCons (mVar 0) mNil)))
  (sSeq (sOwn 1 (mLst (mCons (mLst (mCons (mC (.str "places")) (mStarA (mMeth "Program" "places" 1 M_Program_places (mVar 0) mNil) mNil))) mNil)))
  (sSeq (sFor (iSeq (mFld "steps" (inB ["Program"]) noB (mVar 0))) (gT 4 (gsCons (gN 2) (gsCons (gN 3) (gsCons (gN 4) (gsCons (gN 5) gsNil))))) b1_text_of)
  (sFz 1 (sRet (mBm "str" gJoin (mC (.str "\n")) (mCons (mLc [6] (iSeq (mVar 1)) (gN 6) tYesM (mBm "str" gJoin (mC (.str " ")) (mCons (mVar 6) mNil))) mNil)))))))
noncomputable def M_text_of : FF := runF 7 g_text_of
end FL
namespace FW
open PySem L2 PySem.Spec PyProof.Rows PySem.SeqAt
open AutoSeq1 (wpAny_loadPart')
theorem int_eq_ins (b : Int) (u : Tok) (x : Addr) (C : Value) (dx : Option Addr) :
    Meets (Builtin.«int.__eq__» ⟨[.int b u, .ref x], []⟩) (fun _ R s => s.heap.get? x = some { cls := C, dict := dx } ∧ R (.ok (.ret .notImplemented)) s) :=
  .of_wp fun prog w A R s h => by obtain ⟨hp, g, d, tk, os⟩ := s; obtain ⟨hl, h⟩ := h; wp_walk using wpAny_loadPart' hl, wpAny_load hl; exact ⟨_, rfl, h⟩
theorem str_eq_ins (b : Str) (u : Tok) (x : Addr) (C : Value) (dx : Option Addr) :
    Meets (Builtin.«str.__eq__» ⟨[.str b u, .ref x], []⟩) (fun _ R s => s.heap.get? x = some { cls := C, dict := dx } ∧ R (.ok (.ret .notImplemented)) s) :=
  .of_wp fun prog w A R s h => by obtain ⟨hp, g, d, tk, os⟩ := s; obtain ⟨hl, h⟩ := h; wp_walk using wpAny_loadPart' hl, wpAny_load hl; exact ⟨_, rfl, h⟩
theorem list_eq_ins (l : Addr) (items : Array Value) (n : Nat) (dd : Option Addr) (sl : Array (Option Value)) (x : Addr) :
    Meets (Builtin.«list.__eq__» ⟨[.ref l, .ref x], []⟩) (fun _ R s => s.heap.get? l = some { cls := .type "list", dict := dd, data := .seq items n, slots := sl } ∧ (∀ M : Model, PySem.W.Looks M s.heap (isInstance (.ref x) (.type "list")) false) ∧ R (.ok (.ret .notImplemented)) s) :=
  .of_wp fun prog w A R s h => by
    obtain ⟨hp, g, d, tk, os⟩ := s
    obtain ⟨hl, hI, h⟩ := h
    wp_walk using wpAny_loadPart' hl, wpAny_load hl, ((hI (model prog w)).here)
    exact ⟨_, rfl, h⟩
theorem dict_eq_ins (l : Addr) (es : Array DictEntry) (n : Nat) (dd : Option Addr) (sl : Array (Option Value)) (x : Addr) :
    Meets (Builtin.«dict.__eq__» ⟨[.ref l, .ref x], []⟩) (fun _ R s => s.heap.get? l = some { cls := .type "dict", dict := dd, data := .dict es n, slots := sl } ∧ (∀ M : Model, PySem.W.Looks M s.heap (isInstance (.ref x) (.type "dict")) false) ∧ R (.ok (.ret .notImplemented)) s) :=
  .of_wp fun prog w A R s h => by
    obtain ⟨hp, g, d, tk, os⟩ := s
    obtain ⟨hl, hI, h⟩ := h
    wp_walk using wpAny_loadPart' hl, wpAny_load hl, ((hI (model prog w)).here)
    exact ⟨_, rfl, h⟩
section
variable {M : Model} {prog : Program} {w : World} {A : Around} {E : Value → Shared → Prop} {s : Shared} {K : PySem.W.Frag} {x C f : Addr} {ox : Obj} {od : Option Obj}
theorem cmp_backK {a : Value} {T : String} {L : Addr} {h₀ : Heap} {m : Str → Option Value} {Q : Value → Shared → Prop} (hu : A.units < cLine) (F : Fr h₀ L s.heap m) (X₀ : K.In h₀) (I : PySem.W.InstAt s.heap x ox C od) (hT : s.TypeIs a T)
    (hsub : PySem.W.subIn K (.ref C) (.type T) = some false) (hdec : ∀ Q' : Option Value → Shared → Prop, Q' none s → wpAny (model prog w) A (tryCompare a (cmpInfo .Eq).2.1 (.ref x)) Q' E s)
    (hs : PySem.W.findIn K (.ref C) "__eq__" = some (some (.ref f))) (hf : PySem.W.isFn K (.ref f) = true)
    (h : wpAny (model prog w) A (call (.ref f) [.ref x, a]) (PySem.W.CmpBack Q) E s) : wpAny (model prog w) A (richCompare .Eq a (.ref x)) Q E s := by
  have X := X₀.keeps F.keep
  have two : wpAny (model prog w) A (tryCompare (.ref x) (cmpInfo .Eq).2.2 a) (fun r s' => ∃ v, r = some v ∧ Q v s') E s := by
    unfold tryCompare
    refine wpAny_bind (PySem.W.ifBound_K X I hs hf (wpAny_mono h (fun v s' hv => ?_) fun _ _ e => e))
    cases v <;> first | exact hv.elim | exact wpAny_pure ⟨_, rfl, hv⟩
  unfold richCompare
  simp only [hT.oneThing_none]
  refine wpAny_holding (wpAny_bind (wpAny_cRoomFor hu ?_))
  refine wpAny_bind (wpAny_typeOf hT ?_)
  refine wpAny_bind (I.type.here ?_)
  split
  · refine wpAny_bind ((PySem.W.looks_subIn X hsub).here ?_)
    simp only [Bool.false_eq_true, if_false, Bool.not_false, if_true]
    refine wpAny_bind (hdec _ ?_)
    refine wpAny_bind (wpAny_mono two (fun r s' z => ?_) fun _ _ e => e)
    obtain ⟨v, rfl, hq⟩ := z
    exact wpAny_pure hq
  · rename_i q
    exact absurd (by simp) q
end
def DecV (H : Hp) (y : V) : Prop := y = .non ∨ (∃ i, y = .int i) ∨ (∃ z, y = .str z) ∨ (∃ p vs, y = .ref p ∧ H p = some (.lst vs)) ∨ (∃ p, y = .ref p ∧ (Rd H p (.dK []) ∨ Rd H p (.dT [])))
def decM : MV → Bool
  | .non => true
  | .int _ => true
  | .str _ => true
  | .lst _ => true
  | .dct [] => true
  | _ => false
theorem decV_of {mg : Wd} {S : Addr → Prop} {ι : List Addr} {H : Hp} {y : V} {m : MV} (vr : VR mg S ι H y m) (h : decM m = true) : DecV H y := by
  cases m with
  | non => exact .inl vr
  | int i => exact .inr (.inl ⟨i, vr⟩)
  | str z => exact .inr (.inr (.inl ⟨z, vr⟩))
  | lst ms => obtain ⟨p, vs, rfl, h1, _⟩ := vr; exact .inr (.inr (.inr (.inl ⟨p, vs, rfl, h1⟩)))
  | dct ps =>
    cases ps with
    | nil =>
      obtain ⟨p, rfl, ⟨kvs, g, hl, _⟩ | ⟨kvs, g, hl, _⟩⟩ := vr
      · obtain rfl := List.length_eq_zero_iff.mp hl
        exact .inr (.inr (.inr (.inr ⟨p, rfl, .inl g⟩)))
      · obtain rfl := List.length_eq_zero_iff.mp hl
        exact .inr (.inr (.inr (.inr ⟨p, rfl, .inr g⟩)))
    | cons _ _ => cases h
  | _ => cases h
structure EqBack (K : PySem.W.Frag) (C : Addr) : Prop where
  s1 : PySem.W.subIn K (.ref C) (.type "NoneType") = some false
  s2 : PySem.W.subIn K (.ref C) (.type "int") = some false
  s3 : PySem.W.subIn K (.ref C) (.type "str") = some false
  s4 : PySem.W.subIn K (.ref C) (.type "list") = some false
  s5 : PySem.W.subIn K (.ref C) (.type "dict") = some false
  m4 : PySem.W.mroIn K C (.type "list") = some false
  m5 : PySem.W.mroIn K C (.type "dict") = some false
theorem dec_ok {X : Cx} {pins : List (Addr × Obj)} {σ : L2.St} {H : Hp} {s : Shared} {C x dx : Addr} {y : V} {u : Value} {A : Around} {E : Value → Shared → Prop} {mA : Str → Option Value} (I : Inv X pins σ H s) (b : EqBack X.K C) (J0 : ObjM s.heap x dx C mA) (ry : RelV y u) (h : DecV H y) :
    ∃ T, s.TypeIs u T ∧ PySem.W.subIn X.K (.ref C) (.type T) = some false ∧ ∀ Q' : Option Value → Shared → Prop, Q' none s → wpAny (model X.prog X.w) A (tryCompare u (cmpInfo .Eq).2.1 (.ref x)) Q' E s := by
  have hx : s.heap.get? x = some { cls := .ref C, dict := some dx } := J0.obj
  obtain ⟨od, J, _⟩ := J0.look
  rcases h with rfl | ⟨i, rfl⟩ | ⟨z, rfl⟩ | ⟨p, vs, rfl, h⟩ | ⟨p, rfl, h⟩
  · cases ry
    exact ⟨"NoneType", rfl, b.s1, fun Q' q => wpAny_tryCompare_declines (show s.TypeIs .none "NoneType" from rfl) F.slot_NoneType_eq_refl (call_gives F.slot_NoneType_eq_refl rfl F.entry_NoneType_eq (F.args_NoneType_eq_2 _ _) (NoneType___eq___none_ref_0 x) ⟨rfl, q⟩)⟩
  · obtain ⟨t, rfl⟩ := ry
    exact ⟨"int", rfl, b.s2, fun Q' q => wpAny_tryCompare_declines (typeIs_int s i t) F.slot_int_eq (call_meets F.slot_int_eq (typeIs_int s i t) F.entry_int_eq (F.args_int_eq_2 _ _) (int_eq_ins i t x _ _) ⟨hx, rfl, q⟩)⟩
  · obtain ⟨t, rfl⟩ := ry
    exact ⟨"str", rfl, b.s3, fun Q' q => wpAny_tryCompare_declines (typeIs_str s z t) F.slot_str_eq (call_meets F.slot_str_eq (typeIs_str s z t) F.entry_str_eq (F.args_str_eq_2 _ _) (str_eq_ins z t x _ _) ⟨hx, rfl, q⟩)⟩
  · cases ry
    obtain ⟨its, _, ⟨o, n, ho, hcl, hdd, hda⟩, _⟩ := I.list (.of h)
    obtain ⟨oc, od', oda, osl⟩ := o
    cases hcl
    cases hda
    have hI : ∀ M : Model, PySem.W.Looks M s.heap (isInstance (.ref x) (.type "list")) false := fun M => J.type.andThen (PySem.W.looks_mroIn I.kIn b.m4)
    exact ⟨"list", ⟨_, ho, rfl⟩, b.s4, fun Q' q => wpAny_tryCompare_declines (T := "list") ⟨_, ho, rfl⟩ F.slot_list_eq (call_meets F.slot_list_eq ⟨_, ho, rfl⟩ F.entry_list_eq (F.args_list_eq_2 _ _) (list_eq_ins p _ _ _ _ x) ⟨ho, hI, rfl, q⟩)⟩
  · cases ry
    have ⟨o, es, ep, g1, g2, g3⟩ : ∃ o es ep, s.heap.get? p = some o ∧ o.cls = .type "dict" ∧ o.data = .dict es ep := by
      rcases h with hp | hp
      · obtain ⟨_, n, vs, kv, o, es, ep, g1, g2, g3, _⟩ := hp.ok I.hok
        exact ⟨o, es, ep, g1, g2.1, g3⟩
      · obtain ⟨_, n, vs, kv, o, es, ep, g1, g2, g3, _⟩ := hp.ok I.hok
        exact ⟨o, es, ep, g1, g2.1, g3⟩
    obtain ⟨oc, od', oda, osl⟩ := o
    cases g2
    cases g3
    have hI : ∀ M : Model, PySem.W.Looks M s.heap (isInstance (.ref x) (.type "dict")) false := fun M => J.type.andThen (PySem.W.looks_mroIn I.kIn b.m5)
    exact ⟨"dict", ⟨_, g1, rfl⟩, b.s5, fun Q' q => wpAny_tryCompare_declines (T := "dict") ⟨_, g1, rfl⟩ F.slot_dict_eq (call_meets F.slot_dict_eq ⟨_, g1, rfl⟩ F.entry_dict_eq (F.args_dict_eq_2 _ _) (dict_eq_ins p _ _ _ _ x) ⟨g1, hI, rfl, q⟩)⟩
theorem dec_type {X : Cx} {pins : List (Addr × Obj)} {σ : L2.St} {H : Hp} {s : Shared} {C : Addr} {y : V} {u : Value} (I : Inv X pins σ H s) (ry : RelV y u) (h : KnV C H y ∨ DecV H y) : ∃ tb, PySem.W.Looks (model X.prog X.w) s.heap (typeOf u) tb ∧ PySem.W.notFirst X.K C tb = true := by
  rcases h with h | h
  · exact knV_type I ry h
  · rcases h with rfl | ⟨i, rfl⟩ | ⟨z, rfl⟩ | ⟨p, vs, rfl, h⟩ | ⟨p, rfl, h⟩
    · exact knV_type I ry (.inl rfl)
    · exact knV_type I ry (.inr (.inr (.inl ⟨i, rfl⟩)))
    · exact knV_type I ry (.inr (.inr (.inr (.inl ⟨z, rfl⟩))))
    · exact knV_type I ry (.inr (.inr (.inr (.inr (.inl ⟨p, vs, rfl, h⟩)))))
    · cases ry
      have ⟨o, g1, g2⟩ : ∃ o, s.heap.get? p = some o ∧ o.cls = .type "dict" := by
        rcases h with hp | hp
        · obtain ⟨_, n, vs, kv, o, es, ep, g1, g2, g3, _⟩ := hp.ok I.hok
          exact ⟨o, g1, g2.1⟩
        · obtain ⟨_, n, vs, kv, o, es, ep, g1, g2, g3, _⟩ := hp.ok I.hok
          exact ⟨o, g1, g2.1⟩
      refine ⟨.type "dict", ?_, sub_plain (.inr (.inr (.inr (.inr (.inr (.inr rfl))))))⟩
      rw [← g2]
      exact (PySem.W.Looks.ld g1).andThen .now
def mEqA (neg : Bool) (c : Str) (F : FF) (fa fb : EF) : EF := fun lo st => fa lo st >>= fun (a, ka, st1) => fb lo st1 >>= fun (b, kb, st2) =>
  if isPk ka = false ∧ isPk kb = false then
    (if insOf c "__eq__" (vw st2 a) = true ∧ (knM c (vw st2 b) || decM (vw st2 b)) = true then (callF 2 F [] [(a, false), (b, false)] lo st2 >>= fun (r, _, st3) => match r with
      | .bl z => .ok (.bl (if neg then !z else z), .fz, st3)
      | _ => .bad)
    else if neg = false ∧ decM (vw st2 a) = true ∧ insOf c "__eq__" (vw st2 b) = true then (callF 2 F [] [(b, false), (a, false)] lo st2 >>= fun (r, _, st3) => match r with
      | .bl z => .ok (.bl z, .fz, st3)
      | _ => .bad)
    else .bad) else .bad
section
variable {X : Cx} {B : Base} {W : WX} {a b : Expr} {fa fb : EF} {k : Nat} {C f : Addr} {fd : FuncData} {ps : List Str} {FM : FF} {c : Str}
theorem pc_eqA (neg : Bool) (ha : SE X B W a fa) (hb' : SE X B W b fb) (hm : EqOwn X.K C f) (hbk : EqBack X.K C) (hc : X.mg c = some (.ref C)) (F : FnG X.prog X.w X.K X.mg X.base k f fd ps (spM X.wd 2 FM)) (hr : RoomG (k + 1) X.A) (tk : Takes X W) (hb : Binds X.K fd ps []) :
    PC X (if neg = true then .NotEq else .Eq) a b (tE X.wd B W (mEqA neg c FM fa fb)) := by
  refine ⟨fun pins s σ H Q I ⟨S, ι, lo, st, fm, pp⟩ => ?_⟩
  have run := ha.run pins s σ H (fun x H1 => tE X.wd B W fb σ H1 (fun y H2 =>
    (∃ p dx fs, x = .ref p ∧ H2 p = some (.ins C dx fs) ∧ (KnV C H2 y ∨ DecV H2 y) ∧ ∃ E : XK, (∀ cls d H', E cls d H' → W cls d σ H') ∧ spM X.wd 2 FM [x, y] H2 (fun v H3 => ∃ r, v = .bl r ∧ Q (.bl (if neg then !r else r)) H3) E) ∨
    (neg = false ∧ DecV H2 x ∧ ∃ p dx fs, y = .ref p ∧ H2 p = some (.ins C dx fs) ∧ ∃ E : XK, (∀ cls d H', E cls d H' → W cls d σ H') ∧ spM X.wd 2 FM [y, x] H2 (fun v H3 => ∃ r, v = .bl r ∧ Q (.bl r) H3) E))) I ?_
  · refine thn run fun v s1 ⟨x, H1, I1, rx, q1⟩ => ?_
    refine thn (hb'.run pins s1 σ H1 _ I1 q1) fun u s2 ⟨y, H2, I2, ry, h⟩ => ?_
    rcases h with ⟨p, dx, fs, ex, ea, kv, E, hE, q⟩ | ⟨hn0, dv, p, dx, fs, ey, ea, E, hE, q⟩
    · subst ex
      cases (show v = Value.ref p from rx)
      obtain ⟨mA, J, _⟩ := ins_get I2.hok ea
      obtain ⟨od, J, _⟩ := J.look
      obtain ⟨m, hF⟩ := I2.fr
      obtain ⟨tb, ht, hn⟩ := dec_type I2 ry kv
      cases neg with
      | false =>
        show wpAny (model X.prog X.w) X.A (richCompare .Eq (.ref p) u) (EP X pins σ Q) X.xe s2
        refine PySem.W.cmp_K (op := .Eq) (tb := tb) hr.r.units0 hF I2.ok.mod.kin J ht hn hm.m.at_ hm.m.fn ?_
        refine wpAny_mono (run_fnG (us := [.ref p, u]) (vs := [.ref p, y]) (dvs := []) F ⟨hr.r.mono (Nat.le_succ k), hr.g⟩ hb .nil hE tk I2 (.cons rfl (.cons ry .nil)) (by rw [List.append_nil]; exact q)) (fun w s' z => ?_) fun _ _ e => e
        obtain ⟨v', H', I', rv, r, ev, qr⟩ := z
        subst ev
        cases rv
        exact ⟨.bl r, H', I', rfl, qr⟩
      | true =>
        show wpAny (model X.prog X.w) X.A (compareOp .NotEq (.ref p) u) (EP X pins σ Q) X.xe s2
        have hu : X.A.units + 1 < cLine := by have := hr.r.units; omega
        unfold compareOp
        refine cmp_neK (tb := tb) hu hF I2.ok.mod.kin J ht hn hm.ne hm.ob hm.m.at_ hm.m.fn ?_
        refine wpAny_mono (run_in1 (us := [.ref p, u]) (vs := [.ref p, y]) F hr hb hE tk I2 (.cons rfl (.cons ry .nil)) q) (fun w s' z => ?_) fun _ _ e => e
        obtain ⟨v', H', I', rv, r, ev, qr⟩ := z
        subst ev
        cases rv
        exact ⟨r, rfl, .bl (!r), H', I', rfl, qr⟩
    · subst hn0
      subst ey
      cases (show u = Value.ref p from ry)
      obtain ⟨mA, J0, _⟩ := ins_get I2.hok ea
      obtain ⟨m, hF⟩ := I2.fr
      obtain ⟨T, hT, hsub, hdec⟩ := dec_ok (A := X.A) (E := X.xe) I2 hbk J0 rx dv
      obtain ⟨od, J, _⟩ := J0.look
      show wpAny (model X.prog X.w) X.A (richCompare .Eq v (.ref p)) (EP X pins σ Q) X.xe s2
      refine cmp_backK hr.r.units0 hF I2.ok.mod.kin J hT hsub hdec hm.m.at_ hm.m.fn ?_
      refine wpAny_mono (run_fnG (us := [.ref p, v]) (vs := [.ref p, x]) (dvs := []) F ⟨hr.r.mono (Nat.le_succ k), hr.g⟩ hb .nil hE tk I2 (.cons rfl (.cons rx .nil)) (by rw [List.append_nil]; exact q)) (fun w s' z => ?_) fun _ _ e => e
      obtain ⟨v', H', I', rv, r, ev, qr⟩ := z
      subst ev
      cases rv
      exact ⟨.bl r, H', I', rfl, qr⟩
  · refine tE.use fm (Post.bind pp) fun t kt st1 S1 ι1 H1 x f1 k1 r1 p1 => ?_
    obtain ⟨S1', f1', k1', h1⟩ := r1.hand f1
    dsimp only at p1
    refine tE.use f1' (Post.bind (p1.mono (k1.trans k1') fun _ z => z)) fun t2 kt2 st2 S2 ι2 H2 y f2 k2 r2 p2 => ?_
    obtain ⟨S2', f2', k2', h2⟩ := r2.hand f2
    dsimp only at p2
    split at p2
    case isFalse => exact p2.elim
    rename_i hh
    obtain ⟨hk, hk2⟩ := hh
    rw [hk] at h1
    rw [hk2] at h2
    have h1' : Dt X.wd S2' ι2 H2 x t := Dt.mono (k2.trans k2') h1
    have vr := Hand.vr (b := false) f2' h1'
    have vr2 := Hand.vr (b := false) f2' h2
    have fin : ∀ {rm : MV} {rk : Kd} {rst : Sto} {S' : Addr → Prop} {ι' : List Addr} {H' : Hp} {v : V} (g : Bool → Bool) (f : Fm X.wd B S' ι' H' lo σ rst) (kk : Keep S2' ι2 H2 S' ι' H') (rv : RV X.wd B S' ι' H' lo σ v rm rk)
      (z : Post X.wd B W S2' ι2 H2 (fun r => ∀ S' ι' H' v, Fm X.wd B S' ι' H' lo σ r.2.2 → Keep S ι H S' ι' H' → RV X.wd B S' ι' H' lo σ v r.1 r.2.1 → Q v H') (match rm with | .bl z => Res.ok (MV.bl (g z), Kd.fz, rst) | _ => .bad)), ∃ r, v = .bl r ∧ Q (.bl (g r)) H' := by
      intro rm rk rst S' ι' H' v g f kk rv z
      obtain ⟨S3, f3, k3, h3⟩ := rv.hand f
      have v3 := h3.vr f3
      cases rm with
      | bl zb =>
        have ev3 : v = .bl zb := v3
        exact ⟨zb, ev3, z S3 ι' H' (.bl (g zb)) f3 ((k1.trans k1').trans ((k2.trans k2').trans (kk.trans k3))) (.bl _)⟩
      | _ => exact z.elim
    split at p2
    · rename_i hh
      obtain ⟨hi, hkn⟩ := hh
      obtain ⟨fs, ev, hl⟩ := insOf_ok hi
      rw [ev] at vr
      have kv : KnV C H2 y ∨ DecV H2 y := by
        rcases Bool.or_eq_true_iff.mp hkn with e | e
        · exact .inl (knV_of (mg := X.wd) hc vr2 e)
        · exact .inr (decV_of vr2 e)
      obtain ⟨q, C', dx, ws, rfl, g1, hmc, hn, _⟩ := vr
      cases (show some (Value.ref C) = some (Value.ref C') from hc.symm.trans hmc)
      refine .inl ⟨q, dx, ws, rfl, g1, kv, ?_⟩
      have p3 := Post.bind (p2.mono (k2.trans k2') fun _ z => z)
      unfold callF at p3
      simp only [d_allFz1, d_allFz0, Option.map_some, List.append_nil] at p3
      rw [if_pos (show [t, t2].length = 2 from rfl)] at p3
      refine ⟨_, ?_, wants_callee f2' (AllD.cons h1' (AllD.cons h2 .nil)) rfl .refl (p3.imp fun r z S' ι' H' v f kk rv => fin (fun z => if neg then !z else z) f kk rv z)⟩
      rintro cls d H' ⟨_, _, _, _, _, _, _, _, z⟩
      exact z
    · split at p2
      case isFalse => exact p2.elim
      rename_i hh
      obtain ⟨hn0, hd, hi⟩ := hh
      obtain ⟨fs, ev, hl⟩ := insOf_ok hi
      have dv : DecV H2 x := decV_of vr hd
      rw [ev] at vr2
      obtain ⟨q, C', dx, ws, rfl, g1, hmc, hn, _⟩ := vr2
      cases (show some (Value.ref C) = some (Value.ref C') from hc.symm.trans hmc)
      refine .inr ⟨hn0, dv, q, dx, ws, rfl, g1, ?_⟩
      have p3 := Post.bind (p2.mono (k2.trans k2') fun _ z => z)
      unfold callF at p3
      simp only [d_allFz1, d_allFz0, Option.map_some, List.append_nil] at p3
      rw [if_pos (show [t2, t].length = 2 from rfl)] at p3
      refine ⟨_, ?_, wants_callee f2' (AllD.cons h2 (AllD.cons h1' .nil)) rfl .refl (p3.imp fun r z S' ι' H' v f kk rv => fin (fun z => z) f kk rv z)⟩
      rintro cls d H' ⟨_, _, _, _, _, _, _, _, z⟩
      exact z
section
variable {pos : Pos}
theorem se_eqA (ha : SE X B W a fa) (hb' : SE X B W b fb) (hm : EqOwn X.K C f) (hbk : EqBack X.K C) (hc : X.mg c = some (.ref C)) (F : FnG X.prog X.w X.K X.mg X.base k f fd ps (spM X.wd 2 FM)) (hr : RoomG (k + 1) X.A) (tk : Takes X W) (hb : Binds X.K fd ps []) :
    SE X B W (.Compare a [.Eq] [b] pos) (mEqA false c FM fa fb) := pe_cmp (pc_eqA false ha hb' hm hbk hc F hr tk hb)
theorem se_neA (ha : SE X B W a fa) (hb' : SE X B W b fb) (hm : EqOwn X.K C f) (hbk : EqBack X.K C) (hc : X.mg c = some (.ref C)) (F : FnG X.prog X.w X.K X.mg X.base k f fd ps (spM X.wd 2 FM)) (hr : RoomG (k + 1) X.A) (tk : Takes X W) (hb : Binds X.K fd ps []) :
    SE X B W (.Compare a [.NotEq] [b] pos) (mEqA true c FM fa fb) := pe_cmp (pc_eqA true ha hb' hm hbk hc F hr tk hb)
theorem st_neA (ha : SE X B W a fa) (hb' : SE X B W b fb) (hm : EqOwn X.K C f) (hbk : EqBack X.K C) (hc : X.mg c = some (.ref C)) (F : FnG X.prog X.w X.K X.mg X.base k f fd ps (spM X.wd 2 FM)) (hr : RoomG (k + 1) X.A) (tk : Takes X W) (hb : Binds X.K fd ps []) :
    STe X B W (.Compare a [.NotEq] [b] pos) (mTv (mEqA true c FM fa fb)) := st_of_pc (pc_eqA true ha hb' hm hbk hc F hr tk hb)
end
end
section
variable {c : Str} {F : FF} {fa fb : EF} {lo : Lo} {st st1 st2 st3 : Sto} {a b : MV} {ka kb : Kd} {neg r : Bool}
theorem eqA_l (h1 : fa lo st = .ok (a, ka, st1)) (k1 : isPk ka = false) (h2 : fb lo st1 = .ok (b, kb, st2)) (k2 : isPk kb = false) (hi : insOf c "__eq__" (vw st2 a) = true) (hk : (knM c (vw st2 b) || decM (vw st2 b)) = true) (hF : F [a, b] st2 = .ok (.bl r, false, st3)) :
    mEqA neg c F fa fb lo st = .ok (.bl (if neg then !r else r), .fz, st3) := by
  unfold mEqA
  rw [h1]
  simp only [Res.ok_bind]
  rw [h2]
  simp only [Res.ok_bind]
  rw [if_pos ⟨k1, k2⟩, if_pos ⟨hi, hk⟩]
  unfold callF
  simp only [d_allFz1, d_allFz0, Option.map_some, List.append_nil]
  rw [if_pos (show [a, b].length = 2 from rfl), callR_ok _ _ hF]
  rfl
end
end FW
namespace FW
open PySem L2 PySem.Spec PyProof.Rows
end FW
namespace FW
open PySem L2 PySem.Spec PyProof.Rows
theorem Exo.ok {P : Program} {w : World} {H : Hp} {h : Heap} {a C : Addr} {d : Option Addr} {o : Obj} {vs : Array Value} (e : h.get? a = some o) (h1 : o.cls = .ref C) (h2 : o.dict = d) (h3 : o.data = .fields vs) : ObjOk P w H h a (exO C d a) :=
  ⟨⟨o, e, h1, h2, vs, h3⟩, ⟨o, e⟩, fun _ _ ⟨u, z, r⟩ k => ⟨u, k u z, r⟩⟩
end FW
namespace FW
open PySem L2 PySem.Spec PyProof.Rows
end FW
namespace FW
open PySem L2 PySem.Spec PyProof.Rows
def sRaiseN (c : Str) : SF := fun lo st => .exc c [] lo st
section
variable {X : Cx} {B : Base} {W : WX} {p pos pos' : Pos} {x : Str} {C : Addr}
theorem pmk_none {bx : List Value} {Bn nw ini : String} (F : ExcBaseFacts Bn nw ini bx) (q : PySem.W.excIn X.K C bx nw = true) (kC : PySem.W.keepIn X.K (.ref C) = true) (r : Raises X (.ref C)) (hg : Gl X x) (hm : X.mg x = some (.ref C)) (hdb : (x == ("__debug__" : Str)) = false := by decide) :
    PMk X (.Call (.Name x p) [] [] pos) (fun _ H Q => Q (.ref C) none H) := by
  intro pins s σ H Q I h
  refine wpAny_Call_Name_kw (ld_glob I hg hm ?_ hdb)
  refine PySem.W.callWith_K0 I.kIn kC ?_
  obtain ⟨bm, N, nm, qn, bs, hdct, sn, sub, ab, col, dd, k0, k1, k2, k3, k5, mN, hC, hN, hni, T⟩ := exc_obj I.kIn q
  refine wpAny_call_exc_subT F T hC hN hni (fun h' a md => ?_) (by show 0 ≤ sizeLine; omega)
  obtain ⟨t, ht, _, _⟩ := md.there
  exact ⟨a, _, _, s, H, .ref C, none, rfl, I, md.keeps, md.new, ht, ⟨rfl, rfl⟩, rfl, rfl, I.hok.gone md.new, rfl, I.bare, r, h⟩
theorem ss_raiseN {bx : List Value} {Bn nw ini : String} (hc : X.calm = true) (tk : Takes X W) (F : ExcBaseFacts Bn nw ini bx) (q : PySem.W.excIn X.K C bx nw = true) (kC : PySem.W.keepIn X.K (.ref C) = true) (r : Raises X (.ref C)) (hg : Gl X x) (hm : X.mg x = some (.ref C)) (hdb : (x == ("__debug__" : Str)) = false := by decide) :
    SS X B W (.Raise (some (.Call (.Name x p) [] [] pos)) none pos') (sRaiseN x) := by
  refine (ps_raise hc tk (pmk_none F q kC r hg hm hdb)).fw fun D σ H ⟨S, ι, lo, st, fm, pp⟩ => ?_
  exact pp S ι σ H (.ref C) none fm .refl ⟨C, rfl, hm, .inl ⟨rfl, rfl⟩⟩
end
end FW
namespace FW
open PySem L2 PySem.Spec PyProof.Rows
def startS (n : Nat) (N : Nat) (ms : List MV) : Lo := some (.ref n, false) :: startM (N - 1) ms
def runS (c : Str) (n : Nat) (g : SF) : FF := fun ms st => match g (startS st.length n ms) (st ++ [.ins c []]) with
  | .ok (.nx, _, st') => .ok (.ref st.length, false, st')
  | .ok _ => .bad
  | .exc c fs lo st' => .exc c fs lo st'
  | .bad => .bad
def PostS (mg : Wd) (S : Addr → Prop) (ι : List Addr) (H0 : Hp) (a : Addr) (Q : VK) (E : XK) : Res (MV × Bool × Sto) → Prop
  | .ok (m, b, st') => b = false → ∀ S' ι' H', Ext S ι H0 S' ι' H' → Rep mg S' ι' H' st' → Dt mg S' ι' H' (.ref a) m → Q .non H'
  | .exc c fs _ st' => ∀ S' ι' H' cls d, Ext S ι H0 S' ι' H' → Rep mg S' ι' H' st' → XR mg S' ι' H' c fs cls d → E cls d H'
  | .bad => False
def spS (mg : Wd) (c : Str) (n : Nat) (F : FF) : Sp := fun vs H Q E => vs.length = n ∧ ∃ a C dx vs' S ι st ms, vs = .ref a :: vs' ∧ H a = some (.ins C dx []) ∧ mg.mg c = some (.ref C) ∧ ¬ S a ∧ a ∉ ι ∧ Rep mg S ι H st ∧ AllD mg S ι H vs' ms ∧
  PostS mg S ι (del H a) a Q E (F ms st)
section
variable {mgw : Wd} {S : Addr → Prop} {ι : List Addr} {H : Hp} {st : Sto} {vs : List V} {ms : List MV}
theorem fm_startS {N : List Str} {a C dx : Addr} {c : Str} (r : Rep mgw S ι H st) (d : AllD mgw S ι H vs ms) (hl : ms.length + 1 ≤ N.length) (ha : H a = some (.ins C dx [])) (hc : mgw.mg c = some (.ref C)) (hs : ¬ S a) (hi : a ∉ ι) :
    Fm mgw { S := S, ι := ι, H := del H a } S (ι ++ [a]) H (startS st.length N.length ms) (start N (.ref a :: vs)) (st ++ [.ins c []]) := by
  have hv := d.1
  have k : Keep S ι H S (ι ++ [a]) H := ⟨fun _ h => h, fun _ _ => rfl, List.prefix_append _ _, fun _ _ _ h => h⟩
  have hat : (ι ++ [a])[st.length]? = some a := by rw [← r.len]; simp
  refine ⟨⟨fun _ h => h, fun b o e _ => ?_, fun _ h => .inl h, List.prefix_append _ _, fun b h => ?_, fun b ob u e => by
    have e' : (if b = a then none else H b) = some (.frz ob u) := e
    split at e'
    · cases e'
    · exact e'⟩, ⟨by simp [r.len], ?_, fun b hb => ?_, r.som, fun n b m h1 h2 => ?_⟩, ⟨?_, fun i m h => ?_, fun i m h => ?_, fun i j m m' b hij h1 h2 => ?_, fun i c fs h => ?_⟩, fun b o h => by cases h⟩
  · have e' : (if b = a then none else H b) = some o := e
    split at e'
    · cases e'
    · exact e'
  · rcases List.mem_append.mp h with h | h
    · exact .inl h
    · have : b = a := by simpa using h
      subst this
      exact .inr (if_pos rfl)
  · rw [List.nodup_append]
    exact ⟨r.nd, by simp, fun x hx y hy e => by simp at hy; subst hy; subst e; exact hi hx⟩
  · rcases List.mem_append.mp hb with h | h
    · exact r.sep b h
    · have : b = a := by simpa using h
      subst this; exact hs
  · by_cases hn : n < st.length
    · rw [List.getElem?_append_left hn] at h2
      rw [List.getElem?_append_left (by rw [r.len]; exact hn)] at h1
      exact (r.ent n b m h1 h2).mono k rfl
    · have hn' : n = st.length := by
        have := (List.getElem?_eq_some_iff.mp h2).1
        simp at this; omega
      subst hn'
      rw [hat] at h1; cases h1
      rw [List.getElem?_append_right (Nat.le_refl _)] at h2
      simp at h2
      subst h2
      exact .inl ⟨.ins C dx [], ha, C, dx, [], rfl, hc, rfl, fun i f m q => by simp at q⟩
  · unfold startS startM L2.start
    simp only [List.length_append, List.length_map, List.length_replicate, List.length_cons]
    rw [hv]; omega
  · cases i with
    | zero => unfold startS at h; simp at h; subst h; exact ⟨.ref a, rfl, .ref hat⟩
    | succ i =>
      unfold startS at h
      rw [List.getElem?_cons_succ] at h
      obtain ⟨x, hx, e⟩ := startM_get h
      cases e
      obtain ⟨v, h1, h2⟩ := d.get hx
      refine ⟨v, ?_, h2.mono k⟩
      have hiv : i < vs.length := (List.getElem?_eq_some_iff.mp h1).1
      unfold L2.start
      rw [List.map_cons, List.cons_append, List.getElem?_cons_succ, List.getElem?_append_left (by simpa using hiv), List.getElem?_map, h1]
      rfl
  all_goals
    cases i with
    | zero => unfold startS at *; simp at *
    | succ i =>
      unfold startS at *
      rw [List.getElem?_cons_succ] at *
      first
        | (obtain ⟨x, _, e⟩ := startM_get h; cases e)
        | (obtain ⟨x, _, e⟩ := startM_get h1; cases e)
end
section
variable {P : Program} {w : World} {K : PySem.W.Frag} {mg : Str → Option Value} {base : Heap}
theorem fnS {k : Nat} {x qual c : Str} {st : Stmt} {f : Addr} {fd : FuncData} {N ps : List Str} {g : SF} (F : Fun K x qual st f fd) (Sc : FnScope N ps (defScope st)) (hle : ps.length ≤ N.length)
    (hbody : ∀ (X : Cx) (B : Base) (W : WX) (cdv : Value) (A : Around) (outer : List Env) (s : Shared) (H : Hp) (E : XK), X = cxG P w K mg base N qual (defScope st) f cdv A outer s H E → RoomG k X.A → Takes X W →
      SSs (cxG P w K mg base N qual (defScope st) f cdv A outer s H E) B W (defBody st) g) :
    FnG P w K mg base (k + 1) f fd ps (spS ⟨K, mg⟩ c ps.length (runS c N.length g)) := by
  obtain ⟨oc, od, kV, doc, pm, an, cdv, ct, osl, rfl, lk, hcd⟩ := F.ex
  refine fnG_of lk hcd Sc (fun vs H Q E h => h.1) fun A outer s H vs Q E room want => ?_
  obtain ⟨hvl, a, C, dx, vs', S, ι, st0, ms, rfl, ha, hc, hns, hni, r, d, p⟩ := want
  have hms : ms.length + 1 = ps.length := by rw [← d.1, ← hvl]; rfl
  have fm0 := fm_startS (N := N) r d (by omega) ha hc hns hni
  refine ⟨_, hbody _ { S := S, ι := ι, H := del H a } (fun cls dd _ H' => E cls dd H') cdv A outer s H E rfl room (takes_of rfl rfl rfl rfl), S, ι ++ [a], startS st0.length N.length ms, st0 ++ [MV.ins c []], fm0, ?_⟩
  unfold runS at p
  show Post (⟨K, mg⟩ : Wd) _ _ S (ι ++ [a]) H _ _
  cases hg : g (startS st0.length N.length ms) (st0 ++ [.ins c []]) with
  | bad => rw [hg] at p; exact p
  | exc c fs lo st' =>
    rw [hg] at p
    intro S' ι' σ' H' cls dd fm kp xr
    exact p S' ι' H' cls dd fm.ext fm.rep xr
  | ok z =>
    rw [hg] at p
    obtain ⟨fl, lo', st'⟩ := z
    cases fl with
    | nx =>
      intro S' ι' σ' H' fm kp
      exact p rfl S' ι' H' fm.ext fm.rep (.ref (getp kp.i (by rw [← r.len]; simp)))
    | bk => exact p.elim
    | ct => exact p.elim
    | rt m kd => exact p.elim
end
section
variable {X : Cx} {B : Base} {W : WX}
theorem wants_makeS {c : Str} {C : Addr} {n : Nat} {F : FF} {S S0 : Addr → Prop} {ι ι0 : List Addr} {H H0 : Hp} {lo : Lo} {σ : L2.St} {st : Sto} {vs : List V} {ms : List MV} {Q : VK} (hc : X.mg c = some (.ref C)) (fm : Fm X.wd B S ι H lo σ st) (d : AllD X.wd S ι H vs ms) (hn : vs.length + 1 = n) (k0 : Keep S0 ι0 H0 S ι H)
    (p : Post X.wd B W S0 ι0 H0 (fun r => ∀ S' ι' H' v, Fm X.wd B S' ι' H' lo σ r.2.2 → Keep S0 ι0 H0 S' ι' H' → RV X.wd B S' ι' H' lo σ v r.1 r.2.1 → Q v H') (callR F ms lo st)) (x dx : Addr) (hx : H x = none) (hdx : H dx = none) (ne : dx ≠ x) :
    spS X.wd c n F (.ref x :: vs) (upd (upd H dx (.own x)) x (.ins C dx [])) (fun v H2 => v = .non ∧ Q (.ref x) H2) (fun cls dd H' => ∃ S' ι' st' c fs, Fm X.wd B S' ι' H' lo σ st' ∧ Keep S ι H S' ι' H' ∧ XR X.wd S' ι' H' c fs cls dd ∧ W cls dd σ H') := by
  obtain ⟨f1, f2, f3, f4⟩ := fm.free hx
  have hx2 : upd H dx (.own x) x = none := by rw [upd_ne (fun z => ne z.symm)]; exact hx
  have fmA := fm.new (o := .own x) hdx
  have fmB := fmA.new (o := .ins C dx []) hx2
  have kB := ((Ext.new (o := .own x) hdx).keep fm.rep).trans ((Ext.new (o := .ins C dx []) hx2).keep fmA.rep)
  refine ⟨by simpa using hn, x, C, dx, vs, S, ι, st, ms, rfl, upd_same, hc, f1, f2, fmB.rep, d.mono kB, ?_⟩
  rw [del_upd hx ne]
  have up : ∀ {S' : Addr → Prop} {ι' : List Addr} {H' : Hp} {st' : Sto}, Ext S ι (upd H dx (.own x)) S' ι' H' → Rep X.wd S' ι' H' st' → Fm X.wd B S' ι' H' lo σ st' ∧ Keep S ι H S' ι' H' := fun {S' ι' H' st'} e r => by
    have e0 : Ext S ι H S' ι' H' := (Ext.new (o := .own x) hdx).trans e fun b hb => r.pre e.i b hb
    exact ⟨fm.step e0 r, e0.keep fm.rep⟩
  unfold callR at p
  cases hF : F ms st with
  | bad => rw [hF] at p; exact p
  | exc c fs lo' st' =>
    rw [hF] at p
    intro S' ι' H' cls dd e r xr
    obtain ⟨fm', kk⟩ := up e r
    exact ⟨S', ι', st', c, fs, fm', kk, xr, p S' ι' σ H' cls dd fm' (k0.trans kk) xr⟩
  | ok z =>
    rw [hF] at p
    obtain ⟨m, b, st'⟩ := z
    cases b with
    | true => exact fun z => nomatch z
    | false =>
      refine fun _ S' ι' H' e r dt => ⟨rfl, ?_⟩
      obtain ⟨fm', kk⟩ := up e r
      exact p S' ι' H' _ fm' (k0.trans kk) dt
theorem se_makeS {k n : Nat} {C f : Addr} {fd : FuncData} {ps : List Str} {FM : FF} {x : Str} {p pos : Pos} {e : Expr} {es : List Expr} {g : AF} (M : Mk X.K C f)
    (F : FnG X.prog X.w X.K X.mg X.base k f fd ps (spS X.wd x (n + 1) FM)) (hr : RoomG (k + 1) X.A) (tk : Takes X W) (hg : Gl X x) (hm : X.mg x = some (.ref C)) (hb : Binds X.K fd ps [])
    (ha : SA X B W (e :: es) g) (hdb : (x == ("__debug__" : Str)) = false := by decide) (he : starEach (e :: es) X.env = (false, eval e X.env) :: starEach es X.env := by rfl)
    (hpl : (backTo pos (starEach es X.env)).any (·.1) = false := by rfl) : SE X B W (.Call (.Name x p) (e :: es) [] pos) (mCall n FM [] g) := by
  refine ⟨fun pins s σ H Q I ⟨S, ι, lo, st, fm, pp⟩ => ?_⟩
  refine wpAny_Call_Name_kw (ld_glob I hg hm ?_ hdb)
  have run := ha.run pos pins s σ H (fun vs H1 => ∃ E : XK, (∀ cls d H', E cls d H' → W cls d σ H') ∧ ∀ y dx, H1 y = none → H1 dx = none → dx ≠ y → spS X.wd x (n + 1) FM (.ref y :: (vs ++ [])) (upd (upd H1 dx (.own y)) y (.ins C dx [])) (fun v H2 => v = .non ∧ Q (.ref y) H2) E) I ?_
  · refine PySem.W.callWith_K (h₀ := X.base) I.ok.mod.kin M.kp (thn run fun us s1 ⟨vs, H1, I1, r, q⟩ => ⟨I1.kIn, ?_⟩) he hpl
    obtain ⟨E, hE, q⟩ := q
    exact run_makeG M F hr hb .nil hE tk I1 r q
  · refine tA.use fm (Post.bind pp) fun l st1 S1 ι1 H1 vs f1 k1 r1 p1 => ?_
    dsimp only at p1
    unfold callF at p1
    split at p1
    · rename_i ms hz
      split at p1
      · rename_i hlen
        have d1 := r1.data hz
        rw [List.append_nil] at hlen p1
        refine ⟨_, ?_, fun x dx hx hdx ne => by rw [List.append_nil]; exact wants_makeS hm f1 d1 (by rw [d1.1, hlen]) k1 p1 x dx hx hdx ne⟩
        rintro cls d H' ⟨_, _, _, _, _, _, _, _, z⟩
        exact z
      · exact p1.elim
    · exact p1.elim
end
def putT (ps : List (MV × MV)) (k : List Key) (m : MV) : List (MV × MV) :=
  if (ps.any fun p => decide (kyM p.1 = some (.inr k))) = true then ps.map fun p => if kyM p.1 = some (.inr k) then (p.1, m) else p else ps ++ [(.tup (k.map kM), m)]
section
variable {mg : Wd} {S : Addr → Prop} {ι : List Addr} {H : Hp}
def TD (mg : Wd) (S : Addr → Prop) (ι : List Addr) (H : Hp) (kvs : List (List Key × V)) (ps : List (MV × MV)) : Prop := kvs.length = ps.length ∧ ∀ (i : Nat) kv q, kvs[i]? = some kv → ps[i]? = some q → q.1 = .tup (kv.1.map kM) ∧ Dt mg S ι H kv.2 q.2
theorem TD.nil : TD mg S ι H [] [] := ⟨rfl, fun i kv q h => by simp at h⟩
theorem TD.cons {kv : List Key × V} {p : MV × MV} {kvs : List (List Key × V)} {ps : List (MV × MV)} (h1 : p.1 = .tup (kv.1.map kM)) (h2 : Dt mg S ι H kv.2 p.2) (r : TD mg S ι H kvs ps) : TD mg S ι H (kv :: kvs) (p :: ps) := by
  refine ⟨by simp [r.1], fun i w n a b => ?_⟩
  cases i with
  | zero => simp at a b; subst a; subst b; exact ⟨h1, h2⟩
  | succ i => exact r.2 i w n (by simpa using a) (by simpa using b)
theorem TD.inv {kv : List Key × V} {kvs : List (List Key × V)} {ps : List (MV × MV)} (r : TD mg S ι H (kv :: kvs) ps) : ∃ p ps', ps = p :: ps' ∧ p.1 = .tup (kv.1.map kM) ∧ Dt mg S ι H kv.2 p.2 ∧ TD mg S ι H kvs ps' := by
  cases ps with
  | nil => exact absurd r.1 (by simp)
  | cons p ps' =>
    obtain ⟨a, b⟩ := r.2 0 kv p rfl rfl
    exact ⟨p, ps', rfl, a, b, by have := r.1; simpa using this, fun i w n c d => r.2 (i + 1) w n (by simpa using c) (by simpa using d)⟩
theorem TD.mono {S' : Addr → Prop} {ι' : List Addr} {H' : Hp} {kvs : List (List Key × V)} {ps : List (MV × MV)} (k : Keep S ι H S' ι' H') (r : TD mg S ι H kvs ps) : TD mg S' ι' H' kvs ps := ⟨r.1, fun i kv q a b => ⟨(r.2 i kv q a b).1, (r.2 i kv q a b).2.mono k⟩⟩
theorem kyT_iff {ks k : List Key} : (kyM (.tup (ks.map kM)) = some (.inr k)) ↔ ks = k := by
  rw [kyM_tup]
  exact ⟨fun e => Sum.inr.inj (Option.some.inj e), fun e => by rw [e]⟩
theorem TD.any (k : List Key) : ∀ {kvs : List (List Key × V)} {ps : List (MV × MV)}, TD mg S ι H kvs ps → (ps.any fun p => decide (kyM p.1 = some (.inr k))) = kvs.any fun kv => decide (kv.1 = k)
  | [], ps, r => by have : ps = [] := List.length_eq_zero_iff.mp r.1.symm; subst this; rfl
  | kv :: kvs, ps, r => by
    obtain ⟨p, ps', rfl, a, b, r'⟩ := r.inv
    rw [List.any_cons, List.any_cons, TD.any k r', a]
    congr 1
    exact decide_eq_decide.mpr kyT_iff
theorem TD.repl (k : List Key) {v : V} {m : MV} (d : Dt mg S ι H v m) : ∀ {kvs : List (List Key × V)} {ps : List (MV × MV)}, TD mg S ι H kvs ps → TD mg S ι H (kvs.map fun kv => if kv.1 = k then (kv.1, v) else kv) (ps.map fun p => if kyM p.1 = some (.inr k) then (p.1, m) else p)
  | [], ps, r => by have : ps = [] := List.length_eq_zero_iff.mp r.1.symm; subst this; exact TD.nil
  | kv :: kvs, ps, r => by
    obtain ⟨p, ps', rfl, a, b, r'⟩ := r.inv
    rw [List.map_cons, List.map_cons]
    have e : (kyM p.1 = some (.inr k)) ↔ kv.1 = k := by rw [a]; exact kyT_iff
    by_cases hk : kv.1 = k
    · rw [if_pos hk, if_pos (e.mpr hk)]
      exact TD.cons a d (TD.repl k d r')
    · rw [if_neg hk, if_neg (fun z => hk (e.mp z))]
      exact TD.cons a b (TD.repl k d r')
theorem TD.snoc (k : List Key) {v : V} {m : MV} (d : Dt mg S ι H v m) : ∀ {kvs : List (List Key × V)} {ps : List (MV × MV)}, TD mg S ι H kvs ps → TD mg S ι H (kvs ++ [(k, v)]) (ps ++ [(.tup (k.map kM), m)])
  | [], ps, r => by have : ps = [] := List.length_eq_zero_iff.mp r.1.symm; subst this; exact TD.cons rfl d TD.nil
  | kv :: kvs, ps, r => by
    obtain ⟨p, ps', rfl, a, b, r'⟩ := r.inv
    exact TD.cons a b (TD.snoc k d r')
theorem TD.put {kvs : List (List Key × V)} {ps : List (MV × MV)} (r : TD mg S ι H kvs ps) (k : List Key) {v : V} {m : MV} (d : Dt mg S ι H v m) : TD mg S ι H (putK kvs k v) (putT ps k m) := by
  unfold putK putT
  rw [r.any k]
  split
  · exact r.repl k d
  · exact r.snoc k d
end
end FW
namespace FW
open PySem L2 PySem.Spec PyProof.Rows
def dropD (ps : List (MV × MV)) (k : Key) : List (MV × MV) := ps.filter fun p => decide (kyM p.1 ≠ some (.inl k))
section
variable {mg : Wd} {S : Addr → Prop} {ι : List Addr} {H : Hp}
theorem KD.drop (k : Key) : ∀ {kvs : List (Key × V)} {ps : List (MV × MV)}, KD mg S ι H kvs ps → KD mg S ι H (dropK kvs k) (dropD ps k)
  | [], ps, r => by have : ps = [] := List.length_eq_zero_iff.mp r.1.symm; subst this; exact KD.nil
  | kv :: kvs, ps, r => by
    obtain ⟨p, ps', rfl, a, b, r'⟩ := r.inv
    have e : (kyM p.1 = some (.inl k)) ↔ kv.1 = k := by
      rw [a, kyM_kM]
      exact ⟨fun e => Sum.inl.inj (Option.some.inj e), fun e => by rw [e]⟩
    unfold dropK dropD
    rw [List.filter_cons, List.filter_cons]
    by_cases hk : kv.1 = k
    · rw [if_neg (by simp [hk]), if_neg (by simp [e.mpr hk])]
      exact KD.drop k r'
    · rw [if_pos (by simp [hk]), if_pos (by simp [mt e.mp hk])]
      exact KD.cons a b (KD.drop k r')
end
section
variable {X : Cx} {B : Base} {W : WX} {o i : Expr} {fd fk : EF} {k : Nat} {apos cpos : Pos}
theorem refAt_tgt {lo : Lo} {t c : MV} {st : Sto} (h : refAt st t = some c) : targetOf t .fz lo st = some c := h
end
end FW
namespace FW
open PySem L2 PySem.Spec PyProof.Rows
def gLNil (neg : Bool) : G2
  | _, .lst xs, .lst [] => some (.bl (if neg then !xs.isEmpty else xs.isEmpty), false)
  | _, _, _ => none
abbrev rLNil (neg : Bool) : R2 := fun x y H Q => ∃ a b xs, x = .ref a ∧ y = .ref b ∧ H a = some (.lst xs) ∧ H b = some (.lst []) ∧ Q (.bl (if neg then !xs.isEmpty else xs.isEmpty)) H
section
variable {X : Cx}
theorem op_lnil (neg : Bool) (hu : X.A.units < cLine) : OpR X (compareOp (if neg then .NotEq else .Eq)) (rLNil neg) := by
  intro pins s σ H x y u v Q I rx ry ⟨a, b, xs, ex, ey, ra, rb, q⟩
  subst ex ey
  cases (show u = Value.ref a from rx)
  cases (show v = Value.ref b from ry)
  obtain ⟨its, r1, p1, _⟩ := I.list (a := a) (xs := xs) (.of ra)
  obtain ⟨its2, r2, p2, _⟩ := I.list (a := b) (xs := []) (.of rb)
  cases r2
  cases r1 with
  | nil =>
    have hz : (([] : List Value).toArray).size = (([] : List Value).toArray).size := rfl
    cases neg with
    | false => exact SeqAt.RcAt.lists (e := fun _ => true) p1.isList p2.isList hz hu (fun j h1 => absurd h1 (by simp)) _ _ _ _ ⟨.bl _, H, I, rfl, q⟩
    | true => exact SeqAt.RcNeAt.lists (e := fun _ => true) p1.isList p2.isList hz hu (fun j h1 => absurd h1 (by simp)) _ _ _ _ ⟨.bl _, H, I, rfl, q⟩
  | cons h t =>
    cases neg with
    | false => exact SeqAt.RcAt.lists_lengths p1.isList p2.isList (by simp) hu _ _ _ _ ⟨.bl _, H, I, rfl, q⟩
    | true => exact SeqAt.RcNeAt.lists_lengths p1.isList p2.isList (by simp) hu _ _ _ _ ⟨.bl _, H, I, rfl, q⟩
theorem ok_lnil (neg : Bool) : Op2 X (rLNil neg) (gLNil neg) := by
  intro S ι H st x y a b z Q r va vb e w
  unfold gLNil at e
  split at e
  · rename_i xs
    cases e
    obtain ⟨p, vs, rfl, e1, d1⟩ := va
    obtain ⟨q, ws, rfl, e2, d2⟩ := vb
    have := d2.inv_nil
    subst this
    refine ⟨p, q, vs, rfl, rfl, e1, e2, ?_⟩
    have : vs.isEmpty = xs.isEmpty := by
      have := d1.1
      cases vs <;> cases xs <;> first | rfl | (simp at this)
    rw [this]
    exact w _ (.bl _)
  · cases e
end
section
variable {X : Cx} {B : Base} {W : WX} {a b : Expr} {fa fb : EF} {pos : Pos} {k : Nat}
theorem se_eqNil (hr : RoomG k X.A) (ha : SE X B W a fa) (hb : SE X B W b fb) (hm : behindInMarks .Eq b = false := by first | exact nomark _ | rfl) : SE X B W (.Compare a [.Eq] [b] pos) (mOp (gLNil false) fa fb) := se_cmp (op_lnil false (by have := hr.r.un; omega)) (ok_lnil false) ha hb hm
theorem st_eqNil (hr : RoomG k X.A) (ha : SE X B W a fa) (hb : SE X B W b fb) (hm : behindInMarks .Eq b = false := by first | exact nomark _ | rfl) : STe X B W (.Compare a [.Eq] [b] pos) (mTv (mOp (gLNil false) fa fb)) := st_cmp (op_lnil false (by have := hr.r.un; omega)) (ok_lnil false) ha hb hm
theorem st_neNil (hr : RoomG k X.A) (ha : SE X B W a fa) (hb : SE X B W b fb) (hm : behindInMarks .NotEq b = false := by first | exact nomark _ | rfl) : STe X B W (.Compare a [.NotEq] [b] pos) (mTv (mOp (gLNil true) fa fb)) := st_cmp (op_lnil true (by have := hr.r.un; omega)) (ok_lnil true) ha hb hm
end
def mLPop (fd : EF) : EF := fun lo st => fd lo st >>= fun (t, kt, st1) => match refAt st1 t, kt with
  | some (.lst xs), .fz => (match xs[xs.length - 1]? with
    | some m => .ok (m, .fz, putRef st1 (.lst xs.dropLast) t)
    | none => .bad)
  | _, _ => .bad
section
variable {X : Cx} {B : Base} {W : WX} {o : Expr} {fd : EF} {apos cpos : Pos}
theorem AllD.dropLast {mg : Wd} {S : Addr → Prop} {ι : List Addr} {H : Hp} {vs : List V} {ms : List MV} (d : AllD mg S ι H vs ms) : AllD mg S ι H vs.dropLast ms.dropLast := by
  rw [List.dropLast_eq_take, List.dropLast_eq_take, d.1]
  exact d.take _
theorem se_lpop (ho : SE X B W o fd) (hbase : attributeBase o "pop" X.env (eval o X.env) = eval o X.env := by rfl) (hline : (apos.endLine == cpos.line) = true := by rfl) : SE X B W (.Call (.Attribute o "pop" apos) [] [] cpos) (mLPop fd) := by
  refine (pe_bm0 PySem.F.plainAttrs_list PySem.F.slot_list_pop PySem.F.type_list_pop mt_pop ho hbase hline).fw fun σ H Q ⟨S, ι, lo, st, fm, pp⟩ => ?_
  refine tE.use fm (Post.bind pp) fun t kt st1 S1 ι1 H1 x f1 k1 r1 p1 => ?_
  dsimp only at p1
  split at p1
  · rename_i xs e0
    split at p1
    · rename_i m hm
      have T1 : Tgt S1 ι1 lo σ x t .fz := tgt_of r1 (refAt_tgt (lo := lo) e0)
      obtain ⟨a, rfl, oo, ea, vs, rfl, d⟩ := T1.sh f1 (refAt_tgt (lo := lo) e0)
      obtain ⟨v, hv, dv⟩ := d.get hm
      obtain ⟨f5, k5⟩ := Tgt.put (c' := .lst xs.dropLast) f1 T1 ⟨vs.dropLast, rfl, d.dropLast⟩ (fun _ _ z => by cases z) (fun ob u q => by rw [ea] at q; cases q)
      refine ⟨.inl ⟨rfl, vs, .of ea⟩, a, vs, v, rfl, rfl, ea, by rw [d.1]; exact hv, p1 S1 ι1 _ v f5 (k1.trans k5) (dv.mono k5)⟩
    · exact p1.elim
  · exact p1.elim
end
end FW
namespace FW
open PySem L2 PySem.Spec PyProof.Rows
end FW
namespace FW
open PySem L2 PySem.Spec PyProof.Rows
end FW
namespace FW
open PySem L2 PySem.Spec PyProof.Rows
end FW
namespace FW
open PySem L2 PySem.Spec PyProof.Rows
end FW
namespace FW
open PySem L2 PySem.Spec PyProof.Rows
end FW
namespace FW
open PySem L2 PySem.Spec PyProof.Rows
end FW
namespace FW
open PySem L2 PySem.Spec PyProof.Rows
def rLenI (X : Cx) (C : Addr) (FM : FF) : List V → Hp → VK → Prop := fun xs H Q => ∃ (p dx : Addr) (fs : List (Str × V)), xs = [.ref p] ∧ H p = some (.ins C dx fs) ∧ ∃ E : XK, (∀ cls d H', ¬ E cls d H') ∧ spM X.wd 1 FM [.ref p] H (fun v H' => ∃ n : Int, v = .int n ∧ 0 ≤ n ∧ n < 2 ^ 62 ∧ Q (.int n) H') E
section
variable {X : Cx} {B : Base} {W : WX} {e : Expr} {fa : EF} {k : Nat} {C f : Addr} {fd : FuncData} {ps : List Str} {FM : FF} {c : Str} {pos p : Pos}
theorem call_lenI (hm : Meth X.K C "__len__" f) (F : FnG X.prog X.w X.K X.mg X.base k f fd ps (spM X.wd 1 FM)) (hr : RoomG (k + 1) X.A) (hb : Binds X.K fd ps []) : CallR X (.builtin "len") (rLenI X C FM) := by
  intro pins s σ H xs us Q I r h
  obtain ⟨q, dx, fs, rfl, ea, E, hE, sp⟩ := h
  obtain ⟨u, rfl, rx⟩ := r.one
  obtain rfl : u = .ref q := rx
  obtain ⟨mA, J, _⟩ := ins_get I.hok ea
  obtain ⟨od, J, _⟩ := J.look
  obtain ⟨m, hF⟩ := I.fr
  refine PySem.W.len_K hF I.ok.mod.kin J hm.at_ hm.fn ?_
  refine wpAny_mono (run_in1 (W := W0) (us := [.ref q]) (vs := [.ref q]) F hr hb (fun cls d H' z => (hE cls d H' z).elim) takes0 I (.cons rfl .nil) sp) (fun w s' z => ?_) fun _ _ e => e
  obtain ⟨v', H', I', rv, n, ev, h0, h1, qr⟩ := z
  subst ev
  obtain ⟨t, rfl⟩ := rv
  exact ⟨⟨h0, by omega⟩, .int n, H', I'.tok _, ⟨_, rfl⟩, qr⟩
def mLenI (c : Str) (FM : FF) (fa : EF) : EF := fun lo st => fa lo st >>= fun (a, ka, st1) => if isPk ka = false ∧ insOf c "__len__" (vw st1 a) = true then noExc (callF 1 FM [] [(a, false)] lo st1) >>= fun (r, _, st2) => (match r with
  | .int n => if 0 ≤ n ∧ n < 2 ^ 62 then .ok (.int n, .fz, st2) else .bad
  | _ => .bad) else .bad
theorem se_lenI (ha : SE X B W e fa) (hm : Meth X.K C "__len__" f) (hc : X.mg c = some (.ref C)) (F : FnG X.prog X.w X.K X.mg X.base k f fd ps (spM X.wd 1 FM)) (hr : RoomG (k + 1) X.A) (hb : Binds X.K fd ps []) (hg : Gl X "len") (hmg : X.mg "len" = none)
    (hv : bootBuiltins "len" = some (.builtin "len") := by rfl) (he : starEach [e] X.env = (false, eval e X.env) :: starEach [] X.env := by rfl) (hpl : (backTo pos (starEach [] X.env)).any (·.1) = false := by rfl) : SE X B W (.Call (.Name "len" p) [e] [] pos) (mLenI c FM fa) := by
  refine (pe_callB (call_lenI hm F hr hb) hg hmg hv (pa_cons ha pa_nil he) (he := he) (hpl := hpl)).fw fun σ H Q ⟨S, ι, lo, st, fm, pp⟩ => ?_
  refine tE.use fm (Post.bind pp) fun t kt st1 S1 ι1 H1 x f1 k1 r1 p1 => ?_
  obtain ⟨S1', f1', k1', h1⟩ := r1.hand f1
  dsimp only at p1
  split at p1
  case isFalse => exact p1.elim
  rename_i hh
  obtain ⟨hk, hi⟩ := hh
  rw [hk] at h1
  have vr := Hand.vr (b := false) f1' h1
  obtain ⟨fs, ev, hl⟩ := insOf_ok hi
  rw [ev] at vr
  obtain ⟨q, C', dx, ws, rfl, g1, hmc, hn, _⟩ := vr
  cases (show some (Value.ref C) = some (Value.ref C') from hc.symm.trans hmc)
  have p3 : Post X.wd B W0 S1' ι1 H1 _ _ := Post.noExc (Post.bind (p1.mono (k1.trans k1') fun _ z => z))
  unfold callF at p3
  simp only [d_allFz1, d_allFz0, Option.map_some, List.append_nil] at p3
  rw [if_pos (show [t].length = 1 from rfl)] at p3
  refine ⟨q, dx, ws, rfl, g1, _, ?_, wants_callee f1' (AllD.cons h1 .nil) rfl .refl (p3.imp fun ⟨rm, rk, rst⟩ z S' ι' H' v f kk rv => ?_)⟩
  · rintro cls d H' ⟨_, _, _, _, _, _, _, _, z⟩
    exact z
  · obtain ⟨S3, f3, k3, h3⟩ := rv.hand f
    have v3 := h3.vr f3
    cases rm with
    | int n =>
      dsimp only at z
      split at z
      case isFalse => exact z.elim
      rename_i hb
      have ev3 : v = .int n := v3
      exact ⟨n, ev3, hb.1, hb.2, z S3 ι' H' (.int n) f3 (k1.trans (k1'.trans (kk.trans k3))) (.int _)⟩
    | _ => exact z.elim
end
theorem lenI_ok {c : Str} {FM : FF} {fa : EF} {lo : Lo} {st st1 st2 : Sto} {a : MV} {ka : Kd} {n : Int} (h1 : fa lo st = .ok (a, ka, st1)) (k1 : isPk ka = false) (hi : insOf c "__len__" (vw st1 a) = true) (hF : FM [a] st1 = .ok (.int n, false, st2)) (h0 : 0 ≤ n) (h2 : n < 2 ^ 62) : mLenI c FM fa lo st = .ok (.int n, .fz, st2) := by
  unfold mLenI
  rw [h1]
  simp only [Res.ok_bind]
  rw [if_pos ⟨k1, hi⟩]
  unfold callF
  simp only [d_allFz1, d_allFz0, Option.map_some, List.append_nil]
  rw [if_pos (show [a].length = 1 from rfl), callR_ok _ _ hF]
  show (if 0 ≤ n ∧ n < 2 ^ 62 then _ else _) = _
  rw [if_pos ⟨h0, h2⟩]
def gPutF (fx : Str) (oi : Str → Bool) (fo : EF) : GF := fun m lo st => fo lo st >>= fun (t, k, st1) => match t, k with
  | .ref n, .fz => (match st1[n]? with
    | some (.ins c fs) => if oi c = true ∧ fs.length < 1000 then .ok (lo, st1.set n (.ins c (putM fx m fs))) else .bad
    | _ => .bad)
  | _, _ => .bad
def gPutIx (fo fi : EF) : GF := fun m lo st => fo lo st >>= fun (t, k, st1) => fi lo st1 >>= fun (j, _, st2) => match t, k, j with
  | .ref n, .fz, .int j => (match st2[n]? with
    | some (.lst xs) => (match ixN xs.length j with
      | some i => .ok (lo, st2.set n (.lst (xs.set i m)))
      | none => .bad)
    | _ => .bad)
  | _, _, _ => .bad
section
variable {X : Cx} {B : Base} {W : WX} {o i : Expr} {fo fi : EF} {vs : List Nat}
def gAttr (K : PySem.W.Frag) (to : TE) (fx : Str) : TG := fun v σ H Q => to σ H fun x H1 => ∃ a C dx fs, x = .ref a ∧ H1 a = some (.ins C dx fs) ∧ L2.Cls K C ∧ NoAttr K C fx ∧ fs.length < 1000 ∧ Q σ (upd H1 a (.ins C dx (putF fx v fs)))
theorem pg_attr {to : TE} {fx : Str} {p' : Pos} (ho : PE X o to) : PG X (.Attribute o fx p') (gAttr X.K to fx) := by
  refine ⟨fun pins s σ H v u Q I r h => ?_⟩
  rw [assign_Attribute]
  refine wpAny_bind (wpAny_holding (thn (ho.run pins s σ H _ I h) fun ov s1 ⟨x, H1, I1, r1, a, C, dx, fs, ex, ea, c, n, l, q1⟩ => ?_))
  subst ex
  obtain rfl : ov = Value.ref a := r1
  refine wpAny_bind (wpAny_standAt (wpAny_bind (wpAny_holding (setattr_ok I1 ea c n l r fun s3 I3 => ?_))))
  exact wpAny_release ⟨σ, _, I3, q1⟩
theorem sg_putF {fx : Str} {oi : Str → Bool} {p' : Pos} (ho : SE X B W o fo) (hI : ∀ n C, oi n = true → X.mg n = some (.ref C) → L2.Cls X.K C ∧ NoAttr X.K C fx) : SG X B W vs (.Attribute o fx p') (gPutF fx oi fo) := by
  refine (pg_attr ho).fw fun v σ H Q ⟨S, ι, lo, st, m, fm, dd, p⟩ => ?_
  refine tE.use fm (Post.bind p) fun t kt st3 S3 ι3 H3 ov f3 k3 r3 p3 => ?_
  dsimp only at p3
  split at p3
  case h_2 => exact p3.elim
  split at p3
  case h_2 => exact p3.elim
  rename_i n _ c fs et
  split at p3
  case isFalse => exact p3.elim
  rename_i hh
  have et' : targetOf (.ref n) .fz lo st3 = some (.ins c fs) := et
  have T0 : Tgt S3 ι3 lo σ ov (.ref n) .fz := RV.tgt f3 r3 et'
  obtain ⟨a, rfl, oo, e1, C, dx, ws, rfl, hmc, hn, hi⟩ := T0.sh f3 et'
  obtain ⟨cl, na⟩ := hI c C hh.1 hmc
  obtain ⟨n1, n2⟩ := putM_names (f := fx) (dd.mono k3) hn hi
  obtain ⟨f5, k5⟩ := Tgt.put (c' := .ins c (putM fx m fs)) (o := .ins C dx (putF fx v ws)) f3 T0 ⟨C, dx, _, rfl, hmc, n1, n2⟩ (fun _ _ _ => ⟨c, fs, et'⟩) (fun ob u q => by rw [e1] at q; cases q)
  have hlen : ws.length = fs.length := by have := congrArg List.length hn; simpa using this
  exact ⟨a, C, dx, ws, rfl, e1, cl, na, by rw [hlen]; exact hh.2, p3 S3 ι3 σ _ f5 (k3.trans k5) .refl .refl⟩
theorem sg_putIx {p' : Pos} (ho : SE X B W o fo) (hi : SE X B W i fi)
    (ha : ∀ v, assign (.Subscript o i p') X.env v = (do
      let ov ← holding [v] (eval o X.env)
      let iv ← holding [v, ov] (eval i X.env)
      standAt p'
      holding [v, ov, iv] (setItem ov iv v)
      release [v, ov, iv] []) := by intro _; rfl) : SG X B W vs (.Subscript o i p') (gPutIx fo fi) := by
  refine (pg_sub ho hi set_list ha).fw fun v σ H Q ⟨S, ι, lo, st, m, fm, dd, p⟩ => ?_
  refine tE.use fm (Post.bind p) fun t kt st3 S3 ι3 H3 ov f3 k3 r3 p3 => ?_
  have r3' := r3
  obtain ⟨S3', f3', k3', h3⟩ := r3.hand f3
  refine tE.use f3' (Post.bind (p3.mono (k3.trans k3') fun _ z => z)) fun j kj st4 S4 ι4 H4 iv f4 k4 r4 p4 => ?_
  dsimp only at p4
  split at p4
  case h_2 => exact p4.elim
  rename_i n jj
  split at p4
  case h_2 => exact p4.elim
  rename_i xs et
  split at p4
  case h_2 => exact p4.elim
  rename_i ii hn
  have et' : targetOf (.ref n) .fz lo st4 = some (.lst xs) := et
  have T0 : Tgt S3 ι3 lo σ ov (.ref n) .fz := tgt_of r3' et'
  have T4 := (T0.mono k3').mono (H := H3) k4
  obtain ⟨a, rfl, oo, e1, vs', rfl, dv⟩ := T4.sh f4 et'
  have d4 := ((dd.mono k3).mono k3').mono k4
  obtain ⟨f5, k5⟩ := Tgt.put (c' := .lst (xs.set ii m)) f4 T4 ⟨vs'.set ii v, rfl, dv.set d4 ii⟩ (fun _ _ z => by cases z) (fun ob u q => by rw [e1] at q; cases q)
  exact ⟨a, vs', jj, ii, rfl, rv_int f4 r4, e1, by rw [dv.1]; exact hn, p4 S4 ι4 σ _ f5 (k3.trans (k3'.trans (k4.trans k5))) .refl .refl⟩
end
def gSlR : MV → Option Int → Option Int → Option (MV × Bool)
  | .scr ns, lo, hi => some (.lst (cutM (ns.map MV.int) lo hi), true)
  | _, _, _ => none
def mSlR (fa : EF) (fl fh : OF) : EF := fun lo st => fa lo st >>= fun (a, _, st1) => fl lo st1 >>= fun (l, st2) => fh lo st2 >>= fun (h, st3) => giveOut (gSlR (vw st3 a) l h) st3
section
variable {X : Cx} {B : Base} {W : WX} {a : Expr} {fa : EF} {l h : Option Expr} {fl fh : OF} {pos : Pos}
theorem allD_ints {mg : Wd} {S : Addr → Prop} {ι : List Addr} {H : Hp} : ∀ ns : List Int, AllD mg S ι H (ns.map V.int) (ns.map MV.int)
  | [] => AllD.nil
  | n :: ns => AllD.cons (.int n) (allD_ints ns)
theorem se_sliceR {p2 : Pos} (ha : SE X B W a fa) (hl : SO X B W l fl) (hh : SO X B W h fh) : SE X B W (.Subscript a (.Slice l h none p2) pos) (mSlR fa fl fh) := by
  refine (pe_slice sl_list ha hl hh).fw fun σ H Q ⟨S, ι, lo, st, fm, p⟩ => ?_
  refine tE.use fm (Post.bind p) fun a ka st1 S1 ι1 H1 x f1 k1 r1 p1 => ?_
  obtain ⟨S1', f1', k1', h1⟩ := r1.hand f1
  refine tOf.use f1' (Post.bind (p1.mono (k1.trans k1') fun _ z => z)) fun l st2 S2 ι2 H2 f2 k2 p2 => ?_
  refine tOf.use f2 (Post.bind (p2.mono k2 fun _ z => z)) fun u st3 S3 ι3 H3 f3 k3 p3 => ?_
  have v1 := (h1.mono (k2.trans k3)).vr f3
  obtain ⟨z, e, w⟩ := give_of f3 (((k1.trans k1').trans k2).trans k3) p3
  unfold gSlR at e
  split at e
  · rename_i ns q
    rw [q] at v1
    obtain ⟨p, rfl, sq⟩ := v1
    cases e
    refine ⟨p, _, rfl, sq, fun r hr => w r _ hr ⟨_, rfl, ?_⟩⟩
    unfold cutV cutM
    rw [List.length_map, List.length_map]
    exact ((allD_ints ns).drop _).take _
  · cases e
end
end FW
namespace FW
open PySem L2 PySem.Spec PyProof.Rows PySem.SeqAt
def insIn (oth : Str → Bool) : MV → Bool
  | .ins c _ => oth c
  | _ => false
def KnX (K : PySem.W.Frag) (C : Addr) (H : Hp) (y : V) : Prop := (KnV C H y ∨ DecV H y) ∨ ∃ (p C' dx : Addr) (fs : List (Str × V)), y = .ref p ∧ H p = some (.ins C' dx fs) ∧ PySem.W.notFirst K C (.ref C') = true
theorem knX_type {X : Cx} {pins : List (Addr × Obj)} {σ : L2.St} {H : Hp} {s : Shared} {C : Addr} {y : V} {u : Value} (I : Inv X pins σ H s) (ry : RelV y u) (h : KnX X.K C H y) : ∃ tb, PySem.W.Looks (model X.prog X.w) s.heap (typeOf u) tb ∧ PySem.W.notFirst X.K C tb = true := by
  rcases h with h | ⟨p, C', dx, fs, rfl, h, hn⟩
  · exact dec_type I ry h
  · cases ry
    obtain ⟨mA, J, _⟩ := ins_get I.hok h
    obtain ⟨od, J, _⟩ := J.look
    exact ⟨.ref C', J.type, hn⟩
theorem insX_of {mg : Wd} {S : Addr → Prop} {ι : List Addr} {H : Hp} {C : Addr} {y : V} {m : MV} {oth : Str → Bool} (hoth : ∀ c', oth c' = true → ∀ C', mg.mg c' = some (.ref C') → PySem.W.notFirst mg.K C (.ref C') = true) (vr : VR mg S ι H y m) (h : insIn oth m = true) :
    ∃ (p C' dx : Addr) (fs : List (Str × V)), y = .ref p ∧ H p = some (.ins C' dx fs) ∧ PySem.W.notFirst mg.K C (.ref C') = true := by
  cases m with
  | ins c fs =>
    obtain ⟨q, C', dx, ws, rfl, g1, hmc, hn, _⟩ := vr
    exact ⟨q, C', dx, ws, rfl, g1, hoth c h C' hmc⟩
  | _ => cases h
def mEqX (neg : Bool) (c : Str) (oth : Str → Bool) (F : FF) (fa fb : EF) : EF := fun lo st => fa lo st >>= fun (a, ka, st1) => fb lo st1 >>= fun (b, kb, st2) =>
  if isPk ka = false ∧ isPk kb = false then
    (if insOf c "__eq__" (vw st2 a) = true ∧ (knM c (vw st2 b) || decM (vw st2 b) || insIn oth (vw st2 b)) = true then (callF 2 F [] [(a, false), (b, false)] lo st2 >>= fun (r, _, st3) => match r with
      | .bl z => .ok (.bl (if neg then !z else z), .fz, st3)
      | _ => .bad)
    else if neg = false ∧ decM (vw st2 a) = true ∧ insOf c "__eq__" (vw st2 b) = true then (callF 2 F [] [(b, false), (a, false)] lo st2 >>= fun (r, _, st3) => match r with
      | .bl z => .ok (.bl z, .fz, st3)
      | _ => .bad)
    else .bad) else .bad
section
variable {X : Cx} {B : Base} {W : WX} {a b : Expr} {fa fb : EF} {k : Nat} {C f : Addr} {fd : FuncData} {ps : List Str} {FM : FF} {c : Str} {oth : Str → Bool}
theorem pc_eqX (neg : Bool) (ha : SE X B W a fa) (hb' : SE X B W b fb) (hm : EqOwn X.K C f) (hbk : EqBack X.K C) (hoth : ∀ c', oth c' = true → ∀ C', X.mg c' = some (.ref C') → PySem.W.notFirst X.K C (.ref C') = true) (hc : X.mg c = some (.ref C)) (F : FnG X.prog X.w X.K X.mg X.base k f fd ps (spM X.wd 2 FM)) (hr : RoomG (k + 1) X.A) (tk : Takes X W) (hb : Binds X.K fd ps []) :
    PC X (if neg = true then .NotEq else .Eq) a b (tE X.wd B W (mEqX neg c oth FM fa fb)) := by
  refine ⟨fun pins s σ H Q I ⟨S, ι, lo, st, fm, pp⟩ => ?_⟩
  have run := ha.run pins s σ H (fun x H1 => tE X.wd B W fb σ H1 (fun y H2 =>
    (∃ p dx fs, x = .ref p ∧ H2 p = some (.ins C dx fs) ∧ (KnX X.K C H2 y) ∧ ∃ E : XK, (∀ cls d H', E cls d H' → W cls d σ H') ∧ spM X.wd 2 FM [x, y] H2 (fun v H3 => ∃ r, v = .bl r ∧ Q (.bl (if neg then !r else r)) H3) E) ∨
    (neg = false ∧ DecV H2 x ∧ ∃ p dx fs, y = .ref p ∧ H2 p = some (.ins C dx fs) ∧ ∃ E : XK, (∀ cls d H', E cls d H' → W cls d σ H') ∧ spM X.wd 2 FM [y, x] H2 (fun v H3 => ∃ r, v = .bl r ∧ Q (.bl r) H3) E))) I ?_
  · refine thn run fun v s1 ⟨x, H1, I1, rx, q1⟩ => ?_
    refine thn (hb'.run pins s1 σ H1 _ I1 q1) fun u s2 ⟨y, H2, I2, ry, h⟩ => ?_
    rcases h with ⟨p, dx, fs, ex, ea, kv, E, hE, q⟩ | ⟨hn0, dv, p, dx, fs, ey, ea, E, hE, q⟩
    · subst ex
      cases (show v = Value.ref p from rx)
      obtain ⟨mA, J, _⟩ := ins_get I2.hok ea
      obtain ⟨od, J, _⟩ := J.look
      obtain ⟨m, hF⟩ := I2.fr
      obtain ⟨tb, ht, hn⟩ := knX_type I2 ry kv
      cases neg with
      | false =>
        show wpAny (model X.prog X.w) X.A (richCompare .Eq (.ref p) u) (EP X pins σ Q) X.xe s2
        refine PySem.W.cmp_K (op := .Eq) (tb := tb) hr.r.units0 hF I2.ok.mod.kin J ht hn hm.m.at_ hm.m.fn ?_
        refine wpAny_mono (run_fnG (us := [.ref p, u]) (vs := [.ref p, y]) (dvs := []) F ⟨hr.r.mono (Nat.le_succ k), hr.g⟩ hb .nil hE tk I2 (.cons rfl (.cons ry .nil)) (by rw [List.append_nil]; exact q)) (fun w s' z => ?_) fun _ _ e => e
        obtain ⟨v', H', I', rv, r, ev, qr⟩ := z
        subst ev
        cases rv
        exact ⟨.bl r, H', I', rfl, qr⟩
      | true =>
        show wpAny (model X.prog X.w) X.A (compareOp .NotEq (.ref p) u) (EP X pins σ Q) X.xe s2
        have hu : X.A.units + 1 < cLine := by have := hr.r.units; omega
        unfold compareOp
        refine cmp_neK (tb := tb) hu hF I2.ok.mod.kin J ht hn hm.ne hm.ob hm.m.at_ hm.m.fn ?_
        refine wpAny_mono (run_in1 (us := [.ref p, u]) (vs := [.ref p, y]) F hr hb hE tk I2 (.cons rfl (.cons ry .nil)) q) (fun w s' z => ?_) fun _ _ e => e
        obtain ⟨v', H', I', rv, r, ev, qr⟩ := z
        subst ev
        cases rv
        exact ⟨r, rfl, .bl (!r), H', I', rfl, qr⟩
    · subst hn0
      subst ey
      cases (show u = Value.ref p from ry)
      obtain ⟨mA, J0, _⟩ := ins_get I2.hok ea
      obtain ⟨m, hF⟩ := I2.fr
      obtain ⟨T, hT, hsub, hdec⟩ := dec_ok (A := X.A) (E := X.xe) I2 hbk J0 rx dv
      obtain ⟨od, J, _⟩ := J0.look
      show wpAny (model X.prog X.w) X.A (richCompare .Eq v (.ref p)) (EP X pins σ Q) X.xe s2
      refine cmp_backK hr.r.units0 hF I2.ok.mod.kin J hT hsub hdec hm.m.at_ hm.m.fn ?_
      refine wpAny_mono (run_fnG (us := [.ref p, v]) (vs := [.ref p, x]) (dvs := []) F ⟨hr.r.mono (Nat.le_succ k), hr.g⟩ hb .nil hE tk I2 (.cons rfl (.cons rx .nil)) (by rw [List.append_nil]; exact q)) (fun w s' z => ?_) fun _ _ e => e
      obtain ⟨v', H', I', rv, r, ev, qr⟩ := z
      subst ev
      cases rv
      exact ⟨.bl r, H', I', rfl, qr⟩
  · refine tE.use fm (Post.bind pp) fun t kt st1 S1 ι1 H1 x f1 k1 r1 p1 => ?_
    obtain ⟨S1', f1', k1', h1⟩ := r1.hand f1
    dsimp only at p1
    refine tE.use f1' (Post.bind (p1.mono (k1.trans k1') fun _ z => z)) fun t2 kt2 st2 S2 ι2 H2 y f2 k2 r2 p2 => ?_
    obtain ⟨S2', f2', k2', h2⟩ := r2.hand f2
    dsimp only at p2
    split at p2
    case isFalse => exact p2.elim
    rename_i hh
    obtain ⟨hk, hk2⟩ := hh
    rw [hk] at h1
    rw [hk2] at h2
    have h1' : Dt X.wd S2' ι2 H2 x t := Dt.mono (k2.trans k2') h1
    have vr := Hand.vr (b := false) f2' h1'
    have vr2 := Hand.vr (b := false) f2' h2
    have fin : ∀ {rm : MV} {rk : Kd} {rst : Sto} {S' : Addr → Prop} {ι' : List Addr} {H' : Hp} {v : V} (g : Bool → Bool) (f : Fm X.wd B S' ι' H' lo σ rst) (kk : Keep S2' ι2 H2 S' ι' H') (rv : RV X.wd B S' ι' H' lo σ v rm rk)
      (z : Post X.wd B W S2' ι2 H2 (fun r => ∀ S' ι' H' v, Fm X.wd B S' ι' H' lo σ r.2.2 → Keep S ι H S' ι' H' → RV X.wd B S' ι' H' lo σ v r.1 r.2.1 → Q v H') (match rm with | .bl z => Res.ok (MV.bl (g z), Kd.fz, rst) | _ => .bad)), ∃ r, v = .bl r ∧ Q (.bl (g r)) H' := by
      intro rm rk rst S' ι' H' v g f kk rv z
      obtain ⟨S3, f3, k3, h3⟩ := rv.hand f
      have v3 := h3.vr f3
      cases rm with
      | bl zb =>
        have ev3 : v = .bl zb := v3
        exact ⟨zb, ev3, z S3 ι' H' (.bl (g zb)) f3 ((k1.trans k1').trans ((k2.trans k2').trans (kk.trans k3))) (.bl _)⟩
      | _ => exact z.elim
    split at p2
    · rename_i hh
      obtain ⟨hi, hkn⟩ := hh
      obtain ⟨fs, ev, hl⟩ := insOf_ok hi
      rw [ev] at vr
      have kv : KnX X.K C H2 y := by
        rcases Bool.or_eq_true_iff.mp hkn with e | e
        · rcases Bool.or_eq_true_iff.mp e with e | e
          · exact .inl (.inl (knV_of (mg := X.wd) hc vr2 e))
          · exact .inl (.inr (decV_of vr2 e))
        · exact .inr (insX_of hoth vr2 e)
      obtain ⟨q, C', dx, ws, rfl, g1, hmc, hn, _⟩ := vr
      cases (show some (Value.ref C) = some (Value.ref C') from hc.symm.trans hmc)
      refine .inl ⟨q, dx, ws, rfl, g1, kv, ?_⟩
      have p3 := Post.bind (p2.mono (k2.trans k2') fun _ z => z)
      unfold callF at p3
      simp only [d_allFz1, d_allFz0, Option.map_some, List.append_nil] at p3
      rw [if_pos (show [t, t2].length = 2 from rfl)] at p3
      refine ⟨_, ?_, wants_callee f2' (AllD.cons h1' (AllD.cons h2 .nil)) rfl .refl (p3.imp fun r z S' ι' H' v f kk rv => fin (fun z => if neg then !z else z) f kk rv z)⟩
      rintro cls d H' ⟨_, _, _, _, _, _, _, _, z⟩
      exact z
    · split at p2
      case isFalse => exact p2.elim
      rename_i hh
      obtain ⟨hn0, hd, hi⟩ := hh
      obtain ⟨fs, ev, hl⟩ := insOf_ok hi
      have dv : DecV H2 x := decV_of vr hd
      rw [ev] at vr2
      obtain ⟨q, C', dx, ws, rfl, g1, hmc, hn, _⟩ := vr2
      cases (show some (Value.ref C) = some (Value.ref C') from hc.symm.trans hmc)
      refine .inr ⟨hn0, dv, q, dx, ws, rfl, g1, ?_⟩
      have p3 := Post.bind (p2.mono (k2.trans k2') fun _ z => z)
      unfold callF at p3
      simp only [d_allFz1, d_allFz0, Option.map_some, List.append_nil] at p3
      rw [if_pos (show [t2, t].length = 2 from rfl)] at p3
      refine ⟨_, ?_, wants_callee f2' (AllD.cons h2 (AllD.cons h1' .nil)) rfl .refl (p3.imp fun r z S' ι' H' v f kk rv => fin (fun z => z) f kk rv z)⟩
      rintro cls d H' ⟨_, _, _, _, _, _, _, _, z⟩
      exact z
end
def mAlt (f g : EF) : EF := fun lo st => match f lo st with
  | .bad => g lo st
  | r => r
section
variable {X : Cx} {B : Base} {W : WX} {a b : Expr} {f g : EF} {op : CmpOp} {pos : Pos}
theorem tE_alt {σ : L2.St} {H : Hp} {Q : VK} (h : tE X.wd B W (mAlt f g) σ H Q) : tE X.wd B W f σ H Q ∨ tE X.wd B W g σ H Q := by
  obtain ⟨S, ι, lo, st, fm, p⟩ := h
  unfold mAlt at p
  cases e : f lo st with
  | bad => rw [e] at p; exact .inr ⟨S, ι, lo, st, fm, p⟩
  | ok r => rw [e] at p; exact .inl ⟨S, ι, lo, st, fm, by rw [e]; exact p⟩
  | exc c fs lo1 st1 => rw [e] at p; exact .inl ⟨S, ι, lo, st, fm, by rw [e]; exact p⟩
theorem pc_alt (h : PC X op a b (tE X.wd B W f)) (h' : PC X op a b (tE X.wd B W g)) : PC X op a b (tE X.wd B W (mAlt f g)) :=
  ⟨fun pins s σ H Q I q => (tE_alt q).elim (h.run pins s σ H Q I) (h'.run pins s σ H Q I)⟩
theorem st_eqX (h : PC X (if (false : Bool) = true then .NotEq else .Eq) a b (tE X.wd B W f)) : STe X B W (.Compare a [.Eq] [b] pos) (mTv f) := st_of_pc h
theorem st_neX (h : PC X (if (true : Bool) = true then .NotEq else .Eq) a b (tE X.wd B W f)) : STe X B W (.Compare a [.NotEq] [b] pos) (mTv f) := st_of_pc h
end
section
variable {c : Str} {oth : Str → Bool} {F : FF} {fa fb : EF} {lo : Lo} {st st1 st2 st3 : Sto} {a b : MV} {ka kb : Kd} {neg r : Bool}
theorem eqX_l (h1 : fa lo st = .ok (a, ka, st1)) (k1 : isPk ka = false) (h2 : fb lo st1 = .ok (b, kb, st2)) (k2 : isPk kb = false) (hi : insOf c "__eq__" (vw st2 a) = true) (hk : (knM c (vw st2 b) || decM (vw st2 b) || insIn oth (vw st2 b)) = true) (hF : F [a, b] st2 = .ok (.bl r, false, st3)) :
    mEqX neg c oth F fa fb lo st = .ok (.bl (if neg then !r else r), .fz, st3) := by
  unfold mEqX
  rw [h1]
  simp only [Res.ok_bind]
  rw [h2]
  simp only [Res.ok_bind]
  rw [if_pos ⟨k1, k2⟩, if_pos ⟨hi, hk⟩]
  unfold callF
  simp only [d_allFz1, d_allFz0, Option.map_some, List.append_nil]
  rw [if_pos (show [a, b].length = 2 from rfl), callR_ok _ _ hF]
  rfl
theorem eqX_r (h1 : fa lo st = .ok (a, ka, st1)) (k1 : isPk ka = false) (h2 : fb lo st1 = .ok (b, kb, st2)) (k2 : isPk kb = false) (hd : decM (vw st2 a) = true) (hi : insOf c "__eq__" (vw st2 b) = true) (hF : F [b, a] st2 = .ok (.bl r, false, st3)) :
    mEqX false c oth F fa fb lo st = .ok (.bl r, .fz, st3) := by
  unfold mEqX
  rw [h1]
  simp only [Res.ok_bind]
  rw [h2]
  simp only [Res.ok_bind]
  have no : ¬ (insOf c "__eq__" (vw st2 a) = true ∧ (knM c (vw st2 b) || decM (vw st2 b) || insIn oth (vw st2 b)) = true) := fun z => by
    obtain ⟨fs, e, _⟩ := insOf_ok z.1
    rw [e] at hd
    cases hd
  rw [if_pos ⟨k1, k2⟩, if_neg no, if_pos ⟨trivial, hd, hi⟩]
  unfold callF
  simp only [d_allFz1, d_allFz0, Option.map_some, List.append_nil]
  rw [if_pos (show [b, a].length = 2 from rfl), callR_ok _ _ hF]
  rfl
theorem eqX_no (h1 : fa lo st = .ok (a, ka, st1)) (h2 : fb lo st1 = .ok (b, kb, st2)) (hi : insOf c "__eq__" (vw st2 a) = false) (hd : decM (vw st2 a) = false) : mEqX neg c oth F fa fb lo st = .bad := by
  unfold mEqX
  rw [h1]
  simp only [Res.ok_bind]
  rw [h2]
  simp only [Res.ok_bind]
  split
  · rw [if_neg (by rw [hi]; simp), if_neg (by rw [hd]; simp)]
  · rfl
theorem alt_l {f g : EF} {z} (h : f lo st = .ok z) : mAlt f g lo st = .ok z := by unfold mAlt; rw [h]
theorem alt_r {f g : EF} {z} (h : f lo st = .bad) (h2 : g lo st = z) : mAlt f g lo st = z := by unfold mAlt; rw [h]; exact h2
end
end FW
namespace FW
open PySem L2 PySem.Spec PyProof.Rows
structure FnN (P : Program) (w : World) (K : PySem.W.Frag) (mg : Str → Option Value) (base : Heap) (k : Nat) (f : Addr) (fd : FuncData) (ps : List Str) (sp : Sp) : Prop where
  len : ∀ vs H Q E, sp vs H Q E → vs.length = ps.length
  run : ∀ (A : Around) (outer : List Env) (s : Shared) (H : Hp) (args : Args) (us : List Value) (vs : List V) (Q : VK) (E : XK), RoomG k A → Env0 P w K mg base A outer s H → BindsTo s fd args (ps.zip us) → Vals vs us → sp vs H Q E →
    codeAny (model P w) A (.call (.ref f) args) (CR (L2N.CX P w) outer P w H s Q E) s
abbrev cxN (P : Program) (w : World) (K : PySem.W.Frag) (mg : Str → Option Value) (base : Heap) (N : List Str) (qual : Str) (scope : Scope) (f : Addr) (cd : Value) (A : Around) (outer : List Env) (s : Shared) (H : Hp) (E : XK) : Cx :=
  cxOf (L2N.CX P w) P w K mg base N qual scope f cd A outer s H E
section
variable {P : Program} {w : World} {K : PySem.W.Frag} {mg : Str → Option Value} {base : Heap}
theorem fnN_of {k : Nat} {f : Addr} {name qual : Str} {params : Arguments} {body : List Stmt} {scope : Scope} {dV kV doc pm cdv ct oc : Value} {an od : Option Addr}
    {osl : Array (Option Value)} {N ps : List Str} {sp : Sp} (look : K.lookup f = some ⟨oc, od, .func (PySem.W.fnOf name qual params body scope dV kV doc pm an cdv ct), osl⟩) (hcode : PySem.W.codeIn K cdv qual = true) (Sc : FnScope N ps scope)
    (hlen : ∀ vs H Q E, sp vs H Q E → vs.length = ps.length)
    (hbody : ∀ (A : Around) (outer : List Env) (s : Shared) (H : Hp) (vs : List V) (Q : VK) (E : XK), RoomG k (A.deeper (envOfC qual scope s.heap.objs.size f cdv)) → sp vs H Q E →
      ∃ t, PSs (cxN P w K mg base N qual scope f cdv A outer s H E) body t ∧ t { nx := fun _ H' => Q .non H', rt := Q } (start N vs) H) :
    FnN P w K mg base (k + 1) f (PySem.W.fnOf name qual params body scope dV kV doc pm an cdv ct) ps sp := by
  constructor
  · exact hlen
  intro A outer s H args us vs Q E room e0 bind rel want
  have many := hlen _ _ _ _ want
  have inK : K.In s.heap := e0.mod.kin.keeps fun b o e => (e0.bs b o e).1
  have noLim : s.heap.NoLimit := e0.mod.nolimit.keeps fun b o e => (e0.bs b o e).1
  have kinds : ∀ y ∈ ps.zip us, scope.names.lookup y.1 = some .local ∨ (scope.names.lookup y.1 = some .cell ∧ ((cellsFrom (s.heap.objs.size + 1) scope.names []).lookup y.1).isSome = true) := by
    rintro ⟨n, v⟩ hy
    have hp := Sc.par n (List.of_mem_zip hy).1
    exact hp.imp id fun q => ⟨q, PySem.W.cellsFrom_some _ _ _ (.inl q)⟩
  refine codeAny_call_function room.r.depth (inK _ _ look) rfl Sc.co Sc.gen rfl (PySem.W.codeRec_of inK hcode) (bind _ _ _ _ ?_)
  refine wpAny_newFunctionEnv_cells Sc.kind kinds fun env he s1 x => ?_
  cases he
  refine ⟨noLim.keeps x.toInCall.keep, codeAny_func ?_⟩
  have room' : RoomG k (A.deeper (envOfC qual scope s.heap.objs.size f cdv)) := ⟨room.r.deeper _, room.g⟩
  obtain ⟨t, ht, hq⟩ := hbody A outer s H vs Q E room' want
  have I := inv_start (CX := L2N.CX P w) (E := E) (K := K) (mg := mg) (base := base) (f := f) (cd := cdv) (qual := qual) Sc room.r.hd e0 many rel x
  have done : ∀ {σ' : L2.St} {H' : Hp} {v : V} {u : Value} {s' : Shared}, Inv (cxN P w K mg base N qual scope f cdv A outer s H E) [] σ' H' s' → RelV v u → Q v H' → CE outer P w H s Q u s' := by
    intro σ' H' v u s' J rv q
    exact ⟨v, H', J.os, J.bare, J.base, J.hok, rv, q⟩
  refine wpAny_mono (ht.run [] s1 (start N vs) H _ I hq) (fun fl s' hs => ?_) fun e s' hs => hs
  rcases fl with _ | _ | _ | u
  · obtain ⟨σ', H', J, q⟩ := hs
    exact done (v := V.non) (u := Value.none) J rfl q
  · obtain ⟨_, _, _, q⟩ := hs
    exact False.elim q
  · obtain ⟨_, _, _, q⟩ := hs
    exact False.elim q
  · obtain ⟨v, σ', H', J, rv, q⟩ := hs
    exact done J rv q
theorem spM_body {N ps : List Str} {g : SF} {vs : List V} {H : Hp} {Q : VK} {E : XK} {X : Cx} {body : List Stmt} (hX : X.wd = ⟨K, mg⟩) (hle : ps.length ≤ N.length) (want : spM ⟨K, mg⟩ ps.length (runF N.length g) vs H Q E)
    (hb : ∀ (B : Base), SSs X B (fun cls dd _ H' => E cls dd H') body g) : ∃ t, PSs X body t ∧ t { nx := fun _ H' => Q .non H', rt := Q } (start N vs) H := by
  obtain ⟨hvl, S, ι, st0, ms, r, d, p⟩ := want
  refine ⟨_, hb (b0 S ι H), S, ι, startM N.length ms, st0, by rw [hX]; exact fm_start r d (by rw [← d.1, hvl]; exact hle), ?_⟩
  rw [hX]
  unfold runF at p
  show Post (⟨K, mg⟩ : Wd) (b0 S ι H) _ S ι H _ _
  cases hg : g (startM N.length ms) st0 with
  | bad => rw [hg] at p; exact p
  | exc c fs lo st' =>
    rw [hg] at p
    intro S' ι' σ' H' cls dd fm kp xr
    exact p S' ι' H' cls dd fm.ext fm.rep xr
  | ok z =>
    rw [hg] at p
    obtain ⟨fl, lo', st'⟩ := z
    cases fl with
    | nx => exact fun S' ι' σ' H' fm kp => p S' ι' H' _ fm.ext fm.rep .non
    | bk => exact p.elim
    | ct => exact p.elim
    | rt m kd =>
      intro S' ι' σ' H' v fm kp rv
      refine p S' ι' H' v fm.ext fm.rep ?_
      cases kd with
      | fz => exact rv
      | fr => obtain ⟨a, e, h1, h2, h3, h4, _⟩ := rv; exact ⟨a, e, h1, h2, h3.1, h4⟩
      | pk i =>
        obtain ⟨a, e, h1, h2, h3⟩ := rv
        obtain ⟨a', e', q1, q2, q3, q4⟩ := fm.loc.own i m h1
        rw [h2] at e'; cases e'
        exact ⟨a, e, q1, q2, q3.1, q4⟩
theorem fnMN {k : Nat} {x qual : Str} {st : Stmt} {f : Addr} {fd : FuncData} {N ps : List Str} {g : SF} (F : Fun K x qual st f fd) (Sc : FnScope N ps (defScope st)) (hle : ps.length ≤ N.length)
    (hbody : ∀ (X : Cx) (B : Base) (W : WX) (cdv : Value) (A : Around) (outer : List Env) (s : Shared) (H : Hp) (E : XK), X = cxN P w K mg base N qual (defScope st) f cdv A outer s H E → RoomG k X.A → L2N.Takes X W →
      SSs (cxN P w K mg base N qual (defScope st) f cdv A outer s H E) B W (defBody st) g) :
    FnN P w K mg base (k + 1) f fd ps (spM ⟨K, mg⟩ ps.length (runF N.length g)) := by
  obtain ⟨oc, od, kV, doc, pm, an, cdv, ct, osl, rfl, lk, hcd⟩ := F.ex
  refine fnN_of lk hcd Sc (fun vs H Q E h => h.1) fun A outer s H vs Q E room want => ?_
  exact spM_body rfl hle want fun B => hbody _ B _ cdv A outer s H E rfl room (L2N.takes_of rfl rfl rfl rfl)
theorem fnMH {k : Nat} {x qual : Str} {st : Stmt} {f : Addr} {fd : FuncData} {N ps : List Str} {g : SF} (F : Fun K x qual st f fd) (Sc : FnScope N ps (defScope st)) (hle : ps.length ≤ N.length)
    (hbody : ∀ (X : Cx) (B : Base) (W : WX) (cdv : Value) (A : Around) (outer : List Env) (s : Shared) (H : Hp) (E : XK) (p : Addr × Obj), X = L2H.cxH (L2.CX P w) P w K mg base N qual (defScope st) f cdv A outer s H E p → L2H.RoomH k X.A → L2H.HotC X →
      SSs (L2H.cxH (L2.CX P w) P w K mg base N qual (defScope st) f cdv A outer s H E p) B W (defBody st) g) :
    L2H.FnH P w K mg base (L2.CX P w) (k + 1) f fd ps (spM ⟨K, mg⟩ ps.length (runF N.length g)) := by
  obtain ⟨oc, od, kV, doc, pm, an, cdv, ct, osl, rfl, lk, hcd⟩ := F.ex
  refine L2H.fn_ofH lk hcd Sc (fun vs H Q E h => h.1) fun A outer s H vs Q E p hot room want => ?_
  exact spM_body rfl hle want fun B => hbody _ B _ cdv A outer s H E p rfl room ⟨p, hot, List.mem_cons_self⟩
end
section
variable {X : Cx} {B : Base} {W : WX}
theorem run_fnN {k : Nat} {f : Addr} {fd : FuncData} {ps : List Str} {sp : Sp} {E : XK} {dvs : List V} {ds : List Value} {pins : List (Addr × Obj)} {σ : L2.St} {H : Hp} {s : Shared} {Q : VK} {us : List Value} {vs : List V}
    (F : FnN X.prog X.w X.K X.mg X.base k f fd ps sp) (hr : RoomG k X.A) (hb : Binds X.K fd ps ds) (hd : Vals dvs ds) (hx : ∀ cls d H', E cls d H' → W cls d σ H') (tk : L2N.Takes X W)
    (I : Inv X pins σ H s) (r : Vals vs us) (h : sp (vs ++ dvs) H Q E) : wpAny (model X.prog X.w) X.A (call (.ref f) us) (EP X pins σ Q) X.xe s := by
  have rr : Vals (vs ++ dvs) (us ++ ds) := r.append hd
  have ll : (us ++ ds).length = ps.length := by rw [← rr.length]; exact F.len _ _ _ _ h
  have go := F.run X.A X.stack s H ⟨us, []⟩ (us ++ ds) (vs ++ dvs) Q E hr I.env0 (hb s us I.kIn ll) rr h
  refine wpAny_call (codeAny_mono go fun res s' hq => ?_)
  match res, hq with
  | .error e, hq => exact tk e s' (L2N.XE.of_call I hx hq)
  | .ok (.ret u), hq => exact I.after hq
section
variable {o : Expr} {fo : EF} {apos pos : Pos} {k n : Nat} {C f : Addr} {fd : FuncData} {ps : List Str} {FM : FF} {c m : Str} {pl : Sem Bool}
theorem se_meth0_by (ho : SE X B W o fo) (cl : L2.Cls X.K C) (hm : Meth X.K C m f) (hc : X.mg c = some (.ref C))
    (hrun : ∀ (E : XK) (pins : List (Addr × Obj)) (σ : L2.St) (H : Hp) (s : Shared) (Q : VK) (us : List Value) (vs : List V), (∀ cls d H', E cls d H' → W cls d σ H') → Inv X pins σ H s → Vals vs us → spM X.wd n FM vs H Q E → wpAny (model X.prog X.w) X.A (call (.ref f) us) (EP X pins σ Q) X.xe s)
    (ht : eval (.Call (.Attribute o m apos) [] [] pos) X.env = (do
      let ov ← eval o X.env
      standAt apos.atName
      let (f, first) ← holding [ov] (getMethod ov m pl)
      callWith pos f first (backTo pos (starEach [] X.env)) (backToKw pos (keywordEach [] X.env)))) :
    SE X B W (.Call (.Attribute o m apos) [] [] pos) (mMeth c m n FM fo mNil) := by
  refine ⟨fun pins s σ H Q I ⟨S, ι, lo, st, fm, pp⟩ => ?_⟩
  have run := ho.run pins s σ H (fun x H1 => ∃ a dx fs, x = .ref a ∧ H1 a = some (.ins C dx fs) ∧ fs.lookup m = none ∧ ∃ E : XK, (∀ cls d H', E cls d H' → W cls d σ H') ∧ spM X.wd n FM [x] H1 Q E) I ?_
  · refine PySem.W.methodCall_KW (pl := pl) (thn run fun u s1 ⟨x, H1, I1, rx, a, dx, fs, ex, ea, l, E, hE, q⟩ => ?_) ht
    subst ex
    cases (show u = Value.ref a from rx)
    refine getmeth_ok I1 ea cl hm l ?_
    exact PySem.W.callWith_K0 (first := [.ref a]) I1.kIn hm.kp (hrun E _ _ _ _ _ [.ref a] [.ref a] hE I1 (.cons rfl .nil) q)
  · refine tE.use fm (Post.bind pp) fun t kt st1 S1 ι1 H1 ov f1 k1 r1 p1 => ?_
    dsimp only at p1
    split at p1
    case isFalse => exact p1.elim
    rename_i hh
    obtain ⟨hk, hi⟩ := hh
    obtain ⟨S1', f1', k1', h1⟩ := r1.hand f1
    rw [hk] at h1
    have vr := Hand.vr (b := false) f1' h1
    obtain ⟨fs, ev, hl⟩ := insOf_ok hi
    rw [ev] at vr
    obtain ⟨q, C', dx, ws, rfl, g1, hmc, hn, _⟩ := vr
    cases (show some (Value.ref C) = some (Value.ref C') from hc.symm.trans hmc)
    refine ⟨q, dx, ws, rfl, g1, look_none hn hl, ?_⟩
    have p2 : Post X.wd B W S1' ι1 H1 (fun r => ∀ S' ι' H' v, Fm X.wd B S' ι' H' lo σ r.2.2 → Keep S ι H S' ι' H' → RV X.wd B S' ι' H' lo σ v r.1 r.2.1 → Q v H') (callF n FM [] [(t, false)] lo st1) := p1.mono (k1.trans k1') fun _ z => z
    unfold callF at p2
    simp only [d_allFz1, d_allFz0, Option.map_some, List.append_nil] at p2
    split at p2
    case isFalse => exact p2.elim
    rename_i hlen
    refine ⟨_, ?_, wants_callee f1' (AllD.cons h1 .nil) hlen .refl (p2.imp fun r z S' ι' H' v f kk rv => z S' ι' H' v f ((k1.trans k1').trans kk) rv)⟩
    rintro cls d H' ⟨_, _, _, _, _, _, _, _, z⟩
    exact z
theorem se_methN0 (ho : SE X B W o fo) (cl : L2.Cls X.K C) (hm : Meth X.K C m f) (hc : X.mg c = some (.ref C)) (F : FnN X.prog X.w X.K X.mg X.base k f fd ps (spM X.wd n FM)) (hr : RoomG k X.A) (tk : L2N.Takes X W) (hb : Binds X.K fd ps [])
    (ht : eval (.Call (.Attribute o m apos) [] [] pos) X.env = (do
      let ov ← eval o X.env
      standAt apos.atName
      let (f, first) ← holding [ov] (getMethod ov m pl)
      callWith pos f first (backTo pos (starEach [] X.env)) (backToKw pos (keywordEach [] X.env))) := by rfl) :
    SE X B W (.Call (.Attribute o m apos) [] [] pos) (mMeth c m n FM fo mNil) :=
  se_meth0_by ho cl hm hc (fun E pins σ H s Q us vs hE I r q => run_fnN (dvs := []) F hr hb .nil hE tk I r (by rw [List.append_nil]; exact q)) ht
theorem se_methH0 (ho : SE X B W0 o fo) (cl : L2.Cls X.K C) (hm : Meth X.K C m f) (hc : X.mg c = some (.ref C)) (F : L2H.FnH X.prog X.w X.K X.mg X.base (L2.CX X.prog X.w) k f fd ps (spM X.wd n FM)) (hr : L2H.RoomH k X.A) (hot : L2H.HotC X) (hb : Binds X.K fd ps [])
    (ht : eval (.Call (.Attribute o m apos) [] [] pos) X.env = (do
      let ov ← eval o X.env
      standAt apos.atName
      let (f, first) ← holding [ov] (getMethod ov m pl)
      callWith pos f first (backTo pos (starEach [] X.env)) (backToKw pos (keywordEach [] X.env))) := by rfl) :
    SE X B W0 (.Call (.Attribute o m apos) [] [] pos) (mMeth c m n FM fo mNil) := by
  refine se_meth0_by ho cl hm hc (fun E pins σ H s Q us vs hE I r q => ?_) ht
  refine L2H.run_fnH (E := fun _ => E) F hr hot hb (fun pins' H' s' e s2 I' z => ?_) I r q
  obtain ⟨_, _, _, _, _, _, _, _, _, _, _, _, z⟩ := z
  exact (hE _ _ _ z).elim
end
section
variable {p pos pos' : Pos} {x : Str} {C : Addr}
theorem pmk_noneN {bx : List Value} {Bn nw ini : String} (F : ExcBaseFacts Bn nw ini bx) (q : PySem.W.excIn X.K C bx nw = true) (kC : PySem.W.keepIn X.K (.ref C) = true) (r : Raises X (.ref C)) (hg : Gl X x) (hm : X.mg x = some (.ref C)) (hdb : (x == ("__debug__" : Str)) = false := by decide) :
    L2N.PMk X (.Call (.Name x p) [] [] pos) (fun _ H Q => Q (.ref C) none H) := by
  intro pins s σ H Q I h
  refine wpAny_Call_Name_kw (ld_glob I hg hm ?_ hdb)
  refine PySem.W.callWith_K0 I.kIn kC ?_
  obtain ⟨bm, N, nm, qn, bs, hdct, sn, sub, ab, col, dd, k0, k1, k2, k3, k5, mN, hC, hN, hni, T⟩ := exc_obj I.kIn q
  refine wpAny_call_exc_subT F T hC hN hni (fun h' a md => ?_) (by show 0 ≤ sizeLine; omega)
  exact L2N.mk_of I md r h (I.hok.gone md.new)
theorem ss_raiseNN {bx : List Value} {Bn nw ini : String} (hc : X.calm = true) (tk : L2N.Takes X W) (F : ExcBaseFacts Bn nw ini bx) (q : PySem.W.excIn X.K C bx nw = true) (kC : PySem.W.keepIn X.K (.ref C) = true) (r : Raises X (.ref C)) (hg : Gl X x) (hm : X.mg x = some (.ref C)) (hdb : (x == ("__debug__" : Str)) = false := by decide) :
    SS X B W (.Raise (some (.Call (.Name x p) [] [] pos)) none pos') (sRaiseN x) := by
  refine (L2N.ps_raise hc tk (pmk_noneN F q kC r hg hm hdb)).fw fun D σ H ⟨S, ι, lo, st, fm, pp⟩ => ?_
  exact pp S ι σ H (.ref C) none fm .refl ⟨C, rfl, hm, .inl ⟨rfl, rfl⟩⟩
end
section
variable {x1 : Str} {c1 : Value} {body suite : List Stmt} {b₀ : Stmt} {p1 pos pos' : Pos} {g gs : SF} {p : Str → Bool}
theorem ss_tryH (hs : X.stack = X.env :: X.outer) (hf : X.env.frame = some X.env.locals) (hc1 : Names X x1 c1) (hp : ∀ e C, p e = true → X.mg e = some (.ref C) → PySem.W.exmOne X.K (.ref C) c1 = some true)
    (hb : ∀ (W : WX) (pn : List (Addr × Obj)) (xe : Value → Shared → Prop), L2N.Takes (X.tr pn xe) W → PassesOwn (model X.prog X.w) X.A X.env xe → SSs (X.tr pn xe) B W body g)
    (hsu : ∀ (a : Addr) (pn : List (Addr × Obj)), L2H.HotC (X.suite a pn) → SSs (X.suite a pn) B W0 (b₀ :: suite) gs) :
    SS X B W (.Try body [.ExceptHandler (some (.Name x1 p1)) none (b₀ :: suite) pos'] [] [] pos) (sTry2 p g gs) := by
  have none_out : L2N.Takes X (fun _ _ _ _ => False) := by
    rintro u s' ⟨_, _, _, _, _, _, _, _, _, _, _, _, _, _, _, _, z⟩
    exact z.elim
  refine (L2N.ps_try_many (tb := fun W => tS X.wd B W g) (l := [(c1, fun _ _ _ => tS X.wd B W0 gs)]) hs hf none_out hb (.cons hc1 (fun a oe cls d pn hz hv => ?_) .nil)).fw fun D σ H ⟨S, ι, lo, st, fm, pp⟩ => ?_
  · obtain ⟨vs, hv⟩ := hv
    exact hsu a _ ⟨(a, oe), ⟨rfl, vs, hv, hz.2.2 vs hv⟩, List.mem_cons_self⟩
  refine ⟨S, ι, lo, st, fm, ?_⟩
  unfold sTry2 at pp
  cases e : g lo st with
  | bad => rw [e] at pp; exact pp.elim
  | ok r => rw [e] at pp; exact pp
  | exc cl fs lo1 st1 =>
    rw [e] at pp
    dsimp only at pp
    split at pp
    case isFalse => exact pp.elim
    rename_i hpc
    intro S1 ι1 σ1 H1 cls d f1 k1 xr
    obtain ⟨C, rfl, hm, hd⟩ := xr
    refine ⟨true, hp cl C hpc hm, fun _ a na => ⟨S1, ι1, lo1, st1, f1, (Post.noExc pp).imp fun r hr => hr.mono k1⟩, fun z => Bool.noConfusion z⟩
end
section
variable {prog : Program} {w : World} {A : Around} {E : Value → Shared → Prop} {s : Shared}
theorem pyNext_list_end_hot {it l x1 : Addr} {i : Nat} {items} {Q : Option Value → Shared → Prop} (hot : HotX.HotAt A x1 s.heap) (ne : x1 ≠ it)
    (hit : s.heap.IsListIter it l i) (hl : s.heap.IsList l items) (hx : items[i]? = none)
    (hQ : ∀ h', Heap.ExtBut it s.heap h' → Q none { s with heap := h' }) : wpAny (model prog w) A (pyNext (.ref it)) Q E s := by
  obtain ⟨o, ho, hc, hd⟩ := id hit
  obtain ⟨ol, hol, _, nl, hdl⟩ := hl
  obtain ⟨hh, o1, vs1, h1, d1, c1⟩ := hot
  unfold pyNext
  refine wpAny_bind (wpAny_attempt (wpAny_callSpecial?_slot (name := Str.ofString "__next__") hit.typeIs slot_listiter_next
    (wpAny_call_entry slot_listiter_next hit.typeIs entry_listiter_next ?_ (args_listiter_next _))))
  show wpAny _ _ (field (.ref it) 0 >>= _) _ _ s
  refine wpAny_bind (wpAny_field ho hd (x := .ref l) rfl ?_)
  show wpAny _ _ (if (Value.ref l == Value.none) = true then _ else _) _ _ s
  rw [if_neg (show ¬ ((Value.ref l == Value.none) = true) from Bool.false_ne_true)]
  show wpAny _ _ (field (.ref it) 1 >>= _) _ _ s
  refine wpAny_bind (wpAny_field ho hd (x := .int i 0) rfl ?_)
  show wpAny _ _ (seqItems? (.ref l) >>= _) _ _ s
  refine wpAny_bind (wpAny_seqItems hol hdl ?_)
  simp only [Int.toNat_natCast, hx]
  refine wpAny_bind (wpAny_rule (wpAny_bind (wpAny_setField ho hd (by simp) ?_)))
  show wpAny _ _ (newExc (.type "StopIteration") [] >>= _) _ _ _
  refine wpAny_bind ?_
  simp only [newExc, newTuple]
  refine wpAny_bind (wpAny_newObj_type ?_ (by size_fits))
  refine wpAny_bind (m := firstArgMember _ _) (wpAny_of_eq (a := Value.none) (by first | rfl | (simp only [firstArgMember]; rfl)) ?_)
  refine wpAny_newObj_type ?_ (by size_fits)
  have h1' := (Heap.get?_update_other s.heap (Obj.mapFields (·.setIfInBounds 0 Value.none)) (Ne.symm ne)).trans h1
  refine HotX.raiseNew_hot ⟨hh, o1, vs1, Heap.get?_push_of_some _ (Heap.get?_push_of_some _ h1'), d1, c1⟩ (Nat.ne_of_lt (Heap.lt_size (Heap.get?_push_of_some _ h1'))) (Heap.get?_push_size _ rfl) rfl (by first | (simp; done) | (simp; omega) | (simp only [Array.size_append]; simp; omega)) ?_
  refine wpAny_bind (wpAny_isInstance (T := "StopIteration") (b := true) ⟨_, Heap.get?_update_self _ (Heap.get?_push_size _ rfl) rfl, rfl⟩ isSubtype_stop ?_)
  refine wpAny_pure (hQ _ fun b o hb e => ?_)
  have e' := (Heap.get?_update_other s.heap (Obj.mapFields (·.setIfInBounds 0 Value.none)) (Ne.symm hb)).trans e
  rw [Heap.get?_update_other _ _ (Nat.ne_of_gt (Heap.lt_size (Heap.get?_push_of_some _ e')))]
  exact Heap.get?_push_of_some _ (Heap.get?_push_of_some _ e')
end
theorem isList_keeps {h h' : Heap} {a : Addr} {xs : Array Value} (p : h.IsList a xs) (k : ∀ b o, h.get? b = some o → h'.get? b = some o) : h'.IsList a xs := p.imp fun o q => ⟨k _ _ q.1, q.2⟩
theorem isListIter_keeps {h h' : Heap} {t a : Addr} {i : Nat} (p : h.IsListIter t a i) (k : ∀ b o, h.get? b = some o → h'.get? b = some o) : h'.IsListIter t a i := p.imp fun o q => ⟨k _ _ q.1, q.2⟩
def tLc0 (te : TE) : TE := fun σ H Q => te σ H fun x H1 => ∃ a, x = .ref a ∧ H1 a = some (.lst []) ∧ ∀ D, H1 D = none → Q (.ref D) (upd H1 D (.lst []))
theorem pe_lc0 {elt tg iter : Expr} {ifs : List Expr} {scope : Scope} {own : List (Str × Nat)} {pos : Pos} {te : TE} (hc : L2H.HotC X) (he : PE X iter te) (ok : BlkOk X.N X.env.scope scope own)
    (hs : ∀ x, foldedSetIterable iter X.env x = pure x := by intro _; rfl) : PE X (.ListComp elt [⟨tg, iter, ifs, 0⟩] scope pos) (tLc0 te) := by
  refine ⟨fun pins s σ H Q I h => ?_⟩
  rw [eval_ListComp]
  have hfree : ∀ y ∈ scope.names, y.2 = .free → ∃ c, X.env.cells.lookup y.1 = some c := fun y hy e => by
    rcases ok.free y hy e with k | k
    · exact I.ok.has _ (.inl k)
    · exact I.ok.has _ (.inr k)
  refine wpAny_comprehension_free (use := none) rfl hs (closure_ok hfree) ok.kind (fun y hy e => by rw [ok.uniq y hy, e])
    (thn (he.run pins s σ H _ I h) fun xv s1 hx => ?_)
  obtain ⟨x, H1, I1, r1, a, ex, ea, q⟩ := hx
  subst ex
  cases (show xv = Value.ref a from r1)
  obtain ⟨its, rv, pl, hz⟩ := I1.list (SqL.of ea)
  cases rv
  refine wpAny_pyIter_list pl.isList ?_
  generalize hit : s1.heap.objs.size = it
  have hitn : H1 it = none := I1.hok.fresh (Nat.le_of_eq hit)
  have I2 : Inv X pins σ H1 { s1 with heap := s1.heap.push { cls := .type "list_iterator", data := .fields #[.ref a, .int 0 0] } } := I1.kept (t' := s1.toks) fun b o e => Heap.get?_push_of_some _ e
  have fit : FpOk X pins H1 it := I1.fpOk (Nat.le_of_eq hit) hitn
  have st2 : (s1.heap.push { cls := .type "list_iterator", data := .fields #[.ref a, .int 0 0] }).IsListIter it a 0 := by rw [← hit]; exact ⟨_, Heap.get?_push_size _ rfl, rfl, rfl⟩
  have pl2 := isList_keeps (h' := s1.heap.push { cls := .type "list_iterator", data := .fields #[.ref a, .int 0 0] }) pl.isList fun b o e => Heap.get?_push_of_some _ e
  generalize hs2 : ({ s1 with heap := s1.heap.push { cls := .type "list_iterator", data := .fields #[.ref a, .int 0 0] } } : Shared) = s2 at I2 ⊢
  have h2 : s2.heap = s1.heap.push { cls := .type "list_iterator", data := .fields #[.ref a, .int 0 0] } := by rw [← hs2]
  rw [← h2] at st2 pl2
  refine wpAny_newObj_type (newEnv_comp ?_) (by show 0 ≤ sizeLine; decide)
  generalize hD : s2.heap.objs.size = D
  have hDn : H1 D = none := I2.hok.fresh (Nat.le_of_eq hD)
  generalize hs3 : ({ s2 with heap := s2.heap.push { cls := .type "list", data := .seq ([] : List Value).toArray } } : Shared) = s3
  have I3 : Inv X pins σ (upd H1 D (.lst [])) s3 := by
    rw [← hs3]
    refine I2.laid (t' := s2.toks) (fun b o e => Heap.get?_push_of_some _ e) (Nat.le_of_eq hD) ⟨Nat.zero_le _, [], 0, .nil, ?_⟩
    rw [← hD]
    exact Heap.get?_push_size _ rfl
  have h3 : s3.heap = s2.heap.push { cls := .type "list", data := .seq ([] : List Value).toArray } := by rw [← hs3]
  have lit : it < s2.heap.objs.size := by rw [h2, Heap.size_push]; omega
  have hitD : it ≠ D := by rw [← hD]; exact Nat.ne_of_lt lit
  have fit3 : FpOk X pins (upd H1 D (.lst [])) it := ⟨(upd_ne hitD).trans fit.1, fit.2⟩
  have st3 : s3.heap.IsListIter it a 0 := by rw [h3]; exact isListIter_keeps st2 fun b o e => Heap.get?_push_of_some _ e
  have pl3 : s3.heap.IsList a #[] := by rw [h3]; exact isList_keeps pl2 fun b o e => Heap.get?_push_of_some _ e
  show codeAny _ _ (.compStart (.ListComp elt [⟨tg, iter, ifs, 0⟩] scope pos) 0 (.ref it) (.ref D) (compEnvC scope (cellsFrom (s3.heap.objs.size + 1) scope.names (cloFrom X.env.cells scope.names [])) s3.heap.objs.size X.env)) (compPost (model X.prog X.w) X.A X.xe none (EP X pins σ Q) (.ref D) s3.heap.objs.size) { s3 with heap := pushCells (s3.heap.push { cls := .type "dict", data := .dict #[] }) scope.names }
  generalize compEnvC scope (cellsFrom (s3.heap.objs.size + 1) scope.names (cloFrom X.env.cells scope.names [])) s3.heap.objs.size X.env = ce
  have kp4 : ∀ b o, s3.heap.get? b = some o → (pushCells (s3.heap.push { cls := .type "dict", data := .dict #[] }) scope.names).get? b = some o := fun b o e => pushCells_keeps _ _ _ _ (Heap.get?_push_of_some _ e)
  have I4 : Inv X pins σ (upd H1 D (.lst [])) { s3 with heap := pushCells (s3.heap.push { cls := .type "dict", data := .dict #[] }) scope.names } := I3.kept (t' := s3.toks) kp4
  have ns : (pushCells (s3.heap.push { cls := .type "dict", data := .dict #[] }) scope.names).Ns s3.heap.objs.size (fun _ => none) := Heap.Ns.keeps (Heap.Ns.new ..) fun b o e => pushCells_keeps _ _ _ _ e
  have fC : FpOk X pins (upd H1 D (.lst [])) s3.heap.objs.size := I3.fpOk (Nat.le_refl _) (I3.hok.fresh (Nat.le_refl _))
  have st4 := isListIter_keeps st3 kp4
  have pl4 := isList_keeps pl3 kp4
  generalize hs4 : ({ s3 with heap := pushCells (s3.heap.push { cls := .type "dict", data := .dict #[] }) scope.names } : Shared) = s4 at I4 ⊢
  have h4 : s4.heap = pushCells (s3.heap.push { cls := .type "dict", data := .dict #[] }) scope.names := by rw [← hs4]
  rw [← h4] at ns st4 pl4
  have litC : it ≠ s3.heap.objs.size := by
    have : s3.heap.objs.size = s2.heap.objs.size + 1 := by rw [h3, Heap.size_push]
    omega
  have loop : codeAny (model X.prog X.w) X.A (.compLoop (.ListComp elt [⟨tg, iter, ifs, 0⟩] scope pos) 0 (.ref it) (.ref D) ce) (compPost (model X.prog X.w) X.A X.xe none (EP X pins σ Q) (.ref D) s3.heap.objs.size) s4 := by
    refine compLoop_any (fun n s' => s' = s4) ?_ 0 rfl
    rintro n s5 rfl
    obtain ⟨p, ⟨hh, vs, e1, c1⟩, hp⟩ := hc
    have pin := I4.pin p (List.mem_append_left _ hp)
    refine pyNext_list_end_hot (x1 := p.1) ⟨hh, p.2, vs, pin.1, e1, c1⟩ (fit.2.2.2.2.2 p (List.mem_append_left _ hp)) st4 pl4 rfl fun h' eb => ?_
    have I6 : Inv X pins σ (upd H1 D (.lst [])) { s5 with heap := h' } := I4.turned (t' := s5.toks) (fun b o hb e => eb b o hb e) fit3.1 fit3.2.1 fit3.2.2.2.1 fit3.2.2.2.2.1 fit3.2.2.2.2.2
    refine ⟨fun _ => none, ns.extBut eb (Ne.symm litC), fun h'' sb => ?_⟩
    obtain ⟨f0, f1, f2, f3, f4, f5⟩ := fC
    exact ⟨.ref D, _, I6.turned (t' := s5.toks) (fun b o hb e => (sb.2 b hb).trans e) f0 f1 f3 f4 f5, rfl, q D hDn⟩
  exact codeAny_compStart_list loop (wpAny_pyIter_listiter st4 loop)
def mLc0 (fi : EF) : EF := fun lo st => fi lo st >>= fun (m, _, st1) => match vw st1 m with
  | .lst [] => .ok (.lst [], .fr, st1)
  | _ => .bad
theorem se_lc0 {elt tg iter : Expr} {ifs : List Expr} {scope : Scope} {own : List (Str × Nat)} {pos : Pos} {fi : EF} (hc : L2H.HotC X) (hi : SE X B W iter fi) (ok : BlkOk X.N X.env.scope scope own)
    (hs : ∀ x, foldedSetIterable iter X.env x = pure x := by intro _; rfl) : SE X B W (.ListComp elt [⟨tg, iter, ifs, 0⟩] scope pos) (mLc0 fi) := by
  refine (pe_lc0 hc hi ok hs).fw fun σ H Q ⟨S, ι, lo, st, fm, pp⟩ => ?_
  refine tE.use fm (Post.bind pp) fun t kt st1 S1 ι1 H1 x f1 k1 r1 p1 => ?_
  obtain ⟨S1', f1', k1', h1⟩ := r1.hand f1
  dsimp only at p1
  split at p1
  case h_2 => exact p1.elim
  rename_i hv
  have vr := h1.vr f1'
  rw [hv] at vr
  obtain ⟨q, vs, rfl, g1, d1⟩ := vr
  have := d1.inv_nil
  subst this
  refine ⟨q, rfl, g1, fun D hD => ?_⟩
  obtain ⟨d1, d2, d3, d4⟩ := f1'.free hD
  exact p1 S1' ι1 _ (.ref D) (f1'.new (o := .lst []) hD) ((k1.trans k1').trans ((Ext.new hD).keep f1'.rep)) ⟨D, rfl, d1, d2, d3, ⟨_, upd_same, [], rfl, .nil⟩, d4⟩
theorem lc0_ok {fi : EF} {lo : Lo} {st st1 : Sto} {m : MV} {k : Kd} (h : fi lo st = .ok (m, k, st1)) (hv : vw st1 m = .lst []) : mLc0 fi lo st = .ok (.lst [], .fr, st1) := by
  unfold mLc0
  rw [h]
  show (match vw st1 m with | .lst [] => _ | _ => _) = _
  rw [hv]
theorem se_eqNilH {a b : Expr} {fa fb : EF} {pos : Pos} {k : Nat} (hr : L2H.RoomH k X.A) (ha : SE X B W a fa) (hb : SE X B W b fb) (hm : behindInMarks .Eq b = false := by first | exact nomark _ | rfl) : SE X B W (.Compare a [.Eq] [b] pos) (mOp (gLNil false) fa fb) := se_cmp (op_lnil false (by have := hr.un; omega)) (ok_lnil false) ha hb hm
theorem roomS {k : Nat} {a : Addr} {pn : List (Addr × Obj)} (r : RoomG k X.A) : L2H.RoomH k (X.suite a pn).A := ⟨r.r.dp, r.r.un⟩
end
end FW
namespace W66
open PySem L2 PySem.Spec PyProof.Rows FW FL
def top (i : Nat) : Stmt := PySem.Challenge.pw_floorwalks_k66_whole_copies_of_live_prog.main.body.getD i (.Pass ⟨0, 0, 0, 0⟩)
abbrev s_Program_eq : Stmt := inClass (top 27) 3
abbrev s_Live_eq : Stmt := inClass (top 41) 14
abbrev s_check_program : Stmt := top 28
abbrev s_Live_init : Stmt := inClass (top 41) 0
abbrev s_Live_copy : Stmt := inClass (top 41) 13
abbrev s_Live_log : Stmt := inClass (top 41) 12
abbrev s_is_whole : Stmt := top 23
abbrev s_is_within : Stmt := top 24
abbrev s_is_move : Stmt := top 26
abbrev s_is_name : Stmt := top 25
abbrev s_Program_init : Stmt := inClass (top 27) 0
abbrev s_Program_moves : Stmt := inClass (top 27) 2
abbrev s_Program_places : Stmt := inClass (top 27) 1
abbrev s_Live_shown : Stmt := inClass (top 41) 8
abbrev s_law_hash : Stmt := top 56
abbrev s_law_random : Stmt := top 59
abbrev s_law_moves_drawn : Stmt := top 58
abbrev s_law_drawn : Stmt := top 61
abbrev s_law_cell : Stmt := top 57
abbrev s_law_generator : Stmt := top 60
abbrev s_Live_len : Stmt := inClass (top 41) 1
abbrev s_Live_check_move : Stmt := inClass (top 41) 2
abbrev s_Live_lead : Stmt := inClass (top 41) 4
abbrev s_Live_add : Stmt := inClass (top 41) 5
abbrev s_Live_back : Stmt := inClass (top 41) 11
abbrev s_Live_check_number : Stmt := inClass (top 41) 3
abbrev s_Live_drop : Stmt := inClass (top 41) 6
abbrev s_law_many_right : Stmt := top 66
abbrev s_Tested_init : Stmt := inClass (top 50) 0
abbrev s_least_endless : Stmt := top 39
abbrev s_check_ways : Stmt := top 32
abbrev s_least_for : Stmt := top 33
abbrev s_text_of : Stmt := top 54
abbrev s_check_pair : Stmt := top 43
abbrev s_unlike : Stmt := top 46
abbrev s_law_no_program : Stmt := top 67
abbrev s_law_program : Stmt := top 62
abbrev s_law_shows : Stmt := top 64
abbrev s_Live_change : Stmt := inClass (top 41) 7
abbrev s_law_step : Stmt := top 63
abbrev s_law_undone : Stmt := top 65
abbrev s_law : Stmt := top 68
abbrev N_Program_eq : List Str := ["self", "other"]
abbrev P_Program_eq : List Str := ["self", "other"]
theorem sc_Program_eq : FnScope N_Program_eq P_Program_eq (defScope s_Program_eq) := ⟨rfl, rfl, rfl, by decide +kernel, rfl, by decide +kernel, by decide +kernel⟩
noncomputable def g_Live_eq : SF := (sRet (mAndV (mIsi noT (eqc CS "Live") noC (mVar 1)) (mEqA false "Program" M_Program_eq (mFld "now" (inB ["Live"]) noB (mVar 0)) (mFld "now" (inB ["Live"]) noB (mVar 1)))))
noncomputable def M_Live_eq : FF := runF 2 g_Live_eq
abbrev N_Live_eq : List Str := ["self", "other"]
abbrev P_Live_eq : List Str := ["self", "other"]
theorem sc_Live_eq : FnScope N_Live_eq P_Live_eq (defScope s_Live_eq) := ⟨rfl, rfl, rfl, by decide +kernel, rfl, by decide +kernel, by decide +kernel⟩
abbrev N_check_program : List Str := ["value"]
abbrev P_check_program : List Str := ["value"]
theorem sc_check_program : FnScope N_check_program P_check_program (defScope s_check_program) := ⟨rfl, rfl, rfl, by decide +kernel, rfl, by decide +kernel, by decide +kernel⟩
noncomputable def g_Live_init : SF := (sSeq (sExpr (mCall 1 M_check_program [] (mCons (mVar 1) mNil)))
  (sSeq (sPutF "now" (inB ["Live"]) (mVar 1) (mVar 0))
  (sPutF "past" (inB ["Live"]) (mSto (mLst mNil)) (mVar 0))))
noncomputable def M_Live_init : FF := runS "Live" 2 g_Live_init
abbrev N_Live_init : List Str := ["self", "program"]
abbrev P_Live_init : List Str := ["self", "program"]
theorem sc_Live_init : FnScope N_Live_init P_Live_init (defScope s_Live_init) := ⟨rfl, rfl, rfl, by decide +kernel, rfl, by decide +kernel, by decide +kernel⟩
noncomputable def g_Live_copy : SF := (sSeq (sSet 1 (mCall 1 M_Live_init [] (mCons (mFld "now" (inB ["Live"]) noB (mVar 0)) mNil)))
  (sSeq (sPutF "past" (inB ["Live"]) (mSto (mCallB gListOf (mCons (mFld "past" (inB ["Live"]) noB (mVar 0)) mNil))) (mVar 1))
  (sRet (mVar 1))))
noncomputable def M_Live_copy : FF := runF 2 g_Live_copy
abbrev N_Live_copy : List Str := ["self", "other"]
abbrev P_Live_copy : List Str := ["self"]
theorem sc_Live_copy : FnScope N_Live_copy P_Live_copy (defScope s_Live_copy) := ⟨rfl, rfl, rfl, by decide +kernel, rfl, by decide +kernel, by decide +kernel⟩
noncomputable def g_Live_log : SF := (sRet (mLc [1, 2] (iSeq (mFld "past" (inB ["Live"]) noB (mVar 0))) (gT 2 (gsCons (gN 1) (gsCons (gN 2) gsNil))) tYesM (mVar 1)))
noncomputable def M_Live_log : FF := runF 3 g_Live_log
noncomputable def g_Live_logH : SF := (sRet (mLc0 (mFld "past" (inB ["Live"]) noB (mVar 0))))
noncomputable def M_Live_logH : FF := runF 3 g_Live_logH
abbrev N_Live_log : List Str := ["self", "deed", "ahead"]
abbrev P_Live_log : List Str := ["self"]
theorem sc_Live_log : FnScope N_Live_log P_Live_log (defScope s_Live_log) := ⟨rfl, rfl, rfl, by decide +kernel, rfl, by decide +kernel, by decide +kernel⟩
abbrev N_is_whole : List Str := ["value"]
abbrev P_is_whole : List Str := ["value"]
theorem sc_is_whole : FnScope N_is_whole P_is_whole (defScope s_is_whole) := ⟨rfl, rfl, rfl, by decide +kernel, rfl, by decide +kernel, by decide +kernel⟩
abbrev N_is_within : List Str := ["value", "low", "high"]
abbrev P_is_within : List Str := ["value", "low", "high"]
theorem sc_is_within : FnScope N_is_within P_is_within (defScope s_is_within) := ⟨rfl, rfl, rfl, by decide +kernel, rfl, by decide +kernel, by decide +kernel⟩
abbrev N_is_move : List Str := ["value", "places"]
abbrev P_is_move : List Str := ["value", "places"]
theorem sc_is_move : FnScope N_is_move P_is_move (defScope s_is_move) := ⟨rfl, rfl, rfl, by decide +kernel, rfl, by decide +kernel, by decide +kernel⟩
abbrev N_is_name : List Str := ["value", "letter"]
abbrev P_is_name : List Str := ["value"]
theorem sc_is_name : FnScope N_is_name P_is_name (defScope s_is_name) := ⟨rfl, rfl, rfl, by decide +kernel, rfl, by decide +kernel, by decide +kernel⟩
abbrev N_Program_init : List Str := ["self", "places", "moves", "at", "place", "move"]
abbrev P_Program_init : List Str := ["self", "places", "moves"]
theorem sc_Program_init : FnScope N_Program_init P_Program_init (defScope s_Program_init) := ⟨rfl, rfl, rfl, by decide +kernel, rfl, by decide +kernel, by decide +kernel⟩
abbrev N_Program_moves : List Str := ["self"]
abbrev P_Program_moves : List Str := ["self"]
theorem sc_Program_moves : FnScope N_Program_moves P_Program_moves (defScope s_Program_moves) := ⟨rfl, rfl, rfl, by decide +kernel, rfl, by decide +kernel, by decide +kernel⟩
abbrev N_Program_places : List Str := ["self"]
abbrev P_Program_places : List Str := ["self"]
theorem sc_Program_places : FnScope N_Program_places P_Program_places (defScope s_Program_places) := ⟨rfl, rfl, rfl, by decide +kernel, rfl, by decide +kernel, by decide +kernel⟩
noncomputable def g_Live_shown : SF := (sRet (mCall 2 M_Program_init [] (mCons (mMeth "Program" "places" 1 M_Program_places (mFld "now" (inB ["Live"]) noB (mVar 0)) mNil) (mCons (mMeth "Program" "moves" 1 M_Program_moves (mFld "now" (inB ["Live"]) noB (mVar 0)) mNil) mNil))))
noncomputable def M_Live_shown : FF := runF 1 g_Live_shown
abbrev N_Live_shown : List Str := ["self"]
abbrev P_Live_shown : List Str := ["self"]
theorem sc_Live_shown : FnScope N_Live_shown P_Live_shown (defScope s_Live_shown) := ⟨rfl, rfl, rfl, by decide +kernel, rfl, by decide +kernel, by decide +kernel⟩
abbrev N_law_hash : List Str := ["_law_seed", "_law_index", "_law_mixed"]
abbrev P_law_hash : List Str := ["_law_seed", "_law_index"]
theorem sc_law_hash : FnScope N_law_hash P_law_hash (defScope s_law_hash) := ⟨rfl, rfl, rfl, by decide +kernel, rfl, by decide +kernel, by decide +kernel⟩
abbrev N_law_random : List Str := ["_law_generator_here", "_law_bound", "_law_drawn_here", "_law_turn"]
abbrev P_law_random : List Str := ["_law_generator_here", "_law_bound"]
theorem sc_law_random : FnScope N_law_random P_law_random (defScope s_law_random) := ⟨rfl, rfl, rfl, by decide +kernel, rfl, by decide +kernel, by decide +kernel⟩
abbrev N_law_moves_drawn : List Str := ["_law_generator_here", "_law_places", "_law_most", "_law_found", "_law_turn", "_law_change", "_law_more", "_law_least", "_law_place", "_law_other"]
abbrev P_law_moves_drawn : List Str := ["_law_generator_here", "_law_places", "_law_most"]
theorem sc_law_moves_drawn : FnScope N_law_moves_drawn P_law_moves_drawn (defScope s_law_moves_drawn) := ⟨rfl, rfl, rfl, by decide +kernel, rfl, by decide +kernel, by decide +kernel⟩
abbrev N_law_drawn : List Str := ["_law_generator_here", "_law_many", "_law_most", "_law_places"]
abbrev P_law_drawn : List Str := ["_law_generator_here", "_law_many", "_law_most"]
theorem sc_law_drawn : FnScope N_law_drawn P_law_drawn (defScope s_law_drawn) := ⟨rfl, rfl, rfl, by decide +kernel, rfl, by decide +kernel, by decide +kernel⟩
abbrev N_law_cell : List Str := ["_law_script", "_law_index"]
abbrev P_law_cell : List Str := ["_law_script", "_law_index"]
theorem sc_law_cell : FnScope N_law_cell P_law_cell (defScope s_law_cell) := ⟨rfl, rfl, rfl, by decide +kernel, rfl, by decide +kernel, by decide +kernel⟩
abbrev N_law_generator : List Str := ["_law_script", "_law_index", "_law_seed"]
abbrev P_law_generator : List Str := ["_law_script", "_law_index"]
theorem sc_law_generator : FnScope N_law_generator P_law_generator (defScope s_law_generator) := ⟨rfl, rfl, rfl, by decide +kernel, rfl, by decide +kernel, by decide +kernel⟩
noncomputable def g_Live_len : SF := (sRet (mCallB gLen (mCons (mFld "steps" (inB ["Program"]) noB (mFld "now" (inB ["Live"]) noB (mVar 0))) mNil)))
noncomputable def M_Live_len : FF := runF 1 g_Live_len
abbrev N_Live_len : List Str := ["self"]
abbrev P_Live_len : List Str := ["self"]
theorem sc_Live_len : FnScope N_Live_len P_Live_len (defScope s_Live_len) := ⟨rfl, rfl, rfl, by decide +kernel, rfl, by decide +kernel, by decide +kernel⟩
noncomputable def g_Live_check_move : SF := (sIf (mNotT (mTv (mCall 2 M_is_move [] (mCons (mVar 1) (mCons (mMeth "Program" "places" 1 M_Program_places (mFld "now" (inB ["Live"]) noB (mVar 0)) mNil) mNil))))) (sRaise "InvalidItem" "value" [] (mCons (mVar 1) mNil)) sNil)
noncomputable def M_Live_check_move : FF := runF 2 g_Live_check_move
abbrev N_Live_check_move : List Str := ["self", "value"]
abbrev P_Live_check_move : List Str := ["self", "value"]
theorem sc_Live_check_move : FnScope N_Live_check_move P_Live_check_move (defScope s_Live_check_move) := ⟨rfl, rfl, rfl, by decide +kernel, rfl, by decide +kernel, by decide +kernel⟩
noncomputable def g_Live_lead : SF := (sSeq (sApp (mFld "past" (inB ["Live"]) noB (mVar 0)) (mTup (mCons (mVar 1) (mCons (mFld "now" (inB ["Live"]) noB (mVar 0)) mNil))))
  (sPutF "now" (inB ["Live"]) (mCall 2 M_Program_init [] (mCons (mMeth "Program" "places" 1 M_Program_places (mFld "now" (inB ["Live"]) noB (mVar 0)) mNil) (mCons (mVar 2) mNil))) (mVar 0)))
noncomputable def M_Live_lead : FF := runF 3 g_Live_lead
abbrev N_Live_lead : List Str := ["self", "deed", "moves"]
abbrev P_Live_lead : List Str := ["self", "deed", "moves"]
theorem sc_Live_lead : FnScope N_Live_lead P_Live_lead (defScope s_Live_lead) := ⟨rfl, rfl, rfl, by decide +kernel, rfl, by decide +kernel, by decide +kernel⟩
noncomputable def g_Live_add : SF := (sSeq (sExpr (mMeth "Live" "check_move" 2 M_Live_check_move (mVar 0) (mCons (mVar 1) mNil)))
  (sSeq (sIf (mTv (mOp gGe (mCallB gLen (mCons (mFld "steps" (inB ["Program"]) noB (mFld "now" (inB ["Live"]) noB (mVar 0))) mNil)) (mC (.int 10)))) (sRaise "InvalidList" "value" [] (mCons (mMeth "Program" "moves" 1 M_Program_moves (mFld "now" (inB ["Live"]) noB (mVar 0)) mNil) mNil)) sNil)
  (sExpr (mMeth "Live" "lead" 3 M_Live_lead (mVar 0) (mCons (mTup (mCons (mC (.str "add")) (mCons (mVar 1) mNil))) (mCons (mOp gAdd (mMeth "Program" "moves" 1 M_Program_moves (mFld "now" (inB ["Live"]) noB (mVar 0)) mNil) (mLst (mCons (mVar 1) mNil))) mNil))))))
noncomputable def M_Live_add : FF := runF 2 g_Live_add
abbrev N_Live_add : List Str := ["self", "move"]
abbrev P_Live_add : List Str := ["self", "move"]
theorem sc_Live_add : FnScope N_Live_add P_Live_add (defScope s_Live_add) := ⟨rfl, rfl, rfl, by decide +kernel, rfl, by decide +kernel, by decide +kernel⟩
noncomputable def g_Live_back : SF := (sSeq (sIf (mTv (mOp (gLNil false) (mFld "past" (inB ["Live"]) noB (mVar 0)) (mLst mNil))) (sRaiseN "NothingToUndo") sNil)
  (sAsg (mLPop (mFld "past" (inB ["Live"]) noB (mVar 0))) (gT 2 (gsCons (gN 1) (gsCons (gPutF "now" (inB ["Live"]) (mVar 0)) gsNil)))))
noncomputable def M_Live_back : FF := runF 2 g_Live_back
noncomputable def g_Live_backN : SF := (sSeq (sIf (mTv (mOp (gLNil false) (mFld "past" (inB ["Live"]) noB (mVar 0)) (mLst mNil))) (sRaiseN "NothingToUndo") sNil) sBad)
noncomputable def M_Live_backN : FF := runF 2 g_Live_backN
abbrev N_Live_back : List Str := ["self", "deed"]
abbrev P_Live_back : List Str := ["self"]
theorem sc_Live_back : FnScope N_Live_back P_Live_back (defScope s_Live_back) := ⟨rfl, rfl, rfl, by decide +kernel, rfl, by decide +kernel, by decide +kernel⟩
noncomputable def g_Live_check_number : SF := (sIf (mNotT (mTv (mCall 3 M_is_within [] (mCons (mVar 1) (mCons (mC (.int 0)) (mCons (mOp gSub (mCallB gLen (mCons (mFld "steps" (inB ["Program"]) noB (mFld "now" (inB ["Live"]) noB (mVar 0))) mNil)) (mC (.int 1))) mNil)))))) (sRaise "InvalidNumber" "value" [] (mCons (mVar 1) mNil)) sNil)
noncomputable def M_Live_check_number : FF := runF 2 g_Live_check_number
abbrev N_Live_check_number : List Str := ["self", "value"]
abbrev P_Live_check_number : List Str := ["self", "value"]
theorem sc_Live_check_number : FnScope N_Live_check_number P_Live_check_number (defScope s_Live_check_number) := ⟨rfl, rfl, rfl, by decide +kernel, rfl, by decide +kernel, by decide +kernel⟩
noncomputable def g_Live_drop : SF := (sSeq (sExpr (mMeth "Live" "check_number" 2 M_Live_check_number (mVar 0) (mCons (mVar 1) mNil)))
  (sSeq (sSet 2 (mMeth "Program" "moves" 1 M_Program_moves (mFld "now" (inB ["Live"]) noB (mVar 0)) mNil))
  (sExpr (mMeth "Live" "lead" 3 M_Live_lead (mVar 0) (mCons (mTup (mCons (mC (.str "drop")) (mCons (mVar 1) mNil))) (mCons (mOp gAdd (mSl (mVar 2) oNone (oSome (mVar 1))) (mSl (mVar 2) (oSome (mOp gAdd (mVar 1) (mC (.int 1)))) oNone)) mNil))))))
noncomputable def M_Live_drop : FF := runF 3 g_Live_drop
abbrev N_Live_drop : List Str := ["self", "number", "moves"]
abbrev P_Live_drop : List Str := ["self", "number"]
theorem sc_Live_drop : FnScope N_Live_drop P_Live_drop (defScope s_Live_drop) := ⟨rfl, rfl, rfl, by decide +kernel, rfl, by decide +kernel, by decide +kernel⟩
noncomputable abbrev b2_law_many_right : SF := (sSeq (sExpr (mMeth "Live" "back" 1 M_Live_back (mVar 0) mNil))
  (sIf (mTv (mOp (gEqB true) (mLenI "Live" M_Live_len (mVar 0)) (mOp gMod (mOp gAdd (mVar 1) (mC (.int 1))) (mC (.int 2))))) (sRet (mC (.bl false))) sNil))
noncomputable abbrev b1_law_many_right : SF := (sSeq (sExpr (mMeth "Live" "add" 2 M_Live_add (mVar 0) (mCons (mTup (mCons (mC (.str "up")) (mCons (mC (.int 0)) (mCons (mC (.int 0)) (mCons (mC (.str "up")) mNil))))) mNil)))
  (sExpr (mMeth "Live" "drop" 2 M_Live_drop (mVar 0) (mCons (mC (.int 0)) mNil))))
noncomputable def g_law_many_right : SF := (sSeq (sSet 0 (mCall 1 M_Live_init [] (mCons (mCall 2 M_Program_init [] (mCons (mLst (mCons (mC (.str "up")) mNil)) (mCons (mLst mNil) mNil))) mNil)))
  (sSeq (sFor (iRg1 (mC (.int 75))) (gN 1) b1_law_many_right)
  (sSeq (sIf (mTv (mOp (gEqB true) (mMeth "Live" "log" 1 M_Live_log (mVar 0) mNil) (mOp gMul (mLst (mCons (mTup (mCons (mC (.str "add")) (mCons (mTup (mCons (mC (.str "up")) (mCons (mC (.int 0)) (mCons (mC (.int 0)) (mCons (mC (.str "up")) mNil))))) mNil))) (mCons (mTup (mCons (mC (.str "drop")) (mCons (mC (.int 0)) mNil))) mNil))) (mC (.int 75))))) (sRet (mC (.bl false))) sNil)
  (sSeq (sFor (iRg1 (mC (.int 150))) (gN 1) b2_law_many_right)
  (sRet (mAndV (mOp (gLNil false) (mMeth "Live" "log" 1 M_Live_log (mVar 0) mNil) (mLst mNil)) (mOp (gLNil false) (mMeth "Live" "log" 1 M_Live_log (mCall 1 M_Live_init [] (mCons (mCall 2 M_Program_init [] (mCons (mLst (mCons (mC (.str "up")) mNil)) (mCons (mLst mNil) mNil))) mNil)) mNil) (mLst mNil))))))))
noncomputable def M_law_many_right : FF := runF 2 g_law_many_right
abbrev N_law_many_right : List Str := ["_law_live", "_law_turn"]
abbrev P_law_many_right : List Str := []
theorem sc_law_many_right : FnScope N_law_many_right P_law_many_right (defScope s_law_many_right) := ⟨rfl, rfl, rfl, by decide +kernel, rfl, by decide +kernel, by decide +kernel⟩
noncomputable def g_Tested_init : SF := (sSeq (sExpr (mCall 1 M_check_program [] (mCons (mVar 1) mNil)))
  (sSeq sBad
  (sSeq sBad
  (sSeq sBad
  sBad))))
noncomputable def M_Tested_init : FF := runI "Tested" 4 g_Tested_init
abbrev N_Tested_init : List Str := ["self", "program", "tests", "item"]
abbrev P_Tested_init : List Str := ["self", "program", "tests"]
theorem sc_Tested_init : FnScope N_Tested_init P_Tested_init (defScope s_Tested_init) := ⟨rfl, rfl, rfl, by decide +kernel, rfl, by decide +kernel, by decide +kernel⟩
noncomputable def g_least_endless : SF := (sSeq (sExpr (mCall 1 M_check_program [] (mCons (mVar 0) mNil)))
  (sSeq sBad
  (sSeq sBad
  sBad)))
noncomputable def M_least_endless : FF := runF 3 g_least_endless
abbrev N_least_endless : List Str := ["program", "place", "found"]
abbrev P_least_endless : List Str := ["program", "place"]
theorem sc_least_endless : FnScope N_least_endless P_least_endless (defScope s_least_endless) := ⟨rfl, rfl, rfl, by decide +kernel, rfl, by decide +kernel, by decide +kernel⟩
noncomputable def g_check_ways : SF := (sSeq (sExpr (mCall 1 M_check_program [] (mCons (mVar 0) mNil)))
  (sSeq sBad
  (sSeq sBad
  sBad)))
noncomputable def M_check_ways : FF := runF 4 g_check_ways
abbrev N_check_ways : List Str := ["program", "place", "other", "change"]
abbrev P_check_ways : List Str := ["program", "place", "other", "change"]
theorem sc_check_ways : FnScope N_check_ways P_check_ways (defScope s_check_ways) := ⟨rfl, rfl, rfl, by decide +kernel, rfl, by decide +kernel, by decide +kernel⟩
noncomputable def g_least_for : SF := (sSeq (sExpr (mCall 4 M_check_ways [] (mCons (mVar 0) (mCons (mVar 1) (mCons (mVar 2) (mCons (mVar 3) mNil))))))
  sBad)
noncomputable def M_least_for : FF := runF 4 g_least_for
abbrev N_least_for : List Str := ["program", "place", "other", "change"]
abbrev P_least_for : List Str := ["program", "place", "other", "change"]
theorem sc_least_for : FnScope N_least_for P_least_for (defScope s_least_for) := ⟨rfl, rfl, rfl, by decide +kernel, rfl, by decide +kernel, by decide +kernel⟩
noncomputable def g_text_of : SF := (sSeq (sExpr (mCall 1 M_check_program [] (mCons (mVar 0) mNil)))
  (sSeq sBad
  (sSeq sBad
  (sFz 1 sBad))))
noncomputable def M_text_of : FF := runF 7 g_text_of
abbrev N_text_of : List Str := ["program", "rows", "place", "least", "change", "other", "row"]
abbrev P_text_of : List Str := ["program"]
theorem sc_text_of : FnScope N_text_of P_text_of (defScope s_text_of) := ⟨rfl, rfl, rfl, by decide +kernel, rfl, by decide +kernel, by decide +kernel⟩
noncomputable def g_check_pair : SF := (sSeq (sExpr (mCall 1 M_check_program [] (mCons (mVar 0) mNil)))
  (sIf (mOr (mNotT (mTv (mIsi noT (eqc CS "Program") noC (mVar 1)))) (mTv (mOp (gEqB true) (mFld "stands" (inB ["Program"]) noB (mVar 0)) (mFld "stands" (inB ["Program"]) noB (mVar 1))))) (sRaise "InvalidProgram" "value" [] (mCons (mVar 1) mNil)) sNil))
noncomputable def M_check_pair : FF := runF 2 g_check_pair
abbrev N_check_pair : List Str := ["program", "other"]
abbrev P_check_pair : List Str := ["program", "other"]
theorem sc_check_pair : FnScope N_check_pair P_check_pair (defScope s_check_pair) := ⟨rfl, rfl, rfl, by decide +kernel, rfl, by decide +kernel, by decide +kernel⟩
noncomputable def g_unlike : SF := (sSeq (sExpr (mCall 2 M_check_pair [] (mCons (mVar 0) (mCons (mVar 1) mNil))))
  sBad)
noncomputable def M_unlike : FF := runF 2 g_unlike
abbrev N_unlike : List Str := ["program", "other"]
abbrev P_unlike : List Str := ["program", "other"]
theorem sc_unlike : FnScope N_unlike P_unlike (defScope s_unlike) := ⟨rfl, rfl, rfl, by decide +kernel, rfl, by decide +kernel, by decide +kernel⟩
noncomputable abbrev b1_law_no_program : SF := (sSeq (sSet 2 (mC .non))
  (sSeq (sTry (inB ["InvalidProgram"]) 3 (sIf (mTv (mOp (gEqB false) (mVar 1) (mC (.int 0)))) (sExpr (mCall 4 M_least_for [] (mCons (mVar 0) (mCons (mC (.str "up")) (mCons (mC (.str "up")) (mCons (mC (.int 0)) mNil)))))) (sIf (mTv (mOp (gEqB false) (mVar 1) (mC (.int 1)))) (sExpr (mCall 1 M_text_of [] (mCons (mVar 0) mNil))) (sIf (mTv (mOp (gEqB false) (mVar 1) (mC (.int 2)))) (sExpr (mCall 2 M_Tested_init [] (mCons (mVar 0) (mCons (mLst mNil) mNil)))) (sIf (mTv (mOp (gEqB false) (mVar 1) (mC (.int 3)))) (sExpr (mCall 2 M_unlike [] (mCons (mMeth "Live" "shown" 1 M_Live_shown (mVar 0) mNil) (mCons (mVar 0) mNil)))) (sIf (mTv (mOp (gEqB false) (mVar 1) (mC (.int 4)))) (sExpr (mCall 2 M_least_endless [] (mCons (mVar 0) (mCons (mC (.str "up")) mNil)))) (sExpr (mCall 1 M_Live_init [] (mCons (mVar 0) mNil)))))))) (sSet 2 (mVar 3)))
  (sIf (mOr (mTv (mOp (gIsN false) (mVar 2) (mC .non))) (mNotT (mTv (mIsi noT (eqc CS "Live") noC (mFld "value" noB (inB ES) (mVar 2)))))) (sRet (mC (.bl false))) sNil)))
noncomputable def g_law_no_program : SF := (sSeq (sFor (iRg1 (mC (.int 6))) (gN 1) b1_law_no_program)
  (sRet (mC (.bl true))))
noncomputable def M_law_no_program : FF := runF 4 g_law_no_program
abbrev N_law_no_program : List Str := ["_law_live", "_law_door", "_law_caught", "error"]
abbrev P_law_no_program : List Str := ["_law_live"]
theorem sc_law_no_program : FnScope N_law_no_program P_law_no_program (defScope s_law_no_program) := ⟨rfl, rfl, rfl, by decide +kernel, rfl, by decide +kernel, by decide +kernel⟩
abbrev N_law_program : List Str := ["_law_parts"]
abbrev P_law_program : List Str := ["_law_parts"]
theorem sc_law_program : FnScope N_law_program P_law_program (defScope s_law_program) := ⟨rfl, rfl, rfl, by decide +kernel, rfl, by decide +kernel, by decide +kernel⟩
noncomputable abbrev b2_law_shows : SF := (sSeq (sSet 6 (mOp (gEqB false) (mOp gIx (mOp gIx (mVar 2) (mVar 3)) (mC (.int 0))) (mOp gIx (mOp gIx (mVar 2) (mVar 5)) (mC (.int 0)))))
  (sIf (mTv (mOp (gEqB true) (mCallB gRepr (mCons (mLst (mCons (mEqA false "Live" M_Live_eq (mOp gIx (mVar 0) (mVar 3)) (mOp gIx (mVar 0) (mVar 5))) (mCons (mEqA true "Live" M_Live_eq (mOp gIx (mVar 0) (mVar 3)) (mOp gIx (mVar 0) (mVar 5))) mNil))) mNil)) (mCallB gRepr (mCons (mLst (mCons (mVar 6) (mCons (mUn gNot (mVar 6)) mNil))) mNil)))) (sRet (mC (.bl false))) sNil))
noncomputable abbrev b1_law_shows : SF := (sSeq (sSet 4 (mCall 2 M_Program_init [] (mCons (mCallB gListOf (mCons (mVar 1) mNil)) (mCons (mCallB gListOf (mCons (mOp gIx (mOp gIx (mVar 2) (mVar 3)) (mC (.int 0))) mNil)) mNil))))
  (sSeq (sIf (mOr (mTv (mEqA true "Program" M_Program_eq (mMeth "Live" "shown" 1 M_Live_shown (mOp gIx (mVar 0) (mVar 3)) mNil) (mVar 4))) (mTv (mOp (gEqB true) (mLenI "Live" M_Live_len (mOp gIx (mVar 0) (mVar 3))) (mCallB gLen (mCons (mOp gIx (mOp gIx (mVar 2) (mVar 3)) (mC (.int 0))) mNil))))) (sRet (mC (.bl false))) sNil)
  (sSeq (sIf (mTv (mOp (gEqB true) (mCallB gRepr (mCons (mMeth "Live" "log" 1 M_Live_log (mOp gIx (mVar 0) (mVar 3)) mNil) mNil)) (mCallB gRepr (mCons (mLc [7] (iSeq (mOp gIx (mOp gIx (mVar 2) (mVar 3)) (mC (.int 1)))) (gN 7) tYesM (mOp gIx (mVar 7) (mC (.int 0)))) mNil)))) (sRet (mC (.bl false))) sNil)
  (sFor (iRg1 (mCallB gLen (mCons (mVar 0) mNil))) (gN 5) b2_law_shows))))
noncomputable def g_law_shows : SF := (sSeq (sFor (iRg1 (mCallB gLen (mCons (mVar 0) mNil))) (gN 3) b1_law_shows)
  (sRet (mC (.bl true))))
noncomputable def M_law_shows : FF := runF 8 g_law_shows
abbrev N_law_shows : List Str := ["_law_lives", "_law_places", "_law_states", "_law_at", "_law_made", "_law_other", "_law_same", "_law_step_here"]
abbrev P_law_shows : List Str := ["_law_lives", "_law_places", "_law_states"]
theorem sc_law_shows : FnScope N_law_shows P_law_shows (defScope s_law_shows) := ⟨rfl, rfl, rfl, by decide +kernel, rfl, by decide +kernel, by decide +kernel⟩
noncomputable def g_Live_change : SF := (sSeq (sExpr (mMeth "Live" "check_number" 2 M_Live_check_number (mVar 0) (mCons (mVar 1) mNil)))
  (sSeq (sExpr (mMeth "Live" "check_move" 2 M_Live_check_move (mVar 0) (mCons (mVar 2) mNil)))
  (sSeq (sSet 3 (mMeth "Program" "moves" 1 M_Program_moves (mFld "now" (inB ["Live"]) noB (mVar 0)) mNil))
  (sExpr (mMeth "Live" "lead" 3 M_Live_lead (mVar 0) (mCons (mTup (mCons (mC (.str "change")) (mCons (mVar 1) (mCons (mVar 2) mNil)))) (mCons (mOp gAdd (mOp gAdd (mSl (mVar 3) oNone (oSome (mVar 1))) (mLst (mCons (mVar 2) mNil))) (mSl (mVar 3) (oSome (mOp gAdd (mVar 1) (mC (.int 1)))) oNone)) mNil)))))))
noncomputable def M_Live_change : FF := runF 4 g_Live_change
abbrev N_Live_change : List Str := ["self", "number", "move", "moves"]
abbrev P_Live_change : List Str := ["self", "number", "move"]
theorem sc_Live_change : FnScope N_Live_change P_Live_change (defScope s_Live_change) := ⟨rfl, rfl, rfl, by decide +kernel, rfl, by decide +kernel, by decide +kernel⟩
noncomputable def g_law_step : SF := (sSeq (sAsg (mVar 3) (gT 2 (gsCons (gN 4) (gsCons (gN 5) gsNil))))
  (sSeq (sSet 6 (mOp gIx (mOp gAdd (mCall 3 M_law_moves_drawn [] (mCons (mVar 0) (mCons (mVar 2) (mCons (mC (.int 1)) mNil)))) (mLst (mCons (mTup (mCons (mOp gIx (mVar 2) (mUn gNeg (mC (.int 1)))) (mCons (mC (.int 1)) (mCons (mUn gNeg (mC (.int 1))) (mCons (mOp gIx (mVar 2) (mC (.int 0))) mNil))))) mNil))) (mC (.int 0))))
  (sSeq (sPar 7 8 false false (mCall 2 M_law_random [] (mCons (mVar 0) (mCons (mC (.int 5)) mNil))) (mCall 2 M_law_random [] (mCons (mVar 0) (mCons (mCallB gMax2 (mCons (mC (.int 1)) (mCons (mCallB gLen (mCons (mVar 4) mNil)) mNil))) mNil))))
  (sSeq (sIf (mAnd (mTv (mOp (gEqB false) (mVar 7) (mC (.int 0)))) (mTv (mOp (gLNil true) (mVar 5) (mLst mNil)))) (sSeq (sExpr (mMeth "Live" "back" 1 M_Live_back (mVar 1) mNil))
  (sSeq (sAsg (mTup (mCons (mOp gIx (mOp gIx (mVar 5) (mUn gNeg (mC (.int 1)))) (mC (.int 1))) (mCons (mSl (mVar 5) oNone (oSome (mUn gNeg (mC (.int 1))))) mNil))) (gT 2 (gsCons (gPutIx (mVar 3) (mC (.int 0))) (gsCons (gPutIx (mVar 3) (mC (.int 1))) gsNil))))
  sRetN)) sNil)
  (sSeq (sIf (mOr (mAnd (mTv (mOp (gEqB false) (mVar 7) (mC (.int 1)))) (mTv (mOp (gLNil true) (mVar 4) (mLst mNil)))) (mTv (mOp gGt (mCallB gLen (mCons (mVar 4) mNil)) (mC (.int 8))))) (sSeq (sExpr (mMeth "Live" "drop" 2 M_Live_drop (mVar 1) (mCons (mVar 8) mNil)))
  (sAsg (mTup (mCons (mOp gAdd (mSl (mVar 4) oNone (oSome (mVar 8))) (mSl (mVar 4) (oSome (mOp gAdd (mVar 8) (mC (.int 1)))) oNone)) (mCons (mTup (mCons (mC (.str "drop")) (mCons (mVar 8) mNil))) mNil))) (gT 2 (gsCons (gPutIx (mVar 3) (mC (.int 0))) (gsCons (gN 9) gsNil))))) (sIf (mAnd (mTv (mOp (gEqB false) (mVar 7) (mC (.int 2)))) (mTv (mOp (gLNil true) (mVar 4) (mLst mNil)))) (sSeq (sExpr (mMeth "Live" "change" 3 M_Live_change (mVar 1) (mCons (mVar 8) (mCons (mVar 6) mNil))))
  (sAsg (mTup (mCons (mOp gAdd (mOp gAdd (mSl (mVar 4) oNone (oSome (mVar 8))) (mLst (mCons (mVar 6) mNil))) (mSl (mVar 4) (oSome (mOp gAdd (mVar 8) (mC (.int 1)))) oNone)) (mCons (mTup (mCons (mC (.str "change")) (mCons (mVar 8) (mCons (mVar 6) mNil)))) mNil))) (gT 2 (gsCons (gPutIx (mVar 3) (mC (.int 0))) (gsCons (gN 9) gsNil))))) (sSeq (sExpr (mMeth "Live" "add" 2 M_Live_add (mVar 1) (mCons (mVar 6) mNil)))
  (sAsg (mTup (mCons (mOp gAdd (mVar 4) (mLst (mCons (mVar 6) mNil))) (mCons (mTup (mCons (mC (.str "add")) (mCons (mVar 6) mNil))) mNil))) (gT 2 (gsCons (gPutIx (mVar 3) (mC (.int 0))) (gsCons (gN 9) gsNil)))))))
  (sPutIx (mOp gAdd (mVar 5) (mLst (mCons (mTup (mCons (mVar 9) (mCons (mVar 4) mNil))) mNil))) (mVar 3) (mC (.int 1))))))))
noncomputable def M_law_step : FF := runF 10 g_law_step
abbrev N_law_step : List Str := ["_law_generator_here", "_law_live", "_law_places", "_law_state", "_law_moves", "_law_steps", "_law_move", "_law_kind", "_law_at", "_law_deed"]
abbrev P_law_step : List Str := ["_law_generator_here", "_law_live", "_law_places", "_law_state"]
theorem sc_law_step : FnScope N_law_step P_law_step (defScope s_law_step) := ⟨rfl, rfl, rfl, by decide +kernel, rfl, by decide +kernel, by decide +kernel⟩
noncomputable abbrev b1_law_undone : SF := (sSeq (sExpr (mMeth "Live" "back" 1 M_Live_back (mVar 0) mNil))
  (sIf (mTv (mOp (gEqB true) (mMeth "Program" "moves" 1 M_Program_moves (mMeth "Live" "shown" 1 M_Live_shown (mVar 0) mNil) mNil) (mVar 3))) (sRet (mC (.bl false))) sNil))
noncomputable def g_law_undone : SF := (sSeq (sFor (iSeq (mRev (mOp gIx (mVar 1) (mC (.int 1))))) (gT 2 (gsCons (gN 2) (gsCons (gN 3) gsNil))) b1_law_undone)
  (sSeq (sTry2 (inB ["NothingToUndo"]) (sExpr (mMeth "Live" "back" 1 M_Live_backN (mVar 0) mNil)) (sRet (mOp (gLNil false) (mMeth "Live" "log" 1 M_Live_logH (mVar 0) mNil) (mLst mNil))))
  (sRet (mC (.bl false)))))
noncomputable def M_law_undone : FF := runF 4 g_law_undone
abbrev N_law_undone : List Str := ["_law_live", "_law_state", "_law_deed", "_law_ahead"]
abbrev P_law_undone : List Str := ["_law_live", "_law_state"]
theorem sc_law_undone : FnScope N_law_undone P_law_undone (defScope s_law_undone) := ⟨rfl, rfl, rfl, by decide +kernel, rfl, by decide +kernel, by decide +kernel⟩
noncomputable abbrev b3_law : SF := (sIf (mOr (mTv (mEqX false "Live" (inB ["Program"]) M_Live_eq (mOp gIx (mVar 3) (mC (.int 0))) (mVar 9))) (mOr (mTv (mAlt (mEqX false "Live" (inB ["Program"]) M_Live_eq (mVar 9) (mOp gIx (mVar 3) (mC (.int 0)))) (mEqX false "Program" (inB ["Live"]) M_Program_eq (mVar 9) (mOp gIx (mVar 3) (mC (.int 0)))))) (mNotT (mTv (mEqX true "Live" (inB ["Program"]) M_Live_eq (mOp gIx (mVar 3) (mC (.int 0))) (mVar 9)))))) (sRet (mC (.bl false))) sNil)
noncomputable abbrev b2_law : SF := (sSeq (sSet 6 (mCall 2 M_law_random [] (mCons (mVar 1) (mCons (mCallB gLen (mCons (mVar 3) mNil)) mNil))))
  (sExpr (mCall 4 M_law_step [] (mCons (mVar 1) (mCons (mOp gIx (mVar 3) (mVar 6)) (mCons (mOp gIx (mVar 2) (mC (.int 0))) (mCons (mOp gIx (mVar 4) (mVar 6)) mNil)))))))
noncomputable abbrev b1_law : SF := (sSeq (sSet 1 (mSto (mCall 2 M_law_generator [] (mCons (mVar 0) (mCons (mVar 5) mNil)))))
  (sSeq (sIf (mAnd (mTv (mOp gLt (mCallB gLen (mCons (mVar 3) mNil)) (mC (.int 4)))) (mTv (mOp (gEqB false) (mCall 2 M_law_random [] (mCons (mVar 1) (mCons (mC (.int 3)) mNil))) (mC (.int 0))))) (sSeq (sSet 6 (mCall 2 M_law_random [] (mCons (mVar 1) (mCons (mCallB gLen (mCons (mVar 3) mNil)) mNil))))
  (sSeq (sApp (mVar 3) (mMeth "Live" "copy" 1 M_Live_copy (mOp gIx (mVar 3) (mVar 6)) mNil))
  (sApp (mVar 4) (mSto (mCallB gListOf (mCons (mOp gIx (mVar 4) (mVar 6)) mNil)))))) sNil)
  (sSeq (sFor (iRg1 (mC (.int 2))) (gN 7) b2_law)
  (sIf (mNotT (mTv (mCall 3 M_law_shows [] (mCons (mVar 3) (mCons (mOp gIx (mVar 2) (mC (.int 0))) (mCons (mVar 4) mNil)))))) (sRet (mC (.bl false))) sNil))))
noncomputable def g_law : SF := (sSeq (sSet 1 (mSto (mCall 2 M_law_generator [] (mCons (mVar 0) (mCons (mC (.int 0)) mNil)))))
  (sSeq (sSet 2 (mCall 3 M_law_drawn [] (mCons (mVar 1) (mCons (mC (.int 3)) (mCons (mC (.int 4)) mNil)))))
  (sSeq (sPar 3 4 false false (mSto (mLst (mCons (mCall 1 M_Live_init [] (mCons (mCall 1 M_law_program [] (mCons (mVar 2) mNil)) mNil)) mNil))) (mSto (mLst (mCons (mSto (mLst (mCons (mOp gIx (mVar 2) (mC (.int 1))) (mCons (mLst mNil) mNil)))) mNil))))
  (sSeq (sFor (iRg2 (mC (.int 1)) (mCallB gMax2 (mCons (mC (.int 2)) (mCons (mCallB gLen (mCons (mSlR (mVar 0) oNone (oSome (mC (.int 21)))) mNil)) mNil)))) (gN 5) b1_law)
  (sSeq (sSet 8 (mLst (mCons (mCall 1 M_Live_init [] (mCons (mCall 2 M_Program_init [] (mCons (mOp gAdd (mOp gIx (mVar 2) (mC (.int 0))) (mLst (mCons (mC (.str "zz")) mNil))) (mCons (mCallB gListOf (mCons (mOp gIx (mOp gIx (mVar 4) (mC (.int 0))) (mC (.int 0))) mNil)) mNil))) mNil)) (mCons (mCall 1 M_Live_init [] (mCons (mCall 2 M_Program_init [] (mCons (mLst (mCons (mC (.str "zz")) mNil)) (mCons (mLst mNil) mNil))) mNil)) mNil))))
  (sSeq (sFor (iSeq (mOp gAdd (mVar 8) (mLst (mCons (mC .non) (mCons (mC (.int 0)) (mCons (mLst mNil) (mCons mDct0 (mCons (mC (.str "live")) (mCons (mMeth "Live" "shown" 1 M_Live_shown (mOp gIx (mVar 3) (mC (.int 0))) mNil) mNil))))))))) (gN 9) b3_law)
  (sSeq (sIf (mOr (mTv (mEqA true "Live" M_Live_eq (mOp gIx (mVar 3) (mC (.int 0))) (mMeth "Live" "copy" 1 M_Live_copy (mOp gIx (mVar 3) (mC (.int 0))) mNil))) (mTv (mOp (gEqB true) (mMeth "Live" "log" 1 M_Live_log (mMeth "Live" "copy" 1 M_Live_copy (mOp gIx (mVar 3) (mC (.int 0))) mNil) mNil) (mMeth "Live" "log" 1 M_Live_log (mOp gIx (mVar 3) (mC (.int 0))) mNil)))) (sRet (mC (.bl false))) sNil)
  (sSeq (sIf (mOr (mNotT (mTv (mCall 0 M_law_many_right [] mNil))) (mNotT (mTv (mCall 1 M_law_no_program [] (mCons (mOp gIx (mVar 3) (mC (.int 0))) mNil))))) (sRet (mC (.bl false))) sNil)
  (sRet (mOp (gLNil false) (mLc [6] (iRg1 (mCallB gLen (mCons (mVar 3) mNil))) (gN 6) (mNotT (mTv (mCall 2 M_law_undone [] (mCons (mOp gIx (mVar 3) (mVar 6)) (mCons (mOp gIx (mVar 4) (mVar 6)) mNil))))) (mVar 6)) (mLst mNil)))))))))))
noncomputable def M_law : FF := runF 10 g_law
abbrev N_law : List Str := ["_law_script", "_law_generator_here", "_law_parts", "_law_lives", "_law_states", "_law_index", "_law_at", "_law_turn", "_law_others", "_law_thing"]
abbrev P_law : List Str := ["_law_script"]
theorem sc_law : FnScope N_law P_law (defScope s_law) := ⟨rfl, rfl, rfl, by decide +kernel, rfl, by decide +kernel, by decide +kernel⟩
structure Tx (P : Program) (K : PySem.W.Frag) (mg : Str → Option Value) where
  f_Program_eq : Addr
  d_Program_eq : FuncData
  F_Program_eq : Fun K "__eq__" "Program.__eq__" s_Program_eq f_Program_eq d_Program_eq
  b_Program_eq : Binds K d_Program_eq P_Program_eq []
  f_Live_eq : Addr
  d_Live_eq : FuncData
  F_Live_eq : Fun K "__eq__" "Live.__eq__" s_Live_eq f_Live_eq d_Live_eq
  b_Live_eq : Binds K d_Live_eq P_Live_eq []
  f_check_program : Addr
  d_check_program : FuncData
  F_check_program : Fun K "check_program" "check_program" s_check_program f_check_program d_check_program
  b_check_program : Binds K d_check_program P_check_program []
  m_check_program : mg "check_program" = some (.ref f_check_program)
  p_check_program : PySem.W.keepIn K (.ref f_check_program) = true
  f_Live_init : Addr
  d_Live_init : FuncData
  F_Live_init : Fun K "__init__" "Live.__init__" s_Live_init f_Live_init d_Live_init
  b_Live_init : Binds K d_Live_init P_Live_init []
  f_Live_copy : Addr
  d_Live_copy : FuncData
  F_Live_copy : Fun K "copy" "Live.copy" s_Live_copy f_Live_copy d_Live_copy
  b_Live_copy : Binds K d_Live_copy P_Live_copy []
  f_Live_log : Addr
  d_Live_log : FuncData
  F_Live_log : Fun K "log" "Live.log" s_Live_log f_Live_log d_Live_log
  b_Live_log : Binds K d_Live_log P_Live_log []
  f_is_whole : Addr
  d_is_whole : FuncData
  F_is_whole : Fun K "is_whole" "is_whole" s_is_whole f_is_whole d_is_whole
  b_is_whole : Binds K d_is_whole P_is_whole []
  m_is_whole : mg "is_whole" = some (.ref f_is_whole)
  p_is_whole : PySem.W.keepIn K (.ref f_is_whole) = true
  f_is_within : Addr
  d_is_within : FuncData
  F_is_within : Fun K "is_within" "is_within" s_is_within f_is_within d_is_within
  b_is_within : Binds K d_is_within P_is_within []
  m_is_within : mg "is_within" = some (.ref f_is_within)
  p_is_within : PySem.W.keepIn K (.ref f_is_within) = true
  f_is_move : Addr
  d_is_move : FuncData
  F_is_move : Fun K "is_move" "is_move" s_is_move f_is_move d_is_move
  b_is_move : Binds K d_is_move P_is_move []
  m_is_move : mg "is_move" = some (.ref f_is_move)
  p_is_move : PySem.W.keepIn K (.ref f_is_move) = true
  f_is_name : Addr
  d_is_name : FuncData
  F_is_name : Fun K "is_name" "is_name" s_is_name f_is_name d_is_name
  b_is_name : Binds K d_is_name P_is_name []
  m_is_name : mg "is_name" = some (.ref f_is_name)
  p_is_name : PySem.W.keepIn K (.ref f_is_name) = true
  f_Program_init : Addr
  d_Program_init : FuncData
  F_Program_init : Fun K "__init__" "Program.__init__" s_Program_init f_Program_init d_Program_init
  b_Program_init : Binds K d_Program_init P_Program_init []
  f_Program_moves : Addr
  d_Program_moves : FuncData
  F_Program_moves : Fun K "moves" "Program.moves" s_Program_moves f_Program_moves d_Program_moves
  b_Program_moves : Binds K d_Program_moves P_Program_moves []
  f_Program_places : Addr
  d_Program_places : FuncData
  F_Program_places : Fun K "places" "Program.places" s_Program_places f_Program_places d_Program_places
  b_Program_places : Binds K d_Program_places P_Program_places []
  f_Live_shown : Addr
  d_Live_shown : FuncData
  F_Live_shown : Fun K "shown" "Live.shown" s_Live_shown f_Live_shown d_Live_shown
  b_Live_shown : Binds K d_Live_shown P_Live_shown []
  f_law_hash : Addr
  d_law_hash : FuncData
  F_law_hash : Fun K "_law_hash" "_law_hash" s_law_hash f_law_hash d_law_hash
  b_law_hash : Binds K d_law_hash P_law_hash []
  m_law_hash : mg "_law_hash" = some (.ref f_law_hash)
  p_law_hash : PySem.W.keepIn K (.ref f_law_hash) = true
  f_law_random : Addr
  d_law_random : FuncData
  F_law_random : Fun K "_law_random" "_law_random" s_law_random f_law_random d_law_random
  b_law_random : Binds K d_law_random P_law_random []
  m_law_random : mg "_law_random" = some (.ref f_law_random)
  p_law_random : PySem.W.keepIn K (.ref f_law_random) = true
  f_law_moves_drawn : Addr
  d_law_moves_drawn : FuncData
  F_law_moves_drawn : Fun K "_law_moves_drawn" "_law_moves_drawn" s_law_moves_drawn f_law_moves_drawn d_law_moves_drawn
  b_law_moves_drawn : Binds K d_law_moves_drawn P_law_moves_drawn []
  m_law_moves_drawn : mg "_law_moves_drawn" = some (.ref f_law_moves_drawn)
  p_law_moves_drawn : PySem.W.keepIn K (.ref f_law_moves_drawn) = true
  f_law_drawn : Addr
  d_law_drawn : FuncData
  F_law_drawn : Fun K "_law_drawn" "_law_drawn" s_law_drawn f_law_drawn d_law_drawn
  b_law_drawn : Binds K d_law_drawn P_law_drawn []
  m_law_drawn : mg "_law_drawn" = some (.ref f_law_drawn)
  p_law_drawn : PySem.W.keepIn K (.ref f_law_drawn) = true
  f_law_cell : Addr
  d_law_cell : FuncData
  F_law_cell : Fun K "_law_cell" "_law_cell" s_law_cell f_law_cell d_law_cell
  b_law_cell : Binds K d_law_cell P_law_cell []
  m_law_cell : mg "_law_cell" = some (.ref f_law_cell)
  p_law_cell : PySem.W.keepIn K (.ref f_law_cell) = true
  f_law_generator : Addr
  d_law_generator : FuncData
  F_law_generator : Fun K "_law_generator" "_law_generator" s_law_generator f_law_generator d_law_generator
  b_law_generator : Binds K d_law_generator P_law_generator []
  m_law_generator : mg "_law_generator" = some (.ref f_law_generator)
  p_law_generator : PySem.W.keepIn K (.ref f_law_generator) = true
  f_Live_len : Addr
  d_Live_len : FuncData
  F_Live_len : Fun K "__len__" "Live.__len__" s_Live_len f_Live_len d_Live_len
  b_Live_len : Binds K d_Live_len P_Live_len []
  f_Live_check_move : Addr
  d_Live_check_move : FuncData
  F_Live_check_move : Fun K "check_move" "Live.check_move" s_Live_check_move f_Live_check_move d_Live_check_move
  b_Live_check_move : Binds K d_Live_check_move P_Live_check_move []
  f_Live_lead : Addr
  d_Live_lead : FuncData
  F_Live_lead : Fun K "lead" "Live.lead" s_Live_lead f_Live_lead d_Live_lead
  b_Live_lead : Binds K d_Live_lead P_Live_lead []
  f_Live_add : Addr
  d_Live_add : FuncData
  F_Live_add : Fun K "add" "Live.add" s_Live_add f_Live_add d_Live_add
  b_Live_add : Binds K d_Live_add P_Live_add []
  f_Live_back : Addr
  d_Live_back : FuncData
  F_Live_back : Fun K "back" "Live.back" s_Live_back f_Live_back d_Live_back
  b_Live_back : Binds K d_Live_back P_Live_back []
  f_Live_check_number : Addr
  d_Live_check_number : FuncData
  F_Live_check_number : Fun K "check_number" "Live.check_number" s_Live_check_number f_Live_check_number d_Live_check_number
  b_Live_check_number : Binds K d_Live_check_number P_Live_check_number []
  f_Live_drop : Addr
  d_Live_drop : FuncData
  F_Live_drop : Fun K "drop" "Live.drop" s_Live_drop f_Live_drop d_Live_drop
  b_Live_drop : Binds K d_Live_drop P_Live_drop []
  f_law_many_right : Addr
  d_law_many_right : FuncData
  F_law_many_right : Fun K "_law_many_right" "_law_many_right" s_law_many_right f_law_many_right d_law_many_right
  b_law_many_right : Binds K d_law_many_right P_law_many_right []
  m_law_many_right : mg "_law_many_right" = some (.ref f_law_many_right)
  p_law_many_right : PySem.W.keepIn K (.ref f_law_many_right) = true
  f_Tested_init : Addr
  d_Tested_init : FuncData
  F_Tested_init : Fun K "__init__" "Tested.__init__" s_Tested_init f_Tested_init d_Tested_init
  b_Tested_init : Binds K d_Tested_init P_Tested_init []
  f_least_endless : Addr
  d_least_endless : FuncData
  F_least_endless : Fun K "least_endless" "least_endless" s_least_endless f_least_endless d_least_endless
  b_least_endless : Binds K d_least_endless P_least_endless []
  m_least_endless : mg "least_endless" = some (.ref f_least_endless)
  p_least_endless : PySem.W.keepIn K (.ref f_least_endless) = true
  f_check_ways : Addr
  d_check_ways : FuncData
  F_check_ways : Fun K "check_ways" "check_ways" s_check_ways f_check_ways d_check_ways
  b_check_ways : Binds K d_check_ways P_check_ways []
  m_check_ways : mg "check_ways" = some (.ref f_check_ways)
  p_check_ways : PySem.W.keepIn K (.ref f_check_ways) = true
  f_least_for : Addr
  d_least_for : FuncData
  F_least_for : Fun K "least_for" "least_for" s_least_for f_least_for d_least_for
  b_least_for : Binds K d_least_for P_least_for []
  m_least_for : mg "least_for" = some (.ref f_least_for)
  p_least_for : PySem.W.keepIn K (.ref f_least_for) = true
  f_text_of : Addr
  d_text_of : FuncData
  F_text_of : Fun K "text_of" "text_of" s_text_of f_text_of d_text_of
  b_text_of : Binds K d_text_of P_text_of []
  m_text_of : mg "text_of" = some (.ref f_text_of)
  p_text_of : PySem.W.keepIn K (.ref f_text_of) = true
  f_check_pair : Addr
  d_check_pair : FuncData
  F_check_pair : Fun K "check_pair" "check_pair" s_check_pair f_check_pair d_check_pair
  b_check_pair : Binds K d_check_pair P_check_pair []
  m_check_pair : mg "check_pair" = some (.ref f_check_pair)
  p_check_pair : PySem.W.keepIn K (.ref f_check_pair) = true
  f_unlike : Addr
  d_unlike : FuncData
  F_unlike : Fun K "unlike" "unlike" s_unlike f_unlike d_unlike
  b_unlike : Binds K d_unlike P_unlike []
  m_unlike : mg "unlike" = some (.ref f_unlike)
  p_unlike : PySem.W.keepIn K (.ref f_unlike) = true
  f_law_no_program : Addr
  d_law_no_program : FuncData
  F_law_no_program : Fun K "_law_no_program" "_law_no_program" s_law_no_program f_law_no_program d_law_no_program
  b_law_no_program : Binds K d_law_no_program P_law_no_program []
  m_law_no_program : mg "_law_no_program" = some (.ref f_law_no_program)
  p_law_no_program : PySem.W.keepIn K (.ref f_law_no_program) = true
  f_law_program : Addr
  d_law_program : FuncData
  F_law_program : Fun K "_law_program" "_law_program" s_law_program f_law_program d_law_program
  b_law_program : Binds K d_law_program P_law_program []
  m_law_program : mg "_law_program" = some (.ref f_law_program)
  p_law_program : PySem.W.keepIn K (.ref f_law_program) = true
  f_law_shows : Addr
  d_law_shows : FuncData
  F_law_shows : Fun K "_law_shows" "_law_shows" s_law_shows f_law_shows d_law_shows
  b_law_shows : Binds K d_law_shows P_law_shows []
  m_law_shows : mg "_law_shows" = some (.ref f_law_shows)
  p_law_shows : PySem.W.keepIn K (.ref f_law_shows) = true
  f_Live_change : Addr
  d_Live_change : FuncData
  F_Live_change : Fun K "change" "Live.change" s_Live_change f_Live_change d_Live_change
  b_Live_change : Binds K d_Live_change P_Live_change []
  f_law_step : Addr
  d_law_step : FuncData
  F_law_step : Fun K "_law_step" "_law_step" s_law_step f_law_step d_law_step
  b_law_step : Binds K d_law_step P_law_step []
  m_law_step : mg "_law_step" = some (.ref f_law_step)
  p_law_step : PySem.W.keepIn K (.ref f_law_step) = true
  f_law_undone : Addr
  d_law_undone : FuncData
  F_law_undone : Fun K "_law_undone" "_law_undone" s_law_undone f_law_undone d_law_undone
  b_law_undone : Binds K d_law_undone P_law_undone []
  m_law_undone : mg "_law_undone" = some (.ref f_law_undone)
  p_law_undone : PySem.W.keepIn K (.ref f_law_undone) = true
  f_law : Addr
  d_law : FuncData
  F_law : Fun K "law" "law" s_law f_law d_law
  b_law : Binds K d_law P_law []
  m_law : mg "law" = some (.ref f_law)
  p_law : PySem.W.keepIn K (.ref f_law) = true
  z_bool : mg "bool" = none
  z_enumerate : mg "enumerate" = none
  z_int : mg "int" = none
  z_isinstance : mg "isinstance" = none
  z_len : mg "len" = none
  z_list : mg "list" = none
  z_max : mg "max" = none
  z_min : mg "min" = none
  z_range : mg "range" = none
  z_repr : mg "repr" = none
  z_str : mg "str" = none
  z_tuple : mg "tuple" = none
  t_LETTERS : Tok
  g_LETTERS : mg "LETTERS" = some (.str "abcdefghijklmnopqrstuvwxyz" t_LETTERS)
  t_MOST_CHANGE : Tok
  g_MOST_CHANGE : mg "MOST_CHANGE" = some (.int 4 t_MOST_CHANGE)
  t_MOST_LEAST : Tok
  g_MOST_LEAST : mg "MOST_LEAST" = some (.int 8 t_MOST_LEAST)
  t_MOST_LETTERS : Tok
  g_MOST_LETTERS : mg "MOST_LETTERS" = some (.int 8 t_MOST_LETTERS)
  t_MOST_MOVES : Tok
  g_MOST_MOVES : mg "MOST_MOVES" = some (.int 10 t_MOST_MOVES)
  t_MOST_PLACES : Tok
  g_MOST_PLACES : mg "MOST_PLACES" = some (.int 4 t_MOST_PLACES)
  c_Program : Addr
  mc_Program : mg "Program" = some (.ref c_Program)
  cl_Program : L2.Cls K c_Program
  mk_Program : Mk K c_Program f_Program_init
  nt_Program : ∀ t b, noT t = some b → PySem.W.kitOne K (.type t) (.ref c_Program) = some b
  eqi_Program : ∀ c, c ∈ CS → ∀ C, mg c = some (.ref C) → InsC K C ∧ PySem.W.kitOne K (.ref C) (.ref c_Program) = some (decide (c = "Program"))
  c_Live : Addr
  mc_Live : mg "Live" = some (.ref c_Live)
  cl_Live : L2.Cls K c_Live
  mk_Live : Mk K c_Live f_Live_init
  nt_Live : ∀ t b, noT t = some b → PySem.W.kitOne K (.type t) (.ref c_Live) = some b
  eqi_Live : ∀ c, c ∈ CS → ∀ C, mg c = some (.ref C) → InsC K C ∧ PySem.W.kitOne K (.ref C) (.ref c_Live) = some (decide (c = "Live"))
  c_Tested : Addr
  mc_Tested : mg "Tested" = some (.ref c_Tested)
  cl_Tested : L2.Cls K c_Tested
  mk_Tested : Mk K c_Tested f_Tested_init
  me_Live_eq : Meth K c_Live "__eq__" f_Live_eq
  me_Live_len : Meth K c_Live "__len__" f_Live_len
  me_Live_add : Meth K c_Live "add" f_Live_add
  me_Live_back : Meth K c_Live "back" f_Live_back
  me_Live_change : Meth K c_Live "change" f_Live_change
  me_Live_check_move : Meth K c_Live "check_move" f_Live_check_move
  me_Live_check_number : Meth K c_Live "check_number" f_Live_check_number
  me_Live_copy : Meth K c_Live "copy" f_Live_copy
  me_Live_drop : Meth K c_Live "drop" f_Live_drop
  me_Live_lead : Meth K c_Live "lead" f_Live_lead
  me_Live_log : Meth K c_Live "log" f_Live_log
  me_Live_shown : Meth K c_Live "shown" f_Live_shown
  me_Program_eq : Meth K c_Program "__eq__" f_Program_eq
  me_Program_moves : Meth K c_Program "moves" f_Program_moves
  me_Program_places : Meth K c_Program "places" f_Program_places
  nf_Live_Program : ∀ c, inB ["Program"] c = true → ∀ C, mg c = some (.ref C) → PySem.W.notFirst K c_Live (.ref C) = true
  nf_Program_Live : ∀ c, inB ["Live"] c = true → ∀ C, mg c = some (.ref C) → PySem.W.notFirst K c_Program (.ref C) = true
  eo_Live : EqOwn K c_Live f_Live_eq
  eb_Live : EqBack K c_Live
  eo_Program : EqOwn K c_Program f_Program_eq
  eb_Program : EqBack K c_Program
  fI_folio : ∀ n C, inB ["Program"] n = true → mg n = some (.ref C) → L2.Cls K C ∧ NoAttr K C "folio"
  fI_now : ∀ n C, inB ["Live"] n = true → mg n = some (.ref C) → L2.Cls K C ∧ NoAttr K C "now"
  fI_past : ∀ n C, inB ["Live"] n = true → mg n = some (.ref C) → L2.Cls K C ∧ NoAttr K C "past"
  fI_stands : ∀ n C, inB ["Program"] n = true → mg n = some (.ref C) → L2.Cls K C ∧ NoAttr K C "stands"
  fI_steps : ∀ n C, inB ["Program"] n = true → mg n = some (.ref C) → L2.Cls K C ∧ NoAttr K C "steps"
  c_InvalidItem : Addr
  mc_InvalidItem : mg "InvalidItem" = some (.ref c_InvalidItem)
  j_InvalidItem : Addr
  dj_InvalidItem : FuncData
  i_InvalidItem : Ini P K mg "value" c_InvalidItem j_InvalidItem dj_InvalidItem
  bi_InvalidItem : Binds K dj_InvalidItem ["self", "value"] []
  c_InvalidList : Addr
  mc_InvalidList : mg "InvalidList" = some (.ref c_InvalidList)
  j_InvalidList : Addr
  dj_InvalidList : FuncData
  i_InvalidList : Ini P K mg "value" c_InvalidList j_InvalidList dj_InvalidList
  bi_InvalidList : Binds K dj_InvalidList ["self", "value"] []
  c_InvalidNumber : Addr
  mc_InvalidNumber : mg "InvalidNumber" = some (.ref c_InvalidNumber)
  j_InvalidNumber : Addr
  dj_InvalidNumber : FuncData
  i_InvalidNumber : Ini P K mg "value" c_InvalidNumber j_InvalidNumber dj_InvalidNumber
  bi_InvalidNumber : Binds K dj_InvalidNumber ["self", "value"] []
  c_InvalidProgram : Addr
  mc_InvalidProgram : mg "InvalidProgram" = some (.ref c_InvalidProgram)
  em_InvalidProgram : ∀ e C, inB ["InvalidProgram"] e = true → mg e = some (.ref C) → PySem.W.exmOne K (.ref C) (.ref c_InvalidProgram) = some true
  j_InvalidProgram : Addr
  dj_InvalidProgram : FuncData
  i_InvalidProgram : Ini P K mg "value" c_InvalidProgram j_InvalidProgram dj_InvalidProgram
  bi_InvalidProgram : Binds K dj_InvalidProgram ["self", "value"] []
  c_NothingToUndo : Addr
  mc_NothingToUndo : mg "NothingToUndo" = some (.ref c_NothingToUndo)
  xi_NothingToUndo : PySem.W.excIn K c_NothingToUndo [.type "ValueError", .type "Exception", .type "BaseException", .type "object"] "ValueError.__new__" = true
  kp_NothingToUndo : PySem.W.keepIn K (.ref c_NothingToUndo) = true
  ex_NothingToUndo : PySem.W.subIn K (.ref c_NothingToUndo) (.type "BaseException") = some true
  ty_NothingToUndo : PySem.W.typeIn K (.ref c_NothingToUndo) = some (.type "type")
  em_NothingToUndo : ∀ e C, inB ["NothingToUndo"] e = true → mg e = some (.ref C) → PySem.W.exmOne K (.ref C) (.ref c_NothingToUndo) = some true
  fE_value : ∀ n C, inB ES n = true → mg n = some (.ref C) → ExcC K C ∧ NoAttr K C "value"
section
variable {P : Program} {w : World} {K : PySem.W.Frag} {mg : Str → Option Value}
theorem Tx.k_Program_eq (T : Tx P K mg) (base : Heap) : FnG P w K mg base 3 T.f_Program_eq T.d_Program_eq P_Program_eq (spM ⟨K, mg⟩ 2 M_Program_eq) := by
  refine fnM (k := 2) (N := N_Program_eq) T.F_Program_eq sc_Program_eq (by decide) fun X B W cdv A outer s H E hX hr tk => ?_
  subst hX
  have nd : (N_Program_eq).Nodup := sc_Program_eq.nd
  exact (ss_one (ss_ret (se_and (se_isD (by rfl) T.z_isinstance (by rfl) T.mc_Program T.nt_Program (se_var 1) (eqc_use T.eqi_Program) noC_I) (se_one (se_eq hr.r (se_tup (sa_cons (se_fld (se_var 0) T.fI_stands noB_I) (sa_cons (se_fld (se_var 0) T.fI_steps noB_I) sa_nil))) (se_tup (sa_cons (se_fld (se_var 1) T.fI_stands noB_I) (sa_cons (se_fld (se_var 1) T.fI_steps noB_I) sa_nil))))))))
theorem Tx.k_Live_eq (T : Tx P K mg) (base : Heap) : FnG P w K mg base 5 T.f_Live_eq T.d_Live_eq P_Live_eq (spM ⟨K, mg⟩ 2 M_Live_eq) := by
  refine fnM (k := 4) (N := N_Live_eq) T.F_Live_eq sc_Live_eq (by decide) fun X B W cdv A outer s H E hX hr tk => ?_
  subst hX
  have nd : (N_Live_eq).Nodup := sc_Live_eq.nd
  exact (ss_one (ss_ret (se_and (se_isD (by rfl) T.z_isinstance (by rfl) T.mc_Live T.nt_Live (se_var 1) (eqc_use T.eqi_Live) noC_I) (se_one (se_eqA (se_fld (se_var 0) T.fI_now noB_I) (se_fld (se_var 1) T.fI_now noB_I) T.eo_Program T.eb_Program T.mc_Program (T.k_Program_eq base) (hr.mono (by decide)) tk T.b_Program_eq)))))
theorem Tx.k_check_program (T : Tx P K mg) (base : Heap) : FnG P w K mg base 3 T.f_check_program T.d_check_program P_check_program (spM ⟨K, mg⟩ 1 M_check_program) := by
  refine fnM (k := 2) (N := N_check_program) T.F_check_program sc_check_program (by decide) fun X B W cdv A outer s H E hX hr tk => ?_
  subst hX
  have nd : (N_check_program).Nodup := sc_check_program.nd
  exact (ss_one (ss_if (st_not (st_val (se_isD (by rfl) T.z_isinstance (by rfl) T.mc_Program T.nt_Program (se_var 0) (eqc_use T.eqi_Program) noC_I))) (ss_one (ss_raise (k := 0) rfl tk T.i_InvalidProgram (hr.mono (by decide)) T.bi_InvalidProgram .nil (fun _ _ _ => .nil) rfl T.mc_InvalidProgram (sa_cons (se_var 0) sa_nil))) ss_nil))
theorem Tx.k_Live_init (T : Tx P K mg) (base : Heap) : FnG P w K mg base 4 T.f_Live_init T.d_Live_init P_Live_init (spS ⟨K, mg⟩ "Live" 2 M_Live_init) := by
  refine fnS (k := 3) (N := N_Live_init) T.F_Live_init sc_Live_init (by decide) fun X B W cdv A outer s H E hX hr tk => ?_
  subst hX
  have nd : (N_Live_init).Nodup := sc_Live_init.nd
  exact (ss_cons (ss_expr (se_call (T.k_check_program base) (hr.mono (by decide)) tk (by rfl) T.m_check_program T.p_check_program T.b_check_program .nil (fun _ _ _ => .nil) (sa_cons (se_var 1) sa_nil)))
      (ss_cons (ss_putF (se_var 1) (se_var 0) T.fI_now)
      (ss_one (ss_putF (se_sto (se_lst sa_nil)) (se_var 0) T.fI_past))))
theorem Tx.k_Live_copy (T : Tx P K mg) (base : Heap) : FnG P w K mg base 6 T.f_Live_copy T.d_Live_copy P_Live_copy (spM ⟨K, mg⟩ 1 M_Live_copy) := by
  refine fnM (k := 5) (N := N_Live_copy) T.F_Live_copy sc_Live_copy (by decide) fun X B W cdv A outer s H E hX hr tk => ?_
  subst hX
  have nd : (N_Live_copy).Nodup := sc_Live_copy.nd
  exact (ss_cons (ss_set 1 nd (se_makeS (n := 1) T.mk_Live (T.k_Live_init base) (hr.mono (by decide)) tk (by rfl) T.mc_Live T.b_Live_init (sa_cons (se_fld (se_var 0) T.fI_now noB_I) sa_nil)))
      (ss_cons (ss_putF (se_sto (se_callTy call_list_of ok_listOf (by rfl) T.z_list PyProof.Rows.Boot.«list» (sa_cons (se_fld (se_var 0) T.fI_past noB_I) sa_nil))) (se_var 1) T.fI_past)
      (ss_one (ss_ret (se_var 1)))))
theorem Tx.k_Live_logH (T : Tx P K mg) (base : Heap) : L2H.FnH P w K mg base (L2.CX P w) 3 T.f_Live_log T.d_Live_log P_Live_log (spM ⟨K, mg⟩ 1 M_Live_logH) := by
  refine fnMH (k := 2) (N := N_Live_log) T.F_Live_log sc_Live_log (by decide) fun X B W cdv A outer s H E p hX hr hot => ?_
  subst hX
  exact (ss_one (ss_ret (se_lc0 hot (se_fld (se_var 0) T.fI_past noB_I) (blkOk_by (own := [("deed", 1), ("ahead", 2)]) (by show blkC N_Live_log (defScope s_Live_log) _ _ = true; decide +kernel)))))
theorem Tx.k_Live_log (T : Tx P K mg) (base : Heap) : FnG P w K mg base 3 T.f_Live_log T.d_Live_log P_Live_log (spM ⟨K, mg⟩ 1 M_Live_log) := by
  refine fnM (k := 2) (N := N_Live_log) T.F_Live_log sc_Live_log (by decide) fun X B W cdv A outer s H E hX hr tk => ?_
  subst hX
  have nd : (N_Live_log).Nodup := sc_Live_log.nd
  exact (ss_one (ss_ret (se_lc rfl nd (si_seq (se_fld (se_var 0) T.fI_past noB_I)) (blkOk_by (own := [("deed", 1), ("ahead", 2)]) (by show blkC N_Live_log (defScope s_Live_log) _ _ = true; decide +kernel)) (fun _ _ _ _ _ _ => (sg_tup rfl (sgs_cons (sg_name (vs := _) 1 nd) (sgs_cons (sg_name (vs := _) 2 nd) sgs_nil)))) (fun _ _ _ _ _ _ => spts_nil) (fun _ _ _ _ _ _ => (se_var 1)))))
theorem Tx.k_is_whole (T : Tx P K mg) (base : Heap) : FnG P w K mg base 3 T.f_is_whole T.d_is_whole P_is_whole (spM ⟨K, mg⟩ 1 M_is_whole) := by
  refine fnM (k := 2) (N := N_is_whole) T.F_is_whole sc_is_whole (by decide) fun X B W cdv A outer s H E hX hr tk => ?_
  subst hX
  have nd : (N_is_whole).Nodup := sc_is_whole.nd
  exact (ss_one (ss_ret (se_and (se_isT "int" (by rfl) T.z_isinstance (by rfl) T.z_int PyProof.Rows.Boot.«int» isT_int (se_var 0) noC_I noC_I) (se_one (se_not (se_isT "bool" (by rfl) T.z_isinstance (by rfl) T.z_bool PyProof.Rows.Boot.«bool» isT_bool (se_var 0) noC_I noC_I))))))
theorem Tx.k_is_within (T : Tx P K mg) (base : Heap) : FnG P w K mg base 4 T.f_is_within T.d_is_within P_is_within (spM ⟨K, mg⟩ 3 M_is_within) := by
  refine fnM (k := 3) (N := N_is_within) T.F_is_within sc_is_within (by decide) fun X B W cdv A outer s H E hX hr tk => ?_
  subst hX
  have nd : (N_is_within).Nodup := sc_is_within.nd
  exact (ss_one (ss_ret (se_and (se_call (T.k_is_whole base) (hr.mono (by decide)) tk (by rfl) T.m_is_whole T.p_is_whole T.b_is_whole .nil (fun _ _ _ => .nil) (sa_cons (se_var 0) sa_nil)) (se_one (se_lele (se_var 1) (se_var 0) (se_var 2))))))
theorem Tx.k_is_move (T : Tx P K mg) (base : Heap) : FnG P w K mg base 5 T.f_is_move T.d_is_move P_is_move (spM ⟨K, mg⟩ 2 M_is_move) := by
  refine fnM (k := 4) (N := N_is_move) T.F_is_move sc_is_move (by decide) fun X B W cdv A outer s H E hX hr tk => ?_
  subst hX
  have nd : (N_is_move).Nodup := sc_is_move.nd
  exact (ss_cons (ss_if (st_w (sw_or (st_not (st_val (se_isT "tuple" (by rfl) T.z_isinstance (by rfl) T.z_tuple PyProof.Rows.Boot.«tuple» isT_tuple (se_var 0) noC_I noC_I))) (sw_or (st_ne hr (se_callB call_len ok_len (by rfl) T.z_len PyProof.Rows.Boot.«len» (sa_cons (se_var 0) sa_nil)) se_int) (sw_or (st_notInA hr (se_ix (se_var 0) se_int) (se_var 1)) (sw_or1 (st_notInA hr (se_ix (se_var 0) se_int) (se_var 1))))))) (ss_one (ss_ret se_bl)) ss_nil)
      (ss_cons (ss_if (st_w (sw_or (st_not (st_val (se_call (T.k_is_within base) (hr.mono (by decide)) tk (by rfl) T.m_is_within T.p_is_within T.b_is_within .nil (fun _ _ _ => .nil) (sa_cons (se_ix (se_var 0) se_int) (sa_cons se_int (sa_cons (se_glob (v := .int 8) (by rfl) T.g_MOST_LEAST ⟨_, rfl⟩ (fun _ _ _ => .int _)) sa_nil)))))) (sw_or1 (st_not (st_val (se_call (T.k_is_within base) (hr.mono (by decide)) tk (by rfl) T.m_is_within T.p_is_within T.b_is_within .nil (fun _ _ _ => .nil) (sa_cons (se_ix (se_var 0) se_int) (sa_cons (se_neg (se_glob (v := .int 4) (by rfl) T.g_MOST_CHANGE ⟨_, rfl⟩ (fun _ _ _ => .int _))) (sa_cons (se_glob (v := .int 4) (by rfl) T.g_MOST_CHANGE ⟨_, rfl⟩ (fun _ _ _ => .int _)) sa_nil))))))))) (ss_one (ss_ret se_bl)) ss_nil)
      (ss_one (ss_ret (se_lele se_int (se_add (se_ix (se_var 0) se_int) (se_ix (se_var 0) se_int)) (se_glob (v := .int 8) (by rfl) T.g_MOST_LEAST ⟨_, rfl⟩ (fun _ _ _ => .int _)))))))
theorem Tx.k_is_name (T : Tx P K mg) (base : Heap) : FnG P w K mg base 3 T.f_is_name T.d_is_name P_is_name (spM ⟨K, mg⟩ 1 M_is_name) := by
  refine fnM (k := 2) (N := N_is_name) T.F_is_name sc_is_name (by decide) fun X B W cdv A outer s H E hX hr tk => ?_
  subst hX
  have nd : (N_is_name).Nodup := sc_is_name.nd
  exact (ss_cons (ss_if (st_w (sw_or (st_not (st_val (se_isT "str" (by rfl) T.z_isinstance (by rfl) T.z_str PyProof.Rows.Boot.«str» isT_str (se_var 0) noC_I noC_I))) (sw_or1 (st_not (st_lele se_int (se_callB call_len ok_len (by rfl) T.z_len PyProof.Rows.Boot.«len» (sa_cons (se_var 0) sa_nil)) (se_glob (v := .int 8) (by rfl) T.g_MOST_LETTERS ⟨_, rfl⟩ (fun _ _ _ => .int _))))))) (ss_one (ss_ret se_bl)) ss_nil)
      (ss_one (ss_ret (se_eq hr.r (se_lc rfl nd (si_str (se_var 0)) (blkOk_by (own := [("letter", 1)]) (by show blkC N_is_name (defScope s_is_name) _ _ = true; decide +kernel)) (fun _ _ _ _ _ _ => (sg_name (vs := _) 1 nd)) (fun _ _ _ _ _ _ => (spts_one (st_notInA hr (se_var 1) (se_glob (v := .str "abcdefghijklmnopqrstuvwxyz") (by rfl) T.g_LETTERS ⟨_, rfl⟩ (fun _ _ _ => .str _))))) (fun _ _ _ _ _ _ => (se_var 1))) (se_lst sa_nil)))))
theorem Tx.k_Program_init (T : Tx P K mg) (base : Heap) : FnG P w K mg base 6 T.f_Program_init T.d_Program_init P_Program_init (spI ⟨K, mg⟩ "Program" 3 M_Program_init) := by
  refine fnI (k := 5) (N := N_Program_init) T.F_Program_init sc_Program_init (by decide) fun X B W cdv A outer s H E hX hr tk => ?_
  subst hX
  have nd : (N_Program_init).Nodup := sc_Program_init.nd
  exact (ss_cons (ss_if (st_w (sw_or (st_not (st_val (se_isT "list" (by rfl) T.z_isinstance (by rfl) T.z_list PyProof.Rows.Boot.«list» isT_list (se_var 1) noC_I noC_I))) (sw_or1 (st_not (st_lele se_int (se_callB call_len ok_len (by rfl) T.z_len PyProof.Rows.Boot.«len» (sa_cons (se_var 1) sa_nil)) (se_glob (v := .int 4) (by rfl) T.g_MOST_PLACES ⟨_, rfl⟩ (fun _ _ _ => .int _))))))) (ss_one (ss_raise (k := 0) rfl tk T.i_InvalidList (hr.mono (by decide)) T.bi_InvalidList .nil (fun _ _ _ => .nil) rfl T.mc_InvalidList (sa_cons (se_var 1) sa_nil))) ss_nil)
      (ss_cons (ss_for (vs := [3, 4]) (passes_of rfl) rfl (si_enum (by rfl) T.z_enumerate (se_var 1)) (sg_tup rfl (sgs_cons (sg_name (vs := [3, 4]) 3 nd) (sgs_cons (sg_name (vs := [3, 4]) 4 nd) sgs_nil))) (ss_one (ss_if (st_w (sw_or (st_not (st_val (se_call (T.k_is_name base) (hr.mono (by decide)) tk (by rfl) T.m_is_name T.p_is_name T.b_is_name .nil (fun _ _ _ => .nil) (sa_cons (se_var 4) sa_nil)))) (sw_or1 (st_inA hr (se_var 4) (se_slice (se_var 1) so_none (so_some (se_var 3))))))) (ss_one (ss_raise (k := 0) rfl tk T.i_InvalidItem (hr.mono (by decide)) T.bi_InvalidItem .nil (fun _ _ _ => .nil) rfl T.mc_InvalidItem (sa_cons (se_var 4) sa_nil))) ss_nil)))
      (ss_cons (ss_if (st_w (sw_or (st_not (st_val (se_isT "list" (by rfl) T.z_isinstance (by rfl) T.z_list PyProof.Rows.Boot.«list» isT_list (se_var 2) noC_I noC_I))) (sw_or1 (st_gt (se_callB call_len ok_len (by rfl) T.z_len PyProof.Rows.Boot.«len» (sa_cons (se_var 2) sa_nil)) (se_glob (v := .int 10) (by rfl) T.g_MOST_MOVES ⟨_, rfl⟩ (fun _ _ _ => .int _)))))) (ss_one (ss_raise (k := 0) rfl tk T.i_InvalidList (hr.mono (by decide)) T.bi_InvalidList .nil (fun _ _ _ => .nil) rfl T.mc_InvalidList (sa_cons (se_var 2) sa_nil))) ss_nil)
      (ss_cons (ss_for (vs := [5]) (passes_of rfl) rfl (si_seq (se_var 2)) (sg_name (vs := [5]) 5 nd) (ss_one (ss_if (st_not (st_val (se_call (T.k_is_move base) (hr.mono (by decide)) tk (by rfl) T.m_is_move T.p_is_move T.b_is_move .nil (fun _ _ _ => .nil) (sa_cons (se_var 5) (sa_cons (se_var 1) sa_nil))))) (ss_one (ss_raise (k := 0) rfl tk T.i_InvalidItem (hr.mono (by decide)) T.bi_InvalidItem .nil (fun _ _ _ => .nil) rfl T.mc_InvalidItem (sa_cons (se_var 5) sa_nil))) ss_nil)))
      (ss_cons (ss_putF (se_callTy call_tuple_of ok_tupOf (by rfl) T.z_tuple PyProof.Rows.Boot.«tuple» (sa_cons (se_var 1) sa_nil)) (se_var 0) T.fI_stands)
      (ss_cons (ss_putF (se_callTy call_tuple_of ok_tupOf (by rfl) T.z_tuple PyProof.Rows.Boot.«tuple» (sa_cons (se_var 2) sa_nil)) (se_var 0) T.fI_steps)
      (ss_one (ss_putF (se_lst sa_nil) (se_var 0) T.fI_folio))))))))
theorem Tx.k_Program_moves (T : Tx P K mg) (base : Heap) : FnG P w K mg base 3 T.f_Program_moves T.d_Program_moves P_Program_moves (spM ⟨K, mg⟩ 1 M_Program_moves) := by
  refine fnM (k := 2) (N := N_Program_moves) T.F_Program_moves sc_Program_moves (by decide) fun X B W cdv A outer s H E hX hr tk => ?_
  subst hX
  have nd : (N_Program_moves).Nodup := sc_Program_moves.nd
  exact (ss_one (ss_ret (se_callTy call_list_of ok_listOf (by rfl) T.z_list PyProof.Rows.Boot.«list» (sa_cons (se_fld (se_var 0) T.fI_steps noB_I) sa_nil))))
theorem Tx.k_Program_places (T : Tx P K mg) (base : Heap) : FnG P w K mg base 3 T.f_Program_places T.d_Program_places P_Program_places (spM ⟨K, mg⟩ 1 M_Program_places) := by
  refine fnM (k := 2) (N := N_Program_places) T.F_Program_places sc_Program_places (by decide) fun X B W cdv A outer s H E hX hr tk => ?_
  subst hX
  have nd : (N_Program_places).Nodup := sc_Program_places.nd
  exact (ss_one (ss_ret (se_callTy call_list_of ok_listOf (by rfl) T.z_list PyProof.Rows.Boot.«list» (sa_cons (se_fld (se_var 0) T.fI_stands noB_I) sa_nil))))
theorem Tx.k_Live_shown (T : Tx P K mg) (base : Heap) : FnG P w K mg base 8 T.f_Live_shown T.d_Live_shown P_Live_shown (spM ⟨K, mg⟩ 1 M_Live_shown) := by
  refine fnM (k := 7) (N := N_Live_shown) T.F_Live_shown sc_Live_shown (by decide) fun X B W cdv A outer s H E hX hr tk => ?_
  subst hX
  have nd : (N_Live_shown).Nodup := sc_Live_shown.nd
  exact (ss_one (ss_ret (se_make (n := 2) T.mk_Program (T.k_Program_init base) (hr.mono (by decide)) tk (by rfl) T.mc_Program T.b_Program_init (sa_cons (se_meth0 (c := "Program") (se_fld (se_var 0) T.fI_now noB_I) T.cl_Program T.me_Program_places T.mc_Program (T.k_Program_places base) (hr.mono (by decide)) tk T.b_Program_places) (sa_cons (se_meth0 (c := "Program") (se_fld (se_var 0) T.fI_now noB_I) T.cl_Program T.me_Program_moves T.mc_Program (T.k_Program_moves base) (hr.mono (by decide)) tk T.b_Program_moves) sa_nil)))))
theorem Tx.k_law_hash (T : Tx P K mg) (base : Heap) : FnG P w K mg base 3 T.f_law_hash T.d_law_hash P_law_hash (spM ⟨K, mg⟩ 2 M_law_hash) := by
  refine fnM (k := 2) (N := N_law_hash) T.F_law_hash sc_law_hash (by decide) fun X B W cdv A outer s H E hX hr tk => ?_
  subst hX
  have nd : (N_law_hash).Nodup := sc_law_hash.nd
  exact (ss_cons (ss_set 2 nd (se_mod (se_callTy call_int1 ok_int1 (by rfl) T.z_int PyProof.Rows.Boot.«int» (sa_cons (se_add (se_add (se_add (se_mul (se_var 0) se_int) (se_mul (se_mul se_int (se_var 1)) (se_var 1))) (se_var 1)) se_int) sa_nil)) se_int))
      (ss_cons (ss_set 2 nd (se_mod (se_callTy call_int1 ok_int1 (by rfl) T.z_int PyProof.Rows.Boot.«int» (sa_cons (se_add (se_mul (se_var 2) (se_var 2)) se_int) sa_nil)) se_int))
      (ss_one (ss_ret (se_mod (se_callTy call_int1 ok_int1 (by rfl) T.z_int PyProof.Rows.Boot.«int» (sa_cons (se_mul (se_var 2) se_int) sa_nil)) se_int)))))
theorem Tx.k_law_random (T : Tx P K mg) (base : Heap) : FnG P w K mg base 4 T.f_law_random T.d_law_random P_law_random (spM ⟨K, mg⟩ 2 M_law_random) := by
  refine fnM (k := 3) (N := N_law_random) T.F_law_random sc_law_random (by decide) fun X B W cdv A outer s H E hX hr tk => ?_
  subst hX
  have nd : (N_law_random).Nodup := sc_law_random.nd
  exact (ss_cons (ss_if (st_gt (se_ix (se_var 0) se_int) se_int) (ss_cons (ss_set 2 nd (se_mod (se_callTy call_int1 ok_int1 (by rfl) T.z_int PyProof.Rows.Boot.«int» (sa_cons (se_ix (se_var 0) se_int) sa_nil)) (se_var 1)))
      (ss_cons (ss_putIx (se_fdiv (se_ix (se_var 0) se_int) (se_var 1)) (se_var 0) se_int)
      (ss_one (ss_ret (se_var 2))))) ss_nil)
      (ss_cons (ss_set 2 nd se_int)
      (ss_cons (ss_for (vs := [3]) (passes_of rfl) rfl (si_rg1 (by rfl) T.z_range (se_add se_int (se_fdiv (se_bits (se_var 1)) se_int))) (sg_name (vs := [3]) 3 nd) (ss_cons (ss_putIx (se_add (se_ix (se_var 0) se_int) se_int) (se_var 0) se_int)
      (ss_one (ss_set 2 nd (se_add (se_mul (se_var 2) se_int) (se_call (T.k_law_hash base) (hr.mono (by decide)) tk (by rfl) T.m_law_hash T.p_law_hash T.b_law_hash .nil (fun _ _ _ => .nil) (sa_cons (se_ix (se_var 0) se_int) (sa_cons (se_ix (se_var 0) se_int) sa_nil))))))))
      (ss_one (ss_ret (se_mod (se_callTy call_int1 ok_int1 (by rfl) T.z_int PyProof.Rows.Boot.«int» (sa_cons (se_var 2) sa_nil)) (se_var 1)))))))
theorem Tx.k_law_moves_drawn (T : Tx P K mg) (base : Heap) : FnG P w K mg base 5 T.f_law_moves_drawn T.d_law_moves_drawn P_law_moves_drawn (spM ⟨K, mg⟩ 3 M_law_moves_drawn) := by
  refine fnM (k := 4) (N := N_law_moves_drawn) T.F_law_moves_drawn sc_law_moves_drawn (by decide) fun X B W cdv A outer s H E hX hr tk => ?_
  subst hX
  have nd : (N_law_moves_drawn).Nodup := sc_law_moves_drawn.nd
  exact (ss_cons (ss_own 3 nd (se_lst sa_nil))
      (ss_cons (ss_for (vs := [4]) (passes_of rfl) rfl (si_rg1 (by rfl) T.z_range (se_call (T.k_law_random base) (hr.mono (by decide)) tk (by rfl) T.m_law_random T.p_law_random T.b_law_random .nil (fun _ _ _ => .nil) (sa_cons (se_var 0) (sa_cons (se_add (se_var 2) se_int) sa_nil)))) (sg_name (vs := [4]) 4 nd) (ss_cons (ss_set 5 nd (se_sub (se_call (T.k_law_random base) (hr.mono (by decide)) tk (by rfl) T.m_law_random T.p_law_random T.b_law_random .nil (fun _ _ _ => .nil) (sa_cons (se_var 0) (sa_cons se_int sa_nil))) se_int))
      (ss_cons (ss_set 6 nd (se_ix (se_lst (sa_cons se_int (sa_cons se_int (sa_cons se_int (sa_cons se_int (sa_cons se_int sa_nil)))))) (se_call (T.k_law_random base) (hr.mono (by decide)) tk (by rfl) T.m_law_random T.p_law_random T.b_law_random .nil (fun _ _ _ => .nil) (sa_cons (se_var 0) (sa_cons se_int sa_nil)))))
      (ss_cons (ss_set 7 nd (se_callB (call_min2 rfl) ok_min2 (by rfl) T.z_min PyProof.Rows.Boot.«min» (sa_cons (se_add (se_callB (call_max2 rfl) ok_max2 (by rfl) T.z_max PyProof.Rows.Boot.«max» (sa_cons se_int (sa_cons (se_sub se_int (se_var 5)) sa_nil))) (se_var 6)) (sa_cons (se_sub se_int (se_callB (call_max2 rfl) ok_max2 (by rfl) T.z_max PyProof.Rows.Boot.«max» (sa_cons se_int (sa_cons (se_var 5) sa_nil)))) sa_nil))))
      (ss_cons (ss_par 8 9 false false rfl nd (se_ix (se_var 1) (se_call (T.k_law_random base) (hr.mono (by decide)) tk (by rfl) T.m_law_random T.p_law_random T.b_law_random .nil (fun _ _ _ => .nil) (sa_cons (se_var 0) (sa_cons (se_callB call_len ok_len (by rfl) T.z_len PyProof.Rows.Boot.«len» (sa_cons (se_var 1) sa_nil)) sa_nil)))) (fun _ => (se_ix (se_var 1) (se_call (T.k_law_random base) (hr.mono (by decide)) tk (by rfl) T.m_law_random T.p_law_random T.b_law_random .nil (fun _ _ _ => .nil) (sa_cons (se_var 0) (sa_cons (se_callB call_len ok_len (by rfl) T.z_len PyProof.Rows.Boot.«len» (sa_cons (se_var 1) sa_nil)) sa_nil))))))
      (ss_one (ss_app (se_var 3) (se_tup (sa_cons (se_var 8) (sa_cons (se_var 7) (sa_cons (se_var 5) (sa_cons (se_var 9) sa_nil))))))))))))
      (ss_one (ss_ret (se_var 3)))))
theorem Tx.k_law_drawn (T : Tx P K mg) (base : Heap) : FnG P w K mg base 6 T.f_law_drawn T.d_law_drawn P_law_drawn (spM ⟨K, mg⟩ 3 M_law_drawn) := by
  refine fnM (k := 5) (N := N_law_drawn) T.F_law_drawn sc_law_drawn (by decide) fun X B W cdv A outer s H E hX hr tk => ?_
  subst hX
  have nd : (N_law_drawn).Nodup := sc_law_drawn.nd
  exact (ss_cons (ss_set 3 nd (se_slice (se_lst (sa_cons se_str (sa_cons se_str (sa_cons se_str (sa_cons se_str sa_nil))))) so_none (so_some (se_add se_int (se_call (T.k_law_random base) (hr.mono (by decide)) tk (by rfl) T.m_law_random T.p_law_random T.b_law_random .nil (fun _ _ _ => .nil) (sa_cons (se_var 0) (sa_cons (se_var 1) sa_nil)))))))
      (ss_one (ss_ret (se_lst (sa_cons (se_var 3) (sa_cons (se_call (T.k_law_moves_drawn base) (hr.mono (by decide)) tk (by rfl) T.m_law_moves_drawn T.p_law_moves_drawn T.b_law_moves_drawn .nil (fun _ _ _ => .nil) (sa_cons (se_var 0) (sa_cons (se_var 3) (sa_cons (se_var 2) sa_nil)))) sa_nil))))))
theorem Tx.k_law_cell (T : Tx P K mg) (base : Heap) : FnG P w K mg base 3 T.f_law_cell T.d_law_cell P_law_cell (spM ⟨K, mg⟩ 2 M_law_cell) := by
  refine fnM (k := 2) (N := N_law_cell) T.F_law_cell sc_law_cell (by decide) fun X B W cdv A outer s H E hX hr tk => ?_
  subst hX
  have nd : (N_law_cell).Nodup := sc_law_cell.nd
  exact (ss_cons (ss_if (st_lt (se_var 1) (se_callB call_len ok_len (by rfl) T.z_len PyProof.Rows.Boot.«len» (sa_cons (se_var 0) sa_nil))) (ss_one (ss_ret (se_ix (se_var 0) (se_var 1)))) ss_nil)
      (ss_one (ss_ret se_int)))
theorem Tx.k_law_generator (T : Tx P K mg) (base : Heap) : FnG P w K mg base 4 T.f_law_generator T.d_law_generator P_law_generator (spM ⟨K, mg⟩ 2 M_law_generator) := by
  refine fnM (k := 3) (N := N_law_generator) T.F_law_generator sc_law_generator (by decide) fun X B W cdv A outer s H E hX hr tk => ?_
  subst hX
  have nd : (N_law_generator).Nodup := sc_law_generator.nd
  exact (ss_cons (ss_set 2 nd (se_call (T.k_law_cell base) (hr.mono (by decide)) tk (by rfl) T.m_law_cell T.p_law_cell T.b_law_cell .nil (fun _ _ _ => .nil) (sa_cons (se_var 0) (sa_cons (se_var 1) sa_nil))))
      (ss_one (ss_ret (se_lst (sa_cons (se_mod (se_callTy call_int1 ok_int1 (by rfl) T.z_int PyProof.Rows.Boot.«int» (sa_cons (se_callB (call_max2 rfl) ok_max2 (by rfl) T.z_max PyProof.Rows.Boot.«max» (sa_cons (se_sub (se_var 2) (se_pow se_int se_int)) (sa_cons se_int sa_nil))) sa_nil)) (se_pow (se_pow se_int se_int) se_int)) (sa_cons (se_mod (se_callTy call_int1 ok_int1 (by rfl) T.z_int PyProof.Rows.Boot.«int» (sa_cons (se_var 2) sa_nil)) se_int) (sa_cons (se_mul se_int (se_var 1)) sa_nil)))))))
theorem Tx.k_Live_len (T : Tx P K mg) (base : Heap) : FnG P w K mg base 3 T.f_Live_len T.d_Live_len P_Live_len (spM ⟨K, mg⟩ 1 M_Live_len) := by
  refine fnM (k := 2) (N := N_Live_len) T.F_Live_len sc_Live_len (by decide) fun X B W cdv A outer s H E hX hr tk => ?_
  subst hX
  have nd : (N_Live_len).Nodup := sc_Live_len.nd
  exact (ss_one (ss_ret (se_callB call_len ok_len (by rfl) T.z_len PyProof.Rows.Boot.«len» (sa_cons (se_fld (se_fld (se_var 0) T.fI_now noB_I) T.fI_steps noB_I) sa_nil))))
theorem Tx.k_Live_check_move (T : Tx P K mg) (base : Heap) : FnG P w K mg base 6 T.f_Live_check_move T.d_Live_check_move P_Live_check_move (spM ⟨K, mg⟩ 2 M_Live_check_move) := by
  refine fnM (k := 5) (N := N_Live_check_move) T.F_Live_check_move sc_Live_check_move (by decide) fun X B W cdv A outer s H E hX hr tk => ?_
  subst hX
  have nd : (N_Live_check_move).Nodup := sc_Live_check_move.nd
  exact (ss_one (ss_if (st_not (st_val (se_call (T.k_is_move base) (hr.mono (by decide)) tk (by rfl) T.m_is_move T.p_is_move T.b_is_move .nil (fun _ _ _ => .nil) (sa_cons (se_var 1) (sa_cons (se_meth0 (c := "Program") (se_fld (se_var 0) T.fI_now noB_I) T.cl_Program T.me_Program_places T.mc_Program (T.k_Program_places base) (hr.mono (by decide)) tk T.b_Program_places) sa_nil))))) (ss_one (ss_raise (k := 0) rfl tk T.i_InvalidItem (hr.mono (by decide)) T.bi_InvalidItem .nil (fun _ _ _ => .nil) rfl T.mc_InvalidItem (sa_cons (se_var 1) sa_nil))) ss_nil))
theorem Tx.k_Live_lead (T : Tx P K mg) (base : Heap) : FnG P w K mg base 8 T.f_Live_lead T.d_Live_lead P_Live_lead (spM ⟨K, mg⟩ 3 M_Live_lead) := by
  refine fnM (k := 7) (N := N_Live_lead) T.F_Live_lead sc_Live_lead (by decide) fun X B W cdv A outer s H E hX hr tk => ?_
  subst hX
  have nd : (N_Live_lead).Nodup := sc_Live_lead.nd
  exact (ss_cons (ss_app (se_fld (se_var 0) T.fI_past noB_I) (se_tup (sa_cons (se_var 1) (sa_cons (se_fld (se_var 0) T.fI_now noB_I) sa_nil))))
      (ss_one (ss_putF (se_make (n := 2) T.mk_Program (T.k_Program_init base) (hr.mono (by decide)) tk (by rfl) T.mc_Program T.b_Program_init (sa_cons (se_meth0 (c := "Program") (se_fld (se_var 0) T.fI_now noB_I) T.cl_Program T.me_Program_places T.mc_Program (T.k_Program_places base) (hr.mono (by decide)) tk T.b_Program_places) (sa_cons (se_var 2) sa_nil))) (se_var 0) T.fI_now)))
theorem Tx.k_Live_add (T : Tx P K mg) (base : Heap) : FnG P w K mg base 9 T.f_Live_add T.d_Live_add P_Live_add (spM ⟨K, mg⟩ 2 M_Live_add) := by
  refine fnM (k := 8) (N := N_Live_add) T.F_Live_add sc_Live_add (by decide) fun X B W cdv A outer s H E hX hr tk => ?_
  subst hX
  have nd : (N_Live_add).Nodup := sc_Live_add.nd
  exact (ss_cons (ss_expr (se_meth (c := "Live") (se_var 0) T.cl_Live T.me_Live_check_move T.mc_Live (T.k_Live_check_move base) (hr.mono (by decide)) tk T.b_Live_check_move (sa_cons (se_var 1) sa_nil)))
      (ss_cons (ss_if (st_ge (se_callB call_len ok_len (by rfl) T.z_len PyProof.Rows.Boot.«len» (sa_cons (se_fld (se_fld (se_var 0) T.fI_now noB_I) T.fI_steps noB_I) sa_nil)) (se_glob (v := .int 10) (by rfl) T.g_MOST_MOVES ⟨_, rfl⟩ (fun _ _ _ => .int _))) (ss_one (ss_raise (k := 0) rfl tk T.i_InvalidList (hr.mono (by decide)) T.bi_InvalidList .nil (fun _ _ _ => .nil) rfl T.mc_InvalidList (sa_cons (se_meth0 (c := "Program") (se_fld (se_var 0) T.fI_now noB_I) T.cl_Program T.me_Program_moves T.mc_Program (T.k_Program_moves base) (hr.mono (by decide)) tk T.b_Program_moves) sa_nil))) ss_nil)
      (ss_one (ss_expr (se_meth (c := "Live") (se_var 0) T.cl_Live T.me_Live_lead T.mc_Live (T.k_Live_lead base) (hr.mono (by decide)) tk T.b_Live_lead (sa_cons (se_tup (sa_cons se_str (sa_cons (se_var 1) sa_nil))) (sa_cons (se_add (se_meth0 (c := "Program") (se_fld (se_var 0) T.fI_now noB_I) T.cl_Program T.me_Program_moves T.mc_Program (T.k_Program_moves base) (hr.mono (by decide)) tk T.b_Program_moves) (se_lst (sa_cons (se_var 1) sa_nil))) sa_nil)))))))
theorem Tx.k_Live_back (T : Tx P K mg) (base : Heap) : FnG P w K mg base 3 T.f_Live_back T.d_Live_back P_Live_back (spM ⟨K, mg⟩ 1 M_Live_back) := by
  refine fnM (k := 2) (N := N_Live_back) T.F_Live_back sc_Live_back (by decide) fun X B W cdv A outer s H E hX hr tk => ?_
  subst hX
  have nd : (N_Live_back).Nodup := sc_Live_back.nd
  exact (ss_cons (ss_if (st_eqNil hr (se_fld (se_var 0) T.fI_past noB_I) (se_lst sa_nil)) (ss_one (ss_raiseN rfl tk PySem.F.excBase_ValueError T.xi_NothingToUndo T.kp_NothingToUndo (raises_own T.ex_NothingToUndo T.ty_NothingToUndo) (by rfl) T.mc_NothingToUndo)) ss_nil)
      (ss_one (ss_asg (vs := [1, 0]) (se_lpop (se_fld (se_var 0) T.fI_past noB_I)) (sg_tup rfl (sgs_cons (sg_name (vs := [1, 0]) 1 nd) (sgs_cons (sg_putF (vs := [1, 0]) (se_var 0) T.fI_now) sgs_nil))))))
theorem Tx.k_Live_backN (T : Tx P K mg) (base : Heap) : FnN P w K mg base 3 T.f_Live_back T.d_Live_back P_Live_back (spM ⟨K, mg⟩ 1 M_Live_backN) := by
  refine fnMN (k := 2) (N := N_Live_back) T.F_Live_back sc_Live_back (by decide) fun X B W cdv A outer s H E hX hr tk => ?_
  subst hX
  exact (ss_cons (ss_if (st_eqNil hr (se_fld (se_var 0) T.fI_past noB_I) (se_lst sa_nil)) (ss_one (ss_raiseNN rfl tk PySem.F.excBase_ValueError T.xi_NothingToUndo T.kp_NothingToUndo (raises_own T.ex_NothingToUndo T.ty_NothingToUndo) (by rfl) T.mc_NothingToUndo)) ss_nil) (ss_one ss_bad))
theorem Tx.k_Live_check_number (T : Tx P K mg) (base : Heap) : FnG P w K mg base 5 T.f_Live_check_number T.d_Live_check_number P_Live_check_number (spM ⟨K, mg⟩ 2 M_Live_check_number) := by
  refine fnM (k := 4) (N := N_Live_check_number) T.F_Live_check_number sc_Live_check_number (by decide) fun X B W cdv A outer s H E hX hr tk => ?_
  subst hX
  have nd : (N_Live_check_number).Nodup := sc_Live_check_number.nd
  exact (ss_one (ss_if (st_not (st_val (se_call (T.k_is_within base) (hr.mono (by decide)) tk (by rfl) T.m_is_within T.p_is_within T.b_is_within .nil (fun _ _ _ => .nil) (sa_cons (se_var 1) (sa_cons se_int (sa_cons (se_sub (se_callB call_len ok_len (by rfl) T.z_len PyProof.Rows.Boot.«len» (sa_cons (se_fld (se_fld (se_var 0) T.fI_now noB_I) T.fI_steps noB_I) sa_nil)) se_int) sa_nil)))))) (ss_one (ss_raise (k := 0) rfl tk T.i_InvalidNumber (hr.mono (by decide)) T.bi_InvalidNumber .nil (fun _ _ _ => .nil) rfl T.mc_InvalidNumber (sa_cons (se_var 1) sa_nil))) ss_nil))
theorem Tx.k_Live_drop (T : Tx P K mg) (base : Heap) : FnG P w K mg base 9 T.f_Live_drop T.d_Live_drop P_Live_drop (spM ⟨K, mg⟩ 2 M_Live_drop) := by
  refine fnM (k := 8) (N := N_Live_drop) T.F_Live_drop sc_Live_drop (by decide) fun X B W cdv A outer s H E hX hr tk => ?_
  subst hX
  have nd : (N_Live_drop).Nodup := sc_Live_drop.nd
  exact (ss_cons (ss_expr (se_meth (c := "Live") (se_var 0) T.cl_Live T.me_Live_check_number T.mc_Live (T.k_Live_check_number base) (hr.mono (by decide)) tk T.b_Live_check_number (sa_cons (se_var 1) sa_nil)))
      (ss_cons (ss_set 2 nd (se_meth0 (c := "Program") (se_fld (se_var 0) T.fI_now noB_I) T.cl_Program T.me_Program_moves T.mc_Program (T.k_Program_moves base) (hr.mono (by decide)) tk T.b_Program_moves))
      (ss_one (ss_expr (se_meth (c := "Live") (se_var 0) T.cl_Live T.me_Live_lead T.mc_Live (T.k_Live_lead base) (hr.mono (by decide)) tk T.b_Live_lead (sa_cons (se_tup (sa_cons se_str (sa_cons (se_var 1) sa_nil))) (sa_cons (se_add (se_slice (se_var 2) so_none (so_some (se_var 1))) (se_slice (se_var 2) (so_some (se_add (se_var 1) se_int)) so_none)) sa_nil)))))))
theorem Tx.k_law_many_right (T : Tx P K mg) (base : Heap) : FnG P w K mg base 10 T.f_law_many_right T.d_law_many_right P_law_many_right (spM ⟨K, mg⟩ 0 M_law_many_right) := by
  refine fnM (k := 9) (N := N_law_many_right) T.F_law_many_right sc_law_many_right (by decide) fun X B W cdv A outer s H E hX hr tk => ?_
  subst hX
  have nd : (N_law_many_right).Nodup := sc_law_many_right.nd
  exact (ss_cons (ss_set 0 nd (se_makeS (n := 1) T.mk_Live (T.k_Live_init base) (hr.mono (by decide)) tk (by rfl) T.mc_Live T.b_Live_init (sa_cons (se_make (n := 2) T.mk_Program (T.k_Program_init base) (hr.mono (by decide)) tk (by rfl) T.mc_Program T.b_Program_init (sa_cons (se_lst (sa_cons se_str sa_nil)) (sa_cons (se_lst sa_nil) sa_nil))) sa_nil)))
      (ss_cons (ss_for (vs := [1]) (passes_of rfl) rfl (si_rg1 (by rfl) T.z_range se_int) (sg_name (vs := [1]) 1 nd) (ss_cons (ss_expr (se_meth (c := "Live") (se_var 0) T.cl_Live T.me_Live_add T.mc_Live (T.k_Live_add base) (hr.mono (by decide)) tk T.b_Live_add (sa_cons (se_tup (sa_cons se_str (sa_cons se_int (sa_cons se_int (sa_cons se_str sa_nil))))) sa_nil)))
      (ss_one (ss_expr (se_meth (c := "Live") (se_var 0) T.cl_Live T.me_Live_drop T.mc_Live (T.k_Live_drop base) (hr.mono (by decide)) tk T.b_Live_drop (sa_cons se_int sa_nil))))))
      (ss_cons (ss_if (st_ne hr (se_meth0 (c := "Live") (se_var 0) T.cl_Live T.me_Live_log T.mc_Live (T.k_Live_log base) (hr.mono (by decide)) tk T.b_Live_log) (se_mul (se_lst (sa_cons (se_tup (sa_cons se_str (sa_cons (se_tup (sa_cons se_str (sa_cons se_int (sa_cons se_int (sa_cons se_str sa_nil))))) sa_nil))) (sa_cons (se_tup (sa_cons se_str (sa_cons se_int sa_nil))) sa_nil))) se_int)) (ss_one (ss_ret se_bl)) ss_nil)
      (ss_cons (ss_for (vs := [1]) (passes_of rfl) rfl (si_rg1 (by rfl) T.z_range se_int) (sg_name (vs := [1]) 1 nd) (ss_cons (ss_expr (se_meth0 (c := "Live") (se_var 0) T.cl_Live T.me_Live_back T.mc_Live (T.k_Live_back base) (hr.mono (by decide)) tk T.b_Live_back))
      (ss_one (ss_if (st_ne hr (se_lenI (se_var 0) T.me_Live_len T.mc_Live (T.k_Live_len base) (hr.mono (by decide)) T.b_Live_len (by rfl) T.z_len) (se_mod (se_add (se_var 1) se_int) se_int)) (ss_one (ss_ret se_bl)) ss_nil))))
      (ss_one (ss_ret (se_and (se_eqNil hr (se_meth0 (c := "Live") (se_var 0) T.cl_Live T.me_Live_log T.mc_Live (T.k_Live_log base) (hr.mono (by decide)) tk T.b_Live_log) (se_lst sa_nil)) (se_one (se_eqNil hr (se_meth0 (c := "Live") (se_makeS (n := 1) T.mk_Live (T.k_Live_init base) (hr.mono (by decide)) tk (by rfl) T.mc_Live T.b_Live_init (sa_cons (se_make (n := 2) T.mk_Program (T.k_Program_init base) (hr.mono (by decide)) tk (by rfl) T.mc_Program T.b_Program_init (sa_cons (se_lst (sa_cons se_str sa_nil)) (sa_cons (se_lst sa_nil) sa_nil))) sa_nil)) T.cl_Live T.me_Live_log T.mc_Live (T.k_Live_log base) (hr.mono (by decide)) tk T.b_Live_log) (se_lst sa_nil))))))))))
theorem Tx.k_Tested_init (T : Tx P K mg) (base : Heap) : FnG P w K mg base 4 T.f_Tested_init T.d_Tested_init P_Tested_init (spI ⟨K, mg⟩ "Tested" 3 M_Tested_init) := by
  refine fnI (k := 3) (N := N_Tested_init) T.F_Tested_init sc_Tested_init (by decide) fun X B W cdv A outer s H E hX hr tk => ?_
  subst hX
  have nd : (N_Tested_init).Nodup := sc_Tested_init.nd
  exact (ss_cons (ss_expr (se_call (T.k_check_program base) (hr.mono (by decide)) tk (by rfl) T.m_check_program T.p_check_program T.b_check_program .nil (fun _ _ _ => .nil) (sa_cons (se_var 1) sa_nil)))
      (ss_cons ss_bad
      (ss_cons ss_bad
      (ss_cons ss_bad
      (ss_one ss_bad)))))
theorem Tx.k_least_endless (T : Tx P K mg) (base : Heap) : FnG P w K mg base 4 T.f_least_endless T.d_least_endless P_least_endless (spM ⟨K, mg⟩ 2 M_least_endless) := by
  refine fnM (k := 3) (N := N_least_endless) T.F_least_endless sc_least_endless (by decide) fun X B W cdv A outer s H E hX hr tk => ?_
  subst hX
  have nd : (N_least_endless).Nodup := sc_least_endless.nd
  exact (ss_cons (ss_expr (se_call (T.k_check_program base) (hr.mono (by decide)) tk (by rfl) T.m_check_program T.p_check_program T.b_check_program .nil (fun _ _ _ => .nil) (sa_cons (se_var 0) sa_nil)))
      (ss_cons ss_bad
      (ss_cons ss_bad
      (ss_one ss_bad))))
theorem Tx.k_check_ways (T : Tx P K mg) (base : Heap) : FnG P w K mg base 4 T.f_check_ways T.d_check_ways P_check_ways (spM ⟨K, mg⟩ 4 M_check_ways) := by
  refine fnM (k := 3) (N := N_check_ways) T.F_check_ways sc_check_ways (by decide) fun X B W cdv A outer s H E hX hr tk => ?_
  subst hX
  have nd : (N_check_ways).Nodup := sc_check_ways.nd
  exact (ss_cons (ss_expr (se_call (T.k_check_program base) (hr.mono (by decide)) tk (by rfl) T.m_check_program T.p_check_program T.b_check_program .nil (fun _ _ _ => .nil) (sa_cons (se_var 0) sa_nil)))
      (ss_cons ss_bad
      (ss_cons ss_bad
      (ss_one ss_bad))))
theorem Tx.k_least_for (T : Tx P K mg) (base : Heap) : FnG P w K mg base 5 T.f_least_for T.d_least_for P_least_for (spM ⟨K, mg⟩ 4 M_least_for) := by
  refine fnM (k := 4) (N := N_least_for) T.F_least_for sc_least_for (by decide) fun X B W cdv A outer s H E hX hr tk => ?_
  subst hX
  have nd : (N_least_for).Nodup := sc_least_for.nd
  exact (ss_cons (ss_expr (se_call (T.k_check_ways base) (hr.mono (by decide)) tk (by rfl) T.m_check_ways T.p_check_ways T.b_check_ways .nil (fun _ _ _ => .nil) (sa_cons (se_var 0) (sa_cons (se_var 1) (sa_cons (se_var 2) (sa_cons (se_var 3) sa_nil))))))
      (ss_one ss_bad))
theorem Tx.k_text_of (T : Tx P K mg) (base : Heap) : FnG P w K mg base 4 T.f_text_of T.d_text_of P_text_of (spM ⟨K, mg⟩ 1 M_text_of) := by
  refine fnM (k := 3) (N := N_text_of) T.F_text_of sc_text_of (by decide) fun X B W cdv A outer s H E hX hr tk => ?_
  subst hX
  have nd : (N_text_of).Nodup := sc_text_of.nd
  exact (ss_cons (ss_expr (se_call (T.k_check_program base) (hr.mono (by decide)) tk (by rfl) T.m_check_program T.p_check_program T.b_check_program .nil (fun _ _ _ => .nil) (sa_cons (se_var 0) sa_nil)))
      (ss_cons ss_bad
      (ss_cons ss_bad
      (ss_one (ss_fz 1 ss_bad)))))
theorem Tx.k_check_pair (T : Tx P K mg) (base : Heap) : FnG P w K mg base 4 T.f_check_pair T.d_check_pair P_check_pair (spM ⟨K, mg⟩ 2 M_check_pair) := by
  refine fnM (k := 3) (N := N_check_pair) T.F_check_pair sc_check_pair (by decide) fun X B W cdv A outer s H E hX hr tk => ?_
  subst hX
  have nd : (N_check_pair).Nodup := sc_check_pair.nd
  exact (ss_cons (ss_expr (se_call (T.k_check_program base) (hr.mono (by decide)) tk (by rfl) T.m_check_program T.p_check_program T.b_check_program .nil (fun _ _ _ => .nil) (sa_cons (se_var 0) sa_nil)))
      (ss_one (ss_if (st_w (sw_or (st_not (st_val (se_isD (by rfl) T.z_isinstance (by rfl) T.mc_Program T.nt_Program (se_var 1) (eqc_use T.eqi_Program) noC_I))) (sw_or1 (st_ne hr (se_fld (se_var 0) T.fI_stands noB_I) (se_fld (se_var 1) T.fI_stands noB_I))))) (ss_one (ss_raise (k := 0) rfl tk T.i_InvalidProgram (hr.mono (by decide)) T.bi_InvalidProgram .nil (fun _ _ _ => .nil) rfl T.mc_InvalidProgram (sa_cons (se_var 1) sa_nil))) ss_nil)))
theorem Tx.k_unlike (T : Tx P K mg) (base : Heap) : FnG P w K mg base 5 T.f_unlike T.d_unlike P_unlike (spM ⟨K, mg⟩ 2 M_unlike) := by
  refine fnM (k := 4) (N := N_unlike) T.F_unlike sc_unlike (by decide) fun X B W cdv A outer s H E hX hr tk => ?_
  subst hX
  have nd : (N_unlike).Nodup := sc_unlike.nd
  exact (ss_cons (ss_expr (se_call (T.k_check_pair base) (hr.mono (by decide)) tk (by rfl) T.m_check_pair T.p_check_pair T.b_check_pair .nil (fun _ _ _ => .nil) (sa_cons (se_var 0) (sa_cons (se_var 1) sa_nil))))
      (ss_one ss_bad))
theorem Tx.k_law_no_program (T : Tx P K mg) (base : Heap) : FnG P w K mg base 9 T.f_law_no_program T.d_law_no_program P_law_no_program (spM ⟨K, mg⟩ 1 M_law_no_program) := by
  refine fnM (k := 8) (N := N_law_no_program) T.F_law_no_program sc_law_no_program (by decide) fun X B W cdv A outer s H E hX hr tk => ?_
  subst hX
  have nd : (N_law_no_program).Nodup := sc_law_no_program.nd
  exact (ss_cons (ss_for (vs := [1]) (passes_of rfl) rfl (si_rg1 (by rfl) T.z_range se_int) (sg_name (vs := [1]) 1 nd) (ss_cons (ss_set 2 nd se_non)
      (ss_cons (ss_try (p := (inB ["InvalidProgram"])) (i := 3) rfl rfl nd ⟨rfl, by decide, .inl T.mc_InvalidProgram⟩ tk T.em_InvalidProgram (fun _ _ _ tk2 po2 => (ss_one (ss_if (st_eq hr (se_var 1) se_int) (ss_one (ss_expr (se_call (T.k_least_for base) (hr.mono (by decide)) tk2 (by rfl) T.m_least_for T.p_least_for T.b_least_for .nil (fun _ _ _ => .nil) (sa_cons (se_var 0) (sa_cons se_str (sa_cons se_str (sa_cons se_int sa_nil))))))) (ss_one (ss_if (st_eq hr (se_var 1) se_int) (ss_one (ss_expr (se_call (T.k_text_of base) (hr.mono (by decide)) tk2 (by rfl) T.m_text_of T.p_text_of T.b_text_of .nil (fun _ _ _ => .nil) (sa_cons (se_var 0) sa_nil)))) (ss_one (ss_if (st_eq hr (se_var 1) se_int) (ss_one (ss_expr (se_make (n := 2) T.mk_Tested (T.k_Tested_init base) (hr.mono (by decide)) tk2 (by rfl) T.mc_Tested T.b_Tested_init (sa_cons (se_var 0) (sa_cons (se_lst sa_nil) sa_nil))))) (ss_one (ss_if (st_eq hr (se_var 1) se_int) (ss_one (ss_expr (se_call (T.k_unlike base) (hr.mono (by decide)) tk2 (by rfl) T.m_unlike T.p_unlike T.b_unlike .nil (fun _ _ _ => .nil) (sa_cons (se_meth0 (c := "Live") (se_var 0) T.cl_Live T.me_Live_shown T.mc_Live (T.k_Live_shown base) (hr.mono (by decide)) tk2 T.b_Live_shown) (sa_cons (se_var 0) sa_nil))))) (ss_one (ss_if (st_eq hr (se_var 1) se_int) (ss_one (ss_expr (se_call (T.k_least_endless base) (hr.mono (by decide)) tk2 (by rfl) T.m_least_endless T.p_least_endless T.b_least_endless .nil (fun _ _ _ => .nil) (sa_cons (se_var 0) (sa_cons se_str sa_nil))))) (ss_one (ss_expr (se_makeS (n := 1) T.mk_Live (T.k_Live_init base) (hr.mono (by decide)) tk2 (by rfl) T.mc_Live T.b_Live_init (sa_cons (se_var 0) sa_nil))))))))))))))) (fun _ _ => (ss_one (ss_set 2 nd (se_var 3)))))
      (ss_one (ss_if (st_w (sw_or (st_isN (se_var 2) se_non) (sw_or1 (st_not (st_val (se_isD (by rfl) T.z_isinstance (by rfl) T.mc_Live T.nt_Live (se_fld (se_var 2) noB_I T.fE_value) (eqc_use T.eqi_Live) noC_I)))))) (ss_one (ss_ret se_bl)) ss_nil)))))
      (ss_one (ss_ret se_bl)))
theorem Tx.k_law_program (T : Tx P K mg) (base : Heap) : FnG P w K mg base 8 T.f_law_program T.d_law_program P_law_program (spM ⟨K, mg⟩ 1 M_law_program) := by
  refine fnM (k := 7) (N := N_law_program) T.F_law_program sc_law_program (by decide) fun X B W cdv A outer s H E hX hr tk => ?_
  subst hX
  have nd : (N_law_program).Nodup := sc_law_program.nd
  exact (ss_one (ss_ret (se_make (n := 2) T.mk_Program (T.k_Program_init base) (hr.mono (by decide)) tk (by rfl) T.mc_Program T.b_Program_init (sa_cons (se_callTy call_list_of ok_listOf (by rfl) T.z_list PyProof.Rows.Boot.«list» (sa_cons (se_ix (se_var 0) se_int) sa_nil)) (sa_cons (se_callTy call_list_of ok_listOf (by rfl) T.z_list PyProof.Rows.Boot.«list» (sa_cons (se_ix (se_var 0) se_int) sa_nil)) sa_nil)))))
theorem Tx.k_law_shows (T : Tx P K mg) (base : Heap) : FnG P w K mg base 9 T.f_law_shows T.d_law_shows P_law_shows (spM ⟨K, mg⟩ 3 M_law_shows) := by
  refine fnM (k := 8) (N := N_law_shows) T.F_law_shows sc_law_shows (by decide) fun X B W cdv A outer s H E hX hr tk => ?_
  subst hX
  have nd : (N_law_shows).Nodup := sc_law_shows.nd
  exact (ss_cons (ss_for (vs := [3]) (passes_of rfl) rfl (si_rg1 (by rfl) T.z_range (se_callB call_len ok_len (by rfl) T.z_len PyProof.Rows.Boot.«len» (sa_cons (se_var 0) sa_nil))) (sg_name (vs := [3]) 3 nd) (ss_cons (ss_set 4 nd (se_make (n := 2) T.mk_Program (T.k_Program_init base) (hr.mono (by decide)) tk (by rfl) T.mc_Program T.b_Program_init (sa_cons (se_callTy call_list_of ok_listOf (by rfl) T.z_list PyProof.Rows.Boot.«list» (sa_cons (se_var 1) sa_nil)) (sa_cons (se_callTy call_list_of ok_listOf (by rfl) T.z_list PyProof.Rows.Boot.«list» (sa_cons (se_ix (se_ix (se_var 2) (se_var 3)) se_int) sa_nil)) sa_nil))))
      (ss_cons (ss_if (st_w (sw_or (st_neA (se_meth0 (c := "Live") (se_ix (se_var 0) (se_var 3)) T.cl_Live T.me_Live_shown T.mc_Live (T.k_Live_shown base) (hr.mono (by decide)) tk T.b_Live_shown) (se_var 4) T.eo_Program T.eb_Program T.mc_Program (T.k_Program_eq base) (hr.mono (by decide)) tk T.b_Program_eq) (sw_or1 (st_ne hr (se_lenI (se_ix (se_var 0) (se_var 3)) T.me_Live_len T.mc_Live (T.k_Live_len base) (hr.mono (by decide)) T.b_Live_len (by rfl) T.z_len) (se_callB call_len ok_len (by rfl) T.z_len PyProof.Rows.Boot.«len» (sa_cons (se_ix (se_ix (se_var 2) (se_var 3)) se_int) sa_nil)))))) (ss_one (ss_ret se_bl)) ss_nil)
      (ss_cons (ss_if (st_ne hr (se_callB (call_repr hr) ok_repr (by rfl) T.z_repr PyProof.Rows.Boot.«repr» (sa_cons (se_meth0 (c := "Live") (se_ix (se_var 0) (se_var 3)) T.cl_Live T.me_Live_log T.mc_Live (T.k_Live_log base) (hr.mono (by decide)) tk T.b_Live_log) sa_nil)) (se_callB (call_repr hr) ok_repr (by rfl) T.z_repr PyProof.Rows.Boot.«repr» (sa_cons (se_lc rfl nd (si_seq (se_ix (se_ix (se_var 2) (se_var 3)) se_int)) (blkOk_by (own := [("_law_step_here", 7)]) (by show blkC N_law_shows (defScope s_law_shows) _ _ = true; decide +kernel)) (fun _ _ _ _ _ _ => (sg_name (vs := _) 7 nd)) (fun _ _ _ _ _ _ => spts_nil) (fun _ _ _ _ _ _ => (se_ix (se_var 7) se_int))) sa_nil))) (ss_one (ss_ret se_bl)) ss_nil)
      (ss_one (ss_for (vs := [5]) (passes_of rfl) rfl (si_rg1 (by rfl) T.z_range (se_callB call_len ok_len (by rfl) T.z_len PyProof.Rows.Boot.«len» (sa_cons (se_var 0) sa_nil))) (sg_name (vs := [5]) 5 nd) (ss_cons (ss_set 6 nd (se_eq hr.r (se_ix (se_ix (se_var 2) (se_var 3)) se_int) (se_ix (se_ix (se_var 2) (se_var 5)) se_int)))
      (ss_one (ss_if (st_ne hr (se_callB (call_repr hr) ok_repr (by rfl) T.z_repr PyProof.Rows.Boot.«repr» (sa_cons (se_lst (sa_cons (se_eqA (se_ix (se_var 0) (se_var 3)) (se_ix (se_var 0) (se_var 5)) T.eo_Live T.eb_Live T.mc_Live (T.k_Live_eq base) (hr.mono (by decide)) tk T.b_Live_eq) (sa_cons (se_neA (se_ix (se_var 0) (se_var 3)) (se_ix (se_var 0) (se_var 5)) T.eo_Live T.eb_Live T.mc_Live (T.k_Live_eq base) (hr.mono (by decide)) tk T.b_Live_eq) sa_nil))) sa_nil)) (se_callB (call_repr hr) ok_repr (by rfl) T.z_repr PyProof.Rows.Boot.«repr» (sa_cons (se_lst (sa_cons (se_var 6) (sa_cons (se_not (se_var 6)) sa_nil))) sa_nil))) (ss_one (ss_ret se_bl)) ss_nil)))))))))
      (ss_one (ss_ret se_bl)))
theorem Tx.k_Live_change (T : Tx P K mg) (base : Heap) : FnG P w K mg base 9 T.f_Live_change T.d_Live_change P_Live_change (spM ⟨K, mg⟩ 3 M_Live_change) := by
  refine fnM (k := 8) (N := N_Live_change) T.F_Live_change sc_Live_change (by decide) fun X B W cdv A outer s H E hX hr tk => ?_
  subst hX
  have nd : (N_Live_change).Nodup := sc_Live_change.nd
  exact (ss_cons (ss_expr (se_meth (c := "Live") (se_var 0) T.cl_Live T.me_Live_check_number T.mc_Live (T.k_Live_check_number base) (hr.mono (by decide)) tk T.b_Live_check_number (sa_cons (se_var 1) sa_nil)))
      (ss_cons (ss_expr (se_meth (c := "Live") (se_var 0) T.cl_Live T.me_Live_check_move T.mc_Live (T.k_Live_check_move base) (hr.mono (by decide)) tk T.b_Live_check_move (sa_cons (se_var 2) sa_nil)))
      (ss_cons (ss_set 3 nd (se_meth0 (c := "Program") (se_fld (se_var 0) T.fI_now noB_I) T.cl_Program T.me_Program_moves T.mc_Program (T.k_Program_moves base) (hr.mono (by decide)) tk T.b_Program_moves))
      (ss_one (ss_expr (se_meth (c := "Live") (se_var 0) T.cl_Live T.me_Live_lead T.mc_Live (T.k_Live_lead base) (hr.mono (by decide)) tk T.b_Live_lead (sa_cons (se_tup (sa_cons se_str (sa_cons (se_var 1) (sa_cons (se_var 2) sa_nil)))) (sa_cons (se_add (se_add (se_slice (se_var 3) so_none (so_some (se_var 1))) (se_lst (sa_cons (se_var 2) sa_nil))) (se_slice (se_var 3) (so_some (se_add (se_var 1) se_int)) so_none)) sa_nil))))))))
theorem Tx.k_law_step (T : Tx P K mg) (base : Heap) : FnG P w K mg base 10 T.f_law_step T.d_law_step P_law_step (spM ⟨K, mg⟩ 4 M_law_step) := by
  refine fnM (k := 9) (N := N_law_step) T.F_law_step sc_law_step (by decide) fun X B W cdv A outer s H E hX hr tk => ?_
  subst hX
  have nd : (N_law_step).Nodup := sc_law_step.nd
  exact (ss_cons (ss_asg (vs := [4, 5]) (se_var 3) (sg_tup rfl (sgs_cons (sg_name (vs := [4, 5]) 4 nd) (sgs_cons (sg_name (vs := [4, 5]) 5 nd) sgs_nil))))
      (ss_cons (ss_set 6 nd (se_ix (se_add (se_call (T.k_law_moves_drawn base) (hr.mono (by decide)) tk (by rfl) T.m_law_moves_drawn T.p_law_moves_drawn T.b_law_moves_drawn .nil (fun _ _ _ => .nil) (sa_cons (se_var 0) (sa_cons (se_var 2) (sa_cons se_int sa_nil)))) (se_lst (sa_cons (se_tup (sa_cons (se_ix (se_var 2) (se_neg se_int)) (sa_cons se_int (sa_cons (se_neg se_int) (sa_cons (se_ix (se_var 2) se_int) sa_nil))))) sa_nil))) se_int))
      (ss_cons (ss_par 7 8 false false rfl nd (se_call (T.k_law_random base) (hr.mono (by decide)) tk (by rfl) T.m_law_random T.p_law_random T.b_law_random .nil (fun _ _ _ => .nil) (sa_cons (se_var 0) (sa_cons se_int sa_nil))) (fun _ => (se_call (T.k_law_random base) (hr.mono (by decide)) tk (by rfl) T.m_law_random T.p_law_random T.b_law_random .nil (fun _ _ _ => .nil) (sa_cons (se_var 0) (sa_cons (se_callB (call_max2 rfl) ok_max2 (by rfl) T.z_max PyProof.Rows.Boot.«max» (sa_cons se_int (sa_cons (se_callB call_len ok_len (by rfl) T.z_len PyProof.Rows.Boot.«len» (sa_cons (se_var 4) sa_nil)) sa_nil))) sa_nil)))))
      (ss_cons (ss_if (st_w (sw_and (st_eq hr (se_var 7) se_int) (sw_and1 (st_neNil hr (se_var 5) (se_lst sa_nil))))) (ss_cons (ss_expr (se_meth0 (c := "Live") (se_var 1) T.cl_Live T.me_Live_back T.mc_Live (T.k_Live_back base) (hr.mono (by decide)) tk T.b_Live_back))
      (ss_cons (ss_asg (vs := [3, 3]) (se_tup (sa_cons (se_ix (se_ix (se_var 5) (se_neg se_int)) se_int) (sa_cons (se_slice (se_var 5) so_none (so_some (se_neg se_int))) sa_nil))) (sg_tup rfl (sgs_cons (sg_putIx (vs := [3, 3]) (se_var 3) se_int) (sgs_cons (sg_putIx (vs := [3, 3]) (se_var 3) se_int) sgs_nil))))
      (ss_one ss_retN))) ss_nil)
      (ss_cons (ss_if (st_w (sw_or (st_w (sw_and (st_eq hr (se_var 7) se_int) (sw_and1 (st_neNil hr (se_var 4) (se_lst sa_nil))))) (sw_or1 (st_gt (se_callB call_len ok_len (by rfl) T.z_len PyProof.Rows.Boot.«len» (sa_cons (se_var 4) sa_nil)) se_int)))) (ss_cons (ss_expr (se_meth (c := "Live") (se_var 1) T.cl_Live T.me_Live_drop T.mc_Live (T.k_Live_drop base) (hr.mono (by decide)) tk T.b_Live_drop (sa_cons (se_var 8) sa_nil)))
      (ss_one (ss_asg (vs := [9, 3]) (se_tup (sa_cons (se_add (se_slice (se_var 4) so_none (so_some (se_var 8))) (se_slice (se_var 4) (so_some (se_add (se_var 8) se_int)) so_none)) (sa_cons (se_tup (sa_cons se_str (sa_cons (se_var 8) sa_nil))) sa_nil))) (sg_tup rfl (sgs_cons (sg_putIx (vs := [9, 3]) (se_var 3) se_int) (sgs_cons (sg_name (vs := [9, 3]) 9 nd) sgs_nil)))))) (ss_one (ss_if (st_w (sw_and (st_eq hr (se_var 7) se_int) (sw_and1 (st_neNil hr (se_var 4) (se_lst sa_nil))))) (ss_cons (ss_expr (se_meth (c := "Live") (se_var 1) T.cl_Live T.me_Live_change T.mc_Live (T.k_Live_change base) (hr.mono (by decide)) tk T.b_Live_change (sa_cons (se_var 8) (sa_cons (se_var 6) sa_nil))))
      (ss_one (ss_asg (vs := [9, 3]) (se_tup (sa_cons (se_add (se_add (se_slice (se_var 4) so_none (so_some (se_var 8))) (se_lst (sa_cons (se_var 6) sa_nil))) (se_slice (se_var 4) (so_some (se_add (se_var 8) se_int)) so_none)) (sa_cons (se_tup (sa_cons se_str (sa_cons (se_var 8) (sa_cons (se_var 6) sa_nil)))) sa_nil))) (sg_tup rfl (sgs_cons (sg_putIx (vs := [9, 3]) (se_var 3) se_int) (sgs_cons (sg_name (vs := [9, 3]) 9 nd) sgs_nil)))))) (ss_cons (ss_expr (se_meth (c := "Live") (se_var 1) T.cl_Live T.me_Live_add T.mc_Live (T.k_Live_add base) (hr.mono (by decide)) tk T.b_Live_add (sa_cons (se_var 6) sa_nil)))
      (ss_one (ss_asg (vs := [9, 3]) (se_tup (sa_cons (se_add (se_var 4) (se_lst (sa_cons (se_var 6) sa_nil))) (sa_cons (se_tup (sa_cons se_str (sa_cons (se_var 6) sa_nil))) sa_nil))) (sg_tup rfl (sgs_cons (sg_putIx (vs := [9, 3]) (se_var 3) se_int) (sgs_cons (sg_name (vs := [9, 3]) 9 nd) sgs_nil)))))))))
      (ss_one (ss_putIx (se_add (se_var 5) (se_lst (sa_cons (se_tup (sa_cons (se_var 9) (sa_cons (se_var 4) sa_nil))) sa_nil))) (se_var 3) se_int)))))))
theorem Tx.k_law_undone (T : Tx P K mg) (base : Heap) : FnG P w K mg base 9 T.f_law_undone T.d_law_undone P_law_undone (spM ⟨K, mg⟩ 2 M_law_undone) := by
  refine fnM (k := 8) (N := N_law_undone) T.F_law_undone sc_law_undone (by decide) fun X B W cdv A outer s H E hX hr tk => ?_
  subst hX
  have nd : (N_law_undone).Nodup := sc_law_undone.nd
  exact (ss_cons (ss_for (vs := [2, 3]) (passes_of rfl) rfl (si_seq (se_revL (se_ix (se_var 1) se_int))) (sg_tup rfl (sgs_cons (sg_name (vs := [2, 3]) 2 nd) (sgs_cons (sg_name (vs := [2, 3]) 3 nd) sgs_nil))) (ss_cons (ss_expr (se_meth0 (c := "Live") (se_var 0) T.cl_Live T.me_Live_back T.mc_Live (T.k_Live_back base) (hr.mono (by decide)) tk T.b_Live_back))
      (ss_one (ss_if (st_ne hr (se_meth0 (c := "Program") (se_meth0 (c := "Live") (se_var 0) T.cl_Live T.me_Live_shown T.mc_Live (T.k_Live_shown base) (hr.mono (by decide)) tk T.b_Live_shown) T.cl_Program T.me_Program_moves T.mc_Program (T.k_Program_moves base) (hr.mono (by decide)) tk T.b_Program_moves) (se_var 3)) (ss_one (ss_ret se_bl)) ss_nil))))
      (ss_cons (ss_tryH (p := (inB ["NothingToUndo"])) rfl rfl ⟨rfl, by decide, .inl T.mc_NothingToUndo⟩ T.em_NothingToUndo (fun _ _ _ tk2 po2 => (ss_one (ss_expr (se_methN0 (c := "Live") (se_var 0) T.cl_Live T.me_Live_back T.mc_Live (T.k_Live_backN base) (hr.mono (by decide)) tk2 T.b_Live_back)))) (fun _ _ hot => (ss_one (ss_ret (se_eqNilH (roomS hr) (se_methH0 (c := "Live") (se_var 0) T.cl_Live T.me_Live_log T.mc_Live (T.k_Live_logH base) ((roomS hr).mono (by decide)) hot T.b_Live_log) (se_lst sa_nil))))))
      (ss_one (ss_ret se_bl))))
theorem Tx.k_law (T : Tx P K mg) (base : Heap) : FnG P w K mg base 11 T.f_law T.d_law P_law (spM ⟨K, mg⟩ 1 M_law) := by
  refine fnM (k := 10) (N := N_law) T.F_law sc_law (by decide) fun X B W cdv A outer s H E hX hr tk => ?_
  subst hX
  have nd : (N_law).Nodup := sc_law.nd
  exact (ss_cons (ss_set 1 nd (se_sto (se_call (T.k_law_generator base) (hr.mono (by decide)) tk (by rfl) T.m_law_generator T.p_law_generator T.b_law_generator .nil (fun _ _ _ => .nil) (sa_cons (se_var 0) (sa_cons se_int sa_nil)))))
      (ss_cons (ss_set 2 nd (se_call (T.k_law_drawn base) (hr.mono (by decide)) tk (by rfl) T.m_law_drawn T.p_law_drawn T.b_law_drawn .nil (fun _ _ _ => .nil) (sa_cons (se_var 1) (sa_cons se_int (sa_cons se_int sa_nil)))))
      (ss_cons (ss_parT 3 4 false false rfl nd (se_sto (se_lst (sa_cons (se_makeS (n := 1) T.mk_Live (T.k_Live_init base) (hr.mono (by decide)) tk (by rfl) T.mc_Live T.b_Live_init (sa_cons (se_call (T.k_law_program base) (hr.mono (by decide)) tk (by rfl) T.m_law_program T.p_law_program T.b_law_program .nil (fun _ _ _ => .nil) (sa_cons (se_var 2) sa_nil)) sa_nil)) sa_nil))) (fun _ => (se_sto (se_lst (sa_cons (se_sto (se_lst (sa_cons (se_ix (se_var 2) se_int) (sa_cons (se_lst sa_nil) sa_nil)))) sa_nil)))))
      (ss_cons (ss_for (vs := [5]) (passes_of rfl) rfl (si_rg2 (by rfl) T.z_range se_int (se_callB (call_max2 rfl) ok_max2 (by rfl) T.z_max PyProof.Rows.Boot.«max» (sa_cons se_int (sa_cons (se_callB call_len ok_len (by rfl) T.z_len PyProof.Rows.Boot.«len» (sa_cons (se_sliceR (se_var 0) so_none (so_some se_int)) sa_nil)) sa_nil)))) (sg_name (vs := [5]) 5 nd) (ss_cons (ss_set 1 nd (se_sto (se_call (T.k_law_generator base) (hr.mono (by decide)) tk (by rfl) T.m_law_generator T.p_law_generator T.b_law_generator .nil (fun _ _ _ => .nil) (sa_cons (se_var 0) (sa_cons (se_var 5) sa_nil)))))
      (ss_cons (ss_if (st_w (sw_and (st_lt (se_callB call_len ok_len (by rfl) T.z_len PyProof.Rows.Boot.«len» (sa_cons (se_var 3) sa_nil)) se_int) (sw_and1 (st_eq hr (se_call (T.k_law_random base) (hr.mono (by decide)) tk (by rfl) T.m_law_random T.p_law_random T.b_law_random .nil (fun _ _ _ => .nil) (sa_cons (se_var 1) (sa_cons se_int sa_nil))) se_int)))) (ss_cons (ss_set 6 nd (se_call (T.k_law_random base) (hr.mono (by decide)) tk (by rfl) T.m_law_random T.p_law_random T.b_law_random .nil (fun _ _ _ => .nil) (sa_cons (se_var 1) (sa_cons (se_callB call_len ok_len (by rfl) T.z_len PyProof.Rows.Boot.«len» (sa_cons (se_var 3) sa_nil)) sa_nil))))
      (ss_cons (ss_app (se_var 3) (se_meth0 (c := "Live") (se_ix (se_var 3) (se_var 6)) T.cl_Live T.me_Live_copy T.mc_Live (T.k_Live_copy base) (hr.mono (by decide)) tk T.b_Live_copy))
      (ss_one (ss_app (se_var 4) (se_sto (se_callTy call_list_of ok_listOf (by rfl) T.z_list PyProof.Rows.Boot.«list» (sa_cons (se_ix (se_var 4) (se_var 6)) sa_nil))))))) ss_nil)
      (ss_cons (ss_for (vs := [7]) (passes_of rfl) rfl (si_rg1 (by rfl) T.z_range se_int) (sg_name (vs := [7]) 7 nd) (ss_cons (ss_set 6 nd (se_call (T.k_law_random base) (hr.mono (by decide)) tk (by rfl) T.m_law_random T.p_law_random T.b_law_random .nil (fun _ _ _ => .nil) (sa_cons (se_var 1) (sa_cons (se_callB call_len ok_len (by rfl) T.z_len PyProof.Rows.Boot.«len» (sa_cons (se_var 3) sa_nil)) sa_nil))))
      (ss_one (ss_expr (se_call (T.k_law_step base) (hr.mono (by decide)) tk (by rfl) T.m_law_step T.p_law_step T.b_law_step .nil (fun _ _ _ => .nil) (sa_cons (se_var 1) (sa_cons (se_ix (se_var 3) (se_var 6)) (sa_cons (se_ix (se_var 2) se_int) (sa_cons (se_ix (se_var 4) (se_var 6)) sa_nil)))))))))
      (ss_one (ss_if (st_not (st_val (se_call (T.k_law_shows base) (hr.mono (by decide)) tk (by rfl) T.m_law_shows T.p_law_shows T.b_law_shows .nil (fun _ _ _ => .nil) (sa_cons (se_var 3) (sa_cons (se_ix (se_var 2) se_int) (sa_cons (se_var 4) sa_nil)))))) (ss_one (ss_ret se_bl)) ss_nil))))))
      (ss_cons (ss_set 8 nd (se_lst (sa_cons (se_makeS (n := 1) T.mk_Live (T.k_Live_init base) (hr.mono (by decide)) tk (by rfl) T.mc_Live T.b_Live_init (sa_cons (se_make (n := 2) T.mk_Program (T.k_Program_init base) (hr.mono (by decide)) tk (by rfl) T.mc_Program T.b_Program_init (sa_cons (se_add (se_ix (se_var 2) se_int) (se_lst (sa_cons se_str sa_nil))) (sa_cons (se_callTy call_list_of ok_listOf (by rfl) T.z_list PyProof.Rows.Boot.«list» (sa_cons (se_ix (se_ix (se_var 4) se_int) se_int) sa_nil)) sa_nil))) sa_nil)) (sa_cons (se_makeS (n := 1) T.mk_Live (T.k_Live_init base) (hr.mono (by decide)) tk (by rfl) T.mc_Live T.b_Live_init (sa_cons (se_make (n := 2) T.mk_Program (T.k_Program_init base) (hr.mono (by decide)) tk (by rfl) T.mc_Program T.b_Program_init (sa_cons (se_lst (sa_cons se_str sa_nil)) (sa_cons (se_lst sa_nil) sa_nil))) sa_nil)) sa_nil))))
      (ss_cons (ss_for (vs := [9]) (passes_of rfl) rfl (si_seq (se_add (se_var 8) (se_lst (sa_cons se_non (sa_cons se_int (sa_cons (se_lst sa_nil) (sa_cons se_dct0 (sa_cons se_str (sa_cons (se_meth0 (c := "Live") (se_ix (se_var 3) se_int) T.cl_Live T.me_Live_shown T.mc_Live (T.k_Live_shown base) (hr.mono (by decide)) tk T.b_Live_shown) sa_nil))))))))) (sg_name (vs := [9]) 9 nd) (ss_one (ss_if (st_w (sw_or (st_eqX (pc_eqX (oth := inB ["Program"]) false (se_ix (se_var 3) se_int) (se_var 9) T.eo_Live T.eb_Live T.nf_Live_Program T.mc_Live (T.k_Live_eq base) (hr.mono (by decide)) tk T.b_Live_eq)) (sw_or (st_eqX (pc_alt (pc_eqX (oth := inB ["Program"]) false (se_var 9) (se_ix (se_var 3) se_int) T.eo_Live T.eb_Live T.nf_Live_Program T.mc_Live (T.k_Live_eq base) (hr.mono (by decide)) tk T.b_Live_eq) (pc_eqX (oth := inB ["Live"]) false (se_var 9) (se_ix (se_var 3) se_int) T.eo_Program T.eb_Program T.nf_Program_Live T.mc_Program (T.k_Program_eq base) (hr.mono (by decide)) tk T.b_Program_eq))) (sw_or1 (st_not (st_neX (pc_eqX (oth := inB ["Program"]) true (se_ix (se_var 3) se_int) (se_var 9) T.eo_Live T.eb_Live T.nf_Live_Program T.mc_Live (T.k_Live_eq base) (hr.mono (by decide)) tk T.b_Live_eq))))))) (ss_one (ss_ret se_bl)) ss_nil)))
      (ss_cons (ss_if (st_w (sw_or (st_neA (se_ix (se_var 3) se_int) (se_meth0 (c := "Live") (se_ix (se_var 3) se_int) T.cl_Live T.me_Live_copy T.mc_Live (T.k_Live_copy base) (hr.mono (by decide)) tk T.b_Live_copy) T.eo_Live T.eb_Live T.mc_Live (T.k_Live_eq base) (hr.mono (by decide)) tk T.b_Live_eq) (sw_or1 (st_ne hr (se_meth0 (c := "Live") (se_meth0 (c := "Live") (se_ix (se_var 3) se_int) T.cl_Live T.me_Live_copy T.mc_Live (T.k_Live_copy base) (hr.mono (by decide)) tk T.b_Live_copy) T.cl_Live T.me_Live_log T.mc_Live (T.k_Live_log base) (hr.mono (by decide)) tk T.b_Live_log) (se_meth0 (c := "Live") (se_ix (se_var 3) se_int) T.cl_Live T.me_Live_log T.mc_Live (T.k_Live_log base) (hr.mono (by decide)) tk T.b_Live_log))))) (ss_one (ss_ret se_bl)) ss_nil)
      (ss_cons (ss_if (st_w (sw_or (st_not (st_val (se_call0 (T.k_law_many_right base) (hr.mono (by decide)) tk (by rfl) T.m_law_many_right T.p_law_many_right T.b_law_many_right))) (sw_or1 (st_not (st_val (se_call (T.k_law_no_program base) (hr.mono (by decide)) tk (by rfl) T.m_law_no_program T.p_law_no_program T.b_law_no_program .nil (fun _ _ _ => .nil) (sa_cons (se_ix (se_var 3) se_int) sa_nil))))))) (ss_one (ss_ret se_bl)) ss_nil)
      (ss_one (ss_ret (se_eqNil hr (se_lc rfl nd (si_rg1 (by rfl) T.z_range (se_callB call_len ok_len (by rfl) T.z_len PyProof.Rows.Boot.«len» (sa_cons (se_var 3) sa_nil))) (blkOk_by (own := [("_law_at", 6)]) (by show blkC N_law (defScope s_law) _ _ = true; decide +kernel)) (fun _ _ _ _ _ _ => (sg_name (vs := _) 6 nd)) (fun _ _ _ _ _ _ => (spts_one (st_not (st_val (se_call (T.k_law_undone base) (hr.mono (by decide)) L2.takes0 (by rfl) T.m_law_undone T.p_law_undone T.b_law_undone .nil (fun _ _ _ => .nil) (sa_cons (se_ix (se_var 3) (se_var 6)) (sa_cons (se_ix (se_var 4) (se_var 6)) sa_nil))))))) (fun _ _ _ _ _ _ => (se_var 6))) (se_lst sa_nil))))))))))))
end
end W66
namespace FL
open PySem L2 PySem.Spec PyProof.Rows FW
theorem log2_lt {n k : Nat} (h : n < 2 ^ k) (hk : 0 < k) : n.log2 < k := by
  by_cases z : n = 0
  · subst z; simpa using hk
  · exact (Nat.log2_lt z).mpr h
theorem mul_ok {i j : Int} (hi : i.natAbs < 2 ^ 4000) (hj : j.natAbs < 2 ^ 4000) : CMulW i j := by
  unfold CMulW
  have a := log2_lt hi (by decide)
  have b := log2_lt hj (by decide)
  omega
theorem div_ok {i j : Int} (h0 : 0 < j) (hj : j.natAbs < 2 ^ 8000) : CDivW i j := by
  unfold CDivW
  have b := log2_lt hj (by decide)
  omega
theorem sz {n : Nat} (h : n ≤ 100000) : n ≤ sizeLine := Nat.le_trans h (by decide +kernel)
theorem cell_ok (ns : List Int) (i : Nat) (st : Sto) : ∃ n, M_law_cell [.scr ns, .int i] st = .ok (.int n, false, st) := by
  by_cases h : i < ns.length
  · refine ⟨ns[i], ?_⟩
    have h2 : ((i : Int) < (ns.length : Int)) := by omega
    have h3 : atI ns (i : Int) = some ns[i] := by
      unfold atI ixN
      simp [h]
    simp [M_law_cell, d_runF, startM, g_law_cell, h2, h3]
  · refine ⟨0, ?_⟩
    have h2 : ¬ ((i : Int) < (ns.length : Int)) := by omega
    simp [M_law_cell, d_runF, startM, g_law_cell, h2]
theorem pw1 : CPowW 10 18 := by decide +kernel
theorem pw2 : CPowW 10 60 := by decide +kernel
theorem pw3 : CPowW ((10 : Int) ^ 60) 10 := by decide +kernel
theorem s3 : 3 ≤ sizeLine := by decide +kernel
theorem gen_ok (ns : List Int) (i : Nat) (hi : i ≤ 63) (st : Sto) : ∃ a b : Int, 0 ≤ a ∧ 0 ≤ b ∧ b < 2147483647 ∧ M_law_generator [.scr ns, .int i] st = .ok (.lst [.int a, .int b, .int (1000 * i)], true, st) := by
  obtain ⟨n, hn⟩ := cell_ok ns i st
  have p3 : (0 : Int) < (10 ^ 60) ^ 10 := by decide +kernel
  refine ⟨(if 0 > n - 10 ^ 18 then 0 else n - 10 ^ 18) % ((10 : Int) ^ 60) ^ 10, n % 2147483647, Int.emod_nonneg _ (fun z => absurd (z ▸ p3) (Int.lt_irrefl _)), Int.emod_nonneg _ (by decide), Int.emod_lt_of_pos _ (by decide), ?_⟩
  · have m1 : CMulW 1000 (i : Int) := mul_ok (by decide +kernel) (by omega)
    simp [-Int.reducePow, -Nat.reducePow, M_law_generator, d_runF, startM, g_law_generator, callR_ok _ _ hn, d_gPow, pw1, pw2, pw3, d_gMod, d_gMul, m1, p3, s3]
theorem hash_ok (s i : Int) (st : Sto) (h0 : 0 ≤ s) (h1 : s < 2147483647) (h2 : 0 ≤ i) (h3 : i ≤ 10 ^ 12) : ∃ r : Int, 0 ≤ r ∧ r < 2147483587 ∧ M_law_hash [.int s, .int i] st = .ok (.int r, false, st) := by
  have big : ∀ x : Int, x.natAbs < 10 ^ 30 → x.natAbs < 2 ^ 4000 := fun x hx => Nat.lt_of_lt_of_le hx (by decide +kernel)
  have b1 : CMulW s 1103515245 := mul_ok (big _ (by omega)) (by decide +kernel)
  have b2 : CMulW 7919 i := mul_ok (by decide +kernel) (big _ (by omega))
  have b3 : CMulW (7919 * i) i := mul_ok (big _ (by omega)) (big _ (by omega))
  have m1 := Int.emod_nonneg (s * 1103515245 + 7919 * i * i + i + 1) (b := 2147483647) (by decide)
  have m2 := Int.emod_lt_of_pos (s * 1103515245 + 7919 * i * i + i + 1) (b := 2147483647) (by decide)
  have b4 : ∀ x : Int, 0 ≤ x → x < 2147483647 → CMulW x x := fun x hx hy => mul_ok (big _ (by omega)) (big _ (by omega))
  have b5 : ∀ x : Int, 0 ≤ x → x < 2147483629 → CMulW x 48271 := fun x hx hy => mul_ok (big _ (by omega)) (by decide +kernel)
  have b6 := b4 _ m1 m2
  have m3 := Int.emod_nonneg ((s * 1103515245 + 7919 * i * i + i + 1) % 2147483647 * ((s * 1103515245 + 7919 * i * i + i + 1) % 2147483647) + 69621) (b := 2147483629) (by decide)
  have m4 := Int.emod_lt_of_pos ((s * 1103515245 + 7919 * i * i + i + 1) % 2147483647 * ((s * 1103515245 + 7919 * i * i + i + 1) % 2147483647) + 69621) (b := 2147483629) (by decide)
  have b7 := b5 _ m3 m4
  refine ⟨((s * 1103515245 + 7919 * i * i + i + 1) % 2147483647 * ((s * 1103515245 + 7919 * i * i + i + 1) % 2147483647) + 69621) % 2147483629 * 48271 % 2147483587, Int.emod_nonneg _ (by decide), Int.emod_lt_of_pos _ (by decide), ?_⟩
  simp [M_law_hash, d_runF, startM, g_law_hash, d_gMul, d_gMod, b1, b2, b3, b6, b7]
def GenAt (st : Sto) (n : Nat) (N : Int) : Prop := ∃ a b c : Int, st[n]? = some (.lst [.int a, .int b, .int c]) ∧ 0 ≤ a ∧ 0 ≤ b ∧ b < 2147483647 ∧ 0 ≤ c ∧ c ≤ N ∧ 0 ≤ N
theorem GenAt.up {st : Sto} {n : Nat} {N N' : Int} (g : GenAt st n N) (h : N ≤ N') : GenAt st n N' := by
  obtain ⟨a, b, c, h1, h2, h4, h5, h6, h7, h8⟩ := g
  exact ⟨a, b, c, h1, h2, h4, h5, h6, by omega, by omega⟩
structure GS (st : Sto) (n : Nat) (N : Int) (st' : Sto) : Prop where
  g : GenAt st' n N
  o : ∀ m, m ≠ n → st'[m]? = st[m]?
  l : st'.length = st.length
theorem GS.refl {st : Sto} {n : Nat} {N : Int} (g : GenAt st n N) : GS st n N st := ⟨g, fun _ _ => rfl, rfl⟩
theorem GS.trans {st st' st2 : Sto} {n : Nat} {N N' : Int} (a : GS st n N st') (b : GS st' n N' st2) : GS st n N' st2 := ⟨b.g, fun m h => (b.o m h).trans (a.o m h), b.l.trans a.l⟩
theorem GS.up {st st' : Sto} {n : Nat} {N N' : Int} (a : GS st n N st') (h : N ≤ N') : GS st n N' st' := ⟨a.g.up h, a.o, a.l⟩
theorem bits_ok {x : Int} (h : x.natAbs < 2 ^ 104) : Builtin.Int.intBits x ≤ 104 := by
  unfold Builtin.Int.intBits
  split
  · omega
  · have := log2_lt h (by decide); omega
theorem random31 {st : Sto} {n : Nat} {N bound : Int} (g : GenAt st n N) (hN : N ≤ 10 ^ 9) (hb : 1 ≤ bound) (hB : bound ≤ 10 ^ 31) :
    ∃ (r : Int) (st' : Sto), 0 ≤ r ∧ r < bound ∧ M_law_random [.ref n, .int bound] st = .ok (.int r, false, st') ∧ GS st n (N + 10) st' := by
  obtain ⟨a, b, c, hst, ha, hb1, hb2, hc, hcN, h0⟩ := g
  have hn : n < st.length := (List.getElem?_eq_some_iff.mp hst).1
  have hv := vw_ref st n hst
  have x0 : ∀ x y z : MV, atI [x, y, z] 0 = some x := fun _ _ _ => rfl
  have x1 : ∀ x y z : MV, atI [x, y, z] 1 = some y := fun _ _ _ => rfl
  have x2 : ∀ x y z : MV, atI [x, y, z] 2 = some z := fun _ _ _ => rfl
  have i0 : ixN 3 0 = some 0 := rfl
  have i2 : ixN 3 2 = some 2 := rfl
  have hbp : (0 : Int) < bound := by omega
  have hdiv : CDivW a bound := div_ok hbp (Nat.lt_of_lt_of_le (by omega : bound.natAbs < 10 ^ 31 + 1) (by decide +kernel))
  have gs : ∀ gm, GenAt (st.set n gm) n (N + 10) → GS st n (N + 10) (st.set n gm) := fun gm g => ⟨g, fun m h => by rw [List.getElem?_set_ne (fun e => h e.symm)], by simp⟩
  by_cases hp : 0 < a
  · refine ⟨a % bound, st.set n (.lst [.int (a / bound), .int b, .int c]), Int.emod_nonneg _ (by omega), Int.emod_lt_of_pos _ hbp, ?_, gs _ ⟨a / bound, b, c, by simp [hn], Int.ediv_nonneg ha (by omega), hb1, hb2, hc, by omega, by omega⟩⟩
    · simp [M_law_random, d_runF, startM, g_law_random, hv, hst, hp, x0, d_gMod, d_gDiv, hbp, hdiv, i0, refAt]
  · have hbits : Builtin.Int.intBits bound ≤ 104 := bits_ok (Nat.lt_of_lt_of_le (by omega : bound.natAbs < 10 ^ 31 + 1) (by decide +kernel))
    generalize hq : Builtin.Int.intBits bound = q at hbits
    have hd30 : CDivW (q : Int) 30 := div_ok (by decide) (by decide +kernel)
    have hlen : (1 + (q : Int) / 30 - 0).toNat ≤ 4 := by omega
    have hrg : Rg62 0 (1 + (q : Int) / 30) := by unfold Rg62; omega
    have small : ∀ k : Nat, k ≤ 4 → ((2 : Int) ^ 32) ^ k ≤ 2 ^ 128 := fun k hk => by
      match k, hk with
      | 0, _ => decide +kernel
      | 1, _ => decide +kernel
      | 2, _ => decide +kernel
      | 3, _ => decide +kernel
      | 4, _ => decide +kernel
    have loop := forL_run (ck := fun _ _ => True) (gf := gN 3) (body := sSeq (sPutIx (mOp gAdd (mOp gIx (mVar 0) (mC (.int 2))) (mC (.int 1))) (mVar 0) (mC (.int 2)))
        (sSet 2 (mOp gAdd (mOp gMul (mVar 2) (mC (.int 2147483587))) (mCall 2 M_law_hash [] (mCons (mOp gIx (mVar 0) (mC (.int 1))) (mCons (mOp gIx (mVar 0) (mC (.int 2))) mNil))))))
      (Inv := fun k lo st' => ∃ (d : Int) (t : Option (MV × Bool)), lo = [some (.ref n, false), some (.int bound, false), some (.int d, false), t] ∧ st' = st.set n (.lst [.int a, .int b, .int (c + (k : Nat))]) ∧ 0 ≤ d ∧ d < ((2 : Int) ^ 32) ^ k)
      (items := rgM 0 (1 + (q : Int) / 30)) (fun _ _ _ _ => trivial) (fun k x lo st' hx ⟨d, t, hlo, hst', hd0, hd1⟩ => by
        obtain ⟨hx1, hk⟩ := rgM_get hx
        have hk4 : k ≤ 3 := by omega
        subst hlo hst'
        obtain ⟨h, hh0, hh1, hhash⟩ := hash_ok b (c + (k : Nat) + 1) (st.set n (.lst [.int a, .int b, .int (c + (k : Nat) + 1)])) hb1 hb2 (by omega) (by omega)
        have sm := small k (by omega)
        have hm : CMulW d 2147483587 := mul_ok (Nat.lt_of_lt_of_le (by omega : d.natAbs < 2 ^ 128 + 1) (by decide +kernel)) (by decide +kernel)
        have hg1 : (st.set n (MV.lst [.int a, .int b, .int (c + (k : Nat))]))[n]? = some (.lst [.int a, .int b, .int (c + (k : Nat))]) := by simp [hn]
        have hg2 : (st.set n (MV.lst [.int a, .int b, .int (c + (k : Nat) + 1)]))[n]? = some (.lst [.int a, .int b, .int (c + (k : Nat) + 1)]) := by simp [hn]
        refine ⟨_, _, [some (.ref n, false), some (.int bound, false), some (.int (d * 2147483587 + h), false), some (x, false)], st.set n (.lst [.int a, .int b, .int (c + (k : Nat) + 1)]), rfl, ?_, d * 2147483587 + h, _, rfl, by rw [show (c + ((k + 1 : Nat) : Int)) = c + (k : Nat) + 1 by omega], by omega, ?_⟩
        · have cr := callR_ok [some (.ref n, false), some (.int bound, false), some (.int d, false), some (x, false)] _ hhash
          simp [vw_ref _ n hg1, vw_ref _ n hg2, hg1, hn, x0, x1, x2, i2, d_gMul, hm, cr]
        · rw [Int.pow_succ]; omega)
      [some (.ref n, false), some (.int bound, false), some (.int 0, false), none] st ⟨0, none, rfl, by simp [← List.getElem?_eq_some_iff.mp hst |>.2], by decide, by decide⟩
    obtain ⟨lo', st', e, d, t, hlo, hst', hd0, hd1⟩ := loop
    subst hlo hst'
    rw [rgM_len] at e
    refine ⟨d % bound, st.set n (.lst [.int a, .int b, .int (c + ((1 + (q : Int) / 30 - 0).toNat : Nat))]), Int.emod_nonneg _ (by omega), Int.emod_lt_of_pos _ hbp, ?_, gs _ ⟨a, b, c + ((1 + (q : Int) / 30 - 0).toNat : Nat), List.getElem?_set_self hn, ha, hb1, hb2, by omega, by omega, by omega⟩⟩
    have hi : iRg1 (mOp gAdd (mC (.int 1)) (mOp gDiv (mBits (mVar 1)) (mC (.int 30)))) [some (.ref n, false), some (.int bound, false), some (.int 0, false), none] st = .ok (rgM 0 (1 + (q : Int) / 30), fun _ _ => True, st) := by
      refine iRg1_ok (k := .fz) ?_ hrg
      simp [hq, d_gDiv, hd30]
    unfold M_law_random g_law_random
    refine runF_rt (k := .fz) (lo := [some (.ref n, false), some (.int bound, false), some (.int d, false), t]) (lo0 := [some (.ref n, false), some (.int bound, false), none, none]) rfl (seq_ok (lo1 := [some (.ref n, false), some (.int bound, false), none, none]) (st1 := st) ?_ (seq_ok (lo1 := [some (.ref n, false), some (.int bound, false), some (.int 0, false), none]) (st1 := st) ?_ (seq_ok (for_ok hi e) ?_)))
    · simp [hv, hst, hp, x0]
    · simp
    · simp [d_gMod, hbp]
theorem random_ok {st : Sto} {n : Nat} {N bound : Int} (g : GenAt st n N) (hN : N ≤ 10 ^ 9) (hb : 1 ≤ bound) (hB : bound ≤ 10 ^ 30) :
    ∃ (r : Int) (st' : Sto), 0 ≤ r ∧ r < bound ∧ M_law_random [.ref n, .int bound] st = .ok (.int r, false, st') ∧ GS st n (N + 10) st' :=
  random31 g hN hb (Int.le_trans hB (by decide +kernel))
end FL
namespace FL
open PySem L2 PySem.Spec PyProof.Rows FW
structure Move where
  p : Str
  l : Int
  c : Int
  o : Str
structure Prog where
  pl : List Str
  mv : List Move
def mM (m : Move) : MV := .tup [.str m.p, .int m.l, .int m.c, .str m.o]
def plM (P : Prog) : List MV := P.pl.map .str
def mvM (P : Prog) : List MV := P.mv.map mM
def partsM (P : Prog) : MV := .lst [.lst (plM P), .lst (mvM P)]
def progM (P : Prog) : MV := .ins "Program" [("stands", .tup (plM P)), ("steps", .tup (mvM P)), ("folio", .lst [])]
def progF (P : Prog) (fo : MV) : MV := .ins "Program" [("stands", .tup (plM P)), ("steps", .tup (mvM P)), ("folio", fo)]
structure Move.Ok (pl : List Str) (m : Move) : Prop where
  p : m.p ∈ pl
  o : m.o ∈ pl
  l0 : 0 ≤ m.l
  l8 : m.l ≤ 8
  c4 : -4 ≤ m.c
  c5 : m.c ≤ 4
  s0 : 0 ≤ m.l + m.c
  s8 : m.l + m.c ≤ 8
def NA : List Str := ["up", "down", "mid", "low"]
def NB : List Str := ["up", "down", "mid", "move"]
structure Prog.Ok (P : Prog) : Prop where
  nm : ∃ k, 1 ≤ k ∧ k ≤ 4 ∧ (P.pl = NA.take k ∨ P.pl = NB.take k)
  mv : ∀ m, m ∈ P.mv → m.Ok P.pl
  len : P.mv.length ≤ 10
theorem atI_ok {α : Type} (xs : List α) {r : Int} (h0 : 0 ≤ r) (h1 : r < xs.length) : ∃ x, atI xs r = some x ∧ x ∈ xs := by
  have hl : r.toNat < xs.length := by omega
  refine ⟨xs[r.toNat], ?_, List.getElem_mem hl⟩
  unfold atI ixN
  rw [if_pos h0, if_pos h1]
  simp [hl]
theorem atI_str {pl : List Str} {r : Int} (h0 : 0 ≤ r) (h1 : r < pl.length) : ∃ x, atI (pl.map MV.str) r = some (.str x) ∧ x ∈ pl := by
  obtain ⟨x, h, hm⟩ := atI_ok pl h0 h1
  exact ⟨x, by rw [atI_map, h]; rfl, hm⟩
end FL
namespace FL
open PySem L2 PySem.Spec PyProof.Rows FW
abbrev fz (m : MV) : Option (MV × Bool) := some (m, false)
abbrev ow (m : MV) : Option (MV × Bool) := some (m, true)
structure PlOk (pl : List Str) : Prop where
  nm : ∃ k, 1 ≤ k ∧ k ≤ 4 ∧ (pl = NA.take k ∨ pl = NB.take k)
theorem Prog.Ok.pl {P : Prog} (h : P.Ok) : PlOk P.pl := ⟨h.nm⟩
theorem take_cases (xs : List Str) {k : Nat} (h1 : 1 ≤ k) (h4 : k ≤ 4) : xs.take k = xs.take 1 ∨ xs.take k = xs.take 2 ∨ xs.take k = xs.take 3 ∨ xs.take k = xs.take 4 := by
  have : k = 1 ∨ k = 2 ∨ k = 3 ∨ k = 4 := by omega
  rcases this with rfl | rfl | rfl | rfl
  · exact .inl rfl
  · exact .inr (.inl rfl)
  · exact .inr (.inr (.inl rfl))
  · exact .inr (.inr (.inr rfl))
theorem PlOk.cases {pl : List Str} (h : PlOk pl) {Q : List Str → Prop} (a1 : Q ["up"]) (a2 : Q ["up", "down"]) (a3 : Q ["up", "down", "mid"]) (a4 : Q ["up", "down", "mid", "low"]) (a5 : Q ["up", "down", "mid", "move"]) : Q pl := by
  obtain ⟨k, h1, h4, h | h⟩ := h.nm <;> subst h
  · rcases take_cases NA h1 h4 with e | e | e | e <;> rw [e] <;> first | exact a1 | exact a2 | exact a3 | exact a4
  · rcases take_cases NB h1 h4 with e | e | e | e <;> rw [e] <;> first | exact a1 | exact a2 | exact a3 | exact a5
theorem PlOk.len1 {pl : List Str} (h : PlOk pl) : 1 ≤ pl.length := h.cases (Q := fun l => 1 ≤ l.length) (by decide) (by decide) (by decide) (by decide) (by decide)
theorem PlOk.len4 {pl : List Str} (h : PlOk pl) : pl.length ≤ 4 := h.cases (Q := fun l => l.length ≤ 4) (by decide) (by decide) (by decide) (by decide) (by decide)
theorem runF_own {n : Nat} {g : SF} {ms : List MV} {lo0 lo : Lo} {st st' : Sto} {m k} {b : Bool} (h0 : startM n ms = lo0) (h : g lo0 st = .ok (.rt m k, lo, st')) (hb : isFr k = b) : runF n g ms st = .ok (m, b, st') := by subst hb; exact runF_rt h0 h
theorem app_ok {fo fe : EF} {lo : Lo} {st st1 : Sto} {i : Nat} {xs : List MV} {m : MV} {kd : Kd} {x : MV} (h1 : fo lo st = .ok (x, .pk i, st)) (h2 : lo[i]? = some (ow (.lst xs))) (h3 : fe lo st = .ok (m, kd, st1)) (h4 : isPk kd = false) (hz : xs.length < sizeLine) :
    sApp fo fe lo st = .ok (.nx, lo.set i (ow (.lst (xs ++ [m]))), st1) := by
  unfold sApp
  rw [h1]
  have ef : frzd (m, kd, st1) = .ok (m, st1) := by cases kd <;> first | rfl | cases h4
  simp only [Res.ok_bind, targetOf, h2, ownAt, isLst, if_true, h3, ef, if_pos hz, putBack]
end FL
namespace FL
open PySem L2 PySem.Spec PyProof.Rows FW
def pln : MV → Bool
  | .non => true
  | .bl _ => true
  | .int _ => true
  | .str _ => true
  | .tup _ => true
  | .lst _ => true
  | .dct _ => true
  | _ => false
theorem gd_pln {n : Nat} {m : MV} (h : gd n m = true) : pln m = true := by
  cases n with
  | zero => cases h
  | succ n => cases m <;> first | rfl | cases h
theorem gx_pln {n : Nat} {m : MV} (h : gx n m = true) : pln m = true := by
  cases n with
  | zero => cases h
  | succ n => cases m <;> first | rfl | cases h
theorem rgd_pln {m : MV} (h : rgd m = true) : pln m = true := gx_pln (rgd_gx h)
theorem pln_vw {b : MV} (h : pln b = true) (st : Sto) : vw st b = b := by cases b <;> first | rfl | (exact Bool.noConfusion h)
def wh : MV → Bool
  | .int _ => true
  | _ => false
theorem wh_int {m : MV} (h : wh m = true) : ∃ i, m = .int i := by cases m <;> first | (exact Bool.noConfusion h) | exact ⟨_, rfl⟩
theorem whole_ok {m : MV} (h : pln m = true) (st : Sto) : M_is_whole [m] st = .ok (.bl (wh m), false, st) := by
  cases m <;> first | (exact Bool.noConfusion h) | simp [M_is_whole, d_runF, startM, g_is_whole, tyAns, isT, tys7, wh]
@[simp] theorem d_mChain (g g' : G2) (fa fb fc : EF) (lo : Lo) (st : Sto) : mChain g g' fa fb fc lo st = (fa lo st >>= fun (a, _, st1) => fb lo st1 >>= fun (b, _, st2) =>
  match g st2 (vw st2 a) (vw st2 b) with
  | some (.bl true, false) => fc lo st2 >>= fun (c, _, st3) => giveOut (g' st3 (vw st3 b) (vw st3 c)) st3
  | some (.bl false, false) => .ok (.bl false, .fz, st2)
  | _ => .bad) := by
  unfold mChain giveOut
  cases fa lo st with
  | ok r =>
    obtain ⟨a, ka, st1⟩ := r
    simp only [Res.ok_bind]
    all_goals (cases fb lo st1 with
      | ok r =>
        obtain ⟨b, kb, st2⟩ := r
        simp only [Res.ok_bind]
        all_goals (rcases g st2 (vw st2 a) (vw st2 b) with _ | ⟨m, _ | _⟩)
        · rfl
        · cases m with
          | bl z =>
            cases z with
            | false => rfl
            | true =>
              simp only
              all_goals (cases fc lo st2 with
                | ok r =>
                  obtain ⟨c, kc, st3⟩ := r
                  simp only [Res.ok_bind]
                  all_goals (rcases g' st3 (vw st3 b) (vw st3 c) with _ | ⟨m, _ | _⟩ <;> rfl)
                | exc => rfl
                | bad => rfl)
          | _ => rfl
        · rfl
      | exc => rfl
      | bad => rfl)
  | exc => rfl
  | bad => rfl
def win (a b : Int) : MV → Bool
  | .int i => decide (a ≤ i) && decide (i ≤ b)
  | _ => false
theorem within_ok {m : MV} (h : pln m = true) (a b : Int) (st : Sto) : M_is_within [m, .int a, .int b] st = .ok (.bl (win a b m), false, st) := by
  cases w : wh m with
  | false =>
    have e : win a b m = false := by cases m <;> first | rfl | exact Bool.noConfusion w
    rw [e]
    simp [M_is_within, d_runF, startM, g_is_within, callR_ok _ _ (whole_ok h st), w]
  | true =>
    obtain ⟨i, rfl⟩ := wh_int w
    by_cases q : a ≤ i
    · simp [M_is_within, d_runF, startM, g_is_within, callR_ok _ _ (whole_ok h st), w, q, win]
    · simp [M_is_within, d_runF, startM, g_is_within, callR_ok _ _ (whole_ok h st), w, q, win]
theorem eqI (neg : Bool) (st : Sto) (i j : Int) : gEqB neg st (.int i) (.int j) = some (.bl (if neg then !(i == j) else (i == j)), false) := by
  have sh : ∀ i : Int, SeqAt.shaped (.int i) = true := fun i => by simp [SeqAt.shaped, PyData.canLay0, PyData.depth]
  show (if SeqAt.shaped (.int i) = true ∧ SeqAt.shaped (.int j) = true then some (MV.bl (if neg then !PyData.eqv (.int i) (.int j) else PyData.eqv (.int i) (.int j)), false) else none) = _
  rw [if_pos ⟨sh i, sh j⟩]
  simp [PyData.eqv]
theorem eqNil {neg : Bool} {xs : List MV} (h : gd dpt (.lst xs) = true) (st : Sto) : gEqB neg st (.lst xs) (.lst []) = some (.bl (if neg then !xs.isEmpty else xs.isEmpty), false) := by
  rw [eq_gd h rfl]
  cases xs with
  | nil => simp [eqM, md, mds, PyData.eqv, PyData.eqvAll]
  | cons x xs => simp [eqM, md, mds, PyData.eqv, PyData.eqvAll]
def LT : List Nat := (Str.ofString "abcdefghijklmnopqrstuvwxyz").cps.toList
def nameB : MV → Bool
  | .str x => decide (1 ≤ x.length) && decide (x.length ≤ 8) && x.cps.toList.all fun c => decide (c ∈ LT)
  | _ => false
theorem inSign {neg : Bool} {st : Sto} {c : Nat} {z : Str} : gInA neg st (.str ⟨#[c]⟩) (.str z) = some (.bl (if neg then !decide (c ∈ z.cps.toList) else decide (c ∈ z.cps.toList)), false) := by
  have e1 : gIn neg st (.str ⟨#[c]⟩) (.str z) = none := by
    unfold gIn
    have : toD st dpt (.str z) = some (.str z) := rfl
    rw [this]
    split
    · rename_i h; cases h
    · rfl
  unfold gInA
  rw [e1]; rfl
theorem lc_ok {vs : List Nat} {fi : IFn} {gf : GF} {tt : TF} {fe : EF} {lo : Lo} {st st1 st2 : Sto} {items ck acc} (hc : clrOk lo vs = true) (hi : fi lo st = .ok (items, ck, st1)) (hl : lcL ck gf tt fe (wipeM lo vs) items [] st1 = .ok (acc, st2)) : mLc vs fi gf tt fe lo st = .ok (.lst acc, .fr, st2) := by
  unfold mLc; rw [if_pos hc, hi]; simp only [Res.ok_bind]; rw [hl]; rfl
theorem lc_filter {vs : List Nat} {fi : IFn} {gf : GF} {tt : TF} {fe : EF} {lo : Lo} {st : Sto} {items ck} {p : MV → Bool} {f : MV → MV} (hc : clrOk lo vs = true) (hi : fi lo st = .ok (items, ck, st)) (hck : ∀ st, ck (wipeM lo vs) st) (hz : items.length ≤ sizeLine)
    (hb : ∀ x, x ∈ items → ∃ lo1, gf x (wipeM lo vs) st = .ok (lo1, st) ∧ tt lo1 st = .ok (p x, st) ∧ (p x = true → ∃ kd, fe lo1 st = .ok (f x, kd, st) ∧ isPk kd = false)) : mLc vs fi gf tt fe lo st = .ok (.lst ((items.filter p).map f), .fr, st) := by
  obtain ⟨acc, st2, e, ha, hs⟩ := lcL_run (ck := ck) (gf := gf) (tt := tt) (fe := fe) (lo0 := wipeM lo vs) (Inv := fun k acc st2 => acc = ((items.take k).filter p).map f ∧ st2 = st) (items := items) (fun _ _ _ _ => hck _) hz (fun k acc st2 ⟨h, _⟩ => by
      rw [h, List.length_map]; exact Nat.le_trans (List.length_filter_le _ _) (by rw [List.length_take]; omega))
    (fun k m acc st2 hm ⟨ha, hs⟩ => by
      subst hs
      obtain ⟨lo1, e1, e2, e3⟩ := hb m (List.mem_of_getElem? hm)
      have tk : items.take (k + 1) = items.take k ++ [m] := by rw [List.take_add_one, hm]; rfl
      refine ⟨lo1, st2, p m, st2, e1, e2, ?_⟩
      cases hp : p m with
      | false => exact .inl ⟨rfl, by rw [ha, tk, List.filter_append]; simp [hp], rfl⟩
      | true =>
        obtain ⟨kd, e4, hk⟩ := e3 hp
        exact .inr ⟨rfl, f m, kd, st2, e4, hk, by rw [ha, tk, List.filter_append, List.map_append]; simp [hp], rfl⟩)
    [] st ⟨rfl, rfl⟩
  subst hs
  rw [List.take_length] at ha
  subst ha
  exact lc_ok hc hi e
theorem name_ok {m : MV} (h : pln m = true) (hs : ∀ x, m = .str x → x.length ≤ sizeLine ∧ PyData.strOk x = true) (st : Sto) : M_is_name [m] st = .ok (.bl (nameB m), false, st) := by
  cases m with
  | str x =>
    obtain ⟨hx, hso⟩ := hs x rfl
    have gl : gLen st [.str x] = some (.int x.length, false) := if_pos hx
    by_cases c1 : (1 : Int) ≤ (x.length : Int)
    · by_cases c2 : (x.length : Int) ≤ 8
      · have hn : x.cps.toList.length ≤ 8 := by
          have : x.length = x.cps.toList.length := by show x.cps.size = _; simp
          omega
        have hf := lc_filter (vs := [1]) (fi := iStrM (mVar 0)) (gf := gN 1) (tt := mTv (mOp (gInA true) (mVar 1) (mC (.str "abcdefghijklmnopqrstuvwxyz")))) (fe := mVar 1) (lo := [fz (.str x), none]) (st := st) (items := x.cps.toList.map fun c => .str ⟨#[c]⟩) (ck := fun _ _ => True)
          (p := fun m => match m with | .str z => (match z.cps.toList with | [c] => !decide (c ∈ LT) | _ => false) | _ => false) (f := id) rfl (by unfold iStrM; simp) (fun _ => trivial) (sz (by rw [List.length_map]; omega))
          (fun y hy => by
            obtain ⟨c, hc, rfl⟩ := List.mem_map.mp hy
            refine ⟨[fz (.str x), fz (.str ⟨#[c]⟩)], rfl, ?_, fun _ => ⟨.fz, rfl, rfl⟩⟩
            have := inSign (neg := true) (st := st) (c := c) (z := "abcdefghijklmnopqrstuvwxyz")
            simp only [d_mTv, d_mOp, d_mVar, d_mC, Res.ok_bind, List.getElem?_cons_succ, List.getElem?_cons_zero, vw_str, this, d_give0]
            rfl)
        rw [List.map_id] at hf
        generalize hL : ((x.cps.toList.map fun c => MV.str ⟨#[c]⟩).filter fun m => match m with | .str z => (match z.cps.toList with | [c] => !decide (c ∈ LT) | _ => false) | _ => false) = L at hf
        have hg : gd dpt (.lst L) = true := gd_lst fun y hy => by
          rw [← hL] at hy
          obtain ⟨hy1, _⟩ := List.mem_filter.mp hy
          obtain ⟨c, hc, rfl⟩ := List.mem_map.mp hy1
          have := strOk_mem hso c hc
          show PyData.strOk ⟨#[c]⟩ = true
          simp [PyData.strOk]; omega
        have hemp : L.isEmpty = x.cps.toList.all fun c => decide (c ∈ LT) := by
          rw [← hL]
          induction x.cps.toList with
          | nil => rfl
          | cons c cs ih =>
            rw [List.map_cons, List.filter_cons, List.all_cons, ← ih]
            by_cases q : c ∈ LT
            · simp [q]
            · simp [q]
        have e := eqNil (neg := false) hg st
        unfold M_is_name g_is_name
        refine runF_rt (k := .fz) (lo0 := [fz (.str x), none]) (lo := [fz (.str x), none]) rfl (seq_ok (lo1 := [fz (.str x), none]) (st1 := st) ?_ ?_)
        · simp [tyAns, isT, tys7, gl, c1, c2]
        · rw [d_sRet, d_mOp, hf]
          simp only [Res.ok_bind, d_mLst, d_mNil, d_allFz0, List.length_nil, Nat.zero_le, if_true, vw_lst, e, d_give0]
          rw [hemp]
          have d1 : decide (1 ≤ x.length) = true := by simp; omega
          have d2 : decide (x.length ≤ 8) = true := by simp; omega
          show _ = Res.ok (Fl.rt (.bl (nameB (.str x))) .fz, _, _)
          rw [show nameB (.str x) = (decide (1 ≤ x.length) && decide (x.length ≤ 8) && x.cps.toList.all fun c => decide (c ∈ LT)) from rfl, d1, d2]; rfl
      · have d2 : nameB (.str x) = false := by
          have : decide (x.length ≤ 8) = false := by simp; omega
          show (decide (1 ≤ x.length) && decide (x.length ≤ 8) && x.cps.toList.all fun c => decide (c ∈ LT)) = false
          rw [this]; simp
        rw [d2]
        simp [M_is_name, d_runF, startM, g_is_name, tyAns, isT, tys7, gl, c1, c2]
    · have d2 : nameB (.str x) = false := by
        have : decide (1 ≤ x.length) = false := by simp; omega
        show (decide (1 ≤ x.length) && decide (x.length ≤ 8) && x.cps.toList.all fun c => decide (c ∈ LT)) = false
        rw [this]; simp
      rw [d2]
      simp [M_is_name, d_runF, startM, g_is_name, tyAns, isT, tys7, gl, c1]
  | _ => first | (exact Bool.noConfusion h) | simp [M_is_name, d_runF, startM, g_is_name, tyAns, isT, tys7, nameB]
end FL
namespace FL
open PySem L2 PySem.Spec PyProof.Rows FW
theorem opV {g : G2} {fa fb : EF} {lo : Lo} {st st1 st2 : Sto} {a b : MV} {ka kb : Kd} {z : MV} (ha : fa lo st = .ok (a, ka, st1)) (hb : fb lo st1 = .ok (b, kb, st2)) (h : g st2 (vw st2 a) (vw st2 b) = some (z, false)) : mOp g fa fb lo st = .ok (z, .fz, st2) := by
  rw [d_mOp, ha]; simp only [Res.ok_bind]; rw [hb]; simp only [Res.ok_bind]; rw [h]; rfl
section
variable {lo : Lo} {st st1 st2 : Sto}
theorem tv_ok {f : EF} {b : Bool} {k} (h : f lo st = .ok (.bl b, k, st1)) : mTv f lo st = .ok (b, st1) := by unfold mTv; rw [h]; rfl
theorem not_ok {f : TF} {b : Bool} (h : f lo st = .ok (b, st1)) : mNotT f lo st = .ok (!b, st1) := by unfold mNotT; rw [h]; rfl
theorem or_ff {f g : TF} {r} (h : f lo st = .ok (false, st1)) (h2 : g lo st1 = r) : mOr f g lo st = r := by rw [d_mOr, h]; simp only [Res.ok_bind]; rw [if_neg Bool.false_ne_true]; exact h2
theorem or_tt {f g : TF} (h : f lo st = .ok (true, st1)) : mOr f g lo st = .ok (true, st1) := by rw [d_mOr, h]; rfl
theorem and_tt {f g : TF} {r} (h : f lo st = .ok (true, st1)) (h2 : g lo st1 = r) : mAnd f g lo st = r := by rw [d_mAnd, h]; simp only [Res.ok_bind]; exact (if_pos trivial).trans h2
theorem and_ff {f g : TF} (h : f lo st = .ok (false, st1)) : mAnd f g lo st = .ok (false, st1) := by rw [d_mAnd, h]; rfl
theorem if_tt {c : TF} {g g' : SF} {r} (h : c lo st = .ok (true, st1)) (h2 : g lo st1 = r) : sIf c g g' lo st = r := by rw [d_sIf, h]; simp only [Res.ok_bind]; exact (if_pos trivial).trans h2
theorem if_ff {c : TF} {g g' : SF} {r} (h : c lo st = .ok (false, st1)) (h2 : g' lo st1 = r) : sIf c g g' lo st = r := by rw [d_sIf, h]; simp only [Res.ok_bind]; rw [if_neg Bool.false_ne_true]; exact h2
theorem ret_ok {f : EF} {m k} (h : f lo st = .ok (m, k, st1)) : sRet f lo st = .ok (.rt m k, lo, st1) := by unfold sRet; rw [h]; rfl
theorem set_ok {i : Nat} {f : EF} {m k} (h : f lo st = .ok (m, k, st1)) (hk : isPk k = false) : sSet i f lo st = .ok (.nx, lo.set i (fz m), st1) := by
  unfold sSet; rw [h]; cases k <;> first | rfl | cases hk
theorem expr_ok {f : EF} {m k} (h : f lo st = .ok (m, k, st1)) : sExpr f lo st = .ok (.nx, lo, st1) := by unfold sExpr; rw [h]; rfl
theorem expr_exc {f : EF} {c fs} (h : f lo st = .exc c fs lo st1) : sExpr f lo st = .exc c fs lo st1 := by unfold sExpr; rw [h]; rfl
end
theorem gd_strs {n : Nat} (xs : List Str) (h : ∀ x, x ∈ xs → PyData.strOk x = true) : gd (n + 2) (.lst (xs.map .str)) = true := gd_lst fun y hy => by
  obtain ⟨x, hx, rfl⟩ := List.mem_map.mp hy
  exact h x hx
theorem PlOk.good {pl : List Str} (h : PlOk pl) : ∀ x, x ∈ pl → PyData.strOk x = true := h.cases (Q := fun l => ∀ x, x ∈ l → PyData.strOk x = true) (by decide +kernel) (by decide +kernel) (by decide +kernel) (by decide +kernel) (by decide +kernel)
theorem PlOk.name {pl : List Str} (h : PlOk pl) : ∀ x, x ∈ pl → nameB (.str x) = true := h.cases (Q := fun l => ∀ x, x ∈ l → nameB (.str x) = true) (by decide +kernel) (by decide +kernel) (by decide +kernel) (by decide +kernel) (by decide +kernel)
theorem PlOk.up {pl : List Str} (h : PlOk pl) : ("up" : Str) ∈ pl := h.cases (Q := fun l => ("up" : Str) ∈ l) (by decide +kernel) (by decide +kernel) (by decide +kernel) (by decide +kernel) (by decide +kernel)
def inPl (pl : List Str) (m : MV) : Bool := (pl.map MV.str).any fun z => eqM z m
theorem eqM_str (x y : Str) : eqM (.str x) (.str y) = decide (x = y) := by
  by_cases h : x = y
  · subst h; simp [eqM, md, PyData.eqv]
  · simp [eqM, md, PyData.eqv, h]
theorem inPl_str {pl : List Str} {x : Str} : inPl pl (.str x) = decide (x ∈ pl) := by
  unfold inPl
  induction pl with
  | nil => rfl
  | cons p pl ih =>
    rw [List.map_cons, List.any_cons, ih, eqM_str]
    by_cases h : p = x
    · subst h; simp
    · have h' : ¬ (x = p) := fun z => h z.symm
      simp [h, h']
theorem inPl_ok {neg : Bool} {pl : List Str} (hp : ∀ x, x ∈ pl → PyData.strOk x = true) {m : MV} (h : gd dpt m = true) (st : Sto) : gInA neg st m (.lst (pl.map .str)) = some (.bl (if neg then !inPl pl m else inPl pl m), false) := in_gd h (gd_strs pl hp)
def moveB (pl : List Str) : MV → Bool
  | .tup [a, b, c, d] => inPl pl a && (inPl pl d && (win 0 8 b && (win (-4) 4 c && (match b, c with
    | .int l, .int ch => decide (0 ≤ l + ch) && decide (l + ch ≤ 8)
    | _, _ => false))))
  | _ => false
theorem win_int {a b : Int} {m : MV} (h : win a b m = true) : ∃ i, m = .int i := by cases m <;> first | exact ⟨_, rfl⟩ | cases h
theorem isMove_ok {pl : List Str} (hp : ∀ x, x ∈ pl → PyData.strOk x = true) {m : MV} (h : pln m = true) (hx : ∀ xs, m = .tup xs → ∀ x, x ∈ xs → gd dpt x = true) (st : Sto) : M_is_move [m, .lst (pl.map .str)] st = .ok (.bl (moveB pl m), false, st) := by
  cases m with
  | tup xs =>
    have ha := hx xs rfl
    match xs, ha with
    | [], _ => simp [M_is_move, d_runF, startM, g_is_move, tyAns, isT, tys7, eqI, moveB]
    | [_], _ => simp [M_is_move, d_runF, startM, g_is_move, tyAns, isT, tys7, eqI, moveB]
    | [_, _], _ => simp [M_is_move, d_runF, startM, g_is_move, tyAns, isT, tys7, eqI, moveB]
    | [_, _, _], _ => simp [M_is_move, d_runF, startM, g_is_move, tyAns, isT, tys7, eqI, moveB]
    | _ :: _ :: _ :: _ :: _ :: r, _ =>
      have e : ((r.length : Int) + 1 + 1 + 1 + 1 + 1 == 4) = false := by simp; omega
      simp [M_is_move, d_runF, startM, g_is_move, tyAns, isT, tys7, eqI, moveB, e]
    | [a, b, c, d], ha =>
      have ga := ha a (by simp)
      have gb := ha b (by simp)
      have gc := ha c (by simp)
      have gdd := ha d (by simp)
      have y0 : atI [a, b, c, d] 0 = some a := rfl
      have y1 : atI [a, b, c, d] 1 = some b := rfl
      have y2 : atI [a, b, c, d] 2 = some c := rfl
      have y3 : atI [a, b, c, d] 3 = some d := rfl
      have ia := inPl_ok (neg := true) hp ga st
      have id := inPl_ok (neg := true) hp gdd st
      have va := gd_vw ga st
      have vd := gd_vw gdd st
      have wb := callR_ok [fz (.tup [a, b, c, d]), fz (.lst (pl.map .str))] st (within_ok (gd_pln gb) 0 8 st)
      have wc := callR_ok [fz (.tup [a, b, c, d]), fz (.lst (pl.map .str))] st (within_ok (gd_pln gc) (-4) 4 st)
      show _ = Res.ok (MV.bl (inPl pl a && (inPl pl d && (win 0 8 b && (win (-4) 4 c && _)))), false, st)
      cases qa : inPl pl a with
      | false => rw [qa] at ia; simp [M_is_move, d_runF, startM, g_is_move, tyAns, isT, tys7, eqI, y0, va, ia]
      | true =>
        cases qd : inPl pl d with
        | false => rw [qa] at ia; rw [qd] at id; simp [M_is_move, d_runF, startM, g_is_move, tyAns, isT, tys7, eqI, y0, y3, va, vd, ia, id]
        | true =>
          rw [qa] at ia; rw [qd] at id
          cases qb : win 0 8 b with
          | false => rw [qb] at wb; simp [M_is_move, d_runF, startM, g_is_move, tyAns, isT, tys7, eqI, y0, y1, y3, va, vd, ia, id, wb]
          | true =>
            rw [qb] at wb
            cases qc : win (-4) 4 c with
            | false => rw [qc] at wc; simp [M_is_move, d_runF, startM, g_is_move, tyAns, isT, tys7, eqI, y0, y1, y2, y3, va, vd, ia, id, wb, wc]
            | true =>
              rw [qc] at wc
              obtain ⟨l, rfl⟩ := win_int qb
              obtain ⟨ch, rfl⟩ := win_int qc
              by_cases q0 : 0 ≤ l + ch
              · simp [M_is_move, d_runF, startM, g_is_move, tyAns, isT, tys7, eqI, y0, y1, y2, y3, va, vd, ia, id, wb, wc, q0]
              · simp [M_is_move, d_runF, startM, g_is_move, tyAns, isT, tys7, eqI, y0, y1, y2, y3, va, vd, ia, id, wb, wc, q0]
  | _ => first | (exact Bool.noConfusion h) | simp [M_is_move, d_runF, startM, g_is_move, tyAns, isT, tys7, moveB]
theorem moveB_ok {pl : List Str} {m : Move} (h : m.Ok pl) : moveB pl (mM m) = true := by
  show (inPl pl (.str m.p) && (inPl pl (.str m.o) && (win 0 8 (.int m.l) && (win (-4) 4 (.int m.c) && (decide (0 ≤ m.l + m.c) && decide (m.l + m.c ≤ 8)))))) = true
  rw [inPl_str, inPl_str]
  simp only [win, Bool.and_eq_true, decide_eq_true_eq]
  exact ⟨h.p, h.o, ⟨h.l0, h.l8⟩, ⟨h.c4, h.c5⟩, h.s0, h.s8⟩
theorem gd_mM {n : Nat} {pl : List Str} (hp : ∀ x, x ∈ pl → PyData.strOk x = true) {m : Move} (h : m.Ok pl) : ∀ xs, mM m = .tup xs → ∀ x, x ∈ xs → gd (n + 1) x = true := by
  intro xs e x hx
  cases e
  have := h.l0; have := h.l8; have := h.c4; have := h.c5
  simp only [List.mem_cons, List.not_mem_nil, or_false] at hx
  rcases hx with rfl | rfl | rfl | rfl
  · exact hp _ h.p
  · exact gd_int (Nat.lt_of_lt_of_le (by omega : m.l.natAbs < 10) (by decide +kernel))
  · exact gd_int (Nat.lt_of_lt_of_le (by omega : m.c.natAbs < 10) (by decide +kernel))
  · exact hp _ h.o
theorem cut_take (xs : List MV) {k : Nat} (h : k ≤ xs.length) : cutM xs none (some (k : Int)) = xs.take k := by
  unfold cutM
  rw [HT.sIx_nat, HT.sIx_none, List.drop_zero, Nat.sub_zero, Nat.min_eq_left h]
theorem enumM_len (xs : List MV) : (enumM xs).length = xs.length := by unfold enumM; simp
theorem runI_nx {c : Str} {n : Nat} {g : SF} {ms : List MV} {lo0 lo : Lo} {st st' : Sto} {fs} (h0 : startI c n ms = lo0) (h : g lo0 st = .ok (.nx, lo, st')) (hs : lo[0]? = some (ow (.ins c fs))) : FW.runI c n g ms st = .ok (.ins c fs, true, st') := by
  subst h0; unfold FW.runI; rw [h]; simp only [selfOf, hs]
theorem runI_exc {c : Str} {n : Nat} {g : SF} {ms : List MV} {lo0 lo : Lo} {st st' : Sto} {e fs} (h0 : startI c n ms = lo0) (h : g lo0 st = .exc e fs lo st') : FW.runI c n g ms st = .exc e fs lo st' := by subst h0; unfold FW.runI; rw [h]
abbrev LOI (s p m t3 t4 t5 : Option (MV × Bool)) : Lo := [s, p, m, t3, t4, t5]
theorem put2 (x y : MV) : putM "steps" y [(("stands" : Str), x)] = [(("stands" : Str), x), (("steps" : Str), y)] := by unfold putM; rw [if_neg (by decide)]; rfl
theorem put3 (x y z : MV) : putM "folio" z [(("stands" : Str), x), (("steps" : Str), y)] = [(("stands" : Str), x), (("steps" : Str), y), (("folio" : Str), z)] := by unfold putM; rw [if_neg (by decide)]; unfold putM; rw [if_neg (by decide)]; rfl
theorem chkP_ok (P : Prog) (st : Sto) : M_check_program [progM P] st = .ok (.non, false, st) := by
  have e : eqc CS "Program" "Program" = some true := rfl
  simp [M_check_program, d_runF, startM, g_check_program, progM, tyAns, e]
end FL
namespace FB
variable {α : Type}
abbrev Ed (α : Type) := α → Int → Int → α → Prop
def St (E : Ed α) (n : Int) (x y : α × Int) : Prop := ∃ l c, E x.1 l c y.1 ∧ y.2 = x.2 + c ∧ l ≤ n + x.2
structure Wf (E : Ed α) (n : Int) (I : Int → Prop) (k : Nat) (f : Nat → α × Int) : Prop where
  st : ∀ i, i < k → St E n (f i) (f (i + 1))
  wi : ∀ i, i ≤ k → I (f i).2
def Wk (E : Ed α) (n : Int) (I : Int → Prop) (k : Nat) (x y : α × Int) : Prop := ∃ f, f 0 = x ∧ f k = y ∧ Wf E n I k f
variable {E : Ed α} {n m : Int} {I J : Int → Prop} {k k' : Nat} {x y z : α × Int} {f : Nat → α × Int}
theorem Wk.nil (h : I x.2) : Wk E n I 0 x x := ⟨fun _ => x, rfl, rfl, fun i hi => by omega, fun _ _ => h⟩
theorem Wk.snoc (w : Wk E n I k x y) (s : St E n y z) (h : I z.2) : Wk E n I (k + 1) x z := by
  obtain ⟨f, h0, h1, w⟩ := w
  have lo : ∀ i, i ≤ k → (if i ≤ k then f i else z) = f i := fun i hi => if_pos hi
  have hi' : (if k + 1 ≤ k then f (k + 1) else z) = z := if_neg (by omega)
  refine ⟨fun i => if i ≤ k then f i else z, (lo 0 (by omega)).trans h0, hi', fun i hi => ?_, fun i hi => ?_⟩
  · by_cases e : i = k
    · subst e; rw [hi', lo i (by omega), h1]; exact s
    · rw [lo i (by omega), lo (i + 1) (by omega)]; exact w.st i (by omega)
  · by_cases e : i ≤ k
    · rw [lo i e]; exact w.wi i e
    · have : i = k + 1 := by omega
      subst this; rw [hi']; exact h
theorem Wk.app (a : Wk E n I k x y) (b : Wk E n I k' y z) : Wk E n I (k + k') x z := by
  obtain ⟨f, f0, f1, w⟩ := b
  induction k' generalizing z with
  | zero => rw [f0] at f1; subst f1; exact a
  | succ k' ih =>
    have := ih (z := f k') rfl ⟨fun i hi => w.st i (by omega), fun i hi => w.wi i (by omega)⟩
    rw [← f1]
    exact this.snoc (w.st k' (by omega)) (w.wi _ (Nat.le_refl _))
theorem Wk.shift (r : Int) (w : Wk E n I k x y) (hn : ∀ a l c b h, E a l c b → I h → l ≤ n + h → l ≤ m + (h + r)) (hJ : ∀ h, I h → J (h + r)) : Wk E m J k (x.1, x.2 + r) (y.1, y.2 + r) := by
  obtain ⟨f, a, b, w⟩ := w
  refine ⟨fun t => ((f t).1, (f t).2 + r), by show ((f 0).1, (f 0).2 + r) = _; rw [a], by show ((f k).1, (f k).2 + r) = _; rw [b], fun i hi => ?_, fun i hi => hJ _ (w.wi i hi)⟩
  obtain ⟨l, c, e, h1, h2⟩ := w.st i hi
  exact ⟨l, c, e, by show (f (i + 1)).2 + r = (f i).2 + r + c; omega, hn _ l c _ _ e (w.wi i (by omega)) h2⟩
structure EOk (E : Ed α) (pc : α → Nat) (P W : Nat) : Prop where
  pcs : ∀ p l c o, E p l c o → pc p < P ∧ pc o < P
  inj : ∀ p q, pc p < P → pc q < P → pc p = pc q → p = q
  l0 : ∀ p l c o, E p l c o → 0 ≤ l
  l8 : ∀ p l c o, E p l c o → l ≤ 8
  s0 : ∀ p l c o, E p l c o → 0 ≤ l + c
  s8 : ∀ p l c o, E p l c o → l + c ≤ 8
  cl : ∀ p l c o, E p l c o → -(W : Int) ≤ c ∧ c ≤ W
variable {pc : α → Nat} {P W : Nat}
end FB
namespace FB
variable {α : Type} {E : Ed α} {n m : Int} {I J : Int → Prop} {k k' : Nat} {x y z : α × Int} {f : Nat → α × Int} {pc : α → Nat} {P W : Nat}
abbrev Any : Int → Prop := fun _ => True
def V (E : Ed α) (n : Int) (p q : α) (c : Int) : Prop := ∃ k, Wk E n Any k (p, 0) (q, c)
def Cl (E : Ed α) (p : α) (c : Int) : Prop := ∃ k, Wk E 8 (fun h => 0 ≤ h) k (p, 0) (p, c)
theorem V.mono (ok : EOk E pc P W) {p q : α} {c : Int} (v : V E n p q c) (h : n ≤ m) : V E m p q c := by
  obtain ⟨k, w⟩ := v
  have := w.shift 0 (m := m) (J := Any) (fun a l c b h' e _ hl => by omega) (fun _ _ => trivial)
  exact ⟨k, by simpa using this⟩
theorem V.app {p q r : α} {c d : Int} (a : V E n p q c) (b : V E (n + c) q r d) : V E n p r (c + d) := by
  obtain ⟨k, w⟩ := a
  obtain ⟨k', w'⟩ := b
  have := w'.shift c (m := n) (J := Any) (fun a l c' b h' e _ hl => by omega) (fun _ _ => trivial)
  simp only [Int.zero_add] at this
  exact ⟨k + k', by rw [Int.add_comm c d]; exact w.app this⟩
theorem V.nil {p : α} : V E n p p 0 := ⟨0, Wk.nil trivial⟩
theorem Cl.add (ok : EOk E pc P W) {p : α} {c d : Int} (hc : 0 ≤ c) (a : Cl E p c) (b : Cl E p d) : Cl E p (c + d) := by
  obtain ⟨k, w⟩ := a
  obtain ⟨k', w'⟩ := b
  have := w'.shift c (m := 8) (J := fun h => 0 ≤ h) (fun a l c' b h' e q hl => by have := ok.l8 _ _ _ _ e; omega) (fun h q => by omega)
  simp only [Int.zero_add] at this
  exact ⟨k + k', by rw [Int.add_comm c d]; exact w.app this⟩
end FB
namespace FB
variable {α : Type} {E : Ed α} {n m : Int} {pc : α → Nat} {P W : Nat}
abbrev In (w : Int) : Int → Prop := fun h => -w ≤ h ∧ h ≤ w
structure CostOk (E : Ed α) (pc : α → Nat) (w : Int) (cost : α → α → Int → Option Int) : Prop where
  w0 : 0 ≤ w
  sound : ∀ p q c n, pc p < 4 → cost p q c = some n → 0 ≤ n ∧ ∃ k, Wk E n (In w) k (p, 0) (q, c)
  least : ∀ p q c n k, pc p < 4 → 0 ≤ n → Wk E n (In w) k (p, 0) (q, c) → ∃ m, m ≤ n ∧ cost p q c = some m
variable {w R : Int} {cost : α → α → Int → Option Int}
def Repeats (pc : α → Nat) (cost : α → α → Int → Option Int) (b R s way : Int) : Prop :=
  ∀ p q, pc p < 4 → pc q < 4 → ∀ z, b ≤ z → z ≤ R - s → cost p q (way * (z + s)) = (cost p q (way * z)).map (· + if way < 0 then s else 0)
def Turn (pc : α → Nat) (cost : α → α → Int → Option Int) (s way : Int) (p q : α) (change due : Int) (m : α) (a : Int) : Prop :=
  pc m < 4 ∧ ∃ x y z, cost m m (way * s) = some x ∧ cost p m a = some y ∧ y ≤ due ∧ x - (if way < 0 then s else 0) - a ≤ due ∧ cost m q (change - a) = some z ∧ z - a ≤ due
def Shown (pc : α → Nat) (cost : α → α → Int → Option Int) (b s way : Int) : Prop :=
  ∀ p q, pc p < 4 → pc q < 4 → ∀ z, b ≤ z → z < b + s → ∀ due, cost p q (way * z) = some due → ∃ m a, Turn pc cost s way p q (way * z) due m a
def folded (b rs fs c : Int) : Int × Int :=
  if c ≥ b + rs then (c - (c - b) / rs * rs, (c - b) / rs)
  else if c ≤ -b - fs then (c + (-c - b) / fs * fs, (-c - b) / fs)
  else (c, 0)
def least (cost : α → α → Int → Option Int) (b rs fs : Int) (p q : α) (c : Int) : Option Int :=
  match cost p q (folded b rs fs c).1 with
  | none => none
  | some n => if c ≥ 0 then some n else some (n + (folded b rs fs c).2 * fs)
def IsD (E : Ed α) (p q : α) (c : Int) : Option Int → Prop
  | none => ∀ n, 0 ≤ n → ¬ V E n p q c
  | some n => 0 ≤ n ∧ V E n p q c ∧ ∀ m, 0 ≤ m → V E m p q c → n ≤ m
structure BookOk (E : Ed α) (pc : α → Nat) (cost : α → α → Int → Option Int) (w R b rs fs : Int) : Prop where
  co : CostOk E pc w cost
  ww : R + 4 ≤ w
  bR : 2 * b ≤ R
  b16 : 16 ≤ b
  r1 : 1 ≤ rs
  r2 : 2 * rs + 16 ≤ b
  f1 : 1 ≤ fs
  f2 : 2 * fs + 16 ≤ b
  rr : Repeats pc cost b R rs 1
  rh : Shown pc cost b rs 1
  fr : Repeats pc cost b R fs (-1)
  fh : Shown pc cost b fs (-1)
variable {b rs fs : Int}
theorem fold_mid (h1 : c < b + rs) (h2 : -b - fs < c) : folded b rs fs c = (c, 0) := by
  unfold folded
  rw [if_neg (by omega), if_neg (by omega)]
theorem least_mid {p q : α} {c : Int} (h1 : c < b + rs) (h2 : -b - fs < c) : least cost b rs fs p q c = cost p q c := by
  unfold least
  rw [fold_mid h1 h2]
  cases cost p q c with
  | none => rfl
  | some n => simp
theorem least_up (hb : 0 ≤ b) (hr : 1 ≤ rs) (hf : 1 ≤ fs) (p q : α) {c : Int} (h : b ≤ c) : least cost b rs fs p q (c + rs) = least cost b rs fs p q c := by
  have e : (folded b rs fs (c + rs)).1 = (folded b rs fs c).1 := by
    have d : (c + rs - b) / rs = (c - b) / rs + 1 := by
      rw [show c + rs - b = c - b + 1 * rs by omega, Int.add_mul_ediv_right _ _ (by omega)]
    have x : (folded b rs fs (c + rs)).1 = c - (c - b) / rs * rs := by
      unfold folded
      rw [if_pos (show c + rs ≥ b + rs by omega)]
      show c + rs - (c + rs - b) / rs * rs = _
      rw [d, Int.add_mul]; omega
    rw [x]
    by_cases q : b + rs ≤ c
    · unfold folded; rw [if_pos (show c ≥ b + rs by omega)]
    · rw [fold_mid (by omega) (by omega), Int.ediv_eq_zero_of_lt (by omega) (by omega)]; simp
  unfold least
  rw [e]
  cases cost p q (folded b rs fs c).1 with
  | none => rfl
  | some n => simp only [if_pos (show c + rs ≥ 0 by omega), if_pos (show c ≥ 0 by omega)]
theorem least_dn (hb : 1 ≤ b) (hr : 1 ≤ rs) (hf : 1 ≤ fs) (p q : α) {c : Int} (h : c ≤ -b) : least cost b rs fs p q (c - fs) = (least cost b rs fs p q c).map (· + fs) := by
  have d : (-(c - fs) - b) / fs = (-c - b) / fs + 1 := by
    rw [show -(c - fs) - b = -c - b + 1 * fs by omega, Int.add_mul_ediv_right _ _ (by omega)]
  have x : folded b rs fs (c - fs) = (c + (-c - b) / fs * fs, (-c - b) / fs + 1) := by
    unfold folded
    rw [if_neg (by omega), if_pos (show c - fs ≤ -b - fs by omega), d, Int.add_mul]
    exact Prod.ext (by show c - fs + ((-c - b) / fs * fs + 1 * fs) = _; omega) rfl
  have y : folded b rs fs c = (c + (-c - b) / fs * fs, (-c - b) / fs) := by
    by_cases q : c ≤ -b - fs
    · unfold folded; rw [if_neg (by omega), if_pos q]
    · rw [fold_mid (by omega) (by omega), Int.ediv_eq_zero_of_lt (by omega) (by omega)]; simp
  unfold least
  rw [x, y]
  cases cost p q (c + (-c - b) / fs * fs) with
  | none => rfl
  | some n =>
    simp only [if_neg (show ¬ (c - fs ≥ 0) by omega), if_neg (show ¬ (c ≥ 0) by omega), Option.map_some, Int.add_mul]
    congr 1; omega
namespace BookOk
variable (B : BookOk E pc cost w R b rs fs)
include B
theorem up_eq {p q : α} (hp : pc p < 4) (hq : pc q < 4) : ∀ (k : Nat) (c : Int), b ≤ c → c ≤ R → c - b < k → least cost b rs fs p q c = cost p q c
  | 0, c, h1, h2, h3 => by omega
  | k + 1, c, h1, h2, h3 => by
    have := B.r1; have := B.f1; have := B.b16
    by_cases h : c < b + rs
    · exact least_mid h (by omega)
    · have e := least_up (cost := cost) (by omega) B.r1 B.f1 p q (show b ≤ c - rs by omega)
      rw [Int.sub_add_cancel] at e
      rw [e, up_eq hp hq k (c - rs) (by omega) (by omega) (by omega)]
      have := B.rr p q hp hq (c - rs) (by omega) (by omega)
      simp only [Int.one_mul, show ¬ ((1 : Int) < 0) by omega, if_false, Int.add_zero, Int.sub_add_cancel] at this
      rw [this]
      cases cost p q (c - rs) <;> rfl
theorem dn_eq {p q : α} (hp : pc p < 4) (hq : pc q < 4) : ∀ (k : Nat) (c : Int), c ≤ -b → -R ≤ c → -c - b < k → least cost b rs fs p q c = cost p q c
  | 0, c, h1, h2, h3 => by omega
  | k + 1, c, h1, h2, h3 => by
    have := B.r1; have := B.f1; have := B.b16
    by_cases h : -b - fs < c
    · exact least_mid (by omega) h
    · have e := least_dn (cost := cost) (by omega) B.r1 B.f1 p q (show c + fs ≤ -b by omega)
      rw [show c + fs - fs = c by omega] at e
      rw [e, dn_eq hp hq k (c + fs) (by omega) (by omega) (by omega)]
      have := B.fr p q hp hq (-(c + fs)) (by omega) (by omega)
      simp only [show ∀ t : Int, -1 * t = -t from fun t => by omega, show ((-1 : Int) < 0) by omega, if_true] at this
      rw [show -(-(c + fs) + fs) = c by omega, show -(-(c + fs)) = c + fs by omega] at this
      rw [this]
theorem eq {p q : α} (hp : pc p < 4) (hq : pc q < 4) {c : Int} (h1 : -R ≤ c) (h2 : c ≤ R) : least cost b rs fs p q c = cost p q c := by
  have := B.r1; have := B.f1; have := B.b16
  by_cases a : b ≤ c
  · exact B.up_eq hp hq (c - b + 1).toNat c a h2 (by omega)
  · by_cases z : c ≤ -b
    · exact B.dn_eq hp hq (-c - b + 1).toNat c z h1 (by omega)
    · exact least_mid (by omega) (by omega)
end BookOk
theorem IsD.uniq {p q : α} {c : Int} : ∀ {a b : Option Int}, IsD E p q c a → IsD E p q c b → a = b
  | none, none, _, _ => rfl
  | none, some n, h, h' => absurd h'.2.1 (h n h'.1)
  | some n, none, h, h' => absurd h.2.1 (h' n h.1)
  | some n, some m, h, h' => by
    have := h.2.2 m h'.1 h'.2.1
    have := h'.2.2 n h.1 h.2.1
    congr 1; omega
end FB
namespace FB
section
variable {κ β : Type} [DecidableEq κ]
def vv (d : List (κ × β)) (k : κ) : Option β := (d.find? fun p => decide (p.1 = k)).map (·.2)
def pp (d : List (κ × β)) (k : κ) (v : β) : List (κ × β) := if (d.any fun p => decide (p.1 = k)) = true then d.map fun p => if p.1 = k then (p.1, v) else p else d ++ [(k, v)]
def xx (d : List (κ × β)) (k : κ) : List (κ × β) := d.filter fun p => decide (p.1 ≠ k)
theorem vv_pos {p : κ × β} {r : List (κ × β)} {k : κ} (e : p.1 = k) : vv (p :: r) k = some p.2 := by simp [vv, List.find?_cons, e]
theorem vv_neg {p : κ × β} {r : List (κ × β)} {k : κ} (e : ¬ p.1 = k) : vv (p :: r) k = vv r k := by simp [vv, List.find?_cons, e]
theorem vv_any (k : κ) : ∀ d : List (κ × β), (d.any fun p => decide (p.1 = k)) = (vv d k).isSome
  | [] => rfl
  | p :: r => by
    rw [List.any_cons]
    by_cases e : p.1 = k
    · simp [vv_pos e, e]
    · rw [vv_neg e, decide_eq_false e, Bool.false_or]; exact vv_any k r
theorem vv_map (k j : κ) (y : β) : ∀ d : List (κ × β), vv (d.map fun p => if p.1 = k then (p.1, y) else p) j = (vv d j).map fun x => if j = k then y else x
  | [] => rfl
  | p :: r => by
    have ih := vv_map k j y r
    rw [List.map_cons]
    by_cases e : p.1 = j
    · by_cases e2 : p.1 = k
      · rw [if_pos e2, vv_pos (p := (p.1, y)) e, vv_pos e]
        have : j = k := e.symm.trans e2
        simp [this]
      · rw [if_neg e2, vv_pos e]
        have : ¬ j = k := fun z => e2 (e.trans z)
        rw [vv_pos e]
        simp [this]
    · by_cases e2 : p.1 = k
      · rw [if_pos e2, vv_neg (p := (p.1, y)) e, vv_neg e]; exact ih
      · rw [if_neg e2, vv_neg e, vv_neg e]; exact ih
theorem vv_snoc (k j : κ) (y : β) : ∀ d : List (κ × β), vv d k = none → vv (d ++ [(k, y)]) j = if j = k then some y else vv d j
  | [], _ => by
    by_cases e : k = j
    · rw [if_pos e.symm]; exact vv_pos (p := (k, y)) e
    · rw [if_neg (fun z => e z.symm)]; exact vv_neg (p := (k, y)) e
  | p :: r, hn => by
    rw [List.cons_append]
    have hk : ¬ p.1 = k := fun e => by rw [vv_pos e] at hn; cases hn
    rw [vv_neg hk] at hn
    by_cases e : p.1 = j
    · rw [vv_pos e, vv_pos e, if_neg (fun z => hk (e.trans z))]
    · rw [vv_neg e, vv_neg e]; exact vv_snoc k j y r hn
theorem vv_pp (d : List (κ × β)) (k j : κ) (y : β) : vv (pp d k y) j = if j = k then some y else vv d j := by
  unfold pp
  rw [vv_any]
  split
  · rename_i h
    rw [vv_map]
    by_cases e : j = k
    · subst e
      rw [if_pos rfl]
      cases hv : vv d j with
      | none => rw [hv] at h; cases h
      | some x => simp
    · rw [if_neg e]
      cases vv d j <;> simp [e]
  · rename_i h
    exact vv_snoc k j y d (by cases hv : vv d k with
      | none => rfl
      | some x => rw [hv] at h; exact absurd rfl h)
theorem vv_xx (d : List (κ × β)) (k j : κ) : vv (xx d k) j = if j = k then none else vv d j := by
  induction d with
  | nil => simp [xx, vv]
  | cons p r ih =>
    unfold xx at ih ⊢
    rw [List.filter_cons]
    by_cases e : p.1 = k
    · rw [if_neg (by simp [e]), ih]
      by_cases q : j = k
      · rw [if_pos q, if_pos q]
      · rw [if_neg q, if_neg q, vv_neg (fun z => q (z.symm.trans e))]
    · rw [if_pos (by simp [e])]
      by_cases q : p.1 = j
      · rw [vv_pos q, vv_pos q, if_neg (fun z => e (q.trans z))]
      · rw [vv_neg q, vv_neg q, ih]
theorem pp_keys (d : List (κ × β)) (k : κ) (v : β) : (pp d k v).map (·.1) = if k ∈ d.map (·.1) then d.map (·.1) else d.map (·.1) ++ [k] := by
  unfold pp
  by_cases h : k ∈ d.map (·.1)
  · have : (d.any fun p => decide (p.1 = k)) = true := by
      obtain ⟨p, hp, e⟩ := List.mem_map.mp h
      exact List.any_eq_true.mpr ⟨p, hp, by simpa using e⟩
    rw [if_pos this, if_pos h, List.map_map]
    apply List.map_congr_left
    intro p _
    show (if p.1 = k then (p.1, v) else p).1 = p.1
    split <;> rfl
  · have : ¬ (d.any fun p => decide (p.1 = k)) = true := fun q => by
      obtain ⟨p, hp, e⟩ := List.any_eq_true.mp q
      exact h (List.mem_map.mpr ⟨p, hp, by simpa using e⟩)
    rw [if_neg this, if_neg h, List.map_append]; rfl
theorem pp_nodup {d : List (κ × β)} {k : κ} {v : β} (h : (d.map (·.1)).Nodup) : ((pp d k v).map (·.1)).Nodup := by
  rw [pp_keys]
  split
  · exact h
  · rename_i hk
    rw [List.nodup_append]
    exact ⟨h, by simp, fun a ha b hb e => by simp at hb; subst hb; subst e; exact hk ha⟩
theorem xx_nodup {d : List (κ × β)} {k : κ} (h : (d.map (·.1)).Nodup) : ((xx d k).map (·.1)).Nodup := h.sublist (List.Sublist.map _ List.filter_sublist)
end
section
variable {ν : Type} [DecidableEq ν]
structure DS (ν : Type) where
  costs : List (ν × Int)
  last : List (ν × (Nat × ν))
  levels : List (Int × List ν)
  done : List ν
abbrev Es (ν : Type) := ν → List (Option (Nat × ν × Int))
def push (c : Int) (x : ν) (i : Nat) (y : ν) (w : Int) (D : DS ν) : DS ν :=
  { costs := pp D.costs y (max c w), last := pp D.last y (i, x), levels := pp D.levels (max c w) ((vv D.levels (max c w)).getD [] ++ [y]), done := D.done }
def better (D : DS ν) (y : ν) (l : Int) : Bool := match vv D.costs y with
  | none => true
  | some o => decide (l < o)
def relax (c : Int) (x : ν) (D : DS ν) : Option (Nat × ν × Int) → DS ν
  | none => D
  | some (i, y, w) => if better D y (max c w) = true then push c x i y w D else D
def visit (es : Es ν) (c : Int) (D : DS ν) (x : ν) : DS ν := if x ∈ D.done then D else (es x).foldl (relax c x) { D with done := D.done ++ [x] }
inductive Pa (es : Es ν) (x0 : ν) (n : Int) : ν → Prop where
  | nil : Pa es x0 n x0
  | step {x y : ν} {i : Nat} {w : Int} : Pa es x0 n x → some (i, y, w) ∈ es x → w ≤ n → Pa es x0 n y
theorem Pa.mono {es : Es ν} {x0 y : ν} {n m : Int} (h : Pa es x0 n y) (l : n ≤ m) : Pa es x0 m y := by
  induction h with
  | nil => exact .nil
  | step _ a b ih => exact .step ih a (by omega)
structure DI (es : Es ν) (x0 : ν) (M : Int) (D : DS ν) (c : Int) (R X : List ν) : Prop where
  c0 : 0 ≤ c
  cM : c ≤ M
  start : ∃ o, o ≤ 0 ∧ vv D.costs x0 = some o
  sound : ∀ y o, vv D.costs y = some o → 0 ≤ o ∧ Pa es x0 o y
  nc : (D.costs.map (·.1)).Nodup
  nl : (D.last.map (·.1)).Nodup
  sub : ∀ y, y ∈ D.last.map (·.1) → y ∈ D.costs.map (·.1)
  nv : (D.levels.map (·.1)).Nodup
  nd : D.done.Nodup
  lev : ∀ L l, vv D.levels L = some l → c ≤ L ∧ L ≤ M ∧ l.Nodup ∧ ∀ y, y ∈ l → ∃ o, o ≤ L ∧ vv D.costs y = some o
  all : ∀ y o, vv D.costs y = some o → y ∈ D.done ∨ (∃ l, vv D.levels o = some l ∧ y ∈ l) ∨ (o = c ∧ y ∈ R)
  rest : ∀ y, y ∈ R → ∃ o, o ≤ c ∧ vv D.costs y = some o
  dn : ∀ y, y ∈ D.done → ∃ o, o ≤ c ∧ vv D.costs y = some o
  cl : ∀ y, y ∈ D.done → y ∉ X → ∀ o, vv D.costs y = some o → ∀ i z w, some (i, z, w) ∈ es y → ∃ o', o' ≤ max o w ∧ vv D.costs z = some o'
variable {es : Es ν} {x0 : ν} {M : Int} {D : DS ν} {c : Int} {R X : List ν}
theorem DI.push (h : DI es x0 M D c R X) {x y : ν} {i : Nat} {w : Int} (hx : vv D.costs x = some c) (he : some (i, y, w) ∈ es x) (hw : w ≤ M) (hlt : ∀ o, vv D.costs y = some o → max c w < o) : DI es x0 M (push c x i y w D) c R X := by
  have hc0 := h.c0
  have hcM := h.cM
  have vc : ∀ z, vv (FB.push c x i y w D).costs z = if z = y then some (max c w) else vv D.costs z := fun z => vv_pp D.costs y z _
  have vl : ∀ L, vv (FB.push c x i y w D).levels L = if L = max c w then some ((vv D.levels (max c w)).getD [] ++ [y]) else vv D.levels L := fun L => vv_pp D.levels _ L _
  have down : ∀ z o, vv D.costs z = some o → ∃ o', o' ≤ o ∧ vv (FB.push c x i y w D).costs z = some o' := fun z o hz => by
    rw [vc]
    by_cases e : z = y
    · subst e; rw [if_pos rfl]; exact ⟨_, by have := hlt o hz; omega, rfl⟩
    · rw [if_neg e]; exact ⟨o, Int.le_refl _, hz⟩
  have ynd : y ∉ D.done := fun hy => by
    obtain ⟨o, h1, h2⟩ := h.dn y hy
    have := hlt o h2; omega
  refine ⟨hc0, hcM, ?_, fun z o hz => ?_, pp_nodup h.nc, pp_nodup h.nl, fun z hz => ?_, pp_nodup h.nv, h.nd, fun L l hl => ?_, fun z o hz => ?_, fun z hz => ?_, fun z hz => ?_, fun z hz hX o ho j u w' hu => ?_⟩
  · obtain ⟨o, h1, h2⟩ := h.start
    obtain ⟨o', h3, h4⟩ := down x0 o h2
    exact ⟨o', by omega, h4⟩
  · rw [vc] at hz
    by_cases e : z = y
    · subst e; rw [if_pos rfl] at hz; cases hz
      exact ⟨by omega, .step ((h.sound x c hx).2.mono (by omega)) he (by omega)⟩
    · rw [if_neg e] at hz; exact h.sound z o hz
  · have hz' : z ∈ (pp D.last y (i, x)).map (·.1) := hz
    show z ∈ (pp D.costs y (max c w)).map (·.1)
    rw [pp_keys] at hz' ⊢
    have a : z ∈ D.last.map (·.1) ∨ z = y := by
      split at hz'
      · exact .inl hz'
      · rcases List.mem_append.mp hz' with q | q
        · exact .inl q
        · exact .inr (by simpa using q)
    rcases a with a | rfl
    · have := h.sub z a
      split
      · exact this
      · exact List.mem_append.mpr (.inl this)
    · split
      · assumption
      · exact List.mem_append.mpr (.inr (by simp))
  · rw [vl] at hl
    by_cases e : L = max c w
    · subst e
      rw [if_pos rfl] at hl; cases hl
      refine ⟨by omega, by omega, ?_, fun z hz => ?_⟩
      · cases e : vv D.levels (max c w) with
        | none => simp
        | some l =>
          obtain ⟨_, _, n, q⟩ := h.lev _ l e
          show (l ++ [y]).Nodup
          rw [List.nodup_append]
          refine ⟨n, by simp, fun a ha b hb ab => ?_⟩
          simp at hb; subst hb; subst ab
          obtain ⟨o, h1, h2⟩ := q a ha
          have := hlt o h2; omega
      · rcases List.mem_append.mp hz with hz | hz
        · cases e : vv D.levels (max c w) with
          | none => rw [e] at hz; cases hz
          | some l =>
            rw [e] at hz
            obtain ⟨o, h1, h2⟩ := (h.lev _ l e).2.2.2 z hz
            obtain ⟨o', h3, h4⟩ := down z o h2
            exact ⟨o', by omega, h4⟩
        · have : z = y := by simpa using hz
          subst this
          exact ⟨_, Int.le_refl _, by rw [vc, if_pos rfl]⟩
    · rw [if_neg e] at hl
      obtain ⟨a, a2, b, q⟩ := h.lev L l hl
      refine ⟨a, a2, b, fun z hz => ?_⟩
      obtain ⟨o, h1, h2⟩ := q z hz
      obtain ⟨o', h3, h4⟩ := down z o h2
      exact ⟨o', by omega, h4⟩
  · rw [vc] at hz
    by_cases e : z = y
    · subst e; rw [if_pos rfl] at hz; cases hz
      exact .inr (.inl ⟨_, by rw [vl, if_pos rfl], List.mem_append.mpr (.inr (by simp))⟩)
    · rw [if_neg e] at hz
      rcases h.all z o hz with q | ⟨l, q1, q2⟩ | q
      · exact .inl q
      · refine .inr (.inl ?_)
        rw [vl]
        by_cases eL : o = max c w
        · rw [if_pos eL]; subst eL
          rw [q1]; exact ⟨_, rfl, List.mem_append.mpr (.inl q2)⟩
        · rw [if_neg eL]; exact ⟨l, q1, q2⟩
      · exact .inr (.inr q)
  · obtain ⟨o, h1, h2⟩ := h.rest z hz
    obtain ⟨o', h3, h4⟩ := down z o h2
    exact ⟨o', by omega, h4⟩
  · obtain ⟨o, h1, h2⟩ := h.dn z hz
    obtain ⟨o', h3, h4⟩ := down z o h2
    exact ⟨o', by omega, h4⟩
  · have zy : z ≠ y := fun e => ynd (e ▸ hz)
    rw [vc, if_neg zy] at ho
    obtain ⟨o', h1, h2⟩ := h.cl z hz hX o ho j u w' hu
    obtain ⟨o2, h3, h4⟩ := down u o' h2
    exact ⟨o2, by omega, h4⟩
end
end FB
namespace FB
section
variable {ν : Type} [DecidableEq ν] {es : Es ν} {x0 : ν} {M : Int} {D : DS ν} {c : Int} {R X : List ν}
def level (es : Es ν) (c : Int) (l : List ν) (D : DS ν) : DS ν := l.foldl (visit es c) D
structure LI (es : Es ν) (x0 : ν) (D : DS ν) : Prop where
  last : ∀ y i x, vv D.last y = some (i, x) → x ∈ D.done ∧ (∃ w o ox, some (i, y, w) ∈ es x ∧ vv D.costs x = some ox ∧ vv D.costs y = some o ∧ ox ≤ o ∧ w ≤ o) ∧ (y ∈ D.done → ∃ a b, D.done = a ++ b ∧ x ∈ a ∧ y ∈ b)
  has : ∀ y o, vv D.costs y = some o → y = x0 ∨ ∃ z, vv D.last y = some z
  no0 : vv D.last x0 = none
theorem LI.push (h : LI es x0 D) (hI : DI es x0 M D c R X) {x y : ν} {i : Nat} {w : Int} (hd : x ∈ D.done) (hx : vv D.costs x = some c) (he : some (i, y, w) ∈ es x) (hlt : ∀ o, vv D.costs y = some o → max c w < o) : LI es x0 (push c x i y w D) := by
  have vc : ∀ z, vv (FB.push c x i y w D).costs z = if z = y then some (max c w) else vv D.costs z := fun z => vv_pp D.costs y z _
  have vl : ∀ z, vv (FB.push c x i y w D).last z = if z = y then some (i, x) else vv D.last z := fun z => vv_pp D.last y z _
  have ynd : y ∉ D.done := fun hy => by
    obtain ⟨o, h1, h2⟩ := hI.dn y hy
    have := hlt o h2; omega
  have y0 : x0 ≠ y := fun e => by
    obtain ⟨o, h1, h2⟩ := hI.start
    rw [e] at h2
    have := hlt o h2; have := hI.c0; omega
  have xy : x ≠ y := fun e => ynd (e ▸ hd)
  refine ⟨fun z j u hz => ?_, fun z o hz => ?_, by rw [vl, if_neg y0]; exact h.no0⟩
  · rw [vl] at hz
    by_cases e : z = y
    · subst e
      rw [if_pos rfl] at hz; cases hz
      exact ⟨hd, ⟨w, max c w, c, he, by rw [vc, if_neg xy]; exact hx, by rw [vc, if_pos rfl], by omega, by omega⟩, fun q => absurd q ynd⟩
    · rw [if_neg e] at hz
      obtain ⟨a, ⟨w', o, ox, b1, b2, b3, b4, b5⟩, d⟩ := h.last z j u hz
      have uy : u ≠ y := fun q => ynd (q ▸ a)
      exact ⟨a, ⟨w', o, ox, b1, by rw [vc, if_neg uy]; exact b2, by rw [vc, if_neg e]; exact b3, b4, b5⟩, d⟩
  · rw [vc] at hz
    rw [vl]
    by_cases e : z = y
    · rw [if_pos e]; exact .inr ⟨_, rfl⟩
    · rw [if_neg e] at hz ⊢; exact h.has z o hz
theorem DI.take {nodes : List ν} {d : Int} (h : DI es x0 M D c [] []) (hv : vv D.levels d = some nodes) (hm : ∀ L l, vv D.levels L = some l → d ≤ L) : DI es x0 M { D with levels := xx D.levels d } d nodes [] := by
  obtain ⟨a1, a2, a3, a4⟩ := h.lev d nodes hv
  have c0 := h.c0
  refine { h with c0 := by omega, cM := a2, nv := xx_nodup h.nv, lev := fun L l hl => ?_, all := fun y o hy => ?_, rest := a4, dn := fun y hy => ?_ }
  · have hl' : vv (xx D.levels d) L = some l := hl
    rw [vv_xx] at hl'
    split at hl'
    · cases hl'
    · obtain ⟨b1, b2, b3, b4⟩ := h.lev L l hl'
      exact ⟨hm L l hl', b2, b3, b4⟩
  · rcases h.all y o hy with q | ⟨l, q1, q2⟩ | ⟨_, q⟩
    · exact .inl q
    · by_cases e : o = d
      · subst e
        rw [hv] at q1; cases q1
        exact .inr (.inr ⟨rfl, q2⟩)
      · exact .inr (.inl ⟨l, by show vv (xx D.levels d) o = some l; rw [vv_xx, if_neg e]; exact q1, q2⟩)
    · cases q
  · obtain ⟨o, h1, h2⟩ := h.dn y hy
    exact ⟨o, by omega, h2⟩
def DS.init (x0 : ν) : DS ν := { costs := [(x0, 0)], last := [], levels := [(0, [x0])], done := [] }
theorem vv_one {κ β : Type} [DecidableEq κ] {k j : κ} {v : β} : vv [(k, v)] j = if j = k then some v else none := by
  by_cases e : k = j
  · subst e; rw [if_pos rfl]; exact vv_pos (p := (k, v)) rfl
  · rw [if_neg (fun q => e q.symm)]; exact vv_neg (p := (k, v)) e
theorem DI.init (hM : 0 ≤ M) : DI es x0 M (DS.init x0) 0 [] [] := by
  have vc : ∀ y, vv (DS.init x0).costs y = if y = x0 then some 0 else none := fun y => vv_one
  have vl : ∀ L, vv (DS.init x0).levels L = if L = 0 then some [x0] else none := fun L => vv_one
  refine { c0 := Int.le_refl _, cM := hM, start := ⟨0, Int.le_refl _, by rw [vc, if_pos rfl]⟩, sound := fun y o hy => ?_, nc := by simp [DS.init], nl := by simp [DS.init], sub := fun y hy => (by simp [DS.init] at hy), nv := by simp [DS.init], nd := by simp [DS.init], lev := fun L l hl => ?_, all := fun y o hy => ?_, rest := fun y hy => (by cases hy), dn := fun y hy => (by simp [DS.init] at hy), cl := fun y hy => (by simp [DS.init] at hy) }
  · rw [vc] at hy
    split at hy
    · rename_i e; subst e; cases hy; exact ⟨Int.le_refl _, .nil⟩
    · cases hy
  · rw [vl] at hl
    split at hl
    · rename_i e; subst e; cases hl
      exact ⟨Int.le_refl _, hM, by simp, fun y hy => ⟨0, Int.le_refl _, by rw [vc, if_pos (by simpa using hy)]⟩⟩
    · cases hl
  · rw [vc] at hy
    split at hy
    · rename_i e; cases hy
      exact .inr (.inl ⟨[x0], by rw [vl, if_pos rfl], by simp [e]⟩)
    · cases hy
theorem LI.init : LI es x0 (DS.init x0) := by
  refine ⟨fun y i x h => ?_, fun y o h => ?_, rfl⟩
  · cases h
  · have vc : vv (DS.init x0).costs y = if y = x0 then some 0 else none := vv_one
    rw [vc] at h
    split at h
    · exact .inl (by assumption)
    · cases h
theorem vv_nil {κ β : Type} [DecidableEq κ] {d : List (κ × β)} {k : κ} (h : d = []) : vv d k = none := by subst h; rfl
inductive Ch (es : Es ν) (x0 : ν) (l : List (ν × (Nat × ν))) : Int → ν → List Nat → Prop where
  | nil {n : Int} : vv l x0 = none → Ch es x0 l n x0 []
  | cons {x y : ν} {i : Nat} {w n : Int} {ns : List Nat} : vv l y = some (i, x) → some (i, y, w) ∈ es x → w ≤ n → Ch es x0 l n x ns → Ch es x0 l n y (i :: ns)
theorem chain (h : DI es x0 M D c [] []) (hl : D.levels = []) (hL : LI es x0 D) {n : Int} : ∀ (k : Nat) (y : ν) (o : Int), vv D.costs y = some o → o ≤ n → D.done.idxOf y < k → ∃ ns, ns.length < k ∧ Ch es x0 D.last n y ns
  | 0, y, o, _, _, q => by omega
  | k + 1, y, o, hy, ho, hk => by
    rcases hL.has y o hy with rfl | ⟨⟨i, x⟩, hz⟩
    · exact ⟨[], by simp, .nil hL.no0⟩
    · obtain ⟨hx, ⟨w, o1, ox, b1, b2, b3, b4, b5⟩, d⟩ := hL.last y i x hz
      rw [hy] at b3; cases b3
      have yd : y ∈ D.done := by
        rcases h.all y o hy with q | ⟨l, q, _⟩ | ⟨_, q⟩
        · exact q
        · rw [vv_nil hl] at q; cases q
        · cases q
      obtain ⟨a, b, e, ma, mb⟩ := d yd
      have nd := h.nd
      rw [e, List.nodup_append] at nd
      have yna : y ∉ a := fun q => nd.2.2 y q y mb rfl
      have r1 : D.done.idxOf x < a.length := by
        rw [e, List.idxOf_append, if_pos ma]; exact List.idxOf_lt_length_iff.mpr ma
      have r2 : a.length ≤ D.done.idxOf y := by
        rw [e, List.idxOf_append, if_neg yna]; omega
      obtain ⟨ns, hn, hc⟩ := chain (n := n) h hl hL k x ox b2 (by omega) (by omega)
      exact ⟨i :: ns, by simp; omega, .cons hz b1 (by omega) hc⟩
end
end FB
namespace FB
section
variable {ν : Type} [DecidableEq ν] {es : Es ν} {x0 : ν} {M : Int} {D : DS ν} {c : Int}
def minL : List Int → Int
  | [] => 0
  | [a] => a
  | a :: b :: r => min a (minL (b :: r))
def turnD (es : Es ν) (D : DS ν) : DS ν := level es (minL (D.levels.map (·.1))) ((vv D.levels (minL (D.levels.map (·.1)))).getD []) { D with levels := xx D.levels (minL (D.levels.map (·.1))) }
def iter (es : Es ν) : Nat → DS ν → DS ν
  | 0, D => D
  | k + 1, D => iter es k (turnD es D)
end
end FB
namespace FL
open PySem L2 PySem.Spec PyProof.Rows FW FB
end FL
namespace FL
open PySem L2 PySem.Spec PyProof.Rows FW FB
section
variable {cls f : Str} {fs : List (Str × MV)} {lo : Lo} {st : Sto} {s r : Nat}
theorem unmk_map {α : Type} (f : α → MV × MV) (hf : ∀ x, (f x).1 = .non → False) (l : List α) : unmk (.dct (l.map f)) = true := by
  cases l with
  | nil => rfl
  | cons x l =>
    unfold unmk
    split
    · rename_i e
      injection e with e
      rw [List.map_cons] at e
      injection e with e _
      exact absurd (show (f x).1 = .non by rw [e]) (hf x)
    · rfl
theorem vw_at {n : Nat} {m : MV} (h : st[n]? = some m) (hu : unmk m = true := by first | rfl | exact unmk_map _ (fun x h => by first | (cases (show (MV.tup [.str x.1.1, .int x.1.2]) = .non from h)) | (cases (show (MV.int x.1) = .non from h))) _) : vw st (.ref n) = m := vw_ref st n h hu
end
end FL
namespace FL
open PySem L2 PySem.Spec PyProof.Rows FW
section
variable {gf : GF} {body : SF} {x : MV} {xs : List MV} {lo lo1 lo2 : Lo} {st st1 st2 : Sto}
abbrev ckT : CK := fun _ _ => True
theorem forL_nx {r} (h1 : gf x lo st = .ok (lo1, st1)) (h2 : body lo1 st1 = .ok (.nx, lo2, st2)) (h3 : forL ckT gf body xs lo2 st2 = r) : forL ckT gf body (x :: xs) lo st = r := by
  rw [forL_cons, if_pos trivial, h1]; simp only [Res.ok_bind]; rw [h2]; exact h3
theorem forL_end : forL ckT gf body [] lo st = .ok (.nx, lo, st) := by rw [forL_nil, if_pos trivial]
end
def stepAt (P : Prog) : MV → Option Move
  | .int i => if 0 ≤ i then P.mv[i.toNat]? else none
  | _ => none
def chain (P : Prog) : Str → List MV → Option Str
  | p, [] => some p
  | p, m :: ms => match stepAt P m with
    | some s => if s.p = p then chain P s.o ms else none
    | none => none
def partEnd (P : Prog) (p : Str) : MV → Option Str
  | .tup [.int t, .lst (x :: xs)] => if 1 ≤ t then (match chain P p (x :: xs) with
    | some q => if 1 < t ∧ q ≠ p then none else some q
    | none => none) else none
  | _ => none
def rowEnd (P : Prog) : Str → List MV → Option Str
  | p, [] => some p
  | p, m :: ms => match partEnd P p m with
    | some q => rowEnd P q ms
    | none => none
def PartG (m : MV) : Prop := pln m = true ∧ ∀ xs, m = .tup xs → ∀ x, x ∈ xs → pln x = true ∧ ∀ ys, x = .lst ys → gd dpt (.lst ys) = true
def RowG (m : MV) : Prop := pln m = true ∧ ∀ xs, m = .lst xs → ∀ x, x ∈ xs → PartG x
section
variable {P : Prog} {st : Sto}
theorem stepAt_ok (h : P.Ok) {m : MV} {s : Move} (e : stepAt P m = some s) : s.Ok P.pl ∧ ∃ i : Int, m = .int i ∧ 0 ≤ i ∧ i < (P.mv.length : Int) ∧ atI (mvM P) i = some (mM s) := by
  cases m with
  | int i =>
    have e' : (if 0 ≤ i then P.mv[i.toNat]? else none) = some s := e
    split at e'
    · rename_i h0
      have hl := (List.getElem?_eq_some_iff.mp e').1
      refine ⟨h.mv s (List.mem_of_getElem? e'), i, rfl, h0, by omega, ?_⟩
      unfold mvM
      rw [atI_map]
      unfold atI ixN
      rw [if_pos h0, if_pos (by omega)]
      simp [e']
    · cases e'
  | _ => cases e
theorem ixT {xs : List MV} {i : Int} {x : MV} (h : atI xs i = some x) : gIx st (.tup xs) (.int i) = some (x, false) := by show (atI xs i).map _ = _; rw [h]; rfl
theorem ixL {xs : List MV} {i : Int} {x : MV} (h : atI xs i = some x) : gIx st (.lst xs) (.int i) = some (x, false) := by show (atI xs i).map _ = _; rw [h]; rfl
theorem fldSt {lo : Lo} {f : EF} (h : f lo st = .ok (progF P fo, .fz, st)) : mFld "steps" (inB ["Program"]) noB f lo st = .ok (.tup (mvM P), .fz, st) := by rw [d_mFld, h]; rfl
theorem fldPl {lo : Lo} {f : EF} (h : f lo st = .ok (progF P fo, .fz, st)) : mFld "stands" (inB ["Program"]) noB f lo st = .ok (.tup (plM P), .fz, st) := by rw [d_mFld, h]; rfl
theorem ixOk {lo : Lo} {f g : EF} {xs : List MV} {i : Int} {x : MV} {k1 k2} (h : f lo st = .ok (.tup xs, k1, st)) (h2 : g lo st = .ok (.int i, k2, st)) (h3 : atI xs i = some x) : mOp gIx f g lo st = .ok (x, .fz, st) := opV h h2 (ixT h3)
theorem ixLk {lo : Lo} {f g : EF} {xs : List MV} {i : Int} {x : MV} {k1 k2} (h : f lo st = .ok (.lst xs, k1, st)) (h2 : g lo st = .ok (.int i, k2, st)) (h3 : atI xs i = some x) : mOp gIx f g lo st = .ok (x, .fz, st) := opV h h2 (ixL h3)
theorem callV {n : Nat} {F : FF} {lo : Lo} {g : AF} {ms : List MV} {m : MV} {b : Bool} {st1 st2 : Sto} (h : g lo st = .ok (ms.map (·, false), st1)) (hl : ms.length = n) (hf : F ms st1 = .ok (m, b, st2)) : mCall n F [] g lo st = .ok (m, if b then .fr else .fz, st2) := by
  rw [d_mCall, h]
  simp only [Res.ok_bind, d_callF]
  have e : allFz (ms.map (·, false)) = some ms := by
    clear h hl hf
    induction ms with
    | nil => rfl
    | cons x xs ih => rw [List.map_cons, d_allFz1, ih]; rfl
  rw [e]
  simp only [List.append_nil]
  rw [if_pos hl]
  exact callR_ok _ _ hf
theorem callX {n : Nat} {F : FF} {lo : Lo} {g : AF} {ms : List MV} {c fs lo'} {st1 st2 : Sto} (h : g lo st = .ok (ms.map (·, false), st1)) (hl : ms.length = n) (hf : F ms st1 = .exc c fs lo' st2) : mCall n F [] g lo st = .exc c fs lo st2 := by
  rw [d_mCall, h]
  simp only [Res.ok_bind, d_callF]
  have e : allFz (ms.map (·, false)) = some ms := by
    clear h hl hf
    induction ms with
    | nil => rfl
    | cons x xs ih => rw [List.map_cons, d_allFz1, ih]; rfl
  rw [e]
  simp only [List.append_nil]
  rw [if_pos hl]
  exact callR_exc _ _ hf
theorem andV_tt {f g : EF} {lo : Lo} {st st1 : Sto} {k r} (h : f lo st = .ok (.bl true, k, st1)) (h2 : g lo st1 = r) : mAndV f g lo st = r := by rw [d_mAndV, h]; exact h2
theorem andV_ff {f g : EF} {lo : Lo} {st st1 : Sto} {k} (h : f lo st = .ok (.bl false, k, st1)) : mAndV f g lo st = .ok (.bl false, .fz, st1) := by rw [d_mAndV, h]; rfl
theorem atI_0 {α : Type} (x : α) (xs : List α) : atI (x :: xs) 0 = some x := by unfold atI ixN; simp
theorem chain_mem (h : P.Ok) {q : Str} : ∀ (xs : List MV) (p : Str), p ∈ P.pl → chain P p xs = some q → q ∈ P.pl
  | [], p, hp, e => by cases e; exact hp
  | y :: ys, p, hp, e => by
    unfold chain at e
    cases e2 : stepAt P y with
    | none => rw [e2] at e; cases e
    | some s2 =>
      rw [e2] at e
      simp only at e
      split at e
      · exact chain_mem h ys _ (stepAt_ok h e2).1.o e
      · cases e
end
end FL
namespace FL
open PySem L2 PySem.Spec PyProof.Rows FW
end FL
namespace FL
open PySem L2 PySem.Spec PyProof.Rows FW
end FL
namespace FL
open PySem L2 PySem.Spec PyProof.Rows FW
def pr (a : Int × Int) : MV := .tup [.int a.1, .int a.2]
def join (a b : Int × Int) : Int × Int := (if b.1 - a.2 > a.1 then b.1 - a.2 else a.1, a.2 + b.2)
def rnd (a : Int × Int) (t : Int) : Int × Int := (if a.2 ≥ 0 then a.1 else a.1 - (t - 1) * a.2, t * a.2)
def measN (P : Prog) : Int × Int → List MV → Int × Int
  | a, [] => a
  | a, x :: xs => match stepAt P x with
    | some s => measN P (join a (s.l, s.c)) xs
    | none => a
def measR (P : Prog) : Int × Int → List MV → Int × Int
  | a, [] => a
  | a, x :: xs => match x with
    | .tup [.int t, .lst ns] => measR P (join a (rnd (measN P (0, 0) ns) t)) xs
    | _ => a
def RowS (xs : List MV) : Prop := ∀ x, x ∈ xs → ∀ t ns, x = .tup [.int t, .lst ns] → t.natAbs < 10 ^ 90 ∧ ns.length ≤ 10 ^ 5
end FL
namespace FL
open PySem L2 PySem.Spec PyProof.Rows FW
end FL
namespace FL
open PySem L2 PySem.Spec PyProof.Rows FW
def nM (ns : List Nat) : List MV := ns.map fun k => .int (k : Nat)
def partM (x : Int × List Nat) : MV := .tup [.int x.1, .lst (nM x.2)]
def rowM (R : List (Int × List Nat)) : List MV := R.map partM
structure Row (P : Prog) (p q : Str) (B : Int) (R : List (Int × List Nat)) : Prop where
  e : rowEnd P p (rowM R) = some q
  t : ∀ x, x ∈ R → 1 ≤ x.1 ∧ x.1 ≤ B
  l : ∀ x, x ∈ R → x.2.length ≤ 5
  n : ∀ x, x ∈ R → ∀ k, k ∈ x.2 → k < 10
  z : R.length ≤ 10
theorem nM_len (a : List Nat) : (nM a).length = a.length := List.length_map _
theorem rowM_len (a : List (Int × List Nat)) : (rowM a).length = a.length := List.length_map _
theorem atI_last {α : Type} (xs : List α) (x : α) : atI (xs ++ [x]) (-1) = some x := by
  have e : ixN (xs ++ [x]).length (-1) = some xs.length := by
    unfold ixN
    rw [if_neg (by decide)]
    simp only [List.length_append, List.length_singleton]
    split
    · congr 1; omega
    · omega
  unfold atI
  rw [e]
  show (xs ++ [x])[xs.length]? = _
  simp
section
variable {P : Prog} {st : Sto}
theorem gd_nat {n k : Nat} (h : k < 10 ^ 6) : gd (n + 1) (.int (k : Nat)) = true := gd_int (Nat.lt_of_lt_of_le (show ((k : Nat) : Int).natAbs < 10 ^ 6 by omega) (by decide +kernel))
theorem gd_nM {n : Nat} {ns : List Nat} (hn : ∀ k, k ∈ ns → k < 10) : gd (n + 2) (.lst (nM ns)) = true := gd_lst fun x hx => by
  obtain ⟨k, hk, rfl⟩ := List.mem_map.mp hx
  exact gd_nat (Nat.lt_of_lt_of_le (hn k hk) (by decide))
end
end FL
namespace FL
open PySem L2 PySem.Spec PyProof.Rows FW
abbrev Pos (a : Int × Int) : Prop := 0 ≤ a.1 ∧ 0 ≤ a.1 + a.2
section
variable {P : Prog}
theorem chain_cons (h : P.Ok) {p q : Str} {x : MV} {xs : List MV} (e : chain P p (x :: xs) = some q) : ∃ s, stepAt P x = some s ∧ s.Ok P.pl ∧ s.p = p ∧ chain P s.o xs = some q ∧ (∀ a, measN P a (x :: xs) = measN P (join a (s.l, s.c)) xs) := by
  unfold chain at e
  cases e2 : stepAt P x with
  | none => rw [e2] at e; cases e
  | some s =>
    rw [e2] at e
    simp only at e
    split at e
    · rename_i hp
      refine ⟨s, rfl, (stepAt_ok h e2).1, hp, e, fun a => ?_⟩
      show (match stepAt P x with | some s => measN P (join a (s.l, s.c)) xs | none => a) = _
      rw [e2]
    · cases e
theorem Move.Ok.pos {pl : List Str} {m : Move} (h : m.Ok pl) : Pos (m.l, m.c) := ⟨h.l0, h.s0⟩
theorem rowEnd_cons (h : P.Ok) {p q : Str} {x : MV} {xs : List MV} (e : rowEnd P p (x :: xs) = some q) : ∃ t y ys r, x = .tup [.int t, .lst (y :: ys)] ∧ 1 ≤ t ∧ chain P p (y :: ys) = some r ∧ rowEnd P r xs = some q ∧ (1 < t → r = p) ∧ partEnd P p x = some r ∧ (∀ a, measR P a (x :: xs) = measR P (join a (rnd (measN P (0, 0) (y :: ys)) t)) xs) := by
  unfold rowEnd at e
  cases e2 : partEnd P p x with
  | none => rw [e2] at e; cases e
  | some r =>
    rw [e2] at e
    have e3 := e2
    unfold partEnd at e3
    split at e3
    · rename_i t y ys
      split at e3
      · rename_i h1
        cases e4 : chain P p (y :: ys) with
        | none => rw [e4] at e3; cases e3
        | some q2 =>
          rw [e4] at e3
          simp only at e3
          split at e3
          · cases e3
          · rename_i hq
            cases e3
            refine ⟨t, y, ys, r, rfl, h1, e4, e, fun z => ?_, rfl, fun a => rfl⟩
            by_cases w : r = p
            · exact w
            · exact absurd ⟨z, w⟩ hq
      · cases e3
    · cases e3
theorem measN_b (h : P.Ok) : ∀ (xs : List MV) (p q : Str) (a : Int × Int) (M Y : Nat), chain P p xs = some q → a.1.natAbs ≤ M → a.2.natAbs ≤ Y → 8 + Y + 4 * xs.length ≤ M → (measN P a xs).1.natAbs ≤ M ∧ (measN P a xs).2.natAbs ≤ Y + 4 * xs.length
  | [], _, _, a, M, Y, _, h1, h2, h3 => ⟨h1, by simpa [measN] using h2⟩
  | x :: xs, p, q, a, M, Y, e, h1, h2, h3 => by
    obtain ⟨s, _, so, _, e2, e3⟩ := chain_cons h e
    have := so.l0; have := so.l8; have := so.c4; have := so.c5
    simp only [List.length_cons] at h3
    rw [e3]
    have := measN_b h xs _ _ (join a (s.l, s.c)) M (Y + 4) e2 (by simp only [join]; split <;> omega) (by simp only [join]; omega) (by omega)
    simp only [List.length_cons]
    exact ⟨this.1, by omega⟩
theorem mul_b {t x : Int} {T X : Nat} (ht : t.natAbs ≤ T) (hx : x.natAbs ≤ X) : (t * x).natAbs ≤ T * X := by
  rw [Int.natAbs_mul]; exact Nat.mul_le_mul ht hx
theorem rnd_b {a : Int × Int} {t : Int} {B : Nat} (h1 : 1 ≤ t) (hB : t ≤ B) (ha : a.1.natAbs ≤ 28) (hb : a.2.natAbs ≤ 20) : (rnd a t).1.natAbs ≤ 60 * B ∧ (rnd a t).2.natAbs ≤ 60 * B := by
  have m1 := mul_b (t := t - 1) (x := a.2) (T := B) (X := 20) (by omega) hb
  have m2 := mul_b (t := t) (x := a.2) (T := B) (X := 20) (by omega) hb
  simp only [rnd]
  constructor
  · split <;> omega
  · omega
theorem measR_b (h : P.Ok) {B : Nat} (hB : 1 ≤ B) : ∀ (xs : List MV) (p q : Str) (a : Int × Int) (M Y : Nat), rowEnd P p xs = some q → (∀ x, x ∈ xs → ∀ t ns, x = .tup [.int t, .lst ns] → t ≤ B ∧ ns.length ≤ 5) → a.1.natAbs ≤ M → a.2.natAbs ≤ Y → 60 * B + Y + 60 * B * xs.length ≤ M → (measR P a xs).1.natAbs ≤ M ∧ (measR P a xs).2.natAbs ≤ Y + 60 * B * xs.length
  | [], _, _, a, M, Y, _, _, h1, h2, h3 => ⟨h1, by simpa [measR] using h2⟩
  | x :: xs, p, q, a, M, Y, e, hx, h1, h2, h3 => by
    obtain ⟨t, y, ys, r, ex, t1, ec, er, _, _, em⟩ := rowEnd_cons h e
    obtain ⟨tB, hl⟩ := hx x (List.mem_cons_self ..) t (y :: ys) ex
    have mb := measN_b h (y :: ys) _ _ (0, 0) 28 0 ec (by decide) (by decide) (by omega)
    have rb := rnd_b (B := B) t1 tB mb.1 (by omega)
    simp only [List.length_cons, Nat.mul_add, Nat.mul_one] at h3
    rw [em]
    have := measR_b h hB xs _ _ (join a (rnd (measN P (0, 0) (y :: ys)) t)) M (Y + 60 * B) er (fun z hz => hx z (List.mem_cons_of_mem _ hz)) (by simp only [join]; split <;> omega) (by simp only [join]; omega) (by omega)
    simp only [List.length_cons, Nat.mul_add, Nat.mul_one]
    exact ⟨this.1, by omega⟩
variable {p q : Str} {B : Int} {R : List (Int × List Nat)}
theorem Row.up {B' : Int} (h : Row P p q B R) (hB : B ≤ B') : Row P p q B' R := ⟨h.e, fun x hx => ⟨(h.t x hx).1, Int.le_trans (h.t x hx).2 hB⟩, h.l, h.n, h.z⟩
theorem Row.G (h : Row P p q B R) : RowG (.lst (rowM R)) := by
  refine ⟨rfl, fun xs e x hx => ?_⟩
  cases e
  obtain ⟨y, hy, rfl⟩ := List.mem_map.mp hx
  refine ⟨rfl, fun zs e z hz => ?_⟩
  cases e
  simp only [List.mem_cons, List.not_mem_nil, or_false] at hz
  rcases hz with rfl | rfl
  · exact ⟨rfl, fun ys e => by cases e⟩
  · exact ⟨rfl, fun ys e => by cases e; exact gd_nM (h.n y hy)⟩
theorem Row.S (h : Row P p q B R) (hB : B ≤ 10 ^ 31 := by decide) : RowS (rowM R) := by
  intro x hx t ns e
  obtain ⟨y, hy, rfl⟩ := List.mem_map.mp hx
  cases e
  obtain ⟨t1, t2⟩ := h.t y hy
  have hl := h.l y hy
  exact ⟨Nat.lt_of_lt_of_le (by omega : y.1.natAbs < 10 ^ 31 + 1) (by decide +kernel), by rw [nM_len]; omega⟩
theorem Row.b (h : Row P p q B R) (hp : P.Ok) (h1 : 1 ≤ B) : (measR P (0, 0) (rowM R)).1.natAbs ≤ 660 * B.toNat ∧ (measR P (0, 0) (rowM R)).2.natAbs ≤ 660 * B.toNat := by
  have hz := h.z
  have := measR_b hp (B := B.toNat) (by omega) (rowM R) _ _ (0, 0) (660 * B.toNat) 0 h.e (fun x hx t ns e => by
    obtain ⟨y, hy, rfl⟩ := List.mem_map.mp hx
    cases e
    have := h.t y hy
    exact ⟨by omega, by rw [nM_len]; exact h.l y hy⟩) (by simp) (by simp) (by
      have : 60 * B.toNat * (rowM R).length ≤ 60 * B.toNat * 10 := Nat.mul_le_mul_left _ (by rw [rowM_len]; exact hz)
      omega)
  refine ⟨this.1, ?_⟩
  have h2 := this.2
  have : 60 * B.toNat * (rowM R).length ≤ 60 * B.toNat * 10 := Nat.mul_le_mul_left _ (by rw [rowM_len]; exact hz)
  omega
theorem Row.last (h : Row P p q B R) (hp : P.Ok) (hm : p ∈ P.pl) : q ∈ P.pl := by
  have key : ∀ (xs : List MV) (p : Str), p ∈ P.pl → rowEnd P p xs = some q → q ∈ P.pl := by
    intro xs
    induction xs with
    | nil => intro p hm e; cases e; exact hm
    | cons x xs ih =>
      intro p hm e
      obtain ⟨t, y, ys, r, _, _, ec, er, _⟩ := rowEnd_cons hp e
      exact ih r (chain_mem hp _ _ hm ec) er
  exact key _ _ hm h.e
end
end FL
namespace FL
open PySem L2 PySem.Spec PyProof.Rows FW
theorem try_exc {p : Str → Bool} {i : Nat} {g gs : SF} {lo lo1 lo2 : Lo} {st st1 st2 : Sto} {c fs} (h : g lo st = .exc c fs lo1 st1) (hp : p c = true) (hs : gs (lo1.set i (some (.exc c fs, false))) st1 = .ok (.nx, lo2, st2)) : sTry p i g gs lo st = .ok (.nx, lo2.set i none, st2) := by
  unfold sTry; rw [h]; simp only; rw [if_pos hp, hs]
theorem inES {c : Str} (h : c ∈ ES) : inB ES c = true := by unfold inB; exact decide_eq_true h
theorem eq_self {neg : Bool} {a : MV} (h : gd dpt a = true) (st : Sto) : gEqB neg st a a = some (.bl (!neg), false) := by
  rw [eq_gd h h, eqM_refl h]
  cases neg <;> rfl
theorem repr_ok {f : EF} {lo : Lo} {st st1 : Sto} {v : MV} {k : Kd} (h : f lo st = .ok (v, k, st1)) (hr : rgd v = true) : mCallB gRepr (mCons f mNil) lo st = .ok (.str (rp v), .fz, st1) := by
  have hv := pln_vw (rgd_pln hr) st1
  have hR := repr_gd hr st1
  rw [d_mCallB, d_mCons, h]
  simp only [Res.ok_bind, d_mNil, List.map_cons, List.map_nil, hv, hR, d_give0]
theorem eq_reprs {neg : Bool} {f g : EF} {lo : Lo} {st st1 st2 : Sto} {v : MV} {k1 k2 : Kd} (h1 : f lo st = .ok (v, k1, st1)) (h2 : g lo st1 = .ok (v, k2, st2)) (hr : rgd v = true) : mOp (gEqB neg) (mCallB gRepr (mCons f mNil)) (mCallB gRepr (mCons g mNil)) lo st = .ok (.bl (!neg), .fz, st2) :=
  opV (repr_ok h1 hr) (repr_ok h2 hr) (eq_self (a := .str (rp v)) (rgd_ok hr) st2)
theorem cut_drop (xs : List MV) {k : Nat} (h : k ≤ xs.length) : cutM xs (some (k : Int)) none = xs.drop k := by
  unfold cutM
  rw [HT.sIx_nat, HT.sIx_none]
  rw [Nat.min_eq_left h]
  have : (xs.drop k).length = xs.length - k := by simp
  rw [← this, List.take_length]
theorem iSeq_ok {f : EF} {lo : Lo} {st st1 : Sto} {xs : List MV} {k} (h : f lo st = .ok (.lst xs, k, st1)) (hk : isPk k = false) : iSeq f lo st = .ok (xs, ckT, st1) := iSeq_lst h hk
theorem asg_ok {f : EF} {gf : GF} {lo lo2 : Lo} {st st1 st2 : Sto} {m : MV} {k : Kd} (h : f lo st = .ok (m, k, st1)) (hk : isPk k = false) (hg : gf m lo st1 = .ok (lo2, st2)) : sAsg f gf lo st = .ok (.nx, lo2, st2) := by
  unfold sAsg
  rw [h]
  cases k with
  | pk i => cases hk
  | fz => simp only [Res.ok_bind, d_frz0, hg]
  | fr => simp only [Res.ok_bind, d_frz1, hg]
theorem nil_ok {lo : Lo} {st : Sto} : mNil lo st = .ok (([] : List MV).map (·, false), st) := rfl
theorem cons_ok {f : EF} {g : AF} {lo : Lo} {st st1 st2 : Sto} {m : MV} {k : Kd} {ms : List MV} (h : f lo st = .ok (m, k, st1)) (hk : isPk k = false) (h2 : g lo st1 = .ok (ms.map (·, false), st2)) : mCons f g lo st = .ok ((m :: ms).map (·, false), st2) := by
  rw [d_mCons, h]
  simp only [Res.ok_bind, h2, hk]
  rfl
end FL
namespace FL
open PySem L2 PySem.Spec PyProof.Rows FW
abbrev LD (n : Nat) (pl : List Str) (m3 f t4 t5 t6 t7 t8 t9 : Option (MV × Bool)) : Lo := [fz (.ref n), fz (.lst (pl.map .str)), m3, f, t4, t5, t6, t7, t8, t9]
theorem drawn_move {st : Sto} {n : Nat} {N : Int} (g : GenAt st n N) (hN : N ≤ 10 ^ 8) {pl : List Str} (h1 : 1 ≤ pl.length) (h4 : pl.length ≤ 4) {ms : List Move} (hl : ms.length ≤ 100) (m3 t4 t5 t6 t7 t8 t9 : Option (MV × Bool)) :
    ∃ m u5 u6 u7 u8 u9 st', Move.Ok pl m ∧ b1_law_moves_drawn (LD n pl m3 (ow (.lst (ms.map mM))) t4 t5 t6 t7 t8 t9) st = .ok (.nx, LD n pl m3 (ow (.lst ((ms ++ [m]).map mM))) t4 u5 u6 u7 u8 u9, st') ∧ GS st n (N + 100) st' := by
  obtain ⟨r1, s1, a1, b1, e1, G1⟩ := random_ok (bound := 9) g (by omega) (by decide) (by decide)
  obtain ⟨r2, s2, a2, b2, e2, G2⟩ := random_ok (bound := 5) G1.g (by omega) (by decide) (by decide)
  obtain ⟨r3, t3, a3, b3, e3, G3⟩ := random_ok (bound := (pl.length : Int)) G2.g (by omega) (by omega) (by omega)
  obtain ⟨r4, s4, a4, b4, e4, G4⟩ := random_ok (bound := (pl.length : Int)) G3.g (by omega) (by omega) (by omega)
  obtain ⟨w, hw, wm⟩ := atI_ok [(0 : Int), 0, 1, 2, 4] a2 (by simpa using b2)
  have hw' : atI [MV.int 0, .int 0, .int 1, .int 2, .int 4] r2 = some (.int w) := by
    rw [show [MV.int 0, .int 0, .int 1, .int 2, .int 4] = [(0 : Int), 0, 1, 2, 4].map MV.int from rfl, atI_map, hw]; rfl
  have hwb : 0 ≤ w ∧ w ≤ 4 := by
    simp only [List.mem_cons, List.not_mem_nil, or_false] at wm
    rcases wm with rfl | rfl | rfl | rfl | rfl <;> decide
  obtain ⟨x, hx, xm⟩ := atI_str a3 b3
  obtain ⟨y, hy, ym⟩ := atI_str a4 b4
  have z5 : 5 ≤ sizeLine := by decide +kernel
  have z4 : 4 ≤ sizeLine := by decide +kernel
  have gs := (G1.trans G2).trans (G3.trans G4)
  generalize hc : r1 - 4 = c at *
  have cb : -4 ≤ c ∧ c ≤ 4 := by omega
  obtain ⟨l, hl'⟩ : ∃ l : Int, l = (if (8 - if c > 0 then c else 0) < (if 0 - c > 0 then 0 - c else 0) + w then 8 - (if c > 0 then c else 0) else (if 0 - c > 0 then 0 - c else 0) + w) := ⟨_, rfl⟩
  have lb : 0 ≤ l ∧ l ≤ 8 ∧ 0 ≤ l + c ∧ l + c ≤ 8 := by
    rw [hl']; split <;> split <;> (try split) <;> omega
  have c5 : sSet 5 (mOp gSub (mCall 2 M_law_random [] (mCons (mVar 0) (mCons (mC (.int 9)) mNil))) (mC (.int 4))) (LD n pl m3 (ow (.lst (ms.map mM))) t4 t5 t6 t7 t8 t9) st = .ok (.nx, LD n pl m3 (ow (.lst (ms.map mM))) t4 (fz (.int c)) t6 t7 t8 t9, s1) := by
    simp [LD, callR_ok _ _ e1, hc]
  have c6 : sSet 6 (mOp gIx (mLst (mCons (mC (.int 0)) (mCons (mC (.int 0)) (mCons (mC (.int 1)) (mCons (mC (.int 2)) (mCons (mC (.int 4)) mNil)))))) (mCall 2 M_law_random [] (mCons (mVar 0) (mCons (mC (.int 5)) mNil)))) (LD n pl m3 (ow (.lst (ms.map mM))) t4 (fz (.int c)) t6 t7 t8 t9) s1 = .ok (.nx, LD n pl m3 (ow (.lst (ms.map mM))) t4 (fz (.int c)) (fz (.int w)) t7 t8 t9, s2) := by
    simp [LD, callR_ok _ _ e2, hw', z5]
  have c7 : sSet 7 (mCallB gMin2 (mCons (mOp gAdd (mCallB gMax2 (mCons (mC (.int 0)) (mCons (mOp gSub (mC (.int 0)) (mVar 5)) mNil))) (mVar 6)) (mCons (mOp gSub (mC (.int 8)) (mCallB gMax2 (mCons (mC (.int 0)) (mCons (mVar 5) mNil)))) mNil))) (LD n pl m3 (ow (.lst (ms.map mM))) t4 (fz (.int c)) (fz (.int w)) t7 t8 t9) s2 = .ok (.nx, LD n pl m3 (ow (.lst (ms.map mM))) t4 (fz (.int c)) (fz (.int w)) (fz (.int l)) t8 t9, s2) := by
    rw [hl']; rfl
  have c89 : sPar 8 9 false false (mOp gIx (mVar 1) (mCall 2 M_law_random [] (mCons (mVar 0) (mCons (mCallB gLen (mCons (mVar 1) mNil)) mNil)))) (mOp gIx (mVar 1) (mCall 2 M_law_random [] (mCons (mVar 0) (mCons (mCallB gLen (mCons (mVar 1) mNil)) mNil)))) (LD n pl m3 (ow (.lst (ms.map mM))) t4 (fz (.int c)) (fz (.int w)) (fz (.int l)) t8 t9) s2 = .ok (.nx, LD n pl m3 (ow (.lst (ms.map mM))) t4 (fz (.int c)) (fz (.int w)) (fz (.int l)) (fz (.str x)) (fz (.str y)), s4) := by
    simp [LD, callR_ok _ _ e3, callR_ok _ _ e4, hx, hy]
  refine ⟨⟨x, l, c, y⟩, fz (.int c), fz (.int w), fz (.int l), fz (.str x), fz (.str y), s4, ⟨xm, ym, lb.1, lb.2.1, cb.1, cb.2, lb.2.2.1, lb.2.2.2⟩, seq_ok c5 (seq_ok c6 (seq_ok c7 (seq_ok c89 ?_))), gs.up (by omega)⟩
  rw [List.map_append]
  refine app_ok (i := 3) (x := .lst (ms.map mM)) (m := mM ⟨x, l, c, y⟩) (kd := .fr) (st1 := s4) rfl rfl ?_ rfl (Nat.lt_of_le_of_lt (by rw [List.length_map]; exact hl) (by decide +kernel))
  simp [z4, mM]
theorem movesDrawn_ok {st : Sto} {n : Nat} {N : Int} (g : GenAt st n N) (hN : N ≤ 10 ^ 7) {pl : List Str} (h1 : 1 ≤ pl.length) (h4 : pl.length ≤ 4) {most : Nat} (m9 : most ≤ 10) :
    ∃ (ms : List Move) (st' : Sto), (∀ m, m ∈ ms → Move.Ok pl m) ∧ ms.length ≤ most ∧ M_law_moves_drawn [.ref n, .lst (pl.map .str), .int (most : Nat)] st = .ok (.lst (ms.map mM), true, st') ∧ GS st n (N + 2000) st' := by
  obtain ⟨r, s1, a1, b1, e1, G1⟩ := random_ok (bound := (most : Int) + 1) g (by omega) (by omega) (by omega)
  obtain ⟨lo', s2, e2, ms, u4, u5, u6, u7, u8, u9, hlo, hms, hl, G2⟩ := forL_run (ck := fun _ _ => True) (gf := gN 4) (body := b1_law_moves_drawn)
    (Inv := fun j lo s' => ∃ (ms : List Move) (u4 u5 u6 u7 u8 u9 : Option (MV × Bool)), lo = LD n pl (fz (.int (most : Nat))) (ow (.lst (ms.map mM))) u4 u5 u6 u7 u8 u9 ∧ (∀ m, m ∈ ms → Move.Ok pl m) ∧ ms.length = j ∧ GS s1 n (N + 10 + 100 * (j : Nat)) s') (items := rgM 0 r) (fun _ _ _ _ => trivial)
    (fun j x lo s' hx ⟨ms, u4, u5, u6, u7, u8, u9, hlo, hms, hl, G⟩ => by
      obtain ⟨_, hj⟩ := rgM_get hx
      subst hlo
      obtain ⟨m, v5, v6, v7, v8, v9, s3, hm, e, G'⟩ := drawn_move G.g (by omega) h1 h4 (ms := ms) (by omega) (fz (.int (most : Nat))) (fz x) u5 u6 u7 u8 u9
      refine ⟨_, _, _, s3, rfl, e, ms ++ [m], fz x, v5, v6, v7, v8, v9, rfl, fun y hy => ?_, by simp [hl], (G.trans G').up (by omega)⟩
      rcases List.mem_append.mp hy with hy | hy
      · exact hms y hy
      · rw [List.mem_singleton] at hy; subst hy; exact hm)
    (LD n pl (fz (.int (most : Nat))) (ow (.lst [])) none none none none none none) s1 ⟨[], none, none, none, none, none, none, rfl, fun m hm => (by cases hm), rfl, (GS.refl G1.g).up (by omega)⟩
  subst hlo
  rw [rgM_len] at hl G2
  refine ⟨ms, s2, hms, by omega, ?_, (G1.trans G2).up (by omega)⟩
  unfold M_law_moves_drawn g_law_moves_drawn
  exact runF_own (k := .pk 3) (lo0 := [fz (.ref n), fz (.lst (pl.map .str)), fz (.int (most : Nat)), none, none, none, none, none, none, none]) rfl
    (seq_ok (lo1 := LD n pl (fz (.int (most : Nat))) (ow (.lst [])) none none none none none none) (st1 := st) rfl (seq_ok (for_ok (iRg1_ok (k := .fz) (j := r) (st1 := s1) (callV (ms := [.ref n, .int ((most : Int) + 1)]) (b := false) (st1 := st) (by simp) rfl e1) (by unfold Rg62; omega)) e2) (ret_ok rfl))) rfl
theorem drawn_ok {st : Sto} {n : Nat} {N : Int} (g : GenAt st n N) (hN : N ≤ 10 ^ 6) {many : Int} (c1 : 1 ≤ many) (c4 : many ≤ 4) {most : Nat} (m9 : most ≤ 10) :
    ∃ P st', Prog.Ok P ∧ (∃ k : Nat, 1 ≤ k ∧ (k : Int) ≤ many ∧ P.pl = NB.take k) ∧ P.mv.length ≤ most ∧ M_law_drawn [.ref n, .int many, .int (most : Nat)] st = .ok (partsM P, true, st') ∧ GS st n (N + 3000) st' := by
  obtain ⟨r1, s1, a1, b1, e1, G1⟩ := random_ok (bound := many) g (by omega) (by omega) (by omega)
  have z4 : 4 ≤ sizeLine := by decide +kernel
  have z2 : 2 ≤ sizeLine := by decide +kernel
  have hsl : ∃ k : Nat, 1 ≤ k ∧ k ≤ 4 ∧ (k : Int) ≤ many ∧ cutM [MV.str "up", .str "down", .str "mid", .str "move"] none (some (1 + r1)) = (NB.take k).map .str := by
    have : r1 = 0 ∨ r1 = 1 ∨ r1 = 2 ∨ r1 = 3 := by omega
    rcases this with rfl | rfl | rfl | rfl
    · exact ⟨1, by decide, by decide, by omega, rfl⟩
    · exact ⟨2, by decide, by decide, by omega, rfl⟩
    · exact ⟨3, by decide, by decide, by omega, rfl⟩
    · exact ⟨4, by decide, by decide, by omega, rfl⟩
  obtain ⟨k, k1, k4, km, hcut⟩ := hsl
  have pk : PlOk (NB.take k) := ⟨k, k1, k4, .inr rfl⟩
  obtain ⟨ms, s2, hms, hl, e2, G2⟩ := movesDrawn_ok G1.g (by omega) pk.len1 pk.len4 m9
  refine ⟨⟨NB.take k, ms⟩, s2, ⟨⟨k, k1, k4, .inr rfl⟩, hms, by show ms.length ≤ 10; omega⟩, ⟨k, k1, km, rfl⟩, hl, ?_, (G1.trans G2).up (by omega)⟩
  unfold M_law_drawn g_law_drawn
  refine runF_own (k := .fr) (lo0 := [fz (.ref n), fz (.int many), fz (.int (most : Nat)), none]) (lo := [fz (.ref n), fz (.int many), fz (.int (most : Nat)), fz (.lst ((NB.take k).map .str))]) rfl
    (seq_ok (lo1 := [fz (.ref n), fz (.int many), fz (.int (most : Nat)), fz (.lst ((NB.take k).map .str))]) (st1 := s1) ?_ (ret_ok ?_)) rfl
  · have hs : mSl (mLst (mCons (mC (.str "up")) (mCons (mC (.str "down")) (mCons (mC (.str "mid")) (mCons (mC (.str "move")) mNil))))) oNone (oSome (mOp gAdd (mC (.int 1)) (mCall 2 M_law_random [] (mCons (mVar 0) (mCons (mVar 1) mNil))))) [fz (.ref n), fz (.int many), fz (.int (most : Nat)), none] st = .ok (.lst ((NB.take k).map .str), .fr, s1) := by
      unfold mSl oSome oNone
      simp [z4, callR_ok _ _ e1, gSl, hcut]
    exact set_ok hs rfl
  · have e3 : mCall 3 M_law_moves_drawn [] (mCons (mVar 0) (mCons (mVar 3) (mCons (mVar 2) mNil))) [fz (.ref n), fz (.int many), fz (.int (most : Nat)), fz (.lst ((NB.take k).map .str))] s1 = .ok (.lst (ms.map mM), .fr, s2) :=
      callV (ms := [.ref n, .lst ((NB.take k).map .str), .int (most : Nat)]) (b := true) (st1 := s1) rfl rfl e2
    simp only [d_mLst, d_mCons, d_mVar, e3, d_mNil, Res.ok_bind, List.getElem?_cons_succ, List.getElem?_cons_zero]
    simp [z2, e3, partsM, plM, mvM]
end FL
namespace FL
open PySem L2 PySem.Spec PyProof.Rows FW
def mx (i j : Int) : Int := if j > i then j else i
end FL
namespace FL
open PySem L2 PySem.Spec PyProof.Rows FW
theorem isMove_okB {pl : List Str} (hp : ∀ x, x ∈ pl → PyData.strOk x = true) {m b' : MV} (h : pln m = true) (hx : ∀ xs, m = .tup xs → ∀ x, x ∈ xs → gd dpt x = true) (st : Sto) (hB : vw st b' = .lst (pl.map .str)) : M_is_move [m, b'] st = .ok (.bl (moveB pl m), false, st) := by
  cases m with
  | tup xs =>
    have ha := hx xs rfl
    match xs, ha with
    | [], _ => simp [M_is_move, d_runF, startM, g_is_move, hB, tyAns, isT, tys7, eqI, moveB]
    | [_], _ => simp [M_is_move, d_runF, startM, g_is_move, hB, tyAns, isT, tys7, eqI, moveB]
    | [_, _], _ => simp [M_is_move, d_runF, startM, g_is_move, hB, tyAns, isT, tys7, eqI, moveB]
    | [_, _, _], _ => simp [M_is_move, d_runF, startM, g_is_move, hB, tyAns, isT, tys7, eqI, moveB]
    | _ :: _ :: _ :: _ :: _ :: r, _ =>
      have e : ((r.length : Int) + 1 + 1 + 1 + 1 + 1 == 4) = false := by simp; omega
      simp [M_is_move, d_runF, startM, g_is_move, hB, tyAns, isT, tys7, eqI, moveB, e]
    | [a, b, c, d], ha =>
      have ga := ha a (by simp)
      have gb := ha b (by simp)
      have gc := ha c (by simp)
      have gdd := ha d (by simp)
      have y0 : atI [a, b, c, d] 0 = some a := rfl
      have y1 : atI [a, b, c, d] 1 = some b := rfl
      have y2 : atI [a, b, c, d] 2 = some c := rfl
      have y3 : atI [a, b, c, d] 3 = some d := rfl
      have ia := inPl_ok (neg := true) hp ga st
      have id := inPl_ok (neg := true) hp gdd st
      have va := gd_vw ga st
      have vd := gd_vw gdd st
      have wb := callR_ok [fz (.tup [a, b, c, d]), fz b'] st (within_ok (gd_pln gb) 0 8 st)
      have wc := callR_ok [fz (.tup [a, b, c, d]), fz b'] st (within_ok (gd_pln gc) (-4) 4 st)
      show _ = Res.ok (MV.bl (inPl pl a && (inPl pl d && (win 0 8 b && (win (-4) 4 c && _)))), false, st)
      cases qa : inPl pl a with
      | false => rw [qa] at ia; simp [M_is_move, d_runF, startM, g_is_move, hB, tyAns, isT, tys7, eqI, y0, va, ia]
      | true =>
        cases qd : inPl pl d with
        | false => rw [qa] at ia; rw [qd] at id; simp [M_is_move, d_runF, startM, g_is_move, hB, tyAns, isT, tys7, eqI, y0, y3, va, vd, ia, id]
        | true =>
          rw [qa] at ia; rw [qd] at id
          cases qb : win 0 8 b with
          | false => rw [qb] at wb; simp [M_is_move, d_runF, startM, g_is_move, hB, tyAns, isT, tys7, eqI, y0, y1, y3, va, vd, ia, id, wb]
          | true =>
            rw [qb] at wb
            cases qc : win (-4) 4 c with
            | false => rw [qc] at wc; simp [M_is_move, d_runF, startM, g_is_move, hB, tyAns, isT, tys7, eqI, y0, y1, y2, y3, va, vd, ia, id, wb, wc]
            | true =>
              rw [qc] at wc
              obtain ⟨l, rfl⟩ := win_int qb
              obtain ⟨ch, rfl⟩ := win_int qc
              by_cases q0 : 0 ≤ l + ch
              · simp [M_is_move, d_runF, startM, g_is_move, hB, tyAns, isT, tys7, eqI, y0, y1, y2, y3, va, vd, ia, id, wb, wc, q0]
              · simp [M_is_move, d_runF, startM, g_is_move, hB, tyAns, isT, tys7, eqI, y0, y1, y2, y3, va, vd, ia, id, wb, wc, q0]
  | _ => first | (exact Bool.noConfusion h) | simp [M_is_move, d_runF, startM, g_is_move, hB, tyAns, isT, tys7, moveB]
def IsL (st : Sto) (a : MV) (xs : List MV) : Prop := a = .lst xs ∨ ∃ n, a = .ref n ∧ st[n]? = some (.lst xs)
theorem IsL.vw {st : Sto} {a : MV} {xs : List MV} (h : IsL st a xs) : vw st a = .lst xs := by
  rcases h with rfl | ⟨n, rfl, e⟩
  · rfl
  · exact vw_ref st n e
theorem iEn_any {f : EF} {lo : Lo} {st : Sto} {a : MV} {xs : List MV} {k : Kd} (h : f lo st = .ok (a, k, st)) (hk : isPk k = false) (hL : IsL st a xs) : ∃ ck : CK, iEn f lo st = .ok (enumM xs, ck, st) ∧ ∀ lo, ck lo st := by
  have ef : frzd (a, k, st) = .ok (a, st) := by cases k <;> first | rfl | cases hk
  rcases hL with rfl | ⟨n, rfl, e⟩
  · exact ⟨fun _ _ => True, by unfold iEn; rw [h]; simp only [Res.ok_bind, ef], fun _ => trivial⟩
  · exact ⟨fun _ st' => st'[n]? = some (.lst xs), by unfold iEn; rw [h]; simp only [Res.ok_bind, ef, e], fun _ => e⟩
theorem iSeq_any {f : EF} {lo : Lo} {st : Sto} {a : MV} {xs : List MV} {k : Kd} (h : f lo st = .ok (a, k, st)) (hk : isPk k = false) (hL : IsL st a xs) : ∃ ck : CK, iSeq f lo st = .ok (xs, ck, st) ∧ ∀ lo, ck lo st := by
  have ef : frzd (a, k, st) = .ok (a, st) := by cases k <;> first | rfl | cases hk
  rcases hL with rfl | ⟨n, rfl, e⟩
  · exact ⟨fun _ _ => True, by unfold iSeq; rw [h]; simp only [Res.ok_bind, ef, src], fun _ => trivial⟩
  · exact ⟨fun _ st' => st'[n]? = some (.lst xs), by unfold iSeq; rw [h]; simp only [Res.ok_bind, ef, src, e], fun _ => e⟩
theorem forL_pre {ck : CK} {gf : GF} {body : SF} {st : Sto} {Inv : Lo → Prop} (hck : ∀ lo, ck lo st) : ∀ (pre rest : List MV) (lo : Lo), (∀ (i : Nat) (x : MV) (lo : Lo), pre[i]? = some x → Inv lo → ∃ lo1 lo2, gf x lo st = .ok (lo1, st) ∧ body lo1 st = .ok (.nx, lo2, st) ∧ Inv lo2) → Inv lo → ∃ lo', Inv lo' ∧ forL ck gf body (pre ++ rest) lo st = forL ck gf body rest lo' st
  | [], rest, lo, _, h => ⟨lo, h, rfl⟩
  | x :: xs, rest, lo, hb, h => by
    obtain ⟨lo1, lo2, e1, e2, h2⟩ := hb 0 x lo rfl h
    obtain ⟨lo', h', e'⟩ := forL_pre hck xs rest lo2 (fun i y lo hy hi => hb (i + 1) y lo (by simpa using hy) hi) h2
    refine ⟨lo', h', ?_⟩
    rw [List.cons_append, forL_cons, if_pos (hck _), e1]
    simp only [Res.ok_bind]
    rw [e2]
    exact e'
theorem enum_split (xs : List MV) (k : Nat) : enumM xs = (enumM xs).take k ++ (enumM xs).drop k := (List.take_append_drop k _).symm
theorem enumM_at {xs : List MV} {k : Nat} {x : MV} (h : xs[k]? = some x) : (enumM xs)[k]? = some (.tup [.int (k : Nat), x]) := by
  unfold enumM
  rw [List.getElem?_map, List.getElem?_zipIdx, h]
  simp
section
variable {st : Sto} {a : MV} {xs : List MV}
theorem slice_ok (ha : vw st a = .lst xs) {k : Nat} (hk : k ≤ xs.length) (s m t4 t5 : Option (MV × Bool)) : mSl (mVar 1) oNone (oSome (mVar 3)) (LOI s (fz a) m (fz (.int (k : Nat))) t4 t5) st = .ok (.lst (xs.take k), .fr, st) := by
  unfold mSl oSome oNone
  simp [gSl, LOI, ha, cut_take _ hk]
theorem name_turn (ha : vw st a = .lst xs) {k : Nat} (hk : k ≤ xs.length) {x : MV} (hp : pln x = true) (hs : ∀ z, x = .str z → z.length ≤ sizeLine ∧ PyData.strOk z = true) (hg : ∀ y, y ∈ xs.take k → gd 11 y = true) (s m t5 : Option (MV × Bool)) :
    b1_Program_init (LOI s (fz a) m (fz (.int (k : Nat))) (fz x) t5) st = if nameB x = true ∧ ((xs.take k).any fun z => eqM z x) = false then .ok (.nx, LOI s (fz a) m (fz (.int (k : Nat))) (fz x) t5, st) else .exc "InvalidItem" [("value", x)] (LOI s (fz a) m (fz (.int (k : Nat))) (fz x) t5) st := by
  have nm := name_ok hp hs st
  have c1 : mTv (mCall 1 M_is_name [] (mCons (mVar 4) mNil)) (LOI s (fz a) m (fz (.int (k : Nat))) (fz x) t5) st = .ok (nameB x, st) := tv_ok (k := .fz) (callV (ms := [x]) (b := false) (st1 := st) rfl rfl nm)
  have rs : sRaise "InvalidItem" "value" [] (mCons (mVar 4) mNil) (LOI s (fz a) m (fz (.int (k : Nat))) (fz x) t5) st = .exc "InvalidItem" [("value", x)] (LOI s (fz a) m (fz (.int (k : Nat))) (fz x) t5) st := by simp [LOI]
  cases hn : nameB x with
  | false =>
    rw [hn] at c1
    rw [if_neg (fun z => by cases z.1)]
    exact if_tt (or_tt (not_ok c1)) rs
  | true =>
    rw [hn] at c1
    obtain ⟨z, rfl⟩ : ∃ z, x = .str z := by cases x <;> first | exact ⟨_, rfl⟩ | cases hn
    have hi := in_gd (neg := false) (st := st) (a := .str z) (bs := xs.take k) (hs z rfl).2 (gd_lst hg)
    have c2 : mTv (mOp (gInA false) (mVar 4) (mSl (mVar 1) oNone (oSome (mVar 3)))) (LOI s (fz a) m (fz (.int (k : Nat))) (fz (.str z)) t5) st = .ok ((xs.take k).any fun y => eqM y (.str z), st) := tv_ok (k := .fz) (opV (a := .str z) (ka := .fz) (st1 := st) rfl (slice_ok ha hk s m _ t5) hi)
    cases he : (xs.take k).any fun y => eqM y (.str z) with
    | true =>
      rw [he] at c2
      rw [if_neg (fun z => by cases z.2)]
      exact if_tt (or_ff (not_ok c1) c2) rs
    | false =>
      rw [he] at c2
      rw [if_pos ⟨rfl, rfl⟩]
      exact if_ff (or_ff (not_ok c1) c2) rfl
def NmAt (xs : List MV) (i : Nat) : Prop := ∃ z : Str, xs[i]? = some (.str z) ∧ PyData.strOk z = true ∧ z.length ≤ 100 ∧ nameB (.str z) = true ∧ ((xs.take i).any fun y => eqM y (.str z)) = false
theorem nm_gd {n : Nat} (h : ∀ i, i < n → NmAt xs i) {k : Nat} (hk : k ≤ n) : ∀ y, y ∈ xs.take k → gd 11 y = true := by
  intro y hy
  obtain ⟨j, hj⟩ := List.mem_iff_getElem?.mp hy
  rw [List.getElem?_take] at hj
  split at hj
  · rename_i hjk
    obtain ⟨z, hz, ho, _⟩ := h j (by omega)
    rw [hz] at hj
    cases hj
    exact ho
  · cases hj
abbrev gfN : GF := gT 2 (gsCons (gN 3) (gsCons (gN 4) gsNil))
theorem names_pre (ha : vw st a = .lst xs) {ck : CK} (hck : ∀ lo, ck lo st) {n : Nat} (hn : n ≤ xs.length) (h : ∀ i, i < n → NmAt xs i) (s m t5 : Option (MV × Bool)) :
    ∃ t3 t4, forL ck gfN b1_Program_init (enumM xs) (LOI s (fz a) m none none t5) st = forL ck gfN b1_Program_init ((enumM xs).drop n) (LOI s (fz a) m t3 t4 t5) st := by
  obtain ⟨lo', ⟨t3, t4, e1⟩, e2⟩ := forL_pre (st := st) (gf := gfN) (body := b1_Program_init) (Inv := fun lo => ∃ t3 t4, lo = LOI s (fz a) m t3 t4 t5) hck ((enumM xs).take n) ((enumM xs).drop n) (LOI s (fz a) m none none t5) (fun i x lo hx ⟨t3, t4, hlo⟩ => by
    subst hlo
    rw [List.getElem?_take] at hx
    split at hx
    · rename_i hin
      obtain ⟨z, hz, ho, hlz, hnm, hno⟩ := h i hin
      rw [enumM_at hz] at hx
      cases hx
      refine ⟨LOI s (fz a) m (fz (.int (i : Nat))) (fz (.str z)) t5, LOI s (fz a) m (fz (.int (i : Nat))) (fz (.str z)) t5, rfl, ?_, _, _, rfl⟩
      rw [name_turn ha (by omega) rfl (fun w e => by cases e; exact ⟨sz (Nat.le_trans hlz (by decide)), ho⟩) (nm_gd h (by omega)), if_pos ⟨hnm, hno⟩]
    · cases hx) ⟨none, none, rfl⟩
  subst e1
  exact ⟨t3, t4, by rw [← enum_split] at e2; exact e2⟩
theorem names_all (ha : vw st a = .lst xs) {ck : CK} (hck : ∀ lo, ck lo st) (h : ∀ i, i < xs.length → NmAt xs i) (s m t5 : Option (MV × Bool)) :
    ∃ t3 t4, forL ck gfN b1_Program_init (enumM xs) (LOI s (fz a) m none none t5) st = .ok (.nx, LOI s (fz a) m t3 t4 t5, st) := by
  obtain ⟨t3, t4, e⟩ := names_pre ha hck (Nat.le_refl _) h s m t5
  refine ⟨t3, t4, e.trans ?_⟩
  rw [List.drop_eq_nil_iff.mpr (by rw [enumM_len]; exact Nat.le_refl _), forL_nil, if_pos (hck _)]
theorem move_turn {pl : List Str} (hg : ∀ x, x ∈ pl → PyData.strOk x = true) (ha : vw st a = .lst (pl.map .str)) {x : MV} (hp : pln x = true) (hx : ∀ xs, x = .tup xs → ∀ y, y ∈ xs → gd dpt y = true) (s m t3 t4 : Option (MV × Bool)) :
    b2_Program_init (LOI s (fz a) m t3 t4 (fz x)) st = if moveB pl x = true then .ok (.nx, LOI s (fz a) m t3 t4 (fz x), st) else .exc "InvalidItem" [("value", x)] (LOI s (fz a) m t3 t4 (fz x)) st := by
  have im := isMove_okB hg hp hx st ha
  have c1 : mTv (mCall 2 M_is_move [] (mCons (mVar 5) (mCons (mVar 1) mNil))) (LOI s (fz a) m t3 t4 (fz x)) st = .ok (moveB pl x, st) := tv_ok (k := .fz) (callV (ms := [x, a]) (b := false) (st1 := st) rfl rfl im)
  cases hm : moveB pl x with
  | true =>
    rw [hm] at c1
    exact if_ff (not_ok c1) rfl
  | false =>
    rw [hm] at c1
    exact if_tt (not_ok c1) (by simp [LOI])
def MvAt (pl : List Str) (ys : List MV) (i : Nat) : Prop := ∃ m : Move, ys[i]? = some (mM m) ∧ m.Ok pl
theorem moves_pre {pl : List Str} (hg : ∀ x, x ∈ pl → PyData.strOk x = true) (ha : vw st a = .lst (pl.map .str)) {ys : List MV} {ck : CK} (hck : ∀ lo, ck lo st) {n : Nat} (hn : n ≤ ys.length) (h : ∀ i, i < n → MvAt pl ys i) (s m t3 t4 : Option (MV × Bool)) :
    ∃ t5, forL ck (gN 5) b2_Program_init ys (LOI s (fz a) m t3 t4 none) st = forL ck (gN 5) b2_Program_init (ys.drop n) (LOI s (fz a) m t3 t4 t5) st := by
  obtain ⟨lo', ⟨t5, e1⟩, e2⟩ := forL_pre (st := st) (gf := gN 5) (body := b2_Program_init) (Inv := fun lo => ∃ t5, lo = LOI s (fz a) m t3 t4 t5) hck (ys.take n) (ys.drop n) (LOI s (fz a) m t3 t4 none) (fun i x lo hx ⟨t5, hlo⟩ => by
    subst hlo
    rw [List.getElem?_take] at hx
    split at hx
    · rename_i hin
      obtain ⟨w, hz, ho⟩ := h i hin
      rw [hz] at hx
      cases hx
      refine ⟨LOI s (fz a) m t3 t4 (fz (mM w)), LOI s (fz a) m t3 t4 (fz (mM w)), rfl, ?_, _, rfl⟩
      rw [move_turn hg ha rfl (gd_mM hg ho), if_pos (moveB_ok ho)]
    · cases hx) ⟨none, rfl⟩
  subst e1
  exact ⟨t5, by rw [List.take_append_drop] at e2; exact e2⟩
theorem moves_all {pl : List Str} (hg : ∀ x, x ∈ pl → PyData.strOk x = true) (ha : vw st a = .lst (pl.map .str)) {ys : List MV} {ck : CK} (hck : ∀ lo, ck lo st) (h : ∀ i, i < ys.length → MvAt pl ys i) (s m t3 t4 : Option (MV × Bool)) :
    ∃ t5, forL ck (gN 5) b2_Program_init ys (LOI s (fz a) m t3 t4 none) st = .ok (.nx, LOI s (fz a) m t3 t4 t5, st) := by
  obtain ⟨t5, e⟩ := moves_pre hg ha hck (Nat.le_refl _) h s m t3 t4
  refine ⟨t5, e.trans ?_⟩
  rw [List.drop_eq_nil_iff.mpr (Nat.le_refl _), forL_nil, if_pos (hck _)]
structure PlG (pl : List Str) : Prop where
  l1 : 1 ≤ pl.length
  l4 : pl.length ≤ 4
  nm : ∀ i, i < pl.length → NmAt (pl.map .str) i
theorem PlG.good {pl : List Str} (h : PlG pl) : ∀ x, x ∈ pl → PyData.strOk x = true := by
  intro x hx
  obtain ⟨i, hi⟩ := List.mem_iff_getElem?.mp hx
  obtain ⟨z, hz, ho, _⟩ := h.nm i (List.getElem?_eq_some_iff.mp hi).1
  rw [List.getElem?_map, hi] at hz
  cases hz
  exact ho
def noL4 : MV → Bool
  | .lst xs => decide (¬ (1 ≤ xs.length ∧ xs.length ≤ 4))
  | _ => true
def noL10 : MV → Bool
  | .lst xs => decide (10 < xs.length)
  | _ => true
abbrev gI0 : Lo → Lo := id
theorem c_list {w : MV} (hv : vw st a = w) (hw : pln w = true) (s m t3 t4 t5 : Option (MV × Bool)) :
    mOr (mNotT (mTv (mIsi (isT "list") noC noC (mVar 1)))) (mNotT (mTv (mChain gLe gLe (mC (.int 1)) (mCallB gLen (mCons (mVar 1) mNil)) (mC (.int 4))))) (LOI s (fz a) m t3 t4 t5) st = .ok (noL4 w, st) := by
  cases w with
  | lst xs =>
    by_cases q1 : (1 : Int) ≤ (xs.length : Int)
    · by_cases q2 : (xs.length : Int) ≤ 4
      · have : noL4 (.lst xs) = false := decide_eq_false (by omega)
        rw [this]
        simp [LOI, hv, tyAns, isT, tys7, q1, q2]
      · have : noL4 (.lst xs) = true := decide_eq_true (by omega)
        rw [this]
        simp [LOI, hv, tyAns, isT, tys7, q1, q2]
    · have : noL4 (.lst xs) = true := decide_eq_true (by omega)
      rw [this]
      simp [LOI, hv, tyAns, isT, tys7, q1]
  | _ => first | (exact Bool.noConfusion hw) | simp [LOI, hv, tyAns, isT, tys7, noL4]
theorem c_list10 {b w : MV} (hv : vw st b = w) (hw : pln w = true) (s m t3 t4 t5 : Option (MV × Bool)) :
    mOr (mNotT (mTv (mIsi (isT "list") noC noC (mVar 2)))) (mTv (mOp gGt (mCallB gLen (mCons (mVar 2) mNil)) (mC (.int 10)))) (LOI s m (fz b) t3 t4 t5) st = .ok (noL10 w, st) := by
  cases w with
  | lst xs =>
    by_cases q1 : (10 : Int) < (xs.length : Int)
    · have : noL10 (.lst xs) = true := decide_eq_true (by omega)
      rw [this]
      simp [LOI, hv, tyAns, isT, tys7, q1]
    · have : noL10 (.lst xs) = false := decide_eq_false (by omega)
      rw [this]
      simp [LOI, hv, tyAns, isT, tys7, q1]
  | _ => first | (exact Bool.noConfusion hw) | simp [LOI, hv, tyAns, isT, tys7, noL10]
theorem init_ok {pl : List Str} {b : MV} {ms : List Move} (hg : PlG pl) (hm : ∀ m, m ∈ ms → m.Ok pl) (hl : ms.length ≤ 10) (hL : IsL st a (pl.map .str)) (hM : IsL st b (ms.map mM)) : M_Program_init [a, b] st = .ok (progM ⟨pl, ms⟩, true, st) := by
  have l1 := hg.l1
  have l4 := hg.l4
  have c := c_list hL.vw rfl (ow (.ins "Program" [])) (fz b) none none none
  rw [show noL4 (.lst (pl.map .str)) = false from decide_eq_false (by rw [List.length_map]; omega)] at c
  obtain ⟨ck, ei, hck⟩ := iEn_any (f := mVar 1) (lo := LOI (ow (.ins "Program" [])) (fz a) (fz b) none none none) (k := .fz) rfl rfl hL
  obtain ⟨t3, t4, e⟩ := names_all hL.vw hck (fun i hi => hg.nm i (by rw [List.length_map] at hi; exact hi)) (ow (.ins "Program" [])) (fz b) none
  have c2 := c_list10 hM.vw rfl (ow (.ins "Program" [])) (fz a) t3 t4 none
  rw [show noL10 (.lst (ms.map mM)) = false from decide_eq_false (by rw [List.length_map]; omega)] at c2
  obtain ⟨ck2, ei2, hck2⟩ := iSeq_any (f := mVar 2) (lo := LOI (ow (.ins "Program" [])) (fz a) (fz b) t3 t4 none) (k := .fz) rfl rfl hM
  obtain ⟨t5, e2⟩ := moves_all hg.good hL.vw hck2 (ys := ms.map mM) (fun i hi => by
    rw [List.length_map] at hi
    exact ⟨ms[i], by rw [List.getElem?_map, List.getElem?_eq_getElem hi]; rfl, hm _ (List.getElem_mem hi)⟩) (ow (.ins "Program" [])) (fz b) t3 t4
  have cls : inB ["Program"] "Program" = true := rfl
  have va := hL.vw
  have vb := hM.vw
  unfold M_Program_init g_Program_init
  refine runI_nx (lo0 := LOI (ow (.ins "Program" [])) (fz a) (fz b) none none none) (lo := LOI (ow (progM ⟨pl, ms⟩)) (fz a) (fz b) t3 t4 t5) rfl
    (seq_ok (if_ff c rfl) (seq_ok (for_ok ei e) (seq_ok (if_ff c2 rfl) (seq_ok (for_ok ei2 e2)
    (seq_ok (lo1 := LOI (ow (.ins "Program" [("stands", .tup (pl.map .str))])) (fz a) (fz b) t3 t4 t5) (st1 := st) ?_ (seq_ok (lo1 := LOI (ow (.ins "Program" [("stands", .tup (pl.map .str)), ("steps", .tup (ms.map mM))])) (fz a) (fz b) t3 t4 t5) (st1 := st) ?_ ?_)))))) rfl
  · simp [LOI, ownAt, cls, putM, va]
  · simp [LOI, ownAt, cls, put2, vb]
  · simp [LOI, ownAt, cls, put3, progM, plM, mvM]
end
end FL
namespace FL
open PySem L2 PySem.Spec PyProof.Rows FW
theorem for_inv {ck : CK} {gf : GF} {body : SF} {I : Lo → Sto → Prop} : ∀ (items : List MV) (lo : Lo) (st : Sto), (∀ lo st, I lo st → ck lo st) →
    (∀ x, x ∈ items → ∀ lo st, I lo st → ∃ lo1 st1 lo2 st2, gf x lo st = .ok (lo1, st1) ∧ body lo1 st1 = .ok (.nx, lo2, st2) ∧ I lo2 st2) → I lo st →
    ∃ lo' st', forL ck gf body items lo st = .ok (.nx, lo', st') ∧ I lo' st'
  | [], lo, st, hc, _, h => ⟨lo, st, by rw [forL_nil, if_pos (hc _ _ h)], h⟩
  | x :: xs, lo, st, hc, hb, h => by
    obtain ⟨lo1, st1, lo2, st2, e1, e2, h2⟩ := hb x (List.mem_cons_self ..) lo st h
    obtain ⟨lo', st', e3, h3⟩ := for_inv xs lo2 st2 hc (fun y hy => hb y (List.mem_cons_of_mem _ hy)) h2
    refine ⟨lo', st', ?_, h3⟩
    rw [forL_cons, if_pos (hc _ _ h), e1]
    simp only [Res.ok_bind]
    rw [e2]
    exact e3
theorem for_lo {gf : GF} {body : SF} {st : Sto} {I : Lo → Prop} (items : List MV) (lo : Lo)
    (hb : ∀ x, x ∈ items → ∀ lo, I lo → ∃ lo1 lo2, gf x lo st = .ok (lo1, st) ∧ body lo1 st = .ok (.nx, lo2, st) ∧ I lo2) (h : I lo) :
    ∃ lo', forL ckT gf body items lo st = .ok (.nx, lo', st) ∧ I lo' := by
  obtain ⟨lo', st', e, h1, h2⟩ := for_inv (ck := ckT) (gf := gf) (body := body) (I := fun lo s => I lo ∧ s = st) items lo st (fun _ _ _ => trivial) (fun x hx lo s ⟨h1, h2⟩ => by
    subst h2
    obtain ⟨lo1, lo2, e1, e2, h3⟩ := hb x hx lo h1
    exact ⟨lo1, s, lo2, s, e1, e2, h3, rfl⟩) ⟨h, rfl⟩
  subst h2
  exact ⟨lo', e, h1⟩
theorem szl {n : Nat} (h : n < 100000) : n < sizeLine := Nat.lt_of_lt_of_le h (by decide +kernel)
theorem gRepN (st : Sto) (xs : List MV) (k : Nat) (h : xs.length * k ≤ 100000) (hk : k ≤ 1000) : gMul st (.lst xs) (.int (k : Nat)) = some (.lst (List.replicate k xs).flatten, true) := by
  have : gRep st (.lst xs) (.int (k : Nat)) = some (.lst (List.replicate k xs).flatten, true) := by
    have c : -(2 ^ 63 : Int) ≤ (k : Int) ∧ (k : Int) < 2 ^ 63 ∧ xs.length * ((k : Int)).toNat ≤ sizeLine := ⟨Int.le_trans (by decide) (Int.natCast_nonneg k), Int.lt_of_le_of_lt (Int.ofNat_le.mpr hk) (by decide), by rw [Int.toNat_natCast]; exact sz h⟩
    unfold gRep
    refine (if_pos c).trans ?_
    rw [Int.toNat_natCast]
  show ((gII CMulW (fun i j => .int (i * j)) st (.lst xs) (.int (k : Nat))).or (gRep st (.lst xs) (.int (k : Nat)))) = _
  rw [this]
  rfl
theorem wt_mM {pl : List Str} (hp : ∀ x, x ∈ pl → x.length ≤ 100) {m : Move} (h : m.Ok pl) : wt (mM m) ≤ 3100 := by
  have h1 := hp _ h.p
  have h2 := hp _ h.o
  simp only [mM, wt, wts]
  omega
end FL
namespace FL
open PySem L2 PySem.Spec PyProof.Rows FW
end FL
namespace FL
open PySem L2 PySem.Spec PyProof.Rows FW
def nb : Nat → MV → Bool
  | 0, _ => false
  | _ + 1, .non => true
  | _ + 1, .int _ => true
  | _ + 1, .str _ => true
  | n + 1, .tup xs => xs.all (nb n)
  | n + 1, .lst xs => xs.all (nb n)
  | _, _ => false
theorem eqvAll_inj {n : Nat} (ih : ∀ a b : MV, nb n a = true → nb n b = true → eqM a b = true → a = b) : ∀ xs ys : List MV, xs.all (nb n) = true → ys.all (nb n) = true → PyData.eqvAll (mds xs) (mds ys) = true → xs = ys
  | [], [], _, _, _ => rfl
  | [], _ :: _, _, _, h => by simp [mds, PyData.eqvAll] at h
  | _ :: _, [], _, _, h => by simp [mds, PyData.eqvAll] at h
  | x :: xs, y :: ys, hx, hy, h => by
    simp only [List.all_cons, Bool.and_eq_true] at hx hy
    simp only [mds, PyData.eqvAll, Bool.and_eq_true] at h
    rw [ih x y hx.1 hy.1 h.1, eqvAll_inj ih xs ys hx.2 hy.2 h.2]
theorem eqM_inj : ∀ (n : Nat) (a b : MV), nb n a = true → nb n b = true → eqM a b = true → a = b
  | 0, a, b, ha, _, _ => by cases ha
  | n + 1, a, b, ha, hb, h => by
    have ih := eqM_inj n
    cases a with
    | non => cases b <;> first | rfl | (cases hb; done) | (simp [eqM, md, PyData.eqv] at h; done)
    | int i => cases b <;> first | (cases hb; done) | (simp [eqM, md, PyData.eqv] at h; done) | (simp [eqM, md, PyData.eqv] at h; rw [h])
    | str x => cases b <;> first | (cases hb; done) | (simp [eqM, md, PyData.eqv] at h; done) | (simp [eqM, md, PyData.eqv] at h; rw [h])
    | tup xs =>
      cases b with
      | tup ys =>
        have h' : PyData.eqvAll (mds xs) (mds ys) = true := by simpa [eqM, md, PyData.eqv] using h
        rw [eqvAll_inj ih xs ys ha hb h']
      | _ => first | (cases hb; done) | (simp [eqM, md, PyData.eqv] at h)
    | lst xs =>
      cases b with
      | lst ys =>
        have h' : PyData.eqvAll (mds xs) (mds ys) = true := by simpa [eqM, md, PyData.eqv] using h
        rw [eqvAll_inj ih xs ys ha hb h']
      | _ => first | (cases hb; done) | (simp [eqM, md, PyData.eqv] at h)
    | _ => cases ha
structure PG (P : Prog) : Prop where
  pl : PlG P.pl
  mv : ∀ m, m ∈ P.mv → m.Ok P.pl
  len : P.mv.length ≤ 10
theorem PG.of {P : Prog} (h : P.Ok) (hn : PlG P.pl) : PG P := ⟨hn, h.mv, h.len⟩
theorem mM_nb {m : FL.Move} : nb 2 (mM m) = true := rfl
theorem plM_nb (P : Prog) : (plM P).all (nb 3) = true := by
  unfold plM
  rw [List.all_map]
  exact List.all_eq_true.mpr fun x _ => rfl
theorem mvM_nb (P : Prog) : (mvM P).all (nb 3) = true := by
  unfold mvM
  rw [List.all_map]
  exact List.all_eq_true.mpr fun x _ => rfl
def two (P : Prog) : MV := .tup [.tup (plM P), .tup (mvM P)]
theorem two_nb (P : Prog) : nb 5 (two P) = true := by
  show (nb 4 (.tup (plM P)) && (nb 4 (.tup (mvM P)) && true)) = true
  rw [show nb 4 (.tup (plM P)) = true from plM_nb P, show nb 4 (.tup (mvM P)) = true from mvM_nb P]
  rfl
theorem mM_inj {m w : FL.Move} (h : mM m = mM w) : m = w := by
  obtain ⟨a, b, c, d⟩ := m
  obtain ⟨a', b', c', d'⟩ := w
  simp only [mM, MV.tup.injEq, List.cons.injEq, MV.str.injEq, MV.int.injEq] at h
  obtain ⟨rfl, rfl, rfl, rfl, _⟩ := h
  rfl
theorem map_inj {α β : Type} {f : α → β} (hf : ∀ a b, f a = f b → a = b) : ∀ xs ys : List α, xs.map f = ys.map f → xs = ys
  | [], [], _ => rfl
  | [], _ :: _, h => by simp at h
  | _ :: _, [], h => by simp at h
  | x :: xs, y :: ys, h => by
    simp only [List.map_cons, List.cons.injEq] at h
    rw [hf _ _ h.1, map_inj hf xs ys h.2]
theorem two_inj {P Q : Prog} (h : two P = two Q) : P = Q := by
  obtain ⟨a, b⟩ := P
  obtain ⟨c, d⟩ := Q
  simp only [two, MV.tup.injEq, List.cons.injEq, plM, mvM] at h
  rw [map_inj (fun x y e => MV.str.inj e) a c h.1, map_inj (fun x y e => mM_inj e) b d h.2.1]
theorem PG.two_gd {P : Prog} (h : PG P) : gd dpt (two P) = true := by
  refine gd_tup fun x hx => ?_
  simp only [List.mem_cons, List.not_mem_nil, or_false] at hx
  rcases hx with rfl | rfl
  · exact gd_tup fun y hy => by
      obtain ⟨z, hz, rfl⟩ := List.mem_map.mp hy
      exact h.pl.good z hz
  · exact gd_tup fun y hy => by
      obtain ⟨z, hz, rfl⟩ := List.mem_map.mp hy
      exact gd_tup (gd_mM h.pl.good (h.mv z hz) _ rfl)
section
variable {P Q : Prog} {st : Sto}
theorem pEq_P (hP : PG P) (hQ : PG Q) : M_Program_eq [progM P, progM Q] st = .ok (.bl (eqM (two P) (two Q)), false, st) := by
  have e : eqc CS "Program" "Program" = some true := rfl
  have z2 : 2 ≤ sizeLine := by decide +kernel
  have f0 : ∀ i, i = 0 ∨ i = 1 → True := fun _ _ => trivial
  have c1 : mIsi noT (eqc CS "Program") noC (mVar 1) [fz (progM P), fz (progM Q)] st = .ok (.bl true, .fz, st) := by simp [progM, tyAns, e]
  have t1 : mTup (mCons (mFld "stands" (inB ["Program"]) noB (mVar 0)) (mCons (mFld "steps" (inB ["Program"]) noB (mVar 0)) mNil)) [fz (progM P), fz (progM Q)] st = .ok (two P, .fr, st) := by
    have a1 : mFld "stands" (inB ["Program"]) noB (mVar 0) [fz (progM P), fz (progM Q)] st = .ok (.tup (plM P), .fz, st) := fldPl rfl
    have a2 : mFld "steps" (inB ["Program"]) noB (mVar 0) [fz (progM P), fz (progM Q)] st = .ok (.tup (mvM P), .fz, st) := fldSt rfl
    simp only [d_mTup, d_mCons, a1, a2, d_mNil, Res.ok_bind]
    simp [z2, two]
  have t2 : mTup (mCons (mFld "stands" (inB ["Program"]) noB (mVar 1)) (mCons (mFld "steps" (inB ["Program"]) noB (mVar 1)) mNil)) [fz (progM P), fz (progM Q)] st = .ok (two Q, .fr, st) := by
    have a1 : mFld "stands" (inB ["Program"]) noB (mVar 1) [fz (progM P), fz (progM Q)] st = .ok (.tup (plM Q), .fz, st) := fldPl rfl
    have a2 : mFld "steps" (inB ["Program"]) noB (mVar 1) [fz (progM P), fz (progM Q)] st = .ok (.tup (mvM Q), .fz, st) := fldSt rfl
    simp only [d_mTup, d_mCons, a1, a2, d_mNil, Res.ok_bind]
    simp [z2, two]
  unfold M_Program_eq g_Program_eq
  exact runF_own (k := .fz) (lo0 := [fz (progM P), fz (progM Q)]) rfl (ret_ok (andV_tt c1 (opV t1 t2 (eq_gd (neg := false) hP.two_gd hQ.two_gd)))) rfl
theorem pEq_same (hP : PG P) : M_Program_eq [progM P, progM P] st = .ok (.bl true, false, st) := by
  rw [pEq_P hP hP, eqM_refl hP.two_gd]
theorem pEq_diff (hP : PG P) (hQ : PG Q) (h : P ≠ Q) : M_Program_eq [progM P, progM Q] st = .ok (.bl false, false, st) := by
  rw [pEq_P hP hQ]
  cases e : eqM (two P) (two Q) with
  | false => rfl
  | true => exact absurd (two_inj (eqM_inj 5 _ _ (two_nb P) (two_nb Q) e)) h
end
section
variable {P : Prog} {st : Sto}
theorem places_ok (P : Prog) (st : Sto) : M_Program_places [progM P] st = .ok (.lst (plM P), true, st) := by
  have a1 : mFld "stands" (inB ["Program"]) noB (mVar 0) [fz (progM P)] st = .ok (.tup (plM P), .fz, st) := fldPl rfl
  unfold M_Program_places g_Program_places
  refine runF_own (k := .fr) (lo0 := [fz (progM P)]) rfl (ret_ok ?_) rfl
  simp [-d_mFld, a1]
theorem moves_ok (P : Prog) (st : Sto) : M_Program_moves [progM P] st = .ok (.lst (mvM P), true, st) := by
  have a1 : mFld "steps" (inB ["Program"]) noB (mVar 0) [fz (progM P)] st = .ok (.tup (mvM P), .fz, st) := fldSt rfl
  unfold M_Program_moves g_Program_moves
  refine runF_own (k := .fr) (lo0 := [fz (progM P)]) rfl (ret_ok ?_) rfl
  simp [-d_mFld, a1]
end
theorem NM_of {pl : List Str} (h : PlOk pl) : PlG pl := by
  refine h.cases (Q := PlG) ?_ ?_ ?_ ?_ ?_
  all_goals
    refine ⟨by decide, by decide, fun i hi => ?_⟩
    simp only [List.length_cons, List.length_nil] at hi
    have hc : i = 0 ∨ i = 1 ∨ i = 2 ∨ i = 3 := by omega
    rcases hc with rfl | rfl | rfl | rfl <;> first | (exact ⟨_, rfl, by decide +kernel, by decide +kernel, by decide +kernel, by decide +kernel⟩) | (exfalso; omega)
def nmsB (l : List Str) : Bool := (List.range l.length).all fun i => match l[i]? with
  | some z => PyData.strOk z && decide (z.length ≤ 100) && nameB (.str z) && !(((l.map MV.str).take i).any fun y => eqM y (.str z))
  | none => false
theorem nms_of {l : List Str} (h : nmsB l = true) : ∀ i, i < l.length → NmAt (l.map .str) i := by
  intro i hi
  have := List.all_eq_true.mp h i (List.mem_range.mpr hi)
  have e : l[i]? = some l[i] := List.getElem?_eq_getElem hi
  rw [e] at this
  simp only [Bool.and_eq_true, decide_eq_true_eq, Bool.not_eq_true'] at this
  exact ⟨l[i], by rw [List.getElem?_map, e]; rfl, this.1.1.1, this.1.1.2, this.1.2, this.2⟩
theorem makeG {Q : Prog} (h : PG Q) (st : Sto) : M_law_program [partsM Q] st = .ok (progM Q, true, st) := by
  have e := init_ok (st := st) (a := .lst (plM Q)) (b := .lst (mvM Q)) h.pl h.mv h.len (.inl rfl) (.inl rfl)
  have y0 : atI [MV.lst (plM Q), .lst (mvM Q)] 0 = some (.lst (plM Q)) := rfl
  have y1 : atI [MV.lst (plM Q), .lst (mvM Q)] 1 = some (.lst (mvM Q)) := rfl
  simp [M_law_program, d_runF, startM, g_law_program, partsM, y0, y1, callR_ok _ _ e]
theorem insP (P : Prog) (st : Sto) : insOf "Program" "__eq__" (vw st (progM P)) = true := by
  show insOf "Program" "__eq__" (progM P) = true
  unfold progM
  rw [d_insOf]
  rfl
theorem places_m {P : Prog} {fo : EF} {lo : Lo} {st st1 : Sto} {k : Kd} (h : fo lo st = .ok (progM P, k, st1)) (hk : isPk k = false) : mMeth "Program" "places" 1 M_Program_places fo mNil lo st = .ok (.lst (plM P), .fr, st1) := by
  have e := callR_ok lo st1 (places_ok P st1)
  have i : insOf "Program" "places" (vw st1 (progM P)) = true := by
    show insOf "Program" "places" (progM P) = true
    unfold progM; rw [d_insOf]; rfl
  rw [d_mMeth, h]
  simp only [Res.ok_bind]
  rw [if_pos ⟨hk, i⟩]
  simp [callF, e]
theorem moves_m {P : Prog} {fo : EF} {lo : Lo} {st st1 : Sto} {k : Kd} (h : fo lo st = .ok (progM P, k, st1)) (hk : isPk k = false) : mMeth "Program" "moves" 1 M_Program_moves fo mNil lo st = .ok (.lst (mvM P), .fr, st1) := by
  have e := callR_ok lo st1 (moves_ok P st1)
  have i : insOf "Program" "moves" (vw st1 (progM P)) = true := by
    show insOf "Program" "moves" (progM P) = true
    unfold progM; rw [d_insOf]; rfl
  rw [d_mMeth, h]
  simp only [Res.ok_bind]
  rw [if_pos ⟨hk, i⟩]
  simp [callF, e]
theorem sto_ok {f : EF} {lo : Lo} {st st1 : Sto} {m : MV} (h : f lo st = .ok (m, .fr, st1)) : mSto f lo st = .ok (.ref st1.length, .fz, st1 ++ [m]) := by rw [d_mSto, h]; rfl
theorem appR_ok {fo fe : EF} {lo : Lo} {st st1 : Sto} {n : Nat} {xs : List MV} {m : MV} {kd : Kd} (h1 : fo lo st = .ok (.ref n, .fz, st)) (h2 : st[n]? = some (.lst xs)) (h3 : fe lo st = .ok (m, kd, st1)) (h4 : isPk kd = false) (h5 : st1[n]? = some (.lst xs)) (hz : xs.length < sizeLine) :
    sApp fo fe lo st = .ok (.nx, lo, st1.set n (.lst (xs ++ [m]))) := by
  unfold sApp
  rw [h1]
  have ef : frzd (m, kd, st1) = .ok (m, st1) := by cases kd <;> first | rfl | cases h4
  simp only [Res.ok_bind, targetOf, refAt, h2, isLst, if_true, h3, ef, h5, if_pos hz, putBack, putRef]
end FL
namespace FL
open PySem L2 PySem.Spec PyProof.Rows FW
end FL
namespace FL
open PySem L2 PySem.Spec PyProof.Rows FW FB
theorem fldC {f cls : Str} {oi : Str → Bool} {fe : EF} {lo : Lo} {st st1 : Sto} {F : List (Str × MV)} {b : Nat} {m : MV} {k : Kd} (h : fe lo st = .ok (.ref b, k, st1)) (hb : st1[b]? = some (.ins cls F)) (ho : oi cls = true) (hl : F.lookup f = some m) : mFld f oi noB fe lo st = .ok (m, .fz, st1) := by
  rw [d_mFld, h]
  simp only [Res.ok_bind]
  rw [vw_at hb]
  have : gFld f oi noB (.ins cls F) = some m := (if_pos ho).trans hl
  rw [this]
theorem allFzC (xs : List MV) : allFz (xs.map (·, false)) = some xs := by
  induction xs with
  | nil => rfl
  | cons x xs ih => rw [List.map_cons, d_allFz1, ih]; rfl
theorem methC {cls name : Str} {n b : Nat} {M : FF} {lo : Lo} {st0 st st1 st2 : Sto} {fo : EF} {g : AF} {ms : List MV} {m : MV} {b' : Bool} {F : List (Str × MV)} {k : Kd} (ho : fo lo st0 = .ok (.ref b, k, st)) (hk : isPk k = false) (hs : st[b]? = some (.ins cls F)) (hn : F.lookup name = none) (hg : g lo st = .ok (ms.map (·, false), st1)) (hl : ms.length + 1 = n) (hm : M (.ref b :: ms) st1 = .ok (m, b', st2)) : mMeth cls name n M fo g lo st0 = .ok (m, if b' then .fr else .fz, st2) := by
  rw [d_mMeth, ho]
  simp only [Res.ok_bind]
  rw [vw_at hs, if_pos ⟨hk, by rw [d_insOf, hn]; simp⟩, hg]
  simp only [Res.ok_bind, hk]
  have e : (MV.ref b, false) :: ms.map (·, false) = (MV.ref b :: ms).map (·, false) := rfl
  rw [e]
  unfold callF
  rw [show allFz ((MV.ref b :: ms).map (·, false)) = some (MV.ref b :: ms) from allFzC _]
  dsimp only
  rw [if_pos (by simp; omega)]
  unfold callR
  rw [List.append_nil, hm]
theorem putFC {f cls : Str} {oi : Str → Bool} {fe : EF} {lo : Lo} {st st1 : Sto} {F : List (Str × MV)} {b : Nat} {m : MV} {k : Kd} {fo : EF} (l0 : ∀ s, fo lo s = .ok (.ref b, .fz, s)) (h : fe lo st = .ok (m, k, st1)) (hk : isPk k = false) (ho : oi cls = true) (hb : st1[b]? = some (.ins cls F)) (hl : F.length < 1000) :
    sPutF f oi fe fo lo st = .ok (.nx, lo, st1.set b (.ins cls (putM f m F))) := by
  have fr : frzd (m, k, st1) = .ok (m, st1) := by cases k <;> first | rfl | cases hk
  rw [d_sPutF, h]
  simp only [Res.ok_bind]
  rw [fr]
  simp only [Res.ok_bind]
  rw [l0]
  simp only [Res.ok_bind, d_tgt2, d_refAt]
  rw [hb]
  dsimp only
  rw [if_pos ⟨ho, hl⟩, d_put2]
theorem seqC {st : Sto} {n : Nat} {xs : List MV} (hn : st[n]? = some (.lst xs)) {f : EF} {lo : Lo} {k : Kd} (hf : f lo st = .ok (.ref n, k, st)) (hk : isPk k = false) : iSeq f lo st = .ok (xs, (fun _ st' => st'[n]? = some (.lst xs)), st) := by
  have e : src (.ref n) st = some (xs, fun _ st' => st'[n]? = some (MV.lst xs)) := by
    unfold src
    dsimp only
    rw [hn]
  have ef : frzd (.ref n, k, st) = .ok (.ref n, st) := by cases k <;> first | rfl | cases hk
  unfold iSeq
  rw [hf]
  simp only [Res.ok_bind, ef, e]
theorem lc_filterX {vs : List Nat} {fi : IFn} {gf : GF} {tt : TF} {fe : EF} {lo : Lo} {st : Sto} {items ck} {p : MV → Bool} {f : MV → MV} (hc : clrOk lo vs = true) (hi : fi lo st = .ok (items, ck, st)) (hck : ck (wipeM lo vs) st) (hz : items.length ≤ sizeLine)
    (hb : ∀ x, x ∈ items → ∃ lo1, gf x (wipeM lo vs) st = .ok (lo1, st) ∧ tt lo1 st = .ok (p x, st) ∧ (p x = true → ∃ kd, fe lo1 st = .ok (f x, kd, st) ∧ isPk kd = false)) : mLc vs fi gf tt fe lo st = .ok (.lst ((items.filter p).map f), .fr, st) := by
  obtain ⟨acc, st2, e, ha, hs⟩ := lcL_run (ck := ck) (gf := gf) (tt := tt) (fe := fe) (lo0 := wipeM lo vs) (Inv := fun k acc st2 => acc = ((items.take k).filter p).map f ∧ st2 = st) (items := items) (fun _ _ _ h => by rw [h.2]; exact hck) hz (fun k acc st2 ⟨h, _⟩ => by
      rw [h, List.length_map]; exact Nat.le_trans (List.length_filter_le _ _) (by rw [List.length_take]; omega))
    (fun k m acc st2 hm ⟨ha, hs⟩ => by
      subst hs
      obtain ⟨lo1, e1, e2, e3⟩ := hb m (List.mem_of_getElem? hm)
      have tk : items.take (k + 1) = items.take k ++ [m] := by rw [List.take_add_one, hm]; rfl
      refine ⟨lo1, st2, p m, st2, e1, e2, ?_⟩
      cases hp : p m with
      | false => exact .inl ⟨rfl, by rw [ha, tk, List.filter_append]; simp [hp], rfl⟩
      | true =>
        obtain ⟨kd, e4, hk⟩ := e3 hp
        exact .inr ⟨rfl, f m, kd, st2, e4, hk, by rw [ha, tk, List.filter_append, List.map_append]; simp [hp], rfl⟩)
    [] st ⟨rfl, rfl⟩
  subst hs
  rw [List.take_length] at ha
  subst ha
  exact lc_ok hc hi e
theorem tup_ok {g : AF} {lo : Lo} {st st1 : Sto} {ms : List MV} (h : g lo st = .ok (ms.map (·, false), st1)) (hl : ms.length ≤ 1000 := by simp) : mTup g lo st = .ok (.tup ms, .fr, st1) := by
  rw [d_mTup, h]
  simp only [Res.ok_bind, allFzC]
  rw [if_pos (sz (by omega))]
theorem lst_ok {g : AF} {lo : Lo} {st st1 : Sto} {ms : List MV} (h : g lo st = .ok (ms.map (·, false), st1)) (hl : ms.length ≤ 1000 := by simp) : mLst g lo st = .ok (.lst ms, .fr, st1) := by
  rw [d_mLst, h]
  simp only [Res.ok_bind, allFzC]
  rw [if_pos (sz (by omega))]
theorem opR {g : G2} {fa fb : EF} {lo : Lo} {st st1 st2 : Sto} {a b : MV} {ka kb : Kd} {z : MV} (ha : fa lo st = .ok (a, ka, st1)) (hb : fb lo st1 = .ok (b, kb, st2)) (h : g st2 (vw st2 a) (vw st2 b) = some (z, true)) : mOp g fa fb lo st = .ok (z, .fr, st2) := by
  rw [d_mOp, ha]
  simp only [Res.ok_bind]
  rw [hb]
  simp only [Res.ok_bind]
  rw [h, d_give1]
theorem par_ok {i j : Nat} {f1 f2 : EF} {lo : Lo} {st st1 st2 : Sto} {m1 m2 : MV} {k1 k2 : Kd} (h1 : f1 lo st = .ok (m1, k1, st1)) (q1 : isPk k1 = false) (h2 : f2 lo st1 = .ok (m2, k2, st2)) (q2 : isPk k2 = false) :
    sPar i j false false f1 f2 lo st = .ok (.nx, (lo.set i (fz m1)).set j (fz m2), st2) := by
  rw [d_sPar, h1]
  have e1 : frzd (m1, k1, st1) = .ok (m1, st1) := by cases k1 <;> first | rfl | cases q1
  have e2 : frzd (m2, k2, st2) = .ok (m2, st2) := by cases k2 <;> first | rfl | cases q2
  simp only [Res.ok_bind, d_takeF, e1, Bool.false_eq_true, if_false, h2, e2]
structure Mod (A : List Nat) (st st' : Sto) : Prop where
  l : st.length ≤ st'.length
  k : ∀ i, i < st.length → i ∉ A → st'[i]? = st[i]?
theorem Mod.refl {A : List Nat} {st : Sto} : Mod A st st := ⟨Nat.le_refl _, fun _ _ _ => rfl⟩
theorem Mod.trans {A : List Nat} {a b c : Sto} (h : Mod A a b) (g : Mod A b c) : Mod A a c := ⟨Nat.le_trans h.l g.l, fun i hi hn => (g.k i (Nat.lt_of_lt_of_le hi h.l) hn).trans (h.k i hi hn)⟩
theorem Mod.up {A B : List Nat} {a b : Sto} (h : Mod A a b) (hs : ∀ x, x ∈ A → x ∈ B) : Mod B a b := ⟨h.l, fun i hi hn => h.k i hi fun z => hn (hs i z)⟩
theorem Mod.set {A : List Nat} {st : Sto} {n : Nat} {m : MV} (h : n ∈ A) : Mod A st (st.set n m) := ⟨by rw [List.length_set]; exact Nat.le_refl _, fun i _ hn => List.getElem?_set_ne (fun e => hn (by rw [← e]; exact h))⟩
theorem Mod.app {A : List Nat} {st r : Sto} : Mod A st (st ++ r) := ⟨by rw [List.length_append]; omega, fun i hi _ => List.getElem?_append_left hi⟩
theorem Mod.at {A : List Nat} {st st' : Sto} {n : Nat} {m : MV} (h : Mod A st st') (e : st[n]? = some m) (hn : n ∉ A) : st'[n]? = some m := (h.k n (List.getElem?_eq_some_iff.mp e).1 hn).trans e
theorem Mod.of_gs {st st' : Sto} {g : Nat} {N : Int} (h : GS st g N st') : Mod [g] st st' := ⟨Nat.le_of_eq h.l.symm, fun i _ hn => h.o i (fun e => hn (by rw [e]; exact List.mem_singleton_self _))⟩
theorem GenAt.mod {A : List Nat} {st st' : Sto} {g : Nat} {N : Int} (h : GenAt st g N) (m : Mod A st st') (hn : g ∉ A) : GenAt st' g N := by
  obtain ⟨a, b, c, e, r⟩ := h
  exact ⟨a, b, c, m.at e hn, r⟩
end FL
namespace W66
open PySem L2 PySem.Spec PyProof.Rows FW FL
abbrev Hist := List (MV × List FL.Move)
def liveF (P : Prog) (j : Nat) : List (Str × MV) := [("now", progM P), ("past", .ref j)]
def liveM (P : Prog) (j : Nat) : MV := .ins "Live" (liveF P j)
def pastM (pl : List Str) (hi : Hist) : List MV := hi.map fun x => .tup [x.1, progM ⟨pl, x.2⟩]
structure At (pl : List Str) (st : Sto) (n j : Nat) (ms : List FL.Move) (hi : Hist) : Prop where
  a : st[n]? = some (liveM ⟨pl, ms⟩ j)
  b : st[j]? = some (.lst (pastM pl hi))
  g : PG ⟨pl, ms⟩
  h : ∀ x, x ∈ hi → PG ⟨pl, x.2⟩
theorem At.ne {pl : List Str} {st : Sto} {n j : Nat} {ms : List FL.Move} {hi : Hist} (h : At pl st n j ms hi) : n ≠ j := fun e => by
  have a := h.a
  rw [e, h.b] at a
  cases a
theorem At.mod {pl : List Str} {st st' : Sto} {n j : Nat} {ms : List FL.Move} {hi : Hist} {A : List Nat} (h : At pl st n j ms hi) (m : Mod A st st') (hn : n ∉ A) (hj : j ∉ A) : At pl st' n j ms hi := ⟨m.at h.a hn, m.at h.b hj, h.g, h.h⟩
theorem makeP {P : Prog} (h : PG P) (st : Sto) : M_Program_init [.lst (plM P), .lst (mvM P)] st = .ok (progM P, true, st) := init_ok h.pl h.mv h.len (.inl rfl) (.inl rfl)
section
variable {pl : List Str} {st : Sto} {n j : Nat} {ms ms' : List FL.Move} {hi : Hist}
theorem At.now (h : At pl st n j ms hi) {fo : EF} {lo : Lo} {st0 : Sto} {k : Kd} (hf : fo lo st0 = .ok (.ref n, k, st)) : mFld "now" (inB ["Live"]) noB fo lo st0 = .ok (progM ⟨pl, ms⟩, .fz, st) := fldC hf h.a rfl rfl
theorem At.past (h : At pl st n j ms hi) {fo : EF} {lo : Lo} {st0 : Sto} {k : Kd} (hf : fo lo st0 = .ok (.ref n, k, st)) : mFld "past" (inB ["Live"]) noB fo lo st0 = .ok (.ref j, .fz, st) := fldC hf h.a rfl rfl
theorem At.places (h : At pl st n j ms hi) {fo : EF} {lo : Lo} {st0 : Sto} {k : Kd} (hf : fo lo st0 = .ok (.ref n, k, st)) : mMeth "Program" "places" 1 M_Program_places (mFld "now" (inB ["Live"]) noB fo) mNil lo st0 = .ok (.lst (plM ⟨pl, ms⟩), .fr, st) := by
  have e := h.now hf
  rw [d_mMeth, e]
  simp only [Res.ok_bind]
  have := places_m (P := ⟨pl, ms⟩) (fo := mC (progM ⟨pl, ms⟩)) (lo := lo) (st := st) (st1 := st) (k := .fz) (d_mC ..) rfl
  rw [d_mMeth, d_mC] at this
  exact this
theorem At.moves (h : At pl st n j ms hi) {fo : EF} {lo : Lo} {st0 : Sto} {k : Kd} (hf : fo lo st0 = .ok (.ref n, k, st)) : mMeth "Program" "moves" 1 M_Program_moves (mFld "now" (inB ["Live"]) noB fo) mNil lo st0 = .ok (.lst (ms.map mM), .fr, st) := by
  have e := h.now hf
  rw [d_mMeth, e]
  simp only [Res.ok_bind]
  have := moves_m (P := ⟨pl, ms⟩) (fo := mC (progM ⟨pl, ms⟩)) (lo := lo) (st := st) (st1 := st) (k := .fz) (d_mC ..) rfl
  rw [d_mMeth, d_mC] at this
  exact this
theorem At.lenN (h : At pl st n j ms hi) {fo : EF} {lo : Lo} {st0 : Sto} {k : Kd} (hf : fo lo st0 = .ok (.ref n, k, st)) : mCallB gLen (mCons (mFld "steps" (inB ["Program"]) noB (mFld "now" (inB ["Live"]) noB fo)) mNil) lo st0 = .ok (.int (ms.length : Nat), .fz, st) := by
  have e := h.now hf
  have e2 : mFld "steps" (inB ["Program"]) noB (mFld "now" (inB ["Live"]) noB fo) lo st0 = .ok (.tup (ms.map mM), .fz, st) := by rw [d_mFld, e]; rfl
  rw [d_mCallB, d_mCons, e2]
  simp only [Res.ok_bind, d_mNil, List.map_cons, List.map_nil, vw_tup, d_gLenT, d_give0, List.length_map]
theorem len_ok (h : At pl st n j ms hi) : M_Live_len [.ref n] st = .ok (.int (ms.length : Nat), false, st) := by
  unfold M_Live_len g_Live_len
  exact runF_own (k := .fz) (lo0 := [fz (.ref n)]) rfl (ret_ok (h.lenN (k := .fz) rfl)) rfl
theorem shown_ok (h : At pl st n j ms hi) : M_Live_shown [.ref n] st = .ok (progM ⟨pl, ms⟩, true, st) := by
  unfold M_Live_shown g_Live_shown
  exact runF_own (k := .fr) (lo0 := [fz (.ref n)]) rfl (ret_ok (callV (ms := [.lst (plM ⟨pl, ms⟩), .lst (mvM ⟨pl, ms⟩)]) (b := true) (st1 := st) (cons_ok (h.places (k := .fz) rfl) rfl (cons_ok (h.moves (k := .fz) rfl) rfl nil_ok)) rfl (makeP h.g st))) rfl
theorem log_ok (h : At pl st n j ms hi) (hz : hi.length ≤ 1000) : M_Live_log [.ref n] st = .ok (.lst (hi.map (·.1)), true, st) := by
  have hp := h.past (fo := mVar 0) (lo := [fz (.ref n), none, none]) (st0 := st) (k := .fz) rfl
  have lc := lc_filterX (vs := [1, 2]) (fi := iSeq (mFld "past" (inB ["Live"]) noB (mVar 0))) (gf := gT 2 (gsCons (gN 1) (gsCons (gN 2) gsNil))) (tt := tYesM) (fe := mVar 1) (lo := [fz (.ref n), none, none]) (st := st) (items := pastM pl hi) (ck := fun _ st' => st'[j]? = some (.lst (pastM pl hi)))
    (p := fun _ => true) (f := fun x => match x with | .tup [d, _] => d | _ => .non) rfl (seqC h.b hp rfl) h.b (by unfold pastM; rw [List.length_map]; exact sz (by omega)) (fun x hx => by
      obtain ⟨y, hy, rfl⟩ := List.mem_map.mp hx
      exact ⟨[fz (.ref n), fz y.1, fz (progM ⟨pl, y.2⟩)], by simp [wipeM], rfl, fun _ => ⟨.fz, rfl, rfl⟩⟩)
  rw [List.filter_eq_self.mpr (fun _ _ => rfl)] at lc
  have em : (pastM pl hi).map (fun x => match x with | .tup [d, _] => d | _ => .non) = hi.map (·.1) := by
    unfold pastM
    rw [List.map_map]; rfl
  rw [em] at lc
  unfold M_Live_log g_Live_log
  exact runF_own (k := .fr) (lo0 := [fz (.ref n), none, none]) rfl (ret_ok lc) rfl
theorem checkMove_ok (h : At pl st n j ms hi) {z : FL.Move} (hz : z.Ok pl) : M_Live_check_move [.ref n, mM z] st = .ok (.non, false, st) := by
  have e := isMove_ok h.g.pl.good (m := mM z) rfl (gd_mM h.g.pl.good hz) st
  rw [moveB_ok hz] at e
  unfold M_Live_check_move g_Live_check_move
  exact runF_nx (lo0 := [fz (.ref n), fz (mM z)]) rfl (if_ff (not_ok (b := true) (tv_ok (k := .fz) (callV (ms := [mM z, .lst (pl.map .str)]) (b := false) (st1 := st) (cons_ok (f := mVar 1) (k := .fz) rfl rfl (cons_ok (h.places (k := .fz) rfl) rfl nil_ok)) rfl e))) (d_sNil ..))
theorem checkNumber_ok (h : At pl st n j ms hi) {i : Nat} (hi' : i < ms.length) : M_Live_check_number [.ref n, .int (i : Nat)] st = .ok (.non, false, st) := by
  have e := within_ok (m := .int (i : Nat)) rfl 0 ((ms.length : Int) - 1) st
  have w : win 0 ((ms.length : Int) - 1) (.int (i : Nat)) = true := by
    simp [win]; omega
  rw [w] at e
  have ln := h.lenN (fo := mVar 0) (lo := [fz (.ref n), fz (.int (i : Nat))]) (st0 := st) (k := .fz) rfl
  unfold M_Live_check_number g_Live_check_number
  exact runF_nx (lo0 := [fz (.ref n), fz (.int (i : Nat))]) rfl (if_ff (not_ok (b := true) (tv_ok (k := .fz) (callV (ms := [.int (i : Nat), .int 0, .int ((ms.length : Int) - 1)]) (b := false) (st1 := st) (cons_ok (f := mVar 1) (k := .fz) rfl rfl (cons_ok (d_mC (m := .int 0) ..) rfl (cons_ok (opV ln (d_mC (m := .int 1) ..) (d_gSub ..)) rfl nil_ok))) rfl e))) (d_sNil ..))
theorem lead_ok (h : At pl st n j ms hi) (hz : hi.length ≤ 1000) (d : MV) (g' : PG ⟨pl, ms'⟩) :
    ∃ st', M_Live_lead [.ref n, d, .lst (ms'.map mM)] st = .ok (.non, false, st') ∧ At pl st' n j ms' (hi ++ [(d, ms)]) ∧ Mod [n, j] st st' ∧ st'.length = st.length := by
  let st1 := st.set j (.lst (pastM pl (hi ++ [(d, ms)])))
  have hjl : j < st.length := (List.getElem?_eq_some_iff.mp h.b).1
  have hnl : n < st.length := (List.getElem?_eq_some_iff.mp h.a).1
  have ne := h.ne
  have b1 : st1[j]? = some (.lst (pastM pl (hi ++ [(d, ms)]))) := List.getElem?_set_self hjl
  have a1 : st1[n]? = some (liveM ⟨pl, ms⟩ j) := by
    show (st.set j _)[n]? = _
    rw [List.getElem?_set_ne (Ne.symm ne)]
    exact h.a
  generalize hlo : ([fz (.ref n), fz d, fz (.lst (ms'.map mM))] : Lo) = lo
  have v0 : ∀ s, mVar 0 lo s = .ok (.ref n, .fz, s) := fun s => by rw [← hlo]; rfl
  have v1 : ∀ s, mVar 1 lo s = .ok (d, .fz, s) := fun s => by rw [← hlo]; rfl
  have v2 : ∀ s, mVar 2 lo s = .ok (.lst (ms'.map mM), .fz, s) := fun s => by rw [← hlo]; rfl
  have s1 : sApp (mFld "past" (inB ["Live"]) noB (mVar 0)) (mTup (mCons (mVar 1) (mCons (mFld "now" (inB ["Live"]) noB (mVar 0)) mNil))) lo st = .ok (.nx, lo, st1) := by
    have := appR_ok (lo := lo) (fe := mTup (mCons (mVar 1) (mCons (mFld "now" (inB ["Live"]) noB (mVar 0)) mNil))) (st := st) (st1 := st) (n := j) (xs := pastM pl hi) (m := .tup [d, progM ⟨pl, ms⟩]) (kd := .fr) (h.past (v0 st)) h.b
      (tup_ok (ms := [d, progM ⟨pl, ms⟩]) (cons_ok (v1 st) rfl (cons_ok (h.now (v0 st)) rfl nil_ok))) rfl h.b (by unfold pastM; rw [List.length_map]; exact Nat.lt_of_le_of_lt hz (by decide +kernel))
    rw [this]
    show Res.ok (Fl.nx, lo, st.set j (.lst (pastM pl hi ++ [.tup [d, progM ⟨pl, ms⟩]]))) = Res.ok (Fl.nx, lo, st.set j (.lst (pastM pl (hi ++ [(d, ms)]))))
    unfold pastM
    rw [List.map_append]
    rfl
  have A1 : At pl st1 n j ms (hi ++ [(d, ms)]) := ⟨a1, b1, h.g, fun x hx => by
    rcases List.mem_append.mp hx with q | q
    · exact h.h x q
    · rw [List.mem_singleton] at q; subst q; exact h.g⟩
  have s2 : sPutF "now" (inB ["Live"]) (mCall 2 M_Program_init [] (mCons (mMeth "Program" "places" 1 M_Program_places (mFld "now" (inB ["Live"]) noB (mVar 0)) mNil) (mCons (mVar 2) mNil))) (mVar 0) lo st1 = .ok (.nx, lo, st1.set n (liveM ⟨pl, ms'⟩ j)) := by
    have := putFC (f := "now") (cls := "Live") (oi := inB ["Live"]) (fo := mVar 0) (lo := lo) (st := st1) (st1 := st1) (F := liveF ⟨pl, ms⟩ j) (b := n) (m := progM ⟨pl, ms'⟩) (k := .fr) v0
      (callV (n := 2) (F := M_Program_init) (ms := [.lst (plM ⟨pl, ms'⟩), .lst (mvM ⟨pl, ms'⟩)]) (b := true) (st1 := st1) (cons_ok (A1.places (v0 st1)) rfl (cons_ok (v2 st1) rfl nil_ok)) rfl (makeP g' st1)) rfl rfl a1 (by show (2 : Nat) < 1000; decide)
    rw [this]
    rfl
  refine ⟨st1.set n (liveM ⟨pl, ms'⟩ j), ?_, ⟨List.getElem?_set_self (by rw [List.length_set]; exact hnl), ?_, g', A1.h⟩, (Mod.set (by simp)).trans (Mod.set (by simp)), by rw [List.length_set, List.length_set]⟩
  · unfold M_Live_lead g_Live_lead
    exact runF_nx (lo0 := lo) (by rw [← hlo]; rfl) (seq_ok s1 s2)
  · rw [List.getElem?_set_ne ne]; exact b1
end
end W66
namespace W66
open PySem L2 PySem.Spec PyProof.Rows FW FL
theorem sl_to {f g : EF} {lo : Lo} {st : Sto} {xs : List MV} {k k' : Kd} {i : Nat} (h : f lo st = .ok (.lst xs, k, st)) (h2 : g lo st = .ok (.int (i : Nat), k', st)) (hi : i ≤ xs.length) : mSl f oNone (oSome g) lo st = .ok (.lst (xs.take i), .fr, st) := by
  unfold mSl oNone oSome
  rw [h]
  simp only [Res.ok_bind]
  rw [h2]
  simp only [Res.ok_bind]
  rw [vw_lst]
  show giveOut (some (.lst (cutM xs none (some (i : Int))), true)) st = _
  rw [cut_take xs hi]; rfl
theorem sl_from {f g : EF} {lo : Lo} {st : Sto} {xs : List MV} {k k' : Kd} {i : Nat} (h : f lo st = .ok (.lst xs, k, st)) (h2 : g lo st = .ok (.int (i : Nat), k', st)) (hi : i ≤ xs.length) : mSl f (oSome g) oNone lo st = .ok (.lst (xs.drop i), .fr, st) := by
  unfold mSl oNone oSome
  rw [h]
  simp only [Res.ok_bind]
  rw [h2]
  simp only [Res.ok_bind]
  rw [vw_lst]
  show giveOut (some (.lst (cutM xs (some (i : Int)) none), true)) st = _
  rw [cut_drop xs hi]; rfl
theorem addL {f g : EF} {lo : Lo} {st : Sto} {xs ys : List MV} {k k' : Kd} (h : f lo st = .ok (.lst xs, k, st)) (h2 : g lo st = .ok (.lst ys, k', st)) (hz : xs.length + ys.length ≤ 1000) : mOp gAdd f g lo st = .ok (.lst (xs ++ ys), .fr, st) := by
  refine opR h h2 ?_
  rw [vw_lst, vw_lst, d_gAddL, if_pos (sz (by omega))]
def addD (z : FL.Move) : MV := .tup [.str "add", mM z]
def dropD (i : Nat) : MV := .tup [.str "drop", .int (i : Nat)]
def changeD (i : Nat) (z : FL.Move) : MV := .tup [.str "change", .int (i : Nat), mM z]
abbrev dropL (ms : List FL.Move) (i : Nat) : List FL.Move := ms.take i ++ ms.drop (i + 1)
abbrev changeL (ms : List FL.Move) (i : Nat) (z : FL.Move) : List FL.Move := ms.take i ++ [z] ++ ms.drop (i + 1)
section
variable {pl : List Str} {st : Sto} {n j : Nat} {ms ms' : List FL.Move} {hi : Hist}
theorem PG.addG (g : PG ⟨pl, ms⟩) {z : FL.Move} (hz : z.Ok pl) (hl : ms.length < 10) : PG ⟨pl, ms ++ [z]⟩ := ⟨g.pl, fun m hm => by
  rcases List.mem_append.mp hm with q | q
  · exact g.mv m q
  · rw [List.mem_singleton] at q; subst q; exact hz, by show (ms ++ [z]).length ≤ 10; rw [List.length_append]; simp; omega⟩
theorem PG.dropG (g : PG ⟨pl, ms⟩) (i : Nat) : PG ⟨pl, dropL ms i⟩ := ⟨g.pl, fun m hm => by
  rcases List.mem_append.mp hm with q | q
  · exact g.mv m (List.mem_of_mem_take q)
  · exact g.mv m (List.mem_of_mem_drop q), by
    have := g.len
    show (ms.take i ++ ms.drop (i + 1)).length ≤ 10
    have h' : ms.length ≤ 10 := this
    rw [List.length_append, List.length_take, List.length_drop]; omega⟩
theorem PG.changeG (g : PG ⟨pl, ms⟩) {i : Nat} (hi : i < ms.length) {z : FL.Move} (hz : z.Ok pl) : PG ⟨pl, changeL ms i z⟩ := ⟨g.pl, fun m hm => by
  rcases List.mem_append.mp hm with q | q
  · rcases List.mem_append.mp q with q | q
    · exact g.mv m (List.mem_of_mem_take q)
    · rw [List.mem_singleton] at q; subst q; exact hz
  · exact g.mv m (List.mem_of_mem_drop q), by
    have h' : ms.length ≤ 10 := g.len
    show (ms.take i ++ [z] ++ ms.drop (i + 1)).length ≤ 10
    rw [List.length_append, List.length_append, List.length_take, List.length_drop]; simp; omega⟩
theorem add_ok (h : At pl st n j ms hi) (hz : hi.length ≤ 1000) {z : FL.Move} (hzo : z.Ok pl) (hl : ms.length < 10) :
    ∃ st', M_Live_add [.ref n, mM z] st = .ok (.non, false, st') ∧ At pl st' n j (ms ++ [z]) (hi ++ [(addD z, ms)]) ∧ Mod [n, j] st st' ∧ st'.length = st.length := by
  obtain ⟨st', e, A, M, L⟩ := lead_ok h hz (addD z) (PG.addG h.g hzo hl)
  refine ⟨st', ?_, A, M, L⟩
  generalize hlo : ([fz (.ref n), fz (mM z)] : Lo) = lo
  have v0 : ∀ s, mVar 0 lo s = .ok (.ref n, .fz, s) := fun s => by rw [← hlo]; rfl
  have v1 : ∀ s, mVar 1 lo s = .ok (mM z, .fz, s) := fun s => by rw [← hlo]; rfl
  have s1 : sExpr (mMeth "Live" "check_move" 2 M_Live_check_move (mVar 0) (mCons (mVar 1) mNil)) lo st = .ok (.nx, lo, st) :=
    expr_ok (methC (ms := [mM z]) (b' := false) (v0 st) rfl h.a rfl (cons_ok (v1 st) rfl nil_ok) rfl (checkMove_ok h hzo))
  have s2 : sIf (mTv (mOp gGe (mCallB gLen (mCons (mFld "steps" (inB ["Program"]) noB (mFld "now" (inB ["Live"]) noB (mVar 0))) mNil)) (mC (.int 10)))) (sRaise "InvalidList" "value" [] (mCons (mMeth "Program" "moves" 1 M_Program_moves (mFld "now" (inB ["Live"]) noB (mVar 0)) mNil) mNil)) sNil lo st = .ok (.nx, lo, st) := by
    refine if_ff (tv_ok (k := .fz) (opV (h.lenN (v0 st)) (d_mC (m := .int 10) ..) ?_)) (d_sNil ..)
    rw [vw_int, vw_int, d_gGe, decide_eq_false (by omega)]
  have s3 : sExpr (mMeth "Live" "lead" 3 M_Live_lead (mVar 0) (mCons (mTup (mCons (mC (.str "add")) (mCons (mVar 1) mNil))) (mCons (mOp gAdd (mMeth "Program" "moves" 1 M_Program_moves (mFld "now" (inB ["Live"]) noB (mVar 0)) mNil) (mLst (mCons (mVar 1) mNil))) mNil))) lo st = .ok (.nx, lo, st') := by
    have ap := addL (h.moves (v0 st)) (lst_ok (ms := [mM z]) (cons_ok (v1 st) rfl nil_ok)) (by have h' : ms.length ≤ 10 := h.g.len; rw [List.length_map]; simp; omega)
    rw [show ms.map mM ++ [mM z] = (ms ++ [z]).map mM by rw [List.map_append]; rfl] at ap
    exact expr_ok (methC (ms := [addD z, .lst ((ms ++ [z]).map mM)]) (b' := false) (v0 st) rfl h.a rfl (cons_ok (k := .fr) (tup_ok (ms := [.str "add", mM z]) (cons_ok (d_mC (m := .str "add") ..) rfl (cons_ok (v1 st) rfl nil_ok))) rfl (cons_ok ap rfl nil_ok)) rfl e)
  unfold M_Live_add g_Live_add
  exact runF_nx (lo0 := lo) (by rw [← hlo]; rfl) (seq_ok s1 (seq_ok s2 s3))
theorem drop_ok (h : At pl st n j ms hi) (hz : hi.length ≤ 1000) {i : Nat} (hil : i < ms.length) :
    ∃ st', M_Live_drop [.ref n, .int (i : Nat)] st = .ok (.non, false, st') ∧ At pl st' n j (dropL ms i) (hi ++ [(dropD i, ms)]) ∧ Mod [n, j] st st' ∧ st'.length = st.length := by
  obtain ⟨st', e, A, M, L⟩ := lead_ok h hz (dropD i) (PG.dropG h.g i)
  refine ⟨st', ?_, A, M, L⟩
  have l10 : ms.length ≤ 10 := h.g.len
  have s1 : sExpr (mMeth "Live" "check_number" 2 M_Live_check_number (mVar 0) (mCons (mVar 1) mNil)) [fz (.ref n), fz (.int (i : Nat)), none] st = .ok (.nx, [fz (.ref n), fz (.int (i : Nat)), none], st) :=
    expr_ok (methC (ms := [.int (i : Nat)]) (b' := false) (st1 := st) (k := .fz) rfl rfl h.a rfl (cons_ok (f := mVar 1) (k := .fz) rfl rfl nil_ok) rfl (checkNumber_ok h hil))
  have s2 := set_ok (i := 2) (k := .fr) (h.moves (fo := mVar 0) (lo := [fz (.ref n), fz (.int (i : Nat)), none]) (st0 := st) (k := .fz) rfl) rfl
  generalize hlo : ([fz (.ref n), fz (.int (i : Nat)), fz (.lst (ms.map mM))] : Lo) = lo
  have v0 : ∀ s, mVar 0 lo s = .ok (.ref n, .fz, s) := fun s => by rw [← hlo]; rfl
  have v1 : ∀ s, mVar 1 lo s = .ok (.int (i : Nat), .fz, s) := fun s => by rw [← hlo]; rfl
  have v2 : ∀ s, mVar 2 lo s = .ok (.lst (ms.map mM), .fz, s) := fun s => by rw [← hlo]; rfl
  have i1 : mOp gAdd (mVar 1) (mC (.int 1)) lo st = .ok (.int ((i + 1 : Nat) : Int), .fz, st) := opV (v1 st) (d_mC (m := .int 1) ..) rfl
  have s3 : sExpr (mMeth "Live" "lead" 3 M_Live_lead (mVar 0) (mCons (mTup (mCons (mC (.str "drop")) (mCons (mVar 1) mNil))) (mCons (mOp gAdd (mSl (mVar 2) oNone (oSome (mVar 1))) (mSl (mVar 2) (oSome (mOp gAdd (mVar 1) (mC (.int 1)))) oNone)) mNil))) lo st = .ok (.nx, lo, st') := by
    have ap := addL (sl_to (v2 st) (v1 st) (by rw [List.length_map]; omega)) (sl_from (v2 st) i1 (by rw [List.length_map]; omega)) (by rw [List.length_take, List.length_drop, List.length_map]; omega)
    rw [show (ms.map mM).take i ++ (ms.map mM).drop (i + 1) = (dropL ms i).map mM by rw [List.map_append, List.map_take, List.map_drop]] at ap
    exact expr_ok (methC (ms := [dropD i, .lst ((dropL ms i).map mM)]) (b' := false) (v0 st) rfl h.a rfl (cons_ok (k := .fr) (tup_ok (ms := [.str "drop", .int (i : Nat)]) (cons_ok (d_mC (m := .str "drop") ..) rfl (cons_ok (v1 st) rfl nil_ok))) rfl (cons_ok ap rfl nil_ok)) rfl e)
  unfold M_Live_drop g_Live_drop
  refine runF_nx (lo0 := [fz (.ref n), fz (.int (i : Nat)), none]) (lo := lo) rfl (seq_ok s1 (seq_ok s2 ?_))
  show sExpr _ [fz (.ref n), fz (.int (i : Nat)), fz (.lst (ms.map mM))] st = _
  rw [hlo]; exact s3
theorem change_ok (h : At pl st n j ms hi) (hz : hi.length ≤ 1000) {i : Nat} (hil : i < ms.length) {z : FL.Move} (hzo : z.Ok pl) :
    ∃ st', M_Live_change [.ref n, .int (i : Nat), mM z] st = .ok (.non, false, st') ∧ At pl st' n j (changeL ms i z) (hi ++ [(changeD i z, ms)]) ∧ Mod [n, j] st st' ∧ st'.length = st.length := by
  obtain ⟨st', e, A, M, L⟩ := lead_ok h hz (changeD i z) (PG.changeG h.g hil hzo)
  refine ⟨st', ?_, A, M, L⟩
  have l10 : ms.length ≤ 10 := h.g.len
  have s1 : sExpr (mMeth "Live" "check_number" 2 M_Live_check_number (mVar 0) (mCons (mVar 1) mNil)) [fz (.ref n), fz (.int (i : Nat)), fz (mM z), none] st = .ok (.nx, [fz (.ref n), fz (.int (i : Nat)), fz (mM z), none], st) :=
    expr_ok (methC (ms := [.int (i : Nat)]) (b' := false) (st1 := st) (k := .fz) rfl rfl h.a rfl (cons_ok (f := mVar 1) (k := .fz) rfl rfl nil_ok) rfl (checkNumber_ok h hil))
  have s1' : sExpr (mMeth "Live" "check_move" 2 M_Live_check_move (mVar 0) (mCons (mVar 2) mNil)) [fz (.ref n), fz (.int (i : Nat)), fz (mM z), none] st = .ok (.nx, [fz (.ref n), fz (.int (i : Nat)), fz (mM z), none], st) :=
    expr_ok (methC (ms := [mM z]) (b' := false) (st1 := st) (k := .fz) rfl rfl h.a rfl (cons_ok (f := mVar 2) (k := .fz) rfl rfl nil_ok) rfl (checkMove_ok h hzo))
  have s2 := set_ok (i := 3) (k := .fr) (h.moves (fo := mVar 0) (lo := [fz (.ref n), fz (.int (i : Nat)), fz (mM z), none]) (st0 := st) (k := .fz) rfl) rfl
  generalize hlo : ([fz (.ref n), fz (.int (i : Nat)), fz (mM z), fz (.lst (ms.map mM))] : Lo) = lo
  have v0 : ∀ s, mVar 0 lo s = .ok (.ref n, .fz, s) := fun s => by rw [← hlo]; rfl
  have v1 : ∀ s, mVar 1 lo s = .ok (.int (i : Nat), .fz, s) := fun s => by rw [← hlo]; rfl
  have v2 : ∀ s, mVar 2 lo s = .ok (mM z, .fz, s) := fun s => by rw [← hlo]; rfl
  have v3 : ∀ s, mVar 3 lo s = .ok (.lst (ms.map mM), .fz, s) := fun s => by rw [← hlo]; rfl
  have i1 : mOp gAdd (mVar 1) (mC (.int 1)) lo st = .ok (.int ((i + 1 : Nat) : Int), .fz, st) := opV (v1 st) (d_mC (m := .int 1) ..) rfl
  have s3 : sExpr (mMeth "Live" "lead" 3 M_Live_lead (mVar 0) (mCons (mTup (mCons (mC (.str "change")) (mCons (mVar 1) (mCons (mVar 2) mNil)))) (mCons (mOp gAdd (mOp gAdd (mSl (mVar 3) oNone (oSome (mVar 1))) (mLst (mCons (mVar 2) mNil))) (mSl (mVar 3) (oSome (mOp gAdd (mVar 1) (mC (.int 1)))) oNone)) mNil))) lo st = .ok (.nx, lo, st') := by
    have ap := addL (addL (sl_to (v3 st) (v1 st) (by rw [List.length_map]; omega)) (lst_ok (ms := [mM z]) (cons_ok (v2 st) rfl nil_ok)) (by rw [List.length_take, List.length_map]; simp; omega)) (sl_from (v3 st) i1 (by rw [List.length_map]; omega)) (by rw [List.length_append, List.length_take, List.length_drop, List.length_map]; simp; omega)
    rw [show (ms.map mM).take i ++ [mM z] ++ (ms.map mM).drop (i + 1) = (changeL ms i z).map mM by rw [List.map_append, List.map_append, List.map_take, List.map_drop]; rfl] at ap
    exact expr_ok (methC (ms := [changeD i z, .lst ((changeL ms i z).map mM)]) (b' := false) (v0 st) rfl h.a rfl (cons_ok (k := .fr) (tup_ok (ms := [.str "change", .int (i : Nat), mM z]) (cons_ok (d_mC (m := .str "change") ..) rfl (cons_ok (v1 st) rfl (cons_ok (v2 st) rfl nil_ok)))) rfl (cons_ok ap rfl nil_ok)) rfl e)
  unfold M_Live_change g_Live_change
  refine runF_nx (lo0 := [fz (.ref n), fz (.int (i : Nat)), fz (mM z), none]) (lo := lo) rfl (seq_ok s1 (seq_ok s1' (seq_ok s2 ?_)))
  show sExpr _ [fz (.ref n), fz (.int (i : Nat)), fz (mM z), fz (.lst (ms.map mM))] st = _
  rw [hlo]; exact s3
theorem back_ok {d : MV} (h : At pl st n j ms (hi ++ [(d, ms')])) :
    ∃ st', M_Live_back [.ref n] st = .ok (.non, false, st') ∧ At pl st' n j ms' hi ∧ Mod [n, j] st st' ∧ st'.length = st.length := by
  have hjl : j < st.length := (List.getElem?_eq_some_iff.mp h.b).1
  have hnl : n < st.length := (List.getElem?_eq_some_iff.mp h.a).1
  have ne := h.ne
  have ep : pastM pl (hi ++ [(d, ms')]) = pastM pl hi ++ [.tup [d, progM ⟨pl, ms'⟩]] := by unfold pastM; rw [List.map_append]; rfl
  have hb := h.b
  rw [ep] at hb
  let st1 := st.set j (.lst (pastM pl hi))
  have b1 : st1[j]? = some (.lst (pastM pl hi)) := List.getElem?_set_self hjl
  have a1 : st1[n]? = some (liveM ⟨pl, ms⟩ j) := by
    show (st.set j _)[n]? = _
    rw [List.getElem?_set_ne (Ne.symm ne)]
    exact h.a
  have hp := h.past (fo := mVar 0) (lo := [fz (.ref n), none]) (st0 := st) (k := .fz) rfl
  have s1 : sIf (mTv (mOp (gLNil false) (mFld "past" (inB ["Live"]) noB (mVar 0)) (mLst mNil))) (sRaiseN "NothingToUndo") sNil [fz (.ref n), none] st = .ok (.nx, [fz (.ref n), none], st) := by
    refine if_ff (tv_ok (k := .fz) (opV hp (lst_ok (ms := []) nil_ok) ?_)) (d_sNil ..)
    rw [vw_at hb, vw_lst]
    show some (MV.bl (pastM pl hi ++ [MV.tup [d, progM ⟨pl, ms'⟩]]).isEmpty, false) = _
    cases pastM pl hi <;> rfl
  have pop : mLPop (mFld "past" (inB ["Live"]) noB (mVar 0)) [fz (.ref n), none] st = .ok (.tup [d, progM ⟨pl, ms'⟩], .fz, st1) := by
    unfold mLPop
    rw [hp]
    simp only [Res.ok_bind]
    show (match st[j]?, Kd.fz with | some (.lst xs), .fz => _ | _, _ => _) = _
    rw [hb]
    dsimp only
    rw [show (pastM pl hi ++ [MV.tup [d, progM ⟨pl, ms'⟩]])[(pastM pl hi ++ [MV.tup [d, progM ⟨pl, ms'⟩]]).length - 1]? = some (MV.tup [d, progM ⟨pl, ms'⟩]) by
      rw [List.length_append, List.getElem?_append_right (by simp)]; simp, List.dropLast_concat]
    rfl
  have s2 : sAsg (mLPop (mFld "past" (inB ["Live"]) noB (mVar 0))) (gT 2 (gsCons (gN 1) (gsCons (gPutF "now" (inB ["Live"]) (mVar 0)) gsNil))) [fz (.ref n), none] st = .ok (.nx, [fz (.ref n), fz d], st1.set n (liveM ⟨pl, ms'⟩ j)) := by
    refine asg_ok pop rfl ?_
    have e0 : mVar 0 [fz (.ref n), fz d] st1 = .ok (.ref n, .fz, st1) := rfl
    show (gPutF "now" (inB ["Live"]) (mVar 0) (progM ⟨pl, ms'⟩) [fz (.ref n), fz d] st1 >>= fun (lo1, st1) => gsNil [] lo1 st1) = _
    unfold gPutF
    rw [e0]
    simp only [Res.ok_bind]
    rw [a1]
    rfl
  refine ⟨st1.set n (liveM ⟨pl, ms'⟩ j), ?_, ⟨List.getElem?_set_self (by rw [List.length_set]; exact hnl), ?_, h.h (d, ms') (by simp), fun x hx => h.h x (List.mem_append_left _ hx)⟩, (Mod.set (by simp)).trans (Mod.set (by simp)), by rw [List.length_set, List.length_set]⟩
  · unfold M_Live_back g_Live_back
    exact runF_nx (lo0 := [fz (.ref n), none]) rfl (seq_ok s1 s2)
  · rw [List.getElem?_set_ne ne]; exact b1
theorem eq_ok2 {n2 j2 : Nat} {ms2 : List FL.Move} {hi2 : Hist} {pl2 : List Str} {q : Bool} (h : At pl st n j ms hi) (h2 : At pl2 st n2 j2 ms2 hi2) (hq : q = true ↔ (⟨pl, ms⟩ : Prog) = ⟨pl2, ms2⟩) :
    M_Live_eq [.ref n, .ref n2] st = .ok (.bl q, false, st) := by
  have e : eqc CS "Live" "Live" = some true := rfl
  have c1 : mIsi noT (eqc CS "Live") noC (mVar 1) [fz (.ref n), fz (.ref n2)] st = .ok (.bl true, .fz, st) := by
    have v1 : mVar 1 [fz (.ref n), fz (.ref n2)] st = .ok (.ref n2, .fz, st) := rfl
    rw [d_mIsi, v1]
    simp only [Res.ok_bind]
    rw [vw_at h2.a]
    rfl
  have c2 : mEqA false "Program" M_Program_eq (mFld "now" (inB ["Live"]) noB (mVar 0)) (mFld "now" (inB ["Live"]) noB (mVar 1)) [fz (.ref n), fz (.ref n2)] st = .ok (.bl q, .fz, st) := by
    have F : M_Program_eq [progM ⟨pl, ms⟩, progM ⟨pl2, ms2⟩] st = .ok (.bl q, false, st) := by
      cases q with
      | true => rw [← hq.mp rfl]; exact pEq_same h.g
      | false => exact pEq_diff h.g h2.g fun e => Bool.noConfusion (hq.mpr e)
    exact eqA_l (neg := false) (h.now (k := .fz) rfl) rfl (h2.now (k := .fz) rfl) rfl (insP _ st) rfl F
  unfold M_Live_eq g_Live_eq
  exact runF_own (k := .fz) (lo0 := [fz (.ref n), fz (.ref n2)]) rfl (ret_ok (andV_tt c1 c2)) rfl
theorem eq_no {x : MV} (hx : tyAns noT (eqc CS "Live") noC (vw st x) = some false) : M_Live_eq [.ref n, x] st = .ok (.bl false, false, st) := by
  have c1 : mIsi noT (eqc CS "Live") noC (mVar 1) [fz (.ref n), fz x] st = .ok (.bl false, .fz, st) := by
    have v1 : mVar 1 [fz (.ref n), fz x] st = .ok (x, .fz, st) := rfl
    rw [d_mIsi, v1]
    simp only [Res.ok_bind]
    rw [hx]
  unfold M_Live_eq g_Live_eq
  exact runF_own (k := .fz) (lo0 := [fz (.ref n), fz x]) rfl (ret_ok (andV_ff c1)) rfl
theorem init_live {P : Prog} (g : PG P) (st : Sto) : M_Live_init [progM P] st = .ok (.ref st.length, false, st ++ [liveM P (st.length + 1), .lst []]) ∧ At P.pl (st ++ [liveM P (st.length + 1), .lst []]) st.length (st.length + 1) P.mv [] := by
  generalize hlo : ([fz (.ref st.length), fz (progM P)] : Lo) = lo
  have v0 : ∀ s, mVar 0 lo s = .ok (.ref st.length, .fz, s) := fun s => by rw [← hlo]; rfl
  have v1 : ∀ s, mVar 1 lo s = .ok (progM P, .fz, s) := fun s => by rw [← hlo]; rfl
  have s1 : sExpr (mCall 1 M_check_program [] (mCons (mVar 1) mNil)) lo (st ++ [.ins "Live" []]) = .ok (.nx, lo, st ++ [.ins "Live" []]) := expr_ok (callV (ms := [progM P]) (b := false) (cons_ok (v1 _) rfl nil_ok) rfl (chkP_ok P _))
  have s2 : sPutF "now" (inB ["Live"]) (mVar 1) (mVar 0) lo (st ++ [.ins "Live" []]) = .ok (.nx, lo, st ++ [.ins "Live" [("now", progM P)]]) := by
    have := putFC (f := "now") (cls := "Live") (oi := inB ["Live"]) (fo := mVar 0) (lo := lo) (F := []) (b := st.length) v0 (v1 (st ++ [.ins "Live" []])) rfl rfl (by simp) (by decide)
    rw [this]
    simp [putM]
  have s3 : sPutF "past" (inB ["Live"]) (mSto (mLst mNil)) (mVar 0) lo (st ++ [.ins "Live" [("now", progM P)]]) = .ok (.nx, lo, st ++ [liveM P (st.length + 1), .lst []]) := by
    have l0 : mSto (mLst mNil) lo (st ++ [.ins "Live" [("now", progM P)]]) = .ok (.ref (st.length + 1), .fz, st ++ [.ins "Live" [("now", progM P)]] ++ [.lst []]) := by
      have := sto_ok (lst_ok (lo := lo) (ms := []) (st1 := st ++ [.ins "Live" [("now", progM P)]]) nil_ok)
      rw [this]
      simp
    have := putFC (f := "past") (cls := "Live") (oi := inB ["Live"]) (fo := mVar 0) (lo := lo) (F := [("now", progM P)]) (b := st.length) v0 l0 rfl rfl (by simp) (by show (1 : Nat) < 1000; decide)
    rw [this]
    simp [putM, liveM, liveF]
    decide
  refine ⟨?_, ⟨by simp, by simp [pastM], g, fun x hx => nomatch hx⟩⟩
  unfold M_Live_init runS
  rw [show startS st.length 2 [progM P] = lo from by rw [← hlo]; rfl]
  unfold g_Live_init
  rw [seq_ok s1 (seq_ok s2 s3)]
theorem copy_ok (h : At pl st n j ms hi) : ∃ st', M_Live_copy [.ref n] st = .ok (.ref st.length, false, st') ∧ At pl st' st.length (st.length + 2) ms hi ∧ Mod [] st st' ∧ st'.length = st.length + 3 := by
  obtain ⟨e, A⟩ := init_live h.g st
  have M1 : Mod [] st (st ++ [liveM ⟨pl, ms⟩ (st.length + 1), .lst []]) := Mod.app
  have h1 := h.mod M1 (by simp) (by simp)
  have f1 : sSet 1 (mCall 1 M_Live_init [] (mCons (mFld "now" (inB ["Live"]) noB (mVar 0)) mNil)) [fz (.ref n), none] st = .ok (.nx, [fz (.ref n), fz (.ref st.length)], st ++ [liveM ⟨pl, ms⟩ (st.length + 1), .lst []]) :=
    set_ok (k := .fz) (callV (ms := [progM ⟨pl, ms⟩]) (b := false) (st1 := st) (cons_ok (h.now (k := .fz) rfl) rfl nil_ok) rfl e) rfl
  generalize hlo : ([fz (.ref n), fz (.ref st.length)] : Lo) = lo at f1
  have v0 : ∀ s, mVar 0 lo s = .ok (.ref n, .fz, s) := fun s => by rw [← hlo]; rfl
  have v1 : ∀ s, mVar 1 lo s = .ok (.ref st.length, .fz, s) := fun s => by rw [← hlo]; rfl
  have lp : mCallB gListOf (mCons (mFld "past" (inB ["Live"]) noB (mVar 0)) mNil) lo (st ++ [liveM ⟨pl, ms⟩ (st.length + 1), .lst []]) = .ok (.lst (pastM pl hi), .fr, st ++ [liveM ⟨pl, ms⟩ (st.length + 1), .lst []]) := by
    rw [d_mCallB, d_mCons, h1.past (v0 _)]
    simp only [Res.ok_bind, d_mNil, List.map_cons, List.map_nil]
    rw [vw_at h1.b, d_gListL]
    rfl
  have f2 : sPutF "past" (inB ["Live"]) (mSto (mCallB gListOf (mCons (mFld "past" (inB ["Live"]) noB (mVar 0)) mNil))) (mVar 1) lo (st ++ [liveM ⟨pl, ms⟩ (st.length + 1), .lst []]) = .ok (.nx, lo, st ++ [liveM ⟨pl, ms⟩ (st.length + 2), .lst [], .lst (pastM pl hi)]) := by
    have l0 := sto_ok lp
    rw [show (st ++ [liveM ⟨pl, ms⟩ (st.length + 1), MV.lst []]).length = st.length + 2 by simp] at l0
    have := putFC (f := "past") (cls := "Live") (oi := inB ["Live"]) (fo := mVar 1) (lo := lo) (F := liveF ⟨pl, ms⟩ (st.length + 1)) (b := st.length) v1 l0 rfl rfl (by simp [liveM]) (by show (2 : Nat) < 1000; decide)
    rw [this]
    simp [putM, liveM, liveF]
    decide
  refine ⟨st ++ [liveM ⟨pl, ms⟩ (st.length + 2), .lst [], .lst (pastM pl hi)], ?_, ⟨?_, ?_, h.g, h.h⟩, Mod.app, ?_⟩
  · unfold M_Live_copy g_Live_copy
    exact runF_own (k := .fz) (lo0 := [fz (.ref n), none]) rfl (seq_ok f1 (seq_ok f2 (ret_ok (v1 _)))) rfl
  · simp
  · simp
  · simp
end
end W66
namespace W66
open PySem L2 PySem.Spec PyProof.Rows FW FL
def recM (x : MV × List FL.Move) : MV := .tup [x.1, .lst (x.2.map mM)]
def stM (ms : List FL.Move) (hi : Hist) : MV := .lst [.lst (ms.map mM), .lst (hi.map recM)]
structure Dd (d : MV) : Prop where
  g : gd 8 d = true
  w : wt d ≤ 3700
theorem plShort {pl : List Str} (h : PlG pl) : ∀ x, x ∈ pl → x.length ≤ 100 := by
  intro x hx
  obtain ⟨i, hi⟩ := List.mem_iff_getElem?.mp hx
  obtain ⟨z, hz, ho, hl, _⟩ := h.nm i (List.getElem?_eq_some_iff.mp hi).1
  rw [List.getElem?_map, hi] at hz
  cases hz
  exact hl
theorem gd_mv {n : Nat} {pl : List Str} (h : PlG pl) {z : FL.Move} (hz : z.Ok pl) : gd (n + 2) (mM z) = true := gd_tup (gd_mM h.good hz _ rfl)
theorem dd_add {pl : List Str} (h : PlG pl) {z : FL.Move} (hz : z.Ok pl) : Dd (addD z) := by
  refine ⟨gd_tup fun x hx => ?_, ?_⟩
  · simp only [List.mem_cons, List.not_mem_nil, or_false] at hx
    rcases hx with rfl | rfl
    · decide +kernel
    · exact gd_mv h hz
  · have := wt_mM (plShort h) hz
    have e : wt (.str "add") = 32 := by decide +kernel
    simp only [addD, wt, wts] at *
    omega
theorem dd_drop {i : Nat} (hi : i < 1000) : Dd (dropD i) := by
  refine ⟨gd_tup fun x hx => ?_, ?_⟩
  · simp only [List.mem_cons, List.not_mem_nil, or_false] at hx
    rcases hx with rfl | rfl
    · decide +kernel
    · exact gd_nat (by omega)
  · have e : wt (.str "drop") = 42 := by decide +kernel
    simp only [dropD, wt, wts] at *
    omega
theorem dd_change {pl : List Str} (h : PlG pl) {i : Nat} (hi : i < 1000) {z : FL.Move} (hz : z.Ok pl) : Dd (changeD i z) := by
  refine ⟨gd_tup fun x hx => ?_, ?_⟩
  · simp only [List.mem_cons, List.not_mem_nil, or_false] at hx
    rcases hx with rfl | rfl | rfl
    · decide +kernel
    · exact gd_nat (by omega)
    · exact gd_mv h hz
  · have := wt_mM (plShort h) hz
    have e : wt (.str "change") = 62 := by decide +kernel
    simp only [changeD, wt, wts] at *
    omega
theorem nilT {neg : Bool} {f : EF} {lo : Lo} {st : Sto} {xs : List MV} {k : Kd} (h : f lo st = .ok (.lst xs, k, st)) : mTv (mOp (gLNil neg) f (mLst mNil)) lo st = .ok (if neg then !xs.isEmpty else xs.isEmpty, st) :=
  tv_ok (k := .fz) (opV h (lst_ok (ms := []) nil_ok) rfl)
theorem putIx {fo fi : EF} {lo : Lo} {st : Sto} {s : Nat} {xs : List MV} {i : Nat} {m : MV} (h : ∀ st, fo lo st = .ok (.ref s, .fz, st)) (hi : ∀ st, fi lo st = .ok (.int (i : Nat), .fz, st)) (hs : st[s]? = some (.lst xs)) (hl : i < xs.length) : gPutIx fo fi m lo st = .ok (lo, st.set s (.lst (xs.set i m))) := by
  unfold gPutIx
  rw [h]
  simp only [Res.ok_bind]
  rw [hi]
  simp only [Res.ok_bind]
  rw [hs]
  have e : ixN xs.length (i : Int) = some i := by
    unfold ixN
    rw [if_pos (by omega), if_pos (by omega)]
    simp
  dsimp only
  rw [e]
theorem isEmpty_map {α β : Type} (f : α → β) (xs : List α) : (xs.map f).isEmpty = xs.isEmpty := by cases xs <;> rfl
abbrev LS0 (g n s : Nat) (pl : List Str) (ms : List FL.Move) (hi : Hist) (z : FL.Move) (r a : Int) (t9 : Option (MV × Bool)) : Lo := [fz (.ref g), fz (.ref n), fz (.lst (pl.map .str)), fz (.ref s), fz (.lst (ms.map mM)), fz (.lst (hi.map recM)), fz (mM z), fz (.int r), fz (.int a), t9]
section
variable {pl : List Str} {st : Sto} {g n j s : Nat} {ms : List FL.Move} {hi : Hist} {N : Int}
theorem one_move (G : GenAt st g N) (hN : N ≤ 10 ^ 6) (l1 : 1 ≤ pl.length) (l4 : pl.length ≤ 4) {lo : Lo} (v0 : ∀ s, mVar 0 lo s = .ok (.ref g, .fz, s)) (v2 : ∀ s, mVar 2 lo s = .ok (.lst (pl.map .str), .fz, s)) :
    ∃ z st', FL.Move.Ok pl z ∧ mOp gIx (mOp gAdd (mCall 3 M_law_moves_drawn [] (mCons (mVar 0) (mCons (mVar 2) (mCons (mC (.int 1)) mNil)))) (mLst (mCons (mTup (mCons (mOp gIx (mVar 2) (mUn gNeg (mC (.int 1)))) (mCons (mC (.int 1)) (mCons (mUn gNeg (mC (.int 1))) (mCons (mOp gIx (mVar 2) (mC (.int 0))) mNil))))) mNil))) (mC (.int 0)) lo st = .ok (mM z, .fz, st') ∧ GS st g (N + 2000) st' := by
  obtain ⟨mv, st', hmv, hl, e, G'⟩ := movesDrawn_ok G (by omega) l1 l4 (most := 1) (by omega)
  obtain ⟨p0, pr, hp⟩ : ∃ p0 pr, pl = p0 :: pr := by cases pl with
    | nil => simp at l1
    | cons a b => exact ⟨a, b, rfl⟩
  obtain ⟨pi, pz, hq⟩ : ∃ pi pz, pl = pi ++ [pz] := ⟨pl.dropLast, pl.getLast (by rw [hp]; simp), (List.dropLast_concat_getLast _).symm⟩
  have z0 : FL.Move.Ok pl ⟨pz, 1, -1, p0⟩ := ⟨by rw [hq]; simp, by rw [hp]; simp, by show (0 : Int) ≤ 1; decide, by show (1 : Int) ≤ 8; decide, by show (-4 : Int) ≤ -1; decide, by show (-1 : Int) ≤ 4; decide, by show (0 : Int) ≤ 1 + -1; decide, by show (1 : Int) + -1 ≤ 8; decide⟩
  have c : mCall 3 M_law_moves_drawn [] (mCons (mVar 0) (mCons (mVar 2) (mCons (mC (.int 1)) mNil))) lo st = .ok (.lst (mv.map mM), .fr, st') :=
    callV (ms := [.ref g, .lst (pl.map .str), .int (1 : Nat)]) (b := true) (st1 := st) (cons_ok (v0 st) rfl (cons_ok (v2 st) rfl (cons_ok (d_mC (m := .int 1) ..) rfl nil_ok))) rfl e
  have n1 : mUn gNeg (mC (.int 1)) lo st' = .ok (.int (-1), .fz, st') := rfl
  have x1 : mOp gIx (mVar 2) (mUn gNeg (mC (.int 1))) lo st' = .ok (.str pz, .fz, st') := ixLk (v2 st') n1 (by rw [hq, List.map_append]; exact FL.atI_last _ _)
  have x2 : mOp gIx (mVar 2) (mC (.int 0)) lo st' = .ok (.str p0, .fz, st') := ixLk (i := 0) (v2 st') (d_mC (m := .int 0) ..) (by rw [hp]; exact atI_0 _ _)
  have t : mLst (mCons (mTup (mCons (mOp gIx (mVar 2) (mUn gNeg (mC (.int 1)))) (mCons (mC (.int 1)) (mCons (mUn gNeg (mC (.int 1))) (mCons (mOp gIx (mVar 2) (mC (.int 0))) mNil))))) mNil) lo st' = .ok (.lst [mM ⟨pz, 1, -1, p0⟩], .fr, st') :=
    lst_ok (ms := [mM ⟨pz, 1, -1, p0⟩]) (cons_ok (k := .fr) (tup_ok (ms := [.str pz, .int 1, .int (-1), .str p0]) (cons_ok x1 rfl (cons_ok (d_mC (m := .int 1) ..) rfl (cons_ok n1 rfl (cons_ok x2 rfl nil_ok))))) rfl nil_ok)
  have a : mOp gAdd (mCall 3 M_law_moves_drawn [] (mCons (mVar 0) (mCons (mVar 2) (mCons (mC (.int 1)) mNil)))) (mLst (mCons (mTup (mCons (mOp gIx (mVar 2) (mUn gNeg (mC (.int 1)))) (mCons (mC (.int 1)) (mCons (mUn gNeg (mC (.int 1))) (mCons (mOp gIx (mVar 2) (mC (.int 0))) mNil))))) mNil)) lo st = .ok (.lst (mv.map mM ++ [mM ⟨pz, 1, -1, p0⟩]), .fr, st') := by
    refine opR c t ?_
    rw [vw_lst, vw_lst, d_gAddL, if_pos (sz (by rw [List.length_map]; simp; omega))]
  cases mv with
  | nil => exact ⟨_, st', z0, opV (a := .lst [mM ⟨pz, 1, -1, p0⟩]) (b := .int 0) a (d_mC (m := .int 0) ..) (ixL (atI_0 _ _)), G'⟩
  | cons m mv => exact ⟨m, st', hmv m List.mem_cons_self, opV (a := .lst ((m :: mv).map mM ++ [mM ⟨pz, 1, -1, p0⟩])) (b := .int 0) a (d_mC (m := .int 0) ..) (ixL (atI_0 _ _)), G'⟩
theorem max1 {lo : Lo} {st : Sto} {xs : List MV} (h : mVar 4 lo st = .ok (.lst xs, .fz, st)) : mCallB gMax2 (mCons (mC (.int 1)) (mCons (mCallB gLen (mCons (mVar 4) mNil)) mNil)) lo st = .ok (.int (max 1 (xs.length : Nat) : Nat), .fz, st) := by
  have l : mCallB gLen (mCons (mVar 4) mNil) lo st = .ok (.int (xs.length : Nat), .fz, st) := by
    rw [d_mCallB, d_mCons, h]
    simp only [Res.ok_bind, d_mNil, List.map_cons, List.map_nil, vw_lst, d_gLenL, d_give0]
  have ar : mCons (mC (.int 1)) (mCons (mCallB gLen (mCons (mVar 4) mNil)) mNil) lo st = .ok ([.int 1, .int (xs.length : Nat)].map (·, false), st) := cons_ok (d_mC (m := .int 1) ..) rfl (cons_ok l rfl nil_ok)
  rw [d_mCallB, ar]
  simp only [Res.ok_bind, List.map_cons, List.map_nil]
  rw [vw_int, vw_int, d_gMax2]
  show Res.ok (MV.int (if ((xs.length : Nat) : Int) > 1 then ((xs.length : Nat) : Int) else 1), Kd.fz, st) = _
  congr 3
  split <;> omega
theorem step_ok (h : At pl st n j ms hi) (hs : st[s]? = some (stM ms hi)) (G : GenAt st g N) (hN : N ≤ 10 ^ 6) (dg : g ≠ n ∧ g ≠ j ∧ g ≠ s) (ds : s ≠ n ∧ s ≠ j) (l1 : 1 ≤ pl.length) (l4 : pl.length ≤ 4) (h9 : ms.length ≤ 9) (hh9 : ∀ x, x ∈ hi → x.2.length ≤ 9 ∧ Dd x.1) (hz : hi.length ≤ 900) :
    ∃ ms' hi' st', M_law_step [.ref g, .ref n, .lst (pl.map .str), .ref s] st = .ok (.non, false, st') ∧ At pl st' n j ms' hi' ∧ st'[s]? = some (stM ms' hi') ∧ ms'.length ≤ 9 ∧ (∀ x, x ∈ hi' → x.2.length ≤ 9 ∧ Dd x.1) ∧ hi'.length ≤ hi.length + 1 ∧ GenAt st' g (N + 3000) ∧ Mod [g, n, j, s] st st' ∧ st'.length = st.length := by
  have f1 : sAsg (mVar 3) (gT 2 (gsCons (gN 4) (gsCons (gN 5) gsNil))) [fz (.ref g), fz (.ref n), fz (.lst (pl.map .str)), fz (.ref s), none, none, none, none, none, none] st = .ok (.nx, [fz (.ref g), fz (.ref n), fz (.lst (pl.map .str)), fz (.ref s), fz (.lst (ms.map mM)), fz (.lst (hi.map recM)), none, none, none, none], st) :=
    asg_ok (k := .fz) (m := .ref s) rfl rfl (by rw [d_gT, vw_at hs]; rfl)
  obtain ⟨z, s1, hzo, e1, G1⟩ := one_move G hN l1 l4 (lo := [fz (.ref g), fz (.ref n), fz (.lst (pl.map .str)), fz (.ref s), fz (.lst (ms.map mM)), fz (.lst (hi.map recM)), none, none, none, none]) (fun _ => rfl) (fun _ => rfl)
  have f2 := set_ok (i := 6) (k := .fz) e1 rfl
  obtain ⟨r, s2, r0, r5, e2, G2⟩ := random_ok (bound := 5) G1.g (by omega) (by decide) (by decide)
  obtain ⟨a, s3, a0, aB, e3, G3⟩ := random_ok (bound := ((max 1 ms.length : Nat) : Int)) G2.g (by omega) (by omega) (by omega)
  obtain ⟨a, rfl⟩ : ∃ a' : Nat, a = (a' : Int) := ⟨a.toNat, by omega⟩
  have f3 : sPar 7 8 false false (mCall 2 M_law_random [] (mCons (mVar 0) (mCons (mC (.int 5)) mNil))) (mCall 2 M_law_random [] (mCons (mVar 0) (mCons (mCallB gMax2 (mCons (mC (.int 1)) (mCons (mCallB gLen (mCons (mVar 4) mNil)) mNil))) mNil))) [fz (.ref g), fz (.ref n), fz (.lst (pl.map .str)), fz (.ref s), fz (.lst (ms.map mM)), fz (.lst (hi.map recM)), fz (mM z), none, none, none] s1 = .ok (.nx, LS0 g n s pl ms hi z r (a : Nat) none, s3) := by
    have mx := max1 (lo := [fz (.ref g), fz (.ref n), fz (.lst (pl.map .str)), fz (.ref s), fz (.lst (ms.map mM)), fz (.lst (hi.map recM)), fz (mM z), none, none, none]) (st := s2) (xs := ms.map mM) rfl
    rw [List.length_map] at mx
    exact par_ok (k1 := .fz) (k2 := .fz) (callV (ms := [.ref g, .int 5]) (b := false) (st1 := s1) (cons_ok (f := mVar 0) (k := .fz) rfl rfl (cons_ok (d_mC (m := .int 5) ..) rfl nil_ok)) rfl e2) rfl
      (callV (ms := [.ref g, .int ((max 1 ms.length : Nat) : Int)]) (b := false) (st1 := s2) (cons_ok (f := mVar 0) (k := .fz) rfl rfl (cons_ok mx rfl nil_ok)) rfl e3) rfl
  have GG : GS st g (N + 3000) s3 := ((G1.trans G2).trans G3).up (by omega)
  have M3 : Mod [g] st s3 := Mod.of_gs GG
  have h3 : At pl s3 n j ms hi := h.mod M3 (by simp; exact Ne.symm dg.1) (by simp; exact Ne.symm dg.2.1)
  have hs3 : s3[s]? = some (stM ms hi) := M3.at hs (by simp; exact Ne.symm dg.2.2)
  suffices hh : ∃ ms' hi' st', (∃ fl lo', (fl = .nx ∨ fl = .rt .non .fz) ∧ sSeq (sIf (mAnd (mTv (mOp (gEqB false) (mVar 7) (mC (.int 0)))) (mTv (mOp (gLNil true) (mVar 5) (mLst mNil)))) (sSeq (sExpr (mMeth "Live" "back" 1 M_Live_back (mVar 1) mNil))
      (sSeq (sAsg (mTup (mCons (mOp gIx (mOp gIx (mVar 5) (mUn gNeg (mC (.int 1)))) (mC (.int 1))) (mCons (mSl (mVar 5) oNone (oSome (mUn gNeg (mC (.int 1))))) mNil))) (gT 2 (gsCons (gPutIx (mVar 3) (mC (.int 0))) (gsCons (gPutIx (mVar 3) (mC (.int 1))) gsNil))))
      sRetN)) sNil)
      (sSeq (sIf (mOr (mAnd (mTv (mOp (gEqB false) (mVar 7) (mC (.int 1)))) (mTv (mOp (gLNil true) (mVar 4) (mLst mNil)))) (mTv (mOp gGt (mCallB gLen (mCons (mVar 4) mNil)) (mC (.int 8))))) (sSeq (sExpr (mMeth "Live" "drop" 2 M_Live_drop (mVar 1) (mCons (mVar 8) mNil)))
      (sAsg (mTup (mCons (mOp gAdd (mSl (mVar 4) oNone (oSome (mVar 8))) (mSl (mVar 4) (oSome (mOp gAdd (mVar 8) (mC (.int 1)))) oNone)) (mCons (mTup (mCons (mC (.str "drop")) (mCons (mVar 8) mNil))) mNil))) (gT 2 (gsCons (gPutIx (mVar 3) (mC (.int 0))) (gsCons (gN 9) gsNil))))) (sIf (mAnd (mTv (mOp (gEqB false) (mVar 7) (mC (.int 2)))) (mTv (mOp (gLNil true) (mVar 4) (mLst mNil)))) (sSeq (sExpr (mMeth "Live" "change" 3 M_Live_change (mVar 1) (mCons (mVar 8) (mCons (mVar 6) mNil))))
      (sAsg (mTup (mCons (mOp gAdd (mOp gAdd (mSl (mVar 4) oNone (oSome (mVar 8))) (mLst (mCons (mVar 6) mNil))) (mSl (mVar 4) (oSome (mOp gAdd (mVar 8) (mC (.int 1)))) oNone)) (mCons (mTup (mCons (mC (.str "change")) (mCons (mVar 8) (mCons (mVar 6) mNil)))) mNil))) (gT 2 (gsCons (gPutIx (mVar 3) (mC (.int 0))) (gsCons (gN 9) gsNil))))) (sSeq (sExpr (mMeth "Live" "add" 2 M_Live_add (mVar 1) (mCons (mVar 6) mNil)))
      (sAsg (mTup (mCons (mOp gAdd (mVar 4) (mLst (mCons (mVar 6) mNil))) (mCons (mTup (mCons (mC (.str "add")) (mCons (mVar 6) mNil))) mNil))) (gT 2 (gsCons (gPutIx (mVar 3) (mC (.int 0))) (gsCons (gN 9) gsNil)))))))
      (sPutIx (mOp gAdd (mVar 5) (mLst (mCons (mTup (mCons (mVar 9) (mCons (mVar 4) mNil))) mNil))) (mVar 3) (mC (.int 1)))) (LS0 g n s pl ms hi z r (a : Nat) none) s3 = .ok (fl, lo', st')) ∧ At pl st' n j ms' hi' ∧ st'[s]? = some (stM ms' hi') ∧ ms'.length ≤ 9 ∧ (∀ x, x ∈ hi' → x.2.length ≤ 9 ∧ Dd x.1) ∧ hi'.length ≤ hi.length + 1 ∧ Mod [n, j, s] s3 st' ∧ st'.length = s3.length by
    obtain ⟨ms', hi', st', ⟨fl, lo', hfl, e⟩, A, S, l9, l99, lz, M, L⟩ := hh
    refine ⟨ms', hi', st', ?_, A, S, l9, l99, lz, GG.g.mod M (by simp; exact dg), (M3.up (by simp)).trans (M.up (by simp)), L.trans GG.l⟩
    unfold M_law_step g_law_step
    rcases hfl with rfl | rfl
    · exact runF_nx (lo := lo') rfl (seq_ok f1 (seq_ok f2 (seq_ok f3 e)))
    · exact runF_own (k := .fz) (lo := lo') rfl (seq_ok f1 (seq_ok f2 (seq_ok f3 e))) rfl
  clear f1 f2 f3 e1 e2 e3 G1 G2 G3 G GG M3 h hs
  generalize hlo : LS0 g n s pl ms hi z r (a : Nat) none = lo
  have v1 : ∀ s, mVar 1 lo s = .ok (.ref n, .fz, s) := fun _ => by rw [← hlo]; rfl
  have v3 : ∀ st, mVar 3 lo st = .ok (.ref s, .fz, st) := fun _ => by rw [← hlo]; rfl
  have v4 : ∀ s, mVar 4 lo s = .ok (.lst (ms.map mM), .fz, s) := fun _ => by rw [← hlo]; rfl
  have v5 : ∀ s, mVar 5 lo s = .ok (.lst (hi.map recM), .fz, s) := fun _ => by rw [← hlo]; rfl
  have v6 : ∀ s, mVar 6 lo s = .ok (mM z, .fz, s) := fun _ => by rw [← hlo]; rfl
  have v7 : ∀ s, mVar 7 lo s = .ok (.int r, .fz, s) := fun _ => by rw [← hlo]; rfl
  have v8 : ∀ s, mVar 8 lo s = .ok (.int (a : Nat), .fz, s) := fun _ => by rw [← hlo]; rfl
  have i0 : ∀ s, mC (.int 0) lo s = .ok (.int (0 : Nat), .fz, s) := fun _ => rfl
  have i1 : ∀ s, mC (.int 1) lo s = .ok (.int (1 : Nat), .fz, s) := fun _ => rfl
  have hml : ms.length ≤ 10 := h3.g.len
  have hsl : s < s3.length := (List.getElem?_eq_some_iff.mp hs3).1
  have eqk : ∀ (k : Int) s, mTv (mOp (gEqB false) (mVar 7) (mC (.int k))) lo s = .ok (decide (r = k), s) := fun k s => tv_ok (k := .fz) (opV (v7 s) (d_mC (m := .int k) ..) (by rw [vw_int, vw_int, eqI]; rfl))
  have nl4 : ∀ s, mTv (mOp (gLNil true) (mVar 4) (mLst mNil)) lo s = .ok (!ms.isEmpty, s) := fun s => by have := nilT (neg := true) (v4 s); rw [isEmpty_map] at this; exact this
  have nl5 : mTv (mOp (gLNil true) (mVar 5) (mLst mNil)) lo s3 = .ok (!hi.isEmpty, s3) := by have := nilT (neg := true) (v5 s3); rw [isEmpty_map] at this; exact this
  have kept : ∀ (ms' : List FL.Move) (d : MV) (st' : Sto), st'[s]? = some (stM ms hi) → At pl st' n j ms' (hi ++ [(d, ms)]) → Mod [n, j] s3 st' → st'.length = s3.length →
      gT 2 (gsCons (gPutIx (mVar 3) (mC (.int 0))) (gsCons (gN 9) gsNil)) (.tup [.lst (ms'.map mM), d]) lo st' = .ok (lo.set 9 (fz d), st'.set s (.lst [.lst (ms'.map mM), .lst (hi.map recM)])) ∧
      ∃ st2, sPutIx (mOp gAdd (mVar 5) (mLst (mCons (mTup (mCons (mVar 9) (mCons (mVar 4) mNil))) mNil))) (mVar 3) (mC (.int 1)) (lo.set 9 (fz d)) (st'.set s (.lst [.lst (ms'.map mM), .lst (hi.map recM)])) = .ok (.nx, lo.set 9 (fz d), st2) ∧
        At pl st2 n j ms' (hi ++ [(d, ms)]) ∧ st2[s]? = some (stM ms' (hi ++ [(d, ms)])) ∧ Mod [n, j, s] s3 st2 ∧ st2.length = s3.length := by
    intro ms' d st' hs' A M L
    have hl' : s < st'.length := by rw [L]; exact hsl
    refine ⟨?_, ?_⟩
    · rw [d_gT]
      show (gPutIx (mVar 3) (mC (.int 0)) (.lst (ms'.map mM)) lo st' >>= fun (lo1, st1) => gsCons (gN 9) gsNil [d] lo1 st1) = _
      rw [putIx v3 i0 hs' (by show 0 < 2; decide)]
      rfl
    · generalize hlo2 : lo.set 9 (fz d) = lo2
      have w3 : ∀ st, mVar 3 lo2 st = .ok (.ref s, .fz, st) := fun _ => by rw [← hlo2, ← hlo]; rfl
      have w4 : ∀ s, mVar 4 lo2 s = .ok (.lst (ms.map mM), .fz, s) := fun _ => by rw [← hlo2, ← hlo]; rfl
      have w5 : ∀ s, mVar 5 lo2 s = .ok (.lst (hi.map recM), .fz, s) := fun _ => by rw [← hlo2, ← hlo]; rfl
      have w9 : ∀ s, mVar 9 lo2 s = .ok (d, .fz, s) := fun _ => by rw [← hlo2, ← hlo]; rfl
      have c1 : (st'.set s (.lst [.lst (ms'.map mM), .lst (hi.map recM)]))[s]? = some (.lst [.lst (ms'.map mM), .lst (hi.map recM)]) := List.getElem?_set_self hl'
      have ap : mOp gAdd (mVar 5) (mLst (mCons (mTup (mCons (mVar 9) (mCons (mVar 4) mNil))) mNil)) lo2 (st'.set s (.lst [.lst (ms'.map mM), .lst (hi.map recM)])) = .ok (.lst ((hi ++ [(d, ms)]).map recM), .fr, st'.set s (.lst [.lst (ms'.map mM), .lst (hi.map recM)])) := by
        have := addL (w5 (st'.set s (.lst [.lst (ms'.map mM), .lst (hi.map recM)]))) (lst_ok (ms := [recM (d, ms)]) (cons_ok (k := .fr) (tup_ok (ms := [d, .lst (ms.map mM)]) (cons_ok (w9 _) rfl (cons_ok (w4 _) rfl nil_ok))) rfl nil_ok)) (by rw [List.length_map]; simp; omega)
        rw [List.map_append]
        exact this
      have pu : sPutIx (mOp gAdd (mVar 5) (mLst (mCons (mTup (mCons (mVar 9) (mCons (mVar 4) mNil))) mNil))) (mVar 3) (mC (.int 1)) lo2 (st'.set s (.lst [.lst (ms'.map mM), .lst (hi.map recM)])) = .ok (.nx, lo2, (st'.set s (.lst [.lst (ms'.map mM), .lst (hi.map recM)])).set s (stM ms' (hi ++ [(d, ms)]))) := by
        unfold sPutIx
        rw [ap]
        simp only [Res.ok_bind]
        show (mVar 3 lo2 _ >>= _) = _
        rw [w3]
        simp only [Res.ok_bind]
        show (match targetOf (.ref s) .fz lo2 _, MV.int 1 with | some (.lst xs), .int j => _ | _, _ => _) = _
        rw [show targetOf (.ref s) .fz lo2 (st'.set s (.lst [.lst (ms'.map mM), .lst (hi.map recM)])) = some (.lst [.lst (ms'.map mM), .lst (hi.map recM)]) from c1]
        rfl
      refine ⟨_, pu, ?_, ?_, ((M.up (by simp)).trans (Mod.set (by simp))).trans (Mod.set (by simp)), by rw [List.length_set, List.length_set]; exact L⟩
      · exact (A.mod (Mod.set (A := [s]) (by simp)) (by simp; exact Ne.symm ds.1) (by simp; exact Ne.symm ds.2)).mod (Mod.set (A := [s]) (by simp)) (by simp; exact Ne.symm ds.1) (by simp; exact Ne.symm ds.2)
      · exact List.getElem?_set_self (by rw [List.length_set]; exact hl')
  have hs' : ∀ {st'}, Mod [n, j] s3 st' → st'[s]? = some (stM ms hi) := fun M => M.at hs3 (by simp; exact ds)
  by_cases c1 : r = 0 ∧ hi ≠ []
  · obtain ⟨rfl, hne⟩ := c1
    obtain ⟨hi0, x, rfl⟩ : ∃ hi0 x, hi = hi0 ++ [x] := ⟨hi.dropLast, hi.getLast hne, (List.dropLast_concat_getLast _).symm⟩
    obtain ⟨d, ms0⟩ := x
    obtain ⟨s4, e4, A4, M4, L4⟩ := back_ok h3
    have hs4 := hs' M4
    have hl4 : s < s4.length := by rw [L4]; exact hsl
    have n1 : mUn gNeg (mC (.int 1)) lo s4 = .ok (.int (-1), .fz, s4) := rfl
    have em : (hi0 ++ [(d, ms0)]).map recM = hi0.map recM ++ [recM (d, ms0)] := by rw [List.map_append]; rfl
    have x1 : mOp gIx (mOp gIx (mVar 5) (mUn gNeg (mC (.int 1)))) (mC (.int 1)) lo s4 = .ok (.lst (ms0.map mM), .fz, s4) :=
      ixOk (xs := [d, .lst (ms0.map mM)]) (i := 1) (ixLk (v5 s4) n1 (by rw [em]; exact FL.atI_last _ _)) (d_mC (m := .int 1) ..) rfl
    have x2 : mSl (mVar 5) oNone (oSome (mUn gNeg (mC (.int 1)))) lo s4 = .ok (.lst (hi0.map recM), .fr, s4) := by
      unfold mSl oNone oSome
      rw [v5]
      simp only [Res.ok_bind]
      rw [n1]
      simp only [Res.ok_bind]
      rw [vw_lst, em]
      show giveOut (some (.lst (cutM (hi0.map recM ++ [recM (d, ms0)]) none (some (-1))), true)) s4 = _
      have : cutM (hi0.map recM ++ [recM (d, ms0)]) none (some (-1)) = hi0.map recM := by
        unfold cutM
        rw [HT.sIx_none, List.drop_zero, Nat.sub_zero]
        have : HT.sIx (hi0.map recM ++ [recM (d, ms0)]).length (hi0.map recM ++ [recM (d, ms0)]).length (some (-1)) = (hi0.map recM).length := by
          unfold HT.sIx
          rw [List.length_append]
          simp
          omega
        rw [this, List.take_left']
        rfl
      rw [this]; rfl
    have c1 : (s4.set s (.lst [.lst (ms0.map mM), .lst ((hi0 ++ [(d, ms0)]).map recM)]))[s]? = some (.lst [.lst (ms0.map mM), .lst ((hi0 ++ [(d, ms0)]).map recM)]) := List.getElem?_set_self hl4
    have p2 : gT 2 (gsCons (gPutIx (mVar 3) (mC (.int 0))) (gsCons (gPutIx (mVar 3) (mC (.int 1))) gsNil)) (.tup [.lst (ms0.map mM), .lst (hi0.map recM)]) lo s4 = .ok (lo, (s4.set s (.lst [.lst (ms0.map mM), .lst ((hi0 ++ [(d, ms0)]).map recM)])).set s (stM ms0 hi0)) := by
      rw [d_gT]
      show (gPutIx (mVar 3) (mC (.int 0)) (.lst (ms0.map mM)) lo s4 >>= fun (lo1, st1) => gsCons (gPutIx (mVar 3) (mC (.int 1))) gsNil [.lst (hi0.map recM)] lo1 st1) = _
      rw [putIx v3 i0 hs4 (by show 0 < 2; decide)]
      show (gPutIx (mVar 3) (mC (.int 1)) (.lst (hi0.map recM)) lo (s4.set s (.lst [.lst (ms0.map mM), .lst ((hi0 ++ [(d, ms0)]).map recM)])) >>= fun (lo1, st1) => gsNil [] lo1 st1) = _
      rw [putIx v3 i1 c1 (by show 1 < 2; decide)]
      rfl
    have b1 : sSeq (sExpr (mMeth "Live" "back" 1 M_Live_back (mVar 1) mNil))
      (sSeq (sAsg (mTup (mCons (mOp gIx (mOp gIx (mVar 5) (mUn gNeg (mC (.int 1)))) (mC (.int 1))) (mCons (mSl (mVar 5) oNone (oSome (mUn gNeg (mC (.int 1))))) mNil))) (gT 2 (gsCons (gPutIx (mVar 3) (mC (.int 0))) (gsCons (gPutIx (mVar 3) (mC (.int 1))) gsNil))))
      sRetN) lo s3 = .ok (.rt .non .fz, lo, (s4.set s (.lst [.lst (ms0.map mM), .lst ((hi0 ++ [(d, ms0)]).map recM)])).set s (stM ms0 hi0)) :=
      seq_ok (expr_ok (methC (ms := []) (b' := false) (v1 s3) rfl h3.a rfl nil_ok rfl e4)) (seq_ok (asg_ok (k := .fr) (tup_ok (ms := [.lst (ms0.map mM), .lst (hi0.map recM)]) (cons_ok x1 rfl (cons_ok x2 rfl nil_ok))) rfl p2) rfl)
    refine ⟨ms0, hi0, (s4.set s (.lst [.lst (ms0.map mM), .lst ((hi0 ++ [(d, ms0)]).map recM)])).set s (stM ms0 hi0), ⟨.rt .non .fz, lo, .inr rfl, ?_⟩, ?_, ?_, ?_, ?_, ?_, ?_, ?_⟩
    · refine seq_rt (if_tt ?_ b1)
      refine and_tt (st1 := s3) ((eqk 0 s3).trans (by simp)) (nl5.trans ?_)
      simp
    · exact (A4.mod (Mod.set (A := [s]) (by simp)) (by simp; exact Ne.symm ds.1) (by simp; exact Ne.symm ds.2)).mod (Mod.set (A := [s]) (by simp)) (by simp; exact Ne.symm ds.1) (by simp; exact Ne.symm ds.2)
    · exact List.getElem?_set_self (by rw [List.length_set]; exact hl4)
    · exact (hh9 (d, ms0) (by simp)).1
    · exact fun x hx => hh9 x (List.mem_append_left _ hx)
    · rw [List.length_append]; omega
    · exact ((M4.up (by simp)).trans (Mod.set (by simp))).trans (Mod.set (by simp))
    · rw [List.length_set, List.length_set]; exact L4
  · have t1 : mAnd (mTv (mOp (gEqB false) (mVar 7) (mC (.int 0)))) (mTv (mOp (gLNil true) (mVar 5) (mLst mNil))) lo s3 = .ok (false, s3) := by
      by_cases q : r = 0
      · have hn : hi = [] := Classical.byContradiction fun e => c1 ⟨q, e⟩
        refine and_tt (st1 := s3) ((eqk 0 s3).trans (by rw [decide_eq_true q])) (nl5.trans ?_)
        rw [hn]; rfl
      · exact and_ff ((eqk 0 s3).trans (by rw [decide_eq_false q]))
    have gl : mTv (mOp gGt (mCallB gLen (mCons (mVar 4) mNil)) (mC (.int 8))) lo s3 = .ok (decide (8 < ms.length), s3) := by
      have l : mCallB gLen (mCons (mVar 4) mNil) lo s3 = .ok (.int (ms.length : Nat), .fz, s3) := by
        rw [d_mCallB, d_mCons, v4]
        simp only [Res.ok_bind, d_mNil, List.map_cons, List.map_nil, vw_lst, d_gLenL, d_give0, List.length_map]
      refine tv_ok (k := .fz) (opV l (d_mC (m := .int 8) ..) ?_)
      rw [vw_int, vw_int, d_gGt]
      congr 3
      by_cases q : 8 < ms.length
      · rw [decide_eq_true q, decide_eq_true (by omega)]
      · rw [decide_eq_false q, decide_eq_false (by omega)]
    have hal : ms ≠ [] → a < ms.length := fun hne => by
      have : 0 < ms.length := List.length_pos_iff.mpr hne
      have e : max 1 ms.length = ms.length := by omega
      rw [e] at aB
      omega
    have il : ∀ s, mOp gAdd (mVar 8) (mC (.int 1)) lo s = .ok (.int ((a + 1 : Nat) : Int), .fz, s) := fun s => opV (v8 s) (d_mC (m := .int 1) ..) rfl
    have ends : ∀ (ms' : List FL.Move) (d : MV) (s4 s5 : Sto) (G : SF), At pl s4 n j ms' (hi ++ [(d, ms)]) → Mod [n, j] s3 s4 → s4.length = s3.length → ms'.length ≤ 9 → Dd d →
        (gT 2 (gsCons (gPutIx (mVar 3) (mC (.int 0))) (gsCons (gN 9) gsNil)) (.tup [.lst (ms'.map mM), d]) lo s4 = .ok (lo.set 9 (fz d), s4.set s (.lst [.lst (ms'.map mM), .lst (hi.map recM)])) → G lo s3 = .ok (.nx, lo.set 9 (fz d), s4.set s (.lst [.lst (ms'.map mM), .lst (hi.map recM)]))) →
        ∃ ms' hi' st', (∃ fl lo', (fl = .nx ∨ fl = .rt .non .fz) ∧ sSeq G (sPutIx (mOp gAdd (mVar 5) (mLst (mCons (mTup (mCons (mVar 9) (mCons (mVar 4) mNil))) mNil))) (mVar 3) (mC (.int 1))) lo s3 = .ok (fl, lo', st')) ∧ At pl st' n j ms' hi' ∧ st'[s]? = some (stM ms' hi') ∧ ms'.length ≤ 9 ∧ (∀ x, x ∈ hi' → x.2.length ≤ 9 ∧ Dd x.1) ∧ hi'.length ≤ hi.length + 1 ∧ Mod [n, j, s] s3 st' ∧ st'.length = s3.length := by
      intro ms' d s4 s5 G A M L l9 dd hG
      obtain ⟨k1, s6, k2, k3, k4, k5, k6⟩ := kept ms' d s4 (hs' M) A M L
      refine ⟨ms', hi ++ [(d, ms)], s6, ⟨.nx, _, .inl rfl, seq_ok (hG k1) k2⟩, k3, k4, l9, fun x hx => ?_, by rw [List.length_append]; exact Nat.le_refl _, k5, k6⟩
      rcases List.mem_append.mp hx with q | q
      · exact hh9 x q
      · rw [List.mem_singleton] at q; subst q; exact ⟨h9, dd⟩
    by_cases c2 : (r = 1 ∧ ms ≠ []) ∨ 8 < ms.length
    · have hne : ms ≠ [] := by
        rcases c2 with c | c
        · exact c.2
        · exact List.length_pos_iff.mp (by omega)
      have al := hal hne
      have t2 : mOr (mAnd (mTv (mOp (gEqB false) (mVar 7) (mC (.int 1)))) (mTv (mOp (gLNil true) (mVar 4) (mLst mNil)))) (mTv (mOp gGt (mCallB gLen (mCons (mVar 4) mNil)) (mC (.int 8)))) lo s3 = .ok (true, s3) := by
        have e4 : (!ms.isEmpty) = true := by cases ms with
          | nil => exact absurd rfl hne
          | cons _ _ => rfl
        by_cases q : r = 1
        · exact or_tt (and_tt (st1 := s3) ((eqk 1 s3).trans (by rw [decide_eq_true q])) ((nl4 s3).trans (by rw [e4])))
        · exact or_ff (and_ff ((eqk 1 s3).trans (by rw [decide_eq_false q]))) (gl.trans (by rw [decide_eq_true (c2.resolve_left fun z => q z.1)]))
      obtain ⟨s4, e4, A4, M4, L4⟩ := drop_ok h3 (by omega) al
      refine Exists.imp (fun ms' => Exists.imp fun hi' => Exists.imp fun st' => And.imp_left fun ⟨fl, lo', hf, e⟩ => ⟨fl, lo', hf, seq_ok (if_ff t1 (d_sNil ..)) e⟩) (ends (dropL ms a) (dropD a) s4 s4 _ A4 M4 L4 (by rw [List.length_append, List.length_take, List.length_drop]; omega) (dd_drop (by omega)) fun kk => if_tt t2 (seq_ok (expr_ok (methC (ms := [.int (a : Nat)]) (b' := false) (v1 s3) rfl h3.a rfl (cons_ok (v8 s3) rfl nil_ok) rfl e4)) (asg_ok (k := .fr) (tup_ok (ms := [.lst ((dropL ms a).map mM), dropD a]) (cons_ok (k := .fr) ?_ rfl (cons_ok (k := .fr) (tup_ok (ms := [.str "drop", .int (a : Nat)]) (cons_ok (d_mC (m := .str "drop") ..) rfl (cons_ok (v8 s4) rfl nil_ok))) rfl nil_ok))) rfl kk)))
      · have ap := addL (sl_to (v4 s4) (v8 s4) (by rw [List.length_map]; omega)) (sl_from (v4 s4) (il s4) (by rw [List.length_map]; omega)) (by rw [List.length_take, List.length_drop, List.length_map]; omega)
        rw [show (ms.map mM).take a ++ (ms.map mM).drop (a + 1) = (dropL ms a).map mM by rw [List.map_append, List.map_take, List.map_drop]] at ap
        exact ap
    · have n8 : ¬ 8 < ms.length := fun z => c2 (.inr z)
      have t2 : mOr (mAnd (mTv (mOp (gEqB false) (mVar 7) (mC (.int 1)))) (mTv (mOp (gLNil true) (mVar 4) (mLst mNil)))) (mTv (mOp gGt (mCallB gLen (mCons (mVar 4) mNil)) (mC (.int 8)))) lo s3 = .ok (false, s3) := by
        have lo1 : mAnd (mTv (mOp (gEqB false) (mVar 7) (mC (.int 1)))) (mTv (mOp (gLNil true) (mVar 4) (mLst mNil))) lo s3 = .ok (false, s3) := by
          by_cases q : r = 1
          · have hn : ms = [] := Classical.byContradiction fun e => c2 (.inl ⟨q, e⟩)
            refine and_tt (st1 := s3) ((eqk 1 s3).trans (by rw [decide_eq_true q])) ((nl4 s3).trans ?_)
            rw [hn]; rfl
          · exact and_ff ((eqk 1 s3).trans (by rw [decide_eq_false q]))
        exact or_ff lo1 (gl.trans (by rw [decide_eq_false n8]))
      by_cases c3 : r = 2 ∧ ms ≠ []
      · have al := hal c3.2
        have t3 : mAnd (mTv (mOp (gEqB false) (mVar 7) (mC (.int 2)))) (mTv (mOp (gLNil true) (mVar 4) (mLst mNil))) lo s3 = .ok (true, s3) := by
          have e4 : (!ms.isEmpty) = true := by
            have := c3.2
            cases ms with
            | nil => exact absurd rfl this
            | cons _ _ => rfl
          exact and_tt (st1 := s3) ((eqk 2 s3).trans (by rw [decide_eq_true c3.1])) ((nl4 s3).trans (by rw [e4]))
        obtain ⟨s4, e4, A4, M4, L4⟩ := change_ok h3 (by omega) al hzo
        refine Exists.imp (fun ms' => Exists.imp fun hi' => Exists.imp fun st' => And.imp_left fun ⟨fl, lo', hf, e⟩ => ⟨fl, lo', hf, seq_ok (if_ff t1 (d_sNil ..)) e⟩) (ends (changeL ms a z) (changeD a z) s4 s4 _ A4 M4 L4 (by rw [List.length_append, List.length_append, List.length_take, List.length_drop]; simp; omega) (dd_change h3.g.pl (by omega) hzo) fun kk => if_ff t2 (if_tt t3 (seq_ok (expr_ok (methC (ms := [.int (a : Nat), mM z]) (b' := false) (v1 s3) rfl h3.a rfl (cons_ok (v8 s3) rfl (cons_ok (v6 s3) rfl nil_ok)) rfl e4)) (asg_ok (k := .fr) (tup_ok (ms := [.lst ((changeL ms a z).map mM), changeD a z]) (cons_ok (k := .fr) ?_ rfl (cons_ok (k := .fr) (tup_ok (ms := [.str "change", .int (a : Nat), mM z]) (cons_ok (d_mC (m := .str "change") ..) rfl (cons_ok (v8 s4) rfl (cons_ok (v6 s4) rfl nil_ok)))) rfl nil_ok))) rfl kk))))
        · have ap := addL (addL (sl_to (v4 s4) (v8 s4) (by rw [List.length_map]; omega)) (lst_ok (ms := [mM z]) (cons_ok (v6 s4) rfl nil_ok)) (by rw [List.length_take, List.length_map]; simp; omega)) (sl_from (v4 s4) (il s4) (by rw [List.length_map]; omega)) (by rw [List.length_append, List.length_take, List.length_drop, List.length_map]; simp; omega)
          rw [show (ms.map mM).take a ++ [mM z] ++ (ms.map mM).drop (a + 1) = (changeL ms a z).map mM by rw [List.map_append, List.map_append, List.map_take, List.map_drop]; rfl] at ap
          exact ap
      · have t3 : mAnd (mTv (mOp (gEqB false) (mVar 7) (mC (.int 2)))) (mTv (mOp (gLNil true) (mVar 4) (mLst mNil))) lo s3 = .ok (false, s3) := by
          by_cases q : r = 2
          · have hn : ms = [] := Classical.byContradiction fun e => c3 ⟨q, e⟩
            refine and_tt (st1 := s3) ((eqk 2 s3).trans (by rw [decide_eq_true q])) ((nl4 s3).trans ?_)
            rw [hn]; rfl
          · exact and_ff ((eqk 2 s3).trans (by rw [decide_eq_false q]))
        obtain ⟨s4, e4, A4, M4, L4⟩ := add_ok h3 (by omega) hzo (by omega)
        refine Exists.imp (fun ms' => Exists.imp fun hi' => Exists.imp fun st' => And.imp_left fun ⟨fl, lo', hf, e⟩ => ⟨fl, lo', hf, seq_ok (if_ff t1 (d_sNil ..)) e⟩) (ends (ms ++ [z]) (addD z) s4 s4 _ A4 M4 L4 (by rw [List.length_append]; simp; omega) (dd_add h3.g.pl hzo) fun kk => if_ff t2 (if_ff t3 (seq_ok (expr_ok (methC (ms := [mM z]) (b' := false) (v1 s3) rfl h3.a rfl (cons_ok (v6 s3) rfl nil_ok) rfl e4)) (asg_ok (k := .fr) (tup_ok (ms := [.lst ((ms ++ [z]).map mM), addD z]) (cons_ok (k := .fr) ?_ rfl (cons_ok (k := .fr) (tup_ok (ms := [.str "add", mM z]) (cons_ok (d_mC (m := .str "add") ..) rfl (cons_ok (v6 s4) rfl nil_ok))) rfl nil_ok))) rfl kk))))
        · have ap := addL (v4 s4) (lst_ok (ms := [mM z]) (cons_ok (v6 s4) rfl nil_ok)) (by rw [List.length_map]; simp; omega)
          rw [show ms.map mM ++ [mM z] = (ms ++ [z]).map mM by rw [List.map_append]; rfl] at ap
          exact ap
end
end W66
namespace W66
open PySem L2 PySem.Spec PyProof.Rows FW FL
structure Rc where
  n : Nat
  j : Nat
  s : Nat
  ms : List FL.Move
  hi : Hist
def Rc.ads (r : Rc) : List Nat := [r.n, r.j, r.s]
structure Lv (pl : List Str) (st : Sto) (r : Rc) : Prop where
  a : At pl st r.n r.j r.ms r.hi
  s : st[r.s]? = some (stM r.ms r.hi)
  l9 : r.ms.length ≤ 9
  h9 : ∀ x, x ∈ r.hi → x.2.length ≤ 9 ∧ Dd x.1
structure All (pl : List Str) (st : Sto) (L S : Nat) (rs : List Rc) (K : Nat) : Prop where
  lv : st[L]? = some (.lst (rs.map fun r => .ref r.n))
  sv : st[S]? = some (.lst (rs.map fun r => .ref r.s))
  one : ∀ r, r ∈ rs → Lv pl st r
  ls : L ≠ S
  out : ∀ r, r ∈ rs → L ∉ r.ads ∧ S ∉ r.ads ∧ r.s ≠ r.n ∧ r.s ≠ r.j
  dis : ∀ (i k : Nat) r1 r2, rs[i]? = some r1 → rs[k]? = some r2 → i ≠ k → ∀ a, a ∈ r1.ads → a ∉ r2.ads
  hz : ∀ r, r ∈ rs → r.hi.length ≤ K
  l4 : rs.length ≤ 4
  l1 : 1 ≤ rs.length
theorem atI_n {α : Type} (xs : List α) {i : Nat} {x : α} (h : xs[i]? = some x) : atI xs (i : Int) = some x := by
  have hl := (List.getElem?_eq_some_iff.mp h).1
  unfold atI ixN
  rw [if_pos (by omega), if_pos (by omega)]
  simpa using h
theorem Lv.mod {pl : List Str} {st st' : Sto} {r : Rc} {A : List Nat} (h : Lv pl st r) (m : Mod A st st') (hn : ∀ a, a ∈ r.ads → a ∉ A) : Lv pl st' r :=
  ⟨h.a.mod m (hn _ (by simp [Rc.ads])) (hn _ (by simp [Rc.ads])), m.at h.s (hn _ (by simp [Rc.ads])), h.l9, h.h9⟩
section
variable {pl : List Str} {st : Sto} {L S K : Nat} {rs : List Rc}
theorem All.mod {st' : Sto} {A : List Nat} (h : All pl st L S rs K) (m : Mod A st st') (hn : ∀ a, a ∈ L :: S :: rs.flatMap Rc.ads → a ∉ A) : All pl st' L S rs K :=
  ⟨m.at h.lv (hn _ (by simp)), m.at h.sv (hn _ (by simp)), fun r hr => (h.one r hr).mod m fun a ha => hn a (List.mem_cons_of_mem _ (List.mem_cons_of_mem _ (List.mem_flatMap.mpr ⟨r, hr, ha⟩))), h.ls, h.out, h.dis, h.hz, h.l4, h.l1⟩
theorem All.live (h : All pl st L S rs K) {r : Rc} {i : Nat} (hr : rs[i]? = some r) {f g : EF} {lo : Lo} {k1 k2 : Kd} (hf : f lo st = .ok (.ref L, k1, st)) (hg : g lo st = .ok (.int (i : Nat), k2, st)) : mOp gIx f g lo st = .ok (.ref r.n, .fz, st) := by
  refine opV hf hg ?_
  rw [vw_at h.lv, vw_int]
  exact ixL (atI_n _ (by rw [List.getElem?_map, hr]; rfl))
theorem All.kept (h : All pl st L S rs K) {r : Rc} {i : Nat} (hr : rs[i]? = some r) {f g : EF} {lo : Lo} {k1 k2 : Kd} (hf : f lo st = .ok (.ref S, k1, st)) (hg : g lo st = .ok (.int (i : Nat), k2, st)) : mOp gIx f g lo st = .ok (.ref r.s, .fz, st) := by
  refine opV hf hg ?_
  rw [vw_at h.sv, vw_int]
  exact ixL (atI_n _ (by rw [List.getElem?_map, hr]; rfl))
theorem Lv.ms_ok {r : Rc} (h : Lv pl st r) {f : EF} {lo : Lo} {k1 : Kd} (hf : f lo st = .ok (.ref r.s, k1, st)) : mOp gIx f (mC (.int 0)) lo st = .ok (.lst (r.ms.map mM), .fz, st) := by
  refine opV hf (d_mC (m := .int 0) ..) ?_
  rw [vw_at h.s, vw_int]
  exact ixL (atI_0 _ _)
theorem Lv.hi_ok {r : Rc} (h : Lv pl st r) {f : EF} {lo : Lo} {k1 : Kd} (hf : f lo st = .ok (.ref r.s, k1, st)) : mOp gIx f (mC (.int 1)) lo st = .ok (.lst (r.hi.map recM), .fz, st) := by
  refine opV hf (d_mC (m := .int 1) ..) ?_
  rw [vw_at h.s, vw_int]
  exact ixL (atI_n (i := 1) _ rfl)
theorem lenLs {f : EF} {lo : Lo} {xs : List MV} {k : Kd} {m : MV} (h : f lo st = .ok (m, k, st)) (hv : vw st m = .lst xs) : mCallB gLen (mCons f mNil) lo st = .ok (.int (xs.length : Nat), .fz, st) := by
  rw [d_mCallB, d_mCons, h]
  cases k <;> simp only [Res.ok_bind, d_mNil, List.map_cons, List.map_nil, hv, d_gLenL, d_give0]
theorem listLs {f : EF} {lo : Lo} {xs : List MV} {k : Kd} {m : MV} (h : f lo st = .ok (m, k, st)) (hv : vw st m = .lst xs) : mCallB gListOf (mCons f mNil) lo st = .ok (.lst xs, .fr, st) := by
  rw [d_mCallB, d_mCons, h]
  simp only [Res.ok_bind, d_mNil, List.map_cons, List.map_nil, hv, d_gListL]
  rfl
theorem gd_mvs {n : Nat} (hp : PlG pl) {ms : List FL.Move} (hm : ∀ m, m ∈ ms → m.Ok pl) : gd (n + 3) (.lst (ms.map mM)) = true := gd_lst fun x hx => by
  obtain ⟨m, hm', rfl⟩ := List.mem_map.mp hx
  exact gd_mv hp (hm m hm')
theorem log_rgd {hi : Hist} (hh : ∀ x, x ∈ hi → Dd x.1) (hz : hi.length ≤ 1000) : rgd (.lst (hi.map (·.1))) = true := by
  refine rgd_of (gx_le (n := 9) (gx_lst fun x hx => ?_) (by decide)) ?_
  · obtain ⟨y, hy, rfl⟩ := List.mem_map.mp hx
    exact gd_gx (hh y hy).g
  · have := wts_le (xs := hi.map (·.1)) (b := 3700) fun x hx => by
      obtain ⟨y, hy, rfl⟩ := List.mem_map.mp hx
      exact (hh y hy).w
    rw [List.length_map] at this
    show wts (hi.map (·.1)) + 3 ≤ sizeLine
    have e : sizeLine = 16777216 := by decide +kernel
    have : (3700 + 2) * hi.length ≤ 3702 * 1000 := Nat.mul_le_mul_left _ hz
    omega
theorem eq_mvs {ms ms2 : List FL.Move} : eqM (.lst (ms.map mM)) (.lst (ms2.map mM)) = true → ms = ms2 := fun e => by
  have nbm : ∀ ms : List FL.Move, nb 3 (.lst (ms.map mM)) = true := fun ms => by
    refine List.all_eq_true.mpr fun x hx => ?_
    obtain ⟨m, _, rfl⟩ := List.mem_map.mp hx
    exact mM_nb
  have := eqM_inj 3 _ _ (nbm ms) (nbm ms2) e
  have e2 : ms.map mM = ms2.map mM := by injection this
  exact map_inj (fun a b => mM_inj) _ _ e2
abbrev LSh (L S : Nat) (pl : List Str) (t3 t4 t5 t6 : Option (MV × Bool)) : Lo := [fz (.ref L), fz (.lst (pl.map .str)), fz (.ref S), t3, t4, t5, t6, none]
theorem shows_pair (h : All pl st L S rs K) {r r2 : Rc} {i i2 : Nat} (hr : rs[i]? = some r) (hr2 : rs[i2]? = some r2) (t4 t6 : Option (MV × Bool)) :
    ∃ u6, b2_law_shows (LSh L S pl (fz (.int (i : Nat))) t4 (fz (.int (i2 : Nat))) t6) st = .ok (.nx, LSh L S pl (fz (.int (i : Nat))) t4 (fz (.int (i2 : Nat))) u6, st) := by
  have v1 := h.one r (List.mem_of_getElem? hr)
  have v2 := h.one r2 (List.mem_of_getElem? hr2)
  have g1 := gd_mvs (n := 9) v1.a.g.pl v1.a.g.mv
  have g2 := gd_mvs (n := 9) v2.a.g.pl v2.a.g.mv
  have same : mOp (gEqB false) (mOp gIx (mOp gIx (mVar 2) (mVar 3)) (mC (.int 0))) (mOp gIx (mOp gIx (mVar 2) (mVar 5)) (mC (.int 0))) (LSh L S pl (fz (.int (i : Nat))) t4 (fz (.int (i2 : Nat))) t6) st = .ok (.bl (eqM (.lst (r.ms.map mM)) (.lst (r2.ms.map mM))), .fz, st) := by
    refine opV (v1.ms_ok (k1 := .fz) (h.kept hr (f := mVar 2) (k1 := .fz) (k2 := .fz) rfl rfl)) (v2.ms_ok (k1 := .fz) (h.kept hr2 (f := mVar 2) (k1 := .fz) (k2 := .fz) rfl rfl)) ?_
    rw [vw_lst, vw_lst, eq_gd (gd_le g1 (by decide)) (gd_le g2 (by decide))]
    rfl
  have hq : eqM (.lst (r.ms.map mM)) (.lst (r2.ms.map mM)) = true ↔ (⟨pl, r.ms⟩ : Prog) = ⟨pl, r2.ms⟩ := by
    constructor
    · intro e; rw [eq_mvs e]
    · intro e
      have : r.ms = r2.ms := by injection e
      rw [this]; exact eqM_refl g2
  generalize eqM (.lst (r.ms.map mM)) (.lst (r2.ms.map mM)) = q at *
  refine ⟨fz (.bl q), seq_ok (set_ok (k := .fz) same rfl) ?_⟩
  show sIf _ _ _ (LSh L S pl (fz (.int (i : Nat))) t4 (fz (.int (i2 : Nat))) (fz (.bl q))) st = _
  have x1 : ∀ f g, f = mVar 0 → g = mVar 3 → mOp gIx f g (LSh L S pl (fz (.int (i : Nat))) t4 (fz (.int (i2 : Nat))) (fz (.bl q))) st = .ok (.ref r.n, .fz, st) := fun f g hf hg => h.live hr (k1 := .fz) (k2 := .fz) (by rw [hf]; rfl) (by rw [hg]; rfl)
  have x2 : mOp gIx (mVar 0) (mVar 5) (LSh L S pl (fz (.int (i : Nat))) t4 (fz (.int (i2 : Nat))) (fz (.bl q))) st = .ok (.ref r2.n, .fz, st) := h.live hr2 (k1 := .fz) (k2 := .fz) rfl rfl
  have hi1 : insOf "Live" "__eq__" (vw st (.ref r.n)) = true := by rw [vw_at v1.a.a]; rfl
  have hk2 : (knM "Live" (vw st (.ref r2.n)) || decM (vw st (.ref r2.n))) = true := by rw [vw_at v2.a.a]; rfl
  have F := eq_ok2 v1.a v2.a hq
  have l : mLst (mCons (mEqA false "Live" M_Live_eq (mOp gIx (mVar 0) (mVar 3)) (mOp gIx (mVar 0) (mVar 5))) (mCons (mEqA true "Live" M_Live_eq (mOp gIx (mVar 0) (mVar 3)) (mOp gIx (mVar 0) (mVar 5))) mNil)) (LSh L S pl (fz (.int (i : Nat))) t4 (fz (.int (i2 : Nat))) (fz (.bl q))) st = .ok (.lst [.bl q, .bl (!q)], .fr, st) :=
    lst_ok (ms := [.bl q, .bl (!q)]) (cons_ok (k := .fz) (eqA_l (neg := false) (x1 _ _ rfl rfl) rfl x2 rfl hi1 hk2 F) rfl (cons_ok (k := .fz) (eqA_l (neg := true) (x1 _ _ rfl rfl) rfl x2 rfl hi1 hk2 F) rfl nil_ok))
  have l2 : mLst (mCons (mVar 6) (mCons (mUn gNot (mVar 6)) mNil)) (LSh L S pl (fz (.int (i : Nat))) t4 (fz (.int (i2 : Nat))) (fz (.bl q))) st = .ok (.lst [.bl q, .bl (!q)], .fr, st) :=
    lst_ok (ms := [.bl q, .bl (!q)]) (cons_ok (f := mVar 6) (k := .fz) rfl rfl (cons_ok (f := mUn gNot (mVar 6)) (k := .fz) rfl rfl nil_ok))
  exact if_ff (tv_ok (k := .fz) (eq_reprs (neg := true) l l2 (by cases q <;> decide +kernel))) (d_sNil ..)
theorem shows_one (h : All pl st L S rs K) (hK : K ≤ 1000) {r : Rc} {i : Nat} (hr : rs[i]? = some r) (t4 t5 t6 : Option (MV × Bool)) :
    ∃ u4 u5 u6, b1_law_shows (LSh L S pl (fz (.int (i : Nat))) t4 t5 t6) st = .ok (.nx, LSh L S pl (fz (.int (i : Nat))) u4 u5 u6, st) := by
  have rm := List.mem_of_getElem? hr
  have v := h.one r rm
  have hzr := h.hz r rm
  have pg : PG ⟨pl, r.ms⟩ := v.a.g
  have e4 := set_ok (i := 4) (k := .fr) (f := mCall 2 M_Program_init [] (mCons (mCallB gListOf (mCons (mVar 1) mNil)) (mCons (mCallB gListOf (mCons (mOp gIx (mOp gIx (mVar 2) (mVar 3)) (mC (.int 0))) mNil)) mNil))) (lo := LSh L S pl (fz (.int (i : Nat))) t4 t5 t6) (st := st)
    (callV (ms := [.lst (plM ⟨pl, r.ms⟩), .lst (mvM ⟨pl, r.ms⟩)]) (b := true) (st1 := st) (cons_ok (k := .fr) (listLs (f := mVar 1) (k := .fz) (m := .lst (pl.map .str)) rfl rfl) rfl (cons_ok (k := .fr) (listLs (k := .fz) (v.ms_ok (k1 := .fz) (h.kept hr (f := mVar 2) (k1 := .fz) (k2 := .fz) rfl rfl)) rfl) rfl nil_ok)) rfl (makeP pg st)) rfl
  have e4' : sSet 4 (mCall 2 M_Program_init [] (mCons (mCallB gListOf (mCons (mVar 1) mNil)) (mCons (mCallB gListOf (mCons (mOp gIx (mOp gIx (mVar 2) (mVar 3)) (mC (.int 0))) mNil)) mNil))) (LSh L S pl (fz (.int (i : Nat))) t4 t5 t6) st = .ok (.nx, LSh L S pl (fz (.int (i : Nat))) (fz (progM ⟨pl, r.ms⟩)) t5 t6, st) := e4
  generalize hlo : LSh L S pl (fz (.int (i : Nat))) (fz (progM ⟨pl, r.ms⟩)) t5 t6 = lo at e4'
  have w0 : mVar 0 lo st = .ok (.ref L, .fz, st) := by rw [← hlo]; rfl
  have w2 : mVar 2 lo st = .ok (.ref S, .fz, st) := by rw [← hlo]; rfl
  have w3 : mVar 3 lo st = .ok (.int (i : Nat), .fz, st) := by rw [← hlo]; rfl
  have w4 : mVar 4 lo st = .ok (progM ⟨pl, r.ms⟩, .fz, st) := by rw [← hlo]; rfl
  have x0 := h.live hr w0 w3
  have x2 := h.kept hr w2 w3
  have c1 : mTv (mEqA true "Program" M_Program_eq (mMeth "Live" "shown" 1 M_Live_shown (mOp gIx (mVar 0) (mVar 3)) mNil) (mVar 4)) lo st = .ok (false, st) :=
    tv_ok (k := .fz) (eqA_l (neg := true) (methC (ms := []) (b' := true) x0 rfl v.a.a rfl nil_ok rfl (shown_ok v.a)) rfl w4 rfl (insP _ st) rfl (pEq_same pg))
  have c2 : mTv (mOp (gEqB true) (mLenI "Live" M_Live_len (mOp gIx (mVar 0) (mVar 3))) (mCallB gLen (mCons (mOp gIx (mOp gIx (mVar 2) (mVar 3)) (mC (.int 0))) mNil))) lo st = .ok (false, st) := by
    have l2 := lenLs (v.ms_ok x2) (vw_lst ..)
    rw [List.length_map] at l2
    refine tv_ok (k := .fz) (opV (lenI_ok x0 rfl (by rw [vw_at v.a.a]; rfl) (len_ok v.a) (by omega) (by have := v.l9; omega)) l2 ?_)
    rw [vw_int, eqI]
    simp
  have c3 : mTv (mOp (gEqB true) (mCallB gRepr (mCons (mMeth "Live" "log" 1 M_Live_log (mOp gIx (mVar 0) (mVar 3)) mNil) mNil)) (mCallB gRepr (mCons (mLc [7] (iSeq (mOp gIx (mOp gIx (mVar 2) (mVar 3)) (mC (.int 1)))) (gN 7) tYesM (mOp gIx (mVar 7) (mC (.int 0)))) mNil))) lo st = .ok (false, st) := by
    have lc := lc_filterX (vs := [7]) (tt := tYesM) (p := fun _ => true) (ck := ckT) (fi := iSeq (mOp gIx (mOp gIx (mVar 2) (mVar 3)) (mC (.int 1)))) (gf := gN 7) (fe := mOp gIx (mVar 7) (mC (.int 0))) (lo := lo) (st := st) (items := r.hi.map recM) (f := fun x => match x with | .tup [d, _] => d | _ => .non) (by rw [← hlo]; rfl) (iSeq_ok (v.hi_ok x2) rfl) trivial (by rw [List.length_map]; exact sz (by omega)) (fun x hx => by
        obtain ⟨y, hy, rfl⟩ := List.mem_map.mp hx
        subst hlo
        exact ⟨_, rfl, rfl, fun _ => ⟨.fz, opV (a := recM y) (b := .int 0) (ka := .fz) (st1 := st) rfl (d_mC (m := .int 0) ..) rfl, rfl⟩⟩)
    rw [List.filter_eq_self.mpr (fun _ _ => rfl)] at lc
    have em : (r.hi.map recM).map (fun x => match x with | .tup [d, _] => d | _ => .non) = r.hi.map (·.1) := by rw [List.map_map]; rfl
    rw [em] at lc
    exact tv_ok (k := .fz) (eq_reprs (neg := true) (methC (ms := []) (b' := true) x0 rfl v.a.a rfl nil_ok rfl (log_ok v.a (by omega))) lc (log_rgd (fun x hx => (v.h9 x hx).2) (by omega)))
  have fo : ∃ u5 u6, sFor (iRg1 (mCallB gLen (mCons (mVar 0) mNil))) (gN 5) b2_law_shows lo st = .ok (.nx, LSh L S pl (fz (.int (i : Nat))) (fz (progM ⟨pl, r.ms⟩)) u5 u6, st) := by
    have l0 := lenLs w0 (vw_at h.lv)
    rw [List.length_map] at l0
    obtain ⟨lo', e, u5, u6, hlo'⟩ := for_lo (gf := gN 5) (body := b2_law_shows) (st := st) (I := fun lo => ∃ u5 u6, lo = LSh L S pl (fz (.int (i : Nat))) (fz (progM ⟨pl, r.ms⟩)) u5 u6) (rgM 0 (rs.length : Nat)) lo (fun x hx lo1 ⟨u5, u6, hl⟩ => by
        subst hl
        obtain ⟨k, hk⟩ := List.mem_iff_getElem?.mp hx
        obtain ⟨hxe, hkl⟩ := rgM_get hk
        have hkl' : k < rs.length := by omega
        obtain ⟨w6, e⟩ := shows_pair h hr (r2 := rs[k]) (i2 := k) (List.getElem?_eq_getElem hkl') (fz (progM ⟨pl, r.ms⟩)) u6
        rw [hxe, Int.zero_add]
        exact ⟨_, _, rfl, e, _, _, rfl⟩) ⟨t5, t6, hlo.symm⟩
    subst hlo'
    exact ⟨u5, u6, for_ok (iRg1_ok (k := .fz) l0 (by unfold Rg62; have := h.l4; omega)) e⟩
  obtain ⟨u5, u6, fo⟩ := fo
  exact ⟨_, u5, u6, seq_ok e4' (seq_ok (if_ff (or_ff c1 c2) (d_sNil ..)) (seq_ok (if_ff c3 (d_sNil ..)) fo))⟩
theorem shows_ok (h : All pl st L S rs K) (hK : K ≤ 1000) : M_law_shows [.ref L, .lst (pl.map .str), .ref S] st = .ok (.bl true, false, st) := by
  have l0 := lenLs (f := mVar 0) (lo := LSh L S pl none none none none) (st := st) (k := .fz) (m := .ref L) rfl (vw_at h.lv)
  rw [List.length_map] at l0
  obtain ⟨lo', e, _⟩ := for_lo (gf := gN 3) (body := b1_law_shows) (st := st) (I := fun lo => ∃ u3 u4 u5 u6, lo = LSh L S pl u3 u4 u5 u6) (rgM 0 (rs.length : Nat)) (LSh L S pl none none none none) (fun x hx lo1 ⟨u3, u4, u5, u6, hl⟩ => by
      subst hl
      obtain ⟨k, hk⟩ := List.mem_iff_getElem?.mp hx
      obtain ⟨hxe, hkl⟩ := rgM_get hk
      have hkl' : k < rs.length := by omega
      obtain ⟨w4, w5, w6, e⟩ := shows_one h hK (r := rs[k]) (i := k) (List.getElem?_eq_getElem hkl') u4 u5 u6
      rw [hxe, Int.zero_add]
      exact ⟨_, _, rfl, e, _, _, _, _, rfl⟩) ⟨none, none, none, none, rfl⟩
  unfold M_law_shows g_law_shows
  exact runF_own (k := .fz) (lo0 := LSh L S pl none none none none) rfl (seq_ok (for_ok (iRg1_ok (k := .fz) l0 (by unfold Rg62; have := h.l4; omega)) e) (ret_ok (d_mC (m := .bl true) ..))) rfl
end
end W66
namespace W66
open PySem L2 PySem.Spec PyProof.Rows FW FL
theorem methX {cls name : Str} {n b : Nat} {M : FF} {lo lo' : Lo} {st0 st st1 st2 : Sto} {fo : EF} {g : AF} {ms : List MV} {c fs} {F : List (Str × MV)} {k : Kd} (ho : fo lo st0 = .ok (.ref b, k, st)) (hk : isPk k = false) (hs : st[b]? = some (.ins cls F)) (hn : F.lookup name = none) (hg : g lo st = .ok (ms.map (·, false), st1)) (hl : ms.length + 1 = n) (hm : M (.ref b :: ms) st1 = .exc c fs lo' st2) : mMeth cls name n M fo g lo st0 = .exc c fs lo st2 := by
  rw [d_mMeth, ho]
  simp only [Res.ok_bind]
  rw [vw_at hs, if_pos ⟨hk, by rw [d_insOf, hn]; simp⟩, hg]
  simp only [Res.ok_bind, hk]
  have e : (MV.ref b, false) :: ms.map (·, false) = (MV.ref b :: ms).map (·, false) := rfl
  rw [e]
  unfold callF
  rw [show allFz ((MV.ref b :: ms).map (·, false)) = some (MV.ref b :: ms) from allFzC _]
  dsimp only
  rw [if_pos (by simp; omega)]
  unfold callR
  rw [List.append_nil, hm]
section
variable {pl : List Str} {st : Sto} {n j s : Nat} {ms : List FL.Move} {hi : Hist}
theorem backN_no (h : At pl st n j ms []) : ∃ lo, M_Live_backN [.ref n] st = .exc "NothingToUndo" [] lo st := by
  have hp := h.past (fo := mVar 0) (lo := [fz (.ref n), none]) (st0 := st) (k := .fz) rfl
  have hb := h.b
  refine ⟨[fz (.ref n), none], ?_⟩
  unfold M_Live_backN g_Live_backN
  refine runF_exc (lo0 := [fz (.ref n), none]) rfl (seq_exc (if_tt (tv_ok (k := .fz) (opV hp (lst_ok (ms := []) nil_ok) ?_)) rfl))
  rw [vw_at hb, vw_lst]
  rfl
theorem logH_ok (h : At pl st n j ms []) : M_Live_logH [.ref n] st = .ok (.lst [], true, st) := by
  have hp := h.past (fo := mVar 0) (lo := [fz (.ref n), none, none]) (st0 := st) (k := .fz) rfl
  unfold M_Live_logH g_Live_logH
  exact runF_own (k := .fr) (lo0 := [fz (.ref n), none, none]) rfl (ret_ok (lc0_ok hp (vw_at h.b))) rfl
abbrev LU (n s : Nat) (t2 t3 : Option (MV × Bool)) : Lo := [fz (.ref n), fz (.ref s), t2, t3]
theorem undone_loop : ∀ (xs : Hist) (st : Sto) (ms : List FL.Move) (t2 t3 : Option (MV × Bool)), At pl st n j ms xs.reverse →
    ∃ u2 u3 st' ms', forL ckT (gT 2 (gsCons (gN 2) (gsCons (gN 3) gsNil))) b1_law_undone (xs.map recM) (LU n s t2 t3) st = .ok (.nx, LU n s u2 u3, st') ∧ At pl st' n j ms' [] ∧ Mod [n, j] st st'
  | [], st, ms, t2, t3, h => ⟨t2, t3, st, ms, forL_end, h, .refl⟩
  | (d, m0) :: xs, st, ms, t2, t3, h => by
    rw [List.reverse_cons] at h
    obtain ⟨s1, e1, A1, M1, _⟩ := back_ok h
    obtain ⟨u2, u3, s2, ms', e2, A2, M2⟩ := undone_loop xs s1 m0 (fz d) (fz (.lst (m0.map mM))) A1
    refine ⟨u2, u3, s2, ms', forL_nx (lo1 := LU n s (fz d) (fz (.lst (m0.map mM)))) (st1 := st) rfl (seq_ok (expr_ok (methC (ms := []) (b' := false) (k := .fz) rfl rfl h.a rfl nil_ok rfl e1)) (if_ff (tv_ok (k := .fz) (opV (moves_m (P := ⟨pl, m0⟩) (methC (ms := []) (b' := true) (k := .fz) (st := s1) rfl rfl A1.a rfl nil_ok rfl (shown_ok A1)) rfl) (d_mVar (i := 3) ..) ?_)) (d_sNil ..))) e2, A2, M1.trans M2⟩
    exact eq_self (neg := true) (gd_le (gd_mvs (n := 5) A1.g.pl A1.g.mv) (by decide)) s1
theorem undone_ok (h : At pl st n j ms hi) (hs : st[s]? = some (stM ms hi)) : ∃ st', M_law_undone [.ref n, .ref s] st = .ok (.bl true, false, st') ∧ Mod [n, j] st st' := by
  have x1 : mOp gIx (mVar 1) (mC (.int 1)) (LU n s none none) st = .ok (.lst (hi.map recM), .fz, st) := by
    refine opV (ka := .fz) (a := .ref s) rfl (d_mC (m := .int 1) ..) ?_
    rw [vw_at hs, vw_int]
    exact ixL (atI_n (i := 1) _ rfl)
  have rv : mRev (mOp gIx (mVar 1) (mC (.int 1))) (LU n s none none) st = .ok (.lst (hi.reverse.map recM), .fr, st) := by
    unfold mRev
    rw [x1]
    simp only [Res.ok_bind]
    rw [vw_lst, List.map_reverse]
  obtain ⟨u2, u3, s1, ms', e, A, M⟩ := undone_loop (s := s) hi.reverse st ms none none (by rw [List.reverse_reverse]; exact h)
  obtain ⟨lo', eb⟩ := backN_no A
  have t1 : sExpr (mMeth "Live" "back" 1 M_Live_backN (mVar 0) mNil) (LU n s u2 u3) s1 = .exc "NothingToUndo" [] (LU n s u2 u3) s1 := by
    have := methX (cls := "Live") (name := "back") (n := 1) (fo := mVar 0) (g := mNil) (lo := LU n s u2 u3) (ms := []) (k := .fz) rfl rfl A.a rfl nil_ok rfl eb
    unfold sExpr
    rw [this]; rfl
  have t2 : sRet (mOp (gLNil false) (mMeth "Live" "log" 1 M_Live_logH (mVar 0) mNil) (mLst mNil)) (LU n s u2 u3) s1 = .ok (.rt (.bl true) .fz, LU n s u2 u3, s1) :=
    ret_ok (opV (methC (ms := []) (b' := true) (k := .fz) rfl rfl A.a rfl nil_ok rfl (logH_ok A)) (lst_ok (ms := []) nil_ok) rfl)
  have t3 : sTry2 (inB ["NothingToUndo"]) (sExpr (mMeth "Live" "back" 1 M_Live_backN (mVar 0) mNil)) (sRet (mOp (gLNil false) (mMeth "Live" "log" 1 M_Live_logH (mVar 0) mNil) (mLst mNil))) (LU n s u2 u3) s1 = .ok (.rt (.bl true) .fz, LU n s u2 u3, s1) := by
    unfold sTry2
    rw [t1]
    show (if inB ["NothingToUndo"] "NothingToUndo" = true then noExc _ else .bad) = _
    rw [if_pos (by unfold inB; decide), t2]
    rfl
  refine ⟨s1, ?_, M⟩
  unfold M_law_undone g_law_undone
  exact runF_own (k := .fz) (lo0 := LU n s none none) rfl (seq_ok (for_ok (iSeq_ok rv rfl) e) (seq_rt t3)) rfl
end
abbrev UP : List Str := ["up"]
abbrev zU : FL.Move := ⟨"up", 0, 0, "up"⟩
theorem okUp : FL.Prog.Ok ⟨UP, []⟩ := ⟨⟨1, by decide, by decide, .inr rfl⟩, fun m hm => (nomatch hm), by show 0 ≤ 10; decide⟩
theorem pgUp : PG ⟨UP, []⟩ := PG.of okUp (NM_of ⟨1, by decide, by decide, .inr rfl⟩)
theorem zU_ok : zU.Ok UP := ⟨by decide, by decide, by decide, by decide, by decide, by decide, by decide, by decide⟩
def pairH : Hist := [(addD zU, []), (dropD 0, [zU])]
def hiU (k : Nat) : Hist := (List.replicate k pairH).flatten
theorem hiU_len (k : Nat) : (hiU k).length = 2 * k := by
  unfold hiU
  induction k with
  | zero => rfl
  | succ k ih => rw [List.replicate_succ, List.flatten_cons, List.length_append, ih]; show 2 + 2 * k = _; omega
theorem hiU_succ (k : Nat) : hiU (k + 1) = hiU k ++ pairH := by
  unfold hiU
  rw [List.replicate_succ', List.flatten_append]
  simp
theorem hiU_log (k : Nat) : (hiU k).map (·.1) = (List.replicate k [addD zU, dropD 0]).flatten := by
  unfold hiU
  induction k with
  | zero => rfl
  | succ k ih => rw [List.replicate_succ, List.flatten_cons, List.map_append, ih, List.replicate_succ, List.flatten_cons]; rfl
def backH (k : Nat) : Hist := if k % 2 = 0 then hiU (75 - k / 2) else hiU (75 - k / 2 - 1) ++ [(addD zU, [])]
def backM (k : Nat) : List FL.Move := if k % 2 = 0 then [] else [zU]
theorem back_step {k : Nat} (hk : k < 150) : ∃ d, backH k = backH (k + 1) ++ [(d, backM (k + 1))] := by
  unfold backH backM
  by_cases h : k % 2 = 0
  · rw [if_pos h, if_neg (by omega), if_neg (by omega)]
    refine ⟨dropD 0, ?_⟩
    obtain ⟨m, hm⟩ : ∃ m, 75 - k / 2 = m + 1 := ⟨75 - k / 2 - 1, by omega⟩
    rw [show (k + 1) / 2 = k / 2 by omega, hm, hiU_succ]
    show hiU m ++ pairH = hiU m ++ _ ++ _
    rw [List.append_assoc]; rfl
  · rw [if_neg h, if_pos (by omega), if_pos (by omega)]
    refine ⟨addD zU, ?_⟩
    rw [show 75 - k / 2 - 1 = 75 - (k + 1) / 2 by omega]
section
variable {st : Sto}
abbrev LMr (n : Nat) (t1 : Option (MV × Bool)) : Lo := [fz (.ref n), t1]
theorem many_add {n j k : Nat} {st : Sto} (h : At UP st n j [] (hiU k)) (hk : k < 75) (t1 : Option (MV × Bool)) : ∃ st', b1_law_many_right (LMr n t1) st = .ok (.nx, LMr n t1, st') ∧ At UP st' n j [] (hiU (k + 1)) ∧ Mod [n, j] st st' := by
  have hl := hiU_len k
  obtain ⟨s1, e1, A1, M1, _⟩ := add_ok h (by omega) zU_ok (by decide)
  obtain ⟨s2, e2, A2, M2, _⟩ := drop_ok A1 (by rw [List.length_append]; simp; omega) (i := 0) (by decide)
  refine ⟨s2, seq_ok (expr_ok (methC (ms := [mM zU]) (b' := false) (k := .fz) rfl rfl h.a rfl (cons_ok (k := .fr) (tup_ok (ms := [.str "up", .int 0, .int 0, .str "up"]) (cons_ok (d_mC (m := .str "up") ..) rfl (cons_ok (d_mC (m := .int 0) ..) rfl (cons_ok (d_mC (m := .int 0) ..) rfl (cons_ok (d_mC (m := .str "up") ..) rfl nil_ok))))) rfl nil_ok) rfl e1)) (expr_ok (methC (ms := [.int (0 : Nat)]) (b' := false) (k := .fz) rfl rfl A1.a rfl (cons_ok (d_mC (m := .int 0) ..) rfl nil_ok) rfl e2)), ?_, M1.trans M2⟩
  have e : (hiU k ++ [(addD zU, ([] : List FL.Move))]) ++ [(dropD 0, [] ++ [zU])] = hiU (k + 1) := by rw [hiU_succ, List.append_assoc]; rfl
  rw [e] at A2
  exact A2
theorem many_back {n j k : Nat} {st : Sto} (h : At UP st n j (backM k) (backH k)) (hk : k < 150) : ∃ st', b2_law_many_right (LMr n (fz (.int (k : Nat)))) st = .ok (.nx, LMr n (fz (.int (k : Nat))), st') ∧ At UP st' n j (backM (k + 1)) (backH (k + 1)) ∧ Mod [n, j] st st' := by
  obtain ⟨d, hd⟩ := back_step hk
  rw [hd] at h
  obtain ⟨s1, e1, A1, M1, _⟩ := back_ok h
  refine ⟨s1, seq_ok (expr_ok (methC (ms := []) (b' := false) (k := .fz) rfl rfl h.a rfl nil_ok rfl e1)) (if_ff (tv_ok (k := .fz) (opV (lenI_ok (fa := mVar 0) (ka := .fz) (st1 := s1) rfl rfl (by rw [vw_at A1.a]; rfl) (len_ok A1) (by omega) (by have : (backM (k + 1)).length ≤ 10 := A1.g.len; omega)) (opV (a := .int ((k : Nat) + 1 : Int)) (b := .int 2) (opV (a := .int (k : Nat)) (b := .int 1) (ka := .fz) (st1 := s1) rfl (d_mC (m := .int 1) ..) rfl) (d_mC (m := .int 2) ..) (d_gMod _ _ _ (by decide))) ?_)) (d_sNil ..)), A1, M1⟩
  rw [vw_int, vw_int, eqI]
  have : (((backM (k + 1)).length : Nat) : Int) = ((k : Nat) + 1 : Int) % 2 := by
    unfold backM
    by_cases q : (k + 1) % 2 = 0
    · rw [if_pos q]
      show ((0 : Nat) : Int) = _
      omega
    · rw [if_neg q]
      show ((1 : Nat) : Int) = _
      omega
  rw [this]
  simp
theorem many_ok (st : Sto) : ∃ st', M_law_many_right [] st = .ok (.bl true, false, st') ∧ Mod [] st st' := by
  obtain ⟨e0, A0⟩ := init_live pgUp st
  generalize hs0 : st ++ [liveM ⟨UP, []⟩ (st.length + 1), .lst []] = s0 at e0 A0
  have M0 : Mod [] st s0 := by rw [← hs0]; exact Mod.app
  have new : ∀ {s1 : Sto}, Mod [st.length, st.length + 1] s0 s1 → Mod [] st s1 := fun M => ⟨Nat.le_trans M0.l M.l, fun i hi _ => (M.k i (Nat.lt_of_lt_of_le hi M0.l) (by simp; omega)).trans (M0.k i hi (by simp))⟩
  have f0 : sSet 0 (mCall 1 M_Live_init [] (mCons (mCall 2 M_Program_init [] (mCons (mLst (mCons (mC (.str "up")) mNil)) (mCons (mLst mNil) mNil))) mNil)) [none, none] st = .ok (.nx, LMr st.length none, s0) :=
    set_ok (k := .fz) (callV (ms := [progM ⟨UP, []⟩]) (b := false) (st1 := st) (cons_ok (k := .fr) (callV (ms := [.lst (plM ⟨UP, []⟩), .lst (mvM ⟨UP, []⟩)]) (b := true) (st1 := st) (cons_ok (k := .fr) (lst_ok (ms := [.str "up"]) (cons_ok (d_mC (m := .str "up") ..) rfl nil_ok)) rfl (cons_ok (k := .fr) (lst_ok (ms := []) nil_ok) rfl nil_ok)) rfl (makeP pgUp st)) rfl nil_ok) rfl e0) rfl
  obtain ⟨lo1, s1, e1, ⟨u1, hlo1⟩, A1, M1⟩ := forL_run (ck := fun _ _ => True) (gf := gN 1) (body := b1_law_many_right) (Inv := fun k lo s => (∃ t1, lo = LMr st.length t1) ∧ At UP s st.length (st.length + 1) [] (hiU k) ∧ Mod [st.length, st.length + 1] s0 s) (items := rgM 0 75) (fun _ _ _ _ => trivial)
    (fun k x lo s hx ⟨⟨t1, hl⟩, A, M⟩ => by
      obtain ⟨hxe, hkl⟩ := rgM_get hx
      subst hl
      obtain ⟨s', e, A', M'⟩ := many_add A (by omega) (fz x)
      exact ⟨_, _, _, s', rfl, e, ⟨_, rfl⟩, A', M.trans M'⟩) (LMr st.length none) s0 ⟨⟨_, rfl⟩, A0, .refl⟩
  subst hlo1
  rw [rgM_len] at A1
  have A1 : At UP s1 st.length (st.length + 1) [] (hiU 75) := A1
  have lg := log_ok A1 (by rw [hiU_len]; omega)
  rw [hiU_log] at lg
  have g75 : gd dpt (.lst (List.replicate 75 [addD zU, dropD 0]).flatten) = true := gd_le (n := 9) (gd_lst fun x hx => by
    obtain ⟨l, hl, hx⟩ := List.mem_flatten.mp hx
    rw [List.eq_of_mem_replicate hl] at hx
    simp only [List.mem_cons, List.not_mem_nil, or_false] at hx
    rcases hx with rfl | rfl
    · exact (dd_add pgUp.pl zU_ok).g
    · exact (dd_drop (by decide)).g) (by decide)
  have c1 : mTv (mOp (gEqB true) (mMeth "Live" "log" 1 M_Live_log (mVar 0) mNil) (mOp gMul (mLst (mCons (mTup (mCons (mC (.str "add")) (mCons (mTup (mCons (mC (.str "up")) (mCons (mC (.int 0)) (mCons (mC (.int 0)) (mCons (mC (.str "up")) mNil))))) mNil))) (mCons (mTup (mCons (mC (.str "drop")) (mCons (mC (.int 0)) mNil))) mNil))) (mC (.int 75)))) (LMr st.length u1) s1 = .ok (false, s1) := by
    have l1 : mLst (mCons (mTup (mCons (mC (.str "add")) (mCons (mTup (mCons (mC (.str "up")) (mCons (mC (.int 0)) (mCons (mC (.int 0)) (mCons (mC (.str "up")) mNil))))) mNil))) (mCons (mTup (mCons (mC (.str "drop")) (mCons (mC (.int 0)) mNil))) mNil)) (LMr st.length u1) s1 = .ok (.lst [addD zU, dropD 0], .fr, s1) :=
      lst_ok (ms := [addD zU, dropD 0]) (cons_ok (k := .fr) (tup_ok (ms := [.str "add", mM zU]) (cons_ok (d_mC (m := .str "add") ..) rfl (cons_ok (k := .fr) (tup_ok (ms := [.str "up", .int 0, .int 0, .str "up"]) (cons_ok (d_mC (m := .str "up") ..) rfl (cons_ok (d_mC (m := .int 0) ..) rfl (cons_ok (d_mC (m := .int 0) ..) rfl (cons_ok (d_mC (m := .str "up") ..) rfl nil_ok))))) rfl nil_ok))) rfl (cons_ok (k := .fr) (tup_ok (ms := [.str "drop", .int 0]) (cons_ok (d_mC (m := .str "drop") ..) rfl (cons_ok (d_mC (m := .int 0) ..) rfl nil_ok))) rfl nil_ok))
    have l2 : mOp gMul (mLst (mCons (mTup (mCons (mC (.str "add")) (mCons (mTup (mCons (mC (.str "up")) (mCons (mC (.int 0)) (mCons (mC (.int 0)) (mCons (mC (.str "up")) mNil))))) mNil))) (mCons (mTup (mCons (mC (.str "drop")) (mCons (mC (.int 0)) mNil))) mNil))) (mC (.int 75)) (LMr st.length u1) s1 = .ok (.lst (List.replicate 75 [addD zU, dropD 0]).flatten, .fr, s1) :=
      opR (b := .int (75 : Nat)) l1 (d_mC (m := .int (75 : Nat)) ..) (gRepN s1 [addD zU, dropD 0] 75 (by show 2 * 75 ≤ 100000; decide) (by decide))
    generalize (List.replicate 75 [addD zU, dropD 0]).flatten = big at *
    refine tv_ok (k := .fz) (opV (methC (ms := []) (b' := true) (k := .fz) rfl rfl A1.a rfl nil_ok rfl lg) l2 ?_)
    rw [vw_lst]
    exact eq_self (neg := true) g75 s1
  obtain ⟨lo2, s2, e2, ⟨u2, hlo2⟩, A2, M2⟩ := forL_run (ck := fun _ _ => True) (gf := gN 1) (body := b2_law_many_right) (Inv := fun k lo s => (∃ t1, lo = LMr st.length t1) ∧ At UP s st.length (st.length + 1) (backM k) (backH k) ∧ Mod [st.length, st.length + 1] s0 s) (items := rgM 0 150) (fun _ _ _ _ => trivial)
    (fun k x lo s hx ⟨⟨t1, hl⟩, A, M⟩ => by
      obtain ⟨hxe, hkl⟩ := rgM_get hx
      subst hl
      rw [Int.zero_add] at hxe
      subst hxe
      obtain ⟨s', e, A', M'⟩ := many_back A (by omega)
      exact ⟨_, _, _, s', rfl, e, ⟨_, rfl⟩, A', M.trans M'⟩) (LMr st.length u1) s1 ⟨⟨_, rfl⟩, A1, M1⟩
  subst hlo2
  rw [rgM_len] at A2
  have A2 : At UP s2 st.length (st.length + 1) [] [] := A2
  have M2' := new M2
  obtain ⟨e3, A3⟩ := init_live pgUp s2
  have r1 : mOp (gLNil false) (mMeth "Live" "log" 1 M_Live_log (mVar 0) mNil) (mLst mNil) (LMr st.length u2) s2 = .ok (.bl true, .fz, s2) :=
    opV (methC (ms := []) (b' := true) (k := .fz) rfl rfl A2.a rfl nil_ok rfl (log_ok A2 (by decide))) (lst_ok (ms := []) nil_ok) rfl
  have r2 : mOp (gLNil false) (mMeth "Live" "log" 1 M_Live_log (mCall 1 M_Live_init [] (mCons (mCall 2 M_Program_init [] (mCons (mLst (mCons (mC (.str "up")) mNil)) (mCons (mLst mNil) mNil))) mNil)) mNil) (mLst mNil) (LMr st.length u2) s2 = .ok (.bl true, .fz, s2 ++ [liveM ⟨UP, []⟩ (s2.length + 1), .lst []]) := by
    have c : mCall 1 M_Live_init [] (mCons (mCall 2 M_Program_init [] (mCons (mLst (mCons (mC (.str "up")) mNil)) (mCons (mLst mNil) mNil))) mNil) (LMr st.length u2) s2 = .ok (.ref s2.length, .fz, s2 ++ [liveM ⟨UP, []⟩ (s2.length + 1), .lst []]) :=
      callV (ms := [progM ⟨UP, []⟩]) (b := false) (st1 := s2) (cons_ok (k := .fr) (callV (ms := [.lst (plM ⟨UP, []⟩), .lst (mvM ⟨UP, []⟩)]) (b := true) (st1 := s2) (cons_ok (k := .fr) (lst_ok (ms := [.str "up"]) (cons_ok (d_mC (m := .str "up") ..) rfl nil_ok)) rfl (cons_ok (k := .fr) (lst_ok (ms := []) nil_ok) rfl nil_ok)) rfl (makeP pgUp s2)) rfl nil_ok) rfl e3
    exact opV (methC (ms := []) (b' := true) c rfl A3.a rfl nil_ok rfl (log_ok A3 (by decide))) (lst_ok (ms := []) nil_ok) rfl
  refine ⟨s2 ++ [liveM ⟨UP, []⟩ (s2.length + 1), .lst []], ?_, M2'.trans Mod.app⟩
  unfold M_law_many_right g_law_many_right
  exact runF_own (k := .fz) (lo0 := [none, none]) rfl (seq_ok f0 (seq_ok (for_ok (iRg1_ok (k := .fz) (d_mC (m := .int 75) ..) (by decide)) e1) (seq_ok (if_ff c1 (d_sNil ..)) (seq_ok (for_ok (iRg1_ok (k := .fz) (d_mC (m := .int 150) ..) (by decide)) e2) (ret_ok (andV_tt r1 r2)))))) rfl
end
end W66
namespace W66
open PySem L2 PySem.Spec PyProof.Rows FW FL
section
variable {pl : List Str} {st : Sto} {n j : Nat} {ms : List FL.Move} {hi : Hist}
theorem no_prog (h : At pl st n j ms hi) {i : Nat} {lo : Lo} (hv : mVar i lo st = .ok (.ref n, .fz, st)) : mNotT (mTv (mIsi noT (eqc CS "Program") noC (mVar i))) lo st = .ok (true, st) := by
  have c1 : mIsi noT (eqc CS "Program") noC (mVar i) lo st = .ok (.bl false, .fz, st) := by
    rw [d_mIsi, hv]
    simp only [Res.ok_bind]
    rw [vw_at h.a]
    rfl
  exact not_ok (b := false) (tv_ok (k := .fz) c1)
theorem raiseV {c f : Str} {g : EF} {lo : Lo} {st : Sto} {m : MV} (h : g lo st = .ok (m, .fz, st)) : sRaise c f [] (mCons g mNil) lo st = .exc c [(f, m)] lo st := by
  unfold sRaise
  rw [d_mCons, h]
  rfl
theorem chk_live (h : At pl st n j ms hi) : M_check_program [.ref n] st = .exc "InvalidProgram" [("value", .ref n)] [fz (.ref n)] st := by
  unfold M_check_program g_check_program
  exact runF_exc (lo0 := [fz (.ref n)]) rfl (if_tt (no_prog h rfl) (raiseV rfl))
theorem chk_expr (h : At pl st n j ms hi) {i : Nat} {lo : Lo} (hv : mVar i lo st = .ok (.ref n, .fz, st)) : sExpr (mCall 1 M_check_program [] (mCons (mVar i) mNil)) lo st = .exc "InvalidProgram" [("value", .ref n)] lo st :=
  expr_exc (callX (ms := [.ref n]) (st1 := st) (cons_ok hv rfl nil_ok) rfl (chk_live h))
abbrev Bad (r : Res (MV × Bool × Sto)) (n : Nat) (st : Sto) : Prop := ∃ lo, r = .exc "InvalidProgram" [("value", .ref n)] lo st
theorem ways_live (h : At pl st n j ms hi) (a b c : MV) : Bad (M_check_ways [.ref n, a, b, c] st) n st := ⟨[fz (.ref n), fz a, fz b, fz c], by
  unfold M_check_ways g_check_ways
  exact runF_exc (lo0 := [fz (.ref n), fz a, fz b, fz c]) rfl (seq_exc (chk_expr h rfl))⟩
theorem least_live (h : At pl st n j ms hi) (a b c : MV) : Bad (M_least_for [.ref n, a, b, c] st) n st := by
  obtain ⟨lo, e⟩ := ways_live h a b c
  refine ⟨[fz (.ref n), fz a, fz b, fz c], ?_⟩
  unfold M_least_for g_least_for
  exact runF_exc (lo0 := [fz (.ref n), fz a, fz b, fz c]) rfl (seq_exc (expr_exc (callX (ms := [.ref n, a, b, c]) (st1 := st) rfl rfl e)))
theorem text_live (h : At pl st n j ms hi) : Bad (M_text_of [.ref n] st) n st := ⟨_, by
  unfold M_text_of g_text_of
  exact runF_exc (lo0 := [fz (.ref n), none, none, none, none, none, none]) rfl (seq_exc (chk_expr h rfl))⟩
theorem tested_live (h : At pl st n j ms hi) (a : MV) : Bad (M_Tested_init [.ref n, a] st) n st := ⟨_, by
  unfold M_Tested_init g_Tested_init
  exact runI_exc rfl (seq_exc (chk_expr h rfl))⟩
theorem endless_live (h : At pl st n j ms hi) (a : MV) : Bad (M_least_endless [.ref n, a] st) n st := ⟨_, by
  unfold M_least_endless g_least_endless
  exact runF_exc (lo0 := [fz (.ref n), fz a, none]) rfl (seq_exc (chk_expr h rfl))⟩
theorem pair_live (h : At pl st n j ms hi) (P : Prog) : Bad (M_check_pair [progM P, .ref n] st) n st := ⟨[fz (progM P), fz (.ref n)], by
  unfold M_check_pair g_check_pair
  exact runF_exc (lo0 := [fz (progM P), fz (.ref n)]) rfl (seq_ok (expr_ok (callV (ms := [progM P]) (b := false) (st1 := st) (cons_ok (f := mVar 0) (k := .fz) rfl rfl nil_ok) rfl (chkP_ok P st))) (if_tt (or_tt (no_prog h rfl)) (raiseV rfl)))⟩
theorem unlike_live (h : At pl st n j ms hi) (P : Prog) : Bad (M_unlike [progM P, .ref n] st) n st := by
  obtain ⟨lo, e⟩ := pair_live h P
  refine ⟨[fz (progM P), fz (.ref n)], ?_⟩
  unfold M_unlike g_unlike
  exact runF_exc (lo0 := [fz (progM P), fz (.ref n)]) rfl (seq_exc (expr_exc (callX (ms := [progM P, .ref n]) (st1 := st) rfl rfl e)))
theorem init_bad (h : At pl st n j ms hi) : ∃ lo st', M_Live_init [.ref n] st = .exc "InvalidProgram" [("value", .ref n)] lo st' ∧ Mod [] st st' := by
  have h' := h.mod (A := []) (st' := st ++ [.ins "Live" []]) Mod.app (by simp) (by simp)
  refine ⟨[fz (.ref st.length), fz (.ref n)], st ++ [.ins "Live" []], ?_, Mod.app⟩
  unfold M_Live_init runS
  rw [show startS st.length 2 [.ref n] = [fz (.ref st.length), fz (.ref n)] from rfl]
  unfold g_Live_init
  rw [seq_exc (chk_expr h' rfl)]
abbrev LN (n : Nat) (t1 t2 : Option (MV × Bool)) : Lo := [fz (.ref n), t1, t2, none]
theorem door (h : At pl st n j ms hi) {k : Nat} (hk : k < 6) (t2 : Option (MV × Bool)) : ∃ u2 st', b1_law_no_program (LN n (fz (.int (k : Nat))) t2) st = .ok (.nx, LN n (fz (.int (k : Nat))) u2, st') ∧ Mod [] st st' := by
  generalize hlo : LN n (fz (.int (k : Nat))) (fz .non) = lo
  have v0 : ∀ s, mVar 0 lo s = .ok (.ref n, .fz, s) := fun s => by rw [← hlo]; rfl
  have v1 : ∀ s, mVar 1 lo s = .ok (.int (k : Nat), .fz, s) := fun s => by rw [← hlo]; rfl
  have eqk : ∀ (d : Int) s, mTv (mOp (gEqB false) (mVar 1) (mC (.int d))) lo s = .ok (decide (((k : Nat) : Int) = d), s) := fun d s => tv_ok (k := .fz) (opV (v1 s) (d_mC (m := .int d) ..) (by rw [vw_int, vw_int, eqI]; rfl))
  obtain ⟨st', e, M⟩ : ∃ st', sIf (mTv (mOp (gEqB false) (mVar 1) (mC (.int 0)))) (sExpr (mCall 4 M_least_for [] (mCons (mVar 0) (mCons (mC (.str "up")) (mCons (mC (.str "up")) (mCons (mC (.int 0)) mNil)))))) (sIf (mTv (mOp (gEqB false) (mVar 1) (mC (.int 1)))) (sExpr (mCall 1 M_text_of [] (mCons (mVar 0) mNil))) (sIf (mTv (mOp (gEqB false) (mVar 1) (mC (.int 2)))) (sExpr (mCall 2 M_Tested_init [] (mCons (mVar 0) (mCons (mLst mNil) mNil)))) (sIf (mTv (mOp (gEqB false) (mVar 1) (mC (.int 3)))) (sExpr (mCall 2 M_unlike [] (mCons (mMeth "Live" "shown" 1 M_Live_shown (mVar 0) mNil) (mCons (mVar 0) mNil)))) (sIf (mTv (mOp (gEqB false) (mVar 1) (mC (.int 4)))) (sExpr (mCall 2 M_least_endless [] (mCons (mVar 0) (mCons (mC (.str "up")) mNil)))) (sExpr (mCall 1 M_Live_init [] (mCons (mVar 0) mNil))))))) lo st = .exc "InvalidProgram" [("value", .ref n)] lo st' ∧ Mod [] st st' := by
    by_cases q0 : k = 0
    · obtain ⟨l, e⟩ := least_live h (.str "up") (.str "up") (.int 0)
      exact ⟨st, if_tt ((eqk 0 st).trans (by rw [decide_eq_true (by omega)])) (expr_exc (callX (ms := [.ref n, .str "up", .str "up", .int 0]) (st1 := st) (cons_ok (v0 st) rfl (cons_ok (d_mC (m := .str "up") ..) rfl (cons_ok (d_mC (m := .str "up") ..) rfl (cons_ok (d_mC (m := .int 0) ..) rfl nil_ok)))) rfl e)), .refl⟩
    by_cases q1 : k = 1
    · obtain ⟨l, e⟩ := text_live h
      exact ⟨st, if_ff ((eqk 0 st).trans (by rw [decide_eq_false (by omega)])) (if_tt ((eqk 1 st).trans (by rw [decide_eq_true (by omega)])) (expr_exc (callX (ms := [.ref n]) (st1 := st) (cons_ok (v0 st) rfl nil_ok) rfl e))), .refl⟩
    by_cases q2 : k = 2
    · obtain ⟨l, e⟩ := tested_live h (.lst [])
      exact ⟨st, if_ff ((eqk 0 st).trans (by rw [decide_eq_false (by omega)])) (if_ff ((eqk 1 st).trans (by rw [decide_eq_false (by omega)])) (if_tt ((eqk 2 st).trans (by rw [decide_eq_true (by omega)])) (expr_exc (callX (ms := [.ref n, .lst []]) (st1 := st) (cons_ok (v0 st) rfl (cons_ok (k := .fr) (lst_ok (ms := []) nil_ok) rfl nil_ok)) rfl e)))), .refl⟩
    by_cases q3 : k = 3
    · obtain ⟨l, e⟩ := unlike_live h ⟨pl, ms⟩
      exact ⟨st, if_ff ((eqk 0 st).trans (by rw [decide_eq_false (by omega)])) (if_ff ((eqk 1 st).trans (by rw [decide_eq_false (by omega)])) (if_ff ((eqk 2 st).trans (by rw [decide_eq_false (by omega)])) (if_tt ((eqk 3 st).trans (by rw [decide_eq_true (by omega)])) (expr_exc (callX (ms := [progM ⟨pl, ms⟩, .ref n]) (st1 := st) (cons_ok (k := .fr) (methC (ms := []) (b' := true) (v0 st) rfl h.a rfl nil_ok rfl (shown_ok h)) rfl (cons_ok (v0 st) rfl nil_ok)) rfl e))))), .refl⟩
    by_cases q4 : k = 4
    · obtain ⟨l, e⟩ := endless_live h (.str "up")
      exact ⟨st, if_ff ((eqk 0 st).trans (by rw [decide_eq_false (by omega)])) (if_ff ((eqk 1 st).trans (by rw [decide_eq_false (by omega)])) (if_ff ((eqk 2 st).trans (by rw [decide_eq_false (by omega)])) (if_ff ((eqk 3 st).trans (by rw [decide_eq_false (by omega)])) (if_tt ((eqk 4 st).trans (by rw [decide_eq_true (by omega)])) (expr_exc (callX (ms := [.ref n, .str "up"]) (st1 := st) (cons_ok (v0 st) rfl (cons_ok (d_mC (m := .str "up") ..) rfl nil_ok)) rfl e)))))), .refl⟩
    · obtain ⟨l, st', e, M⟩ := init_bad h
      exact ⟨st', if_ff ((eqk 0 st).trans (by rw [decide_eq_false (by omega)])) (if_ff ((eqk 1 st).trans (by rw [decide_eq_false (by omega)])) (if_ff ((eqk 2 st).trans (by rw [decide_eq_false (by omega)])) (if_ff ((eqk 3 st).trans (by rw [decide_eq_false (by omega)])) (if_ff ((eqk 4 st).trans (by rw [decide_eq_false (by omega)])) (expr_exc (callX (ms := [.ref n]) (st1 := st) (cons_ok (v0 st) rfl nil_ok) rfl e)))))), M⟩
  have h' := h.mod M (by simp) (by simp)
  have he : ("InvalidProgram" : Str) ∈ ES := by decide +kernel
  have fv : mFld "value" noB (inB ES) (mVar 2) (LN n (fz (.int (k : Nat))) (fz (.exc "InvalidProgram" [("value", .ref n)]))) st' = .ok (.ref n, .fz, st') := by
    have v2 : mVar 2 (LN n (fz (.int (k : Nat))) (fz (.exc "InvalidProgram" [("value", .ref n)]))) st' = .ok (.exc "InvalidProgram" [("value", .ref n)], .fz, st') := rfl
    rw [d_mFld, v2]
    simp only [Res.ok_bind]
    have : gFld "value" noB (inB ES) (.exc "InvalidProgram" [("value", .ref n)]) = some (.ref n) := (if_pos (e := none) (inES he)).trans rfl
    rw [show vw st' (.exc "InvalidProgram" [("value", .ref n)]) = .exc "InvalidProgram" [("value", .ref n)] from rfl, this]
  have c1 : mIsi noT (eqc CS "Live") noC (mFld "value" noB (inB ES) (mVar 2)) (LN n (fz (.int (k : Nat))) (fz (.exc "InvalidProgram" [("value", .ref n)]))) st' = .ok (.bl true, .fz, st') := by
    rw [d_mIsi, fv]
    simp only [Res.ok_bind]
    rw [vw_at h'.a]
    rfl
  refine ⟨fz (.exc "InvalidProgram" [("value", .ref n)]), st', seq_ok (lo1 := lo) (st1 := st) (by rw [← hlo]; rfl) (seq_ok (try_exc (lo1 := lo) (st1 := st') (lo2 := [fz (.ref n), fz (.int (k : Nat)), fz (.exc "InvalidProgram" [("value", .ref n)]), fz (.exc "InvalidProgram" [("value", .ref n)])]) (st2 := st') e (by unfold inB; decide) (by rw [← hlo]; rfl)) (if_ff (or_ff (st1 := st') (tv_ok (k := .fz) rfl) (not_ok (b := true) (tv_ok (k := .fz) c1))) (d_sNil ..))), M⟩
theorem noProg_ok (h : At pl st n j ms hi) : ∃ st', M_law_no_program [.ref n] st = .ok (.bl true, false, st') ∧ Mod [] st st' := by
  obtain ⟨lo', st', e, _, M⟩ := for_inv (ck := ckT) (gf := gN 1) (body := b1_law_no_program) (I := fun lo s => (∃ t1 t2, lo = LN n t1 t2) ∧ Mod [] st s) (rgM 0 6) (LN n none none) st (fun _ _ _ => trivial)
    (fun x hx lo s ⟨⟨t1, t2, hl⟩, M⟩ => by
      subst hl
      obtain ⟨k, hk⟩ := List.mem_iff_getElem?.mp hx
      obtain ⟨hxe, hkl⟩ := rgM_get hk
      rw [Int.zero_add] at hxe
      subst hxe
      obtain ⟨u2, s', e, M'⟩ := door (h.mod M (by simp) (by simp)) (k := k) (by omega) t2
      exact ⟨_, s, _, s', rfl, e, ⟨_, _, rfl⟩, M.trans M'⟩) ⟨⟨_, _, rfl⟩, .refl⟩
  refine ⟨st', ?_, M⟩
  unfold M_law_no_program g_law_no_program
  exact runF_own (k := .fz) (lo0 := LN n none none) rfl (seq_ok (for_ok (iRg1_ok (k := .fz) (d_mC (m := .int 6) ..) (by decide)) e) (ret_ok (d_mC (m := .bl true) ..))) rfl
end
end W66
namespace W66
open PySem L2 PySem.Spec PyProof.Rows FW FL
section
variable {pl : List Str} {st : Sto} {L S K : Nat} {rs : List Rc}
theorem All.lt (h : All pl st L S rs K) : ∀ a, a ∈ L :: S :: rs.flatMap Rc.ads → a < st.length := fun a ha => by
  have lt : ∀ {n : Nat} {m : MV}, st[n]? = some m → n < st.length := fun e => (List.getElem?_eq_some_iff.mp e).1
  rcases List.mem_cons.mp ha with rfl | ha
  · exact lt h.lv
  rcases List.mem_cons.mp ha with rfl | ha
  · exact lt h.sv
  obtain ⟨r, hr, ha⟩ := List.mem_flatMap.mp ha
  have v := h.one r hr
  simp only [Rc.ads, List.mem_cons, List.not_mem_nil, or_false] at ha
  rcases ha with rfl | rfl | rfl
  · exact lt v.a.a
  · exact lt v.a.b
  · exact lt v.s
theorem All.ltr (h : All pl st L S rs K) {r : Rc} (hr : r ∈ rs) : r.n < st.length ∧ r.j < st.length ∧ r.s < st.length := by
  have q : ∀ a, a ∈ r.ads → a < st.length := fun a ha => h.lt a (List.mem_cons_of_mem _ (List.mem_cons_of_mem _ (List.mem_flatMap.mpr ⟨r, hr, ha⟩)))
  exact ⟨q _ (by simp [Rc.ads]), q _ (by simp [Rc.ads]), q _ (by simp [Rc.ads])⟩
theorem All.set (h : All pl st L S rs K) {st' : Sto} {i g : Nat} {r : Rc} {ms' : List FL.Move} {hi' : Hist} (hr : rs[i]? = some r) (hg : ∀ a, a ∈ L :: S :: rs.flatMap Rc.ads → a ≠ g) (M : Mod [g, r.n, r.j, r.s] st st')
    (A : At pl st' r.n r.j ms' hi') (hs : st'[r.s]? = some (stM ms' hi')) (l9 : ms'.length ≤ 9) (h9 : ∀ x, x ∈ hi' → x.2.length ≤ 9 ∧ Dd x.1) (hz : hi'.length ≤ K + 1) : All pl st' L S (rs.set i ⟨r.n, r.j, r.s, ms', hi'⟩) (K + 1) := by
  have rm := List.mem_of_getElem? hr
  have hil := (List.getElem?_eq_some_iff.mp hr).1
  obtain ⟨o1, o2, _⟩ := h.out r rm
  have mapn : ∀ {β : Type} (f : Rc → β), f ⟨r.n, r.j, r.s, ms', hi'⟩ = f r → (rs.set i ⟨r.n, r.j, r.s, ms', hi'⟩).map f = rs.map f := fun f e => by
    rw [List.map_set, e]
    apply List.ext_getElem?
    intro k
    by_cases q : i = k
    · subst q
      rw [List.getElem?_set_self (by rw [List.length_map]; exact hil), List.getElem?_map, hr]; rfl
    · rw [List.getElem?_set_ne q]
  have nin : ∀ {a : Nat}, a ≠ g → a ∉ r.ads → a ∉ [g, r.n, r.j, r.s] := fun h1 h2 h3 => by
    rcases List.mem_cons.mp h3 with h3 | h3
    · exact h1 h3
    · exact h2 h3
  have get : ∀ {k : Nat} {r2 : Rc}, (rs.set i ⟨r.n, r.j, r.s, ms', hi'⟩)[k]? = some r2 → (k = i ∧ r2 = ⟨r.n, r.j, r.s, ms', hi'⟩) ∨ (k ≠ i ∧ rs[k]? = some r2) := fun {k r2} e => by
    by_cases q : i = k
    · subst q
      rw [List.getElem?_set_self hil] at e
      cases e
      exact .inl ⟨rfl, rfl⟩
    · rw [List.getElem?_set_ne q] at e
      exact .inr ⟨fun z => q z.symm, e⟩
  have old : ∀ {k : Nat} {r2 : Rc}, (rs.set i ⟨r.n, r.j, r.s, ms', hi'⟩)[k]? = some r2 → ∃ r0 : Rc, rs[k]? = some r0 ∧ r0.ads = r2.ads ∧ r0.s = r2.s ∧ r0.n = r2.n ∧ r0.j = r2.j := fun {k r2} e => by
    rcases get e with ⟨rfl, rfl⟩ | ⟨_, e⟩
    · exact ⟨r, hr, rfl, rfl, rfl, rfl⟩
    · exact ⟨r2, e, rfl, rfl, rfl, rfl⟩
  refine ⟨?_, ?_, fun r2 h2 => ?_, h.ls, fun r2 h2 => ?_, fun a b r1 r2 e1 e2 ne => ?_, fun r2 h2 => ?_, by rw [List.length_set]; exact h.l4, by rw [List.length_set]; exact h.l1⟩
  · rw [mapn (fun r => MV.ref r.n) rfl]
    exact M.at h.lv (nin (hg L (by simp)) o1)
  · rw [mapn (fun r => MV.ref r.s) rfl]
    exact M.at h.sv (nin (hg S (by simp)) o2)
  · obtain ⟨k, hk⟩ := List.mem_iff_getElem?.mp h2
    rcases get hk with ⟨_, rfl⟩ | ⟨ne, e⟩
    · exact ⟨A, hs, l9, h9⟩
    · refine (h.one r2 (List.mem_of_getElem? e)).mod M fun a ha => nin (hg a (List.mem_cons_of_mem _ (List.mem_cons_of_mem _ (List.mem_flatMap.mpr ⟨r2, List.mem_of_getElem? e, ha⟩)))) (h.dis k i r2 r e hr ne a ha)
  · obtain ⟨k, hk⟩ := List.mem_iff_getElem?.mp h2
    obtain ⟨r0, e0, ea, es, en, ej⟩ := old hk
    have := h.out r0 (List.mem_of_getElem? e0)
    rw [ea, es, en, ej] at this
    exact this
  · obtain ⟨q1, f1, a1, _⟩ := old e1
    obtain ⟨q2, f2, a2, _⟩ := old e2
    have := h.dis a b q1 q2 f1 f2 ne
    rw [a1, a2] at this
    exact this
  · obtain ⟨k, hk⟩ := List.mem_iff_getElem?.mp h2
    rcases get hk with ⟨_, rfl⟩ | ⟨ne, e⟩
    · exact hz
    · exact Nat.le_succ_of_le (h.hz r2 (List.mem_of_getElem? e))
theorem All.add (h : All pl st L S rs K) {st' : Sto} {r : Rc} (lv : st'[L]? = some (.lst ((rs ++ [r]).map fun r => .ref r.n))) (sv : st'[S]? = some (.lst ((rs ++ [r]).map fun r => .ref r.s))) (M : Mod [L, S] st st') (v : Lv pl st' r)
    (hn : ∀ a, a ∈ r.ads → st.length ≤ a) (hs : r.s ≠ r.n ∧ r.s ≠ r.j) (hz : r.hi.length ≤ K) (h4 : rs.length < 4) : All pl st' L S (rs ++ [r]) K := by
  have lt := h.lt
  have old : ∀ {k : Nat} {r2 : Rc}, (rs ++ [r])[k]? = some r2 → (rs[k]? = some r2 ∧ k < rs.length) ∨ (k = rs.length ∧ r2 = r) := fun {k r2} e => by
    by_cases q : k < rs.length
    · rw [List.getElem?_append_left q] at e
      exact .inl ⟨e, q⟩
    · rw [List.getElem?_append_right (by omega)] at e
      have := (List.getElem?_eq_some_iff.mp e).1
      have z : k - rs.length = 0 := by simpa using this
      rw [z] at e
      cases e
      exact .inr ⟨by omega, rfl⟩
  have mem : ∀ {r2 : Rc}, r2 ∈ rs ++ [r] → r2 ∈ rs ∨ r2 = r := fun hh => by simpa using hh
  have lto : ∀ {r2 : Rc} {a : Nat}, r2 ∈ rs → a ∈ r2.ads → a < st.length := fun h2 ha => lt _ (List.mem_cons_of_mem _ (List.mem_cons_of_mem _ (List.mem_flatMap.mpr ⟨_, h2, ha⟩)))
  refine ⟨lv, sv, fun r2 h2 => ?_, h.ls, fun r2 h2 => ?_, fun a b r1 r2 e1 e2 ne => ?_, fun r2 h2 => ?_, by simp; omega, by simp⟩
  · rcases mem h2 with h2 | rfl
    · obtain ⟨o1, o2, _⟩ := h.out r2 h2
      refine (h.one r2 h2).mod M fun a ha hh => ?_
      simp only [List.mem_cons, List.not_mem_nil, or_false] at hh
      rcases hh with rfl | rfl
      · exact o1 ha
      · exact o2 ha
    · exact v
  · rcases mem h2 with h2 | rfl
    · exact h.out r2 h2
    · exact ⟨fun z => Nat.lt_irrefl _ (Nat.lt_of_lt_of_le (lt L (by simp)) (hn L z)), fun z => Nat.lt_irrefl _ (Nat.lt_of_lt_of_le (lt S (by simp)) (hn S z)), hs⟩
  · intro c hc1 hc2
    rcases old e1 with ⟨f1, l1⟩ | ⟨l1, rfl⟩ <;> rcases old e2 with ⟨f2, l2⟩ | ⟨l2, rfl⟩
    · exact h.dis a b r1 r2 f1 f2 ne c hc1 hc2
    · exact Nat.lt_irrefl _ (Nat.lt_of_lt_of_le (lto (List.mem_of_getElem? f1) hc1) (hn c hc2))
    · exact Nat.lt_irrefl _ (Nat.lt_of_lt_of_le (lto (List.mem_of_getElem? f2) hc2) (hn c hc1))
    · omega
  · rcases mem h2 with h2 | rfl
    · exact h.hz r2 h2
    · exact hz
abbrev LLw (ns : List Int) (g L S : Nat) (P : Prog) (t5 t6 t7 : Option (MV × Bool)) : Lo := [fz (.scr ns), fz (.ref g), fz (partsM P), fz (.ref L), fz (.ref S), t5, t6, t7, none, none]
variable {ns : List Int} {g : Nat} {P : Prog} {N : Int}
theorem place_ix {f g : EF} {lo : Lo} {st : Sto} {k1 k2 : Kd} (hf : f lo st = .ok (partsM P, k1, st)) (hg : g lo st = .ok (.int 0, k2, st)) : mOp gIx f g lo st = .ok (.lst (P.pl.map .str), .fz, st) := opV hf hg rfl
theorem deed (h : All P.pl st L S rs K) (hK : K ≤ 800) (hg : ∀ a, a ∈ L :: S :: rs.flatMap Rc.ads → a ≠ g) (G : GenAt st g N) (hN : N ≤ 10 ^ 5) (l1 : 1 ≤ P.pl.length) (l4 : P.pl.length ≤ 4) (t5 t6 t7 : Option (MV × Bool)) :
    ∃ (i : Nat) (rs' : List Rc) (st' : Sto), b2_law (LLw ns g L S P t5 t6 t7) st = .ok (.nx, LLw ns g L S P t5 (fz (.int (i : Nat))) t7, st') ∧ All P.pl st' L S rs' (K + 1) ∧ (∀ a, a ∈ L :: S :: rs'.flatMap Rc.ads → a ≠ g) ∧ GenAt st' g (N + 4000) ∧ st'.length = st.length := by
  have lnl := lenLs (f := mVar 3) (lo := LLw ns g L S P t5 t6 t7) (st := st) (k := .fz) (m := .ref L) rfl (vw_at h.lv)
  rw [List.length_map] at lnl
  have h4 := h.l4
  have h1 := h.l1
  obtain ⟨i, s1, i0, il, e1, G1⟩ := random_ok (bound := ((rs.length : Nat) : Int)) G (by omega) (by omega) (by omega)
  obtain ⟨i, rfl⟩ : ∃ i' : Nat, i = (i' : Int) := ⟨i.toNat, by omega⟩
  have M1 : Mod [g] st s1 := Mod.of_gs G1
  have hA := h.mod M1 (fun a ha z => hg a ha (by simpa using z))
  obtain ⟨r, hr⟩ : ∃ r, rs[i]? = some r := ⟨rs[i], List.getElem?_eq_getElem (by omega)⟩
  have rm := List.mem_of_getElem? hr
  have v := hA.one r rm
  have hgr : ∀ a, a ∈ r.ads → g ≠ a := fun a ha z => hg a (List.mem_cons_of_mem _ (List.mem_cons_of_mem _ (List.mem_flatMap.mpr ⟨r, rm, ha⟩))) z.symm
  obtain ⟨ms', hi', s2, e2, A2, S2, l9, h9, hz, G2, M2, L2⟩ := step_ok v.a v.s G1.g (by omega) ⟨hgr _ (by simp [Rc.ads]), hgr _ (by simp [Rc.ads]), hgr _ (by simp [Rc.ads])⟩ (h.out r rm).2.2 l1 l4 v.l9 v.h9 (by have := h.hz r rm; omega)
  have hB := hA.set hr hg M2 A2 S2 l9 h9 (by have := h.hz r rm; omega)
  refine ⟨i, _, s2, ?_, hB, fun a ha => ?_, G2.up (by omega), L2.trans G1.l⟩
  · have f1 : sSet 6 (mCall 2 M_law_random [] (mCons (mVar 1) (mCons (mCallB gLen (mCons (mVar 3) mNil)) mNil))) (LLw ns g L S P t5 t6 t7) st = .ok (.nx, LLw ns g L S P t5 (fz (.int (i : Nat))) t7, s1) :=
      set_ok (k := .fz) (callV (ms := [.ref g, .int (rs.length : Nat)]) (b := false) (st1 := st) (cons_ok (f := mVar 1) (k := .fz) rfl rfl (cons_ok lnl rfl nil_ok)) rfl e1) rfl
    exact seq_ok f1 (expr_ok (callV (ms := [.ref g, .ref r.n, .lst (P.pl.map .str), .ref r.s]) (b := false) (st1 := s1) (cons_ok (f := mVar 1) (k := .fz) rfl rfl (cons_ok (hA.live hr (k1 := .fz) (k2 := .fz) rfl rfl) rfl (cons_ok (place_ix (k1 := .fz) (k2 := .fz) rfl rfl) rfl (cons_ok (hA.kept hr (k1 := .fz) (k2 := .fz) rfl rfl) rfl nil_ok)))) rfl e2))
  · refine hg a ?_
    rcases List.mem_cons.mp ha with rfl | ha
    · simp
    rcases List.mem_cons.mp ha with rfl | ha
    · simp
    refine List.mem_cons_of_mem _ (List.mem_cons_of_mem _ ?_)
    obtain ⟨r2, h2, ha⟩ := List.mem_flatMap.mp ha
    rcases List.mem_or_eq_of_mem_set h2 with h2 | rfl
    · exact List.mem_flatMap.mpr ⟨r2, h2, ha⟩
    · exact List.mem_flatMap.mpr ⟨r, rm, ha⟩
theorem copied (h : All P.pl st L S rs K) (h4 : rs.length < 4) (hg : ∀ a, a ∈ L :: S :: rs.flatMap Rc.ads → a ≠ g) (hgl : g < st.length) {i : Nat} {r : Rc} (hr : rs[i]? = some r) (t5 t7 : Option (MV × Bool)) :
    ∃ rs' st', sSeq (sApp (mVar 3) (mMeth "Live" "copy" 1 M_Live_copy (mOp gIx (mVar 3) (mVar 6)) mNil)) (sApp (mVar 4) (mSto (mCallB gListOf (mCons (mOp gIx (mVar 4) (mVar 6)) mNil)))) (LLw ns g L S P t5 (fz (.int (i : Nat))) t7) st = .ok (.nx, LLw ns g L S P t5 (fz (.int (i : Nat))) t7, st') ∧ All P.pl st' L S rs' K ∧ (∀ a, a ∈ L :: S :: rs'.flatMap Rc.ads → a ≠ g) ∧ Mod [L, S] st st' := by
  have rm := List.mem_of_getElem? hr
  have v := h.one r rm
  obtain ⟨s1, e1, A1, M1, L1⟩ := copy_ok v.a
  have lvL := M1.at h.lv (by simp)
  have svS := M1.at h.sv (by simp)
  have hLl : L < st.length := h.lt L (by simp)
  have hSl : S < st.length := h.lt S (by simp)
  have lr := h.ltr rm
  have f1 : sApp (mVar 3) (mMeth "Live" "copy" 1 M_Live_copy (mOp gIx (mVar 3) (mVar 6)) mNil) (LLw ns g L S P t5 (fz (.int (i : Nat))) t7) st = .ok (.nx, LLw ns g L S P t5 (fz (.int (i : Nat))) t7, s1.set L (.lst ((rs.map fun r => .ref r.n) ++ [.ref st.length]))) :=
    appR_ok (kd := .fz) rfl h.lv (methC (ms := []) (b' := false) (h.live hr (k1 := .fz) (k2 := .fz) rfl rfl) rfl v.a.a rfl nil_ok rfl e1) rfl lvL (szl (by rw [List.length_map]; have := h.l4; omega))
  generalize hs2 : s1.set L (.lst ((rs.map fun r => .ref r.n) ++ [.ref st.length])) = s2 at f1
  have M12 : Mod [L] s1 s2 := by rw [← hs2]; exact Mod.set (by simp)
  have l2 : s2.length = st.length + 3 := by rw [← hs2, List.length_set]; exact L1
  have vs1 : s1[r.s]? = some (stM r.ms r.hi) := M1.at v.s (by simp)
  have oL := (h.out r rm).1
  have vs2 : s2[r.s]? = some (stM r.ms r.hi) := M12.at vs1 (by simp; intro z; exact oL (by simp [Rc.ads, z]))
  have svS2 : s2[S]? = some (.lst (rs.map fun r => .ref r.s)) := M12.at svS (by simp; exact Ne.symm h.ls)
  have e3 : mSto (mCallB gListOf (mCons (mOp gIx (mVar 4) (mVar 6)) mNil)) (LLw ns g L S P t5 (fz (.int (i : Nat))) t7) s2 = .ok (.ref s2.length, .fz, s2 ++ [stM r.ms r.hi]) := by
    refine sto_ok (listLs (m := .ref r.s) (k := .fz) ?_ (vw_at vs2))
    refine opV (ka := .fz) (a := .ref S) (b := .int (i : Nat)) (kb := .fz) (st1 := s2) rfl rfl ?_
    rw [vw_at svS2, vw_int]
    exact ixL (atI_n _ (by rw [List.getElem?_map, hr]; rfl))
  have f2 : sApp (mVar 4) (mSto (mCallB gListOf (mCons (mOp gIx (mVar 4) (mVar 6)) mNil))) (LLw ns g L S P t5 (fz (.int (i : Nat))) t7) s2 = .ok (.nx, LLw ns g L S P t5 (fz (.int (i : Nat))) t7, (s2 ++ [stM r.ms r.hi]).set S (.lst ((rs.map fun r => .ref r.s) ++ [.ref s2.length]))) :=
    appR_ok (kd := .fz) rfl svS2 e3 rfl ((List.getElem?_append_left (by omega)).trans svS2) (szl (by rw [List.length_map]; have := h.l4; omega))
  generalize hs4 : (s2 ++ [stM r.ms r.hi]).set S (.lst ((rs.map fun r => .ref r.s) ++ [.ref s2.length])) = s4 at f2
  have M24 : Mod [S] s2 s4 := by rw [← hs4]; exact Mod.app.trans (Mod.set (by simp))
  have MM : Mod [L, S] st s4 := ((M1.up (by simp)).trans (M12.up (by simp))).trans (M24.up (by simp))
  have A4 : At P.pl s4 st.length (st.length + 2) r.ms r.hi := (A1.mod M12 (by simp; omega) (by simp; omega)).mod M24 (by simp; omega) (by simp; omega)
  refine ⟨rs ++ [⟨st.length, st.length + 2, st.length + 3, r.ms, r.hi⟩], s4, seq_ok f1 f2, h.add ?_ ?_ MM ⟨A4, ?_, v.l9, v.h9⟩ ?_ ⟨by show st.length + 3 ≠ st.length; omega, by show st.length + 3 ≠ st.length + 2; omega⟩ (h.hz r rm) h4, ?_, MM⟩
  · rw [List.map_append]
    refine M24.at ?_ (by simp; exact h.ls)
    rw [← hs2]
    exact List.getElem?_set_self (by omega)
  · rw [List.map_append, ← hs4, l2]
    exact List.getElem?_set_self (by rw [List.length_append]; simp; omega)
  · rw [← hs4, List.getElem?_set_ne (by show S ≠ st.length + 3; omega), ← l2, List.getElem?_append_right (Nat.le_refl _)]
    simp
  · intro a ha
    simp only [Rc.ads, List.mem_cons, List.not_mem_nil, or_false] at ha
    rcases ha with rfl | rfl | rfl <;> omega
  · intro a ha z
    subst z
    rw [List.flatMap_append] at ha
    rcases List.mem_cons.mp ha with rfl | ha
    · exact hg a (by simp) rfl
    rcases List.mem_cons.mp ha with rfl | ha
    · exact hg a (by simp) rfl
    rcases List.mem_append.mp ha with ha | ha
    · exact hg a (List.mem_cons_of_mem _ (List.mem_cons_of_mem _ ha)) rfl
    · simp only [List.flatMap_cons, List.flatMap_nil, List.append_nil, Rc.ads, List.mem_cons, List.not_mem_nil, or_false] at ha
      omega
end
end W66
namespace W66
open PySem L2 PySem.Spec PyProof.Rows FW FL
section
variable {pl : List Str} {st : Sto} {L S K : Nat} {rs : List Rc} {ns : List Int} {g : Nat} {P : Prog} {N : Int}
theorem seed_ok (h : All P.pl st L S rs K) (hK : K ≤ 700) {k : Nat} (hk : k ≤ 63) (l1 : 1 ≤ P.pl.length) (l4 : P.pl.length ≤ 4) (g0 : Nat) (t6 t7 : Option (MV × Bool)) :
    ∃ (g' i : Nat) (u7 : Option (MV × Bool)) (rs' : List Rc) (st' : Sto), b1_law (LLw ns g0 L S P (fz (.int (k : Nat))) t6 t7) st = .ok (.nx, LLw ns g' L S P (fz (.int (k : Nat))) (fz (.int (i : Nat))) u7, st') ∧ All P.pl st' L S rs' (K + 2) := by
  obtain ⟨a, b, a0, b0, b1, eg⟩ := gen_ok ns k hk st
  have f1 : sSet 1 (mSto (mCall 2 M_law_generator [] (mCons (mVar 0) (mCons (mVar 5) mNil)))) (LLw ns g0 L S P (fz (.int (k : Nat))) t6 t7) st = .ok (.nx, LLw ns st.length L S P (fz (.int (k : Nat))) t6 t7, st ++ [.lst [.int a, .int b, .int (1000 * ((k : Nat) : Int))]]) :=
    set_ok (k := .fz) (sto_ok (callV (ms := [.scr ns, .int (k : Nat)]) (b := true) (st1 := st) (cons_ok (f := mVar 0) (k := .fz) rfl rfl (cons_ok (f := mVar 5) (k := .fz) rfl rfl nil_ok)) rfl eg)) rfl
  generalize hs1 : st ++ [.lst [.int a, .int b, .int (1000 * ((k : Nat) : Int))]] = s1 at f1
  have h1 : All P.pl s1 L S rs K := h.mod (A := []) (by rw [← hs1]; exact Mod.app) (fun _ _ => by simp)
  have G1 : GenAt s1 st.length 63000 := ⟨a, b, 1000 * ((k : Nat) : Int), by rw [← hs1]; simp, a0, b0, b1, by omega, by omega, by decide⟩
  have hg1 : ∀ a, a ∈ L :: S :: rs.flatMap Rc.ads → a ≠ st.length := fun a ha => Nat.ne_of_lt (h.lt a ha)
  generalize hgn : st.length = g at *
  have hgl : g < s1.length := by rw [← hs1, List.length_append, hgn]; simp
  have cp : ∃ u6 rs' s2 N', sIf (mAnd (mTv (mOp gLt (mCallB gLen (mCons (mVar 3) mNil)) (mC (.int 4)))) (mTv (mOp (gEqB false) (mCall 2 M_law_random [] (mCons (mVar 1) (mCons (mC (.int 3)) mNil))) (mC (.int 0))))) (sSeq (sSet 6 (mCall 2 M_law_random [] (mCons (mVar 1) (mCons (mCallB gLen (mCons (mVar 3) mNil)) mNil))))
      (sSeq (sApp (mVar 3) (mMeth "Live" "copy" 1 M_Live_copy (mOp gIx (mVar 3) (mVar 6)) mNil))
      (sApp (mVar 4) (mSto (mCallB gListOf (mCons (mOp gIx (mVar 4) (mVar 6)) mNil)))))) sNil (LLw ns g L S P (fz (.int (k : Nat))) t6 t7) s1 = .ok (.nx, LLw ns g L S P (fz (.int (k : Nat))) u6 t7, s2) ∧ All P.pl s2 L S rs' K ∧ (∀ a, a ∈ L :: S :: rs'.flatMap Rc.ads → a ≠ g) ∧ GenAt s2 g N' ∧ N' ≤ 64000 := by
    have l0 := lenLs (f := mVar 3) (lo := LLw ns g L S P (fz (.int (k : Nat))) t6 t7) (st := s1) (k := .fz) (m := .ref L) rfl (vw_at h1.lv)
    rw [List.length_map] at l0
    have c0 : mTv (mOp gLt (mCallB gLen (mCons (mVar 3) mNil)) (mC (.int 4))) (LLw ns g L S P (fz (.int (k : Nat))) t6 t7) s1 = .ok (decide (rs.length < 4), s1) := by
      refine tv_ok (k := .fz) (opV l0 (d_mC (m := .int 4) ..) ?_)
      rw [vw_int, vw_int, d_gLt]
      by_cases q : rs.length < 4
      · rw [decide_eq_true q, decide_eq_true (by omega)]
      · rw [decide_eq_false q, decide_eq_false (by omega)]
    by_cases q4 : rs.length < 4
    · rw [decide_eq_true q4] at c0
      obtain ⟨r, s2, r0, r3, e2, G2⟩ := random_ok (bound := 3) G1 (by decide) (by decide) (by decide)
      have M2 : Mod [g] s1 s2 := Mod.of_gs G2
      have h2 := h1.mod M2 (fun a ha z => hg1 a ha (by simpa using z))
      have c1 : mTv (mOp (gEqB false) (mCall 2 M_law_random [] (mCons (mVar 1) (mCons (mC (.int 3)) mNil))) (mC (.int 0))) (LLw ns g L S P (fz (.int (k : Nat))) t6 t7) s1 = .ok (decide (r = 0), s2) :=
        tv_ok (k := .fz) (opV (a := .int r) (b := .int 0) (callV (ms := [.ref g, .int 3]) (b := false) (st1 := s1) (cons_ok (f := mVar 1) (k := .fz) rfl rfl (cons_ok (d_mC (m := .int 3) ..) rfl nil_ok)) rfl e2) (d_mC (m := .int 0) ..) (by rw [vw_int, vw_int, eqI]; rfl))
      by_cases qr : r = 0
      · rw [decide_eq_true qr] at c1
        have hh1 := h2.l1
        have hh4 := h2.l4
        have l2 := lenLs (f := mVar 3) (lo := LLw ns g L S P (fz (.int (k : Nat))) t6 t7) (st := s2) (k := .fz) (m := .ref L) rfl (vw_at h2.lv)
        rw [List.length_map] at l2
        obtain ⟨i, s3, i0, il, e3, G3⟩ := random_ok (bound := ((rs.length : Nat) : Int)) G2.g (by decide) (by omega) (by omega)
        obtain ⟨i, rfl⟩ : ∃ i' : Nat, i = (i' : Int) := ⟨i.toNat, by omega⟩
        have M3 : Mod [g] s2 s3 := Mod.of_gs G3
        have h3 := h2.mod M3 (fun a ha z => hg1 a ha (by simpa using z))
        have f2 : sSet 6 (mCall 2 M_law_random [] (mCons (mVar 1) (mCons (mCallB gLen (mCons (mVar 3) mNil)) mNil))) (LLw ns g L S P (fz (.int (k : Nat))) t6 t7) s2 = .ok (.nx, LLw ns g L S P (fz (.int (k : Nat))) (fz (.int (i : Nat))) t7, s3) :=
          set_ok (k := .fz) (callV (ms := [.ref g, .int (rs.length : Nat)]) (b := false) (st1 := s2) (cons_ok (f := mVar 1) (k := .fz) rfl rfl (cons_ok l2 rfl nil_ok)) rfl e3) rfl
        obtain ⟨rs', s4, e4, h4, hg4, M4⟩ := copied (ns := ns) h3 q4 hg1 (by have := G3.l; have := G2.l; omega) (r := rs[i]'(by omega)) (List.getElem?_eq_getElem (by omega)) (fz (.int (k : Nat))) t7
        exact ⟨_, rs', s4, _, if_tt (and_tt c0 c1) (seq_ok f2 e4), h4, hg4, G3.g.mod M4 (by simp; exact ⟨fun z => hg4 L (by simp) z.symm, fun z => hg4 S (by simp) z.symm⟩), by decide⟩
      · rw [decide_eq_false qr] at c1
        exact ⟨_, rs, s2, _, if_ff (and_tt c0 c1) (d_sNil ..), h2, hg1, G2.g, by decide⟩
    · rw [decide_eq_false q4] at c0
      exact ⟨_, rs, s1, _, if_ff (and_ff c0) (d_sNil ..), h1, hg1, G1, by decide⟩
  obtain ⟨u6, rs1, s2, N', e2, h2, hg2, G2, hN'⟩ := cp
  obtain ⟨v6, rs2, s3, e3, h3, hg3, G3, L3⟩ := deed (ns := ns) h2 (by omega) hg2 G2 (by omega) l1 l4 (fz (.int (k : Nat))) u6 (fz (.int 0))
  obtain ⟨w6, rs3, s4, e4, h4, hg4, G4, L4⟩ := deed (ns := ns) h3 (by omega) hg3 G3 (by omega) l1 l4 (fz (.int (k : Nat))) (fz (.int (v6 : Nat))) (fz (.int 1))
  have fo : sFor (iRg1 (mC (.int 2))) (gN 7) b2_law (LLw ns g L S P (fz (.int (k : Nat))) u6 t7) s2 = .ok (.nx, LLw ns g L S P (fz (.int (k : Nat))) (fz (.int (w6 : Nat))) (fz (.int 1)), s4) :=
    for_ok (iRg1_ok (k := .fz) (d_mC (m := .int 2) ..) (by decide)) (forL_nx (lo1 := LLw ns g L S P (fz (.int (k : Nat))) u6 (fz (.int 0))) (st1 := s2) rfl e3 (forL_nx (lo1 := LLw ns g L S P (fz (.int (k : Nat))) (fz (.int (v6 : Nat))) (fz (.int 1))) (st1 := s3) rfl e4 forL_end))
  have sh := shows_ok h4 (by omega)
  refine ⟨g, w6, fz (.int 1), rs3, s4, seq_ok f1 (seq_ok e2 (seq_ok fo (if_ff (not_ok (b := true) (tv_ok (k := .fz) (callV (ms := [.ref L, .lst (P.pl.map .str), .ref S]) (b := false) (st1 := s4) (cons_ok (f := mVar 3) (k := .fz) rfl rfl (cons_ok (place_ix (k1 := .fz) (k2 := .fz) rfl rfl) rfl (cons_ok (f := mVar 4) (k := .fz) rfl rfl nil_ok))) rfl sh))) (d_sNil ..)))), h4⟩
end
end W66
namespace W66
open PySem L2 PySem.Spec PyProof.Rows FW FL
section
variable {pl : List Str} {st : Sto} {L S K : Nat} {rs : List Rc} {ns : List Int} {g : Nat} {P : Prog} {N : Int}
abbrev LOt (ns : List Int) (g L S : Nat) (P : Prog) (t5 t6 t7 o t9 : Option (MV × Bool)) : Lo := [fz (.scr ns), fz (.ref g), fz (partsM P), fz (.ref L), fz (.ref S), t5, t6, t7, o, t9]
theorem pEq_live {n j : Nat} {ms : List FL.Move} {hi : Hist} (h : At pl st n j ms hi) (Q : Prog) : M_Program_eq [progM Q, .ref n] st = .ok (.bl false, false, st) := by
  have c1 : mIsi noT (eqc CS "Program") noC (mVar 1) [fz (progM Q), fz (.ref n)] st = .ok (.bl false, .fz, st) := by
    have v1 : mVar 1 [fz (progM Q), fz (.ref n)] st = .ok (.ref n, .fz, st) := rfl
    rw [d_mIsi, v1]
    simp only [Res.ok_bind]
    rw [vw_at h.a]
    rfl
  unfold M_Program_eq g_Program_eq
  exact runF_own (k := .fz) (lo0 := [fz (progM Q), fz (.ref n)]) rfl (ret_ok (andV_ff c1)) rfl
theorem thing_ok (h : All pl st L S rs K) {r : Rc} (hr : rs[0]? = some r) {x : MV} {lo : Lo} (v3 : mVar 3 lo st = .ok (.ref L, .fz, st)) (v9 : mVar 9 lo st = .ok (x, .fz, st))
    (hk : (knM "Live" (vw st x) || decM (vw st x) || insIn (inB ["Program"]) (vw st x)) = true) (hF : M_Live_eq [.ref r.n, x] st = .ok (.bl false, false, st))
    (hA : mOp gIx (mVar 3) (mC (.int 0)) lo st = .ok (.ref r.n, .fz, st) → mAlt (mEqX false "Live" (inB ["Program"]) M_Live_eq (mVar 9) (mOp gIx (mVar 3) (mC (.int 0)))) (mEqX false "Program" (inB ["Live"]) M_Program_eq (mVar 9) (mOp gIx (mVar 3) (mC (.int 0)))) lo st = .ok (.bl false, .fz, st)) :
    b3_law lo st = .ok (.nx, lo, st) := by
  have x0 : mOp gIx (mVar 3) (mC (.int 0)) lo st = .ok (.ref r.n, .fz, st) := h.live (i := 0) hr v3 (d_mC (m := .int 0) ..)
  have hi1 : insOf "Live" "__eq__" (vw st (.ref r.n)) = true := by rw [vw_at (h.one r (List.mem_of_getElem? hr)).a.a]; rfl
  exact if_ff (or_ff (st1 := st) (tv_ok (k := .fz) (eqX_l (neg := false) x0 rfl v9 rfl hi1 hk hF)) (or_ff (st1 := st) (tv_ok (k := .fz) (hA x0)) (not_ok (b := true) (tv_ok (k := .fz) (eqX_l (neg := true) x0 rfl v9 rfl hi1 hk hF))))) (d_sNil ..)
theorem thing_live (h : All pl st L S rs K) {r : Rc} (hr : rs[0]? = some r) {n2 j2 : Nat} {pl2 : List Str} {ms2 : List FL.Move} {hi2 : Hist} (h2 : At pl2 st n2 j2 ms2 hi2) (ne : pl ≠ pl2) {lo : Lo} (v3 : mVar 3 lo st = .ok (.ref L, .fz, st)) (v9 : mVar 9 lo st = .ok (.ref n2, .fz, st)) :
    b3_law lo st = .ok (.nx, lo, st) := by
  have v := (h.one r (List.mem_of_getElem? hr)).a
  have hi2' : insOf "Live" "__eq__" (vw st (.ref n2)) = true := by rw [vw_at h2.a]; rfl
  have hk1 : (knM "Live" (vw st (.ref r.n)) || decM (vw st (.ref r.n)) || insIn (inB ["Program"]) (vw st (.ref r.n))) = true := by rw [vw_at v.a]; rfl
  have q1 : (false = true) ↔ (⟨pl, r.ms⟩ : Prog) = ⟨pl2, ms2⟩ := ⟨fun z => Bool.noConfusion z, fun z => absurd (by injection z) ne⟩
  have q2 : (false = true) ↔ (⟨pl2, ms2⟩ : Prog) = ⟨pl, r.ms⟩ := ⟨fun z => Bool.noConfusion z, fun z => absurd (by injection z with z; exact z.symm) ne⟩
  refine thing_ok h hr v3 v9 (by rw [vw_at h2.a]; rfl) (eq_ok2 v h2 q1) fun x0 => alt_l (eqX_l (neg := false) v9 rfl x0 rfl hi2' hk1 (eq_ok2 h2 v q2))
theorem thing_plain (h : All pl st L S rs K) {r : Rc} (hr : rs[0]? = some r) {x : MV} (hv : vw st x = x) (hd : decM x = true) (ht : tyAns noT (eqc CS "Live") noC x = some false) {lo : Lo} (v3 : mVar 3 lo st = .ok (.ref L, .fz, st)) (v9 : mVar 9 lo st = .ok (x, .fz, st)) :
    b3_law lo st = .ok (.nx, lo, st) := by
  have v := (h.one r (List.mem_of_getElem? hr)).a
  have hi1 : insOf "Live" "__eq__" (vw st (.ref r.n)) = true := by rw [vw_at v.a]; rfl
  have F : M_Live_eq [.ref r.n, x] st = .ok (.bl false, false, st) := eq_no (by rw [hv]; exact ht)
  exact thing_ok h hr v3 v9 (by rw [hv, hd]; simp) F fun x0 => alt_l (eqX_r v9 rfl x0 rfl (by rw [hv]; exact hd) hi1 F)
theorem thing_prog (h : All pl st L S rs K) {r : Rc} (hr : rs[0]? = some r) {Q : Prog} {lo : Lo} (v3 : mVar 3 lo st = .ok (.ref L, .fz, st)) (v9 : mVar 9 lo st = .ok (progM Q, .fz, st)) :
    b3_law lo st = .ok (.nx, lo, st) := by
  have v := (h.one r (List.mem_of_getElem? hr)).a
  have F : M_Live_eq [.ref r.n, progM Q] st = .ok (.bl false, false, st) := eq_no rfl
  exact thing_ok h hr v3 v9 rfl F fun x0 => alt_r (eqX_no v9 x0 rfl rfl) (eqX_l (neg := false) v9 rfl x0 rfl (insP Q st) (by rw [vw_at v.a]; rfl) (pEq_live v Q))
theorem undone_all (h : All pl st L S rs K) {lo : Lo} (hc : clrOk lo [6] = true) (v3 : ∀ s, mVar 3 lo s = .ok (.ref L, .fz, s)) (w3 : ∀ x s, mVar 3 ((wipeM lo [6]).set 6 (fz x)) s = .ok (.ref L, .fz, s)) (w4 : ∀ x s, mVar 4 ((wipeM lo [6]).set 6 (fz x)) s = .ok (.ref S, .fz, s)) (w6 : ∀ x s, mVar 6 ((wipeM lo [6]).set 6 (fz x)) s = .ok (x, .fz, s)) :
    ∃ st', mLc [6] (iRg1 (mCallB gLen (mCons (mVar 3) mNil))) (gN 6) (mNotT (mTv (mCall 2 M_law_undone [] (mCons (mOp gIx (mVar 3) (mVar 6)) (mCons (mOp gIx (mVar 4) (mVar 6)) mNil))))) (mVar 6) lo st = .ok (.lst [], .fr, st') := by
  have l0 := lenLs (f := mVar 3) (lo := lo) (st := st) (k := .fz) (m := .ref L) (v3 st) (vw_at h.lv)
  rw [List.length_map] at l0
  have h4 := h.l4
  obtain ⟨acc, st', e, ha, _⟩ := lcL_run (ck := ckT) (gf := gN 6) (tt := mNotT (mTv (mCall 2 M_law_undone [] (mCons (mOp gIx (mVar 3) (mVar 6)) (mCons (mOp gIx (mVar 4) (mVar 6)) mNil))))) (fe := mVar 6) (lo0 := wipeM lo [6])
    (Inv := fun k acc s => acc = [] ∧ Mod ((rs.take k).flatMap fun r => [r.n, r.j]) st s) (items := rgM 0 (rs.length : Nat)) (fun _ _ _ _ => trivial) (by rw [rgM_len]; exact sz (by omega)) (fun k acc s ⟨h, _⟩ => by rw [h]; simp)
    (fun k x acc s hx ⟨ha, M⟩ => by
      obtain ⟨hxe, hkl⟩ := rgM_get hx
      rw [Int.zero_add] at hxe
      subst hxe
      have hkl' : k < rs.length := by omega
      obtain ⟨r, hr⟩ : ∃ r, rs[k]? = some r := ⟨rs[k], List.getElem?_eq_getElem hkl'⟩
      have rm := List.mem_of_getElem? hr
      have inT : ∀ a, a ∈ ((rs.take k).flatMap fun r => [r.n, r.j]) → ∃ i r2, rs[i]? = some r2 ∧ i < k ∧ a ∈ r2.ads := fun a ha => by
        obtain ⟨r2, h2, ha⟩ := List.mem_flatMap.mp ha
        obtain ⟨i, hi⟩ := List.mem_iff_getElem?.mp h2
        rw [List.getElem?_take] at hi
        split at hi
        · rename_i hik
          refine ⟨i, r2, hi, hik, ?_⟩
          simp only [List.mem_cons, List.not_mem_nil, or_false] at ha
          rcases ha with rfl | rfl <;> simp [Rc.ads]
        · cases hi
      have lvs := M.at h.lv (fun z => by
        obtain ⟨i, r2, e2, _, ha⟩ := inT L z
        exact (h.out r2 (List.mem_of_getElem? e2)).1 ha)
      have svs := M.at h.sv (fun z => by
        obtain ⟨i, r2, e2, _, ha⟩ := inT S z
        exact (h.out r2 (List.mem_of_getElem? e2)).2.1 ha)
      have v := (h.one r rm).mod M fun a ha z => by
        obtain ⟨i, r2, e2, hik, ha2⟩ := inT a z
        exact h.dis k i r r2 hr e2 (by omega) a ha ha2
      obtain ⟨s2, e2, M2⟩ := undone_ok v.a v.s
      have x1 : mOp gIx (mVar 3) (mVar 6) ((wipeM lo [6]).set 6 (fz (.int (k : Nat)))) s = .ok (.ref r.n, .fz, s) := by
        refine opV (w3 _ s) (w6 _ s) ?_
        rw [vw_at lvs, vw_int]
        exact ixL (atI_n _ (by rw [List.getElem?_map, hr]; rfl))
      have x2 : mOp gIx (mVar 4) (mVar 6) ((wipeM lo [6]).set 6 (fz (.int (k : Nat)))) s = .ok (.ref r.s, .fz, s) := by
        refine opV (w4 _ s) (w6 _ s) ?_
        rw [vw_at svs, vw_int]
        exact ixL (atI_n _ (by rw [List.getElem?_map, hr]; rfl))
      have tk : rs.take (k + 1) = rs.take k ++ [r] := by rw [List.take_add_one, hr]; rfl
      refine ⟨(wipeM lo [6]).set 6 (fz (.int (k : Nat))), s, false, s2, rfl, not_ok (b := true) (tv_ok (k := .fz) (callV (ms := [.ref r.n, .ref r.s]) (b := false) (st1 := s) (cons_ok x1 rfl (cons_ok x2 rfl nil_ok)) rfl e2)), .inl ⟨rfl, ha, ?_⟩⟩
      rw [tk, List.flatMap_append]
      exact (M.up fun a ha => List.mem_append_left _ ha).trans (M2.up fun a ha => List.mem_append_right _ (by simpa using ha))) [] st ⟨rfl, .refl⟩
  subst ha
  exact ⟨st', lc_ok hc (iRg1_ok (k := .fz) l0 (by unfold Rg62; omega)) e⟩
end
end W66
namespace W66
open PySem L2 PySem.Spec PyProof.Rows FW FL
abbrev ZZ : List Str := ["zz"]
theorem max2_at {lo : Lo} {st : Sto} {f : EF} {j : Int} {k : Kd} (h : f lo st = .ok (.int j, k, st)) (hk : isPk k = false) : mCallB gMax2 (mCons (mC (.int 2)) (mCons f mNil)) lo st = .ok (.int (max 2 j), .fz, st) := by
  have ar : mCons (mC (.int 2)) (mCons f mNil) lo st = .ok ([.int 2, .int j].map (·, false), st) := cons_ok (d_mC (m := .int 2) ..) rfl (cons_ok h hk nil_ok)
  rw [d_mCallB, ar]
  simp only [Res.ok_bind, List.map_cons, List.map_nil]
  rw [vw_int, vw_int, d_gMax2]
  show Res.ok (MV.int (if j > 2 then j else 2), Kd.fz, st) = _
  congr 3
  split <;> omega
theorem pgZ {k : Nat} (k1 : 1 ≤ k) (k3 : k ≤ 3) : PlG (NB.take k ++ ZZ) := by
  have : k = 1 ∨ k = 2 ∨ k = 3 := by omega
  rcases this with rfl | rfl | rfl <;> exact ⟨by decide, by decide, nms_of (by decide +kernel)⟩
theorem pgZZ : PG ⟨ZZ, []⟩ := ⟨⟨by decide, by decide, nms_of (by decide +kernel)⟩, fun m hm => (nomatch hm), by show 0 ≤ 10; decide⟩
theorem plNe {k : Nat} (k1 : 1 ≤ k) (k3 : k ≤ 3) : NB.take k ≠ NB.take k ++ ZZ ∧ NB.take k ≠ ZZ := by
  have : k = 1 ∨ k = 2 ∨ k = 3 := by omega
  rcases this with rfl | rfl | rfl <;> exact ⟨by decide +kernel, by decide +kernel⟩
theorem addZ {pl : List Str} {ms : List FL.Move} (g : PG ⟨pl, ms⟩) (hz : PlG (pl ++ ZZ)) : PG ⟨pl ++ ZZ, ms⟩ :=
  ⟨hz, fun m hm => by
    have q := g.mv m hm
    exact ⟨List.mem_append_left _ q.p, List.mem_append_left _ q.o, q.l0, q.l8, q.c4, q.c5, q.s0, q.s8⟩, g.len⟩
theorem start_ok (ns : List Int) : ∃ (P : Prog) (k : Nat) (L S : Nat) (rs : List Rc) (s1 s2 : Sto), P.Ok ∧ 1 ≤ k ∧ k ≤ 3 ∧ P.pl = NB.take k ∧
    sSet 1 (mSto (mCall 2 M_law_generator [] (mCons (mVar 0) (mCons (mC (.int 0)) mNil)))) [fz (.scr ns), none, none, none, none, none, none, none, none, none] [] = .ok (.nx, [fz (.scr ns), fz (.ref 0), none, none, none, none, none, none, none, none], s1) ∧
    (∃ s1', sSet 2 (mCall 3 M_law_drawn [] (mCons (mVar 1) (mCons (mC (.int 3)) (mCons (mC (.int 4)) mNil)))) [fz (.scr ns), fz (.ref 0), none, none, none, none, none, none, none, none] s1 = .ok (.nx, [fz (.scr ns), fz (.ref 0), fz (partsM P), none, none, none, none, none, none, none], s1') ∧
    sPar 3 4 false false (mSto (mLst (mCons (mCall 1 M_Live_init [] (mCons (mCall 1 M_law_program [] (mCons (mVar 2) mNil)) mNil)) mNil))) (mSto (mLst (mCons (mSto (mLst (mCons (mOp gIx (mVar 2) (mC (.int 1))) (mCons (mLst mNil) mNil)))) mNil))) [fz (.scr ns), fz (.ref 0), fz (partsM P), none, none, none, none, none, none, none] s1' = .ok (.nx, LLw ns 0 L S P none none none, s2)) ∧ All P.pl s2 L S rs 0 := by
  obtain ⟨a, b, a0, b0, b1, eg⟩ := gen_ok ns 0 (by omega) []
  have G0 : GenAt [MV.lst [.int a, .int b, .int (1000 * ((0 : Nat) : Int))]] 0 5000 := ⟨a, b, 1000 * ((0 : Nat) : Int), by simp, a0, b0, b1, by omega, by omega, by decide⟩
  have f1 : sSet 1 (mSto (mCall 2 M_law_generator [] (mCons (mVar 0) (mCons (mC (.int 0)) mNil)))) [fz (.scr ns), none, none, none, none, none, none, none, none, none] [] = .ok (.nx, [fz (.scr ns), fz (.ref 0), none, none, none, none, none, none, none, none], [MV.lst [.int a, .int b, .int (1000 * ((0 : Nat) : Int))]]) :=
    set_ok (k := .fz) (sto_ok (callV (ms := [.scr ns, .int (0 : Nat)]) (b := true) (st1 := []) (cons_ok (f := mVar 0) (k := .fz) rfl rfl (cons_ok (d_mC (m := .int 0) ..) rfl nil_ok)) rfl eg)) rfl
  obtain ⟨P, s1, hok, ⟨k, k1, k3, hpl⟩, hl4, e2, G2⟩ := drawn_ok G0 (by decide) (many := 3) (by decide) (by decide) (most := 4) (by decide)
  have k3 : k ≤ 3 := by omega
  have plg : PlG P.pl := NM_of ⟨k, k1, by omega, .inr hpl⟩
  have pg : PG P := PG.of hok plg
  have f2 : sSet 2 (mCall 3 M_law_drawn [] (mCons (mVar 1) (mCons (mC (.int 3)) (mCons (mC (.int 4)) mNil)))) [fz (.scr ns), fz (.ref 0), none, none, none, none, none, none, none, none] [MV.lst [.int a, .int b, .int (1000 * ((0 : Nat) : Int))]] = .ok (.nx, [fz (.scr ns), fz (.ref 0), fz (partsM P), none, none, none, none, none, none, none], s1) :=
    set_ok (k := .fr) (callV (ms := [.ref 0, .int 3, .int (4 : Nat)]) (b := true) (cons_ok (f := mVar 1) (k := .fz) rfl rfl (cons_ok (d_mC (m := .int 3) ..) rfl (cons_ok (d_mC (m := .int 4) ..) rfl nil_ok))) rfl e2) rfl
  obtain ⟨e3, A3⟩ := init_live pg s1
  generalize hlo : ([fz (.scr ns), fz (.ref 0), fz (partsM P), none, none, none, none, none, none, none] : Lo) = lo
  have v2 : ∀ s, mVar 2 lo s = .ok (partsM P, .fz, s) := fun s => by rw [← hlo]; rfl
  have g1 : mSto (mLst (mCons (mCall 1 M_Live_init [] (mCons (mCall 1 M_law_program [] (mCons (mVar 2) mNil)) mNil)) mNil)) lo s1 = .ok (.ref (s1 ++ [liveM P (s1.length + 1), .lst []]).length, .fz, s1 ++ [liveM P (s1.length + 1), .lst []] ++ [.lst [.ref s1.length]]) :=
    sto_ok (lst_ok (ms := [.ref s1.length]) (cons_ok (k := .fz) (callV (ms := [progM P]) (b := false) (st1 := s1) (cons_ok (k := .fr) (callV (ms := [partsM P]) (b := true) (st1 := s1) (cons_ok (v2 s1) rfl nil_ok) rfl (makeG pg s1)) rfl nil_ok) rfl e3) rfl nil_ok))
  generalize hs2 : s1 ++ [liveM P (s1.length + 1), .lst []] = s2 at *
  have l2 : s2.length = s1.length + 2 := by rw [← hs2]; simp
  have g2 : mSto (mLst (mCons (mSto (mLst (mCons (mOp gIx (mVar 2) (mC (.int 1))) (mCons (mLst mNil) mNil)))) mNil)) lo (s2 ++ [MV.lst [.ref s1.length]]) = .ok (.ref (s2 ++ [MV.lst [.ref s1.length]] ++ [stM P.mv []]).length, .fz, s2 ++ [MV.lst [.ref s1.length]] ++ [stM P.mv []] ++ [MV.lst [.ref (s2 ++ [MV.lst [.ref s1.length]]).length]]) :=
    sto_ok (lst_ok (ms := [.ref (s2 ++ [MV.lst [.ref s1.length]]).length]) (cons_ok (k := .fz) (sto_ok (lst_ok (ms := [MV.lst (P.mv.map mM), .lst []]) (cons_ok (opV (v2 _) (d_mC (m := .int 1) ..) rfl) rfl (cons_ok (k := .fr) (lst_ok (ms := []) nil_ok) rfl nil_ok)))) rfl nil_ok))
  have f3 := par_ok (i := 3) (j := 4) g1 rfl g2 rfl
  refine ⟨P, k, s1.length + 2, s1.length + 4, [⟨s1.length, s1.length + 1, s1.length + 3, P.mv, []⟩], _, s2 ++ [MV.lst [.ref s1.length]] ++ [stM P.mv []] ++ [MV.lst [.ref (s2 ++ [MV.lst [.ref s1.length]]).length]], hok, k1, k3, hpl, f1, ⟨s1, f2, ?_⟩, ?_⟩
  · rw [hlo, f3, ← hlo]
    have e1 : (s2 ++ [MV.lst [.ref s1.length]] ++ [stM P.mv []]).length = s1.length + 4 := by simp; omega
    rw [l2, e1]
    rfl
  · have M : Mod [] s2 (s2 ++ [MV.lst [.ref s1.length]] ++ [stM P.mv []] ++ [MV.lst [.ref (s2 ++ [MV.lst [.ref s1.length]]).length]]) := (Mod.app.trans Mod.app).trans Mod.app
    have A := A3.mod M (by simp) (by simp)
    have e0 : (s2 ++ [MV.lst [.ref s1.length]]).length = s1.length + 3 := by simp; omega
    rw [e0] at A ⊢
    refine ⟨?_, ?_, fun r hr => ?_, by omega, fun r hr => ?_, fun i k r1 r2 h1 h2 ne => ?_, fun r hr => ?_, by simp, by simp⟩
    · rw [← l2]; simp
    · show _ = some (MV.lst [.ref (s1.length + 3)])
      rw [show s1.length + 4 = (s2 ++ [MV.lst [.ref s1.length]] ++ [stM P.mv []]).length by simp; omega, List.getElem?_append_right (Nat.le_refl _)]
      simp
    · rw [List.mem_singleton] at hr
      subst hr
      refine ⟨A, ?_, by show P.mv.length ≤ 9; omega, fun x hx => nomatch hx⟩
      show (s2 ++ [MV.lst [.ref s1.length]] ++ [stM P.mv []] ++ [MV.lst [.ref (s1.length + 3)]])[s1.length + 3]? = some (stM P.mv [])
      rw [List.append_assoc, List.getElem?_append_right (Nat.le_of_eq e0), e0, Nat.sub_self]
      rfl
    · rw [List.mem_singleton] at hr
      subst hr
      simp only [Rc.ads, List.mem_cons, List.not_mem_nil, or_false]
      omega
    · have z1 : i = 0 := by have := (List.getElem?_eq_some_iff.mp h1).1; simpa using this
      have z2 : k = 0 := by have := (List.getElem?_eq_some_iff.mp h2).1; simpa using this
      omega
    · rw [List.mem_singleton] at hr
      subst hr
      exact Nat.le_refl 0
theorem pure_law (ns : List Int) (_ : ns.length ≤ 63) : ∃ st, M_law [.scr ns] [] = .ok (.bl true, false, st) := by
  obtain ⟨P, k, L, S, rs0, s1, s2, hok, k1, k3, hpl, f1, ⟨s1', f2, f3⟩, h0⟩ := start_ok ns
  have plg : PlG P.pl := NM_of ⟨k, k1, by omega, .inr hpl⟩
  have pl1 : 1 ≤ P.pl.length := plg.l1
  have pl4 : P.pl.length ≤ 4 := plg.l4
  obtain ⟨m, hm, hml⟩ : ∃ m : Nat, mCallB gMax2 (mCons (mC (.int 2)) (mCons (mCallB gLen (mCons (mSlR (mVar 0) oNone (oSome (mC (.int 21)))) mNil)) mNil)) (LLw ns 0 L S P none none none) s2 = .ok (.int ((m : Nat) : Int), .fz, s2) ∧ m ≤ 21 := by
    have sl : mSlR (mVar 0) oNone (oSome (mC (.int 21))) (LLw ns 0 L S P none none none) s2 = .ok (.lst (cutM (ns.map MV.int) none (some ((21 : Nat) : Int))), .fr, s2) := rfl
    have hz : (cutM (ns.map MV.int) none (some ((21 : Nat) : Int))).length ≤ 21 := by
      unfold cutM
      rw [HT.sIx_nat, HT.sIx_none, List.drop_zero, Nat.sub_zero, List.length_take]
      omega
    have := max2_at (lenLs sl (vw_lst ..)) rfl
    exact ⟨max 2 (cutM (ns.map MV.int) none (some ((21 : Nat) : Int))).length, by rw [this]; congr 3; omega, by omega⟩
  obtain ⟨lo', s3, e3, ⟨g, t5, t6, t7, hlo, ht6⟩, rs, h3⟩ := forL_run (ck := fun _ _ => True) (gf := gN 5) (body := b1_law) (Inv := fun k lo s => (∃ g t5 t6 t7, lo = LLw ns g L S P t5 t6 t7 ∧ (t6 = none ∨ ∃ i : Nat, t6 = fz (.int (i : Nat)))) ∧ ∃ rs, All P.pl s L S rs (2 * k)) (items := rgM 1 (m : Nat)) (fun _ _ _ _ => trivial)
    (fun k x lo s hx ⟨⟨g, t5, t6, t7, hl, _⟩, rs, h⟩ => by
      obtain ⟨hxe, hkl⟩ := rgM_get hx
      subst hl
      have hkl : k < 21 := by omega
      obtain ⟨g', i, u7, rs', s', e, h'⟩ := seed_ok h (by omega) (k := 1 + k) (by omega) pl1 pl4 g t6 t7 (ns := ns)
      rw [show x = MV.int ((1 + k : Nat) : Int) by rw [hxe]; congr 1]
      exact ⟨_, s, _, s', rfl, e, ⟨_, _, _, _, rfl, .inr ⟨i, rfl⟩⟩, rs', by rw [show 2 * (k + 1) = 2 * k + 2 by omega]; exact h'⟩) (LLw ns 0 L S P none none none) s2 ⟨⟨_, _, _, _, rfl, .inl rfl⟩, rs0, h0⟩
  rw [rgM_len] at h3
  have hK : 2 * ((m : Int) - 1).toNat ≤ 1000 := by omega
  generalize 2 * ((m : Int) - 1).toNat = K at *
  subst hlo
  have f4 : sFor (iRg2 (mC (.int 1)) (mCallB gMax2 (mCons (mC (.int 2)) (mCons (mCallB gLen (mCons (mSlR (mVar 0) oNone (oSome (mC (.int 21)))) mNil)) mNil)))) (gN 5) b1_law (LLw ns 0 L S P none none none) s2 = .ok (.nx, LLw ns g L S P t5 t6 t7, s3) :=
    for_ok (iRg2_ok (k := .fz) (d_mC (m := .int 1) ..) hm (by unfold Rg62; omega)) e3
  obtain ⟨r, hr⟩ : ∃ r, rs[0]? = some r := ⟨rs[0]'(h3.l1), List.getElem?_eq_getElem h3.l1⟩
  have rm := List.mem_of_getElem? hr
  have v := h3.one r rm
  have pgz := addZ v.a.g (by rw [hpl]; exact pgZ k1 k3)
  obtain ⟨e5, A5⟩ := init_live pgz s3
  generalize hs4 : s3 ++ [liveM ⟨P.pl ++ ZZ, r.ms⟩ (s3.length + 1), .lst []] = s4 at e5 A5
  have M4 : Mod [] s3 s4 := by rw [← hs4]; exact Mod.app
  obtain ⟨e6, A6⟩ := init_live pgZZ s4
  generalize hs5 : s4 ++ [liveM ⟨ZZ, []⟩ (s4.length + 1), .lst []] = s5 at e6 A6
  have M5 : Mod [] s4 s5 := by rw [← hs5]; exact Mod.app
  have h5 := h3.mod (M4.trans M5) (fun _ _ => by simp)
  have A5' := A5.mod M5 (by simp) (by simp)
  have f5 : sSet 8 (mLst (mCons (mCall 1 M_Live_init [] (mCons (mCall 2 M_Program_init [] (mCons (mOp gAdd (mOp gIx (mVar 2) (mC (.int 0))) (mLst (mCons (mC (.str "zz")) mNil))) (mCons (mCallB gListOf (mCons (mOp gIx (mOp gIx (mVar 4) (mC (.int 0))) (mC (.int 0))) mNil)) mNil))) mNil)) (mCons (mCall 1 M_Live_init [] (mCons (mCall 2 M_Program_init [] (mCons (mLst (mCons (mC (.str "zz")) mNil)) (mCons (mLst mNil) mNil))) mNil)) mNil))) (LLw ns g L S P t5 t6 t7) s3 = .ok (.nx, LOt ns g L S P t5 t6 t7 (fz (.lst [.ref s3.length, .ref s4.length])) none, s5) := by
    have x0 := v.ms_ok (h3.kept (i := 0) hr (f := mVar 4) (g := mC (.int 0)) (lo := LLw ns g L S P t5 t6 t7) (k1 := .fz) (k2 := .fz) rfl rfl)
    have pz := addL (place_ix (P := P) (f := mVar 2) (g := mC (.int 0)) (lo := LLw ns g L S P t5 t6 t7) (st := s3) (k1 := .fz) (k2 := .fz) rfl rfl) (lst_ok (ms := [.str "zz"]) (cons_ok (d_mC (m := .str "zz") ..) rfl nil_ok)) (by rw [List.length_map]; simp; omega)
    rw [show P.pl.map MV.str ++ [.str "zz"] = plM ⟨P.pl ++ ZZ, r.ms⟩ by unfold plM; rw [List.map_append]; rfl] at pz
    have c1 := callV (n := 1) (F := M_Live_init) (ms := [progM ⟨P.pl ++ ZZ, r.ms⟩]) (b := false) (st1 := s3) (cons_ok (k := .fr) (callV (n := 2) (F := M_Program_init) (ms := [.lst (plM ⟨P.pl ++ ZZ, r.ms⟩), .lst (mvM ⟨P.pl ++ ZZ, r.ms⟩)]) (b := true) (st1 := s3) (cons_ok (k := .fr) pz rfl (cons_ok (k := .fr) (listLs (k := .fz) x0 rfl) rfl nil_ok)) rfl (makeP pgz s3)) rfl nil_ok) rfl e5
    have c2 := callV (n := 1) (F := M_Live_init) (lo := LLw ns g L S P t5 t6 t7) (ms := [progM ⟨ZZ, []⟩]) (b := false) (st1 := s4) (cons_ok (k := .fr) (callV (n := 2) (F := M_Program_init) (ms := [.lst (plM ⟨ZZ, []⟩), .lst (mvM ⟨ZZ, []⟩)]) (b := true) (st1 := s4) (cons_ok (k := .fr) (lst_ok (ms := [.str "zz"]) (cons_ok (d_mC (m := .str "zz") ..) rfl nil_ok)) rfl (cons_ok (k := .fr) (lst_ok (ms := []) nil_ok) rfl nil_ok)) rfl (makeP pgZZ s4)) rfl nil_ok) rfl e6
    exact set_ok (k := .fr) (lst_ok (ms := [.ref s3.length, .ref s4.length]) (cons_ok c1 rfl (cons_ok c2 rfl nil_ok))) rfl
  have v5 := h5.one r rm
  obtain ⟨pn1, pn2⟩ := plNe k1 k3
  rw [← hpl] at pn1 pn2
  have f6 : ∃ t9, sFor (iSeq (mOp gAdd (mVar 8) (mLst (mCons (mC .non) (mCons (mC (.int 0)) (mCons (mLst mNil) (mCons mDct0 (mCons (mC (.str "live")) (mCons (mMeth "Live" "shown" 1 M_Live_shown (mOp gIx (mVar 3) (mC (.int 0))) mNil) mNil))))))))) (gN 9) b3_law (LOt ns g L S P t5 t6 t7 (fz (.lst [.ref s3.length, .ref s4.length])) none) s5 = .ok (.nx, LOt ns g L S P t5 t6 t7 (fz (.lst [.ref s3.length, .ref s4.length])) t9, s5) := by
    have sh := methC (cls := "Live") (name := "shown") (n := 1) (g := mNil) (ms := []) (b' := true) (h5.live (i := 0) hr (f := mVar 3) (g := mC (.int 0)) (lo := LOt ns g L S P t5 t6 t7 (fz (.lst [.ref s3.length, .ref s4.length])) none) (k1 := .fz) (k2 := .fz) rfl rfl) rfl v5.a.a rfl nil_ok rfl (shown_ok v5.a)
    have ls := lst_ok (ms := [.non, .int 0, .lst [], .dct [], .str "live", progM ⟨P.pl, r.ms⟩]) (cons_ok (d_mC (m := .non) ..) rfl (cons_ok (d_mC (m := .int 0) ..) rfl (cons_ok (k := .fr) (lst_ok (ms := []) nil_ok) rfl (cons_ok (f := mDct0) (k := .fr) rfl rfl (cons_ok (d_mC (m := .str "live") ..) rfl (cons_ok sh rfl nil_ok))))))
    have ad := addL (f := mVar 8) (xs := [.ref s3.length, .ref s4.length]) (k := .fz) rfl ls (by simp)
    obtain ⟨lo', e, t9, hl⟩ := for_lo (gf := gN 9) (body := b3_law) (st := s5) (I := fun lo => ∃ t9, lo = LOt ns g L S P t5 t6 t7 (fz (.lst [.ref s3.length, .ref s4.length])) t9) ([.ref s3.length, .ref s4.length] ++ [.non, .int 0, .lst [], .dct [], .str "live", progM ⟨P.pl, r.ms⟩]) (LOt ns g L S P t5 t6 t7 (fz (.lst [.ref s3.length, .ref s4.length])) none) (fun x hx lo ⟨t9, hl⟩ => by
        subst hl
        refine ⟨_, LOt ns g L S P t5 t6 t7 (fz (.lst [.ref s3.length, .ref s4.length])) (fz x), rfl, ?_, _, rfl⟩
        show b3_law (LOt ns g L S P t5 t6 t7 (fz (.lst [.ref s3.length, .ref s4.length])) (fz x)) s5 = _
        simp only [List.cons_append, List.nil_append, List.mem_cons, List.not_mem_nil, or_false] at hx
        rcases hx with rfl | rfl | rfl | rfl | rfl | rfl | rfl | rfl
        · exact thing_live h5 hr A5' pn1 rfl rfl
        · exact thing_live h5 hr A6 pn2 rfl rfl
        · exact thing_plain h5 hr rfl rfl rfl rfl rfl
        · exact thing_plain h5 hr rfl rfl rfl rfl rfl
        · exact thing_plain h5 hr rfl rfl rfl rfl rfl
        · exact thing_plain h5 hr rfl rfl rfl rfl rfl
        · exact thing_plain h5 hr rfl rfl rfl rfl rfl
        · exact thing_prog h5 hr rfl rfl) ⟨none, rfl⟩
    subst hl
    exact ⟨t9, for_ok (iSeq_ok ad rfl) e⟩
  obtain ⟨t9, f6⟩ := f6
  generalize hlo : LOt ns g L S P t5 t6 t7 (fz (.lst [.ref s3.length, .ref s4.length])) t9 = lo at f6
  have w3 : ∀ s, mVar 3 lo s = .ok (.ref L, .fz, s) := fun s => by rw [← hlo]; rfl
  have f7 : ∃ s7, sIf (mOr (mTv (mEqA true "Live" M_Live_eq (mOp gIx (mVar 3) (mC (.int 0))) (mMeth "Live" "copy" 1 M_Live_copy (mOp gIx (mVar 3) (mC (.int 0))) mNil))) (mTv (mOp (gEqB true) (mMeth "Live" "log" 1 M_Live_log (mMeth "Live" "copy" 1 M_Live_copy (mOp gIx (mVar 3) (mC (.int 0))) mNil) mNil) (mMeth "Live" "log" 1 M_Live_log (mOp gIx (mVar 3) (mC (.int 0))) mNil)))) (sRet (mC (.bl false))) sNil lo s5 = .ok (.nx, lo, s7) ∧ Mod [] s5 s7 := by
    have x5 := h5.live (i := 0) hr (g := mC (.int 0)) (w3 s5) (d_mC (m := .int 0) ..)
    obtain ⟨s6, e7, A7, M7, _⟩ := copy_ok v5.a
    have h6 := h5.mod M7 (fun _ _ => by simp)
    have v6 := h6.one r rm
    have x6 := h6.live (i := 0) hr (g := mC (.int 0)) (w3 s6) (d_mC (m := .int 0) ..)
    obtain ⟨s7, e8, A8, M8, _⟩ := copy_ok v6.a
    have h7 := h6.mod M8 (fun _ _ => by simp)
    have v7 := h7.one r rm
    have x7 := h7.live (i := 0) hr (g := mC (.int 0)) (w3 s7) (d_mC (m := .int 0) ..)
    have hl7 : r.hi.length ≤ 1000 := Nat.le_trans (h7.hz r rm) hK
    have c1 : mTv (mEqA true "Live" M_Live_eq (mOp gIx (mVar 3) (mC (.int 0))) (mMeth "Live" "copy" 1 M_Live_copy (mOp gIx (mVar 3) (mC (.int 0))) mNil)) lo s5 = .ok (false, s6) :=
      tv_ok (k := .fz) (eqA_l (neg := true) x5 rfl (methC (ms := []) (b' := false) x5 rfl v5.a.a rfl nil_ok rfl e7) rfl (by rw [vw_at v6.a.a]; rfl) (by rw [vw_at A7.a]; rfl) (eq_ok2 (q := true) v6.a A7 ⟨fun _ => rfl, fun _ => rfl⟩))
    have c2 : mTv (mOp (gEqB true) (mMeth "Live" "log" 1 M_Live_log (mMeth "Live" "copy" 1 M_Live_copy (mOp gIx (mVar 3) (mC (.int 0))) mNil) mNil) (mMeth "Live" "log" 1 M_Live_log (mOp gIx (mVar 3) (mC (.int 0))) mNil)) lo s6 = .ok (false, s7) := by
      refine tv_ok (k := .fz) (opV (methC (ms := []) (b' := true) (methC (ms := []) (b' := false) x6 rfl v6.a.a rfl nil_ok rfl e8) rfl A8.a rfl nil_ok rfl (log_ok A8 hl7)) (methC (ms := []) (b' := true) x7 rfl v7.a.a rfl nil_ok rfl (log_ok v7.a hl7)) ?_)
      rw [vw_lst]
      exact eq_self (neg := true) (gd_le (n := 9) (gd_lst fun x hx => by
        obtain ⟨y, hy, rfl⟩ := List.mem_map.mp hx
        exact (v7.h9 y hy).2.g) (by decide)) s7
    exact ⟨s7, if_ff (or_ff c1 c2) (d_sNil ..), M7.trans M8⟩
  obtain ⟨s7, f7, M7⟩ := f7
  have h7 := h5.mod M7 (fun _ _ => by simp)
  obtain ⟨s8, e8, M8⟩ := many_ok s7
  have h8 := h7.mod M8 (fun _ _ => by simp)
  have v8 := h8.one r rm
  have x8 := h8.live (i := 0) hr (g := mC (.int 0)) (w3 s8) (d_mC (m := .int 0) ..)
  obtain ⟨s9, e9, M9⟩ := noProg_ok v8.a
  have h9 := h8.mod M9 (fun _ _ => by simp)
  have f8 : sIf (mOr (mNotT (mTv (mCall 0 M_law_many_right [] mNil))) (mNotT (mTv (mCall 1 M_law_no_program [] (mCons (mOp gIx (mVar 3) (mC (.int 0))) mNil))))) (sRet (mC (.bl false))) sNil lo s7 = .ok (.nx, lo, s9) :=
    if_ff (or_ff (st1 := s8) (not_ok (b := true) (tv_ok (k := .fz) (callV (ms := []) (b := false) (st1 := s7) nil_ok rfl e8))) (not_ok (b := true) (tv_ok (k := .fz) (callV (ms := [.ref r.n]) (b := false) (st1 := s8) (cons_ok x8 rfl nil_ok) rfl e9)))) (d_sNil ..)
  obtain ⟨s10, e10⟩ := undone_all h9 (lo := lo) (by
    rw [← hlo]
    rcases ht6 with rfl | ⟨i, rfl⟩ <;> rfl) w3 (fun x s => by rw [← hlo]; rfl) (fun x s => by rw [← hlo]; rfl) (fun x s => by rw [← hlo]; rfl)
  have f9 : sRet (mOp (gLNil false) (mLc [6] (iRg1 (mCallB gLen (mCons (mVar 3) mNil))) (gN 6) (mNotT (mTv (mCall 2 M_law_undone [] (mCons (mOp gIx (mVar 3) (mVar 6)) (mCons (mOp gIx (mVar 4) (mVar 6)) mNil))))) (mVar 6)) (mLst mNil)) lo s9 = .ok (.rt (.bl true) .fz, lo, s10) :=
    ret_ok (opV e10 (lst_ok (ms := []) nil_ok) rfl)
  refine ⟨s10, ?_⟩
  unfold M_law g_law
  exact runF_own (k := .fz) (lo0 := [fz (.scr ns), none, none, none, none, none, none, none, none, none]) rfl (seq_ok f1 (seq_ok f2 (seq_ok f3 (seq_ok f4 (seq_ok f5 (seq_ok f6 (seq_ok f7 (seq_ok f8 f9)))))))) rfl
end W66
namespace W66
open PySem L2 PySem.Spec PyProof.Rows FW FL
theorem all_mk {P : Program} {K : PySem.W.Frag} {hp : Heap} {mg : Str → Option Value} {fa : Addr} (X : K.In hp) (G : hp.Ns mainGlobals mg) (hfa : mg "law" = some (.ref fa))
    {K0 : Addr}
    {K1 : Addr}
    {K2 : Addr}
    {K3 : Addr}
    {K4 : Addr}
    {f0 : Addr} {oc0 kV0 dc0 pm0 cd0 ct0 : Value} {od0 an0 : Option Addr} {sl0 : Array (Option Value)}
    {f1 : Addr} {oc1 kV1 dc1 pm1 cd1 ct1 : Value} {od1 an1 : Option Addr} {sl1 : Array (Option Value)}
    {f2 : Addr} {oc2 kV2 dc2 pm2 cd2 ct2 : Value} {od2 an2 : Option Addr} {sl2 : Array (Option Value)}
    {f3 : Addr} {oc3 kV3 dc3 pm3 cd3 ct3 : Value} {od3 an3 : Option Addr} {sl3 : Array (Option Value)}
    {f4 : Addr} {oc4 kV4 dc4 pm4 cd4 ct4 : Value} {od4 an4 : Option Addr} {sl4 : Array (Option Value)}
    {f5 : Addr} {oc5 kV5 dc5 pm5 cd5 ct5 : Value} {od5 an5 : Option Addr} {sl5 : Array (Option Value)}
    {f6 : Addr} {oc6 kV6 dc6 pm6 cd6 ct6 : Value} {od6 an6 : Option Addr} {sl6 : Array (Option Value)}
    {f7 : Addr} {oc7 kV7 dc7 pm7 cd7 ct7 : Value} {od7 an7 : Option Addr} {sl7 : Array (Option Value)}
    {f8 : Addr} {oc8 kV8 dc8 pm8 cd8 ct8 : Value} {od8 an8 : Option Addr} {sl8 : Array (Option Value)}
    {f9 : Addr} {oc9 kV9 dc9 pm9 cd9 ct9 : Value} {od9 an9 : Option Addr} {sl9 : Array (Option Value)}
    {f10 : Addr} {oc10 kV10 dc10 pm10 cd10 ct10 : Value} {od10 an10 : Option Addr} {sl10 : Array (Option Value)}
    {f11 : Addr} {oc11 kV11 dc11 pm11 cd11 ct11 : Value} {od11 an11 : Option Addr} {sl11 : Array (Option Value)}
    {f12 : Addr} {oc12 kV12 dc12 pm12 cd12 ct12 : Value} {od12 an12 : Option Addr} {sl12 : Array (Option Value)}
    {f13 : Addr} {oc13 kV13 dc13 pm13 cd13 ct13 : Value} {od13 an13 : Option Addr} {sl13 : Array (Option Value)}
    {f14 : Addr} {oc14 kV14 dc14 pm14 cd14 ct14 : Value} {od14 an14 : Option Addr} {sl14 : Array (Option Value)}
    {f15 : Addr} {oc15 kV15 dc15 pm15 cd15 ct15 : Value} {od15 an15 : Option Addr} {sl15 : Array (Option Value)}
    {f16 : Addr} {oc16 kV16 dc16 pm16 cd16 ct16 : Value} {od16 an16 : Option Addr} {sl16 : Array (Option Value)}
    {f17 : Addr} {oc17 kV17 dc17 pm17 cd17 ct17 : Value} {od17 an17 : Option Addr} {sl17 : Array (Option Value)}
    {f18 : Addr} {oc18 kV18 dc18 pm18 cd18 ct18 : Value} {od18 an18 : Option Addr} {sl18 : Array (Option Value)}
    {f19 : Addr} {oc19 kV19 dc19 pm19 cd19 ct19 : Value} {od19 an19 : Option Addr} {sl19 : Array (Option Value)}
    {f20 : Addr} {oc20 kV20 dc20 pm20 cd20 ct20 : Value} {od20 an20 : Option Addr} {sl20 : Array (Option Value)}
    {f21 : Addr} {oc21 kV21 dc21 pm21 cd21 ct21 : Value} {od21 an21 : Option Addr} {sl21 : Array (Option Value)}
    {f22 : Addr} {oc22 kV22 dc22 pm22 cd22 ct22 : Value} {od22 an22 : Option Addr} {sl22 : Array (Option Value)}
    {f23 : Addr} {oc23 kV23 dc23 pm23 cd23 ct23 : Value} {od23 an23 : Option Addr} {sl23 : Array (Option Value)}
    {f24 : Addr} {oc24 kV24 dc24 pm24 cd24 ct24 : Value} {od24 an24 : Option Addr} {sl24 : Array (Option Value)}
    {f25 : Addr} {oc25 kV25 dc25 pm25 cd25 ct25 : Value} {od25 an25 : Option Addr} {sl25 : Array (Option Value)}
    {f26 : Addr} {oc26 kV26 dc26 pm26 cd26 ct26 : Value} {od26 an26 : Option Addr} {sl26 : Array (Option Value)}
    {f27 : Addr} {oc27 kV27 dc27 pm27 cd27 ct27 : Value} {od27 an27 : Option Addr} {sl27 : Array (Option Value)}
    {f28 : Addr} {oc28 kV28 dc28 pm28 cd28 ct28 : Value} {od28 an28 : Option Addr} {sl28 : Array (Option Value)}
    {f29 : Addr} {oc29 kV29 dc29 pm29 cd29 ct29 : Value} {od29 an29 : Option Addr} {sl29 : Array (Option Value)}
    {f30 : Addr} {oc30 kV30 dc30 pm30 cd30 ct30 : Value} {od30 an30 : Option Addr} {sl30 : Array (Option Value)}
    {f31 : Addr} {oc31 kV31 dc31 pm31 cd31 ct31 : Value} {od31 an31 : Option Addr} {sl31 : Array (Option Value)}
    {f32 : Addr} {oc32 kV32 dc32 pm32 cd32 ct32 : Value} {od32 an32 : Option Addr} {sl32 : Array (Option Value)}
    {f33 : Addr} {oc33 kV33 dc33 pm33 cd33 ct33 : Value} {od33 an33 : Option Addr} {sl33 : Array (Option Value)}
    {f34 : Addr} {oc34 kV34 dc34 pm34 cd34 ct34 : Value} {od34 an34 : Option Addr} {sl34 : Array (Option Value)}
    {f35 : Addr} {oc35 kV35 dc35 pm35 cd35 ct35 : Value} {od35 an35 : Option Addr} {sl35 : Array (Option Value)}
    {f36 : Addr} {oc36 kV36 dc36 pm36 cd36 ct36 : Value} {od36 an36 : Option Addr} {sl36 : Array (Option Value)}
    {f37 : Addr} {oc37 kV37 dc37 pm37 cd37 ct37 : Value} {od37 an37 : Option Addr} {sl37 : Array (Option Value)}
    {f38 : Addr} {oc38 kV38 dc38 pm38 cd38 ct38 : Value} {od38 an38 : Option Addr} {sl38 : Array (Option Value)}
    {f39 : Addr} {oc39 kV39 dc39 pm39 cd39 ct39 : Value} {od39 an39 : Option Addr} {sl39 : Array (Option Value)}
    {f40 : Addr} {oc40 kV40 dc40 pm40 cd40 ct40 : Value} {od40 an40 : Option Addr} {sl40 : Array (Option Value)}
    {f41 : Addr} {oc41 kV41 dc41 pm41 cd41 ct41 : Value} {od41 an41 : Option Addr} {sl41 : Array (Option Value)}
    {t_LETTERS : Tok}
    {t_MOST_CHANGE : Tok}
    {t_MOST_LEAST : Tok}
    {t_MOST_LETTERS : Tok}
    {t_MOST_MOVES : Tok}
    {t_MOST_PLACES : Tok}
    {W : Addr}
    {C0 N0 I0 T0 cda0 cc0 : Addr} {nm0 q0 : Str} {bs0 : List Value} {sn0 : List Str} {sub0 : List Value} {ab0 : Bool} {col0 : Option Bool} {dd0 : Option Addr} {x00 x10 x20 x30 x50 : Option Value} {ioc0 ikV0 idc0 ipm0 ict0 ccl0 ccl20 tcl0 : Value} {iod0 ian0 cdd0 cld0 tod0 : Option Addr} {isl0 ccs0 csl0 tsl0 : Array (Option Value)} {vs0 : Array Value} {n0 : Nat} {file0 : Str} {tf0 : Tok}
    {C1 N1 I1 T1 cda1 cc1 : Addr} {nm1 q1 : Str} {bs1 : List Value} {sn1 : List Str} {sub1 : List Value} {ab1 : Bool} {col1 : Option Bool} {dd1 : Option Addr} {x01 x11 x21 x31 x51 : Option Value} {ioc1 ikV1 idc1 ipm1 ict1 ccl1 ccl21 tcl1 : Value} {iod1 ian1 cdd1 cld1 tod1 : Option Addr} {isl1 ccs1 csl1 tsl1 : Array (Option Value)} {vs1 : Array Value} {n1 : Nat} {file1 : Str} {tf1 : Tok}
    {C2 N2 I2 T2 cda2 cc2 : Addr} {nm2 q2 : Str} {bs2 : List Value} {sn2 : List Str} {sub2 : List Value} {ab2 : Bool} {col2 : Option Bool} {dd2 : Option Addr} {x02 x12 x22 x32 x52 : Option Value} {ioc2 ikV2 idc2 ipm2 ict2 ccl2 ccl22 tcl2 : Value} {iod2 ian2 cdd2 cld2 tod2 : Option Addr} {isl2 ccs2 csl2 tsl2 : Array (Option Value)} {vs2 : Array Value} {n2 : Nat} {file2 : Str} {tf2 : Tok}
    {C3 N3 I3 T3 cda3 cc3 : Addr} {nm3 q3 : Str} {bs3 : List Value} {sn3 : List Str} {sub3 : List Value} {ab3 : Bool} {col3 : Option Bool} {dd3 : Option Addr} {x03 x13 x23 x33 x53 : Option Value} {ioc3 ikV3 idc3 ipm3 ict3 ccl3 ccl23 tcl3 : Value} {iod3 ian3 cdd3 cld3 tod3 : Option Addr} {isl3 ccs3 csl3 tsl3 : Array (Option Value)} {vs3 : Array Value} {n3 : Nat} {file3 : Str} {tf3 : Tok}
    {C4 N4 I4 T4 cda4 cc4 : Addr} {nm4 q4 : Str} {bs4 : List Value} {sn4 : List Str} {sub4 : List Value} {ab4 : Bool} {col4 : Option Bool} {dd4 : Option Addr} {x04 x14 x24 x34 x54 : Option Value} {ioc4 ikV4 idc4 ipm4 ict4 ccl4 ccl24 tcl4 : Value} {iod4 ian4 cdd4 cld4 tod4 : Option Addr} {isl4 ccs4 csl4 tsl4 : Array (Option Value)} {vs4 : Array Value} {n4 : Nat} {file4 : Str} {tf4 : Tok}
    {UN : Addr}
    (aK0 : PySem.W.nsIn K mainGlobals "Window" = some (some (.ref K0)))
    (aK1 : PySem.W.nsIn K mainGlobals "Book" = some (some (.ref K1)))
    (aK2 : PySem.W.nsIn K mainGlobals "Program" = some (some (.ref K2)))
    (aK3 : PySem.W.nsIn K mainGlobals "Live" = some (some (.ref K3)))
    (aK4 : PySem.W.nsIn K mainGlobals "Tested" = some (some (.ref K4)))
    (a0 : PySem.W.findIn K (.ref K2) "__eq__" = some (some (.ref f0)))
    (fn0 : PySem.W.isFn K (.ref f0) = true)
    (l0 : K.lookup f0 = some ⟨oc0, od0, .func (PySem.W.fnOf "__eq__" "Program.__eq__" (defArgs s_Program_eq) (defBody s_Program_eq) (defScope s_Program_eq) .none kV0 dc0 pm0 an0 cd0 ct0), sl0⟩)
    (c0 : PySem.W.codeIn K cd0 "Program.__eq__" = true)
    (k0 : PySem.W.keepIn K (.ref f0) = true)
    (a1 : PySem.W.findIn K (.ref K3) "__eq__" = some (some (.ref f1)))
    (fn1 : PySem.W.isFn K (.ref f1) = true)
    (l1 : K.lookup f1 = some ⟨oc1, od1, .func (PySem.W.fnOf "__eq__" "Live.__eq__" (defArgs s_Live_eq) (defBody s_Live_eq) (defScope s_Live_eq) .none kV1 dc1 pm1 an1 cd1 ct1), sl1⟩)
    (c1 : PySem.W.codeIn K cd1 "Live.__eq__" = true)
    (k1 : PySem.W.keepIn K (.ref f1) = true)
    (a2 : PySem.W.nsIn K mainGlobals "check_program" = some (some (.ref f2)))
    (l2 : K.lookup f2 = some ⟨oc2, od2, .func (PySem.W.fnOf "check_program" "check_program" (defArgs s_check_program) (defBody s_check_program) (defScope s_check_program) .none kV2 dc2 pm2 an2 cd2 ct2), sl2⟩)
    (c2 : PySem.W.codeIn K cd2 "check_program" = true)
    (k2 : PySem.W.keepIn K (.ref f2) = true)
    (a3 : PySem.W.findIn K (.ref K3) "__init__" = some (some (.ref f3)))
    (fn3 : PySem.W.isFn K (.ref f3) = true)
    (l3 : K.lookup f3 = some ⟨oc3, od3, .func (PySem.W.fnOf "__init__" "Live.__init__" (defArgs s_Live_init) (defBody s_Live_init) (defScope s_Live_init) .none kV3 dc3 pm3 an3 cd3 ct3), sl3⟩)
    (c3 : PySem.W.codeIn K cd3 "Live.__init__" = true)
    (k3 : PySem.W.keepIn K (.ref f3) = true)
    (a4 : PySem.W.findIn K (.ref K3) "copy" = some (some (.ref f4)))
    (fn4 : PySem.W.isFn K (.ref f4) = true)
    (l4 : K.lookup f4 = some ⟨oc4, od4, .func (PySem.W.fnOf "copy" "Live.copy" (defArgs s_Live_copy) (defBody s_Live_copy) (defScope s_Live_copy) .none kV4 dc4 pm4 an4 cd4 ct4), sl4⟩)
    (c4 : PySem.W.codeIn K cd4 "Live.copy" = true)
    (k4 : PySem.W.keepIn K (.ref f4) = true)
    (a5 : PySem.W.findIn K (.ref K3) "log" = some (some (.ref f5)))
    (fn5 : PySem.W.isFn K (.ref f5) = true)
    (l5 : K.lookup f5 = some ⟨oc5, od5, .func (PySem.W.fnOf "log" "Live.log" (defArgs s_Live_log) (defBody s_Live_log) (defScope s_Live_log) .none kV5 dc5 pm5 an5 cd5 ct5), sl5⟩)
    (c5 : PySem.W.codeIn K cd5 "Live.log" = true)
    (k5 : PySem.W.keepIn K (.ref f5) = true)
    (a6 : PySem.W.nsIn K mainGlobals "is_whole" = some (some (.ref f6)))
    (l6 : K.lookup f6 = some ⟨oc6, od6, .func (PySem.W.fnOf "is_whole" "is_whole" (defArgs s_is_whole) (defBody s_is_whole) (defScope s_is_whole) .none kV6 dc6 pm6 an6 cd6 ct6), sl6⟩)
    (c6 : PySem.W.codeIn K cd6 "is_whole" = true)
    (k6 : PySem.W.keepIn K (.ref f6) = true)
    (a7 : PySem.W.nsIn K mainGlobals "is_within" = some (some (.ref f7)))
    (l7 : K.lookup f7 = some ⟨oc7, od7, .func (PySem.W.fnOf "is_within" "is_within" (defArgs s_is_within) (defBody s_is_within) (defScope s_is_within) .none kV7 dc7 pm7 an7 cd7 ct7), sl7⟩)
    (c7 : PySem.W.codeIn K cd7 "is_within" = true)
    (k7 : PySem.W.keepIn K (.ref f7) = true)
    (a8 : PySem.W.nsIn K mainGlobals "is_move" = some (some (.ref f8)))
    (l8 : K.lookup f8 = some ⟨oc8, od8, .func (PySem.W.fnOf "is_move" "is_move" (defArgs s_is_move) (defBody s_is_move) (defScope s_is_move) .none kV8 dc8 pm8 an8 cd8 ct8), sl8⟩)
    (c8 : PySem.W.codeIn K cd8 "is_move" = true)
    (k8 : PySem.W.keepIn K (.ref f8) = true)
    (a9 : PySem.W.nsIn K mainGlobals "is_name" = some (some (.ref f9)))
    (l9 : K.lookup f9 = some ⟨oc9, od9, .func (PySem.W.fnOf "is_name" "is_name" (defArgs s_is_name) (defBody s_is_name) (defScope s_is_name) .none kV9 dc9 pm9 an9 cd9 ct9), sl9⟩)
    (c9 : PySem.W.codeIn K cd9 "is_name" = true)
    (k9 : PySem.W.keepIn K (.ref f9) = true)
    (a10 : PySem.W.findIn K (.ref K2) "__init__" = some (some (.ref f10)))
    (fn10 : PySem.W.isFn K (.ref f10) = true)
    (l10 : K.lookup f10 = some ⟨oc10, od10, .func (PySem.W.fnOf "__init__" "Program.__init__" (defArgs s_Program_init) (defBody s_Program_init) (defScope s_Program_init) .none kV10 dc10 pm10 an10 cd10 ct10), sl10⟩)
    (c10 : PySem.W.codeIn K cd10 "Program.__init__" = true)
    (k10 : PySem.W.keepIn K (.ref f10) = true)
    (a11 : PySem.W.findIn K (.ref K2) "moves" = some (some (.ref f11)))
    (fn11 : PySem.W.isFn K (.ref f11) = true)
    (l11 : K.lookup f11 = some ⟨oc11, od11, .func (PySem.W.fnOf "moves" "Program.moves" (defArgs s_Program_moves) (defBody s_Program_moves) (defScope s_Program_moves) .none kV11 dc11 pm11 an11 cd11 ct11), sl11⟩)
    (c11 : PySem.W.codeIn K cd11 "Program.moves" = true)
    (k11 : PySem.W.keepIn K (.ref f11) = true)
    (a12 : PySem.W.findIn K (.ref K2) "places" = some (some (.ref f12)))
    (fn12 : PySem.W.isFn K (.ref f12) = true)
    (l12 : K.lookup f12 = some ⟨oc12, od12, .func (PySem.W.fnOf "places" "Program.places" (defArgs s_Program_places) (defBody s_Program_places) (defScope s_Program_places) .none kV12 dc12 pm12 an12 cd12 ct12), sl12⟩)
    (c12 : PySem.W.codeIn K cd12 "Program.places" = true)
    (k12 : PySem.W.keepIn K (.ref f12) = true)
    (a13 : PySem.W.findIn K (.ref K3) "shown" = some (some (.ref f13)))
    (fn13 : PySem.W.isFn K (.ref f13) = true)
    (l13 : K.lookup f13 = some ⟨oc13, od13, .func (PySem.W.fnOf "shown" "Live.shown" (defArgs s_Live_shown) (defBody s_Live_shown) (defScope s_Live_shown) .none kV13 dc13 pm13 an13 cd13 ct13), sl13⟩)
    (c13 : PySem.W.codeIn K cd13 "Live.shown" = true)
    (k13 : PySem.W.keepIn K (.ref f13) = true)
    (a14 : PySem.W.nsIn K mainGlobals "_law_hash" = some (some (.ref f14)))
    (l14 : K.lookup f14 = some ⟨oc14, od14, .func (PySem.W.fnOf "_law_hash" "_law_hash" (defArgs s_law_hash) (defBody s_law_hash) (defScope s_law_hash) .none kV14 dc14 pm14 an14 cd14 ct14), sl14⟩)
    (c14 : PySem.W.codeIn K cd14 "_law_hash" = true)
    (k14 : PySem.W.keepIn K (.ref f14) = true)
    (a15 : PySem.W.nsIn K mainGlobals "_law_random" = some (some (.ref f15)))
    (l15 : K.lookup f15 = some ⟨oc15, od15, .func (PySem.W.fnOf "_law_random" "_law_random" (defArgs s_law_random) (defBody s_law_random) (defScope s_law_random) .none kV15 dc15 pm15 an15 cd15 ct15), sl15⟩)
    (c15 : PySem.W.codeIn K cd15 "_law_random" = true)
    (k15 : PySem.W.keepIn K (.ref f15) = true)
    (a16 : PySem.W.nsIn K mainGlobals "_law_moves_drawn" = some (some (.ref f16)))
    (l16 : K.lookup f16 = some ⟨oc16, od16, .func (PySem.W.fnOf "_law_moves_drawn" "_law_moves_drawn" (defArgs s_law_moves_drawn) (defBody s_law_moves_drawn) (defScope s_law_moves_drawn) .none kV16 dc16 pm16 an16 cd16 ct16), sl16⟩)
    (c16 : PySem.W.codeIn K cd16 "_law_moves_drawn" = true)
    (k16 : PySem.W.keepIn K (.ref f16) = true)
    (a17 : PySem.W.nsIn K mainGlobals "_law_drawn" = some (some (.ref f17)))
    (l17 : K.lookup f17 = some ⟨oc17, od17, .func (PySem.W.fnOf "_law_drawn" "_law_drawn" (defArgs s_law_drawn) (defBody s_law_drawn) (defScope s_law_drawn) .none kV17 dc17 pm17 an17 cd17 ct17), sl17⟩)
    (c17 : PySem.W.codeIn K cd17 "_law_drawn" = true)
    (k17 : PySem.W.keepIn K (.ref f17) = true)
    (a18 : PySem.W.nsIn K mainGlobals "_law_cell" = some (some (.ref f18)))
    (l18 : K.lookup f18 = some ⟨oc18, od18, .func (PySem.W.fnOf "_law_cell" "_law_cell" (defArgs s_law_cell) (defBody s_law_cell) (defScope s_law_cell) .none kV18 dc18 pm18 an18 cd18 ct18), sl18⟩)
    (c18 : PySem.W.codeIn K cd18 "_law_cell" = true)
    (k18 : PySem.W.keepIn K (.ref f18) = true)
    (a19 : PySem.W.nsIn K mainGlobals "_law_generator" = some (some (.ref f19)))
    (l19 : K.lookup f19 = some ⟨oc19, od19, .func (PySem.W.fnOf "_law_generator" "_law_generator" (defArgs s_law_generator) (defBody s_law_generator) (defScope s_law_generator) .none kV19 dc19 pm19 an19 cd19 ct19), sl19⟩)
    (c19 : PySem.W.codeIn K cd19 "_law_generator" = true)
    (k19 : PySem.W.keepIn K (.ref f19) = true)
    (a20 : PySem.W.findIn K (.ref K3) "__len__" = some (some (.ref f20)))
    (fn20 : PySem.W.isFn K (.ref f20) = true)
    (l20 : K.lookup f20 = some ⟨oc20, od20, .func (PySem.W.fnOf "__len__" "Live.__len__" (defArgs s_Live_len) (defBody s_Live_len) (defScope s_Live_len) .none kV20 dc20 pm20 an20 cd20 ct20), sl20⟩)
    (c20 : PySem.W.codeIn K cd20 "Live.__len__" = true)
    (k20 : PySem.W.keepIn K (.ref f20) = true)
    (a21 : PySem.W.findIn K (.ref K3) "check_move" = some (some (.ref f21)))
    (fn21 : PySem.W.isFn K (.ref f21) = true)
    (l21 : K.lookup f21 = some ⟨oc21, od21, .func (PySem.W.fnOf "check_move" "Live.check_move" (defArgs s_Live_check_move) (defBody s_Live_check_move) (defScope s_Live_check_move) .none kV21 dc21 pm21 an21 cd21 ct21), sl21⟩)
    (c21 : PySem.W.codeIn K cd21 "Live.check_move" = true)
    (k21 : PySem.W.keepIn K (.ref f21) = true)
    (a22 : PySem.W.findIn K (.ref K3) "lead" = some (some (.ref f22)))
    (fn22 : PySem.W.isFn K (.ref f22) = true)
    (l22 : K.lookup f22 = some ⟨oc22, od22, .func (PySem.W.fnOf "lead" "Live.lead" (defArgs s_Live_lead) (defBody s_Live_lead) (defScope s_Live_lead) .none kV22 dc22 pm22 an22 cd22 ct22), sl22⟩)
    (c22 : PySem.W.codeIn K cd22 "Live.lead" = true)
    (k22 : PySem.W.keepIn K (.ref f22) = true)
    (a23 : PySem.W.findIn K (.ref K3) "add" = some (some (.ref f23)))
    (fn23 : PySem.W.isFn K (.ref f23) = true)
    (l23 : K.lookup f23 = some ⟨oc23, od23, .func (PySem.W.fnOf "add" "Live.add" (defArgs s_Live_add) (defBody s_Live_add) (defScope s_Live_add) .none kV23 dc23 pm23 an23 cd23 ct23), sl23⟩)
    (c23 : PySem.W.codeIn K cd23 "Live.add" = true)
    (k23 : PySem.W.keepIn K (.ref f23) = true)
    (a24 : PySem.W.findIn K (.ref K3) "back" = some (some (.ref f24)))
    (fn24 : PySem.W.isFn K (.ref f24) = true)
    (l24 : K.lookup f24 = some ⟨oc24, od24, .func (PySem.W.fnOf "back" "Live.back" (defArgs s_Live_back) (defBody s_Live_back) (defScope s_Live_back) .none kV24 dc24 pm24 an24 cd24 ct24), sl24⟩)
    (c24 : PySem.W.codeIn K cd24 "Live.back" = true)
    (k24 : PySem.W.keepIn K (.ref f24) = true)
    (a25 : PySem.W.findIn K (.ref K3) "check_number" = some (some (.ref f25)))
    (fn25 : PySem.W.isFn K (.ref f25) = true)
    (l25 : K.lookup f25 = some ⟨oc25, od25, .func (PySem.W.fnOf "check_number" "Live.check_number" (defArgs s_Live_check_number) (defBody s_Live_check_number) (defScope s_Live_check_number) .none kV25 dc25 pm25 an25 cd25 ct25), sl25⟩)
    (c25 : PySem.W.codeIn K cd25 "Live.check_number" = true)
    (k25 : PySem.W.keepIn K (.ref f25) = true)
    (a26 : PySem.W.findIn K (.ref K3) "drop" = some (some (.ref f26)))
    (fn26 : PySem.W.isFn K (.ref f26) = true)
    (l26 : K.lookup f26 = some ⟨oc26, od26, .func (PySem.W.fnOf "drop" "Live.drop" (defArgs s_Live_drop) (defBody s_Live_drop) (defScope s_Live_drop) .none kV26 dc26 pm26 an26 cd26 ct26), sl26⟩)
    (c26 : PySem.W.codeIn K cd26 "Live.drop" = true)
    (k26 : PySem.W.keepIn K (.ref f26) = true)
    (a27 : PySem.W.nsIn K mainGlobals "_law_many_right" = some (some (.ref f27)))
    (l27 : K.lookup f27 = some ⟨oc27, od27, .func (PySem.W.fnOf "_law_many_right" "_law_many_right" (defArgs s_law_many_right) (defBody s_law_many_right) (defScope s_law_many_right) .none kV27 dc27 pm27 an27 cd27 ct27), sl27⟩)
    (c27 : PySem.W.codeIn K cd27 "_law_many_right" = true)
    (k27 : PySem.W.keepIn K (.ref f27) = true)
    (a28 : PySem.W.findIn K (.ref K4) "__init__" = some (some (.ref f28)))
    (fn28 : PySem.W.isFn K (.ref f28) = true)
    (l28 : K.lookup f28 = some ⟨oc28, od28, .func (PySem.W.fnOf "__init__" "Tested.__init__" (defArgs s_Tested_init) (defBody s_Tested_init) (defScope s_Tested_init) .none kV28 dc28 pm28 an28 cd28 ct28), sl28⟩)
    (c28 : PySem.W.codeIn K cd28 "Tested.__init__" = true)
    (k28 : PySem.W.keepIn K (.ref f28) = true)
    (a29 : PySem.W.nsIn K mainGlobals "least_endless" = some (some (.ref f29)))
    (l29 : K.lookup f29 = some ⟨oc29, od29, .func (PySem.W.fnOf "least_endless" "least_endless" (defArgs s_least_endless) (defBody s_least_endless) (defScope s_least_endless) .none kV29 dc29 pm29 an29 cd29 ct29), sl29⟩)
    (c29 : PySem.W.codeIn K cd29 "least_endless" = true)
    (k29 : PySem.W.keepIn K (.ref f29) = true)
    (a30 : PySem.W.nsIn K mainGlobals "check_ways" = some (some (.ref f30)))
    (l30 : K.lookup f30 = some ⟨oc30, od30, .func (PySem.W.fnOf "check_ways" "check_ways" (defArgs s_check_ways) (defBody s_check_ways) (defScope s_check_ways) .none kV30 dc30 pm30 an30 cd30 ct30), sl30⟩)
    (c30 : PySem.W.codeIn K cd30 "check_ways" = true)
    (k30 : PySem.W.keepIn K (.ref f30) = true)
    (a31 : PySem.W.nsIn K mainGlobals "least_for" = some (some (.ref f31)))
    (l31 : K.lookup f31 = some ⟨oc31, od31, .func (PySem.W.fnOf "least_for" "least_for" (defArgs s_least_for) (defBody s_least_for) (defScope s_least_for) .none kV31 dc31 pm31 an31 cd31 ct31), sl31⟩)
    (c31 : PySem.W.codeIn K cd31 "least_for" = true)
    (k31 : PySem.W.keepIn K (.ref f31) = true)
    (a32 : PySem.W.nsIn K mainGlobals "text_of" = some (some (.ref f32)))
    (l32 : K.lookup f32 = some ⟨oc32, od32, .func (PySem.W.fnOf "text_of" "text_of" (defArgs s_text_of) (defBody s_text_of) (defScope s_text_of) .none kV32 dc32 pm32 an32 cd32 ct32), sl32⟩)
    (c32 : PySem.W.codeIn K cd32 "text_of" = true)
    (k32 : PySem.W.keepIn K (.ref f32) = true)
    (a33 : PySem.W.nsIn K mainGlobals "check_pair" = some (some (.ref f33)))
    (l33 : K.lookup f33 = some ⟨oc33, od33, .func (PySem.W.fnOf "check_pair" "check_pair" (defArgs s_check_pair) (defBody s_check_pair) (defScope s_check_pair) .none kV33 dc33 pm33 an33 cd33 ct33), sl33⟩)
    (c33 : PySem.W.codeIn K cd33 "check_pair" = true)
    (k33 : PySem.W.keepIn K (.ref f33) = true)
    (a34 : PySem.W.nsIn K mainGlobals "unlike" = some (some (.ref f34)))
    (l34 : K.lookup f34 = some ⟨oc34, od34, .func (PySem.W.fnOf "unlike" "unlike" (defArgs s_unlike) (defBody s_unlike) (defScope s_unlike) .none kV34 dc34 pm34 an34 cd34 ct34), sl34⟩)
    (c34 : PySem.W.codeIn K cd34 "unlike" = true)
    (k34 : PySem.W.keepIn K (.ref f34) = true)
    (a35 : PySem.W.nsIn K mainGlobals "_law_no_program" = some (some (.ref f35)))
    (l35 : K.lookup f35 = some ⟨oc35, od35, .func (PySem.W.fnOf "_law_no_program" "_law_no_program" (defArgs s_law_no_program) (defBody s_law_no_program) (defScope s_law_no_program) .none kV35 dc35 pm35 an35 cd35 ct35), sl35⟩)
    (c35 : PySem.W.codeIn K cd35 "_law_no_program" = true)
    (k35 : PySem.W.keepIn K (.ref f35) = true)
    (a36 : PySem.W.nsIn K mainGlobals "_law_program" = some (some (.ref f36)))
    (l36 : K.lookup f36 = some ⟨oc36, od36, .func (PySem.W.fnOf "_law_program" "_law_program" (defArgs s_law_program) (defBody s_law_program) (defScope s_law_program) .none kV36 dc36 pm36 an36 cd36 ct36), sl36⟩)
    (c36 : PySem.W.codeIn K cd36 "_law_program" = true)
    (k36 : PySem.W.keepIn K (.ref f36) = true)
    (a37 : PySem.W.nsIn K mainGlobals "_law_shows" = some (some (.ref f37)))
    (l37 : K.lookup f37 = some ⟨oc37, od37, .func (PySem.W.fnOf "_law_shows" "_law_shows" (defArgs s_law_shows) (defBody s_law_shows) (defScope s_law_shows) .none kV37 dc37 pm37 an37 cd37 ct37), sl37⟩)
    (c37 : PySem.W.codeIn K cd37 "_law_shows" = true)
    (k37 : PySem.W.keepIn K (.ref f37) = true)
    (a38 : PySem.W.findIn K (.ref K3) "change" = some (some (.ref f38)))
    (fn38 : PySem.W.isFn K (.ref f38) = true)
    (l38 : K.lookup f38 = some ⟨oc38, od38, .func (PySem.W.fnOf "change" "Live.change" (defArgs s_Live_change) (defBody s_Live_change) (defScope s_Live_change) .none kV38 dc38 pm38 an38 cd38 ct38), sl38⟩)
    (c38 : PySem.W.codeIn K cd38 "Live.change" = true)
    (k38 : PySem.W.keepIn K (.ref f38) = true)
    (a39 : PySem.W.nsIn K mainGlobals "_law_step" = some (some (.ref f39)))
    (l39 : K.lookup f39 = some ⟨oc39, od39, .func (PySem.W.fnOf "_law_step" "_law_step" (defArgs s_law_step) (defBody s_law_step) (defScope s_law_step) .none kV39 dc39 pm39 an39 cd39 ct39), sl39⟩)
    (c39 : PySem.W.codeIn K cd39 "_law_step" = true)
    (k39 : PySem.W.keepIn K (.ref f39) = true)
    (a40 : PySem.W.nsIn K mainGlobals "_law_undone" = some (some (.ref f40)))
    (l40 : K.lookup f40 = some ⟨oc40, od40, .func (PySem.W.fnOf "_law_undone" "_law_undone" (defArgs s_law_undone) (defBody s_law_undone) (defScope s_law_undone) .none kV40 dc40 pm40 an40 cd40 ct40), sl40⟩)
    (c40 : PySem.W.codeIn K cd40 "_law_undone" = true)
    (k40 : PySem.W.keepIn K (.ref f40) = true)
    (a41 : PySem.W.nsIn K mainGlobals "law" = some (some (.ref f41)))
    (l41 : K.lookup f41 = some ⟨oc41, od41, .func (PySem.W.fnOf "law" "law" (defArgs s_law) (defBody s_law) (defScope s_law) .none kV41 dc41 pm41 an41 cd41 ct41), sl41⟩)
    (c41 : PySem.W.codeIn K cd41 "law" = true)
    (k41 : PySem.W.keepIn K (.ref f41) = true)
    (z_bool : PySem.W.nsIn K mainGlobals "bool" = some none)
    (z_enumerate : PySem.W.nsIn K mainGlobals "enumerate" = some none)
    (z_int : PySem.W.nsIn K mainGlobals "int" = some none)
    (z_isinstance : PySem.W.nsIn K mainGlobals "isinstance" = some none)
    (z_len : PySem.W.nsIn K mainGlobals "len" = some none)
    (z_list : PySem.W.nsIn K mainGlobals "list" = some none)
    (z_max : PySem.W.nsIn K mainGlobals "max" = some none)
    (z_min : PySem.W.nsIn K mainGlobals "min" = some none)
    (z_range : PySem.W.nsIn K mainGlobals "range" = some none)
    (z_repr : PySem.W.nsIn K mainGlobals "repr" = some none)
    (z_str : PySem.W.nsIn K mainGlobals "str" = some none)
    (z_tuple : PySem.W.nsIn K mainGlobals "tuple" = some none)
    (g_LETTERS : PySem.W.nsIn K mainGlobals "LETTERS" = some (some (.str "abcdefghijklmnopqrstuvwxyz" t_LETTERS)))
    (g_MOST_CHANGE : PySem.W.nsIn K mainGlobals "MOST_CHANGE" = some (some (.int 4 t_MOST_CHANGE)))
    (g_MOST_LEAST : PySem.W.nsIn K mainGlobals "MOST_LEAST" = some (some (.int 8 t_MOST_LEAST)))
    (g_MOST_LETTERS : PySem.W.nsIn K mainGlobals "MOST_LETTERS" = some (some (.int 8 t_MOST_LETTERS)))
    (g_MOST_MOVES : PySem.W.nsIn K mainGlobals "MOST_MOVES" = some (some (.int 10 t_MOST_MOVES)))
    (g_MOST_PLACES : PySem.W.nsIn K mainGlobals "MOST_PLACES" = some (some (.int 4 t_MOST_PLACES)))
    (spc : PySem.W.specialIn K (.builtin "object.__class__") "__get__" = some (some (.builtin "getset_descriptor.__get__")))
    (tkc : PySem.W.takesIn K (.builtin "object.__class__") = some true)
    (no_Library : PySem.W.nsIn K mainGlobals "Library" = some none)
    (no_Cover : PySem.W.nsIn K mainGlobals "Cover" = some none)
    (no_Below : PySem.W.nsIn K mainGlobals "Below" = some none)
    (pg0 : PySem.W.plainGet K K0 Str.empty = true)
    (hdK0 : PySem.W.hasDictIn K K0 = true)
    (po0 : PySem.W.plainOver K K0 = true)
    (saK0 : PySem.W.findIn K (.ref K0) "__setattr__" = some (some (.builtin "object.__setattr__")))
    (haK0 : PySem.W.findIn K (.ref K0) "__class__" = some (some (.builtin "object.__class__")))
    (moK0 : PySem.W.mroIn K K0 (.type "object") = some true)
    (tyK0 : PySem.W.typeIn K (.ref K0) = some (.type "type"))
    (isK0 : PySem.W.isClsIn K K0 = true)
    (pg1 : PySem.W.plainGet K K1 Str.empty = true)
    (hdK1 : PySem.W.hasDictIn K K1 = true)
    (po1 : PySem.W.plainOver K K1 = true)
    (saK1 : PySem.W.findIn K (.ref K1) "__setattr__" = some (some (.builtin "object.__setattr__")))
    (haK1 : PySem.W.findIn K (.ref K1) "__class__" = some (some (.builtin "object.__class__")))
    (moK1 : PySem.W.mroIn K K1 (.type "object") = some true)
    (tyK1 : PySem.W.typeIn K (.ref K1) = some (.type "type"))
    (isK1 : PySem.W.isClsIn K K1 = true)
    (pg2 : PySem.W.plainGet K K2 Str.empty = true)
    (hdK2 : PySem.W.hasDictIn K K2 = true)
    (po2 : PySem.W.plainOver K K2 = true)
    (saK2 : PySem.W.findIn K (.ref K2) "__setattr__" = some (some (.builtin "object.__setattr__")))
    (mkK2 : PySem.W.makesIn K K2 = true)
    (kpK2 : PySem.W.keepIn K (.ref K2) = true)
    (neqK2 : PySem.W.findIn K (.ref K2) "__ne__" = some (some (.builtin "object.__ne__")))
    (it2_NoneType : PySem.W.subIn K (.ref K2) (.type "NoneType") = some false)
    (it2_int : PySem.W.subIn K (.ref K2) (.type "int") = some false)
    (it2_str : PySem.W.subIn K (.ref K2) (.type "str") = some false)
    (it2_list : PySem.W.subIn K (.ref K2) (.type "list") = some false)
    (it2_dict : PySem.W.subIn K (.ref K2) (.type "dict") = some false)
    (mr2_list : PySem.W.mroIn K K2 (.type "list") = some false)
    (mr2_dict : PySem.W.mroIn K K2 (.type "dict") = some false)
    (haK2 : PySem.W.findIn K (.ref K2) "__class__" = some (some (.builtin "object.__class__")))
    (moK2 : PySem.W.mroIn K K2 (.type "object") = some true)
    (tyK2 : PySem.W.typeIn K (.ref K2) = some (.type "type"))
    (isK2 : PySem.W.isClsIn K K2 = true)
    (pg3 : PySem.W.plainGet K K3 Str.empty = true)
    (hdK3 : PySem.W.hasDictIn K K3 = true)
    (po3 : PySem.W.plainOver K K3 = true)
    (saK3 : PySem.W.findIn K (.ref K3) "__setattr__" = some (some (.builtin "object.__setattr__")))
    (mkK3 : PySem.W.makesIn K K3 = true)
    (kpK3 : PySem.W.keepIn K (.ref K3) = true)
    (neqK3 : PySem.W.findIn K (.ref K3) "__ne__" = some (some (.builtin "object.__ne__")))
    (it3_NoneType : PySem.W.subIn K (.ref K3) (.type "NoneType") = some false)
    (it3_int : PySem.W.subIn K (.ref K3) (.type "int") = some false)
    (it3_str : PySem.W.subIn K (.ref K3) (.type "str") = some false)
    (it3_list : PySem.W.subIn K (.ref K3) (.type "list") = some false)
    (it3_dict : PySem.W.subIn K (.ref K3) (.type "dict") = some false)
    (mr3_list : PySem.W.mroIn K K3 (.type "list") = some false)
    (mr3_dict : PySem.W.mroIn K K3 (.type "dict") = some false)
    (haK3 : PySem.W.findIn K (.ref K3) "__class__" = some (some (.builtin "object.__class__")))
    (moK3 : PySem.W.mroIn K K3 (.type "object") = some true)
    (tyK3 : PySem.W.typeIn K (.ref K3) = some (.type "type"))
    (isK3 : PySem.W.isClsIn K K3 = true)
    (pg4 : PySem.W.plainGet K K4 Str.empty = true)
    (hdK4 : PySem.W.hasDictIn K K4 = true)
    (po4 : PySem.W.plainOver K K4 = true)
    (saK4 : PySem.W.findIn K (.ref K4) "__setattr__" = some (some (.builtin "object.__setattr__")))
    (mkK4 : PySem.W.makesIn K K4 = true)
    (kpK4 : PySem.W.keepIn K (.ref K4) = true)
    (haK4 : PySem.W.findIn K (.ref K4) "__class__" = some (some (.builtin "object.__class__")))
    (moK4 : PySem.W.mroIn K K4 (.type "object") = some true)
    (tyK4 : PySem.W.typeIn K (.ref K4) = some (.type "type"))
    (isK4 : PySem.W.isClsIn K K4 = true)
    (sK0_2 : PySem.W.subIn K (.ref K0) (.ref K2) = some false)
    (neK0_2 : ¬ (K0 = K2))
    (sK0_3 : PySem.W.subIn K (.ref K0) (.ref K3) = some false)
    (neK0_3 : ¬ (K0 = K3))
    (sK1_2 : PySem.W.subIn K (.ref K1) (.ref K2) = some false)
    (neK1_2 : ¬ (K1 = K2))
    (sK1_3 : PySem.W.subIn K (.ref K1) (.ref K3) = some false)
    (neK1_3 : ¬ (K1 = K3))
    (sK2_2 : PySem.W.subIn K (.ref K2) (.ref K2) = some true)
    (sK2_3 : PySem.W.subIn K (.ref K2) (.ref K3) = some false)
    (neK2_3 : ¬ (K2 = K3))
    (sK3_2 : PySem.W.subIn K (.ref K3) (.ref K2) = some false)
    (neK3_2 : ¬ (K3 = K2))
    (sK3_3 : PySem.W.subIn K (.ref K3) (.ref K3) = some true)
    (sK4_2 : PySem.W.subIn K (.ref K4) (.ref K2) = some false)
    (neK4_2 : ¬ (K4 = K2))
    (sK4_3 : PySem.W.subIn K (.ref K4) (.ref K3) = some false)
    (neK4_3 : ¬ (K4 = K3))
    (nf2_folio : PySem.W.findIn K (.ref K2) "folio" = some none)
    (nf3_now : PySem.W.findIn K (.ref K3) "now" = some none)
    (nf3_past : PySem.W.findIn K (.ref K3) "past" = some none)
    (nf2_stands : PySem.W.findIn K (.ref K2) "stands" = some none)
    (nf2_steps : PySem.W.findIn K (.ref K2) "steps" = some none)
    (z0super : PySem.W.nsIn K mainGlobals "super" = some none)
    (aW : PySem.W.nsIn K mainGlobals "WalkError" = some (some (.ref W)))
    (isW : PySem.W.isClsIn K W = true)
    (tyW : PySem.W.typeIn K (.ref W) = some (.type "type"))
    (exW : PySem.W.subIn K (.ref W) (.type "BaseException") = some true)
    (thc : PySem.W.nsIn K PySem.cStatics "thirdparty.any" = some none)
    (no_InvalidRow : PySem.W.nsIn K mainGlobals "InvalidRow" = some none)
    (no_InvalidText : PySem.W.nsIn K mainGlobals "InvalidText" = some none)
    (no_InvalidName : PySem.W.nsIn K mainGlobals "InvalidName" = some none)
    (no_TakenName : PySem.W.nsIn K mainGlobals "TakenName" = some none)
    (aC0 : PySem.W.nsIn K mainGlobals "InvalidNumber" = some (some (.ref C0)))
    (xC0 : K.lookup C0 = some (excClassObj nm0 q0 C0 N0 bs0 [.ref W, .type "ValueError", .type "Exception", .type "BaseException", .type "object"] true sn0 sub0 ab0 col0 dd0 x00 x10 x20 x30 x50 "ValueError.__new__"))
    (sa0 : PySem.W.findIn K (.ref C0) "__setattr__" = some (some (.builtin "object.__setattr__")))
    (ga0 : PySem.W.findIn K (.ref C0) "__getattribute__" = some (some (.builtin "BaseException.__getattribute__")))
    (gg0 : PySem.W.findIn K (.ref C0) "__getattr__" = some (none))
    (nov0 : PySem.W.findIn K (.ref C0) "value" = some (none))
    (non0 : PySem.W.findIn K (.ref C0) "name" = some (none))
    (ha0 : PySem.W.findIn K (.ref C0) "__class__" = some (some (.builtin "object.__class__")))
    (iC0 : PySem.W.findIn K (.ref C0) "__init__" = some (some (.ref I0)))
    (mo0 : PySem.W.mroIn K C0 (.type "object") = some true)
    (mr0 : PySem.W.mroIn K C0 (.ref C0) = some true)
    (ve0 : PySem.W.subIn K (.ref C0) (.type "ValueError") = some true)
    (ex0 : PySem.W.subIn K (.ref C0) (.type "BaseException") = some true)
    (sW0 : PySem.W.subIn K (.ref C0) (.ref W) = some true)
    (tI0 : PySem.W.typeIn K (.ref I0) = some (.type "function"))
    (kC0 : PySem.W.keepIn K (.ref C0) = true)
    (ty0 : PySem.W.typeIn K (.ref C0) = some (.type "type"))
    (hd0 : PySem.W.hasDictIn K C0 = true)
    (is0 : PySem.W.isClsIn K C0 = true)
    (su0 : PySem.W.ks_superIn K C0 C0 "__init__" = some (some (.builtin "ValueError.__init__")))
    (lI0 : K.lookup I0 = some ⟨ioc0, iod0, .func (PySem.W.ksFn "__init__" "InvalidNumber.__init__" (defArgs (inClass (top 10) 0)) (defBody (inClass (top 10) 0)) (defScope (inClass (top 10) 0)) (.ref T0) ikV0 idc0 ipm0 ian0 (.ref cda0) ict0 cc0), isl0⟩)
    (cI0 : PySem.W.codeIn K (.ref cda0) "InvalidNumber.__init__" = true)
    (lc0 : K.lookup cda0 = some ⟨ccl0, cdd0, .fields vs0, ccs0⟩)
    (v20 : vs0[2]? = some (.str file0 tf0))
    (fi0 : (P.main.file == file0) = true)
    (lcc0 : K.lookup cc0 = some ⟨ccl20, cld0, .cell (some (.ref C0)), csl0⟩)
    (lT0 : K.lookup T0 = some ⟨tcl0, tod0, .seq #[Value.none] n0, tsl0⟩)
    (aC1 : PySem.W.nsIn K mainGlobals "InvalidList" = some (some (.ref C1)))
    (xC1 : K.lookup C1 = some (excClassObj nm1 q1 C1 N1 bs1 [.ref W, .type "ValueError", .type "Exception", .type "BaseException", .type "object"] true sn1 sub1 ab1 col1 dd1 x01 x11 x21 x31 x51 "ValueError.__new__"))
    (sa1 : PySem.W.findIn K (.ref C1) "__setattr__" = some (some (.builtin "object.__setattr__")))
    (ga1 : PySem.W.findIn K (.ref C1) "__getattribute__" = some (some (.builtin "BaseException.__getattribute__")))
    (gg1 : PySem.W.findIn K (.ref C1) "__getattr__" = some (none))
    (nov1 : PySem.W.findIn K (.ref C1) "value" = some (none))
    (non1 : PySem.W.findIn K (.ref C1) "name" = some (none))
    (ha1 : PySem.W.findIn K (.ref C1) "__class__" = some (some (.builtin "object.__class__")))
    (iC1 : PySem.W.findIn K (.ref C1) "__init__" = some (some (.ref I1)))
    (mo1 : PySem.W.mroIn K C1 (.type "object") = some true)
    (mr1 : PySem.W.mroIn K C1 (.ref C1) = some true)
    (ve1 : PySem.W.subIn K (.ref C1) (.type "ValueError") = some true)
    (ex1 : PySem.W.subIn K (.ref C1) (.type "BaseException") = some true)
    (sW1 : PySem.W.subIn K (.ref C1) (.ref W) = some true)
    (tI1 : PySem.W.typeIn K (.ref I1) = some (.type "function"))
    (kC1 : PySem.W.keepIn K (.ref C1) = true)
    (ty1 : PySem.W.typeIn K (.ref C1) = some (.type "type"))
    (hd1 : PySem.W.hasDictIn K C1 = true)
    (is1 : PySem.W.isClsIn K C1 = true)
    (su1 : PySem.W.ks_superIn K C1 C1 "__init__" = some (some (.builtin "ValueError.__init__")))
    (lI1 : K.lookup I1 = some ⟨ioc1, iod1, .func (PySem.W.ksFn "__init__" "InvalidList.__init__" (defArgs (inClass (top 11) 0)) (defBody (inClass (top 11) 0)) (defScope (inClass (top 11) 0)) (.ref T1) ikV1 idc1 ipm1 ian1 (.ref cda1) ict1 cc1), isl1⟩)
    (cI1 : PySem.W.codeIn K (.ref cda1) "InvalidList.__init__" = true)
    (lc1 : K.lookup cda1 = some ⟨ccl1, cdd1, .fields vs1, ccs1⟩)
    (v21 : vs1[2]? = some (.str file1 tf1))
    (fi1 : (P.main.file == file1) = true)
    (lcc1 : K.lookup cc1 = some ⟨ccl21, cld1, .cell (some (.ref C1)), csl1⟩)
    (lT1 : K.lookup T1 = some ⟨tcl1, tod1, .seq #[Value.none] n1, tsl1⟩)
    (aC2 : PySem.W.nsIn K mainGlobals "InvalidItem" = some (some (.ref C2)))
    (xC2 : K.lookup C2 = some (excClassObj nm2 q2 C2 N2 bs2 [.ref W, .type "ValueError", .type "Exception", .type "BaseException", .type "object"] true sn2 sub2 ab2 col2 dd2 x02 x12 x22 x32 x52 "ValueError.__new__"))
    (sa2 : PySem.W.findIn K (.ref C2) "__setattr__" = some (some (.builtin "object.__setattr__")))
    (ga2 : PySem.W.findIn K (.ref C2) "__getattribute__" = some (some (.builtin "BaseException.__getattribute__")))
    (gg2 : PySem.W.findIn K (.ref C2) "__getattr__" = some (none))
    (nov2 : PySem.W.findIn K (.ref C2) "value" = some (none))
    (non2 : PySem.W.findIn K (.ref C2) "name" = some (none))
    (ha2 : PySem.W.findIn K (.ref C2) "__class__" = some (some (.builtin "object.__class__")))
    (iC2 : PySem.W.findIn K (.ref C2) "__init__" = some (some (.ref I2)))
    (mo2 : PySem.W.mroIn K C2 (.type "object") = some true)
    (mr2 : PySem.W.mroIn K C2 (.ref C2) = some true)
    (ve2 : PySem.W.subIn K (.ref C2) (.type "ValueError") = some true)
    (ex2 : PySem.W.subIn K (.ref C2) (.type "BaseException") = some true)
    (sW2 : PySem.W.subIn K (.ref C2) (.ref W) = some true)
    (tI2 : PySem.W.typeIn K (.ref I2) = some (.type "function"))
    (kC2 : PySem.W.keepIn K (.ref C2) = true)
    (ty2 : PySem.W.typeIn K (.ref C2) = some (.type "type"))
    (hd2 : PySem.W.hasDictIn K C2 = true)
    (is2 : PySem.W.isClsIn K C2 = true)
    (su2 : PySem.W.ks_superIn K C2 C2 "__init__" = some (some (.builtin "ValueError.__init__")))
    (lI2 : K.lookup I2 = some ⟨ioc2, iod2, .func (PySem.W.ksFn "__init__" "InvalidItem.__init__" (defArgs (inClass (top 12) 0)) (defBody (inClass (top 12) 0)) (defScope (inClass (top 12) 0)) (.ref T2) ikV2 idc2 ipm2 ian2 (.ref cda2) ict2 cc2), isl2⟩)
    (cI2 : PySem.W.codeIn K (.ref cda2) "InvalidItem.__init__" = true)
    (lc2 : K.lookup cda2 = some ⟨ccl2, cdd2, .fields vs2, ccs2⟩)
    (v22 : vs2[2]? = some (.str file2 tf2))
    (fi2 : (P.main.file == file2) = true)
    (lcc2 : K.lookup cc2 = some ⟨ccl22, cld2, .cell (some (.ref C2)), csl2⟩)
    (lT2 : K.lookup T2 = some ⟨tcl2, tod2, .seq #[Value.none] n2, tsl2⟩)
    (aC3 : PySem.W.nsIn K mainGlobals "InvalidProgram" = some (some (.ref C3)))
    (xC3 : K.lookup C3 = some (excClassObj nm3 q3 C3 N3 bs3 [.ref W, .type "ValueError", .type "Exception", .type "BaseException", .type "object"] true sn3 sub3 ab3 col3 dd3 x03 x13 x23 x33 x53 "ValueError.__new__"))
    (sa3 : PySem.W.findIn K (.ref C3) "__setattr__" = some (some (.builtin "object.__setattr__")))
    (ga3 : PySem.W.findIn K (.ref C3) "__getattribute__" = some (some (.builtin "BaseException.__getattribute__")))
    (gg3 : PySem.W.findIn K (.ref C3) "__getattr__" = some (none))
    (nov3 : PySem.W.findIn K (.ref C3) "value" = some (none))
    (non3 : PySem.W.findIn K (.ref C3) "name" = some (none))
    (ha3 : PySem.W.findIn K (.ref C3) "__class__" = some (some (.builtin "object.__class__")))
    (iC3 : PySem.W.findIn K (.ref C3) "__init__" = some (some (.ref I3)))
    (mo3 : PySem.W.mroIn K C3 (.type "object") = some true)
    (mr3 : PySem.W.mroIn K C3 (.ref C3) = some true)
    (ve3 : PySem.W.subIn K (.ref C3) (.type "ValueError") = some true)
    (ex3 : PySem.W.subIn K (.ref C3) (.type "BaseException") = some true)
    (sW3 : PySem.W.subIn K (.ref C3) (.ref W) = some true)
    (tI3 : PySem.W.typeIn K (.ref I3) = some (.type "function"))
    (kC3 : PySem.W.keepIn K (.ref C3) = true)
    (ty3 : PySem.W.typeIn K (.ref C3) = some (.type "type"))
    (hd3 : PySem.W.hasDictIn K C3 = true)
    (is3 : PySem.W.isClsIn K C3 = true)
    (su3 : PySem.W.ks_superIn K C3 C3 "__init__" = some (some (.builtin "ValueError.__init__")))
    (lI3 : K.lookup I3 = some ⟨ioc3, iod3, .func (PySem.W.ksFn "__init__" "InvalidProgram.__init__" (defArgs (inClass (top 13) 0)) (defBody (inClass (top 13) 0)) (defScope (inClass (top 13) 0)) (.ref T3) ikV3 idc3 ipm3 ian3 (.ref cda3) ict3 cc3), isl3⟩)
    (cI3 : PySem.W.codeIn K (.ref cda3) "InvalidProgram.__init__" = true)
    (lc3 : K.lookup cda3 = some ⟨ccl3, cdd3, .fields vs3, ccs3⟩)
    (v23 : vs3[2]? = some (.str file3 tf3))
    (fi3 : (P.main.file == file3) = true)
    (lcc3 : K.lookup cc3 = some ⟨ccl23, cld3, .cell (some (.ref C3)), csl3⟩)
    (lT3 : K.lookup T3 = some ⟨tcl3, tod3, .seq #[Value.none] n3, tsl3⟩)
    (aC4 : PySem.W.nsIn K mainGlobals "UnknownName" = some (some (.ref C4)))
    (xC4 : K.lookup C4 = some (excClassObj nm4 q4 C4 N4 bs4 [.ref W, .type "ValueError", .type "Exception", .type "BaseException", .type "object"] true sn4 sub4 ab4 col4 dd4 x04 x14 x24 x34 x54 "ValueError.__new__"))
    (sa4 : PySem.W.findIn K (.ref C4) "__setattr__" = some (some (.builtin "object.__setattr__")))
    (ga4 : PySem.W.findIn K (.ref C4) "__getattribute__" = some (some (.builtin "BaseException.__getattribute__")))
    (gg4 : PySem.W.findIn K (.ref C4) "__getattr__" = some (none))
    (nov4 : PySem.W.findIn K (.ref C4) "value" = some (none))
    (non4 : PySem.W.findIn K (.ref C4) "name" = some (none))
    (ha4 : PySem.W.findIn K (.ref C4) "__class__" = some (some (.builtin "object.__class__")))
    (iC4 : PySem.W.findIn K (.ref C4) "__init__" = some (some (.ref I4)))
    (mo4 : PySem.W.mroIn K C4 (.type "object") = some true)
    (mr4 : PySem.W.mroIn K C4 (.ref C4) = some true)
    (ve4 : PySem.W.subIn K (.ref C4) (.type "ValueError") = some true)
    (ex4 : PySem.W.subIn K (.ref C4) (.type "BaseException") = some true)
    (sW4 : PySem.W.subIn K (.ref C4) (.ref W) = some true)
    (tI4 : PySem.W.typeIn K (.ref I4) = some (.type "function"))
    (kC4 : PySem.W.keepIn K (.ref C4) = true)
    (ty4 : PySem.W.typeIn K (.ref C4) = some (.type "type"))
    (hd4 : PySem.W.hasDictIn K C4 = true)
    (is4 : PySem.W.isClsIn K C4 = true)
    (su4 : PySem.W.ks_superIn K C4 C4 "__init__" = some (some (.builtin "ValueError.__init__")))
    (lI4 : K.lookup I4 = some ⟨ioc4, iod4, .func (PySem.W.ksFn "__init__" "UnknownName.__init__" (defArgs (inClass (top 14) 0)) (defBody (inClass (top 14) 0)) (defScope (inClass (top 14) 0)) (.ref T4) ikV4 idc4 ipm4 ian4 (.ref cda4) ict4 cc4), isl4⟩)
    (cI4 : PySem.W.codeIn K (.ref cda4) "UnknownName.__init__" = true)
    (lc4 : K.lookup cda4 = some ⟨ccl4, cdd4, .fields vs4, ccs4⟩)
    (v24 : vs4[2]? = some (.str file4 tf4))
    (fi4 : (P.main.file == file4) = true)
    (lcc4 : K.lookup cc4 = some ⟨ccl24, cld4, .cell (some (.ref C4)), csl4⟩)
    (lT4 : K.lookup T4 = some ⟨tcl4, tod4, .seq #[Value.none] n4, tsl4⟩)
    (tops : (P.main.scope.names.lookup ("super" : Str)).isSome = false)
    (s3_3 : PySem.W.subIn K (.ref C3) (.ref C3) = some true)
    (aN : PySem.W.nsIn K mainGlobals "NothingToUndo" = some (some (.ref UN)))
    (exN : PySem.W.subIn K (.ref UN) (.type "BaseException") = some true)
    (isN : PySem.W.isClsIn K UN = true)
    (tyN : PySem.W.typeIn K (.ref UN) = some (.type "type"))
    (xiN : PySem.W.excIn K UN [.type "ValueError", .type "Exception", .type "BaseException", .type "object"] "ValueError.__new__" = true)
    (kpN : PySem.W.keepIn K (.ref UN) = true)
    (sN_N : PySem.W.subIn K (.ref UN) (.ref UN) = some true)
    (nfo3_2 : PySem.W.notFirst K K3 (.ref K2) = true)
    (nfo2_3 : PySem.W.notFirst K K2 (.ref K3) = true)
    : ∃ fd : FuncData, (∀ (s : Shared) (v : Value), K.In s.heap → BindsTo s fd ⟨[v], []⟩ [("_law_script", v)]) ∧ ∀ (w : World) (base : Heap), FnG P w K mg base 11 fa fd ["_law_script"] (spM ⟨K, mg⟩ 1 M_law) := by
  have hfe : f41 = fa := Value.ref.inj (Option.some.inj ((PySem.W.mg_of X G a41).symm.trans hfa))
  subst hfe
  have mK0 : mg "Window" = some (.ref K0) := PySem.W.mg_of X G aK0
  have clK0 : L2.Cls K K0 := ⟨pg0, hdK0, po0, saK0⟩
  have icK0 : InsC K K0 := ⟨clK0, haK0, spc, tkc, moK0⟩
  have mK1 : mg "Book" = some (.ref K1) := PySem.W.mg_of X G aK1
  have clK1 : L2.Cls K K1 := ⟨pg1, hdK1, po1, saK1⟩
  have icK1 : InsC K K1 := ⟨clK1, haK1, spc, tkc, moK1⟩
  have mK2 : mg "Program" = some (.ref K2) := PySem.W.mg_of X G aK2
  have clK2 : L2.Cls K K2 := ⟨pg2, hdK2, po2, saK2⟩
  have icK2 : InsC K K2 := ⟨clK2, haK2, spc, tkc, moK2⟩
  have mK3 : mg "Live" = some (.ref K3) := PySem.W.mg_of X G aK3
  have clK3 : L2.Cls K K3 := ⟨pg3, hdK3, po3, saK3⟩
  have icK3 : InsC K K3 := ⟨clK3, haK3, spc, tkc, moK3⟩
  have mK4 : mg "Tested" = some (.ref K4) := PySem.W.mg_of X G aK4
  have clK4 : L2.Cls K K4 := ⟨pg4, hdK4, po4, saK4⟩
  have icK4 : InsC K K4 := ⟨clK4, haK4, spc, tkc, moK4⟩
  have eqK2 : ∀ c, c ∈ CS → ∀ C, mg c = some (.ref C) → InsC K C ∧ PySem.W.kitOne K (.ref C) (.ref K2) = some (decide (c = "Program")) := by
    intro c hc C hC
    simp only [CS, List.mem_cons, List.not_mem_nil, or_false] at hc
    rcases hc with rfl | rfl | rfl | rfl | rfl | rfl | rfl | rfl
    · cases mK2.symm.trans hC
      rw [show decide (("Program" : Str) = "Program") = true by decide +kernel]
      exact ⟨icK2, kit_own isK2 tyK2 sK2_2 (fun _ => rfl)⟩
    · cases mK4.symm.trans hC
      rw [show decide (("Tested" : Str) = "Program") = false by decide +kernel]
      exact ⟨icK4, kit_own isK2 tyK2 sK4_2 (fun z => absurd z neK4_2)⟩
    · cases mK3.symm.trans hC
      rw [show decide (("Live" : Str) = "Program") = false by decide +kernel]
      exact ⟨icK3, kit_own isK2 tyK2 sK3_2 (fun z => absurd z neK3_2)⟩
    · cases (PySem.W.mg_none_of X G no_Library).symm.trans hC
    · cases mK0.symm.trans hC
      rw [show decide (("Window" : Str) = "Program") = false by decide +kernel]
      exact ⟨icK0, kit_own isK2 tyK2 sK0_2 (fun z => absurd z neK0_2)⟩
    · cases mK1.symm.trans hC
      rw [show decide (("Book" : Str) = "Program") = false by decide +kernel]
      exact ⟨icK1, kit_own isK2 tyK2 sK1_2 (fun z => absurd z neK1_2)⟩
    · cases (PySem.W.mg_none_of X G no_Cover).symm.trans hC
    · cases (PySem.W.mg_none_of X G no_Below).symm.trans hC
  have eqK3 : ∀ c, c ∈ CS → ∀ C, mg c = some (.ref C) → InsC K C ∧ PySem.W.kitOne K (.ref C) (.ref K3) = some (decide (c = "Live")) := by
    intro c hc C hC
    simp only [CS, List.mem_cons, List.not_mem_nil, or_false] at hc
    rcases hc with rfl | rfl | rfl | rfl | rfl | rfl | rfl | rfl
    · cases mK2.symm.trans hC
      rw [show decide (("Program" : Str) = "Live") = false by decide +kernel]
      exact ⟨icK2, kit_own isK3 tyK3 sK2_3 (fun z => absurd z neK2_3)⟩
    · cases mK4.symm.trans hC
      rw [show decide (("Tested" : Str) = "Live") = false by decide +kernel]
      exact ⟨icK4, kit_own isK3 tyK3 sK4_3 (fun z => absurd z neK4_3)⟩
    · cases mK3.symm.trans hC
      rw [show decide (("Live" : Str) = "Live") = true by decide +kernel]
      exact ⟨icK3, kit_own isK3 tyK3 sK3_3 (fun _ => rfl)⟩
    · cases (PySem.W.mg_none_of X G no_Library).symm.trans hC
    · cases mK0.symm.trans hC
      rw [show decide (("Window" : Str) = "Live") = false by decide +kernel]
      exact ⟨icK0, kit_own isK3 tyK3 sK0_3 (fun z => absurd z neK0_3)⟩
    · cases mK1.symm.trans hC
      rw [show decide (("Book" : Str) = "Live") = false by decide +kernel]
      exact ⟨icK1, kit_own isK3 tyK3 sK1_3 (fun z => absurd z neK1_3)⟩
    · cases (PySem.W.mg_none_of X G no_Cover).symm.trans hC
    · cases (PySem.W.mg_none_of X G no_Below).symm.trans hC
  have e0 : ExcC K C0 := ⟨ga0, gg0, ex0, hd0, ha0, spc, tkc, mo0⟩
  have mc0 : mg "InvalidNumber" = some (.ref C0) := PySem.W.mg_of X G aC0
  have o0 : OexC K C0 := ⟨⟨nm0, q0, N0, bs0, _, sn0, sub0, ab0, col0, dd0, x00, x10, x20, x30, x50, xC0, by first | rfl | decide +kernel⟩, sa0, ex0, ty0, kC0⟩
  have id0 : IniDef (prog := P) K "value" C0 I0 _ := ⟨⟨ioc0, ccl0, ccl20, iod0, cdd0, cld0, isl0, ccs0, csl0, _, _, file0, tf0, vs0, _, _, _, ikV0, idc0, ipm0, ict0, ian0, cda0, cc0, _, _, _, _, _, _, _, _, _, _, _, _, rfl, lI0, cI0, lc0, v20, fi0, tops, lcc0, rfl, rfl, ⟨rfl, rfl, rfl, rfl, by decide +kernel, rfl, rfl, rfl⟩, fun _ => rfl, fun _ => rfl, fun _ => rfl, fun _ => rfl, fun _ => rfl⟩⟩
  have i0 : Ini P K mg "value" C0 I0 _ := ⟨id0, .inl rfl, o0, iC0, tI0, su0, ve0, mr0, thc, nov0, PySem.W.mg_none_of X G z0super⟩
  have bi0 : Binds K (PySem.W.ksFn "__init__" "InvalidNumber.__init__" (defArgs (inClass (top 10) 0)) (defBody (inClass (top 10) 0)) (defScope (inClass (top 10) 0)) (.ref T0) ikV0 idc0 ipm0 ian0 (.ref cda0) ict0 cc0) ["self", "value"] [] := fun s us hK hl => match us, hl with | [_, _], _ => .of_defaults rfl (hK _ _ lT0) rfl rfl rfl
  have e1 : ExcC K C1 := ⟨ga1, gg1, ex1, hd1, ha1, spc, tkc, mo1⟩
  have mc1 : mg "InvalidList" = some (.ref C1) := PySem.W.mg_of X G aC1
  have o1 : OexC K C1 := ⟨⟨nm1, q1, N1, bs1, _, sn1, sub1, ab1, col1, dd1, x01, x11, x21, x31, x51, xC1, by first | rfl | decide +kernel⟩, sa1, ex1, ty1, kC1⟩
  have id1 : IniDef (prog := P) K "value" C1 I1 _ := ⟨⟨ioc1, ccl1, ccl21, iod1, cdd1, cld1, isl1, ccs1, csl1, _, _, file1, tf1, vs1, _, _, _, ikV1, idc1, ipm1, ict1, ian1, cda1, cc1, _, _, _, _, _, _, _, _, _, _, _, _, rfl, lI1, cI1, lc1, v21, fi1, tops, lcc1, rfl, rfl, ⟨rfl, rfl, rfl, rfl, by decide +kernel, rfl, rfl, rfl⟩, fun _ => rfl, fun _ => rfl, fun _ => rfl, fun _ => rfl, fun _ => rfl⟩⟩
  have i1 : Ini P K mg "value" C1 I1 _ := ⟨id1, .inl rfl, o1, iC1, tI1, su1, ve1, mr1, thc, nov1, PySem.W.mg_none_of X G z0super⟩
  have bi1 : Binds K (PySem.W.ksFn "__init__" "InvalidList.__init__" (defArgs (inClass (top 11) 0)) (defBody (inClass (top 11) 0)) (defScope (inClass (top 11) 0)) (.ref T1) ikV1 idc1 ipm1 ian1 (.ref cda1) ict1 cc1) ["self", "value"] [] := fun s us hK hl => match us, hl with | [_, _], _ => .of_defaults rfl (hK _ _ lT1) rfl rfl rfl
  have e2 : ExcC K C2 := ⟨ga2, gg2, ex2, hd2, ha2, spc, tkc, mo2⟩
  have mc2 : mg "InvalidItem" = some (.ref C2) := PySem.W.mg_of X G aC2
  have o2 : OexC K C2 := ⟨⟨nm2, q2, N2, bs2, _, sn2, sub2, ab2, col2, dd2, x02, x12, x22, x32, x52, xC2, by first | rfl | decide +kernel⟩, sa2, ex2, ty2, kC2⟩
  have id2 : IniDef (prog := P) K "value" C2 I2 _ := ⟨⟨ioc2, ccl2, ccl22, iod2, cdd2, cld2, isl2, ccs2, csl2, _, _, file2, tf2, vs2, _, _, _, ikV2, idc2, ipm2, ict2, ian2, cda2, cc2, _, _, _, _, _, _, _, _, _, _, _, _, rfl, lI2, cI2, lc2, v22, fi2, tops, lcc2, rfl, rfl, ⟨rfl, rfl, rfl, rfl, by decide +kernel, rfl, rfl, rfl⟩, fun _ => rfl, fun _ => rfl, fun _ => rfl, fun _ => rfl, fun _ => rfl⟩⟩
  have i2 : Ini P K mg "value" C2 I2 _ := ⟨id2, .inl rfl, o2, iC2, tI2, su2, ve2, mr2, thc, nov2, PySem.W.mg_none_of X G z0super⟩
  have bi2 : Binds K (PySem.W.ksFn "__init__" "InvalidItem.__init__" (defArgs (inClass (top 12) 0)) (defBody (inClass (top 12) 0)) (defScope (inClass (top 12) 0)) (.ref T2) ikV2 idc2 ipm2 ian2 (.ref cda2) ict2 cc2) ["self", "value"] [] := fun s us hK hl => match us, hl with | [_, _], _ => .of_defaults rfl (hK _ _ lT2) rfl rfl rfl
  have e3 : ExcC K C3 := ⟨ga3, gg3, ex3, hd3, ha3, spc, tkc, mo3⟩
  have mc3 : mg "InvalidProgram" = some (.ref C3) := PySem.W.mg_of X G aC3
  have o3 : OexC K C3 := ⟨⟨nm3, q3, N3, bs3, _, sn3, sub3, ab3, col3, dd3, x03, x13, x23, x33, x53, xC3, by first | rfl | decide +kernel⟩, sa3, ex3, ty3, kC3⟩
  have id3 : IniDef (prog := P) K "value" C3 I3 _ := ⟨⟨ioc3, ccl3, ccl23, iod3, cdd3, cld3, isl3, ccs3, csl3, _, _, file3, tf3, vs3, _, _, _, ikV3, idc3, ipm3, ict3, ian3, cda3, cc3, _, _, _, _, _, _, _, _, _, _, _, _, rfl, lI3, cI3, lc3, v23, fi3, tops, lcc3, rfl, rfl, ⟨rfl, rfl, rfl, rfl, by decide +kernel, rfl, rfl, rfl⟩, fun _ => rfl, fun _ => rfl, fun _ => rfl, fun _ => rfl, fun _ => rfl⟩⟩
  have i3 : Ini P K mg "value" C3 I3 _ := ⟨id3, .inl rfl, o3, iC3, tI3, su3, ve3, mr3, thc, nov3, PySem.W.mg_none_of X G z0super⟩
  have bi3 : Binds K (PySem.W.ksFn "__init__" "InvalidProgram.__init__" (defArgs (inClass (top 13) 0)) (defBody (inClass (top 13) 0)) (defScope (inClass (top 13) 0)) (.ref T3) ikV3 idc3 ipm3 ian3 (.ref cda3) ict3 cc3) ["self", "value"] [] := fun s us hK hl => match us, hl with | [_, _], _ => .of_defaults rfl (hK _ _ lT3) rfl rfl rfl
  have e4 : ExcC K C4 := ⟨ga4, gg4, ex4, hd4, ha4, spc, tkc, mo4⟩
  have mc4 : mg "UnknownName" = some (.ref C4) := PySem.W.mg_of X G aC4
  have em_InvalidProgram : ∀ e C, inB ["InvalidProgram"] e = true → mg e = some (.ref C) → PySem.W.exmOne K (.ref C) (.ref C3) = some true := by
    intro c C hc hC
    have hc := inB_mem hc
    rw [List.mem_singleton] at hc
    subst hc
    cases mc3.symm.trans hC; exact exm_by ex3 is3 ty3 s3_3
  have fEvalue : ∀ n C, inB ES n = true → mg n = some (.ref C) → ExcC K C ∧ NoAttr K C "value" := by
    intro c C hc hC
    have hc := inB_mem hc
    simp only [ES, List.mem_cons, List.not_mem_nil, or_false] at hc
    rcases hc with rfl | rfl | rfl | rfl | rfl | rfl | rfl | rfl | rfl
    · cases mc0.symm.trans hC; exact ⟨e0, nov0⟩
    · cases mc1.symm.trans hC; exact ⟨e1, nov1⟩
    · cases mc2.symm.trans hC; exact ⟨e2, nov2⟩
    · cases mc3.symm.trans hC; exact ⟨e3, nov3⟩
    · cases (PySem.W.mg_none_of X G no_InvalidRow).symm.trans hC
    · cases (PySem.W.mg_none_of X G no_InvalidText).symm.trans hC
    · cases (PySem.W.mg_none_of X G no_InvalidName).symm.trans hC
    · cases (PySem.W.mg_none_of X G no_TakenName).symm.trans hC
    · cases mc4.symm.trans hC; exact ⟨e4, nov4⟩
  have nfx_Live_Program : ∀ c, inB ["Program"] c = true → ∀ C, mg c = some (.ref C) → PySem.W.notFirst K K3 (.ref C) = true := by
    intro c hc C hC
    have hc := inB_mem hc
    simp only [List.mem_cons, List.not_mem_nil, or_false] at hc
    subst hc
    cases mK2.symm.trans hC; exact nfo3_2
  have nfx_Program_Live : ∀ c, inB ["Live"] c = true → ∀ C, mg c = some (.ref C) → PySem.W.notFirst K K2 (.ref C) = true := by
    intro c hc C hC
    have hc := inB_mem hc
    simp only [List.mem_cons, List.not_mem_nil, or_false] at hc
    subst hc
    cases mK3.symm.trans hC; exact nfo2_3
  have mcN : mg "NothingToUndo" = some (.ref UN) := PySem.W.mg_of X G aN
  have emN : ∀ e C, inB ["NothingToUndo"] e = true → mg e = some (.ref C) → PySem.W.exmOne K (.ref C) (.ref UN) = some true := by
    intro c C hc hC
    have hc := inB_mem hc
    rw [List.mem_singleton] at hc
    subst hc
    cases mcN.symm.trans hC; exact exm_by exN isN tyN sN_N
  have fIfolio : ∀ n C, inB ["Program"] n = true → mg n = some (.ref C) → L2.Cls K C ∧ NoAttr K C "folio" := by
    intro c C hc hC
    have hc := inB_mem hc
    simp only [List.mem_cons, List.not_mem_nil, or_false] at hc
    subst hc
    cases mK2.symm.trans hC; exact ⟨clK2, nf2_folio⟩
  have fInow : ∀ n C, inB ["Live"] n = true → mg n = some (.ref C) → L2.Cls K C ∧ NoAttr K C "now" := by
    intro c C hc hC
    have hc := inB_mem hc
    simp only [List.mem_cons, List.not_mem_nil, or_false] at hc
    subst hc
    cases mK3.symm.trans hC; exact ⟨clK3, nf3_now⟩
  have fIpast : ∀ n C, inB ["Live"] n = true → mg n = some (.ref C) → L2.Cls K C ∧ NoAttr K C "past" := by
    intro c C hc hC
    have hc := inB_mem hc
    simp only [List.mem_cons, List.not_mem_nil, or_false] at hc
    subst hc
    cases mK3.symm.trans hC; exact ⟨clK3, nf3_past⟩
  have fIstands : ∀ n C, inB ["Program"] n = true → mg n = some (.ref C) → L2.Cls K C ∧ NoAttr K C "stands" := by
    intro c C hc hC
    have hc := inB_mem hc
    simp only [List.mem_cons, List.not_mem_nil, or_false] at hc
    subst hc
    cases mK2.symm.trans hC; exact ⟨clK2, nf2_stands⟩
  have fIsteps : ∀ n C, inB ["Program"] n = true → mg n = some (.ref C) → L2.Cls K C ∧ NoAttr K C "steps" := by
    intro c C hc hC
    have hc := inB_mem hc
    simp only [List.mem_cons, List.not_mem_nil, or_false] at hc
    subst hc
    cases mK2.symm.trans hC; exact ⟨clK2, nf2_steps⟩
  obtain ⟨T, hT⟩ : ∃ T : Tx P K mg, T.f_law = f41 := ⟨{
    f_Program_eq := f0, d_Program_eq := _, F_Program_eq := fun_mk (st := s_Program_eq) l0 c0 k0,
    b_Program_eq := binds_def (fun_mk (st := s_Program_eq) l0 c0 k0) fun _ _ _ _ _ _ us hl => match us, hl with | [_, _], _ => rfl,
    f_Live_eq := f1, d_Live_eq := _, F_Live_eq := fun_mk (st := s_Live_eq) l1 c1 k1,
    b_Live_eq := binds_def (fun_mk (st := s_Live_eq) l1 c1 k1) fun _ _ _ _ _ _ us hl => match us, hl with | [_, _], _ => rfl,
    f_check_program := f2, d_check_program := _, F_check_program := fun_mk (st := s_check_program) l2 c2 k2,
    b_check_program := binds_def (fun_mk (st := s_check_program) l2 c2 k2) fun _ _ _ _ _ _ us hl => match us, hl with | [_], _ => rfl,
    m_check_program := PySem.W.mg_of X G a2, p_check_program := k2,
    f_Live_init := f3, d_Live_init := _, F_Live_init := fun_mk (st := s_Live_init) l3 c3 k3,
    b_Live_init := binds_def (fun_mk (st := s_Live_init) l3 c3 k3) fun _ _ _ _ _ _ us hl => match us, hl with | [_, _], _ => rfl,
    f_Live_copy := f4, d_Live_copy := _, F_Live_copy := fun_mk (st := s_Live_copy) l4 c4 k4,
    b_Live_copy := binds_def (fun_mk (st := s_Live_copy) l4 c4 k4) fun _ _ _ _ _ _ us hl => match us, hl with | [_], _ => rfl,
    f_Live_log := f5, d_Live_log := _, F_Live_log := fun_mk (st := s_Live_log) l5 c5 k5,
    b_Live_log := binds_def (fun_mk (st := s_Live_log) l5 c5 k5) fun _ _ _ _ _ _ us hl => match us, hl with | [_], _ => rfl,
    f_is_whole := f6, d_is_whole := _, F_is_whole := fun_mk (st := s_is_whole) l6 c6 k6,
    b_is_whole := binds_def (fun_mk (st := s_is_whole) l6 c6 k6) fun _ _ _ _ _ _ us hl => match us, hl with | [_], _ => rfl,
    m_is_whole := PySem.W.mg_of X G a6, p_is_whole := k6,
    f_is_within := f7, d_is_within := _, F_is_within := fun_mk (st := s_is_within) l7 c7 k7,
    b_is_within := binds_def (fun_mk (st := s_is_within) l7 c7 k7) fun _ _ _ _ _ _ us hl => match us, hl with | [_, _, _], _ => rfl,
    m_is_within := PySem.W.mg_of X G a7, p_is_within := k7,
    f_is_move := f8, d_is_move := _, F_is_move := fun_mk (st := s_is_move) l8 c8 k8,
    b_is_move := binds_def (fun_mk (st := s_is_move) l8 c8 k8) fun _ _ _ _ _ _ us hl => match us, hl with | [_, _], _ => rfl,
    m_is_move := PySem.W.mg_of X G a8, p_is_move := k8,
    f_is_name := f9, d_is_name := _, F_is_name := fun_mk (st := s_is_name) l9 c9 k9,
    b_is_name := binds_def (fun_mk (st := s_is_name) l9 c9 k9) fun _ _ _ _ _ _ us hl => match us, hl with | [_], _ => rfl,
    m_is_name := PySem.W.mg_of X G a9, p_is_name := k9,
    f_Program_init := f10, d_Program_init := _, F_Program_init := fun_mk (st := s_Program_init) l10 c10 k10,
    b_Program_init := binds_def (fun_mk (st := s_Program_init) l10 c10 k10) fun _ _ _ _ _ _ us hl => match us, hl with | [_, _, _], _ => rfl,
    f_Program_moves := f11, d_Program_moves := _, F_Program_moves := fun_mk (st := s_Program_moves) l11 c11 k11,
    b_Program_moves := binds_def (fun_mk (st := s_Program_moves) l11 c11 k11) fun _ _ _ _ _ _ us hl => match us, hl with | [_], _ => rfl,
    f_Program_places := f12, d_Program_places := _, F_Program_places := fun_mk (st := s_Program_places) l12 c12 k12,
    b_Program_places := binds_def (fun_mk (st := s_Program_places) l12 c12 k12) fun _ _ _ _ _ _ us hl => match us, hl with | [_], _ => rfl,
    f_Live_shown := f13, d_Live_shown := _, F_Live_shown := fun_mk (st := s_Live_shown) l13 c13 k13,
    b_Live_shown := binds_def (fun_mk (st := s_Live_shown) l13 c13 k13) fun _ _ _ _ _ _ us hl => match us, hl with | [_], _ => rfl,
    f_law_hash := f14, d_law_hash := _, F_law_hash := fun_mk (st := s_law_hash) l14 c14 k14,
    b_law_hash := binds_def (fun_mk (st := s_law_hash) l14 c14 k14) fun _ _ _ _ _ _ us hl => match us, hl with | [_, _], _ => rfl,
    m_law_hash := PySem.W.mg_of X G a14, p_law_hash := k14,
    f_law_random := f15, d_law_random := _, F_law_random := fun_mk (st := s_law_random) l15 c15 k15,
    b_law_random := binds_def (fun_mk (st := s_law_random) l15 c15 k15) fun _ _ _ _ _ _ us hl => match us, hl with | [_, _], _ => rfl,
    m_law_random := PySem.W.mg_of X G a15, p_law_random := k15,
    f_law_moves_drawn := f16, d_law_moves_drawn := _, F_law_moves_drawn := fun_mk (st := s_law_moves_drawn) l16 c16 k16,
    b_law_moves_drawn := binds_def (fun_mk (st := s_law_moves_drawn) l16 c16 k16) fun _ _ _ _ _ _ us hl => match us, hl with | [_, _, _], _ => rfl,
    m_law_moves_drawn := PySem.W.mg_of X G a16, p_law_moves_drawn := k16,
    f_law_drawn := f17, d_law_drawn := _, F_law_drawn := fun_mk (st := s_law_drawn) l17 c17 k17,
    b_law_drawn := binds_def (fun_mk (st := s_law_drawn) l17 c17 k17) fun _ _ _ _ _ _ us hl => match us, hl with | [_, _, _], _ => rfl,
    m_law_drawn := PySem.W.mg_of X G a17, p_law_drawn := k17,
    f_law_cell := f18, d_law_cell := _, F_law_cell := fun_mk (st := s_law_cell) l18 c18 k18,
    b_law_cell := binds_def (fun_mk (st := s_law_cell) l18 c18 k18) fun _ _ _ _ _ _ us hl => match us, hl with | [_, _], _ => rfl,
    m_law_cell := PySem.W.mg_of X G a18, p_law_cell := k18,
    f_law_generator := f19, d_law_generator := _, F_law_generator := fun_mk (st := s_law_generator) l19 c19 k19,
    b_law_generator := binds_def (fun_mk (st := s_law_generator) l19 c19 k19) fun _ _ _ _ _ _ us hl => match us, hl with | [_, _], _ => rfl,
    m_law_generator := PySem.W.mg_of X G a19, p_law_generator := k19,
    f_Live_len := f20, d_Live_len := _, F_Live_len := fun_mk (st := s_Live_len) l20 c20 k20,
    b_Live_len := binds_def (fun_mk (st := s_Live_len) l20 c20 k20) fun _ _ _ _ _ _ us hl => match us, hl with | [_], _ => rfl,
    f_Live_check_move := f21, d_Live_check_move := _, F_Live_check_move := fun_mk (st := s_Live_check_move) l21 c21 k21,
    b_Live_check_move := binds_def (fun_mk (st := s_Live_check_move) l21 c21 k21) fun _ _ _ _ _ _ us hl => match us, hl with | [_, _], _ => rfl,
    f_Live_lead := f22, d_Live_lead := _, F_Live_lead := fun_mk (st := s_Live_lead) l22 c22 k22,
    b_Live_lead := binds_def (fun_mk (st := s_Live_lead) l22 c22 k22) fun _ _ _ _ _ _ us hl => match us, hl with | [_, _, _], _ => rfl,
    f_Live_add := f23, d_Live_add := _, F_Live_add := fun_mk (st := s_Live_add) l23 c23 k23,
    b_Live_add := binds_def (fun_mk (st := s_Live_add) l23 c23 k23) fun _ _ _ _ _ _ us hl => match us, hl with | [_, _], _ => rfl,
    f_Live_back := f24, d_Live_back := _, F_Live_back := fun_mk (st := s_Live_back) l24 c24 k24,
    b_Live_back := binds_def (fun_mk (st := s_Live_back) l24 c24 k24) fun _ _ _ _ _ _ us hl => match us, hl with | [_], _ => rfl,
    f_Live_check_number := f25, d_Live_check_number := _, F_Live_check_number := fun_mk (st := s_Live_check_number) l25 c25 k25,
    b_Live_check_number := binds_def (fun_mk (st := s_Live_check_number) l25 c25 k25) fun _ _ _ _ _ _ us hl => match us, hl with | [_, _], _ => rfl,
    f_Live_drop := f26, d_Live_drop := _, F_Live_drop := fun_mk (st := s_Live_drop) l26 c26 k26,
    b_Live_drop := binds_def (fun_mk (st := s_Live_drop) l26 c26 k26) fun _ _ _ _ _ _ us hl => match us, hl with | [_, _], _ => rfl,
    f_law_many_right := f27, d_law_many_right := _, F_law_many_right := fun_mk (st := s_law_many_right) l27 c27 k27,
    b_law_many_right := binds_def (fun_mk (st := s_law_many_right) l27 c27 k27) fun _ _ _ _ _ _ us hl => match us, hl with | [], _ => rfl,
    m_law_many_right := PySem.W.mg_of X G a27, p_law_many_right := k27,
    f_Tested_init := f28, d_Tested_init := _, F_Tested_init := fun_mk (st := s_Tested_init) l28 c28 k28,
    b_Tested_init := binds_def (fun_mk (st := s_Tested_init) l28 c28 k28) fun _ _ _ _ _ _ us hl => match us, hl with | [_, _, _], _ => rfl,
    f_least_endless := f29, d_least_endless := _, F_least_endless := fun_mk (st := s_least_endless) l29 c29 k29,
    b_least_endless := binds_def (fun_mk (st := s_least_endless) l29 c29 k29) fun _ _ _ _ _ _ us hl => match us, hl with | [_, _], _ => rfl,
    m_least_endless := PySem.W.mg_of X G a29, p_least_endless := k29,
    f_check_ways := f30, d_check_ways := _, F_check_ways := fun_mk (st := s_check_ways) l30 c30 k30,
    b_check_ways := binds_def (fun_mk (st := s_check_ways) l30 c30 k30) fun _ _ _ _ _ _ us hl => match us, hl with | [_, _, _, _], _ => rfl,
    m_check_ways := PySem.W.mg_of X G a30, p_check_ways := k30,
    f_least_for := f31, d_least_for := _, F_least_for := fun_mk (st := s_least_for) l31 c31 k31,
    b_least_for := binds_def (fun_mk (st := s_least_for) l31 c31 k31) fun _ _ _ _ _ _ us hl => match us, hl with | [_, _, _, _], _ => rfl,
    m_least_for := PySem.W.mg_of X G a31, p_least_for := k31,
    f_text_of := f32, d_text_of := _, F_text_of := fun_mk (st := s_text_of) l32 c32 k32,
    b_text_of := binds_def (fun_mk (st := s_text_of) l32 c32 k32) fun _ _ _ _ _ _ us hl => match us, hl with | [_], _ => rfl,
    m_text_of := PySem.W.mg_of X G a32, p_text_of := k32,
    f_check_pair := f33, d_check_pair := _, F_check_pair := fun_mk (st := s_check_pair) l33 c33 k33,
    b_check_pair := binds_def (fun_mk (st := s_check_pair) l33 c33 k33) fun _ _ _ _ _ _ us hl => match us, hl with | [_, _], _ => rfl,
    m_check_pair := PySem.W.mg_of X G a33, p_check_pair := k33,
    f_unlike := f34, d_unlike := _, F_unlike := fun_mk (st := s_unlike) l34 c34 k34,
    b_unlike := binds_def (fun_mk (st := s_unlike) l34 c34 k34) fun _ _ _ _ _ _ us hl => match us, hl with | [_, _], _ => rfl,
    m_unlike := PySem.W.mg_of X G a34, p_unlike := k34,
    f_law_no_program := f35, d_law_no_program := _, F_law_no_program := fun_mk (st := s_law_no_program) l35 c35 k35,
    b_law_no_program := binds_def (fun_mk (st := s_law_no_program) l35 c35 k35) fun _ _ _ _ _ _ us hl => match us, hl with | [_], _ => rfl,
    m_law_no_program := PySem.W.mg_of X G a35, p_law_no_program := k35,
    f_law_program := f36, d_law_program := _, F_law_program := fun_mk (st := s_law_program) l36 c36 k36,
    b_law_program := binds_def (fun_mk (st := s_law_program) l36 c36 k36) fun _ _ _ _ _ _ us hl => match us, hl with | [_], _ => rfl,
    m_law_program := PySem.W.mg_of X G a36, p_law_program := k36,
    f_law_shows := f37, d_law_shows := _, F_law_shows := fun_mk (st := s_law_shows) l37 c37 k37,
    b_law_shows := binds_def (fun_mk (st := s_law_shows) l37 c37 k37) fun _ _ _ _ _ _ us hl => match us, hl with | [_, _, _], _ => rfl,
    m_law_shows := PySem.W.mg_of X G a37, p_law_shows := k37,
    f_Live_change := f38, d_Live_change := _, F_Live_change := fun_mk (st := s_Live_change) l38 c38 k38,
    b_Live_change := binds_def (fun_mk (st := s_Live_change) l38 c38 k38) fun _ _ _ _ _ _ us hl => match us, hl with | [_, _, _], _ => rfl,
    f_law_step := f39, d_law_step := _, F_law_step := fun_mk (st := s_law_step) l39 c39 k39,
    b_law_step := binds_def (fun_mk (st := s_law_step) l39 c39 k39) fun _ _ _ _ _ _ us hl => match us, hl with | [_, _, _, _], _ => rfl,
    m_law_step := PySem.W.mg_of X G a39, p_law_step := k39,
    f_law_undone := f40, d_law_undone := _, F_law_undone := fun_mk (st := s_law_undone) l40 c40 k40,
    b_law_undone := binds_def (fun_mk (st := s_law_undone) l40 c40 k40) fun _ _ _ _ _ _ us hl => match us, hl with | [_, _], _ => rfl,
    m_law_undone := PySem.W.mg_of X G a40, p_law_undone := k40,
    f_law := f41, d_law := _, F_law := fun_mk (st := s_law) l41 c41 k41,
    b_law := binds_def (fun_mk (st := s_law) l41 c41 k41) fun _ _ _ _ _ _ us hl => match us, hl with | [_], _ => rfl,
    m_law := PySem.W.mg_of X G a41, p_law := k41,
    z_bool := PySem.W.mg_none_of X G z_bool,
    z_enumerate := PySem.W.mg_none_of X G z_enumerate,
    z_int := PySem.W.mg_none_of X G z_int,
    z_isinstance := PySem.W.mg_none_of X G z_isinstance,
    z_len := PySem.W.mg_none_of X G z_len,
    z_list := PySem.W.mg_none_of X G z_list,
    z_max := PySem.W.mg_none_of X G z_max,
    z_min := PySem.W.mg_none_of X G z_min,
    z_range := PySem.W.mg_none_of X G z_range,
    z_repr := PySem.W.mg_none_of X G z_repr,
    z_str := PySem.W.mg_none_of X G z_str,
    z_tuple := PySem.W.mg_none_of X G z_tuple,
    t_LETTERS := t_LETTERS, g_LETTERS := PySem.W.mg_of X G g_LETTERS,
    t_MOST_CHANGE := t_MOST_CHANGE, g_MOST_CHANGE := PySem.W.mg_of X G g_MOST_CHANGE,
    t_MOST_LEAST := t_MOST_LEAST, g_MOST_LEAST := PySem.W.mg_of X G g_MOST_LEAST,
    t_MOST_LETTERS := t_MOST_LETTERS, g_MOST_LETTERS := PySem.W.mg_of X G g_MOST_LETTERS,
    t_MOST_MOVES := t_MOST_MOVES, g_MOST_MOVES := PySem.W.mg_of X G g_MOST_MOVES,
    t_MOST_PLACES := t_MOST_PLACES, g_MOST_PLACES := PySem.W.mg_of X G g_MOST_PLACES,
    c_Program := K2, mc_Program := mK2, cl_Program := clK2,
    mk_Program := ⟨mkK2, a10, fn10, kpK2⟩,
    nt_Program := noT_ok isK2 tyK2, eqi_Program := eqK2,
    c_Live := K3, mc_Live := mK3, cl_Live := clK3,
    mk_Live := ⟨mkK3, a3, fn3, kpK3⟩,
    nt_Live := noT_ok isK3 tyK3, eqi_Live := eqK3,
    c_Tested := K4, mc_Tested := mK4, cl_Tested := clK4,
    mk_Tested := ⟨mkK4, a28, fn28, kpK4⟩,
    me_Live_eq := ⟨a1, fn1, k1⟩,
    me_Live_len := ⟨a20, fn20, k20⟩,
    me_Live_add := ⟨a23, fn23, k23⟩,
    me_Live_back := ⟨a24, fn24, k24⟩,
    me_Live_change := ⟨a38, fn38, k38⟩,
    me_Live_check_move := ⟨a21, fn21, k21⟩,
    me_Live_check_number := ⟨a25, fn25, k25⟩,
    me_Live_copy := ⟨a4, fn4, k4⟩,
    me_Live_drop := ⟨a26, fn26, k26⟩,
    me_Live_lead := ⟨a22, fn22, k22⟩,
    me_Live_log := ⟨a5, fn5, k5⟩,
    me_Live_shown := ⟨a13, fn13, k13⟩,
    me_Program_eq := ⟨a0, fn0, k0⟩,
    me_Program_moves := ⟨a11, fn11, k11⟩,
    me_Program_places := ⟨a12, fn12, k12⟩,
    eo_Live := ⟨⟨a1, fn1, k1⟩, neqK3, moK3⟩,
    eb_Live := ⟨it3_NoneType, it3_int, it3_str, it3_list, it3_dict, mr3_list, mr3_dict⟩,
    eo_Program := ⟨⟨a0, fn0, k0⟩, neqK2, moK2⟩,
    eb_Program := ⟨it2_NoneType, it2_int, it2_str, it2_list, it2_dict, mr2_list, mr2_dict⟩,
    fI_folio := fIfolio,
    fI_now := fInow,
    fI_past := fIpast,
    fI_stands := fIstands,
    fI_steps := fIsteps,
    c_InvalidItem := C2, mc_InvalidItem := mc2,
    j_InvalidItem := I2, dj_InvalidItem := _, i_InvalidItem := i2, bi_InvalidItem := bi2,
    c_InvalidList := C1, mc_InvalidList := mc1,
    j_InvalidList := I1, dj_InvalidList := _, i_InvalidList := i1, bi_InvalidList := bi1,
    c_InvalidNumber := C0, mc_InvalidNumber := mc0,
    j_InvalidNumber := I0, dj_InvalidNumber := _, i_InvalidNumber := i0, bi_InvalidNumber := bi0,
    c_InvalidProgram := C3, mc_InvalidProgram := mc3,
    em_InvalidProgram := em_InvalidProgram,
    j_InvalidProgram := I3, dj_InvalidProgram := _, i_InvalidProgram := i3, bi_InvalidProgram := bi3,
    fE_value := fEvalue,
    nf_Live_Program := nfx_Live_Program,
    nf_Program_Live := nfx_Program_Live,
    c_NothingToUndo := UN, mc_NothingToUndo := mcN, xi_NothingToUndo := xiN, kp_NothingToUndo := kpN, ex_NothingToUndo := exN, ty_NothingToUndo := tyN, em_NothingToUndo := emN,
    }, rfl⟩
  exact ⟨T.d_law, fun s v hK => T.b_law s [v] hK rfl, fun w base => hT ▸ T.k_law base⟩
end W66
open PySem PySem.W PyProof.Rows
set_option maxRecDepth 100000 in
set_option maxHeartbeats 0 in
theorem PySem.Challenge.cw_floorwalks_k66_whole_copies_of_live_prog_holds : PySem.Challenge.rw_floorwalks_k66_whole_copies_of_live_prog.Holds := by
  w_on; o_law; k_head; (case hw => w_witness2)
  k_fill
  refine FW.law_end (l := PySem.Challenge.rw_floorwalks_k66_whole_copies_of_live_prog) (n := 63) (k := 11) (x := "_law_script") (FM := W66.M_law) rfl (by decide) rfl ⟨⟨rfl, by decide, by decide⟩, rfl⟩ (fun w h Y => PySem.W.kIn_of Y) ?F (W66.pure_law)
  case F =>
    intro w mg fa h KX G hmg
    refine' FW.end_use (W66.all_mk (P := PySem.Challenge.rw_floorwalks_k66_whole_copies_of_live_prog.prog) KX G hmg ?aK0 ?aK1 ?aK2 ?aK3 ?aK4 ?a0 ?fn0 ?l0 ?c0 ?k0 ?a1 ?fn1 ?l1 ?c1 ?k1 ?a2 ?l2 ?c2 ?k2 ?a3 ?fn3 ?l3 ?c3 ?k3 ?a4 ?fn4 ?l4 ?c4 ?k4 ?a5 ?fn5 ?l5 ?c5 ?k5 ?a6 ?l6 ?c6 ?k6 ?a7 ?l7 ?c7 ?k7 ?a8 ?l8 ?c8 ?k8 ?a9 ?l9 ?c9 ?k9 ?a10 ?fn10 ?l10 ?c10 ?k10 ?a11 ?fn11 ?l11 ?c11 ?k11 ?a12 ?fn12 ?l12 ?c12 ?k12 ?a13 ?fn13 ?l13 ?c13 ?k13 ?a14 ?l14 ?c14 ?k14 ?a15 ?l15 ?c15 ?k15 ?a16 ?l16 ?c16 ?k16 ?a17 ?l17 ?c17 ?k17 ?a18 ?l18 ?c18 ?k18 ?a19 ?l19 ?c19 ?k19 ?a20 ?fn20 ?l20 ?c20 ?k20 ?a21 ?fn21 ?l21 ?c21 ?k21 ?a22 ?fn22 ?l22 ?c22 ?k22 ?a23 ?fn23 ?l23 ?c23 ?k23 ?a24 ?fn24 ?l24 ?c24 ?k24 ?a25 ?fn25 ?l25 ?c25 ?k25 ?a26 ?fn26 ?l26 ?c26 ?k26 ?a27 ?l27 ?c27 ?k27 ?a28 ?fn28 ?l28 ?c28 ?k28 ?a29 ?l29 ?c29 ?k29 ?a30 ?l30 ?c30 ?k30 ?a31 ?l31 ?c31 ?k31 ?a32 ?l32 ?c32 ?k32 ?a33 ?l33 ?c33 ?k33 ?a34 ?l34 ?c34 ?k34 ?a35 ?l35 ?c35 ?k35 ?a36 ?l36 ?c36 ?k36 ?a37 ?l37 ?c37 ?k37 ?a38 ?fn38 ?l38 ?c38 ?k38 ?a39 ?l39 ?c39 ?k39 ?a40 ?l40 ?c40 ?k40 ?a41 ?l41 ?c41 ?k41 ?z_bool ?z_enumerate ?z_int ?z_isinstance ?z_len ?z_list ?z_max ?z_min ?z_range ?z_repr ?z_str ?z_tuple ?g_LETTERS ?g_MOST_CHANGE ?g_MOST_LEAST ?g_MOST_LETTERS ?g_MOST_MOVES ?g_MOST_PLACES ?spc ?tkc ?no_Library ?no_Cover ?no_Below ?pg0 ?hdK0 ?po0 ?saK0 ?haK0 ?moK0 ?tyK0 ?isK0 ?pg1 ?hdK1 ?po1 ?saK1 ?haK1 ?moK1 ?tyK1 ?isK1 ?pg2 ?hdK2 ?po2 ?saK2 ?mkK2 ?kpK2 ?neqK2 ?it2_NoneType ?it2_int ?it2_str ?it2_list ?it2_dict ?mr2_list ?mr2_dict ?haK2 ?moK2 ?tyK2 ?isK2 ?pg3 ?hdK3 ?po3 ?saK3 ?mkK3 ?kpK3 ?neqK3 ?it3_NoneType ?it3_int ?it3_str ?it3_list ?it3_dict ?mr3_list ?mr3_dict ?haK3 ?moK3 ?tyK3 ?isK3 ?pg4 ?hdK4 ?po4 ?saK4 ?mkK4 ?kpK4 ?haK4 ?moK4 ?tyK4 ?isK4 ?sK0_2 ?neK0_2 ?sK0_3 ?neK0_3 ?sK1_2 ?neK1_2 ?sK1_3 ?neK1_3 ?sK2_2 ?sK2_3 ?neK2_3 ?sK3_2 ?neK3_2 ?sK3_3 ?sK4_2 ?neK4_2 ?sK4_3 ?neK4_3 ?nf2_folio ?nf3_now ?nf3_past ?nf2_stands ?nf2_steps ?z0super ?aW ?isW ?tyW ?exW ?thc ?no_InvalidRow ?no_InvalidText ?no_InvalidName ?no_TakenName ?aC0 ?xC0 ?sa0 ?ga0 ?gg0 ?nov0 ?non0 ?ha0 ?iC0 ?mo0 ?mr0 ?ve0 ?ex0 ?sW0 ?tI0 ?kC0 ?ty0 ?hd0 ?is0 ?su0 ?lI0 ?cI0 ?lc0 ?v20 ?fi0 ?lcc0 ?lT0 ?aC1 ?xC1 ?sa1 ?ga1 ?gg1 ?nov1 ?non1 ?ha1 ?iC1 ?mo1 ?mr1 ?ve1 ?ex1 ?sW1 ?tI1 ?kC1 ?ty1 ?hd1 ?is1 ?su1 ?lI1 ?cI1 ?lc1 ?v21 ?fi1 ?lcc1 ?lT1 ?aC2 ?xC2 ?sa2 ?ga2 ?gg2 ?nov2 ?non2 ?ha2 ?iC2 ?mo2 ?mr2 ?ve2 ?ex2 ?sW2 ?tI2 ?kC2 ?ty2 ?hd2 ?is2 ?su2 ?lI2 ?cI2 ?lc2 ?v22 ?fi2 ?lcc2 ?lT2 ?aC3 ?xC3 ?sa3 ?ga3 ?gg3 ?nov3 ?non3 ?ha3 ?iC3 ?mo3 ?mr3 ?ve3 ?ex3 ?sW3 ?tI3 ?kC3 ?ty3 ?hd3 ?is3 ?su3 ?lI3 ?cI3 ?lc3 ?v23 ?fi3 ?lcc3 ?lT3 ?aC4 ?xC4 ?sa4 ?ga4 ?gg4 ?nov4 ?non4 ?ha4 ?iC4 ?mo4 ?mr4 ?ve4 ?ex4 ?sW4 ?tI4 ?kC4 ?ty4 ?hd4 ?is4 ?su4 ?lI4 ?cI4 ?lc4 ?v24 ?fi4 ?lcc4 ?lT4 ?tops ?s3_3 ?aN ?exN ?isN ?tyN ?xiN ?kpN ?sN_N ?nfo3_2 ?nfo2_3)
    case aK0 => k_is
    case aK1 => k_is
    case aK2 => k_is
    case aK3 => k_is
    case aK4 => k_is
    case a0 => k_is
    case fn0 => k_is
    case l0 => k_is
    case c0 => k_is
    case k0 => k_is
    case a1 => k_is
    case fn1 => k_is
    case l1 => k_is
    case c1 => k_is
    case k1 => k_is
    case a2 => k_is
    case l2 => k_is
    case c2 => k_is
    case k2 => k_is
    case a3 => k_is
    case fn3 => k_is
    case l3 => k_is
    case c3 => k_is
    case k3 => k_is
    case a4 => k_is
    case fn4 => k_is
    case l4 => k_is
    case c4 => k_is
    case k4 => k_is
    case a5 => k_is
    case fn5 => k_is
    case l5 => k_is
    case c5 => k_is
    case k5 => k_is
    case a6 => k_is
    case l6 => k_is
    case c6 => k_is
    case k6 => k_is
    case a7 => k_is
    case l7 => k_is
    case c7 => k_is
    case k7 => k_is
    case a8 => k_is
    case l8 => k_is
    case c8 => k_is
    case k8 => k_is
    case a9 => k_is
    case l9 => k_is
    case c9 => k_is
    case k9 => k_is
    case a10 => k_is
    case fn10 => k_is
    case l10 => k_is
    case c10 => k_is
    case k10 => k_is
    case a11 => k_is
    case fn11 => k_is
    case l11 => k_is
    case c11 => k_is
    case k11 => k_is
    case a12 => k_is
    case fn12 => k_is
    case l12 => k_is
    case c12 => k_is
    case k12 => k_is
    case a13 => k_is
    case fn13 => k_is
    case l13 => k_is
    case c13 => k_is
    case k13 => k_is
    case a14 => k_is
    case l14 => k_is
    case c14 => k_is
    case k14 => k_is
    case a15 => k_is
    case l15 => k_is
    case c15 => k_is
    case k15 => k_is
    case a16 => k_is
    case l16 => k_is
    case c16 => k_is
    case k16 => k_is
    case a17 => k_is
    case l17 => k_is
    case c17 => k_is
    case k17 => k_is
    case a18 => k_is
    case l18 => k_is
    case c18 => k_is
    case k18 => k_is
    case a19 => k_is
    case l19 => k_is
    case c19 => k_is
    case k19 => k_is
    case a20 => k_is
    case fn20 => k_is
    case l20 => k_is
    case c20 => k_is
    case k20 => k_is
    case a21 => k_is
    case fn21 => k_is
    case l21 => k_is
    case c21 => k_is
    case k21 => k_is
    case a22 => k_is
    case fn22 => k_is
    case l22 => k_is
    case c22 => k_is
    case k22 => k_is
    case a23 => k_is
    case fn23 => k_is
    case l23 => k_is
    case c23 => k_is
    case k23 => k_is
    case a24 => k_is
    case fn24 => k_is
    case l24 => k_is
    case c24 => k_is
    case k24 => k_is
    case a25 => k_is
    case fn25 => k_is
    case l25 => k_is
    case c25 => k_is
    case k25 => k_is
    case a26 => k_is
    case fn26 => k_is
    case l26 => k_is
    case c26 => k_is
    case k26 => k_is
    case a27 => k_is
    case l27 => k_is
    case c27 => k_is
    case k27 => k_is
    case a28 => k_is
    case fn28 => k_is
    case l28 => k_is
    case c28 => k_is
    case k28 => k_is
    case a29 => k_is
    case l29 => k_is
    case c29 => k_is
    case k29 => k_is
    case a30 => k_is
    case l30 => k_is
    case c30 => k_is
    case k30 => k_is
    case a31 => k_is
    case l31 => k_is
    case c31 => k_is
    case k31 => k_is
    case a32 => k_is
    case l32 => k_is
    case c32 => k_is
    case k32 => k_is
    case a33 => k_is
    case l33 => k_is
    case c33 => k_is
    case k33 => k_is
    case a34 => k_is
    case l34 => k_is
    case c34 => k_is
    case k34 => k_is
    case a35 => k_is
    case l35 => k_is
    case c35 => k_is
    case k35 => k_is
    case a36 => k_is
    case l36 => k_is
    case c36 => k_is
    case k36 => k_is
    case a37 => k_is
    case l37 => k_is
    case c37 => k_is
    case k37 => k_is
    case a38 => k_is
    case fn38 => k_is
    case l38 => k_is
    case c38 => k_is
    case k38 => k_is
    case a39 => k_is
    case l39 => k_is
    case c39 => k_is
    case k39 => k_is
    case a40 => k_is
    case l40 => k_is
    case c40 => k_is
    case k40 => k_is
    case a41 => k_is
    case l41 => k_is
    case c41 => k_is
    case k41 => k_is
    case z_bool => k_is
    case z_enumerate => k_is
    case z_int => k_is
    case z_isinstance => k_is
    case z_len => k_is
    case z_list => k_is
    case z_max => k_is
    case z_min => k_is
    case z_range => k_is
    case z_repr => k_is
    case z_str => k_is
    case z_tuple => k_is
    case g_LETTERS => k_is
    case g_MOST_CHANGE => k_is
    case g_MOST_LEAST => k_is
    case g_MOST_LETTERS => k_is
    case g_MOST_MOVES => k_is
    case g_MOST_PLACES => k_is
    case spc => k_is
    case tkc => k_is
    case no_Library => k_is
    case no_Cover => k_is
    case no_Below => k_is
    case pg0 => k_is
    case hdK0 => k_is
    case po0 => k_is
    case saK0 => k_is
    case haK0 => k_is
    case moK0 => k_is
    case tyK0 => k_is
    case isK0 => k_is
    case pg1 => k_is
    case hdK1 => k_is
    case po1 => k_is
    case saK1 => k_is
    case haK1 => k_is
    case moK1 => k_is
    case tyK1 => k_is
    case isK1 => k_is
    case pg2 => k_is
    case hdK2 => k_is
    case po2 => k_is
    case saK2 => k_is
    case mkK2 => k_is
    case kpK2 => k_is
    case neqK2 => k_is
    case it2_NoneType => k_is
    case it2_int => k_is
    case it2_str => k_is
    case it2_list => k_is
    case it2_dict => k_is
    case mr2_list => k_is
    case mr2_dict => k_is
    case haK2 => k_is
    case moK2 => k_is
    case tyK2 => k_is
    case isK2 => k_is
    case pg3 => k_is
    case hdK3 => k_is
    case po3 => k_is
    case saK3 => k_is
    case mkK3 => k_is
    case kpK3 => k_is
    case neqK3 => k_is
    case it3_NoneType => k_is
    case it3_int => k_is
    case it3_str => k_is
    case it3_list => k_is
    case it3_dict => k_is
    case mr3_list => k_is
    case mr3_dict => k_is
    case haK3 => k_is
    case moK3 => k_is
    case tyK3 => k_is
    case isK3 => k_is
    case pg4 => k_is
    case hdK4 => k_is
    case po4 => k_is
    case saK4 => k_is
    case mkK4 => k_is
    case kpK4 => k_is
    case haK4 => k_is
    case moK4 => k_is
    case tyK4 => k_is
    case isK4 => k_is
    case sK0_2 => k_is
    case neK0_2 => decide
    case sK0_3 => k_is
    case neK0_3 => decide
    case sK1_2 => k_is
    case neK1_2 => decide
    case sK1_3 => k_is
    case neK1_3 => decide
    case sK2_2 => first | k_is | rfl
    case sK2_3 => k_is
    case neK2_3 => decide
    case sK3_2 => k_is
    case neK3_2 => decide
    case sK3_3 => first | k_is | rfl
    case sK4_2 => k_is
    case neK4_2 => decide
    case sK4_3 => k_is
    case neK4_3 => decide
    case nf2_folio => k_is
    case nf3_now => k_is
    case nf3_past => k_is
    case nf2_stands => k_is
    case nf2_steps => k_is
    case z0super => k_is
    case aW => k_is
    case isW => k_is
    case tyW => k_is
    case exW => k_is
    case thc => k_is
    case no_InvalidRow => k_is
    case no_InvalidText => k_is
    case no_InvalidName => k_is
    case no_TakenName => k_is
    case aC0 => k_is
    case xC0 => k_is
    case sa0 => k_is
    case ga0 => k_is
    case gg0 => k_is
    case nov0 => k_is
    case non0 => k_is
    case ha0 => k_is
    case iC0 => k_is
    case mo0 => k_is
    case mr0 => k_is
    case ve0 => k_is
    case ex0 => k_is
    case sW0 => k_is
    case tI0 => k_is
    case kC0 => k_is
    case ty0 => k_is
    case hd0 => k_is
    case is0 => k_is
    case su0 => ks_is
    case lI0 => k_is
    case cI0 => k_is
    case lc0 => k_is
    case v20 => first | rfl | kernel_rfl
    case fi0 => first | rfl | kernel_rfl | decide +kernel
    case lcc0 => k_is
    case lT0 => k_is
    case aC1 => k_is
    case xC1 => k_is
    case sa1 => k_is
    case ga1 => k_is
    case gg1 => k_is
    case nov1 => k_is
    case non1 => k_is
    case ha1 => k_is
    case iC1 => k_is
    case mo1 => k_is
    case mr1 => k_is
    case ve1 => k_is
    case ex1 => k_is
    case sW1 => k_is
    case tI1 => k_is
    case kC1 => k_is
    case ty1 => k_is
    case hd1 => k_is
    case is1 => k_is
    case su1 => ks_is
    case lI1 => k_is
    case cI1 => k_is
    case lc1 => k_is
    case v21 => first | rfl | kernel_rfl
    case fi1 => first | rfl | kernel_rfl | decide +kernel
    case lcc1 => k_is
    case lT1 => k_is
    case aC2 => k_is
    case xC2 => k_is
    case sa2 => k_is
    case ga2 => k_is
    case gg2 => k_is
    case nov2 => k_is
    case non2 => k_is
    case ha2 => k_is
    case iC2 => k_is
    case mo2 => k_is
    case mr2 => k_is
    case ve2 => k_is
    case ex2 => k_is
    case sW2 => k_is
    case tI2 => k_is
    case kC2 => k_is
    case ty2 => k_is
    case hd2 => k_is
    case is2 => k_is
    case su2 => ks_is
    case lI2 => k_is
    case cI2 => k_is
    case lc2 => k_is
    case v22 => first | rfl | kernel_rfl
    case fi2 => first | rfl | kernel_rfl | decide +kernel
    case lcc2 => k_is
    case lT2 => k_is
    case aC3 => k_is
    case xC3 => k_is
    case sa3 => k_is
    case ga3 => k_is
    case gg3 => k_is
    case nov3 => k_is
    case non3 => k_is
    case ha3 => k_is
    case iC3 => k_is
    case mo3 => k_is
    case mr3 => k_is
    case ve3 => k_is
    case ex3 => k_is
    case sW3 => k_is
    case tI3 => k_is
    case kC3 => k_is
    case ty3 => k_is
    case hd3 => k_is
    case is3 => k_is
    case su3 => ks_is
    case lI3 => k_is
    case cI3 => k_is
    case lc3 => k_is
    case v23 => first | rfl | kernel_rfl
    case fi3 => first | rfl | kernel_rfl | decide +kernel
    case lcc3 => k_is
    case lT3 => k_is
    case aC4 => k_is
    case xC4 => k_is
    case sa4 => k_is
    case ga4 => k_is
    case gg4 => k_is
    case nov4 => k_is
    case non4 => k_is
    case ha4 => k_is
    case iC4 => k_is
    case mo4 => k_is
    case mr4 => k_is
    case ve4 => k_is
    case ex4 => k_is
    case sW4 => k_is
    case tI4 => k_is
    case kC4 => k_is
    case ty4 => k_is
    case hd4 => k_is
    case is4 => k_is
    case su4 => ks_is
    case lI4 => k_is
    case cI4 => k_is
    case lc4 => k_is
    case v24 => first | rfl | kernel_rfl
    case fi4 => first | rfl | kernel_rfl | decide +kernel
    case lcc4 => k_is
    case lT4 => k_is
    case tops => first | rfl | kernel_rfl | decide +kernel
    case s3_3 => first | k_is | rfl
    case aN => k_is
    case exN => k_is
    case isN => k_is
    case tyN => k_is
    case xiN => k_exc
    case kpN => k_is
    case sN_N => first | k_is | rfl
    case nfo3_2 => first | rfl | kernel_rfl | decide +kernel
    case nfo2_3 => first | rfl | kernel_rfl | decide +kernel
