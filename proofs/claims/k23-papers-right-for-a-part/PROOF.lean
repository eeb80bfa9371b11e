import PyProof.Rows.All
import Wide.All
import OpenK.AllK
import Wide.FinOn
import HandS.ForMost
import HandS.Wide
import HandS.WideBits
import HandS.Rev
import HandS.RevRange
import HandS.IsInst
import HandS.Exc
import HandS.TryMany
import HandS.TryOnly
import HandS.ExcOwn
import HandS.WordsExc
import HandS.EndBits
import HandS.TupLe
import HandS.TupAny
import HandS.RaiseMore
import KE.DataMinMax
import PySem.Challenge.RW_shiftmeet_k23_papers_right_for_a_part
set_option Elab.async false
set_option linter.all false
set_option maxRecDepth 100000
set_option maxHeartbeats 4000000
namespace Mi
open PySem PySem.Spec L2

/-! ## 1. Data, results, environments -/
/-- a value that nothing unfolds -/
noncomputable def hid {α : Type} (a : α) : α := Classical.choose (⟨a, rfl⟩ : ∃ x, x = a)
theorem hid_eq {α : Type} (a : α) : hid a = a := Classical.choose_spec (⟨a, rfl⟩ : ∃ x, x = a)
noncomputable def szL : Nat := hid sizeLine
theorem szL_eq : szL = sizeLine := hid_eq _
noncomputable def big62 : Int := hid 4611686018427387904
theorem big62_eq : big62 = 4611686018427387904 := hid_eq _
noncomputable def big63 : Int := hid (2 ^ 63)
theorem big63_eq : big63 = 2 ^ 63 := hid_eq _
noncomputable def big6 : Int := hid 1000000
theorem big6_eq : big6 = 1000000 := hid_eq _
@[simp] theorem lt_szL {n : Nat} (h : n < 1000000) : n < szL := by rw [szL_eq, PySem.sizeLine_eq]; omega
@[simp] theorem le_szL {n : Nat} (h : n < 1000000) : n ≤ szL := by rw [szL_eq, PySem.sizeLine_eq]; omega
/-- data: what a value tells, its objects seen through -/
inductive D where
  | non | bl (b : Bool) | int (i : Int) | str (x : Str) | tup (ds : List D) | lst (ds : List D)
inductive R (α : Type) where
  | ok (a : α) | exc (c : Str) | stuck
def R.bind {α β : Type} : R α → (α → R β) → R β
  | .ok a, f => f a
  | .exc c, _ => .exc c
  | .stuck, _ => .stuck
def R.map {α β : Type} (f : α → β) : R α → R β
  | .ok a => .ok (f a)
  | .exc c => .exc c
  | .stuck => .stuck
@[simp] theorem R.bind_ok {α β : Type} (a : α) (f : α → R β) : (R.ok a).bind f = f a := rfl
@[simp] theorem R.bind_exc {α β : Type} (c : Str) (f : α → R β) : (R.exc c).bind f = .exc c := rfl
@[simp] theorem R.bind_stuck {α β : Type} (f : α → R β) : R.stuck.bind f = .stuck := rfl
@[simp] theorem R.map_ok {α β : Type} (f : α → β) (a : α) : (R.ok a).map f = .ok (f a) := rfl
/-- what a slot holds: data that may be shared; a list of one's own; a list that is lent -/
inductive Sl where
  | sh (d : D) | ow (ds : List D) | bo (ds : List D) | lt (k : Nat) (ds : List D)
abbrev En := List (Option Sl)
/-- how a statement ends -/
inductive Fl where
  | nx (ρ : En) | rt (s : Sl) | bk (ρ : En) | ct (ρ : En) | exc (c : Str) (ρ : En) | stuck
def R.bnd {α β : Type} : R α → (α → R β) → R β
  | .ok a, f => f a
  | _, _ => .stuck
@[simp] theorem R.bnd_ok {α β : Type} (a : α) (f : α → R β) : (R.ok a).bnd f = f a := rfl
def R.fl {α : Type} : R α → (α → Fl) → Fl
  | .ok a, f => f a
  | _, _ => .stuck
def Fl.thn : Fl → (En → Fl) → Fl
  | .nx ρ, k => k ρ
  | .rt s, _ => .rt s
  | .bk ρ, _ => .bk ρ
  | .ct ρ, _ => .ct ρ
  | .exc c ρ, _ => .exc c ρ
  | .stuck, _ => .stuck
def Fl.turn : Fl → (En → Fl) → Fl
  | .nx ρ, k => k ρ
  | .ct ρ, k => k ρ
  | .bk ρ, _ => .nx ρ
  | .rt s, _ => .rt s
  | .exc c ρ, _ => .exc c ρ
  | .stuck, _ => .stuck
def Fl.out : Fl → R Sl
  | .rt s => .ok s
  | .nx _ => .ok (.sh .non)
  | .exc c _ => .exc c
  | _ => .stuck
section
variable {α β : Type} {q : Prop} [Decidable q]
@[simp] theorem R.map_exc {c : Str} {f : α → β} : (R.exc c : R α).map f = .exc c := rfl
@[simp] theorem R.map_stuck {f : α → β} : (R.stuck : R α).map f = .stuck := rfl
@[simp] theorem R.bnd_exc {c : Str} {f : α → R β} : (R.exc c : R α).bnd f = .stuck := rfl
@[simp] theorem R.bnd_stuck {f : α → R β} : (R.stuck : R α).bnd f = .stuck := rfl
@[simp] theorem R.fl_ok {a : α} {f : α → Fl} : (R.ok a).fl f = f a := rfl
@[simp] theorem R.fl_exc {c : Str} {f : α → Fl} : (R.exc c : R α).fl f = .stuck := rfl
@[simp] theorem R.fl_stuck {f : α → Fl} : (R.stuck : R α).fl f = .stuck := rfl
@[simp] theorem Fl.thn_nx {ρ : En} {k : En → Fl} : (Fl.nx ρ).thn k = k ρ := rfl
@[simp] theorem Fl.thn_rt {s : Sl} {k : En → Fl} : (Fl.rt s).thn k = .rt s := rfl
@[simp] theorem Fl.thn_bk {ρ : En} {k : En → Fl} : (Fl.bk ρ).thn k = .bk ρ := rfl
@[simp] theorem Fl.thn_ct {ρ : En} {k : En → Fl} : (Fl.ct ρ).thn k = .ct ρ := rfl
@[simp] theorem Fl.thn_exc {c : Str} {ρ : En} {k : En → Fl} : (Fl.exc c ρ).thn k = .exc c ρ := rfl
@[simp] theorem Fl.thn_stuck {k : En → Fl} : Fl.stuck.thn k = .stuck := rfl
@[simp] theorem Fl.turn_nx {ρ : En} {k : En → Fl} : (Fl.nx ρ).turn k = k ρ := rfl
@[simp] theorem Fl.turn_rt {s : Sl} {k : En → Fl} : (Fl.rt s).turn k = .rt s := rfl
@[simp] theorem Fl.turn_bk {ρ : En} {k : En → Fl} : (Fl.bk ρ).turn k = .nx ρ := rfl
@[simp] theorem Fl.turn_ct {ρ : En} {k : En → Fl} : (Fl.ct ρ).turn k = k ρ := rfl
@[simp] theorem Fl.turn_exc {c : Str} {ρ : En} {k : En → Fl} : (Fl.exc c ρ).turn k = .exc c ρ := rfl
@[simp] theorem Fl.turn_stuck {k : En → Fl} : Fl.stuck.turn k = .stuck := rfl
@[simp] theorem Fl.out_nx {ρ : En} : (Fl.nx ρ).out = .ok (.sh .non) := rfl
@[simp] theorem Fl.out_rt {s : Sl} : (Fl.rt s).out = .ok s := rfl
@[simp] theorem Fl.out_bk {ρ : En} : (Fl.bk ρ).out = .stuck := rfl
@[simp] theorem Fl.out_ct {ρ : En} : (Fl.ct ρ).out = .stuck := rfl
@[simp] theorem Fl.out_exc {c : Str} {ρ : En} : (Fl.exc c ρ).out = .exc c := rfl
@[simp] theorem Fl.out_stuck : Fl.stuck.out = .stuck := rfl
@[simp] theorem R.bind_ite {a b : R α} {f : α → R β} : (if q then a else b).bind f = if q then a.bind f else b.bind f := by split <;> rfl
@[simp] theorem R.map_ite {a b : R α} {f : α → β} : (if q then a else b).map f = if q then a.map f else b.map f := by split <;> rfl
@[simp] theorem R.bnd_ite {a b : R α} {f : α → R β} : (if q then a else b).bnd f = if q then a.bnd f else b.bnd f := by split <;> rfl
@[simp] theorem R.fl_ite {a b : R α} {f : α → Fl} : (if q then a else b).fl f = if q then a.fl f else b.fl f := by split <;> rfl
@[simp] theorem Fl.thn_ite {a b : Fl} {f : En → Fl} : (if q then a else b).thn f = if q then a.thn f else b.thn f := by split <;> rfl
@[simp] theorem Fl.turn_ite {a b : Fl} {f : En → Fl} : (if q then a else b).turn f = if q then a.turn f else b.turn f := by split <;> rfl
@[simp] theorem Fl.out_ite {a b : Fl} : (if q then a else b).out = if q then a.out else b.out := by split <;> rfl
end
abbrev Ev := En → R D
abbrev Es := En → R (List D)
abbrev Et := En → R Bool
abbrev Sv := En → Fl

/-! ## 2. Data in a heap -/
section
variable (K : PySem.W.Frag)
mutual
def Rep (B : Hp) : D → V → Prop
  | .non, v => v = .non
  | .bl b, v => v = .bl b
  | .int i, v => v = .int i
  | .str x, v => v = .str x
  | .tup ds, v => ∃ a vs, v = .ref a ∧ SqT K B a vs ∧ Reps B ds vs
  | .lst ds, v => ∃ a vs, v = .ref a ∧ SqL K B a vs ∧ Reps B ds vs
def Reps (B : Hp) : List D → List V → Prop
  | [], vs => vs = []
  | d :: ds, vs => ∃ v r, vs = v :: r ∧ Rep B d v ∧ Reps B ds r
end
end
section
variable {K : PySem.W.Frag} {B B' H H' : Hp}
theorem Same.seqT {K : PySem.W.Frag} {H H' : Hp} {a : Addr} {xs : List V} (e : Same H H') (h : SqT K H a xs) : SqT K H' a xs := by
  rcases h with (h | ⟨o, h⟩) | h
  · exact .inl (.inl (e _ _ h))
  · exact .inl (.inr ⟨o, e _ _ h⟩)
  · exact .inr h
mutual
theorem Rep.mono (s : Same B B') : ∀ (d : D) (v : V), Rep K B d v → Rep K B' d v
  | .non, _, h => h
  | .bl _, _, h => h
  | .int _, _, h => h
  | .str _, _, h => h
  | .tup ds, v, h => by
    obtain ⟨a, vs, e, q, r⟩ := h
    exact ⟨a, vs, e, Same.seqT s q, Reps.mono s ds vs r⟩
  | .lst ds, v, h => by
    obtain ⟨a, vs, e, q, r⟩ := h
    exact ⟨a, vs, e, s.seq q, Reps.mono s ds vs r⟩
theorem Reps.mono (s : Same B B') : ∀ (ds : List D) (vs : List V), Reps K B ds vs → Reps K B' ds vs
  | [], _, h => h
  | d :: ds, vs, h => by
    obtain ⟨v, r, e, h1, h2⟩ := h
    exact ⟨v, r, e, Rep.mono s d v h1, Reps.mono s ds r h2⟩
end
theorem Reps.length : ∀ {ds : List D} {vs : List V}, Reps K B ds vs → ds.length = vs.length
  | [], _, h => by
    have e : _ = ([] : List V) := h
    rw [e] <;> rfl
  | d :: ds, vs, h => by
    obtain ⟨v, r, rfl, _, h2⟩ := h
    rw [List.length_cons, List.length_cons, Reps.length h2]
theorem Reps.get : ∀ {ds : List D} {vs : List V} {i : Nat} {d : D}, Reps K B ds vs → ds[i]? = some d → ∃ v, vs[i]? = some v ∧ Rep K B d v
  | [], _, _, _, _, e => by simp at e
  | _ :: _, _, 0, _, ⟨v, r, rfl, h1, _⟩, e => by
    simp at e
    subst e
    exact ⟨v, rfl, h1⟩
  | _ :: ds, _, i + 1, d, ⟨v, r, rfl, _, h2⟩, e => by
    obtain ⟨v', e', h'⟩ := Reps.get (i := i) (d := d) h2 (by simpa using e)
    exact ⟨v', by simpa using e', h'⟩
theorem Reps.getV : ∀ {ds : List D} {vs : List V} {i : Nat} {v : V}, Reps K B ds vs → vs[i]? = some v → ∃ d, ds[i]? = some d ∧ Rep K B d v := fun {ds vs i v} h e => by
  have hl := h.length
  have hi : i < ds.length := by
    rw [hl]
    exact (List.getElem?_eq_some_iff.mp e).1
  obtain ⟨v', e', r⟩ := h.get (List.getElem?_eq_getElem hi)
  rw [e] at e'
  cases e'
  exact ⟨_, List.getElem?_eq_getElem hi, r⟩
theorem Reps.append : ∀ {ds es : List D} {vs us : List V}, Reps K B ds vs → Reps K B es us → Reps K B (ds ++ es) (vs ++ us)
  | [], _, _, _, h, q => by
    have e : _ = ([] : List V) := h
    rw [e]
    exact q
  | d :: ds, es, _, us, ⟨v, r, rfl, h1, h2⟩, q => ⟨v, r ++ us, rfl, h1, Reps.append h2 q⟩
theorem Reps.one {d : D} {v : V} (h : Rep K B d v) : Reps K B [d] [v] := ⟨v, [], rfl, h, rfl⟩
theorem Reps.nil : Reps K B [] [] := rfl
theorem Reps.take : ∀ {ds : List D} {vs : List V} (n : Nat), Reps K B ds vs → Reps K B (ds.take n) (vs.take n)
  | _, _, 0, _ => by rw [List.take_zero, List.take_zero]; exact rfl
  | [], _, n + 1, h => by
    have e : _ = ([] : List V) := h
    rw [e, List.take_nil, List.take_nil]
    exact rfl
  | d :: ds, _, n + 1, ⟨v, r, rfl, h1, h2⟩ => ⟨v, r.take n, rfl, h1, Reps.take n h2⟩
theorem Reps.drop : ∀ {ds : List D} {vs : List V} (n : Nat), Reps K B ds vs → Reps K B (ds.drop n) (vs.drop n)
  | ds, vs, 0, h => by rw [List.drop_zero, List.drop_zero]; exact h
  | [], _, n + 1, h => by
    have e : _ = ([] : List V) := h
    rw [e, List.drop_nil, List.drop_nil]
    exact rfl
  | d :: ds, _, n + 1, ⟨v, r, rfl, h1, h2⟩ => Reps.drop n h2
theorem Reps.set : ∀ {ds : List D} {vs : List V} (i : Nat) {d : D} {v : V}, Reps K B ds vs → Rep K B d v → Reps K B (ds.set i d) (vs.set i v)
  | [], _, _, _, _, h, _ => by
    have e : _ = ([] : List V) := h
    rw [e, List.set_nil, List.set_nil]
    exact rfl
  | _ :: _, _, 0, _, v', ⟨v, r, rfl, h1, h2⟩, q => ⟨v', r, rfl, q, h2⟩
  | _ :: _, _, i + 1, _, _, ⟨v, r, rfl, h1, h2⟩, q => ⟨v, r.set i _, rfl, h1, Reps.set i h2 q⟩
theorem Reps.rev {ds : List D} {vs : List V} (h : Reps K B ds vs) : Reps K B ds.reverse vs.reverse := by
  induction ds generalizing vs with
  | nil =>
    have e : vs = ([] : List V) := h
    rw [e]
    exact rfl
  | cons d ds ih =>
    obtain ⟨v, r, rfl, h1, h2⟩ := h
    rw [List.reverse_cons, List.reverse_cons]
    exact (ih h2).append (.one h1)
end

/-! ## 3. The shared part B of a heap H; how both go on -/
/-- B' and H' come behind B and H: nothing that stood is changed, nothing of H's own lists got into B' -/
structure Ext (B H B' H' : Hp) : Prop where
  b : Same B B'
  h : Same H H'
  in_ : Same B' H'
  off : ∀ p, B p = none → H p ≠ none → B' p = none
theorem Ext.refl {B H : Hp} (h : Same B H) : Ext B H B H := ⟨Same.refl _, Same.refl _, h, fun _ e _ => e⟩
theorem Ext.trans {B H B1 H1 B2 H2 : Hp} (x : Ext B H B1 H1) (y : Ext B1 H1 B2 H2) : Ext B H B2 H2 :=
  ⟨x.b.trans y.b, x.h.trans y.h, y.in_, fun p e n => y.off p (x.off p e n) fun z => n (x.h.free z)⟩
theorem same_put {H : Hp} {p : Addr} {o : HO} (h : H p = none) : Same H (upd H p o) := fun b x e => by
  rw [upd_ne (ne_of_none e h)]
  exact e
/-- a new object in H alone -/
theorem Ext.new {B H : Hp} {p : Addr} {o : HO} (s : Same B H) (h : H p = none) : Ext B H B (upd H p o) :=
  ⟨Same.refl _, same_put h, s.trans (same_put h), fun _ e _ => e⟩
/-- a new object in both -/
theorem Ext.newB {B H : Hp} {p : Addr} {o : HO} (s : Same B H) (h : H p = none) : Ext B H (upd B p o) (upd H p o) := by
  have hb : B p = none := s.free h
  refine ⟨same_put hb, same_put h, fun b x e => ?_, fun q e n => ?_⟩
  · by_cases z : b = p
    · subst z
      rw [upd_same] at e ⊢
      exact e
    · rw [upd_ne z] at e ⊢
      exact s b x e
  · rw [upd_ne (fun z => n (by rw [z]; exact h))]
    exact e
/-- a list of H's is taken into B -/
theorem Ext.take {B H B1 H1 : Hp} {p : Addr} {o : HO} (x : Ext B H B1 H1) (h : H1 p = some o) (hb : B1 p = none) (n : H p = none) : Ext B H (upd B1 p o) H1 := by
  refine ⟨x.b.trans (same_put hb), x.h, fun b u e => ?_, fun q e m => ?_⟩
  · by_cases z : b = p
    · subst z
      rw [upd_same] at e
      rw [← e]
      exact h
    · rw [upd_ne z] at e
      exact x.in_ b u e
  · rw [upd_ne (fun z => m (by rw [z]; exact n))]
    exact x.off q e m

/-- the entry of the body: its heap, its shared part -/
structure Gd where
  B : Hp
  H : Hp
  ln : Nat → Option V := fun _ => none
abbrev gd (B H : Hp) : Gd := { B := B, H := H }
section
variable (K : PySem.W.Frag)
def SlOk (g : Gd) (B H : Hp) : Sl → V → Prop
  | .sh d, v => Rep K B d v
  | .ow ds, v => ∃ a vs, v = .ref a ∧ H a = some (.lst vs) ∧ B a = none ∧ g.H a = none ∧ Reps K B ds vs
  | .bo ds, v => ∃ a vs, v = .ref a ∧ SqL K g.H a vs ∧ Reps K B ds vs
  | .lt k ds, v => ∃ a vs, v = .ref a ∧ g.ln k = some v ∧ SqL K g.H a vs ∧ Reps K B ds vs
def isOw : Sl → Bool
  | .ow _ => true
  | _ => false
/-- the environment ρ is held by the slots σ in the heap H with the shared part B -/
structure Mt (g : Gd) (B H : Hp) (ρ : En) (σ : St) : Prop where
  ext : Ext g.B g.H B H
  len : ρ.length = σ.length
  sl : ∀ (i : Nat) (s : Sl), ρ[i]? = some (some s) → ∃ v, σ[i]? = some (some v) ∧ SlOk K g B H s v
  ne : ∀ (i j : Nat) (s t : Sl) (v : V), i ≠ j → ρ[i]? = some (some s) → ρ[j]? = some (some t) → isOw s = true → isOw t = true → σ[i]? = some (some v) → σ[j]? ≠ some (some v)
end
section
variable {K : PySem.W.Frag} {g : Gd} {B H B' H' : Hp} {ρ : En} {σ : St}
theorem SlOk.ext {s : Sl} {v : V} (h : SlOk K g B H s v) (g0 : Ext g.B g.H B H) (x : Ext B H B' H') : SlOk K g B' H' s v := by
  cases s with
  | sh d => exact Rep.mono x.b _ _ h
  | ow ds =>
    obtain ⟨a, vs, e, h1, h2, h3, h4⟩ := h
    exact ⟨a, vs, e, x.h _ _ h1, x.off a h2 (by rw [h1]; exact fun z => by cases z), h3, Reps.mono x.b _ _ h4⟩
  | bo ds =>
    obtain ⟨a, vs, e, h1, h2⟩ := h
    exact ⟨a, vs, e, h1, Reps.mono x.b _ _ h2⟩
  | lt k ds =>
    obtain ⟨a, vs, e, h0, h1, h2⟩ := h
    exact ⟨a, vs, e, h0, h1, Reps.mono x.b _ _ h2⟩
theorem Mt.go (m : Mt K g B H ρ σ) (x : Ext B H B' H') : Mt K g B' H' ρ σ :=
  ⟨m.ext.trans x, m.len, fun i s e => by
    obtain ⟨v, h1, h2⟩ := m.sl i s e
    exact ⟨v, h1, h2.ext m.ext x⟩, m.ne⟩
theorem Mt.sub (m : Mt K g B H ρ σ) : Same B H := m.ext.in_
theorem Mt.refl (m : Mt K g B H ρ σ) : Ext B H B H := Ext.refl m.sub
/-- a slot is stored -/
theorem Mt.set {i : Nat} {s : Sl} {v : V} (m : Mt K g B H ρ σ) (h : SlOk K g B H s v) (n : isOw s = true → ∀ j t, j ≠ i → ρ[j]? = some (some t) → isOw t = true → σ[j]? ≠ some (some v)) :
    Mt K g B H (ρ.set i (some s)) (σ.set i (some v)) := by
  refine ⟨m.ext, by rw [List.length_set, List.length_set, m.len], fun j t e => ?_, fun j k t u w hjk e1 e2 o1 o2 e3 e4 => ?_⟩
  · by_cases hj : i = j
    · subst hj
      by_cases hl : i < ρ.length
      · rw [List.getElem?_set_self hl] at e
        cases e
        exact ⟨v, List.getElem?_set_self (by rw [← m.len]; exact hl), h⟩
      · rw [List.getElem?_eq_none (by rw [List.length_set]; omega)] at e
        cases e
    · rw [List.getElem?_set_ne hj] at e ⊢
      exact m.sl j t e
  · by_cases hj : i = j
    · subst hj
      have hl : i < ρ.length := by
        have := (List.getElem?_eq_some_iff.mp e1).1
        rwa [List.length_set] at this
      rw [List.getElem?_set_self hl] at e1
      cases e1
      rw [List.getElem?_set_self (by rw [← m.len]; exact hl)] at e3
      cases e3
      rw [List.getElem?_set_ne hjk] at e2 e4
      exact n o1 k u (Ne.symm hjk) e2 o2 e4
    · rw [List.getElem?_set_ne hj] at e1 e3
      by_cases hk : i = k
      · subst hk
        have hl : i < ρ.length := by
          have := (List.getElem?_eq_some_iff.mp e2).1
          rwa [List.length_set] at this
        rw [List.getElem?_set_self hl] at e2
        cases e2
        rw [List.getElem?_set_self (by rw [← m.len]; exact hl)] at e4
        cases e4
        exact n o2 j t (Ne.symm hj) e1 o1 e3
      · rw [List.getElem?_set_ne hk] at e2 e4
        exact m.ne j k t u w hjk e1 e2 o1 o2 e3 e4
theorem Mt.setSh {i : Nat} {d : D} {v : V} (m : Mt K g B H ρ σ) (h : Rep K B d v) : Mt K g B H (ρ.set i (some (.sh d))) (σ.set i (some v)) :=
  m.set (s := .sh d) h fun z => by cases z
/-- slots are forgotten -/
theorem Mt.kill (m : Mt K g B H ρ σ) (i : Nat) (σ' : St) (hl : σ'.length = σ.length) (hk : ∀ j, j ≠ i → σ'[j]? = σ[j]?) : Mt K g B H (ρ.set i none) σ' := by
  have z : ∀ j s, (ρ.set i none)[j]? = some (some s) → j ≠ i ∧ ρ[j]? = some (some s) := fun j s e => by
    by_cases hj : i = j
    · subst hj
      by_cases hl : i < ρ.length
      · rw [List.getElem?_set_self hl] at e
        cases e
      · rw [List.getElem?_eq_none (by rw [List.length_set]; omega)] at e
        cases e
    · rw [List.getElem?_set_ne hj] at e
      exact ⟨Ne.symm hj, e⟩
  refine ⟨m.ext, by rw [List.length_set, m.len, hl], fun j s e => ?_, fun j k s t v hjk e1 e2 o1 o2 e3 => ?_⟩
  · obtain ⟨z1, z2⟩ := z j s e
    rw [hk j z1]
    exact m.sl j s z2
  · obtain ⟨z1, z2⟩ := z j s e1
    obtain ⟨z3, z4⟩ := z k t e2
    rw [hk j z1] at e3
    rw [hk k z3]
    exact m.ne j k s t v hjk z2 z4 o1 o2 e3
/-- an object that is in no own slot and not of the entry is laid anew -/
theorem Mt.put {p : Addr} {o : HO} (m : Mt K g B H ρ σ) (hb : B p = none) (hg : g.H p = none) (hn : ∀ (j : Nat) (t : Sl), ρ[j]? = some (some t) → isOw t = true → σ[j]? ≠ some (some (V.ref p))) : Mt K g B (upd H p o) ρ σ := by
  have hgB : g.B p = none := m.ext.b.free hb
  refine ⟨⟨m.ext.b, fun b x e => ?_, fun b x e => ?_, m.ext.off⟩, m.len, fun i s e => ?_, m.ne⟩
  · rw [upd_ne (ne_of_none e hg)]
    exact m.ext.h b x e
  · rw [upd_ne (ne_of_none e hb)]
    exact m.ext.in_ b x e
  · obtain ⟨v, h1, h2⟩ := m.sl i s e
    refine ⟨v, h1, ?_⟩
    cases s with
    | sh d => exact h2
    | bo ds => exact h2
    | lt k ds => exact h2
    | ow ds =>
      obtain ⟨a, vs, e1, q1, q2, q3, q4⟩ := h2
      refine ⟨a, vs, e1, ?_, q2, q3, q4⟩
      rw [upd_ne]
      · exact q1
      · rintro rfl
        exact hn i _ e rfl (by rw [h1, e1])
/-- the list of one's own in slot i is stored anew -/
theorem Mt.own {i : Nat} {ds es : List D} {a : Addr} {vs us : List V} (m : Mt K g B H ρ σ) (e : ρ[i]? = some (some (.ow ds))) (ev : σ[i]? = some (some (.ref a))) (r : Reps K B es us) :
    Mt K g B (upd H a (.lst us)) (ρ.set i (some (.ow es))) σ := by
  obtain ⟨v, h1, a', vs', e1, q1, q2, q3, q4⟩ := m.sl i _ e
  rw [ev] at h1
  cases h1
  cases e1
  have ii : i < ρ.length := (List.getElem?_eq_some_iff.mp e).1
  have m1 : Mt K g B (upd H a (.lst us)) (ρ.set i none) σ := by
    refine (m.kill i σ rfl fun _ _ => rfl).put q2 q3 fun j t ej oj => ?_
    by_cases hj : i = j
    · subst hj
      rw [List.getElem?_set_self ii] at ej
      cases ej
    · rw [List.getElem?_set_ne hj] at ej
      exact m.ne i j _ t _ hj e ej rfl oj ev
  have hσ : σ = σ.set i (some (.ref a)) := by
    apply List.ext_getElem?
    intro j
    by_cases hj : i = j
    · subst hj
      rw [List.getElem?_set_self (by rw [← m.len]; exact ii), ev]
    · rw [List.getElem?_set_ne hj]
  have m2 := m1.set (i := i) (s := .ow es) (v := .ref a) ⟨a, us, rfl, upd_same, q2, q3, r⟩ fun _ j t hj ej oj => by
    rw [List.getElem?_set_ne (Ne.symm hj)] at ej
    exact m.ne i j _ t _ (Ne.symm hj) e ej rfl oj ev
  rw [← hσ, List.set_set] at m2
  exact m2
/-- the list of one's own in slot i is shared from now on -/
theorem Mt.frz {i : Nat} {ds : List D} (m : Mt K g B H ρ σ) (e : ρ[i]? = some (some (.ow ds))) : ∃ B', Same B B' ∧ Mt K g B' H (ρ.set i (some (.sh (.lst ds)))) σ := by
  obtain ⟨v, h1, a, vs, rfl, q1, q2, q3, q4⟩ := m.sl i _ e
  have ii : i < ρ.length := (List.getElem?_eq_some_iff.mp e).1
  have s : Same B (upd B a (.lst vs)) := same_put q2
  refine ⟨upd B a (.lst vs), s, ⟨m.ext.take q1 q2 q3, by rw [List.length_set, m.len], fun j t ej => ?_, fun j k t u w hjk e1 e2 o1 o2 e3 => ?_⟩⟩
  · by_cases hj : i = j
    · subst hj
      rw [List.getElem?_set_self ii] at ej
      cases ej
      exact ⟨.ref a, h1, a, vs, rfl, .inl (.inl upd_same), Reps.mono s _ _ q4⟩
    · rw [List.getElem?_set_ne hj] at ej
      obtain ⟨w, z1, z2⟩ := m.sl j t ej
      refine ⟨w, z1, ?_⟩
      cases t with
      | sh d => exact Rep.mono s _ _ z2
      | bo es =>
        obtain ⟨b, us, y1, y2, y3⟩ := z2
        exact ⟨b, us, y1, y2, Reps.mono s _ _ y3⟩
      | lt k es =>
        obtain ⟨b, us, y1, y0, y2, y3⟩ := z2
        exact ⟨b, us, y1, y0, y2, Reps.mono s _ _ y3⟩
      | ow es =>
        obtain ⟨b, us, rfl, y2, y3, y4, y5⟩ := z2
        refine ⟨b, us, rfl, y2, ?_, y4, Reps.mono s _ _ y5⟩
        rw [upd_ne]
        · exact y3
        · rintro rfl
          exact m.ne i j _ _ _ hj e ej rfl rfl h1 z1
  · have z : ∀ j s, (ρ.set i (some (.sh (.lst ds))))[j]? = some (some s) → isOw s = true → ρ[j]? = some (some s) := fun j s e o => by
      by_cases hj : i = j
      · subst hj
        rw [List.getElem?_set_self ii] at e
        cases e
        cases o
      · rw [List.getElem?_set_ne hj] at e
        exact e
    exact m.ne j k t u w hjk (z _ _ e1 o1) (z _ _ e2 o2) o1 o2 e3
end
end Mi

namespace Mi
open PySem PySem.Spec L2

/-! ## 4. Judgements -/
structure Cf where
  P : Program
  w : World
  K : PySem.W.Frag
  mg : Str → Option Value
  base : Heap
  N : List Str
  sc : Scope
  k : Nat
  top : Bool
/-- a context of that configuration, in which the wish W about exceptions is taken -/
structure GX (c : Cf) (W : WX) (X : Cx) : Prop where
  P : X.prog = c.P
  w : X.w = c.w
  K : X.K = c.K
  mg : X.mg = c.mg
  base : X.base = c.base
  N : X.N = c.N
  nd : X.N.Nodup
  sc : X.env.scope = c.sc
  calm : X.calm = true
  tk : Takes X W
  po : PassesOwn (model X.prog X.w) X.A X.env X.xe
  room : Room c.k X.A
  fn : c.top = true → ∀ x, X.fn x = true
  top : c.top = true → X.stack = X.env :: X.outer ∧ X.env.frame = some X.env.locals
/-- a name that may be stored -/
def LocC (c : Cf) (x : Str) : Prop := c.sc.names.lookup x = some .local ∨ (c.sc.names.lookup x = some .cell ∧ c.top = true)
theorem LocC.loc {c : Cf} {x : Str} (h : LocC c x) : Loc c.sc x := h.imp id And.left
/-- what is wanted of a result -/
def Po {α : Type} (c : Cf) (W : WX) (σ : St) (B H : Hp) (r : R α) (Q : α → Hp → Hp → Prop) : Prop :=
  match r with
  | .ok a => ∀ B' H', Ext B H B' H' → Q a B' H'
  | .exc x => ∀ (C : Addr) B' H', c.mg x = some (.ref C) → Ext B H B' H' → W (.ref C) none σ H'
  | .stuck => False
section
variable {c : Cf} {W : WX} {σ : St} {B H B' H' : Hp} {α β : Type}
theorem Po.ext {r : R α} {Q : α → Hp → Hp → Prop} (h : Po c W σ B H r Q) (x : Ext B H B' H') : Po c W σ B' H' r Q := by
  cases r with
  | ok a => exact fun B2 H2 y => h B2 H2 (x.trans y)
  | exc e => exact fun C B2 H2 m y => h C B2 H2 m (x.trans y)
  | stuck => exact h
theorem Po.imp {r : R α} {Q Q' : α → Hp → Hp → Prop} (h : Po c W σ B H r Q) (f : ∀ a B' H', Ext B H B' H' → Q a B' H' → Q' a B' H') : Po c W σ B H r Q' := by
  cases r with
  | ok a => exact fun B2 H2 y => f a B2 H2 y (h B2 H2 y)
  | exc e => exact h
  | stuck => exact h
theorem Po.bind {r : R α} {k : α → R β} {Q : β → Hp → Hp → Prop} (h : Po c W σ B H (r.bind k) Q) : Po c W σ B H r fun a B' H' => Po c W σ B' H' (k a) Q := by
  cases r with
  | ok a =>
    intro B2 H2 y
    exact Po.ext (r := k a) h y
  | exc e => exact h
  | stuck => exact h
theorem Po.map {r : R α} {f : α → β} {Q : β → Hp → Hp → Prop} (h : Po c W σ B H (r.map f) Q) : Po c W σ B H r fun a B' H' => Q (f a) B' H' := by
  cases r with
  | ok a => exact h
  | exc e => exact h
  | stuck => exact h
end
/-- as Rep, but the outmost list may stand in H alone -/
def RepT (K : PySem.W.Frag) (B H : Hp) : D → V → Prop
  | .lst ds, v => ∃ a vs, v = .ref a ∧ SqL K H a vs ∧ Reps K B ds vs
  | d, v => Rep K B d v
theorem Rep.t {K : PySem.W.Frag} {B H : Hp} (s : Same B H) {d : D} {v : V} (h : Rep K B d v) : RepT K B H d v := by
  cases d with
  | lst ds =>
    obtain ⟨a, vs, e, q, r⟩ := h
    exact ⟨a, vs, e, s.seq q, r⟩
  | _ => exact h
theorem RepT.go {K : PySem.W.Frag} {B H B' H' : Hp} {d : D} {v : V} (h : RepT K B H d v) (x : Ext B H B' H') : RepT K B' H' d v := by
  cases d with
  | lst ds =>
    obtain ⟨a, vs, e, q, r⟩ := h
    exact ⟨a, vs, e, x.h.seq q, Reps.mono x.b _ _ r⟩
  | _ => exact Rep.mono x.b _ _ h
/-- arguments -/
def ArgOk (K : PySem.W.Frag) (B H : Hp) : Sl → V → Prop
  | .sh d, v => Rep K B d v
  | .bo ds, v => ∃ a vs, v = .ref a ∧ SqL K H a vs ∧ Reps K B ds vs
  | .ow _, _ => False
  | .lt _ _, _ => False
def ArgsOk (K : PySem.W.Frag) (B H : Hp) : List Sl → List V → Prop
  | [], vs => vs = []
  | s :: ss, vs => ∃ v r, vs = v :: r ∧ ArgOk K B H s v ∧ ArgsOk K B H ss r
theorem ArgOk.go {K : PySem.W.Frag} {B H B' H' : Hp} {s : Sl} {v : V} (h : ArgOk K B H s v) (x : Ext B H B' H') : ArgOk K B' H' s v := by
  cases s with
  | sh d => exact Rep.mono x.b _ _ h
  | bo ds =>
    obtain ⟨a, vs, e, q, r⟩ := h
    exact ⟨a, vs, e, x.h.seq q, Reps.mono x.b _ _ r⟩
  | ow ds => exact h
  | lt k ds => exact h
theorem ArgsOk.go {K : PySem.W.Frag} {B H B' H' : Hp} (x : Ext B H B' H') : ∀ {ss : List Sl} {vs : List V}, ArgsOk K B H ss vs → ArgsOk K B' H' ss vs
  | [], _, h => h
  | s :: ss, _, ⟨v, r, e, h1, h2⟩ => ⟨v, r, e, h1.go x, ArgsOk.go x h2⟩
theorem ArgsOk.length {K : PySem.W.Frag} {B H : Hp} : ∀ {ss : List Sl} {vs : List V}, ArgsOk K B H ss vs → ss.length = vs.length
  | [], _, h => by
    have e : _ = ([] : List V) := h
    rw [e] <;> rfl
  | s :: ss, _, ⟨v, r, e, h1, h2⟩ => by rw [e, List.length_cons, List.length_cons, ArgsOk.length h2]

def AdE (c : Cf) (W : WX) (t : TE) (f : Ev) : Prop := ∀ (g : Gd) (B H : Hp) (ρ : En) (σ : St) (Q : VK), Mt c.K g B H ρ σ →
  Po c W σ B H (f ρ) (fun d B' H' => ∀ v, Rep c.K B' d v → Q v H') → t σ H Q
def AdB (c : Cf) (W : WX) (t : TE) (f : Ev) : Prop := ∀ (g : Gd) (B H : Hp) (ρ : En) (σ : St) (Q : VK), Mt c.K g B H ρ σ →
  Po c W σ B H (f ρ) (fun d B' H' => ∀ v, RepT c.K B' H' d v → Q v H') → t σ H Q
def AdF (c : Cf) (W : WX) (t : TE) (f : Es) : Prop := ∀ (g : Gd) (B H : Hp) (ρ : En) (σ : St) (Q : VK), Mt c.K g B H ρ σ →
  Po c W σ B H (f ρ) (fun ds B' H' => ∀ p vs, H' p = some (.lst vs) → B' p = none → H p = none → Reps c.K B' ds vs → Q (.ref p) H') → t σ H Q
def AdT (c : Cf) (W : WX) (t : TT) (f : Et) : Prop := ∀ (g : Gd) (B H : Hp) (ρ : En) (σ : St) (Q : Bool → Hp → Prop), Mt c.K g B H ρ σ →
  Po c W σ B H (f ρ) (fun b _ H' => Q b H') → t σ H Q
def AdA (c : Cf) (W : WX) (t : TA) (f : En → R (List Sl)) : Prop := ∀ (g : Gd) (B H : Hp) (ρ : En) (σ : St) (Q : List V → Hp → Prop), Mt c.K g B H ρ σ →
  Po c W σ B H (f ρ) (fun ss B' H' => ∀ vs, ArgsOk c.K B' H' ss vs → Q vs H') → t σ H Q
/-- e as a value; as a value that is looked at alone; as a new list; as a test -/
def SE (c : Cf) (W : WX) (e : Expr) (f : Ev) : Prop := ∃ t : TE, (∀ X, GX c W X → PE X e t) ∧ AdE c W t f
def SB (c : Cf) (W : WX) (e : Expr) (f : Ev) : Prop := ∃ t : TE, (∀ X, GX c W X → PE X e t) ∧ AdB c W t f
def SF (c : Cf) (W : WX) (e : Expr) (f : Es) : Prop := ∃ t : TE, (∀ X, GX c W X → PE X e t) ∧ AdF c W t f
def ST (c : Cf) (W : WX) (e : Expr) (f : Et) : Prop := ∃ t : TT, (∀ X, GX c W X → PT X e t) ∧ AdT c W t f
def SW (c : Cf) (W : WX) (e : Expr) (f : Et) : Prop := ∃ t : TT, (∀ X, GX c W X → PW X e t) ∧ AdT c W t f
def SA (c : Cf) (W : WX) (es : List Expr) (f : En → R (List Sl)) : Prop := ∃ t : TA, (∀ X, GX c W X → PA X es t) ∧ AdA c W t f

/-! ## 5. Expressions -/
@[simp] def eD (d : D) : Ev := fun _ => .ok d
@[simp] def eVar (i : Nat) : Ev := fun ρ => match ρ[i]? with
  | some (some (.sh d)) => .ok d
  | _ => .stuck
@[simp] def eLook (i : Nat) : Ev := fun ρ => match ρ[i]? with
  | some (some (.sh d)) => .ok d
  | some (some (.ow ds)) => .ok (.lst ds)
  | some (some (.bo ds)) => .ok (.lst ds)
  | some (some (.lt _ ds)) => .ok (.lst ds)
  | _ => .stuck
@[simp] def eLst (f : Es) : Ev := fun ρ => (f ρ).map .lst
@[simp] def eBin (o : D → D → R D) (f g : Ev) : Ev := fun ρ => (f ρ).bind fun x => (g ρ).bind fun y => o x y
@[simp] def eUn (o : D → R D) (f : Ev) : Ev := fun ρ => (f ρ).bind o

section
variable {c : Cf} {W : WX} {a b e : Expr} {f f' g : Ev} {pos : Pos}
theorem ok_refl {α : Type} {σ : St} {B H : Hp} {x : α} {Q : α → Hp → Hp → Prop} (h : Po c W σ B H (.ok x) Q) (s : Same B H) : Q x B H := h B H (.refl s)

theorem se_int {i : Int} {j : Nat} : SE c W (.Constant (.int i) j pos) (eD (.int i)) :=
  ⟨_, fun _ _ => pe_int, fun _ _ _ _ _ _ m h => ok_refl h m.sub _ rfl⟩
theorem se_bl {i : Bool} {j : Nat} : SE c W (.Constant (.bool i) j pos) (eD (.bl i)) :=
  ⟨_, fun _ _ => pe_bl, fun _ _ _ _ _ _ m h => ok_refl h m.sub _ rfl⟩
theorem se_non {j : Nat} : SE c W (.Constant .none j pos) (eD .non) :=
  ⟨_, fun _ _ => pe_non, fun _ _ _ _ _ _ m h => ok_refl h m.sub _ rfl⟩
theorem se_str {i : Str} {j : Nat} : SE c W (.Constant (.str i) j pos) (eD (.str i)) :=
  ⟨_, fun _ _ => pe_str, fun _ _ _ _ _ _ m h => ok_refl h m.sub _ rfl⟩
theorem se_var {i : Nat} {x : Str} (hN : c.N[i]? = some x) (hv : Vis c.sc x) (hd : (x == ("__debug__" : Str)) = false := by decide) (hcd : (x == ("__classdict__" : Str)) = false := by decide) : SE c W (.Name x pos) (eVar i) := by
  refine ⟨tVar i, fun X G => pe_var (by rw [G.N]; exact hN) (by rw [G.sc]; exact hv) hd hcd, fun g B H ρ σ Q m h => ?_⟩
  unfold eVar at h
  split at h
  · rename_i d e
    obtain ⟨v, h1, h2⟩ := m.sl i _ e
    exact ⟨v, h1, ok_refl h m.sub v h2⟩
  · exact h.elim
theorem sb_look {i : Nat} {x : Str} (hN : c.N[i]? = some x) (hv : Vis c.sc x) (hd : (x == ("__debug__" : Str)) = false := by decide) (hcd : (x == ("__classdict__" : Str)) = false := by decide) : SB c W (.Name x pos) (eLook i) := by
  refine ⟨tVar i, fun X G => pe_var (by rw [G.N]; exact hN) (by rw [G.sc]; exact hv) hd hcd, fun g B H ρ σ Q m h => ?_⟩
  unfold eLook at h
  split at h
  · rename_i d e
    obtain ⟨v, h1, h2⟩ := m.sl i _ e
    exact ⟨v, h1, ok_refl h m.sub v (Rep.t m.sub h2)⟩
  · rename_i d e
    obtain ⟨v, h1, p, vs, rfl, q1, q2, q3, q4⟩ := m.sl i _ e
    exact ⟨_, h1, ok_refl h m.sub _ ⟨p, vs, rfl, SqL.of q1, q4⟩⟩
  · rename_i d e
    obtain ⟨v, h1, p, vs, rfl, q1, q2⟩ := m.sl i _ e
    exact ⟨_, h1, ok_refl h m.sub _ ⟨p, vs, rfl, m.ext.h.seq q1, q2⟩⟩
  · rename_i k d e
    obtain ⟨v, h1, p, vs, rfl, q0, q1, q2⟩ := m.sl i _ e
    exact ⟨_, h1, ok_refl h m.sub _ ⟨p, vs, rfl, m.ext.h.seq q1, q2⟩⟩
  · exact h.elim
theorem sb_of (h : SE c W e f) : SB c W e f := by
  obtain ⟨t, p, a⟩ := h
  exact ⟨t, p, fun g B H ρ σ Q m h => a g B H ρ σ Q m (h.imp fun d B' H' x q v r => q v (Rep.t x.in_ r))⟩
theorem se_lst {f : Es} (h : SF c W e f) : SE c W e (eLst f) := by
  obtain ⟨t, p, a⟩ := h
  refine ⟨t, p, fun g B H ρ σ Q m h => a g B H ρ σ Q m ?_⟩
  have h' := Po.map (f := D.lst) h
  cases e : f ρ with
  | ok ds =>
    rw [e] at h'
    intro B' H' x p vs q1 q2 q3 q4
    exact h' _ _ (x.take q1 q2 q3) _ ⟨p, vs, rfl, .inl (.inl upd_same), Reps.mono (same_put q2) _ _ q4⟩
  | exc e2 =>
    rw [e] at h'
    exact h'
  | stuck =>
    rw [e] at h'
    exact h'
theorem sb_lst {f : Es} (h : SF c W e f) : SB c W e (eLst f) := sb_of (se_lst h)
/-- a constant of the module -/
theorem se_glob {x : Str} {d : D} {v : V} {u : Value} (hg : c.sc.names.lookup x = some .globalImplicit) (hm : c.mg x = some u) (r : RelV v u) (hd : ∀ B v', Rep c.K B d v' ↔ v' = v) (hdb : (x == ("__debug__" : Str)) = false := by decide) : SE c W (.Name x pos) (eD d) :=
  ⟨tC v, fun X G => pe_glob (by show X.env.scope.names.lookup x = _; rw [G.sc]; exact hg) (by rw [G.mg]; exact hm) r hdb, fun _ _ _ _ _ _ m h => ok_refl h m.sub _ ((hd _ _).mpr rfl)⟩

/-- what an operator's reading asks -/
abbrev Ad2 (c : Cf) (W : WX) (r : R2) (o : D → D → R D) : Prop := ∀ (σ : St) (B H : Hp) (x y : D) (v u : V) (Q : VK), Same B H → RepT c.K B H x v → RepT c.K B H y u →
  Po c W σ B H (o x y) (fun d B' H' => ∀ v, Rep c.K B' d v → Q v H') → r v u H Q
theorem ad_bin {r : R2} {o : D → D → R D} {ta tb : TE} (hr : Ad2 c W r o) (ha : AdB c W ta f) (hb : AdB c W tb g) : AdE c W (tOp r ta tb) (eBin o f g) := by
  intro G B H ρ σ Q m h
  refine ha G B H ρ σ _ m ((Po.bind h).imp fun x B1 H1 e1 h1 v r1 => ?_)
  refine hb G B1 H1 ρ σ _ (m.go e1) ((Po.bind h1).imp fun y B2 H2 e2 h2 u r2 => ?_)
  exact hr σ B2 H2 x y v u Q e2.in_ (r1.go e2) r2 h2
theorem se_bin {op : Operator} {r : R2} {o : D → D → R D} (ho : ∀ X, GX c W X → OpR X (binaryOp op) r) (hr : Ad2 c W r o) (ha : SB c W a f) (hb : SB c W b g) : SE c W (.BinOp a op b pos) (eBin o f g) := by
  obtain ⟨ta, pa, aa⟩ := ha
  obtain ⟨tb, pb, ab⟩ := hb
  exact ⟨_, fun X G => pe_op (ho X G) (pa X G) (pb X G), ad_bin hr aa ab⟩
theorem se_cmp {op : CmpOp} {r : R2} {o : D → D → R D} (ho : ∀ X, GX c W X → OpR X (compareOp op) r) (hr : Ad2 c W r o) (hm : behindInMarks op b = false) (ha : SB c W a f) (hb : SB c W b g) : SE c W (.Compare a [op] [b] pos) (eBin o f g) := by
  obtain ⟨ta, pa, aa⟩ := ha
  obtain ⟨tb, pb, ab⟩ := hb
  exact ⟨_, fun X G => pe_cmpR (ho X G) (pa X G) (pb X G) hm, ad_bin hr aa ab⟩
/-- a value that is a truth, as a test -/
def D.bool : D → R Bool
  | .bl b => .ok b
  | _ => .stuck
@[simp] theorem D.bool_bl {b : Bool} : (D.bl b).bool = .ok b := rfl
@[simp] def tst (f : Ev) : Et := fun ρ => (f ρ).bind D.bool
theorem ad_tst {t : TE} (h : AdE c W t f) : AdT c W (tTest t) (tst f) := by
  intro g B H ρ σ Q m q
  refine h g B H ρ σ _ m ((Po.bind q).imp fun d B1 H1 e1 h1 v r1 => ?_)
  cases d with
  | bl b =>
    cases (show v = .bl b from r1)
    exact ⟨b, rfl, ok_refl h1 e1.in_⟩
  | _ => exact h1.elim
theorem st_cmp {op : CmpOp} {r : R2} {o : D → D → R D} (ho : ∀ X, GX c W X → OpR X (compareOp op) r) (hr : Ad2 c W r o) (hm : behindInMarks op b = false) (ha : SB c W a f) (hb : SB c W b g) : ST c W (.Compare a [op] [b] pos) (tst (eBin o f g)) := by
  obtain ⟨ta, pa, aa⟩ := ha
  obtain ⟨tb, pb, ab⟩ := hb
  exact ⟨_, fun X G => pt_cmpR (ho X G) (pa X G) (pb X G) hm, ad_tst (ad_bin hr aa ab)⟩
theorem st_val (he : ∀ env whole, isTrue e env whole = (do let v ← whole; standAt e.pos; holding [v] (truthy v))) (h : SE c W e f) : ST c W e (tst f) := by
  obtain ⟨t, p, a⟩ := h
  exact ⟨_, fun X G => pt_val (p X G) (fun whole => he X.env whole), ad_tst a⟩

/-! ### operators -/
def divOk (j : Int) : Bool := decide (j.natAbs.log2 < 9000)
def mulOk (i j : Int) : Bool := decide (i.natAbs.log2 + j.natAbs.log2 < 130000000)
@[simp] noncomputable def oAdd : D → D → R D
  | .int i, .int j => .ok (.int (i + j))
  | .str i, .str j => if i.length + j.length ≤ szL then .ok (.str (i ++ j)) else .stuck
  | _, _ => .stuck
@[simp] def oSub : D → D → R D
  | .int i, .int j => .ok (.int (i - j))
  | _, _ => .stuck
@[simp] def oMul : D → D → R D
  | .int i, .int j => if mulOk i j = true then .ok (.int (i * j)) else .stuck
  | _, _ => .stuck
@[simp] def oDiv : D → D → R D
  | .int i, .int j => if 0 < j ∧ divOk j = true then .ok (.int (i / j)) else .stuck
  | _, _ => .stuck
@[simp] def oMod : D → D → R D
  | .int i, .int j => if 0 < j then .ok (.int (i % j)) else .stuck
  | _, _ => .stuck
@[simp] def oPow : D → D → R D
  | .int i, .int j => if 0 ≤ j ∧ j ≤ 1000000 ∧ i.natAbs < 2 ^ 64 then .ok (.int (i ^ j.toNat)) else .stuck
  | _, _ => .stuck
@[simp] def oShl : D → D → R D
  | .int i, .int j => if 0 ≤ j ∧ j ≤ 1000000 ∧ i.natAbs < 2 ^ 64 then .ok (.int (i * 2 ^ j.toNat)) else .stuck
  | _, _ => .stuck
theorem mulOk.ok {i j : Int} (h : mulOk i j = true) : PySem.IntMulOk i j := by
  have b : ∀ x : Int, Builtin.Int.intBits x ≤ x.natAbs.log2 + 1 := fun x => by
    unfold Builtin.Int.intBits
    split <;> omega
  have h1 := b i
  have h2 := b j
  have h3 : i.natAbs.log2 + j.natAbs.log2 < 130000000 := of_decide_eq_true h
  have e : bitsLine = 134217728 := by decide
  unfold PySem.IntMulOk
  intro z
  rw [Bool.and_eq_true] at z
  have z2 := z.2
  unfold Builtin.Int.intTooBig at z2
  have z3 := of_decide_eq_true z2
  rw [e] at z3
  omega
theorem op_mulL {X : Cx} : OpR X (binaryOp .Mult) (rI (fun i j => mulOk i j = true) fun i j => .int (i * j)) := opI fun _ _ _ _ _ _ _ hc q => PyProof.Rows.mul_int q (mulOk.ok hc)
theorem se_add (ha : SB c W a f) (hb : SB c W b g) : SE c W (.BinOp a .Add b pos) (eBin oAdd f g) := by
  refine se_bin (fun X G => OpR.or op_add op_add_str) (fun σ B H x y v u Q s r1 r2 h => ?_) ha hb
  cases x with
  | int i => cases y with
    | int j => exact .inl ⟨i, j, r1, r2, ok_refl h s _ rfl⟩
    | _ => exact h.elim
  | str i => cases y with
    | str j =>
      unfold oAdd at h
      dsimp only at h
      split at h
      · rename_i hz
        rw [szL_eq] at hz
        exact .inr ⟨i, j, r1, r2, hz, ok_refl h s _ rfl⟩
      · exact h.elim
    | _ => exact h.elim
  | _ => exact h.elim
theorem se_sub (ha : SB c W a f) (hb : SB c W b g) : SE c W (.BinOp a .Sub b pos) (eBin oSub f g) := by
  refine se_bin (fun X G => op_sub) (fun σ B H x y v u Q s r1 r2 h => ?_) ha hb
  cases x with
  | int i => cases y with
    | int j => exact ⟨i, j, r1, r2, ok_refl h s _ rfl⟩
    | _ => exact h.elim
  | _ => exact h.elim
theorem se_mul (ha : SB c W a f) (hb : SB c W b g) : SE c W (.BinOp a .Mult b pos) (eBin oMul f g) := by
  refine se_bin (fun X G => op_mulL) (fun σ B H x y v u Q s r1 r2 h => ?_) ha hb
  cases x with
  | int i => cases y with
    | int j =>
      unfold oMul at h
      dsimp only at h
      split at h
      · rename_i hz
        exact ⟨i, j, r1, r2, hz, ok_refl h s _ rfl⟩
      · exact h.elim
    | _ => exact h.elim
  | _ => exact h.elim
theorem se_div (ha : SB c W a f) (hb : SB c W b g) : SE c W (.BinOp a .FloorDiv b pos) (eBin oDiv f g) := by
  refine se_bin (fun X G => op_fdivW) (fun σ B H x y v u Q s r1 r2 h => ?_) ha hb
  cases x with
  | int i => cases y with
    | int j =>
      unfold oDiv at h
      dsimp only at h
      split at h
      · rename_i hz
        exact ⟨i, j, r1, r2, ⟨hz.1, of_decide_eq_true hz.2⟩, ok_refl h s _ rfl⟩
      · exact h.elim
    | _ => exact h.elim
  | _ => exact h.elim
theorem se_mod (ha : SB c W a f) (hb : SB c W b g) : SE c W (.BinOp a .Mod b pos) (eBin oMod f g) := by
  refine se_bin (fun X G => op_mod) (fun σ B H x y v u Q s r1 r2 h => ?_) ha hb
  cases x with
  | int i => cases y with
    | int j =>
      unfold oMod at h
      dsimp only at h
      split at h
      · rename_i hz
        exact ⟨i, j, r1, r2, hz, ok_refl h s _ rfl⟩
      · exact h.elim
    | _ => exact h.elim
  | _ => exact h.elim
theorem se_pow (ha : SB c W a f) (hb : SB c W b g) : SE c W (.BinOp a .Pow b pos) (eBin oPow f g) := by
  refine se_bin (fun X G => op_pow) (fun σ B H x y v u Q s r1 r2 h => ?_) ha hb
  cases x with
  | int i => cases y with
    | int j =>
      unfold oPow at h
      dsimp only at h
      split at h
      · rename_i hz
        exact ⟨i, j, r1, r2, hz, ok_refl h s _ rfl⟩
      · exact h.elim
    | _ => exact h.elim
  | _ => exact h.elim
theorem se_shl (ha : SB c W a f) (hb : SB c W b g) : SE c W (.BinOp a .LShift b pos) (eBin oShl f g) := by
  refine se_bin (fun X G => op_shl) (fun σ B H x y v u Q s r1 r2 h => ?_) ha hb
  cases x with
  | int i => cases y with
    | int j =>
      unfold oShl at h
      dsimp only at h
      split at h
      · rename_i hz
        exact ⟨i, j, r1, r2, hz, ok_refl h s _ rfl⟩
      · exact h.elim
    | _ => exact h.elim
  | _ => exact h.elim
@[simp] def oNeg : D → R D
  | .int i => .ok (.int (-i))
  | _ => .stuck
theorem se_neg (ha : SB c W a f) : SE c W (.UnaryOp .USub a pos) (eUn oNeg f) := by
  obtain ⟨ta, pa, aa⟩ := ha
  refine ⟨_, fun X G => pe_un un_neg (pa X G), fun G B H ρ σ Q m h => ?_⟩
  refine aa G B H ρ σ _ m ((Po.bind h).imp fun x B1 H1 e1 h1 v r1 => ?_)
  cases x with
  | int i => exact ⟨i, r1, ok_refl h1 e1.in_ _ rfl⟩
  | _ => exact h1.elim

/-! ### comparisons -/
mutual
@[simp] def D.py : D → PyData
  | .non => .none
  | .bl b => .bool b
  | .int i => .int i
  | .str x => .str x
  | .tup ds => .tuple (D.pys ds)
  | .lst ds => .list (D.pys ds)
@[simp] def D.pys : List D → List PyData
  | [] => []
  | d :: ds => d.py :: D.pys ds
end
mutual
theorem Rep.dp {K : PySem.W.Frag} {B H : Hp} (s : Same B H) : ∀ (d : D) (v : V), Rep K B d v → Dp K H v d.py
  | .non, _, h => by cases (show _ = V.non from h); exact .non
  | .bl b, _, h => by cases (show _ = V.bl b from h); exact .bl b
  | .int i, _, h => by cases (show _ = V.int i from h); exact .int i
  | .str x, _, h => by cases (show _ = V.str x from h); exact .str x
  | .tup ds, _, h => by
    obtain ⟨a, vs, rfl, q, r⟩ := h
    exact .tup (Same.seqT s q) (Reps.dp s ds vs r)
  | .lst ds, _, h => by
    obtain ⟨a, vs, rfl, q, r⟩ := h
    exact .lst (s.seq q) (Reps.dp s ds vs r)
theorem Reps.dp {K : PySem.W.Frag} {B H : Hp} (s : Same B H) : ∀ (ds : List D) (vs : List V), Reps K B ds vs → DpAll K H vs (D.pys ds)
  | [], _, h => by cases (show _ = ([] : List V) from h); exact .nil
  | d :: ds, _, h => by
    obtain ⟨v, r, rfl, h1, h2⟩ := h
    exact .cons (Rep.dp s d v h1) (Reps.dp s ds r h2)
end
theorem RepT.dp {K : PySem.W.Frag} {B H : Hp} (s : Same B H) {d : D} {v : V} (h : RepT K B H d v) : Dp K H v d.py := by
  cases d with
  | lst ds =>
    obtain ⟨a, vs, rfl, q, r⟩ := h
    exact .lst q (Reps.dp s ds vs r)
  | _ => exact Rep.dp s _ _ h
/-- == of two data: scalars at once, else by the library's data -/
def oEq : D → D → R D
  | .non, .non => .ok (.bl true) | .non, .int _ => .ok (.bl false) | .int _, .non => .ok (.bl false) | .non, .bl _ => .ok (.bl false) | .bl _, .non => .ok (.bl false) | .non, .str _ => .ok (.bl false) | .str _, .non => .ok (.bl false)
  | .int i, .int j => .ok (.bl (decide (i = j))) | .bl i, .bl j => .ok (.bl (decide (i = j))) | .str i, .str j => .ok (.bl (decide (i = j)))
  | x, y => if SeqAt.shaped x.py = true ∧ SeqAt.shaped y.py = true then .ok (.bl (PyData.eqv x.py y.py)) else .stuck
@[simp] def notD : D → R D
  | .bl b => .ok (.bl (!b))
  | _ => .stuck
@[simp] def oNe : D → D → R D := fun x y => (oEq x y).bind notD
theorem hu_room {k : Nat} {A : Around} (h : Room k A) : A.units + 64 < cLine := h.units
theorem eq_ad {p : Bool} {r1 : R2} {r2 : R2} (h1 : ∀ x y H (Q : VK), scal x y = true → Q (.bl (if p then !decide (x = y) else decide (x = y))) H → r1 x y H Q)
    (h2 : ∀ x y H (Q : VK) d e, Dp c.K H x d → Dp c.K H y e → SeqAt.shaped d = true → SeqAt.shaped e = true → Q (.bl (if p then !PyData.eqv d e else PyData.eqv d e)) H → r2 x y H Q) :
    Ad2 c W (fun x y H Q => r1 x y H Q ∨ r2 x y H Q) (if p then oNe else oEq) := by
  intro σ B H x y v u Q s r1' r2' h
  have deep : ∀ (x y : D) (v u : V), RepT c.K B H x v → RepT c.K B H y u →
      Po c W σ B H (R.bind (if SeqAt.shaped x.py = true ∧ SeqAt.shaped y.py = true then .ok (.bl (PyData.eqv x.py y.py)) else .stuck) (if p then notD else R.ok)) (fun d B' H' => ∀ v, Rep c.K B' d v → Q v H') → r1 v u H Q ∨ r2 v u H Q := fun x y v u a1 a2 h => by
    split at h
    · rename_i hz
      refine .inr (h2 v u H Q _ _ (a1.dp s) (a2.dp s) hz.1 hz.2 ?_)
      cases p <;> exact ok_refl h s _ rfl
    · exact h.elim
  have h' : Po c W σ B H ((oEq x y).bind (if p then notD else R.ok)) (fun d B' H' => ∀ v, Rep c.K B' d v → Q v H') := by
    cases p
    · have e : (oEq x y).bind R.ok = oEq x y := by cases oEq x y <;> rfl
      show Po c W σ B H ((oEq x y).bind R.ok) _
      rw [e]
      exact h
    · exact h
  have flat : ∀ {k : Bool}, scal v u = true → decide (v = u) = k → Po c W σ B H ((R.ok (.bl k)).bind (if p then notD else R.ok)) (fun d B' H' => ∀ v, Rep c.K B' d v → Q v H') → r1 v u H Q ∨ r2 v u H Q := fun {k} hs e q => by
    refine .inl (h1 v u H Q hs ?_)
    rw [e]
    cases p <;> exact ok_refl q s _ rfl
  cases x <;> cases y
  all_goals first
    | (cases (show v = _ from r1'); cases (show u = _ from r2'); exact flat rfl (by simp) h')
    | exact deep _ _ _ _ r1' r2' h'
theorem sc_eq : Ad2 c W (fun x y H Q => rEq x y H Q ∨ rEqD c.K x y H Q) oEq := eq_ad (p := false) (fun _ _ _ _ a b => ⟨a, b⟩) fun _ _ _ _ d e a b s1 s2 q => ⟨d, e, a, b, s1, s2, q⟩
theorem sc_ne : Ad2 c W (fun x y H Q => rNe x y H Q ∨ rNeD c.K x y H Q) oNe := eq_ad (p := true) (fun _ _ _ _ a b => ⟨a, b⟩) fun _ _ _ _ d e a b s1 s2 q => ⟨d, e, a, b, s1, s2, q⟩
theorem oc_eq {X : Cx} (G : GX c W X) : OpR X (compareOp .Eq) (fun x y H Q => rEq x y H Q ∨ rEqD c.K x y H Q) := by
  rw [← G.K]
  exact OpR.or op_eq (op_eqD (hu_room G.room))
theorem oc_ne {X : Cx} (G : GX c W X) : OpR X (compareOp .NotEq) (fun x y H Q => rNe x y H Q ∨ rNeD c.K x y H Q) := by
  rw [← G.K]
  exact OpR.or op_ne (op_neD (hu_room G.room))
@[simp] def oCmp (p : Int → Int → Bool) : D → D → R D
  | .int i, .int j => .ok (.bl (p i j))
  | _, _ => .stuck
abbrev oLt := oCmp fun i j => decide (i < j)
abbrev oLe := oCmp fun i j => decide (i ≤ j)
abbrev oGt := oCmp fun i j => decide (j < i)
abbrev oGe := oCmp fun i j => decide (j ≤ i)
theorem sc_cmp {p : Int → Int → Bool} : Ad2 c W (rI0 fun i j => .bl (p i j)) (oCmp p) := by
  intro σ B H x y v u Q s r1 r2 h
  cases x with
  | int i => cases y with
    | int j => exact ⟨i, j, r1, r2, ok_refl h s _ rfl⟩
    | _ => exact h.elim
  | _ => exact h.elim
@[simp] def isNon : D → Bool
  | .non => true
  | _ => false
theorem RepT.non_iff {K : PySem.W.Frag} {B H : Hp} {d : D} {v : V} (h : RepT K B H d v) : decide (v = .non) = isNon d := by
  cases d with
  | non => cases (show v = _ from h); rfl
  | bl b => cases (show v = _ from h); rfl
  | int b => cases (show v = _ from h); rfl
  | str b => cases (show v = _ from h); rfl
  | tup b => obtain ⟨a, vs, rfl, _⟩ := h; rfl
  | lst b => obtain ⟨a, vs, rfl, _⟩ := h; rfl
/-- is None, is True, is False (the right side written) -/
@[simp] def oIs : D → D → R D
  | x, .non => .ok (.bl (isNon x))
  | .bl a, .bl b => .ok (.bl (decide (a = b)))
  | _, _ => .stuck
@[simp] def oIsNot : D → D → R D
  | x, .non => .ok (.bl (!isNon x))
  | .bl a, .bl b => .ok (.bl (!decide (a = b)))
  | _, _ => .stuck
theorem sc_is : Ad2 c W (fun x y H Q => (y = .non ∧ Q (.bl (decide (x = .non))) H) ∨ ∃ a b, x = .bl a ∧ y = .bl b ∧ Q (.bl (decide (a = b))) H) oIs := by
  intro σ B H x y v u Q s r1 r2 h
  cases y with
  | non =>
    have h' : Po c W σ B H (.ok (.bl (isNon x))) (fun d B' H' => ∀ v, Rep c.K B' d v → Q v H') := by cases x <;> exact h
    exact .inl ⟨r2, ok_refl h' s _ (by rw [r1.non_iff] <;> rfl)⟩
  | bl b => cases x with
    | bl a => exact .inr ⟨a, b, r1, r2, ok_refl h s _ rfl⟩
    | _ => exact h.elim
  | _ => cases x <;> exact h.elim
theorem sc_isNot : Ad2 c W (fun x y H Q => (y = .non ∧ Q (.bl (!decide (x = .non))) H) ∨ ∃ a b, x = .bl a ∧ y = .bl b ∧ Q (.bl (!decide (a = b))) H) oIsNot := by
  intro σ B H x y v u Q s r1 r2 h
  cases y with
  | non =>
    have h' : Po c W σ B H (.ok (.bl (!isNon x))) (fun d B' H' => ∀ v, Rep c.K B' d v → Q v H') := by cases x <;> exact h
    exact .inl ⟨r2, ok_refl h' s _ (by rw [r1.non_iff] <;> rfl)⟩
  | bl b => cases x with
    | bl a => exact .inr ⟨a, b, r1, r2, ok_refl h s _ rfl⟩
    | _ => exact h.elim
  | _ => cases x <;> exact h.elim
end
end Mi

namespace Mi
open PySem PySem.Spec L2
section
variable {c : Cf} {W : WX} {a b e : Expr} {es rest : List Expr} {f g h : Ev} {p q : Et} {pos : Pos}

/-! ### comparisons by their signs -/
theorem se_eq (ha : SB c W a f) (hb : SB c W b g) : SE c W (.Compare a [.Eq] [b] pos) (eBin oEq f g) := se_cmp (fun _ G => oc_eq G) sc_eq (nomark _) ha hb
theorem st_eq (ha : SB c W a f) (hb : SB c W b g) : ST c W (.Compare a [.Eq] [b] pos) (tst (eBin oEq f g)) := st_cmp (fun _ G => oc_eq G) sc_eq (nomark _) ha hb
theorem se_ne (ha : SB c W a f) (hb : SB c W b g) : SE c W (.Compare a [.NotEq] [b] pos) (eBin oNe f g) := se_cmp (fun _ G => oc_ne G) sc_ne (nomark _) ha hb
theorem st_ne (ha : SB c W a f) (hb : SB c W b g) : ST c W (.Compare a [.NotEq] [b] pos) (tst (eBin oNe f g)) := st_cmp (fun _ G => oc_ne G) sc_ne (nomark _) ha hb
theorem se_lt (ha : SB c W a f) (hb : SB c W b g) : SE c W (.Compare a [.Lt] [b] pos) (eBin oLt f g) := se_cmp (fun _ _ => op_lt) sc_cmp (nomark _) ha hb
theorem st_lt (ha : SB c W a f) (hb : SB c W b g) : ST c W (.Compare a [.Lt] [b] pos) (tst (eBin oLt f g)) := st_cmp (fun _ _ => op_lt) sc_cmp (nomark _) ha hb
theorem se_le (ha : SB c W a f) (hb : SB c W b g) : SE c W (.Compare a [.LtE] [b] pos) (eBin oLe f g) := se_cmp (fun _ _ => op_le) sc_cmp (nomark _) ha hb
theorem st_le (ha : SB c W a f) (hb : SB c W b g) : ST c W (.Compare a [.LtE] [b] pos) (tst (eBin oLe f g)) := st_cmp (fun _ _ => op_le) sc_cmp (nomark _) ha hb
theorem se_gt (ha : SB c W a f) (hb : SB c W b g) : SE c W (.Compare a [.Gt] [b] pos) (eBin oGt f g) := se_cmp (fun _ _ => op_gt) sc_cmp (nomark _) ha hb
theorem st_gt (ha : SB c W a f) (hb : SB c W b g) : ST c W (.Compare a [.Gt] [b] pos) (tst (eBin oGt f g)) := st_cmp (fun _ _ => op_gt) sc_cmp (nomark _) ha hb
theorem se_ge (ha : SB c W a f) (hb : SB c W b g) : SE c W (.Compare a [.GtE] [b] pos) (eBin oGe f g) := se_cmp (fun _ _ => op_ge) sc_cmp (nomark _) ha hb
theorem st_ge (ha : SB c W a f) (hb : SB c W b g) : ST c W (.Compare a [.GtE] [b] pos) (tst (eBin oGe f g)) := st_cmp (fun _ _ => op_ge) sc_cmp (nomark _) ha hb
theorem se_is (ha : SB c W a f) (hb : SB c W b g) : SE c W (.Compare a [.Is] [b] pos) (eBin oIs f g) := se_cmp (fun _ _ => OpR.or op_isN op_is_bl) sc_is (nomark _) ha hb
theorem st_is (ha : SB c W a f) (hb : SB c W b g) : ST c W (.Compare a [.Is] [b] pos) (tst (eBin oIs f g)) := st_cmp (fun _ _ => OpR.or op_isN op_is_bl) sc_is (nomark _) ha hb
theorem se_isNot (ha : SB c W a f) (hb : SB c W b g) : SE c W (.Compare a [.IsNot] [b] pos) (eBin oIsNot f g) := se_cmp (fun _ _ => OpR.or op_notN op_isnot_bl) sc_isNot (nomark _) ha hb
theorem st_isNot (ha : SB c W a f) (hb : SB c W b g) : ST c W (.Compare a [.IsNot] [b] pos) (tst (eBin oIsNot f g)) := st_cmp (fun _ _ => OpR.or op_notN op_isnot_bl) sc_isNot (nomark _) ha hb
/-- a <= b < c and its like -/
@[simp] def eChain (p q : Int → Int → Bool) (f g h : Ev) : Ev := fun ρ => (f ρ).bind fun x => (g ρ).bind fun y => ((oCmp p x y).bind D.bool).bind fun b => if b = true then (h ρ).bind fun z => oCmp q y z else .ok (.bl false)
theorem ad_chain {p q : Int → Int → Bool} {ta tb tc : TE} (ha : AdB c W ta f) (hb : AdB c W tb g) (hc : AdB c W tc h) : AdE c W (tChain (rI0 fun i j => .bl (p i j)) (rI0 fun i j => .bl (q i j)) ta tb tc) (eChain p q f g h) := by
  intro G B H ρ σ Q m hh
  refine ha G B H ρ σ _ m ((Po.bind hh).imp fun x B1 H1 e1 h1 v r1 => ?_)
  refine hb G B1 H1 ρ σ _ (m.go e1) ((Po.bind h1).imp fun y B2 H2 e2 h2 u r2 => ?_)
  cases x with
  | int i =>
    cases y with
    | int j =>
      refine ⟨i, j, r1, r2, p i j, rfl, ?_⟩
      have h2' : Po c W σ B2 H2 (if p i j = true then (h ρ).bind fun z => oCmp q (.int j) z else .ok (.bl false)) _ := h2
      cases hp : p i j with
      | false =>
        rw [hp] at h2'
        rw [if_neg Bool.false_ne_true]
        exact ok_refl h2' e2.in_ _ rfl
      | true =>
        rw [hp] at h2'
        rw [if_pos rfl]
        refine hc G B2 H2 ρ σ _ ((m.go e1).go e2) ((Po.bind h2').imp fun z B3 H3 e3 h3 w r3 => ?_)
        cases z with
        | int k => exact ⟨j, k, r2, r3, ok_refl h3 e3.in_ _ rfl⟩
        | _ => exact h3.elim
    | _ => exact h2.elim
  | _ => exact h2.elim
theorem se_chain {o1 o2 : CmpOp} {b' : Expr} {p q : Int → Int → Bool} (h1 : ∀ X, OpR X (compareOp o1) (rI0 fun i j => .bl (p i j))) (h2 : ∀ X, OpR X (compareOp o2) (rI0 fun i j => .bl (q i j))) (hm : lastMarks [o1, o2] [b, b'] = false)
    (ha : SB c W a f) (hb : SB c W b g) (hc : SB c W b' h) : SE c W (.Compare a [o1, o2] [b, b'] pos) (eChain p q f g h) := by
  obtain ⟨ta, pa, aa⟩ := ha
  obtain ⟨tb, pb, ab⟩ := hb
  obtain ⟨tc, pc, ac⟩ := hc
  exact ⟨_, fun X G => pe_chain (h1 X) (h2 X) (pa X G) (pb X G) (pc X G) hm, ad_chain aa ab ac⟩
theorem st_chain {o1 o2 : CmpOp} {b' : Expr} {p q : Int → Int → Bool} (h1 : ∀ X, OpR X (compareOp o1) (rI0 fun i j => .bl (p i j))) (h2 : ∀ X, OpR X (compareOp o2) (rI0 fun i j => .bl (q i j))) (hm : lastMarks [o1, o2] [b, b'] = false)
    (ha : SB c W a f) (hb : SB c W b g) (hc : SB c W b' h) : ST c W (.Compare a [o1, o2] [b, b'] pos) (tst (eChain p q f g h)) := by
  obtain ⟨ta, pa, aa⟩ := ha
  obtain ⟨tb, pb, ab⟩ := hb
  obtain ⟨tc, pc, ac⟩ := hc
  exact ⟨_, fun X G => pt_chain (h1 X) (h2 X) (pa X G) (pb X G) (pc X G) hm, ad_tst (ad_chain aa ab ac)⟩

/-! ### and, or, not, if -/
@[simp] def tAndE (p q : Et) : Et := fun ρ => (p ρ).bind fun b => if b = true then q ρ else .ok false
@[simp] def tOrE (p q : Et) : Et := fun ρ => (p ρ).bind fun b => if b = true then .ok true else q ρ
@[simp] def tNotE (p : Et) : Et := fun ρ => (p ρ).map (!·)
theorem st_w (h : SW c W e p) : ST c W e p := by
  obtain ⟨t, k, a⟩ := h
  exact ⟨t, fun X G => (k X G).pt, a⟩
theorem sw_and1 (h : ST c W a p) : SW c W (.BoolOp .And [a] pos) p := by
  obtain ⟨t, k, ad⟩ := h
  exact ⟨t, fun X G => pw_and1 (k X G), ad⟩
theorem sw_or1 (h : ST c W a p) : SW c W (.BoolOp .Or [a] pos) p := by
  obtain ⟨t, k, ad⟩ := h
  exact ⟨t, fun X G => pw_or1 (k X G), ad⟩
theorem sw_and (h : ST c W a p) (h2 : SW c W (.BoolOp .And (b :: rest) pos) q) : SW c W (.BoolOp .And (a :: b :: rest) pos) (tAndE p q) := by
  obtain ⟨t, k, ad⟩ := h
  obtain ⟨t2, k2, ad2⟩ := h2
  refine ⟨_, fun X G => pw_and (k X G) (k2 X G), fun G B H ρ σ Q m hh => ?_⟩
  refine ad G B H ρ σ _ m ((Po.bind hh).imp fun x B1 H1 e1 h1 => ?_)
  cases x with
  | true =>
    rw [if_pos rfl]
    exact ad2 G B1 H1 ρ σ _ (m.go e1) h1
  | false =>
    rw [if_neg Bool.false_ne_true]
    exact ok_refl h1 e1.in_
theorem sw_or (h : ST c W a p) (h2 : SW c W (.BoolOp .Or (b :: rest) pos) q) : SW c W (.BoolOp .Or (a :: b :: rest) pos) (tOrE p q) := by
  obtain ⟨t, k, ad⟩ := h
  obtain ⟨t2, k2, ad2⟩ := h2
  refine ⟨_, fun X G => pw_or (k X G) (k2 X G), fun G B H ρ σ Q m hh => ?_⟩
  refine ad G B H ρ σ _ m ((Po.bind hh).imp fun x B1 H1 e1 h1 => ?_)
  cases x with
  | true =>
    rw [if_pos rfl]
    exact ok_refl h1 e1.in_
  | false =>
    rw [if_neg Bool.false_ne_true]
    exact ad2 G B1 H1 ρ σ _ (m.go e1) h1
theorem st_not (h : ST c W a p) : ST c W (.UnaryOp .Not a pos) (tNotE p) := by
  obtain ⟨t, k, ad⟩ := h
  refine ⟨_, fun X G => pt_not (k X G), fun G B H ρ σ Q m hh => ?_⟩
  exact ad G B H ρ σ _ m (Po.map hh)
/-- the same as values (all of them truths) -/
@[simp] def eAnd (f g : Ev) : Ev := fun ρ => (f ρ).bind fun d => d.bool.bind fun b => if b = true then g ρ else .ok (.bl false)
@[simp] def eOr (f g : Ev) : Ev := fun ρ => (f ρ).bind fun d => d.bool.bind fun b => if b = true then .ok (.bl true) else g ρ
@[simp] def eNot (f : Ev) : Ev := fun ρ => (f ρ).bind notD
theorem se_one {op : BoolOp} (h : SE c W a f) : SE c W (.BoolOp op [a] pos) f := by
  obtain ⟨t, k, ad⟩ := h
  exact ⟨t, fun X G => pe_one (k X G), ad⟩
theorem se_and (h : SE c W a f) (h2 : SE c W (.BoolOp .And (b :: rest) pos) g) : SE c W (.BoolOp .And (a :: b :: rest) pos) (eAnd f g) := by
  obtain ⟨t, k, ad⟩ := h
  obtain ⟨t2, k2, ad2⟩ := h2
  refine ⟨_, fun X G => pe_and (k X G) (k2 X G), fun G B H ρ σ Q m hh => ?_⟩
  refine ad G B H ρ σ _ m ((Po.bind hh).imp fun x B1 H1 e1 h1 v r1 => ?_)
  cases x with
  | bl x =>
    refine ⟨x, r1, ?_⟩
    cases x with
    | true =>
      rw [if_pos rfl]
      exact ad2 G B1 H1 ρ σ _ (m.go e1) h1
    | false =>
      rw [if_neg Bool.false_ne_true]
      exact ok_refl h1 e1.in_ _ rfl
  | _ => exact h1.elim
theorem se_or (h : SE c W a f) (h2 : SE c W (.BoolOp .Or (b :: rest) pos) g) : SE c W (.BoolOp .Or (a :: b :: rest) pos) (eOr f g) := by
  obtain ⟨t, k, ad⟩ := h
  obtain ⟨t2, k2, ad2⟩ := h2
  refine ⟨_, fun X G => pe_or (k X G) (k2 X G), fun G B H ρ σ Q m hh => ?_⟩
  refine ad G B H ρ σ _ m ((Po.bind hh).imp fun x B1 H1 e1 h1 v r1 => ?_)
  cases x with
  | bl x =>
    refine ⟨x, r1, ?_⟩
    cases x with
    | true =>
      rw [if_pos rfl]
      exact ok_refl h1 e1.in_ _ rfl
    | false =>
      rw [if_neg Bool.false_ne_true]
      exact ad2 G B1 H1 ρ σ _ (m.go e1) h1
  | _ => exact h1.elim
theorem se_not (h : SE c W a f) : SE c W (.UnaryOp .Not a pos) (eNot f) := by
  obtain ⟨t, k, ad⟩ := h
  refine ⟨_, fun X G => pe_not (k X G), fun G B H ρ σ Q m hh => ?_⟩
  refine ad G B H ρ σ _ m ((Po.bind hh).imp fun x B1 H1 e1 h1 v r1 => ?_)
  cases x with
  | bl x => exact ⟨x, r1, ok_refl h1 e1.in_ _ rfl⟩
  | _ => exact h1.elim
@[simp] def eIf (p : Et) (f g : Ev) : Ev := fun ρ => (p ρ).bind fun b => if b = true then f ρ else g ρ
theorem se_if {k : Expr} (hk : ST c W k p) (ha : SE c W a f) (hb : SE c W b g) : SE c W (.IfExp k a b pos) (eIf p f g) := by
  obtain ⟨t0, k0, a0⟩ := hk
  obtain ⟨t1, k1, a1⟩ := ha
  obtain ⟨t2, k2, a2⟩ := hb
  refine ⟨_, fun X G => pe_ifExp (k0 X G) (k1 X G) (k2 X G), fun G B H ρ σ Q m hh => ?_⟩
  refine a0 G B H ρ σ _ m ((Po.bind hh).imp fun x B1 H1 e1 h1 => ?_)
  cases x with
  | true =>
    rw [if_pos rfl]
    exact a1 G B1 H1 ρ σ _ (m.go e1) h1
  | false =>
    rw [if_neg Bool.false_ne_true]
    exact a2 G B1 H1 ρ σ _ (m.go e1) h1

/-! ### lists of values -/
/-- values, one behind the other (shared) -/
def SV (c : Cf) (W : WX) (es : List Expr) (f : Es) : Prop := ∃ t : TA, (∀ X, GX c W X → PA X es t) ∧
  (∀ (g : Gd) (B H : Hp) (ρ : En) (σ : St) (Q : List V → Hp → Prop), Mt c.K g B H ρ σ → Po c W σ B H (f ρ) (fun ds B' H' => ∀ vs, Reps c.K B' ds vs → Q vs H') → t σ H Q) ∧ ∀ ρ ds, f ρ = .ok ds → ds.length = es.length
@[simp] def vNil : Es := fun _ => .ok []
@[simp] def vCons (f : Ev) (g : Es) : Es := fun ρ => (f ρ).bind fun x => (g ρ).map fun xs => x :: xs
theorem sv_nil : SV c W [] vNil := ⟨_, fun _ _ => pa_nil, fun _ _ _ _ _ _ m h => ok_refl h m.sub _ rfl, fun _ _ e => by cases e; rfl⟩
theorem sv_cons {f' : Es} (ha : SE c W e f) (hr : SV c W es f') (hs : ∀ env, starEach (e :: es) env = (false, eval e env) :: starEach es env := by intro _; rfl) : SV c W (e :: es) (vCons f f') := by
  obtain ⟨t, k, ad⟩ := ha
  obtain ⟨t2, k2, ad2, l2⟩ := hr
  refine ⟨_, fun X G => pa_cons (k X G) (k2 X G) (hs X.env), fun G B H ρ σ Q m hh => ?_, fun ρ ds hd => ?_⟩
  · refine ad G B H ρ σ _ m ((Po.bind hh).imp fun x B1 H1 e1 h1 v r1 => ?_)
    refine ad2 G B1 H1 ρ σ _ (m.go e1) ((Po.map h1).imp fun xs B2 H2 e2 h2 vs r2 => ?_)
    exact h2 _ ⟨v, vs, rfl, Rep.mono e2.b _ _ r1, r2⟩
  · unfold vCons at hd
    cases h1 : f ρ with
    | ok x =>
      rw [h1, R.bind_ok] at hd
      cases h2 : f' ρ with
      | ok xs =>
        rw [h2, R.map_ok] at hd
        cases hd
        rw [List.length_cons, List.length_cons, l2 ρ xs h2]
      | exc z => rw [h2] at hd; cases hd
      | stuck => rw [h2] at hd; cases hd
    | exc z => rw [h1] at hd; cases hd
    | stuck => rw [h1] at hd; cases hd
@[simp] def eTup (f : Es) : Ev := fun ρ => (f ρ).map .tup
theorem line_ok {n : Nat} (h : n ≤ 1000) : n ≤ sizeLine := Nat.le_of_lt (small1000 h)
theorem se_tup {f : Es} {k : Nat} (h : SV c W es f) (hl : es.length ≤ 1000) : SE c W (.Tuple es k pos) (eTup f) := by
  obtain ⟨t, k, ad, l⟩ := h
  refine ⟨_, fun X G => pe_tup (k X G), fun G B H ρ σ Q m hh => ?_⟩
  have key := Po.map hh
  refine ad G B H ρ σ _ m ?_
  cases hf : f ρ with
  | ok ds =>
    rw [hf] at key
    intro B1 H1 e1 vs r1
    refine ⟨by rw [← r1.length, l ρ ds hf]; exact line_ok hl, fun p hp => ?_⟩
    have x := Ext.newB (o := .tup vs) e1.in_ hp
    exact key _ _ (e1.trans x) _ ⟨p, vs, rfl, SqT.of upd_same, Reps.mono x.b _ _ r1⟩
  | exc z => rw [hf] at key; exact key
  | stuck => rw [hf] at key; exact key
theorem sf_disp {f : Es} (h : SV c W es f) (hl : es.length ≤ 1000) : SF c W (.List es pos) f := by
  obtain ⟨t, k, ad, l⟩ := h
  refine ⟨_, fun X G => pe_lst (k X G), fun G B H ρ σ Q m hh => ?_⟩
  refine ad G B H ρ σ _ m ?_
  cases hf : f ρ with
  | ok ds =>
    rw [hf] at hh
    intro B1 H1 e1 vs r1
    refine ⟨by rw [← r1.length, l ρ ds hf]; exact line_ok hl, fun p hp => ?_⟩
    exact hh _ _ (e1.trans (Ext.new e1.in_ hp)) p vs upd_same (e1.in_.free hp) (e1.h.free hp) r1
  | exc z => rw [hf] at hh; exact hh
  | stuck => rw [hf] at hh; exact hh
/-- values that are looked at alone, one behind the other -/
def RepTs (K : PySem.W.Frag) (B H : Hp) : List D → List V → Prop
  | [], vs => vs = []
  | d :: ds, vs => ∃ v r, vs = v :: r ∧ RepT K B H d v ∧ RepTs K B H ds r
def SBs (c : Cf) (W : WX) (es : List Expr) (f : Es) : Prop := ∃ t : TA, (∀ X, GX c W X → PA X es t) ∧
  (∀ (g : Gd) (B H : Hp) (ρ : En) (σ : St) (Q : List V → Hp → Prop), Mt c.K g B H ρ σ → Po c W σ B H (f ρ) (fun ds B' H' => ∀ vs, RepTs c.K B' H' ds vs → Q vs H') → t σ H Q)
theorem sbs_nil : SBs c W [] vNil := ⟨_, fun _ _ => pa_nil, fun _ _ _ _ _ _ m h => ok_refl h m.sub _ rfl⟩
theorem sbs_cons {f' : Es} (ha : SB c W e f) (hr : SBs c W es f') (hs : ∀ env, starEach (e :: es) env = (false, eval e env) :: starEach es env := by intro _; rfl) : SBs c W (e :: es) (vCons f f') := by
  obtain ⟨t, k, ad⟩ := ha
  obtain ⟨t2, k2, ad2⟩ := hr
  refine ⟨_, fun X G => pa_cons (k X G) (k2 X G) (hs X.env), fun G B H ρ σ Q m hh => ?_⟩
  refine ad G B H ρ σ _ m ((Po.bind hh).imp fun x B1 H1 e1 h1 v r1 => ?_)
  refine ad2 G B1 H1 ρ σ _ (m.go e1) ((Po.map h1).imp fun xs B2 H2 e2 h2 vs r2 => ?_)
  exact h2 _ ⟨v, vs, rfl, r1.go e2, r2⟩

/-! ### subscripts -/
@[simp] noncomputable def oIx : D → D → R D
  | .lst ds, .int i => match atI ds i with
    | some d => .ok d
    | none => .stuck
  | .tup ds, .int i => match atI ds i with
    | some d => .ok d
    | none => .stuck
  | .str z, .int i => if z.length ≤ szL then (match atI z.cps.toList i with
    | some k => .ok (.str ⟨#[k]⟩)
    | none => .stuck) else .stuck
  | _, _ => .stuck
theorem Reps.at {K : PySem.W.Frag} {B : Hp} {ds : List D} {vs : List V} {i : Int} {d : D} (r : Reps K B ds vs) (h : atI ds i = some d) : ∃ v, atI vs i = some v ∧ Rep K B d v := by
  unfold atI at h ⊢
  rw [← r.length]
  cases e : ixN ds.length i with
  | none =>
    rw [e] at h
    cases h
  | some j =>
    rw [e] at h
    exact r.get h
theorem se_ix (ha : SB c W a f) (hb : SB c W b g) (hp : PlainIx b) : SE c W (.Subscript a b pos) (eBin oIx f g) := by
  obtain ⟨ta, pa, aa⟩ := ha
  obtain ⟨tb, pb, ab⟩ := hb
  refine ⟨tOp (fun x y H Q => rIxL c.K x y H Q ∨ (rIxT c.K x y H Q ∨ rIxS x y H Q)) ta tb, fun X G => pe_ix (by rw [← G.K]; exact IxR.or ix_list (IxR.or ix_tup ix_str)) (pa X G) (pb X G) hp, ad_bin (fun σ B H x y v u Q s r1 r2 h => ?_) aa ab⟩
  cases x with
  | lst ds => cases y with
    | int i =>
      obtain ⟨p, vs, rfl, q1, q2⟩ := r1
      unfold oIx at h
      dsimp only at h
      split at h
      · rename_i d hd
        obtain ⟨w, e1, e2⟩ := q2.at hd
        exact .inl ⟨p, vs, i, w, rfl, r2, q1, e1, ok_refl h s _ e2⟩
      · exact h.elim
    | _ => exact h.elim
  | tup ds => cases y with
    | int i =>
      obtain ⟨p, vs, rfl, q1, q2⟩ := r1
      unfold oIx at h
      dsimp only at h
      split at h
      · rename_i d hd
        obtain ⟨w, e1, e2⟩ := q2.at hd
        exact .inr (.inl ⟨p, vs, i, w, rfl, r2, Same.seqT s q1, e1, ok_refl h s _ e2⟩)
      · exact h.elim
    | _ => exact h.elim
  | str z => cases y with
    | int i =>
      unfold oIx at h
      dsimp only at h
      split at h
      · rename_i hz
        rw [szL_eq] at hz
        split at h
        · rename_i k hk
          exact .inr (.inr ⟨z, i, k, r1, r2, hz, hk, ok_refl h s _ rfl⟩)
        · exact h.elim
      · exact h.elim
    | _ => exact h.elim
  | _ => exact h.elim
/-- a part of a slice -/
abbrev Eo := En → R (Option Int)
def SO (c : Cf) (W : WX) (e : Option Expr) (f : Eo) : Prop := ∃ t : TO, (∀ X, GX c W X → PO X e t) ∧
  ∀ (g : Gd) (B H : Hp) (ρ : En) (σ : St) (Q : Option Int → Hp → Prop), Mt c.K g B H ρ σ → Po c W σ B H (f ρ) (fun o _ H' => Q o H') → t σ H Q
@[simp] def pNo : Eo := fun _ => .ok none
@[simp] def pSome (f : Ev) : Eo := fun ρ => (f ρ).bind fun d => match d with
  | .int i => .ok (some i)
  | _ => .stuck
theorem so_none : SO c W none pNo := ⟨_, fun _ _ => po_none, fun _ _ _ _ _ _ m h => ok_refl h m.sub⟩
theorem so_some (h : SB c W e f) : SO c W (some e) (pSome f) := by
  obtain ⟨t, k, ad⟩ := h
  refine ⟨_, fun X G => po_some (k X G), fun G B H ρ σ Q m hh => ?_⟩
  refine ad G B H ρ σ _ m ((Po.bind hh).imp fun x B1 H1 e1 h1 v r1 => ?_)
  cases x with
  | int i => exact ⟨i, r1, ok_refl h1 e1.in_⟩
  | _ => exact h1.elim
/-- xs[lo:hi] -/
def cutD {α : Type} (xs : List α) (lo hi : Option Int) : List α := (xs.drop (HT.sIx xs.length 0 lo)).take (HT.sIx xs.length xs.length hi - HT.sIx xs.length 0 lo)
@[simp] def eCut (f : Ev) (l h : Eo) : Es := fun ρ => (f ρ).bind fun x => (l ρ).bind fun lo => (h ρ).bind fun hi => match x with
  | .lst ds => .ok (cutD ds lo hi)
  | _ => .stuck
theorem Reps.cut {K : PySem.W.Frag} {B : Hp} {ds : List D} {vs : List V} (r : Reps K B ds vs) (lo hi : Option Int) : Reps K B (cutD ds lo hi) (cutV vs lo hi) := by
  unfold cutD cutV
  rw [← r.length]
  exact (r.drop _).take _
theorem sf_cut {lo hi : Option Expr} {p2 : Pos} {l h : Eo} (ha : SB c W a f) (hl : SO c W lo l) (hh : SO c W hi h) : SF c W (.Subscript a (.Slice lo hi none p2) pos) (eCut f l h) := by
  obtain ⟨ta, pa, aa⟩ := ha
  obtain ⟨tl, pl, al⟩ := hl
  obtain ⟨th, ph, ah⟩ := hh
  refine ⟨tSl (rSlL c.K) ta tl th, fun X G => pe_slice (by rw [← G.K]; exact sl_list) (pa X G) (pl X G) (ph X G), fun G B H ρ σ Q m q => ?_⟩
  refine aa G B H ρ σ _ m ((Po.bind q).imp fun x B1 H1 e1 h1 v r1 => ?_)
  refine al G B1 H1 ρ σ _ (m.go e1) ((Po.bind h1).imp fun y B2 H2 e2 h2 => ?_)
  refine ah G B2 H2 ρ σ _ ((m.go e1).go e2) ((Po.bind h2).imp fun z B3 H3 e3 h3 => ?_)
  cases x with
  | lst ds =>
    obtain ⟨p, vs, rfl, q1, q2⟩ := r1
    have ee := e2.trans e3
    refine ⟨p, vs, rfl, ee.h.seq q1, fun r hr => ?_⟩
    exact h3 _ _ (Ext.new e3.in_ hr) r _ upd_same (e3.in_.free hr) ((e1.trans ee).h.free hr) ((Reps.mono ee.b _ _ q2).cut y z)
  | _ => exact h3.elim

/-! ### built-in functions -/
abbrev AdC (c : Cf) (W : WX) (r : List V → Hp → VK → Prop) (o : List D → R D) : Prop := ∀ (σ : St) (B H : Hp) (ds : List D) (vs : List V) (Q : VK), Same B H → RepTs c.K B H ds vs →
  Po c W σ B H (o ds) (fun d B' H' => ∀ v, Rep c.K B' d v → Q v H') → r vs H Q
@[simp] def eCall (o : List D → R D) (f : Es) : Ev := fun ρ => (f ρ).bind o
theorem ad_call {r : List V → Hp → VK → Prop} {o : List D → R D} {t : TA} {f : Es} (hr : AdC c W r o)
    (ad : ∀ (g : Gd) (B H : Hp) (ρ : En) (σ : St) (Q : List V → Hp → Prop), Mt c.K g B H ρ σ → Po c W σ B H (f ρ) (fun ds B' H' => ∀ vs, RepTs c.K B' H' ds vs → Q vs H') → t σ H Q) : AdE c W (tCB r t) (eCall o f) := by
  intro G B H ρ σ Q m hh
  refine ad G B H ρ σ _ m ((Po.bind hh).imp fun ds B1 H1 e1 h1 vs r1 => ?_)
  exact hr σ B1 H1 ds vs Q e1.in_ r1 h1
theorem se_callB {id : String} {x : Str} {p : Pos} {r : List V → Hp → VK → Prop} {o : List D → R D} {f : Es} (hc : ∀ X, GX c W X → CallR X (.builtin id) r) (hr : AdC c W r o) (hg : c.sc.names.lookup x = some .globalImplicit) (hm : c.mg x = none) (hv : bootBuiltins x = some (.builtin id))
    (ha : SBs c W (e :: es) f) (hn : x ≠ "__name__") (hdb : (x == ("__debug__" : Str)) = false) (he : ∀ env, starEach (e :: es) env = (false, eval e env) :: starEach es env) (hpl : ∀ env, (backTo pos (starEach es env)).any (·.1) = false) : SE c W (.Call (.Name x p) (e :: es) [] pos) (eCall o f) := by
  obtain ⟨t, k, ad⟩ := ha
  exact ⟨_, fun X G => pe_callB (hc X G) (by show X.env.scope.names.lookup x = _; rw [G.sc]; exact hg) (by rw [G.mg]; exact hm) hv (k X G) hn hdb (he X.env) (hpl X.env), ad_call hr ad⟩
theorem se_callTy {T : String} {x : Str} {p : Pos} {r : List V → Hp → VK → Prop} {o : List D → R D} {f : Es} (hc : ∀ X, GX c W X → CallR X (.type T) r) (hr : AdC c W r o) (hg : c.sc.names.lookup x = some .globalImplicit) (hm : c.mg x = none) (hv : bootBuiltins x = some (.type T))
    (ha : SBs c W (e :: es) f) (hn : x ≠ "__name__") (hdb : (x == ("__debug__" : Str)) = false) (he : ∀ env, starEach (e :: es) env = (false, eval e env) :: starEach es env) (hpl : ∀ env, (backTo pos (starEach es env)).any (·.1) = false) : SE c W (.Call (.Name x p) (e :: es) [] pos) (eCall o f) := by
  obtain ⟨t, k, ad⟩ := ha
  exact ⟨_, fun X G => pe_callTy (hc X G) (by show X.env.scope.names.lookup x = _; rw [G.sc]; exact hg) (by rw [G.mg]; exact hm) hv (k X G) hn hdb (he X.env) (hpl X.env), ad_call hr ad⟩
@[simp] noncomputable def oLen : List D → R D
  | [.lst ds] => .ok (.int ds.length)
  | [.tup ds] => .ok (.int ds.length)
  | [.str z] => if z.length ≤ szL then .ok (.int z.length) else .stuck
  | _ => .stuck
theorem RepTs.one {K : PySem.W.Frag} {B H : Hp} {d : D} {vs : List V} (h : RepTs K B H [d] vs) : ∃ v, vs = [v] ∧ RepT K B H d v := by
  obtain ⟨v, r, rfl, h1, h2⟩ := h
  cases (show r = [] from h2)
  exact ⟨v, rfl, h1⟩
theorem RepTs.two {K : PySem.W.Frag} {B H : Hp} {d d' : D} {vs : List V} (h : RepTs K B H [d, d'] vs) : ∃ v v', vs = [v, v'] ∧ RepT K B H d v ∧ RepT K B H d' v' := by
  obtain ⟨v, r, rfl, h1, h2⟩ := h
  obtain ⟨v', rfl, h3⟩ := RepTs.one h2
  exact ⟨v, v', rfl, h1, h3⟩
theorem ac_len : AdC c W (fun xs H Q => ∃ x n, xs = [x] ∧ LenV c.K x H n ∧ Q (.int n) H) oLen := by
  intro σ B H ds vs Q s r h
  rcases ds with _ | ⟨d, _ | ⟨d2, ds⟩⟩
  · exact h.elim
  · obtain ⟨v, rfl, r1⟩ := r.one
    cases d with
    | lst ds =>
      obtain ⟨p, us, rfl, q1, q2⟩ := r1
      exact ⟨_, us.length, rfl, .inl ⟨us, q1, rfl⟩, ok_refl h s _ (by rw [q2.length] <;> rfl)⟩
    | tup ds =>
      obtain ⟨p, us, rfl, q1, q2⟩ := r1
      exact ⟨_, us.length, rfl, .inr ⟨us, Same.seqT s q1, rfl⟩, ok_refl h s _ (by rw [q2.length] <;> rfl)⟩
    | str z =>
      unfold oLen at h
      dsimp only at h
      split at h
      · rename_i hz
        rw [szL_eq] at hz
        cases (show v = .str z from r1)
        exact ⟨_, z.length, rfl, ⟨hz, rfl⟩, ok_refl h s _ rfl⟩
      · exact h.elim
    | _ => exact h.elim
  · cases d <;> exact h.elim
theorem se_len {x : Str} {p : Pos} (hx : x = "len") (hg : c.sc.names.lookup x = some .globalImplicit) (hm : c.mg x = none) (ha : SB c W e f) (he : ∀ env, starEach [e] env = (false, eval e env) :: starEach [] env := by intro _; rfl) : SE c W (.Call (.Name x p) [e] [] pos) (eCall oLen (vCons f vNil)) := by
  subst hx
  exact se_callB (fun X G => by rw [← G.K]; exact call_len) ac_len hg hm PySem.boot_len (sbs_cons ha sbs_nil he) (by decide) (by decide) he (fun _ => rfl)
@[simp] def oMin : List D → R D
  | [.int i, .int j] => .ok (.int (min i j))
  | _ => .stuck
@[simp] def oMax : List D → R D
  | [.int i, .int j] => .ok (.int (max i j))
  | _ => .stuck
theorem ac_min : AdC c W (fun xs H Q => ∃ i j, xs = [.int i, .int j] ∧ Q (.int (if j < i then j else i)) H) oMin := by
  intro σ B H ds vs Q s r h
  rcases ds with _ | ⟨d, _ | ⟨d2, _ | ⟨d3, ds⟩⟩⟩
  · exact h.elim
  · cases d <;> exact h.elim
  · obtain ⟨v, v', rfl, r1, r2⟩ := r.two
    cases d with
    | int i => cases d2 with
      | int j =>
        cases (show v = .int i from r1)
        cases (show v' = .int j from r2)
        refine ⟨i, j, rfl, ok_refl h s _ ?_⟩
        show V.int (if j < i then j else i) = V.int (min i j)
        congr 1
        split <;> omega
      | _ => exact h.elim
    | _ => cases d2 <;> exact h.elim
  · cases d <;> cases d2 <;> exact h.elim
theorem ac_max : AdC c W (fun xs H Q => ∃ i j, xs = [.int i, .int j] ∧ Q (.int (if j > i then j else i)) H) oMax := by
  intro σ B H ds vs Q s r h
  rcases ds with _ | ⟨d, _ | ⟨d2, _ | ⟨d3, ds⟩⟩⟩
  · exact h.elim
  · cases d <;> exact h.elim
  · obtain ⟨v, v', rfl, r1, r2⟩ := r.two
    cases d with
    | int i => cases d2 with
      | int j =>
        cases (show v = .int i from r1)
        cases (show v' = .int j from r2)
        refine ⟨i, j, rfl, ok_refl h s _ ?_⟩
        show V.int (if j > i then j else i) = V.int (max i j)
        congr 1
        split <;> omega
      | _ => exact h.elim
    | _ => cases d2 <;> exact h.elim
  · cases d <;> cases d2 <;> exact h.elim
theorem se_min {x : Str} {p : Pos} (hx : x = "min") (hg : c.sc.names.lookup x = some .globalImplicit) (hm : c.mg x = none) (ha : SB c W a f) (hb : SB c W b g) (he : ∀ env, starEach [a, b] env = (false, eval a env) :: starEach [b] env := by intro _; rfl) (he2 : ∀ env, starEach [b] env = (false, eval b env) :: starEach [] env := by intro _; rfl)
    (hpl : ∀ env, (backTo pos (starEach [b] env)).any (·.1) = false := by intro _; rfl) : SE c W (.Call (.Name x p) [a, b] [] pos) (eCall oMin (vCons f (vCons g vNil))) := by
  subst hx
  exact se_callB (fun X G => call_min2 G.calm) ac_min hg hm (by decide +kernel) (sbs_cons ha (sbs_cons hb sbs_nil he2) he) (by decide) (by decide) he hpl
theorem se_max {x : Str} {p : Pos} (hx : x = "max") (hg : c.sc.names.lookup x = some .globalImplicit) (hm : c.mg x = none) (ha : SB c W a f) (hb : SB c W b g) (he : ∀ env, starEach [a, b] env = (false, eval a env) :: starEach [b] env := by intro _; rfl) (he2 : ∀ env, starEach [b] env = (false, eval b env) :: starEach [] env := by intro _; rfl)
    (hpl : ∀ env, (backTo pos (starEach [b] env)).any (·.1) = false := by intro _; rfl) : SE c W (.Call (.Name x p) [a, b] [] pos) (eCall oMax (vCons f (vCons g vNil))) := by
  subst hx
  exact se_callB (fun X G => call_max2 G.calm) ac_max hg hm (by decide +kernel) (sbs_cons ha (sbs_cons hb sbs_nil he2) he) (by decide) (by decide) he hpl
/-- list(xs), xs a list or a tuple -/
@[simp] def eList (f : Ev) : Es := fun ρ => (f ρ).bind fun d => match d with
  | .lst ds => .ok ds
  | .tup ds => .ok ds
  | _ => .stuck
theorem sf_list {x : Str} {p : Pos} (hx : x = "list") (hg : c.sc.names.lookup x = some .globalImplicit) (hm : c.mg x = none) (ha : SB c W e f) (he : ∀ env, starEach [e] env = (false, eval e env) :: starEach [] env := by intro _; rfl) : SF c W (.Call (.Name x p) [e] [] pos) (eList f) := by
  subst hx
  obtain ⟨t, k, ad⟩ := sbs_cons ha sbs_nil he
  refine ⟨tCB (fun xs H Q => ∃ p ys, xs = [.ref p] ∧ (SqL c.K H p ys ∨ SqT c.K H p ys) ∧ ∀ l, H l = none → Q (.ref l) (upd H l (.lst ys))) t,
    fun X G => pe_callTy (by rw [← G.K]; exact call_list_of) (by show X.env.scope.names.lookup _ = _; rw [G.sc]; exact hg) (by rw [G.mg]; exact hm) (by decide +kernel) (k X G) (by decide) (by decide) (he X.env) rfl, fun G B H ρ σ Q m hh => ?_⟩
  have hh' : Po c W σ B H ((vCons f vNil ρ).bind fun ds => match ds with | [.lst ds] => .ok ds | [.tup ds] => .ok ds | _ => .stuck) (fun ds B' H' => ∀ p vs, H' p = some (.lst vs) → B' p = none → H p = none → Reps c.K B' ds vs → Q (.ref p) H') := by
    have e : ((vCons f vNil ρ).bind fun ds => match ds with | [.lst ds] => .ok ds | [.tup ds] => .ok ds | _ => .stuck) = eList f ρ := by
      unfold vCons vNil eList
      cases f ρ with
      | ok d => cases d <;> rfl
      | _ => rfl
    rw [e]
    exact hh
  refine ad G B H ρ σ _ m ((Po.bind hh').imp fun ds B1 H1 e1 h1 vs r1 => ?_)
  rcases ds with _ | ⟨d, _ | ⟨d2, ds⟩⟩
  · exact h1.elim
  · obtain ⟨v, rfl, r5⟩ := r1.one
    cases d with
    | lst ds =>
      obtain ⟨p, us, rfl, q1, q2⟩ := r5
      refine ⟨p, us, rfl, .inl q1, fun l hl => ?_⟩
      exact h1 _ _ (Ext.new e1.in_ hl) l us upd_same (e1.in_.free hl) (e1.h.free hl) q2
    | tup ds =>
      obtain ⟨p, us, rfl, q1, q2⟩ := r5
      refine ⟨p, us, rfl, .inr (Same.seqT e1.in_ q1), fun l hl => ?_⟩
      exact h1 _ _ (Ext.new e1.in_ hl) l us upd_same (e1.in_.free hl) (e1.h.free hl) q2
    | _ => exact h1.elim
  · cases d <;> exact h1.elim
end
end Mi

namespace Mi
open PySem PySem.Spec L2

/-! ## 6. What a loop walks -/
/-- J yields the items, whatever has come behind B by then -/
def Wk (K : PySem.W.Frag) (g : Gd) (B : Hp) (J : It) (items : List D) : Prop := ∀ (B' H' : Hp) (i : Nat), Same B B' → Ext g.B g.H B' H' →
  (∀ d, items[i]? = some d → J.go i H' ∧ ∀ x H2, J.yld i H' x H2 → ∃ B2, Ext B' H' B2 H2 ∧ Rep K B2 d x) ∧ (items.length ≤ i → J.stop i H')
def AdI (c : Cf) (W : WX) (t : TI) (f : Es) : Prop := ∀ (g : Gd) (B H : Hp) (ρ : En) (σ : St) (Q : It → Hp → Prop), Mt c.K g B H ρ σ →
  Po c W σ B H (f ρ) (fun items B' H' => ∀ J, Wk c.K g B' J items → Q J H') → t σ H Q
def SI (c : Cf) (W : WX) (tg e : Expr) (f : Es) : Prop := ∃ t : TI, (∀ X, GX c W X → PI X tg e t) ∧ AdI c W t f
theorem PI.or {X : Cx} {tg e : Expr} {w1 w2 : TI} (h1 : PI X tg e w1) (h2 : PI X tg e w2) : PI X tg e (fun σ H Q => w1 σ H Q ∨ w2 σ H Q) :=
  ⟨fun pins s σ H R I h => h.elim (h1.run pins s σ H R I) (h2.run pins s σ H R I)⟩
section
variable {K : PySem.W.Frag} {g : Gd} {B : Hp}
theorem wk_list {a : Addr} {vs : List V} {ds : List D} (h : ∀ B' H', Same B B' → Ext g.B g.H B' H' → SqL K H' a vs) (r : Reps K B ds vs) : Wk K g B (Itl K a) ds := by
  intro B' H' i s x
  have q := h B' H' s x
  refine ⟨fun d e => ?_, fun hi => ⟨vs, q, by rw [← r.length]; exact hi⟩⟩
  obtain ⟨v, e1, e2⟩ := r.get e
  refine ⟨⟨vs, v, q, e1⟩, fun y H2 hy => ?_⟩
  obtain ⟨rfl, hy⟩ := hy
  have e3 := hy vs q
  rw [e1] at e3
  cases e3
  exact ⟨B', Ext.refl x.in_, Rep.mono s _ _ e2⟩
theorem wk_tup {a : Addr} {vs : List V} {ds : List D} (h : SqT K B a vs) (r : Reps K B ds vs) : Wk K g B (Itt K a) ds := by
  intro B' H' i s x
  have q : SqT K H' a vs := Same.seqT x.in_ (Same.seqT s h)
  refine ⟨fun d e => ?_, fun hi => ⟨vs, q, by rw [← r.length]; exact hi⟩⟩
  obtain ⟨v, e1, e2⟩ := r.get e
  refine ⟨⟨vs, v, q, e1⟩, fun y H2 hy => ?_⟩
  obtain ⟨rfl, hy⟩ := hy
  have e3 := hy vs q
  rw [e1] at e3
  cases e3
  exact ⟨B', Ext.refl x.in_, Rep.mono s _ _ e2⟩
def rngD (lo : Int) (n : Nat) : List D := (List.range n).map fun (i : Nat) => D.int (lo + (i : Int))
theorem wk_rng {lo : Int} {n : Nat} : Wk K g B (Itr lo n) (rngD lo n) := by
  intro B' H' i s x
  refine ⟨fun d e => ?_, fun hi => ?_⟩
  · unfold rngD at e
    rw [List.getElem?_map] at e
    by_cases hi : i < n
    · rw [List.getElem?_range hi] at e
      cases e
      refine ⟨hi, fun y H2 hy => ?_⟩
      obtain ⟨rfl, rfl⟩ := hy
      exact ⟨B', Ext.refl x.in_, rfl⟩
    · rw [List.getElem?_eq_none (by rw [List.length_range]; omega)] at e
      cases e
  · unfold rngD at hi
    rw [List.length_map, List.length_range] at hi
    exact hi
end
section
variable {c : Cf} {W : WX} {a b e tg : Expr} {es rest : List Expr} {f g h : Ev} {p q : Et} {pos : Pos}
/-- a list or a tuple -/
@[simp] def iSeq (f : Ev) : Es := fun ρ => (f ρ).bind fun d => match d with
  | .lst ds => .ok ds
  | .tup ds => .ok ds
  | _ => .stuck
theorem si_seq (he : SE c W e f) : SI c W tg e (iSeq f) := by
  obtain ⟨t, k, ad⟩ := he
  refine ⟨fun σ H Q => iList c.K t σ H Q ∨ iTup c.K t σ H Q, fun X G => by rw [← G.K]; exact PI.or (pi_list (k X G)) (pi_tup (k X G)), fun G B H ρ σ Q m hh => ?_⟩
  have hb := Po.bind hh
  cases hf : f ρ with
  | ok d =>
    rw [hf] at hb
    cases d with
    | lst ds =>
      refine .inl (ad G B H ρ σ _ m ?_)
      rw [hf]
      intro B1 H1 e1 v r1
      obtain ⟨p, vs, rfl, q1, q2⟩ := r1
      exact ⟨p, rfl, ⟨vs, e1.in_.seq q1⟩, ok_refl (hb B1 H1 e1) e1.in_ _ (wk_list (fun B' H' s x => x.in_.seq (s.seq q1)) q2)⟩
    | tup ds =>
      refine .inr (ad G B H ρ σ _ m ?_)
      rw [hf]
      intro B1 H1 e1 v r1
      obtain ⟨p, vs, rfl, q1, q2⟩ := r1
      exact ⟨p, rfl, ⟨vs, Same.seqT e1.in_ q1⟩, ok_refl (hb B1 H1 e1) e1.in_ _ (wk_tup q1 q2)⟩
    | _ => exact (hb B H m.refl).elim
  | exc z =>
    rw [hf] at hb
    refine .inl (ad G B H ρ σ _ m ?_)
    rw [hf]
    exact hb
  | stuck =>
    rw [hf] at hb
    exact hb.elim
/-- a name that holds a shared list, a tuple, or a list that is lent -/
@[simp] def iVar (i : Nat) : Es := fun ρ => match ρ[i]? with
  | some (some (.sh (.lst ds))) => .ok ds
  | some (some (.sh (.tup ds))) => .ok ds
  | some (some (.bo ds)) => .ok ds
  | some (some (.lt _ ds)) => .ok ds
  | _ => .stuck
theorem si_var {i : Nat} {x : Str} (hN : c.N[i]? = some x) (hv : Vis c.sc x) (hd : (x == ("__debug__" : Str)) = false := by decide) (hcd : (x == ("__classdict__" : Str)) = false := by decide) : SI c W tg (.Name x pos) (iVar i) := by
  refine ⟨fun σ H Q => iList c.K (tVar i) σ H Q ∨ iTup c.K (tVar i) σ H Q, fun X G => ?_, fun G B H ρ σ Q m hh => ?_⟩
  · have pv : PE X (.Name x pos) (tVar i) := pe_var (by rw [G.N]; exact hN) (by rw [G.sc]; exact hv) hd hcd
    rw [← G.K]
    exact PI.or (pi_list pv) (pi_tup pv)
  · unfold iVar at hh
    split at hh
    · rename_i ds e
      obtain ⟨v, h1, p, vs, rfl, q1, q2⟩ := m.sl i _ e
      exact .inl ⟨_, h1, p, rfl, ⟨vs, m.sub.seq q1⟩, ok_refl hh m.sub _ (wk_list (fun B' H' s x => x.in_.seq (s.seq q1)) q2)⟩
    · rename_i ds e
      obtain ⟨v, h1, p, vs, rfl, q1, q2⟩ := m.sl i _ e
      exact .inr ⟨_, h1, p, rfl, ⟨vs, Same.seqT m.sub q1⟩, ok_refl hh m.sub _ (wk_tup q1 q2)⟩
    · rename_i ds e
      obtain ⟨v, h1, p, vs, rfl, q1, q2⟩ := m.sl i _ e
      exact .inl ⟨_, h1, p, rfl, ⟨vs, m.ext.h.seq q1⟩, ok_refl hh m.sub _ (wk_list (fun B' H' s x => x.h.seq q1) q2)⟩
    · rename_i k ds e
      obtain ⟨v, h1, p, vs, rfl, q0, q1, q2⟩ := m.sl i _ e
      exact .inl ⟨_, h1, p, rfl, ⟨vs, m.ext.h.seq q1⟩, ok_refl hh m.sub _ (wk_list (fun B' H' s x => x.h.seq q1) q2)⟩
    · exact hh.elim
noncomputable def iRng1D (f : Ev) : Es := fun ρ => (f ρ).bind fun d => match d with
  | .int j => if -big62 ≤ j ∧ j < big62 then .ok (rngD 0 j.toNat) else .stuck
  | _ => .stuck
theorem si_range1 {x : Str} {p : Pos} (hx : x = "range") (hg : c.sc.names.lookup x = some .globalImplicit) (hm : c.mg x = none) (ha : SE c W a f) (hs : ∀ env, starEach [a] env = [(false, eval a env)] := by intro _; rfl) : SI c W tg (.Call (.Name x p) [a] [] pos) (iRng1D f) := by
  subst hx
  obtain ⟨t, k, ad⟩ := ha
  refine ⟨_, fun X G => pi_range1 (ta := tCons t tNil) (by show X.env.scope.names.lookup _ = _; rw [G.sc]; exact hg) (by rw [G.mg]; exact hm) (pa_cons (k X G) pa_nil (by rw [hs]; rfl)) (hs X.env), fun G B H ρ σ Q m hh => ?_⟩
  refine ad G B H ρ σ _ m ((Po.bind hh).imp fun d B1 H1 e1 h1 v r1 => ?_)
  cases d with
  | int j =>
    cases (show v = .int j from r1)
    dsimp only at h1
    split at h1
    · rename_i hz
      rw [big62_eq] at hz
      exact ⟨j, rfl, hz.1, hz.2, ok_refl h1 e1.in_ _ wk_rng⟩
    · exact h1.elim
  | _ => exact h1.elim
noncomputable def iRng2D (f g : Ev) : Es := fun ρ => (f ρ).bind fun x => (g ρ).bind fun y => match x, y with
  | .int i, .int j => if (-big62 ≤ i ∧ i < big62) ∧ -big62 ≤ j ∧ j < big62 then .ok (rngD i (j - i).toNat) else .stuck
  | _, _ => .stuck
theorem si_range2 {x : Str} {p : Pos} (hx : x = "range") (hg : c.sc.names.lookup x = some .globalImplicit) (hm : c.mg x = none) (ha : SE c W a f) (hb : SE c W b g) (hs : ∀ env, starEach [a, b] env = [(false, eval a env), (false, eval b env)] := by intro _; rfl) (hs2 : ∀ env, starEach [b] env = [(false, eval b env)] := by intro _; rfl) : SI c W tg (.Call (.Name x p) [a, b] [] pos) (iRng2D f g) := by
  subst hx
  obtain ⟨t, k, ad⟩ := ha
  obtain ⟨t2, k2, ad2⟩ := hb
  refine ⟨_, fun X G => pi_range2 (ta := tCons t (tCons t2 tNil)) (by show X.env.scope.names.lookup _ = _; rw [G.sc]; exact hg) (by rw [G.mg]; exact hm) (pa_cons (k X G) (pa_cons (k2 X G) pa_nil (by rw [hs2]; rfl)) (by rw [hs, hs2])) (hs X.env) (hs2 X.env), fun G B H ρ σ Q m hh => ?_⟩
  refine ad G B H ρ σ _ m ((Po.bind hh).imp fun d B1 H1 e1 h1 v r1 => ?_)
  refine ad2 G B1 H1 ρ σ _ (m.go e1) ((Po.bind h1).imp fun d2 B2 H2 e2 h2 v2 r2 => ?_)
  cases d with
  | int i => cases d2 with
    | int j =>
      cases (show v = .int i from r1)
      cases (show v2 = .int j from r2)
      dsimp only at h2
      split at h2
      · rename_i hz
        rw [big62_eq] at hz
        exact ⟨i, j, rfl, ⟨hz.1.1, hz.1.2, hz.2.1, hz.2.2⟩, ok_refl h2 e2.in_ _ wk_rng⟩
      · exact h2.elim
    | _ => exact h2.elim
  | _ => exact h2.elim

/-! ## 7. Targets -/
abbrev Gt := D → En → R En
abbrev Gts := List D → En → R En
def PoG (K : PySem.W.Frag) (g : Gd) (B H : Hp) (σ : St) (is : List Nat) (r : R En) (Q : St → Hp → Prop) : Prop :=
  match r with
  | .ok ρ' => ∀ σ', Mt K g B H ρ' σ' → σ'.length = σ.length → (∀ j, j ∉ is → σ'[j]? = σ[j]?) → Q σ' H
  | _ => False
def SG (c : Cf) (tg : Expr) (is : List Nat) (f : Gt) : Prop := ∃ t : TG, (∀ W X, GX c W X → PG X tg t) ∧
  ∀ (g : Gd) (B H : Hp) (ρ : En) (σ : St) (v : V) (d : D) (Q : St → Hp → Prop), Mt c.K g B H ρ σ → Rep c.K B d v → PoG c.K g B H σ is (f d ρ) Q → t v σ H Q
def SGs (c : Cf) (es : List Expr) (is : List Nat) (f : Gts) : Prop := ∃ t : TGs, (∀ W X, GX c W X → PGs X es t) ∧
  ∀ (g : Gd) (B H : Hp) (ρ : En) (σ : St) (vs : List V) (ds : List D) (Q : St → Hp → Prop), Mt c.K g B H ρ σ → Reps c.K B ds vs → PoG c.K g B H σ is (f ds ρ) Q → t vs σ H Q
@[simp] def gSet (i : Nat) : Gt := fun d ρ => .ok (ρ.set i (some (.sh d)))
theorem loc_fn {X : Cx} {x : Str} (G : GX c W X) (hx : LocC c x) : X.fn x = true ∨ X.env.scope.names.lookup x = some .local := by
  rcases hx with h | h
  · exact .inr (by rw [G.sc]; exact h)
  · exact .inl (G.fn h.2 x)
theorem sg_name {i : Nat} {x : Str} (hN : c.N[i]? = some x) (hx : LocC c x) : SG c (.Name x pos) [i] (gSet i) := by
  refine ⟨_, fun W X G => pg_name G.nd (by rw [G.N]; exact hN) (by rw [G.sc]; exact hx.loc) (loc_fn G hx), fun g B H ρ σ v d Q m r h => ?_⟩
  exact h _ (m.setSh r) (List.length_set ..) fun j hj => List.getElem?_set_ne (fun e => hj (by simp [e]))
@[simp] def gsNil : Gts := fun ds ρ => match ds with
  | [] => .ok ρ
  | _ => .stuck
@[simp] def gsCons (f : Gt) (r : Gts) : Gts := fun ds ρ => match ds with
  | d :: ds => (f d ρ).bind fun ρ' => r ds ρ'
  | [] => .stuck
theorem sgs_nil : SGs c [] [] gsNil := by
  refine ⟨_, fun W X G => pgs_nil, fun g B H ρ σ vs ds Q m r h => ?_⟩
  cases ds with
  | nil =>
    cases (show vs = [] from r)
    exact ⟨rfl, h σ m rfl fun _ _ => rfl⟩
  | cons d ds => exact h.elim
theorem sgs_cons {is js : List Nat} {f : Gt} {r : Gts} (h1 : SG c e is f) (h2 : SGs c es js r) (hs : ∀ env, (assignEach (e :: es) env).map (·.2) = assign e env :: (assignEach es env).map (·.2) := by intro _; rfl) : SGs c (e :: es) (is ++ js) (gsCons f r) := by
  obtain ⟨t, k, ad⟩ := h1
  obtain ⟨t2, k2, ad2⟩ := h2
  refine ⟨_, fun W X G => pgs_cons (k W X G) (k2 W X G) (hs X.env), fun g B H ρ σ vs ds Q m rr h => ?_⟩
  cases ds with
  | nil => exact h.elim
  | cons d ds =>
    obtain ⟨v, us, rfl, r1, r2⟩ := rr
    refine ⟨v, us, rfl, ad g B H ρ σ v d _ m r1 ?_⟩
    cases hf : f d ρ with
    | ok ρ1 =>
      intro σ1 m1 l1 n1
      refine ad2 g B H ρ1 σ1 us ds _ m1 r2 ?_
      have h' : PoG c.K g B H σ (is ++ js) (r ds ρ1) Q := by
        unfold gsCons at h
        dsimp only at h
        rw [hf] at h
        exact h
      cases hr : r ds ρ1 with
      | ok ρ2 =>
        rw [hr] at h'
        intro σ2 m2 l2 n2
        refine h' σ2 m2 (l2.trans l1) fun j hj => ?_
        rw [n2 j fun z => hj (List.mem_append_right _ z), n1 j fun z => hj (List.mem_append_left _ z)]
      | exc z => rw [hr] at h'; exact h'.elim
      | stuck => rw [hr] at h'; exact h'.elim
    | exc z =>
      unfold gsCons at h
      dsimp only at h
      rw [hf] at h
      exact h.elim
    | stuck =>
      unfold gsCons at h
      dsimp only at h
      rw [hf] at h
      exact h.elim
@[simp] def gTupD (n : Nat) (r : Gts) : Gt := fun d ρ => match d with
  | .tup ds => if ds.length = n then r ds ρ else .stuck
  | .lst ds => if ds.length = n then r ds ρ else .stuck
  | _ => .stuck
theorem PG.or {X : Cx} {tg : Expr} {t1 t2 : TG} (h1 : PG X tg t1) (h2 : PG X tg t2) : PG X tg (fun v σ H Q => t1 v σ H Q ∨ t2 v σ H Q) :=
  ⟨fun pins s σ H v u Q I r h => h.elim (h1.run pins s σ H v u Q I r) (h2.run pins s σ H v u Q I r)⟩
theorem sg_tup {is : List Nat} {r : Gts} {k n : Nat} (h : SGs c es is r) (hn : ∀ env, (assignEach es env).length = n := by intro _; rfl) (hst : ∀ env, (assignEach es env).findIdx? (·.1) = none := by intro _; rfl) : SG c (.Tuple es k pos) is (gTupD n r) := by
  obtain ⟨t, kk, ad⟩ := h
  refine ⟨fun v σ H Q => gTup c.K n t v σ H Q ∨ gLst c.K n t v σ H Q, fun W X G => by rw [← G.K]; exact PG.or (pg_tup G.calm (kk W X G) (hn X.env) (hst X.env)) (pg_lst G.calm (kk W X G) (hn X.env) (hst X.env)), fun g B H ρ σ v d Q m rr hh => ?_⟩
  cases d with
  | tup ds =>
    obtain ⟨a, vs, rfl, q1, q2⟩ := rr
    unfold gTupD at hh
    dsimp only at hh
    split at hh
    · rename_i hz
      exact .inl ⟨a, vs, rfl, Same.seqT m.sub q1, by rw [← q2.length]; exact hz, ad g B H ρ σ vs ds Q m q2 hh⟩
    · exact hh.elim
  | lst ds =>
    obtain ⟨a, vs, rfl, q1, q2⟩ := rr
    unfold gTupD at hh
    dsimp only at hh
    split at hh
    · rename_i hz
      exact .inr ⟨a, vs, rfl, m.sub.seq q1, by rw [← q2.length]; exact hz, ad g B H ρ σ vs ds Q m q2 hh⟩
    · exact hh.elim
  | _ => exact hh.elim
end

/-! ## 8. Statements -/
def RtOk (K : PySem.W.Frag) (g : Gd) (Q : VK) : Sl → Prop
  | .sh d => ∀ v B' H', Ext g.B g.H B' H' → Rep K B' d v → Q v H'
  | .ow ds => ∀ p vs B' H', Ext g.B g.H B' H' → H' p = some (.lst vs) → B' p = none → g.H p = none → Reps K B' ds vs → Q (.ref p) H'
  | .bo _ => False
  | .lt _ _ => False
def PoS (c : Cf) (W : WX) (g : Gd) (B : Hp) (E : Ends) : Fl → Prop
  | .nx ρ' => ∀ σ' B' H', Same B B' → Mt c.K g B' H' ρ' σ' → E.nx σ' H'
  | .bk ρ' => ∀ σ' B' H', Same B B' → Mt c.K g B' H' ρ' σ' → E.bk σ' H'
  | .ct ρ' => ∀ σ' B' H', Same B B' → Mt c.K g B' H' ρ' σ' → E.ct σ' H'
  | .rt s => RtOk c.K g E.rt s
  | .exc x ρ' => ∀ (C : Addr) σ' B' H', c.mg x = some (.ref C) → Same B B' → Mt c.K g B' H' ρ' σ' → W (.ref C) none σ' H'
  | .stuck => False
def AdS (c : Cf) (W : WX) (t : TS) (f : Sv) : Prop := ∀ (g : Gd) (B H : Hp) (ρ : En) (σ : St) (E : Ends), Mt c.K g B H ρ σ → PoS c W g B E (f ρ) → t E σ H
def SS (c : Cf) (W : WX) (st : Stmt) (f : Sv) : Prop := ∃ t : TS, (∀ X, GX c W X → PS X st t) ∧ AdS c W t f
def SSs (c : Cf) (W : WX) (st : List Stmt) (f : Sv) : Prop := ∃ t : TS, (∀ X, GX c W X → PSs X st t) ∧ AdS c W t f
section
variable {c : Cf} {W : WX} {a b e tg : Expr} {es : List Expr} {f g h : Ev} {p q : Et} {pos pos' : Pos} {st : Stmt} {sts : List Stmt} {u v : Sv}
theorem PoS.mono {G : Gd} {B B' : Hp} {E : Ends} {r : Fl} (h : PoS c W G B E r) (s : Same B B') : PoS c W G B' E r := by
  cases r with
  | nx ρ => exact fun σ' B2 H2 s2 => h σ' B2 H2 (s.trans s2)
  | bk ρ => exact fun σ' B2 H2 s2 => h σ' B2 H2 (s.trans s2)
  | ct ρ => exact fun σ' B2 H2 s2 => h σ' B2 H2 (s.trans s2)
  | rt s => exact h
  | exc x ρ => exact fun C σ' B2 H2 m s2 => h C σ' B2 H2 m (s.trans s2)
  | stuck => exact h
/-- an expression's result, then a statement's end -/
def thnS {α : Type} : R α → En → (α → Fl) → Fl
  | .ok a, _, k => k a
  | .exc x, ρ, _ => .exc x ρ
  | .stuck, _, _ => .stuck
@[simp] theorem thnS_ok {α : Type} {a : α} {ρ : En} {k : α → Fl} : thnS (.ok a) ρ k = k a := rfl
@[simp] theorem thnS_exc {α : Type} {c : Str} {ρ : En} {k : α → Fl} : thnS (.exc c) ρ k = .exc c ρ := rfl
@[simp] theorem thnS_stuck {α : Type} {ρ : En} {k : α → Fl} : thnS .stuck ρ k = .stuck := rfl
@[simp] theorem thnS_ite {α : Type} {q : Prop} [Decidable q] {a b : R α} {ρ : En} {k : α → Fl} : thnS (if q then a else b) ρ k = if q then thnS a ρ k else thnS b ρ k := by split <;> rfl
theorem Po.thn {α : Type} {G : Gd} {B H : Hp} {ρ : En} {σ : St} {E : Ends} {r : R α} {k : α → Fl} (m : Mt c.K G B H ρ σ) (h : PoS c W G B E (thnS r ρ k)) : Po c W σ B H r fun a B' _ => PoS c W G B' E (k a) := by
  cases r with
  | ok a => exact fun B' H' x => PoS.mono (r := k a) h x.b
  | exc x => exact fun C B' H' mg e => h C σ B' H' mg e.b (m.go e)
  | stuck => exact h
@[simp] def sNx : Sv := fun ρ => .nx ρ
@[simp] def sSeq (u v : Sv) : Sv := fun ρ => (u ρ).thn v
theorem sss_nil : SSs c W [] sNx := ⟨_, fun _ _ => pss_nil, fun G B H ρ σ E m h => h σ B H (Same.refl _) m⟩
theorem ad_seq {t s : TS} (h1 : AdS c W t u) (h2 : AdS c W s v) : AdS c W (tSeq t s) (sSeq u v) := by
  intro G B H ρ σ E m h
  refine h1 G B H ρ σ _ m ?_
  unfold sSeq at h
  cases hu : u ρ with
  | nx ρ' =>
    rw [hu] at h
    exact fun σ' B' H' s m' => h2 G B' H' ρ' σ' E m' (h.mono s)
  | bk ρ' => rw [hu] at h; exact h
  | ct ρ' => rw [hu] at h; exact h
  | rt s => rw [hu] at h; exact h
  | exc x ρ' => rw [hu] at h; exact h
  | stuck => rw [hu] at h; exact h
theorem sss_cons (h1 : SS c W st u) (h2 : SSs c W sts v) : SSs c W (st :: sts) (sSeq u v) := by
  obtain ⟨t, k, ad⟩ := h1
  obtain ⟨t2, k2, ad2⟩ := h2
  exact ⟨_, fun X G => pss_cons (k X G) (k2 X G), ad_seq ad ad2⟩
theorem sss_one (h1 : SS c W st u) : SSs c W [st] u := by
  obtain ⟨t, k, ad⟩ := h1
  exact ⟨_, fun X G => pss_one (k X G), ad⟩
/-! ghosts: a slot is forgotten; a list of one's own is shared from now on -/
@[simp] def sKill (i : Nat) (u : Sv) : Sv := fun ρ => u (ρ.set i none)
theorem sss_kill (i : Nat) (h : SSs c W sts u) : SSs c W sts (sKill i u) := by
  obtain ⟨t, k, ad⟩ := h
  exact ⟨t, k, fun G B H ρ σ E m hh => ad G B H _ σ E (m.kill i σ rfl fun _ _ => rfl) hh⟩
@[simp] def frz (i : Nat) (ρ : En) : En := match ρ[i]? with
  | some (some (.ow ds)) => ρ.set i (some (.sh (.lst ds)))
  | _ => ρ
@[simp] def sFrz (i : Nat) (u : Sv) : Sv := fun ρ => u (frz i ρ)
theorem sss_frz (i : Nat) (h : SSs c W sts u) : SSs c W sts (sFrz i u) := by
  obtain ⟨t, k, ad⟩ := h
  refine ⟨t, k, fun G B H ρ σ E m hh => ?_⟩
  unfold sFrz frz at hh
  split at hh
  · rename_i ds e
    obtain ⟨B', s, m'⟩ := m.frz e
    exact ad G B' H _ σ E m' (hh.mono s)
  · exact ad G B H ρ σ E m hh
/-! assignments -/
@[simp] def sAsg (f : Ev) (g : Gt) : Sv := fun ρ => thnS (f ρ) ρ fun d => (g d ρ).fl .nx
theorem ad_asg {te : TE} {t : TG} {is : List Nat} {gt : Gt} (ha : AdE c W te f) (hg : ∀ (g : Gd) (B H : Hp) (ρ : En) (σ : St) (v : V) (d : D) (Q : St → Hp → Prop), Mt c.K g B H ρ σ → Rep c.K B d v → PoG c.K g B H σ is (gt d ρ) Q → t v σ H Q) : AdS c W (tAsg te t) (sAsg f gt) := by
  intro G B H ρ σ E m h
  refine ha G B H ρ σ _ m ((Po.thn m h).imp fun d B1 H1 e1 h1 v r1 => ?_)
  refine hg G B1 H1 ρ σ v d _ (m.go e1) r1 ?_
  cases hgd : gt d ρ with
  | ok ρ' =>
    rw [hgd] at h1
    exact fun σ' m' _ _ => h1 σ' B1 H1 (Same.refl _) m'
  | exc z => rw [hgd] at h1; exact h1.elim
  | stuck => rw [hgd] at h1; exact h1.elim
theorem ss_set {i : Nat} {x : Str} (hN : c.N[i]? = some x) (hx : LocC c x) (he : SE c W e f) (hs : ∀ env, swapsWith e (some (.Name x pos')) pos.line env = pure false := by intro _; rfl) : SS c W (.Assign [.Name x pos'] e pos) (sAsg f (gSet i)) := by
  obtain ⟨t, k, ad⟩ := he
  refine ⟨_, fun X G => ps_set G.nd (by rw [G.N]; exact hN) (by rw [G.sc]; exact hx.loc) (k X G) (hs X.env) (loc_fn G hx), ad_asg (t := gName i) (is := [i]) ad fun g B H ρ σ v d Q m r h => ?_⟩
  exact h _ (m.setSh r) (List.length_set ..) fun j hj => List.getElem?_set_ne (fun e => hj (by simp [e]))
/-- a new list, under a name -/
@[simp] def sSetF (i : Nat) (f : Es) : Sv := fun ρ => thnS (f ρ) ρ fun ds => .nx (ρ.set i (some (.ow ds)))
theorem own_new {G : Gd} {B H B1 H1 : Hp} {ρ : En} {σ : St} {ds : List D} {p : Addr} {vs : List V} (m : Mt c.K G B H ρ σ) (e1 : Ext B H B1 H1) (q1 : H1 p = some (.lst vs)) (q2 : B1 p = none) (q3 : H p = none) (q4 : Reps c.K B1 ds vs) (i : Nat) :
    Mt c.K G B1 H1 (ρ.set i (some (.ow ds))) (σ.set i (some (.ref p))) := by
  refine (m.go e1).set (s := .ow ds) ⟨p, vs, rfl, q1, q2, m.ext.h.free q3, q4⟩ fun _ j t hj ej oj e => ?_
  obtain ⟨w, h1, h2⟩ := m.sl j t ej
  rw [e] at h1
  cases h1
  cases t with
  | ow es =>
    obtain ⟨a, us, e2, q5, _⟩ := h2
    cases e2
    rw [q3] at q5
    cases q5
  | _ => cases oj
theorem ss_setF {i : Nat} {x : Str} {f : Es} (hN : c.N[i]? = some x) (hx : LocC c x) (he : SF c W e f) (hs : ∀ env, swapsWith e (some (.Name x pos')) pos.line env = pure false := by intro _; rfl) : SS c W (.Assign [.Name x pos'] e pos) (sSetF i f) := by
  obtain ⟨t, k, ad⟩ := he
  refine ⟨_, fun X G => ps_set G.nd (by rw [G.N]; exact hN) (by rw [G.sc]; exact hx.loc) (k X G) (hs X.env) (loc_fn G hx), fun G B H ρ σ E m h => ?_⟩
  refine ad G B H ρ σ _ m ((Po.thn m h).imp fun ds B1 H1 e1 h1 p vs q1 q2 q3 q4 => ?_)
  exact h1 _ B1 H1 (Same.refl _) (own_new m e1 q1 q2 q3 q4 i)
/-- a, b, c = e -/
theorem ss_unp {is : List Nat} {gt : Gt} (he : SE c W e f) (hg : SG c tg is gt) (hs : ∀ env, swapsWithSole [tg] e pos.line env = pure false := by intro _; rfl) (hw : ∀ env, swappedStores [tg] e env = pure none := by intro _; rfl) (h1 : ∀ env, (assignEach [tg] env).map (·.2) = [assign tg env] := by intro _; rfl) :
    SS c W (.Assign [tg] e pos) (sAsg f gt) := by
  obtain ⟨t, k, ad⟩ := he
  obtain ⟨t2, k2, ad2⟩ := hg
  exact ⟨_, fun X G => ps_asg (k X G) (k2 W X G) (hs X.env) (hw X.env) (h1 X.env), ad_asg ad ad2⟩
/-- a, b = x, y (two names that are exchanged) -/
@[simp] def sPar (i j : Nat) (f g : Ev) : Sv := fun ρ => thnS (f ρ) ρ fun x => thnS (g ρ) ρ fun y => .nx ((ρ.set i (some (.sh x))).set j (some (.sh y)))
theorem ss_par {i j : Nat} {x y : Str} {px py pt : Pos} {kt k2 : Nat} {pt2 : Pos} (hi : c.N[i]? = some x) (hj : c.N[j]? = some y) (hij : i ≠ j) (hx : c.sc.names.lookup x = some .local) (hy : c.sc.names.lookup y = some .local)
    (ha : SE c W a f) (hb : SE c W b g) (hw : ∀ env : Env, env.scope = c.sc → swappedStores [.Tuple [.Name x px, .Name y py] kt pt] (.Tuple [a, b] k2 pt2) env = pure (some [x, y])) (h1 : ∀ env, starEach [a, b] env = (false, eval a env) :: starEach [b] env := by intro _; rfl) (h2 : ∀ env, starEach [b] env = (false, eval b env) :: starEach [] env := by intro _; rfl)
    (hs : ∀ env, swapsWithSole [.Tuple [.Name x px, .Name y py] kt pt] (.Tuple [a, b] k2 pt2) pos.line env = pure false := by intro _; rfl) :
    SS c W (.Assign [.Tuple [.Name x px, .Name y py] kt pt] (.Tuple [a, b] k2 pt2) pos) (sPar i j f g) := by
  obtain ⟨t, k, ad⟩ := ha
  obtain ⟨t2, kk, ad2⟩ := hb
  refine ⟨_, fun X G => ps_par (ta := tCons t (tCons t2 tNil)) G.calm G.nd (by rw [G.N]; exact hi) (by rw [G.N]; exact hj) hij (by rw [G.sc]; exact hx) (by rw [G.sc]; exact hy) (pa_cons (k X G) (pa_cons (kk X G) pa_nil (h2 X.env)) (h1 X.env)) (hw X.env G.sc) (hs X.env), fun G B H ρ σ E m h => ?_⟩
  refine ad G B H ρ σ _ m ((Po.thn m h).imp fun d B1 H1 e1 h1 v r1 => ?_)
  refine ad2 G B1 H1 ρ σ _ (m.go e1) ((Po.thn (m.go e1) h1).imp fun d2 B2 H2 e2 h2 v2 r2 => ?_)
  exact ⟨v, v2, rfl, h2 _ B2 H2 (Same.refl _) ((((m.go e1).go e2).setSh (Rep.mono e2.b _ _ r1)).setSh r2)⟩
/-- x op= e -/
@[simp] def sAug (i : Nat) (o : D → D → R D) (f : Ev) : Sv := fun ρ => thnS (eLook i ρ) ρ fun x => thnS (f ρ) ρ fun y => thnS (o x y) ρ fun z => .nx (ρ.set i (some (.sh z)))
theorem ss_aug {i : Nat} {x : Str} {op : Operator} {r : R2} {o : D → D → R D} (hN : c.N[i]? = some x) (hx : LocC c x) (ho : ∀ X, GX c W X → OpR X (inplaceOp op) r) (hr : Ad2 c W r o) (he : SB c W e f) : SS c W (.AugAssign (.Name x pos') op e pos) (sAug i o f) := by
  obtain ⟨t, k, ad⟩ := he
  refine ⟨_, fun X G => ps_aug G.nd (by rw [G.N]; exact hN) (by rw [G.sc]; exact hx.loc) (k X G) (ho X G) (loc_fn G hx), fun G B H ρ σ E m h => ?_⟩
  have key : ∀ (d : D) (v : V), eLook i ρ = .ok d → σ[i]? = some (some v) → RepT c.K B H d v → tAug i t r E σ H := fun d v e1 e2 e3 => by
    unfold sAug at h
    rw [e1] at h
    have h' : PoS c W G B E (thnS (f ρ) ρ fun y => thnS (o d y) ρ fun z => .nx (ρ.set i (some (.sh z)))) := h
    refine ⟨v, e2, ad G B H ρ σ _ m ((Po.thn m h').imp fun y B1 H1 x1 h1 w r1 => ?_)⟩
    refine hr σ B1 H1 d y v w _ x1.in_ (e3.go x1) r1 ((Po.thn (m.go x1) h1).imp fun z B2 H2 x2 h2 vz r2 => ?_)
    exact h2 _ B2 H2 (Same.refl _) (((m.go x1).go x2).setSh r2)
  cases e : ρ[i]? with
  | none => unfold sAug eLook at h; rw [e] at h; exact h.elim
  | some s =>
    cases s with
    | none => unfold sAug eLook at h; rw [e] at h; exact h.elim
    | some s =>
      obtain ⟨v, h1, h2⟩ := m.sl i _ e
      cases s with
      | sh d => exact key d v (by unfold eLook; rw [e]) h1 (Rep.t m.sub h2)
      | ow ds =>
        obtain ⟨p, vs, rfl, q1, q2, q3, q4⟩ := h2
        exact key (.lst ds) _ (by unfold eLook; rw [e]) h1 ⟨p, vs, rfl, SqL.of q1, q4⟩
      | bo ds =>
        obtain ⟨p, vs, rfl, q1, q2⟩ := h2
        exact key (.lst ds) _ (by unfold eLook; rw [e]) h1 ⟨p, vs, rfl, m.ext.h.seq q1, q2⟩
      | lt k ds =>
        obtain ⟨p, vs, rfl, q0, q1, q2⟩ := h2
        exact key (.lst ds) _ (by unfold eLook; rw [e]) h1 ⟨p, vs, rfl, m.ext.h.seq q1, q2⟩
theorem ss_augAdd {i : Nat} {x : Str} (hN : c.N[i]? = some x) (hx : LocC c x) (he : SB c W e f) : SS c W (.AugAssign (.Name x pos') .Add e pos) (sAug i oAdd f) := by
  refine ss_aug hN hx (fun X G => OpR.or iop_add iop_add_str) (fun σ B H x y v u Q s r1 r2 h => ?_) he
  cases x with
  | int i => cases y with
    | int j => exact .inl ⟨i, j, r1, r2, ok_refl h s _ rfl⟩
    | _ => exact h.elim
  | str i => cases y with
    | str j =>
      unfold oAdd at h
      dsimp only at h
      split at h
      · rename_i hz
        rw [szL_eq] at hz
        exact .inr ⟨i, j, r1, r2, hz, ok_refl h s _ rfl⟩
      · exact h.elim
    | _ => exact h.elim
  | _ => exact h.elim
/-- x.append(e), x a list of one's own -/
@[simp] noncomputable def sApp (i : Nat) (f : Ev) : Sv := fun ρ => match ρ[i]? with
  | some (some (.ow ds)) => thnS (f ρ) ρ fun d => if ds.length < szL then .nx (ρ.set i (some (.ow (ds ++ [d])))) else .stuck
  | _ => .stuck
theorem ss_app {i : Nat} {x : Str} {px apos cpos : Pos} (hN : c.N[i]? = some x) (hv : Vis c.sc x) (he : SE c W e f) (hd : (x == ("__debug__" : Str)) = false := by decide) (hcd : (x == ("__classdict__" : Str)) = false := by decide)
    (hbase : ∀ env, attributeBase (.Name x px) "append" env (eval (.Name x px) env) = eval (.Name x px) env := by intro _; rfl)
    (hfew : ∀ env, ((backTo cpos (starEach [e] env)).all (fun x => !x.1) && (backToKw cpos (keywordEach [] env)).all (fun x => x.1.isSome) && decide ([e].length + ([] : List Keyword).length + (if ([] : List Keyword).isEmpty then 0 else 1) < 30)) = true := by intro _; rfl)
    (hline : (apos.endLine == cpos.line) = true := by rfl) (hs : ∀ env, starEach [e] env = (false, eval e env) :: starEach [] env := by intro _; rfl) :
    SS c W (.Expr (.Call (.Attribute (.Name x px) "append" apos) [e] [] cpos) pos) (sApp i f) := by
  obtain ⟨t, k, ad⟩ := he
  refine ⟨tDrop (tBM c.K "list" rAppend (tVar i) (tCons t tNil)), fun X G => ?_, fun G B H ρ σ E m h => ?_⟩
  · rw [← G.K]
    exact ps_expr (pe_bm PySem.F.plainAttrs_list PySem.F.slot_list_append PySem.F.type_list_append mt_append (pe_var (by rw [G.N]; exact hN) (by rw [G.sc]; exact hv) hd hcd) (pa_cons (k X G) pa_nil (hs X.env)) (hbase X.env) (hfew X.env) hline (hs X.env) rfl) rfl
  · unfold sApp at h
    split at h
    · rename_i ds hds
      obtain ⟨v, h1, p, vs, rfl, q1, q2, q3, q4⟩ := m.sl i _ hds
      refine ⟨.ref p, h1, .inl ⟨rfl, vs, SqL.of q1⟩, ad G B H ρ σ _ m ((Po.thn m h).imp fun d B1 H1 e1 h2 y r1 => ?_)⟩
      split at h2
      · rename_i hz
        rw [szL_eq] at hz
        have q1' : H1 p = some (.lst vs) := e1.h _ _ q1
        refine ⟨p, vs, y, rfl, rfl, q1', by rw [← q4.length]; exact hz, ?_⟩
        exact h2 σ B1 _ (Same.refl _) ((m.go e1).own (vs := vs) hds h1 ((Reps.mono e1.b _ _ q4).append (Reps.one r1)))
      · exact h2.elim
    · exact h.elim
/-- x[i] = e, x a list of one's own -/
@[simp] def sPut (i : Nat) (f g : Ev) : Sv := fun ρ => match ρ[i]? with
  | some (some (.ow ds)) => thnS (g ρ) ρ fun d => thnS (f ρ) ρ fun k => match k with
    | .int k => (match ixN ds.length k with
      | some j => .nx (ρ.set i (some (.ow (ds.set j d))))
      | none => .stuck)
    | _ => .stuck
  | _ => .stuck
theorem ss_put {i : Nat} {x : Str} {k : Expr} {px tpos : Pos} (hN : c.N[i]? = some x) (hv : Vis c.sc x) (hk : SB c W k f) (he : SE c W e g) (hd : (x == ("__debug__" : Str)) = false := by decide) (hcd : (x == ("__classdict__" : Str)) = false := by decide)
    (ha : ∀ env v, assign (.Subscript (.Name x px) k tpos) env v = (do
      let ov ← holding [v] (eval (.Name x px) env)
      let iv ← holding [v, ov] (eval k env)
      standAt tpos
      holding [v, ov, iv] (setItem ov iv v)
      release [v, ov, iv] []) := by intro _ _; rfl)
    (hs : ∀ env, swapsWithSole [.Subscript (.Name x px) k tpos] e pos.line env = pure false := by intro _; rfl) (hw : ∀ env, swappedStores [.Subscript (.Name x px) k tpos] e env = pure none := by intro _; rfl) (h1 : ∀ env, (assignEach [.Subscript (.Name x px) k tpos] env).map (·.2) = [assign (.Subscript (.Name x px) k tpos) env] := by intro _; rfl) :
    SS c W (.Assign [.Subscript (.Name x px) k tpos] e pos) (sPut i f g) := by
  obtain ⟨t, kk, ad⟩ := hk
  obtain ⟨t2, k2, ad2⟩ := he
  refine ⟨_, fun X G => ps_asg (k2 X G) (pg_sub (pe_var (by rw [G.N]; exact hN) (by rw [G.sc]; exact hv) hd hcd) (kk X G) set_list (ha X.env)) (hs X.env) (hw X.env) (h1 X.env), fun G B H ρ σ E m h => ?_⟩
  unfold sPut at h
  split at h
  · rename_i ds hds
    obtain ⟨v, e0, p, vs, rfl, q1, q2, q3, q4⟩ := m.sl i _ hds
    refine ad2 G B H ρ σ _ m ((Po.thn m h).imp fun d B1 H1 e1 h2 y r1 => ?_)
    refine ⟨.ref p, e0, ad G B1 H1 ρ σ _ (m.go e1) ((Po.thn (m.go e1) h2).imp fun kd B2 H2 e2 h3 kv r2 => ?_)⟩
    cases kd with
    | int n =>
      dsimp only at h3
      split at h3
      · rename_i j hj
        have q1' : H2 p = some (.lst vs) := e2.h _ _ (e1.h _ _ q1)
        refine ⟨p, vs, n, j, rfl, r2, q1', by rw [← q4.length]; exact hj, ?_⟩
        exact h3 σ B2 _ (Same.refl _) (((m.go e1).go e2).own (vs := vs) hds e0 ((Reps.mono (e1.b.trans e2.b) _ _ q4).set j (Rep.mono e2.b _ _ r1)))
      · exact h3.elim
    | _ => exact h3.elim
  · exact h.elim

/-! if, return, raise -/
@[simp] def sIf (p : Et) (u v : Sv) : Sv := fun ρ => thnS (p ρ) ρ fun b => if b = true then u ρ else v ρ
theorem ss_if {k : Expr} {s1 s2 : List Stmt} (hk : ST c W k p) (h1 : SSs c W s1 u) (h2 : SSs c W s2 v) : SS c W (.If k s1 s2 pos) (sIf p u v) := by
  obtain ⟨t0, k0, a0⟩ := hk
  obtain ⟨t1, k1, a1⟩ := h1
  obtain ⟨t2, k2, a2⟩ := h2
  refine ⟨_, fun X G => ps_if (k0 X G) (k1 X G) (k2 X G), fun G B H ρ σ E m h => ?_⟩
  refine a0 G B H ρ σ _ m ((Po.thn m h).imp fun b B1 H1 e1 h1 => ?_)
  cases b with
  | true =>
    rw [if_pos rfl]
    exact a1 G B1 H1 ρ σ E (m.go e1) h1
  | false =>
    rw [if_neg Bool.false_ne_true]
    exact a2 G B1 H1 ρ σ E (m.go e1) h1
@[simp] def sRet (f : Ev) : Sv := fun ρ => thnS (f ρ) ρ fun d => .rt (.sh d)
theorem ss_ret (he : SE c W e f) : SS c W (.Return (some e) pos) (sRet f) := by
  obtain ⟨t, k, ad⟩ := he
  refine ⟨_, fun X G => ps_ret (k X G), fun G B H ρ σ E m h => ?_⟩
  exact ad G B H ρ σ _ m ((Po.thn m h).imp fun d B1 H1 e1 h1 v r1 => h1 v B1 H1 (m.go e1).ext r1)
@[simp] def sRetF (f : Es) : Sv := fun ρ => thnS (f ρ) ρ fun ds => .rt (.ow ds)
theorem ss_retF {f : Es} (he : SF c W e f) : SS c W (.Return (some e) pos) (sRetF f) := by
  obtain ⟨t, k, ad⟩ := he
  refine ⟨_, fun X G => ps_ret (k X G), fun G B H ρ σ E m h => ?_⟩
  exact ad G B H ρ σ _ m ((Po.thn m h).imp fun ds B1 H1 e1 h1 p vs q1 q2 q3 q4 => h1 p vs B1 H1 (m.go e1).ext q1 q2 (m.ext.h.free q3) q4)
@[simp] def sRetO (i : Nat) : Sv := fun ρ => match ρ[i]? with
  | some (some (.ow ds)) => .rt (.ow ds)
  | _ => .stuck
theorem ss_retO {i : Nat} {x : Str} {px : Pos} (hN : c.N[i]? = some x) (hv : Vis c.sc x) (hd : (x == ("__debug__" : Str)) = false := by decide) (hcd : (x == ("__classdict__" : Str)) = false := by decide) : SS c W (.Return (some (.Name x px)) pos) (sRetO i) := by
  refine ⟨_, fun X G => ps_ret (pe_var (by rw [G.N]; exact hN) (by rw [G.sc]; exact hv) hd hcd), fun G B H ρ σ E m h => ?_⟩
  unfold sRetO at h
  split at h
  · rename_i ds hds
    obtain ⟨v, e0, p, vs, rfl, q1, q2, q3, q4⟩ := m.sl i _ hds
    exact ⟨_, e0, h p vs B H m.ext q1 q2 q3 q4⟩
  · exact h.elim
@[simp] def sRetN : Sv := fun _ => .rt (.sh .non)
theorem ss_retN : SS c W (.Return none pos) sRetN := ⟨_, fun _ _ => ps_retN, fun G B H ρ σ E m h => h _ B H m.ext rfl⟩
theorem ss_pass : SS c W (.Pass pos) sNx := ⟨_, fun _ _ => ps_pass, fun G B H ρ σ E m h => h σ B H (Same.refl _) m⟩
/-- an expression whose value is dropped -/
@[simp] def sDrop (f : Ev) : Sv := fun ρ => thnS (f ρ) ρ fun _ => .nx ρ
theorem ss_drop (he : SE c W e f) (hs : ∀ env, swapsWith e none pos.line env = pure false := by intro _; rfl) : SS c W (.Expr e pos) (sDrop f) := by
  obtain ⟨t, k, ad⟩ := he
  refine ⟨_, fun X G => ps_expr (k X G) (hs X.env), fun G B H ρ σ E m h => ?_⟩
  exact ad G B H ρ σ _ m ((Po.thn m h).imp fun d B1 H1 e1 h1 v r1 => h1 σ B1 H1 (Same.refl _) (m.go e1))
/-- an own error's class -/
structure Xc (c : Cf) (x : Str) : Prop where
  ex : ∃ C : Addr, c.mg x = some (.ref C) ∧ PySem.W.excIn c.K C [.type "ValueError", .type "Exception", .type "BaseException", .type "object"] "ValueError.__new__" = true ∧ PySem.W.keepIn c.K (.ref C) = true ∧
    PySem.W.subIn c.K (.ref C) (.type "BaseException") = some true ∧ PySem.W.typeIn c.K (.ref C) = some (.type "type")
@[simp] def sRaise (x : Str) : Sv := fun ρ => .exc x ρ
theorem ss_raise {x m : Str} {j : Nat} {p p2 pc : Pos} (hx : Xc c x) (hg : c.sc.names.lookup x = some .globalImplicit) (hdb : (x == ("__debug__" : Str)) = false := by decide) : SS c W (.Raise (some (.Call (.Name x p) [.Constant (.str m) j p2] [] pc)) none pos) (sRaise x) := by
  obtain ⟨C, g1, g2, g3, g4, g5⟩ := hx.ex
  refine ⟨_, fun X G => ps_raise G.calm G.tk (pmk_own (C := C) PySem.F.excBase_ValueError (by rw [G.K]; exact g2) (by rw [G.mg]; exact g1) (by rw [G.K]; exact g3) (raises_own (by rw [G.K]; exact g4) (by rw [G.K]; exact g5)) (by show X.env.scope.names.lookup x = _; rw [G.sc]; exact hg) hdb), fun G B H ρ σ E m h => ?_⟩
  exact h C σ B H g1 (Same.refl _) m

/-! loops -/
@[simp] def forR (gt : Gt) (u : Sv) : List D → Sv
  | [], ρ => .nx ρ
  | d :: ds, ρ => (gt d ρ).fl fun ρ1 => (u ρ1).turn (forR gt u ds)
noncomputable def sFor (f : Es) (gt : Gt) (u : Sv) : Sv := hid fun ρ => thnS (f ρ) ρ fun items => forR gt u items ρ
theorem sFor_eq {f : Es} {gt : Gt} {u : Sv} : sFor f gt u = fun ρ => thnS (f ρ) ρ fun items => forR gt u items ρ := hid_eq _
theorem ss_for {is : List Nat} {gt : Gt} {f : Es} {body : List Stmt} (hi : SI c W tg e f) (hg : SG c tg is gt) (hb : SSs c W body u) (hs : ∀ env x, foldedSetIterable e env x = pure x := by intro _ _; rfl) : SS c W (.For tg e body [] pos) (sFor f gt u) := by
  obtain ⟨wi, k0, a0⟩ := hi
  obtain ⟨tg', k1, a1⟩ := hg
  obtain ⟨tb, k2, a2⟩ := hb
  refine ⟨_, fun X G => ps_for G.po G.calm (k0 X G) (k1 W X G) (k2 X G) (hs X.env), fun G B H ρ σ E m h => ?_⟩
  rw [sFor_eq] at h
  refine a0 G B H ρ σ _ m ((Po.thn m h).imp fun items B1 H1 e1 h1 J wk => ?_)
  refine ⟨fun i n σ' H' => ∃ ρ' B', Same B1 B' ∧ Mt c.K G B' H' ρ' σ' ∧ n = items.length - i ∧ i ≤ items.length ∧ PoS c W G B' E (forR gt u (items.drop i) ρ'), ⟨items.length, ρ, B1, Same.refl _, m.go e1, rfl, Nat.zero_le _, h1⟩, fun i n σ' H' hW => ?_⟩
  obtain ⟨ρ', B', s', m', rfl, hi, po⟩ := hW
  obtain ⟨w1, w2⟩ := wk B' H' i s' m'.ext
  by_cases hlt : i < items.length
  · have hd := List.drop_eq_getElem_cons hlt
    rw [hd] at po
    obtain ⟨go, yld⟩ := w1 items[i] (List.getElem?_eq_getElem hlt)
    refine .inr ⟨go, fun σ2 H2 => ∃ ρ2 B2, Same B1 B2 ∧ Mt c.K G B2 H2 ρ2 σ2 ∧ PoS c W G B2 E (forR gt u (items.drop (i + 1)) ρ2), fun σ2 H2 ⟨ρ2, B2, z1, z2, z3⟩ => ⟨items.length - (i + 1), by omega, ρ2, B2, z1, z2, rfl, hlt, z3⟩, fun x H2 hy => ?_⟩
    obtain ⟨B2, x2, r2⟩ := yld x H2 hy
    have m2 := m'.go x2
    refine a1 G B2 H2 ρ' σ' x items[i] _ m2 r2 ?_
    unfold forR at po
    cases hgt : gt items[i] ρ' with
    | ok ρ1 =>
      rw [hgt] at po
      intro σ1 m1 _ _
      refine a2 G B2 H2 ρ1 σ1 _ m1 ?_
      unfold R.fl at po
      dsimp only at po
      have s2 : Same B1 B2 := s'.trans x2.b
      cases hu : u ρ1 with
      | nx ρ3 =>
        rw [hu] at po
        exact fun σ3 B3 H3 s3 m3 => ⟨ρ3, B3, s2.trans s3, m3, po.mono (x2.b.trans s3)⟩
      | ct ρ3 =>
        rw [hu] at po
        exact fun σ3 B3 H3 s3 m3 => ⟨ρ3, B3, s2.trans s3, m3, po.mono (x2.b.trans s3)⟩
      | bk ρ3 =>
        rw [hu] at po
        exact fun σ3 B3 H3 s3 m3 => po σ3 B3 H3 (x2.b.trans s3) m3
      | rt s =>
        rw [hu] at po
        exact po
      | exc z ρ3 =>
        rw [hu] at po
        exact fun C σ3 B3 H3 g s3 m3 => po C σ3 B3 H3 g (x2.b.trans s3) m3
      | stuck =>
        rw [hu] at po
        exact po.elim
    | exc z => rw [hgt] at po; exact po.elim
    | stuck => rw [hgt] at po; exact po.elim
  · have hn : items.drop i = [] := List.drop_eq_nil_of_le (by omega)
    rw [hn] at po
    exact .inl ⟨w2 (by omega), po σ' B' H' (Same.refl _) m'⟩
def whlN (p : Et) (u : Sv) : Nat → En → Option Fl
  | 0, _ => none
  | n + 1, ρ => match p ρ with
    | .ok true => (match u ρ with
      | .nx ρ2 => whlN p u n ρ2
      | .ct ρ2 => whlN p u n ρ2
      | .bk ρ2 => some (.nx ρ2)
      | r => some r)
    | .ok false => some (.nx ρ)
    | .exc x => some (.exc x ρ)
    | .stuck => some .stuck
open Classical in
noncomputable def sWhl (p : Et) (u : Sv) : Sv := fun ρ => if h : ∃ r, ∃ n, whlN p u n ρ = some r then h.choose else .stuck
theorem whlN_det {p : Et} {u : Sv} : ∀ (n m : Nat) (ρ : En) (r r' : Fl), whlN p u n ρ = some r → whlN p u m ρ = some r' → r = r'
  | 0, _, _, _, _, h, _ => by cases h
  | _ + 1, 0, _, _, _, _, h => by cases h
  | n + 1, m + 1, ρ, r, r', h, h' => by
    unfold whlN at h h'
    cases hp : p ρ with
    | ok b =>
      rw [hp] at h h'
      cases b with
      | true =>
        cases hu : u ρ with
        | nx ρ2 => rw [hu] at h h'; exact whlN_det n m ρ2 r r' h h'
        | ct ρ2 => rw [hu] at h h'; exact whlN_det n m ρ2 r r' h h'
        | bk ρ2 => rw [hu] at h h'; exact Option.some.inj (h.symm.trans h')
        | rt s => rw [hu] at h h'; exact Option.some.inj (h.symm.trans h')
        | exc x ρ2 => rw [hu] at h h'; exact Option.some.inj (h.symm.trans h')
        | stuck => rw [hu] at h h'; exact Option.some.inj (h.symm.trans h')
      | false => exact Option.some.inj (h.symm.trans h')
    | exc x => rw [hp] at h h'; exact Option.some.inj (h.symm.trans h')
    | stuck => rw [hp] at h h'; exact Option.some.inj (h.symm.trans h')
theorem sWhl_of {p : Et} {u : Sv} {n : Nat} {ρ : En} {r : Fl} (h : whlN p u n ρ = some r) : sWhl p u ρ = r := by
  have ex : ∃ r, ∃ n, whlN p u n ρ = some r := ⟨r, n, h⟩
  unfold sWhl
  rw [dif_pos ex]
  obtain ⟨m, hm⟩ := ex.choose_spec
  exact whlN_det m n ρ _ _ hm h
theorem sWhl_to {p : Et} {u : Sv} {ρ : En} (h : sWhl p u ρ ≠ .stuck) : ∃ n, whlN p u n ρ = some (sWhl p u ρ) := by
  unfold sWhl at h ⊢
  by_cases ex : ∃ r, ∃ n, whlN p u n ρ = some r
  · rw [dif_pos ex] at h ⊢
    exact ex.choose_spec
  · rw [dif_neg ex] at h
    exact absurd rfl h
theorem sWhl_false {p : Et} {u : Sv} {ρ : En} (h : p ρ = .ok false) : sWhl p u ρ = .nx ρ := sWhl_of (n := 1) (by unfold whlN; rw [h])
theorem sWhl_next {p : Et} {u : Sv} {ρ ρ2 : En} (h : p ρ = .ok true) (h2 : u ρ = .nx ρ2) : sWhl p u ρ = sWhl p u ρ2 := by
  have st : ∀ n, whlN p u (n + 1) ρ = whlN p u n ρ2 := fun n => by
    rw [whlN, h]
    simp only [h2]
  by_cases ex : ∃ r, ∃ n, whlN p u n ρ2 = some r
  · obtain ⟨r, n, hn⟩ := ex
    rw [sWhl_of hn, sWhl_of (n := n + 1) (by rw [st]; exact hn)]
  · have e2 : sWhl p u ρ2 = .stuck := by unfold sWhl; rw [dif_neg ex]
    have e1 : sWhl p u ρ = .stuck := by
      unfold sWhl
      rw [dif_neg]
      rintro ⟨r, n, hn⟩
      cases n with
      | zero => cases hn
      | succ n =>
        rw [st] at hn
        exact ex ⟨r, n, hn⟩
    rw [e1, e2]
theorem sWhl_ret {p : Et} {u : Sv} {ρ : En} {s : Sl} (h : p ρ = .ok true) (h2 : u ρ = .rt s) : sWhl p u ρ = .rt s := sWhl_of (n := 1) (by unfold whlN; rw [h]; simp only [h2])
theorem sWhl_exc {p : Et} {u : Sv} {ρ ρ2 : En} {x : Str} (h : p ρ = .ok true) (h2 : u ρ = .exc x ρ2) : sWhl p u ρ = .exc x ρ2 := sWhl_of (n := 1) (by unfold whlN; rw [h]; simp only [h2])
theorem ss_while {k : Expr} {body : List Stmt} (hk : ST c W k p) (hb : SSs c W body u) : SS c W (.While k body [] pos) (sWhl p u) := by
  obtain ⟨t0, k0, a0⟩ := hk
  obtain ⟨tb, k2, a2⟩ := hb
  refine ⟨_, fun X G => ps_while G.po (k0 X G) (k2 X G), fun G B H ρ σ E m h => ?_⟩
  have ns : sWhl p u ρ ≠ .stuck := fun e => by rw [e] at h; exact h
  obtain ⟨n0, hn0⟩ := sWhl_to ns
  refine ⟨fun n σ' H' => ∃ ρ' B' r, Mt c.K G B' H' ρ' σ' ∧ whlN p u n ρ' = some r ∧ PoS c W G B' E r, ⟨n0, ρ, B, _, m, hn0, h⟩, fun n σ' H' hW => ?_⟩
  obtain ⟨ρ', B', r, m', e', po⟩ := hW
  cases n with
  | zero => cases e'
  | succ n =>
    unfold whlN at e'
    refine a0 G B' H' ρ' σ' _ m' ?_
    cases hp : p ρ' with
    | ok b =>
      rw [hp] at e'
      intro B1 H1 x1
      cases b with
      | true =>
        rw [if_pos rfl]
        refine ⟨fun σ2 H2 => ∃ ρ2 B2 r, Mt c.K G B2 H2 ρ2 σ2 ∧ whlN p u n ρ2 = some r ∧ PoS c W G B2 E r, fun σ2 H2 z => ⟨n, Nat.lt_succ_self n, z⟩, ?_⟩
        refine a2 G B1 H1 ρ' σ' _ (m'.go x1) ?_
        dsimp only at e'
        cases hu : u ρ' with
        | nx ρ2 => rw [hu] at e'; exact fun σ2 B2 H2 s2 m2 => ⟨ρ2, B2, r, m2, e', po.mono (x1.b.trans s2)⟩
        | ct ρ2 => rw [hu] at e'; exact fun σ2 B2 H2 s2 m2 => ⟨ρ2, B2, r, m2, e', po.mono (x1.b.trans s2)⟩
        | bk ρ2 => rw [hu] at e'; cases e'; exact fun σ2 B2 H2 s2 m2 => po σ2 B2 H2 (x1.b.trans s2) m2
        | rt s => rw [hu] at e'; cases e'; exact po
        | exc x ρ2 => rw [hu] at e'; cases e'; exact fun C σ2 B2 H2 g s2 m2 => po C σ2 B2 H2 g (x1.b.trans s2) m2
        | stuck => rw [hu] at e'; cases e'; exact po.elim
      | false =>
        rw [if_neg Bool.false_ne_true]
        cases e'
        exact po σ' B1 H1 x1.b (m'.go x1)
    | exc x =>
      rw [hp] at e'
      cases e'
      exact fun C B1 H1 g x1 => po C σ' B1 H1 g x1.b (m'.go x1)
    | stuck =>
      rw [hp] at e'
      cases e'
      exact po.elim
end
end Mi

namespace Mi
open PySem PySem.Spec L2

/-! ## 9. Defs and their calls -/
/-- a body at the arguments -/
@[simp] def runB (n : Nat) (u : Sv) (args : List Sl) : R Sl := (u (args.map some ++ List.replicate (n - args.length) none)).out
def FPo (K : PySem.W.Frag) (mg : Str → Option Value) (B H : Hp) (Q : VK) (E : XK) : R Sl → Prop
  | .ok s => RtOk K (gd B H) Q s
  | .exc x => ∀ (C : Addr) B' H', mg x = some (.ref C) → Ext B H B' H' → E (.ref C) none H'
  | .stuck => False
/-- what a def promises: its answer by m -/
def FSp (K : PySem.W.Frag) (mg : Str → Option Value) (n : Nat) (m : List Sl → R Sl) : Sp := fun vs H Q E => ∃ B args, Same B H ∧ ArgsOk K B H args vs ∧ args.length = n ∧ FPo K mg B H Q E (m args)
/-- the def of that name answers by m, by at most k calls within one another -/
structure Fn (P : Program) (w : World) (K : PySem.W.Frag) (mg : Str → Option Value) (base : Heap) (k : Nat) (x : Str) (n : Nat) (m : List Sl → R Sl) : Prop where
  ex : ∃ (f : Addr) (fd : FuncData) (ps : List Str), mg x = some (.ref f) ∧ PySem.W.keepIn K (.ref f) = true ∧ Binds K fd ps [] ∧ FnOk P w K mg base (L2.CX P w) k f fd ps (FSp K mg n m)
theorem Fn.mono {P : Program} {w : World} {K : PySem.W.Frag} {mg : Str → Option Value} {base : Heap} {j k : Nat} {x : Str} {n : Nat} {m : List Sl → R Sl} (F : Fn P w K mg base j x n m) (h : j ≤ k) : Fn P w K mg base k x n m := by
  obtain ⟨f, fd, ps, h1, h2, h3, h4⟩ := F.ex
  exact ⟨f, fd, ps, h1, h2, h3, h4.mono h⟩
/-- another function that answers where the first one does, the same -/
theorem Fn.imp {P : Program} {w : World} {K : PySem.W.Frag} {mg : Str → Option Value} {base : Heap} {k : Nat} {x : Str} {n : Nat} {m m' : List Sl → R Sl} (F : Fn P w K mg base k x n m) (h : ∀ args, args.length = n → m' args ≠ .stuck → m args = m' args) : Fn P w K mg base k x n m' := by
  obtain ⟨f, fd, ps, h1, h2, h3, h4⟩ := F.ex
  refine ⟨f, fd, ps, h1, h2, h3, h4.imp fun vs H Q E ⟨B, args, s, a, l, p⟩ => ⟨B, args, s, a, l, ?_⟩⟩
  have ns : m' args ≠ .stuck := fun e => by rw [e] at p; exact p
  rw [h args l ns]
  exact p
/-- the context of a body -/
abbrev cfOf (P : Program) (w : World) (K : PySem.W.Frag) (mg : Str → Option Value) (base : Heap) (N : List Str) (sc : Scope) (k : Nat) : Cf := ⟨P, w, K, mg, base, N, sc, k, true⟩
section
variable {P : Program} {w : World} {K : PySem.W.Frag} {mg : Str → Option Value} {base : Heap}
theorem args_mt {B H : Hp} (s : Same B H) {args : List Sl} {vs : List V} {N : List Str} (h : ArgsOk K B H args vs) : Mt K (gd B H) B H (args.map some ++ List.replicate (N.length - args.length) none) (L2.start N vs) := by
  have get : ∀ {args : List Sl} {vs : List V} {i : Nat} {t : Sl}, ArgsOk K B H args vs → args[i]? = some t → ∃ v, vs[i]? = some v ∧ ArgOk K B H t v := by
    intro args
    induction args with
    | nil => intro vs i t _ e; simp at e
    | cons a as ih =>
      intro vs i t h e
      obtain ⟨v, r, rfl, h1, h2⟩ := h
      cases i with
      | zero => simp at e; subst e; exact ⟨v, rfl, h1⟩
      | succ i =>
        obtain ⟨v', e', h'⟩ := ih (i := i) h2 (by simpa using e)
        exact ⟨v', by simpa using e', h'⟩
  have here : ∀ (i : Nat) (t : Sl), (args.map some ++ List.replicate (N.length - args.length) none)[i]? = some (some t) → args[i]? = some t := fun i t e => by
    by_cases hi : i < args.length
    · rw [List.getElem?_append_left (by simpa using hi), List.getElem?_map] at e
      cases e2 : args[i]? with
      | none => rw [e2] at e; cases e
      | some u => rw [e2] at e; cases e; rfl
    · rw [List.getElem?_append_right (by simpa using Nat.le_of_not_lt hi), List.getElem?_replicate] at e
      split at e <;> cases e
  have noOw : ∀ (i : Nat) (t : Sl), (args.map some ++ List.replicate (N.length - args.length) none)[i]? = some (some t) → isOw t = true → False := fun i t e o => by
    obtain ⟨v, _, h2⟩ := get h (here i t e)
    cases t with
    | ow ds => exact h2
    | _ => cases o
  refine ⟨Ext.refl s, ?_, fun i t e => ?_, fun i j t u v _ e1 _ o _ => (noOw i t e1 o).elim⟩
  · unfold L2.start
    rw [List.length_append, List.length_append, List.length_map, List.length_map, List.length_replicate, List.length_replicate, h.length]
  · obtain ⟨v, h1, h2⟩ := get h (here i t e)
    refine ⟨v, ?_, ?_⟩
    · unfold L2.start
      have hi := (List.getElem?_eq_some_iff.mp h1).1
      rw [List.getElem?_append_left (by simpa using hi), List.getElem?_map, h1]
      rfl
    · cases t with
      | sh d => exact h2
      | bo ds =>
        obtain ⟨a, us, e1, q, r⟩ := h2
        exact ⟨a, us, e1, q, r⟩
      | ow ds => exact h2.elim
      | lt k ds => exact h2.elim
theorem fn_ok {x qual : Str} {st : Stmt} {f : Addr} {fd : FuncData} {N ps : List Str} {k n : Nat} {u : Sv} (F : L2.Fun K x qual st f fd) (S : FnScope N ps (defScope st)) (hn : ps.length = n)
    (body : ∀ W, SSs (cfOf P w K mg base N (defScope st) k) W (defBody st) u) : FnOk P w K mg base (L2.CX P w) (k + 1) f fd ps (FSp K mg n (runB N.length u)) := by
  refine F.okX S (fun vs H Q E ⟨B, args, _, a, l, _⟩ => by rw [← a.length, l, hn]) (fun cdv A outer s H vs Q E hr h => ?_)
  obtain ⟨B, args, sm, a, l, p⟩ := h
  obtain ⟨t, kx, ad⟩ := body (fun cls d _ H => E cls d H)
  refine ⟨t, kx _ ⟨rfl, rfl, rfl, rfl, rfl, rfl, S.nd, rfl, rfl, takes_of rfl rfl rfl rfl, passes_of rfl, hr, fun _ _ => rfl, fun _ => ⟨rfl, rfl⟩⟩, ?_⟩
  refine ad (gd B H) B H _ _ _ (args_mt (N := N) sm a) ?_
  unfold runB at p
  cases hu : u (args.map some ++ List.replicate (N.length - args.length) none) with
  | nx ρ =>
    rw [hu] at p
    exact fun σ' B' H' _ m' => p .non B' H' m'.ext rfl
  | rt s =>
    rw [hu] at p
    exact p
  | exc z ρ =>
    rw [hu] at p
    exact fun C σ' B' H' g _ m' => p C B' H' g m'.ext
  | bk ρ => rw [hu] at p; exact p.elim
  | ct ρ => rw [hu] at p; exact p.elim
  | stuck => rw [hu] at p; exact p.elim
theorem fn_mk {x qual : Str} {st : Stmt} {f : Addr} {fd : FuncData} {N ps : List Str} {k n : Nat} {u : Sv} (F : L2.Fun K x qual st f fd) (hm : mg x = some (.ref f)) (b : Binds K fd ps []) (S : FnScope N ps (defScope st)) (hn : ps.length = n)
    (body : ∀ W, SSs (cfOf P w K mg base N (defScope st) k) W (defBody st) u) : Fn P w K mg base (k + 1) x n (runB N.length u) := ⟨f, fd, ps, hm, F.kp, b, fn_ok F S hn body⟩
end

section
variable {c : Cf} {W : WX} {a b e tg : Expr} {es : List Expr} {f g h : Ev} {p q : Et} {pos pos' : Pos}
/-! arguments -/
abbrev Ea := En → R (List Sl)
def SAn (c : Cf) (W : WX) (es : List Expr) (f : Ea) : Prop := SA c W es f ∧ ∀ ρ ss, f ρ = .ok ss → ss.length = es.length
@[simp] def aNil : Ea := fun _ => .ok []
@[simp] def aVal (f : Ev) (g : Ea) : Ea := fun ρ => (f ρ).bind fun d => (g ρ).map fun ss => .sh d :: ss
@[simp] def aBor (i : Nat) (g : Ea) : Ea := fun ρ => (match ρ[i]? with
  | some (some (.ow ds)) => R.ok ds
  | some (some (.bo ds)) => .ok ds
  | some (some (.sh (.lst ds))) => .ok ds
  | _ => .stuck).bind fun ds => (g ρ).map fun ss => .bo ds :: ss
theorem sa_nil : SAn c W [] aNil := ⟨⟨_, fun _ _ => pa_nil, fun _ _ _ _ _ _ m h => ok_refl h m.sub _ rfl⟩, fun _ _ e => by cases e; rfl⟩
theorem bind_map_len {α : Type} {r : R α} {k : Ea} {ρ : En} {t : α → Sl} {ss : List Sl} {n : Nat} (hk : ∀ ss, k ρ = .ok ss → ss.length = n) (h : (r.bind fun d => (k ρ).map fun ss => t d :: ss) = .ok ss) : ss.length = n + 1 := by
  cases r with
  | ok d =>
    rw [R.bind_ok] at h
    cases h2 : k ρ with
    | ok xs =>
      rw [h2, R.map_ok] at h
      cases h
      rw [List.length_cons, hk xs h2]
    | exc z => rw [h2] at h; cases h
    | stuck => rw [h2] at h; cases h
  | exc z => cases h
  | stuck => cases h
theorem sa_val {k : Ea} (ha : SE c W e f) (hr : SAn c W es k) (hs : ∀ env, starEach (e :: es) env = (false, eval e env) :: starEach es env := by intro _; rfl) : SAn c W (e :: es) (aVal f k) := by
  obtain ⟨t, kk, ad⟩ := ha
  obtain ⟨⟨t2, k2, ad2⟩, l2⟩ := hr
  refine ⟨⟨_, fun X G => pa_cons (kk X G) (k2 X G) (hs X.env), fun G B H ρ σ Q m hh => ?_⟩, fun ρ ss h => bind_map_len (l2 ρ) h⟩
  refine ad G B H ρ σ _ m ((Po.bind hh).imp fun x B1 H1 e1 h1 v r1 => ?_)
  refine ad2 G B1 H1 ρ σ _ (m.go e1) ((Po.map h1).imp fun xs B2 H2 e2 h2 vs r2 => ?_)
  exact h2 _ ⟨v, vs, rfl, Rep.mono e2.b _ _ r1, r2⟩
theorem sa_bor {i : Nat} {x : Str} {k : Ea} (hN : c.N[i]? = some x) (hv : Vis c.sc x) (hr : SAn c W es k) (hd : (x == ("__debug__" : Str)) = false := by decide) (hcd : (x == ("__classdict__" : Str)) = false := by decide)
    (hs : ∀ env, starEach (.Name x pos :: es) env = (false, eval (.Name x pos) env) :: starEach es env := by intro _; rfl) : SAn c W (.Name x pos :: es) (aBor i k) := by
  obtain ⟨⟨t2, k2, ad2⟩, l2⟩ := hr
  refine ⟨⟨_, fun X G => pa_cons (pe_var (by rw [G.N]; exact hN) (by rw [G.sc]; exact hv) hd hcd) (k2 X G) (hs X.env), fun G B H ρ σ Q m hh => ?_⟩, fun ρ ss h => bind_map_len (l2 ρ) h⟩
  unfold aBor at hh
  have go : ∀ (ds : List D) (v : V), σ[i]? = some (some v) → (∃ p vs, v = .ref p ∧ SqL c.K H p vs ∧ Reps c.K B ds vs) → Po c W σ B H ((k ρ).map fun ss => .bo ds :: ss) (fun ss B' H' => ∀ vs, ArgsOk c.K B' H' ss vs → Q vs H') → tCons (tVar i) t2 σ H Q := fun ds v e1 e2 e3 => by
    refine ⟨v, e1, ad2 G B H ρ σ _ m ((Po.map e3).imp fun xs B2 H2 x2 h2 vs r2 => ?_)⟩
    obtain ⟨p, us, rfl, q1, q2⟩ := e2
    exact h2 _ ⟨_, vs, rfl, ⟨p, us, rfl, x2.h.seq q1, Reps.mono x2.b _ _ q2⟩, r2⟩
  cases e : ρ[i]? with
  | none => rw [e] at hh; exact hh.elim
  | some s =>
    cases s with
    | none => rw [e] at hh; exact hh.elim
    | some s =>
      obtain ⟨v, h1, h2⟩ := m.sl i _ e
      rw [e] at hh
      cases s with
      | ow ds =>
        obtain ⟨p, vs, rfl, q1, q2, q3, q4⟩ := h2
        exact go ds _ h1 ⟨p, vs, rfl, SqL.of q1, q4⟩ hh
      | bo ds =>
        obtain ⟨p, vs, rfl, q1, q2⟩ := h2
        exact go ds _ h1 ⟨p, vs, rfl, m.ext.h.seq q1, q2⟩ hh
      | lt k ds => exact hh.elim
      | sh d =>
        cases d with
        | lst ds =>
          obtain ⟨p, vs, rfl, q1, q2⟩ := h2
          exact go ds _ h1 ⟨p, vs, rfl, m.sub.seq q1, q2⟩ hh
        | _ => exact hh.elim
/-! calls -/
@[simp] def slD : Sl → R D
  | .sh d => .ok d
  | .ow ds => .ok (.lst ds)
  | .bo _ => .stuck
  | .lt _ _ => .stuck
@[simp] def slO : Sl → R (List D)
  | .ow ds => .ok ds
  | _ => .stuck
@[simp] def eApp (m : List Sl → R Sl) (f : Ea) : Ev := fun ρ => ((f ρ).bind m).bind slD
@[simp] def eAppF (m : List Sl → R Sl) (f : Ea) : Es := fun ρ => ((f ρ).bind m).bind slO
theorem call_core {n : Nat} {m : List Sl → R Sl} {x : Str} {f : Ea} {p : Pos} (hF : Fn c.P c.w c.K c.mg c.base c.k x n m) (hg : c.sc.names.lookup x = some .globalImplicit) (ha : SAn c W (e :: es) f) (hn : (e :: es).length = n) (hdb : (x == ("__debug__" : Str)) = false)
    (he : ∀ env, starEach (e :: es) env = (false, eval e env) :: starEach es env) (hpl : ∀ env, (backTo pos (starEach es env)).any (·.1) = false) :
    ∃ t : TE, (∀ X, GX c W X → PE X (.Call (.Name x p) (e :: es) [] pos) t) ∧ ∀ (g : Gd) (B H : Hp) (ρ : En) (σ : St) (Q : VK), Mt c.K g B H ρ σ →
      Po c W σ B H (f ρ) (fun args B' H' => FPo c.K c.mg B' H' Q (WE W σ) (m args)) → t σ H Q := by
  obtain ⟨ff, fd, ps, h1, h2, h3, h4⟩ := hF.ex
  obtain ⟨⟨t, k, ad⟩, l⟩ := ha
  refine ⟨_, fun X G => pe_callS (E := WE W) (by rw [G.P, G.w, G.K, G.mg, G.base]; exact h4) G.room (by show X.env.scope.names.lookup x = _; rw [G.sc]; exact hg) (by rw [G.mg]; exact h1) (by rw [G.K]; exact h2) (by rw [G.K]; exact h3) (fun σ => by rw [← G.P, ← G.w]; exact passAt G.tk σ) (k X G) hdb (he X.env) (hpl X.env), fun G B H ρ σ Q mm hh => ?_⟩
  refine ad G B H ρ σ _ mm ?_
  cases hf : f ρ with
  | ok args =>
    rw [hf] at hh
    intro B1 H1 e1 vs r1
    exact ⟨B1, args, e1.in_, r1, by rw [l ρ args hf, hn], hh B1 H1 e1⟩
  | exc z => rw [hf] at hh; exact hh
  | stuck => rw [hf] at hh; exact hh
theorem se_call {n : Nat} {m : List Sl → R Sl} {x : Str} {f : Ea} {p : Pos} (hF : Fn c.P c.w c.K c.mg c.base c.k x n m) (hg : c.sc.names.lookup x = some .globalImplicit) (ha : SAn c W (e :: es) f) (hn : (e :: es).length = n := by rfl) (hdb : (x == ("__debug__" : Str)) = false := by decide)
    (he : ∀ env, starEach (e :: es) env = (false, eval e env) :: starEach es env := by intro _; rfl) (hpl : ∀ env, (backTo pos (starEach es env)).any (·.1) = false := by intro _; rfl) : SE c W (.Call (.Name x p) (e :: es) [] pos) (eApp m f) := by
  obtain ⟨t, k, ad⟩ := call_core hF hg ha hn hdb he hpl
  refine ⟨t, k, fun G B H ρ σ Q mm hh => ad G B H ρ σ Q mm ?_⟩
  refine (Po.bind (Po.bind hh)).imp fun args B1 H1 e1 h1 => ?_
  cases hm : m args with
  | ok s =>
    rw [hm] at h1
    have h2 := h1 B1 H1 (Ext.refl e1.in_)
    cases s with
    | sh d => exact fun v B' H' x r => (show Po c W σ B1 H1 (R.ok d) (fun d B' H' => ∀ v, Rep c.K B' d v → Q v H') from h2) B' H' x v r
    | ow ds => exact fun p vs B' H' x q1 q2 q3 q4 => (show Po c W σ B1 H1 (R.ok (D.lst ds)) (fun d B' H' => ∀ v, Rep c.K B' d v → Q v H') from h2) _ H' (x.take q1 q2 q3) _ ⟨p, vs, rfl, .inl (.inl upd_same), Reps.mono (same_put q2) _ _ q4⟩
    | bo ds => exact h2.elim
    | lt k ds => exact h2.elim
  | exc z =>
    rw [hm] at h1
    exact fun C B' H' g x => h1 C B' H' g x
  | stuck => rw [hm] at h1; exact h1.elim
theorem sf_call {n : Nat} {m : List Sl → R Sl} {x : Str} {f : Ea} {p : Pos} (hF : Fn c.P c.w c.K c.mg c.base c.k x n m) (hg : c.sc.names.lookup x = some .globalImplicit) (ha : SAn c W (e :: es) f) (hn : (e :: es).length = n := by rfl) (hdb : (x == ("__debug__" : Str)) = false := by decide)
    (he : ∀ env, starEach (e :: es) env = (false, eval e env) :: starEach es env := by intro _; rfl) (hpl : ∀ env, (backTo pos (starEach es env)).any (·.1) = false := by intro _; rfl) : SF c W (.Call (.Name x p) (e :: es) [] pos) (eAppF m f) := by
  obtain ⟨t, k, ad⟩ := call_core hF hg ha hn hdb he hpl
  refine ⟨t, k, fun G B H ρ σ Q mm hh => ad G B H ρ σ Q mm ?_⟩
  refine (Po.bind (Po.bind hh)).imp fun args B1 H1 e1 h1 => ?_
  cases hm : m args with
  | ok s =>
    rw [hm] at h1
    have h2 := h1 B1 H1 (Ext.refl e1.in_)
    cases s with
    | ow ds => exact fun p vs B' H' x q1 q2 q3 q4 => (show Po c W σ B1 H1 (.ok ds) _ from h2) B' H' x p vs q1 q2 (e1.h.free q3) q4
    | _ => exact h2.elim
  | exc z =>
    rw [hm] at h1
    exact fun C B' H' g x => h1 C B' H' g x
  | stuck => rw [hm] at h1; exact h1.elim

/-! ### list comprehensions (nothing is raised within) -/
@[simp] def wipeE (ρ : En) : List Nat → En
  | [] => ρ
  | v :: vs => (wipeE ρ vs).set v none
@[simp] def lcR (gt : Gt) (p : Et) (f : Ev) (ρ : En) : List D → R (List D)
  | [] => .ok []
  | d :: ds => (gt d ρ).bnd fun ρ1 => (p ρ1).bnd fun b => if b = true then (f ρ1).bnd fun y => (lcR gt p f ρ ds).bnd fun ys => .ok (y :: ys) else lcR gt p f ρ ds
noncomputable def eLc (fi : Es) (gt : Gt) (p : Et) (f : Ev) (vs : List Nat) : Es := fun ρ => (fi ρ).bind fun items => if items.length ≤ szL then (lcR gt p f (wipeE ρ vs) items).bnd .ok else .stuck
def W0 : WX := fun _ _ _ _ => False
abbrev Cf.blk (c : Cf) (scope : Scope) : Cf := { c with sc := relS scope c.sc, top := false }
theorem GX.blk {X : Cx} (G : GX c W X) (s : Shared) (H : Hp) (scope : Scope) (cl : List (Str × Addr)) (C : Addr) (fp : List Addr) : GX (c.blk scope) W0 (X.blk s H scope (compEnvC scope cl C X.env) fp) :=
  ⟨G.P, G.w, G.K, G.mg, G.base, G.N, G.nd, by show relS scope X.env.scope = relS scope c.sc; rw [G.sc], G.calm, takes0, PassesOwn.never, G.room, fun z => Bool.noConfusion (show false = true from z), fun z => Bool.noConfusion (show false = true from z)⟩
theorem Mt.wipe {G : Gd} {B H : Hp} {ρ : En} {σ : St} (m : Mt c.K G B H ρ σ) : ∀ vs : List Nat, Mt c.K G B H (wipeE ρ vs) (wipe σ vs)
  | [] => m
  | v :: vs => (m.wipe vs).kill v _ (List.length_set ..) fun j hj => List.getElem?_set_ne (Ne.symm hj)
theorem wipe_out {σ : St} : ∀ {vs : List Nat} {j : Nat}, j ∉ vs → (wipe σ vs)[j]? = σ[j]?
  | [], _, _ => rfl
  | v :: vs, j, h => by
    unfold wipe
    rw [List.getElem?_set_ne (fun e => h (by simp [e])), wipe_out fun z => h (List.mem_cons_of_mem _ z)]
theorem wipe_in {σ : St} : ∀ {vs : List Nat} {j : Nat}, j ∈ vs → j < σ.length → (wipe σ vs)[j]? = some none
  | v :: vs, j, h, hl => by
    unfold wipe
    by_cases e : v = j
    · subst e
      exact List.getElem?_set_self (by rw [wipe_length]; exact hl)
    · rw [List.getElem?_set_ne e]
      exact wipe_in ((List.mem_cons.mp h).resolve_left (Ne.symm e)) hl
theorem wipe_eq {σ σ2 : St} {vs : List Nat} (h : ∀ j, j ∉ vs → σ2[j]? = (wipe σ vs)[j]?) (hl : σ2.length = (wipe σ vs).length) : wipe σ2 vs = wipe σ vs := by
  have hl2 : σ2.length = σ.length := by rw [hl, wipe_length]
  apply List.ext_getElem?
  intro j
  by_cases hj : j ∈ vs
  · by_cases hlt : j < σ.length
    · rw [wipe_in hj hlt, wipe_in hj (by rw [hl2]; exact hlt)]
    · rw [List.getElem?_eq_none (by rw [wipe_length]; omega), List.getElem?_eq_none (by rw [wipe_length]; omega)]
  · rw [wipe_out hj, h j hj]
theorem ad_lc {fi : Es} {gt : Gt} {p : Et} {f : Ev} {vs is : List Nat} {wi : TI} {g : TG} {tt : TT} {te : TE} {c2 : Cf} (hK : c2.K = c.K) (ai : AdI c W wi fi)
    (ag : ∀ (G : Gd) (B H : Hp) (ρ : En) (σ : St) (v : V) (d : D) (Q : St → Hp → Prop), Mt c2.K G B H ρ σ → Rep c2.K B d v → PoG c2.K G B H σ is (gt d ρ) Q → g v σ H Q) (hv : ∀ i ∈ is, i ∈ vs) (at_ : AdT c2 W0 tt p) (ae : AdE c2 W0 te f) :
    AdF c W (tLc wi g tt te vs) (eLc fi gt p f vs) := by
  intro G B H ρ σ Q m hh
  refine ai G B H ρ σ _ m ((Po.bind hh).imp fun items B1 H1 e1 h1 J wk Da hDa => ?_)
  split at h1
  case isFalse => exact h1.elim
  rename_i hsz
  rw [szL_eq] at hsz
  cases hlc : lcR gt p f (wipeE ρ vs) items with
  | exc z => rw [hlc] at h1; exact h1.elim
  | stuck => rw [hlc] at h1; exact h1.elim
  | ok total =>
  rw [hlc] at h1
  have m1 := (m.go e1).wipe vs
  have hBD : B1 Da = none := e1.in_.free hDa
  have hGD : G.H Da = none := m.ext.h.free (e1.h.free hDa)
  have nO : ∀ (j : Nat) (t : Sl), (wipeE ρ vs)[j]? = some (some t) → isOw t = true → (wipe σ vs)[j]? ≠ some (some (V.ref Da)) := fun j t ej oj ev => by
    obtain ⟨w, z1, z2⟩ := m1.sl j t ej
    rw [ev] at z1
    cases z1
    cases t with
    | ow ds =>
      obtain ⟨q, us, eq, q5, _⟩ := z2
      cases eq
      rw [hDa] at q5
      cases q5
    | _ => cases oj
  refine ⟨fun i n H' => ∃ B' acc done rest, n = items.length - i ∧ i ≤ items.length ∧ Ext B1 H1 B' H' ∧ Mt c.K G B' H' (wipeE ρ vs) (wipe σ vs) ∧ H' Da = some (.lst acc) ∧ B' Da = none ∧ Reps c.K B' done acc ∧ done.length ≤ i ∧ lcR gt p f (wipeE ρ vs) (items.drop i) = .ok rest ∧ done ++ rest = total,
    ⟨items.length, B1, [], [], total, rfl, Nat.zero_le _, Ext.new e1.in_ hDa, m1.put hBD hGD nO, upd_same, hBD, rfl, Nat.le_refl _, hlc, rfl⟩, fun i n H' hW => ?_⟩
  obtain ⟨B', acc, done, rest, rfl, hi, x1, m', q1, q2, q3, q4, q5, q6⟩ := hW
  obtain ⟨w1, w2⟩ := wk B' H' i x1.b m'.ext
  by_cases hlt : i < items.length
  · have hd := List.drop_eq_getElem_cons hlt
    rw [hd] at q5
    obtain ⟨go, yld⟩ := w1 items[i] (List.getElem?_eq_getElem hlt)
    refine .inr ⟨go, fun H2 => ∃ B2 acc done rest, Ext B1 H1 B2 H2 ∧ Mt c.K G B2 H2 (wipeE ρ vs) (wipe σ vs) ∧ H2 Da = some (.lst acc) ∧ B2 Da = none ∧ Reps c.K B2 done acc ∧ done.length ≤ i + 1 ∧ lcR gt p f (wipeE ρ vs) (items.drop (i + 1)) = .ok rest ∧ done ++ rest = total,
      fun H2 ⟨B2, acc2, done2, rest2, z1, z2, z3, z4, z5, z6, z7, z8⟩ => ⟨items.length - (i + 1), by omega, B2, acc2, done2, rest2, rfl, hlt, z1, z2, z3, z4, z5, z6, z7, z8⟩, fun x H2 hy => ?_⟩
    obtain ⟨B2, x2, r2⟩ := yld x H2 hy
    have m2 := m'.go x2
    have y1 : H2 Da = some (.lst acc) := x2.h _ _ q1
    have y2 : B2 Da = none := x2.off Da q2 (by rw [q1]; exact fun z => by cases z)
    have y3 := Reps.mono x2.b _ _ q3
    refine ag G B2 H2 (wipeE ρ vs) (wipe σ vs) x items[i] _ (by rw [hK]; exact m2) (by rw [hK]; exact r2) ?_
    unfold lcR at q5
    cases hgt : gt items[i] (wipeE ρ vs) with
    | exc z => rw [hgt] at q5; cases q5
    | stuck => rw [hgt] at q5; cases q5
    | ok ρ1 =>
    rw [hgt, R.bnd_ok] at q5
    intro σ2 mm2 l2 n2
    rw [hK] at mm2
    refine ⟨wipe_eq (fun j hj => n2 j fun z => hj (hv j z)) l2, ?_⟩
    refine at_ G B2 H2 ρ1 σ2 _ (by rw [hK]; exact mm2) ?_
    cases hp : p ρ1 with
    | exc z => rw [hp] at q5; cases q5
    | stuck => rw [hp] at q5; cases q5
    | ok b =>
    rw [hp, R.bnd_ok] at q5
    intro B3 H3 x3
    have x23 := x2.trans x3
    cases b with
    | false =>
      rw [if_neg Bool.false_ne_true] at q5
      rw [if_neg Bool.false_ne_true]
      exact ⟨B3, acc, done, rest, x1.trans x23, m'.go x23, x3.h _ _ y1, x3.off Da y2 (by rw [y1]; exact fun z => by cases z), Reps.mono x3.b _ _ y3, by omega, q5, q6⟩
    | true =>
      rw [if_pos rfl]
      refine ae G B3 H3 ρ1 σ2 _ (by rw [hK]; exact mm2.go x3) ?_
      rw [if_pos rfl] at q5
      cases hf : f ρ1 with
      | exc z => rw [hf] at q5; cases q5
      | stuck => rw [hf] at q5; cases q5
      | ok y =>
      rw [hf, R.bnd_ok] at q5
      intro B4 H4 x4 v r4
      rw [hK] at r4
      have x24 := x23.trans x4
      have z1 : H4 Da = some (.lst acc) := x4.h _ _ (x3.h _ _ y1)
      have z2 : B4 Da = none := x24.off Da q2 (by rw [q1]; exact fun z => by cases z)
      refine ⟨acc, z1, by rw [← q3.length]; exact Nat.lt_of_lt_of_le (Nat.lt_of_le_of_lt q4 hlt) hsz, ?_⟩
      cases hr : lcR gt p f (wipeE ρ vs) (items.drop (i + 1)) with
      | exc z => rw [hr] at q5; cases q5
      | stuck => rw [hr] at q5; cases q5
      | ok rest2 =>
      rw [hr, R.bnd_ok] at q5
      cases q5
      refine ⟨B4, acc ++ [v], done ++ [y], rest2, ?_, ((m'.go x24).put z2 hGD nO), upd_same, z2, (Reps.mono (x24.b) _ _ q3).append (Reps.one r4), by rw [List.length_append, List.length_singleton]; omega, rfl, by rw [List.append_assoc]; exact q6⟩
      have x14 := x1.trans x24
      refine ⟨x14.b, fun b o e => ?_, fun b o e => ?_, x14.off⟩
      · rw [upd_ne (ne_of_none e hDa)]
        exact x14.h b o e
      · rw [upd_ne (ne_of_none e z2)]
        exact x14.in_ b o e
  · have hn : items.drop i = [] := List.drop_eq_nil_of_le (by omega)
    rw [hn] at q5
    cases q5
    rw [List.append_nil] at q6
    subst q6
    exact .inl ⟨w2 (by omega), h1 B' H' x1 Da acc q1 q2 (e1.h.free hDa) q3⟩
/-- no test; one test -/
def STs (c : Cf) (W : WX) (ifs : List Expr) (p : Et) : Prop := ∃ t : TT, (∀ X, GX c W X → PTs X ifs t) ∧ AdT c W t p
@[simp] def tYesE : Et := fun _ => .ok true
theorem sts_nil : STs c W [] tYesE := ⟨tYes, fun _ _ => pts_nil, fun _ _ _ _ _ _ m h => ok_refl h m.sub⟩
theorem sts_one (h : ST c W e p) : STs c W [e] p := by
  obtain ⟨t, k, ad⟩ := h
  exact ⟨t, fun X G => pts_one (k X G), ad⟩
theorem sf_lc {elt iter : Expr} {ifs : List Expr} {scope : Scope} {own : List (Str × Nat)} {fi : Es} {gt : Gt} {p : Et} {f : Ev} {is : List Nat} (hi : SI c W tg iter fi) (ok : blkC c.N c.sc scope own = true) (hg : SG (c.blk scope) tg is gt) (ht : STs (c.blk scope) W0 ifs p) (he : SE (c.blk scope) W0 elt f)
    (hv : ∀ i ∈ is, i ∈ own.map (·.2)) (hs : ∀ env x, foldedSetIterable iter env x = pure x := by intro _ _; rfl) : SF c W (.ListComp elt [⟨tg, iter, ifs, 0⟩] scope pos) (eLc fi gt p f (own.map (·.2))) := by
  obtain ⟨wi, k0, a0⟩ := hi
  obtain ⟨g, k1, a1⟩ := hg
  obtain ⟨tt, k2, a2⟩ := ht
  obtain ⟨te, k3, a3⟩ := he
  exact ⟨_, fun X G => pe_lc G.calm G.nd (k0 X G) (by rw [G.N, G.sc]; exact blkOk_by ok) (fun s H C cl fp => k1 W0 _ (G.blk s H scope cl C fp)) (fun s H C cl fp => k2 _ (G.blk s H scope cl C fp)) (fun s H C cl fp => k3 _ (G.blk s H scope cl C fp)) (hs X.env),
    ad_lc (c2 := c.blk scope) rfl a0 a1 hv a2 a3⟩
/-- x = [..], one line, x local -/
theorem ss_setLc {i : Nat} {y : Str} {py spos : Pos} {elt iter : Expr} {ifs : List Expr} {scope : Scope} {own : List (Str × Nat)} {fi : Es} {gt : Gt} {p : Et} {f : Ev} {is : List Nat} (hN : c.N[i]? = some y) (hy : c.sc.names.lookup y = some .local) (hi : SI c W tg iter fi) (ok : blkC c.N c.sc scope own = true) (hg : SG (c.blk scope) tg is gt) (ht : STs (c.blk scope) W0 ifs p) (he : SE (c.blk scope) W0 elt f)
    (hv : ∀ i ∈ is, i ∈ own.map (·.2)) (hk : c.sc.kind = .function) (hl : (py.line == pos.line) = true) (hna : (scope.names.any fun (n, k) => n == y && (k == .local || k == .cell)) = false) (hs : ∀ env x, foldedSetIterable iter env x = pure x := by intro _ _; rfl) :
    SS c W (.Assign [.Name y py] (.ListComp elt [⟨tg, iter, ifs, 0⟩] scope pos) spos) (sSetF i (eLc fi gt p f (own.map (·.2)))) := by
  obtain ⟨wi, k0, a0⟩ := hi
  obtain ⟨g, k1, a1⟩ := hg
  obtain ⟨tt, k2, a2⟩ := ht
  obtain ⟨te, k3, a3⟩ := he
  refine ⟨_, fun X G => ps_setLc (i := i) G.calm G.nd (by rw [G.N]; exact hN) (by rw [G.sc]; exact hy) (sw_true (by rw [G.sc]; exact hk) (by rw [G.sc]; exact hy) hl hna) (k0 X G) (by rw [G.N, G.sc]; exact blkOk_by ok) (fun s H C cl fp => k1 W0 _ (G.blk s H scope cl C fp)) (fun s H C cl fp => k2 _ (G.blk s H scope cl C fp)) (fun s H C cl fp => k3 _ (G.blk s H scope cl C fp)) (hs X.env), fun G B H ρ σ E m h => ?_⟩
  refine ad_lc (c2 := c.blk scope) rfl a0 a1 hv a2 a3 G B H ρ σ _ m ((Po.thn m h).imp fun ds B1 H1 e1 h1 p vs q1 q2 q3 q4 => ?_)
  exact h1 _ B1 H1 (Same.refl _) (own_new m e1 q1 q2 q3 q4 i)
end
end Mi

namespace Mi
open PySem PySem.Spec L2
def notStar : Expr → Bool
  | .Starred _ _ => false
  | _ => true
theorem sw2 {c : Cf} {x y : Str} {px py pt pt2 : Pos} {kt k2 : Nat} {a b : Expr} (hk : c.sc.kind = .function) (hx : c.sc.names.lookup x = some .local) (hy : c.sc.names.lookup y = some .local) (hp : (py.line == px.line) = true) (hn : ([x, y].eraseDups.length == 2) = true)
  (h1 : (notStar a && notStar b) = true) (h2 : [a, b].all (foldedForSure 8) = false) (h3 : [a, b].all (constantsAlone 8) = false) :
  ∀ env : Env, env.scope = c.sc → swappedStores [.Tuple [.Name x px, .Name y py] kt pt] (.Tuple [a, b] k2 pt2) env = pure (some [x, y]) := by
  intro env e
  have e1 : env.kindOf x = some .local := by show env.scope.names.lookup x = _; rw [e]; exact hx
  have e2 : env.kindOf y = some .local := by show env.scope.names.lookup y = _; rw [e]; exact hy
  have e3 : env.blockKind = .function := by unfold Env.blockKind; rw [e, hk]; rfl
  have e4 : (env.blockKind != .function) = false := by rw [e3]; rfl
  have e6 : ([x, y].eraseDups.length != [x, y].length) = false := by
    have z := beq_iff_eq.mp hn
    show ([x, y].eraseDups.length != 2) = false
    rw [z]
    rfl
  rw [Bool.and_eq_true] at h1
  have s1 : ∀ z, notStar z = true → ∀ v p, z ≠ .Starred v p := fun z hz v p ez => by rw [ez] at hz; cases hz
  simp only [swappedStores]
  rw [if_neg (by rw [e4]; exact Bool.false_ne_true)]
  rw [if_neg (by
    intro h
    rw [List.any_eq_true] at h
    obtain ⟨z, hz, hm⟩ := h
    split at hm
    · rename_i v p
      rcases List.mem_cons.mp hz with q | q
      · exact s1 a h1.1 v p q.symm
      · rcases List.mem_cons.mp q with q | q
        · exact s1 b h1.2 v p q.symm
        · cases q
    · cases hm)]
  simp only [List.filterMap, e1, e2, List.head?, Option.map, Option.getD, Expr.pos, hp, beq_self_eq_true, Bool.and_self, if_true, h2, h3, e6]
  rfl

section
variable {c : Cf} {W : WX} {a b e tg : Expr} {es : List Expr} {f g h : Ev} {p q : Et} {pos pos' : Pos}
/-! ### lists made of lists -/
noncomputable def oRep (ds : List D) : D → R (List D)
  | .int k => if ds.length * k.toNat ≤ szL ∧ -big63 ≤ k ∧ k < big63 then .ok (List.replicate k.toNat ds).flatten else .stuck
  | _ => .stuck
@[simp] noncomputable def eRep (f : Es) (g : Ev) : Es := fun ρ => (f ρ).bind fun ds => (g ρ).bind fun d => oRep ds d
theorem Reps.rep {K : PySem.W.Frag} {B : Hp} {ds : List D} {vs : List V} (r : Reps K B ds vs) : ∀ n : Nat, Reps K B (List.replicate n ds).flatten (List.replicate n vs).flatten
  | 0 => rfl
  | n + 1 => by
    rw [List.replicate_succ, List.replicate_succ, List.flatten_cons, List.flatten_cons]
    exact r.append (Reps.rep r n)
theorem sf_rep {f : Es} (ha : SF c W a f) (hb : SB c W b g) : SF c W (.BinOp a .Mult b pos) (eRep f g) := by
  obtain ⟨ta, pa, aa⟩ := ha
  obtain ⟨tb, pb, ab⟩ := hb
  refine ⟨_, fun X G => pe_op op_rep (pa X G) (pb X G), fun G B H ρ σ Q m hh => ?_⟩
  refine aa G B H ρ σ _ m ((Po.bind hh).imp fun ds B1 H1 e1 h1 p vs q1 q2 q3 q4 => ?_)
  refine ab G B1 H1 ρ σ _ (m.go e1) ((Po.bind h1).imp fun d B2 H2 e2 h2 v r2 => ?_)
  cases d with
  | int k =>
    unfold oRep at h2
    dsimp only at h2
    split at h2
    · rename_i hz
      rw [szL_eq, big63_eq] at hz
      refine ⟨p, k, vs, rfl, r2, e2.h _ _ q1, hz.2.1, hz.2.2, by rw [← q4.length]; exact hz.1, fun l hl => ?_⟩
      exact h2 _ _ (Ext.new e2.in_ hl) l _ upd_same (e2.in_.free hl) ((e1.trans e2).h.free hl) ((Reps.mono e2.b _ _ q4).rep _)
    · exact h2.elim
  | _ => exact h2.elim
def rCatL (K : PySem.W.Frag) : R2 := fun x y H Q => ∃ l b xs zs, x = .ref l ∧ y = .ref b ∧ SqL K H l xs ∧ SqL K H b zs ∧ xs.length + zs.length ≤ sizeLine ∧ ∀ p, H p = none → Q (.ref p) (upd H p (.lst (xs ++ zs)))
theorem op_catL {X : Cx} : OpR X (binaryOp .Add) (rCatL X.K) := by
  intro pins s σ H x y v u Q I rx ry h
  obtain ⟨l, b, xs, zs, rfl, rfl, hH, hB, hz, q⟩ := h
  cases rx
  cases ry
  obtain ⟨its, r, ⟨⟨cls, dd, data, sl⟩, n, ho, hc, _, hd⟩, _⟩ := I.list hH
  obtain ⟨its2, r2, ⟨⟨cls2, dd2, data2, sl2⟩, n2, ho2, hc2, _, hd2⟩, _⟩ := I.list hB
  simp only at hc hd hc2 hd2
  subst hc hd hc2 hd2
  have e : its.toArray ++ its2.toArray = (its ++ its2).toArray := by simp
  refine PySem.concat_meets ⟨_, ho, rfl⟩ ⟨_, ho2, rfl⟩ PySem.noFill_list_add PySem.seq_list_add PySem.F.slot_list_add PySem.F.entry_list_add (PySem.F.args_list_add_2 _ _) (PyProof.Rows.list_addW l b its.toArray its2.toArray n n2 dd dd2 sl sl2 (by rw [List.size_toArray, List.size_toArray, ← r.length, ← r2.length]; exact hz)) ⟨ho, ho2, ?_⟩
  rw [e]
  exact ⟨.ref _, _, I.lnew (t' := s.toks) (r.append r2) (by rw [List.length_append]; exact hz), rfl, q _ I.fresh⟩
@[simp] noncomputable def oCat : D → D → R (List D)
  | .lst xs, .lst ys => if xs.length + ys.length ≤ szL then .ok (xs ++ ys) else .stuck
  | _, _ => .stuck
@[simp] noncomputable def eCat (f g : Ev) : Es := fun ρ => (f ρ).bind fun x => (g ρ).bind fun y => oCat x y
theorem sf_cat (ha : SB c W a f) (hb : SB c W b g) : SF c W (.BinOp a .Add b pos) (eCat f g) := by
  obtain ⟨ta, pa, aa⟩ := ha
  obtain ⟨tb, pb, ab⟩ := hb
  refine ⟨tOp (rCatL c.K) ta tb, fun X G => by rw [← G.K]; exact pe_op op_catL (pa X G) (pb X G), fun G B H ρ σ Q m hh => ?_⟩
  refine aa G B H ρ σ _ m ((Po.bind hh).imp fun x B1 H1 e1 h1 v r1 => ?_)
  refine ab G B1 H1 ρ σ _ (m.go e1) ((Po.bind h1).imp fun y B2 H2 e2 h2 u r2 => ?_)
  have r1' := r1.go e2
  cases x with
  | lst xs => cases y with
    | lst ys =>
      obtain ⟨p, us, rfl, q1, q2⟩ := r1'
      obtain ⟨p2, us2, rfl, q3, q4⟩ := r2
      unfold oCat at h2
      dsimp only at h2
      split at h2
      · rename_i hz
        rw [szL_eq] at hz
        refine ⟨p, p2, us, us2, rfl, rfl, q1, q3, by rw [← q2.length, ← q4.length]; exact hz, fun l hl => ?_⟩
        exact h2 _ _ (Ext.new e2.in_ hl) l _ upd_same (e2.in_.free hl) ((e1.trans e2).h.free hl) (q2.append q4)
      · exact h2.elim
    | _ => exact h2.elim
  | _ => exact h2.elim

/-! ### isinstance of a built-in type -/
def tyD : D → String
  | .non => "NoneType"
  | .bl _ => "bool"
  | .int _ => "int"
  | .str _ => "str"
  | .tup _ => "tuple"
  | .lst _ => "list"
theorem RepT.ty {K : PySem.W.Frag} {B H : Hp} (s : Same B H) {d : D} {v : V} (h : RepT K B H d v) : TyX K H v (.type (tyD d)) := by
  cases d with
  | non => cases (show v = _ from h); exact .base .non
  | bl b => cases (show v = _ from h); exact .base (.bl b)
  | int b => cases (show v = _ from h); exact .base (.int b)
  | str b => cases (show v = _ from h); exact .base (.str b)
  | tup ds =>
    obtain ⟨a, vs, rfl, q, _⟩ := h
    rcases q with (q | ⟨o, q⟩) | ⟨o, its, n, q1, q2, _⟩
    · exact .base (.tup (s _ _ q))
    · exact .fTuple (s _ _ q)
    · exact .kTuple q1 q2
  | lst ds =>
    obtain ⟨a, vs, rfl, q, _⟩ := h
    rcases q with (q | ⟨o, q⟩) | ⟨o, its, n, q1, q2, _⟩
    · exact .base (.lst q)
    · exact .base (.frz q)
    · exact .kList q1 q2
@[simp] def eIsi (o : D → Bool) (f : Ev) : Ev := fun ρ => (f ρ).map fun d => .bl (o d)
theorem se_isi {x T : Str} {p pT : Pos} {Tn : String} {o : D → Bool} (ho : ∀ d, kitB (tyD d) Tn = some (o d)) (hx : x = "isinstance") (hg : c.sc.names.lookup x = some .globalImplicit) (hm : c.mg x = none) (hgT : c.sc.names.lookup T = some .globalImplicit) (hmT : c.mg T = none) (hvT : bootBuiltins T = some (.type Tn)) (ha : SB c W a f)
    (hnT : T ≠ "__name__" := by decide) (hdT : (T == ("__debug__" : Str)) = false := by decide) (he : ∀ env, starEach [a, .Name T pT] env = (false, eval a env) :: starEach [.Name T pT] env := by intro _; rfl) : SE c W (.Call (.Name x p) [a, .Name T pT] [] pos) (eIsi o f) := by
  subst hx
  obtain ⟨t, k, ad⟩ := ha
  refine ⟨tCB (rIsi c.K) (tCons t (tCons (tC (.ty Tn)) tNil)), fun X G => pe_callB (by rw [← G.K]; exact call_isi) (by show X.env.scope.names.lookup _ = _; rw [G.sc]; exact hg) (by rw [G.mg]; exact hm) (by decide +kernel)
    (pa_cons (k X G) (pa_cons (pe_bltn (by show X.env.scope.names.lookup _ = _; rw [G.sc]; exact hgT) (by rw [G.mg]; exact hmT) hvT rfl hnT hdT) pa_nil) (he X.env)) (by decide) (by decide) (he X.env) rfl, fun G B H ρ σ Q m hh => ?_⟩
  refine ad G B H ρ σ _ m ((Po.map hh).imp fun d B1 H1 e1 h1 v r1 => ?_)
  exact ⟨v, .ty Tn, .type (tyD d), .type Tn, o d, rfl, .ty Tn, r1.ty e1.in_, kit_ty (ho d), h1 _ rfl⟩
@[simp] def isIntD : D → Bool
  | .int _ => true
  | .bl _ => true
  | _ => false
@[simp] def isBoolD : D → Bool
  | .bl _ => true
  | _ => false
@[simp] def isStrD : D → Bool
  | .str _ => true
  | _ => false
@[simp] def isTupD : D → Bool
  | .tup _ => true
  | _ => false
@[simp] def isLstD : D → Bool
  | .lst _ => true
  | _ => false
theorem isInt_ok (d : D) : kitB (tyD d) "int" = some (isIntD d) := by cases d <;> (dsimp only [tyD, isIntD, isBoolD, isStrD, isTupD, isLstD]; decide +kernel)
theorem isBool_ok (d : D) : kitB (tyD d) "bool" = some (isBoolD d) := by cases d <;> (dsimp only [tyD, isIntD, isBoolD, isStrD, isTupD, isLstD]; decide +kernel)
theorem isStr_ok (d : D) : kitB (tyD d) "str" = some (isStrD d) := by cases d <;> (dsimp only [tyD, isIntD, isBoolD, isStrD, isTupD, isLstD]; decide +kernel)
theorem isTup_ok (d : D) : kitB (tyD d) "tuple" = some (isTupD d) := by cases d <;> (dsimp only [tyD, isIntD, isBoolD, isStrD, isTupD, isLstD]; decide +kernel)
theorem isLst_ok (d : D) : kitB (tyD d) "list" = some (isLstD d) := by cases d <;> (dsimp only [tyD, isIntD, isBoolD, isStrD, isTupD, isLstD]; decide +kernel)
end
end Mi

namespace Mi
open PySem PySem.Spec L2
/-! ## 10. What is read off the text; the end of a law -/
def visB (sc : Scope) (x : Str) : Bool := match sc.names.lookup x with
  | some .local => true
  | some .cell => true
  | some .free => true
  | _ => false
theorem vis_of {sc : Scope} {x : Str} (h : visB sc x = true) : Vis sc x := by
  unfold visB at h
  unfold Vis
  split at h
  · exact .inl (by assumption)
  · exact .inr (.inl (by assumption))
  · exact .inr (.inr (by assumption))
  · cases h
def kindB (sc : Scope) (x : Str) (k : NameKind) : Bool := sc.names.lookup x == some k
theorem glob_of {sc : Scope} {x : Str} (h : kindB sc x .globalImplicit = true) : sc.names.lookup x = some .globalImplicit := beq_iff_eq.mp h
theorem loc_of {sc : Scope} {x : Str} (h : kindB sc x .local = true) : sc.names.lookup x = some .local := beq_iff_eq.mp h
theorem cell_of {sc : Scope} {x : Str} (h : kindB sc x .cell = true) : sc.names.lookup x = some .cell := beq_iff_eq.mp h
theorem locc_of {c : Cf} {x : Str} (h : LocC c x) : LocC c x := h
theorem blk_of {N : List Str} {sc scope : Scope} {own : List (Str × Nat)} (h : blkC N sc scope own = true) : blkC N sc scope own = true := h
theorem reps_ints {K : PySem.W.Frag} {B : Hp} : ∀ ns : List Int, Reps K B (ns.map D.int) (ns.map V.int)
  | [] => rfl
  | n :: ns => ⟨.int n, ns.map V.int, rfl, rfl, reps_ints ns⟩
theorem law_end {l : PySem.W.OpenLaw} {m : List Sl → R Sl} {k : Nat} {q : Program} {loose : List Str} {XP : (Str → Option Value) → Heap → Prop} {YP : World → Heap → Prop} {d : DefRec} {K : Params → PySem.W.Frag}
    (hn : l.most = some 63) (hdf : d.params.defaults = []) (hr : Room k callerA)
    (hY : ∀ (w : World) (h : Heap), YP w h → (K w.params).In h)
    (F : ∀ (w : World) (mg : Str → Option Value) (fa : Addr) (h : Heap), (K w.params).In h → h.Ns mainGlobals mg → mg d.name = some (.ref fa) →
      ∃ fd : FuncData, (∀ (s : Shared) (u : Value), BindsTo s fd ⟨[u], []⟩ [("script", u)]) ∧
        ∀ base : Heap, (K w.params).In base → base.Ns mainGlobals mg → FnOk l.prog w (K w.params) mg base (L2.CX l.prog w) k fa fd ["script"] (FSp (K w.params) mg 1 m))
    (hm : ∀ ns : List Int, ns.length ≤ 63 → (∀ z ∈ ns, Builtin.Int.intBits z ≤ 1048576) → m [.sh (.lst (ns.map D.int))] = .ok (.sh (.bl true))) :
    PySem.W.WalkO q loose XP YP l.row.toRowW d [] (fun f vs => PySem.call f vs) := by
  refine Att.attach_callB hn hdf fun w s₀ s₁ mg mb fa o pm cd doc a vs ns G Y ho hd hcd hmg hobj hints hlen hbits hg => ?_
  have KX := hY w _ Y
  obtain ⟨fd, hb, hF⟩ := F w mg fa _ KX G.T.g hmg
  refine law_call KX G.T.g G.T.b G.T.builtins G.T.nolimit hg hobj hints (Nat.le_trans hlen (by decide)) hr hF hb (fun H hO hS => ?_) fun H e s' h => ?_
  · refine ⟨H, [.sh (.lst (ns.map D.int))], Same.refl _, ⟨.ref a, [], rfl, ⟨a, ns.map V.int, rfl, hS, reps_ints ns⟩, rfl⟩, rfl, ?_⟩
    rw [hm ns hlen hbits]
    exact fun v B' H' _ r => r
  · obtain ⟨_, _, _, _, _, _, _, _, _, _, _, _, z⟩ := h
    exact z.elim
end Mi

/-! ## 11. list(reversed(xs)), at the library's level -/
namespace Mi
open PySem PySem.Spec PyProof.Rows RT
section
variable {prog : Program} {w : World} {A : Around} {E : Value → Shared → Prop} {s : Shared}
theorem extend_rev {R : Result → Shared → Prop} {it l : Addr} {items : Array Value} (hh : A.handled = none) (hit : s.heap.IsRevIter it l ((items.size : Int) - 1)) (hl : s.heap.IsList l items) (hne : l ≠ it) (hn : items.size ≤ sizeLine) (S : Addr) (res : Value) (c₀ : Nat)
    (hS : s.heap.get? S = some { cls := .type "list", dict := none, data := .seq #[] c₀, slots := #[] }) (hSi : S ≠ it) (hSl : S ≠ l)
    (hR : ∀ h' tk acc c', (∀ b o, b ≠ S → b ≠ it → s.heap.get? b = some o → h'.get? b = some o) → h'.get? S = some { cls := .type "list", dict := none, data := .seq acc c', slots := #[] } →
      ItemsOf (fun i v => items[items.size - 1 - i]? = some v) acc items.size → R (.ok (.ret res)) { s with heap := h', toks := tk }) :
    wpAny (model prog w) A.in1 (Builtin.List.listExtendWith (.ref S) (.ref it) res)
      (fun fin s' => match fin with | .done f => R (.ok f) s' | .again c' => c'.quiet = true ∧ codeAny (model prog w) A c' R s') (fun e s' => R (.error e) s') s := by
  have W := (Walks.listRev (prog := prog) (w := w) (A := A.in1) hh it l hne items).toS
  have hSf : S ∉ [it, l] := by simp only [List.mem_cons, List.not_mem_nil, or_false, not_or]; exact ⟨hSi, hSl⟩
  have hT : s.TypeIs (.ref it) "list_reverseiterator" := Heap.IsRevIter.typeIs hit
  have h1 : Builtin.List.listSameRef (.ref S) (.ref it) = false := by simp [Builtin.List.listSameRef, hSi]
  unfold Builtin.List.listExtendWith
  refine wpAny_bind (wpAny_typeOf hT ?_)
  rw [if_neg (by rw [h1]; decide)]
  refine wpAny_bind (wpAny_pyIter_revIter hit ?_)
  refine wpAny_bind (wpAny_holding ?_)
  unfold Builtin.List.listLengthHint
  refine wpAny_bind (wpAny_specialOf hT nolen_lri ?_)
  show wpAny _ A.in1 (specialOf (Value.ref it) (Str.ofString "__length_hint__") >>= _) _ _ _
  refine wpAny_bind (wpAny_specialOf hT hint_lri ?_)
  generalize hid : ("list_reverseiterator.__length_hint__" : String) = id0
  wp_delta
  rw [show splitId id0 = some ("list_reverseiterator", "__length_hint__") from by subst hid; decide +kernel]
  subst hid
  refine wpAny_bind (wpAny_isInstance (b := true) hT (by rw [isSubtype_type]; kernel_rfl) ?_)
  refine wpAny_pure ?_
  rw [if_neg (by decide)]
  have e0 : ((items.size : Nat) : Int) - 1 - ((0 : Nat) : Int) = (items.size : Int) - 1 := by omega
  refine wpAny_pure ⟨plainId_quiet F.plain_extend_loop _, codeAny_extend_loopS W hn _ hSf _ items.size 0 _ _ _ rfl (Nat.zero_le _) ⟨Nat.zero_le _, by rw [e0]; exact hit, hl⟩ hS (ItemsOf.nil _) fun s' acc' c' hm hS' hacc => ?_⟩
  rw [Moved.eq_with hm]
  refine hR s'.heap s'.toks acc' c' (fun b o hb hb2 e => hm.heap b o (fun hmem => ?_) e) hS' hacc
  rcases List.mem_cons.mp hmem with e' | hmem
  · exact hb e'
  · exact hb2 (List.mem_singleton.mp hmem)
theorem init_rev {R : Result → Shared → Prop} {it l : Addr} {items : Array Value} (hh : A.handled = none) (hit : s.heap.IsRevIter it l ((items.size : Int) - 1)) (hl : s.heap.IsList l items) (hne : l ≠ it) (hn : items.size ≤ sizeLine) (S : Addr)
    (hS : s.heap.get? S = some { cls := .type "list", data := .seq #[] }) (hSi : S ≠ it) (hSl : S ≠ l)
    (hR : ∀ h' tk acc c', (∀ b o, b ≠ S → b ≠ it → s.heap.get? b = some o → h'.get? b = some o) → h'.get? S = some { cls := .type "list", dict := none, data := .seq acc c', slots := #[] } →
      ItemsOf (fun i v => items[items.size - 1 - i]? = some v) acc items.size → R (.ok (.ret .none)) { s with heap := h', toks := tk }) :
    wpAny (model prog w) A.in1 (Builtin.«list.__init__» ⟨[.ref S, .ref it], []⟩)
      (fun fin s' => match fin with | .done f => R (.ok f) s' | .again c' => c'.quiet = true ∧ codeAny (model prog w) A c' R s') (fun e s' => R (.error e) s') s := by
  show wpAny _ _ (do let old ← Builtin.List.listItems (.ref S); Builtin.List.listUpdate (.ref S) (fun _ => #[]); letGo old.toList.reverse; Builtin.List.listExtendWith (.ref S) (.ref it) .none) _ _ s
  refine wpAny_bind ?_
  unfold Builtin.List.listItems
  refine wpAny_bind (wpAny_seqItems hS rfl (wpAny_pure ?_))
  show wpAny _ _ (updateSeq S (fun _ => #[]) >>= fun _ => letGo (#[] : Array Value).toList.reverse >>= fun _ => Builtin.List.listExtendWith (.ref S) (.ref it) .none) _ _ s
  refine wpAny_bind (wpAny_updateSeq hS rfl ?_)
  have hS₂ := Heap.get?_update_self (Obj.mapSeq (fun _ => (#[] : Array Value))) hS rfl
  have oth : ∀ b o, b ≠ S → s.heap.get? b = some o → (s.heap.update S (Obj.mapSeq (fun _ => (#[] : Array Value)))).get? b = some o :=
    fun b o hb e => (Heap.get?_update_other _ _ (Ne.symm hb)).trans e
  refine wpAny_bind (wpAny_letGo ?_)
  obtain ⟨oi, hoi, ci, di⟩ := id hit
  obtain ⟨ol, hol, cl, dl⟩ := id hl
  refine extend_rev (s := { s with heap := s.heap.update S (Obj.mapSeq (fun _ => (#[] : Array Value))) }) hh ⟨oi, oth _ _ (Ne.symm hSi) hoi, ci, di⟩ ⟨ol, oth _ _ (Ne.symm hSl) hol, cl, dl⟩ hne hn S .none _ hS₂ hSi hSl fun h' tk acc' c' hk hS' hacc => ?_
  exact hR h' tk acc' c' (fun b o hb hb2 e => hk b o hb hb2 (oth b o hb e)) hS' hacc
theorem call_list_rev {it l : Addr} {items : Array Value} {Q : Value → Shared → Prop} (hh : A.handled = none) (hit : s.heap.IsRevIter it l ((items.size : Int) - 1)) (hl : s.heap.IsList l items) (hne : l ≠ it) (hn : items.size ≤ sizeLine)
    (hQ : ∀ h' tk acc c', (∀ b o, b ≠ it → s.heap.get? b = some o → h'.get? b = some o) → h'.get? s.heap.objs.size = some { cls := .type "list", dict := none, data := .seq acc c', slots := #[] } →
      ItemsOf (fun i v => items[items.size - 1 - i]? = some v) acc items.size → Q (.ref s.heap.objs.size) { s with heap := h', toks := tk }) :
    wpAny (model prog w) A (call (.type "list") [.ref it]) Q E s := by
  refine callType_codes (Q₁ := fun obj s₁ => obj = .ref s.heap.objs.size ∧ s₁ = { s with heap := s.heap.push { cls := .type "list", data := .seq #[] } }) F.called_list (F.typeCall_list_1 _) F.entry_list_init
    (code_list_new _ ⟨rfl, rfl⟩) fun obj s₁ h₁ => ?_
  obtain ⟨rfl, rfl⟩ := h₁
  have hS : (s.heap.push { cls := .type "list", data := .seq #[] }).get? s.heap.objs.size = some { cls := .type "list", data := .seq #[] } := Heap.get?_push_size _ rfl
  obtain ⟨oi, hoi, ci, di⟩ := id hit
  obtain ⟨ol, hol, cl, dl⟩ := id hl
  refine ⟨⟨_, hS, rfl⟩, F.args_list_init_2 _ _, init_rev (A := A.in1) (s := { s with heap := s.heap.push { cls := .type "list", data := .seq #[] } }) hh ⟨oi, Heap.get?_push_of_some _ hoi, ci, di⟩ ⟨ol, Heap.get?_push_of_some _ hol, cl, dl⟩ hne hn _ hS (Nat.ne_of_gt (Heap.lt_size hoi)) (Nat.ne_of_gt (Heap.lt_size hol)) fun h' tk acc' c' hk hS' hacc => ?_⟩
  exact ⟨rfl, hQ h' tk acc' c' (fun b o hb e => hk b o (Nat.ne_of_lt (Heap.lt_size e)) hb (Heap.get?_push_of_some _ e)) hS' hacc⟩
end
end Mi
namespace Mi
section
open PySem PySem.Spec PyProof.Rows L2 RT
def tLstRev (K : PySem.W.Frag) (te : TE) : TE := fun σ H Q => te σ H fun v H1 => ∃ (a : Addr) (xs : List V), v = .ref a ∧ SqL K H1 a xs ∧ ∀ q, H1 q = none → Q (.ref q) (upd H1 q (.lst xs.reverse))
theorem pe_lstRev {X : Cx} {e : Expr} {te : TE} {p p2 pos pos2 : Pos} (hc : X.calm = true) (hg : Gl X "list") (hm : X.mg "list" = none) (hg2 : Gl X "reversed") (hm2 : X.mg "reversed" = none) (he : PE X e te)
    (hs : starEach [e] X.env = (false, eval e X.env) :: starEach [] X.env := by rfl)
    (hs2 : starEach [.Call (.Name "reversed" p2) [e] [] pos2] X.env = (false, eval (.Call (.Name "reversed" p2) [e] [] pos2) X.env) :: starEach [] X.env := by rfl) :
    PE X (.Call (.Name "list" p) [.Call (.Name "reversed" p2) [e] [] pos2] [] pos) (tLstRev X.K te) := by
  refine ⟨fun pins s σ H Q I h => ?_⟩
  refine Call_ (ld_blt I hg hm boot_list (PyProof.Rows.callWith_type1 (args_cons (Call_ (ld_blt I hg2 hm2 PyProof.Rows.boot_reversed (PyProof.Rows.callWith_type1 (args_cons (thn (he.run pins s σ H _ I h) fun u s1 ⟨v, H1, I1, r1, q1⟩ => args_nil ?_) hs) hs rfl))) hs2) hs2 rfl))
  obtain ⟨a, xs, ev, hq, q⟩ := q1
  subst ev
  obtain rfl : u = Value.ref a := r1
  obtain ⟨its, rv, p', hz⟩ := I1.list hq
  refine call_reversed_list p'.isList (args_nil ?_)
  have k0 : ∀ b o, s1.heap.get? b = some o → (s1.heap.push (revObj a ((its.toArray.size : Int) - 1))).get? b = some o := fun b o e => Heap.get?_push_of_some _ e
  have I2 : Inv X pins σ H1 { s1 with heap := s1.heap.push (revObj a ((its.toArray.size : Int) - 1)) } := I1.kept (t' := s1.toks) k0
  obtain ⟨f0, f1, f2, f3, f4, f5⟩ := I1.fpOk (H' := H1) (b := s1.heap.objs.size) (Nat.le_refl _) (I1.hok.fresh (Nat.le_refl _))
  have hl := p'.isList
  obtain ⟨ol, hol, _⟩ := id hl
  have hne : a ≠ s1.heap.objs.size := Nat.ne_of_lt (Heap.lt_size hol)
  have hn : its.toArray.size ≤ sizeLine := by rw [List.size_toArray, ← rv.length]; exact hz
  refine Mi.call_list_rev (s := { s1 with heap := s1.heap.push (revObj a ((its.toArray.size : Int) - 1)) }) (I1.ok.hd hc) ⟨_, Heap.get?_push_size _ rfl, rfl, rfl⟩ (hl.push _) hne hn fun h' tk acc c' hk e' hi => ?_
  have hsz : (s1.heap.push (revObj a ((its.toArray.size : Int) - 1))).objs.size = s1.heap.objs.size + 1 := Heap.size_push _ _
  refine ⟨.ref _, upd H1 (s1.heap.push (revObj a ((its.toArray.size : Int) - 1))).objs.size (.lst xs.reverse), ?_, rfl, q _ (I2.hok.fresh (Nat.le_refl _))⟩
  refine I1.laid (t' := tk) (fun b o e => hk b o (Nat.ne_of_lt (Heap.lt_size e)) (k0 b o e)) (by rw [hsz]; omega) (show ObjOk X.prog X.w _ _ _ (.lst xs.reverse) from ⟨by rw [List.length_reverse]; exact hz, acc.toList, c', vals_rev rv hi, ?_⟩)
  rw [Array.toArray_toList]
  exact e'
end
open PySem PySem.Spec L2
section
variable {c : Cf} {W : WX} {a b e tg : Expr} {es : List Expr} {f g h : Ev} {p q : Et} {pos pos' : Pos}
@[simp] def eListRev (f : Ev) : Es := fun ρ => (f ρ).bind fun d => match d with
  | .lst ds => .ok ds.reverse
  | _ => .stuck
theorem sf_listRev {x x2 : Str} {p p2 pos2 : Pos} (hx : x = "list") (hg : c.sc.names.lookup x = some .globalImplicit) (hm : c.mg x = none) (hx2 : x2 = "reversed") (hg2 : c.sc.names.lookup x2 = some .globalImplicit) (hm2 : c.mg x2 = none) (ha : SB c W e f)
    (he : ∀ env, starEach [e] env = (false, eval e env) :: starEach [] env := by intro _; rfl) (he2 : ∀ env, starEach [.Call (.Name x2 p2) [e] [] pos2] env = (false, eval (.Call (.Name x2 p2) [e] [] pos2) env) :: starEach [] env := by intro _; rfl) :
    SF c W (.Call (.Name x p) [.Call (.Name x2 p2) [e] [] pos2] [] pos) (eListRev f) := by
  subst hx
  subst hx2
  obtain ⟨t, k, ad⟩ := ha
  refine ⟨tLstRev c.K t, fun X G => by rw [← G.K]; exact pe_lstRev G.calm (by show X.env.scope.names.lookup _ = _; rw [G.sc]; exact hg) (by rw [G.mg]; exact hm) (by show X.env.scope.names.lookup _ = _; rw [G.sc]; exact hg2) (by rw [G.mg]; exact hm2) (k X G) (he X.env) (he2 X.env), fun G B H ρ σ Q m hh => ?_⟩
  refine ad G B H ρ σ _ m ((Po.bind hh).imp fun d B1 H1 e1 h1 v r1 => ?_)
  cases d with
  | lst ds =>
    obtain ⟨p, us, rfl, q1, q2⟩ := r1
    refine ⟨p, us, rfl, q1, fun l hl => ?_⟩
    exact h1 _ _ (Ext.new e1.in_ hl) l _ upd_same (e1.in_.free hl) (e1.h.free hl) q2.rev
  | _ => exact h1.elim
/-! ### what is walked: reversed, zip, enumerate, range with a step, a text -/
/-- a list that stands from here on -/
def SLL (c : Cf) (W : WX) (e : Expr) (f : Es) : Prop := ∃ t : TE, (∀ X, GX c W X → PE X e t) ∧ ∀ (g : Gd) (B H : Hp) (ρ : En) (σ : St) (Q : VK), Mt c.K g B H ρ σ →
  Po c W σ B H (f ρ) (fun ds B' H' => ∀ p vs, (∀ B2 H2, Same B' B2 → Ext g.B g.H B2 H2 → SqL c.K H2 p vs) → SqL c.K H' p vs → Reps c.K B' ds vs → Q (.ref p) H') → t σ H Q
@[simp] def lOf (f : Ev) : Es := fun ρ => (f ρ).bind fun d => match d with
  | .lst ds => .ok ds
  | _ => .stuck
@[simp] def lVar (i : Nat) : Es := fun ρ => match ρ[i]? with
  | some (some (.sh (.lst ds))) => .ok ds
  | some (some (.bo ds)) => .ok ds
  | _ => .stuck
theorem sl_of (he : SE c W e f) : SLL c W e (lOf f) := by
  obtain ⟨t, k, ad⟩ := he
  refine ⟨t, k, fun G B H ρ σ Q m hh => ad G B H ρ σ _ m ((Po.bind hh).imp fun d B1 H1 e1 h1 v r1 => ?_)⟩
  cases d with
  | lst ds =>
    obtain ⟨p, vs, rfl, q1, q2⟩ := r1
    exact ok_refl h1 e1.in_ p vs (fun B' H' s x => x.in_.seq (s.seq q1)) (e1.in_.seq q1) q2
  | _ => exact h1.elim
theorem sl_var {i : Nat} {x : Str} (hN : c.N[i]? = some x) (hv : Vis c.sc x) (hd : (x == ("__debug__" : Str)) = false := by decide) (hcd : (x == ("__classdict__" : Str)) = false := by decide) : SLL c W (.Name x pos) (lVar i) := by
  refine ⟨_, fun X G => pe_var (by rw [G.N]; exact hN) (by rw [G.sc]; exact hv) hd hcd, fun G B H ρ σ Q m hh => ?_⟩
  unfold lVar at hh
  split at hh
  · rename_i ds e
    obtain ⟨v, h1, p, vs, rfl, q1, q2⟩ := m.sl i _ e
    exact ⟨_, h1, ok_refl hh m.sub p vs (fun B' H' s x => x.in_.seq (s.seq q1)) (m.sub.seq q1) q2⟩
  · rename_i ds e
    obtain ⟨v, h1, p, vs, rfl, q1, q2⟩ := m.sl i _ e
    exact ⟨_, h1, ok_refl hh m.sub p vs (fun B' H' s x => x.h.seq q1) (m.ext.h.seq q1) q2⟩
  · exact hh.elim
@[simp] def iRevD (f : Es) : Es := fun ρ => (f ρ).map List.reverse
theorem Reps.revAt {K : PySem.W.Frag} {B : Hp} {ds : List D} {vs : List V} {i : Nat} {d : D} (r : Reps K B ds vs) (h : ds.reverse[i]? = some d) : i < vs.length ∧ ∃ v, vs[vs.length - 1 - i]? = some v ∧ Rep K B d v := by
  obtain ⟨v, e1, e2⟩ := r.rev.get h
  have hi : i < vs.length := by
    have := (List.getElem?_eq_some_iff.mp e1).1
    rwa [List.length_reverse] at this
  rw [List.getElem?_reverse hi] at e1
  exact ⟨hi, v, e1, e2⟩
theorem wk_rev {K : PySem.W.Frag} {g : Gd} {B : Hp} {a : Addr} {vs : List V} {ds : List D} (h : ∀ B' H', Same B B' → Ext g.B g.H B' H' → SqL K H' a vs) (r : Reps K B ds vs) : Wk K g B (Itv K a vs.length) ds.reverse := by
  intro B' H' i s x
  have q := h B' H' s x
  refine ⟨fun d e => ?_, fun hi => ?_⟩
  · obtain ⟨hi, v, e1, e2⟩ := r.revAt e
    refine ⟨⟨hi, vs, v, q, e1⟩, fun y H2 hy => ?_⟩
    obtain ⟨rfl, hy⟩ := hy
    have e3 := hy vs q
    rw [e1] at e3
    cases e3
    exact ⟨B', Ext.refl x.in_, Rep.mono s _ _ e2⟩
  · rw [List.length_reverse, r.length] at hi
    exact hi
theorem si_rev {x : Str} {p : Pos} {f : Es} (hx : x = "reversed") (hg : c.sc.names.lookup x = some .globalImplicit) (hm : c.mg x = none) (ha : SLL c W e f) (he : ∀ env, starEach [e] env = (false, eval e env) :: starEach [] env := by intro _; rfl) : SI c W tg (.Call (.Name x p) [e] [] pos) (iRevD f) := by
  subst hx
  obtain ⟨t, k, ad⟩ := ha
  refine ⟨RT.iRevA c.K t, fun X G => by rw [← G.K]; exact RT.pi_revA (by show X.env.scope.names.lookup _ = _; rw [G.sc]; exact hg) (by rw [G.mg]; exact hm) (k X G) (he X.env), fun G B H ρ σ Q m hh => ?_⟩
  refine ad G B H ρ σ _ m ((Po.map hh).imp fun ds B1 H1 e1 h1 p us q0 q1 q2 => ?_)
  exact ⟨p, us, rfl, .inl ⟨q1, h1 _ (wk_rev q0 q2)⟩⟩
def zipD : List D → List D → List D
  | x :: xs, y :: ys => .tup [x, y] :: zipD xs ys
  | _, _ => []
@[simp] def iZipD (f g : Es) : Es := fun ρ => (f ρ).bind fun x => (g ρ).map fun y => zipD x y
theorem zipD_get : ∀ {xs ys : List D} {i : Nat} {d : D}, (zipD xs ys)[i]? = some d → ∃ x y, xs[i]? = some x ∧ ys[i]? = some y ∧ d = .tup [x, y]
  | x :: xs, y :: ys, 0, d, h => by
    simp [zipD] at h
    exact ⟨x, y, rfl, rfl, h.symm⟩
  | x :: xs, y :: ys, i + 1, d, h => by
    obtain ⟨x', y', h1, h2, h3⟩ := zipD_get (i := i) (d := d) (by simpa [zipD] using h)
    exact ⟨x', y', by simpa using h1, by simpa using h2, h3⟩
  | [], _, _, _, h => by simp [zipD] at h
  | _ :: _, [], _, _, h => by simp [zipD] at h
theorem zipD_len : ∀ {xs ys : List D} {i : Nat}, (zipD xs ys).length ≤ i → xs.length ≤ i ∨ ys.length ≤ i
  | x :: xs, y :: ys, 0, h => by simp [zipD] at h
  | x :: xs, y :: ys, i + 1, h => by
    have := zipD_len (xs := xs) (ys := ys) (i := i) (by simpa [zipD] using h)
    simpa using this
  | [], _, _, _ => .inl (Nat.zero_le _)
  | _ :: _, [], _, _ => .inr (Nat.zero_le _)
theorem rep_pair {K : PySem.W.Frag} {B H : Hp} {T : Addr} {x y : V} {d d' : D} (s : Same B H) (n : H T = none) (r1 : Rep K B d x) (r2 : Rep K B d' y) :
    ∃ B2, Ext B H B2 (upd H T (.tup [x, y])) ∧ Rep K B2 (.tup [d, d']) (.ref T) := by
  have hb : B T = none := s.free n
  refine ⟨upd B T (.tup [x, y]), Ext.newB s n, T, [x, y], rfl, SqT.of upd_same, ?_⟩
  exact ⟨x, [y], rfl, Rep.mono (same_put hb) _ _ r1, y, [], rfl, Rep.mono (same_put hb) _ _ r2, rfl⟩
theorem wk_zip {K : PySem.W.Frag} {g : Gd} {B : Hp} {a b : Addr} {vs us : List V} {ds es : List D} (h : ∀ B' H', Same B B' → Ext g.B g.H B' H' → SqL K H' a vs) (h' : ∀ B' H', Same B B' → Ext g.B g.H B' H' → SqL K H' b us) (r : Reps K B ds vs) (r' : Reps K B es us) :
    Wk K g B (Itz K a b) (zipD ds es) := by
  intro B' H' i s x
  have q := h B' H' s x
  have q' := h' B' H' s x
  refine ⟨fun d e => ?_, fun hi => ⟨vs, us, q, q', by have := zipD_len hi; rw [r.length, r'.length] at this; exact this⟩⟩
  obtain ⟨d1, d2, e1, e2, rfl⟩ := zipD_get e
  obtain ⟨v1, f1, g1⟩ := r.get e1
  obtain ⟨v2, f2, g2⟩ := r'.get e2
  refine ⟨⟨vs, us, v1, v2, q, q', f1, f2⟩, fun y H2 hy => ?_⟩
  obtain ⟨T, x1, x2, rfl, n, rfl, k1, k2⟩ := hy
  have e3 := k1 vs q
  have e4 := k2 us q'
  rw [f1] at e3
  rw [f2] at e4
  cases e3
  cases e4
  exact rep_pair x.in_ n (Rep.mono s _ _ g1) (Rep.mono s _ _ g2)
theorem si_zip {x : Str} {p tpos : Pos} {elts : List Expr} {kk : Nat} {f g : Es} (hx : x = "zip") (hg : c.sc.names.lookup x = some .globalImplicit) (hm : c.mg x = none) (ha : SLL c W a f) (hb : SLL c W b g)
    (h1 : ∀ env, starEach [a, b] env = (false, eval a env) :: starEach [b] env := by intro _; rfl) (h2 : ∀ env, starEach [b] env = (false, eval b env) :: starEach [] env := by intro _; rfl) (hpl : ∀ env, (backTo pos (starEach [b] env)).any (·.1) = false := by intro _; rfl) : SI c W (.Tuple elts kk tpos) (.Call (.Name x p) [a, b] [] pos) (iZipD f g) := by
  subst hx
  obtain ⟨t, k, ad⟩ := ha
  obtain ⟨t2, k2, ad2⟩ := hb
  refine ⟨iZip c.K (tCons t (tCons t2 tNil)), fun X G => by rw [← G.K]; exact pi_zip (by show X.env.scope.names.lookup _ = _; rw [G.sc]; exact hg) (by rw [G.mg]; exact hm) (pa_cons (k X G) (pa_cons (k2 X G) pa_nil (h2 X.env)) (h1 X.env)) (h1 X.env) (hpl X.env), fun G B H ρ σ Q m hh => ?_⟩
  refine ad G B H ρ σ _ m ((Po.bind hh).imp fun ds B1 H1 e1 q1 p1 vs a0 a1 a2 => ?_)
  refine ad2 G B1 H1 ρ σ _ (m.go e1) ((Po.map q1).imp fun es B2 H2 e2 q2 p2 us b0 b1 b2 => ?_)
  have m2 := (m.go e1).go e2
  exact ⟨p1, p2, vs, us, rfl, a0 B2 H2 e2.b m2.ext, b1, q2 _ (wk_zip (fun B' H' s x => a0 B' H' (e2.b.trans s) x) b0 (Reps.mono e2.b _ _ a2) b2)⟩
def enumD (n : Nat) : List D → List D
  | [] => []
  | x :: xs => .tup [.int n, x] :: enumD (n + 1) xs
@[simp] def iEnumD (f : Es) : Es := fun ρ => (f ρ).map (enumD 0)
theorem enumD_get : ∀ {xs : List D} {n i : Nat} {d : D}, (enumD n xs)[i]? = some d → ∃ x, xs[i]? = some x ∧ d = .tup [.int ((n + i : Nat) : Int), x]
  | x :: xs, n, 0, d, h => by
    simp [enumD] at h
    exact ⟨x, rfl, h.symm⟩
  | x :: xs, n, i + 1, d, h => by
    obtain ⟨x', h1, h3⟩ := enumD_get (n := n + 1) (i := i) (d := d) (by simpa [enumD] using h)
    refine ⟨x', by simpa using h1, ?_⟩
    rw [h3, show n + 1 + i = n + (i + 1) by omega]
  | [], _, _, _, h => by simp [enumD] at h
theorem enumD_len : ∀ {xs : List D} {n : Nat}, (enumD n xs).length = xs.length
  | [], _ => rfl
  | _ :: xs, n => by simp [enumD, enumD_len (xs := xs)]
theorem si_enum {x : Str} {p tpos : Pos} {elts : List Expr} {kk : Nat} {f : Es} (hx : x = "enumerate") (hg : c.sc.names.lookup x = some .globalImplicit) (hm : c.mg x = none) (ha : SLL c W a f)
    (h1 : ∀ env, starEach [a] env = [(false, eval a env)] := by intro _; rfl) : SI c W (.Tuple elts kk tpos) (.Call (.Name x p) [a] [] pos) (iEnumD f) := by
  subst hx
  obtain ⟨t, k, ad⟩ := ha
  refine ⟨iEnum c.K (tCons t tNil), fun X G => by rw [← G.K]; exact pi_enum (by show X.env.scope.names.lookup _ = _; rw [G.sc]; exact hg) (by rw [G.mg]; exact hm) (pa_cons (k X G) pa_nil (by rw [h1]; rfl)) (h1 X.env), fun G B H ρ σ Q m hh => ?_⟩
  refine ad G B H ρ σ _ m ((Po.map hh).imp fun ds B1 H1 e1 q1 p1 vs a0 a1 a2 => ?_)
  refine ⟨p1, vs, rfl, a1, q1 _ fun B' H' i s x => ?_⟩
  have q : SqL c.K H' p1 vs := a0 B' H' s x
  refine ⟨fun d e => ?_, fun hi => ⟨vs, q, by rw [enumD_len, a2.length] at hi; exact hi⟩⟩
  obtain ⟨d1, f1, rfl⟩ := enumD_get e
  obtain ⟨v1, f2, g1⟩ := a2.get f1
  refine ⟨⟨vs, v1, q, f2⟩, fun y H2 hy => ?_⟩
  obtain ⟨T, x1, rfl, n, rfl, k1⟩ := hy
  have e3 := k1 vs q
  rw [f2] at e3
  cases e3
  rw [Nat.zero_add]
  exact rep_pair x.in_ n rfl (Rep.mono s _ _ g1)
def rngC (lo c : Int) (n : Nat) : List D := (List.range n).map fun (i : Nat) => D.int (lo + (i : Int) * c)
theorem wk_rngC {K : PySem.W.Frag} {g : Gd} {B : Hp} {lo c : Int} {n : Nat} : Wk K g B (Itc lo c n) (rngC lo c n) := by
  intro B' H' i s x
  refine ⟨fun d e => ?_, fun hi => ?_⟩
  · unfold rngC at e
    rw [List.getElem?_map] at e
    by_cases hi : i < n
    · rw [List.getElem?_range hi] at e
      cases e
      refine ⟨hi, fun y H2 hy => ?_⟩
      obtain ⟨rfl, rfl⟩ := hy
      exact ⟨B', Ext.refl x.in_, rfl⟩
    · rw [List.getElem?_eq_none (by rw [List.length_range]; omega)] at e
      cases e
  · unfold rngC at hi
    rw [List.length_map, List.length_range] at hi
    exact hi
/-- range(i, j, k), 0 < k: the count of items -/
def rngN (i j k : Int) : Nat := ((j - i + k - 1) / k).toNat
noncomputable def iRng3D (f g h : Ev) : Es := fun ρ => (f ρ).bind fun x => (g ρ).bind fun y => (h ρ).bind fun z => match x, y, z with
  | .int i, .int j, .int k => if (-big6 ≤ i ∧ i < big6) ∧ (-big6 ≤ j ∧ j < big6) ∧ 0 < k ∧ k < big6 then .ok (rngC i k (rngN i j k)) else .stuck
  | _, _, _ => .stuck
theorem small_of3 {i j k : Int} (h : (-1000000 ≤ i ∧ i < 1000000) ∧ (-1000000 ≤ j ∧ j < 1000000) ∧ 0 < k ∧ k < 1000000) : RgC i j k (rngN i j k) := by
  have key : Builtin.Range.rangeSize i j k = (rngN i j k : Int) ∧ (rngN i j k : Int) ≤ 2000000 := by
    unfold Builtin.Range.rangeSize rngN
    rw [if_pos (by omega)]
    split
    · rename_i hij
      have e : j - i + k - 1 = (j - i - 1) + 1 * k := by omega
      have h1 : 0 ≤ (j - i - 1) / k := Int.ediv_nonneg (by omega) (by omega)
      have h2 : (j - i - 1) / k ≤ j - i - 1 := Int.ediv_le_self _ (by omega)
      rw [e, Int.add_mul_ediv_right _ _ (by omega)]
      omega
    · have h1 : (j - i + k - 1) / k < 1 := Int.ediv_lt_of_lt_mul (by omega) (by omega)
      omega
  refine ⟨by omega, by omega, ?_, key.1⟩
  unfold Builtin.Range.small
  rw [key.1]
  have h2 := key.2
  simp only [Builtin.Range.rangeFitsLong, Bool.and_eq_true, Bool.or_eq_true, decide_eq_true_eq, beq_iff_eq, show k > 0 by omega, if_true]
  omega
theorem si_range3 {d : Expr} {x : Str} {p : Pos} (hx : x = "range") (hg : c.sc.names.lookup x = some .globalImplicit) (hm : c.mg x = none) (ha : SE c W a f) (hb : SE c W b g) (hd : SE c W d h) (hs : ∀ env, starEach [a, b, d] env = (false, eval a env) :: starEach [b, d] env := by intro _; rfl) (hs2 : ∀ env, starEach [b, d] env = (false, eval b env) :: starEach [d] env := by intro _; rfl)
    (hs3 : ∀ env, starEach [d] env = (false, eval d env) :: starEach [] env := by intro _; rfl) (hpl : ∀ env, (backTo pos (starEach [b, d] env)).any (·.1) = false := by intro _; rfl) : SI c W tg (.Call (.Name x p) [a, b, d] [] pos) (iRng3D f g h) := by
  subst hx
  obtain ⟨t, k, ad⟩ := ha
  obtain ⟨t2, k2, ad2⟩ := hb
  obtain ⟨t3, k3, ad3⟩ := hd
  refine ⟨_, fun X G => pi_range3 (ta := tCons t (tCons t2 (tCons t3 tNil))) (by show X.env.scope.names.lookup _ = _; rw [G.sc]; exact hg) (by rw [G.mg]; exact hm) (pa_cons (k X G) (pa_cons (k2 X G) (pa_cons (k3 X G) pa_nil (hs3 X.env)) (hs2 X.env)) (hs X.env)) (hs X.env) (hpl X.env), fun G B H ρ σ Q m hh => ?_⟩
  refine ad G B H ρ σ _ m ((Po.bind hh).imp fun d B1 H1 e1 h1 v r1 => ?_)
  refine ad2 G B1 H1 ρ σ _ (m.go e1) ((Po.bind h1).imp fun d2 B2 H2 e2 h2 v2 r2 => ?_)
  refine ad3 G B2 H2 ρ σ _ ((m.go e1).go e2) ((Po.bind h2).imp fun d3 B3 H3 e3 h3 v3 r3 => ?_)
  cases d with
  | int i => cases d2 with
    | int j => cases d3 with
      | int k =>
        cases (show v = .int i from r1)
        cases (show v2 = .int j from r2)
        cases (show v3 = .int k from r3)
        dsimp only at h3
        split at h3
        · rename_i hz
          rw [big6_eq] at hz
          exact ⟨i, j, k, _, rfl, small_of3 hz, ok_refl h3 e3.in_ _ wk_rngC⟩
        · exact h3.elim
      | _ => exact h3.elim
    | _ => exact h3.elim
  | _ => exact h3.elim
/-- range(i, j, -1) -/
noncomputable def iRngDn (f g : Ev) : Es := fun ρ => (f ρ).bind fun x => (g ρ).bind fun y => match x, y with
  | .int i, .int j => if (-big62 ≤ i ∧ i < big62) ∧ -big62 ≤ j ∧ j < big62 then .ok (rngC i (-1) (i - j).toNat) else .stuck
  | _, _ => .stuck
theorem si_rangeDn {d : Expr} {x : Str} {p : Pos} (hx : x = "range") (hg : c.sc.names.lookup x = some .globalImplicit) (hm : c.mg x = none) (ha : SE c W a f) (hb : SE c W b g) (hd : SE c W d (eD (.int (-1)))) (hs : ∀ env, starEach [a, b, d] env = (false, eval a env) :: starEach [b, d] env := by intro _; rfl) (hs2 : ∀ env, starEach [b, d] env = (false, eval b env) :: starEach [d] env := by intro _; rfl)
    (hs3 : ∀ env, starEach [d] env = (false, eval d env) :: starEach [] env := by intro _; rfl) (hpl : ∀ env, (backTo pos (starEach [b, d] env)).any (·.1) = false := by intro _; rfl) : SI c W tg (.Call (.Name x p) [a, b, d] [] pos) (iRngDn f g) := by
  subst hx
  obtain ⟨t, k, ad⟩ := ha
  obtain ⟨t2, k2, ad2⟩ := hb
  obtain ⟨t3, k3, ad3⟩ := hd
  refine ⟨_, fun X G => pi_range3 (ta := tCons t (tCons t2 (tCons t3 tNil))) (by show X.env.scope.names.lookup _ = _; rw [G.sc]; exact hg) (by rw [G.mg]; exact hm) (pa_cons (k X G) (pa_cons (k2 X G) (pa_cons (k3 X G) pa_nil (hs3 X.env)) (hs2 X.env)) (hs X.env)) (hs X.env) (hpl X.env), fun G B H ρ σ Q m hh => ?_⟩
  refine ad G B H ρ σ _ m ((Po.bind hh).imp fun d B1 H1 e1 h1 v r1 => ?_)
  refine ad2 G B1 H1 ρ σ _ (m.go e1) ((Po.bind h1).imp fun d2 B2 H2 e2 h2 v2 r2 => ?_)
  refine ad3 G B2 H2 ρ σ _ ((m.go e1).go e2) fun B3 H3 e3 v3 r3 => ?_
  have h3 := h2.ext e3
  cases d with
  | int i => cases d2 with
    | int j =>
      cases (show v = .int i from r1)
      cases (show v2 = .int j from r2)
      cases (show v3 = .int (-1) from r3)
      dsimp only at h3
      split at h3
      · rename_i hz
        rw [big62_eq] at hz
        exact ⟨i, j, -1, _, rfl, RgC.neg (by omega) (by omega) (by omega) (by omega), ok_refl h3 e3.in_ _ wk_rngC⟩
      · exact h3.elim
    | _ => exact h3.elim
  | _ => exact h3.elim
def strD (z : Str) : List D := z.cps.toList.map fun k => .str ⟨#[k]⟩
@[simp] def iStrD (f : Ev) : Es := fun ρ => (f ρ).bind fun x => match x with
  | .str z => .ok (strD z)
  | _ => .stuck
theorem si_str (ha : SE c W a f) : SI c W tg a (iStrD f) := by
  obtain ⟨t, k, ad⟩ := ha
  refine ⟨iStr t, fun X G => pi_str (k X G), fun G B H ρ σ Q m hh => ?_⟩
  refine ad G B H ρ σ _ m ((Po.bind hh).imp fun d B1 H1 e1 q1 v r1 => ?_)
  cases d with
  | str z =>
    refine ⟨z, r1, ok_refl q1 e1.in_ _ fun B' H' i s x => ?_⟩
    unfold strD
    refine ⟨fun d e => ?_, fun hi => (by simpa using hi : z.cps.size ≤ i)⟩
    rw [List.getElem?_map] at e
    cases e0 : z.cps[i]? with
    | none => simp [e0] at e
    | some k =>
      simp [e0] at e
      subst e
      have hi : i < z.cps.size := (Array.getElem?_eq_some_iff.mp e0).1
      refine ⟨hi, fun y H2 hy => ?_⟩
      obtain ⟨rfl, k', hk', rfl⟩ := hy
      rw [e0] at hk'
      cases hk'
      exact ⟨B', Ext.refl x.in_, rfl⟩
  | _ => exact q1.elim
/-! ### sum, any, all -/
def allI : List D → Option (List Int)
  | [] => some []
  | .int i :: ds => (allI ds).map (i :: ·)
  | _ :: _ => none
def allB : List D → Option (List Bool)
  | [] => some []
  | .bl i :: ds => (allB ds).map (i :: ·)
  | _ :: _ => none
theorem Reps.ints {K : PySem.W.Frag} {B : Hp} : ∀ {ds : List D} {vs : List V} {ns : List Int}, Reps K B ds vs → allI ds = some ns → vs = ns.map V.int
  | [], vs, ns, h, e => by
    cases e
    exact h
  | d :: ds, _, ns, ⟨v, r, rfl, h1, h2⟩, e => by
    cases d with
    | int i =>
      unfold allI at e
      cases e1 : allI ds with
      | none => rw [e1] at e; cases e
      | some ms =>
        rw [e1] at e
        cases e
        cases (show v = .int i from h1)
        rw [Reps.ints h2 e1, List.map_cons]
    | _ => cases e
theorem Reps.bools {K : PySem.W.Frag} {B : Hp} : ∀ {ds : List D} {vs : List V} {ns : List Bool}, Reps K B ds vs → allB ds = some ns → vs = ns.map V.bl
  | [], vs, ns, h, e => by
    cases e
    exact h
  | d :: ds, _, ns, ⟨v, r, rfl, h1, h2⟩, e => by
    cases d with
    | bl i =>
      unfold allB at e
      cases e1 : allB ds with
      | none => rw [e1] at e; cases e
      | some ms =>
        rw [e1] at e
        cases e
        rw [Reps.bools h2 e1, List.map_cons]
        cases (show v = .bl i from h1)
        rfl
    | _ => cases e
def oSum : List D → R D
  | [.lst ds] => match allI ds with
    | some ns => .ok (.int ns.sum)
    | none => .stuck
  | _ => .stuck
def oAny : List D → R D
  | [.lst ds] => match allB ds with
    | some ns => .ok (.bl (ns.any id))
    | none => .stuck
  | _ => .stuck
def oAll : List D → R D
  | [.lst ds] => match allB ds with
    | some ns => .ok (.bl (ns.all id))
    | none => .stuck
  | _ => .stuck
theorem ac_sum : AdC c W (rSum c.K) oSum := by
  intro σ B H ds vs Q s r h
  rcases ds with _ | ⟨d, _ | ⟨d2, ds⟩⟩
  · exact h.elim
  · obtain ⟨v, rfl, r1⟩ := r.one
    cases d with
    | lst ds =>
      obtain ⟨p, us, rfl, q1, q2⟩ := r1
      unfold oSum at h
      dsimp only at h
      split at h
      · rename_i ns hns
        rw [q2.ints hns] at q1
        exact ⟨p, ns, rfl, q1, ok_refl h s _ rfl⟩
      · exact h.elim
    | _ => exact h.elim
  · cases d <;> exact h.elim
theorem ac_any : AdC c W (rAny c.K) oAny := by
  intro σ B H ds vs Q s r h
  rcases ds with _ | ⟨d, _ | ⟨d2, ds⟩⟩
  · exact h.elim
  · obtain ⟨v, rfl, r1⟩ := r.one
    cases d with
    | lst ds =>
      obtain ⟨p, us, rfl, q1, q2⟩ := r1
      unfold oAny at h
      dsimp only at h
      split at h
      · rename_i ns hns
        rw [q2.bools hns] at q1
        exact ⟨p, ns, rfl, q1, ok_refl h s _ rfl⟩
      · exact h.elim
    | _ => exact h.elim
  · cases d <;> exact h.elim
theorem ac_all : AdC c W (rAll c.K) oAll := by
  intro σ B H ds vs Q s r h
  rcases ds with _ | ⟨d, _ | ⟨d2, ds⟩⟩
  · exact h.elim
  · obtain ⟨v, rfl, r1⟩ := r.one
    cases d with
    | lst ds =>
      obtain ⟨p, us, rfl, q1, q2⟩ := r1
      unfold oAll at h
      dsimp only at h
      split at h
      · rename_i ns hns
        rw [q2.bools hns] at q1
        exact ⟨p, ns, rfl, q1, ok_refl h s _ rfl⟩
      · exact h.elim
    | _ => exact h.elim
  · cases d <;> exact h.elim
theorem se_sum {x : Str} {p : Pos} (hx : x = "sum") (hg : c.sc.names.lookup x = some .globalImplicit) (hm : c.mg x = none) (ha : SB c W e f) (he : ∀ env, starEach [e] env = (false, eval e env) :: starEach [] env := by intro _; rfl) : SE c W (.Call (.Name x p) [e] [] pos) (eCall oSum (vCons f vNil)) := by
  subst hx
  exact se_callB (fun X G => by rw [← G.K]; exact cr_sum G.calm) ac_sum hg hm (by decide +kernel) (sbs_cons ha sbs_nil he) (by decide) (by decide) he (fun _ => rfl)
theorem se_any {x : Str} {p : Pos} (hx : x = "any") (hg : c.sc.names.lookup x = some .globalImplicit) (hm : c.mg x = none) (ha : SB c W e f) (he : ∀ env, starEach [e] env = (false, eval e env) :: starEach [] env := by intro _; rfl) : SE c W (.Call (.Name x p) [e] [] pos) (eCall oAny (vCons f vNil)) := by
  subst hx
  exact se_callB (fun X G => by rw [← G.K]; exact cr_any G.calm) ac_any hg hm (by decide +kernel) (sbs_cons ha sbs_nil he) (by decide) (by decide) he (fun _ => rfl)
theorem se_all {x : Str} {p : Pos} (hx : x = "all") (hg : c.sc.names.lookup x = some .globalImplicit) (hm : c.mg x = none) (ha : SB c W e f) (he : ∀ env, starEach [e] env = (false, eval e env) :: starEach [] env := by intro _; rfl) : SE c W (.Call (.Name x p) [e] [] pos) (eCall oAll (vCons f vNil)) := by
  subst hx
  exact se_callB (fun X G => by rw [← G.K]; exact cr_all G.calm) ac_all hg hm (by decide +kernel) (sbs_cons ha sbs_nil he) (by decide) (by decide) he (fun _ => rfl)
end
end Mi

/-! ## Plain laws about the combinators -/
namespace Mi
open PySem PySem.Spec L2
/-! sizes -/
class Bd (n : outParam Nat) (x : Int) : Prop where
  lt : x.natAbs < 2 ^ n
theorem Bd.of {x : Int} {N : Nat} (h : x.natAbs ≤ N) : Bd (N.log2 + 1) x := ⟨Nat.lt_of_le_of_lt h Nat.lt_log2_self⟩
theorem Bd.up {m n : Nat} {x : Int} (h : Bd m x) (l : m ≤ n) : Bd n x := ⟨Nat.lt_of_lt_of_le h.lt (Nat.pow_le_pow_right (by decide) l)⟩
theorem bd_lit (n : Nat) : Bd (n.log2 + 1) (@OfNat.ofNat Int n _) := .of (Nat.le_refl n)
theorem bd_self (x : Int) : Bd (x.natAbs.log2 + 1) x := .of (Nat.le_refl _)
instance (priority := 10) bd_any {x : Int} : Bd (x.natAbs.log2 + 1) x := bd_self x
theorem bd_neg' {n : Nat} {x : Int} (h : Bd n x) : Bd n (-x) := ⟨by rw [Int.natAbs_neg]; exact h.lt⟩
instance bd_neg {n : Nat} {x : Int} [h : Bd n x] : Bd n (-x) := bd_neg' h
theorem pow_sum {a b : Nat} : 2 ^ a + 2 ^ b ≤ 2 ^ (Nat.max a b + 1) := by
  have h1 : 2 ^ a ≤ 2 ^ (Nat.max a b) := Nat.pow_le_pow_right (by decide) (Nat.le_max_left a b)
  have h2 : 2 ^ b ≤ 2 ^ (Nat.max a b) := Nat.pow_le_pow_right (by decide) (Nat.le_max_right a b)
  rw [Nat.pow_succ]
  omega
instance bd_add {a b : Nat} {x y : Int} [h : Bd a x] [h' : Bd b y] : Bd (Nat.max a b + 1) (x + y) := ⟨by
  have := h.lt
  have := h'.lt
  have := @pow_sum a b
  have := Int.natAbs_add_le x y
  omega⟩
instance bd_sub {a b : Nat} {x y : Int} [h : Bd a x] [h' : Bd b y] : Bd (Nat.max a b + 1) (x - y) := ⟨by
  have := h.lt
  have := h'.lt
  have := @pow_sum a b
  have : (x - y).natAbs ≤ x.natAbs + y.natAbs := by omega
  omega⟩
instance bd_mul {a b : Nat} {x y : Int} [h : Bd a x] [h' : Bd b y] : Bd (a + b) (x * y) := ⟨by
  rw [Int.natAbs_mul, Nat.pow_add]
  exact Nat.mul_lt_mul'' h.lt h'.lt⟩
theorem bd_mod' {b : Nat} {x y : Int} (p : 0 < y) (h : Bd b y) : Bd b (x % y) := ⟨by
  have := h.lt
  have := Int.emod_nonneg x (show y ≠ 0 by omega)
  have := Int.emod_lt_of_pos x p
  omega⟩
instance bd_mod {a : Nat} {x y : Int} [h : Bd a x] : Bd (if y = 0 then a else y.natAbs.log2 + 1) (x % y) := by
  by_cases e : y = 0
  · rw [if_pos e, e, Int.emod_zero]
    exact h
  · rw [if_neg e]
    have h1 := Int.emod_nonneg x e
    have h2 := Int.emod_lt x e
    exact .of (by omega)
instance bd_pow {a : Nat} {x : Int} (k : Nat) [h : Bd a x] : Bd (a * k + 1) (x ^ k) := ⟨by
  rw [Int.natAbs_pow]
  have h1 : x.natAbs ^ k ≤ (2 ^ a) ^ k := Nat.pow_le_pow_left (Nat.le_of_lt h.lt) k
  rw [← Nat.pow_mul] at h1
  have h2 : 0 < 2 ^ (a * k) := Nat.pow_pos (by decide)
  rw [Nat.pow_succ]
  omega⟩
theorem natAbs_div_le (x y : Int) : (x / y).natAbs ≤ x.natAbs := Int.natAbs_ediv_le_natAbs x y
instance bd_div {a : Nat} {x y : Int} [h : Bd a x] : Bd a (x / y) := ⟨Nat.lt_of_le_of_lt (natAbs_div_le x y) h.lt⟩
theorem log_le {n : Nat} {x : Int} (h : Bd n x) : x.natAbs.log2 ≤ n := by
  by_cases h0 : x.natAbs = 0
  · rw [h0]
    exact Nat.zero_le _
  · exact Nat.le_of_lt ((Nat.log2_lt h0).mpr h.lt)
theorem mulOk_i {a b : Nat} {x y : Int} [h : Bd a x] [h' : Bd b y] (l : Nat.blt (a + b) 130000000 = true) : mulOk x y = true := by
  have := log_le h
  have := log_le h'
  have l' : a + b < 130000000 := by rw [Nat.blt_eq] at l; exact l
  exact decide_eq_true (by omega)
theorem logOk_i {a : Nat} {x : Int} [h : Bd a x] (l : Nat.blt a 9000 = true) : x.natAbs.log2 < 9000 := by
  have := log_le h
  have l' : a < 9000 := by rw [Nat.blt_eq] at l; exact l
  omega
theorem divOk_i {a : Nat} {x : Int} [h : Bd a x] (l : Nat.blt a 9000 = true) : divOk x = true := decide_eq_true (logOk_i l)
@[simp] theorem divOk_lit {x : Int} (h : x.natAbs < 2 ^ 250) : divOk x = true := @divOk_i 250 x ⟨h⟩ (by rfl)
@[simp] theorem mulOk_lit {x y : Int} (h : x.natAbs < 2 ^ 250) (h' : y.natAbs < 2 ^ 250) : mulOk x y = true := @mulOk_i 250 250 x y ⟨h⟩ ⟨h'⟩ (by rfl)
theorem Bd.cell {z : Int} (h : Builtin.Int.intBits z ≤ 1048576) : Bd 1048576 z := by
  constructor
  unfold Builtin.Int.intBits at h
  split at h
  · rename_i h0
    have e : z = 0 := by simpa using h0
    rw [e]
    exact Nat.pow_pos (by decide)
  · exact Nat.lt_of_lt_of_le Nat.lt_log2_self (Nat.pow_le_pow_right (by decide) h)

/-! loops -/
/-- one turn of a loop's body -/
def turnR (gt : Gt) (u : Sv) (d : D) (ρ : En) : Fl := (gt d ρ).fl fun ρ1 => (u ρ1).turn .nx
theorem forR_cons {gt : Gt} {u : Sv} {d : D} {ds : List D} {ρ : En} : forR gt u (d :: ds) ρ = (gt d ρ).fl fun ρ1 => (u ρ1).turn (forR gt u ds) := rfl
theorem forR_nil {gt : Gt} {u : Sv} {ρ : En} : forR gt u [] ρ = .nx ρ := rfl
/-- a break is not the end of a turn by turnR: where the body breaks, forR_bk -/
def noBk : Fl → Bool
  | .bk _ => false
  | _ => true
def turnB (gt : Gt) (u : Sv) (d : D) (ρ : En) : Fl := (gt d ρ).fl u
theorem forR_nx {gt : Gt} {u : Sv} {d : D} {ds : List D} {ρ ρ' : En} (h : turnB gt u d ρ = .nx ρ') : forR gt u (d :: ds) ρ = forR gt u ds ρ' := by
  unfold turnB at h
  rw [forR_cons]
  cases hg : gt d ρ with
  | ok ρ1 =>
    rw [hg] at h
    simp only [R.fl] at h ⊢
    rw [h] <;> rfl
  | exc c => rw [hg] at h; cases h
  | stuck => rw [hg] at h; cases h
theorem forR_ct {gt : Gt} {u : Sv} {d : D} {ds : List D} {ρ ρ' : En} (h : turnB gt u d ρ = .ct ρ') : forR gt u (d :: ds) ρ = forR gt u ds ρ' := by
  unfold turnB at h
  rw [forR_cons]
  cases hg : gt d ρ with
  | ok ρ1 =>
    rw [hg] at h
    simp only [R.fl] at h ⊢
    rw [h] <;> rfl
  | exc c => rw [hg] at h; cases h
  | stuck => rw [hg] at h; cases h
theorem forR_rt {gt : Gt} {u : Sv} {d : D} {ds : List D} {ρ : En} {s : Sl} (h : turnB gt u d ρ = .rt s) : forR gt u (d :: ds) ρ = .rt s := by
  unfold turnB at h
  rw [forR_cons]
  cases hg : gt d ρ with
  | ok ρ1 =>
    rw [hg] at h
    simp only [R.fl] at h ⊢
    rw [h] <;> rfl
  | exc c => rw [hg] at h; cases h
  | stuck => rw [hg] at h; cases h
theorem forR_exc {gt : Gt} {u : Sv} {d : D} {ds : List D} {ρ ρ' : En} {x : Str} (h : turnB gt u d ρ = .exc x ρ') : forR gt u (d :: ds) ρ = .exc x ρ' := by
  unfold turnB at h
  rw [forR_cons]
  cases hg : gt d ρ with
  | ok ρ1 =>
    rw [hg] at h
    simp only [R.fl] at h ⊢
    rw [h] <;> rfl
  | exc c => rw [hg] at h; cases h
  | stuck => rw [hg] at h; cases h
/-- a loop that carries a state on: the turns of typed items -/
theorem forR_fold {σ τ : Type} {gt : Gt} {u : Sv} (enc : σ → En) (val : τ → D) (stp : σ → τ → σ) (I : σ → Prop) :
    ∀ (xs : List τ) (s : σ), I s → (∀ s x, x ∈ xs → I s → turnB gt u (val x) (enc s) = .nx (enc (stp s x)) ∧ I (stp s x)) → forR gt u (xs.map val) (enc s) = .nx (enc (xs.foldl stp s)) ∧ I (xs.foldl stp s)
  | [], s, i, _ => ⟨rfl, i⟩
  | x :: xs, s, i, h => by
    obtain ⟨h1, h2⟩ := h s x (List.mem_cons_self ..) i
    rw [List.map_cons, forR_nx h1]
    exact forR_fold enc val stp I xs _ h2 fun s y hy => h s y (List.mem_cons_of_mem _ hy)
/-- an invariant that knows how many items were met -/
theorem forR_inv {τ : Type} {gt : Gt} {u : Sv} (val : τ → D) (I : List τ → En → Prop) :
    ∀ (done xs : List τ) (ρ : En), I done ρ → (∀ done x rest ρ, done ++ x :: rest = done ++ x :: rest → I done ρ → (∃ a b, a ++ x :: b = a ++ x :: b) → x ∈ xs → ∃ ρ', turnB gt u (val x) ρ = .nx ρ' ∧ I (done ++ [x]) ρ') → ∃ ρ', forR gt u (xs.map val) ρ = .nx ρ' ∧ I (done ++ xs) ρ'
  | done, [], ρ, i, _ => ⟨ρ, rfl, by rw [List.append_nil]; exact i⟩
  | done, x :: xs, ρ, i, h => by
    obtain ⟨ρ', h1, h2⟩ := h done x [] ρ rfl i ⟨[], [], rfl⟩ (List.mem_cons_self ..)
    obtain ⟨ρ2, h3, h4⟩ := forR_inv val I (done ++ [x]) xs ρ' h2 fun done y rest ρ e i z hy => h done y rest ρ e i z (List.mem_cons_of_mem _ hy)
    exact ⟨ρ2, by rw [List.map_cons, forR_nx h1]; exact h3, by rw [List.append_assoc] at h4; exact h4⟩
/-- every turn leaves all as it was -/
theorem forR_keep {τ : Type} {gt : Gt} {u : Sv} {ρ : En} (val : τ → D) : ∀ (xs : List τ), (∀ x, x ∈ xs → turnB gt u (val x) ρ = .nx ρ) → forR gt u (xs.map val) ρ = .nx ρ
  | [], _ => rfl
  | x :: xs, h => by
    rw [List.map_cons, forR_nx (h x (List.mem_cons_self ..))]
    exact forR_keep val xs fun y hy => h y (List.mem_cons_of_mem _ hy)
/-- a search -/
theorem forR_find {τ : Type} {gt : Gt} {u : Sv} {ρ : En} (val : τ → D) (q : τ → Bool) (r : τ → Sl) : ∀ (xs : List τ), (∀ x, x ∈ xs → turnB gt u (val x) ρ = if q x = true then .rt (r x) else .nx ρ) →
    forR gt u (xs.map val) ρ = match xs.find? q with
      | some x => .rt (r x)
      | none => .nx ρ
  | [], _ => rfl
  | x :: xs, h => by
    have h1 := h x (List.mem_cons_self ..)
    rw [List.map_cons, List.find?_cons]
    cases hq : q x with
    | true =>
      rw [hq, if_pos rfl] at h1
      exact forR_rt h1
    | false =>
      rw [hq, if_neg Bool.false_ne_true] at h1
      rw [forR_nx h1]
      exact forR_find val q r xs fun y hy => h y (List.mem_cons_of_mem _ hy)
/-- by the number of items that were met -/
theorem forR_nat {gt : Gt} {u : Sv} (I : Nat → En → Prop) : ∀ (ds : List D) (k : Nat) (ρ : En), I k ρ → (∀ i d ρ, ds[i]? = some d → I (k + i) ρ → ∃ ρ', turnB gt u d ρ = .nx ρ' ∧ I (k + i + 1) ρ') → ∃ ρ', forR gt u ds ρ = .nx ρ' ∧ I (k + ds.length) ρ'
  | [], k, ρ, i, _ => ⟨ρ, rfl, i⟩
  | d :: ds, k, ρ, i, h => by
    obtain ⟨ρ', h1, h2⟩ := h 0 d ρ rfl i
    obtain ⟨ρ2, h3, h4⟩ := forR_nat I ds (k + 1) ρ' h2 fun i e ρ he hi => by
      have := h (i + 1) e ρ (by simpa using he) (by rw [show k + (i + 1) = k + 1 + i by omega]; exact hi)
      rw [show k + (i + 1) = k + 1 + i by omega] at this
      exact this
    exact ⟨ρ2, by rw [forR_nx h1]; exact h3, by rw [List.length_cons, show k + (ds.length + 1) = k + 1 + ds.length by omega]; exact h4⟩
theorem rngD_get {lo : Int} {n i : Nat} {d : D} (h : (rngD lo n)[i]? = some d) : i < n ∧ d = .int (lo + i) := by
  unfold rngD at h
  rw [List.getElem?_map] at h
  by_cases hi : i < n
  · rw [List.getElem?_range hi] at h
    cases h
    exact ⟨hi, rfl⟩
  · rw [List.getElem?_eq_none (by rw [List.length_range]; omega)] at h
    cases h
theorem rngD_len {lo : Int} {n : Nat} : (rngD lo n).length = n := by unfold rngD; rw [List.length_map, List.length_range]
/-- a comprehension without a test -/
theorem lcR_map {τ : Type} {gt : Gt} {p : Et} {f : Ev} {ρ : En} (val : τ → D) (res : τ → D) : ∀ (xs : List τ), (∀ x, x ∈ xs → ((gt (val x) ρ).bnd fun ρ1 => (p ρ1).bnd fun b => if b = true then f ρ1 else .stuck) = .ok (res x)) → lcR gt p f ρ (xs.map val) = .ok (xs.map res)
  | [], _ => rfl
  | x :: xs, h => by
    have h1 := h x (List.mem_cons_self ..)
    have h2 := lcR_map (gt := gt) (p := p) (f := f) (ρ := ρ) val res xs fun y hy => h y (List.mem_cons_of_mem _ hy)
    rw [List.map_cons, List.map_cons, lcR]
    cases hg : gt (val x) ρ with
    | ok ρ1 =>
      rw [hg] at h1
      simp only [R.bnd] at h1 ⊢
      cases hp : p ρ1 with
      | ok b =>
        rw [hp] at h1
        simp only [R.bnd] at h1 ⊢
        cases b with
        | true =>
          rw [if_pos rfl] at h1 ⊢
          rw [h1, h2] <;> rfl
        | false => rw [if_neg Bool.false_ne_true] at h1; cases h1
      | exc z => rw [hp] at h1; cases h1
      | stuck => rw [hp] at h1; cases h1
    | exc z => rw [hg] at h1; cases h1
    | stuck => rw [hg] at h1; cases h1
/-- with a test -/
theorem lcR_filter {τ : Type} {gt : Gt} {p : Et} {f : Ev} {ρ : En} (val : τ → D) (q : τ → Bool) (res : τ → D) : ∀ (xs : List τ), (∀ x, x ∈ xs → ∃ ρ1, gt (val x) ρ = .ok ρ1 ∧ p ρ1 = .ok (q x) ∧ (q x = true → f ρ1 = .ok (res x))) → lcR gt p f ρ (xs.map val) = .ok ((xs.filter q).map res)
  | [], _ => rfl
  | x :: xs, h => by
    obtain ⟨ρ1, h1, h2, h3⟩ := h x (List.mem_cons_self ..)
    have h4 := lcR_filter (gt := gt) (p := p) (f := f) (ρ := ρ) val q res xs fun y hy => h y (List.mem_cons_of_mem _ hy)
    rw [List.map_cons, lcR, h1, List.filter_cons]
    simp only [R.bnd, h2]
    cases hq : q x with
    | true => rw [if_pos rfl, if_pos rfl, h3 hq, h4] <;> rfl
    | false => rw [if_neg Bool.false_ne_true, if_neg Bool.false_ne_true, h4]

/-! places in lists -/
theorem ixN_nat {n : Nat} {i : Int} (h0 : 0 ≤ i) (h : i < n) : ixN n i = some i.toNat := by unfold ixN; rw [if_pos h0, if_pos h]
theorem ixN_neg {n : Nat} {i : Int} (h0 : i < 0) (h : -(n : Int) ≤ i) : ixN n i = some (i + n).toNat := by unfold ixN; rw [if_neg (by omega), if_pos h]
theorem atI_nat {α : Type} {xs : List α} {i : Int} (h0 : 0 ≤ i) (h : i < xs.length) : atI xs i = xs[i.toNat]? := by unfold atI; rw [ixN_nat h0 h]; rfl
section
variable {α : Type} {a b c d e f : α} {xs : List α}
@[simp] theorem atI_0 : atI (a :: xs) 0 = some a := by rw [atI_nat (by decide) (by simp only [List.length_cons]; omega)]; rfl
@[simp] theorem atI_1 : atI (a :: b :: xs) 1 = some b := by rw [atI_nat (by decide) (by simp only [List.length_cons]; omega)]; rfl
@[simp] theorem atI_2 : atI (a :: b :: c :: xs) 2 = some c := by rw [atI_nat (by decide) (by simp only [List.length_cons]; omega)]; rfl
@[simp] theorem atI_3 : atI (a :: b :: c :: d :: xs) 3 = some d := by rw [atI_nat (by decide) (by simp only [List.length_cons]; omega)]; rfl
@[simp] theorem atI_4 : atI (a :: b :: c :: d :: e :: xs) 4 = some e := by rw [atI_nat (by decide) (by simp only [List.length_cons]; omega)]; rfl
@[simp] theorem atI_5 : atI (a :: b :: c :: d :: e :: f :: xs) 5 = some f := by rw [atI_nat (by decide) (by simp only [List.length_cons]; omega)]; rfl
end
theorem sizeLine_is : sizeLine = 16777216 := PySem.sizeLine_eq
end Mi
namespace Mi
theorem sSeq_nx {u v : Sv} {ρ ρ' : En} (h : u ρ = .nx ρ') : sSeq u v ρ = v ρ' := by unfold sSeq; rw [h]; rfl
theorem sSeq_rt {u v : Sv} {ρ : En} {s : Sl} (h : u ρ = .rt s) : sSeq u v ρ = .rt s := by unfold sSeq; rw [h]; rfl
theorem sFor_at {f : Es} {gt : Gt} {u : Sv} {ρ : En} {ds : List D} {r : Fl} (h : f ρ = .ok ds) (h2 : forR gt u ds ρ = r) : sFor f gt u ρ = r := by rw [sFor_eq]; show thnS (f ρ) ρ _ = r; rw [h]; exact h2
theorem runB_rt {n : Nat} {u : Sv} {args : List Sl} {s : Sl} (h : u (args.map some ++ List.replicate (n - args.length) none) = .rt s) : runB n u args = .ok s := by unfold runB; rw [h]; rfl
theorem eLc_ok {fi : Es} {gt : Gt} {p : Et} {f : Ev} {vs : List Nat} {ρ : En} {items ds : List D} (h : fi ρ = .ok items) (hl : items.length ≤ 1000000) (h2 : lcR gt p f (wipeE ρ vs) items = .ok ds) : eLc fi gt p f vs ρ = .ok ds := by
  unfold eLc
  rw [h, R.bind_ok, if_pos (by rw [szL_eq, PySem.sizeLine_eq]; omega), h2]
  rfl
theorem iRng1D_ok {f : Ev} {ρ : En} {j : Int} (h : f ρ = .ok (.int j)) (hj : -1000000000 ≤ j ∧ j ≤ 1000000000) : iRng1D f ρ = .ok (rngD 0 j.toNat) := by
  unfold iRng1D
  rw [h, R.bind_ok]
  dsimp only
  rw [if_pos]
  rw [big62_eq]
  omega
theorem iRng2D_ok {f g : Ev} {ρ : En} {i j : Int} (h : f ρ = .ok (.int i)) (h2 : g ρ = .ok (.int j)) (hi : -1000000000 ≤ i ∧ i ≤ 1000000000) (hj : -1000000000 ≤ j ∧ j ≤ 1000000000) : iRng2D f g ρ = .ok (rngD i (j - i).toNat) := by
  unfold iRng2D
  rw [h, R.bind_ok, h2, R.bind_ok]
  dsimp only
  rw [if_pos]
  rw [big62_eq]
  omega
theorem iRng3D_ok {f g h : Ev} {ρ : En} {i j k : Int} (h1 : f ρ = .ok (.int i)) (h2 : g ρ = .ok (.int j)) (h3 : h ρ = .ok (.int k)) (hi : -1000000 ≤ i ∧ i < 1000000) (hj : -1000000 ≤ j ∧ j < 1000000) (hk : 0 < k ∧ k < 1000000) : iRng3D f g h ρ = .ok (rngC i k (rngN i j k)) := by
  unfold iRng3D
  rw [h1, R.bind_ok, h2, R.bind_ok, h3, R.bind_ok]
  dsimp only
  rw [if_pos (by rw [big6_eq]; exact ⟨hi, hj, hk⟩)]
theorem oRep_ok {ds : List D} {n : Nat} (h : ds.length * n ≤ 1000000) (h2 : n ≤ 1000000) : oRep ds (.int (n : Int)) = .ok (List.replicate n ds).flatten := by
  unfold oRep
  dsimp only
  rw [if_pos (by rw [szL_eq, big63_eq, sizeLine_is, Int.toNat_natCast]; exact ⟨by omega, by omega, by omega⟩), Int.toNat_natCast]
theorem Bd.zero (n : Nat) : Bd n 0 := ⟨by rw [Int.natAbs_zero]; exact Nat.pow_pos (by decide)⟩
theorem cutD_map {α β : Type} (f : α → β) (xs : List α) (lo hi : Option Int) : cutD (xs.map f) lo hi = (cutD xs lo hi).map f := by
  unfold cutD
  rw [List.length_map, ← List.map_drop, ← List.map_take]
theorem mem_cutD {α : Type} {xs : List α} {lo hi : Option Int} {x : α} (h : x ∈ cutD xs lo hi) : x ∈ xs := List.mem_of_mem_drop (List.mem_of_mem_take h)
theorem cutD_len {α : Type} {xs : List α} {lo hi : Option Int} : (cutD xs lo hi).length ≤ xs.length := by
  unfold cutD
  rw [List.length_take, List.length_drop]
  omega
theorem cutD_len2 {α : Type} {xs : List α} {a b : Nat} : (cutD xs (some (a : Int)) (some (b : Int))).length ≤ b - a := by
  unfold cutD
  rw [List.length_take, HT.sIx_nat, HT.sIx_nat]
  omega
theorem cutD_len1 {α : Type} {xs : List α} {b : Nat} : (cutD xs none (some (b : Int))).length ≤ b := by
  unfold cutD
  rw [List.length_take, HT.sIx_none, HT.sIx_nat]
  omega
/-- for k in range(len(cells)): number = number * c + cells[k] -/
theorem horner {gt : Gt} {u : Sv} {cells : List Int} (enc : Int → En) (c : Int) [hc : Bd 8 c] (hb : ∀ z ∈ cells, Bd 1048576 z) (hl : cells.length ≤ 1000)
    (hu : ∀ (s : Int) (i : Nat) (h : i < cells.length), Bd 1060000 s → turnB gt u (.int (i : Int)) (enc s) = .nx (enc (s * c + cells[i]))) :
    ∃ s, forR gt u (rngD 0 cells.length) (enc 0) = .nx (enc s) := by
  obtain ⟨ρ', h1, s, h2, h3⟩ := forR_nat (gt := gt) (u := u) (fun k ρ => ∃ s : Int, Bd (1048576 + 9 * k) s ∧ ρ = enc s) (rngD 0 cells.length) 0 (enc 0) ⟨0, Bd.zero _, rfl⟩ fun i d ρ hd ⟨s, h2, h3⟩ => by
    obtain ⟨hi, rfl⟩ := rngD_get hd
    subst h3
    rw [Nat.zero_add] at h2 ⊢
    have hz : Bd 1048576 cells[i] := hb _ (List.getElem_mem _)
    have e := hu s i hi (h2.up (by omega))
    rw [Int.zero_add]
    refine ⟨_, e, _, ?_, rfl⟩
    have q := @bd_add _ _ _ _ (@bd_mul _ _ _ _ h2 hc) hz
    exact q.up (by
      have : Nat.max (1048576 + 9 * i + 8) 1048576 = 1048576 + 9 * i + 8 := Nat.max_eq_left (by omega)
      omega)
  exact ⟨s, by rw [h1, h3]⟩
/-- a comprehension whose items are told by what holds of them -/
theorem lcR_ex {τ ω : Type} {gt : Gt} {p : Et} {f : Ev} {ρ : En} (val : τ → D) (res : ω → D) (P : τ → ω → Prop) : ∀ (xs : List τ), (∀ x, x ∈ xs → ∃ w, P x w ∧ ((gt (val x) ρ).bnd fun ρ1 => (p ρ1).bnd fun b => if b = true then f ρ1 else .stuck) = .ok (res w)) →
    ∃ ws : List ω, ws.length = xs.length ∧ (∀ w ∈ ws, ∃ x ∈ xs, P x w) ∧ lcR gt p f ρ (xs.map val) = .ok (ws.map res)
  | [], _ => ⟨[], rfl, fun w h => absurd h (List.not_mem_nil), rfl⟩
  | x :: xs, h => by
    obtain ⟨w, h1, h2⟩ := h x (List.mem_cons_self ..)
    obtain ⟨ws, h3, h4, h5⟩ := lcR_ex (gt := gt) (p := p) (f := f) (ρ := ρ) val res P xs fun y hy => h y (List.mem_cons_of_mem _ hy)
    refine ⟨w :: ws, by rw [List.length_cons, List.length_cons, h3], fun v hv => ?_, ?_⟩
    · rcases List.mem_cons.mp hv with rfl | hv
      · exact ⟨x, List.mem_cons_self .., h1⟩
      · obtain ⟨y, hy, hP⟩ := h4 v hv
        exact ⟨y, List.mem_cons_of_mem _ hy, hP⟩
    · have e := lcR_map (gt := gt) (p := p) (f := f) (ρ := ρ) (fun _ : Unit => val x) (fun _ => res w) [()] fun _ _ => h2
      rw [List.map_cons, List.map_cons, lcR]
      rw [List.map_cons, lcR] at e
      cases hg : gt (val x) ρ with
      | ok ρ1 =>
        rw [hg] at h2
        simp only [R.bnd_ok] at h2 ⊢
        cases hp : p ρ1 with
        | ok b =>
          rw [hp] at h2
          simp only [R.bnd_ok] at h2 ⊢
          cases b with
          | true =>
            rw [if_pos rfl] at h2 ⊢
            rw [h2, h5] <;> rfl
          | false => rw [if_neg Bool.false_ne_true] at h2; cases h2
        | exc z => rw [hp] at h2; cases h2
        | stuck => rw [hp] at h2; cases h2
      | exc z => rw [hg] at h2; cases h2
      | stuck => rw [hg] at h2; cases h2
theorem iRngDn_ok {f g : Ev} {ρ : En} {i j : Int} (h : f ρ = .ok (.int i)) (h2 : g ρ = .ok (.int j)) (hi : -1000000000000000 ≤ i ∧ i ≤ 1000000000000000) (hj : -1000000000000000 ≤ j ∧ j ≤ 1000000000000000) : iRngDn f g ρ = .ok (rngC i (-1) (i - j).toNat) := by
  unfold iRngDn
  rw [h, R.bind_ok, h2, R.bind_ok]
  dsimp only
  rw [if_pos]
  rw [big62_eq]
  omega
end Mi

/-! ## equal data -/
namespace Mi
open PySem PySem.Spec L2
@[simp] theorem oEq_int {i j : Int} : oEq (.int i) (.int j) = .ok (.bl (decide (i = j))) := rfl
@[simp] theorem oEq_str {i j : Str} : oEq (.str i) (.str j) = .ok (.bl (decide (i = j))) := rfl
@[simp] theorem oEq_bl {i j : Bool} : oEq (.bl i) (.bl j) = .ok (.bl (decide (i = j))) := rfl
@[simp] theorem oEq_nn : oEq .non .non = .ok (.bl true) := rfl
@[simp] theorem oEq_ni {i : Int} : oEq .non (.int i) = .ok (.bl false) := rfl
@[simp] theorem oEq_in {i : Int} : oEq (.int i) .non = .ok (.bl false) := rfl
mutual
def okD : D → Bool
  | .str x => PyData.strOk x
  | .tup ds => okDs ds
  | .lst ds => okDs ds
  | _ => true
def okDs : List D → Bool
  | [] => true
  | d :: ds => okD d && okDs ds
end
mutual
def depD : D → Nat
  | .tup ds => depDs ds + 1
  | .lst ds => depDs ds + 1
  | _ => 0
def depDs : List D → Nat
  | [] => 0
  | d :: ds => max (depD d) (depDs ds)
end
mutual
theorem okD_lay : ∀ d : D, d.py.canLay0 = okD d
  | .non => rfl
  | .bl _ => rfl
  | .int _ => rfl
  | .str _ => rfl
  | .tup ds => okDs_lay ds
  | .lst ds => okDs_lay ds
theorem okDs_lay : ∀ ds : List D, PyData.canLayAll0 (D.pys ds) = okDs ds
  | [] => rfl
  | d :: ds => by
    show (d.py.canLay0 && PyData.canLayAll0 (D.pys ds)) = (okD d && okDs ds)
    rw [okD_lay d, okDs_lay ds]
end
mutual
theorem depD_py : ∀ d : D, d.py.depth = depD d
  | .non => rfl
  | .bl _ => rfl
  | .int _ => rfl
  | .str _ => rfl
  | .tup ds => by show PyData.depthAll (D.pys ds) + 1 = depDs ds + 1; rw [depDs_py ds]
  | .lst ds => by show PyData.depthAll (D.pys ds) + 1 = depDs ds + 1; rw [depDs_py ds]
theorem depDs_py : ∀ ds : List D, PyData.depthAll (D.pys ds) = depDs ds
  | [] => rfl
  | d :: ds => by
    show max d.py.depth (PyData.depthAll (D.pys ds)) = max (depD d) (depDs ds)
    rw [depD_py d, depDs_py ds]
end
mutual
theorem eqv_refl : ∀ d : D, PyData.eqv d.py d.py = true
  | .non => rfl
  | .bl b => by cases b <;> rfl
  | .int i => by show (i == i) = true; simp
  | .str x => by show (x == x) = true; simp
  | .tup ds => eqvs_refl ds
  | .lst ds => eqvs_refl ds
theorem eqvs_refl : ∀ ds : List D, PyData.eqvAll (D.pys ds) (D.pys ds) = true
  | [] => rfl
  | d :: ds => by
    show (PyData.eqv d.py d.py && PyData.eqvAll (D.pys ds) (D.pys ds)) = true
    rw [eqv_refl d, eqvs_refl ds]
    rfl
end
theorem shaped_of {d : D} (h : okD d = true) (h2 : depD d ≤ 64) : SeqAt.shaped d.py = true := by
  unfold SeqAt.shaped
  rw [okD_lay, depD_py, h, decide_eq_true h2]
  rfl
theorem oEq_def_l {xs ys : List D} : oEq (.lst xs) (.lst ys) = if SeqAt.shaped (D.lst xs).py = true ∧ SeqAt.shaped (D.lst ys).py = true then .ok (.bl (PyData.eqv (D.lst xs).py (D.lst ys).py)) else .stuck := rfl
theorem oEq_def_t {xs ys : List D} : oEq (.tup xs) (.tup ys) = if SeqAt.shaped (D.tup xs).py = true ∧ SeqAt.shaped (D.tup ys).py = true then .ok (.bl (PyData.eqv (D.tup xs).py (D.tup ys).py)) else .stuck := rfl
theorem oEq_lsame {xs : List D} (h : okDs xs = true) (h2 : depDs xs ≤ 63) : oEq (.lst xs) (.lst xs) = .ok (.bl true) := by
  have s : SeqAt.shaped (D.lst xs).py = true := shaped_of h (show depDs xs + 1 ≤ 64 by omega)
  rw [oEq_def_l, if_pos ⟨s, s⟩, eqv_refl]
theorem oEq_tsame {xs : List D} (h : okDs xs = true) (h2 : depDs xs ≤ 63) : oEq (.tup xs) (.tup xs) = .ok (.bl true) := by
  have s : SeqAt.shaped (D.tup xs).py = true := shaped_of h (show depDs xs + 1 ≤ 64 by omega)
  rw [oEq_def_t, if_pos ⟨s, s⟩, eqv_refl]
theorem oEq_nil {xs : List D} (h : okDs xs = true) (h2 : depDs xs ≤ 63) : oEq (.lst xs) (.lst []) = .ok (.bl xs.isEmpty) := by
  have s : SeqAt.shaped (D.lst xs).py = true := shaped_of h (show depDs xs + 1 ≤ 64 by omega)
  have s' : SeqAt.shaped (D.lst []).py = true := shaped_of rfl (by decide)
  rw [oEq_def_l, if_pos ⟨s, s'⟩]
  cases xs <;> rfl
theorem okDs_map {τ : Type} {f : τ → D} (h : ∀ x, okD (f x) = true) : ∀ xs : List τ, okDs (xs.map f) = true
  | [] => rfl
  | x :: xs => by
    show (okD (f x) && okDs (xs.map f)) = true
    rw [h x, okDs_map h xs]
    rfl
theorem depDs_map {τ : Type} {f : τ → D} {k : Nat} (h : ∀ x, depD (f x) ≤ k) : ∀ xs : List τ, depDs (xs.map f) ≤ k
  | [] => Nat.zero_le _
  | x :: xs => by
    show max (depD (f x)) (depDs (xs.map f)) ≤ k
    have := h x
    have := depDs_map h xs
    omega
/-- a list of whole numbers -/
theorem oEq_ints {ns : List Int} : oEq (.lst (ns.map D.int)) (.lst (ns.map D.int)) = .ok (.bl true) :=
  oEq_lsame (okDs_map (fun _ => rfl) ns) (Nat.le_trans (depDs_map (f := D.int) (k := 0) (fun x => (Nat.le_refl 0 : depD (D.int x) ≤ 0)) ns) (by decide))
theorem oEq_nats {ns : List Nat} : oEq (.lst (ns.map fun (n : Nat) => D.int (n : Int))) (.lst (ns.map fun (n : Nat) => D.int (n : Int))) = .ok (.bl true) :=
  oEq_lsame (okDs_map (fun _ => rfl) ns) (Nat.le_trans (depDs_map (f := fun (n : Nat) => D.int (n : Int)) (k := 0) (fun x => (Nat.le_refl 0 : depD (D.int (x : Int)) ≤ 0)) ns) (by decide))
/-- wakings -/
abbrev Wk3 := Int × Int × Int
def wkD (w : Wk3) : D := .tup [.int w.1, .int w.2.1, .int w.2.2]
theorem okD_wk (w : Wk3) : okD (wkD w) = true := rfl
theorem depD_wk (w : Wk3) : depD (wkD w) ≤ 1 := Nat.le_refl 1
theorem oEq_wks {ws : List Wk3} : oEq (.lst (ws.map wkD)) (.lst (ws.map wkD)) = .ok (.bl true) :=
  oEq_lsame (okDs_map okD_wk ws) (Nat.le_trans (depDs_map depD_wk ws) (by decide))
theorem oEq_wks_nil {ws : List Wk3} : oEq (.lst (ws.map wkD)) (.lst []) = .ok (.bl ws.isEmpty) := by
  rw [oEq_nil (okDs_map okD_wk ws) (Nat.le_trans (depDs_map depD_wk ws) (by decide))]
  cases ws <;> rfl
theorem oEq_wk {w : Wk3} : oEq (wkD w) (wkD w) = .ok (.bl true) := oEq_tsame rfl (Nat.zero_le 63)
end Mi

namespace Mi.Sh
open PySem PySem.Spec L2 Mi
-- divisor: 0:one 1:other
noncomputable def u_divisor_1 : Sv :=
  sPar 0 1 (eVar 1) (eBin oMod (eLook 0) (eLook 1))
noncomputable def b_divisor : Sv :=
  sSeq (sWhl (tst (eBin oGt (eLook 1) (eD (.int 0)))) (u_divisor_1)) (sRet (eVar 0))
noncomputable def m_divisor : List Sl → R Sl := hid (runB 2 b_divisor)
theorem m_divisor_eq : m_divisor = runB 2 b_divisor := hid_eq _
-- _law_cell_at: 0:script 1:k
noncomputable def b__law_cell_at : Sv :=
  sSeq (sIf (tst (eBin oLt (eLook 1) (eCall oLen (vCons (eLook 0) vNil)))) (sRet (eBin oIx (eLook 0) (eLook 1))) (sNx)) (sRet (eD (.int 0)))
noncomputable def m__law_cell_at : List Sl → R Sl := hid (runB 2 b__law_cell_at)
theorem m__law_cell_at_eq : m__law_cell_at = runB 2 b__law_cell_at := hid_eq _
-- least_round: 0:numbers 1:found 2:number
noncomputable def u_least_round_1 : Sv :=
  sSeq (sAsg (eBin oMul (eBin oDiv (eLook 1) (eApp m_divisor (aVal (eVar 1) (aVal (eVar 2) (aNil))))) (eLook 2)) (gSet 1)) (sKill 2 (sNx))
noncomputable def t_least_round_2 : Sv :=
  sSeq (sFor (iVar 0) (gSet 2) (u_least_round_1)) (sRet (eVar 1))
noncomputable def b_least_round : Sv :=
  sSeq (sAsg (eD (.int 1)) (gSet 1)) (t_least_round_2)
noncomputable def m_least_round : List Sl → R Sl := hid (runB 3 b_least_round)
theorem m_least_round_eq : m_least_round = runB 3 b_least_round := hid_eq _
-- _law_divisor: 0:one 1:other
noncomputable def u__law_divisor_1 : Sv :=
  sPar 0 1 (eVar 1) (eBin oMod (eLook 0) (eLook 1))
noncomputable def b__law_divisor : Sv :=
  sSeq (sWhl (tst (eBin oNe (eLook 1) (eD (.int 0)))) (u__law_divisor_1)) (sRet (eVar 0))
noncomputable def m__law_divisor : List Sl → R Sl := hid (runB 2 b__law_divisor)
theorem m__law_divisor_eq : m__law_divisor = runB 2 b__law_divisor := hid_eq _
-- least_part: 0:number 1:part
noncomputable def u_least_part_1 : Sv :=
  sSeq (sIf (tst (eBin oEq (eBin oMod (eLook 0) (eLook 1)) (eD (.int 0)))) (sRet (eVar 1)) (sNx)) (sAug 1 oAdd (eD (.int 1)))
noncomputable def t_least_part_2 : Sv :=
  sSeq (sWhl (tst (eBin oLe (eBin oMul (eLook 1) (eLook 1)) (eLook 0))) (u_least_part_1)) (sRet (eVar 0))
noncomputable def b_least_part : Sv :=
  sSeq (sAsg (eD (.int 2)) (gSet 1)) (t_least_part_2)
noncomputable def m_least_part : List Sl → R Sl := hid (runB 2 b_least_part)
theorem m_least_part_eq : m_least_part = runB 2 b_least_part := hid_eq _
-- gone_down: 0:step 1:whole 2:low 3:high 4:pile 5:count
noncomputable def t_gone_down_1 : Sv :=
  sSeq (sAsg (eTup (vCons (eBin oMod (eLook 1) (eLook 0)) (vCons (eVar 0) (vCons (eBin oMod (eBin oSub (eD (.int 0)) (eLook 3)) (eLook 0)) (vCons (eBin oMod (eBin oSub (eD (.int 0)) (eLook 2)) (eLook 0)) (vNil)))))) (gTupD 4 (gsCons (gSet 0) (gsCons (gSet 1) (gsCons (gSet 2) (gsCons (gSet 3) (gsNil))))))) (sKill 5 (sNx))
noncomputable def t_gone_down_2 : Sv :=
  sSeq (sApp 4 (eTup (vCons (eVar 0) (vCons (eVar 2) (vCons (eVar 1) (vNil)))))) (t_gone_down_1)
noncomputable def t_gone_down_3 : Sv :=
  sSeq (sIf (tst (eBin oLe (eBin oMul (eLook 0) (eLook 5)) (eLook 3))) (sFrz 4 (sRet (eTup (vCons (eVar 4) (vCons (eVar 5) (vNil)))))) (sNx)) (t_gone_down_2)
noncomputable def u_gone_down_4 : Sv :=
  sSeq (sAsg (eBin oSub (eD (.int 0)) (eBin oDiv (eBin oSub (eD (.int 0)) (eLook 2)) (eLook 0))) (gSet 5)) (t_gone_down_3)
noncomputable def t_gone_down_5 : Sv :=
  sSeq (sWhl (tst (eBin oGt (eLook 0) (eD (.int 0)))) (u_gone_down_4)) (sFrz 4 (sRet (eTup (vCons (eVar 4) (vCons (eD .non) (vNil))))))
noncomputable def b_gone_down : Sv :=
  sSeq (sSetF 4 (vNil)) (t_gone_down_5)
noncomputable def m_gone_down : List Sl → R Sl := hid (runB 6 b_gone_down)
theorem m_gone_down_eq : m_gone_down = runB 6 b_gone_down := hid_eq _
-- first_hit: 0:start 1:step 2:whole 3:many 4:rest 5:low 6:pile 7:count 8:by 9:begin 10:turns
noncomputable def u_first_hit_1 : Sv :=
  sSeq (sAsg (eBin oSub (eD (.int 0)) (eBin oDiv (eBin oSub (eBin oSub (eD (.int 0)) (eBin oMul (eLook 10) (eLook 7))) (eLook 9)) (eLook 8))) (gSet 7)) (sKill 9 (sKill 8 (sKill 10 (sNx))))
noncomputable def t_first_hit_2 : Sv :=
  sSeq (sFor (iRevD (lVar 6)) (gTupD 3 (gsCons (gSet 8) (gsCons (gSet 9) (gsCons (gSet 10) (gsNil))))) (u_first_hit_1)) (sRet (eVar 7))
noncomputable def t_first_hit_3 : Sv :=
  sSeq (sIf (tst (eBin oIs (eLook 7) (eD .non))) (sRet (eD .non)) (sNx)) (t_first_hit_2)
noncomputable def t_first_hit_4 : Sv :=
  sSeq (sAsg (eApp m_gone_down (aVal (eBin oMod (eLook 1) (eLook 2)) (aVal (eVar 2) (aVal (eVar 5) (aVal (eBin oSub (eBin oAdd (eLook 5) (eLook 3)) (eD (.int 1))) (aNil)))))) (gTupD 2 (gsCons (gSet 6) (gsCons (gSet 7) (gsNil))))) (t_first_hit_3)
noncomputable def t_first_hit_5 : Sv :=
  sSeq (sAsg (eBin oSub (eLook 2) (eLook 4)) (gSet 5)) (t_first_hit_4)
noncomputable def t_first_hit_6 : Sv :=
  sSeq (sIf (tst (eBin oLt (eLook 4) (eLook 3))) (sRet (eD (.int 0))) (sNx)) (t_first_hit_5)
noncomputable def b_first_hit : Sv :=
  sSeq (sAsg (eBin oMod (eLook 0) (eLook 2)) (gSet 4)) (t_first_hit_6)
noncomputable def m_first_hit : List Sl → R Sl := hid (runB 11 b_first_hit)
theorem m_first_hit_eq : m_first_hit = runB 11 b_first_hit := hid_eq _
-- _law_sums: 0:script 1:many 2:sums 3:k 4:at 5:number
noncomputable def t__law_sums_1 : Sv :=
  sSeq (sPut 2 (eLook 4) (eBin oAdd (eBin oMul (eBin oIx (eLook 2) (eLook 4)) (eD (.int 17))) (eBin oIx (eLook 0) (eLook 3)))) (sKill 4 (sKill 3 (sNx)))
noncomputable def u__law_sums_2 : Sv :=
  sSeq (sAsg (eBin oMod (eLook 3) (eLook 1)) (gSet 4)) (t__law_sums_1)
noncomputable def t__law_sums_3 : Sv :=
  sSeq (sFor (iRng2D (eD (.int 1)) (eCall oLen (vCons (eLook 0) vNil))) (gSet 3) (u__law_sums_2)) (sFrz 2 (sRetF (eLc (iVar 2) (gSet 5) (tYesE) (eBin oMod (eLook 5) (eBin oPow (eD (.int 10)) (eD (.int 40)))) [5])))
noncomputable def b__law_sums : Sv :=
  sSeq (sSetF 2 (eRep (vCons (eD (.int 0)) (vNil)) (eLook 1))) (t__law_sums_3)
noncomputable def m__law_sums : List Sl → R Sl := hid (runB 6 b__law_sums)
theorem m__law_sums_eq : m__law_sums = runB 6 b__law_sums := hid_eq _
-- _law_spaced: 0:script 1:sums 2:kind 3:by 4:whole 5:step 6:start 7:many
noncomputable def t__law_spaced_1 : Sv :=
  sSeq (sIf (tst (eBin oEq (eBin oMod (eBin oIx (eLook 1) (eD (.int 5))) (eD (.int 3))) (eD (.int 2)))) (sAsg (eBin oAdd (eD (.int 1)) (eBin oMod (eBin oMod (eBin oMul (eBin oIx (eLook 1) (eD (.int 4))) (eBin oPow (eD (.int 13)) (eD (.int 30)))) (eBin oPow (eD (.int 10)) (eD (.int 64)))) (eCall oMin (vCons (eLook 4) (vCons (eBin oMul (eD (.int 2)) (eLook 3)) vNil))))) (gSet 7)) (sNx)) (sRet (eTup (vCons (eVar 6) (vCons (eVar 5) (vCons (eVar 4) (vCons (eVar 7) (vNil)))))))
noncomputable def t__law_spaced_2 : Sv :=
  sSeq (sIf (tst (eBin oEq (eBin oMod (eBin oIx (eLook 1) (eD (.int 5))) (eD (.int 3))) (eD (.int 1)))) (sAsg (eBin oAdd (eD (.int 1)) (eBin oMod (eBin oIx (eLook 1) (eD (.int 4))) (eCall oMin (vCons (eLook 4) (vCons (eD (.int 5)) vNil))))) (gSet 7)) (sNx)) (t__law_spaced_1)
noncomputable def t__law_spaced_3 : Sv :=
  sSeq (sAsg (eBin oAdd (eD (.int 1)) (eBin oMod (eBin oMod (eBin oMul (eBin oIx (eLook 1) (eD (.int 4))) (eBin oPow (eD (.int 13)) (eD (.int 30)))) (eBin oPow (eD (.int 10)) (eD (.int 64)))) (eLook 4))) (gSet 7)) (t__law_spaced_2)
noncomputable def t__law_spaced_4 : Sv :=
  sSeq (sIf (tst (eBin oEq (eBin oMod (eBin oDiv (eLook 2) (eD (.int 108))) (eD (.int 2))) (eD (.int 1)))) (sAsg (eBin oSub (eD (.int 0)) (eLook 6)) (gSet 6)) (sNx)) (t__law_spaced_3)
noncomputable def t__law_spaced_5 : Sv :=
  sSeq (sIf (tst (eBin oEq (eBin oMod (eBin oDiv (eLook 2) (eD (.int 54))) (eD (.int 2))) (eD (.int 1)))) (sAsg (eBin oSub (eD (.int 0)) (eLook 5)) (gSet 5)) (sNx)) (t__law_spaced_4)
noncomputable def t__law_spaced_6 : Sv :=
  sSeq (sAsg (eBin oMod (eBin oMul (eBin oIx (eLook 1) (eD (.int 3))) (eBin oPow (eD (.int 7)) (eD (.int 50)))) (eBin oIx (eLst (vCons (eD (.int 100)) (vCons (eBin oPow (eD (.int 10)) (eD (.int 50))) (vNil)))) (eBin oMod (eBin oDiv (eLook 2) (eD (.int 27))) (eD (.int 2))))) (gSet 6)) (t__law_spaced_5)
noncomputable def t__law_spaced_7 : Sv :=
  sSeq (sAsg (eBin oMul (eLook 3) (eBin oMod (eBin oMul (eBin oIx (eLook 1) (eD (.int 2))) (eBin oPow (eD (.int 11)) (eD (.int 40)))) (eBin oIx (eLst (vCons (eD (.int 60)) (vCons (eBin oPow (eD (.int 10)) (eD (.int 7))) (vCons (eBin oPow (eD (.int 10)) (eD (.int 41))) (vNil))))) (eBin oMod (eBin oDiv (eLook 2) (eD (.int 9))) (eD (.int 3)))))) (gSet 5)) (t__law_spaced_6)
noncomputable def t__law_spaced_8 : Sv :=
  sSeq (sAsg (eBin oMul (eLook 3) (eBin oAdd (eD (.int 1)) (eBin oMod (eBin oMul (eBin oIx (eLook 1) (eD (.int 1))) (eBin oPow (eD (.int 7)) (eD (.int 60)))) (eBin oIx (eLst (vCons (eD (.int 30)) (vCons (eBin oPow (eD (.int 10)) (eD (.int 6))) (vCons (eBin oPow (eD (.int 10)) (eD (.int 40))) (vNil))))) (eBin oMod (eBin oDiv (eLook 2) (eD (.int 3))) (eD (.int 3))))))) (gSet 4)) (t__law_spaced_7)
noncomputable def t__law_spaced_9 : Sv :=
  sSeq (sAsg (eBin oIx (eLst (vCons (eD (.int 1)) (vCons (eBin oAdd (eD (.int 1)) (eBin oMod (eBin oIx (eLook 1) (eD (.int 0))) (eD (.int 12)))) (vCons (eBin oAdd (eD (.int 1)) (eBin oMod (eBin oMul (eBin oIx (eLook 1) (eD (.int 0))) (eBin oPow (eD (.int 7)) (eD (.int 40)))) (eBin oPow (eD (.int 10)) (eD (.int 20))))) (vNil))))) (eBin oMod (eLook 2) (eD (.int 3)))) (gSet 3)) (t__law_spaced_8)
noncomputable def t__law_spaced_10 : Sv :=
  sFrz 1 (sSeq (sAsg (eApp m__law_cell_at (aVal (eVar 0) (aVal (eD (.int 0)) (aNil)))) (gSet 2)) (t__law_spaced_9))
noncomputable def b__law_spaced : Sv :=
  sSeq (sSetF 1 (eAppF m__law_sums (aVal (eVar 0) (aVal (eD (.int 6)) (aNil))))) (t__law_spaced_10)
noncomputable def m__law_spaced : List Sl → R Sl := hid (runB 8 b__law_spaced)
theorem m__law_spaced_eq : m__law_spaced = runB 8 b__law_spaced := hid_eq _
-- awake: 0:plan 1:turn 2:period 3:first 4:length
noncomputable def u_awake_1 : Sv :=
  sSeq (sIf (tst (eBin oLt (eBin oMod (eBin oSub (eLook 1) (eLook 3)) (eLook 2)) (eLook 4))) (sRet (eD (.bl true))) (sNx)) (sKill 3 (sKill 4 (sKill 2 (sNx))))
noncomputable def b_awake : Sv :=
  sSeq (sFor (iVar 0) (gTupD 3 (gsCons (gSet 2) (gsCons (gSet 3) (gsCons (gSet 4) (gsNil))))) (u_awake_1)) (sRet (eD (.bl false)))
noncomputable def m_awake : List Sl → R Sl := hid (runB 5 b_awake)
theorem m_awake_eq : m_awake = runB 5 b_awake := hid_eq _
-- _law_drawn: 0:cell 1:k 2:number
noncomputable def t__law_drawn_1 : Sv :=
  sSeq (sAsg (eBin oAdd (eBin oMul (eLook 2) (eLook 2)) (eBin oMul (eD (.int 69621)) (eLook 2))) (gSet 2)) (sRet (eBin oDiv (eBin oMod (eBin oMul (eLook 2) (eLook 2)) (eBin oAdd (eBin oPow (eD (.int 10)) (eD (.int 61))) (eD (.int 7)))) (eD (.int 8))))
noncomputable def b__law_drawn : Sv :=
  sSeq (sAsg (eBin oAdd (eBin oAdd (eBin oMul (eBin oMod (eLook 0) (eBin oPow (eD (.int 10)) (eD (.int 40)))) (eD (.int 48271))) (eBin oMul (eBin oMul (eBin oPow (eD (.int 3)) (eD (.int 30))) (eBin oAdd (eLook 1) (eD (.int 1)))) (eBin oAdd (eLook 1) (eD (.int 1))))) (eLook 1)) (gSet 2)) (t__law_drawn_1)
noncomputable def m__law_drawn : List Sl → R Sl := hid (runB 3 b__law_drawn)
theorem m__law_drawn_eq : m__law_drawn = runB 3 b__law_drawn := hid_eq _
-- _law_waking: 0:cell 1:size 2:period 3:first 4:kind 5:length
noncomputable def t__law_waking_1 : Sv :=
  sSeq (sAsg (eBin oIx (eLst (vCons (eD (.int 1)) (vCons (eVar 2) (vCons (eBin oAdd (eD (.int 1)) (eBin oMod (eApp m__law_drawn (aVal (eVar 0) (aVal (eD (.int 2)) (aNil)))) (eLook 2))) (vCons (eBin oAdd (eD (.int 1)) (eBin oMod (eBin oDiv (eLook 4) (eD (.int 4))) (eCall oMin (vCons (eLook 2) (vCons (eD (.int 3)) vNil))))) (vNil)))))) (eBin oMod (eLook 4) (eD (.int 4)))) (gSet 5)) (sRet (eTup (vCons (eVar 2) (vCons (eVar 3) (vCons (eVar 5) (vNil))))))
noncomputable def t__law_waking_2 : Sv :=
  sSeq (sAsg (eApp m__law_drawn (aVal (eVar 0) (aVal (eD (.int 3)) (aNil)))) (gSet 4)) (t__law_waking_1)
noncomputable def t__law_waking_3 : Sv :=
  sSeq (sAsg (eBin oMod (eApp m__law_drawn (aVal (eVar 0) (aVal (eD (.int 1)) (aNil)))) (eLook 2)) (gSet 3)) (t__law_waking_2)
noncomputable def t__law_waking_4 : Sv :=
  sSeq (sAsg (eBin oAdd (eD (.int 1)) (eBin oMod (eBin oDiv (eLook 1) (eD (.int 4))) (eBin oIx (eLst (vCons (eD (.int 6)) (vCons (eD (.int 30)) (vCons (eBin oPow (eD (.int 10)) (eD (.int 6))) (vCons (eBin oPow (eD (.int 10)) (eD (.int 60))) (vNil)))))) (eBin oMod (eLook 1) (eD (.int 4)))))) (gSet 2)) (t__law_waking_3)
noncomputable def b__law_waking : Sv :=
  sSeq (sAsg (eApp m__law_drawn (aVal (eVar 0) (aVal (eD (.int 0)) (aNil)))) (gSet 1)) (t__law_waking_4)
noncomputable def m__law_waking : List Sl → R Sl := hid (runB 6 b__law_waking)
theorem m__law_waking_eq : m__law_waking = runB 6 b__law_waking := hid_eq _
-- _law_turn: 0:cell 1:plan 2:number 3:turn 4:period 5:first 6:length 7:rounds
noncomputable def t__law_turn_1 : Sv :=
  sSeq (sIf (tAndE (tst (eBin oNe (eLook 1) (eLst (vNil)))) (tst (eBin oGt (eBin oMod (eBin oDiv (eLook 2) (eD (.int 2))) (eD (.int 4))) (eD (.int 0))))) (sSeq (sAsg (eBin oIx (eLook 1) (eBin oMod (eApp m__law_drawn (aVal (eVar 0) (aVal (eD (.int 9)) (aNil)))) (eCall oLen (vCons (eLook 1) vNil)))) (gTupD 3 (gsCons (gSet 4) (gsCons (gSet 5) (gsCons (gSet 6) (gsNil)))))) (sSeq (sAsg (eBin oSub (eBin oMod (eApp m__law_drawn (aVal (eVar 0) (aVal (eD (.int 10)) (aNil)))) (eBin oMul (eD (.int 2)) (eBin oPow (eD (.int 10)) (eD (.int 30))))) (eBin oPow (eD (.int 10)) (eD (.int 30)))) (gSet 7)) (sAsg (eBin oAdd (eBin oAdd (eLook 5) (eBin oMul (eLook 4) (eLook 7))) (eBin oIx (eLst (vCons (eD (.int 0)) (vCons (eUn oNeg (eD (.int 1))) (vCons (eVar 6) (vCons (eBin oSub (eLook 6) (eD (.int 1))) (vNil)))))) (eBin oMod (eApp m__law_drawn (aVal (eVar 0) (aVal (eD (.int 11)) (aNil)))) (eD (.int 4))))) (gSet 3)))) (sNx)) (sKill 5 (sKill 6 (sKill 4 (sKill 7 (sRet (eVar 3))))))
noncomputable def t__law_turn_2 : Sv :=
  sSeq (sAsg (eBin oSub (eBin oMod (eBin oDiv (eLook 2) (eD (.int 8))) (eBin oIx (eLst (vCons (eD (.int 41)) (vCons (eBin oMul (eD (.int 2)) (eBin oPow (eD (.int 10)) (eD (.int 60)))) (vNil)))) (eBin oMod (eLook 2) (eD (.int 2))))) (eBin oIx (eLst (vCons (eD (.int 20)) (vCons (eBin oPow (eD (.int 10)) (eD (.int 60))) (vNil)))) (eBin oMod (eLook 2) (eD (.int 2))))) (gSet 3)) (t__law_turn_1)
noncomputable def b__law_turn : Sv :=
  sSeq (sAsg (eApp m__law_drawn (aVal (eVar 0) (aVal (eD (.int 8)) (aNil)))) (gSet 2)) (t__law_turn_2)
noncomputable def m__law_turn : List Sl → R Sl := hid (runB 8 b__law_turn)
theorem m__law_turn_eq : m__law_turn = runB 8 b__law_turn := hid_eq _
-- shifted: 0:plan 1:by 2:period 3:first 4:length
noncomputable def b_shifted : Sv :=
  sRetF (eLc (iVar 0) (gTupD 3 (gsCons (gSet 2) (gsCons (gSet 3) (gsCons (gSet 4) (gsNil))))) (tYesE) (eTup (vCons (eVar 2) (vCons (eBin oMod (eBin oAdd (eLook 3) (eLook 1)) (eLook 2)) (vCons (eVar 4) (vNil))))) [2, 3, 4])
noncomputable def m_shifted : List Sl → R Sl := hid (runB 5 b_shifted)
theorem m_shifted_eq : m_shifted = runB 5 b_shifted := hid_eq _
-- plan_round: 0:plan 1:period 2:first 3:length
noncomputable def b_plan_round : Sv :=
  sRet (eApp m_least_round (aVal (eLst (eLc (iVar 0) (gTupD 3 (gsCons (gSet 1) (gsCons (gSet 2) (gsCons (gSet 3) (gsNil))))) (tYesE) (eVar 1) [1, 2, 3])) (aNil)))
noncomputable def m_plan_round : List Sl → R Sl := hid (runB 4 b_plan_round)
theorem m_plan_round_eq : m_plan_round = runB 4 b_plan_round := hid_eq _
-- plan_of: 0:rows 1:plan 2:period 3:first 4:length
noncomputable def t_plan_of_1 : Sv :=
  sSeq (sApp 1 (eTup (vCons (eVar 2) (vCons (eVar 3) (vCons (eVar 4) (vNil)))))) (sKill 3 (sKill 4 (sKill 2 (sNx))))
noncomputable def u_plan_of_2 : Sv :=
  sSeq (sIf (tOrE (tst (eBin oLt (eLook 2) (eD (.int 1)))) (tOrE (tNotE (tst (eChain (fun i j => decide (i ≤ j)) (fun i j => decide (i < j)) (eD (.int 0)) (eLook 3) (eLook 2)))) (tNotE (tst (eChain (fun i j => decide (i ≤ j)) (fun i j => decide (i ≤ j)) (eD (.int 1)) (eLook 4) (eLook 2)))))) (sRaise "NoPlan") (sNx)) (t_plan_of_1)
noncomputable def t_plan_of_3 : Sv :=
  sSeq (sFor (iVar 0) (gTupD 3 (gsCons (gSet 2) (gsCons (gSet 3) (gsCons (gSet 4) (gsNil))))) (u_plan_of_2)) (sRetO 1)
noncomputable def b_plan_of : Sv :=
  sSeq (sSetF 1 (vNil)) (t_plan_of_3)
noncomputable def m_plan_of : List Sl → R Sl := hid (runB 5 b_plan_of)
theorem m_plan_of_eq : m_plan_of = runB 5 b_plan_of := hid_eq _
end Mi.Sh

namespace Mi.Sh
open PySem PySem.Spec L2 Mi
theorem divisor_loop : ∀ (n m : Nat), sWhl (tst (eBin oGt (eLook 1) (eD (.int 0)))) u_divisor_1 [some (.sh (.int (m : Int))), some (.sh (.int (n : Int)))] = .nx [some (.sh (.int (Nat.gcd m n : Nat))), some (.sh (.int 0))] := by
  intro n
  induction n using Nat.strongRecOn with
  | _ n ih =>
    intro m
    by_cases h : n = 0
    · subst h
      rw [sWhl_false (by simp)]
      simp
    · have hp : 0 < n := by omega
      rw [sWhl_next (ρ2 := [some (.sh (.int (n : Int))), some (.sh (.int ((m % n : Nat) : Int)))]) (by simp [hp]) (by simp [u_divisor_1, hp, h]), ih (m % n) (Nat.mod_lt _ (by omega)) n]
      have e : Nat.gcd n (m % n) = Nat.gcd m n := by rw [Nat.gcd_comm m n, Nat.gcd_rec n m, Nat.gcd_comm]
      rw [e]
theorem divisor_nat (m n : Nat) : m_divisor [.sh (.int (m : Int)), .sh (.int (n : Int))] = .ok (.sh (.int (Nat.gcd m n : Nat))) := by
  simp [m_divisor_eq, b_divisor, divisor_loop]
theorem divisor_ok {a b : Int} (ha : 0 ≤ a) (hb : 0 ≤ b) : m_divisor [.sh (.int a), .sh (.int b)] = .ok (.sh (.int (Int.gcd a b : Nat))) := by
  have h := divisor_nat a.toNat b.toNat
  rw [Int.toNat_of_nonneg ha, Int.toNat_of_nonneg hb] at h
  rw [h]
  have e1 : a.natAbs = a.toNat := by omega
  have e2 : b.natAbs = b.toNat := by omega
  rw [Int.gcd, e1, e2]
theorem cell_at_ok {ns : List Int} {k : Nat} (hl : ns.length ≤ 63) : m__law_cell_at [.sh (.lst (ns.map D.int)), .sh (.int (k : Int))] = .ok (.sh (.int (ns.getD k 0))) := by
  by_cases h : k < ns.length
  · have h2 : (k : Int) < (ns.length : Int) := by omega
    have h3 : atI (ns.map D.int) (k : Int) = some (.int ns[k]) := by
      rw [atI_nat (by omega) (by simpa using h2)]
      simp [h]
    simp [m__law_cell_at_eq, b__law_cell_at, h, h2, h3, List.getD]
  · have h2 : ¬ (k : Int) < (ns.length : Int) := by omega
    have h3 : ns[k]? = none := by simp; omega
    simp [m__law_cell_at_eq, b__law_cell_at, h, h2, h3, List.getD]
end Mi.Sh

namespace Mi.Sh
open PySem PySem.Spec L2 Mi
noncomputable abbrev sumsU (c : Int) : Sv := sSeq (sAsg (eBin oMod (eLook 3) (eLook 1)) (gSet 4)) (sSeq (sPut 2 (eLook 4) (eBin oAdd (eBin oMul (eBin oIx (eLook 2) (eLook 4)) (eD (.int c))) (eBin oIx (eLook 0) (eLook 3)))) (sKill 4 (sKill 3 (sNx))))
noncomputable abbrev sumsB (c : Int) : Sv := sSeq (sSetF 2 (eRep (vCons (eD (.int 0)) (vNil)) (eLook 1))) (sSeq (sFor (iRng2D (eD (.int 1)) (eCall oLen (vCons (eLook 0) vNil))) (gSet 3) (sumsU c)) (sFrz 2 (sRetF (eLc (iVar 2) (gSet 5) (tYesE) (eBin oMod (eLook 5) (eBin oPow (eD (.int 10)) (eD (.int 40)))) [5]))))
abbrev Script (ns : List Int) : Prop := ns.length ≤ 63 ∧ ∀ z ∈ ns, Builtin.Int.intBits z ≤ 1048576
theorem Script.bd {ns : List Int} (h : Script ns) {z : Int} (m : z ∈ ns) : Bd 1048576 z := .cell (h.2 z m)
theorem sums_turn {c : Int} {ns ss : List Int} {many k : Nat} {b i : Nat} [hc : Bd 5 c] (S : Script ns) (hs : ss.length = many) (hm : 0 < many) (hi : i + 1 < ns.length) (hb : ∀ s ∈ ss, Bd b s) (h1 : 1048576 ≤ b) (h2 : b ≤ 2000000) :
    ∃ ss' : List Int, ss'.length = many ∧ (∀ s ∈ ss', Bd (b + 6) s) ∧
      turnB (gSet 3) (sumsU c) (.int (1 + (i : Int))) [some (.sh (.lst (ns.map D.int))), some (.sh (.int (many : Int))), some (.ow (ss.map D.int)), none, none, none] = .nx [some (.sh (.lst (ns.map D.int))), some (.sh (.int (many : Int))), some (.ow (ss'.map D.int)), none, none, none] := by
  obtain ⟨j, hjd⟩ : ∃ j, j = (i + 1) % many := ⟨_, rfl⟩
  have hj : j < many := by rw [hjd]; exact Nat.mod_lt _ hm
  have e1 : (1 + (i : Int)) % (many : Int) = (j : Int) := by
    rw [hjd, show (1 + (i : Int)) = ((i + 1 : Nat) : Int) by omega]
    exact (Int.natCast_emod _ _).symm
  have hjs : j < ss.length := by omega
  have a1 : atI (ss.map D.int) (j : Int) = some (.int ss[j]) := by
    rw [atI_nat (by omega) (by rw [List.length_map]; omega), Int.toNat_natCast]
    simp [hjs]
  have a2 : atI (ns.map D.int) (1 + (i : Int)) = some (.int ns[i + 1]) := by
    rw [atI_nat (by omega) (by rw [List.length_map]; omega), show (1 + (i : Int)).toNat = i + 1 by omega]
    simp [hi]
  have b1 : Bd b ss[j] := hb _ (List.getElem_mem _)
  have b2 : Bd 1048576 ns[i + 1] := S.bd (List.getElem_mem _)
  have m1 : mulOk ss[j] c = true := @mulOk_i _ _ _ _ b1 hc (by rw [Nat.blt_eq]; omega)
  have x1 : ixN ss.length (j : Int) = some j := by rw [ixN_nat (by omega) (by omega), Int.toNat_natCast]
  refine ⟨ss.set j (ss[j] * c + ns[i + 1]), by rw [List.length_set, hs], fun s hs' => ?_, ?_⟩
  · rcases List.mem_or_eq_of_mem_set hs' with h | h
    · exact (hb s h).up (by omega)
    · rw [h]
      have q := @bd_add _ _ _ _ (@bd_mul _ _ _ _ b1 hc) b2
      exact q.up (by
        have : Nat.max (b + 5) 1048576 = b + 5 := Nat.max_eq_left (by omega)
        omega)
  · have hm' : ¬ many = 0 := by omega
    simp [turnB, hm, hm', e1, a1, a2, m1, x1]
theorem sums_ok {c : Int} {ns : List Int} {many : Nat} [hc : Bd 5 c] (S : Script ns) (hm : 0 < many) (hm2 : many ≤ 100) :
    ∃ ss : List Int, ss.length = many ∧ (∀ s ∈ ss, 0 ≤ s ∧ s < 10 ^ 40) ∧ runB 6 (sumsB c) [.sh (.lst (ns.map D.int)), .sh (.int (many : Int))] = .ok (.ow (ss.map D.int)) := by
  have hl := S.1
  have fin : ∃ ss : List Int, ss.length = many ∧ forR (gSet 3) (sumsU c) (rngD 1 ((ns.length : Int) - 1).toNat) [some (.sh (.lst (ns.map D.int))), some (.sh (.int (many : Int))), some (.ow ((List.replicate many (0 : Int)).map D.int)), none, none, none] = .nx [some (.sh (.lst (ns.map D.int))), some (.sh (.int (many : Int))), some (.ow (ss.map D.int)), none, none, none] := by
    obtain ⟨ρ', h1, ss, h2, h3, h4⟩ := forR_nat (gt := gSet 3) (u := sumsU c) (fun k ρ => ∃ ss : List Int, ss.length = many ∧ (∀ s ∈ ss, Bd (1048576 + 6 * k) s) ∧ ρ = [some (.sh (.lst (ns.map D.int))), some (.sh (.int (many : Int))), some (.ow (ss.map D.int)), none, none, none])
      (rngD 1 ((ns.length : Int) - 1).toNat) 0 _ ⟨List.replicate many 0, by simp, fun s hs => by
        rw [(List.mem_replicate.mp hs).2]
        exact Bd.zero _, rfl⟩ fun i d ρ hd ⟨ss, h2, h3, h4⟩ => by
      obtain ⟨hi, rfl⟩ := rngD_get hd
      subst h4
      rw [Nat.zero_add] at h3 ⊢
      obtain ⟨ss', g1, g2, g3⟩ := sums_turn (c := c) (ns := ns) (ss := ss) (k := 0) (many := many) (b := 1048576 + 6 * i) (i := i) S h2 hm (by omega) h3 (by omega) (by omega)
      exact ⟨_, g3, ss', g1, fun s hs => by rw [show 1048576 + 6 * (i + 1) = 1048576 + 6 * i + 6 by omega]; exact g2 s hs, rfl⟩
    exact ⟨ss, h2, by rw [h1, h4]⟩
  obtain ⟨ss, h2, h3⟩ := fin
  refine ⟨ss.map fun s => s % 10 ^ 40, by rw [List.length_map, h2], fun s hs => ?_, ?_⟩
  · obtain ⟨t, _, rfl⟩ := List.mem_map.mp hs
    omega
  · refine runB_rt ?_
    have e0 : oRep [.int 0] (.int (many : Int)) = .ok ((List.replicate many (0 : Int)).map D.int) := by
      rw [oRep_ok (by simp; omega) (by omega)]
      simp
    have e1 : sSetF 2 (eRep (vCons (eD (.int 0)) (vNil)) (eLook 1)) [some (.sh (.lst (ns.map D.int))), some (.sh (.int (many : Int))), none, none, none, none] = .nx [some (.sh (.lst (ns.map D.int))), some (.sh (.int (many : Int))), some (.ow ((List.replicate many (0 : Int)).map D.int)), none, none, none] := by
      simp [e0]
    have e3 : sFor (iRng2D (eD (.int 1)) (eCall oLen (vCons (eLook 0) vNil))) (gSet 3) (sumsU c) [some (.sh (.lst (ns.map D.int))), some (.sh (.int (many : Int))), some (.ow ((List.replicate many (0 : Int)).map D.int)), none, none, none] = .nx [some (.sh (.lst (ns.map D.int))), some (.sh (.int (many : Int))), some (.ow (ss.map D.int)), none, none, none] :=
      sFor_at (iRng2D_ok (i := 1) (j := (ns.length : Int)) rfl (by simp) (by omega) (by omega)) h3
    refine (sSeq_nx e1).trans ((sSeq_nx e3).trans ?_)
    have e4 := eLc_ok (fi := iVar 2) (gt := gSet 5) (p := tYesE) (f := eBin oMod (eLook 5) (eBin oPow (eD (.int 10)) (eD (.int 40)))) (vs := [5]) (ρ := [some (.sh (.lst (ns.map D.int))), some (.sh (.int (many : Int))), some (.sh (.lst (ss.map D.int))), none, none, none]) (items := ss.map D.int) (ds := ss.map fun s => .int (s % 10 ^ 40)) rfl (by rw [List.length_map]; omega)
      (lcR_map D.int (fun s => .int (s % 10 ^ 40)) ss fun x hx => by simp)
    simp [e4]
end Mi.Sh

namespace Mi.Sh
open PySem PySem.Spec L2 Mi
theorem ldivisor_loop : ∀ (n m : Nat), sWhl (tst (eBin oNe (eLook 1) (eD (.int 0)))) u__law_divisor_1 [some (.sh (.int (m : Int))), some (.sh (.int (n : Int)))] = .nx [some (.sh (.int (Nat.gcd m n : Nat))), some (.sh (.int 0))] := by
  intro n
  induction n using Nat.strongRecOn with
  | _ n ih =>
    intro m
    by_cases h : n = 0
    · subst h
      rw [sWhl_false (by simp)]
      simp
    · have hp : 0 < n := by omega
      rw [sWhl_next (ρ2 := [some (.sh (.int (n : Int))), some (.sh (.int ((m % n : Nat) : Int)))]) (by simp [h]) (by simp [u__law_divisor_1, hp, h]), ih (m % n) (Nat.mod_lt _ (by omega)) n]
      have e : Nat.gcd n (m % n) = Nat.gcd m n := by rw [Nat.gcd_comm m n, Nat.gcd_rec n m, Nat.gcd_comm]
      rw [e]
theorem ldivisor_nat (m n : Nat) : m__law_divisor [.sh (.int (m : Int)), .sh (.int (n : Int))] = .ok (.sh (.int (Nat.gcd m n : Nat))) := by
  simp [m__law_divisor_eq, b__law_divisor, ldivisor_loop]
/-! least rounds -/
def lcms (acc : Nat) (ns : List Nat) : Nat := ns.foldl Nat.lcm acc
theorem lcm_step {m n : Nat} : m / Nat.gcd m n * n = Nat.lcm m n := by
  rw [Nat.lcm, Nat.div_mul_right_comm (Nat.gcd_dvd_left m n)]
theorem lcm_step' {m n : Nat} : m * n / Nat.gcd m n = Nat.lcm m n := rfl
theorem lcm_bd {a b m n : Nat} (h : Bd a (m : Int)) (h' : Bd b (n : Int)) (hn : 0 < n) (hm : 0 < m) : Bd (a + b) ((Nat.lcm m n : Nat) : Int) := ⟨by
  have h1 := h.lt
  have h2 := h'.lt
  rw [Int.natAbs_natCast] at h1 h2 ⊢
  have h3 : Nat.lcm m n ≤ m * n := Nat.le_of_dvd (Nat.mul_pos hm hn) (Nat.lcm_dvd_mul m n)
  rw [Nat.pow_add]
  exact Nat.lt_of_le_of_lt h3 (Nat.mul_lt_mul'' h1 h2)⟩
theorem bd_of_le {b : Nat} {m n : Nat} (h : Bd b (n : Int)) (l : m ≤ n) : Bd b (m : Int) := ⟨by
  have := h.lt
  rw [Int.natAbs_natCast] at this ⊢
  omega⟩
theorem lround_loop {b : Nat} (hb : b < 9000) {u : Sv} {s0 : Option Sl} (hu : ∀ m n : Nat, 0 < m → 0 < n → Bd 1000000 (m : Int) → Bd b (n : Int) → turnB (gSet 2) u (.int (n : Int)) [s0, some (.sh (.int (m : Int))), none] = .nx [s0, some (.sh (.int (Nat.lcm m n : Nat))), none]) :
    ∀ (ns : List Nat) (k m : Nat), (∀ n ∈ ns, 0 < n ∧ Bd b (n : Int)) → 0 < m → Bd k (m : Int) → k + ns.length * b ≤ 1000000 → forR (gSet 2) u (ns.map fun (n : Nat) => D.int (n : Int)) [s0, some (.sh (.int (m : Int))), none] = .nx [s0, some (.sh (.int (lcms m ns : Nat))), none]
  | [], k, m, _, _, _, _ => rfl
  | n :: ns, k, m, h, hm, hk, hl => by
    obtain ⟨h1, h2⟩ := h n (List.mem_cons_self ..)
    rw [List.length_cons, Nat.succ_mul] at hl
    rw [List.map_cons, forR_nx (hu m n hm h1 (hk.up (by omega)) h2)]
    exact lround_loop hb hu ns (k + b) (Nat.lcm m n) (fun x hx => h x (List.mem_cons_of_mem _ hx)) (Nat.lcm_pos hm h1) (lcm_bd hk h2 h1 hm) (by omega)
theorem lround_ok {b : Nat} (hb : b < 9000) {ns : List Nat} (h : ∀ n ∈ ns, 0 < n ∧ Bd b (n : Int)) (hl : ns.length * b ≤ 999000) {s : Sl} (hs : s = .sh (.lst (ns.map fun (n : Nat) => D.int (n : Int))) ∨ s = .bo (ns.map fun (n : Nat) => D.int (n : Int))) :
    m_least_round [s] = .ok (.sh (.int (lcms 1 ns : Nat))) := by
  have key : ∀ s0 : Sl, forR (gSet 2) u_least_round_1 (ns.map fun (n : Nat) => D.int (n : Int)) [some s0, some (.sh (.int ((1 : Nat) : Int))), none] = .nx [some s0, some (.sh (.int (lcms 1 ns : Nat))), none] := fun s0 => by
    refine lround_loop hb (fun m n hm hn h1 h2 => ?_) ns 1 1 h (by decide) ⟨by decide⟩ (by omega)
    have hg : 0 < Nat.gcd m n := Nat.gcd_pos_of_pos_left _ hm
    have hg2 : Nat.gcd m n ≤ n := Nat.gcd_le_right _ hn
    have q1 : divOk ((Nat.gcd m n : Nat) : Int) = true := @divOk_i b _ (bd_of_le h2 hg2) (by rw [Nat.blt_eq]; omega)
    have q2 : mulOk ((m / Nat.gcd m n : Nat) : Int) (n : Int) = true := @mulOk_i 1000000 b _ _ (bd_of_le h1 (Nat.div_le_self _ _)) h2 (by rw [Nat.blt_eq]; omega)
    have e := divisor_nat m n
    have e2 : ((m / Nat.gcd m n : Nat) : Int) * (n : Int) = ((Nat.lcm m n : Nat) : Int) := by rw [← lcm_step, Int.natCast_mul]
    rw [Int.natCast_ediv] at q2 e2
    generalize Nat.gcd m n = g at *
    simp [turnB, u_least_round_1, e, hg, q1, q2, e2]
  rcases hs with rfl | rfl
  · have := sFor_at (f := iVar 0) rfl (key (.sh (.lst (ns.map fun (n : Nat) => D.int (n : Int)))))
    simp at this
    simp [m_least_round_eq, b_least_round, t_least_round_2, this]
  · have := sFor_at (f := iVar 0) rfl (key (.bo (ns.map fun (n : Nat) => D.int (n : Int))))
    simp at this
    simp [m_least_round_eq, b_least_round, t_least_round_2, this]
theorem lcms_dvd {ns : List Nat} : ∀ {acc n : Nat}, n ∈ ns → n ∣ lcms acc ns := by
  induction ns with
  | nil => intro acc n h; cases h
  | cons a ns ih =>
    intro acc n h
    rcases List.mem_cons.mp h with rfl | h
    · have : ∀ (ns : List Nat) (m : Nat), m ∣ lcms m ns := by
        intro ns
        induction ns with
        | nil => exact fun m => Nat.dvd_refl m
        | cons b ns ih => exact fun m => Nat.dvd_trans (Nat.dvd_lcm_left m b) (ih _)
      exact Nat.dvd_trans (Nat.dvd_lcm_right acc n) (this ns _)
    · exact ih h
theorem lcms_acc {ns : List Nat} : ∀ {acc : Nat}, acc ∣ lcms acc ns := by
  induction ns with
  | nil => exact fun {m} => Nat.dvd_refl m
  | cons b ns ih => exact fun {m} => Nat.dvd_trans (Nat.dvd_lcm_left m b) ih
theorem lcms_least {ns : List Nat} : ∀ {acc k : Nat}, acc ∣ k → (∀ n ∈ ns, n ∣ k) → lcms acc ns ∣ k := by
  induction ns with
  | nil => exact fun h _ => h
  | cons b ns ih => exact fun {acc k} h h' => ih (Nat.lcm_dvd h (h' b (List.mem_cons_self ..))) fun n hn => h' n (List.mem_cons_of_mem _ hn)
theorem lcms_pos {ns : List Nat} : ∀ {acc : Nat}, 0 < acc → (∀ n ∈ ns, 0 < n) → 0 < lcms acc ns := by
  induction ns with
  | nil => exact fun h _ => h
  | cons b ns ih => exact fun {acc} h h' => ih (Nat.lcm_pos h (h' b (List.mem_cons_self ..))) fun n hn => h' n (List.mem_cons_of_mem _ hn)
theorem lcms_same {ns ms : List Nat} (h : ∀ n, n ∈ ns ↔ n ∈ ms) : lcms 1 ns = lcms 1 ms :=
  Nat.dvd_antisymm (lcms_least (Nat.one_dvd _) fun n hn => lcms_dvd ((h n).mp hn)) (lcms_least (Nat.one_dvd _) fun n hn => lcms_dvd ((h n).mpr hn))
/-! least parts -/
def Least (n p : Int) : Prop := 2 ≤ p ∧ n % p = 0 ∧ ∀ q, 2 ≤ q → q < p → n % q ≠ 0
theorem lpart_loop {n : Int} {b : Nat} (hn : 2 ≤ n) (hb : Bd b n) (h9 : b < 60000000) : ∀ (k : Nat) (p : Int), (n - p).toNat ≤ k → 2 ≤ p → p ≤ n → (∀ q, 2 ≤ q → q < p → n % q ≠ 0) →
    ∃ r, Least n r ∧ ((sWhl (tst (eBin oLe (eBin oMul (eLook 1) (eLook 1)) (eLook 0))) u_least_part_1 [some (.sh (.int n)), some (.sh (.int p))]).thn (sRet (eVar 0))) = .rt (.sh (.int r)) := by
  intro k
  induction k with
  | zero =>
    intro p hk h2 hp hq
    have : p = n := by omega
    subst this
    have bp : mulOk p p = true := @mulOk_i b b p p hb hb (by rw [Nat.blt_eq]; omega)
    have h1 : ¬ p * p ≤ p := by
      have : 2 * p ≤ p * p := Int.mul_le_mul_of_nonneg_right h2 (by omega)
      omega
    refine ⟨p, ⟨h2, Int.emod_self, hq⟩, ?_⟩
    rw [sWhl_false (by simp [bp, h1])]
    simp
  | succ k ih =>
    intro p hk h2 hp hq
    have hbp : Bd b p := ⟨by have := hb.lt; omega⟩
    have bp : mulOk p p = true := @mulOk_i b b p p hbp hbp (by rw [Nat.blt_eq]; omega)
    have hp0 : 0 < p := by omega
    by_cases h1 : p * p ≤ n
    · by_cases h3 : n % p = 0
      · refine ⟨p, ⟨h2, h3, hq⟩, ?_⟩
        rw [sWhl_ret (s := .sh (.int p)) (by simp [bp, h1]) (by simp [u_least_part_1, h3, hp0])]
        rfl
      · have hlt : p < n := by
          rcases Int.lt_or_eq_of_le hp with h | h
          · exact h
          · rw [h, Int.emod_self] at h3
            exact absurd rfl h3
        obtain ⟨r, h4, h5⟩ := ih (p + 1) (by omega) (by omega) (by omega) fun q q1 q2 => by
          by_cases e : q = p
          · rw [e]; exact h3
          · exact hq q q1 (by omega)
        refine ⟨r, h4, ?_⟩
        rw [sWhl_next (ρ2 := [some (.sh (.int n)), some (.sh (.int (p + 1)))]) (by simp [bp, h1]) (by simp [u_least_part_1, h3, hp0])]
        exact h5
    · refine ⟨n, ⟨hn, Int.emod_self, fun q q1 q2 e => ?_⟩, ?_⟩
      · have hd : q ∣ n := Int.dvd_of_emod_eq_zero e
        obtain ⟨r, hr⟩ := hd
        have hr2 : 2 ≤ r := by
          rcases Int.lt_or_le r 2 with h | h
          · exfalso
            have h6 : r ≤ 1 := by omega
            have : q * r ≤ q * 1 := Int.mul_le_mul_of_nonneg_left h6 (by omega)
            omega
          · exact h
        have a1 : p ≤ q := by
          rcases Int.lt_or_le q p with h | h
          · exact absurd e (hq q q1 h)
          · exact h
        have a2 : p ≤ r := by
          rcases Int.lt_or_le r p with h | h
          · exact absurd (by rw [hr, Int.mul_emod_left]) (hq r hr2 h)
          · exact h
        have : p * p ≤ q * r := Int.mul_le_mul a1 a2 (by omega) (by omega)
        omega
      · rw [sWhl_false (by simp [bp, h1])]
        simp
theorem lpart_ok {n : Int} {b : Nat} (hn : 2 ≤ n) (hb : Bd b n) (h9 : b < 60000000) : ∃ r, Least n r ∧ m_least_part [.sh (.int n)] = .ok (.sh (.int r)) := by
  obtain ⟨r, h1, h2⟩ := lpart_loop hn hb h9 (n - 2).toNat 2 (by omega) (by omega) hn fun q q1 q2 => by omega
  refine ⟨r, h1, ?_⟩
  rw [m_least_part_eq]
  refine runB_rt ?_

  simp [b_least_part, t_least_part_2, h2]
theorem Least.le {n p q : Int} (h : Least n p) (h2 : 2 ≤ q) (hq : n % q = 0) : p ≤ q := by
  rcases Int.lt_or_le q p with z | z
  · exact absurd hq (h.2.2 q h2 z)
  · exact z
theorem Least.sq {n p : Int} (h : Least n p) (hn : 2 ≤ n) (ne : p ≠ n) : p * p ≤ n := by
  obtain ⟨r, hr⟩ := Int.dvd_of_emod_eq_zero h.2.1
  have hp := h.1
  have hr2 : 2 ≤ r := by
    rcases Int.lt_or_le r 2 with z | z
    · exfalso
      by_cases h1 : r = 1
      · rw [h1, Int.mul_one] at hr
        exact ne hr.symm
      · have : r ≤ 0 := by omega
        have : p * r ≤ p * 0 := Int.mul_le_mul_of_nonneg_left this (by omega)
        omega
    · exact z
  have a := h.le hr2 (by rw [hr, Int.mul_emod_left])
  have : p * p ≤ p * r := Int.mul_le_mul_of_nonneg_left a (by omega)
  omega
end Mi.Sh

namespace Mi.Sh
open PySem PySem.Spec L2 Mi
theorem drawn_ok {cell k : Int} (hk : 0 ≤ k ∧ k ≤ 100) : ∃ n : Int, 0 ≤ n ∧ n < 10 ^ 61 ∧ m__law_drawn [.sh (.int cell), .sh (.int k)] = .ok (.sh (.int n)) := by
  haveI : Bd 8 k := ⟨by omega⟩
  have m1 : mulOk (cell % 10000000000000000000000000000000000000000) 48271 = true := mulOk_i (by rfl)
  have m2 : mulOk 205891132094649 (k + 1) = true := mulOk_i (by rfl)
  have m3 : mulOk (205891132094649 * (k + 1)) (k + 1) = true := mulOk_i (by rfl)
  have m4 : mulOk (cell % 10000000000000000000000000000000000000000 * 48271 + 205891132094649 * (k + 1) * (k + 1) + k) (cell % 10000000000000000000000000000000000000000 * 48271 + 205891132094649 * (k + 1) * (k + 1) + k) = true := mulOk_i (by rfl)
  have m5 : mulOk 69621 (cell % 10000000000000000000000000000000000000000 * 48271 + 205891132094649 * (k + 1) * (k + 1) + k) = true := mulOk_i (by rfl)
  have m6 := @mulOk_i _ _ ((cell % 10000000000000000000000000000000000000000 * 48271 + 205891132094649 * (k + 1) * (k + 1) + k) * (cell % 10000000000000000000000000000000000000000 * 48271 + 205891132094649 * (k + 1) * (k + 1) + k) + 69621 * (cell % 10000000000000000000000000000000000000000 * 48271 + 205891132094649 * (k + 1) * (k + 1) + k)) ((cell % 10000000000000000000000000000000000000000 * 48271 + 205891132094649 * (k + 1) * (k + 1) + k) * (cell % 10000000000000000000000000000000000000000 * 48271 + 205891132094649 * (k + 1) * (k + 1) + k) + 69621 * (cell % 10000000000000000000000000000000000000000 * 48271 + 205891132094649 * (k + 1) * (k + 1) + k)) inferInstance inferInstance (by rfl)
  generalize hN : cell % 10000000000000000000000000000000000000000 * 48271 + 205891132094649 * (k + 1) * (k + 1) + k = N at *
  generalize hM : N * N + 69621 * N = M at *
  refine ⟨M * M % 10000000000000000000000000000000000000000000000000000000000007 / 8, by omega, by omega, ?_⟩
  simp [m__law_drawn_eq, b__law_drawn, t__law_drawn_1, runB, m1, m2, m3, hN, m4, m5, hM, m6]
structure GoodW (w : Wk3) : Prop where
  p1 : 1 ≤ w.1
  p2 : w.1 ≤ 10 ^ 60
  f1 : 0 ≤ w.2.1
  f2 : w.2.1 < w.1
  l1 : 1 ≤ w.2.2
  l2 : w.2.2 ≤ w.1
theorem waking_ok {cell : Int} : ∃ w : Wk3, GoodW w ∧ m__law_waking [.sh (.int cell)] = .ok (.sh (wkD w)) := by
  obtain ⟨n0, a0, b0, e0⟩ := drawn_ok (cell := cell) (k := 0) (by decide)
  obtain ⟨n1, a1, b1, e1⟩ := drawn_ok (cell := cell) (k := 1) (by decide)
  obtain ⟨n2, a2, b2, e2⟩ := drawn_ok (cell := cell) (k := 2) (by decide)
  obtain ⟨n3, a3, b3, e3⟩ := drawn_ok (cell := cell) (k := 3) (by decide)
  obtain ⟨p, p1, p2, hp⟩ : ∃ p : Int, 1 ≤ p ∧ p ≤ 10 ^ 60 ∧ ∀ ρ : En, ρ = [some (.sh (.int cell)), some (.sh (.int n0)), none, none, none, none] → t__law_waking_4 ρ = t__law_waking_3 [some (.sh (.int cell)), some (.sh (.int n0)), some (.sh (.int p)), none, none, none] := by
    have h : n0 % 4 = 0 ∨ n0 % 4 = 1 ∨ n0 % 4 = 2 ∨ n0 % 4 = 3 := by omega
    rcases h with h | h | h | h
    · exact ⟨1 + n0 / 4 % 6, by omega, by omega, fun ρ e => by subst e; simp [t__law_waking_4, h]⟩
    · exact ⟨1 + n0 / 4 % 30, by omega, by omega, fun ρ e => by subst e; simp [t__law_waking_4, h]⟩
    · exact ⟨1 + n0 / 4 % 10 ^ 6, by omega, by omega, fun ρ e => by subst e; simp [t__law_waking_4, h]⟩
    · exact ⟨1 + n0 / 4 % 10 ^ 60, by omega, by omega, fun ρ e => by subst e; simp [t__law_waking_4, h]⟩
  have hp0 : 0 < p := by omega
  have hm : 0 < min p 3 := by omega
  have f1 := Int.emod_nonneg n1 (show p ≠ 0 by omega)
  have f2 := Int.emod_lt_of_pos n1 hp0
  have g1 := Int.emod_nonneg n2 (show p ≠ 0 by omega)
  have g2 := Int.emod_lt_of_pos n2 hp0
  have k1 := Int.emod_nonneg (n3 / 4) (show min p 3 ≠ 0 by omega)
  have k2 := Int.emod_lt_of_pos (n3 / 4) hm
  obtain ⟨l, l1, l2, hl⟩ : ∃ l : Int, 1 ≤ l ∧ l ≤ p ∧ t__law_waking_1 [some (.sh (.int cell)), some (.sh (.int n0)), some (.sh (.int p)), some (.sh (.int (n1 % p))), some (.sh (.int n3)), none] = .rt (.sh (wkD (p, n1 % p, l))) := by
    have h : n3 % 4 = 0 ∨ n3 % 4 = 1 ∨ n3 % 4 = 2 ∨ n3 % 4 = 3 := by omega
    rcases h with h | h | h | h
    · exact ⟨1, by omega, by omega, by simp [t__law_waking_1, e2, hp0, hm, h, wkD]⟩
    · exact ⟨p, by omega, by omega, by simp [t__law_waking_1, e2, hp0, hm, h, wkD]⟩
    · exact ⟨1 + n2 % p, by omega, by omega, by simp [t__law_waking_1, e2, hp0, hm, h, wkD]⟩
    · exact ⟨1 + n3 / 4 % min p 3, by omega, by omega, by simp [t__law_waking_1, e2, hp0, hm, h, wkD]⟩
  refine ⟨(p, n1 % p, l), ⟨p1, p2, f1, f2, l1, l2⟩, ?_⟩
  rw [m__law_waking_eq]
  refine runB_rt ?_
  simp [b__law_waking, e0, hp, t__law_waking_3, t__law_waking_2, e1, e3, hp0, hl]
theorem any_find {α : Type} {q : α → Bool} : ∀ xs : List α, xs.any q = (xs.find? q).isSome
  | [] => rfl
  | x :: xs => by
    rw [List.any_cons, List.find?_cons, any_find xs]
    cases q x <;> rfl
/-- awake by a plan -/
def awk (ws : List Wk3) (t : Int) : Bool := ws.any fun w => decide ((t - w.2.1) % w.1 < w.2.2)
theorem awake_ok {ws : List Wk3} {t : Int} (h : ∀ w ∈ ws, 1 ≤ w.1) {s : Sl} (hs : s = .sh (.lst (ws.map wkD)) ∨ s = .bo (ws.map wkD)) : m_awake [s, .sh (.int t)] = .ok (.sh (.bl (awk ws t))) := by
  have key := forR_find (gt := gTupD 3 (gsCons (gSet 2) (gsCons (gSet 3) (gsCons (gSet 4) (gsNil))))) (u := u_awake_1) (ρ := [some s, some (.sh (.int t)), none, none, none]) wkD (fun w => decide ((t - w.2.1) % w.1 < w.2.2)) (fun _ => .sh (.bl true)) ws fun w hw => by
    have := h w hw
    have hp : 0 < w.1 := by omega
    by_cases hq : (t - w.2.1) % w.1 < w.2.2
    · simp [turnB, wkD, u_awake_1, hp, hq]
    · simp [turnB, wkD, u_awake_1, hp, hq]
  have e := sFor_at (f := iVar 0) (by rcases hs with rfl | rfl <;> rfl) key
  rw [m_awake_eq]
  refine runB_rt ?_
  simp [b_awake, e]
  unfold awk
  rw [any_find]
  cases List.find? (fun w => decide ((t - w.2.1) % w.1 < w.2.2)) ws <;> simp
theorem shifted_ok {ws : List Wk3} {by_ : Int} (h : ∀ w ∈ ws, 1 ≤ w.1) (hl : ws.length ≤ 1000000) {s : Sl} (hs : s = .sh (.lst (ws.map wkD)) ∨ s = .bo (ws.map wkD)) :
    m_shifted [s, .sh (.int by_)] = .ok (.ow ((ws.map fun w => (w.1, (w.2.1 + by_) % w.1, w.2.2)).map wkD)) := by
  have e := eLc_ok (fi := iVar 0) (gt := gTupD 3 (gsCons (gSet 2) (gsCons (gSet 3) (gsCons (gSet 4) (gsNil))))) (p := tYesE) (f := eTup (vCons (eVar 2) (vCons (eBin oMod (eBin oAdd (eLook 3) (eLook 1)) (eLook 2)) (vCons (eVar 4) (vNil))))) (vs := [2, 3, 4]) (ρ := [some s, some (.sh (.int by_)), none, none, none]) (items := ws.map wkD)
    (by rcases hs with rfl | rfl <;> rfl) (by rw [List.length_map]; exact hl) (lcR_map wkD (fun w => wkD (w.1, (w.2.1 + by_) % w.1, w.2.2)) ws fun w hw => by
      have := h w hw
      have hp : 0 < w.1 := by omega
      simp [wkD, hp])
  rw [m_shifted_eq]
  refine runB_rt ?_
  simp [b_shifted, e]
theorem plan_round_ok {ws : List Wk3} {b : Nat} (hb : b < 9000) (h : ∀ w ∈ ws, 1 ≤ w.1 ∧ Bd b w.1) (hl : ws.length * b ≤ 999000) (hl2 : ws.length ≤ 1000000) {s : Sl} (hs : s = .sh (.lst (ws.map wkD)) ∨ s = .bo (ws.map wkD)) :
    m_plan_round [s] = .ok (.sh (.int (lcms 1 (ws.map fun w => w.1.toNat) : Nat))) := by
  have e := eLc_ok (fi := iVar 0) (gt := gTupD 3 (gsCons (gSet 1) (gsCons (gSet 2) (gsCons (gSet 3) (gsNil))))) (p := tYesE) (f := eVar 1) (vs := [1, 2, 3]) (ρ := [some s, none, none, none]) (items := ws.map wkD)
    (by rcases hs with rfl | rfl <;> rfl) (by rw [List.length_map]; exact hl2) (lcR_map wkD (fun w => D.int w.1) ws fun w hw => by simp [wkD])
  have e2 : (ws.map fun w => D.int w.1) = (ws.map fun w => w.1.toNat).map fun (n : Nat) => D.int (n : Int) := by
    rw [List.map_map]
    refine List.map_congr_left fun w hw => ?_
    have := (h w hw).1
    show D.int w.1 = D.int (w.1.toNat : Int)
    rw [Int.toNat_of_nonneg (by omega)]
  rw [e2] at e
  have e3 := lround_ok (b := b) hb (ns := ws.map fun w => w.1.toNat) (fun n hn => by
    obtain ⟨w, hw, rfl⟩ := List.mem_map.mp hn
    obtain ⟨h1, h2⟩ := h w hw
    refine ⟨by omega, ?_⟩
    rw [Int.toNat_of_nonneg (by omega)]
    exact h2) (by rw [List.length_map]; exact hl) (.inl rfl)
  rw [m_plan_round_eq]
  refine runB_rt ?_
  simp only [List.map_map] at e e3 ⊢
  simp [b_plan_round, e, e3]
theorem GoodW.bp {w : Wk3} (h : GoodW w) : Bd 200 w.1 := ⟨by have := h.p1; have := h.p2; omega⟩
theorem GoodW.bf {w : Wk3} (h : GoodW w) : Bd 200 w.2.1 := ⟨by have := h.p1; have := h.p2; have := h.f1; have := h.f2; omega⟩
theorem GoodW.bl {w : Wk3} (h : GoodW w) : Bd 200 w.2.2 := ⟨by have := h.p1; have := h.p2; have := h.l1; have := h.l2; omega⟩
theorem atI_at {α β : Type} {f : α → β} {xs : List α} {i : Int} (h0 : 0 ≤ i) (h : i < xs.length) : ∃ x ∈ xs, atI (xs.map f) i = some (f x) := by
  have hi : i.toNat < xs.length := by omega
  refine ⟨xs[i.toNat], List.getElem_mem _, ?_⟩
  rw [atI_nat h0 (by rw [List.length_map]; exact h)]
  simp [hi]
theorem turn_ok {ws : List Wk3} {cell : Int} (h : ∀ w ∈ ws, GoodW w) (hl : ws.length ≤ 63) : ∃ t : Int, t.natAbs < 2 ^ 400 ∧ m__law_turn [.sh (.int cell), .sh (.lst (ws.map wkD))] = .ok (.sh (.int t)) := by
  obtain ⟨n8, a8, b8, e8⟩ := drawn_ok (cell := cell) (k := 8) (by decide)
  obtain ⟨n9, a9, b9, e9⟩ := drawn_ok (cell := cell) (k := 9) (by decide)
  obtain ⟨n10, a10, b10, e10⟩ := drawn_ok (cell := cell) (k := 10) (by decide)
  obtain ⟨n11, a11, b11, e11⟩ := drawn_ok (cell := cell) (k := 11) (by decide)
  rw [m__law_turn_eq]
  obtain ⟨t0, ht0, k0⟩ : ∃ t0 : Int, t0.natAbs < 2 ^ 300 ∧ t__law_turn_2 [some (.sh (.int cell)), some (.sh (.lst (ws.map wkD))), some (.sh (.int n8)), none, none, none, none, none] = t__law_turn_1 [some (.sh (.int cell)), some (.sh (.lst (ws.map wkD))), some (.sh (.int n8)), some (.sh (.int t0)), none, none, none, none] := by
    have q : n8 % 2 = 0 ∨ n8 % 2 = 1 := by omega
    rcases q with q | q
    · exact ⟨n8 / 8 % 41 - 20, by omega, by simp [t__law_turn_2, q]⟩
    · exact ⟨n8 / 8 % (2 * 10 ^ 60) - 10 ^ 60, by omega, by simp [t__law_turn_2, q]⟩
  have start : ∀ {t : Int}, t__law_turn_1 [some (.sh (.int cell)), some (.sh (.lst (ws.map wkD))), some (.sh (.int n8)), some (.sh (.int t0)), none, none, none, none] = .rt (.sh (.int t)) → runB 8 b__law_turn [.sh (.int cell), .sh (.lst (ws.map wkD))] = .ok (.sh (.int t)) := fun {t} e => by
    refine runB_rt ?_
    simp [b__law_turn, e8, k0, e]
  by_cases c1 : ws = []
  · subst c1
    refine ⟨t0, by omega, start ?_⟩
    have := oEq_wks_nil (ws := [])
    simp at this
    simp [t__law_turn_1, this]
  by_cases c2 : n8 / 2 % 4 > 0
  · have hpos : 0 < ws.length := List.length_pos_iff.mpr c1
    have hpos' : (0 : Int) < ws.length := by omega
    obtain ⟨w, hw, hat⟩ := atI_at (f := wkD) (xs := ws) (i := n9 % ws.length) (Int.emod_nonneg _ (by omega)) (Int.emod_lt_of_pos _ hpos')
    have g := h w hw
    haveI := g.bp
    haveI := g.bf
    haveI := g.bl
    have m1 : mulOk w.1 (n10 % 2000000000000000000000000000000 - 1000000000000000000000000000000) = true := mulOk_i (by rfl)
    have bigm : (w.1 * (n10 % 2000000000000000000000000000000 - 1000000000000000000000000000000)).natAbs < 2 ^ 320 := ((inferInstance : Bd _ (w.1 * (n10 % 2000000000000000000000000000000 - 1000000000000000000000000000000))).up (Nat.le_of_ble_eq_true (by rfl))).lt
    have := g.bf.lt
    have := g.bl.lt
    generalize hr : w.1 * (n10 % 2000000000000000000000000000000 - 1000000000000000000000000000000) = R at *
    have em := oEq_wks_nil (ws := ws)
    have em2 : ws.isEmpty = false := by cases ws; exact absurd rfl c1; rfl
    rw [em2] at em
    have q : n11 % 4 = 0 ∨ n11 % 4 = 1 ∨ n11 % 4 = 2 ∨ n11 % 4 = 3 := by omega
    rcases q with q | q | q | q
    · exact ⟨w.2.1 + R + 0, by omega, start (by simp [t__law_turn_1, em, c2, e9, e10, e11, hpos, c1, hat, wkD, m1, hr, q])⟩
    · exact ⟨w.2.1 + R + -1, by omega, start (by simp [t__law_turn_1, em, c2, e9, e10, e11, hpos, c1, hat, wkD, m1, hr, q])⟩
    · exact ⟨w.2.1 + R + w.2.2, by omega, start (by simp [t__law_turn_1, em, c2, e9, e10, e11, hpos, c1, hat, wkD, m1, hr, q])⟩
    · exact ⟨w.2.1 + R + (w.2.2 - 1), by omega, start (by simp [t__law_turn_1, em, c2, e9, e10, e11, hpos, c1, hat, wkD, m1, hr, q])⟩
  · refine ⟨t0, by omega, start ?_⟩
    have em := oEq_wks_nil (ws := ws)
    have em2 : ws.isEmpty = false := by cases ws; exact absurd rfl c1; rfl
    rw [em2] at em
    have c3 : ¬ (0 < n8 / 2 % 4) := c2
    simp [t__law_turn_1, em, c3]
end Mi.Sh
namespace Mi.Sh
open PySem PySem.Spec L2 Mi
theorem lcms_bd {b : Nat} : ∀ (ns : List Nat) (k acc : Nat), 0 < acc → Bd k (acc : Int) → (∀ n ∈ ns, 0 < n ∧ Bd b (n : Int)) → Bd (k + ns.length * b) ((lcms acc ns : Nat) : Int)
  | [], k, acc, _, h, _ => by
    rw [List.length_nil, Nat.zero_mul]
    exact h
  | n :: ns, k, acc, h0, h, hn => by
    obtain ⟨h1, h2⟩ := hn n (List.mem_cons_self ..)
    have := lcms_bd ns (k + b) (Nat.lcm acc n) (Nat.lcm_pos h0 h1) (lcm_bd h h2 h1 h0) fun m hm => hn m (List.mem_cons_of_mem _ hm)
    rw [List.length_cons, show k + (ns.length + 1) * b = k + b + ns.length * b by rw [Nat.succ_mul]; omega]
    exact this
theorem lcm_fold {τ : Type} {gt : Gt} {u : Sv} (enc : Nat → En) (val : τ → D) (per : τ → Nat) (xs : List τ) (hx : ∀ x ∈ xs, 0 < per x)
    (hu : ∀ m x, x ∈ xs → 0 < m → m ≤ lcms 1 (xs.map per) → turnB gt u (val x) (enc m) = .nx (enc (Nat.lcm m (per x)))) : forR gt u (xs.map val) (enc 1) = .nx (enc (lcms 1 (xs.map per))) := by
  have hT : 0 < lcms 1 (xs.map per) := lcms_pos (by decide) fun n hn => by
    obtain ⟨x, h, rfl⟩ := List.mem_map.mp hn
    exact hx x h
  obtain ⟨h1, _⟩ := forR_fold (gt := gt) (u := u) enc val (fun m x => Nat.lcm m (per x)) (fun m => 0 < m ∧ m ∣ lcms 1 (xs.map per)) xs 1 ⟨by decide, Nat.one_dvd _⟩ fun m x hm ⟨i1, i2⟩ =>
    ⟨hu m x hm i1 (Nat.le_of_dvd hT i2), Nat.lcm_pos i1 (hx x hm), Nat.lcm_dvd i2 (lcms_dvd (List.mem_map.mpr ⟨x, hm, rfl⟩))⟩
  rw [h1]
  have : ∀ (xs : List τ) (a : Nat), xs.foldl (fun m x => Nat.lcm m (per x)) a = lcms a (xs.map per) := fun xs a => by
    unfold lcms
    rw [List.foldl_map]
  rw [this]
theorem awk_more {ws : List Wk3} {t L : Int} (h : ∀ w ∈ ws, w.1 ∣ L) : awk ws (t + L) = awk ws t := by
  unfold awk
  have : ∀ w ∈ ws, decide ((t + L - w.2.1) % w.1 < w.2.2) = decide ((t - w.2.1) % w.1 < w.2.2) := fun w hw => by
    obtain ⟨k, rfl⟩ := h w hw
    rw [show t + w.1 * k - w.2.1 = (t - w.2.1) + w.1 * k by omega, Int.add_mul_emod_self_left]
  clear h
  induction ws with
  | nil => rfl
  | cons w ws ih =>
    rw [List.any_cons, List.any_cons, this w (List.mem_cons_self ..), ih fun v hv => this v (List.mem_cons_of_mem _ hv)]
end Mi.Sh

namespace Mi.Sh
open PySem PySem.Spec L2 Mi
def okW (w : Wk3) : Bool := decide (1 ≤ w.1) && (decide (0 ≤ w.2.1) && (decide (w.2.1 < w.1) && (decide (1 ≤ w.2.2) && decide (w.2.2 ≤ w.1))))
theorem plan_of_loop {s : Sl} : ∀ (ws acc : List Wk3), acc.length + ws.length ≤ 100000 → ∃ ρ, forR (gTupD 3 (gsCons (gSet 2) (gsCons (gSet 3) (gsCons (gSet 4) (gsNil))))) u_plan_of_2 (ws.map wkD) [some s, some (.ow (acc.map wkD)), none, none, none] =
    if ws.all okW = true then .nx [some s, some (.ow ((acc ++ ws).map wkD)), none, none, none] else .exc "NoPlan" ρ
  | [], acc, _ => ⟨[], by simp⟩
  | w :: ws, acc, hl => by
    rw [List.length_cons] at hl
    have hz : (acc.map wkD).length < szL := lt_szL (by rw [List.length_map]; omega)
    by_cases hw : okW w = true
    · obtain ⟨ρ, e⟩ := plan_of_loop (s := s) ws (acc ++ [w]) (by rw [List.length_append, List.length_singleton]; omega)
      refine ⟨ρ, ?_⟩
      have hh := hw
      simp only [okW, Bool.and_eq_true, decide_eq_true_eq] at hh
      obtain ⟨h1, h2, h3, h4, h5⟩ := hh
      have h1' : ¬ w.1 < 1 := by omega
      have hz2 : acc.length < szL := by rw [List.length_map] at hz; exact hz
      rw [List.map_cons, forR_nx (ρ' := [some s, some (.ow ((acc ++ [w]).map wkD)), none, none, none]), e]
      · rw [List.all_cons, hw, Bool.true_and, List.append_assoc]
        rfl
      · simp [turnB, wkD, u_plan_of_2, t_plan_of_1, h1', h2, h3, h4, h5, hz2]
    · refine ⟨[some s, some (.ow (acc.map wkD)), some (.sh (.int w.1)), some (.sh (.int w.2.1)), some (.sh (.int w.2.2))], ?_⟩
      have hz2 : acc.length < szL := by rw [List.length_map] at hz; exact hz
      have hw' : okW w = false := by cases h : okW w with | true => exact absurd h hw | false => rfl
      rw [List.map_cons, List.all_cons, hw', Bool.false_and, if_neg Bool.false_ne_true]
      refine forR_exc ?_
      by_cases h1 : w.1 < 1
      · simp [turnB, wkD, u_plan_of_2, h1]
      by_cases h2 : 0 ≤ w.2.1
      · by_cases h3 : w.2.1 < w.1
        · by_cases h4 : 1 ≤ w.2.2
          · have h5 : ¬ w.2.2 ≤ w.1 := fun h5 => hw (by
              simp only [okW, Bool.and_eq_true, decide_eq_true_eq]
              exact ⟨by omega, h2, h3, h4, h5⟩)
            simp [turnB, wkD, u_plan_of_2, h1, h2, h3, h4, h5]
          · simp [turnB, wkD, u_plan_of_2, h1, h2, h3, h4]
        · simp [turnB, wkD, u_plan_of_2, h1, h2, h3]
      · simp [turnB, wkD, u_plan_of_2, h1, h2]
theorem plan_of_ok {ws : List Wk3} (hl : ws.length ≤ 100000) (h : ws.all okW = true) {s : Sl} (hs : s = .sh (.lst (ws.map wkD)) ∨ s = .bo (ws.map wkD)) : m_plan_of [s] = .ok (.ow (ws.map wkD)) := by
  obtain ⟨ρ, e⟩ := plan_of_loop (s := s) ws [] (by simpa using hl)
  rw [if_pos h] at e
  have e2 := sFor_at (f := iVar 0) (by rcases hs with rfl | rfl <;> rfl) e
  rw [m_plan_of_eq]
  refine runB_rt ?_
  simp at e2
  simp [b_plan_of, t_plan_of_3, e2]
theorem runB_exc {n : Nat} {u : Sv} {args : List Sl} {x : Str} {ρ : En} (h : u (args.map some ++ List.replicate (n - args.length) none) = .exc x ρ) : runB n u args = .exc x := by unfold runB; rw [h]; rfl
theorem plan_of_no {ws : List Wk3} (hl : ws.length ≤ 100000) (h : ws.all okW = false) {s : Sl} (hs : s = .sh (.lst (ws.map wkD)) ∨ s = .bo (ws.map wkD)) : m_plan_of [s] = .exc "NoPlan" := by
  obtain ⟨ρ, e⟩ := plan_of_loop (s := s) ws [] (by simpa using hl)
  rw [if_neg (by rw [h]; exact Bool.false_ne_true)] at e
  have e2 := sFor_at (f := iVar 0) (by rcases hs with rfl | rfl <;> rfl) e
  rw [m_plan_of_eq]
  refine runB_exc (ρ := ρ) ?_
  simp at e2
  simp [b_plan_of, t_plan_of_3, e2]
theorem GoodW.ok {w : Wk3} (h : GoodW w) : okW w = true := by
  simp only [okW, Bool.and_eq_true, decide_eq_true_eq]
  exact ⟨h.p1, h.f1, h.f2, h.l1, h.l2⟩
theorem all_ok {ws : List Wk3} (h : ∀ w ∈ ws, GoodW w) : ws.all okW = true := List.all_eq_true.mpr fun w hw => (h w hw).ok
theorem zipD_map {τ : Type} {f g : τ → D} : ∀ xs : List τ, zipD (xs.map f) (xs.map g) = xs.map fun x => .tup [f x, g x]
  | [] => rfl
  | x :: xs => by
    rw [List.map_cons, List.map_cons, List.map_cons, zipD, zipD_map xs]
end Mi.Sh

namespace Mi.Sh
open PySem PySem.Spec L2 Mi
/-! ## the first hit -/
theorem emod_of {a s q r : Int} (h0 : 0 ≤ r) (h1 : r < s) (h : a = s * q + r) : a % s = r := by
  rw [h, Int.add_comm, Int.add_mul_emod_self_left, Int.emod_eq_of_lt h0 h1]
theorem cl_ge {s x : Int} (hs : 0 < s) : -x ≤ s * -(x / s) := by
  have h1 := Int.emod_add_mul_ediv x s
  have h2 := Int.emod_nonneg x (show s ≠ 0 by omega)
  rw [Int.mul_neg]
  omega
theorem cl_lt {s x : Int} (hs : 0 < s) : s * -(x / s) < -x + s := by
  have h1 := Int.emod_add_mul_ediv x s
  have h2 := Int.emod_lt_of_pos x hs
  rw [Int.mul_neg]
  omega
theorem cl_le {s x m : Int} (hs : 0 < s) (h : -x ≤ s * m) : -(x / s) ≤ m := by
  have h1 := cl_lt (x := x) hs
  have h2 : s * -(x / s) < s * (m + 1) := by
    rw [Int.mul_add, Int.mul_one]
    omega
  have := Int.lt_of_mul_lt_mul_left h2 (by omega)
  omega
def Hit (s w l h c : Int) : Prop := l ≤ (s * c) % w ∧ (s * c) % w ≤ h
def LeastHit (s w l h : Int) : Option Int → Prop
  | some c => 0 ≤ c ∧ Hit s w l h c ∧ ∀ c', 0 ≤ c' → c' < c → ¬ Hit s w l h c'
  | none => ∀ c, 0 ≤ c → ¬ Hit s w l h c
structure Rg (s w l h : Int) : Prop where
  s0 : 0 ≤ s
  sw : s < w
  l1 : 1 ≤ l
  lh : l ≤ h
  hw : h < w
theorem hit_stop {s w l h : Int} (g : Rg s w l h) (hs : 0 < s) (hc : s * -(-l / s) ≤ h) : LeastHit s w l h (some (-(-l / s))) := by
  have h1 := cl_ge (x := -l) hs
  rw [Int.neg_neg] at h1
  have c0 : 0 ≤ -(-l / s) := by
    rcases Int.lt_or_le (-(-l / s)) 0 with z | z
    · have : s * -(-l / s) ≤ s * 0 := Int.mul_le_mul_of_nonneg_left (by omega) (by omega)
      have := g.l1
      omega
    · exact z
  have hw := g.hw
  have l1 := g.l1
  refine ⟨c0, ?_, fun c' p1 p2 q => ?_⟩
  · unfold Hit
    rw [Int.emod_eq_of_lt (by omega) (by omega)]
    exact ⟨h1, hc⟩
  · have h2 : ¬ l ≤ s * c' := fun z => by
      have := cl_le (x := -l) hs (by rw [Int.neg_neg]; exact z)
      omega
    have h3 : 0 ≤ s * c' := Int.mul_nonneg (by omega) p1
    have hw := g.lh
    unfold Hit at q
    rw [Int.emod_eq_of_lt h3 (by omega)] at q
    omega
theorem hit_zero {w l h : Int} (g : Rg 0 w l h) : LeastHit 0 w l h none := fun c h0 q => by
  unfold Hit at q
  rw [Int.zero_mul, Int.zero_emod] at q
  have := g.l1
  omega
/-- the step down: no multiple of s from l to h -/
theorem down_rg {s w l h : Int} (g : Rg s w l h) (hs : 0 < s) (hc : h < s * -(-l / s)) : (-h) % s = s * -(-l / s) - h ∧ (-l) % s = s * -(-l / s) - l ∧ Rg (w % s) s ((-h) % s) ((-l) % s) := by
  have h1 := cl_ge (x := -l) hs
  have h2 := cl_lt (x := -l) hs
  rw [Int.neg_neg] at h1 h2
  have lh := g.lh
  have e1 : (-h) % s = s * -(-l / s) - h := emod_of (q := -l / s) (by omega) (by omega) (by rw [Int.mul_neg]; omega)
  have e2 : (-l) % s = s * -(-l / s) - l := emod_of (q := -l / s) (by omega) (by omega) (by rw [Int.mul_neg]; omega)
  refine ⟨e1, e2, ⟨Int.emod_nonneg _ (by omega), Int.emod_lt_of_pos _ hs, ?_, ?_, ?_⟩⟩
  · rw [e1]; omega
  · rw [e1, e2]; omega
  · rw [e2]; omega
def up (s l w q : Int) : Int := -((-(w * q) - l) / s)
theorem hit_up {s w l h q : Int} (g : Rg s w l h) (hs : 0 < s) (hc : h < s * -(-l / s)) (hq : Hit (w % s) s ((-h) % s) ((-l) % s) q) : Hit s w l h (up s l w q) := by
  obtain ⟨e1, e2, _⟩ := down_rg g hs hc
  have em : (w % s * q) % s = (w * q) % s := by rw [Int.mul_emod, Int.emod_emod_of_dvd _ (Int.dvd_refl s), ← Int.mul_emod]
  unfold Hit at hq
  rw [em, e1, e2] at hq
  have h1 := cl_ge (x := -(w * q) - l) hs
  have hd := Int.emod_add_mul_ediv (w * q) s
  have h3 : s * ((w * q) / s + -(-l / s)) = s * ((w * q) / s) + s * -(-l / s) := Int.mul_add ..
  have h2 : up s l w q ≤ (w * q) / s + -(-l / s) := cl_le hs (by rw [h3]; omega)
  have h4 : s * up s l w q ≤ s * ((w * q) / s + -(-l / s)) := Int.mul_le_mul_of_nonneg_left h2 (by omega)
  have h5 : -(-(w * q) - l) ≤ s * up s l w q := h1
  have l1 := g.l1
  have hw := g.hw
  have e : (s * up s l w q) % w = s * up s l w q - w * q := emod_of (q := q) (by omega) (by omega) (by omega)
  unfold Hit
  rw [e]
  omega
theorem hit_back {s w l h c : Int} (g : Rg s w l h) (hs : 0 < s) (hc : h < s * -(-l / s)) (h0 : 0 ≤ c) (hq : Hit s w l h c) : 0 ≤ (s * c) / w ∧ Hit (w % s) s ((-h) % s) ((-l) % s) ((s * c) / w) ∧ up s l w ((s * c) / w) ≤ c := by
  obtain ⟨e1, e2, _⟩ := down_rg g hs hc
  have sw := g.sw
  have hd := Int.emod_add_mul_ediv (s * c) w
  have hq2 := hq
  unfold Hit at hq2
  have h1 := cl_ge (x := -l) hs
  have h2 := cl_lt (x := -l) hs
  rw [Int.neg_neg] at h1 h2
  have em : (w % s * ((s * c) / w)) % s = (w * ((s * c) / w)) % s := by rw [Int.mul_emod, Int.emod_emod_of_dvd _ (Int.dvd_refl s), ← Int.mul_emod]
  have e3 : (w * ((s * c) / w)) % s = s * -(-l / s) - (s * c) % w := emod_of (q := c + -l / s) (by omega) (by omega) (by rw [Int.mul_add, Int.mul_neg]; omega)
  refine ⟨Int.ediv_nonneg (Int.mul_nonneg (by omega) h0) (by omega), ?_, ?_⟩
  · unfold Hit
    rw [em, e3, e1, e2]
    omega
  · exact cl_le hs (by omega)
theorem up_mono {s w l q q' : Int} (hs : 0 < s) (hw : 0 ≤ w) (h : q ≤ q') : up s l w q ≤ up s l w q' := by
  have h1 := cl_ge (x := -(w * q') - l) hs
  have h2 : w * q ≤ w * q' := Int.mul_le_mul_of_nonneg_left h hw
  exact cl_le hs (by unfold up; omega)
theorem up_nonneg {s w l q : Int} (hs : 0 < s) (hw : 0 ≤ w) (hl : 1 ≤ l) (hq : 0 ≤ q) : 0 ≤ up s l w q := by
  have h1 := cl_ge (x := -(w * q) - l) hs
  have h2 : 0 ≤ w * q := Int.mul_nonneg hw hq
  rcases Int.lt_or_le (up s l w q) 0 with z | z
  · have : s * up s l w q ≤ s * 0 := Int.mul_le_mul_of_nonneg_left (by omega) (by omega)
    unfold up at this
    omega
  · exact z
theorem least_up {s w l h : Int} (g : Rg s w l h) (hs : 0 < s) (hc : h < s * -(-l / s)) {o : Option Int} (ho : LeastHit (w % s) s ((-h) % s) ((-l) % s) o) : LeastHit s w l h (o.map (up s l w)) := by
  have sw := g.sw
  cases o with
  | none =>
    intro c h0 q
    obtain ⟨a, b, _⟩ := hit_back g hs hc h0 q
    exact ho _ a b
  | some q =>
    obtain ⟨q0, q1, q2⟩ := ho
    refine ⟨up_nonneg hs (by omega) g.l1 q0, hit_up g hs hc q1, fun c' p1 p2 z => ?_⟩
    obtain ⟨a, b, d⟩ := hit_back g hs hc p1 z
    have : q ≤ (s * c') / w := by
      rcases Int.lt_or_le ((s * c') / w) q with y | y
      · exact absurd b (q2 _ a y)
      · exact y
    have := up_mono (s := s) (l := l) hs (show 0 ≤ w by omega) this
    omega
theorem least_lt {s w l h c : Int} (g : Rg s w l h) (hl : LeastHit s w l h (some c)) : 0 ≤ c ∧ c < w := by
  obtain ⟨c0, c1, c2⟩ := hl
  have hw : 0 < w := by have := g.s0; have := g.sw; omega
  refine ⟨c0, ?_⟩
  rcases Int.lt_or_le c w with z | z
  · exact z
  · exfalso
    have e : (s * (c % w)) % w = (s * c) % w := by rw [Int.mul_emod, Int.emod_emod_of_dvd _ (Int.dvd_refl w), ← Int.mul_emod]
    have lt := Int.emod_lt_of_pos c hw
    exact c2 (c % w) (Int.emod_nonneg _ (by omega)) (by omega) (by unfold Hit; rw [e]; exact c1)
/-- the way down and the count at its end -/
inductive Chain : Int → Int → Int → Int → List (Int × Int × Int) → Option Int → Prop where
  | zero {w l h : Int} : Chain 0 w l h [] none
  | stop {s w l h : Int} (hs : 0 < s) (hc : s * -(-l / s) ≤ h) : Chain s w l h [] (some (-(-l / s)))
  | go {s w l h : Int} {ps : List (Int × Int × Int)} {o : Option Int} (hs : 0 < s) (hc : h < s * -(-l / s)) (t : Chain (w % s) s ((-h) % s) ((-l) % s) ps o) : Chain s w l h ((s, l, w) :: ps) o
def unw (ps : List (Int × Int × Int)) (c : Int) : Int := ps.foldr (fun p q => up p.1 p.2.1 p.2.2 q) c
theorem chain_least {s w l h : Int} {ps : List (Int × Int × Int)} {o : Option Int} (t : Chain s w l h ps o) : Rg s w l h → LeastHit s w l h (o.map (unw ps)) := by
  induction t with
  | zero => exact hit_zero
  | stop hs hc => exact fun g => hit_stop g hs hc
  | @go s w l h ps o hs hc t ih =>
    intro g
    have := least_up g hs hc (ih (down_rg g hs hc).2.2)
    cases o with
    | none => exact this
    | some c => exact this
def pD (p : Int × Int × Int) : D := .tup [.int p.1, .int p.2.1, .int p.2.2]
def optD : Option Int → D
  | none => .non
  | some c => .int c
theorem down_loop {b : Nat} (hb : b < 8000) : ∀ (n : Nat) (s w l h : Int) (acc : List (Int × Int × Int)), Rg s w l h → s * w < 2 ^ n → Bd b w → acc.length + n ≤ 900000 →
    ∃ ps o, Chain s w l h ps o ∧ ((sWhl (tst (eBin oGt (eLook 0) (eD (.int 0)))) u_gone_down_4 [some (.sh (.int s)), some (.sh (.int w)), some (.sh (.int l)), some (.sh (.int h)), some (.ow (acc.map pD)), none]).thn (sFrz 4 (sRet (eTup (vCons (eVar 4) (vCons (eD .non) (vNil))))))) = .rt (.sh (.tup [.lst ((acc ++ ps).map pD), optD o])) := by
  intro n
  induction n with
  | zero =>
    intro s w l h acc g hn hw hl
    have s0 : s = 0 := by
      rcases Int.lt_or_le 0 s with z | z
      · have : 1 * 1 ≤ s * w := Int.mul_le_mul (by omega) (by have := g.sw; omega) (by omega) (by omega)
        omega
      · have := g.s0; omega
    subst s0
    refine ⟨[], none, .zero, ?_⟩
    rw [sWhl_false (by simp)]
    simp [optD]
  | succ n ih =>
    intro s w l h acc g hn hw hl
    rcases Int.lt_or_le 0 s with hs | z
    · have hws := g.sw
      have bs : Bd b s := ⟨by have := hw.lt; omega⟩
      have bl : Bd b l := ⟨by have := hw.lt; have := g.l1; have := g.lh; have := g.hw; omega⟩
      have ds : divOk s = true := @divOk_i b s bs (by rw [Nat.blt_eq]; omega)
      have c1 := cl_ge (x := -l) hs
      have c2 := cl_lt (x := -l) hs
      rw [Int.neg_neg] at c1 c2
      have bc : Bd b (-(-l / s)) := @bd_neg b _ (@bd_div b _ _ (@bd_neg b l bl))
      have ms : mulOk s (-(-l / s)) = true := @mulOk_i b b _ _ bs bc (by rw [Nat.blt_eq]; omega)
      by_cases hc : s * -(-l / s) ≤ h
      · refine ⟨[], some (-(-l / s)), .stop hs hc, ?_⟩
        rw [sWhl_ret (s := .sh (.tup [.lst (acc.map pD), .int (-(-l / s))])) (by simp [hs]) (by simp [u_gone_down_4, t_gone_down_3, hs, ds, ms, hc])]
        simp [optD]
      · have hc' : h < s * -(-l / s) := by omega
        obtain ⟨e1, e2, g2⟩ := down_rg g hs hc'
        have hlt : w % s * s < 2 ^ n := by
          have m1 := Int.emod_lt_of_pos w hs
          have m2 := Int.emod_nonneg w (show s ≠ 0 by omega)
          have m3 : w % s + s ≤ w := by
            have d := Int.emod_add_mul_ediv w s
            have : 1 ≤ w / s := Int.le_ediv_of_mul_le hs (by omega)
            have : s * 1 ≤ s * (w / s) := Int.mul_le_mul_of_nonneg_left this (by omega)
            omega
          have m4 : (2 * (w % s)) * s ≤ w * s := Int.mul_le_mul_of_nonneg_right (by omega) (by omega)
          have m5 : 2 * (w % s) * s = 2 * (w % s * s) := Int.mul_assoc ..
          rw [Int.mul_comm s w] at hn
          have : (2 : Int) ^ (n + 1) = 2 * 2 ^ n := by rw [Int.pow_succ, Int.mul_comm]
          omega
        obtain ⟨ps, o, t, e⟩ := ih (w % s) s ((-h) % s) ((-l) % s) (acc ++ [(s, l, w)]) g2 hlt bs (by rw [List.length_append, List.length_singleton]; omega)
        refine ⟨(s, l, w) :: ps, o, .go hs hc' t, ?_⟩
        have hz : acc.length < szL := lt_szL (by omega)
        rw [sWhl_next (ρ2 := [some (.sh (.int (w % s))), some (.sh (.int s)), some (.sh (.int ((-h) % s))), some (.sh (.int ((-l) % s))), some (.ow ((acc ++ [(s, l, w)]).map pD)), none]) (by simp [hs]) (by simp [u_gone_down_4, t_gone_down_3, t_gone_down_2, t_gone_down_1, hs, ds, ms, hc, hz, pD]), e]
        rw [List.append_assoc]
        rfl
    · have s0 : s = 0 := by have := g.s0; omega
      subst s0
      refine ⟨[], none, .zero, ?_⟩
      rw [sWhl_false (by simp)]
      simp [optD]
theorem gone_ok {b : Nat} (hb : b < 8000) {s w l h : Int} (g : Rg s w l h) (hw : Bd b w) : ∃ ps o, Chain s w l h ps o ∧ m_gone_down [.sh (.int s), .sh (.int w), .sh (.int l), .sh (.int h)] = .ok (.sh (.tup [.lst (ps.map pD), optD o])) := by
  have hn : s * w < 2 ^ (b + b) := by
    have h1 := hw.lt
    have w0 : 0 < w := by have := g.s0; have := g.sw; omega
    have h2 : w < 2 ^ b := by
      have : ((w.natAbs : Nat) : Int) < ((2 ^ b : Nat) : Int) := Int.ofNat_lt.mpr h1
      rw [Int.natCast_pow] at this
      rw [Int.natAbs_of_nonneg (by omega)] at this
      exact this
    rw [Int.pow_add]
    have s0 := g.s0
    have sw := g.sw
    exact Int.lt_of_le_of_lt (Int.mul_le_mul_of_nonneg_right (show s ≤ w by omega) (by omega)) (Int.lt_of_lt_of_le (Int.mul_lt_mul_of_pos_left h2 w0) (Int.mul_le_mul_of_nonneg_right (by omega) (Int.le_of_lt (by omega))))
  obtain ⟨ps, o, t, e⟩ := down_loop hb (b + b) s w l h [] g hn hw (by simp; omega)
  refine ⟨ps, o, t, ?_⟩
  rw [m_gone_down_eq]
  refine runB_rt ?_
  simp at e
  simp [b_gone_down, t_gone_down_5, e]
end Mi.Sh

namespace Mi.Sh
open PySem PySem.Spec L2 Mi
abbrev gt3 (i j k : Nat) : Gt := gTupD 3 (gsCons (gSet i) (gsCons (gSet j) (gsCons (gSet k) gsNil)))
theorem hit_turn {a0 a1 a2 a3 a4 a5 a6 : Option Sl} {b : Nat} {s l w c : Int} (hs : 0 < s) (hb : b < 8000) (bs : Bd b s) (bw : Bd b w) (bc : Bd b c) :
    turnB (gt3 8 9 10) u_first_hit_1 (pD (s, l, w)) [a0, a1, a2, a3, a4, a5, a6, some (.sh (.int c)), none, none, none] = .nx [a0, a1, a2, a3, a4, a5, a6, some (.sh (.int (up s l w c))), none, none, none] := by
  have m1 : mulOk w c = true := @mulOk_i b b _ _ bw bc (by rw [Nat.blt_eq]; omega)
  have d1 : divOk s = true := @divOk_i b _ bs (by rw [Nat.blt_eq]; omega)
  simp [turnB, pD, u_first_hit_1, hs, m1, d1, up]
theorem unw_loop {a0 a1 a2 a3 a4 a5 a6 : Option Sl} {b : Nat} (hb : b < 8000) {s w l h : Int} {ps : List (Int × Int × Int)} {o : Option Int} (t : Chain s w l h ps o) : ∀ c (ys : List D), o = some c → Rg s w l h → Bd b w →
    forR (gt3 8 9 10) u_first_hit_1 ((ps.map pD).reverse ++ ys) [a0, a1, a2, a3, a4, a5, a6, some (.sh (.int c)), none, none, none] = forR (gt3 8 9 10) u_first_hit_1 ys [a0, a1, a2, a3, a4, a5, a6, some (.sh (.int (unw ps c))), none, none, none] := by
  induction t with
  | zero => intro c ys e; cases e
  | stop hs hc => intro c ys e _ _; cases e; rfl
  | @go s w l h ps o hs hc t ih =>
    intro c ys e g bw
    subst e
    have g2 := (down_rg g hs hc).2.2
    have sw := g.sw
    have bs : Bd b s := ⟨by have := bw.lt; omega⟩
    have lt := least_lt g2 (chain_least t g2)
    have bc : Bd b (unw ps c) := ⟨by have := bs.lt; omega⟩
    rw [List.map_cons, List.reverse_cons, List.append_assoc, ih c _ rfl g2 bs, List.singleton_append, forR_nx (hit_turn hs hb bs bw bc)]
    rfl
/-- the first count from 0 on behind which the rest is below many -/
def HitF (st sp w m c : Int) : Prop := (st + sp * c) % w < m
def LeastF (st sp w m : Int) : Option Int → Prop
  | some c => 0 ≤ c ∧ HitF st sp w m c ∧ ∀ c', 0 ≤ c' → c' < c → ¬ HitF st sp w m c'
  | none => ∀ c, 0 ≤ c → ¬ HitF st sp w m c
theorem hitF_iff {st sp w m c : Int} (hw : 0 < w) (hm : m ≤ st % w) : HitF st sp w m c ↔ Hit (sp % w) w (w - st % w) (w - st % w + m - 1) c := by
  unfold HitF Hit
  have e1 : (sp % w * c) % w = (sp * c) % w := by rw [Int.mul_emod, Int.emod_emod_of_dvd _ (Int.dvd_refl w), ← Int.mul_emod]
  have e2 : (st + sp * c) % w = (st % w + (sp * c) % w) % w := Int.add_emod ..
  rw [e1, e2]
  have r0 := Int.emod_nonneg st (show w ≠ 0 by omega)
  have r1 := Int.emod_lt_of_pos st hw
  have t0 := Int.emod_nonneg (sp * c) (show w ≠ 0 by omega)
  have t1 := Int.emod_lt_of_pos (sp * c) hw
  generalize st % w = r at *
  generalize (sp * c) % w = t at *
  by_cases z : r + t < w
  · rw [Int.emod_eq_of_lt (by omega) z]
    omega
  · rw [emod_of (q := 1) (r := r + t - w) (by omega) (by omega) (by omega)]
    omega
theorem leastF_of {st sp w m : Int} (hw : 0 < w) (hm : m ≤ st % w) {o : Option Int} (h : LeastHit (sp % w) w (w - st % w) (w - st % w + m - 1) o) : LeastF st sp w m o := by
  cases o with
  | none => exact fun c h0 q => h c h0 ((hitF_iff hw hm).mp q)
  | some c => exact ⟨h.1, (hitF_iff hw hm).mpr h.2.1, fun c' p1 p2 q => h.2.2 c' p1 p2 ((hitF_iff hw hm).mp q)⟩
theorem first_hit_ok {b : Nat} (hb : b < 8000) {st sp w m : Int} (hw : 0 < w) (bw : Bd b w) (m1 : 1 ≤ m) : ∃ o, LeastF st sp w m o ∧ m_first_hit [.sh (.int st), .sh (.int sp), .sh (.int w), .sh (.int m)] = .ok (.sh (optD o)) := by
  rw [m_first_hit_eq]
  have r0 := Int.emod_nonneg st (show w ≠ 0 by omega)
  have r1 := Int.emod_lt_of_pos st hw
  by_cases h : st % w < m
  · refine ⟨some 0, ⟨by omega, by unfold HitF; rw [Int.mul_zero, Int.add_zero]; exact h, fun c' p1 p2 => by omega⟩, runB_rt ?_⟩
    simp [b_first_hit, t_first_hit_6, hw, h, optD]
  · have g : Rg (sp % w) w (w - st % w) (w - st % w + m - 1) := ⟨Int.emod_nonneg _ (by omega), Int.emod_lt_of_pos _ hw, by omega, by omega, by omega⟩
    obtain ⟨ps, o, t, e⟩ := gone_ok hb g bw
    refine ⟨o.map (unw ps), leastF_of hw (by omega) (chain_least t g), runB_rt ?_⟩
    cases o with
    | none =>
      simp only [optD] at e
      simp [b_first_hit, t_first_hit_6, t_first_hit_5, t_first_hit_4, t_first_hit_3, hw, h, e, optD]
    | some c =>
      have e2 := unw_loop (a0 := some (.sh (.int st))) (a1 := some (.sh (.int sp))) (a2 := some (.sh (.int w))) (a3 := some (.sh (.int m))) (a4 := some (.sh (.int (st % w)))) (a5 := some (.sh (.int (w - st % w)))) (a6 := some (.sh (.lst (ps.map pD)))) hb t c [] rfl g bw
      rw [List.append_nil, forR_nil] at e2
      have e3 := sFor_at (f := iRevD (lVar 6)) (by simp) e2
      simp only [optD] at e
      simp [b_first_hit, t_first_hit_6, t_first_hit_5, t_first_hit_4, t_first_hit_3, t_first_hit_2, hw, h, e, e3, optD]
end Mi.Sh

namespace Mi.Sh
open PySem PySem.Spec L2 Mi
theorem one_mul_pos {a b : Int} (ha : 1 ≤ a) (hb : 1 ≤ b) : 1 ≤ a * b := by
  have : 1 * 1 ≤ a * b := Int.mul_le_mul ha hb (by omega) (by omega)
  omega
structure Spaced (st sp w m : Int) : Prop where
  st_ : st.natAbs < 2 ^ 200
  sp_ : sp.natAbs < 2 ^ 250
  w1 : 1 ≤ w
  w2 : w.natAbs < 2 ^ 210
  m1 : 1 ≤ m
  m2 : m ≤ w
theorem abs_neg {x : Int} {n : Nat} (h : x.natAbs < n) : (-x).natAbs < n := by omega
theorem spaced_ok {ns : List Int} (S : Script ns) : ∃ st sp w m : Int, Spaced st sp w m ∧ m__law_spaced [.sh (.lst (ns.map D.int))] = .ok (.sh (.tup [.int st, .int sp, .int w, .int m])) := by
  obtain ⟨ss, h1, h2, h3⟩ := sums_ok (c := 17) (ns := ns) (many := 6) (hc := (bd_lit 17).up (by decide)) S (by decide) (by decide)
  have h3' : m__law_sums [.sh (.lst (ns.map D.int)), .sh (.int 6)] = .ok (.ow (ss.map D.int)) := by rw [m__law_sums_eq]; exact h3
  match ss, h1 with
  | [s0, s1, s2, s3, s4, s5], _ =>
    have hc : m__law_cell_at [.sh (.lst (ns.map D.int)), .sh (.int 0)] = .ok (.sh (.int (ns.getD 0 0))) := cell_at_ok (ns := ns) (k := 0) S.1
    generalize ns.getD 0 0 = k at *
    have r0 := h2 s0 (by simp)
    have r1 := h2 s1 (by simp)
    have r2 := h2 s2 (by simp)
    have r3 := h2 s3 (by simp)
    have r4 := h2 s4 (by simp)
    have r5 := h2 s5 (by simp)
    haveI : Bd 133 s0 := ⟨by omega⟩
    haveI : Bd 133 s1 := ⟨by omega⟩
    haveI : Bd 133 s2 := ⟨by omega⟩
    haveI : Bd 133 s3 := ⟨by omega⟩
    haveI : Bd 133 s4 := ⟨by omega⟩
    have m0 : mulOk s0 (7 ^ 40) = true := mulOk_i (by rfl)
    have m1 : mulOk s1 (7 ^ 60) = true := mulOk_i (by rfl)
    have m2 : mulOk s2 (11 ^ 40) = true := mulOk_i (by rfl)
    have m3 : mulOk s3 (7 ^ 50) = true := mulOk_i (by rfl)
    have m4 : mulOk s4 (13 ^ 30) = true := mulOk_i (by rfl)
    simp at m0 m1 m2 m3 m4
    clear h2 h3
    obtain ⟨A, hA⟩ : ∃ A : Option Sl, A = some (.sh (.lst [.int s0, .int s1, .int s2, .int s3, .int s4, .int s5])) := ⟨_, rfl⟩
    obtain ⟨S0, hS0⟩ : ∃ S0 : Option Sl, S0 = some (.sh (.lst (ns.map D.int))) := ⟨_, rfl⟩
    obtain ⟨b, b1, b2, e1⟩ : ∃ b : Int, 1 ≤ b ∧ b ≤ 10 ^ 20 ∧ t__law_spaced_9 [S0, A, some (.sh (.int k)), none, none, none, none, none] = t__law_spaced_8 [S0, A, some (.sh (.int k)), some (.sh (.int b)), none, none, none, none] := by
      have q : k % 3 = 0 ∨ k % 3 = 1 ∨ k % 3 = 2 := by omega
      rcases q with q | q | q
      · exact ⟨1, by omega, by omega, by simp [hA, t__law_spaced_9, q, m0]⟩
      · exact ⟨1 + s0 % 12, by omega, by omega, by simp [hA, t__law_spaced_9, q, m0]⟩
      · exact ⟨1 + s0 * 7 ^ 40 % 10 ^ 20, by omega, by omega, by simp [hA, t__law_spaced_9, q, m0]⟩
    haveI bb : Bd 67 b := ⟨by omega⟩
    have bp : ∀ {x : Int}, 1 ≤ x → x ≤ 10 ^ 40 → 1 ≤ b * x ∧ (b * x).natAbs < 2 ^ 210 := fun {x} p q => ⟨one_mul_pos b1 p, (@bd_mul 67 134 b x bb ⟨by omega⟩ : Bd 201 _).up (by decide) |>.lt⟩
    have mb : ∀ {x : Int}, 0 ≤ x → x ≤ 10 ^ 41 → mulOk b x = true := fun {x} p q => @mulOk_i 67 140 b x bb ⟨by omega⟩ (by rfl)
    obtain ⟨w, w1, w2, e2⟩ : ∃ w : Int, 1 ≤ w ∧ w.natAbs < 2 ^ 210 ∧ t__law_spaced_8 [S0, A, some (.sh (.int k)), some (.sh (.int b)), none, none, none, none] = t__law_spaced_7 [S0, A, some (.sh (.int k)), some (.sh (.int b)), some (.sh (.int w)), none, none, none] := by
      have q : k / 3 % 3 = 0 ∨ k / 3 % 3 = 1 ∨ k / 3 % 3 = 2 := by omega
      rcases q with q | q | q
      · have z1 : 1 ≤ 1 + s1 * 508021860739623365322188197652216501772434524836001 % 30 := by omega
        have z2 : 1 + s1 * 508021860739623365322188197652216501772434524836001 % 30 ≤ 10 ^ 40 := by omega
        exact ⟨_, (bp z1 z2).1, (bp z1 z2).2, by simp [hA, t__law_spaced_8, q, m1, mb (x := 1 + s1 * 508021860739623365322188197652216501772434524836001 % 30) (by omega) (by omega)]⟩
      · have z1 : 1 ≤ 1 + s1 * 508021860739623365322188197652216501772434524836001 % 1000000 := by omega
        have z2 : 1 + s1 * 508021860739623365322188197652216501772434524836001 % 1000000 ≤ 10 ^ 40 := by omega
        exact ⟨_, (bp z1 z2).1, (bp z1 z2).2, by simp [hA, t__law_spaced_8, q, m1, mb (x := 1 + s1 * 508021860739623365322188197652216501772434524836001 % 1000000) (by omega) (by omega)]⟩
      · have z1 : 1 ≤ 1 + s1 * 508021860739623365322188197652216501772434524836001 % 10000000000000000000000000000000000000000 := by omega
        have z2 : 1 + s1 * 508021860739623365322188197652216501772434524836001 % 10000000000000000000000000000000000000000 ≤ 10 ^ 40 := by omega
        exact ⟨_, (bp z1 z2).1, (bp z1 z2).2, by simp [hA, t__law_spaced_8, q, m1, mb (x := 1 + s1 * 508021860739623365322188197652216501772434524836001 % 10000000000000000000000000000000000000000) (by omega) (by omega)]⟩
    obtain ⟨p, p1, e3⟩ : ∃ p : Int, p.natAbs < 2 ^ 250 ∧ t__law_spaced_7 [S0, A, some (.sh (.int k)), some (.sh (.int b)), some (.sh (.int w)), none, none, none] = t__law_spaced_6 [S0, A, some (.sh (.int k)), some (.sh (.int b)), some (.sh (.int w)), some (.sh (.int p)), none, none] := by
      have bq : ∀ {x : Int}, 0 ≤ x → x ≤ 10 ^ 41 → (b * x).natAbs < 2 ^ 250 := fun {x} p q => (@bd_mul 67 140 b x bb ⟨by omega⟩ : Bd 207 _).up (by decide) |>.lt
      have q : k / 9 % 3 = 0 ∨ k / 9 % 3 = 1 ∨ k / 9 % 3 = 2 := by omega
      rcases q with q | q | q
      · exact ⟨b * (s2 * 452592555681759518058893560348969204658401 % 60), bq (by omega) (by omega), by simp [hA, t__law_spaced_7, q, m2, mb (x := s2 * 452592555681759518058893560348969204658401 % 60) (by omega) (by omega)]⟩
      · exact ⟨b * (s2 * 452592555681759518058893560348969204658401 % 10000000), bq (by omega) (by omega), by simp [hA, t__law_spaced_7, q, m2, mb (x := s2 * 452592555681759518058893560348969204658401 % 10000000) (by omega) (by omega)]⟩
      · exact ⟨b * (s2 * 452592555681759518058893560348969204658401 % 100000000000000000000000000000000000000000), bq (by omega) (by omega), by simp [hA, t__law_spaced_7, q, m2, mb (x := s2 * 452592555681759518058893560348969204658401 % 100000000000000000000000000000000000000000) (by omega) (by omega)]⟩
    obtain ⟨st, st1, e4⟩ : ∃ st : Int, st.natAbs < 2 ^ 200 ∧ t__law_spaced_6 [S0, A, some (.sh (.int k)), some (.sh (.int b)), some (.sh (.int w)), some (.sh (.int p)), none, none] = t__law_spaced_5 [S0, A, some (.sh (.int k)), some (.sh (.int b)), some (.sh (.int w)), some (.sh (.int p)), some (.sh (.int st)), none] := by
      have q : k / 27 % 2 = 0 ∨ k / 27 % 2 = 1 := by omega
      rcases q with q | q
      · exact ⟨s3 * 1798465042647412146620280340569649349251249 % 100, by omega, by simp [hA, t__law_spaced_6, q, m3]⟩
      · exact ⟨s3 * 1798465042647412146620280340569649349251249 % 10 ^ 50, by omega, by simp [hA, t__law_spaced_6, q, m3]⟩
    obtain ⟨p', p1', e5⟩ : ∃ p' : Int, p'.natAbs < 2 ^ 250 ∧ t__law_spaced_5 [S0, A, some (.sh (.int k)), some (.sh (.int b)), some (.sh (.int w)), some (.sh (.int p)), some (.sh (.int st)), none] = t__law_spaced_4 [S0, A, some (.sh (.int k)), some (.sh (.int b)), some (.sh (.int w)), some (.sh (.int p')), some (.sh (.int st)), none] := by
      by_cases q : k / 54 % 2 = 1
      · exact ⟨-p, abs_neg p1, by simp [t__law_spaced_5, q]⟩
      · exact ⟨p, p1, by simp [t__law_spaced_5, q]⟩
    obtain ⟨st', st1', e6⟩ : ∃ st' : Int, st'.natAbs < 2 ^ 200 ∧ t__law_spaced_4 [S0, A, some (.sh (.int k)), some (.sh (.int b)), some (.sh (.int w)), some (.sh (.int p')), some (.sh (.int st)), none] = t__law_spaced_3 [S0, A, some (.sh (.int k)), some (.sh (.int b)), some (.sh (.int w)), some (.sh (.int p')), some (.sh (.int st')), none] := by
      by_cases q : k / 108 % 2 = 1
      · exact ⟨-st, abs_neg st1, by simp [t__law_spaced_4, q]⟩
      · exact ⟨st, st1, by simp [t__law_spaced_4, q]⟩
    have w0 : 0 < w := by omega
    have c1 : 0 < min w 5 := by omega
    have mb2 : mulOk 2 b = true := @mulOk_i _ 67 2 b (bd_lit 2) bb (by rfl)
    have c2 : 0 < min w (2 * b) := by omega
    have f0 := Int.emod_nonneg (s4 * 2619995643649944960380551432833049 % 10000000000000000000000000000000000000000000000000000000000000000) (show w ≠ 0 by omega)
    have f1 := Int.emod_lt_of_pos (s4 * 2619995643649944960380551432833049 % 10000000000000000000000000000000000000000000000000000000000000000) w0
    have g0 := Int.emod_nonneg s4 (show min w 5 ≠ 0 by omega)
    have g1 := Int.emod_lt_of_pos s4 c1
    have k0 := Int.emod_nonneg (s4 * 2619995643649944960380551432833049 % 10000000000000000000000000000000000000000000000000000000000000000) (show min w (2 * b) ≠ 0 by omega)
    have k1 := Int.emod_lt_of_pos (s4 * 2619995643649944960380551432833049 % 10000000000000000000000000000000000000000000000000000000000000000) c2
    obtain ⟨m, mm1, mm2, e7⟩ : ∃ m : Int, 1 ≤ m ∧ m ≤ w ∧ t__law_spaced_3 [S0, A, some (.sh (.int k)), some (.sh (.int b)), some (.sh (.int w)), some (.sh (.int p')), some (.sh (.int st')), none] = .rt (.sh (.tup [.int st', .int p', .int w, .int m])) := by
      have q : s5 % 3 = 0 ∨ s5 % 3 = 1 ∨ s5 % 3 = 2 := by omega
      rcases q with q | q | q
      · exact ⟨1 + s4 * 2619995643649944960380551432833049 % 10000000000000000000000000000000000000000000000000000000000000000 % w, by omega, by omega, by simp [hA, t__law_spaced_3, t__law_spaced_2, t__law_spaced_1, q, m4, w0]⟩
      · exact ⟨1 + s4 % min w 5, by omega, by omega, by simp [hA, t__law_spaced_3, t__law_spaced_2, t__law_spaced_1, q, m4, w0, c1]⟩
      · exact ⟨1 + s4 * 2619995643649944960380551432833049 % 10000000000000000000000000000000000000000000000000000000000000000 % min w (2 * b), by omega, by omega, by simp [hA, t__law_spaced_3, t__law_spaced_2, t__law_spaced_1, q, m4, w0, mb2, c2]⟩
    refine ⟨st', p', w, m, ⟨st1', p1', w1, w2, mm1, mm2⟩, ?_⟩
    rw [m__law_spaced_eq]
    refine runB_rt ?_
    subst hA
    subst hS0
    simp [b__law_spaced, t__law_spaced_10, h3', hc, e1, e2, e3, e4, e5, e6, e7]
end Mi.Sh

namespace Mi.Sh
open PySem PySem.Spec L2 Mi
theorem emod_le_self {x g : Int} (h0 : 0 ≤ x) (hg : 0 < g) : x % g ≤ x := by
  have h1 := Int.emod_add_mul_ediv x g
  have h2 : 0 ≤ g * (x / g) := Int.mul_nonneg (by omega) (Int.ediv_nonneg h0 (by omega))
  omega
theorem bez (a b : Nat) : ∃ x y : Int, (a : Int) * x + (b : Int) * y = (Nat.gcd a b : Int) := by
  induction a, b using Nat.gcd.induction with
  | H0 n => exact ⟨0, 1, by rw [Nat.gcd_zero_left]; omega⟩
  | H1 m n hm ih =>
    obtain ⟨x, y, e⟩ := ih
    refine ⟨y - (n / m : Nat) * x, x, ?_⟩
    rw [Nat.gcd_rec, ← e]
    have h : ((n % m : Nat) : Int) = (n : Int) - (m : Int) * ((n / m : Nat) : Int) := by
      have := Nat.mod_add_div n m
      have h2 : ((n % m + m * (n / m) : Nat) : Int) = (n : Int) := by rw [this]
      rw [Int.natCast_add, Int.natCast_mul] at h2
      omega
    rw [h, Int.mul_sub, Int.sub_mul, ← Int.mul_assoc]
    omega
theorem LeastF.uni {st sp w m : Int} {o o' : Option Int} (h : LeastF st sp w m o) (h' : LeastF st sp w m o') : o = o' := by
  cases o with
  | none =>
    cases o' with
    | none => rfl
    | some c => exact absurd h'.2.1 (h c h'.1)
  | some c =>
    cases o' with
    | none => exact absurd h.2.1 (h' c h.1)
    | some c' =>
      have : c = c' := by
        rcases Int.lt_trichotomy c c' with z | z | z
        · exact absurd h.2.1 (h'.2.2 c h.1 z)
        · exact z
        · exact absurd h'.2.1 (h.2.2 c' h'.1 z)
      rw [this]
theorem LeastF.congr {st sp st' sp' w m : Int} (e : ∀ c, (st + sp * c) % w = (st' + sp' * c) % w) {o : Option Int} (h : LeastF st sp w m o) : LeastF st' sp' w m o := by
  have hh : ∀ c, HitF st sp w m c ↔ HitF st' sp' w m c := fun c => by unfold HitF; rw [e]
  cases o with
  | none => exact fun c h0 q => h c h0 ((hh c).mpr q)
  | some c => exact ⟨h.1, (hh c).mp h.2.1, fun c' p1 p2 q => h.2.2 c' p1 p2 ((hh c').mpr q)⟩
/-- the greatest divisor of step and round -/
def gOf (w sp : Int) : Int := (Nat.gcd w.toNat (sp % w).toNat : Nat)
theorem gOf_pos {w sp : Int} (hw : 0 < w) : 0 < gOf w sp := by
  have : 0 < Nat.gcd w.toNat (sp % w).toNat := Nat.gcd_pos_of_pos_left _ (by omega)
  unfold gOf
  omega
theorem gOf_w {w sp : Int} (hw : 0 < w) : gOf w sp ∣ w := by
  have := Int.natCast_dvd_natCast.mpr (Nat.gcd_dvd_left w.toNat (sp % w).toNat)
  rwa [Int.toNat_of_nonneg (by omega)] at this
theorem gOf_m {w sp : Int} (hw : 0 < w) : gOf w sp ∣ sp % w := by
  have := Int.natCast_dvd_natCast.mpr (Nat.gcd_dvd_right w.toNat (sp % w).toNat)
  rwa [Int.toNat_of_nonneg (Int.emod_nonneg _ (by omega))] at this
theorem gOf_sp {w sp : Int} (hw : 0 < w) : gOf w sp ∣ sp := by
  have h := Int.emod_add_mul_ediv sp w
  have := Int.dvd_add (gOf_m (sp := sp) hw) (Int.dvd_trans (gOf_w (sp := sp) hw) (Int.dvd_mul_right w (sp / w)))
  rwa [h] at this
theorem gOf_le {w sp : Int} (hw : 0 < w) : gOf w sp ≤ w := Int.le_of_dvd hw (gOf_w hw)
theorem gOf_bez {w sp : Int} (hw : 0 < w) : ∃ x : Int, 0 ≤ x ∧ (sp * x) % w = gOf w sp % w := by
  obtain ⟨a, b, e⟩ := bez w.toNat (sp % w).toNat
  rw [Int.toNat_of_nonneg (by omega), Int.toNat_of_nonneg (Int.emod_nonneg _ (by omega))] at e
  refine ⟨b % w, Int.emod_nonneg _ (by omega), ?_⟩
  unfold gOf
  rw [← e]
  have h1 : (w * a + sp % w * b) % w = (sp * b) % w := by
    rw [Int.add_comm, Int.add_mul_emod_self_left, Int.mul_emod, Int.emod_emod_of_dvd _ (Int.dvd_refl w), ← Int.mul_emod]
  rw [h1, Int.mul_emod, Int.emod_emod_of_dvd _ (Int.dvd_refl w), ← Int.mul_emod]
/-- behind so many steps the rests come again -/
theorem hitF_round {st sp w m c : Int} (hw : 0 < w) : HitF st sp w m (c + w / gOf w sp) ↔ HitF st sp w m c := by
  obtain ⟨k, hk⟩ := gOf_sp (sp := sp) hw
  have e : (st + sp * (c + w / gOf w sp)) % w = (st + sp * c) % w := by
    have h1 : sp * (w / gOf w sp) = w * k := by
      have h2 := Int.mul_ediv_cancel' (gOf_w (sp := sp) hw)
      generalize hg : gOf w sp = g at *
      generalize hq : w / g = q at *
      rw [hk, ← h2, Int.mul_assoc, Int.mul_comm k q, ← Int.mul_assoc]
    rw [Int.mul_add, h1, ← Int.add_assoc, Int.add_mul_emod_self_left]
  unfold HitF
  rw [e]
theorem LeastF.lt {st sp w m c : Int} (hw : 0 < w) (h : LeastF st sp w m (some c)) : c < w / gOf w sp := by
  rcases Int.lt_or_le c (w / gOf w sp) with z | z
  · exact z
  · exfalso
    have hp : 0 < w / gOf w sp := Int.ediv_pos_of_pos_of_dvd hw (Int.le_of_lt (gOf_pos hw)) (gOf_w hw)
    have e := hitF_round (st := st) (sp := sp) (m := m) (c := c - w / gOf w sp) hw
    rw [Int.sub_add_cancel] at e
    exact h.2.2 _ (by omega) (by omega) (e.mp h.2.1)
/-- a hit is, just where the rest by the greatest divisor is below many -/
theorem hitF_ex {st sp w m : Int} (hw : 0 < w) : (∃ c, 0 ≤ c ∧ HitF st sp w m c) ↔ st % gOf w sp < m := by
  have hg := gOf_pos (sp := sp) hw
  constructor
  · rintro ⟨c, _, h⟩
    unfold HitF at h
    have e : ((st + sp * c) % w) % gOf w sp = st % gOf w sp := by
      rw [Int.emod_emod_of_dvd _ (gOf_w hw)]
      obtain ⟨k, hk⟩ := gOf_sp (sp := sp) hw
      have : sp * c = gOf w sp * (k * c) := by
        conv => lhs; rw [hk]
        rw [Int.mul_assoc]
      rw [this, Int.add_mul_emod_self_left]
    have h0 := Int.emod_nonneg (st + sp * c) (show w ≠ 0 by omega)
    have h1 : ((st + sp * c) % w) % gOf w sp ≤ (st + sp * c) % w := emod_le_self h0 hg
    omega
  · intro h
    obtain ⟨x, x0, hx⟩ := gOf_bez (sp := sp) hw
    have d := Int.emod_add_mul_ediv st (gOf w sp)
    refine ⟨(x * -(st / gOf w sp)) % w, Int.emod_nonneg _ (by omega), ?_⟩
    unfold HitF
    have e1 : (sp * ((x * -(st / gOf w sp)) % w)) % w = (gOf w sp * -(st / gOf w sp)) % w := by
      rw [Int.mul_emod, Int.emod_emod_of_dvd _ (Int.dvd_refl w), ← Int.mul_emod, ← Int.mul_assoc, Int.mul_emod, hx, ← Int.mul_emod]
    rw [Int.add_emod, e1, ← Int.add_emod]
    have e2 : st + gOf w sp * -(st / gOf w sp) = st % gOf w sp := by
      rw [Int.mul_neg]
      omega
    have r0 := Int.emod_nonneg st (show gOf w sp ≠ 0 by omega)
    have r1 := Int.emod_lt_of_pos st hg
    have := gOf_le (sp := sp) hw
    rw [e2, Int.emod_eq_of_lt r0 (by omega)]
    exact h
theorem least_none {st sp w m : Int} (hw : 0 < w) {o : Option Int} (h : LeastF st sp w m o) : o = none ↔ ¬ st % gOf w sp < m := by
  rw [← hitF_ex hw]
  cases o with
  | none => exact ⟨fun _ ⟨c, h0, q⟩ => h c h0 q, fun _ => rfl⟩
  | some c => exact ⟨fun e => (by cases e), fun q => absurd ⟨c, h.1, h.2.1⟩ q⟩
theorem gOf_div {w sp : Int} (hw : 0 < w) : m__law_divisor [.sh (.int w), .sh (.int (sp % w))] = .ok (.sh (.int (gOf w sp))) := by
  have := ldivisor_nat w.toNat (sp % w).toNat
  rw [Int.toNat_of_nonneg (by omega), Int.toNat_of_nonneg (Int.emod_nonneg _ (by omega))] at this
  exact this
end Mi.Sh

namespace Mi.Sh
open PySem PySem.Spec L2 Mi
-- lies_in: 0:waking 1:part 2:period 3:first 4:length 5:step 6:rest
noncomputable def t_lies_in_1 : Sv :=
  sSeq (sAsg (eVar 1) (gTupD 2 (gsCons (gSet 5) (gsCons (gSet 6) (gsNil))))) (sRet (eBin oGe (eBin oMod (eBin oSub (eBin oSub (eLook 6) (eLook 3)) (eLook 4)) (eApp m_divisor (aVal (eVar 5) (aVal (eVar 2) (aNil))))) (eBin oSub (eLook 2) (eLook 4))))
noncomputable def b_lies_in : Sv :=
  sSeq (sAsg (eVar 0) (gTupD 3 (gsCons (gSet 2) (gsCons (gSet 3) (gsCons (gSet 4) (gsNil)))))) (t_lies_in_1)
noncomputable def m_lies_in : List Sl → R Sl := hid (runB 7 b_lies_in)
theorem m_lies_in_eq : m_lies_in = runB 7 b_lies_in := hid_eq _
-- hole: 0:plan 1:turns 2:turn
noncomputable def u_hole_1 : Sv :=
  sSeq (sIf (tNotE (tst (eApp m_awake (aVal (eVar 0) (aVal (eVar 2) (aNil)))))) (sRet (eVar 2)) (sNx)) (sKill 2 (sNx))
noncomputable def t_hole_2 : Sv :=
  sSeq (sFor (iRng1D (eVar 1)) (gSet 2) (u_hole_1)) (sRet (eD .non))
noncomputable def t_hole_3 : Sv :=
  sSeq (sIf (tst (eBin oGt (eLook 1) (eD (.int 5000)))) (sRaise "TooMany") (sNx)) (t_hole_2)
noncomputable def b_hole : Sv :=
  sSeq (sAsg (eApp m_plan_round (aVal (eVar 0) (aNil))) (gSet 1)) (t_hole_3)
noncomputable def m_hole : List Sl → R Sl := hid (runB 3 b_hole)
theorem m_hole_eq : m_hole = runB 3 b_hole := hid_eq _
-- shifts_of_two: 0:one 1:other 2:by 3:span
noncomputable def t_shifts_of_two_1 : Sv :=
  sSeq (sAsg (eBin oSub (eBin oAdd (eBin oIx (eLook 0) (eD (.int 2))) (eBin oIx (eLook 1) (eD (.int 2)))) (eD (.int 1))) (gSet 3)) (sRet (eTup (vCons (eVar 2) (vCons (eBin oMod (eBin oAdd (eBin oSub (eBin oSub (eBin oIx (eLook 0) (eD (.int 1))) (eBin oIx (eLook 1) (eD (.int 1)))) (eBin oIx (eLook 1) (eD (.int 2)))) (eD (.int 1))) (eLook 2)) (vCons (eCall oMin (vCons (eLook 2) (vCons (eLook 3) vNil))) (vNil))))))
noncomputable def b_shifts_of_two : Sv :=
  sSeq (sAsg (eApp m_divisor (aVal (eBin oIx (eLook 0) (eD (.int 0))) (aVal (eBin oIx (eLook 1) (eD (.int 0))) (aNil)))) (gSet 2)) (t_shifts_of_two_1)
noncomputable def m_shifts_of_two : List Sl → R Sl := hid (runB 4 b_shifts_of_two)
theorem m_shifts_of_two_eq : m_shifts_of_two = runB 4 b_shifts_of_two := hid_eq _
-- shifts: 0:one 1:other 2:found 3:mine 4:yours
noncomputable def u_shifts_1 : Sv :=
  sSeq (sApp 2 (eApp m_shifts_of_two (aVal (eVar 3) (aVal (eVar 4) (aNil))))) (sKill 4 (sNx))
noncomputable def u_shifts_2 : Sv :=
  sSeq (sFor (iVar 1) (gSet 4) (u_shifts_1)) (sKill 3 (sKill 4 (sNx)))
noncomputable def t_shifts_3 : Sv :=
  sSeq (sFor (iVar 0) (gSet 3) (u_shifts_2)) (sRetO 2)
noncomputable def b_shifts : Sv :=
  sSeq (sSetF 2 (vNil)) (t_shifts_3)
noncomputable def m_shifts : List Sl → R Sl := hid (runB 5 b_shifts)
theorem m_shifts_eq : m_shifts = runB 5 b_shifts := hid_eq _
-- together: 0:one 1:other 2:shift 3:turn
noncomputable def b_together : Sv :=
  sRet (eAnd (eApp m_awake (aVal (eVar 0) (aVal (eVar 3) (aNil)))) (eApp m_awake (aVal (eVar 1) (aVal (eBin oSub (eLook 3) (eLook 2)) (aNil)))))
noncomputable def m_together : List Sl → R Sl := hid (runB 4 b_together)
theorem m_together_eq : m_together = runB 4 b_together := hid_eq _
-- begun: 0:waking 1:first 2:other 3:turn 4:start 5:many
noncomputable def t_begun_1 : Sv :=
  sSeq (sIf (tst (eBin oIs (eLook 5) (eD .non))) (sRet (eD .non)) (sNx)) (sRet (eBin oAdd (eLook 4) (eBin oMul (eBin oIx (eLook 0) (eD (.int 0))) (eLook 5))))
noncomputable def t_begun_2 : Sv :=
  sSeq (sAsg (eApp m_first_hit (aVal (eBin oSub (eLook 4) (eLook 1)) (aVal (eBin oIx (eLook 0) (eD (.int 0))) (aVal (eBin oIx (eLook 2) (eD (.int 0))) (aVal (eBin oIx (eLook 2) (eD (.int 2))) (aNil)))))) (gSet 5)) (t_begun_1)
noncomputable def b_begun : Sv :=
  sSeq (sAsg (eBin oAdd (eLook 3) (eBin oMod (eBin oSub (eBin oIx (eLook 0) (eD (.int 1))) (eLook 3)) (eBin oIx (eLook 0) (eD (.int 0))))) (gSet 4)) (t_begun_2)
noncomputable def m_begun : List Sl → R Sl := hid (runB 6 b_begun)
theorem m_begun_eq : m_begun = runB 6 b_begun := hid_eq _
-- next_of_two: 0:mine 1:yours 2:shift 3:turn 4:ours 5:theirs
noncomputable def t_next_of_two_1 : Sv :=
  sSeq (sIf (tOrE (tst (eBin oIs (eLook 4) (eD .non))) (tst (eBin oIs (eLook 5) (eD .non)))) (sRet (eIf (tst (eBin oIs (eLook 5) (eD .non))) (eVar 4) (eBin oAdd (eLook 5) (eLook 2)))) (sNx)) (sRet (eCall oMin (vCons (eLook 4) (vCons (eBin oAdd (eLook 5) (eLook 2)) vNil))))
noncomputable def t_next_of_two_2 : Sv :=
  sSeq (sAsg (eApp m_begun (aVal (eVar 1) (aVal (eBin oSub (eBin oIx (eLook 0) (eD (.int 1))) (eLook 2)) (aVal (eVar 0) (aVal (eBin oSub (eLook 3) (eLook 2)) (aNil)))))) (gSet 5)) (t_next_of_two_1)
noncomputable def b_next_of_two : Sv :=
  sSeq (sAsg (eApp m_begun (aVal (eVar 0) (aVal (eBin oAdd (eBin oIx (eLook 1) (eD (.int 1))) (eLook 2)) (aVal (eVar 1) (aVal (eVar 3) (aNil)))))) (gSet 4)) (t_next_of_two_2)
noncomputable def m_next_of_two : List Sl → R Sl := hid (runB 6 b_next_of_two)
theorem m_next_of_two_eq : m_next_of_two = runB 6 b_next_of_two := hid_eq _
-- next_together: 0:one 1:other 2:shift 3:turn 4:best 5:mine 6:yours 7:found
noncomputable def t_next_together_1 : Sv :=
  sSeq (sIf (tAndE (tst (eBin oIsNot (eLook 7) (eD .non))) (tOrE (tst (eBin oIs (eLook 4) (eD .non))) (tst (eBin oLt (eLook 7) (eLook 4))))) (sAsg (eVar 7) (gSet 4)) (sNx)) (sKill 7 (sKill 6 (sNx)))
noncomputable def u_next_together_2 : Sv :=
  sSeq (sAsg (eApp m_next_of_two (aVal (eVar 5) (aVal (eVar 6) (aVal (eVar 2) (aVal (eVar 3) (aNil)))))) (gSet 7)) (t_next_together_1)
noncomputable def u_next_together_3 : Sv :=
  sSeq (sFor (iVar 1) (gSet 6) (u_next_together_2)) (sKill 7 (sKill 5 (sKill 6 (sNx))))
noncomputable def t_next_together_4 : Sv :=
  sSeq (sFor (iVar 0) (gSet 5) (u_next_together_3)) (sRet (eVar 4))
noncomputable def t_next_together_5 : Sv :=
  sSeq (sAsg (eD .non) (gSet 4)) (t_next_together_4)
noncomputable def b_next_together : Sv :=
  sSeq (sIf (tst (eApp m_together (aVal (eVar 0) (aVal (eVar 1) (aVal (eVar 2) (aVal (eVar 3) (aNil))))))) (sRet (eVar 3)) (sNx)) (t_next_together_5)
noncomputable def m_next_together : List Sl → R Sl := hid (runB 8 b_next_together)
theorem m_next_together_eq : m_next_together = runB 8 b_next_together := hid_eq _
-- letter_way: 0:hands 1:turn 2:way 3:before 4:behind 5:one 6:mine 7:other 8:yours 9:found
noncomputable def t_letter_way_1 : Sv :=
  sSeq (sApp 2 (eBin oAdd (eLook 9) (eLook 6))) (sKill 3 (sKill 4 (sKill 9 (sKill 6 (sKill 5 (sKill 7 (sKill 8 (sNx))))))))
noncomputable def t_letter_way_2 : Sv :=
  sSeq (sIf (tst (eBin oIs (eLook 9) (eD .non))) (sSeq (sApp 2 (eD .non)) (sRetO 2)) (sNx)) (t_letter_way_1)
noncomputable def t_letter_way_3 : Sv :=
  sSeq (sAsg (eApp m_next_together (aVal (eVar 5) (aVal (eVar 7) (aVal (eBin oSub (eLook 8) (eLook 6)) (aVal (eBin oSub (eBin oIx (eLook 2) (eUn oNeg (eD (.int 1)))) (eLook 6)) (aNil)))))) (gSet 9)) (t_letter_way_2)
noncomputable def t_letter_way_4 : Sv :=
  sSeq (sAsg (eVar 4) (gTupD 2 (gsCons (gSet 7) (gsCons (gSet 8) (gsNil))))) (t_letter_way_3)
noncomputable def u_letter_way_5 : Sv :=
  sSeq (sAsg (eVar 3) (gTupD 2 (gsCons (gSet 5) (gsCons (gSet 6) (gsNil))))) (t_letter_way_4)
noncomputable def t_letter_way_6 : Sv :=
  sSeq (sFor (iZipD (lOf (eLst (eCut (eLook 0) (pNo) (pSome (eUn oNeg (eD (.int 1))))))) (lOf (eLst (eCut (eLook 0) (pSome (eD (.int 1))) (pNo))))) (gTupD 2 (gsCons (gSet 3) (gsCons (gSet 4) (gsNil)))) (u_letter_way_5)) (sRetO 2)
noncomputable def b_letter_way : Sv :=
  sSeq (sSetF 2 (vCons (eVar 1) (vNil))) (t_letter_way_6)
noncomputable def m_letter_way : List Sl → R Sl := hid (runB 10 b_letter_way)
theorem m_letter_way_eq : m_letter_way = runB 10 b_letter_way := hid_eq _
-- _law_big: 0:cell
noncomputable def b__law_big : Sv :=
  sRet (eBin oMod (eBin oMul (eLook 0) (eD (.int 618033988749894848204586834365638117720309179805762862123))) (eBin oPow (eD (.int 10)) (eD (.int 60))))
noncomputable def m__law_big : List Sl → R Sl := hid (runB 1 b__law_big)
theorem m__law_big_eq : m__law_big = runB 1 b__law_big := hid_eq _
-- is_prime: 0:number
noncomputable def b_is_prime : Sv :=
  sRet (eAnd (eBin oGt (eLook 0) (eD (.int 1))) (eBin oEq (eApp m_least_part (aVal (eVar 0) (aNil))) (eLook 0)))
noncomputable def m_is_prime : List Sl → R Sl := hid (runB 1 b_is_prime)
theorem m_is_prime_eq : m_is_prime = runB 1 b_is_prime := hid_eq _
-- pair_plan: 0:one 1:other
noncomputable def b_pair_plan : Sv :=
  sSeq (sIf (tOrE (tst (eBin oEq (eLook 0) (eLook 1))) (tOrE (tNotE (tst (eApp m_is_prime (aVal (eVar 0) (aNil))))) (tNotE (tst (eApp m_is_prime (aVal (eVar 1) (aNil))))))) (sRaise "NoPrimes") (sNx)) (sRetF (vCons (eTup (vCons (eVar 0) (vCons (eD (.int 0)) (vCons (eD (.int 1)) (vNil))))) (vCons (eTup (vCons (eVar 1) (vCons (eD (.int 0)) (vCons (eD (.int 1)) (vNil))))) (vNil))))
noncomputable def m_pair_plan : List Sl → R Sl := hid (runB 2 b_pair_plan)
theorem m_pair_plan_eq : m_pair_plan = runB 2 b_pair_plan := hid_eq _
-- grid_plan: 0:number
noncomputable def b_grid_plan : Sv :=
  sSeq (sIf (tst (eBin oLt (eLook 0) (eD (.int 1)))) (sRaise "NoPlan") (sNx)) (sRetF (vCons (eTup (vCons (eVar 0) (vCons (eD (.int 0)) (vCons (eD (.int 1)) (vNil))))) (vCons (eTup (vCons (eBin oMul (eLook 0) (eLook 0)) (vCons (eD (.int 0)) (vCons (eVar 0) (vNil))))) (vNil))))
noncomputable def m_grid_plan : List Sl → R Sl := hid (runB 1 b_grid_plan)
theorem m_grid_plan_eq : m_grid_plan = runB 1 b_grid_plan := hid_eq _
-- _law_great: 0:cell 1:many 2:number
noncomputable def t__law_great_1 : Sv :=
  sSeq (sAsg (eBin oAdd (eLook 2) (eD (.int 141421356237309504880168872420969807))) (gSet 2)) (sRet (eBin oMod (eBin oAdd (eBin oMul (eLook 2) (eBin oAdd (eLook 2) (eBin oMod (eBin oMul (eD (.int 2)) (eLook 0)) (eBin oPow (eD (.int 10)) (eD (.int 30)))))) (eBin oDiv (eLook 0) (eD (.int 3)))) (eLook 1)))
noncomputable def t__law_great_2 : Sv :=
  sSeq (sAsg (eBin oMul (eLook 2) (eBin oAdd (eLook 2) (eD (.int 271828182845904523536028747135266249)))) (gSet 2)) (t__law_great_1)
noncomputable def b__law_great : Sv :=
  sSeq (sAsg (eBin oMod (eLook 0) (eBin oPow (eD (.int 10)) (eD (.int 60)))) (gSet 2)) (t__law_great_2)
noncomputable def m__law_great : List Sl → R Sl := hid (runB 3 b__law_great)
theorem m__law_great_eq : m__law_great = runB 3 b__law_great := hid_eq _
-- _law_waking_2: 0:cell 1:part 2:number 3:period 4:first 5:length
noncomputable def t__law_waking_2_1 : Sv :=
  sSeq (sAsg (eBin oIx (eLst (vCons (eBin oAdd (eD (.int 1)) (eBin oMod (eBin oDiv (eLook 2) (eD (.int 3))) (eD (.int 4)))) (vCons (eBin oSub (eLook 3) (eBin oMod (eBin oDiv (eLook 2) (eD (.int 3))) (eD (.int 4)))) (vCons (eBin oAdd (eD (.int 1)) (eBin oMod (eBin oDiv (eLook 2) (eD (.int 3))) (eLook 3))) (vNil))))) (eBin oMod (eLook 2) (eD (.int 3)))) (gSet 5)) (sRet (eTup (vCons (eVar 3) (vCons (eVar 4) (vCons (eCall oMax (vCons (eD (.int 1)) (vCons (eCall oMin (vCons (eLook 5) (vCons (eLook 3) vNil))) vNil))) (vNil))))))
noncomputable def t__law_waking_2_2 : Sv :=
  sSeq (sAsg (eApp m__law_big (aVal (eBin oAdd (eBin oDiv (eLook 0) (eD (.int 2))) (eD (.int 5))) (aNil))) (gSet 2)) (t__law_waking_2_1)
noncomputable def t__law_waking_2_3 : Sv :=
  sSeq (sAsg (eBin oMod (eBin oDiv (eLook 2) (eD (.int 6))) (eLook 3)) (gSet 4)) (t__law_waking_2_2)
noncomputable def t__law_waking_2_4 : Sv :=
  sSeq (sAsg (eBin oMul (eLook 1) (eBin oAdd (eD (.int 1)) (eBin oMod (eLook 2) (eD (.int 6))))) (gSet 3)) (t__law_waking_2_3)
noncomputable def b__law_waking_2 : Sv :=
  sSeq (sAsg (eApp m__law_big (aVal (eVar 0) (aNil))) (gSet 2)) (t__law_waking_2_4)
noncomputable def m__law_waking_2 : List Sl → R Sl := hid (runB 6 b__law_waking_2)
theorem m__law_waking_2_eq : m__law_waking_2 = runB 6 b__law_waking_2 := hid_eq _
-- _law_plans: 0:script 1:number 2:part 3:one 4:k
noncomputable def t__law_plans_1 : Sv :=
  sSeq (sSetF 3 (eLc (iRng1D (eBin oMod (eLook 1) (eD (.int 4)))) (gSet 4) (tYesE) (eApp m__law_waking_2 (aVal (eApp m__law_cell_at (aVal (eVar 0) (aVal (eBin oAdd (eD (.int 2)) (eLook 4)) (aNil)))) (aVal (eVar 2) (aNil)))) [4])) (sFrz 3 (sRetF (vCons (eVar 3) (vCons (eLst (eLc (iRng1D (eBin oMod (eBin oDiv (eLook 1) (eD (.int 4))) (eD (.int 4)))) (gSet 4) (tYesE) (eApp m__law_waking_2 (aVal (eApp m__law_cell_at (aVal (eVar 0) (aVal (eBin oAdd (eD (.int 5)) (eLook 4)) (aNil)))) (aVal (eVar 2) (aNil)))) [4])) (vNil)))))
noncomputable def t__law_plans_2 : Sv :=
  sSeq (sAsg (eBin oIx (eLst (vCons (eBin oAdd (eD (.int 1)) (eBin oMod (eBin oDiv (eLook 1) (eD (.int 16))) (eD (.int 12)))) (vCons (eBin oAdd (eD (.int 1)) (eBin oMod (eBin oDiv (eLook 1) (eD (.int 16))) (eBin oPow (eD (.int 10)) (eD (.int 30))))) (vNil)))) (eBin oMod (eApp m__law_cell_at (aVal (eVar 0) (aVal (eD (.int 1)) (aNil)))) (eD (.int 2)))) (gSet 2)) (t__law_plans_1)
noncomputable def b__law_plans : Sv :=
  sSeq (sAsg (eApp m__law_big (aVal (eApp m__law_cell_at (aVal (eVar 0) (aVal (eD (.int 0)) (aNil)))) (aNil))) (gSet 1)) (t__law_plans_2)
noncomputable def m__law_plans : List Sl → R Sl := hid (runB 5 b__law_plans)
theorem m__law_plans_eq : m__law_plans = runB 5 b__law_plans := hid_eq _
-- _law_awake: 0:plan 1:turn 2:row
noncomputable def b__law_awake : Sv :=
  sRet (eCall oAny (vCons (eLst (eLc (iVar 0) (gSet 2) (tYesE) (eBin oLt (eBin oMod (eBin oSub (eLook 1) (eBin oIx (eLook 2) (eD (.int 1)))) (eBin oIx (eLook 2) (eD (.int 0)))) (eBin oIx (eLook 2) (eD (.int 2)))) [2])) vNil))
noncomputable def m__law_awake : List Sl → R Sl := hid (runB 3 b__law_awake)
theorem m__law_awake_eq : m__law_awake = runB 3 b__law_awake := hid_eq _
-- _law_whole: 0:found
noncomputable def b__law_whole : Sv :=
  sRet (eAnd (eIsi isIntD (eLook 0)) (eNot (eIsi isBoolD (eLook 0))))
noncomputable def m__law_whole : List Sl → R Sl := hid (runB 1 b__law_whole)
theorem m__law_whole_eq : m__law_whole = runB 1 b__law_whole := hid_eq _
-- _law_meet: 0:one 1:other 2:shift 3:mine 4:yours 5:by 6:apart
noncomputable def t__law_meet_1 : Sv :=
  sSeq (sIf (tst (eBin oLt (eBin oMod (eBin oSub (eBin oAdd (eLook 6) (eBin oIx (eLook 4) (eD (.int 2)))) (eD (.int 1))) (eLook 5)) (eBin oSub (eBin oAdd (eBin oIx (eLook 3) (eD (.int 2))) (eBin oIx (eLook 4) (eD (.int 2)))) (eD (.int 1))))) (sRet (eD (.bl true))) (sNx)) (sKill 6 (sKill 5 (sKill 4 (sNx))))
noncomputable def t__law_meet_2 : Sv :=
  sSeq (sAsg (eBin oAdd (eBin oSub (eLook 2) (eBin oIx (eLook 3) (eD (.int 1)))) (eBin oIx (eLook 4) (eD (.int 1)))) (gSet 6)) (t__law_meet_1)
noncomputable def u__law_meet_3 : Sv :=
  sSeq (sAsg (eApp m__law_divisor (aVal (eBin oIx (eLook 3) (eD (.int 0))) (aVal (eBin oIx (eLook 4) (eD (.int 0))) (aNil)))) (gSet 5)) (t__law_meet_2)
noncomputable def u__law_meet_4 : Sv :=
  sSeq (sFor (iVar 1) (gSet 4) (u__law_meet_3)) (sKill 6 (sKill 5 (sKill 3 (sKill 4 (sNx)))))
noncomputable def b__law_meet : Sv :=
  sSeq (sFor (iVar 0) (gSet 3) (u__law_meet_4)) (sRet (eD (.bl false)))
noncomputable def m__law_meet : List Sl → R Sl := hid (runB 7 b__law_meet)
theorem m__law_meet_eq : m__law_meet = runB 7 b__law_meet := hid_eq _
-- _law_awake_2: 0:plan 1:turn 2:row
noncomputable def u__law_awake_2_1 : Sv :=
  sSeq (sIf (tst (eBin oLt (eBin oMod (eBin oSub (eLook 1) (eBin oIx (eLook 2) (eD (.int 1)))) (eBin oIx (eLook 2) (eD (.int 0)))) (eBin oIx (eLook 2) (eD (.int 2))))) (sRet (eD (.bl true))) (sNx)) (sKill 2 (sNx))
noncomputable def b__law_awake_2 : Sv :=
  sSeq (sFor (iVar 0) (gSet 2) (u__law_awake_2_1)) (sRet (eD (.bl false)))
noncomputable def m__law_awake_2 : List Sl → R Sl := hid (runB 3 b__law_awake_2)
theorem m__law_awake_2_eq : m__law_awake_2 = runB 3 b__law_awake_2 := hid_eq _
end Mi.Sh

namespace Mi.Sh
open PySem PySem.Spec L2 Mi
theorem gcd_gOf {s p : Nat} (hp : 0 < p) : ((Nat.gcd s p : Nat) : Int) = gOf (p : Int) (s : Int) := by
  unfold gOf
  rw [Int.toNat_natCast, show ((s : Int) % (p : Int)) = ((s % p : Nat) : Int) from (Int.natCast_emod s p).symm, Int.toNat_natCast, Nat.gcd_comm s p, Nat.gcd_rec p s, Nat.gcd_comm]
theorem divisor_gOf {s p : Int} (hs : 0 ≤ s) (hp : 0 < p) : m_divisor [.sh (.int s), .sh (.int p)] = .ok (.sh (.int (gOf p s))) := by
  have h := divisor_nat s.toNat p.toNat
  rw [gcd_gOf (by omega)] at h
  rwa [Int.toNat_of_nonneg hs, Int.toNat_of_nonneg (by omega)] at h
/-- all numbers of a part are awake turns -/
def Lies (p f l s r : Int) : Prop := ∀ k : Int, 0 ≤ k → (r + s * k - f) % p < l
theorem lies_iff {p f l s r : Int} (hp : 0 < p) (l1 : 1 ≤ l) (l2 : l ≤ p) : p - l ≤ (r - f - l) % gOf p s ↔ Lies p f l s r := by
  have h := hitF_ex (st := r - f - l) (sp := s) (m := p - l) hp
  have key : ∀ k, HitF (r - f - l) s p (p - l) k ↔ ¬ (r + s * k - f) % p < l := fun k => by
    unfold HitF
    have e : r - f - l + s * k = r + s * k - f - l := by omega
    have a0 := Int.emod_nonneg (r + s * k - f) (show p ≠ 0 by omega)
    have a1 := Int.emod_lt_of_pos (r + s * k - f) hp
    rw [e, Int.sub_emod (r + s * k - f) l]
    by_cases z : l = p
    · rw [z, Int.emod_self, Int.sub_zero, Int.emod_emod_of_dvd _ (Int.dvd_refl p)]
      omega
    · rw [Int.emod_eq_of_lt (a := l) (by omega) (by omega)]
      generalize (r + s * k - f) % p = v at *
      by_cases y : v < l
      · rw [emod_of (q := -1) (r := v - l + p) (by omega) (by omega) (by omega)]
        omega
      · rw [Int.emod_eq_of_lt (by omega) (by omega)]
        omega
  constructor
  · intro q k k0
    by_cases z : (r + s * k - f) % p < l
    · exact z
    · have := h.mp ⟨k, k0, (key k).mpr z⟩
      omega
  · intro q
    rcases Int.lt_or_le ((r - f - l) % gOf p s) (p - l) with z | z
    · obtain ⟨k, k0, hk⟩ := h.mpr z
      exact absurd (q k k0) ((key k).mp hk)
    · exact z
def partD (q : Int × Int) : D := .tup [.int q.1, .int q.2]
open Classical in
theorem lies_in_ok {w : Wk3} {q : Int × Int} (hp : 1 ≤ w.1) (l1 : 1 ≤ w.2.2) (l2 : w.2.2 ≤ w.1) (hs : 0 ≤ q.1) : m_lies_in [.sh (wkD w), .sh (partD q)] = .ok (.sh (.bl (decide (Lies w.1 w.2.1 w.2.2 q.1 q.2)))) := by
  have hp0 : 0 < w.1 := by omega
  have e := divisor_gOf hs hp0
  have g := gOf_pos (sp := q.1) hp0
  rw [m_lies_in_eq]
  refine runB_rt ?_
  have z : decide (Lies w.1 w.2.1 w.2.2 q.1 q.2) = decide (w.1 - w.2.2 ≤ (q.2 - w.2.1 - w.2.2) % gOf w.1 q.1) := decide_eq_decide.mpr (lies_iff hp0 l1 l2).symm
  rw [z]
  simp [b_lies_in, t_lies_in_1, wkD, partD, e, g]
theorem lies_mod {p f l s r : Int} (hp : 0 < p) (h : ∀ k : Int, 0 ≤ k → k < p → (r + s * k - f) % p < l) : Lies p f l s r := fun k k0 => by
  have := h (k % p) (Int.emod_nonneg _ (by omega)) (Int.emod_lt_of_pos _ hp)
  have e : (r + s * (k % p) - f) % p = (r + s * k - f) % p := by
    have d := Int.emod_add_mul_ediv k p
    have : r + s * k - f = (r + s * (k % p) - f) + p * (s * (k / p)) := by
      conv => lhs; rw [← d]
      grind
    rw [this, Int.add_mul_emod_self_left]
  rwa [e] at this
end Mi.Sh

namespace Mi.Sh
open PySem PySem.Spec L2 Mi
/-- both wakings are awake together at some turn, at this shift -/
def Both (u v : Wk3) (sh : Int) : Prop := ∃ t : Int, (t - u.2.1) % u.1 < u.2.2 ∧ (t - sh - v.2.1) % v.1 < v.2.2
theorem both_iff {p1 f1 l1 p2 f2 l2 sh : Int} (h1 : 0 < p1) (h2 : 0 < p2) (a1 : 1 ≤ l1) (a2 : l1 ≤ p1) (b1 : 1 ≤ l2) (b2 : l2 ≤ p2) :
    (∃ t : Int, (t - f1) % p1 < l1 ∧ (t - sh - f2) % p2 < l2) ↔ (sh - (f1 - f2 - l2 + 1)) % gOf p2 p1 < min (gOf p2 p1) (l1 + l2 - 1) := by
  have gp := gOf_pos (sp := p1) h2
  have gd := gOf_w (sp := p1) h2
  have gs := gOf_sp (sp := p1) h2
  constructor
  · rintro ⟨t, ht1, ht2⟩
    have d1 := Int.emod_add_mul_ediv (t - f1) p1
    have d2 := Int.emod_add_mul_ediv (t - sh - f2) p2
    have m1 := Int.emod_nonneg (t - f1) (show p1 ≠ 0 by omega)
    have m2 := Int.emod_nonneg (t - sh - f2) (show p2 ≠ 0 by omega)
    generalize (t - f1) % p1 = a at *
    generalize (t - sh - f2) % p2 = b at *
    obtain ⟨k1, hk1⟩ := gs
    obtain ⟨k2, hk2⟩ := gd
    have e : (sh - (f1 - f2 - l2 + 1)) = (a - b + l2 - 1) + gOf p2 p1 * (k1 * ((t - f1) / p1) - k2 * ((t - sh - f2) / p2)) := by
      have e1 : gOf p2 p1 * (k1 * ((t - f1) / p1)) = p1 * ((t - f1) / p1) := by
        conv => rhs; lhs; rw [hk1]
        rw [Int.mul_assoc]
      have e2 : gOf p2 p1 * (k2 * ((t - sh - f2) / p2)) = p2 * ((t - sh - f2) / p2) := by
        have : p2 * ((t - sh - f2) / p2) = gOf p2 p1 * k2 * ((t - sh - f2) / p2) := congrArg (· * ((t - sh - f2) / p2)) hk2
        rw [this, Int.mul_assoc]
      rw [Int.mul_sub, e1, e2]
      omega
    rw [e, Int.add_mul_emod_self_left]
    have y0 : 0 ≤ a - b + l2 - 1 := by omega
    have := emod_le_self y0 gp
    have := Int.emod_lt_of_pos (a - b + l2 - 1) gp
    omega
  · intro hx
    have x0 := Int.emod_nonneg (sh - (f1 - f2 - l2 + 1)) (show gOf p2 p1 ≠ 0 by omega)
    have d := Int.emod_add_mul_ediv (sh - (f1 - f2 - l2 + 1)) (gOf p2 p1)
    generalize (sh - (f1 - f2 - l2 + 1)) % gOf p2 p1 = x at *
    generalize (sh - (f1 - f2 - l2 + 1)) / gOf p2 p1 = q at *
    obtain ⟨a, b, ha0, ha1, hb0, hb1, hab⟩ : ∃ a b : Int, 0 ≤ a ∧ a < l1 ∧ 0 ≤ b ∧ b < l2 ∧ a - b + l2 - 1 = x := by
      by_cases z : l2 - 1 ≤ x
      · exact ⟨x - (l2 - 1), 0, by omega, by omega, by omega, by omega, by omega⟩
      · exact ⟨0, l2 - 1 - x, by omega, by omega, by omega, by omega, by omega⟩
    obtain ⟨i, _, hi⟩ := gOf_bez (sp := p1) h2
    refine ⟨f1 + a + p1 * (i * q), ?_, ?_⟩
    · rw [show f1 + a + p1 * (i * q) - f1 = a + p1 * (i * q) by omega, Int.add_mul_emod_self_left, Int.emod_eq_of_lt ha0 (by omega)]
      exact ha1
    · have e1 : (p1 * (i * q)) % p2 = (gOf p2 p1 * q) % p2 := by
        rw [← Int.mul_assoc, Int.mul_emod, hi, ← Int.mul_emod]
      have e2 : f1 + a + p1 * (i * q) - sh - f2 = (b - gOf p2 p1 * q) + p1 * (i * q) := by omega
      rw [e2, Int.add_emod, e1, ← Int.add_emod, show b - gOf p2 p1 * q + gOf p2 p1 * q = b by omega, Int.emod_eq_of_lt hb0 (by omega)]
      exact hb1
def shW (u v : Wk3) : Wk3 := (gOf v.1 u.1, (u.2.1 - v.2.1 - v.2.2 + 1) % gOf v.1 u.1, min (gOf v.1 u.1) (u.2.2 + v.2.2 - 1))
structure Wak (w : Wk3) : Prop where
  p1 : 1 ≤ w.1
  l1 : 1 ≤ w.2.2
  l2 : w.2.2 ≤ w.1
theorem shW_iff {u v : Wk3} (hu : Wak u) (hv : Wak v) {sh : Int} : (sh - (shW u v).2.1) % (shW u v).1 < (shW u v).2.2 ↔ Both u v sh := by
  have p := hu.p1
  have q := hv.p1
  unfold Both
  rw [both_iff (by omega) (by omega) hu.l1 hu.l2 hv.l1 hv.l2]
  show (sh - (u.2.1 - v.2.1 - v.2.2 + 1) % gOf v.1 u.1) % gOf v.1 u.1 < _ ↔ _
  rw [Int.sub_emod, Int.emod_emod_of_dvd _ (Int.dvd_refl _), ← Int.sub_emod]
  exact Iff.rfl
theorem shW_good {u v : Wk3} (hu : Wak u) (hv : Wak v) : 1 ≤ (shW u v).1 ∧ 0 ≤ (shW u v).2.1 ∧ (shW u v).2.1 < (shW u v).1 ∧ 1 ≤ (shW u v).2.2 ∧ (shW u v).2.2 ≤ (shW u v).1 := by
  have p := hu.p1
  have q := hv.p1
  have gp := gOf_pos (w := v.1) (sp := u.1) (by omega)
  have a := hu.l1
  have b := hv.l1
  refine ⟨gp, Int.emod_nonneg _ (by omega), Int.emod_lt_of_pos _ gp, ?_, ?_⟩
  · show 1 ≤ min (gOf v.1 u.1) (u.2.2 + v.2.2 - 1)
    omega
  · show min (gOf v.1 u.1) (u.2.2 + v.2.2 - 1) ≤ gOf v.1 u.1
    omega
theorem shifts_of_two_ok {u v : Wk3} (hu : Wak u) (hv : Wak v) : m_shifts_of_two [.sh (wkD u), .sh (wkD v)] = .ok (.sh (wkD (shW u v))) := by
  have p := hu.p1
  have q := hv.p1
  have e := divisor_gOf (s := u.1) (p := v.1) (by omega) (by omega)
  have gp := gOf_pos (w := v.1) (sp := u.1) (by omega)
  rw [m_shifts_of_two_eq]
  refine runB_rt ?_
  simp [b_shifts_of_two, t_shifts_of_two_1, wkD, shW, e, gp]
end Mi.Sh

/-! ### defs that call themselves: by fuel -/
namespace Mi
open PySem PySem.Spec L2
section
variable {P : Program} {w : World} {K : PySem.W.Frag} {mg : Str → Option Value} {base : Heap}
theorem fn_rec {x qual : Str} {st : Stmt} {f : Addr} {fd : FuncData} {N ps : List Str} {n : Nat} {u : (List Sl → R Sl) → Sv} {m : Nat → List Sl → R Sl} (L : Nat) (h0 : m 0 = fun _ => .stuck) (hs : ∀ j, m (j + 1) = runB N.length (u (m j)))
    (F : L2.Fun K x qual st f fd) (hm : mg x = some (.ref f)) (b : Binds K fd ps []) (S : FnScope N ps (defScope st)) (hn : ps.length = n)
    (body : ∀ (k : Nat) (rec : List Sl → R Sl), L ≤ k → Fn P w K mg base k x n rec → ∀ W, SSs (cfOf P w K mg base N (defScope st) k) W (defBody st) (u rec)) : ∀ j, Fn P w K mg base (L + j) x n (m j)
  | 0 => by
    rw [h0]
    refine ⟨f, fd, ps, hm, F.kp, b, ⟨fun vs H Q E h => ?_, fun A outer s H args us vs Q E _ _ _ _ h => ?_⟩⟩
    · obtain ⟨_, _, _, _, _, z⟩ := h
      exact z.elim
    · obtain ⟨_, _, _, _, _, z⟩ := h
      exact z.elim
  | j + 1 => by
    rw [hs]
    exact fn_mk F hm b S hn (body (L + j) (m j) (Nat.le_add_right _ _) (fn_rec L h0 hs F hm b S hn body j))
end
end Mi

namespace Mi.Sh
open PySem PySem.Spec L2 Mi
-- right_for: 0:plan 1:part 2:paper 3:by 4:step 5:rest 6:c
noncomputable def u_right_for_1 (rec : List Sl → R Sl) : Sv :=
  sSeq (sIf (tNotE (tst (eApp rec (aVal (eVar 0) (aVal (eTup (vCons (eBin oMul (eLook 4) (eLook 3)) (vCons (eBin oAdd (eLook 5) (eBin oMul (eLook 4) (eLook 6))) (vNil)))) (aVal (eBin oIx (eBin oIx (eLook 2) (eD (.int 2))) (eLook 6)) (aNil))))))) (sRet (eD (.bl false))) (sNx)) (sKill 6 (sNx))
noncomputable def t_right_for_2 (rec : List Sl → R Sl) : Sv :=
  sSeq (sFor (iRng1D (eVar 3)) (gSet 6) ((u_right_for_1 rec))) (sRet (eD (.bl true)))
noncomputable def t_right_for_3 (rec : List Sl → R Sl) : Sv :=
  sSeq (sAsg (eVar 1) (gTupD 2 (gsCons (gSet 4) (gsCons (gSet 5) (gsNil))))) ((t_right_for_2 rec))
noncomputable def t_right_for_4 (rec : List Sl → R Sl) : Sv :=
  sSeq (sIf (tOrE (tst (eBin oLt (eLook 3) (eD (.int 2)))) (tst (eBin oNe (eCall oLen (vCons (eBin oIx (eLook 2) (eD (.int 2))) vNil)) (eLook 3)))) (sRet (eD (.bl false))) (sNx)) ((t_right_for_3 rec))
noncomputable def t_right_for_5 (rec : List Sl → R Sl) : Sv :=
  sSeq (sAsg (eBin oIx (eLook 2) (eD (.int 1))) (gSet 3)) ((t_right_for_4 rec))
noncomputable def b_right_for (rec : List Sl → R Sl) : Sv :=
  sSeq (sIf (tst (eBin oEq (eBin oIx (eLook 2) (eD (.int 0))) (eD (.str "in")))) (sRet (eAnd (eChain (fun i j => decide (i ≤ j)) (fun i j => decide (i < j)) (eD (.int 0)) (eBin oIx (eLook 2) (eD (.int 1))) (eCall oLen (vCons (eLook 0) vNil))) (eApp m_lies_in (aVal (eBin oIx (eLook 0) (eBin oIx (eLook 2) (eD (.int 1)))) (aVal (eVar 1) (aNil)))))) (sNx)) ((t_right_for_5 rec))
noncomputable def m_right_for : Nat → List Sl → R Sl
  | 0 => fun _ => .stuck
  | n + 1 => hid (runB 7 (b_right_for (m_right_for n)))
theorem m_right_for_zero : m_right_for 0 = fun _ => .stuck := by rw [m_right_for]
theorem m_right_for_succ (n : Nat) : m_right_for (n + 1) = runB 7 (b_right_for (m_right_for n)) := by
  rw [m_right_for]
  exact hid_eq _
end Mi.Sh

namespace Mi.Sh
open PySem PySem.Spec L2 Mi
theorem rngD_z {n : Nat} : rngD 0 n = (List.range n).map fun (j : Nat) => D.int (j : Int) := by
  unfold rngD
  refine List.map_congr_left fun i _ => ?_
  show D.int (0 + (i : Int)) = _
  rw [Int.zero_add]
/-- the first that is wanted, of 0, 1, 2 .. -/
theorem forR_fst {gt : Gt} {u : Sv} {ρ : En} (q : Nat → Bool) (r : Nat → Sl) (n : Nat) (h : ∀ j, j < n → turnB gt u (.int (j : Int)) ρ = if q j = true then .rt (r j) else .nx ρ) :
    (∃ j, j < n ∧ q j = true ∧ (∀ i, i < j → q i = false) ∧ forR gt u (rngD 0 n) ρ = .rt (r j)) ∨ ((∀ j, j < n → q j = false) ∧ forR gt u (rngD 0 n) ρ = .nx ρ) := by
  have key := forR_find (gt := gt) (u := u) (ρ := ρ) (fun (j : Nat) => D.int (j : Int)) q r (List.range n) fun j hj => h j (List.mem_range.mp hj)
  rw [← rngD_z] at key
  cases e : List.find? q (List.range n) with
  | some j =>
    rw [e] at key
    obtain ⟨h1, h2, h3⟩ := List.find?_range_eq_some.mp e
    refine .inl ⟨j, List.mem_range.mp h2, h1, fun i hi => ?_, key⟩
    have := h3 i hi
    cases z : q i with
    | false => rfl
    | true => rw [z] at this; cases this
  | none =>
    rw [e] at key
    refine .inr ⟨fun j hj => ?_, key⟩
    have := List.find?_range_eq_none.mp e j hj
    cases z : q j with
    | false => rfl
    | true => rw [z] at this; cases this
/-- a paper -/
inductive Pap where
  | leaf (k : Int) | part (b : Int) (ps : List Pap)
mutual
def papD : Pap → D
  | .leaf k => .tup [.str "in", .int k]
  | .part b ps => .tup [.str "parted", .int b, .lst (papDs ps)]
def papDs : List Pap → List D
  | [] => []
  | p :: ps => papD p :: papDs ps
end
theorem papDs_map : ∀ ps : List Pap, papDs ps = ps.map papD
  | [] => rfl
  | p :: ps => by rw [papDs, papDs_map ps, List.map_cons]
/-- no deeper than d, no wider than fifteen -/
def okP : Nat → Pap → Prop
  | _, .leaf _ => True
  | 0, .part _ _ => False
  | d + 1, .part _ ps => ps.length ≤ 15 ∧ ∀ p ∈ ps, okP d p
theorem okP.up : ∀ {d : Nat} {p : Pap}, okP d p → okP (d + 1) p
  | _, .leaf _, _ => by simp only [okP]
  | 0, .part _ _, h => by simp only [okP] at h
  | d + 1, .part b ps, h => by
    simp only [okP] at h ⊢
    exact ⟨h.1, fun p hp => okP.up (h.2 p hp)⟩
theorem okP.mono {d : Nat} {p : Pap} (h : okP d p) : ∀ {e : Nat}, d ≤ e → okP e p := fun {e} he => by
  induction e with
  | zero =>
    have : d = 0 := by omega
    subst this
    exact h
  | succ e ih =>
    by_cases q : d ≤ e
    · exact (ih q).up
    · have : d = e + 1 := by omega
      subst this
      exact h
def leafB (ws : List Wk3) (s r k : Int) : Bool := match ws[k.toNat]? with
  | some w => decide (0 ≤ k) && decide (w.1 - w.2.2 ≤ (r - w.2.1 - w.2.2) % gOf w.1 s)
  | none => false
mutual
/-- the walk from a part -/
def rightB (ws : List Wk3) : Int → Int → Pap → Bool
  | s, r, .leaf k => leafB ws s r k
  | s, r, .part b ps => if b < 2 ∨ (ps.length : Int) ≠ b then false else rightsB ws s r b 0 ps
def rightsB (ws : List Wk3) : Int → Int → Int → Nat → List Pap → Bool
  | _, _, _, _, [] => true
  | s, r, b, c, p :: ps => rightB ws (s * b) (r + s * c) p && rightsB ws s r b (c + 1) ps
end
theorem rightsB_iff {ws : List Wk3} {s r b : Int} : ∀ (ps : List Pap) (c : Nat), rightsB ws s r b c ps = true ↔ ∀ (j : Nat) (p : Pap), ps[j]? = some p → rightB ws (s * b) (r + s * ((c + j : Nat) : Int)) p = true
  | [], c => by simp [rightsB]
  | p :: ps, c => by
    rw [rightsB, Bool.and_eq_true, rightsB_iff ps (c + 1)]
    constructor
    · rintro ⟨h1, h2⟩ j q e
      cases j with
      | zero =>
        simp at e
        subst e
        exact h1
      | succ j =>
        have := h2 j q (by simpa using e)
        rw [show c + (j + 1) = c + 1 + j by omega]
        exact this
    · intro h
      refine ⟨h 0 p rfl, fun j q e => ?_⟩
      have := h (j + 1) q (by simpa using e)
      rw [show c + (j + 1) = c + 1 + j by omega] at this
      exact this
theorem oEq_s {x y : Str} : oEq (.str x) (.str y) = .ok (.bl (decide (x = y))) := rfl
theorem ne_in : decide (("parted" : Str) = "in") = false := by decide
theorem ne_in' : (("parted" : Str) = "in") = False := eq_false (by decide)
theorem oEq_ii {i j : Int} : oEq (.int i) (.int j) = .ok (.bl (decide (i = j))) := rfl
theorem at_wk {ws : List Wk3} {k : Int} (h0 : 0 ≤ k) (h : k < ws.length) : ∃ w, ws[k.toNat]? = some w ∧ w ∈ ws ∧ atI (ws.map wkD) k = some (wkD w) := by
  have hi : k.toNat < ws.length := by omega
  refine ⟨ws[k.toNat], List.getElem?_eq_getElem hi, List.getElem_mem hi, ?_⟩
  rw [atI_nat h0 (by rw [List.length_map]; exact h), List.getElem?_map, List.getElem?_eq_getElem hi]
  rfl
theorem leafB_no {ws : List Wk3} {s r k : Int} (h : ¬ (0 ≤ k ∧ k < ws.length)) : leafB ws s r k = false := by
  unfold leafB
  by_cases h0 : 0 ≤ k
  · rw [List.getElem?_eq_none (by omega)]
  · cases ws[k.toNat]? with
    | none => rfl
    | some w => simp [h0]
theorem lies_bool {w : Wk3} {s r : Int} (hw : Wak w) (hs : 0 ≤ s) : m_lies_in [.sh (wkD w), .sh (partD (s, r))] = .ok (.sh (.bl (decide (w.1 - w.2.2 ≤ (r - w.2.1 - w.2.2) % gOf w.1 s)))) := by
  have hp0 : 0 < w.1 := by have := hw.p1; omega
  have e := divisor_gOf hs hp0
  have g := gOf_pos (sp := s) hp0
  rw [m_lies_in_eq]
  refine runB_rt ?_
  simp [b_lies_in, t_lies_in_1, wkD, partD, e, g]
theorem right_for_ok {ws : List Wk3} (hw : ∀ w ∈ ws, Wak w) : ∀ (d n : Nat) (p : Pap) (s r : Int) (m : Nat), okP d p → d < n → 1 ≤ s → Bd m s → m + 4 * d ≤ 8000 →
    m_right_for n [.sh (.lst (ws.map wkD)), .sh (partD (s, r)), .sh (papD p)] = .ok (.sh (.bl (rightB ws s r p)))
  | d, 0, p, s, r, m, _, h, _, _, _ => absurd h (Nat.not_lt_zero _)
  | d, n + 1, .leaf k, s, r, m, ok, hd, hs, hb, hm => by
    rw [m_right_for_succ]
    refine runB_rt ?_
    have pl : (ws.map wkD).length = ws.length := List.length_map ..
    rw [rightB, papD]
    by_cases q : 0 ≤ k ∧ k < ws.length
    · obtain ⟨w, h1, h2, h3⟩ := at_wk q.1 q.2
      have e := lies_bool (r := r) (hw w h2) (show 0 ≤ s by omega)
      have le : leafB ws s r k = decide (w.1 - w.2.2 ≤ (r - w.2.1 - w.2.2) % gOf w.1 s) := by
        unfold leafB
        rw [h1]
        simp [q.1]
      rw [le]
      obtain ⟨q0, q1⟩ := q
      generalize ws.map wkD = U at *
      simp -implicitDefEqProofs [b_right_for, oEq_s, q0, q1, pl, h3, e]
    · rw [leafB_no q]
      generalize ws.map wkD = U at *
      by_cases q0 : 0 ≤ k
      · have q1 : ¬ k < ws.length := fun z => q ⟨q0, z⟩
        simp -implicitDefEqProofs [b_right_for, oEq_s, q0, q1, pl]
      · simp -implicitDefEqProofs [b_right_for, oEq_s, q0]
  | 0, n + 1, .part b ps, s, r, m, ok, hd, hs, hb, hm => by simp only [okP] at ok
  | d + 1, n + 1, .part b ps, s, r, m, ok, hd, hs, hb, hm => by
    simp only [okP] at ok
    obtain ⟨ok1, ok2⟩ := ok
    have pl : (papDs ps).length = ps.length := by rw [papDs_map, List.length_map]
    rw [m_right_for_succ]
    refine runB_rt ?_
    rw [rightB, papD]
    have e0 : b_right_for (m_right_for n) [some (.sh (.lst (ws.map wkD))), some (.sh (partD (s, r))), some (.sh (.tup [.str "parted", .int b, .lst (papDs ps)])), none, none, none, none] = t_right_for_4 (m_right_for n) [some (.sh (.lst (ws.map wkD))), some (.sh (partD (s, r))), some (.sh (.tup [.str "parted", .int b, .lst (papDs ps)])), some (.sh (.int b)), none, none, none] := by
      generalize ws.map wkD = U at *
      generalize papDs ps = PS at *
      simp -implicitDefEqProofs [b_right_for, oEq_s, ne_in', t_right_for_5]
    show b_right_for (m_right_for n) [some (.sh (.lst (ws.map wkD))), some (.sh (partD (s, r))), some (.sh (.tup [.str "parted", .int b, .lst (papDs ps)])), none, none, none, none] = _
    rw [e0]
    by_cases q1 : b < 2
    · rw [if_pos (.inl q1)]
      generalize ws.map wkD = U at *
      simp -implicitDefEqProofs [t_right_for_4, q1]
    by_cases q2 : (ps.length : Int) = b
    · rw [if_neg (by simp [q1, q2])]
      have hbl : b ≤ 15 := by omega
      have hsb : 1 ≤ s * b := by
        have : s * 1 ≤ s * b := Int.mul_le_mul_of_nonneg_left (by omega) (by omega)
        omega
      have hbb : Bd 4 b := ⟨by omega⟩
      have hbsb : Bd (m + 4) (s * b) := @bd_mul _ _ _ _ hb hbb
      have m1 : mulOk s b = true := @mulOk_i _ _ _ _ hb hbb (by rw [Nat.blt_eq]; omega)
      have step : ∀ j, j < ps.length → ∀ p, ps[j]? = some p → turnB (gSet 6) (u_right_for_1 (m_right_for n)) (.int (j : Int)) [some (.sh (.lst (ws.map wkD))), some (.sh (partD (s, r))), some (.sh (.tup [.str "parted", .int b, .lst (papDs ps)])), some (.sh (.int b)), some (.sh (.int s)), some (.sh (.int r)), none] =
          if (!rightB ws (s * b) (r + s * (j : Int)) p) = true then .rt (.sh (.bl false)) else .nx [some (.sh (.lst (ws.map wkD))), some (.sh (partD (s, r))), some (.sh (.tup [.str "parted", .int b, .lst (papDs ps)])), some (.sh (.int b)), some (.sh (.int s)), some (.sh (.int r)), none] := fun j hj p hp => by
        have ih := right_for_ok hw d n p (s * b) (r + s * (j : Int)) (m + 4) (ok2 p (List.mem_of_getElem? hp)) (by omega) hsb hbsb (by omega)
        have a1 : atI (papDs ps) (j : Int) = some (papD p) := by
          rw [papDs_map, atI_nat (by omega) (by rw [List.length_map]; omega), Int.toNat_natCast, List.getElem?_map, hp]
          rfl
        have m2 : mulOk s (j : Int) = true := @mulOk_i m 4 _ _ hb ⟨by omega⟩ (by rw [Nat.blt_eq]; omega)
        have pd : partD (s * b, r + s * (j : Int)) = .tup [.int (s * b), .int (r + s * (j : Int))] := rfl
        rw [pd] at ih
        generalize ws.map wkD = U at *
        generalize papDs ps = PS at *
        generalize partD (s, r) = PD at *
        cases hr : rightB ws (s * b) (r + s * (j : Int)) p with
        | true =>
          rw [hr] at ih
          simp -implicitDefEqProofs [turnB, u_right_for_1, m1, m2, a1, ih]
        | false =>
          rw [hr] at ih
          simp -implicitDefEqProofs [turnB, u_right_for_1, m1, m2, a1, ih]
      have fin : ∀ fl : Fl, forR (gSet 6) (u_right_for_1 (m_right_for n)) (rngD 0 ps.length) [some (.sh (.lst (ws.map wkD))), some (.sh (partD (s, r))), some (.sh (.tup [.str "parted", .int b, .lst (papDs ps)])), some (.sh (.int b)), some (.sh (.int s)), some (.sh (.int r)), none] = fl →
          t_right_for_4 (m_right_for n) [some (.sh (.lst (ws.map wkD))), some (.sh (partD (s, r))), some (.sh (.tup [.str "parted", .int b, .lst (papDs ps)])), some (.sh (.int b)), none, none, none] = fl.thn (sRet (eD (.bl true))) := fun fl e => by
        have it := iRng1D_ok (f := eVar 3) (ρ := [some (.sh (.lst (ws.map wkD))), some (.sh (partD (s, r))), some (.sh (.tup [.str "parted", .int b, .lst (papDs ps)])), some (.sh (.int b)), some (.sh (.int s)), some (.sh (.int r)), none]) (j := b) rfl (by omega)
        rw [← q2, Int.toNat_natCast, q2] at it
        have e2 := sFor_at it e
        have pd : partD (s, r) = .tup [.int s, .int r] := rfl
        generalize ws.map wkD = U at *
        generalize hPS : papDs ps = PS at *
        rw [pd] at e2 ⊢
        simp -implicitDefEqProofs [t_right_for_4, q1, pl, oEq_ii, q2, t_right_for_3, t_right_for_2, e2]
      rcases forR_fst (gt := gSet 6) (u := u_right_for_1 (m_right_for n)) (ρ := [some (.sh (.lst (ws.map wkD))), some (.sh (partD (s, r))), some (.sh (.tup [.str "parted", .int b, .lst (papDs ps)])), some (.sh (.int b)), some (.sh (.int s)), some (.sh (.int r)), none])
          (fun j => match ps[j]? with | some p => !rightB ws (s * b) (r + s * (j : Int)) p | none => false) (fun _ => .sh (.bl false)) ps.length (fun j hj => by
            have hp := List.getElem?_eq_getElem hj
            rw [step j hj _ hp]
            try dsimp only
            rw [hp]) with ⟨j, hj, h1, _, h2⟩ | ⟨h1, h2⟩
      · rw [fin _ h2]
        have hp := List.getElem?_eq_getElem hj
        try dsimp only at h1
        rw [hp] at h1
        dsimp only at h1
        have : rightsB ws s r b 0 ps = false := by
          cases hr : rightsB ws s r b 0 ps with
          | false => rfl
          | true =>
            have := (rightsB_iff ps 0).mp hr j _ hp
            rw [Nat.zero_add] at this
            rw [this] at h1
            cases h1
        rw [this]
        rfl
      · rw [fin _ h2]
        have : rightsB ws s r b 0 ps = true := (rightsB_iff ps 0).mpr fun j p hp => by
          have hj : j < ps.length := (List.getElem?_eq_some_iff.mp hp).1
          have := h1 j hj
          try dsimp only at this
          rw [hp] at this
          dsimp only at this
          rw [Nat.zero_add]
          cases hr : rightB ws (s * b) (r + s * (j : Int)) p with
          | true => rfl
          | false => rw [hr] at this; cases this
        rw [this]
        rfl
    · rw [if_pos (.inr q2)]
      generalize ws.map wkD = U at *
      generalize papDs ps = PS at *
      simp -implicitDefEqProofs [t_right_for_4, q1, pl, oEq_ii, q2]
end Mi.Sh

namespace K23
open PySem PySem.Spec L2 Mi
-- _law_size: 0:cell
noncomputable def b__law_size : Sv :=
  sSeq (sIf (tst (eBin oLt (eBin oMod (eLook 0) (eD (.int 4))) (eD (.int 3)))) (sRet (eBin oAdd (eD (.int 1)) (eBin oMod (eBin oDiv (eLook 0) (eD (.int 4))) (eD (.int 12))))) (sNx)) (sRet (eBin oAdd (eD (.int 1)) (eApp Sh.m__law_great (aVal (eBin oDiv (eLook 0) (eD (.int 4))) (aVal (eBin oPow (eD (.int 10)) (eD (.int 30))) (aNil))))))
noncomputable def m__law_size : List Sl → R Sl := hid (runB 1 b__law_size)
theorem m__law_size_eq : m__law_size = runB 1 b__law_size := hid_eq _
-- _law_plan: 0:cells 1:plan 2:k 3:period 4:length
noncomputable def t__law_plan_1 : Sv :=
  sSeq (sApp 1 (eTup (vCons (eVar 3) (vCons (eBin oMod (eBin oIx (eLook 0) (eBin oAdd (eLook 2) (eD (.int 1)))) (eLook 3)) (vCons (eVar 4) (vNil)))))) (sKill 2 (sKill 4 (sKill 3 (sNx))))
noncomputable def t__law_plan_2 : Sv :=
  sSeq (sAsg (eBin oIx (eLst (vCons (eVar 3) (vCons (eCall oMax (vCons (eD (.int 1)) (vCons (eBin oSub (eLook 3) (eD (.int 1))) vNil))) (vCons (eBin oAdd (eD (.int 1)) (eBin oMod (eBin oDiv (eBin oIx (eLook 0) (eBin oAdd (eLook 2) (eD (.int 2)))) (eD (.int 3))) (eLook 3))) (vNil))))) (eBin oMod (eBin oIx (eLook 0) (eBin oAdd (eLook 2) (eD (.int 2)))) (eD (.int 3)))) (gSet 4)) (t__law_plan_1)
noncomputable def u__law_plan_3 : Sv :=
  sSeq (sAsg (eApp m__law_size (aVal (eBin oIx (eLook 0) (eLook 2)) (aNil))) (gSet 3)) (t__law_plan_2)
noncomputable def t__law_plan_4 : Sv :=
  sSeq (sFor (iRng3D (eD (.int 0)) (eBin oSub (eCall oLen (vCons (eLook 0) vNil)) (eD (.int 2))) (eD (.int 3))) (gSet 2) (u__law_plan_3)) (sRetO 1)
noncomputable def b__law_plan : Sv :=
  sSeq (sSetF 1 (vNil)) (t__law_plan_4)
noncomputable def m__law_plan : List Sl → R Sl := hid (runB 5 b__law_plan)
theorem m__law_plan_eq : m__law_plan = runB 5 b__law_plan := hid_eq _
-- _law_paper: 0:number 1:deep 2:many 3:by 4:count 5:numbers 6:c 7:one
noncomputable def t__law_paper_1 (rec : List Sl → R Sl) : Sv :=
  sSeq (sSetF 5 (eLc (iRng1D (eVar 4)) (gSet 6) (tYesE) (eApp Sh.m__law_great (aVal (eBin oAdd (eBin oAdd (eBin oMul (eD (.int 3)) (eLook 0)) (eLook 6)) (eD (.int 1))) (aVal (eBin oPow (eD (.int 10)) (eD (.int 12))) (aNil)))) [6])) (sFrz 5 (sRet (eTup (vCons (eD (.str "parted")) (vCons (eVar 3) (vCons (eLst (eLc (iVar 5) (gSet 7) (tYesE) (eApp rec (aVal (eVar 7) (aVal (eBin oSub (eLook 1) (eD (.int 1))) (aVal (eVar 2) (aNil))))) [7])) (vNil)))))))
noncomputable def t__law_paper_2 (rec : List Sl → R Sl) : Sv :=
  sSeq (sIf (tst (eBin oEq (eBin oMod (eBin oDiv (eLook 0) (eD (.int 6))) (eD (.int 13))) (eD (.int 2)))) (sSeq (sAsg (eBin oIx (eLst (vCons (eD (.int 1)) (vCons (eD (.int 0)) (vCons (eUn oNeg (eD (.int 1))) (vCons (eBin oSub (eBin oPow (eD (.int 10)) (eD (.int 30))) (eBin oMod (eLook 0) (eBin oPow (eD (.int 10)) (eD (.int 9))))) (vNil)))))) (eBin oMod (eBin oDiv (eLook 0) (eD (.int 78))) (eD (.int 4)))) (gSet 3)) (sIf (tst (eBin oEq (eBin oMod (eBin oDiv (eLook 0) (eD (.int 312))) (eD (.int 2))) (eD (.int 1)))) (sAsg (eCall oMax (vCons (eD (.int 0)) (vCons (eCall oMin (vCons (eLook 3) (vCons (eD (.int 1)) vNil))) vNil))) (gSet 4)) (sNx))) (sNx)) ((t__law_paper_1 rec))
noncomputable def t__law_paper_3 (rec : List Sl → R Sl) : Sv :=
  sSeq (sIf (tst (eBin oEq (eBin oMod (eBin oDiv (eLook 0) (eD (.int 6))) (eD (.int 13))) (eD (.int 1)))) (sAsg (eBin oSub (eBin oAdd (eLook 3) (eD (.int 1))) (eBin oMul (eD (.int 2)) (eBin oMod (eBin oDiv (eLook 0) (eD (.int 78))) (eD (.int 2))))) (gSet 4)) (sNx)) ((t__law_paper_2 rec))
noncomputable def t__law_paper_4 (rec : List Sl → R Sl) : Sv :=
  sSeq (sAsg (eVar 3) (gSet 4)) ((t__law_paper_3 rec))
noncomputable def t__law_paper_5 (rec : List Sl → R Sl) : Sv :=
  sSeq (sAsg (eBin oAdd (eD (.int 2)) (eBin oMod (eBin oDiv (eLook 0) (eD (.int 3))) (eD (.int 2)))) (gSet 3)) ((t__law_paper_4 rec))
noncomputable def b__law_paper (rec : List Sl → R Sl) : Sv :=
  sSeq (sIf (tOrE (tst (eBin oEq (eLook 1) (eD (.int 0)))) (tst (eBin oEq (eBin oMod (eLook 0) (eD (.int 3))) (eD (.int 0))))) (sRet (eTup (vCons (eD (.str "in")) (vCons (eBin oSub (eBin oMod (eBin oDiv (eLook 0) (eD (.int 3))) (eBin oAdd (eLook 2) (eD (.int 2)))) (eD (.int 1))) (vNil))))) (sNx)) ((t__law_paper_5 rec))
noncomputable def m__law_paper : Nat → List Sl → R Sl
  | 0 => fun _ => .stuck
  | n + 1 => hid (runB 8 (b__law_paper (m__law_paper n)))
theorem m__law_paper_zero : m__law_paper 0 = fun _ => .stuck := by rw [m__law_paper]
theorem m__law_paper_succ (n : Nat) : m__law_paper (n + 1) = runB 8 (b__law_paper (m__law_paper n)) := by
  rw [m__law_paper]
  exact hid_eq _
-- _law_right: 0:plan 1:part 2:paper 3:step 4:rest 5:period 6:first 7:length 8:c
noncomputable def u__law_right_1 (rec : List Sl → R Sl) : Sv :=
  sSeq (sIf (tNotE (tst (eApp rec (aVal (eVar 0) (aVal (eTup (vCons (eBin oMul (eLook 3) (eBin oIx (eLook 2) (eD (.int 1)))) (vCons (eBin oAdd (eLook 4) (eBin oMul (eLook 3) (eLook 8))) (vNil)))) (aVal (eBin oIx (eBin oIx (eLook 2) (eD (.int 2))) (eLook 8)) (aNil))))))) (sRet (eD (.bl false))) (sNx)) (sKill 8 (sNx))
noncomputable def t__law_right_2 (rec : List Sl → R Sl) : Sv :=
  sSeq (sFor (iRng1D (eBin oIx (eLook 2) (eD (.int 1)))) (gSet 8) ((u__law_right_1 rec))) (sRet (eD (.bl true)))
noncomputable def t__law_right_3 (rec : List Sl → R Sl) : Sv :=
  sKill 6 (sKill 7 (sKill 5 (sSeq (sIf (tOrE (tst (eBin oLt (eBin oIx (eLook 2) (eD (.int 1))) (eD (.int 2)))) (tst (eBin oNe (eCall oLen (vCons (eBin oIx (eLook 2) (eD (.int 2))) vNil)) (eBin oIx (eLook 2) (eD (.int 1)))))) (sRet (eD (.bl false))) (sNx)) ((t__law_right_2 rec)))))
noncomputable def t__law_right_4 (rec : List Sl → R Sl) : Sv :=
  sSeq (sIf (tst (eBin oEq (eBin oIx (eLook 2) (eD (.int 0))) (eD (.str "in")))) (sSeq (sIf (tOrE (tst (eBin oLt (eBin oIx (eLook 2) (eD (.int 1))) (eD (.int 0)))) (tst (eBin oGe (eBin oIx (eLook 2) (eD (.int 1))) (eCall oLen (vCons (eLook 0) vNil))))) (sRet (eD (.bl false))) (sNx)) (sSeq (sAsg (eBin oIx (eLook 0) (eBin oIx (eLook 2) (eD (.int 1)))) (gTupD 3 (gsCons (gSet 5) (gsCons (gSet 6) (gsCons (gSet 7) (gsNil)))))) (sRet (eBin oGe (eBin oMod (eBin oSub (eBin oSub (eLook 4) (eLook 6)) (eLook 7)) (eApp Sh.m_divisor (aVal (eVar 3) (aVal (eVar 5) (aNil))))) (eBin oSub (eLook 5) (eLook 7)))))) (sNx)) ((t__law_right_3 rec))
noncomputable def b__law_right (rec : List Sl → R Sl) : Sv :=
  sSeq (sAsg (eVar 1) (gTupD 2 (gsCons (gSet 3) (gsCons (gSet 4) (gsNil))))) ((t__law_right_4 rec))
noncomputable def m__law_right : Nat → List Sl → R Sl
  | 0 => fun _ => .stuck
  | n + 1 => hid (runB 9 (b__law_right (m__law_right n)))
theorem m__law_right_zero : m__law_right 0 = fun _ => .stuck := by rw [m__law_right]
theorem m__law_right_succ (n : Nat) : m__law_right (n + 1) = runB 9 (b__law_right (m__law_right n)) := by
  rw [m__law_right]
  exact hid_eq _
-- law: 0:script 1:plan 2:step 3:part 4:handed 5:k 6:paper 7:found
noncomputable def t_law_1 : Sv :=
  sSeq (sIf (tOrE (tNotE (tst (eIsi isBoolD (eLook 7)))) (tst (eBin oNe (eLook 7) (eApp (m__law_right 12) (aVal (eVar 1) (aVal (eVar 3) (aVal (eVar 6) (aNil)))))))) (sRet (eD (.bl false))) (sNx)) (sKill 7 (sKill 5 (sKill 6 (sNx))))
noncomputable def t_law_2 : Sv :=
  sSeq (sAsg (eApp (Sh.m_right_for 12) (aVal (eVar 4) (aVal (eVar 3) (aVal (eVar 6) (aNil))))) (gSet 7)) (t_law_1)
noncomputable def u_law_3 : Sv :=
  sSeq (sAsg (eApp (m__law_paper 12) (aVal (eApp Sh.m__law_great (aVal (eBin oAdd (eApp Sh.m__law_cell_at (aVal (eVar 0) (aVal (eD (.int 2)) (aNil)))) (eBin oMul (eD (.int 131)) (eLook 5))) (aVal (eBin oPow (eD (.int 10)) (eD (.int 12))) (aNil)))) (aVal (eBin oMod (eLook 5) (eD (.int 4))) (aVal (eCall oLen (vCons (eLook 1) vNil)) (aNil))))) (gSet 6)) (t_law_2)
noncomputable def u_law_4 : Sv :=
  sSeq (sIf (tst (eBin oIsNot (eApp (Sh.m_right_for 12) (aVal (eVar 4) (aVal (eVar 3) (aVal (eVar 6) (aNil))))) (eD (.bl false)))) (sRet (eD (.bl false))) (sNx)) (sKill 6 (sNx))
noncomputable def t_law_5 : Sv :=
  sSeq (sFor (iSeq (eLst (vCons (eTup (vCons (eD (.str "parted")) (vCons (eD (.int 0)) (vCons (eLst (vNil)) (vNil))))) (vCons (eTup (vCons (eD (.str "parted")) (vCons (eD (.int 1)) (vCons (eLst (vCons (eTup (vCons (eD (.str "in")) (vCons (eD (.int 0)) (vNil)))) (vNil))) (vNil))))) (vCons (eTup (vCons (eD (.str "parted")) (vCons (eBin oSub (eD (.int 0)) (eLook 2)) (vCons (eLst (vNil)) (vNil))))) (vNil)))))) (gSet 6) (u_law_4)) (sRet (eBin oEq (eLook 4) (eLook 1)))
noncomputable def t_law_6 : Sv :=
  sFrz 4 (sSeq (sFor (iRng1D (eD (.int 8))) (gSet 5) (u_law_3)) (t_law_5))
noncomputable def t_law_7 : Sv :=
  sSeq (sSetF 4 (eList (eLook 1))) (t_law_6)
noncomputable def t_law_8 : Sv :=
  sSeq (sAsg (eTup (vCons (eVar 2) (vCons (eBin oMod (eApp Sh.m__law_cell_at (aVal (eVar 0) (aVal (eD (.int 1)) (aNil)))) (eLook 2)) (vNil)))) (gSet 3)) (t_law_7)
noncomputable def t_law_9 : Sv :=
  sFrz 1 (sSeq (sAsg (eApp m__law_size (aVal (eApp Sh.m__law_cell_at (aVal (eVar 0) (aVal (eD (.int 0)) (aNil)))) (aNil))) (gSet 2)) (t_law_8))
noncomputable def b_law : Sv :=
  sSeq (sSetF 1 (eAppF m__law_plan (aVal (eLst (eCut (eLook 0) (pSome (eD (.int 3))) (pSome (eD (.int 39))))) (aNil)))) (t_law_9)
noncomputable def m_law : List Sl → R Sl := hid (runB 8 b_law)
theorem m_law_eq : m_law = runB 8 b_law := hid_eq _
end K23

namespace K23
open PySem PySem.Spec L2 Mi Mi.Sh
theorem great_ok {c m : Int} (hc : Bd 1048580 c) (hm : 0 < m) : ∃ n : Int, 0 ≤ n ∧ n < m ∧ m__law_great [.sh (.int c), .sh (.int m)] = .ok (.sh (.int n)) := by
  haveI := hc
  have m1 : mulOk (c % 1000000000000000000000000000000000000000000000000000000000000) (c % 1000000000000000000000000000000000000000000000000000000000000 + 271828182845904523536028747135266249) = true := mulOk_i (by rfl)
  have m2 : mulOk 2 c = true := mulOk_i (by rfl)
  have m3 : mulOk (c % 1000000000000000000000000000000000000000000000000000000000000 * (c % 1000000000000000000000000000000000000000000000000000000000000 + 271828182845904523536028747135266249) + 141421356237309504880168872420969807) (c % 1000000000000000000000000000000000000000000000000000000000000 * (c % 1000000000000000000000000000000000000000000000000000000000000 + 271828182845904523536028747135266249) + 141421356237309504880168872420969807 + 2 * c % 1000000000000000000000000000000) = true := mulOk_i (by rfl)
  generalize hN : c % 1000000000000000000000000000000000000000000000000000000000000 * (c % 1000000000000000000000000000000000000000000000000000000000000 + 271828182845904523536028747135266249) + 141421356237309504880168872420969807 = N at *
  refine ⟨(N * (N + 2 * c % 1000000000000000000000000000000) + c / 3) % m, Int.emod_nonneg _ (by omega), Int.emod_lt_of_pos _ hm, ?_⟩
  rw [m__law_great_eq]
  refine runB_rt ?_
  simp [b__law_great, t__law_great_2, t__law_great_1, m1, hN, m2, m3, hm]
theorem size_ok {c : Int} (hc : Bd 1048576 c) : ∃ n : Int, 1 ≤ n ∧ n ≤ 10 ^ 30 ∧ m__law_size [.sh (.int c)] = .ok (.sh (.int n)) := by
  rw [m__law_size_eq]
  by_cases q : c % 4 < 3
  · exact ⟨1 + c / 4 % 12, by omega, by omega, runB_rt (by simp [b__law_size, q])⟩
  · haveI := hc
    obtain ⟨n, n0, n1, e⟩ := great_ok (c := c / 4) (m := 1000000000000000000000000000000) ((inferInstance : Bd 1048576 (c / 4)).up (by decide)) (by decide)
    exact ⟨1 + n, by omega, by omega, runB_rt (by simp [b__law_size, q, e])⟩
theorem rngC_get {lo c : Int} {n i : Nat} {d : D} (h : (rngC lo c n)[i]? = some d) : i < n ∧ d = .int (lo + i * c) := by
  unfold rngC at h
  rw [List.getElem?_map] at h
  by_cases hi : i < n
  · rw [List.getElem?_range hi] at h
    cases h
    exact ⟨hi, rfl⟩
  · rw [List.getElem?_eq_none (by rw [List.length_range]; omega)] at h
    cases h
theorem rngC_len {lo c : Int} {n : Nat} : (rngC lo c n).length = n := by unfold rngC; rw [List.length_map, List.length_range]
theorem plan_ok {cs : List Int} (hl : cs.length ≤ 36) (hb : ∀ z ∈ cs, Builtin.Int.intBits z ≤ 1048576) : ∃ ws : List Wk3, ws.length ≤ 40 ∧ (∀ w ∈ ws, Wak w) ∧ m__law_plan [.sh (.lst (cs.map D.int))] = .ok (.ow (ws.map wkD)) := by
  have hlen : (cs.map D.int).length = cs.length := List.length_map ..
  obtain ⟨ρ, e, ws, h1, h2, h3⟩ := forR_nat (gt := gSet 2) (u := u__law_plan_3) (fun i ρ => ∃ ws : List Wk3, ws.length = i ∧ (∀ w ∈ ws, Wak w) ∧ ρ = [some (.sh (.lst (cs.map D.int))), some (.ow (ws.map wkD)), none, none, none]) (rngC 0 3 (rngN 0 ((cs.length : Int) - 2) 3)) 0 [some (.sh (.lst (cs.map D.int))), some (.ow []), none, none, none]
    ⟨[], rfl, fun w h => absurd h List.not_mem_nil, rfl⟩ fun i d ρ hd ⟨ws, h1, h2, h3⟩ => by
      obtain ⟨hi, rfl⟩ := rngC_get hd
      subst h3
      rw [Nat.zero_add] at h1 ⊢
      unfold rngN at hi
      have hi2 : (0 : Int) + (i : Int) * 3 + 2 < cs.length := by omega
      generalize hk : (0 : Int) + (i : Int) * 3 = k at *
      obtain ⟨a, ma, ea⟩ := atI_at (f := D.int) (xs := cs) (i := k) (by omega) (by omega)
      obtain ⟨b, _, eb⟩ := atI_at (f := D.int) (xs := cs) (i := k + 1) (by omega) (by omega)
      obtain ⟨c, _, ec⟩ := atI_at (f := D.int) (xs := cs) (i := k + 2) (by omega) (by omega)
      obtain ⟨p, p1, p2, ep⟩ := size_ok (.cell (hb a ma))
      have p0 : 0 < p := by omega
      have hz : ws.length < szL := lt_szL (by omega)
      have r0 := Int.emod_nonneg (c / 3) (show p ≠ 0 by omega)
      have r1 := Int.emod_lt_of_pos (c / 3) p0
      have q : c % 3 = 0 ∨ c % 3 = 1 ∨ c % 3 = 2 := by omega
      obtain ⟨l, l1, l2, el⟩ : ∃ l : Int, 1 ≤ l ∧ l ≤ p ∧ t__law_plan_2 [some (.sh (.lst (cs.map D.int))), some (.ow (ws.map wkD)), some (.sh (.int k)), some (.sh (.int p)), none] = t__law_plan_1 [some (.sh (.lst (cs.map D.int))), some (.ow (ws.map wkD)), some (.sh (.int k)), some (.sh (.int p)), some (.sh (.int l))] := by
        rcases q with q | q | q
        · exact ⟨p, by omega, by omega, by simp -implicitDefEqProofs [t__law_plan_2, ec, q, p0]⟩
        · exact ⟨max 1 (p - 1), by omega, by omega, by simp -implicitDefEqProofs [t__law_plan_2, ec, q, p0]⟩
        · exact ⟨1 + c / 3 % p, by omega, by omega, by simp -implicitDefEqProofs [t__law_plan_2, ec, q, p0]⟩
      refine ⟨_, ?_, ws ++ [(p, b % p, l)], by rw [List.length_append, List.length_singleton, h1], fun w hw => ?_, rfl⟩
      · simp -implicitDefEqProofs [turnB, u__law_plan_3, ea, ep, el, t__law_plan_1, eb, hz, p0, wkD]
      · rcases List.mem_append.mp hw with hw | hw
        · exact h2 w hw
        · rw [List.mem_singleton.mp hw]
          exact ⟨p1, l1, l2⟩
  rw [h3] at e
  have hn : rngN 0 ((cs.length : Int) - 2) 3 ≤ 36 := by unfold rngN; omega
  have e2 := sFor_at (f := iRng3D (eD (.int 0)) (eBin oSub (eCall oLen (vCons (eLook 0) vNil)) (eD (.int 2))) (eD (.int 3))) (iRng3D_ok (i := 0) (j := (cs.length : Int) - 2) (k := 3) rfl (by simp) rfl (by decide) (by omega) (by decide)) e
  refine ⟨ws, by rw [h1, rngC_len]; omega, h2, ?_⟩
  rw [m__law_plan_eq]
  refine runB_rt ?_
  simp -implicitDefEqProofs [b__law_plan, t__law_plan_4, e2]
theorem count_ok {rec : List Sl → R Sl} {x deep many : Int} (hx : 0 ≤ x) : ∃ (b : Int) (count : Nat), count ≤ 4 ∧ t__law_paper_5 rec [some (.sh (.int x)), some (.sh (.int deep)), some (.sh (.int many)), none, none, none, none, none] = t__law_paper_1 rec [some (.sh (.int x)), some (.sh (.int deep)), some (.sh (.int many)), some (.sh (.int b)), some (.sh (.int (count : Int))), none, none, none] := by
  obtain ⟨b0, hb0⟩ : ∃ b : Int, b = 2 + x / 3 % 2 := ⟨_, rfl⟩
  have e5 : t__law_paper_5 rec [some (.sh (.int x)), some (.sh (.int deep)), some (.sh (.int many)), none, none, none, none, none] = t__law_paper_3 rec [some (.sh (.int x)), some (.sh (.int deep)), some (.sh (.int many)), some (.sh (.int b0)), some (.sh (.int b0)), none, none, none] := by
    simp -implicitDefEqProofs [t__law_paper_5, t__law_paper_4, hb0]
  obtain ⟨c0, c1, c2, e3⟩ : ∃ c0 : Int, 0 ≤ c0 ∧ c0 ≤ 4 ∧ t__law_paper_3 rec [some (.sh (.int x)), some (.sh (.int deep)), some (.sh (.int many)), some (.sh (.int b0)), some (.sh (.int b0)), none, none, none] = t__law_paper_2 rec [some (.sh (.int x)), some (.sh (.int deep)), some (.sh (.int many)), some (.sh (.int b0)), some (.sh (.int c0)), none, none, none] := by
    by_cases q : x / 6 % 13 = 1
    · have m2 : mulOk 2 (x / 78 % 2) = true := @mulOk_i 10 10 _ _ ⟨by decide⟩ ⟨by omega⟩ (by rfl)
      exact ⟨b0 + 1 - 2 * (x / 78 % 2), by omega, by omega, by simp -implicitDefEqProofs [t__law_paper_3, oEq_ii, q, m2]⟩
    · exact ⟨b0, by omega, by omega, by simp -implicitDefEqProofs [t__law_paper_3, oEq_ii, q]⟩
  rw [e5, e3]
  by_cases q : x / 6 % 13 = 2
  · have q4 : x / 78 % 4 = 0 ∨ x / 78 % 4 = 1 ∨ x / 78 % 4 = 2 ∨ x / 78 % 4 = 3 := by omega
    obtain ⟨b1, hb1⟩ : ∃ b1 : Int, t__law_paper_2 rec [some (.sh (.int x)), some (.sh (.int deep)), some (.sh (.int many)), some (.sh (.int b0)), some (.sh (.int c0)), none, none, none] = (if x / 312 % 2 = 1 then t__law_paper_1 rec [some (.sh (.int x)), some (.sh (.int deep)), some (.sh (.int many)), some (.sh (.int b1)), some (.sh (.int (max 0 (min b1 1)))), none, none, none] else t__law_paper_1 rec [some (.sh (.int x)), some (.sh (.int deep)), some (.sh (.int many)), some (.sh (.int b1)), some (.sh (.int c0)), none, none, none]) := by
      by_cases q3 : x / 312 % 2 = 1
      · rcases q4 with q4 | q4 | q4 | q4
        · exact ⟨1, by simp -implicitDefEqProofs [t__law_paper_2, oEq_ii, q, q4, q3]⟩
        · exact ⟨0, by simp -implicitDefEqProofs [t__law_paper_2, oEq_ii, q, q4, q3]⟩
        · exact ⟨-1, by simp -implicitDefEqProofs [t__law_paper_2, oEq_ii, q, q4, q3]⟩
        · exact ⟨1000000000000000000000000000000 - x % 1000000000, by simp -implicitDefEqProofs [t__law_paper_2, oEq_ii, q, q4, q3]⟩
      · rcases q4 with q4 | q4 | q4 | q4
        · exact ⟨1, by simp -implicitDefEqProofs [t__law_paper_2, oEq_ii, q, q4, q3]⟩
        · exact ⟨0, by simp -implicitDefEqProofs [t__law_paper_2, oEq_ii, q, q4, q3]⟩
        · exact ⟨-1, by simp -implicitDefEqProofs [t__law_paper_2, oEq_ii, q, q4, q3]⟩
        · exact ⟨1000000000000000000000000000000 - x % 1000000000, by simp -implicitDefEqProofs [t__law_paper_2, oEq_ii, q, q4, q3]⟩
    rw [hb1]
    by_cases q3 : x / 312 % 2 = 1
    · rw [if_pos q3]
      exact ⟨b1, (max 0 (min b1 1)).toNat, by omega, by rw [Int.toNat_of_nonneg (by omega)]⟩
    · rw [if_neg q3]
      exact ⟨b1, c0.toNat, by omega, by rw [Int.toNat_of_nonneg c1]⟩
  · refine ⟨b0, c0.toNat, by omega, ?_⟩
    rw [Int.toNat_of_nonneg c1]
    simp -implicitDefEqProofs [t__law_paper_2, oEq_ii, q]
theorem paper_ok : ∀ (d n : Nat) (x many : Int), d < n → (0 ≤ x ∧ x < 10 ^ 12) → 0 ≤ many → ∃ p, okP d p ∧ m__law_paper n [.sh (.int x), .sh (.int (d : Int)), .sh (.int many)] = .ok (.sh (papD p))
  | d, 0, x, many, h, _, _ => absurd h (Nat.not_lt_zero _)
  | d, n + 1, x, many, h, hx, hm => by
    rw [m__law_paper_succ]
    have mp : 0 < many + 2 := by omega
    by_cases q : (d : Int) = 0 ∨ x % 3 = 0
    · refine ⟨.leaf (x / 3 % (many + 2) - 1), by cases d <;> simp only [okP], runB_rt ?_⟩
      rw [papD]
      by_cases q0 : d = 0
      · simp -implicitDefEqProofs [b__law_paper, oEq_ii, q0, mp]
      · have q1 : x % 3 = 0 := by omega
        simp -implicitDefEqProofs [b__law_paper, oEq_ii, q0, q1, mp]
    · cases d with
      | zero => exact absurd (.inl rfl) q
      | succ d =>
        have q1 : ¬ x % 3 = 0 := fun z => q (.inr z)
        obtain ⟨b, count, hc, ec⟩ := count_ok (rec := m__law_paper n) (x := x) (deep := ((d + 1 : Nat) : Int)) (many := many) hx.1
        have r1 := lcR_ex (gt := gSet 6) (p := tYesE) (f := eApp Sh.m__law_great (aVal (eBin oAdd (eBin oAdd (eBin oMul (eD (.int 3)) (eLook 0)) (eLook 6)) (eD (.int 1))) (aVal (eBin oPow (eD (.int 10)) (eD (.int 12))) (aNil)))) (ρ := [some (.sh (.int x)), some (.sh (.int ((d + 1 : Nat) : Int))), some (.sh (.int many)), some (.sh (.int b)), some (.sh (.int (count : Int))), none, none, none]) (fun (j : Nat) => D.int (0 + (j : Int))) D.int (fun _ y => 0 ≤ y ∧ y < 10 ^ 12) (List.range count) fun j hj => by
          have hj' := List.mem_range.mp hj
          obtain ⟨y, y0, y1, ey⟩ := great_ok (c := 3 * x + (j : Int) + 1) (m := 1000000000000) ⟨Nat.lt_of_lt_of_le (show (3 * x + (j : Int) + 1).natAbs < 2 ^ 60 by omega) (Nat.pow_le_pow_right (by decide) (by decide))⟩ (by decide)
          have m3 : mulOk 3 x = true := @mulOk_i 10 60 _ _ ⟨by decide⟩ ⟨by omega⟩ (by rfl)
          exact ⟨y, ⟨y0, y1⟩, by simp -implicitDefEqProofs [m3, ey]⟩
        obtain ⟨ys, hy1, hy2, hy3⟩ := r1
        rw [List.length_range] at hy1
        have it := iRng1D_ok (f := eVar 4) (ρ := [some (.sh (.int x)), some (.sh (.int ((d + 1 : Nat) : Int))), some (.sh (.int many)), some (.sh (.int b)), some (.sh (.int (count : Int))), none, none, none]) (j := (count : Int)) rfl (by omega)
        rw [Int.toNat_natCast] at it
        have e1 := eLc_ok (vs := [6]) it (by rw [rngD_len]; omega) hy3
        have r2 := lcR_ex (gt := gSet 7) (p := tYesE) (f := eApp (m__law_paper n) (aVal (eVar 7) (aVal (eBin oSub (eLook 1) (eD (.int 1))) (aVal (eVar 2) (aNil))))) (ρ := [some (.sh (.int x)), some (.sh (.int ((d + 1 : Nat) : Int))), some (.sh (.int many)), some (.sh (.int b)), some (.sh (.int (count : Int))), some (.sh (.lst (ys.map D.int))), none, none]) D.int papD (fun _ p => okP d p) ys fun y hy => by
          obtain ⟨_, _, y0⟩ := hy2 y hy
          obtain ⟨p, p1, p2⟩ := paper_ok d n y many (by omega) y0 hm
          refine ⟨p, p1, ?_⟩
          have e : ((d + 1 : Nat) : Int) - 1 = d := by omega
          simp only [Int.natCast_add, Int.natCast_one] at e
          simp -implicitDefEqProofs [e, p2]
        obtain ⟨ps, hp1, hp2, hp3⟩ := r2
        have e2 := eLc_ok (fi := iVar 5) (ρ := [some (.sh (.int x)), some (.sh (.int ((d + 1 : Nat) : Int))), some (.sh (.int many)), some (.sh (.int b)), some (.sh (.int (count : Int))), some (.sh (.lst (ys.map D.int))), none, none]) (vs := [7]) (items := ys.map D.int) rfl (by rw [List.length_map]; omega) hp3
        refine ⟨.part b ps, ?_, runB_rt ?_⟩
        · simp only [okP]
          exact ⟨by omega, fun p hp => (hp2 p hp).elim fun _ z => z.2⟩
        rw [papD, papDs_map]
        generalize ps.map papD = PS at *
        generalize ys.map D.int = YS at *
        have dz : ¬ ((d : Int) + 1 = 0) := by omega
        have s1 : t__law_paper_1 (m__law_paper n) [some (.sh (.int x)), some (.sh (.int ((d + 1 : Nat) : Int))), some (.sh (.int many)), some (.sh (.int b)), some (.sh (.int (count : Int))), none, none, none] = .rt (.sh (.tup [.str "parted", .int b, .lst PS])) := by
          have e1' := e1
          have e2' := e2
          simp only [Int.natCast_add, Int.natCast_one] at e1' e2' ⊢
          simp -implicitDefEqProofs [t__law_paper_1, e1', e2']
        rw [s1] at ec
        simp only [Int.natCast_add, Int.natCast_one] at ec ⊢
        simp -implicitDefEqProofs [b__law_paper, oEq_ii, dz, q1, ec]
theorem law_right_ok {ws : List Wk3} (hw : ∀ w ∈ ws, Wak w) : ∀ (d n : Nat) (p : Pap) (s r : Int) (m : Nat), okP d p → d < n → 1 ≤ s → Bd m s → m + 4 * d ≤ 8000 →
    m__law_right n [.sh (.lst (ws.map wkD)), .sh (partD (s, r)), .sh (papD p)] = .ok (.sh (.bl (rightB ws s r p)))
  | d, 0, p, s, r, m, _, h, _, _, _ => absurd h (Nat.not_lt_zero _)
  | d, n + 1, .leaf k, s, r, m, ok, hd, hs, hb, hm => by
    rw [m__law_right_succ]
    refine runB_rt ?_
    have pl : (ws.map wkD).length = ws.length := List.length_map ..
    have pd : partD (s, r) = .tup [.int s, .int r] := rfl
    rw [rightB, papD, pd]
    by_cases q : 0 ≤ k ∧ k < ws.length
    · obtain ⟨w, h1, h2, h3⟩ := at_wk q.1 q.2
      have hp0 : 0 < w.1 := by have := (hw w h2).p1; omega
      have e := divisor_gOf (show 0 ≤ s by omega) hp0
      have g := gOf_pos (sp := s) hp0
      have le : leafB ws s r k = decide (w.1 - w.2.2 ≤ (r - w.2.1 - w.2.2) % gOf w.1 s) := by
        unfold leafB
        rw [h1]
        simp [q.1]
      rw [le]
      obtain ⟨q0, q1⟩ := q
      have q0' : ¬ k < 0 := by omega
      have q1' : ¬ (ws.length : Int) ≤ k := by omega
      have wk : wkD w = .tup [.int w.1, .int w.2.1, .int w.2.2] := rfl
      rw [wk] at h3
      generalize ws.map wkD = U at *
      simp -implicitDefEqProofs [b__law_right, t__law_right_4, oEq_s, q0', q1', pl, h3, e, g]
    · rw [leafB_no q]
      generalize ws.map wkD = U at *
      by_cases q0 : k < 0
      · simp -implicitDefEqProofs [b__law_right, t__law_right_4, oEq_s, q0]
      · have q1 : (ws.length : Int) ≤ k := by omega
        simp -implicitDefEqProofs [b__law_right, t__law_right_4, oEq_s, q0, q1, pl]
  | 0, n + 1, .part b ps, s, r, m, ok, hd, hs, hb, hm => by simp only [okP] at ok
  | d + 1, n + 1, .part b ps, s, r, m, ok, hd, hs, hb, hm => by
    simp only [okP] at ok
    obtain ⟨ok1, ok2⟩ := ok
    have pl : (papDs ps).length = ps.length := by rw [papDs_map, List.length_map]
    have pd : partD (s, r) = .tup [.int s, .int r] := rfl
    rw [m__law_right_succ]
    refine runB_rt ?_
    rw [rightB, papD]
    have e0 : b__law_right (m__law_right n) [some (.sh (.lst (ws.map wkD))), some (.sh (partD (s, r))), some (.sh (.tup [.str "parted", .int b, .lst (papDs ps)])), none, none, none, none, none, none] = t__law_right_3 (m__law_right n) [some (.sh (.lst (ws.map wkD))), some (.sh (partD (s, r))), some (.sh (.tup [.str "parted", .int b, .lst (papDs ps)])), some (.sh (.int s)), some (.sh (.int r)), none, none, none, none] := by
      rw [pd]
      generalize ws.map wkD = U at *
      generalize papDs ps = PS at *
      simp -implicitDefEqProofs [b__law_right, t__law_right_4, oEq_s, ne_in']
    show b__law_right (m__law_right n) [some (.sh (.lst (ws.map wkD))), some (.sh (partD (s, r))), some (.sh (.tup [.str "parted", .int b, .lst (papDs ps)])), none, none, none, none, none, none] = _
    rw [e0]
    by_cases q1 : b < 2
    · rw [if_pos (.inl q1)]
      generalize ws.map wkD = U at *
      simp -implicitDefEqProofs [t__law_right_3, q1]
    by_cases q2 : (ps.length : Int) = b
    · rw [if_neg (by simp [q1, q2])]
      have hbl : b ≤ 15 := by omega
      have hsb : 1 ≤ s * b := by
        have : s * 1 ≤ s * b := Int.mul_le_mul_of_nonneg_left (by omega) (by omega)
        omega
      have hbb : Bd 4 b := ⟨by omega⟩
      have hbsb : Bd (m + 4) (s * b) := @bd_mul _ _ _ _ hb hbb
      have m1 : mulOk s b = true := @mulOk_i _ _ _ _ hb hbb (by rw [Nat.blt_eq]; omega)
      have step : ∀ j, j < ps.length → ∀ p, ps[j]? = some p → turnB (gSet 8) (u__law_right_1 (m__law_right n)) (.int (j : Int)) [some (.sh (.lst (ws.map wkD))), some (.sh (partD (s, r))), some (.sh (.tup [.str "parted", .int b, .lst (papDs ps)])), some (.sh (.int s)), some (.sh (.int r)), none, none, none, none] =
          if (!rightB ws (s * b) (r + s * (j : Int)) p) = true then .rt (.sh (.bl false)) else .nx [some (.sh (.lst (ws.map wkD))), some (.sh (partD (s, r))), some (.sh (.tup [.str "parted", .int b, .lst (papDs ps)])), some (.sh (.int s)), some (.sh (.int r)), none, none, none, none] := fun j hj p hp => by
        have ih := law_right_ok hw d n p (s * b) (r + s * (j : Int)) (m + 4) (ok2 p (List.mem_of_getElem? hp)) (by omega) hsb hbsb (by omega)
        have a1 : atI (papDs ps) (j : Int) = some (papD p) := by
          rw [papDs_map, atI_nat (by omega) (by rw [List.length_map]; omega), Int.toNat_natCast, List.getElem?_map, hp]
          rfl
        have m2 : mulOk s (j : Int) = true := @mulOk_i m 4 _ _ hb ⟨by omega⟩ (by rw [Nat.blt_eq]; omega)
        have pd : partD (s * b, r + s * (j : Int)) = .tup [.int (s * b), .int (r + s * (j : Int))] := rfl
        rw [pd] at ih
        generalize ws.map wkD = U at *
        generalize papDs ps = PS at *
        generalize partD (s, r) = PD at *
        cases hr : rightB ws (s * b) (r + s * (j : Int)) p with
        | true =>
          rw [hr] at ih
          simp -implicitDefEqProofs [turnB, u__law_right_1, m1, m2, a1, ih]
        | false =>
          rw [hr] at ih
          simp -implicitDefEqProofs [turnB, u__law_right_1, m1, m2, a1, ih]
      have fin : ∀ fl : Fl, forR (gSet 8) (u__law_right_1 (m__law_right n)) (rngD 0 ps.length) [some (.sh (.lst (ws.map wkD))), some (.sh (partD (s, r))), some (.sh (.tup [.str "parted", .int b, .lst (papDs ps)])), some (.sh (.int s)), some (.sh (.int r)), none, none, none, none] = fl →
          t__law_right_3 (m__law_right n) [some (.sh (.lst (ws.map wkD))), some (.sh (partD (s, r))), some (.sh (.tup [.str "parted", .int b, .lst (papDs ps)])), some (.sh (.int s)), some (.sh (.int r)), none, none, none, none] = fl.thn (sRet (eD (.bl true))) := fun fl e => by
        have it := iRng1D_ok (f := eBin oIx (eLook 2) (eD (.int 1))) (ρ := [some (.sh (.lst (ws.map wkD))), some (.sh (partD (s, r))), some (.sh (.tup [.str "parted", .int b, .lst (papDs ps)])), some (.sh (.int s)), some (.sh (.int r)), none, none, none, none]) (j := b) (by simp) (by omega)
        rw [← q2, Int.toNat_natCast, q2] at it
        have e2 := sFor_at it e
        generalize ws.map wkD = U at *
        generalize hPS : papDs ps = PS at *
        simp -implicitDefEqProofs [t__law_right_3, q1, pl, oEq_ii, q2, t__law_right_2, e2]
      rcases forR_fst (gt := gSet 8) (u := u__law_right_1 (m__law_right n)) (ρ := [some (.sh (.lst (ws.map wkD))), some (.sh (partD (s, r))), some (.sh (.tup [.str "parted", .int b, .lst (papDs ps)])), some (.sh (.int s)), some (.sh (.int r)), none, none, none, none])
          (fun j => match ps[j]? with | some p => !rightB ws (s * b) (r + s * (j : Int)) p | none => false) (fun _ => .sh (.bl false)) ps.length (fun j hj => by
            have hp := List.getElem?_eq_getElem hj
            rw [step j hj _ hp]
            try dsimp only
            rw [hp]) with ⟨j, hj, h1, _, h2⟩ | ⟨h1, h2⟩
      · rw [fin _ h2]
        have hp := List.getElem?_eq_getElem hj
        try dsimp only at h1
        rw [hp] at h1
        try dsimp only at h1
        have : rightsB ws s r b 0 ps = false := by
          cases hr : rightsB ws s r b 0 ps with
          | false => rfl
          | true =>
            have := (rightsB_iff ps 0).mp hr j _ hp
            rw [Nat.zero_add] at this
            rw [this] at h1
            cases h1
        rw [this]
        rfl
      · rw [fin _ h2]
        have : rightsB ws s r b 0 ps = true := (rightsB_iff ps 0).mpr fun j p hp => by
          have hj : j < ps.length := (List.getElem?_eq_some_iff.mp hp).1
          have := h1 j hj
          try dsimp only at this
          rw [hp] at this
          try dsimp only at this
          rw [Nat.zero_add]
          cases hr : rightB ws (s * b) (r + s * (j : Int)) p with
          | true => rfl
          | false => rw [hr] at this; cases this
        rw [this]
        rfl
    · rw [if_pos (.inr q2)]
      generalize ws.map wkD = U at *
      generalize papDs ps = PS at *
      simp -implicitDefEqProofs [t__law_right_3, q1, pl, oEq_ii, q2]
theorem law_true : ∀ ns : List Int, ns.length ≤ 63 → (∀ z ∈ ns, Builtin.Int.intBits z ≤ 1048576) → m_law [.sh (.lst (ns.map D.int))] = .ok (.sh (.bl true)) := by
  intro ns hl hb
  have c0 : m__law_cell_at [.sh (.lst (ns.map D.int)), .sh (.int 0)] = .ok (.sh (.int (ns.getD 0 0))) := cell_at_ok (ns := ns) (k := 0) hl
  have c1 : m__law_cell_at [.sh (.lst (ns.map D.int)), .sh (.int 1)] = .ok (.sh (.int (ns.getD 1 0))) := cell_at_ok (ns := ns) (k := 1) hl
  have c2 : m__law_cell_at [.sh (.lst (ns.map D.int)), .sh (.int 2)] = .ok (.sh (.int (ns.getD 2 0))) := cell_at_ok (ns := ns) (k := 2) hl
  have bg : ∀ j, Bd 1048576 (ns.getD j 0) := fun j => by
    by_cases h : j < ns.length
    · rw [List.getD_eq_getElem?_getD, List.getElem?_eq_getElem h]
      exact .cell (hb _ (List.getElem_mem h))
    · rw [List.getD_eq_getElem?_getD, List.getElem?_eq_none (by omega)]
      exact Bd.zero _
  have b0 := bg 0
  have b2 := bg 2
  generalize ns.getD 0 0 = x0 at *
  generalize ns.getD 1 0 = x1 at *
  generalize ns.getD 2 0 = x2 at *
  have hc1 := @cutD_len _ ns (some 3) (some 39)
  have hc2 : (cutD ns (some 3) (some 39)).length ≤ 36 := @cutD_len2 _ ns 3 39
  obtain ⟨ws, wl, hw, e0⟩ := plan_ok (cs := cutD ns (some 3) (some 39)) hc2 (fun z hz => hb z (mem_cutD hz))
  have cm : cutD (ns.map D.int) (some 3) (some 39) = (cutD ns (some 3) (some 39)).map D.int := cutD_map ..
  rw [← cm] at e0
  obtain ⟨s, s1, s2, es⟩ := size_ok b0
  have s0 : 0 < s := by omega
  obtain ⟨L, hL⟩ : ∃ L : List D, L = ns.map D.int := ⟨_, rfl⟩
  rw [← hL] at c0 c1 c2 e0
  have hbs : Bd 110 s := ⟨by omega⟩
  have pl : (ws.map wkD).length = ws.length := List.length_map ..
  have q1 := oEq_wks (ws := ws)
  have key : forR (gSet 5) u_law_3 (rngD 0 8) [some (.sh (.lst L)), some (.sh (.lst (ws.map wkD))), some (.sh (.int s)), some (.sh (partD (s, x1 % s))), some (.sh (.lst (ws.map wkD))), none, none, none] = .nx [some (.sh (.lst L)), some (.sh (.lst (ws.map wkD))), some (.sh (.int s)), some (.sh (partD (s, x1 % s))), some (.sh (.lst (ws.map wkD))), none, none, none] := by
    rw [rngD_z]
    refine forR_keep (fun (j : Nat) => D.int (j : Int)) (List.range 8) fun j hj => ?_
    have hj' := List.mem_range.mp hj
    obtain ⟨y, y0, y1, ey⟩ := great_ok (c := x2 + 131 * (j : Int)) (m := 1000000000000) ((@bd_add 1048576 12 x2 (131 * (j : Int)) b2 ⟨by omega⟩).up (by decide)) (by decide)
    have m1 : mulOk 131 (j : Int) = true := @mulOk_i 10 10 _ _ ⟨by decide⟩ ⟨by omega⟩ (by rfl)
    obtain ⟨p, p1, ep⟩ := paper_ok (j % 4) 12 y (ws.length : Int) (by omega) ⟨y0, y1⟩ (by omega)
    rw [Int.natCast_emod] at ep
    have e1 := right_for_ok hw (j % 4) 12 p s (x1 % s) 110 p1 (by omega) s1 hbs (by omega)
    have e2 := law_right_ok hw (j % 4) 12 p s (x1 % s) 110 p1 (by omega) s1 hbs (by omega)
    generalize ws.map wkD = U at *
    generalize partD (s, x1 % s) = PD at *
    generalize papD p = PP at *
    generalize rightB ws s (x1 % s) p = R at *
    have e3 : oEq (.bl R) (.bl R) = .ok (.bl true) := by simp [oEq]
    have t1 : t_law_1 [some (.sh (.lst L)), some (.sh (.lst U)), some (.sh (.int s)), some (.sh PD), some (.sh (.lst U)), some (.sh (.int (j : Int))), some (.sh PP), some (.sh (.bl R))] = .nx [some (.sh (.lst L)), some (.sh (.lst U)), some (.sh (.int s)), some (.sh PD), some (.sh (.lst U)), none, none, none] := by
      simp -implicitDefEqProofs [t_law_1, e2, e3]
    have ep' := ep
    simp only [show ((4 : Nat) : Int) = 4 from rfl] at ep'
    simp -implicitDefEqProofs [turnB, u_law_3, c2, m1, ey, pl, ep', t_law_2, e1, t1]
  have it := iRng1D_ok (f := eD (.int 8)) (ρ := [some (.sh (.lst L)), some (.sh (.lst (ws.map wkD))), some (.sh (.int s)), some (.sh (partD (s, x1 % s))), some (.sh (.lst (ws.map wkD))), none, none, none]) (j := 8) rfl (by decide)
  have e4 := sFor_at it key
  -- papers that are none
  have no : ∀ (b : Int) (ps : List Pap), b < 2 → okP 1 (.part b ps) → turnB (gSet 6) u_law_4 (papD (.part b ps)) [some (.sh (.lst L)), some (.sh (.lst (ws.map wkD))), some (.sh (.int s)), some (.sh (partD (s, x1 % s))), some (.sh (.lst (ws.map wkD))), none, none, none] = .nx [some (.sh (.lst L)), some (.sh (.lst (ws.map wkD))), some (.sh (.int s)), some (.sh (partD (s, x1 % s))), some (.sh (.lst (ws.map wkD))), none, none, none] := fun b ps hb2 ok => by
    have e := right_for_ok hw 1 12 (.part b ps) s (x1 % s) 110 ok (by decide) s1 hbs (by decide)
    have f : rightB ws s (x1 % s) (.part b ps) = false := by rw [rightB, if_pos (.inl hb2)]
    rw [f] at e
    generalize ws.map wkD = U at *
    generalize partD (s, x1 % s) = PD at *
    generalize papD (.part b ps) = PP at *
    simp -implicitDefEqProofs [turnB, u_law_4, e]
  have e5 : forR (gSet 6) u_law_4 [papD (.part 0 []), papD (.part 1 [.leaf 0]), papD (.part (0 - s) [])] [some (.sh (.lst L)), some (.sh (.lst (ws.map wkD))), some (.sh (.int s)), some (.sh (partD (s, x1 % s))), some (.sh (.lst (ws.map wkD))), none, none, none] = .nx [some (.sh (.lst L)), some (.sh (.lst (ws.map wkD))), some (.sh (.int s)), some (.sh (partD (s, x1 % s))), some (.sh (.lst (ws.map wkD))), none, none, none] := by
    rw [forR_nx (no 0 [] (by decide) (by simp [okP])), forR_nx (no 1 [.leaf 0] (by decide) (by simp [okP])), forR_nx (no (0 - s) [] (by omega) (by simp [okP]))]
    rfl
  have i5 : iSeq (eLst (vCons (eTup (vCons (eD (.str "parted")) (vCons (eD (.int 0)) (vCons (eLst (vNil)) (vNil))))) (vCons (eTup (vCons (eD (.str "parted")) (vCons (eD (.int 1)) (vCons (eLst (vCons (eTup (vCons (eD (.str "in")) (vCons (eD (.int 0)) (vNil)))) (vNil))) (vNil))))) (vCons (eTup (vCons (eD (.str "parted")) (vCons (eBin oSub (eD (.int 0)) (eLook 2)) (vCons (eLst (vNil)) (vNil))))) (vNil))))) [some (.sh (.lst L)), some (.sh (.lst (ws.map wkD))), some (.sh (.int s)), some (.sh (partD (s, x1 % s))), some (.sh (.lst (ws.map wkD))), none, none, none] = .ok [papD (.part 0 []), papD (.part 1 [.leaf 0]), papD (.part (0 - s) [])] := by
    generalize ws.map wkD = U at *
    generalize partD (s, x1 % s) = PD at *
    simp -implicitDefEqProofs [papD, papDs]
  have e6 := sFor_at i5 e5
  rw [m_law_eq]
  refine runB_rt ?_
  show b_law [some (.sh (.lst (ns.map D.int))), none, none, none, none, none, none, none] = _
  rw [← hL]
  have pd : ([.int s, .int (x1 % s)] : List D) = [.int s, .int (x1 % s)] := rfl
  have e7 : t_law_7 [some (.sh (.lst L)), some (.sh (.lst (ws.map wkD))), some (.sh (.int s)), some (.sh (partD (s, x1 % s))), none, none, none, none] = .rt (.sh (.bl true)) := by
    generalize ws.map wkD = U at *
    generalize partD (s, x1 % s) = PD at *
    simp -implicitDefEqProofs [t_law_7, t_law_6, e4, t_law_5, e6, q1]
  have pd : partD (s, x1 % s) = .tup [.int s, .int (x1 % s)] := rfl
  rw [pd] at e7
  generalize ws.map wkD = U at *
  simp -implicitDefEqProofs [b_law, e0, t_law_9, c0, es, t_law_8, c1, s0, e7]
end K23

namespace K23
open PySem PySem.Spec L2 Mi
def topS (i : Nat) : Stmt := PySem.Challenge.pw_shiftmeet_k23_papers_right_for_a_part.main.body.getD i (.Pass ⟨0, 0, 0, 0⟩)
abbrev s_divisor : Stmt := topS 1
abbrev N_divisor : List Str := ["one", "other"]
abbrev s_lies_in : Stmt := topS 3
abbrev N_lies_in : List Str := ["waking", "part", "period", "first", "length", "step", "rest"]
abbrev s_right_for : Stmt := topS 4
abbrev N_right_for : List Str := ["plan", "part", "paper", "by", "step", "rest", "c"]
abbrev s__law_cell : Stmt := topS 6
abbrev N__law_cell : List Str := ["script", "k"]
abbrev s__law_great : Stmt := topS 7
abbrev N__law_great : List Str := ["cell", "many", "number"]
abbrev s__law_size : Stmt := topS 8
abbrev N__law_size : List Str := ["cell"]
abbrev s__law_plan : Stmt := topS 9
abbrev N__law_plan : List Str := ["cells", "plan", "k", "period", "length"]
abbrev s__law_paper : Stmt := topS 10
abbrev N__law_paper : List Str := ["number", "deep", "many", "by", "count", "numbers", "c", "one"]
abbrev s__law_by : Stmt := topS 11
abbrev N__law_by : List Str := ["one", "other"]
abbrev s__law_right : Stmt := topS 12
abbrev N__law_right : List Str := ["plan", "part", "paper", "step", "rest", "period", "first", "length", "c"]
abbrev s_law : Stmt := topS 13
abbrev N_law : List Str := ["script", "plan", "step", "part", "handed", "k", "paper", "found"]
theorem sc_divisor : FnScope N_divisor ["one", "other"] (defScope s_divisor) := ⟨rfl, rfl, rfl, by decide +kernel, rfl, by decide +kernel, by decide +kernel⟩
theorem sc_lies_in : FnScope N_lies_in ["waking", "part"] (defScope s_lies_in) := ⟨rfl, rfl, rfl, by decide +kernel, rfl, by decide +kernel, by decide +kernel⟩
theorem sc_right_for : FnScope N_right_for ["plan", "part", "paper"] (defScope s_right_for) := ⟨rfl, rfl, rfl, by decide +kernel, rfl, by decide +kernel, by decide +kernel⟩
theorem sc__law_cell : FnScope N__law_cell ["script", "k"] (defScope s__law_cell) := ⟨rfl, rfl, rfl, by decide +kernel, rfl, by decide +kernel, by decide +kernel⟩
theorem sc__law_great : FnScope N__law_great ["cell", "many"] (defScope s__law_great) := ⟨rfl, rfl, rfl, by decide +kernel, rfl, by decide +kernel, by decide +kernel⟩
theorem sc__law_size : FnScope N__law_size ["cell"] (defScope s__law_size) := ⟨rfl, rfl, rfl, by decide +kernel, rfl, by decide +kernel, by decide +kernel⟩
theorem sc__law_plan : FnScope N__law_plan ["cells"] (defScope s__law_plan) := ⟨rfl, rfl, rfl, by decide +kernel, rfl, by decide +kernel, by decide +kernel⟩
theorem sc__law_paper : FnScope N__law_paper ["number", "deep", "many"] (defScope s__law_paper) := ⟨rfl, rfl, rfl, by decide +kernel, rfl, by decide +kernel, by decide +kernel⟩
theorem sc__law_by : FnScope N__law_by ["one", "other"] (defScope s__law_by) := ⟨rfl, rfl, rfl, by decide +kernel, rfl, by decide +kernel, by decide +kernel⟩
theorem sc__law_right : FnScope N__law_right ["plan", "part", "paper"] (defScope s__law_right) := ⟨rfl, rfl, rfl, by decide +kernel, rfl, by decide +kernel, by decide +kernel⟩
theorem sc_law : FnScope N_law ["script"] (defScope s_law) := ⟨rfl, rfl, rfl, by decide +kernel, rfl, by decide +kernel, by decide +kernel⟩
section
variable {P : Program} {w : World} {K : PySem.W.Frag} {mg : Str → Option Value} {base : Heap}
theorem d_divisor  (W : WX) : SSs (cfOf P w K mg base N_divisor (defScope s_divisor) 0) W (defBody s_divisor) Sh.b_divisor :=
  sss_cons (ss_while (st_gt (sb_look (i := 1) rfl (vis_of (sc := defScope s_divisor) (by decide +kernel))) (sb_of (se_int))) (sss_one (ss_par (i := 0) (j := 1) rfl rfl (by decide) (loc_of (sc := defScope s_divisor) (by decide +kernel)) (loc_of (sc := defScope s_divisor) (by decide +kernel)) (se_var (i := 1) rfl (vis_of (sc := defScope s_divisor) (by decide +kernel))) (se_mod (sb_look (i := 0) rfl (vis_of (sc := defScope s_divisor) (by decide +kernel))) (sb_look (i := 1) rfl (vis_of (sc := defScope s_divisor) (by decide +kernel)))) (sw2 rfl (loc_of (sc := defScope s_divisor) (by decide +kernel)) (loc_of (sc := defScope s_divisor) (by decide +kernel)) rfl (by decide +kernel) rfl rfl rfl)))) (sss_one (ss_ret (se_var (i := 0) rfl (vis_of (sc := defScope s_divisor) (by decide +kernel)))))
theorem d_lies_in (h_divisor : Fn P w K mg base 1 "divisor" 2 Sh.m_divisor) (W : WX) : SSs (cfOf P w K mg base N_lies_in (defScope s_lies_in) 1) W (defBody s_lies_in) Sh.b_lies_in :=
  sss_cons (ss_unp (se_var (i := 0) rfl (vis_of (sc := defScope s_lies_in) (by decide +kernel))) (sg_tup (sgs_cons (sg_name (i := 2) rfl (.inl (loc_of (sc := defScope s_lies_in) (by decide +kernel)))) (sgs_cons (sg_name (i := 3) rfl (.inl (loc_of (sc := defScope s_lies_in) (by decide +kernel)))) (sgs_cons (sg_name (i := 4) rfl (.inl (loc_of (sc := defScope s_lies_in) (by decide +kernel)))) (sgs_nil)))))) (sss_cons (ss_unp (se_var (i := 1) rfl (vis_of (sc := defScope s_lies_in) (by decide +kernel))) (sg_tup (sgs_cons (sg_name (i := 5) rfl (.inl (loc_of (sc := defScope s_lies_in) (by decide +kernel)))) (sgs_cons (sg_name (i := 6) rfl (.inl (loc_of (sc := defScope s_lies_in) (by decide +kernel)))) (sgs_nil))))) (sss_one (ss_ret (se_ge (sb_of (se_mod (sb_of (se_sub (sb_of (se_sub (sb_look (i := 6) rfl (vis_of (sc := defScope s_lies_in) (by decide +kernel))) (sb_look (i := 3) rfl (vis_of (sc := defScope s_lies_in) (by decide +kernel))))) (sb_look (i := 4) rfl (vis_of (sc := defScope s_lies_in) (by decide +kernel))))) (sb_of (se_call (h_divisor.mono (j := 1) (k := 1) (by decide)) (glob_of (sc := defScope s_lies_in) (by decide +kernel)) (sa_val (se_var (i := 5) rfl (vis_of (sc := defScope s_lies_in) (by decide +kernel))) (sa_val (se_var (i := 2) rfl (vis_of (sc := defScope s_lies_in) (by decide +kernel))) (sa_nil))))))) (sb_of (se_sub (sb_look (i := 2) rfl (vis_of (sc := defScope s_lies_in) (by decide +kernel))) (sb_look (i := 4) rfl (vis_of (sc := defScope s_lies_in) (by decide +kernel)))))))))
theorem d_right_for (k : Nat) (rec : List Sl → R Sl) (hk : 2 ≤ k) (h_lies_in : Fn P w K mg base 2 "lies_in" 2 Sh.m_lies_in) (n_len : mg "len" = none) (n_range : mg "range" = none) (h_rec : Fn P w K mg base k "right_for" 3 rec) (W : WX) : SSs (cfOf P w K mg base N_right_for (defScope s_right_for) k) W (defBody s_right_for) (Sh.b_right_for rec) :=
  sss_cons (ss_if (st_eq (sb_of (se_ix (sb_look (i := 2) rfl (vis_of (sc := defScope s_right_for) (by decide +kernel))) (sb_of (se_int)) (fun _ _ => rfl))) (sb_of (se_str))) (sss_one (ss_ret (se_and (se_chain (fun _ => op_le) (fun _ => op_lt) rfl (sb_of (se_int)) (sb_of (se_ix (sb_look (i := 2) rfl (vis_of (sc := defScope s_right_for) (by decide +kernel))) (sb_of (se_int)) (fun _ _ => rfl))) (sb_of (se_len rfl (glob_of (sc := defScope s_right_for) (by decide +kernel)) n_len (sb_look (i := 0) rfl (vis_of (sc := defScope s_right_for) (by decide +kernel)))))) (se_one (se_call (h_lies_in.mono (j := 2) (k := k) (Nat.le_trans (by decide) hk)) (glob_of (sc := defScope s_right_for) (by decide +kernel)) (sa_val (se_ix (sb_look (i := 0) rfl (vis_of (sc := defScope s_right_for) (by decide +kernel))) (sb_of (se_ix (sb_look (i := 2) rfl (vis_of (sc := defScope s_right_for) (by decide +kernel))) (sb_of (se_int)) (fun _ _ => rfl))) (fun _ _ => rfl)) (sa_val (se_var (i := 1) rfl (vis_of (sc := defScope s_right_for) (by decide +kernel))) (sa_nil)))))))) (sss_nil)) (sss_cons (ss_set (i := 3) rfl (.inl (loc_of (sc := defScope s_right_for) (by decide +kernel))) (se_ix (sb_look (i := 2) rfl (vis_of (sc := defScope s_right_for) (by decide +kernel))) (sb_of (se_int)) (fun _ _ => rfl))) (sss_cons (ss_if (st_w (sw_or (st_lt (sb_look (i := 3) rfl (vis_of (sc := defScope s_right_for) (by decide +kernel))) (sb_of (se_int))) (sw_or1 (st_ne (sb_of (se_len rfl (glob_of (sc := defScope s_right_for) (by decide +kernel)) n_len (sb_of (se_ix (sb_look (i := 2) rfl (vis_of (sc := defScope s_right_for) (by decide +kernel))) (sb_of (se_int)) (fun _ _ => rfl))))) (sb_look (i := 3) rfl (vis_of (sc := defScope s_right_for) (by decide +kernel))))))) (sss_one (ss_ret (se_bl))) (sss_nil)) (sss_cons (ss_unp (se_var (i := 1) rfl (vis_of (sc := defScope s_right_for) (by decide +kernel))) (sg_tup (sgs_cons (sg_name (i := 4) rfl (.inl (loc_of (sc := defScope s_right_for) (by decide +kernel)))) (sgs_cons (sg_name (i := 5) rfl (.inl (loc_of (sc := defScope s_right_for) (by decide +kernel)))) (sgs_nil))))) (sss_cons (ss_for (si_range1 rfl (glob_of (sc := defScope s_right_for) (by decide +kernel)) n_range (se_var (i := 3) rfl (vis_of (sc := defScope s_right_for) (by decide +kernel)))) (sg_name (i := 6) rfl (.inl (loc_of (sc := defScope s_right_for) (by decide +kernel)))) (sss_cons (ss_if (st_not (st_val (fun _ _ => rfl) (se_call h_rec (glob_of (sc := defScope s_right_for) (by decide +kernel)) (sa_val (se_var (i := 0) rfl (vis_of (sc := defScope s_right_for) (by decide +kernel))) (sa_val (se_tup (sv_cons (se_mul (sb_look (i := 4) rfl (vis_of (sc := defScope s_right_for) (by decide +kernel))) (sb_look (i := 3) rfl (vis_of (sc := defScope s_right_for) (by decide +kernel)))) (sv_cons (se_add (sb_look (i := 5) rfl (vis_of (sc := defScope s_right_for) (by decide +kernel))) (sb_of (se_mul (sb_look (i := 4) rfl (vis_of (sc := defScope s_right_for) (by decide +kernel))) (sb_look (i := 6) rfl (vis_of (sc := defScope s_right_for) (by decide +kernel)))))) (sv_nil))) (by decide)) (sa_val (se_ix (sb_of (se_ix (sb_look (i := 2) rfl (vis_of (sc := defScope s_right_for) (by decide +kernel))) (sb_of (se_int)) (fun _ _ => rfl))) (sb_look (i := 6) rfl (vis_of (sc := defScope s_right_for) (by decide +kernel))) (fun _ _ => rfl)) (sa_nil))))))) (sss_one (ss_ret (se_bl))) (sss_nil)) (sss_kill 6 (sss_nil)))) (sss_one (ss_ret (se_bl)))))))
theorem d__law_cell (n_len : mg "len" = none) (W : WX) : SSs (cfOf P w K mg base N__law_cell (defScope s__law_cell) 0) W (defBody s__law_cell) Sh.b__law_cell_at :=
  sss_cons (ss_if (st_lt (sb_look (i := 1) rfl (vis_of (sc := defScope s__law_cell) (by decide +kernel))) (sb_of (se_len rfl (glob_of (sc := defScope s__law_cell) (by decide +kernel)) n_len (sb_look (i := 0) rfl (vis_of (sc := defScope s__law_cell) (by decide +kernel)))))) (sss_one (ss_ret (se_ix (sb_look (i := 0) rfl (vis_of (sc := defScope s__law_cell) (by decide +kernel))) (sb_look (i := 1) rfl (vis_of (sc := defScope s__law_cell) (by decide +kernel))) (fun _ _ => rfl)))) (sss_nil)) (sss_one (ss_ret (se_int)))
theorem d__law_great  (W : WX) : SSs (cfOf P w K mg base N__law_great (defScope s__law_great) 0) W (defBody s__law_great) Sh.b__law_great :=
  sss_cons (ss_set (i := 2) rfl (.inl (loc_of (sc := defScope s__law_great) (by decide +kernel))) (se_mod (sb_look (i := 0) rfl (vis_of (sc := defScope s__law_great) (by decide +kernel))) (sb_of (se_pow (sb_of (se_int)) (sb_of (se_int)))))) (sss_cons (ss_set (i := 2) rfl (.inl (loc_of (sc := defScope s__law_great) (by decide +kernel))) (se_mul (sb_look (i := 2) rfl (vis_of (sc := defScope s__law_great) (by decide +kernel))) (sb_of (se_add (sb_look (i := 2) rfl (vis_of (sc := defScope s__law_great) (by decide +kernel))) (sb_of (se_int)))))) (sss_cons (ss_set (i := 2) rfl (.inl (loc_of (sc := defScope s__law_great) (by decide +kernel))) (se_add (sb_look (i := 2) rfl (vis_of (sc := defScope s__law_great) (by decide +kernel))) (sb_of (se_int)))) (sss_one (ss_ret (se_mod (sb_of (se_add (sb_of (se_mul (sb_look (i := 2) rfl (vis_of (sc := defScope s__law_great) (by decide +kernel))) (sb_of (se_add (sb_look (i := 2) rfl (vis_of (sc := defScope s__law_great) (by decide +kernel))) (sb_of (se_mod (sb_of (se_mul (sb_of (se_int)) (sb_look (i := 0) rfl (vis_of (sc := defScope s__law_great) (by decide +kernel))))) (sb_of (se_pow (sb_of (se_int)) (sb_of (se_int)))))))))) (sb_of (se_div (sb_look (i := 0) rfl (vis_of (sc := defScope s__law_great) (by decide +kernel))) (sb_of (se_int)))))) (sb_look (i := 1) rfl (vis_of (sc := defScope s__law_great) (by decide +kernel))))))))
theorem d__law_size (h__law_great : Fn P w K mg base 1 "_law_great" 2 Sh.m__law_great) (W : WX) : SSs (cfOf P w K mg base N__law_size (defScope s__law_size) 1) W (defBody s__law_size) b__law_size :=
  sss_cons (ss_if (st_lt (sb_of (se_mod (sb_look (i := 0) rfl (vis_of (sc := defScope s__law_size) (by decide +kernel))) (sb_of (se_int)))) (sb_of (se_int))) (sss_one (ss_ret (se_add (sb_of (se_int)) (sb_of (se_mod (sb_of (se_div (sb_look (i := 0) rfl (vis_of (sc := defScope s__law_size) (by decide +kernel))) (sb_of (se_int)))) (sb_of (se_int))))))) (sss_nil)) (sss_one (ss_ret (se_add (sb_of (se_int)) (sb_of (se_call (h__law_great.mono (j := 1) (k := 1) (by decide)) (glob_of (sc := defScope s__law_size) (by decide +kernel)) (sa_val (se_div (sb_look (i := 0) rfl (vis_of (sc := defScope s__law_size) (by decide +kernel))) (sb_of (se_int))) (sa_val (se_pow (sb_of (se_int)) (sb_of (se_int))) (sa_nil))))))))
theorem d__law_plan (h__law_size : Fn P w K mg base 2 "_law_size" 1 m__law_size) (n_len : mg "len" = none) (n_max : mg "max" = none) (n_range : mg "range" = none) (W : WX) : SSs (cfOf P w K mg base N__law_plan (defScope s__law_plan) 2) W (defBody s__law_plan) b__law_plan :=
  sss_cons (ss_setF (i := 1) rfl (.inl (loc_of (sc := defScope s__law_plan) (by decide +kernel))) (sf_disp (sv_nil) (by decide))) (sss_cons (ss_for (si_range3 rfl (glob_of (sc := defScope s__law_plan) (by decide +kernel)) n_range (se_int) (se_sub (sb_of (se_len rfl (glob_of (sc := defScope s__law_plan) (by decide +kernel)) n_len (sb_look (i := 0) rfl (vis_of (sc := defScope s__law_plan) (by decide +kernel))))) (sb_of (se_int))) (se_int)) (sg_name (i := 2) rfl (.inl (loc_of (sc := defScope s__law_plan) (by decide +kernel)))) (sss_cons (ss_set (i := 3) rfl (.inl (loc_of (sc := defScope s__law_plan) (by decide +kernel))) (se_call (h__law_size.mono (j := 2) (k := 2) (by decide)) (glob_of (sc := defScope s__law_plan) (by decide +kernel)) (sa_val (se_ix (sb_look (i := 0) rfl (vis_of (sc := defScope s__law_plan) (by decide +kernel))) (sb_look (i := 2) rfl (vis_of (sc := defScope s__law_plan) (by decide +kernel))) (fun _ _ => rfl)) (sa_nil)))) (sss_cons (ss_set (i := 4) rfl (.inl (loc_of (sc := defScope s__law_plan) (by decide +kernel))) (se_ix (sb_lst (sf_disp (sv_cons (se_var (i := 3) rfl (vis_of (sc := defScope s__law_plan) (by decide +kernel))) (sv_cons (se_max rfl (glob_of (sc := defScope s__law_plan) (by decide +kernel)) n_max (sb_of (se_int)) (sb_of (se_sub (sb_look (i := 3) rfl (vis_of (sc := defScope s__law_plan) (by decide +kernel))) (sb_of (se_int))))) (sv_cons (se_add (sb_of (se_int)) (sb_of (se_mod (sb_of (se_div (sb_of (se_ix (sb_look (i := 0) rfl (vis_of (sc := defScope s__law_plan) (by decide +kernel))) (sb_of (se_add (sb_look (i := 2) rfl (vis_of (sc := defScope s__law_plan) (by decide +kernel))) (sb_of (se_int)))) (fun _ _ => rfl))) (sb_of (se_int)))) (sb_look (i := 3) rfl (vis_of (sc := defScope s__law_plan) (by decide +kernel)))))) (sv_nil)))) (by decide))) (sb_of (se_mod (sb_of (se_ix (sb_look (i := 0) rfl (vis_of (sc := defScope s__law_plan) (by decide +kernel))) (sb_of (se_add (sb_look (i := 2) rfl (vis_of (sc := defScope s__law_plan) (by decide +kernel))) (sb_of (se_int)))) (fun _ _ => rfl))) (sb_of (se_int)))) (fun _ _ => rfl))) (sss_cons (ss_app (i := 1) rfl (vis_of (sc := defScope s__law_plan) (by decide +kernel)) (se_tup (sv_cons (se_var (i := 3) rfl (vis_of (sc := defScope s__law_plan) (by decide +kernel))) (sv_cons (se_mod (sb_of (se_ix (sb_look (i := 0) rfl (vis_of (sc := defScope s__law_plan) (by decide +kernel))) (sb_of (se_add (sb_look (i := 2) rfl (vis_of (sc := defScope s__law_plan) (by decide +kernel))) (sb_of (se_int)))) (fun _ _ => rfl))) (sb_look (i := 3) rfl (vis_of (sc := defScope s__law_plan) (by decide +kernel)))) (sv_cons (se_var (i := 4) rfl (vis_of (sc := defScope s__law_plan) (by decide +kernel))) (sv_nil)))) (by decide))) (sss_kill 2 (sss_kill 4 (sss_kill 3 (sss_nil)))))))) (sss_one (ss_retO (i := 1) rfl (vis_of (sc := defScope s__law_plan) (by decide +kernel)))))
theorem d__law_paper (k : Nat) (rec : List Sl → R Sl) (hk : 1 ≤ k) (h__law_great : Fn P w K mg base 1 "_law_great" 2 Sh.m__law_great) (n_max : mg "max" = none) (n_min : mg "min" = none) (n_range : mg "range" = none) (h_rec : Fn P w K mg base k "_law_paper" 3 rec) (W : WX) : SSs (cfOf P w K mg base N__law_paper (defScope s__law_paper) k) W (defBody s__law_paper) (b__law_paper rec) :=
  sss_cons (ss_if (st_w (sw_or (st_eq (sb_look (i := 1) rfl (vis_of (sc := defScope s__law_paper) (by decide +kernel))) (sb_of (se_int))) (sw_or1 (st_eq (sb_of (se_mod (sb_look (i := 0) rfl (vis_of (sc := defScope s__law_paper) (by decide +kernel))) (sb_of (se_int)))) (sb_of (se_int)))))) (sss_one (ss_ret (se_tup (sv_cons (se_str) (sv_cons (se_sub (sb_of (se_mod (sb_of (se_div (sb_look (i := 0) rfl (vis_of (sc := defScope s__law_paper) (by decide +kernel))) (sb_of (se_int)))) (sb_of (se_add (sb_look (i := 2) rfl (vis_of (sc := defScope s__law_paper) (by decide +kernel))) (sb_of (se_int)))))) (sb_of (se_int))) (sv_nil))) (by decide)))) (sss_nil)) (sss_cons (ss_set (i := 3) rfl (.inl (loc_of (sc := defScope s__law_paper) (by decide +kernel))) (se_add (sb_of (se_int)) (sb_of (se_mod (sb_of (se_div (sb_look (i := 0) rfl (vis_of (sc := defScope s__law_paper) (by decide +kernel))) (sb_of (se_int)))) (sb_of (se_int)))))) (sss_cons (ss_set (i := 4) rfl (.inl (loc_of (sc := defScope s__law_paper) (by decide +kernel))) (se_var (i := 3) rfl (vis_of (sc := defScope s__law_paper) (by decide +kernel)))) (sss_cons (ss_if (st_eq (sb_of (se_mod (sb_of (se_div (sb_look (i := 0) rfl (vis_of (sc := defScope s__law_paper) (by decide +kernel))) (sb_of (se_int)))) (sb_of (se_int)))) (sb_of (se_int))) (sss_one (ss_set (i := 4) rfl (.inl (loc_of (sc := defScope s__law_paper) (by decide +kernel))) (se_sub (sb_of (se_add (sb_look (i := 3) rfl (vis_of (sc := defScope s__law_paper) (by decide +kernel))) (sb_of (se_int)))) (sb_of (se_mul (sb_of (se_int)) (sb_of (se_mod (sb_of (se_div (sb_look (i := 0) rfl (vis_of (sc := defScope s__law_paper) (by decide +kernel))) (sb_of (se_int)))) (sb_of (se_int))))))))) (sss_nil)) (sss_cons (ss_if (st_eq (sb_of (se_mod (sb_of (se_div (sb_look (i := 0) rfl (vis_of (sc := defScope s__law_paper) (by decide +kernel))) (sb_of (se_int)))) (sb_of (se_int)))) (sb_of (se_int))) (sss_cons (ss_set (i := 3) rfl (.inl (loc_of (sc := defScope s__law_paper) (by decide +kernel))) (se_ix (sb_lst (sf_disp (sv_cons (se_int) (sv_cons (se_int) (sv_cons (se_neg (sb_of (se_int))) (sv_cons (se_sub (sb_of (se_pow (sb_of (se_int)) (sb_of (se_int)))) (sb_of (se_mod (sb_look (i := 0) rfl (vis_of (sc := defScope s__law_paper) (by decide +kernel))) (sb_of (se_pow (sb_of (se_int)) (sb_of (se_int))))))) (sv_nil))))) (by decide))) (sb_of (se_mod (sb_of (se_div (sb_look (i := 0) rfl (vis_of (sc := defScope s__law_paper) (by decide +kernel))) (sb_of (se_int)))) (sb_of (se_int)))) (fun _ _ => rfl))) (sss_one (ss_if (st_eq (sb_of (se_mod (sb_of (se_div (sb_look (i := 0) rfl (vis_of (sc := defScope s__law_paper) (by decide +kernel))) (sb_of (se_int)))) (sb_of (se_int)))) (sb_of (se_int))) (sss_one (ss_set (i := 4) rfl (.inl (loc_of (sc := defScope s__law_paper) (by decide +kernel))) (se_max rfl (glob_of (sc := defScope s__law_paper) (by decide +kernel)) n_max (sb_of (se_int)) (sb_of (se_min rfl (glob_of (sc := defScope s__law_paper) (by decide +kernel)) n_min (sb_look (i := 3) rfl (vis_of (sc := defScope s__law_paper) (by decide +kernel))) (sb_of (se_int))))))) (sss_nil)))) (sss_nil)) (sss_cons (ss_setLc (i := 5) (hN := rfl) (hy := loc_of (sc := defScope s__law_paper) (by decide +kernel)) (hk := rfl) (hl := rfl) (hna := by decide +kernel) (own := [("c", 6)]) (hi := si_range1 rfl (glob_of (sc := defScope s__law_paper) (by decide +kernel)) n_range (se_var (i := 4) rfl (vis_of (sc := defScope s__law_paper) (by decide +kernel)))) (ok := (blk_of (N := N__law_paper) (sc := defScope s__law_paper) (by decide +kernel))) (hg := sg_name (i := 6) rfl (locc_of (c := Cf.blk _ _) (.inl (loc_of (sc := relS _ (defScope s__law_paper)) (by decide +kernel))))) (ht := sts_nil) (he := se_call (h__law_great.mono (j := 1) (k := k) (Nat.le_trans (by decide) hk)) (glob_of (sc := relS _ (defScope s__law_paper)) (by decide +kernel)) (sa_val (se_add (sb_of (se_add (sb_of (se_mul (sb_of (se_int)) (sb_look (i := 0) rfl (vis_of (sc := relS _ (defScope s__law_paper)) (by decide +kernel))))) (sb_look (i := 6) rfl (vis_of (sc := relS _ (defScope s__law_paper)) (by decide +kernel))))) (sb_of (se_int))) (sa_val (se_pow (sb_of (se_int)) (sb_of (se_int))) (sa_nil)))) (hv := by decide)) (sss_frz 5 (sss_one (ss_ret (se_tup (sv_cons (se_str) (sv_cons (se_var (i := 3) rfl (vis_of (sc := defScope s__law_paper) (by decide +kernel))) (sv_cons (se_lst (sf_lc (own := [("one", 7)]) (si_var (i := 5) rfl (vis_of (sc := defScope s__law_paper) (by decide +kernel))) (blk_of (N := N__law_paper) (sc := defScope s__law_paper) (by decide +kernel)) (sg_name (i := 7) rfl (locc_of (c := Cf.blk _ _) (.inl (loc_of (sc := relS _ (defScope s__law_paper)) (by decide +kernel))))) (sts_nil) (se_call h_rec (glob_of (sc := relS _ (defScope s__law_paper)) (by decide +kernel)) (sa_val (se_var (i := 7) rfl (vis_of (sc := relS _ (defScope s__law_paper)) (by decide +kernel))) (sa_val (se_sub (sb_look (i := 1) rfl (vis_of (sc := relS _ (defScope s__law_paper)) (by decide +kernel))) (sb_of (se_int))) (sa_val (se_var (i := 2) rfl (vis_of (sc := relS _ (defScope s__law_paper)) (by decide +kernel))) (sa_nil))))) (by decide))) (sv_nil)))) (by decide))))))))))
theorem d__law_by  (W : WX) : SSs (cfOf P w K mg base N__law_by (defScope s__law_by) 0) W (defBody s__law_by) Sh.b_divisor :=
  sss_cons (ss_while (st_gt (sb_look (i := 1) rfl (vis_of (sc := defScope s__law_by) (by decide +kernel))) (sb_of (se_int))) (sss_one (ss_par (i := 0) (j := 1) rfl rfl (by decide) (loc_of (sc := defScope s__law_by) (by decide +kernel)) (loc_of (sc := defScope s__law_by) (by decide +kernel)) (se_var (i := 1) rfl (vis_of (sc := defScope s__law_by) (by decide +kernel))) (se_mod (sb_look (i := 0) rfl (vis_of (sc := defScope s__law_by) (by decide +kernel))) (sb_look (i := 1) rfl (vis_of (sc := defScope s__law_by) (by decide +kernel)))) (sw2 rfl (loc_of (sc := defScope s__law_by) (by decide +kernel)) (loc_of (sc := defScope s__law_by) (by decide +kernel)) rfl (by decide +kernel) rfl rfl rfl)))) (sss_one (ss_ret (se_var (i := 0) rfl (vis_of (sc := defScope s__law_by) (by decide +kernel)))))
theorem d__law_right (k : Nat) (rec : List Sl → R Sl) (hk : 1 ≤ k) (h__law_by : Fn P w K mg base 1 "_law_by" 2 Sh.m_divisor) (n_len : mg "len" = none) (n_range : mg "range" = none) (h_rec : Fn P w K mg base k "_law_right" 3 rec) (W : WX) : SSs (cfOf P w K mg base N__law_right (defScope s__law_right) k) W (defBody s__law_right) (b__law_right rec) :=
  sss_cons (ss_unp (se_var (i := 1) rfl (vis_of (sc := defScope s__law_right) (by decide +kernel))) (sg_tup (sgs_cons (sg_name (i := 3) rfl (.inl (loc_of (sc := defScope s__law_right) (by decide +kernel)))) (sgs_cons (sg_name (i := 4) rfl (.inl (loc_of (sc := defScope s__law_right) (by decide +kernel)))) (sgs_nil))))) (sss_cons (ss_if (st_eq (sb_of (se_ix (sb_look (i := 2) rfl (vis_of (sc := defScope s__law_right) (by decide +kernel))) (sb_of (se_int)) (fun _ _ => rfl))) (sb_of (se_str))) (sss_cons (ss_if (st_w (sw_or (st_lt (sb_of (se_ix (sb_look (i := 2) rfl (vis_of (sc := defScope s__law_right) (by decide +kernel))) (sb_of (se_int)) (fun _ _ => rfl))) (sb_of (se_int))) (sw_or1 (st_ge (sb_of (se_ix (sb_look (i := 2) rfl (vis_of (sc := defScope s__law_right) (by decide +kernel))) (sb_of (se_int)) (fun _ _ => rfl))) (sb_of (se_len rfl (glob_of (sc := defScope s__law_right) (by decide +kernel)) n_len (sb_look (i := 0) rfl (vis_of (sc := defScope s__law_right) (by decide +kernel))))))))) (sss_one (ss_ret (se_bl))) (sss_nil)) (sss_cons (ss_unp (se_ix (sb_look (i := 0) rfl (vis_of (sc := defScope s__law_right) (by decide +kernel))) (sb_of (se_ix (sb_look (i := 2) rfl (vis_of (sc := defScope s__law_right) (by decide +kernel))) (sb_of (se_int)) (fun _ _ => rfl))) (fun _ _ => rfl)) (sg_tup (sgs_cons (sg_name (i := 5) rfl (.inl (loc_of (sc := defScope s__law_right) (by decide +kernel)))) (sgs_cons (sg_name (i := 6) rfl (.inl (loc_of (sc := defScope s__law_right) (by decide +kernel)))) (sgs_cons (sg_name (i := 7) rfl (.inl (loc_of (sc := defScope s__law_right) (by decide +kernel)))) (sgs_nil)))))) (sss_one (ss_ret (se_ge (sb_of (se_mod (sb_of (se_sub (sb_of (se_sub (sb_look (i := 4) rfl (vis_of (sc := defScope s__law_right) (by decide +kernel))) (sb_look (i := 6) rfl (vis_of (sc := defScope s__law_right) (by decide +kernel))))) (sb_look (i := 7) rfl (vis_of (sc := defScope s__law_right) (by decide +kernel))))) (sb_of (se_call (h__law_by.mono (j := 1) (k := k) (Nat.le_trans (by decide) hk)) (glob_of (sc := defScope s__law_right) (by decide +kernel)) (sa_val (se_var (i := 3) rfl (vis_of (sc := defScope s__law_right) (by decide +kernel))) (sa_val (se_var (i := 5) rfl (vis_of (sc := defScope s__law_right) (by decide +kernel))) (sa_nil))))))) (sb_of (se_sub (sb_look (i := 5) rfl (vis_of (sc := defScope s__law_right) (by decide +kernel))) (sb_look (i := 7) rfl (vis_of (sc := defScope s__law_right) (by decide +kernel)))))))))) (sss_nil)) (sss_kill 6 (sss_kill 7 (sss_kill 5 (sss_cons (ss_if (st_w (sw_or (st_lt (sb_of (se_ix (sb_look (i := 2) rfl (vis_of (sc := defScope s__law_right) (by decide +kernel))) (sb_of (se_int)) (fun _ _ => rfl))) (sb_of (se_int))) (sw_or1 (st_ne (sb_of (se_len rfl (glob_of (sc := defScope s__law_right) (by decide +kernel)) n_len (sb_of (se_ix (sb_look (i := 2) rfl (vis_of (sc := defScope s__law_right) (by decide +kernel))) (sb_of (se_int)) (fun _ _ => rfl))))) (sb_of (se_ix (sb_look (i := 2) rfl (vis_of (sc := defScope s__law_right) (by decide +kernel))) (sb_of (se_int)) (fun _ _ => rfl))))))) (sss_one (ss_ret (se_bl))) (sss_nil)) (sss_cons (ss_for (si_range1 rfl (glob_of (sc := defScope s__law_right) (by decide +kernel)) n_range (se_ix (sb_look (i := 2) rfl (vis_of (sc := defScope s__law_right) (by decide +kernel))) (sb_of (se_int)) (fun _ _ => rfl))) (sg_name (i := 8) rfl (.inl (loc_of (sc := defScope s__law_right) (by decide +kernel)))) (sss_cons (ss_if (st_not (st_val (fun _ _ => rfl) (se_call h_rec (glob_of (sc := defScope s__law_right) (by decide +kernel)) (sa_val (se_var (i := 0) rfl (vis_of (sc := defScope s__law_right) (by decide +kernel))) (sa_val (se_tup (sv_cons (se_mul (sb_look (i := 3) rfl (vis_of (sc := defScope s__law_right) (by decide +kernel))) (sb_of (se_ix (sb_look (i := 2) rfl (vis_of (sc := defScope s__law_right) (by decide +kernel))) (sb_of (se_int)) (fun _ _ => rfl)))) (sv_cons (se_add (sb_look (i := 4) rfl (vis_of (sc := defScope s__law_right) (by decide +kernel))) (sb_of (se_mul (sb_look (i := 3) rfl (vis_of (sc := defScope s__law_right) (by decide +kernel))) (sb_look (i := 8) rfl (vis_of (sc := defScope s__law_right) (by decide +kernel)))))) (sv_nil))) (by decide)) (sa_val (se_ix (sb_of (se_ix (sb_look (i := 2) rfl (vis_of (sc := defScope s__law_right) (by decide +kernel))) (sb_of (se_int)) (fun _ _ => rfl))) (sb_look (i := 8) rfl (vis_of (sc := defScope s__law_right) (by decide +kernel))) (fun _ _ => rfl)) (sa_nil))))))) (sss_one (ss_ret (se_bl))) (sss_nil)) (sss_kill 8 (sss_nil)))) (sss_one (ss_ret (se_bl)))))))))
theorem d_law (h__law_plan : Fn P w K mg base 3 "_law_plan" 1 m__law_plan) (h__law_size : Fn P w K mg base 2 "_law_size" 1 m__law_size) (h__law_cell : Fn P w K mg base 1 "_law_cell" 2 Sh.m__law_cell_at) (h__law_paper : Fn P w K mg base 13 "_law_paper" 3 (m__law_paper 12)) (h__law_great : Fn P w K mg base 1 "_law_great" 2 Sh.m__law_great) (h_right_for : Fn P w K mg base 14 "right_for" 3 (Sh.m_right_for 12)) (h__law_right : Fn P w K mg base 13 "_law_right" 3 (m__law_right 12)) (n_bool : mg "bool" = none) (n_isinstance : mg "isinstance" = none) (n_len : mg "len" = none) (n_list : mg "list" = none) (n_range : mg "range" = none) (W : WX) : SSs (cfOf P w K mg base N_law (defScope s_law) 14) W (defBody s_law) b_law :=
  sss_cons (ss_setF (i := 1) rfl (.inl (loc_of (sc := defScope s_law) (by decide +kernel))) (sf_call (h__law_plan.mono (j := 3) (k := 14) (by decide)) (glob_of (sc := defScope s_law) (by decide +kernel)) (sa_val (se_lst (sf_cut (sb_look (i := 0) rfl (vis_of (sc := defScope s_law) (by decide +kernel))) (so_some (sb_of (se_int))) (so_some (sb_of (se_int))))) (sa_nil)))) (sss_frz 1 (sss_cons (ss_set (i := 2) rfl (.inl (loc_of (sc := defScope s_law) (by decide +kernel))) (se_call (h__law_size.mono (j := 2) (k := 14) (by decide)) (glob_of (sc := defScope s_law) (by decide +kernel)) (sa_val (se_call (h__law_cell.mono (j := 1) (k := 14) (by decide)) (glob_of (sc := defScope s_law) (by decide +kernel)) (sa_val (se_var (i := 0) rfl (vis_of (sc := defScope s_law) (by decide +kernel))) (sa_val (se_int) (sa_nil)))) (sa_nil)))) (sss_cons (ss_set (i := 3) rfl (.inl (loc_of (sc := defScope s_law) (by decide +kernel))) (se_tup (sv_cons (se_var (i := 2) rfl (vis_of (sc := defScope s_law) (by decide +kernel))) (sv_cons (se_mod (sb_of (se_call (h__law_cell.mono (j := 1) (k := 14) (by decide)) (glob_of (sc := defScope s_law) (by decide +kernel)) (sa_val (se_var (i := 0) rfl (vis_of (sc := defScope s_law) (by decide +kernel))) (sa_val (se_int) (sa_nil))))) (sb_look (i := 2) rfl (vis_of (sc := defScope s_law) (by decide +kernel)))) (sv_nil))) (by decide))) (sss_cons (ss_setF (i := 4) rfl (.inl (loc_of (sc := defScope s_law) (by decide +kernel))) (sf_list rfl (glob_of (sc := defScope s_law) (by decide +kernel)) n_list (sb_look (i := 1) rfl (vis_of (sc := defScope s_law) (by decide +kernel))))) (sss_frz 4 (sss_cons (ss_for (si_range1 rfl (glob_of (sc := defScope s_law) (by decide +kernel)) n_range (se_int)) (sg_name (i := 5) rfl (.inl (loc_of (sc := defScope s_law) (by decide +kernel)))) (sss_cons (ss_set (i := 6) rfl (.inl (loc_of (sc := defScope s_law) (by decide +kernel))) (se_call (h__law_paper.mono (j := 13) (k := 14) (by decide)) (glob_of (sc := defScope s_law) (by decide +kernel)) (sa_val (se_call (h__law_great.mono (j := 1) (k := 14) (by decide)) (glob_of (sc := defScope s_law) (by decide +kernel)) (sa_val (se_add (sb_of (se_call (h__law_cell.mono (j := 1) (k := 14) (by decide)) (glob_of (sc := defScope s_law) (by decide +kernel)) (sa_val (se_var (i := 0) rfl (vis_of (sc := defScope s_law) (by decide +kernel))) (sa_val (se_int) (sa_nil))))) (sb_of (se_mul (sb_of (se_int)) (sb_look (i := 5) rfl (vis_of (sc := defScope s_law) (by decide +kernel)))))) (sa_val (se_pow (sb_of (se_int)) (sb_of (se_int))) (sa_nil)))) (sa_val (se_mod (sb_look (i := 5) rfl (vis_of (sc := defScope s_law) (by decide +kernel))) (sb_of (se_int))) (sa_val (se_len rfl (glob_of (sc := defScope s_law) (by decide +kernel)) n_len (sb_look (i := 1) rfl (vis_of (sc := defScope s_law) (by decide +kernel)))) (sa_nil)))))) (sss_cons (ss_set (i := 7) rfl (.inl (loc_of (sc := defScope s_law) (by decide +kernel))) (se_call (h_right_for.mono (j := 14) (k := 14) (by decide)) (glob_of (sc := defScope s_law) (by decide +kernel)) (sa_val (se_var (i := 4) rfl (vis_of (sc := defScope s_law) (by decide +kernel))) (sa_val (se_var (i := 3) rfl (vis_of (sc := defScope s_law) (by decide +kernel))) (sa_val (se_var (i := 6) rfl (vis_of (sc := defScope s_law) (by decide +kernel))) (sa_nil)))))) (sss_cons (ss_if (st_w (sw_or (st_not (st_val (fun _ _ => rfl) (se_isi isBool_ok rfl (glob_of (sc := defScope s_law) (by decide +kernel)) n_isinstance (glob_of (sc := defScope s_law) (by decide +kernel)) n_bool (by decide +kernel) (sb_look (i := 7) rfl (vis_of (sc := defScope s_law) (by decide +kernel)))))) (sw_or1 (st_ne (sb_look (i := 7) rfl (vis_of (sc := defScope s_law) (by decide +kernel))) (sb_of (se_call (h__law_right.mono (j := 13) (k := 14) (by decide)) (glob_of (sc := defScope s_law) (by decide +kernel)) (sa_val (se_var (i := 1) rfl (vis_of (sc := defScope s_law) (by decide +kernel))) (sa_val (se_var (i := 3) rfl (vis_of (sc := defScope s_law) (by decide +kernel))) (sa_val (se_var (i := 6) rfl (vis_of (sc := defScope s_law) (by decide +kernel))) (sa_nil)))))))))) (sss_one (ss_ret (se_bl))) (sss_nil)) (sss_kill 7 (sss_kill 5 (sss_kill 6 (sss_nil)))))))) (sss_cons (ss_for (si_seq (se_lst (sf_disp (sv_cons (se_tup (sv_cons (se_str) (sv_cons (se_int) (sv_cons (se_lst (sf_disp (sv_nil) (by decide))) (sv_nil)))) (by decide)) (sv_cons (se_tup (sv_cons (se_str) (sv_cons (se_int) (sv_cons (se_lst (sf_disp (sv_cons (se_tup (sv_cons (se_str) (sv_cons (se_int) (sv_nil))) (by decide)) (sv_nil)) (by decide))) (sv_nil)))) (by decide)) (sv_cons (se_tup (sv_cons (se_str) (sv_cons (se_sub (sb_of (se_int)) (sb_look (i := 2) rfl (vis_of (sc := defScope s_law) (by decide +kernel)))) (sv_cons (se_lst (sf_disp (sv_nil) (by decide))) (sv_nil)))) (by decide)) (sv_nil)))) (by decide)))) (sg_name (i := 6) rfl (.inl (loc_of (sc := defScope s_law) (by decide +kernel)))) (sss_cons (ss_if (st_isNot (sb_of (se_call (h_right_for.mono (j := 14) (k := 14) (by decide)) (glob_of (sc := defScope s_law) (by decide +kernel)) (sa_val (se_var (i := 4) rfl (vis_of (sc := defScope s_law) (by decide +kernel))) (sa_val (se_var (i := 3) rfl (vis_of (sc := defScope s_law) (by decide +kernel))) (sa_val (se_var (i := 6) rfl (vis_of (sc := defScope s_law) (by decide +kernel))) (sa_nil)))))) (sb_of (se_bl))) (sss_one (ss_ret (se_bl))) (sss_nil)) (sss_kill 6 (sss_nil)))) (sss_one (ss_ret (se_eq (sb_look (i := 4) rfl (vis_of (sc := defScope s_law) (by decide +kernel))) (sb_look (i := 1) rfl (vis_of (sc := defScope s_law) (by decide +kernel)))))))))))))
end
theorem all_mk {l : PySem.W.OpenLaw} {w : World} {K : PySem.W.Frag} {h : Heap} {mg : Str → Option Value} {fa : Addr} (X : K.In h) (G : h.Ns mainGlobals mg) (hfa : mg "law" = some (.ref fa))
    {f_divisor : Addr} {od_divisor an_divisor : Option Addr} {sl_divisor : Array (Option Value)} {oc_divisor kV_divisor dc_divisor pm_divisor cd_divisor ct_divisor : Value}
    (a_divisor : PySem.W.nsIn K mainGlobals "divisor" = some (some (.ref f_divisor)))
    (l_divisor : K.lookup f_divisor = some ⟨oc_divisor, od_divisor, .func (PySem.W.fnOf "divisor" "divisor" (defArgs s_divisor) (defBody s_divisor) (defScope s_divisor) .none kV_divisor dc_divisor pm_divisor an_divisor cd_divisor ct_divisor), sl_divisor⟩)
    (c_divisor : PySem.W.codeIn K cd_divisor "divisor" = true) (k_divisor : PySem.W.keepIn K (.ref f_divisor) = true)
    {f_lies_in : Addr} {od_lies_in an_lies_in : Option Addr} {sl_lies_in : Array (Option Value)} {oc_lies_in kV_lies_in dc_lies_in pm_lies_in cd_lies_in ct_lies_in : Value}
    (a_lies_in : PySem.W.nsIn K mainGlobals "lies_in" = some (some (.ref f_lies_in)))
    (l_lies_in : K.lookup f_lies_in = some ⟨oc_lies_in, od_lies_in, .func (PySem.W.fnOf "lies_in" "lies_in" (defArgs s_lies_in) (defBody s_lies_in) (defScope s_lies_in) .none kV_lies_in dc_lies_in pm_lies_in an_lies_in cd_lies_in ct_lies_in), sl_lies_in⟩)
    (c_lies_in : PySem.W.codeIn K cd_lies_in "lies_in" = true) (k_lies_in : PySem.W.keepIn K (.ref f_lies_in) = true)
    {f_right_for : Addr} {od_right_for an_right_for : Option Addr} {sl_right_for : Array (Option Value)} {oc_right_for kV_right_for dc_right_for pm_right_for cd_right_for ct_right_for : Value}
    (a_right_for : PySem.W.nsIn K mainGlobals "right_for" = some (some (.ref f_right_for)))
    (l_right_for : K.lookup f_right_for = some ⟨oc_right_for, od_right_for, .func (PySem.W.fnOf "right_for" "right_for" (defArgs s_right_for) (defBody s_right_for) (defScope s_right_for) .none kV_right_for dc_right_for pm_right_for an_right_for cd_right_for ct_right_for), sl_right_for⟩)
    (c_right_for : PySem.W.codeIn K cd_right_for "right_for" = true) (k_right_for : PySem.W.keepIn K (.ref f_right_for) = true)
    {f__law_cell : Addr} {od__law_cell an__law_cell : Option Addr} {sl__law_cell : Array (Option Value)} {oc__law_cell kV__law_cell dc__law_cell pm__law_cell cd__law_cell ct__law_cell : Value}
    (a__law_cell : PySem.W.nsIn K mainGlobals "_law_cell" = some (some (.ref f__law_cell)))
    (l__law_cell : K.lookup f__law_cell = some ⟨oc__law_cell, od__law_cell, .func (PySem.W.fnOf "_law_cell" "_law_cell" (defArgs s__law_cell) (defBody s__law_cell) (defScope s__law_cell) .none kV__law_cell dc__law_cell pm__law_cell an__law_cell cd__law_cell ct__law_cell), sl__law_cell⟩)
    (c__law_cell : PySem.W.codeIn K cd__law_cell "_law_cell" = true) (k__law_cell : PySem.W.keepIn K (.ref f__law_cell) = true)
    {f__law_great : Addr} {od__law_great an__law_great : Option Addr} {sl__law_great : Array (Option Value)} {oc__law_great kV__law_great dc__law_great pm__law_great cd__law_great ct__law_great : Value}
    (a__law_great : PySem.W.nsIn K mainGlobals "_law_great" = some (some (.ref f__law_great)))
    (l__law_great : K.lookup f__law_great = some ⟨oc__law_great, od__law_great, .func (PySem.W.fnOf "_law_great" "_law_great" (defArgs s__law_great) (defBody s__law_great) (defScope s__law_great) .none kV__law_great dc__law_great pm__law_great an__law_great cd__law_great ct__law_great), sl__law_great⟩)
    (c__law_great : PySem.W.codeIn K cd__law_great "_law_great" = true) (k__law_great : PySem.W.keepIn K (.ref f__law_great) = true)
    {f__law_size : Addr} {od__law_size an__law_size : Option Addr} {sl__law_size : Array (Option Value)} {oc__law_size kV__law_size dc__law_size pm__law_size cd__law_size ct__law_size : Value}
    (a__law_size : PySem.W.nsIn K mainGlobals "_law_size" = some (some (.ref f__law_size)))
    (l__law_size : K.lookup f__law_size = some ⟨oc__law_size, od__law_size, .func (PySem.W.fnOf "_law_size" "_law_size" (defArgs s__law_size) (defBody s__law_size) (defScope s__law_size) .none kV__law_size dc__law_size pm__law_size an__law_size cd__law_size ct__law_size), sl__law_size⟩)
    (c__law_size : PySem.W.codeIn K cd__law_size "_law_size" = true) (k__law_size : PySem.W.keepIn K (.ref f__law_size) = true)
    {f__law_plan : Addr} {od__law_plan an__law_plan : Option Addr} {sl__law_plan : Array (Option Value)} {oc__law_plan kV__law_plan dc__law_plan pm__law_plan cd__law_plan ct__law_plan : Value}
    (a__law_plan : PySem.W.nsIn K mainGlobals "_law_plan" = some (some (.ref f__law_plan)))
    (l__law_plan : K.lookup f__law_plan = some ⟨oc__law_plan, od__law_plan, .func (PySem.W.fnOf "_law_plan" "_law_plan" (defArgs s__law_plan) (defBody s__law_plan) (defScope s__law_plan) .none kV__law_plan dc__law_plan pm__law_plan an__law_plan cd__law_plan ct__law_plan), sl__law_plan⟩)
    (c__law_plan : PySem.W.codeIn K cd__law_plan "_law_plan" = true) (k__law_plan : PySem.W.keepIn K (.ref f__law_plan) = true)
    {f__law_paper : Addr} {od__law_paper an__law_paper : Option Addr} {sl__law_paper : Array (Option Value)} {oc__law_paper kV__law_paper dc__law_paper pm__law_paper cd__law_paper ct__law_paper : Value}
    (a__law_paper : PySem.W.nsIn K mainGlobals "_law_paper" = some (some (.ref f__law_paper)))
    (l__law_paper : K.lookup f__law_paper = some ⟨oc__law_paper, od__law_paper, .func (PySem.W.fnOf "_law_paper" "_law_paper" (defArgs s__law_paper) (defBody s__law_paper) (defScope s__law_paper) .none kV__law_paper dc__law_paper pm__law_paper an__law_paper cd__law_paper ct__law_paper), sl__law_paper⟩)
    (c__law_paper : PySem.W.codeIn K cd__law_paper "_law_paper" = true) (k__law_paper : PySem.W.keepIn K (.ref f__law_paper) = true)
    {f__law_by : Addr} {od__law_by an__law_by : Option Addr} {sl__law_by : Array (Option Value)} {oc__law_by kV__law_by dc__law_by pm__law_by cd__law_by ct__law_by : Value}
    (a__law_by : PySem.W.nsIn K mainGlobals "_law_by" = some (some (.ref f__law_by)))
    (l__law_by : K.lookup f__law_by = some ⟨oc__law_by, od__law_by, .func (PySem.W.fnOf "_law_by" "_law_by" (defArgs s__law_by) (defBody s__law_by) (defScope s__law_by) .none kV__law_by dc__law_by pm__law_by an__law_by cd__law_by ct__law_by), sl__law_by⟩)
    (c__law_by : PySem.W.codeIn K cd__law_by "_law_by" = true) (k__law_by : PySem.W.keepIn K (.ref f__law_by) = true)
    {f__law_right : Addr} {od__law_right an__law_right : Option Addr} {sl__law_right : Array (Option Value)} {oc__law_right kV__law_right dc__law_right pm__law_right cd__law_right ct__law_right : Value}
    (a__law_right : PySem.W.nsIn K mainGlobals "_law_right" = some (some (.ref f__law_right)))
    (l__law_right : K.lookup f__law_right = some ⟨oc__law_right, od__law_right, .func (PySem.W.fnOf "_law_right" "_law_right" (defArgs s__law_right) (defBody s__law_right) (defScope s__law_right) .none kV__law_right dc__law_right pm__law_right an__law_right cd__law_right ct__law_right), sl__law_right⟩)
    (c__law_right : PySem.W.codeIn K cd__law_right "_law_right" = true) (k__law_right : PySem.W.keepIn K (.ref f__law_right) = true)
    {f_law : Addr} {od_law an_law : Option Addr} {sl_law : Array (Option Value)} {oc_law kV_law dc_law pm_law cd_law ct_law : Value}
    (a_law : PySem.W.nsIn K mainGlobals "law" = some (some (.ref f_law)))
    (l_law : K.lookup f_law = some ⟨oc_law, od_law, .func (PySem.W.fnOf "law" "law" (defArgs s_law) (defBody s_law) (defScope s_law) .none kV_law dc_law pm_law an_law cd_law ct_law), sl_law⟩)
    (c_law : PySem.W.codeIn K cd_law "law" = true) (k_law : PySem.W.keepIn K (.ref f_law) = true)
    (z_bool : PySem.W.nsIn K mainGlobals "bool" = some none)
    (z_isinstance : PySem.W.nsIn K mainGlobals "isinstance" = some none)
    (z_len : PySem.W.nsIn K mainGlobals "len" = some none)
    (z_list : PySem.W.nsIn K mainGlobals "list" = some none)
    (z_max : PySem.W.nsIn K mainGlobals "max" = some none)
    (z_min : PySem.W.nsIn K mainGlobals "min" = some none)
    (z_range : PySem.W.nsIn K mainGlobals "range" = some none) :
    ∃ fd : FuncData, (∀ (s : Shared) (v : Value), BindsTo s fd ⟨[v], []⟩ [("script", v)]) ∧ ∀ base : Heap, K.In base → base.Ns mainGlobals mg → FnOk l.prog w K mg base (L2.CX l.prog w) 15 fa fd ["script"] (FSp K mg 1 m_law) := by
  have e := hfa.symm.trans (PySem.W.mg_of X G a_law)
  cases e
  have n_bool : mg "bool" = none := PySem.W.mg_none_of X G z_bool
  have n_isinstance : mg "isinstance" = none := PySem.W.mg_none_of X G z_isinstance
  have n_len : mg "len" = none := PySem.W.mg_none_of X G z_len
  have n_list : mg "list" = none := PySem.W.mg_none_of X G z_list
  have n_max : mg "max" = none := PySem.W.mg_none_of X G z_max
  have n_min : mg "min" = none := PySem.W.mg_none_of X G z_min
  have n_range : mg "range" = none := PySem.W.mg_none_of X G z_range
  have F_divisor := fun_mk (st := s_divisor) l_divisor c_divisor k_divisor
  have bb_divisor := F_divisor.binds (ps := ["one", "other"]) fun _ _ _ _ _ _ us hl => match us, hl with | [_, _], _ => rfl
  have F_lies_in := fun_mk (st := s_lies_in) l_lies_in c_lies_in k_lies_in
  have bb_lies_in := F_lies_in.binds (ps := ["waking", "part"]) fun _ _ _ _ _ _ us hl => match us, hl with | [_, _], _ => rfl
  have F_right_for := fun_mk (st := s_right_for) l_right_for c_right_for k_right_for
  have bb_right_for := F_right_for.binds (ps := ["plan", "part", "paper"]) fun _ _ _ _ _ _ us hl => match us, hl with | [_, _, _], _ => rfl
  have F__law_cell := fun_mk (st := s__law_cell) l__law_cell c__law_cell k__law_cell
  have bb__law_cell := F__law_cell.binds (ps := ["script", "k"]) fun _ _ _ _ _ _ us hl => match us, hl with | [_, _], _ => rfl
  have F__law_great := fun_mk (st := s__law_great) l__law_great c__law_great k__law_great
  have bb__law_great := F__law_great.binds (ps := ["cell", "many"]) fun _ _ _ _ _ _ us hl => match us, hl with | [_, _], _ => rfl
  have F__law_size := fun_mk (st := s__law_size) l__law_size c__law_size k__law_size
  have bb__law_size := F__law_size.binds (ps := ["cell"]) fun _ _ _ _ _ _ us hl => match us, hl with | [_], _ => rfl
  have F__law_plan := fun_mk (st := s__law_plan) l__law_plan c__law_plan k__law_plan
  have bb__law_plan := F__law_plan.binds (ps := ["cells"]) fun _ _ _ _ _ _ us hl => match us, hl with | [_], _ => rfl
  have F__law_paper := fun_mk (st := s__law_paper) l__law_paper c__law_paper k__law_paper
  have bb__law_paper := F__law_paper.binds (ps := ["number", "deep", "many"]) fun _ _ _ _ _ _ us hl => match us, hl with | [_, _, _], _ => rfl
  have F__law_by := fun_mk (st := s__law_by) l__law_by c__law_by k__law_by
  have bb__law_by := F__law_by.binds (ps := ["one", "other"]) fun _ _ _ _ _ _ us hl => match us, hl with | [_, _], _ => rfl
  have F__law_right := fun_mk (st := s__law_right) l__law_right c__law_right k__law_right
  have bb__law_right := F__law_right.binds (ps := ["plan", "part", "paper"]) fun _ _ _ _ _ _ us hl => match us, hl with | [_, _, _], _ => rfl
  have F_law := fun_mk (st := s_law) l_law c_law k_law
  refine ⟨PySem.W.fnOf "law" "law" (defArgs s_law) (defBody s_law) (defScope s_law) .none kV_law dc_law pm_law an_law cd_law ct_law, fun s v => .of_eq rfl, fun base _ _ => ?_⟩
  have h_divisor : Fn l.prog w K mg base 1 "divisor" 2 Sh.m_divisor := by
    rw [Sh.m_divisor_eq]
    exact fn_mk F_divisor (PySem.W.mg_of X G a_divisor) bb_divisor sc_divisor rfl (d_divisor )
  have h_lies_in : Fn l.prog w K mg base 2 "lies_in" 2 Sh.m_lies_in := by
    rw [Sh.m_lies_in_eq]
    exact fn_mk F_lies_in (PySem.W.mg_of X G a_lies_in) bb_lies_in sc_lies_in rfl (d_lies_in h_divisor)
  have h_right_for : Fn l.prog w K mg base 14 "right_for" 3 (Sh.m_right_for 12) := fn_rec (N := N_right_for) (u := Sh.b_right_for) 2 Sh.m_right_for_zero Sh.m_right_for_succ F_right_for (PySem.W.mg_of X G a_right_for) bb_right_for sc_right_for rfl (fun k rec hk h_rec => d_right_for k rec hk h_lies_in n_len n_range h_rec) 12
  have h__law_cell : Fn l.prog w K mg base 1 "_law_cell" 2 Sh.m__law_cell_at := by
    rw [Sh.m__law_cell_at_eq]
    exact fn_mk F__law_cell (PySem.W.mg_of X G a__law_cell) bb__law_cell sc__law_cell rfl (d__law_cell n_len)
  have h__law_great : Fn l.prog w K mg base 1 "_law_great" 2 Sh.m__law_great := by
    rw [Sh.m__law_great_eq]
    exact fn_mk F__law_great (PySem.W.mg_of X G a__law_great) bb__law_great sc__law_great rfl (d__law_great )
  have h__law_size : Fn l.prog w K mg base 2 "_law_size" 1 m__law_size := by
    rw [m__law_size_eq]
    exact fn_mk F__law_size (PySem.W.mg_of X G a__law_size) bb__law_size sc__law_size rfl (d__law_size h__law_great)
  have h__law_plan : Fn l.prog w K mg base 3 "_law_plan" 1 m__law_plan := by
    rw [m__law_plan_eq]
    exact fn_mk F__law_plan (PySem.W.mg_of X G a__law_plan) bb__law_plan sc__law_plan rfl (d__law_plan h__law_size n_len n_max n_range)
  have h__law_paper : Fn l.prog w K mg base 13 "_law_paper" 3 (m__law_paper 12) := fn_rec (N := N__law_paper) (u := b__law_paper) 1 m__law_paper_zero m__law_paper_succ F__law_paper (PySem.W.mg_of X G a__law_paper) bb__law_paper sc__law_paper rfl (fun k rec hk h_rec => d__law_paper k rec hk h__law_great n_max n_min n_range h_rec) 12
  have h__law_by : Fn l.prog w K mg base 1 "_law_by" 2 Sh.m_divisor := by
    rw [Sh.m_divisor_eq]
    exact fn_mk F__law_by (PySem.W.mg_of X G a__law_by) bb__law_by sc__law_by rfl (d__law_by )
  have h__law_right : Fn l.prog w K mg base 13 "_law_right" 3 (m__law_right 12) := fn_rec (N := N__law_right) (u := b__law_right) 1 m__law_right_zero m__law_right_succ F__law_right (PySem.W.mg_of X G a__law_right) bb__law_right sc__law_right rfl (fun k rec hk h_rec => d__law_right k rec hk h__law_by n_len n_range h_rec) 12
  rw [m_law_eq]
  exact fn_ok F_law sc_law rfl (d_law h__law_plan h__law_size h__law_cell h__law_paper h__law_great h_right_for h__law_right n_bool n_isinstance n_len n_list n_range)

end K23

open PySem PySem.W PyProof.Rows
set_option maxRecDepth 100000 in
set_option maxHeartbeats 0 in
theorem PySem.Challenge.cw_shiftmeet_k23_papers_right_for_a_part_holds : PySem.Challenge.rw_shiftmeet_k23_papers_right_for_a_part.Holds := by
  w_on; o_law; k_head; (case hw => w_witness2)
  k_fill
  refine Mi.law_end (l := PySem.Challenge.rw_shiftmeet_k23_papers_right_for_a_part) (m := K23.m_law) (k := 15) rfl rfl ⟨rfl, by decide, by decide⟩ (fun w h Y => PySem.W.kIn_of Y) ?F K23.law_true
  case F =>
    intro w mg fa h KX G hmg
    refine' K23.all_mk KX G hmg ?a_divisor ?l_divisor ?c_divisor ?k_divisor ?a_lies_in ?l_lies_in ?c_lies_in ?k_lies_in ?a_right_for ?l_right_for ?c_right_for ?k_right_for ?a__law_cell ?l__law_cell ?c__law_cell ?k__law_cell ?a__law_great ?l__law_great ?c__law_great ?k__law_great ?a__law_size ?l__law_size ?c__law_size ?k__law_size ?a__law_plan ?l__law_plan ?c__law_plan ?k__law_plan ?a__law_paper ?l__law_paper ?c__law_paper ?k__law_paper ?a__law_by ?l__law_by ?c__law_by ?k__law_by ?a__law_right ?l__law_right ?c__law_right ?k__law_right ?a_law ?l_law ?c_law ?k_law ?z_bool ?z_isinstance ?z_len ?z_list ?z_max ?z_min ?z_range
    (case a_divisor => k_is); (case l_divisor => k_is); (case c_divisor => k_is); (case k_divisor => k_is); (case a_lies_in => k_is); (case l_lies_in => k_is); (case c_lies_in => k_is); (case k_lies_in => k_is); (case a_right_for => k_is); (case l_right_for => k_is); (case c_right_for => k_is); (case k_right_for => k_is); (case a__law_cell => k_is); (case l__law_cell => k_is); (case c__law_cell => k_is); (case k__law_cell => k_is); (case a__law_great => k_is); (case l__law_great => k_is); (case c__law_great => k_is); (case k__law_great => k_is); (case a__law_size => k_is); (case l__law_size => k_is); (case c__law_size => k_is); (case k__law_size => k_is); (case a__law_plan => k_is); (case l__law_plan => k_is); (case c__law_plan => k_is); (case k__law_plan => k_is); (case a__law_paper => k_is); (case l__law_paper => k_is); (case c__law_paper => k_is); (case k__law_paper => k_is); (case a__law_by => k_is); (case l__law_by => k_is); (case c__law_by => k_is); (case k__law_by => k_is); (case a__law_right => k_is); (case l__law_right => k_is); (case c__law_right => k_is); (case k__law_right => k_is); (case a_law => k_is); (case l_law => k_is); (case c_law => k_is); (case k_law => k_is); (case z_bool => k_is); (case z_isinstance => k_is); (case z_len => k_is); (case z_list => k_is); (case z_max => k_is); (case z_min => k_is); (case z_range => k_is)

