import PyProof.Rows.All
import Wide.All
import OpenK.AllK
import Wide.FinOn
import HandS.ForMost
import HandS.Wide
import HandS.WideBits
import HandS.Rev
import HandS.RevRange
import HandS.IsInst
import HandS.Exc
import HandS.TryMany
import HandS.TryOnly
import HandS.ExcOwn
import HandS.WordsExc
import HandS.EndBits
import HandS.TupLe
import HandS.TupAny
import HandS.RaiseMore
import KE.DataMinMax
import HandS.SortKw
import HandS.ExcIs
import KE.KTryMore
import HandS.More
import HandS.ExcValue
import HandS.Text
import HandS.Strs
import HandS.StrMore
import PyProof.EnumMake
import KE.GoesMore
import PyProof.LongRange
import PySem.Challenge.RW_shiftmeet_k71_plans_written
set_option Elab.async false
set_option linter.all false
set_option maxRecDepth 100000
set_option maxHeartbeats 4000000
namespace Mi
open PySem PySem.Spec L2

/-! ## 1. Data, results, environments -/
/-- a value that nothing unfolds -/
noncomputable def hid {α : Type} (a : α) : α := Classical.choose (⟨a, rfl⟩ : ∃ x, x = a)
theorem hid_eq {α : Type} (a : α) : hid a = a := Classical.choose_spec (⟨a, rfl⟩ : ∃ x, x = a)
noncomputable def szL : Nat := hid sizeLine
theorem szL_eq : szL = sizeLine := hid_eq _
noncomputable def big62 : Int := hid 4611686018427387904
theorem big62_eq : big62 = 4611686018427387904 := hid_eq _
noncomputable def big63 : Int := hid (2 ^ 63)
theorem big63_eq : big63 = 2 ^ 63 := hid_eq _
noncomputable def big6 : Int := hid 1000000
theorem big6_eq : big6 = 1000000 := hid_eq _
@[simp] theorem lt_szL {n : Nat} (h : n < 1000000) : n < szL := by rw [szL_eq, PySem.sizeLine_eq]; omega
@[simp] theorem le_szL {n : Nat} (h : n < 1000000) : n ≤ szL := by rw [szL_eq, PySem.sizeLine_eq]; omega
/-- data: what a value tells, its objects seen through -/
inductive D where
  | non | bl (b : Bool) | int (i : Int) | str (x : Str) | tup (ds : List D) | lst (ds : List D) | exo (x : Str)
inductive R (α : Type) where
  | ok (a : α) | exc (c : Str) | stuck
def R.bind {α β : Type} : R α → (α → R β) → R β
  | .ok a, f => f a
  | .exc c, _ => .exc c
  | .stuck, _ => .stuck
def R.map {α β : Type} (f : α → β) : R α → R β
  | .ok a => .ok (f a)
  | .exc c => .exc c
  | .stuck => .stuck
@[simp] theorem R.bind_ok {α β : Type} (a : α) (f : α → R β) : (R.ok a).bind f = f a := rfl
@[simp] theorem R.bind_exc {α β : Type} (c : Str) (f : α → R β) : (R.exc c).bind f = .exc c := rfl
@[simp] theorem R.bind_stuck {α β : Type} (f : α → R β) : R.stuck.bind f = .stuck := rfl
@[simp] theorem R.map_ok {α β : Type} (f : α → β) (a : α) : (R.ok a).map f = .ok (f a) := rfl
/-- what is one's own and is changed through a name, behind a call too: a list, a dict of texts, a desk -/
inductive Ob where
  | lst (ds : List D) | dct (kvs : List (Str × D)) | dsk (kvs : List (Str × D))
/-- what a slot holds: data that may be shared; a list of one's own; a list that is lent; an object of one's own that calls change -/
inductive Sl where
  | sh (d : D) | ow (ds : List D) | bo (ds : List D) | lt (k : Nat) (ds : List D) | oo (dss : List (List D)) | mu (k : Option Nat) (o : Ob) | mr (d : D) (os : List (Nat × Ob))
abbrev En := List (Option Sl)
/-- how a statement ends -/
inductive Fl where
  | nx (ρ : En) | rt (s : Sl) | bk (ρ : En) | ct (ρ : En) | exc (c : Str) (ρ : En) | stuck
def R.bnd {α β : Type} : R α → (α → R β) → R β
  | .ok a, f => f a
  | _, _ => .stuck
@[simp] theorem R.bnd_ok {α β : Type} (a : α) (f : α → R β) : (R.ok a).bnd f = f a := rfl
def R.fl {α : Type} : R α → (α → Fl) → Fl
  | .ok a, f => f a
  | _, _ => .stuck
def Fl.thn : Fl → (En → Fl) → Fl
  | .nx ρ, k => k ρ
  | .rt s, _ => .rt s
  | .bk ρ, _ => .bk ρ
  | .ct ρ, _ => .ct ρ
  | .exc c ρ, _ => .exc c ρ
  | .stuck, _ => .stuck
def Fl.turn : Fl → (En → Fl) → Fl
  | .nx ρ, k => k ρ
  | .ct ρ, k => k ρ
  | .bk ρ, _ => .nx ρ
  | .rt s, _ => .rt s
  | .exc c ρ, _ => .exc c ρ
  | .stuck, _ => .stuck
def Fl.out : Fl → R Sl
  | .rt s => .ok s
  | .nx _ => .ok (.sh .non)
  | .exc c _ => .exc c
  | _ => .stuck
section
variable {α β : Type} {q : Prop} [Decidable q]
@[simp] theorem R.map_exc {c : Str} {f : α → β} : (R.exc c : R α).map f = .exc c := rfl
@[simp] theorem R.map_stuck {f : α → β} : (R.stuck : R α).map f = .stuck := rfl
@[simp] theorem R.bnd_exc {c : Str} {f : α → R β} : (R.exc c : R α).bnd f = .stuck := rfl
@[simp] theorem R.bnd_stuck {f : α → R β} : (R.stuck : R α).bnd f = .stuck := rfl
@[simp] theorem R.fl_ok {a : α} {f : α → Fl} : (R.ok a).fl f = f a := rfl
@[simp] theorem R.fl_exc {c : Str} {f : α → Fl} : (R.exc c : R α).fl f = .stuck := rfl
@[simp] theorem R.fl_stuck {f : α → Fl} : (R.stuck : R α).fl f = .stuck := rfl
@[simp] theorem Fl.thn_nx {ρ : En} {k : En → Fl} : (Fl.nx ρ).thn k = k ρ := rfl
@[simp] theorem Fl.thn_rt {s : Sl} {k : En → Fl} : (Fl.rt s).thn k = .rt s := rfl
@[simp] theorem Fl.thn_bk {ρ : En} {k : En → Fl} : (Fl.bk ρ).thn k = .bk ρ := rfl
@[simp] theorem Fl.thn_ct {ρ : En} {k : En → Fl} : (Fl.ct ρ).thn k = .ct ρ := rfl
@[simp] theorem Fl.thn_exc {c : Str} {ρ : En} {k : En → Fl} : (Fl.exc c ρ).thn k = .exc c ρ := rfl
@[simp] theorem Fl.thn_stuck {k : En → Fl} : Fl.stuck.thn k = .stuck := rfl
@[simp] theorem Fl.turn_nx {ρ : En} {k : En → Fl} : (Fl.nx ρ).turn k = k ρ := rfl
@[simp] theorem Fl.turn_rt {s : Sl} {k : En → Fl} : (Fl.rt s).turn k = .rt s := rfl
@[simp] theorem Fl.turn_bk {ρ : En} {k : En → Fl} : (Fl.bk ρ).turn k = .nx ρ := rfl
@[simp] theorem Fl.turn_ct {ρ : En} {k : En → Fl} : (Fl.ct ρ).turn k = k ρ := rfl
@[simp] theorem Fl.turn_exc {c : Str} {ρ : En} {k : En → Fl} : (Fl.exc c ρ).turn k = .exc c ρ := rfl
@[simp] theorem Fl.turn_stuck {k : En → Fl} : Fl.stuck.turn k = .stuck := rfl
@[simp] theorem Fl.out_nx {ρ : En} : (Fl.nx ρ).out = .ok (.sh .non) := rfl
@[simp] theorem Fl.out_rt {s : Sl} : (Fl.rt s).out = .ok s := rfl
@[simp] theorem Fl.out_bk {ρ : En} : (Fl.bk ρ).out = .stuck := rfl
@[simp] theorem Fl.out_ct {ρ : En} : (Fl.ct ρ).out = .stuck := rfl
@[simp] theorem Fl.out_exc {c : Str} {ρ : En} : (Fl.exc c ρ).out = .exc c := rfl
@[simp] theorem Fl.out_stuck : Fl.stuck.out = .stuck := rfl
@[simp] theorem R.bind_ite {a b : R α} {f : α → R β} : (if q then a else b).bind f = if q then a.bind f else b.bind f := by split <;> rfl
@[simp] theorem R.map_ite {a b : R α} {f : α → β} : (if q then a else b).map f = if q then a.map f else b.map f := by split <;> rfl
@[simp] theorem R.bnd_ite {a b : R α} {f : α → R β} : (if q then a else b).bnd f = if q then a.bnd f else b.bnd f := by split <;> rfl
@[simp] theorem R.fl_ite {a b : R α} {f : α → Fl} : (if q then a else b).fl f = if q then a.fl f else b.fl f := by split <;> rfl
@[simp] theorem Fl.thn_ite {a b : Fl} {f : En → Fl} : (if q then a else b).thn f = if q then a.thn f else b.thn f := by split <;> rfl
@[simp] theorem Fl.turn_ite {a b : Fl} {f : En → Fl} : (if q then a else b).turn f = if q then a.turn f else b.turn f := by split <;> rfl
@[simp] theorem Fl.out_ite {a b : Fl} : (if q then a else b).out = if q then a.out else b.out := by split <;> rfl
end
abbrev Ev := En → R D
abbrev Es := En → R (List D)
abbrev Et := En → R Bool
abbrev Sv := En → Fl

/-! ## 2. Data in a heap -/
/-- a caught exception of the class at C -/
def CaE (C a : Addr) : HO := .ext fun h => ∃ (oe : Obj) (vs : Array Value), h.get? a = some oe ∧ Zc (.ref C) none oe ∧ oe.data = .fields vs
section
variable (K : PySem.W.Frag)
mutual
def Rep (B : Hp) : D → V → Prop
  | .non, v => v = .non
  | .bl b, v => v = .bl b
  | .int i, v => v = .int i
  | .str x, v => v = .str x
  | .tup ds, v => ∃ a vs, v = .ref a ∧ SqT K B a vs ∧ Reps B ds vs
  | .lst ds, v => ∃ a vs, v = .ref a ∧ SqL K B a vs ∧ Reps B ds vs
  | .exo x, v => ∃ a C, v = .ref a ∧ PySem.W.nsIn K mainGlobals x = some (some (.ref C)) ∧ B a = some (CaE C a)
def Reps (B : Hp) : List D → List V → Prop
  | [], vs => vs = []
  | d :: ds, vs => ∃ v r, vs = v :: r ∧ Rep B d v ∧ Reps B ds r
end
end
section
variable {K : PySem.W.Frag} {B B' H H' : Hp}
theorem Same.seqT {K : PySem.W.Frag} {H H' : Hp} {a : Addr} {xs : List V} (e : Same H H') (h : SqT K H a xs) : SqT K H' a xs := by
  rcases h with (h | ⟨o, h⟩) | h
  · exact .inl (.inl (e _ _ h))
  · exact .inl (.inr ⟨o, e _ _ h⟩)
  · exact .inr h
mutual
theorem Rep.mono (s : Same B B') : ∀ (d : D) (v : V), Rep K B d v → Rep K B' d v
  | .non, _, h => h
  | .bl _, _, h => h
  | .int _, _, h => h
  | .str _, _, h => h
  | .tup ds, v, h => by
    obtain ⟨a, vs, e, q, r⟩ := h
    exact ⟨a, vs, e, Same.seqT s q, Reps.mono s ds vs r⟩
  | .lst ds, v, h => by
    obtain ⟨a, vs, e, q, r⟩ := h
    exact ⟨a, vs, e, s.seq q, Reps.mono s ds vs r⟩
  | .exo x, v, h => by
    obtain ⟨a, C, e, q, r⟩ := h
    exact ⟨a, C, e, q, s _ _ r⟩
theorem Reps.mono (s : Same B B') : ∀ (ds : List D) (vs : List V), Reps K B ds vs → Reps K B' ds vs
  | [], _, h => h
  | d :: ds, vs, h => by
    obtain ⟨v, r, e, h1, h2⟩ := h
    exact ⟨v, r, e, Rep.mono s d v h1, Reps.mono s ds r h2⟩
end
theorem Reps.length : ∀ {ds : List D} {vs : List V}, Reps K B ds vs → ds.length = vs.length
  | [], _, h => by
    have e : _ = ([] : List V) := h
    rw [e] <;> rfl
  | d :: ds, vs, h => by
    obtain ⟨v, r, rfl, _, h2⟩ := h
    rw [List.length_cons, List.length_cons, Reps.length h2]
theorem Reps.get : ∀ {ds : List D} {vs : List V} {i : Nat} {d : D}, Reps K B ds vs → ds[i]? = some d → ∃ v, vs[i]? = some v ∧ Rep K B d v
  | [], _, _, _, _, e => by simp at e
  | _ :: _, _, 0, _, ⟨v, r, rfl, h1, _⟩, e => by
    simp at e
    subst e
    exact ⟨v, rfl, h1⟩
  | _ :: ds, _, i + 1, d, ⟨v, r, rfl, _, h2⟩, e => by
    obtain ⟨v', e', h'⟩ := Reps.get (i := i) (d := d) h2 (by simpa using e)
    exact ⟨v', by simpa using e', h'⟩
theorem Reps.getV : ∀ {ds : List D} {vs : List V} {i : Nat} {v : V}, Reps K B ds vs → vs[i]? = some v → ∃ d, ds[i]? = some d ∧ Rep K B d v := fun {ds vs i v} h e => by
  have hl := h.length
  have hi : i < ds.length := by
    rw [hl]
    exact (List.getElem?_eq_some_iff.mp e).1
  obtain ⟨v', e', r⟩ := h.get (List.getElem?_eq_getElem hi)
  rw [e] at e'
  cases e'
  exact ⟨_, List.getElem?_eq_getElem hi, r⟩
theorem Reps.append : ∀ {ds es : List D} {vs us : List V}, Reps K B ds vs → Reps K B es us → Reps K B (ds ++ es) (vs ++ us)
  | [], _, _, _, h, q => by
    have e : _ = ([] : List V) := h
    rw [e]
    exact q
  | d :: ds, es, _, us, ⟨v, r, rfl, h1, h2⟩, q => ⟨v, r ++ us, rfl, h1, Reps.append h2 q⟩
theorem Reps.one {d : D} {v : V} (h : Rep K B d v) : Reps K B [d] [v] := ⟨v, [], rfl, h, rfl⟩
theorem Reps.nil : Reps K B [] [] := rfl
theorem Reps.take : ∀ {ds : List D} {vs : List V} (n : Nat), Reps K B ds vs → Reps K B (ds.take n) (vs.take n)
  | _, _, 0, _ => by rw [List.take_zero, List.take_zero]; exact rfl
  | [], _, n + 1, h => by
    have e : _ = ([] : List V) := h
    rw [e, List.take_nil, List.take_nil]
    exact rfl
  | d :: ds, _, n + 1, ⟨v, r, rfl, h1, h2⟩ => ⟨v, r.take n, rfl, h1, Reps.take n h2⟩
theorem Reps.drop : ∀ {ds : List D} {vs : List V} (n : Nat), Reps K B ds vs → Reps K B (ds.drop n) (vs.drop n)
  | ds, vs, 0, h => by rw [List.drop_zero, List.drop_zero]; exact h
  | [], _, n + 1, h => by
    have e : _ = ([] : List V) := h
    rw [e, List.drop_nil, List.drop_nil]
    exact rfl
  | d :: ds, _, n + 1, ⟨v, r, rfl, h1, h2⟩ => Reps.drop n h2
theorem Reps.set : ∀ {ds : List D} {vs : List V} (i : Nat) {d : D} {v : V}, Reps K B ds vs → Rep K B d v → Reps K B (ds.set i d) (vs.set i v)
  | [], _, _, _, _, h, _ => by
    have e : _ = ([] : List V) := h
    rw [e, List.set_nil, List.set_nil]
    exact rfl
  | _ :: _, _, 0, _, v', ⟨v, r, rfl, h1, h2⟩, q => ⟨v', r, rfl, q, h2⟩
  | _ :: _, _, i + 1, _, _, ⟨v, r, rfl, h1, h2⟩, q => ⟨v, r.set i _, rfl, h1, Reps.set i h2 q⟩
theorem Reps.rev {ds : List D} {vs : List V} (h : Reps K B ds vs) : Reps K B ds.reverse vs.reverse := by
  induction ds generalizing vs with
  | nil =>
    have e : vs = ([] : List V) := h
    rw [e]
    exact rfl
  | cons d ds ih =>
    obtain ⟨v, r, rfl, h1, h2⟩ := h
    rw [List.reverse_cons, List.reverse_cons]
    exact (ih h2).append (.one h1)
end

/-! ## 3. The shared part B of a heap H; how both go on -/
/-- B' and H' come behind B and H: nothing that stood is changed, nothing of H's own lists got into B' -/
structure Ext (B H B' H' : Hp) : Prop where
  b : Same B B'
  h : Same H H'
  in_ : Same B' H'
  off : ∀ p, B p = none → H p ≠ none → B' p = none
theorem Ext.refl {B H : Hp} (h : Same B H) : Ext B H B H := ⟨Same.refl _, Same.refl _, h, fun _ e _ => e⟩
theorem Ext.trans {B H B1 H1 B2 H2 : Hp} (x : Ext B H B1 H1) (y : Ext B1 H1 B2 H2) : Ext B H B2 H2 :=
  ⟨x.b.trans y.b, x.h.trans y.h, y.in_, fun p e n => y.off p (x.off p e n) fun z => n (x.h.free z)⟩
theorem same_put {H : Hp} {p : Addr} {o : HO} (h : H p = none) : Same H (upd H p o) := fun b x e => by
  rw [upd_ne (ne_of_none e h)]
  exact e
/-- a new object in H alone -/
theorem Ext.new {B H : Hp} {p : Addr} {o : HO} (s : Same B H) (h : H p = none) : Ext B H B (upd H p o) :=
  ⟨Same.refl _, same_put h, s.trans (same_put h), fun _ e _ => e⟩
/-- a new object in both -/
theorem Ext.newB {B H : Hp} {p : Addr} {o : HO} (s : Same B H) (h : H p = none) : Ext B H (upd B p o) (upd H p o) := by
  have hb : B p = none := s.free h
  refine ⟨same_put hb, same_put h, fun b x e => ?_, fun q e n => ?_⟩
  · by_cases z : b = p
    · subst z
      rw [upd_same] at e ⊢
      exact e
    · rw [upd_ne z] at e ⊢
      exact s b x e
  · rw [upd_ne (fun z => n (by rw [z]; exact h))]
    exact e
/-- a list of H's is taken into B -/
theorem Ext.take {B H B1 H1 : Hp} {p : Addr} {o : HO} (x : Ext B H B1 H1) (h : H1 p = some o) (hb : B1 p = none) (n : H p = none) : Ext B H (upd B1 p o) H1 := by
  refine ⟨x.b.trans (same_put hb), x.h, fun b u e => ?_, fun q e m => ?_⟩
  · by_cases z : b = p
    · subst z
      rw [upd_same] at e
      rw [← e]
      exact h
    · rw [upd_ne z] at e
      exact x.in_ b u e
  · rw [upd_ne (fun z => m (by rw [z]; exact n))]
    exact x.off q e m

/-- the entry of the body: its heap, its shared part -/
structure Gd where
  B : Hp
  H : Hp
  ln : Nat → Option V := fun _ => none
abbrev gd (B H : Hp) : Gd := { B := B, H := H }
section
variable (K : PySem.W.Frag)
/-- the lists within a list of one's own, each of them one's own -/
def Inn (B G H : Hp) : List (List D) → List V → Prop
  | [], vs => vs = []
  | ds :: dss, vs => ∃ p us r, vs = .ref p :: r ∧ H p = some (.lst us) ∧ B p = none ∧ G p = none ∧ V.ref p ∉ r ∧ Reps K B ds us ∧ Inn B G H dss r
/-- what a dict of texts holds -/
def Kvs (B : Hp) : List (Str × D) → List (Key × V) → Prop
  | [], es => es = []
  | kv :: kvs, es => ∃ v r, es = (Sum.inr kv.1, v) :: r ∧ Rep K B kv.2 v ∧ Kvs B kvs r
/-- an object of one's own: it stands in H alone, and is new behind G -/
def ObOk (G B H : Hp) : Ob → V → Prop
  | .lst ds, v => ∃ a vs, v = .ref a ∧ H a = some (.lst vs) ∧ B a = none ∧ G a = none ∧ Reps K B ds vs
  | .dct kvs, v => ∃ a es, v = .ref a ∧ H a = some (.dK es) ∧ B a = none ∧ G a = none ∧ Kvs K B kvs es
  | .dsk kvs, v => ∃ a C dx d es, v = .ref a ∧ H a = some (.ins C dx [("plans", .ref d)]) ∧ B a = none ∧ G a = none ∧ PySem.W.nsIn K mainGlobals "Desk" = some (some (.ref C)) ∧ H d = some (.dK es) ∧ B d = none ∧ G d = none ∧ Kvs K B kvs es
def SlOk (g : Gd) (B H : Hp) : Sl → V → Prop
  | .sh d, v => Rep K B d v
  | .ow ds, v => ∃ a vs, v = .ref a ∧ H a = some (.lst vs) ∧ B a = none ∧ g.H a = none ∧ Reps K B ds vs
  | .bo ds, v => ∃ a vs, v = .ref a ∧ SqL K g.H a vs ∧ Reps K B ds vs
  | .lt k ds, v => ∃ a vs, v = .ref a ∧ g.ln k = some v ∧ SqL K g.H a vs ∧ Reps K B ds vs
  | .oo dss, v => ∃ a vs, v = .ref a ∧ H a = some (.lst vs) ∧ B a = none ∧ g.H a = none ∧ V.ref a ∉ vs ∧ Inn K B g.H H dss vs
  | .mu k o, v => (∀ j, k = some j → g.ln j = some v) ∧ ObOk K g.H B H o v
  | .mr _ _, _ => False
def isOw : Sl → Bool
  | .ow _ => true
  | .oo _ => true
  | .mu _ _ => true
  | _ => false
/-- z is an object that the object at v is made of -/
def owO (H : Hp) : Ob → V → V → Prop
  | .lst _, v, z => z = v
  | .dct _, v, z => z = v
  | .dsk _, v, z => z = v ∨ ∃ a C dx d, v = .ref a ∧ H a = some (.ins C dx [("plans", .ref d)]) ∧ z = .ref d
/-- z is an object that the slot owns -/
def owA (H : Hp) : Sl → V → V → Prop
  | .ow _, v, z => z = v
  | .oo _, v, z => z = v ∨ ∃ a vs, v = .ref a ∧ H a = some (.lst vs) ∧ z ∈ vs
  | .mu _ o, v, z => owO H o v z
  | _, _, _ => False
/-- the environment ρ is held by the slots σ in the heap H with the shared part B -/
structure Mt (g : Gd) (B H : Hp) (ρ : En) (σ : St) : Prop where
  ext : Ext g.B g.H B H
  len : ρ.length = σ.length
  sl : ∀ (i : Nat) (s : Sl), ρ[i]? = some (some s) → ∃ v, σ[i]? = some (some v) ∧ SlOk K g B H s v
  ne : ∀ (i j : Nat) (s t : Sl) (v u z : V), i ≠ j → ρ[i]? = some (some s) → ρ[j]? = some (some t) → σ[i]? = some (some v) → σ[j]? = some (some u) → owA H s v z → owA H t u z → False
end
section
variable {K : PySem.W.Frag} {g : Gd} {B H B' H' G : Hp} {ρ : En} {σ : St}
theorem owA_is {s : Sl} {v z : V} (h : owA H s v z) : isOw s = true := by
  cases s with
  | ow ds => rfl
  | oo ds => rfl
  | mu k o => rfl
  | _ => exact h.elim
theorem Kvs.mono (s : Same B B') : ∀ {kvs : List (Str × D)} {es : List (Key × V)}, Kvs K B kvs es → Kvs K B' kvs es
  | [], _, h => h
  | _ :: _, _, ⟨v, r, e, h1, h2⟩ => ⟨v, r, e, Rep.mono s _ _ h1, Kvs.mono s h2⟩
theorem Inn.length : ∀ {dss : List (List D)} {vs : List V}, Inn K B G H dss vs → dss.length = vs.length
  | [], _, h => by
    have e : _ = ([] : List V) := h
    rw [e] <;> rfl
  | ds :: dss, _, ⟨p, us, r, e, _, _, _, _, _, h⟩ => by rw [e, List.length_cons, List.length_cons, Inn.length h]
theorem Inn.mem : ∀ {dss : List (List D)} {vs : List V} {z : V}, Inn K B G H dss vs → z ∈ vs → ∃ p us, z = .ref p ∧ H p = some (.lst us) ∧ B p = none ∧ G p = none
  | [], _, z, h, m => by
    have e : _ = ([] : List V) := h
    rw [e] at m
    cases m
  | ds :: dss, _, z, ⟨p, us, r, e, h1, h2, h3, _, _, h⟩, m => by
    rw [e] at m
    rcases List.mem_cons.mp m with rfl | m
    · exact ⟨p, us, rfl, h1, h2, h3⟩
    · exact Inn.mem h m
theorem Inn.get : ∀ {dss : List (List D)} {vs : List V} {i : Nat} {ds : List D}, Inn K B G H dss vs → dss[i]? = some ds → ∃ p us, vs[i]? = some (.ref p) ∧ H p = some (.lst us) ∧ B p = none ∧ G p = none ∧ Reps K B ds us
  | [], _, _, _, _, e => by simp at e
  | _ :: _, _, 0, _, ⟨p, us, r, rfl, h1, h2, h3, _, h5, _⟩, e => by
    simp at e
    subst e
    exact ⟨p, us, rfl, h1, h2, h3, h5⟩
  | _ :: dss, _, i + 1, ds, ⟨p, us, r, rfl, _, _, _, _, _, h⟩, e => by
    obtain ⟨q, w, e', h'⟩ := Inn.get (i := i) (ds := ds) h (by simpa using e)
    exact ⟨q, w, by simpa using e', h'⟩
/-- the heaps go on, the inner lists stand -/
theorem Inn.mono (s : Same B B') (k : ∀ p us, H p = some (.lst us) → B p = none → G p = none → H' p = some (.lst us) ∧ B' p = none) : ∀ {dss : List (List D)} {vs : List V}, Inn K B G H dss vs → Inn K B' G H' dss vs
  | [], _, h => h
  | ds :: dss, _, ⟨p, us, r, e, h1, h2, h3, h4, h5, h⟩ => ⟨p, us, r, e, (k p us h1 h2 h3).1, (k p us h1 h2 h3).2, h3, h4, Reps.mono s _ _ h5, Inn.mono s k h⟩
/-- the same, of the lists that are told -/
theorem Inn.mono' (s : Same B B') : ∀ {dss : List (List D)} {vs : List V}, Inn K B G H dss vs → (∀ p us, V.ref p ∈ vs → H p = some (.lst us) → B p = none → G p = none → H' p = some (.lst us) ∧ B' p = none) → Inn K B' G H' dss vs
  | [], _, h, _ => h
  | ds :: dss, _, ⟨p, us, r, rfl, h1, h2, h3, h4, h5, h⟩, k => ⟨p, us, r, rfl, (k p us (List.mem_cons_self ..) h1 h2 h3).1, (k p us (List.mem_cons_self ..) h1 h2 h3).2, h3, h4, Reps.mono s _ _ h5, Inn.mono' s h fun q w m => k q w (List.mem_cons_of_mem _ m)⟩
theorem ObOk.isA {o : Ob} {v z : V} (h : ObOk K G B H o v) (w : owO H o v z) : ∃ p u, z = .ref p ∧ H p = some u ∧ B p = none ∧ G p = none := by
  cases o with
  | lst ds =>
    obtain ⟨a, vs, e, h1, h2, h3, _⟩ := h
    exact ⟨a, _, (show z = v from w).trans e, h1, h2, h3⟩
  | dct kvs =>
    obtain ⟨a, vs, e, h1, h2, h3, _⟩ := h
    exact ⟨a, _, (show z = v from w).trans e, h1, h2, h3⟩
  | dsk kvs =>
    obtain ⟨a, C, dx, d, es, e, h1, h2, h3, _, h4, h5, h6, _⟩ := h
    rcases w with w | ⟨a', C', dx', d', e', q, w⟩
    · exact ⟨a, _, w.trans e, h1, h2, h3⟩
    · rw [e] at e'
      cases e'
      rw [h1] at q
      cases q
      exact ⟨d, _, w, h4, h5, h6⟩
/-- what a slot owns is an object of H's alone -/
theorem SlOk.isA {s : Sl} {v z : V} (h : SlOk K g B H s v) (o : owA H s v z) : ∃ p u, z = .ref p ∧ H p = some u ∧ B p = none ∧ g.H p = none := by
  cases s with
  | ow ds =>
    obtain ⟨a, vs, e, h1, h2, h3, _⟩ := h
    have oz : z = v := o
    exact ⟨a, _, by rw [oz, e], h1, h2, h3⟩
  | oo dss =>
    obtain ⟨a, vs, e, h1, h2, h3, _, h5⟩ := h
    rcases o with o | ⟨b, us, e2, o1, o2⟩
    · exact ⟨a, _, by rw [o, e], h1, h2, h3⟩
    · rw [e] at e2
      cases e2
      rw [h1] at o1
      cases o1
      obtain ⟨p, w, k1, k2, k3, k4⟩ := h5.mem o2
      exact ⟨p, _, k1, k2, k3, k4⟩
  | mu k ob => exact ObOk.isA h.2 o
  | _ => exact o.elim
theorem ObOk.keep {G' : Hp} {o : Ob} {v : V} (h : ObOk K G B H o v) (b : Same B B') (k : ∀ p u, H p = some u → owO H o v (.ref p) → H' p = some u ∧ B' p = none ∧ G' p = none) : ObOk K G' B' H' o v := by
  cases o with
  | lst ds =>
    obtain ⟨a, vs, e, h1, h2, h3, h4⟩ := h
    obtain ⟨k1, k2, k3⟩ := k a _ h1 e.symm
    exact ⟨a, vs, e, k1, k2, k3, Reps.mono b _ _ h4⟩
  | dct kvs =>
    obtain ⟨a, vs, e, h1, h2, h3, h4⟩ := h
    obtain ⟨k1, k2, k3⟩ := k a _ h1 e.symm
    exact ⟨a, vs, e, k1, k2, k3, h4.mono b⟩
  | dsk kvs =>
    obtain ⟨a, C, dx, d, es, e, h1, h2, h3, hc, h4, h5, h6, h7⟩ := h
    obtain ⟨k1, k2, k3⟩ := k a _ h1 (.inl e.symm)
    obtain ⟨k4, k5, k6⟩ := k d _ h4 (.inr ⟨a, C, dx, d, e, h1, rfl⟩)
    exact ⟨a, C, dx, d, es, e, k1, k2, k3, hc, k4, k5, k6, h7.mono b⟩
theorem SlOk.keep {s : Sl} {v : V} (h : SlOk K g B H s v) (b : Same B B') (k : ∀ p u, H p = some u → owA H s v (.ref p) → H' p = some u ∧ B' p = none) : SlOk K g B' H' s v := by
  cases s with
  | sh d => exact Rep.mono b _ _ h
  | ow ds =>
    obtain ⟨a, vs, e, h1, h2, h3, h4⟩ := h
    obtain ⟨k1, k2⟩ := k a _ h1 e.symm
    exact ⟨a, vs, e, k1, k2, h3, Reps.mono b _ _ h4⟩
  | bo ds =>
    obtain ⟨a, vs, e, h1, h2⟩ := h
    exact ⟨a, vs, e, h1, Reps.mono b _ _ h2⟩
  | lt j ds =>
    obtain ⟨a, vs, e, h0, h1, h2⟩ := h
    exact ⟨a, vs, e, h0, h1, Reps.mono b _ _ h2⟩
  | oo dss =>
    obtain ⟨a, vs, e, h1, h2, h3, h4, h5⟩ := h
    obtain ⟨k1, k2⟩ := k a _ h1 (.inl e.symm)
    exact ⟨a, vs, e, k1, k2, h3, h4, h5.mono' b fun p us mp e1 _ _ => k p _ e1 (.inr ⟨a, vs, e, h1, mp⟩)⟩
  | mu j o => exact ⟨h.1, h.2.keep b fun p u e w => ⟨(k p u e w).1, (k p u e w).2, (h.2.isA w).elim fun q ⟨_, e1, _, _, e4⟩ => by cases e1; exact e4⟩⟩
  | mr d os => exact h.elim
theorem SlOk.ext {s : Sl} {v : V} (h : SlOk K g B H s v) (g0 : Ext g.B g.H B H) (x : Ext B H B' H') : SlOk K g B' H' s v :=
  h.keep x.b fun p u e o => by
    obtain ⟨q, u', e1, e2, e3, _⟩ := h.isA o
    cases e1
    exact ⟨x.h _ _ e, x.off p e3 (by rw [e]; exact fun z => by cases z)⟩
/-- in a heap that goes on a slot owns no more -/
theorem ObOk.owB {o : Ob} {v z : V} (h : ObOk K G B H o v) (x : ∀ p u, H p = some u → owO H o v (.ref p) → H' p = some u) (w : owO H' o v z) : owO H o v z := by
  cases o with
  | lst ds => exact w
  | dct kvs => exact w
  | dsk kvs =>
    obtain ⟨a, C, dx, d, es, e, h1, _⟩ := h
    rcases w with w | ⟨a', C', dx', d', e', q, w⟩
    · exact .inl w
    · rw [e] at e'
      cases e'
      rw [x a _ h1 (.inl e.symm)] at q
      cases q
      exact .inr ⟨a, C, dx, d, e, h1, w⟩
theorem SlOk.owB {s : Sl} {v z : V} (h : SlOk K g B H s v) (x : ∀ p u, H p = some u → owA H s v (.ref p) → H' p = some u) (o : owA H' s v z) : owA H s v z := by
  cases s with
  | ow ds => exact o
  | oo dss =>
    obtain ⟨a, vs, e, h1, _⟩ := h
    rcases o with o | ⟨b, us, e2, o1, o2⟩
    · exact .inl o
    · rw [e] at e2
      cases e2
      rw [x a _ h1 (.inl e.symm)] at o1
      cases o1
      exact .inr ⟨a, vs, e, h1, o2⟩
  | mu k ob => exact ObOk.owB h.2 x o
  | _ => exact o.elim
theorem Mt.go (m : Mt K g B H ρ σ) (x : Ext B H B' H') : Mt K g B' H' ρ σ :=
  ⟨m.ext.trans x, m.len, fun i s e => by
    obtain ⟨v, h1, h2⟩ := m.sl i s e
    exact ⟨v, h1, h2.ext m.ext x⟩, fun i j s t v u z hij e1 e2 e3 e4 o1 o2 => by
    obtain ⟨v', h1, h2⟩ := m.sl i s e1
    rw [e3] at h1
    cases h1
    obtain ⟨u', h3, h4⟩ := m.sl j t e2
    rw [e4] at h3
    cases h3
    exact m.ne i j s t v u z hij e1 e2 e3 e4 (h2.owB (fun p us e _ => x.h _ _ e) o1) (h4.owB (fun p us e _ => x.h _ _ e) o2)⟩
theorem Mt.sub (m : Mt K g B H ρ σ) : Same B H := m.ext.in_
theorem Mt.refl (m : Mt K g B H ρ σ) : Ext B H B H := Ext.refl m.sub
/-- an address at which H has nothing is in no slot's own -/
theorem Mt.free (m : Mt K g B H ρ σ) {p : Addr} (h : H p = none) {j : Nat} {t : Sl} {u : V} (e : ρ[j]? = some (some t)) (ev : σ[j]? = some (some u)) : ¬ owA H t u (.ref p) := fun o => by
  obtain ⟨v, h1, h2⟩ := m.sl j t e
  rw [ev] at h1
  cases h1
  obtain ⟨q, us, e1, e2, _⟩ := h2.isA o
  cases e1
  rw [h] at e2
  cases e2
/-- a slot is stored -/
theorem Mt.set {i : Nat} {s : Sl} {v : V} (m : Mt K g B H ρ σ) (h : SlOk K g B H s v) (n : ∀ z, owA H s v z → ∀ j t u, j ≠ i → ρ[j]? = some (some t) → σ[j]? = some (some u) → owA H t u z → False) :
    Mt K g B H (ρ.set i (some s)) (σ.set i (some v)) := by
  refine ⟨m.ext, by rw [List.length_set, List.length_set, m.len], fun j t e => ?_, fun j k t u w w2 z hjk e1 e2 e3 e4 o1 o2 => ?_⟩
  · by_cases hj : i = j
    · subst hj
      by_cases hl : i < ρ.length
      · rw [List.getElem?_set_self hl] at e
        cases e
        exact ⟨v, List.getElem?_set_self (by rw [← m.len]; exact hl), h⟩
      · rw [List.getElem?_eq_none (by rw [List.length_set]; omega)] at e
        cases e
    · rw [List.getElem?_set_ne hj] at e ⊢
      exact m.sl j t e
  · by_cases hj : i = j
    · subst hj
      have hl : i < ρ.length := by
        have := (List.getElem?_eq_some_iff.mp e1).1
        rwa [List.length_set] at this
      rw [List.getElem?_set_self hl] at e1
      cases e1
      rw [List.getElem?_set_self (by rw [← m.len]; exact hl)] at e3
      cases e3
      rw [List.getElem?_set_ne hjk] at e2 e4
      exact n z o1 k u w2 (Ne.symm hjk) e2 e4 o2
    · rw [List.getElem?_set_ne hj] at e1 e3
      by_cases hk : i = k
      · subst hk
        have hl : i < ρ.length := by
          have := (List.getElem?_eq_some_iff.mp e2).1
          rwa [List.length_set] at this
        rw [List.getElem?_set_self hl] at e2
        cases e2
        rw [List.getElem?_set_self (by rw [← m.len]; exact hl)] at e4
        cases e4
        exact n z o2 j t w (Ne.symm hj) e1 e3 o1
      · rw [List.getElem?_set_ne hk] at e2 e4
        exact m.ne j k t u w w2 z hjk e1 e2 e3 e4 o1 o2
theorem Mt.setSh {i : Nat} {d : D} {v : V} (m : Mt K g B H ρ σ) (h : Rep K B d v) : Mt K g B H (ρ.set i (some (.sh d))) (σ.set i (some v)) :=
  m.set (s := .sh d) h fun z o => o.elim
/-- slots are forgotten -/
theorem Mt.kill (m : Mt K g B H ρ σ) (i : Nat) (σ' : St) (hl : σ'.length = σ.length) (hk : ∀ j, j ≠ i → σ'[j]? = σ[j]?) : Mt K g B H (ρ.set i none) σ' := by
  have z : ∀ j s, (ρ.set i none)[j]? = some (some s) → j ≠ i ∧ ρ[j]? = some (some s) := fun j s e => by
    by_cases hj : i = j
    · subst hj
      by_cases hl : i < ρ.length
      · rw [List.getElem?_set_self hl] at e
        cases e
      · rw [List.getElem?_eq_none (by rw [List.length_set]; omega)] at e
        cases e
    · rw [List.getElem?_set_ne hj] at e
      exact ⟨Ne.symm hj, e⟩
  refine ⟨m.ext, by rw [List.length_set, m.len, hl], fun j s e => ?_, fun j k s t v u y hjk e1 e2 e3 e4 o1 o2 => ?_⟩
  · obtain ⟨z1, z2⟩ := z j s e
    rw [hk j z1]
    exact m.sl j s z2
  · obtain ⟨z1, z2⟩ := z j s e1
    obtain ⟨z3, z4⟩ := z k t e2
    rw [hk j z1] at e3
    rw [hk k z3] at e4
    exact m.ne j k s t v u y hjk z2 z4 e3 e4 o1 o2
/-- an object that is in no own slot and not of the entry is laid anew -/
theorem Mt.put {p : Addr} {o : HO} (m : Mt K g B H ρ σ) (hb : B p = none) (hg : g.H p = none) (hn : ∀ (j : Nat) (t : Sl) (u : V), ρ[j]? = some (some t) → σ[j]? = some (some u) → owA H t u (.ref p) → False) : Mt K g B (upd H p o) ρ σ := by
  have nx : ∀ (i : Nat) (s : Sl) (v : V), ρ[i]? = some (some s) → σ[i]? = some (some v) → ∀ q u, H q = some u → owA H s v (.ref q) → upd H p o q = some u := fun i s v e ev q u hq oo => by
    rw [upd_ne]
    · exact hq
    · rintro rfl
      exact hn i s v e ev oo
  refine ⟨⟨m.ext.b, fun b x e => ?_, fun b x e => ?_, m.ext.off⟩, m.len, fun i s e => ?_, fun i j s t v u z hij e1 e2 e3 e4 o1 o2 => ?_⟩
  · rw [upd_ne (ne_of_none e hg)]
    exact m.ext.h b x e
  · rw [upd_ne (ne_of_none e hb)]
    exact m.ext.in_ b x e
  · obtain ⟨v, h1, h2⟩ := m.sl i s e
    refine ⟨v, h1, h2.keep (Same.refl _) fun q u hq oo => ⟨nx i s v e h1 q u hq oo, ?_⟩⟩
    obtain ⟨q', u', e1, _, e3, _⟩ := h2.isA oo
    cases e1
    exact e3
  · obtain ⟨v', h1, h2⟩ := m.sl i s e1
    rw [e3] at h1
    cases h1
    obtain ⟨u', h3, h4⟩ := m.sl j t e2
    rw [e4] at h3
    cases h3
    exact m.ne i j s t v u z hij e1 e2 e3 e4 (h2.owB (nx i s v e1 e3) o1) (h4.owB (nx j t u e2 e4) o2)
/-- slot i is stored anew, what it owns is its own: only these objects are changed -/
theorem Mt.reown {i : Nat} {s s' : Sl} {v : V} {H' : Hp} (m : Mt K g B H ρ σ) (e : ρ[i]? = some (some s)) (ev : σ[i]? = some (some v)) (x : Ext g.B g.H B H') (hc : ∀ p us, H p = some us → ¬ owA H s v (.ref p) → H' p = some us) (hs : SlOk K g B H' s' v)
    (ho : ∀ z, owA H' s' v z → owA H s v z ∨ ∃ p, z = .ref p ∧ H p = none) :
    Mt K g B H' (ρ.set i (some s')) σ := by
  have ii : i < ρ.length := (List.getElem?_eq_some_iff.mp e).1
  have nx : ∀ (j : Nat) (t : Sl) (u : V), i ≠ j → ρ[j]? = some (some t) → σ[j]? = some (some u) → ∀ q us, H q = some us → owA H t u (.ref q) → H' q = some us := fun j t u hj ej eu q us hq oo => hc q us hq fun oo2 => m.ne i j s t v u _ hj e ej ev eu oo2 oo
  have key : ∀ (j : Nat) (t : Sl), (ρ.set i (some s'))[j]? = some (some t) → ∃ u, σ[j]? = some (some u) ∧ SlOk K g B H' t u := fun j t ej => by
    by_cases hj : i = j
    · subst hj
      rw [List.getElem?_set_self ii] at ej
      cases ej
      exact ⟨v, ev, hs⟩
    · rw [List.getElem?_set_ne hj] at ej
      obtain ⟨u, h1, h2⟩ := m.sl j t ej
      refine ⟨u, h1, h2.keep (Same.refl _) fun q w hq oo => ⟨nx j t u hj ej h1 q w hq oo, ?_⟩⟩
      obtain ⟨q', u', e1, _, e3, _⟩ := h2.isA oo
      cases e1
      exact e3
  have own : ∀ (j : Nat) (t : Sl) (u z : V), i ≠ j → ρ[j]? = some (some t) → σ[j]? = some (some u) → owA H' t u z → owA H t u z := fun j t u z hj ej eu oo => by
    obtain ⟨u', h1, h2⟩ := m.sl j t ej
    rw [eu] at h1
    cases h1
    exact h2.owB (nx j t u hj ej eu) oo
  have one : ∀ (j : Nat) (t : Sl) (u z : V), i ≠ j → ρ[j]? = some (some t) → σ[j]? = some (some u) → owA H' s' v z → owA H' t u z → False := fun j t u z hj ej eu o1 o2 => by
    rcases ho z o1 with o1 | ⟨p, rfl, hp⟩
    · exact m.ne i j s t v u z hj e ej ev eu o1 (own j t u z hj ej eu o2)
    · exact m.free hp ej eu (own j t u _ hj ej eu o2)
  refine ⟨x, by rw [List.length_set, m.len], key, fun j k t u w w2 z hjk e1 e2 e3 e4 o1 o2 => ?_⟩
  by_cases hj : i = j
  · subst hj
    rw [List.getElem?_set_self ii] at e1
    cases e1
    rw [ev] at e3
    cases e3
    rw [List.getElem?_set_ne hjk] at e2
    exact one k u w2 z hjk e2 e4 o1 o2
  · rw [List.getElem?_set_ne hj] at e1
    by_cases hk : i = k
    · subst hk
      rw [List.getElem?_set_self ii] at e2
      cases e2
      rw [ev] at e4
      cases e4
      exact one j t w z hj e1 e3 o2 o1
    · rw [List.getElem?_set_ne hk] at e2
      exact m.ne j k t u w w2 z hjk e1 e2 e3 e4 (own j t w z hj e1 e3 o1) (own k u w2 z hk e2 e4 o2)
theorem Ext.own (x : Ext B H B' H') {p : Addr} {o : HO} (hb : B' p = none) (hh : H p = none) : Ext B H B' (upd H' p o) :=
  ⟨x.b, fun b u e => by rw [upd_ne (ne_of_none e hh)]; exact x.h b u e, fun b u e => by rw [upd_ne (ne_of_none e hb)]; exact x.in_ b u e, x.off⟩
/-- the list of one's own in slot i is stored anew -/
theorem Mt.own {i : Nat} {ds es : List D} {a : Addr} {vs us : List V} (m : Mt K g B H ρ σ) (e : ρ[i]? = some (some (.ow ds))) (ev : σ[i]? = some (some (.ref a))) (r : Reps K B es us) :
    Mt K g B (upd H a (.lst us)) (ρ.set i (some (.ow es))) σ := by
  obtain ⟨v, h1, a', vs', e1, q1, q2, q3, q4⟩ := m.sl i _ e
  rw [ev] at h1
  cases h1
  cases e1
  refine m.reown (s := .ow ds) (s' := .ow es) (v := .ref a) e ev (m.ext.own q2 q3) (fun p ws h n => ?_) ⟨a, us, rfl, upd_same, q2, q3, r⟩ fun z o => .inl o
  rw [upd_ne]
  · exact h
  · rintro rfl
    exact n rfl
/-- a list of lists of one's own: one within is stored anew -/
theorem Inn.set (a : Addr) (us' : List V) (ds' : List D) (r' : Reps K B ds' us') : ∀ {dss : List (List D)} {vs : List V} {i : Nat}, Inn K B G H dss vs → vs[i]? = some (.ref a) → Inn K B G (upd H a (.lst us')) (dss.set i ds') vs
  | [], _, i, h, e => by
    have e1 : _ = ([] : List V) := h
    rw [e1] at e
    simp at e
  | ds :: dss, _, 0, ⟨p, us, r, rfl, h1, h2, h3, h4, h5, h⟩, e => by
    simp at e
    subst e
    refine ⟨p, us', r, rfl, upd_same, h2, h3, h4, r', ?_⟩
    exact h.mono' (Same.refl _) fun q w mq y1 y2 _ => ⟨by rw [upd_ne]; exact y1; rintro rfl; exact h4 mq, y2⟩
  | ds :: dss, _, i + 1, ⟨p, us, r, rfl, h1, h2, h3, h4, h5, h⟩, e => by
    have e' : r[i]? = some (.ref a) := by simpa using e
    refine ⟨p, us, r, rfl, ?_, h2, h3, h4, h5, Inn.set a us' ds' r' h e'⟩
    rw [upd_ne]
    · exact h1
    · rintro rfl
      exact h4 (List.mem_of_getElem? e')
theorem Mt.ooIn {i k : Nat} {dss : List (List D)} {es : List D} {a p : Addr} {vs us : List V} (m : Mt K g B H ρ σ) (e : ρ[i]? = some (some (.oo dss))) (ev : σ[i]? = some (some (.ref a))) (ea : H a = some (.lst vs)) (ep : vs[k]? = some (.ref p)) (r : Reps K B es us) :
    Mt K g B (upd H p (.lst us)) (ρ.set i (some (.oo (dss.set k es)))) σ := by
  obtain ⟨v, h1, a', vs', e1, q1, q2, q3, q4, q5⟩ := m.sl i _ e
  rw [ev] at h1
  cases h1
  cases e1
  rw [ea] at q1
  cases q1
  have pm : V.ref p ∈ vs := List.mem_of_getElem? ep
  have pa : a ≠ p := by rintro rfl; exact q4 pm
  obtain ⟨p', ws, z1, z2, z3, z4⟩ := q5.mem pm
  cases z1
  refine m.reown (s := .oo dss) (s' := .oo (dss.set k es)) (v := .ref a) e ev (m.ext.own z3 z4) (fun q xs h n => ?_) ⟨a, vs, rfl, by rw [upd_ne pa]; exact ea, q2, q3, q4, q5.set p us es r ep⟩ fun z o => .inl ?_
  · rw [upd_ne]
    · exact h
    · rintro rfl
      exact n (.inr ⟨a, vs, rfl, ea, pm⟩)
  · rcases o with o | ⟨b, xs, o1, o2, o3⟩
    · exact .inl o
    · cases o1
      rw [upd_ne pa, ea] at o2
      cases o2
      exact .inr ⟨a, vs, rfl, ea, o3⟩
/-- a new one is put in its place -/
theorem Inn.put (p : Addr) (us' : List V) (ds' : List D) (r' : Reps K B ds' us') (hp : H p = some (.lst us')) (hb : B p = none) (hg : G p = none) : ∀ {dss : List (List D)} {vs : List V} {i : Nat}, Inn K B G H dss vs → V.ref p ∉ vs → Inn K B G H (dss.set i ds') (vs.set i (.ref p))
  | [], _, i, h, _ => by
    have e1 : _ = ([] : List V) := h
    rw [e1]
    exact rfl
  | ds :: dss, _, 0, ⟨q, us, r, rfl, h1, h2, h3, h4, h5, h⟩, n => ⟨p, us', r, rfl, hp, hb, hg, fun z => n (List.mem_cons_of_mem _ z), r', h⟩
  | ds :: dss, _, i + 1, ⟨q, us, r, rfl, h1, h2, h3, h4, h5, h⟩, n => by
    refine ⟨q, us, r.set i (.ref p), rfl, h1, h2, h3, fun z => ?_, h5, Inn.put p us' ds' r' hp hb hg h fun z => n (List.mem_cons_of_mem _ z)⟩
    rcases List.mem_or_eq_of_mem_set z with z | z
    · exact h4 z
    · cases z
      exact n (List.mem_cons_self ..)
theorem Mt.ooPut {i k : Nat} {dss : List (List D)} {es : List D} {a p : Addr} {vs us : List V} (m : Mt K g B H ρ σ) (e : ρ[i]? = some (some (.oo dss))) (ev : σ[i]? = some (some (.ref a))) (ea : H a = some (.lst vs)) (hp : H p = some (.lst us)) (hb : B p = none) (hg : g.H p = none)
    (hn : ∀ (j : Nat) (t : Sl) (u : V), ρ[j]? = some (some t) → σ[j]? = some (some u) → owA H t u (.ref p) → False) (r : Reps K B es us) :
    Mt K g B (upd H a (.lst (vs.set k (.ref p)))) (ρ.set i (some (.oo (dss.set k es)))) σ := by
  obtain ⟨v, h1, a', vs', e1, q1, q2, q3, q4, q5⟩ := m.sl i _ e
  rw [ev] at h1
  cases h1
  cases e1
  rw [ea] at q1
  cases q1
  have pn : V.ref p ∉ vs := fun z => hn i _ _ e ev (.inr ⟨a, vs, rfl, ea, z⟩)
  have pa : a ≠ p := by rintro rfl; exact hn i _ _ e ev (.inl rfl)
  have an : V.ref a ∉ vs.set k (.ref p) := fun z => by
    rcases List.mem_or_eq_of_mem_set z with z | z
    · exact q4 z
    · cases z
      exact pa rfl
  have keep : Inn K B g.H (upd H a (.lst (vs.set k (.ref p)))) (dss.set k es) (vs.set k (.ref p)) :=
    (Inn.put p us es r hp hb hg q5 pn).mono' (Same.refl _) fun q w mq y1 y2 _ => ⟨by rw [upd_ne]; exact y1; rintro rfl; exact an mq, y2⟩
  have m0 : Mt K g B H (ρ.set i none) σ := m.kill i σ rfl fun _ _ => rfl
  have ii : i < ρ.length := (List.getElem?_eq_some_iff.mp e).1
  have na : ∀ (j : Nat) (t : Sl) (u : V), (ρ.set i none)[j]? = some (some t) → i ≠ j ∧ ρ[j]? = some (some t) := fun j t u ej => by
    by_cases hj : i = j
    · subst hj
      rw [List.getElem?_set_self ii] at ej
      cases ej
    · rw [List.getElem?_set_ne hj] at ej
      exact ⟨hj, ej⟩
  have m1 := m0.put (p := a) (o := .lst (vs.set k (.ref p))) q2 q3 fun j t u ej eu oo => m.ne i j _ t _ u _ (na j t u ej).1 e (na j t u ej).2 ev eu (.inl rfl) oo
  have hσ : σ = σ.set i (some (.ref a)) := by
    apply List.ext_getElem?
    intro j
    by_cases hj : i = j
    · subst hj
      rw [List.getElem?_set_self (by rw [← m.len]; exact ii), ev]
    · rw [List.getElem?_set_ne hj]
  have m2 := m1.set (i := i) (s := .oo (dss.set k es)) (v := .ref a) ⟨a, _, rfl, upd_same, q2, q3, an, keep⟩ fun z o j t u hj ej eu o2 => by
    obtain ⟨hj', ej'⟩ := na j t u ej
    obtain ⟨u', k1, k2⟩ := m.sl j t ej'
    rw [eu] at k1
    cases k1
    have o2' : owA H t u z := k2.owB (fun q ws hq oq => by
      rw [upd_ne]
      · exact hq
      · rintro rfl
        exact m.ne i j _ t _ u _ hj' e ej' ev eu (.inl rfl) oq) o2
    rcases o with rfl | ⟨b, xs, o1, o3, o4⟩
    · exact m.ne i j _ t _ u _ hj' e ej' ev eu (.inl rfl) o2'
    · cases o1
      rw [upd_same] at o3
      cases o3
      rcases List.mem_or_eq_of_mem_set o4 with o4 | o4
      · exact m.ne i j _ t _ u _ hj' e ej' ev eu (.inr ⟨a, vs, rfl, ea, o4⟩) o2'
      · cases o4
        exact hn j t u ej' eu o2'
  rw [← hσ, List.set_set] at m2
  exact m2
/-- what was in no slot's own is shared from now on -/
theorem Mt.share {p : Addr} {o : HO} (m : Mt K g B H ρ σ) (hp : H p = some o) (hb : B p = none) (hg : g.H p = none)
    (hn : ∀ (j : Nat) (t : Sl) (u : V), ρ[j]? = some (some t) → σ[j]? = some (some u) → owA H t u (.ref p) → False) : Mt K g (upd B p o) H ρ σ := by
  have s : Same B (upd B p o) := same_put hb
  refine ⟨m.ext.take hp hb hg, m.len, fun j t ej => ?_, m.ne⟩
  obtain ⟨w, z1, z2⟩ := m.sl j t ej
  refine ⟨w, z1, z2.keep s fun q u hq oo => ⟨hq, ?_⟩⟩
  obtain ⟨q', u', e1, _, e3, _⟩ := z2.isA oo
  cases e1
  rw [upd_ne]
  · exact e3
  · rintro rfl
    exact hn j t w ej z1 oo
/-- a slot is told otherwise -/
theorem Mt.tell {i : Nat} {s : Sl} {v : V} (m : Mt K g B H ρ σ) (e : σ[i]? = some (some v)) (h : SlOk K g B H s v) (n : isOw s = false) : Mt K g B H (ρ.set i (some s)) σ := by
  by_cases ii : i < ρ.length
  · have hσ : σ = σ.set i (some v) := by
      apply List.ext_getElem?
      intro j
      by_cases hj : i = j
      · subst hj
        rw [List.getElem?_set_self (by rw [← m.len]; exact ii), e]
      · rw [List.getElem?_set_ne hj]
    have m2 := m.set (i := i) h fun z o => by rw [owA_is o] at n; cases n
    rw [← hσ] at m2
    exact m2
  · rw [List.set_eq_of_length_le (by omega)]
    exact m
/-- the list of one's own in slot i is shared from now on -/
theorem Mt.frz {i : Nat} {ds : List D} (m : Mt K g B H ρ σ) (e : ρ[i]? = some (some (.ow ds))) : ∃ B', Same B B' ∧ Mt K g B' H (ρ.set i (some (.sh (.lst ds)))) σ := by
  obtain ⟨v, h1, a, vs, rfl, q1, q2, q3, q4⟩ := m.sl i _ e
  have ii : i < ρ.length := (List.getElem?_eq_some_iff.mp e).1
  have m0 : Mt K g B H (ρ.set i none) σ := m.kill i σ rfl fun _ _ => rfl
  have m1 := m0.share q1 q2 q3 fun j t u ej eu oo => by
    by_cases hj : i = j
    · subst hj
      rw [List.getElem?_set_self ii] at ej
      cases ej
    · rw [List.getElem?_set_ne hj] at ej
      exact m.ne i j _ t _ u _ hj e ej h1 eu rfl oo
  have m2 := m1.tell (s := .sh (.lst ds)) h1 ⟨a, vs, rfl, .inl (.inl upd_same), Reps.mono (same_put q2) _ _ q4⟩ rfl
  rw [List.set_set] at m2
  exact ⟨_, same_put q2, m2⟩
/-- lists that are in no slot's own are shared from now on -/
theorem Mt.shares {dss : List (List D)} : ∀ {B : Hp} {vs : List V}, Mt K g B H ρ σ → Inn K B g.H H dss vs →
    (∀ (j : Nat) (t : Sl) (u z : V), z ∈ vs → ρ[j]? = some (some t) → σ[j]? = some (some u) → owA H t u z → False) → ∃ B', Same B B' ∧ Mt K g B' H ρ σ ∧ Reps K B' (dss.map .lst) vs ∧ ∀ q, B q = none → V.ref q ∉ vs → B' q = none := by
  induction dss with
  | nil =>
    intro B vs m h n
    exact ⟨B, Same.refl _, m, h, fun _ z _ => z⟩
  | cons ds dss ih =>
    intro B vs m h n
    obtain ⟨p, us, r, rfl, h1, h2, h3, h4, h5, h6⟩ := h
    have m1 := m.share h1 h2 h3 fun j t u ej eu oo => n j t u _ (List.mem_cons_self ..) ej eu oo
    have s1 : Same B (upd B p (.lst us)) := same_put h2
    obtain ⟨B', s2, m2, r2, o2⟩ := ih m1 (h6.mono' s1 fun q ws mq k1 k2 _ => ⟨k1, by rw [upd_ne]; exact k2; rintro rfl; exact h4 mq⟩) fun j t u z mz => n j t u z (List.mem_cons_of_mem _ mz)
    refine ⟨B', s1.trans s2, m2, ⟨.ref p, r, rfl, ⟨p, us, rfl, .inl (.inl (s2 _ _ upd_same)), Reps.mono (s1.trans s2) _ _ h5⟩, r2⟩, fun q hq nq => o2 q ?_ fun z => nq (List.mem_cons_of_mem _ z)⟩
    rw [upd_ne]
    · exact hq
    · rintro rfl
      exact nq (List.mem_cons_self ..)
/-- the list of lists of one's own in slot i is shared from now on -/
theorem Mt.frzOO {i : Nat} {dss : List (List D)} (m : Mt K g B H ρ σ) (e : ρ[i]? = some (some (.oo dss))) : ∃ B', Same B B' ∧ Mt K g B' H (ρ.set i (some (.sh (.lst (dss.map .lst))))) σ := by
  obtain ⟨v, h1, a, vs, rfl, q1, q2, q3, q4, q5⟩ := m.sl i _ e
  have ii : i < ρ.length := (List.getElem?_eq_some_iff.mp e).1
  have m0 : Mt K g B H (ρ.set i none) σ := m.kill i σ rfl fun _ _ => rfl
  have na : ∀ (j : Nat) (t : Sl) (u z : V), owA H (.oo dss) (.ref a) z → (ρ.set i none)[j]? = some (some t) → σ[j]? = some (some u) → owA H t u z → False := fun j t u z o ej eu o2 => by
    by_cases hj : i = j
    · subst hj
      rw [List.getElem?_set_self ii] at ej
      cases ej
    · rw [List.getElem?_set_ne hj] at ej
      exact m.ne i j _ t _ u _ hj e ej h1 eu o o2
  obtain ⟨B1, s1, m1, r1, o1⟩ := m0.shares q5 fun j t u z mz => na j t u z (.inr ⟨a, vs, rfl, q1, mz⟩)
  have hb : B1 a = none := o1 a q2 q4
  have m2 := m1.share q1 hb q3 fun j t u => na j t u _ (.inl rfl)
  have m3 := m2.tell (s := .sh (.lst (dss.map .lst))) h1 ⟨a, vs, rfl, .inl (.inl upd_same), Reps.mono (same_put hb) _ _ r1⟩ rfl
  rw [List.set_set] at m3
  exact ⟨_, s1.trans (same_put hb), m3⟩
end
end Mi

namespace Mi
open PySem PySem.Spec L2

/-! ## 4. Judgements -/
structure Cf where
  P : Program
  w : World
  K : PySem.W.Frag
  mg : Str → Option Value
  base : Heap
  N : List Str
  sc : Scope
  k : Nat
  top : Bool
/-- a context of that configuration, in which the wish W about exceptions is taken -/
structure GX (c : Cf) (W : WX) (X : Cx) : Prop where
  P : X.prog = c.P
  w : X.w = c.w
  K : X.K = c.K
  mg : X.mg = c.mg
  base : X.base = c.base
  N : X.N = c.N
  nd : X.N.Nodup
  sc : X.env.scope = c.sc
  calm : X.calm = true
  tk : Takes X W
  po : PassesOwn (model X.prog X.w) X.A X.env X.xe
  room : Room c.k X.A
  fn : c.top = true → ∀ x, X.fn x = true
  top : c.top = true → X.stack = X.env :: X.outer ∧ X.env.frame = some X.env.locals
  ex : c.top = true → X.ex = []
/-- a name that may be stored -/
def LocC (c : Cf) (x : Str) : Prop := c.sc.names.lookup x = some .local ∨ (c.sc.names.lookup x = some .cell ∧ c.top = true)
theorem LocC.loc {c : Cf} {x : Str} (h : LocC c x) : Loc c.sc x := h.imp id And.left
/-- what is wanted of a result -/
def Po {α : Type} (c : Cf) (W : WX) (σ : St) (B H : Hp) (r : R α) (Q : α → Hp → Hp → Prop) : Prop :=
  match r with
  | .ok a => ∀ B' H', Ext B H B' H' → Q a B' H'
  | .exc x => ∀ (C : Addr) B' H', c.mg x = some (.ref C) → Ext B H B' H' → W (.ref C) none σ H'
  | .stuck => False
section
variable {c : Cf} {W : WX} {σ : St} {B H B' H' : Hp} {α β : Type}
theorem Po.ext {r : R α} {Q : α → Hp → Hp → Prop} (h : Po c W σ B H r Q) (x : Ext B H B' H') : Po c W σ B' H' r Q := by
  cases r with
  | ok a => exact fun B2 H2 y => h B2 H2 (x.trans y)
  | exc e => exact fun C B2 H2 m y => h C B2 H2 m (x.trans y)
  | stuck => exact h
theorem Po.imp {r : R α} {Q Q' : α → Hp → Hp → Prop} (h : Po c W σ B H r Q) (f : ∀ a B' H', Ext B H B' H' → Q a B' H' → Q' a B' H') : Po c W σ B H r Q' := by
  cases r with
  | ok a => exact fun B2 H2 y => f a B2 H2 y (h B2 H2 y)
  | exc e => exact h
  | stuck => exact h
theorem Po.bind {r : R α} {k : α → R β} {Q : β → Hp → Hp → Prop} (h : Po c W σ B H (r.bind k) Q) : Po c W σ B H r fun a B' H' => Po c W σ B' H' (k a) Q := by
  cases r with
  | ok a =>
    intro B2 H2 y
    exact Po.ext (r := k a) h y
  | exc e => exact h
  | stuck => exact h
theorem Po.map {r : R α} {f : α → β} {Q : β → Hp → Hp → Prop} (h : Po c W σ B H (r.map f) Q) : Po c W σ B H r fun a B' H' => Q (f a) B' H' := by
  cases r with
  | ok a => exact h
  | exc e => exact h
  | stuck => exact h
end
/-- as Rep, but the outmost list may stand in H alone -/
def RepT (K : PySem.W.Frag) (B H : Hp) : D → V → Prop
  | .lst ds, v => ∃ a vs, v = .ref a ∧ SqL K H a vs ∧ Reps K B ds vs
  | d, v => Rep K B d v
theorem Rep.t {K : PySem.W.Frag} {B H : Hp} (s : Same B H) {d : D} {v : V} (h : Rep K B d v) : RepT K B H d v := by
  cases d with
  | lst ds =>
    obtain ⟨a, vs, e, q, r⟩ := h
    exact ⟨a, vs, e, s.seq q, r⟩
  | _ => exact h
theorem RepT.go {K : PySem.W.Frag} {B H B' H' : Hp} {d : D} {v : V} (h : RepT K B H d v) (x : Ext B H B' H') : RepT K B' H' d v := by
  cases d with
  | lst ds =>
    obtain ⟨a, vs, e, q, r⟩ := h
    exact ⟨a, vs, e, x.h.seq q, Reps.mono x.b _ _ r⟩
  | _ => exact Rep.mono x.b _ _ h
/-- arguments -/
def ArgOk (K : PySem.W.Frag) (B H : Hp) : Sl → V → Prop
  | .sh d, v => Rep K B d v
  | .bo ds, v => ∃ a vs, v = .ref a ∧ SqL K H a vs ∧ Reps K B ds vs
  | .ow _, _ => False
  | .lt _ _, _ => False
  | .oo _, _ => False
  | .mu _ _, _ => False
  | .mr _ _, _ => False
def ArgsOk (K : PySem.W.Frag) (B H : Hp) : List Sl → List V → Prop
  | [], vs => vs = []
  | s :: ss, vs => ∃ v r, vs = v :: r ∧ ArgOk K B H s v ∧ ArgsOk K B H ss r
theorem ArgOk.go {K : PySem.W.Frag} {B H B' H' : Hp} {s : Sl} {v : V} (h : ArgOk K B H s v) (x : Ext B H B' H') : ArgOk K B' H' s v := by
  cases s with
  | sh d => exact Rep.mono x.b _ _ h
  | bo ds =>
    obtain ⟨a, vs, e, q, r⟩ := h
    exact ⟨a, vs, e, x.h.seq q, Reps.mono x.b _ _ r⟩
  | ow ds => exact h
  | lt k ds => exact h
  | oo ds => exact h
  | mu k o => exact h
  | mr d os => exact h
theorem ArgsOk.go {K : PySem.W.Frag} {B H B' H' : Hp} (x : Ext B H B' H') : ∀ {ss : List Sl} {vs : List V}, ArgsOk K B H ss vs → ArgsOk K B' H' ss vs
  | [], _, h => h
  | s :: ss, _, ⟨v, r, e, h1, h2⟩ => ⟨v, r, e, h1.go x, ArgsOk.go x h2⟩
theorem ArgsOk.length {K : PySem.W.Frag} {B H : Hp} : ∀ {ss : List Sl} {vs : List V}, ArgsOk K B H ss vs → ss.length = vs.length
  | [], _, h => by
    have e : _ = ([] : List V) := h
    rw [e] <;> rfl
  | s :: ss, _, ⟨v, r, e, h1, h2⟩ => by rw [e, List.length_cons, List.length_cons, ArgsOk.length h2]

def AdE (c : Cf) (W : WX) (t : TE) (f : Ev) : Prop := ∀ (g : Gd) (B H : Hp) (ρ : En) (σ : St) (Q : VK), Mt c.K g B H ρ σ →
  Po c W σ B H (f ρ) (fun d B' H' => ∀ v, Rep c.K B' d v → Q v H') → t σ H Q
def AdB (c : Cf) (W : WX) (t : TE) (f : Ev) : Prop := ∀ (g : Gd) (B H : Hp) (ρ : En) (σ : St) (Q : VK), Mt c.K g B H ρ σ →
  Po c W σ B H (f ρ) (fun d B' H' => ∀ v, RepT c.K B' H' d v → Q v H') → t σ H Q
def AdF (c : Cf) (W : WX) (t : TE) (f : Es) : Prop := ∀ (g : Gd) (B H : Hp) (ρ : En) (σ : St) (Q : VK), Mt c.K g B H ρ σ →
  Po c W σ B H (f ρ) (fun ds B' H' => ∀ p vs, H' p = some (.lst vs) → B' p = none → H p = none → Reps c.K B' ds vs → Q (.ref p) H') → t σ H Q
def AdT (c : Cf) (W : WX) (t : TT) (f : Et) : Prop := ∀ (g : Gd) (B H : Hp) (ρ : En) (σ : St) (Q : Bool → Hp → Prop), Mt c.K g B H ρ σ →
  Po c W σ B H (f ρ) (fun b _ H' => Q b H') → t σ H Q
def AdA (c : Cf) (W : WX) (t : TA) (f : En → R (List Sl)) : Prop := ∀ (g : Gd) (B H : Hp) (ρ : En) (σ : St) (Q : List V → Hp → Prop), Mt c.K g B H ρ σ →
  Po c W σ B H (f ρ) (fun ss B' H' => ∀ vs, ArgsOk c.K B' H' ss vs → Q vs H') → t σ H Q
/-- e as a value; as a value that is looked at alone; as a new list; as a test -/
def SE (c : Cf) (W : WX) (e : Expr) (f : Ev) : Prop := ∃ t : TE, (∀ X, GX c W X → PE X e t) ∧ AdE c W t f
def SB (c : Cf) (W : WX) (e : Expr) (f : Ev) : Prop := ∃ t : TE, (∀ X, GX c W X → PE X e t) ∧ AdB c W t f
def SF (c : Cf) (W : WX) (e : Expr) (f : Es) : Prop := ∃ t : TE, (∀ X, GX c W X → PE X e t) ∧ AdF c W t f
def ST (c : Cf) (W : WX) (e : Expr) (f : Et) : Prop := ∃ t : TT, (∀ X, GX c W X → PT X e t) ∧ AdT c W t f
def SW (c : Cf) (W : WX) (e : Expr) (f : Et) : Prop := ∃ t : TT, (∀ X, GX c W X → PW X e t) ∧ AdT c W t f
def SA (c : Cf) (W : WX) (es : List Expr) (f : En → R (List Sl)) : Prop := ∃ t : TA, (∀ X, GX c W X → PA X es t) ∧ AdA c W t f

/-! ## 5. Expressions -/
@[simp] def eD (d : D) : Ev := fun _ => .ok d
@[simp] def eVar (i : Nat) : Ev := fun ρ => match ρ[i]? with
  | some (some (.sh d)) => .ok d
  | _ => .stuck
@[simp] def eLook (i : Nat) : Ev := fun ρ => match ρ[i]? with
  | some (some (.sh d)) => .ok d
  | some (some (.ow ds)) => .ok (.lst ds)
  | some (some (.bo ds)) => .ok (.lst ds)
  | some (some (.lt _ ds)) => .ok (.lst ds)
  | some (some (.mu _ (.lst ds))) => .ok (.lst ds)
  | _ => .stuck
@[simp] def eLst (f : Es) : Ev := fun ρ => (f ρ).map .lst
@[simp] def eBin (o : D → D → R D) (f g : Ev) : Ev := fun ρ => (f ρ).bind fun x => (g ρ).bind fun y => o x y
@[simp] def eUn (o : D → R D) (f : Ev) : Ev := fun ρ => (f ρ).bind o

section
variable {c : Cf} {W : WX} {a b e : Expr} {f f' g : Ev} {pos : Pos}
theorem ok_refl {α : Type} {σ : St} {B H : Hp} {x : α} {Q : α → Hp → Hp → Prop} (h : Po c W σ B H (.ok x) Q) (s : Same B H) : Q x B H := h B H (.refl s)

theorem se_int {i : Int} {j : Nat} : SE c W (.Constant (.int i) j pos) (eD (.int i)) :=
  ⟨_, fun _ _ => pe_int, fun _ _ _ _ _ _ m h => ok_refl h m.sub _ rfl⟩
theorem se_bl {i : Bool} {j : Nat} : SE c W (.Constant (.bool i) j pos) (eD (.bl i)) :=
  ⟨_, fun _ _ => pe_bl, fun _ _ _ _ _ _ m h => ok_refl h m.sub _ rfl⟩
theorem se_non {j : Nat} : SE c W (.Constant .none j pos) (eD .non) :=
  ⟨_, fun _ _ => pe_non, fun _ _ _ _ _ _ m h => ok_refl h m.sub _ rfl⟩
theorem se_str {i : Str} {j : Nat} : SE c W (.Constant (.str i) j pos) (eD (.str i)) :=
  ⟨_, fun _ _ => pe_str, fun _ _ _ _ _ _ m h => ok_refl h m.sub _ rfl⟩
theorem se_var {i : Nat} {x : Str} (hN : c.N[i]? = some x) (hv : Vis c.sc x) (hd : (x == ("__debug__" : Str)) = false := by decide) (hcd : (x == ("__classdict__" : Str)) = false := by decide) : SE c W (.Name x pos) (eVar i) := by
  refine ⟨tVar i, fun X G => pe_var (by rw [G.N]; exact hN) (by rw [G.sc]; exact hv) hd hcd, fun g B H ρ σ Q m h => ?_⟩
  unfold eVar at h
  split at h
  · rename_i d e
    obtain ⟨v, h1, h2⟩ := m.sl i _ e
    exact ⟨v, h1, ok_refl h m.sub v h2⟩
  · exact h.elim
theorem sb_look {i : Nat} {x : Str} (hN : c.N[i]? = some x) (hv : Vis c.sc x) (hd : (x == ("__debug__" : Str)) = false := by decide) (hcd : (x == ("__classdict__" : Str)) = false := by decide) : SB c W (.Name x pos) (eLook i) := by
  refine ⟨tVar i, fun X G => pe_var (by rw [G.N]; exact hN) (by rw [G.sc]; exact hv) hd hcd, fun g B H ρ σ Q m h => ?_⟩
  unfold eLook at h
  split at h
  · rename_i d e
    obtain ⟨v, h1, h2⟩ := m.sl i _ e
    exact ⟨v, h1, ok_refl h m.sub v (Rep.t m.sub h2)⟩
  · rename_i d e
    obtain ⟨v, h1, p, vs, rfl, q1, q2, q3, q4⟩ := m.sl i _ e
    exact ⟨_, h1, ok_refl h m.sub _ ⟨p, vs, rfl, SqL.of q1, q4⟩⟩
  · rename_i d e
    obtain ⟨v, h1, p, vs, rfl, q1, q2⟩ := m.sl i _ e
    exact ⟨_, h1, ok_refl h m.sub _ ⟨p, vs, rfl, m.ext.h.seq q1, q2⟩⟩
  · rename_i k d e
    obtain ⟨v, h1, p, vs, rfl, q0, q1, q2⟩ := m.sl i _ e
    exact ⟨_, h1, ok_refl h m.sub _ ⟨p, vs, rfl, m.ext.h.seq q1, q2⟩⟩
  · rename_i k d e
    obtain ⟨v, h1, _, p, vs, rfl, q1, q2, q3, q4⟩ := m.sl i _ e
    exact ⟨_, h1, ok_refl h m.sub _ ⟨p, vs, rfl, SqL.of q1, q4⟩⟩
  · exact h.elim
theorem sb_of (h : SE c W e f) : SB c W e f := by
  obtain ⟨t, p, a⟩ := h
  exact ⟨t, p, fun g B H ρ σ Q m h => a g B H ρ σ Q m (h.imp fun d B' H' x q v r => q v (Rep.t x.in_ r))⟩
theorem se_lst {f : Es} (h : SF c W e f) : SE c W e (eLst f) := by
  obtain ⟨t, p, a⟩ := h
  refine ⟨t, p, fun g B H ρ σ Q m h => a g B H ρ σ Q m ?_⟩
  have h' := Po.map (f := D.lst) h
  cases e : f ρ with
  | ok ds =>
    rw [e] at h'
    intro B' H' x p vs q1 q2 q3 q4
    exact h' _ _ (x.take q1 q2 q3) _ ⟨p, vs, rfl, .inl (.inl upd_same), Reps.mono (same_put q2) _ _ q4⟩
  | exc e2 =>
    rw [e] at h'
    exact h'
  | stuck =>
    rw [e] at h'
    exact h'
theorem sb_lst {f : Es} (h : SF c W e f) : SB c W e (eLst f) := sb_of (se_lst h)
/-- a constant of the module -/
theorem se_glob {x : Str} {d : D} {v : V} {u : Value} (hg : c.sc.names.lookup x = some .globalImplicit) (hm : c.mg x = some u) (r : RelV v u) (hd : ∀ B v', Rep c.K B d v' ↔ v' = v) (hdb : (x == ("__debug__" : Str)) = false := by decide) : SE c W (.Name x pos) (eD d) :=
  ⟨tC v, fun X G => pe_glob (by show X.env.scope.names.lookup x = _; rw [G.sc]; exact hg) (by rw [G.mg]; exact hm) r hdb, fun _ _ _ _ _ _ m h => ok_refl h m.sub _ ((hd _ _).mpr rfl)⟩

/-- what an operator's reading asks -/
abbrev Ad2 (c : Cf) (W : WX) (r : R2) (o : D → D → R D) : Prop := ∀ (σ : St) (B H : Hp) (x y : D) (v u : V) (Q : VK), Same B H → RepT c.K B H x v → RepT c.K B H y u →
  Po c W σ B H (o x y) (fun d B' H' => ∀ v, Rep c.K B' d v → Q v H') → r v u H Q
theorem ad_bin {r : R2} {o : D → D → R D} {ta tb : TE} (hr : Ad2 c W r o) (ha : AdB c W ta f) (hb : AdB c W tb g) : AdE c W (tOp r ta tb) (eBin o f g) := by
  intro G B H ρ σ Q m h
  refine ha G B H ρ σ _ m ((Po.bind h).imp fun x B1 H1 e1 h1 v r1 => ?_)
  refine hb G B1 H1 ρ σ _ (m.go e1) ((Po.bind h1).imp fun y B2 H2 e2 h2 u r2 => ?_)
  exact hr σ B2 H2 x y v u Q e2.in_ (r1.go e2) r2 h2
theorem se_bin {op : Operator} {r : R2} {o : D → D → R D} (ho : ∀ X, GX c W X → OpR X (binaryOp op) r) (hr : Ad2 c W r o) (ha : SB c W a f) (hb : SB c W b g) : SE c W (.BinOp a op b pos) (eBin o f g) := by
  obtain ⟨ta, pa, aa⟩ := ha
  obtain ⟨tb, pb, ab⟩ := hb
  exact ⟨_, fun X G => pe_op (ho X G) (pa X G) (pb X G), ad_bin hr aa ab⟩
theorem se_cmp {op : CmpOp} {r : R2} {o : D → D → R D} (ho : ∀ X, GX c W X → OpR X (compareOp op) r) (hr : Ad2 c W r o) (hm : behindInMarks op b = false) (ha : SB c W a f) (hb : SB c W b g) : SE c W (.Compare a [op] [b] pos) (eBin o f g) := by
  obtain ⟨ta, pa, aa⟩ := ha
  obtain ⟨tb, pb, ab⟩ := hb
  exact ⟨_, fun X G => pe_cmpR (ho X G) (pa X G) (pb X G) hm, ad_bin hr aa ab⟩
/-- a value that is a truth, as a test -/
def D.bool : D → R Bool
  | .bl b => .ok b
  | _ => .stuck
@[simp] theorem D.bool_bl {b : Bool} : (D.bl b).bool = .ok b := rfl
@[simp] def tst (f : Ev) : Et := fun ρ => (f ρ).bind D.bool
theorem ad_tst {t : TE} (h : AdE c W t f) : AdT c W (tTest t) (tst f) := by
  intro g B H ρ σ Q m q
  refine h g B H ρ σ _ m ((Po.bind q).imp fun d B1 H1 e1 h1 v r1 => ?_)
  cases d with
  | bl b =>
    cases (show v = .bl b from r1)
    exact ⟨b, rfl, ok_refl h1 e1.in_⟩
  | _ => exact h1.elim
theorem st_cmp {op : CmpOp} {r : R2} {o : D → D → R D} (ho : ∀ X, GX c W X → OpR X (compareOp op) r) (hr : Ad2 c W r o) (hm : behindInMarks op b = false) (ha : SB c W a f) (hb : SB c W b g) : ST c W (.Compare a [op] [b] pos) (tst (eBin o f g)) := by
  obtain ⟨ta, pa, aa⟩ := ha
  obtain ⟨tb, pb, ab⟩ := hb
  exact ⟨_, fun X G => pt_cmpR (ho X G) (pa X G) (pb X G) hm, ad_tst (ad_bin hr aa ab)⟩
theorem st_val (he : ∀ env whole, isTrue e env whole = (do let v ← whole; standAt e.pos; holding [v] (truthy v))) (h : SE c W e f) : ST c W e (tst f) := by
  obtain ⟨t, p, a⟩ := h
  exact ⟨_, fun X G => pt_val (p X G) (fun whole => he X.env whole), ad_tst a⟩

/-! ### operators -/
def divOk (j : Int) : Bool := decide (j.natAbs.log2 < 9000)
def mulOk (i j : Int) : Bool := decide (i.natAbs.log2 + j.natAbs.log2 < 130000000)
@[simp] noncomputable def oAdd : D → D → R D
  | .int i, .int j => .ok (.int (i + j))
  | .str i, .str j => if i.length + j.length ≤ szL then .ok (.str (i ++ j)) else .stuck
  | _, _ => .stuck
@[simp] def oSub : D → D → R D
  | .int i, .int j => .ok (.int (i - j))
  | _, _ => .stuck
@[simp] def oMul : D → D → R D
  | .int i, .int j => if mulOk i j = true then .ok (.int (i * j)) else .stuck
  | _, _ => .stuck
@[simp] def oDiv : D → D → R D
  | .int i, .int j => if 0 < j ∧ divOk j = true then .ok (.int (i / j)) else .stuck
  | _, _ => .stuck
@[simp] def oMod : D → D → R D
  | .int i, .int j => if 0 < j then .ok (.int (i % j)) else .stuck
  | _, _ => .stuck
@[simp] def oPow : D → D → R D
  | .int i, .int j => if 0 ≤ j ∧ j ≤ 1000000 ∧ i.natAbs < 2 ^ 64 then .ok (.int (i ^ j.toNat)) else .stuck
  | _, _ => .stuck
@[simp] def oShl : D → D → R D
  | .int i, .int j => if 0 ≤ j ∧ j ≤ 1000000 ∧ i.natAbs < 2 ^ 64 then .ok (.int (i * 2 ^ j.toNat)) else .stuck
  | _, _ => .stuck
theorem mulOk.ok {i j : Int} (h : mulOk i j = true) : PySem.IntMulOk i j := by
  have b : ∀ x : Int, Builtin.Int.intBits x ≤ x.natAbs.log2 + 1 := fun x => by
    unfold Builtin.Int.intBits
    split <;> omega
  have h1 := b i
  have h2 := b j
  have h3 : i.natAbs.log2 + j.natAbs.log2 < 130000000 := of_decide_eq_true h
  have e : bitsLine = 134217728 := by decide
  unfold PySem.IntMulOk
  intro z
  rw [Bool.and_eq_true] at z
  have z2 := z.2
  unfold Builtin.Int.intTooBig at z2
  have z3 := of_decide_eq_true z2
  rw [e] at z3
  omega
theorem op_mulL {X : Cx} : OpR X (binaryOp .Mult) (rI (fun i j => mulOk i j = true) fun i j => .int (i * j)) := opI fun _ _ _ _ _ _ _ hc q => PyProof.Rows.mul_int q (mulOk.ok hc)
theorem se_add (ha : SB c W a f) (hb : SB c W b g) : SE c W (.BinOp a .Add b pos) (eBin oAdd f g) := by
  refine se_bin (fun X G => OpR.or op_add op_add_str) (fun σ B H x y v u Q s r1 r2 h => ?_) ha hb
  cases x with
  | int i => cases y with
    | int j => exact .inl ⟨i, j, r1, r2, ok_refl h s _ rfl⟩
    | _ => exact h.elim
  | str i => cases y with
    | str j =>
      unfold oAdd at h
      dsimp only at h
      split at h
      · rename_i hz
        rw [szL_eq] at hz
        exact .inr ⟨i, j, r1, r2, hz, ok_refl h s _ rfl⟩
      · exact h.elim
    | _ => exact h.elim
  | _ => exact h.elim
theorem se_sub (ha : SB c W a f) (hb : SB c W b g) : SE c W (.BinOp a .Sub b pos) (eBin oSub f g) := by
  refine se_bin (fun X G => op_sub) (fun σ B H x y v u Q s r1 r2 h => ?_) ha hb
  cases x with
  | int i => cases y with
    | int j => exact ⟨i, j, r1, r2, ok_refl h s _ rfl⟩
    | _ => exact h.elim
  | _ => exact h.elim
theorem se_mul (ha : SB c W a f) (hb : SB c W b g) : SE c W (.BinOp a .Mult b pos) (eBin oMul f g) := by
  refine se_bin (fun X G => op_mulL) (fun σ B H x y v u Q s r1 r2 h => ?_) ha hb
  cases x with
  | int i => cases y with
    | int j =>
      unfold oMul at h
      dsimp only at h
      split at h
      · rename_i hz
        exact ⟨i, j, r1, r2, hz, ok_refl h s _ rfl⟩
      · exact h.elim
    | _ => exact h.elim
  | _ => exact h.elim
theorem se_div (ha : SB c W a f) (hb : SB c W b g) : SE c W (.BinOp a .FloorDiv b pos) (eBin oDiv f g) := by
  refine se_bin (fun X G => op_fdivW) (fun σ B H x y v u Q s r1 r2 h => ?_) ha hb
  cases x with
  | int i => cases y with
    | int j =>
      unfold oDiv at h
      dsimp only at h
      split at h
      · rename_i hz
        exact ⟨i, j, r1, r2, ⟨hz.1, of_decide_eq_true hz.2⟩, ok_refl h s _ rfl⟩
      · exact h.elim
    | _ => exact h.elim
  | _ => exact h.elim
theorem se_mod (ha : SB c W a f) (hb : SB c W b g) : SE c W (.BinOp a .Mod b pos) (eBin oMod f g) := by
  refine se_bin (fun X G => op_mod) (fun σ B H x y v u Q s r1 r2 h => ?_) ha hb
  cases x with
  | int i => cases y with
    | int j =>
      unfold oMod at h
      dsimp only at h
      split at h
      · rename_i hz
        exact ⟨i, j, r1, r2, hz, ok_refl h s _ rfl⟩
      · exact h.elim
    | _ => exact h.elim
  | _ => exact h.elim
theorem se_pow (ha : SB c W a f) (hb : SB c W b g) : SE c W (.BinOp a .Pow b pos) (eBin oPow f g) := by
  refine se_bin (fun X G => op_pow) (fun σ B H x y v u Q s r1 r2 h => ?_) ha hb
  cases x with
  | int i => cases y with
    | int j =>
      unfold oPow at h
      dsimp only at h
      split at h
      · rename_i hz
        exact ⟨i, j, r1, r2, hz, ok_refl h s _ rfl⟩
      · exact h.elim
    | _ => exact h.elim
  | _ => exact h.elim
theorem se_shl (ha : SB c W a f) (hb : SB c W b g) : SE c W (.BinOp a .LShift b pos) (eBin oShl f g) := by
  refine se_bin (fun X G => op_shl) (fun σ B H x y v u Q s r1 r2 h => ?_) ha hb
  cases x with
  | int i => cases y with
    | int j =>
      unfold oShl at h
      dsimp only at h
      split at h
      · rename_i hz
        exact ⟨i, j, r1, r2, hz, ok_refl h s _ rfl⟩
      · exact h.elim
    | _ => exact h.elim
  | _ => exact h.elim
@[simp] def oNeg : D → R D
  | .int i => .ok (.int (-i))
  | _ => .stuck
theorem se_neg (ha : SB c W a f) : SE c W (.UnaryOp .USub a pos) (eUn oNeg f) := by
  obtain ⟨ta, pa, aa⟩ := ha
  refine ⟨_, fun X G => pe_un un_neg (pa X G), fun G B H ρ σ Q m h => ?_⟩
  refine aa G B H ρ σ _ m ((Po.bind h).imp fun x B1 H1 e1 h1 v r1 => ?_)
  cases x with
  | int i => exact ⟨i, r1, ok_refl h1 e1.in_ _ rfl⟩
  | _ => exact h1.elim

/-! ### comparisons -/
mutual
@[simp] def D.py : D → PyData
  | .non => .none
  | .bl b => .bool b
  | .int i => .int i
  | .str x => .str x
  | .tup ds => .tuple (D.pys ds)
  | .lst ds => .list (D.pys ds)
  | .exo _ => .dict []
@[simp] def D.pys : List D → List PyData
  | [] => []
  | d :: ds => d.py :: D.pys ds
end
mutual
theorem Rep.dp {K : PySem.W.Frag} {B H : Hp} (s : Same B H) : ∀ (d : D) (v : V), d.py.canLay0 = true → Rep K B d v → Dp K H v d.py
  | .non, _, _, h => by cases (show _ = V.non from h); exact .non
  | .bl b, _, _, h => by cases (show _ = V.bl b from h); exact .bl b
  | .int i, _, _, h => by cases (show _ = V.int i from h); exact .int i
  | .str x, _, _, h => by cases (show _ = V.str x from h); exact .str x
  | .tup ds, _, c, h => by
    obtain ⟨a, vs, rfl, q, r⟩ := h
    exact .tup (Same.seqT s q) (Reps.dp s ds vs c r)
  | .lst ds, _, c, h => by
    obtain ⟨a, vs, rfl, q, r⟩ := h
    exact .lst (s.seq q) (Reps.dp s ds vs c r)
  | .exo _, _, c, _ => by cases c
theorem Reps.dp {K : PySem.W.Frag} {B H : Hp} (s : Same B H) : ∀ (ds : List D) (vs : List V), PyData.canLayAll0 (D.pys ds) = true → Reps K B ds vs → DpAll K H vs (D.pys ds)
  | [], _, _, h => by cases (show _ = ([] : List V) from h); exact .nil
  | d :: ds, _, c, h => by
    obtain ⟨v, r, rfl, h1, h2⟩ := h
    have c' := Bool.and_eq_true_iff.mp (show (d.py.canLay0 && PyData.canLayAll0 (D.pys ds)) = true from c)
    exact .cons (Rep.dp s d v c'.1 h1) (Reps.dp s ds r c'.2 h2)
end
theorem RepT.dp {K : PySem.W.Frag} {B H : Hp} (s : Same B H) {d : D} {v : V} (h : RepT K B H d v) (c : SeqAt.shaped d.py = true) : Dp K H v d.py := by
  have c : d.py.canLay0 = true := (Bool.and_eq_true_iff.mp c).1
  cases d with
  | lst ds =>
    obtain ⟨a, vs, rfl, q, r⟩ := h
    exact .lst q (Reps.dp s ds vs c r)
  | _ => exact Rep.dp s _ _ c h
/-- == of two data: scalars at once, else by the library's data -/
def oEq : D → D → R D
  | .non, .non => .ok (.bl true) | .non, .int _ => .ok (.bl false) | .int _, .non => .ok (.bl false) | .non, .bl _ => .ok (.bl false) | .bl _, .non => .ok (.bl false) | .non, .str _ => .ok (.bl false) | .str _, .non => .ok (.bl false)
  | .int i, .int j => .ok (.bl (decide (i = j))) | .bl i, .bl j => .ok (.bl (decide (i = j))) | .str i, .str j => .ok (.bl (decide (i = j)))
  | x, y => if SeqAt.shaped x.py = true ∧ SeqAt.shaped y.py = true then .ok (.bl (PyData.eqv x.py y.py)) else .stuck
@[simp] def notD : D → R D
  | .bl b => .ok (.bl (!b))
  | _ => .stuck
@[simp] def oNe : D → D → R D := fun x y => (oEq x y).bind notD
theorem hu_room {k : Nat} {A : Around} (h : Room k A) : A.units + 64 < cLine := h.units
theorem eq_ad {p : Bool} {r1 : R2} {r2 : R2} (h1 : ∀ x y H (Q : VK), scal x y = true → Q (.bl (if p then !decide (x = y) else decide (x = y))) H → r1 x y H Q)
    (h2 : ∀ x y H (Q : VK) d e, Dp c.K H x d → Dp c.K H y e → SeqAt.shaped d = true → SeqAt.shaped e = true → Q (.bl (if p then !PyData.eqv d e else PyData.eqv d e)) H → r2 x y H Q) :
    Ad2 c W (fun x y H Q => r1 x y H Q ∨ r2 x y H Q) (if p then oNe else oEq) := by
  intro σ B H x y v u Q s r1' r2' h
  have deep : ∀ (x y : D) (v u : V), RepT c.K B H x v → RepT c.K B H y u →
      Po c W σ B H (R.bind (if SeqAt.shaped x.py = true ∧ SeqAt.shaped y.py = true then .ok (.bl (PyData.eqv x.py y.py)) else .stuck) (if p then notD else R.ok)) (fun d B' H' => ∀ v, Rep c.K B' d v → Q v H') → r1 v u H Q ∨ r2 v u H Q := fun x y v u a1 a2 h => by
    split at h
    · rename_i hz
      refine .inr (h2 v u H Q _ _ (a1.dp s hz.1) (a2.dp s hz.2) hz.1 hz.2 ?_)
      cases p <;> exact ok_refl h s _ rfl
    · exact h.elim
  have h' : Po c W σ B H ((oEq x y).bind (if p then notD else R.ok)) (fun d B' H' => ∀ v, Rep c.K B' d v → Q v H') := by
    cases p
    · have e : (oEq x y).bind R.ok = oEq x y := by cases oEq x y <;> rfl
      show Po c W σ B H ((oEq x y).bind R.ok) _
      rw [e]
      exact h
    · exact h
  have flat : ∀ {k : Bool}, scal v u = true → decide (v = u) = k → Po c W σ B H ((R.ok (.bl k)).bind (if p then notD else R.ok)) (fun d B' H' => ∀ v, Rep c.K B' d v → Q v H') → r1 v u H Q ∨ r2 v u H Q := fun {k} hs e q => by
    refine .inl (h1 v u H Q hs ?_)
    rw [e]
    cases p <;> exact ok_refl q s _ rfl
  cases x <;> cases y
  all_goals first
    | (cases (show v = _ from r1'); cases (show u = _ from r2'); exact flat rfl (by simp) h')
    | exact deep _ _ _ _ r1' r2' h'
theorem sc_eq : Ad2 c W (fun x y H Q => rEq x y H Q ∨ rEqD c.K x y H Q) oEq := eq_ad (p := false) (fun _ _ _ _ a b => ⟨a, b⟩) fun _ _ _ _ d e a b s1 s2 q => ⟨d, e, a, b, s1, s2, q⟩
theorem sc_ne : Ad2 c W (fun x y H Q => rNe x y H Q ∨ rNeD c.K x y H Q) oNe := eq_ad (p := true) (fun _ _ _ _ a b => ⟨a, b⟩) fun _ _ _ _ d e a b s1 s2 q => ⟨d, e, a, b, s1, s2, q⟩
theorem oc_eq {X : Cx} (G : GX c W X) : OpR X (compareOp .Eq) (fun x y H Q => rEq x y H Q ∨ rEqD c.K x y H Q) := by
  rw [← G.K]
  exact OpR.or op_eq (op_eqD (hu_room G.room))
theorem oc_ne {X : Cx} (G : GX c W X) : OpR X (compareOp .NotEq) (fun x y H Q => rNe x y H Q ∨ rNeD c.K x y H Q) := by
  rw [← G.K]
  exact OpR.or op_ne (op_neD (hu_room G.room))
@[simp] def oCmp (p : Int → Int → Bool) : D → D → R D
  | .int i, .int j => .ok (.bl (p i j))
  | _, _ => .stuck
abbrev oLt := oCmp fun i j => decide (i < j)
abbrev oLe := oCmp fun i j => decide (i ≤ j)
abbrev oGt := oCmp fun i j => decide (j < i)
abbrev oGe := oCmp fun i j => decide (j ≤ i)
theorem sc_cmp {p : Int → Int → Bool} : Ad2 c W (rI0 fun i j => .bl (p i j)) (oCmp p) := by
  intro σ B H x y v u Q s r1 r2 h
  cases x with
  | int i => cases y with
    | int j => exact ⟨i, j, r1, r2, ok_refl h s _ rfl⟩
    | _ => exact h.elim
  | _ => exact h.elim
@[simp] def isNon : D → Bool
  | .non => true
  | _ => false
theorem RepT.non_iff {K : PySem.W.Frag} {B H : Hp} {d : D} {v : V} (h : RepT K B H d v) : decide (v = .non) = isNon d := by
  cases d with
  | non => cases (show v = _ from h); rfl
  | bl b => cases (show v = _ from h); rfl
  | int b => cases (show v = _ from h); rfl
  | str b => cases (show v = _ from h); rfl
  | tup b => obtain ⟨a, vs, rfl, _⟩ := h; rfl
  | lst b => obtain ⟨a, vs, rfl, _⟩ := h; rfl
  | exo b => obtain ⟨a, C, rfl, _⟩ := h; rfl
/-- is None, is True, is False (the right side written) -/
@[simp] def oIs : D → D → R D
  | x, .non => .ok (.bl (isNon x))
  | .bl a, .bl b => .ok (.bl (decide (a = b)))
  | _, _ => .stuck
@[simp] def oIsNot : D → D → R D
  | x, .non => .ok (.bl (!isNon x))
  | .bl a, .bl b => .ok (.bl (!decide (a = b)))
  | _, _ => .stuck
theorem sc_is : Ad2 c W (fun x y H Q => (y = .non ∧ Q (.bl (decide (x = .non))) H) ∨ ∃ a b, x = .bl a ∧ y = .bl b ∧ Q (.bl (decide (a = b))) H) oIs := by
  intro σ B H x y v u Q s r1 r2 h
  cases y with
  | non =>
    have h' : Po c W σ B H (.ok (.bl (isNon x))) (fun d B' H' => ∀ v, Rep c.K B' d v → Q v H') := by cases x <;> exact h
    exact .inl ⟨r2, ok_refl h' s _ (by rw [r1.non_iff] <;> rfl)⟩
  | bl b => cases x with
    | bl a => exact .inr ⟨a, b, r1, r2, ok_refl h s _ rfl⟩
    | _ => exact h.elim
  | _ => cases x <;> exact h.elim
theorem sc_isNot : Ad2 c W (fun x y H Q => (y = .non ∧ Q (.bl (!decide (x = .non))) H) ∨ ∃ a b, x = .bl a ∧ y = .bl b ∧ Q (.bl (!decide (a = b))) H) oIsNot := by
  intro σ B H x y v u Q s r1 r2 h
  cases y with
  | non =>
    have h' : Po c W σ B H (.ok (.bl (!isNon x))) (fun d B' H' => ∀ v, Rep c.K B' d v → Q v H') := by cases x <;> exact h
    exact .inl ⟨r2, ok_refl h' s _ (by rw [r1.non_iff] <;> rfl)⟩
  | bl b => cases x with
    | bl a => exact .inr ⟨a, b, r1, r2, ok_refl h s _ rfl⟩
    | _ => exact h.elim
  | _ => cases x <;> exact h.elim
end
end Mi

namespace Mi
open PySem PySem.Spec L2
section
variable {c : Cf} {W : WX} {a b e : Expr} {es rest : List Expr} {f g h : Ev} {p q : Et} {pos : Pos}

/-! ### comparisons by their signs -/
theorem se_eq (ha : SB c W a f) (hb : SB c W b g) : SE c W (.Compare a [.Eq] [b] pos) (eBin oEq f g) := se_cmp (fun _ G => oc_eq G) sc_eq (nomark _) ha hb
theorem st_eq (ha : SB c W a f) (hb : SB c W b g) : ST c W (.Compare a [.Eq] [b] pos) (tst (eBin oEq f g)) := st_cmp (fun _ G => oc_eq G) sc_eq (nomark _) ha hb
theorem se_ne (ha : SB c W a f) (hb : SB c W b g) : SE c W (.Compare a [.NotEq] [b] pos) (eBin oNe f g) := se_cmp (fun _ G => oc_ne G) sc_ne (nomark _) ha hb
theorem st_ne (ha : SB c W a f) (hb : SB c W b g) : ST c W (.Compare a [.NotEq] [b] pos) (tst (eBin oNe f g)) := st_cmp (fun _ G => oc_ne G) sc_ne (nomark _) ha hb
theorem se_lt (ha : SB c W a f) (hb : SB c W b g) : SE c W (.Compare a [.Lt] [b] pos) (eBin oLt f g) := se_cmp (fun _ _ => op_lt) sc_cmp (nomark _) ha hb
theorem st_lt (ha : SB c W a f) (hb : SB c W b g) : ST c W (.Compare a [.Lt] [b] pos) (tst (eBin oLt f g)) := st_cmp (fun _ _ => op_lt) sc_cmp (nomark _) ha hb
theorem se_le (ha : SB c W a f) (hb : SB c W b g) : SE c W (.Compare a [.LtE] [b] pos) (eBin oLe f g) := se_cmp (fun _ _ => op_le) sc_cmp (nomark _) ha hb
theorem st_le (ha : SB c W a f) (hb : SB c W b g) : ST c W (.Compare a [.LtE] [b] pos) (tst (eBin oLe f g)) := st_cmp (fun _ _ => op_le) sc_cmp (nomark _) ha hb
theorem se_gt (ha : SB c W a f) (hb : SB c W b g) : SE c W (.Compare a [.Gt] [b] pos) (eBin oGt f g) := se_cmp (fun _ _ => op_gt) sc_cmp (nomark _) ha hb
theorem st_gt (ha : SB c W a f) (hb : SB c W b g) : ST c W (.Compare a [.Gt] [b] pos) (tst (eBin oGt f g)) := st_cmp (fun _ _ => op_gt) sc_cmp (nomark _) ha hb
theorem se_ge (ha : SB c W a f) (hb : SB c W b g) : SE c W (.Compare a [.GtE] [b] pos) (eBin oGe f g) := se_cmp (fun _ _ => op_ge) sc_cmp (nomark _) ha hb
theorem st_ge (ha : SB c W a f) (hb : SB c W b g) : ST c W (.Compare a [.GtE] [b] pos) (tst (eBin oGe f g)) := st_cmp (fun _ _ => op_ge) sc_cmp (nomark _) ha hb
theorem se_is (ha : SB c W a f) (hb : SB c W b g) : SE c W (.Compare a [.Is] [b] pos) (eBin oIs f g) := se_cmp (fun _ _ => OpR.or op_isN op_is_bl) sc_is (nomark _) ha hb
theorem st_is (ha : SB c W a f) (hb : SB c W b g) : ST c W (.Compare a [.Is] [b] pos) (tst (eBin oIs f g)) := st_cmp (fun _ _ => OpR.or op_isN op_is_bl) sc_is (nomark _) ha hb
theorem se_isNot (ha : SB c W a f) (hb : SB c W b g) : SE c W (.Compare a [.IsNot] [b] pos) (eBin oIsNot f g) := se_cmp (fun _ _ => OpR.or op_notN op_isnot_bl) sc_isNot (nomark _) ha hb
theorem st_isNot (ha : SB c W a f) (hb : SB c W b g) : ST c W (.Compare a [.IsNot] [b] pos) (tst (eBin oIsNot f g)) := st_cmp (fun _ _ => OpR.or op_notN op_isnot_bl) sc_isNot (nomark _) ha hb
/-- a <= b < c and its like -/
@[simp] def eChain (p q : Int → Int → Bool) (f g h : Ev) : Ev := fun ρ => (f ρ).bind fun x => (g ρ).bind fun y => ((oCmp p x y).bind D.bool).bind fun b => if b = true then (h ρ).bind fun z => oCmp q y z else .ok (.bl false)
theorem ad_chain {p q : Int → Int → Bool} {ta tb tc : TE} (ha : AdB c W ta f) (hb : AdB c W tb g) (hc : AdB c W tc h) : AdE c W (tChain (rI0 fun i j => .bl (p i j)) (rI0 fun i j => .bl (q i j)) ta tb tc) (eChain p q f g h) := by
  intro G B H ρ σ Q m hh
  refine ha G B H ρ σ _ m ((Po.bind hh).imp fun x B1 H1 e1 h1 v r1 => ?_)
  refine hb G B1 H1 ρ σ _ (m.go e1) ((Po.bind h1).imp fun y B2 H2 e2 h2 u r2 => ?_)
  cases x with
  | int i =>
    cases y with
    | int j =>
      refine ⟨i, j, r1, r2, p i j, rfl, ?_⟩
      have h2' : Po c W σ B2 H2 (if p i j = true then (h ρ).bind fun z => oCmp q (.int j) z else .ok (.bl false)) _ := h2
      cases hp : p i j with
      | false =>
        rw [hp] at h2'
        rw [if_neg Bool.false_ne_true]
        exact ok_refl h2' e2.in_ _ rfl
      | true =>
        rw [hp] at h2'
        rw [if_pos rfl]
        refine hc G B2 H2 ρ σ _ ((m.go e1).go e2) ((Po.bind h2').imp fun z B3 H3 e3 h3 w r3 => ?_)
        cases z with
        | int k => exact ⟨j, k, r2, r3, ok_refl h3 e3.in_ _ rfl⟩
        | _ => exact h3.elim
    | _ => exact h2.elim
  | _ => exact h2.elim
theorem se_chain {o1 o2 : CmpOp} {b' : Expr} {p q : Int → Int → Bool} (h1 : ∀ X, OpR X (compareOp o1) (rI0 fun i j => .bl (p i j))) (h2 : ∀ X, OpR X (compareOp o2) (rI0 fun i j => .bl (q i j))) (hm : lastMarks [o1, o2] [b, b'] = false)
    (ha : SB c W a f) (hb : SB c W b g) (hc : SB c W b' h) : SE c W (.Compare a [o1, o2] [b, b'] pos) (eChain p q f g h) := by
  obtain ⟨ta, pa, aa⟩ := ha
  obtain ⟨tb, pb, ab⟩ := hb
  obtain ⟨tc, pc, ac⟩ := hc
  exact ⟨_, fun X G => pe_chain (h1 X) (h2 X) (pa X G) (pb X G) (pc X G) hm, ad_chain aa ab ac⟩
theorem st_chain {o1 o2 : CmpOp} {b' : Expr} {p q : Int → Int → Bool} (h1 : ∀ X, OpR X (compareOp o1) (rI0 fun i j => .bl (p i j))) (h2 : ∀ X, OpR X (compareOp o2) (rI0 fun i j => .bl (q i j))) (hm : lastMarks [o1, o2] [b, b'] = false)
    (ha : SB c W a f) (hb : SB c W b g) (hc : SB c W b' h) : ST c W (.Compare a [o1, o2] [b, b'] pos) (tst (eChain p q f g h)) := by
  obtain ⟨ta, pa, aa⟩ := ha
  obtain ⟨tb, pb, ab⟩ := hb
  obtain ⟨tc, pc, ac⟩ := hc
  exact ⟨_, fun X G => pt_chain (h1 X) (h2 X) (pa X G) (pb X G) (pc X G) hm, ad_tst (ad_chain aa ab ac)⟩

/-! ### and, or, not, if -/
@[simp] def tAndE (p q : Et) : Et := fun ρ => (p ρ).bind fun b => if b = true then q ρ else .ok false
@[simp] def tOrE (p q : Et) : Et := fun ρ => (p ρ).bind fun b => if b = true then .ok true else q ρ
@[simp] def tNotE (p : Et) : Et := fun ρ => (p ρ).map (!·)
theorem st_w (h : SW c W e p) : ST c W e p := by
  obtain ⟨t, k, a⟩ := h
  exact ⟨t, fun X G => (k X G).pt, a⟩
theorem sw_and1 (h : ST c W a p) : SW c W (.BoolOp .And [a] pos) p := by
  obtain ⟨t, k, ad⟩ := h
  exact ⟨t, fun X G => pw_and1 (k X G), ad⟩
theorem sw_or1 (h : ST c W a p) : SW c W (.BoolOp .Or [a] pos) p := by
  obtain ⟨t, k, ad⟩ := h
  exact ⟨t, fun X G => pw_or1 (k X G), ad⟩
theorem sw_and (h : ST c W a p) (h2 : SW c W (.BoolOp .And (b :: rest) pos) q) : SW c W (.BoolOp .And (a :: b :: rest) pos) (tAndE p q) := by
  obtain ⟨t, k, ad⟩ := h
  obtain ⟨t2, k2, ad2⟩ := h2
  refine ⟨_, fun X G => pw_and (k X G) (k2 X G), fun G B H ρ σ Q m hh => ?_⟩
  refine ad G B H ρ σ _ m ((Po.bind hh).imp fun x B1 H1 e1 h1 => ?_)
  cases x with
  | true =>
    rw [if_pos rfl]
    exact ad2 G B1 H1 ρ σ _ (m.go e1) h1
  | false =>
    rw [if_neg Bool.false_ne_true]
    exact ok_refl h1 e1.in_
theorem sw_or (h : ST c W a p) (h2 : SW c W (.BoolOp .Or (b :: rest) pos) q) : SW c W (.BoolOp .Or (a :: b :: rest) pos) (tOrE p q) := by
  obtain ⟨t, k, ad⟩ := h
  obtain ⟨t2, k2, ad2⟩ := h2
  refine ⟨_, fun X G => pw_or (k X G) (k2 X G), fun G B H ρ σ Q m hh => ?_⟩
  refine ad G B H ρ σ _ m ((Po.bind hh).imp fun x B1 H1 e1 h1 => ?_)
  cases x with
  | true =>
    rw [if_pos rfl]
    exact ok_refl h1 e1.in_
  | false =>
    rw [if_neg Bool.false_ne_true]
    exact ad2 G B1 H1 ρ σ _ (m.go e1) h1
theorem st_not (h : ST c W a p) : ST c W (.UnaryOp .Not a pos) (tNotE p) := by
  obtain ⟨t, k, ad⟩ := h
  refine ⟨_, fun X G => pt_not (k X G), fun G B H ρ σ Q m hh => ?_⟩
  exact ad G B H ρ σ _ m (Po.map hh)
/-- the same as values (all of them truths) -/
@[simp] def eAnd (f g : Ev) : Ev := fun ρ => (f ρ).bind fun d => d.bool.bind fun b => if b = true then g ρ else .ok (.bl false)
@[simp] def eOr (f g : Ev) : Ev := fun ρ => (f ρ).bind fun d => d.bool.bind fun b => if b = true then .ok (.bl true) else g ρ
@[simp] def eNot (f : Ev) : Ev := fun ρ => (f ρ).bind notD
theorem se_one {op : BoolOp} (h : SE c W a f) : SE c W (.BoolOp op [a] pos) f := by
  obtain ⟨t, k, ad⟩ := h
  exact ⟨t, fun X G => pe_one (k X G), ad⟩
theorem se_and (h : SE c W a f) (h2 : SE c W (.BoolOp .And (b :: rest) pos) g) : SE c W (.BoolOp .And (a :: b :: rest) pos) (eAnd f g) := by
  obtain ⟨t, k, ad⟩ := h
  obtain ⟨t2, k2, ad2⟩ := h2
  refine ⟨_, fun X G => pe_and (k X G) (k2 X G), fun G B H ρ σ Q m hh => ?_⟩
  refine ad G B H ρ σ _ m ((Po.bind hh).imp fun x B1 H1 e1 h1 v r1 => ?_)
  cases x with
  | bl x =>
    refine ⟨x, r1, ?_⟩
    cases x with
    | true =>
      rw [if_pos rfl]
      exact ad2 G B1 H1 ρ σ _ (m.go e1) h1
    | false =>
      rw [if_neg Bool.false_ne_true]
      exact ok_refl h1 e1.in_ _ rfl
  | _ => exact h1.elim
theorem se_or (h : SE c W a f) (h2 : SE c W (.BoolOp .Or (b :: rest) pos) g) : SE c W (.BoolOp .Or (a :: b :: rest) pos) (eOr f g) := by
  obtain ⟨t, k, ad⟩ := h
  obtain ⟨t2, k2, ad2⟩ := h2
  refine ⟨_, fun X G => pe_or (k X G) (k2 X G), fun G B H ρ σ Q m hh => ?_⟩
  refine ad G B H ρ σ _ m ((Po.bind hh).imp fun x B1 H1 e1 h1 v r1 => ?_)
  cases x with
  | bl x =>
    refine ⟨x, r1, ?_⟩
    cases x with
    | true =>
      rw [if_pos rfl]
      exact ok_refl h1 e1.in_ _ rfl
    | false =>
      rw [if_neg Bool.false_ne_true]
      exact ad2 G B1 H1 ρ σ _ (m.go e1) h1
  | _ => exact h1.elim
theorem se_not (h : SE c W a f) : SE c W (.UnaryOp .Not a pos) (eNot f) := by
  obtain ⟨t, k, ad⟩ := h
  refine ⟨_, fun X G => pe_not (k X G), fun G B H ρ σ Q m hh => ?_⟩
  refine ad G B H ρ σ _ m ((Po.bind hh).imp fun x B1 H1 e1 h1 v r1 => ?_)
  cases x with
  | bl x => exact ⟨x, r1, ok_refl h1 e1.in_ _ rfl⟩
  | _ => exact h1.elim
@[simp] def eIf (p : Et) (f g : Ev) : Ev := fun ρ => (p ρ).bind fun b => if b = true then f ρ else g ρ
theorem se_if {k : Expr} (hk : ST c W k p) (ha : SE c W a f) (hb : SE c W b g) : SE c W (.IfExp k a b pos) (eIf p f g) := by
  obtain ⟨t0, k0, a0⟩ := hk
  obtain ⟨t1, k1, a1⟩ := ha
  obtain ⟨t2, k2, a2⟩ := hb
  refine ⟨_, fun X G => pe_ifExp (k0 X G) (k1 X G) (k2 X G), fun G B H ρ σ Q m hh => ?_⟩
  refine a0 G B H ρ σ _ m ((Po.bind hh).imp fun x B1 H1 e1 h1 => ?_)
  cases x with
  | true =>
    rw [if_pos rfl]
    exact a1 G B1 H1 ρ σ _ (m.go e1) h1
  | false =>
    rw [if_neg Bool.false_ne_true]
    exact a2 G B1 H1 ρ σ _ (m.go e1) h1

/-! ### lists of values -/
/-- values, one behind the other (shared) -/
def SV (c : Cf) (W : WX) (es : List Expr) (f : Es) : Prop := ∃ t : TA, (∀ X, GX c W X → PA X es t) ∧
  (∀ (g : Gd) (B H : Hp) (ρ : En) (σ : St) (Q : List V → Hp → Prop), Mt c.K g B H ρ σ → Po c W σ B H (f ρ) (fun ds B' H' => ∀ vs, Reps c.K B' ds vs → Q vs H') → t σ H Q) ∧ ∀ ρ ds, f ρ = .ok ds → ds.length = es.length
@[simp] def vNil : Es := fun _ => .ok []
@[simp] def vCons (f : Ev) (g : Es) : Es := fun ρ => (f ρ).bind fun x => (g ρ).map fun xs => x :: xs
theorem sv_nil : SV c W [] vNil := ⟨_, fun _ _ => pa_nil, fun _ _ _ _ _ _ m h => ok_refl h m.sub _ rfl, fun _ _ e => by cases e; rfl⟩
theorem sv_cons {f' : Es} (ha : SE c W e f) (hr : SV c W es f') (hs : ∀ env, starEach (e :: es) env = (false, eval e env) :: starEach es env := by intro _; rfl) : SV c W (e :: es) (vCons f f') := by
  obtain ⟨t, k, ad⟩ := ha
  obtain ⟨t2, k2, ad2, l2⟩ := hr
  refine ⟨_, fun X G => pa_cons (k X G) (k2 X G) (hs X.env), fun G B H ρ σ Q m hh => ?_, fun ρ ds hd => ?_⟩
  · refine ad G B H ρ σ _ m ((Po.bind hh).imp fun x B1 H1 e1 h1 v r1 => ?_)
    refine ad2 G B1 H1 ρ σ _ (m.go e1) ((Po.map h1).imp fun xs B2 H2 e2 h2 vs r2 => ?_)
    exact h2 _ ⟨v, vs, rfl, Rep.mono e2.b _ _ r1, r2⟩
  · unfold vCons at hd
    cases h1 : f ρ with
    | ok x =>
      rw [h1, R.bind_ok] at hd
      cases h2 : f' ρ with
      | ok xs =>
        rw [h2, R.map_ok] at hd
        cases hd
        rw [List.length_cons, List.length_cons, l2 ρ xs h2]
      | exc z => rw [h2] at hd; cases hd
      | stuck => rw [h2] at hd; cases hd
    | exc z => rw [h1] at hd; cases hd
    | stuck => rw [h1] at hd; cases hd
@[simp] def eTup (f : Es) : Ev := fun ρ => (f ρ).map .tup
theorem line_ok {n : Nat} (h : n ≤ 1000) : n ≤ sizeLine := Nat.le_of_lt (small1000 h)
theorem se_tup {f : Es} {k : Nat} (h : SV c W es f) (hl : es.length ≤ 1000) : SE c W (.Tuple es k pos) (eTup f) := by
  obtain ⟨t, k, ad, l⟩ := h
  refine ⟨_, fun X G => pe_tup (k X G), fun G B H ρ σ Q m hh => ?_⟩
  have key := Po.map hh
  refine ad G B H ρ σ _ m ?_
  cases hf : f ρ with
  | ok ds =>
    rw [hf] at key
    intro B1 H1 e1 vs r1
    refine ⟨by rw [← r1.length, l ρ ds hf]; exact line_ok hl, fun p hp => ?_⟩
    have x := Ext.newB (o := .tup vs) e1.in_ hp
    exact key _ _ (e1.trans x) _ ⟨p, vs, rfl, SqT.of upd_same, Reps.mono x.b _ _ r1⟩
  | exc z => rw [hf] at key; exact key
  | stuck => rw [hf] at key; exact key
theorem sf_disp {f : Es} (h : SV c W es f) (hl : es.length ≤ 1000) : SF c W (.List es pos) f := by
  obtain ⟨t, k, ad, l⟩ := h
  refine ⟨_, fun X G => pe_lst (k X G), fun G B H ρ σ Q m hh => ?_⟩
  refine ad G B H ρ σ _ m ?_
  cases hf : f ρ with
  | ok ds =>
    rw [hf] at hh
    intro B1 H1 e1 vs r1
    refine ⟨by rw [← r1.length, l ρ ds hf]; exact line_ok hl, fun p hp => ?_⟩
    exact hh _ _ (e1.trans (Ext.new e1.in_ hp)) p vs upd_same (e1.in_.free hp) (e1.h.free hp) r1
  | exc z => rw [hf] at hh; exact hh
  | stuck => rw [hf] at hh; exact hh
/-- values that are looked at alone, one behind the other -/
def RepTs (K : PySem.W.Frag) (B H : Hp) : List D → List V → Prop
  | [], vs => vs = []
  | d :: ds, vs => ∃ v r, vs = v :: r ∧ RepT K B H d v ∧ RepTs K B H ds r
def SBs (c : Cf) (W : WX) (es : List Expr) (f : Es) : Prop := ∃ t : TA, (∀ X, GX c W X → PA X es t) ∧
  (∀ (g : Gd) (B H : Hp) (ρ : En) (σ : St) (Q : List V → Hp → Prop), Mt c.K g B H ρ σ → Po c W σ B H (f ρ) (fun ds B' H' => ∀ vs, RepTs c.K B' H' ds vs → Q vs H') → t σ H Q)
theorem sbs_nil : SBs c W [] vNil := ⟨_, fun _ _ => pa_nil, fun _ _ _ _ _ _ m h => ok_refl h m.sub _ rfl⟩
theorem sbs_cons {f' : Es} (ha : SB c W e f) (hr : SBs c W es f') (hs : ∀ env, starEach (e :: es) env = (false, eval e env) :: starEach es env := by intro _; rfl) : SBs c W (e :: es) (vCons f f') := by
  obtain ⟨t, k, ad⟩ := ha
  obtain ⟨t2, k2, ad2⟩ := hr
  refine ⟨_, fun X G => pa_cons (k X G) (k2 X G) (hs X.env), fun G B H ρ σ Q m hh => ?_⟩
  refine ad G B H ρ σ _ m ((Po.bind hh).imp fun x B1 H1 e1 h1 v r1 => ?_)
  refine ad2 G B1 H1 ρ σ _ (m.go e1) ((Po.map h1).imp fun xs B2 H2 e2 h2 vs r2 => ?_)
  exact h2 _ ⟨v, vs, rfl, r1.go e2, r2⟩

/-! ### subscripts -/
@[simp] noncomputable def oIx : D → D → R D
  | .lst ds, .int i => match atI ds i with
    | some d => .ok d
    | none => .stuck
  | .tup ds, .int i => match atI ds i with
    | some d => .ok d
    | none => .stuck
  | .str z, .int i => if z.length ≤ szL then (match atI z.cps.toList i with
    | some k => .ok (.str ⟨#[k]⟩)
    | none => .stuck) else .stuck
  | _, _ => .stuck
theorem Reps.at {K : PySem.W.Frag} {B : Hp} {ds : List D} {vs : List V} {i : Int} {d : D} (r : Reps K B ds vs) (h : atI ds i = some d) : ∃ v, atI vs i = some v ∧ Rep K B d v := by
  unfold atI at h ⊢
  rw [← r.length]
  cases e : ixN ds.length i with
  | none =>
    rw [e] at h
    cases h
  | some j =>
    rw [e] at h
    exact r.get h
theorem se_ix (ha : SB c W a f) (hb : SB c W b g) (hp : PlainIx b) : SE c W (.Subscript a b pos) (eBin oIx f g) := by
  obtain ⟨ta, pa, aa⟩ := ha
  obtain ⟨tb, pb, ab⟩ := hb
  refine ⟨tOp (fun x y H Q => rIxL c.K x y H Q ∨ (rIxT c.K x y H Q ∨ rIxS x y H Q)) ta tb, fun X G => pe_ix (by rw [← G.K]; exact IxR.or ix_list (IxR.or ix_tup ix_str)) (pa X G) (pb X G) hp, ad_bin (fun σ B H x y v u Q s r1 r2 h => ?_) aa ab⟩
  cases x with
  | lst ds => cases y with
    | int i =>
      obtain ⟨p, vs, rfl, q1, q2⟩ := r1
      unfold oIx at h
      dsimp only at h
      split at h
      · rename_i d hd
        obtain ⟨w, e1, e2⟩ := q2.at hd
        exact .inl ⟨p, vs, i, w, rfl, r2, q1, e1, ok_refl h s _ e2⟩
      · exact h.elim
    | _ => exact h.elim
  | tup ds => cases y with
    | int i =>
      obtain ⟨p, vs, rfl, q1, q2⟩ := r1
      unfold oIx at h
      dsimp only at h
      split at h
      · rename_i d hd
        obtain ⟨w, e1, e2⟩ := q2.at hd
        exact .inr (.inl ⟨p, vs, i, w, rfl, r2, Same.seqT s q1, e1, ok_refl h s _ e2⟩)
      · exact h.elim
    | _ => exact h.elim
  | str z => cases y with
    | int i =>
      unfold oIx at h
      dsimp only at h
      split at h
      · rename_i hz
        rw [szL_eq] at hz
        split at h
        · rename_i k hk
          exact .inr (.inr ⟨z, i, k, r1, r2, hz, hk, ok_refl h s _ rfl⟩)
        · exact h.elim
      · exact h.elim
    | _ => exact h.elim
  | _ => exact h.elim
/-- a part of a slice -/
abbrev Eo := En → R (Option Int)
def SO (c : Cf) (W : WX) (e : Option Expr) (f : Eo) : Prop := ∃ t : TO, (∀ X, GX c W X → PO X e t) ∧
  ∀ (g : Gd) (B H : Hp) (ρ : En) (σ : St) (Q : Option Int → Hp → Prop), Mt c.K g B H ρ σ → Po c W σ B H (f ρ) (fun o _ H' => Q o H') → t σ H Q
@[simp] def pNo : Eo := fun _ => .ok none
@[simp] def pSome (f : Ev) : Eo := fun ρ => (f ρ).bind fun d => match d with
  | .int i => .ok (some i)
  | _ => .stuck
theorem so_none : SO c W none pNo := ⟨_, fun _ _ => po_none, fun _ _ _ _ _ _ m h => ok_refl h m.sub⟩
theorem so_some (h : SB c W e f) : SO c W (some e) (pSome f) := by
  obtain ⟨t, k, ad⟩ := h
  refine ⟨_, fun X G => po_some (k X G), fun G B H ρ σ Q m hh => ?_⟩
  refine ad G B H ρ σ _ m ((Po.bind hh).imp fun x B1 H1 e1 h1 v r1 => ?_)
  cases x with
  | int i => exact ⟨i, r1, ok_refl h1 e1.in_⟩
  | _ => exact h1.elim
/-- xs[lo:hi] -/
def cutD {α : Type} (xs : List α) (lo hi : Option Int) : List α := (xs.drop (HT.sIx xs.length 0 lo)).take (HT.sIx xs.length xs.length hi - HT.sIx xs.length 0 lo)
@[simp] def eCut (f : Ev) (l h : Eo) : Es := fun ρ => (f ρ).bind fun x => (l ρ).bind fun lo => (h ρ).bind fun hi => match x with
  | .lst ds => .ok (cutD ds lo hi)
  | _ => .stuck
theorem Reps.cut {K : PySem.W.Frag} {B : Hp} {ds : List D} {vs : List V} (r : Reps K B ds vs) (lo hi : Option Int) : Reps K B (cutD ds lo hi) (cutV vs lo hi) := by
  unfold cutD cutV
  rw [← r.length]
  exact (r.drop _).take _
theorem sf_cut {lo hi : Option Expr} {p2 : Pos} {l h : Eo} (ha : SB c W a f) (hl : SO c W lo l) (hh : SO c W hi h) : SF c W (.Subscript a (.Slice lo hi none p2) pos) (eCut f l h) := by
  obtain ⟨ta, pa, aa⟩ := ha
  obtain ⟨tl, pl, al⟩ := hl
  obtain ⟨th, ph, ah⟩ := hh
  refine ⟨tSl (rSlL c.K) ta tl th, fun X G => pe_slice (by rw [← G.K]; exact sl_list) (pa X G) (pl X G) (ph X G), fun G B H ρ σ Q m q => ?_⟩
  refine aa G B H ρ σ _ m ((Po.bind q).imp fun x B1 H1 e1 h1 v r1 => ?_)
  refine al G B1 H1 ρ σ _ (m.go e1) ((Po.bind h1).imp fun y B2 H2 e2 h2 => ?_)
  refine ah G B2 H2 ρ σ _ ((m.go e1).go e2) ((Po.bind h2).imp fun z B3 H3 e3 h3 => ?_)
  cases x with
  | lst ds =>
    obtain ⟨p, vs, rfl, q1, q2⟩ := r1
    have ee := e2.trans e3
    refine ⟨p, vs, rfl, ee.h.seq q1, fun r hr => ?_⟩
    exact h3 _ _ (Ext.new e3.in_ hr) r _ upd_same (e3.in_.free hr) ((e1.trans ee).h.free hr) ((Reps.mono ee.b _ _ q2).cut y z)
  | _ => exact h3.elim

/-! ### built-in functions -/
abbrev AdC (c : Cf) (W : WX) (r : List V → Hp → VK → Prop) (o : List D → R D) : Prop := ∀ (σ : St) (B H : Hp) (ds : List D) (vs : List V) (Q : VK), Same B H → RepTs c.K B H ds vs →
  Po c W σ B H (o ds) (fun d B' H' => ∀ v, Rep c.K B' d v → Q v H') → r vs H Q
@[simp] def eCall (o : List D → R D) (f : Es) : Ev := fun ρ => (f ρ).bind o
theorem ad_call {r : List V → Hp → VK → Prop} {o : List D → R D} {t : TA} {f : Es} (hr : AdC c W r o)
    (ad : ∀ (g : Gd) (B H : Hp) (ρ : En) (σ : St) (Q : List V → Hp → Prop), Mt c.K g B H ρ σ → Po c W σ B H (f ρ) (fun ds B' H' => ∀ vs, RepTs c.K B' H' ds vs → Q vs H') → t σ H Q) : AdE c W (tCB r t) (eCall o f) := by
  intro G B H ρ σ Q m hh
  refine ad G B H ρ σ _ m ((Po.bind hh).imp fun ds B1 H1 e1 h1 vs r1 => ?_)
  exact hr σ B1 H1 ds vs Q e1.in_ r1 h1
theorem se_callB {id : String} {x : Str} {p : Pos} {r : List V → Hp → VK → Prop} {o : List D → R D} {f : Es} (hc : ∀ X, GX c W X → CallR X (.builtin id) r) (hr : AdC c W r o) (hg : c.sc.names.lookup x = some .globalImplicit) (hm : c.mg x = none) (hv : bootBuiltins x = some (.builtin id))
    (ha : SBs c W (e :: es) f) (hn : x ≠ "__name__") (hdb : (x == ("__debug__" : Str)) = false) (he : ∀ env, starEach (e :: es) env = (false, eval e env) :: starEach es env) (hpl : ∀ env, (backTo pos (starEach es env)).any (·.1) = false) : SE c W (.Call (.Name x p) (e :: es) [] pos) (eCall o f) := by
  obtain ⟨t, k, ad⟩ := ha
  exact ⟨_, fun X G => pe_callB (hc X G) (by show X.env.scope.names.lookup x = _; rw [G.sc]; exact hg) (by rw [G.mg]; exact hm) hv (k X G) hn hdb (he X.env) (hpl X.env), ad_call hr ad⟩
theorem se_callTy {T : String} {x : Str} {p : Pos} {r : List V → Hp → VK → Prop} {o : List D → R D} {f : Es} (hc : ∀ X, GX c W X → CallR X (.type T) r) (hr : AdC c W r o) (hg : c.sc.names.lookup x = some .globalImplicit) (hm : c.mg x = none) (hv : bootBuiltins x = some (.type T))
    (ha : SBs c W (e :: es) f) (hn : x ≠ "__name__") (hdb : (x == ("__debug__" : Str)) = false) (he : ∀ env, starEach (e :: es) env = (false, eval e env) :: starEach es env) (hpl : ∀ env, (backTo pos (starEach es env)).any (·.1) = false) : SE c W (.Call (.Name x p) (e :: es) [] pos) (eCall o f) := by
  obtain ⟨t, k, ad⟩ := ha
  exact ⟨_, fun X G => pe_callTy (hc X G) (by show X.env.scope.names.lookup x = _; rw [G.sc]; exact hg) (by rw [G.mg]; exact hm) hv (k X G) hn hdb (he X.env) (hpl X.env), ad_call hr ad⟩
@[simp] noncomputable def oLen : List D → R D
  | [.lst ds] => .ok (.int ds.length)
  | [.tup ds] => .ok (.int ds.length)
  | [.str z] => if z.length ≤ szL then .ok (.int z.length) else .stuck
  | _ => .stuck
theorem RepTs.one {K : PySem.W.Frag} {B H : Hp} {d : D} {vs : List V} (h : RepTs K B H [d] vs) : ∃ v, vs = [v] ∧ RepT K B H d v := by
  obtain ⟨v, r, rfl, h1, h2⟩ := h
  cases (show r = [] from h2)
  exact ⟨v, rfl, h1⟩
theorem RepTs.two {K : PySem.W.Frag} {B H : Hp} {d d' : D} {vs : List V} (h : RepTs K B H [d, d'] vs) : ∃ v v', vs = [v, v'] ∧ RepT K B H d v ∧ RepT K B H d' v' := by
  obtain ⟨v, r, rfl, h1, h2⟩ := h
  obtain ⟨v', rfl, h3⟩ := RepTs.one h2
  exact ⟨v, v', rfl, h1, h3⟩
theorem ac_len : AdC c W (fun xs H Q => ∃ x n, xs = [x] ∧ LenV c.K x H n ∧ Q (.int n) H) oLen := by
  intro σ B H ds vs Q s r h
  rcases ds with _ | ⟨d, _ | ⟨d2, ds⟩⟩
  · exact h.elim
  · obtain ⟨v, rfl, r1⟩ := r.one
    cases d with
    | lst ds =>
      obtain ⟨p, us, rfl, q1, q2⟩ := r1
      exact ⟨_, us.length, rfl, .inl ⟨us, q1, rfl⟩, ok_refl h s _ (by rw [q2.length] <;> rfl)⟩
    | tup ds =>
      obtain ⟨p, us, rfl, q1, q2⟩ := r1
      exact ⟨_, us.length, rfl, .inr ⟨us, Same.seqT s q1, rfl⟩, ok_refl h s _ (by rw [q2.length] <;> rfl)⟩
    | str z =>
      unfold oLen at h
      dsimp only at h
      split at h
      · rename_i hz
        rw [szL_eq] at hz
        cases (show v = .str z from r1)
        exact ⟨_, z.length, rfl, ⟨hz, rfl⟩, ok_refl h s _ rfl⟩
      · exact h.elim
    | _ => exact h.elim
  · cases d <;> exact h.elim
theorem se_len {x : Str} {p : Pos} (hx : x = "len") (hg : c.sc.names.lookup x = some .globalImplicit) (hm : c.mg x = none) (ha : SB c W e f) (he : ∀ env, starEach [e] env = (false, eval e env) :: starEach [] env := by intro _; rfl) : SE c W (.Call (.Name x p) [e] [] pos) (eCall oLen (vCons f vNil)) := by
  subst hx
  exact se_callB (fun X G => by rw [← G.K]; exact call_len) ac_len hg hm PySem.boot_len (sbs_cons ha sbs_nil he) (by decide) (by decide) he (fun _ => rfl)
@[simp] def oMin : List D → R D
  | [.int i, .int j] => .ok (.int (min i j))
  | _ => .stuck
@[simp] def oMax : List D → R D
  | [.int i, .int j] => .ok (.int (max i j))
  | _ => .stuck
theorem ac_min : AdC c W (fun xs H Q => ∃ i j, xs = [.int i, .int j] ∧ Q (.int (if j < i then j else i)) H) oMin := by
  intro σ B H ds vs Q s r h
  rcases ds with _ | ⟨d, _ | ⟨d2, _ | ⟨d3, ds⟩⟩⟩
  · exact h.elim
  · cases d <;> exact h.elim
  · obtain ⟨v, v', rfl, r1, r2⟩ := r.two
    cases d with
    | int i => cases d2 with
      | int j =>
        cases (show v = .int i from r1)
        cases (show v' = .int j from r2)
        refine ⟨i, j, rfl, ok_refl h s _ ?_⟩
        show V.int (if j < i then j else i) = V.int (min i j)
        congr 1
        split <;> omega
      | _ => exact h.elim
    | _ => cases d2 <;> exact h.elim
  · cases d <;> cases d2 <;> exact h.elim
theorem ac_max : AdC c W (fun xs H Q => ∃ i j, xs = [.int i, .int j] ∧ Q (.int (if j > i then j else i)) H) oMax := by
  intro σ B H ds vs Q s r h
  rcases ds with _ | ⟨d, _ | ⟨d2, _ | ⟨d3, ds⟩⟩⟩
  · exact h.elim
  · cases d <;> exact h.elim
  · obtain ⟨v, v', rfl, r1, r2⟩ := r.two
    cases d with
    | int i => cases d2 with
      | int j =>
        cases (show v = .int i from r1)
        cases (show v' = .int j from r2)
        refine ⟨i, j, rfl, ok_refl h s _ ?_⟩
        show V.int (if j > i then j else i) = V.int (max i j)
        congr 1
        split <;> omega
      | _ => exact h.elim
    | _ => cases d2 <;> exact h.elim
  · cases d <;> cases d2 <;> exact h.elim
theorem se_min {x : Str} {p : Pos} (hx : x = "min") (hg : c.sc.names.lookup x = some .globalImplicit) (hm : c.mg x = none) (ha : SB c W a f) (hb : SB c W b g) (he : ∀ env, starEach [a, b] env = (false, eval a env) :: starEach [b] env := by intro _; rfl) (he2 : ∀ env, starEach [b] env = (false, eval b env) :: starEach [] env := by intro _; rfl)
    (hpl : ∀ env, (backTo pos (starEach [b] env)).any (·.1) = false := by intro _; rfl) : SE c W (.Call (.Name x p) [a, b] [] pos) (eCall oMin (vCons f (vCons g vNil))) := by
  subst hx
  exact se_callB (fun X G => call_min2 G.calm) ac_min hg hm (by decide +kernel) (sbs_cons ha (sbs_cons hb sbs_nil he2) he) (by decide) (by decide) he hpl
theorem se_max {x : Str} {p : Pos} (hx : x = "max") (hg : c.sc.names.lookup x = some .globalImplicit) (hm : c.mg x = none) (ha : SB c W a f) (hb : SB c W b g) (he : ∀ env, starEach [a, b] env = (false, eval a env) :: starEach [b] env := by intro _; rfl) (he2 : ∀ env, starEach [b] env = (false, eval b env) :: starEach [] env := by intro _; rfl)
    (hpl : ∀ env, (backTo pos (starEach [b] env)).any (·.1) = false := by intro _; rfl) : SE c W (.Call (.Name x p) [a, b] [] pos) (eCall oMax (vCons f (vCons g vNil))) := by
  subst hx
  exact se_callB (fun X G => call_max2 G.calm) ac_max hg hm (by decide +kernel) (sbs_cons ha (sbs_cons hb sbs_nil he2) he) (by decide) (by decide) he hpl
/-- list(xs), xs a list or a tuple -/
@[simp] def eList (f : Ev) : Es := fun ρ => (f ρ).bind fun d => match d with
  | .lst ds => .ok ds
  | .tup ds => .ok ds
  | _ => .stuck
theorem sf_list {x : Str} {p : Pos} (hx : x = "list") (hg : c.sc.names.lookup x = some .globalImplicit) (hm : c.mg x = none) (ha : SB c W e f) (he : ∀ env, starEach [e] env = (false, eval e env) :: starEach [] env := by intro _; rfl) : SF c W (.Call (.Name x p) [e] [] pos) (eList f) := by
  subst hx
  obtain ⟨t, k, ad⟩ := sbs_cons ha sbs_nil he
  refine ⟨tCB (fun xs H Q => ∃ p ys, xs = [.ref p] ∧ (SqL c.K H p ys ∨ SqT c.K H p ys) ∧ ∀ l, H l = none → Q (.ref l) (upd H l (.lst ys))) t,
    fun X G => pe_callTy (by rw [← G.K]; exact call_list_of) (by show X.env.scope.names.lookup _ = _; rw [G.sc]; exact hg) (by rw [G.mg]; exact hm) (by decide +kernel) (k X G) (by decide) (by decide) (he X.env) rfl, fun G B H ρ σ Q m hh => ?_⟩
  have hh' : Po c W σ B H ((vCons f vNil ρ).bind fun ds => match ds with | [.lst ds] => .ok ds | [.tup ds] => .ok ds | _ => .stuck) (fun ds B' H' => ∀ p vs, H' p = some (.lst vs) → B' p = none → H p = none → Reps c.K B' ds vs → Q (.ref p) H') := by
    have e : ((vCons f vNil ρ).bind fun ds => match ds with | [.lst ds] => .ok ds | [.tup ds] => .ok ds | _ => .stuck) = eList f ρ := by
      unfold vCons vNil eList
      cases f ρ with
      | ok d => cases d <;> rfl
      | _ => rfl
    rw [e]
    exact hh
  refine ad G B H ρ σ _ m ((Po.bind hh').imp fun ds B1 H1 e1 h1 vs r1 => ?_)
  rcases ds with _ | ⟨d, _ | ⟨d2, ds⟩⟩
  · exact h1.elim
  · obtain ⟨v, rfl, r5⟩ := r1.one
    cases d with
    | lst ds =>
      obtain ⟨p, us, rfl, q1, q2⟩ := r5
      refine ⟨p, us, rfl, .inl q1, fun l hl => ?_⟩
      exact h1 _ _ (Ext.new e1.in_ hl) l us upd_same (e1.in_.free hl) (e1.h.free hl) q2
    | tup ds =>
      obtain ⟨p, us, rfl, q1, q2⟩ := r5
      refine ⟨p, us, rfl, .inr (Same.seqT e1.in_ q1), fun l hl => ?_⟩
      exact h1 _ _ (Ext.new e1.in_ hl) l us upd_same (e1.in_.free hl) (e1.h.free hl) q2
    | _ => exact h1.elim
  · cases d <;> exact h1.elim
end
end Mi

namespace Mi
open PySem PySem.Spec L2

/-! ## 6. What a loop walks -/
/-- J yields the items, whatever has come behind B by then -/
def Wk (K : PySem.W.Frag) (g : Gd) (B : Hp) (J : It) (items : List D) : Prop := ∀ (B' H' : Hp) (i : Nat), Same B B' → Ext g.B g.H B' H' →
  (∀ d, items[i]? = some d → J.go i H' ∧ ∀ x H2, J.yld i H' x H2 → ∃ B2, Ext B' H' B2 H2 ∧ Rep K B2 d x) ∧ (items.length ≤ i → J.stop i H')
def AdI (c : Cf) (W : WX) (t : TI) (f : Es) : Prop := ∀ (g : Gd) (B H : Hp) (ρ : En) (σ : St) (Q : It → Hp → Prop), Mt c.K g B H ρ σ →
  Po c W σ B H (f ρ) (fun items B' H' => ∀ J, Wk c.K g B' J items → Q J H') → t σ H Q
def SI (c : Cf) (W : WX) (tg e : Expr) (f : Es) : Prop := ∃ t : TI, (∀ X, GX c W X → PI X tg e t) ∧ AdI c W t f
theorem PI.or {X : Cx} {tg e : Expr} {w1 w2 : TI} (h1 : PI X tg e w1) (h2 : PI X tg e w2) : PI X tg e (fun σ H Q => w1 σ H Q ∨ w2 σ H Q) :=
  ⟨fun pins s σ H R I h => h.elim (h1.run pins s σ H R I) (h2.run pins s σ H R I)⟩
section
variable {K : PySem.W.Frag} {g : Gd} {B : Hp}
theorem wk_list {a : Addr} {vs : List V} {ds : List D} (h : ∀ B' H', Same B B' → Ext g.B g.H B' H' → SqL K H' a vs) (r : Reps K B ds vs) : Wk K g B (Itl K a) ds := by
  intro B' H' i s x
  have q := h B' H' s x
  refine ⟨fun d e => ?_, fun hi => ⟨vs, q, by rw [← r.length]; exact hi⟩⟩
  obtain ⟨v, e1, e2⟩ := r.get e
  refine ⟨⟨vs, v, q, e1⟩, fun y H2 hy => ?_⟩
  obtain ⟨rfl, hy⟩ := hy
  have e3 := hy vs q
  rw [e1] at e3
  cases e3
  exact ⟨B', Ext.refl x.in_, Rep.mono s _ _ e2⟩
theorem wk_tup {a : Addr} {vs : List V} {ds : List D} (h : SqT K B a vs) (r : Reps K B ds vs) : Wk K g B (Itt K a) ds := by
  intro B' H' i s x
  have q : SqT K H' a vs := Same.seqT x.in_ (Same.seqT s h)
  refine ⟨fun d e => ?_, fun hi => ⟨vs, q, by rw [← r.length]; exact hi⟩⟩
  obtain ⟨v, e1, e2⟩ := r.get e
  refine ⟨⟨vs, v, q, e1⟩, fun y H2 hy => ?_⟩
  obtain ⟨rfl, hy⟩ := hy
  have e3 := hy vs q
  rw [e1] at e3
  cases e3
  exact ⟨B', Ext.refl x.in_, Rep.mono s _ _ e2⟩
def rngD (lo : Int) (n : Nat) : List D := (List.range n).map fun (i : Nat) => D.int (lo + (i : Int))
theorem wk_rng {lo : Int} {n : Nat} : Wk K g B (Itr lo n) (rngD lo n) := by
  intro B' H' i s x
  refine ⟨fun d e => ?_, fun hi => ?_⟩
  · unfold rngD at e
    rw [List.getElem?_map] at e
    by_cases hi : i < n
    · rw [List.getElem?_range hi] at e
      cases e
      refine ⟨hi, fun y H2 hy => ?_⟩
      obtain ⟨rfl, rfl⟩ := hy
      exact ⟨B', Ext.refl x.in_, rfl⟩
    · rw [List.getElem?_eq_none (by rw [List.length_range]; omega)] at e
      cases e
  · unfold rngD at hi
    rw [List.length_map, List.length_range] at hi
    exact hi
end
section
variable {c : Cf} {W : WX} {a b e tg : Expr} {es rest : List Expr} {f g h : Ev} {p q : Et} {pos : Pos}
/-- a list or a tuple -/
@[simp] def iSeq (f : Ev) : Es := fun ρ => (f ρ).bind fun d => match d with
  | .lst ds => .ok ds
  | .tup ds => .ok ds
  | _ => .stuck
theorem si_seq (he : SE c W e f) : SI c W tg e (iSeq f) := by
  obtain ⟨t, k, ad⟩ := he
  refine ⟨fun σ H Q => iList c.K t σ H Q ∨ iTup c.K t σ H Q, fun X G => by rw [← G.K]; exact PI.or (pi_list (k X G)) (pi_tup (k X G)), fun G B H ρ σ Q m hh => ?_⟩
  have hb := Po.bind hh
  cases hf : f ρ with
  | ok d =>
    rw [hf] at hb
    cases d with
    | lst ds =>
      refine .inl (ad G B H ρ σ _ m ?_)
      rw [hf]
      intro B1 H1 e1 v r1
      obtain ⟨p, vs, rfl, q1, q2⟩ := r1
      exact ⟨p, rfl, ⟨vs, e1.in_.seq q1⟩, ok_refl (hb B1 H1 e1) e1.in_ _ (wk_list (fun B' H' s x => x.in_.seq (s.seq q1)) q2)⟩
    | tup ds =>
      refine .inr (ad G B H ρ σ _ m ?_)
      rw [hf]
      intro B1 H1 e1 v r1
      obtain ⟨p, vs, rfl, q1, q2⟩ := r1
      exact ⟨p, rfl, ⟨vs, Same.seqT e1.in_ q1⟩, ok_refl (hb B1 H1 e1) e1.in_ _ (wk_tup q1 q2)⟩
    | _ => exact (hb B H m.refl).elim
  | exc z =>
    rw [hf] at hb
    refine .inl (ad G B H ρ σ _ m ?_)
    rw [hf]
    exact hb
  | stuck =>
    rw [hf] at hb
    exact hb.elim
/-- a name that holds a shared list, a tuple, or a list that is lent -/
@[simp] def iVar (i : Nat) : Es := fun ρ => match ρ[i]? with
  | some (some (.sh (.lst ds))) => .ok ds
  | some (some (.sh (.tup ds))) => .ok ds
  | some (some (.bo ds)) => .ok ds
  | some (some (.lt _ ds)) => .ok ds
  | _ => .stuck
theorem si_var {i : Nat} {x : Str} (hN : c.N[i]? = some x) (hv : Vis c.sc x) (hd : (x == ("__debug__" : Str)) = false := by decide) (hcd : (x == ("__classdict__" : Str)) = false := by decide) : SI c W tg (.Name x pos) (iVar i) := by
  refine ⟨fun σ H Q => iList c.K (tVar i) σ H Q ∨ iTup c.K (tVar i) σ H Q, fun X G => ?_, fun G B H ρ σ Q m hh => ?_⟩
  · have pv : PE X (.Name x pos) (tVar i) := pe_var (by rw [G.N]; exact hN) (by rw [G.sc]; exact hv) hd hcd
    rw [← G.K]
    exact PI.or (pi_list pv) (pi_tup pv)
  · unfold iVar at hh
    split at hh
    · rename_i ds e
      obtain ⟨v, h1, p, vs, rfl, q1, q2⟩ := m.sl i _ e
      exact .inl ⟨_, h1, p, rfl, ⟨vs, m.sub.seq q1⟩, ok_refl hh m.sub _ (wk_list (fun B' H' s x => x.in_.seq (s.seq q1)) q2)⟩
    · rename_i ds e
      obtain ⟨v, h1, p, vs, rfl, q1, q2⟩ := m.sl i _ e
      exact .inr ⟨_, h1, p, rfl, ⟨vs, Same.seqT m.sub q1⟩, ok_refl hh m.sub _ (wk_tup q1 q2)⟩
    · rename_i ds e
      obtain ⟨v, h1, p, vs, rfl, q1, q2⟩ := m.sl i _ e
      exact .inl ⟨_, h1, p, rfl, ⟨vs, m.ext.h.seq q1⟩, ok_refl hh m.sub _ (wk_list (fun B' H' s x => x.h.seq q1) q2)⟩
    · rename_i k ds e
      obtain ⟨v, h1, p, vs, rfl, q0, q1, q2⟩ := m.sl i _ e
      exact .inl ⟨_, h1, p, rfl, ⟨vs, m.ext.h.seq q1⟩, ok_refl hh m.sub _ (wk_list (fun B' H' s x => x.h.seq q1) q2)⟩
    · exact hh.elim
noncomputable def iRng1D (f : Ev) : Es := fun ρ => (f ρ).bind fun d => match d with
  | .int j => if -big62 ≤ j ∧ j < big62 then .ok (rngD 0 j.toNat) else .stuck
  | _ => .stuck
theorem si_range1 {x : Str} {p : Pos} (hx : x = "range") (hg : c.sc.names.lookup x = some .globalImplicit) (hm : c.mg x = none) (ha : SE c W a f) (hs : ∀ env, starEach [a] env = [(false, eval a env)] := by intro _; rfl) : SI c W tg (.Call (.Name x p) [a] [] pos) (iRng1D f) := by
  subst hx
  obtain ⟨t, k, ad⟩ := ha
  refine ⟨_, fun X G => pi_range1 (ta := tCons t tNil) (by show X.env.scope.names.lookup _ = _; rw [G.sc]; exact hg) (by rw [G.mg]; exact hm) (pa_cons (k X G) pa_nil (by rw [hs]; rfl)) (hs X.env), fun G B H ρ σ Q m hh => ?_⟩
  refine ad G B H ρ σ _ m ((Po.bind hh).imp fun d B1 H1 e1 h1 v r1 => ?_)
  cases d with
  | int j =>
    cases (show v = .int j from r1)
    dsimp only at h1
    split at h1
    · rename_i hz
      rw [big62_eq] at hz
      exact ⟨j, rfl, hz.1, hz.2, ok_refl h1 e1.in_ _ wk_rng⟩
    · exact h1.elim
  | _ => exact h1.elim
noncomputable def iRng2D (f g : Ev) : Es := fun ρ => (f ρ).bind fun x => (g ρ).bind fun y => match x, y with
  | .int i, .int j => if (-big62 ≤ i ∧ i < big62) ∧ -big62 ≤ j ∧ j < big62 then .ok (rngD i (j - i).toNat) else .stuck
  | _, _ => .stuck
theorem si_range2 {x : Str} {p : Pos} (hx : x = "range") (hg : c.sc.names.lookup x = some .globalImplicit) (hm : c.mg x = none) (ha : SE c W a f) (hb : SE c W b g) (hs : ∀ env, starEach [a, b] env = [(false, eval a env), (false, eval b env)] := by intro _; rfl) (hs2 : ∀ env, starEach [b] env = [(false, eval b env)] := by intro _; rfl) : SI c W tg (.Call (.Name x p) [a, b] [] pos) (iRng2D f g) := by
  subst hx
  obtain ⟨t, k, ad⟩ := ha
  obtain ⟨t2, k2, ad2⟩ := hb
  refine ⟨_, fun X G => pi_range2 (ta := tCons t (tCons t2 tNil)) (by show X.env.scope.names.lookup _ = _; rw [G.sc]; exact hg) (by rw [G.mg]; exact hm) (pa_cons (k X G) (pa_cons (k2 X G) pa_nil (by rw [hs2]; rfl)) (by rw [hs, hs2])) (hs X.env) (hs2 X.env), fun G B H ρ σ Q m hh => ?_⟩
  refine ad G B H ρ σ _ m ((Po.bind hh).imp fun d B1 H1 e1 h1 v r1 => ?_)
  refine ad2 G B1 H1 ρ σ _ (m.go e1) ((Po.bind h1).imp fun d2 B2 H2 e2 h2 v2 r2 => ?_)
  cases d with
  | int i => cases d2 with
    | int j =>
      cases (show v = .int i from r1)
      cases (show v2 = .int j from r2)
      dsimp only at h2
      split at h2
      · rename_i hz
        rw [big62_eq] at hz
        exact ⟨i, j, rfl, ⟨hz.1.1, hz.1.2, hz.2.1, hz.2.2⟩, ok_refl h2 e2.in_ _ wk_rng⟩
      · exact h2.elim
    | _ => exact h2.elim
  | _ => exact h2.elim

/-! ## 7. Targets -/
abbrev Gt := D → En → R En
abbrev Gts := List D → En → R En
def PoG (K : PySem.W.Frag) (g : Gd) (B H : Hp) (σ : St) (is : List Nat) (r : R En) (Q : St → Hp → Prop) : Prop :=
  match r with
  | .ok ρ' => ∀ σ', Mt K g B H ρ' σ' → σ'.length = σ.length → (∀ j, j ∉ is → σ'[j]? = σ[j]?) → Q σ' H
  | _ => False
def SG (c : Cf) (tg : Expr) (is : List Nat) (f : Gt) : Prop := ∃ t : TG, (∀ W X, GX c W X → PG X tg t) ∧
  ∀ (g : Gd) (B H : Hp) (ρ : En) (σ : St) (v : V) (d : D) (Q : St → Hp → Prop), Mt c.K g B H ρ σ → Rep c.K B d v → PoG c.K g B H σ is (f d ρ) Q → t v σ H Q
def SGs (c : Cf) (es : List Expr) (is : List Nat) (f : Gts) : Prop := ∃ t : TGs, (∀ W X, GX c W X → PGs X es t) ∧
  ∀ (g : Gd) (B H : Hp) (ρ : En) (σ : St) (vs : List V) (ds : List D) (Q : St → Hp → Prop), Mt c.K g B H ρ σ → Reps c.K B ds vs → PoG c.K g B H σ is (f ds ρ) Q → t vs σ H Q
@[simp] def gSet (i : Nat) : Gt := fun d ρ => .ok (ρ.set i (some (.sh d)))
theorem loc_fn {X : Cx} {x : Str} (G : GX c W X) (hx : LocC c x) : X.fn x = true ∨ X.env.scope.names.lookup x = some .local := by
  rcases hx with h | h
  · exact .inr (by rw [G.sc]; exact h)
  · exact .inl (G.fn h.2 x)
theorem sg_name {i : Nat} {x : Str} (hN : c.N[i]? = some x) (hx : LocC c x) : SG c (.Name x pos) [i] (gSet i) := by
  refine ⟨_, fun W X G => pg_name G.nd (by rw [G.N]; exact hN) (by rw [G.sc]; exact hx.loc) (loc_fn G hx), fun g B H ρ σ v d Q m r h => ?_⟩
  exact h _ (m.setSh r) (List.length_set ..) fun j hj => List.getElem?_set_ne (fun e => hj (by simp [e]))
@[simp] def gsNil : Gts := fun ds ρ => match ds with
  | [] => .ok ρ
  | _ => .stuck
@[simp] def gsCons (f : Gt) (r : Gts) : Gts := fun ds ρ => match ds with
  | d :: ds => (f d ρ).bind fun ρ' => r ds ρ'
  | [] => .stuck
theorem sgs_nil : SGs c [] [] gsNil := by
  refine ⟨_, fun W X G => pgs_nil, fun g B H ρ σ vs ds Q m r h => ?_⟩
  cases ds with
  | nil =>
    cases (show vs = [] from r)
    exact ⟨rfl, h σ m rfl fun _ _ => rfl⟩
  | cons d ds => exact h.elim
theorem sgs_cons {is js : List Nat} {f : Gt} {r : Gts} (h1 : SG c e is f) (h2 : SGs c es js r) (hs : ∀ env, (assignEach (e :: es) env).map (·.2) = assign e env :: (assignEach es env).map (·.2) := by intro _; rfl) : SGs c (e :: es) (is ++ js) (gsCons f r) := by
  obtain ⟨t, k, ad⟩ := h1
  obtain ⟨t2, k2, ad2⟩ := h2
  refine ⟨_, fun W X G => pgs_cons (k W X G) (k2 W X G) (hs X.env), fun g B H ρ σ vs ds Q m rr h => ?_⟩
  cases ds with
  | nil => exact h.elim
  | cons d ds =>
    obtain ⟨v, us, rfl, r1, r2⟩ := rr
    refine ⟨v, us, rfl, ad g B H ρ σ v d _ m r1 ?_⟩
    cases hf : f d ρ with
    | ok ρ1 =>
      intro σ1 m1 l1 n1
      refine ad2 g B H ρ1 σ1 us ds _ m1 r2 ?_
      have h' : PoG c.K g B H σ (is ++ js) (r ds ρ1) Q := by
        unfold gsCons at h
        dsimp only at h
        rw [hf] at h
        exact h
      cases hr : r ds ρ1 with
      | ok ρ2 =>
        rw [hr] at h'
        intro σ2 m2 l2 n2
        refine h' σ2 m2 (l2.trans l1) fun j hj => ?_
        rw [n2 j fun z => hj (List.mem_append_right _ z), n1 j fun z => hj (List.mem_append_left _ z)]
      | exc z => rw [hr] at h'; exact h'.elim
      | stuck => rw [hr] at h'; exact h'.elim
    | exc z =>
      unfold gsCons at h
      dsimp only at h
      rw [hf] at h
      exact h.elim
    | stuck =>
      unfold gsCons at h
      dsimp only at h
      rw [hf] at h
      exact h.elim
@[simp] def gTupD (n : Nat) (r : Gts) : Gt := fun d ρ => match d with
  | .tup ds => if ds.length = n then r ds ρ else .stuck
  | .lst ds => if ds.length = n then r ds ρ else .stuck
  | _ => .stuck
theorem PG.or {X : Cx} {tg : Expr} {t1 t2 : TG} (h1 : PG X tg t1) (h2 : PG X tg t2) : PG X tg (fun v σ H Q => t1 v σ H Q ∨ t2 v σ H Q) :=
  ⟨fun pins s σ H v u Q I r h => h.elim (h1.run pins s σ H v u Q I r) (h2.run pins s σ H v u Q I r)⟩
theorem sg_tup {is : List Nat} {r : Gts} {k n : Nat} (h : SGs c es is r) (hn : ∀ env, (assignEach es env).length = n := by intro _; rfl) (hst : ∀ env, (assignEach es env).findIdx? (·.1) = none := by intro _; rfl) : SG c (.Tuple es k pos) is (gTupD n r) := by
  obtain ⟨t, kk, ad⟩ := h
  refine ⟨fun v σ H Q => gTup c.K n t v σ H Q ∨ gLst c.K n t v σ H Q, fun W X G => by rw [← G.K]; exact PG.or (pg_tup G.calm (kk W X G) (hn X.env) (hst X.env)) (pg_lst G.calm (kk W X G) (hn X.env) (hst X.env)), fun g B H ρ σ v d Q m rr hh => ?_⟩
  cases d with
  | tup ds =>
    obtain ⟨a, vs, rfl, q1, q2⟩ := rr
    unfold gTupD at hh
    dsimp only at hh
    split at hh
    · rename_i hz
      exact .inl ⟨a, vs, rfl, Same.seqT m.sub q1, by rw [← q2.length]; exact hz, ad g B H ρ σ vs ds Q m q2 hh⟩
    · exact hh.elim
  | lst ds =>
    obtain ⟨a, vs, rfl, q1, q2⟩ := rr
    unfold gTupD at hh
    dsimp only at hh
    split at hh
    · rename_i hz
      exact .inr ⟨a, vs, rfl, m.sub.seq q1, by rw [← q2.length]; exact hz, ad g B H ρ σ vs ds Q m q2 hh⟩
    · exact hh.elim
  | _ => exact hh.elim
end

/-! ## 8. Statements -/
/-- what the pinned objects hold at the end -/
structure MFin (K : PySem.W.Frag) (g : Gd) (B H : Hp) (os : List (Nat × Ob)) : Prop where
  ok : ∀ (i : Nat) (o : Ob), (i, o) ∈ os → ∃ v, g.ln i = some v ∧ ObOk K g.H B H o v
  ne : ∀ (i j : Nat) (o u : Ob) (v w z : V), i ≠ j → (i, o) ∈ os → (j, u) ∈ os → g.ln i = some v → g.ln j = some w → owO H o v z → owO H u w z → False
def RtOk (K : PySem.W.Frag) (g : Gd) (Q : VK) : Sl → Prop
  | .sh d => ∀ v B' H', Ext g.B g.H B' H' → Rep K B' d v → Q v H'
  | .ow ds => ∀ p vs B' H', Ext g.B g.H B' H' → H' p = some (.lst vs) → B' p = none → g.H p = none → Reps K B' ds vs → Q (.ref p) H'
  | .mr d os => ∀ v B' H', Ext g.B g.H B' H' → Rep K B' d v → MFin K g B' H' os → Q v H'
  | .bo _ => False
  | .lt _ _ => False
  | .oo _ => False
  | .mu _ _ => False
def PoS (c : Cf) (W : WX) (g : Gd) (B : Hp) (E : Ends) : Fl → Prop
  | .nx ρ' => ∀ σ' B' H', Same B B' → Mt c.K g B' H' ρ' σ' → E.nx σ' H'
  | .bk ρ' => ∀ σ' B' H', Same B B' → Mt c.K g B' H' ρ' σ' → E.bk σ' H'
  | .ct ρ' => ∀ σ' B' H', Same B B' → Mt c.K g B' H' ρ' σ' → E.ct σ' H'
  | .rt s => RtOk c.K g E.rt s
  | .exc x ρ' => ∀ (C : Addr) σ' B' H', c.mg x = some (.ref C) → Same B B' → Mt c.K g B' H' ρ' σ' → W (.ref C) none σ' H'
  | .stuck => False
def AdS (c : Cf) (W : WX) (t : TS) (f : Sv) : Prop := ∀ (g : Gd) (B H : Hp) (ρ : En) (σ : St) (E : Ends), Mt c.K g B H ρ σ → PoS c W g B E (f ρ) → t E σ H
def SS (c : Cf) (W : WX) (st : Stmt) (f : Sv) : Prop := ∃ t : TS, (∀ X, GX c W X → PS X st t) ∧ AdS c W t f
def SSs (c : Cf) (W : WX) (st : List Stmt) (f : Sv) : Prop := ∃ t : TS, (∀ X, GX c W X → PSs X st t) ∧ AdS c W t f
section
variable {c : Cf} {W : WX} {a b e tg : Expr} {es : List Expr} {f g h : Ev} {p q : Et} {pos pos' : Pos} {st : Stmt} {sts : List Stmt} {u v : Sv}
theorem PoS.mono {G : Gd} {B B' : Hp} {E : Ends} {r : Fl} (h : PoS c W G B E r) (s : Same B B') : PoS c W G B' E r := by
  cases r with
  | nx ρ => exact fun σ' B2 H2 s2 => h σ' B2 H2 (s.trans s2)
  | bk ρ => exact fun σ' B2 H2 s2 => h σ' B2 H2 (s.trans s2)
  | ct ρ => exact fun σ' B2 H2 s2 => h σ' B2 H2 (s.trans s2)
  | rt s => exact h
  | exc x ρ => exact fun C σ' B2 H2 m s2 => h C σ' B2 H2 m (s.trans s2)
  | stuck => exact h
/-- an expression's result, then a statement's end -/
def thnS {α : Type} : R α → En → (α → Fl) → Fl
  | .ok a, _, k => k a
  | .exc x, ρ, _ => .exc x ρ
  | .stuck, _, _ => .stuck
@[simp] theorem thnS_ok {α : Type} {a : α} {ρ : En} {k : α → Fl} : thnS (.ok a) ρ k = k a := rfl
@[simp] theorem thnS_exc {α : Type} {c : Str} {ρ : En} {k : α → Fl} : thnS (.exc c) ρ k = .exc c ρ := rfl
@[simp] theorem thnS_stuck {α : Type} {ρ : En} {k : α → Fl} : thnS .stuck ρ k = .stuck := rfl
@[simp] theorem thnS_ite {α : Type} {q : Prop} [Decidable q] {a b : R α} {ρ : En} {k : α → Fl} : thnS (if q then a else b) ρ k = if q then thnS a ρ k else thnS b ρ k := by split <;> rfl
theorem Po.thn {α : Type} {G : Gd} {B H : Hp} {ρ : En} {σ : St} {E : Ends} {r : R α} {k : α → Fl} (m : Mt c.K G B H ρ σ) (h : PoS c W G B E (thnS r ρ k)) : Po c W σ B H r fun a B' _ => PoS c W G B' E (k a) := by
  cases r with
  | ok a => exact fun B' H' x => PoS.mono (r := k a) h x.b
  | exc x => exact fun C B' H' mg e => h C σ B' H' mg e.b (m.go e)
  | stuck => exact h
@[simp] def sNx : Sv := fun ρ => .nx ρ
@[simp] def sSeq (u v : Sv) : Sv := fun ρ => (u ρ).thn v
theorem sss_nil : SSs c W [] sNx := ⟨_, fun _ _ => pss_nil, fun G B H ρ σ E m h => h σ B H (Same.refl _) m⟩
theorem ad_seq {t s : TS} (h1 : AdS c W t u) (h2 : AdS c W s v) : AdS c W (tSeq t s) (sSeq u v) := by
  intro G B H ρ σ E m h
  refine h1 G B H ρ σ _ m ?_
  unfold sSeq at h
  cases hu : u ρ with
  | nx ρ' =>
    rw [hu] at h
    exact fun σ' B' H' s m' => h2 G B' H' ρ' σ' E m' (h.mono s)
  | bk ρ' => rw [hu] at h; exact h
  | ct ρ' => rw [hu] at h; exact h
  | rt s => rw [hu] at h; exact h
  | exc x ρ' => rw [hu] at h; exact h
  | stuck => rw [hu] at h; exact h
theorem sss_cons (h1 : SS c W st u) (h2 : SSs c W sts v) : SSs c W (st :: sts) (sSeq u v) := by
  obtain ⟨t, k, ad⟩ := h1
  obtain ⟨t2, k2, ad2⟩ := h2
  exact ⟨_, fun X G => pss_cons (k X G) (k2 X G), ad_seq ad ad2⟩
theorem sss_one (h1 : SS c W st u) : SSs c W [st] u := by
  obtain ⟨t, k, ad⟩ := h1
  exact ⟨_, fun X G => pss_one (k X G), ad⟩
/-! ghosts: a slot is forgotten; a list of one's own is shared from now on -/
@[simp] def sKill (i : Nat) (u : Sv) : Sv := fun ρ => u (ρ.set i none)
theorem sss_kill (i : Nat) (h : SSs c W sts u) : SSs c W sts (sKill i u) := by
  obtain ⟨t, k, ad⟩ := h
  exact ⟨t, k, fun G B H ρ σ E m hh => ad G B H _ σ E (m.kill i σ rfl fun _ _ => rfl) hh⟩
@[simp] def frz (i : Nat) (ρ : En) : En := match ρ[i]? with
  | some (some (.ow ds)) => ρ.set i (some (.sh (.lst ds)))
  | some (some (.oo dss)) => ρ.set i (some (.sh (.lst (dss.map .lst))))
  | _ => ρ
@[simp] def sFrz (i : Nat) (u : Sv) : Sv := fun ρ => u (frz i ρ)
theorem sss_frz (i : Nat) (h : SSs c W sts u) : SSs c W sts (sFrz i u) := by
  obtain ⟨t, k, ad⟩ := h
  refine ⟨t, k, fun G B H ρ σ E m hh => ?_⟩
  unfold sFrz frz at hh
  split at hh
  · rename_i ds e
    obtain ⟨B', s, m'⟩ := m.frz e
    exact ad G B' H _ σ E m' (hh.mono s)
  · rename_i ds e
    obtain ⟨B', s, m'⟩ := m.frzOO e
    exact ad G B' H _ σ E m' (hh.mono s)
  · exact ad G B H ρ σ E m hh
/-! assignments -/
@[simp] def sAsg (f : Ev) (g : Gt) : Sv := fun ρ => thnS (f ρ) ρ fun d => (g d ρ).fl .nx
theorem ad_asg {te : TE} {t : TG} {is : List Nat} {gt : Gt} (ha : AdE c W te f) (hg : ∀ (g : Gd) (B H : Hp) (ρ : En) (σ : St) (v : V) (d : D) (Q : St → Hp → Prop), Mt c.K g B H ρ σ → Rep c.K B d v → PoG c.K g B H σ is (gt d ρ) Q → t v σ H Q) : AdS c W (tAsg te t) (sAsg f gt) := by
  intro G B H ρ σ E m h
  refine ha G B H ρ σ _ m ((Po.thn m h).imp fun d B1 H1 e1 h1 v r1 => ?_)
  refine hg G B1 H1 ρ σ v d _ (m.go e1) r1 ?_
  cases hgd : gt d ρ with
  | ok ρ' =>
    rw [hgd] at h1
    exact fun σ' m' _ _ => h1 σ' B1 H1 (Same.refl _) m'
  | exc z => rw [hgd] at h1; exact h1.elim
  | stuck => rw [hgd] at h1; exact h1.elim
theorem ss_set {i : Nat} {x : Str} (hN : c.N[i]? = some x) (hx : LocC c x) (he : SE c W e f) (hs : ∀ env, swapsWith e (some (.Name x pos')) pos.line env = pure false := by intro _; rfl) : SS c W (.Assign [.Name x pos'] e pos) (sAsg f (gSet i)) := by
  obtain ⟨t, k, ad⟩ := he
  refine ⟨_, fun X G => ps_set G.nd (by rw [G.N]; exact hN) (by rw [G.sc]; exact hx.loc) (k X G) (hs X.env) (loc_fn G hx), ad_asg (t := gName i) (is := [i]) ad fun g B H ρ σ v d Q m r h => ?_⟩
  exact h _ (m.setSh r) (List.length_set ..) fun j hj => List.getElem?_set_ne (fun e => hj (by simp [e]))
/-- a new list, under a name -/
@[simp] def sSetF (i : Nat) (f : Es) : Sv := fun ρ => thnS (f ρ) ρ fun ds => .nx (ρ.set i (some (.ow ds)))
/-- what is laid behind H is in no slot's own -/
theorem Mt.noNew {G : Gd} {B H B1 H1 : Hp} {ρ : En} {σ : St} {p : Addr} (m : Mt c.K G B H ρ σ) (e1 : Ext B H B1 H1) (q3 : H p = none) {j : Nat} {t : Sl} {u : V} (ej : ρ[j]? = some (some t)) (eu : σ[j]? = some (some u)) : ¬ owA H1 t u (.ref p) := fun o2 => by
  obtain ⟨w, h1, h2⟩ := m.sl j t ej
  rw [eu] at h1
  cases h1
  exact m.free q3 ej eu (h2.owB (fun q us e _ => e1.h _ _ e) o2)
theorem own_new {G : Gd} {B H B1 H1 : Hp} {ρ : En} {σ : St} {ds : List D} {p : Addr} {vs : List V} (m : Mt c.K G B H ρ σ) (e1 : Ext B H B1 H1) (q1 : H1 p = some (.lst vs)) (q2 : B1 p = none) (q3 : H p = none) (q4 : Reps c.K B1 ds vs) (i : Nat) :
    Mt c.K G B1 H1 (ρ.set i (some (.ow ds))) (σ.set i (some (.ref p))) := by
  refine (m.go e1).set (s := .ow ds) ⟨p, vs, rfl, q1, q2, m.ext.h.free q3, q4⟩ fun z o j t u hj ej eu o2 => ?_
  have oz : z = V.ref p := o
  subst oz
  exact m.noNew e1 q3 ej eu o2
theorem ss_setF {i : Nat} {x : Str} {f : Es} (hN : c.N[i]? = some x) (hx : LocC c x) (he : SF c W e f) (hs : ∀ env, swapsWith e (some (.Name x pos')) pos.line env = pure false := by intro _; rfl) : SS c W (.Assign [.Name x pos'] e pos) (sSetF i f) := by
  obtain ⟨t, k, ad⟩ := he
  refine ⟨_, fun X G => ps_set G.nd (by rw [G.N]; exact hN) (by rw [G.sc]; exact hx.loc) (k X G) (hs X.env) (loc_fn G hx), fun G B H ρ σ E m h => ?_⟩
  refine ad G B H ρ σ _ m ((Po.thn m h).imp fun ds B1 H1 e1 h1 p vs q1 q2 q3 q4 => ?_)
  exact h1 _ B1 H1 (Same.refl _) (own_new m e1 q1 q2 q3 q4 i)
/-- a, b, c = e -/
theorem ss_unp {is : List Nat} {gt : Gt} (he : SE c W e f) (hg : SG c tg is gt) (hs : ∀ env, swapsWithSole [tg] e pos.line env = pure false := by intro _; rfl) (hw : ∀ env, swappedStores [tg] e env = pure none := by intro _; rfl) (h1 : ∀ env, (assignEach [tg] env).map (·.2) = [assign tg env] := by intro _; rfl) :
    SS c W (.Assign [tg] e pos) (sAsg f gt) := by
  obtain ⟨t, k, ad⟩ := he
  obtain ⟨t2, k2, ad2⟩ := hg
  exact ⟨_, fun X G => ps_asg (k X G) (k2 W X G) (hs X.env) (hw X.env) (h1 X.env), ad_asg ad ad2⟩
/-- a, b = x, y (two names that are exchanged) -/
@[simp] def sPar (i j : Nat) (f g : Ev) : Sv := fun ρ => thnS (f ρ) ρ fun x => thnS (g ρ) ρ fun y => .nx ((ρ.set i (some (.sh x))).set j (some (.sh y)))
theorem ss_par {i j : Nat} {x y : Str} {px py pt : Pos} {kt k2 : Nat} {pt2 : Pos} (hi : c.N[i]? = some x) (hj : c.N[j]? = some y) (hij : i ≠ j) (hx : c.sc.names.lookup x = some .local) (hy : c.sc.names.lookup y = some .local)
    (ha : SE c W a f) (hb : SE c W b g) (hw : ∀ env : Env, env.scope = c.sc → swappedStores [.Tuple [.Name x px, .Name y py] kt pt] (.Tuple [a, b] k2 pt2) env = pure (some [x, y])) (h1 : ∀ env, starEach [a, b] env = (false, eval a env) :: starEach [b] env := by intro _; rfl) (h2 : ∀ env, starEach [b] env = (false, eval b env) :: starEach [] env := by intro _; rfl)
    (hs : ∀ env, swapsWithSole [.Tuple [.Name x px, .Name y py] kt pt] (.Tuple [a, b] k2 pt2) pos.line env = pure false := by intro _; rfl) :
    SS c W (.Assign [.Tuple [.Name x px, .Name y py] kt pt] (.Tuple [a, b] k2 pt2) pos) (sPar i j f g) := by
  obtain ⟨t, k, ad⟩ := ha
  obtain ⟨t2, kk, ad2⟩ := hb
  refine ⟨_, fun X G => ps_par (ta := tCons t (tCons t2 tNil)) G.calm G.nd (by rw [G.N]; exact hi) (by rw [G.N]; exact hj) hij (by rw [G.sc]; exact hx) (by rw [G.sc]; exact hy) (pa_cons (k X G) (pa_cons (kk X G) pa_nil (h2 X.env)) (h1 X.env)) (hw X.env G.sc) (hs X.env), fun G B H ρ σ E m h => ?_⟩
  refine ad G B H ρ σ _ m ((Po.thn m h).imp fun d B1 H1 e1 h1 v r1 => ?_)
  refine ad2 G B1 H1 ρ σ _ (m.go e1) ((Po.thn (m.go e1) h1).imp fun d2 B2 H2 e2 h2 v2 r2 => ?_)
  exact ⟨v, v2, rfl, h2 _ B2 H2 (Same.refl _) ((((m.go e1).go e2).setSh (Rep.mono e2.b _ _ r1)).setSh r2)⟩
/-- x op= e -/
@[simp] def sAug (i : Nat) (o : D → D → R D) (f : Ev) : Sv := fun ρ => thnS (eLook i ρ) ρ fun x => thnS (f ρ) ρ fun y => thnS (o x y) ρ fun z => .nx (ρ.set i (some (.sh z)))
theorem ss_aug {i : Nat} {x : Str} {op : Operator} {r : R2} {o : D → D → R D} (hN : c.N[i]? = some x) (hx : LocC c x) (ho : ∀ X, GX c W X → OpR X (inplaceOp op) r) (hr : Ad2 c W r o) (he : SB c W e f) : SS c W (.AugAssign (.Name x pos') op e pos) (sAug i o f) := by
  obtain ⟨t, k, ad⟩ := he
  refine ⟨_, fun X G => ps_aug G.nd (by rw [G.N]; exact hN) (by rw [G.sc]; exact hx.loc) (k X G) (ho X G) (loc_fn G hx), fun G B H ρ σ E m h => ?_⟩
  have key : ∀ (d : D) (v : V), eLook i ρ = .ok d → σ[i]? = some (some v) → RepT c.K B H d v → tAug i t r E σ H := fun d v e1 e2 e3 => by
    unfold sAug at h
    rw [e1] at h
    have h' : PoS c W G B E (thnS (f ρ) ρ fun y => thnS (o d y) ρ fun z => .nx (ρ.set i (some (.sh z)))) := h
    refine ⟨v, e2, ad G B H ρ σ _ m ((Po.thn m h').imp fun y B1 H1 x1 h1 w r1 => ?_)⟩
    refine hr σ B1 H1 d y v w _ x1.in_ (e3.go x1) r1 ((Po.thn (m.go x1) h1).imp fun z B2 H2 x2 h2 vz r2 => ?_)
    exact h2 _ B2 H2 (Same.refl _) (((m.go x1).go x2).setSh r2)
  cases e : ρ[i]? with
  | none => unfold sAug eLook at h; rw [e] at h; exact h.elim
  | some s =>
    cases s with
    | none => unfold sAug eLook at h; rw [e] at h; exact h.elim
    | some s =>
      obtain ⟨v, h1, h2⟩ := m.sl i _ e
      cases s with
      | sh d => exact key d v (by unfold eLook; rw [e]) h1 (Rep.t m.sub h2)
      | ow ds =>
        obtain ⟨p, vs, rfl, q1, q2, q3, q4⟩ := h2
        exact key (.lst ds) _ (by unfold eLook; rw [e]) h1 ⟨p, vs, rfl, SqL.of q1, q4⟩
      | bo ds =>
        obtain ⟨p, vs, rfl, q1, q2⟩ := h2
        exact key (.lst ds) _ (by unfold eLook; rw [e]) h1 ⟨p, vs, rfl, m.ext.h.seq q1, q2⟩
      | lt k ds =>
        obtain ⟨p, vs, rfl, q0, q1, q2⟩ := h2
        exact key (.lst ds) _ (by unfold eLook; rw [e]) h1 ⟨p, vs, rfl, m.ext.h.seq q1, q2⟩
      | oo dss => unfold sAug eLook at h; rw [e] at h; exact h.elim
      | mr d os => exact h2.elim
      | mu k o => cases o with
        | lst ds =>
          obtain ⟨p, vs, rfl, q1, q2, q3, q4⟩ := h2.2
          exact key (.lst ds) _ (by unfold eLook; rw [e]) h1 ⟨p, vs, rfl, SqL.of q1, q4⟩
        | _ => unfold sAug eLook at h; rw [e] at h; exact h.elim
theorem ss_augAdd {i : Nat} {x : Str} (hN : c.N[i]? = some x) (hx : LocC c x) (he : SB c W e f) : SS c W (.AugAssign (.Name x pos') .Add e pos) (sAug i oAdd f) := by
  refine ss_aug hN hx (fun X G => OpR.or iop_add iop_add_str) (fun σ B H x y v u Q s r1 r2 h => ?_) he
  cases x with
  | int i => cases y with
    | int j => exact .inl ⟨i, j, r1, r2, ok_refl h s _ rfl⟩
    | _ => exact h.elim
  | str i => cases y with
    | str j =>
      unfold oAdd at h
      dsimp only at h
      split at h
      · rename_i hz
        rw [szL_eq] at hz
        exact .inr ⟨i, j, r1, r2, hz, ok_refl h s _ rfl⟩
      · exact h.elim
    | _ => exact h.elim
  | _ => exact h.elim
/-- x.append(e), x a list of one's own -/
@[simp] noncomputable def sApp (i : Nat) (f : Ev) : Sv := fun ρ => match ρ[i]? with
  | some (some (.ow ds)) => thnS (f ρ) ρ fun d => if ds.length < szL then .nx (ρ.set i (some (.ow (ds ++ [d])))) else .stuck
  | _ => .stuck
theorem ss_app {i : Nat} {x : Str} {px apos cpos : Pos} (hN : c.N[i]? = some x) (hv : Vis c.sc x) (he : SE c W e f) (hd : (x == ("__debug__" : Str)) = false := by decide) (hcd : (x == ("__classdict__" : Str)) = false := by decide)
    (hbase : ∀ env, attributeBase (.Name x px) "append" env (eval (.Name x px) env) = eval (.Name x px) env := by intro _; rfl)
    (hfew : ∀ env, ((backTo cpos (starEach [e] env)).all (fun x => !x.1) && (backToKw cpos (keywordEach [] env)).all (fun x => x.1.isSome) && decide ([e].length + ([] : List Keyword).length + (if ([] : List Keyword).isEmpty then 0 else 1) < 30)) = true := by intro _; rfl)
    (hline : (apos.endLine == cpos.line) = true := by rfl) (hs : ∀ env, starEach [e] env = (false, eval e env) :: starEach [] env := by intro _; rfl) :
    SS c W (.Expr (.Call (.Attribute (.Name x px) "append" apos) [e] [] cpos) pos) (sApp i f) := by
  obtain ⟨t, k, ad⟩ := he
  refine ⟨tDrop (tBM c.K "list" rAppend (tVar i) (tCons t tNil)), fun X G => ?_, fun G B H ρ σ E m h => ?_⟩
  · rw [← G.K]
    exact ps_expr (pe_bm PySem.F.plainAttrs_list PySem.F.slot_list_append PySem.F.type_list_append mt_append (pe_var (by rw [G.N]; exact hN) (by rw [G.sc]; exact hv) hd hcd) (pa_cons (k X G) pa_nil (hs X.env)) (hbase X.env) (hfew X.env) hline (hs X.env) rfl) rfl
  · unfold sApp at h
    split at h
    · rename_i ds hds
      obtain ⟨v, h1, p, vs, rfl, q1, q2, q3, q4⟩ := m.sl i _ hds
      refine ⟨.ref p, h1, .inl ⟨rfl, vs, SqL.of q1⟩, ad G B H ρ σ _ m ((Po.thn m h).imp fun d B1 H1 e1 h2 y r1 => ?_)⟩
      split at h2
      · rename_i hz
        rw [szL_eq] at hz
        have q1' : H1 p = some (.lst vs) := e1.h _ _ q1
        refine ⟨p, vs, y, rfl, rfl, q1', by rw [← q4.length]; exact hz, ?_⟩
        exact h2 σ B1 _ (Same.refl _) ((m.go e1).own (vs := vs) hds h1 ((Reps.mono e1.b _ _ q4).append (Reps.one r1)))
      · exact h2.elim
    · exact h.elim
/-- x[i] = e, x a list of one's own -/
@[simp] def sPut (i : Nat) (f g : Ev) : Sv := fun ρ => match ρ[i]? with
  | some (some (.ow ds)) => thnS (g ρ) ρ fun d => thnS (f ρ) ρ fun k => match k with
    | .int k => (match ixN ds.length k with
      | some j => .nx (ρ.set i (some (.ow (ds.set j d))))
      | none => .stuck)
    | _ => .stuck
  | _ => .stuck
theorem ss_put {i : Nat} {x : Str} {k : Expr} {px tpos : Pos} (hN : c.N[i]? = some x) (hv : Vis c.sc x) (hk : SB c W k f) (he : SE c W e g) (hd : (x == ("__debug__" : Str)) = false := by decide) (hcd : (x == ("__classdict__" : Str)) = false := by decide)
    (ha : ∀ env v, assign (.Subscript (.Name x px) k tpos) env v = (do
      let ov ← holding [v] (eval (.Name x px) env)
      let iv ← holding [v, ov] (eval k env)
      standAt tpos
      holding [v, ov, iv] (setItem ov iv v)
      release [v, ov, iv] []) := by intro _ _; rfl)
    (hs : ∀ env, swapsWithSole [.Subscript (.Name x px) k tpos] e pos.line env = pure false := by intro _; rfl) (hw : ∀ env, swappedStores [.Subscript (.Name x px) k tpos] e env = pure none := by intro _; rfl) (h1 : ∀ env, (assignEach [.Subscript (.Name x px) k tpos] env).map (·.2) = [assign (.Subscript (.Name x px) k tpos) env] := by intro _; rfl) :
    SS c W (.Assign [.Subscript (.Name x px) k tpos] e pos) (sPut i f g) := by
  obtain ⟨t, kk, ad⟩ := hk
  obtain ⟨t2, k2, ad2⟩ := he
  refine ⟨_, fun X G => ps_asg (k2 X G) (pg_sub (pe_var (by rw [G.N]; exact hN) (by rw [G.sc]; exact hv) hd hcd) (kk X G) set_list (ha X.env)) (hs X.env) (hw X.env) (h1 X.env), fun G B H ρ σ E m h => ?_⟩
  unfold sPut at h
  split at h
  · rename_i ds hds
    obtain ⟨v, e0, p, vs, rfl, q1, q2, q3, q4⟩ := m.sl i _ hds
    refine ad2 G B H ρ σ _ m ((Po.thn m h).imp fun d B1 H1 e1 h2 y r1 => ?_)
    refine ⟨.ref p, e0, ad G B1 H1 ρ σ _ (m.go e1) ((Po.thn (m.go e1) h2).imp fun kd B2 H2 e2 h3 kv r2 => ?_)⟩
    cases kd with
    | int n =>
      dsimp only at h3
      split at h3
      · rename_i j hj
        have q1' : H2 p = some (.lst vs) := e2.h _ _ (e1.h _ _ q1)
        refine ⟨p, vs, n, j, rfl, r2, q1', by rw [← q4.length]; exact hj, ?_⟩
        exact h3 σ B2 _ (Same.refl _) (((m.go e1).go e2).own (vs := vs) hds e0 ((Reps.mono (e1.b.trans e2.b) _ _ q4).set j (Rep.mono e2.b _ _ r1)))
      · exact h3.elim
    | _ => exact h3.elim
  · exact h.elim

/-! if, return, raise -/
@[simp] def sIf (p : Et) (u v : Sv) : Sv := fun ρ => thnS (p ρ) ρ fun b => if b = true then u ρ else v ρ
theorem ss_if {k : Expr} {s1 s2 : List Stmt} (hk : ST c W k p) (h1 : SSs c W s1 u) (h2 : SSs c W s2 v) : SS c W (.If k s1 s2 pos) (sIf p u v) := by
  obtain ⟨t0, k0, a0⟩ := hk
  obtain ⟨t1, k1, a1⟩ := h1
  obtain ⟨t2, k2, a2⟩ := h2
  refine ⟨_, fun X G => ps_if (k0 X G) (k1 X G) (k2 X G), fun G B H ρ σ E m h => ?_⟩
  refine a0 G B H ρ σ _ m ((Po.thn m h).imp fun b B1 H1 e1 h1 => ?_)
  cases b with
  | true =>
    rw [if_pos rfl]
    exact a1 G B1 H1 ρ σ E (m.go e1) h1
  | false =>
    rw [if_neg Bool.false_ne_true]
    exact a2 G B1 H1 ρ σ E (m.go e1) h1
@[simp] def sRet (f : Ev) : Sv := fun ρ => thnS (f ρ) ρ fun d => .rt (.sh d)
theorem ss_ret (he : SE c W e f) : SS c W (.Return (some e) pos) (sRet f) := by
  obtain ⟨t, k, ad⟩ := he
  refine ⟨_, fun X G => ps_ret (k X G), fun G B H ρ σ E m h => ?_⟩
  exact ad G B H ρ σ _ m ((Po.thn m h).imp fun d B1 H1 e1 h1 v r1 => h1 v B1 H1 (m.go e1).ext r1)
@[simp] def sRetF (f : Es) : Sv := fun ρ => thnS (f ρ) ρ fun ds => .rt (.ow ds)
theorem ss_retF {f : Es} (he : SF c W e f) : SS c W (.Return (some e) pos) (sRetF f) := by
  obtain ⟨t, k, ad⟩ := he
  refine ⟨_, fun X G => ps_ret (k X G), fun G B H ρ σ E m h => ?_⟩
  exact ad G B H ρ σ _ m ((Po.thn m h).imp fun ds B1 H1 e1 h1 p vs q1 q2 q3 q4 => h1 p vs B1 H1 (m.go e1).ext q1 q2 (m.ext.h.free q3) q4)
@[simp] def sRetO (i : Nat) : Sv := fun ρ => match ρ[i]? with
  | some (some (.ow ds)) => .rt (.ow ds)
  | _ => .stuck
theorem ss_retO {i : Nat} {x : Str} {px : Pos} (hN : c.N[i]? = some x) (hv : Vis c.sc x) (hd : (x == ("__debug__" : Str)) = false := by decide) (hcd : (x == ("__classdict__" : Str)) = false := by decide) : SS c W (.Return (some (.Name x px)) pos) (sRetO i) := by
  refine ⟨_, fun X G => ps_ret (pe_var (by rw [G.N]; exact hN) (by rw [G.sc]; exact hv) hd hcd), fun G B H ρ σ E m h => ?_⟩
  unfold sRetO at h
  split at h
  · rename_i ds hds
    obtain ⟨v, e0, p, vs, rfl, q1, q2, q3, q4⟩ := m.sl i _ hds
    exact ⟨_, e0, h p vs B H m.ext q1 q2 q3 q4⟩
  · exact h.elim
@[simp] def sRetN : Sv := fun _ => .rt (.sh .non)
theorem ss_retN : SS c W (.Return none pos) sRetN := ⟨_, fun _ _ => ps_retN, fun G B H ρ σ E m h => h _ B H m.ext rfl⟩
theorem ss_pass : SS c W (.Pass pos) sNx := ⟨_, fun _ _ => ps_pass, fun G B H ρ σ E m h => h σ B H (Same.refl _) m⟩
/-- an expression whose value is dropped -/
@[simp] def sDrop (f : Ev) : Sv := fun ρ => thnS (f ρ) ρ fun _ => .nx ρ
theorem ss_drop (he : SE c W e f) (hs : ∀ env, swapsWith e none pos.line env = pure false := by intro _; rfl) : SS c W (.Expr e pos) (sDrop f) := by
  obtain ⟨t, k, ad⟩ := he
  refine ⟨_, fun X G => ps_expr (k X G) (hs X.env), fun G B H ρ σ E m h => ?_⟩
  exact ad G B H ρ σ _ m ((Po.thn m h).imp fun d B1 H1 e1 h1 v r1 => h1 σ B1 H1 (Same.refl _) (m.go e1))
/-- an own error's class -/
structure Xc (c : Cf) (x : Str) : Prop where
  ex : ∃ C : Addr, c.mg x = some (.ref C) ∧ PySem.W.excIn c.K C [.type "ValueError", .type "Exception", .type "BaseException", .type "object"] "ValueError.__new__" = true ∧ PySem.W.keepIn c.K (.ref C) = true ∧
    PySem.W.subIn c.K (.ref C) (.type "BaseException") = some true ∧ PySem.W.typeIn c.K (.ref C) = some (.type "type")
@[simp] def sRaise (x : Str) : Sv := fun ρ => .exc x ρ
theorem ss_raise {x m : Str} {j : Nat} {p p2 pc : Pos} (hx : Xc c x) (hg : c.sc.names.lookup x = some .globalImplicit) (hdb : (x == ("__debug__" : Str)) = false := by decide) : SS c W (.Raise (some (.Call (.Name x p) [.Constant (.str m) j p2] [] pc)) none pos) (sRaise x) := by
  obtain ⟨C, g1, g2, g3, g4, g5⟩ := hx.ex
  refine ⟨_, fun X G => ps_raise G.calm G.tk (pmk_own (C := C) PySem.F.excBase_ValueError (by rw [G.K]; exact g2) (by rw [G.mg]; exact g1) (by rw [G.K]; exact g3) (raises_own (by rw [G.K]; exact g4) (by rw [G.K]; exact g5)) (by show X.env.scope.names.lookup x = _; rw [G.sc]; exact hg) hdb), fun G B H ρ σ E m h => ?_⟩
  exact h C σ B H g1 (Same.refl _) m

/-! loops -/
@[simp] def forR (gt : Gt) (u : Sv) : List D → Sv
  | [], ρ => .nx ρ
  | d :: ds, ρ => (gt d ρ).fl fun ρ1 => (u ρ1).turn (forR gt u ds)
noncomputable def sFor (f : Es) (gt : Gt) (u : Sv) : Sv := hid fun ρ => thnS (f ρ) ρ fun items => forR gt u items ρ
theorem sFor_eq {f : Es} {gt : Gt} {u : Sv} : sFor f gt u = fun ρ => thnS (f ρ) ρ fun items => forR gt u items ρ := hid_eq _
theorem ss_for {is : List Nat} {gt : Gt} {f : Es} {body : List Stmt} (hi : SI c W tg e f) (hg : SG c tg is gt) (hb : SSs c W body u) (hs : ∀ env x, foldedSetIterable e env x = pure x := by intro _ _; rfl) : SS c W (.For tg e body [] pos) (sFor f gt u) := by
  obtain ⟨wi, k0, a0⟩ := hi
  obtain ⟨tg', k1, a1⟩ := hg
  obtain ⟨tb, k2, a2⟩ := hb
  refine ⟨_, fun X G => ps_for G.po G.calm (k0 X G) (k1 W X G) (k2 X G) (hs X.env), fun G B H ρ σ E m h => ?_⟩
  rw [sFor_eq] at h
  refine a0 G B H ρ σ _ m ((Po.thn m h).imp fun items B1 H1 e1 h1 J wk => ?_)
  refine ⟨fun i n σ' H' => ∃ ρ' B', Same B1 B' ∧ Mt c.K G B' H' ρ' σ' ∧ n = items.length - i ∧ i ≤ items.length ∧ PoS c W G B' E (forR gt u (items.drop i) ρ'), ⟨items.length, ρ, B1, Same.refl _, m.go e1, rfl, Nat.zero_le _, h1⟩, fun i n σ' H' hW => ?_⟩
  obtain ⟨ρ', B', s', m', rfl, hi, po⟩ := hW
  obtain ⟨w1, w2⟩ := wk B' H' i s' m'.ext
  by_cases hlt : i < items.length
  · have hd := List.drop_eq_getElem_cons hlt
    rw [hd] at po
    obtain ⟨go, yld⟩ := w1 items[i] (List.getElem?_eq_getElem hlt)
    refine .inr ⟨go, fun σ2 H2 => ∃ ρ2 B2, Same B1 B2 ∧ Mt c.K G B2 H2 ρ2 σ2 ∧ PoS c W G B2 E (forR gt u (items.drop (i + 1)) ρ2), fun σ2 H2 ⟨ρ2, B2, z1, z2, z3⟩ => ⟨items.length - (i + 1), by omega, ρ2, B2, z1, z2, rfl, hlt, z3⟩, fun x H2 hy => ?_⟩
    obtain ⟨B2, x2, r2⟩ := yld x H2 hy
    have m2 := m'.go x2
    refine a1 G B2 H2 ρ' σ' x items[i] _ m2 r2 ?_
    unfold forR at po
    cases hgt : gt items[i] ρ' with
    | ok ρ1 =>
      rw [hgt] at po
      intro σ1 m1 _ _
      refine a2 G B2 H2 ρ1 σ1 _ m1 ?_
      unfold R.fl at po
      dsimp only at po
      have s2 : Same B1 B2 := s'.trans x2.b
      cases hu : u ρ1 with
      | nx ρ3 =>
        rw [hu] at po
        exact fun σ3 B3 H3 s3 m3 => ⟨ρ3, B3, s2.trans s3, m3, po.mono (x2.b.trans s3)⟩
      | ct ρ3 =>
        rw [hu] at po
        exact fun σ3 B3 H3 s3 m3 => ⟨ρ3, B3, s2.trans s3, m3, po.mono (x2.b.trans s3)⟩
      | bk ρ3 =>
        rw [hu] at po
        exact fun σ3 B3 H3 s3 m3 => po σ3 B3 H3 (x2.b.trans s3) m3
      | rt s =>
        rw [hu] at po
        exact po
      | exc z ρ3 =>
        rw [hu] at po
        exact fun C σ3 B3 H3 g s3 m3 => po C σ3 B3 H3 g (x2.b.trans s3) m3
      | stuck =>
        rw [hu] at po
        exact po.elim
    | exc z => rw [hgt] at po; exact po.elim
    | stuck => rw [hgt] at po; exact po.elim
  · have hn : items.drop i = [] := List.drop_eq_nil_of_le (by omega)
    rw [hn] at po
    exact .inl ⟨w2 (by omega), po σ' B' H' (Same.refl _) m'⟩
def whlN (p : Et) (u : Sv) : Nat → En → Option Fl
  | 0, _ => none
  | n + 1, ρ => match p ρ with
    | .ok true => (match u ρ with
      | .nx ρ2 => whlN p u n ρ2
      | .ct ρ2 => whlN p u n ρ2
      | .bk ρ2 => some (.nx ρ2)
      | r => some r)
    | .ok false => some (.nx ρ)
    | .exc x => some (.exc x ρ)
    | .stuck => some .stuck
open Classical in
noncomputable def sWhl (p : Et) (u : Sv) : Sv := fun ρ => if h : ∃ r, ∃ n, whlN p u n ρ = some r then h.choose else .stuck
theorem whlN_det {p : Et} {u : Sv} : ∀ (n m : Nat) (ρ : En) (r r' : Fl), whlN p u n ρ = some r → whlN p u m ρ = some r' → r = r'
  | 0, _, _, _, _, h, _ => by cases h
  | _ + 1, 0, _, _, _, _, h => by cases h
  | n + 1, m + 1, ρ, r, r', h, h' => by
    unfold whlN at h h'
    cases hp : p ρ with
    | ok b =>
      rw [hp] at h h'
      cases b with
      | true =>
        cases hu : u ρ with
        | nx ρ2 => rw [hu] at h h'; exact whlN_det n m ρ2 r r' h h'
        | ct ρ2 => rw [hu] at h h'; exact whlN_det n m ρ2 r r' h h'
        | bk ρ2 => rw [hu] at h h'; exact Option.some.inj (h.symm.trans h')
        | rt s => rw [hu] at h h'; exact Option.some.inj (h.symm.trans h')
        | exc x ρ2 => rw [hu] at h h'; exact Option.some.inj (h.symm.trans h')
        | stuck => rw [hu] at h h'; exact Option.some.inj (h.symm.trans h')
      | false => exact Option.some.inj (h.symm.trans h')
    | exc x => rw [hp] at h h'; exact Option.some.inj (h.symm.trans h')
    | stuck => rw [hp] at h h'; exact Option.some.inj (h.symm.trans h')
theorem sWhl_of {p : Et} {u : Sv} {n : Nat} {ρ : En} {r : Fl} (h : whlN p u n ρ = some r) : sWhl p u ρ = r := by
  have ex : ∃ r, ∃ n, whlN p u n ρ = some r := ⟨r, n, h⟩
  unfold sWhl
  rw [dif_pos ex]
  obtain ⟨m, hm⟩ := ex.choose_spec
  exact whlN_det m n ρ _ _ hm h
theorem sWhl_to {p : Et} {u : Sv} {ρ : En} (h : sWhl p u ρ ≠ .stuck) : ∃ n, whlN p u n ρ = some (sWhl p u ρ) := by
  unfold sWhl at h ⊢
  by_cases ex : ∃ r, ∃ n, whlN p u n ρ = some r
  · rw [dif_pos ex] at h ⊢
    exact ex.choose_spec
  · rw [dif_neg ex] at h
    exact absurd rfl h
theorem sWhl_false {p : Et} {u : Sv} {ρ : En} (h : p ρ = .ok false) : sWhl p u ρ = .nx ρ := sWhl_of (n := 1) (by unfold whlN; rw [h])
theorem sWhl_next {p : Et} {u : Sv} {ρ ρ2 : En} (h : p ρ = .ok true) (h2 : u ρ = .nx ρ2) : sWhl p u ρ = sWhl p u ρ2 := by
  have st : ∀ n, whlN p u (n + 1) ρ = whlN p u n ρ2 := fun n => by
    rw [whlN, h]
    simp only [h2]
  by_cases ex : ∃ r, ∃ n, whlN p u n ρ2 = some r
  · obtain ⟨r, n, hn⟩ := ex
    rw [sWhl_of hn, sWhl_of (n := n + 1) (by rw [st]; exact hn)]
  · have e2 : sWhl p u ρ2 = .stuck := by unfold sWhl; rw [dif_neg ex]
    have e1 : sWhl p u ρ = .stuck := by
      unfold sWhl
      rw [dif_neg]
      rintro ⟨r, n, hn⟩
      cases n with
      | zero => cases hn
      | succ n =>
        rw [st] at hn
        exact ex ⟨r, n, hn⟩
    rw [e1, e2]
theorem sWhl_ret {p : Et} {u : Sv} {ρ : En} {s : Sl} (h : p ρ = .ok true) (h2 : u ρ = .rt s) : sWhl p u ρ = .rt s := sWhl_of (n := 1) (by unfold whlN; rw [h]; simp only [h2])
theorem sWhl_exc {p : Et} {u : Sv} {ρ ρ2 : En} {x : Str} (h : p ρ = .ok true) (h2 : u ρ = .exc x ρ2) : sWhl p u ρ = .exc x ρ2 := sWhl_of (n := 1) (by unfold whlN; rw [h]; simp only [h2])
theorem ss_while {k : Expr} {body : List Stmt} (hk : ST c W k p) (hb : SSs c W body u) : SS c W (.While k body [] pos) (sWhl p u) := by
  obtain ⟨t0, k0, a0⟩ := hk
  obtain ⟨tb, k2, a2⟩ := hb
  refine ⟨_, fun X G => ps_while G.po (k0 X G) (k2 X G), fun G B H ρ σ E m h => ?_⟩
  have ns : sWhl p u ρ ≠ .stuck := fun e => by rw [e] at h; exact h
  obtain ⟨n0, hn0⟩ := sWhl_to ns
  refine ⟨fun n σ' H' => ∃ ρ' B' r, Mt c.K G B' H' ρ' σ' ∧ whlN p u n ρ' = some r ∧ PoS c W G B' E r, ⟨n0, ρ, B, _, m, hn0, h⟩, fun n σ' H' hW => ?_⟩
  obtain ⟨ρ', B', r, m', e', po⟩ := hW
  cases n with
  | zero => cases e'
  | succ n =>
    unfold whlN at e'
    refine a0 G B' H' ρ' σ' _ m' ?_
    cases hp : p ρ' with
    | ok b =>
      rw [hp] at e'
      intro B1 H1 x1
      cases b with
      | true =>
        rw [if_pos rfl]
        refine ⟨fun σ2 H2 => ∃ ρ2 B2 r, Mt c.K G B2 H2 ρ2 σ2 ∧ whlN p u n ρ2 = some r ∧ PoS c W G B2 E r, fun σ2 H2 z => ⟨n, Nat.lt_succ_self n, z⟩, ?_⟩
        refine a2 G B1 H1 ρ' σ' _ (m'.go x1) ?_
        dsimp only at e'
        cases hu : u ρ' with
        | nx ρ2 => rw [hu] at e'; exact fun σ2 B2 H2 s2 m2 => ⟨ρ2, B2, r, m2, e', po.mono (x1.b.trans s2)⟩
        | ct ρ2 => rw [hu] at e'; exact fun σ2 B2 H2 s2 m2 => ⟨ρ2, B2, r, m2, e', po.mono (x1.b.trans s2)⟩
        | bk ρ2 => rw [hu] at e'; cases e'; exact fun σ2 B2 H2 s2 m2 => po σ2 B2 H2 (x1.b.trans s2) m2
        | rt s => rw [hu] at e'; cases e'; exact po
        | exc x ρ2 => rw [hu] at e'; cases e'; exact fun C σ2 B2 H2 g s2 m2 => po C σ2 B2 H2 g (x1.b.trans s2) m2
        | stuck => rw [hu] at e'; cases e'; exact po.elim
      | false =>
        rw [if_neg Bool.false_ne_true]
        cases e'
        exact po σ' B1 H1 x1.b (m'.go x1)
    | exc x =>
      rw [hp] at e'
      cases e'
      exact fun C B1 H1 g x1 => po C σ' B1 H1 g x1.b (m'.go x1)
    | stuck =>
      rw [hp] at e'
      cases e'
      exact po.elim
end
end Mi

namespace Mi
open PySem PySem.Spec L2

/-! ## 9. Defs and their calls -/
/-- a body at the arguments -/
@[simp] def runB (n : Nat) (u : Sv) (args : List Sl) : R Sl := (u (args.map some ++ List.replicate (n - args.length) none)).out
def FPo (K : PySem.W.Frag) (mg : Str → Option Value) (B H : Hp) (Q : VK) (E : XK) : R Sl → Prop
  | .ok s => RtOk K (gd B H) Q s
  | .exc x => ∀ (C : Addr) B' H', mg x = some (.ref C) → Ext B H B' H' → E (.ref C) none H'
  | .stuck => False
/-- what a def promises: its answer by m -/
def FSp (K : PySem.W.Frag) (mg : Str → Option Value) (n : Nat) (m : List Sl → R Sl) : Sp := fun vs H Q E => ∃ B args, Same B H ∧ ArgsOk K B H args vs ∧ args.length = n ∧ FPo K mg B H Q E (m args)
/-- the def of that name answers by m, by at most k calls within one another -/
structure Fn (P : Program) (w : World) (K : PySem.W.Frag) (mg : Str → Option Value) (base : Heap) (k : Nat) (x : Str) (n : Nat) (m : List Sl → R Sl) : Prop where
  ex : ∃ (f : Addr) (fd : FuncData) (ps : List Str), mg x = some (.ref f) ∧ PySem.W.keepIn K (.ref f) = true ∧ Binds K fd ps [] ∧ FnOk P w K mg base (L2.CX P w) k f fd ps (FSp K mg n m)
theorem Fn.mono {P : Program} {w : World} {K : PySem.W.Frag} {mg : Str → Option Value} {base : Heap} {j k : Nat} {x : Str} {n : Nat} {m : List Sl → R Sl} (F : Fn P w K mg base j x n m) (h : j ≤ k) : Fn P w K mg base k x n m := by
  obtain ⟨f, fd, ps, h1, h2, h3, h4⟩ := F.ex
  exact ⟨f, fd, ps, h1, h2, h3, h4.mono h⟩
/-- another function that answers where the first one does, the same -/
theorem Fn.imp {P : Program} {w : World} {K : PySem.W.Frag} {mg : Str → Option Value} {base : Heap} {k : Nat} {x : Str} {n : Nat} {m m' : List Sl → R Sl} (F : Fn P w K mg base k x n m) (h : ∀ args, args.length = n → m' args ≠ .stuck → m args = m' args) : Fn P w K mg base k x n m' := by
  obtain ⟨f, fd, ps, h1, h2, h3, h4⟩ := F.ex
  refine ⟨f, fd, ps, h1, h2, h3, h4.imp fun vs H Q E ⟨B, args, s, a, l, p⟩ => ⟨B, args, s, a, l, ?_⟩⟩
  have ns : m' args ≠ .stuck := fun e => by rw [e] at p; exact p
  rw [h args l ns]
  exact p
/-- the context of a body -/
abbrev cfOf (P : Program) (w : World) (K : PySem.W.Frag) (mg : Str → Option Value) (base : Heap) (N : List Str) (sc : Scope) (k : Nat) : Cf := ⟨P, w, K, mg, base, N, sc, k, true⟩
section
variable {P : Program} {w : World} {K : PySem.W.Frag} {mg : Str → Option Value} {base : Heap}
theorem args_mt {B H : Hp} (s : Same B H) {args : List Sl} {vs : List V} {N : List Str} (h : ArgsOk K B H args vs) : Mt K (gd B H) B H (args.map some ++ List.replicate (N.length - args.length) none) (L2.start N vs) := by
  have get : ∀ {args : List Sl} {vs : List V} {i : Nat} {t : Sl}, ArgsOk K B H args vs → args[i]? = some t → ∃ v, vs[i]? = some v ∧ ArgOk K B H t v := by
    intro args
    induction args with
    | nil => intro vs i t _ e; simp at e
    | cons a as ih =>
      intro vs i t h e
      obtain ⟨v, r, rfl, h1, h2⟩ := h
      cases i with
      | zero => simp at e; subst e; exact ⟨v, rfl, h1⟩
      | succ i =>
        obtain ⟨v', e', h'⟩ := ih (i := i) h2 (by simpa using e)
        exact ⟨v', by simpa using e', h'⟩
  have here : ∀ (i : Nat) (t : Sl), (args.map some ++ List.replicate (N.length - args.length) none)[i]? = some (some t) → args[i]? = some t := fun i t e => by
    by_cases hi : i < args.length
    · rw [List.getElem?_append_left (by simpa using hi), List.getElem?_map] at e
      cases e2 : args[i]? with
      | none => rw [e2] at e; cases e
      | some u => rw [e2] at e; cases e; rfl
    · rw [List.getElem?_append_right (by simpa using Nat.le_of_not_lt hi), List.getElem?_replicate] at e
      split at e <;> cases e
  have noOw : ∀ (i : Nat) (t : Sl), (args.map some ++ List.replicate (N.length - args.length) none)[i]? = some (some t) → isOw t = true → False := fun i t e o => by
    obtain ⟨v, _, h2⟩ := get h (here i t e)
    cases t with
    | ow ds => exact h2
    | oo ds => exact h2
    | mu k o => exact h2
    | _ => cases o
  refine ⟨Ext.refl s, ?_, fun i t e => ?_, fun i j t u v w z _ e1 _ _ _ o _ => (noOw i t e1 (owA_is o)).elim⟩
  · unfold L2.start
    rw [List.length_append, List.length_append, List.length_map, List.length_map, List.length_replicate, List.length_replicate, h.length]
  · obtain ⟨v, h1, h2⟩ := get h (here i t e)
    refine ⟨v, ?_, ?_⟩
    · unfold L2.start
      have hi := (List.getElem?_eq_some_iff.mp h1).1
      rw [List.getElem?_append_left (by simpa using hi), List.getElem?_map, h1]
      rfl
    · cases t with
      | sh d => exact h2
      | bo ds =>
        obtain ⟨a, us, e1, q, r⟩ := h2
        exact ⟨a, us, e1, q, r⟩
      | ow ds => exact h2.elim
      | lt k ds => exact h2.elim
      | oo ds => exact h2.elim
      | mu k o => exact h2.elim
      | mr d os => exact h2.elim
theorem fn_ok {x qual : Str} {st : Stmt} {f : Addr} {fd : FuncData} {N ps : List Str} {k n : Nat} {u : Sv} (F : L2.Fun K x qual st f fd) (S : FnScope N ps (defScope st)) (hn : ps.length = n)
    (body : ∀ W, SSs (cfOf P w K mg base N (defScope st) k) W (defBody st) u) : FnOk P w K mg base (L2.CX P w) (k + 1) f fd ps (FSp K mg n (runB N.length u)) := by
  refine F.okX S (fun vs H Q E ⟨B, args, _, a, l, _⟩ => by rw [← a.length, l, hn]) (fun cdv A outer s H vs Q E hr h => ?_)
  obtain ⟨B, args, sm, a, l, p⟩ := h
  obtain ⟨t, kx, ad⟩ := body (fun cls d _ H => E cls d H)
  refine ⟨t, kx _ ⟨rfl, rfl, rfl, rfl, rfl, rfl, S.nd, rfl, rfl, takes_of rfl rfl rfl rfl, passes_of rfl, hr, fun _ _ => rfl, fun _ => ⟨rfl, rfl⟩, fun _ => rfl⟩, ?_⟩
  refine ad (gd B H) B H _ _ _ (args_mt (N := N) sm a) ?_
  unfold runB at p
  cases hu : u (args.map some ++ List.replicate (N.length - args.length) none) with
  | nx ρ =>
    rw [hu] at p
    exact fun σ' B' H' _ m' => p .non B' H' m'.ext rfl
  | rt s =>
    rw [hu] at p
    exact p
  | exc z ρ =>
    rw [hu] at p
    exact fun C σ' B' H' g _ m' => p C B' H' g m'.ext
  | bk ρ => rw [hu] at p; exact p.elim
  | ct ρ => rw [hu] at p; exact p.elim
  | stuck => rw [hu] at p; exact p.elim
theorem fn_mk {x qual : Str} {st : Stmt} {f : Addr} {fd : FuncData} {N ps : List Str} {k n : Nat} {u : Sv} (F : L2.Fun K x qual st f fd) (hm : mg x = some (.ref f)) (b : Binds K fd ps []) (S : FnScope N ps (defScope st)) (hn : ps.length = n)
    (body : ∀ W, SSs (cfOf P w K mg base N (defScope st) k) W (defBody st) u) : Fn P w K mg base (k + 1) x n (runB N.length u) := ⟨f, fd, ps, hm, F.kp, b, fn_ok F S hn body⟩
end

section
variable {c : Cf} {W : WX} {a b e tg : Expr} {es : List Expr} {f g h : Ev} {p q : Et} {pos pos' : Pos}
/-! arguments -/
abbrev Ea := En → R (List Sl)
def SAn (c : Cf) (W : WX) (es : List Expr) (f : Ea) : Prop := SA c W es f ∧ ∀ ρ ss, f ρ = .ok ss → ss.length = es.length
@[simp] def aNil : Ea := fun _ => .ok []
@[simp] def aVal (f : Ev) (g : Ea) : Ea := fun ρ => (f ρ).bind fun d => (g ρ).map fun ss => .sh d :: ss
@[simp] def aBor (i : Nat) (g : Ea) : Ea := fun ρ => (match ρ[i]? with
  | some (some (.ow ds)) => R.ok ds
  | some (some (.bo ds)) => .ok ds
  | some (some (.mu _ (.lst ds))) => .ok ds
  | some (some (.sh (.lst ds))) => .ok ds
  | _ => .stuck).bind fun ds => (g ρ).map fun ss => .bo ds :: ss
theorem sa_nil : SAn c W [] aNil := ⟨⟨_, fun _ _ => pa_nil, fun _ _ _ _ _ _ m h => ok_refl h m.sub _ rfl⟩, fun _ _ e => by cases e; rfl⟩
theorem bind_map_len {α : Type} {r : R α} {k : Ea} {ρ : En} {t : α → Sl} {ss : List Sl} {n : Nat} (hk : ∀ ss, k ρ = .ok ss → ss.length = n) (h : (r.bind fun d => (k ρ).map fun ss => t d :: ss) = .ok ss) : ss.length = n + 1 := by
  cases r with
  | ok d =>
    rw [R.bind_ok] at h
    cases h2 : k ρ with
    | ok xs =>
      rw [h2, R.map_ok] at h
      cases h
      rw [List.length_cons, hk xs h2]
    | exc z => rw [h2] at h; cases h
    | stuck => rw [h2] at h; cases h
  | exc z => cases h
  | stuck => cases h
theorem sa_val {k : Ea} (ha : SE c W e f) (hr : SAn c W es k) (hs : ∀ env, starEach (e :: es) env = (false, eval e env) :: starEach es env := by intro _; rfl) : SAn c W (e :: es) (aVal f k) := by
  obtain ⟨t, kk, ad⟩ := ha
  obtain ⟨⟨t2, k2, ad2⟩, l2⟩ := hr
  refine ⟨⟨_, fun X G => pa_cons (kk X G) (k2 X G) (hs X.env), fun G B H ρ σ Q m hh => ?_⟩, fun ρ ss h => bind_map_len (l2 ρ) h⟩
  refine ad G B H ρ σ _ m ((Po.bind hh).imp fun x B1 H1 e1 h1 v r1 => ?_)
  refine ad2 G B1 H1 ρ σ _ (m.go e1) ((Po.map h1).imp fun xs B2 H2 e2 h2 vs r2 => ?_)
  exact h2 _ ⟨v, vs, rfl, Rep.mono e2.b _ _ r1, r2⟩
theorem sa_bor {i : Nat} {x : Str} {k : Ea} (hN : c.N[i]? = some x) (hv : Vis c.sc x) (hr : SAn c W es k) (hd : (x == ("__debug__" : Str)) = false := by decide) (hcd : (x == ("__classdict__" : Str)) = false := by decide)
    (hs : ∀ env, starEach (.Name x pos :: es) env = (false, eval (.Name x pos) env) :: starEach es env := by intro _; rfl) : SAn c W (.Name x pos :: es) (aBor i k) := by
  obtain ⟨⟨t2, k2, ad2⟩, l2⟩ := hr
  refine ⟨⟨_, fun X G => pa_cons (pe_var (by rw [G.N]; exact hN) (by rw [G.sc]; exact hv) hd hcd) (k2 X G) (hs X.env), fun G B H ρ σ Q m hh => ?_⟩, fun ρ ss h => bind_map_len (l2 ρ) h⟩
  unfold aBor at hh
  have go : ∀ (ds : List D) (v : V), σ[i]? = some (some v) → (∃ p vs, v = .ref p ∧ SqL c.K H p vs ∧ Reps c.K B ds vs) → Po c W σ B H ((k ρ).map fun ss => .bo ds :: ss) (fun ss B' H' => ∀ vs, ArgsOk c.K B' H' ss vs → Q vs H') → tCons (tVar i) t2 σ H Q := fun ds v e1 e2 e3 => by
    refine ⟨v, e1, ad2 G B H ρ σ _ m ((Po.map e3).imp fun xs B2 H2 x2 h2 vs r2 => ?_)⟩
    obtain ⟨p, us, rfl, q1, q2⟩ := e2
    exact h2 _ ⟨_, vs, rfl, ⟨p, us, rfl, x2.h.seq q1, Reps.mono x2.b _ _ q2⟩, r2⟩
  cases e : ρ[i]? with
  | none => rw [e] at hh; exact hh.elim
  | some s =>
    cases s with
    | none => rw [e] at hh; exact hh.elim
    | some s =>
      obtain ⟨v, h1, h2⟩ := m.sl i _ e
      rw [e] at hh
      cases s with
      | ow ds =>
        obtain ⟨p, vs, rfl, q1, q2, q3, q4⟩ := h2
        exact go ds _ h1 ⟨p, vs, rfl, SqL.of q1, q4⟩ hh
      | bo ds =>
        obtain ⟨p, vs, rfl, q1, q2⟩ := h2
        exact go ds _ h1 ⟨p, vs, rfl, m.ext.h.seq q1, q2⟩ hh
      | lt k ds => exact hh.elim
      | oo ds => exact hh.elim
      | mr d os => exact h2.elim
      | mu k o => cases o with
        | lst ds =>
          obtain ⟨p, vs, rfl, q1, q2, q3, q4⟩ := h2.2
          exact go ds _ h1 ⟨p, vs, rfl, SqL.of q1, q4⟩ hh
        | _ => exact hh.elim
      | sh d =>
        cases d with
        | lst ds =>
          obtain ⟨p, vs, rfl, q1, q2⟩ := h2
          exact go ds _ h1 ⟨p, vs, rfl, m.sub.seq q1, q2⟩ hh
        | _ => exact hh.elim
/-! calls -/
@[simp] def slD : Sl → R D
  | .sh d => .ok d
  | .ow ds => .ok (.lst ds)
  | .bo _ => .stuck
  | .lt _ _ => .stuck
  | .oo _ => .stuck
  | .mu _ _ => .stuck
  | .mr _ _ => .stuck
@[simp] def slO : Sl → R (List D)
  | .ow ds => .ok ds
  | _ => .stuck
@[simp] def eApp (m : List Sl → R Sl) (f : Ea) : Ev := fun ρ => ((f ρ).bind m).bind slD
@[simp] def eAppF (m : List Sl → R Sl) (f : Ea) : Es := fun ρ => ((f ρ).bind m).bind slO
theorem call_core {n : Nat} {m : List Sl → R Sl} {x : Str} {f : Ea} {p : Pos} (hF : Fn c.P c.w c.K c.mg c.base c.k x n m) (hg : c.sc.names.lookup x = some .globalImplicit) (ha : SAn c W (e :: es) f) (hn : (e :: es).length = n) (hdb : (x == ("__debug__" : Str)) = false)
    (he : ∀ env, starEach (e :: es) env = (false, eval e env) :: starEach es env) (hpl : ∀ env, (backTo pos (starEach es env)).any (·.1) = false) :
    ∃ t : TE, (∀ X, GX c W X → PE X (.Call (.Name x p) (e :: es) [] pos) t) ∧ ∀ (g : Gd) (B H : Hp) (ρ : En) (σ : St) (Q : VK), Mt c.K g B H ρ σ →
      Po c W σ B H (f ρ) (fun args B' H' => FPo c.K c.mg B' H' Q (WE W σ) (m args)) → t σ H Q := by
  obtain ⟨ff, fd, ps, h1, h2, h3, h4⟩ := hF.ex
  obtain ⟨⟨t, k, ad⟩, l⟩ := ha
  refine ⟨_, fun X G => pe_callS (E := WE W) (by rw [G.P, G.w, G.K, G.mg, G.base]; exact h4) G.room (by show X.env.scope.names.lookup x = _; rw [G.sc]; exact hg) (by rw [G.mg]; exact h1) (by rw [G.K]; exact h2) (by rw [G.K]; exact h3) (fun σ => by rw [← G.P, ← G.w]; exact passAt G.tk σ) (k X G) hdb (he X.env) (hpl X.env), fun G B H ρ σ Q mm hh => ?_⟩
  refine ad G B H ρ σ _ mm ?_
  cases hf : f ρ with
  | ok args =>
    rw [hf] at hh
    intro B1 H1 e1 vs r1
    exact ⟨B1, args, e1.in_, r1, by rw [l ρ args hf, hn], hh B1 H1 e1⟩
  | exc z => rw [hf] at hh; exact hh
  | stuck => rw [hf] at hh; exact hh
theorem se_call {n : Nat} {m : List Sl → R Sl} {x : Str} {f : Ea} {p : Pos} (hF : Fn c.P c.w c.K c.mg c.base c.k x n m) (hg : c.sc.names.lookup x = some .globalImplicit) (ha : SAn c W (e :: es) f) (hn : (e :: es).length = n := by rfl) (hdb : (x == ("__debug__" : Str)) = false := by decide)
    (he : ∀ env, starEach (e :: es) env = (false, eval e env) :: starEach es env := by intro _; rfl) (hpl : ∀ env, (backTo pos (starEach es env)).any (·.1) = false := by intro _; rfl) : SE c W (.Call (.Name x p) (e :: es) [] pos) (eApp m f) := by
  obtain ⟨t, k, ad⟩ := call_core hF hg ha hn hdb he hpl
  refine ⟨t, k, fun G B H ρ σ Q mm hh => ad G B H ρ σ Q mm ?_⟩
  refine (Po.bind (Po.bind hh)).imp fun args B1 H1 e1 h1 => ?_
  cases hm : m args with
  | ok s =>
    rw [hm] at h1
    have h2 := h1 B1 H1 (Ext.refl e1.in_)
    cases s with
    | sh d => exact fun v B' H' x r => (show Po c W σ B1 H1 (R.ok d) (fun d B' H' => ∀ v, Rep c.K B' d v → Q v H') from h2) B' H' x v r
    | ow ds => exact fun p vs B' H' x q1 q2 q3 q4 => (show Po c W σ B1 H1 (R.ok (D.lst ds)) (fun d B' H' => ∀ v, Rep c.K B' d v → Q v H') from h2) _ H' (x.take q1 q2 q3) _ ⟨p, vs, rfl, .inl (.inl upd_same), Reps.mono (same_put q2) _ _ q4⟩
    | bo ds => exact h2.elim
    | lt k ds => exact h2.elim
    | oo ds => exact h2.elim
    | mu k o => exact h2.elim
    | mr d os => exact (show (Po c W σ B1 H1 R.stuck (fun d B' H' => ∀ v, Rep c.K B' d v → Q v H')) from h2).elim
  | exc z =>
    rw [hm] at h1
    exact fun C B' H' g x => h1 C B' H' g x
  | stuck => rw [hm] at h1; exact h1.elim
theorem sf_call {n : Nat} {m : List Sl → R Sl} {x : Str} {f : Ea} {p : Pos} (hF : Fn c.P c.w c.K c.mg c.base c.k x n m) (hg : c.sc.names.lookup x = some .globalImplicit) (ha : SAn c W (e :: es) f) (hn : (e :: es).length = n := by rfl) (hdb : (x == ("__debug__" : Str)) = false := by decide)
    (he : ∀ env, starEach (e :: es) env = (false, eval e env) :: starEach es env := by intro _; rfl) (hpl : ∀ env, (backTo pos (starEach es env)).any (·.1) = false := by intro _; rfl) : SF c W (.Call (.Name x p) (e :: es) [] pos) (eAppF m f) := by
  obtain ⟨t, k, ad⟩ := call_core hF hg ha hn hdb he hpl
  refine ⟨t, k, fun G B H ρ σ Q mm hh => ad G B H ρ σ Q mm ?_⟩
  refine (Po.bind (Po.bind hh)).imp fun args B1 H1 e1 h1 => ?_
  cases hm : m args with
  | ok s =>
    rw [hm] at h1
    have h2 := h1 B1 H1 (Ext.refl e1.in_)
    cases s with
    | ow ds => exact fun p vs B' H' x q1 q2 q3 q4 => (show Po c W σ B1 H1 (.ok ds) _ from h2) B' H' x p vs q1 q2 (e1.h.free q3) q4
    | _ => exact h2.elim
  | exc z =>
    rw [hm] at h1
    exact fun C B' H' g x => h1 C B' H' g x
  | stuck => rw [hm] at h1; exact h1.elim

/-! ### list comprehensions (nothing is raised within) -/
@[simp] def wipeE (ρ : En) : List Nat → En
  | [] => ρ
  | v :: vs => (wipeE ρ vs).set v none
@[simp] def lcR (gt : Gt) (p : Et) (f : Ev) (ρ : En) : List D → R (List D)
  | [] => .ok []
  | d :: ds => (gt d ρ).bnd fun ρ1 => (p ρ1).bnd fun b => if b = true then (f ρ1).bnd fun y => (lcR gt p f ρ ds).bnd fun ys => .ok (y :: ys) else lcR gt p f ρ ds
noncomputable def eLc (fi : Es) (gt : Gt) (p : Et) (f : Ev) (vs : List Nat) : Es := fun ρ => (fi ρ).bind fun items => if items.length ≤ szL then (lcR gt p f (wipeE ρ vs) items).bnd .ok else .stuck
def W0 : WX := fun _ _ _ _ => False
abbrev Cf.blk (c : Cf) (scope : Scope) : Cf := { c with sc := relS scope c.sc, top := false }
theorem GX.blk {X : Cx} (G : GX c W X) (s : Shared) (H : Hp) (scope : Scope) (cl : List (Str × Addr)) (C : Addr) (fp : List Addr) : GX (c.blk scope) W0 (X.blk s H scope (compEnvC scope cl C X.env) fp) :=
  ⟨G.P, G.w, G.K, G.mg, G.base, G.N, G.nd, by show relS scope X.env.scope = relS scope c.sc; rw [G.sc], G.calm, takes0, PassesOwn.never, G.room, fun z => Bool.noConfusion (show false = true from z), fun z => Bool.noConfusion (show false = true from z), fun z => Bool.noConfusion (show false = true from z)⟩
theorem Mt.wipe {G : Gd} {B H : Hp} {ρ : En} {σ : St} (m : Mt c.K G B H ρ σ) : ∀ vs : List Nat, Mt c.K G B H (wipeE ρ vs) (wipe σ vs)
  | [] => m
  | v :: vs => (m.wipe vs).kill v _ (List.length_set ..) fun j hj => List.getElem?_set_ne (Ne.symm hj)
theorem wipe_out {σ : St} : ∀ {vs : List Nat} {j : Nat}, j ∉ vs → (wipe σ vs)[j]? = σ[j]?
  | [], _, _ => rfl
  | v :: vs, j, h => by
    unfold wipe
    rw [List.getElem?_set_ne (fun e => h (by simp [e])), wipe_out fun z => h (List.mem_cons_of_mem _ z)]
theorem wipe_in {σ : St} : ∀ {vs : List Nat} {j : Nat}, j ∈ vs → j < σ.length → (wipe σ vs)[j]? = some none
  | v :: vs, j, h, hl => by
    unfold wipe
    by_cases e : v = j
    · subst e
      exact List.getElem?_set_self (by rw [wipe_length]; exact hl)
    · rw [List.getElem?_set_ne e]
      exact wipe_in ((List.mem_cons.mp h).resolve_left (Ne.symm e)) hl
theorem wipe_eq {σ σ2 : St} {vs : List Nat} (h : ∀ j, j ∉ vs → σ2[j]? = (wipe σ vs)[j]?) (hl : σ2.length = (wipe σ vs).length) : wipe σ2 vs = wipe σ vs := by
  have hl2 : σ2.length = σ.length := by rw [hl, wipe_length]
  apply List.ext_getElem?
  intro j
  by_cases hj : j ∈ vs
  · by_cases hlt : j < σ.length
    · rw [wipe_in hj hlt, wipe_in hj (by rw [hl2]; exact hlt)]
    · rw [List.getElem?_eq_none (by rw [wipe_length]; omega), List.getElem?_eq_none (by rw [wipe_length]; omega)]
  · rw [wipe_out hj, h j hj]
theorem ad_lc {fi : Es} {gt : Gt} {p : Et} {f : Ev} {vs is : List Nat} {wi : TI} {g : TG} {tt : TT} {te : TE} {c2 : Cf} (hK : c2.K = c.K) (ai : AdI c W wi fi)
    (ag : ∀ (G : Gd) (B H : Hp) (ρ : En) (σ : St) (v : V) (d : D) (Q : St → Hp → Prop), Mt c2.K G B H ρ σ → Rep c2.K B d v → PoG c2.K G B H σ is (gt d ρ) Q → g v σ H Q) (hv : ∀ i ∈ is, i ∈ vs) (at_ : AdT c2 W0 tt p) (ae : AdE c2 W0 te f) :
    AdF c W (tLc wi g tt te vs) (eLc fi gt p f vs) := by
  intro G B H ρ σ Q m hh
  refine ai G B H ρ σ _ m ((Po.bind hh).imp fun items B1 H1 e1 h1 J wk Da hDa => ?_)
  split at h1
  case isFalse => exact h1.elim
  rename_i hsz
  rw [szL_eq] at hsz
  cases hlc : lcR gt p f (wipeE ρ vs) items with
  | exc z => rw [hlc] at h1; exact h1.elim
  | stuck => rw [hlc] at h1; exact h1.elim
  | ok total =>
  rw [hlc] at h1
  have m1 := (m.go e1).wipe vs
  have hBD : B1 Da = none := e1.in_.free hDa
  have hGD : G.H Da = none := m.ext.h.free (e1.h.free hDa)
  have nO : ∀ (j : Nat) (t : Sl) (u : V), (wipeE ρ vs)[j]? = some (some t) → (wipe σ vs)[j]? = some (some u) → owA H1 t u (.ref Da) → False := fun j t u ej eu o => m1.free hDa ej eu o
  have nO2 : ∀ (H4 : Hp), Same H1 H4 → ∀ (j : Nat) (t : Sl) (u : V), (wipeE ρ vs)[j]? = some (some t) → (wipe σ vs)[j]? = some (some u) → owA H4 t u (.ref Da) → False := fun H4 s4 j t u ej eu o => by
    obtain ⟨w, z1, z2⟩ := m1.sl j t ej
    rw [eu] at z1
    cases z1
    exact nO j t u ej eu (z2.owB (fun q us e _ => s4 _ _ e) o)
  refine ⟨fun i n H' => ∃ B' acc done rest, n = items.length - i ∧ i ≤ items.length ∧ Ext B1 H1 B' H' ∧ Mt c.K G B' H' (wipeE ρ vs) (wipe σ vs) ∧ H' Da = some (.lst acc) ∧ B' Da = none ∧ Reps c.K B' done acc ∧ done.length ≤ i ∧ lcR gt p f (wipeE ρ vs) (items.drop i) = .ok rest ∧ done ++ rest = total,
    ⟨items.length, B1, [], [], total, rfl, Nat.zero_le _, Ext.new e1.in_ hDa, m1.put hBD hGD nO, upd_same, hBD, rfl, Nat.le_refl _, hlc, rfl⟩, fun i n H' hW => ?_⟩
  obtain ⟨B', acc, done, rest, rfl, hi, x1, m', q1, q2, q3, q4, q5, q6⟩ := hW
  obtain ⟨w1, w2⟩ := wk B' H' i x1.b m'.ext
  by_cases hlt : i < items.length
  · have hd := List.drop_eq_getElem_cons hlt
    rw [hd] at q5
    obtain ⟨go, yld⟩ := w1 items[i] (List.getElem?_eq_getElem hlt)
    refine .inr ⟨go, fun H2 => ∃ B2 acc done rest, Ext B1 H1 B2 H2 ∧ Mt c.K G B2 H2 (wipeE ρ vs) (wipe σ vs) ∧ H2 Da = some (.lst acc) ∧ B2 Da = none ∧ Reps c.K B2 done acc ∧ done.length ≤ i + 1 ∧ lcR gt p f (wipeE ρ vs) (items.drop (i + 1)) = .ok rest ∧ done ++ rest = total,
      fun H2 ⟨B2, acc2, done2, rest2, z1, z2, z3, z4, z5, z6, z7, z8⟩ => ⟨items.length - (i + 1), by omega, B2, acc2, done2, rest2, rfl, hlt, z1, z2, z3, z4, z5, z6, z7, z8⟩, fun x H2 hy => ?_⟩
    obtain ⟨B2, x2, r2⟩ := yld x H2 hy
    have m2 := m'.go x2
    have y1 : H2 Da = some (.lst acc) := x2.h _ _ q1
    have y2 : B2 Da = none := x2.off Da q2 (by rw [q1]; exact fun z => by cases z)
    have y3 := Reps.mono x2.b _ _ q3
    refine ag G B2 H2 (wipeE ρ vs) (wipe σ vs) x items[i] _ (by rw [hK]; exact m2) (by rw [hK]; exact r2) ?_
    unfold lcR at q5
    cases hgt : gt items[i] (wipeE ρ vs) with
    | exc z => rw [hgt] at q5; cases q5
    | stuck => rw [hgt] at q5; cases q5
    | ok ρ1 =>
    rw [hgt, R.bnd_ok] at q5
    intro σ2 mm2 l2 n2
    rw [hK] at mm2
    refine ⟨wipe_eq (fun j hj => n2 j fun z => hj (hv j z)) l2, ?_⟩
    refine at_ G B2 H2 ρ1 σ2 _ (by rw [hK]; exact mm2) ?_
    cases hp : p ρ1 with
    | exc z => rw [hp] at q5; cases q5
    | stuck => rw [hp] at q5; cases q5
    | ok b =>
    rw [hp, R.bnd_ok] at q5
    intro B3 H3 x3
    have x23 := x2.trans x3
    cases b with
    | false =>
      rw [if_neg Bool.false_ne_true] at q5
      rw [if_neg Bool.false_ne_true]
      exact ⟨B3, acc, done, rest, x1.trans x23, m'.go x23, x3.h _ _ y1, x3.off Da y2 (by rw [y1]; exact fun z => by cases z), Reps.mono x3.b _ _ y3, by omega, q5, q6⟩
    | true =>
      rw [if_pos rfl]
      refine ae G B3 H3 ρ1 σ2 _ (by rw [hK]; exact mm2.go x3) ?_
      rw [if_pos rfl] at q5
      cases hf : f ρ1 with
      | exc z => rw [hf] at q5; cases q5
      | stuck => rw [hf] at q5; cases q5
      | ok y =>
      rw [hf, R.bnd_ok] at q5
      intro B4 H4 x4 v r4
      rw [hK] at r4
      have x24 := x23.trans x4
      have z1 : H4 Da = some (.lst acc) := x4.h _ _ (x3.h _ _ y1)
      have z2 : B4 Da = none := x24.off Da q2 (by rw [q1]; exact fun z => by cases z)
      refine ⟨acc, z1, by rw [← q3.length]; exact Nat.lt_of_lt_of_le (Nat.lt_of_le_of_lt q4 hlt) hsz, ?_⟩
      cases hr : lcR gt p f (wipeE ρ vs) (items.drop (i + 1)) with
      | exc z => rw [hr] at q5; cases q5
      | stuck => rw [hr] at q5; cases q5
      | ok rest2 =>
      rw [hr, R.bnd_ok] at q5
      cases q5
      refine ⟨B4, acc ++ [v], done ++ [y], rest2, ?_, ((m'.go x24).put z2 hGD (nO2 H4 (x1.trans x24).h)), upd_same, z2, (Reps.mono (x24.b) _ _ q3).append (Reps.one r4), by rw [List.length_append, List.length_singleton]; omega, rfl, by rw [List.append_assoc]; exact q6⟩
      have x14 := x1.trans x24
      refine ⟨x14.b, fun b o e => ?_, fun b o e => ?_, x14.off⟩
      · rw [upd_ne (ne_of_none e hDa)]
        exact x14.h b o e
      · rw [upd_ne (ne_of_none e z2)]
        exact x14.in_ b o e
  · have hn : items.drop i = [] := List.drop_eq_nil_of_le (by omega)
    rw [hn] at q5
    cases q5
    rw [List.append_nil] at q6
    subst q6
    exact .inl ⟨w2 (by omega), h1 B' H' x1 Da acc q1 q2 (e1.h.free hDa) q3⟩
/-- no test; one test -/
def STs (c : Cf) (W : WX) (ifs : List Expr) (p : Et) : Prop := ∃ t : TT, (∀ X, GX c W X → PTs X ifs t) ∧ AdT c W t p
@[simp] def tYesE : Et := fun _ => .ok true
theorem sts_nil : STs c W [] tYesE := ⟨tYes, fun _ _ => pts_nil, fun _ _ _ _ _ _ m h => ok_refl h m.sub⟩
theorem sts_one (h : ST c W e p) : STs c W [e] p := by
  obtain ⟨t, k, ad⟩ := h
  exact ⟨t, fun X G => pts_one (k X G), ad⟩
theorem sf_lc {elt iter : Expr} {ifs : List Expr} {scope : Scope} {own : List (Str × Nat)} {fi : Es} {gt : Gt} {p : Et} {f : Ev} {is : List Nat} (hi : SI c W tg iter fi) (ok : blkC c.N c.sc scope own = true) (hg : SG (c.blk scope) tg is gt) (ht : STs (c.blk scope) W0 ifs p) (he : SE (c.blk scope) W0 elt f)
    (hv : ∀ i ∈ is, i ∈ own.map (·.2)) (hs : ∀ env x, foldedSetIterable iter env x = pure x := by intro _ _; rfl) : SF c W (.ListComp elt [⟨tg, iter, ifs, 0⟩] scope pos) (eLc fi gt p f (own.map (·.2))) := by
  obtain ⟨wi, k0, a0⟩ := hi
  obtain ⟨g, k1, a1⟩ := hg
  obtain ⟨tt, k2, a2⟩ := ht
  obtain ⟨te, k3, a3⟩ := he
  exact ⟨_, fun X G => pe_lc G.calm G.nd (k0 X G) (by rw [G.N, G.sc]; exact blkOk_by ok) (fun s H C cl fp => k1 W0 _ (G.blk s H scope cl C fp)) (fun s H C cl fp => k2 _ (G.blk s H scope cl C fp)) (fun s H C cl fp => k3 _ (G.blk s H scope cl C fp)) (hs X.env),
    ad_lc (c2 := c.blk scope) rfl a0 a1 hv a2 a3⟩
/-- x = [..], one line, x local -/
theorem ss_setLc {i : Nat} {y : Str} {py spos : Pos} {elt iter : Expr} {ifs : List Expr} {scope : Scope} {own : List (Str × Nat)} {fi : Es} {gt : Gt} {p : Et} {f : Ev} {is : List Nat} (hN : c.N[i]? = some y) (hy : c.sc.names.lookup y = some .local) (hi : SI c W tg iter fi) (ok : blkC c.N c.sc scope own = true) (hg : SG (c.blk scope) tg is gt) (ht : STs (c.blk scope) W0 ifs p) (he : SE (c.blk scope) W0 elt f)
    (hv : ∀ i ∈ is, i ∈ own.map (·.2)) (hk : c.sc.kind = .function) (hl : (py.line == pos.line) = true) (hna : (scope.names.any fun (n, k) => n == y && (k == .local || k == .cell)) = false) (hs : ∀ env x, foldedSetIterable iter env x = pure x := by intro _ _; rfl) :
    SS c W (.Assign [.Name y py] (.ListComp elt [⟨tg, iter, ifs, 0⟩] scope pos) spos) (sSetF i (eLc fi gt p f (own.map (·.2)))) := by
  obtain ⟨wi, k0, a0⟩ := hi
  obtain ⟨g, k1, a1⟩ := hg
  obtain ⟨tt, k2, a2⟩ := ht
  obtain ⟨te, k3, a3⟩ := he
  refine ⟨_, fun X G => ps_setLc (i := i) G.calm G.nd (by rw [G.N]; exact hN) (by rw [G.sc]; exact hy) (sw_true (by rw [G.sc]; exact hk) (by rw [G.sc]; exact hy) hl hna) (k0 X G) (by rw [G.N, G.sc]; exact blkOk_by ok) (fun s H C cl fp => k1 W0 _ (G.blk s H scope cl C fp)) (fun s H C cl fp => k2 _ (G.blk s H scope cl C fp)) (fun s H C cl fp => k3 _ (G.blk s H scope cl C fp)) (hs X.env), fun G B H ρ σ E m h => ?_⟩
  refine ad_lc (c2 := c.blk scope) rfl a0 a1 hv a2 a3 G B H ρ σ _ m ((Po.thn m h).imp fun ds B1 H1 e1 h1 p vs q1 q2 q3 q4 => ?_)
  exact h1 _ B1 H1 (Same.refl _) (own_new m e1 q1 q2 q3 q4 i)
end
end Mi

namespace Mi
open PySem PySem.Spec L2
def notStar : Expr → Bool
  | .Starred _ _ => false
  | _ => true
theorem sw2 {c : Cf} {x y : Str} {px py pt pt2 : Pos} {kt k2 : Nat} {a b : Expr} (hk : c.sc.kind = .function) (hx : c.sc.names.lookup x = some .local) (hy : c.sc.names.lookup y = some .local) (hp : (py.line == px.line) = true) (hn : ([x, y].eraseDups.length == 2) = true)
  (h1 : (notStar a && notStar b) = true) (h2 : [a, b].all (foldedForSure 8) = false) (h3 : [a, b].all (constantsAlone 8) = false) :
  ∀ env : Env, env.scope = c.sc → swappedStores [.Tuple [.Name x px, .Name y py] kt pt] (.Tuple [a, b] k2 pt2) env = pure (some [x, y]) := by
  intro env e
  have e1 : env.kindOf x = some .local := by show env.scope.names.lookup x = _; rw [e]; exact hx
  have e2 : env.kindOf y = some .local := by show env.scope.names.lookup y = _; rw [e]; exact hy
  have e3 : env.blockKind = .function := by unfold Env.blockKind; rw [e, hk]; rfl
  have e4 : (env.blockKind != .function) = false := by rw [e3]; rfl
  have e6 : ([x, y].eraseDups.length != [x, y].length) = false := by
    have z := beq_iff_eq.mp hn
    show ([x, y].eraseDups.length != 2) = false
    rw [z]
    rfl
  rw [Bool.and_eq_true] at h1
  have s1 : ∀ z, notStar z = true → ∀ v p, z ≠ .Starred v p := fun z hz v p ez => by rw [ez] at hz; cases hz
  simp only [swappedStores]
  rw [if_neg (by rw [e4]; exact Bool.false_ne_true)]
  rw [if_neg (by
    intro h
    rw [List.any_eq_true] at h
    obtain ⟨z, hz, hm⟩ := h
    split at hm
    · rename_i v p
      rcases List.mem_cons.mp hz with q | q
      · exact s1 a h1.1 v p q.symm
      · rcases List.mem_cons.mp q with q | q
        · exact s1 b h1.2 v p q.symm
        · cases q
    · cases hm)]
  simp only [List.filterMap, e1, e2, List.head?, Option.map, Option.getD, Expr.pos, hp, beq_self_eq_true, Bool.and_self, if_true, h2, h3, e6]
  rfl

section
variable {c : Cf} {W : WX} {a b e tg : Expr} {es : List Expr} {f g h : Ev} {p q : Et} {pos pos' : Pos}
/-! ### lists made of lists -/
noncomputable def oRep (ds : List D) : D → R (List D)
  | .int k => if ds.length * k.toNat ≤ szL ∧ -big63 ≤ k ∧ k < big63 then .ok (List.replicate k.toNat ds).flatten else .stuck
  | _ => .stuck
@[simp] noncomputable def eRep (f : Es) (g : Ev) : Es := fun ρ => (f ρ).bind fun ds => (g ρ).bind fun d => oRep ds d
theorem Reps.rep {K : PySem.W.Frag} {B : Hp} {ds : List D} {vs : List V} (r : Reps K B ds vs) : ∀ n : Nat, Reps K B (List.replicate n ds).flatten (List.replicate n vs).flatten
  | 0 => rfl
  | n + 1 => by
    rw [List.replicate_succ, List.replicate_succ, List.flatten_cons, List.flatten_cons]
    exact r.append (Reps.rep r n)
theorem sf_rep {f : Es} (ha : SF c W a f) (hb : SB c W b g) : SF c W (.BinOp a .Mult b pos) (eRep f g) := by
  obtain ⟨ta, pa, aa⟩ := ha
  obtain ⟨tb, pb, ab⟩ := hb
  refine ⟨_, fun X G => pe_op op_rep (pa X G) (pb X G), fun G B H ρ σ Q m hh => ?_⟩
  refine aa G B H ρ σ _ m ((Po.bind hh).imp fun ds B1 H1 e1 h1 p vs q1 q2 q3 q4 => ?_)
  refine ab G B1 H1 ρ σ _ (m.go e1) ((Po.bind h1).imp fun d B2 H2 e2 h2 v r2 => ?_)
  cases d with
  | int k =>
    unfold oRep at h2
    dsimp only at h2
    split at h2
    · rename_i hz
      rw [szL_eq, big63_eq] at hz
      refine ⟨p, k, vs, rfl, r2, e2.h _ _ q1, hz.2.1, hz.2.2, by rw [← q4.length]; exact hz.1, fun l hl => ?_⟩
      exact h2 _ _ (Ext.new e2.in_ hl) l _ upd_same (e2.in_.free hl) ((e1.trans e2).h.free hl) ((Reps.mono e2.b _ _ q4).rep _)
    · exact h2.elim
  | _ => exact h2.elim
def rCatL (K : PySem.W.Frag) : R2 := fun x y H Q => ∃ l b xs zs, x = .ref l ∧ y = .ref b ∧ SqL K H l xs ∧ SqL K H b zs ∧ xs.length + zs.length ≤ sizeLine ∧ ∀ p, H p = none → Q (.ref p) (upd H p (.lst (xs ++ zs)))
theorem op_catL {X : Cx} : OpR X (binaryOp .Add) (rCatL X.K) := by
  intro pins s σ H x y v u Q I rx ry h
  obtain ⟨l, b, xs, zs, rfl, rfl, hH, hB, hz, q⟩ := h
  cases rx
  cases ry
  obtain ⟨its, r, ⟨⟨cls, dd, data, sl⟩, n, ho, hc, _, hd⟩, _⟩ := I.list hH
  obtain ⟨its2, r2, ⟨⟨cls2, dd2, data2, sl2⟩, n2, ho2, hc2, _, hd2⟩, _⟩ := I.list hB
  simp only at hc hd hc2 hd2
  subst hc hd hc2 hd2
  have e : its.toArray ++ its2.toArray = (its ++ its2).toArray := by simp
  refine PySem.concat_meets ⟨_, ho, rfl⟩ ⟨_, ho2, rfl⟩ PySem.noFill_list_add PySem.seq_list_add PySem.F.slot_list_add PySem.F.entry_list_add (PySem.F.args_list_add_2 _ _) (PyProof.Rows.list_addW l b its.toArray its2.toArray n n2 dd dd2 sl sl2 (by rw [List.size_toArray, List.size_toArray, ← r.length, ← r2.length]; exact hz)) ⟨ho, ho2, ?_⟩
  rw [e]
  exact ⟨.ref _, _, I.lnew (t' := s.toks) (r.append r2) (by rw [List.length_append]; exact hz), rfl, q _ I.fresh⟩
@[simp] noncomputable def oCat : D → D → R (List D)
  | .lst xs, .lst ys => if xs.length + ys.length ≤ szL then .ok (xs ++ ys) else .stuck
  | _, _ => .stuck
@[simp] noncomputable def eCat (f g : Ev) : Es := fun ρ => (f ρ).bind fun x => (g ρ).bind fun y => oCat x y
theorem sf_cat (ha : SB c W a f) (hb : SB c W b g) : SF c W (.BinOp a .Add b pos) (eCat f g) := by
  obtain ⟨ta, pa, aa⟩ := ha
  obtain ⟨tb, pb, ab⟩ := hb
  refine ⟨tOp (rCatL c.K) ta tb, fun X G => by rw [← G.K]; exact pe_op op_catL (pa X G) (pb X G), fun G B H ρ σ Q m hh => ?_⟩
  refine aa G B H ρ σ _ m ((Po.bind hh).imp fun x B1 H1 e1 h1 v r1 => ?_)
  refine ab G B1 H1 ρ σ _ (m.go e1) ((Po.bind h1).imp fun y B2 H2 e2 h2 u r2 => ?_)
  have r1' := r1.go e2
  cases x with
  | lst xs => cases y with
    | lst ys =>
      obtain ⟨p, us, rfl, q1, q2⟩ := r1'
      obtain ⟨p2, us2, rfl, q3, q4⟩ := r2
      unfold oCat at h2
      dsimp only at h2
      split at h2
      · rename_i hz
        rw [szL_eq] at hz
        refine ⟨p, p2, us, us2, rfl, rfl, q1, q3, by rw [← q2.length, ← q4.length]; exact hz, fun l hl => ?_⟩
        exact h2 _ _ (Ext.new e2.in_ hl) l _ upd_same (e2.in_.free hl) ((e1.trans e2).h.free hl) (q2.append q4)
      · exact h2.elim
    | _ => exact h2.elim
  | _ => exact h2.elim

/-! ### isinstance of a built-in type -/
def tyD : D → String
  | .non => "NoneType"
  | .bl _ => "bool"
  | .int _ => "int"
  | .str _ => "str"
  | .tup _ => "tuple"
  | .lst _ => "list"
  | .exo _ => "exo"
@[simp] def isExo : D → Bool
  | .exo _ => true
  | _ => false
theorem RepT.ty {K : PySem.W.Frag} {B H : Hp} (s : Same B H) {d : D} {v : V} (h : RepT K B H d v) (ne : isExo d = false) : TyX K H v (.type (tyD d)) := by
  cases d with
  | non => cases (show v = _ from h); exact .base .non
  | bl b => cases (show v = _ from h); exact .base (.bl b)
  | int b => cases (show v = _ from h); exact .base (.int b)
  | str b => cases (show v = _ from h); exact .base (.str b)
  | exo b => cases ne
  | tup ds =>
    obtain ⟨a, vs, rfl, q, _⟩ := h
    rcases q with (q | ⟨o, q⟩) | ⟨o, its, n, q1, q2, _⟩
    · exact .base (.tup (s _ _ q))
    · exact .fTuple (s _ _ q)
    · exact .kTuple q1 q2
  | lst ds =>
    obtain ⟨a, vs, rfl, q, _⟩ := h
    rcases q with (q | ⟨o, q⟩) | ⟨o, its, n, q1, q2, _⟩
    · exact .base (.lst q)
    · exact .base (.frz q)
    · exact .kList q1 q2
@[simp] def eIsi (o : D → Bool) (f : Ev) : Ev := fun ρ => (f ρ).bind fun d => if isExo d = true then .stuck else .ok (.bl (o d))
theorem se_isi {x T : Str} {p pT : Pos} {Tn : String} {o : D → Bool} (ho : ∀ d, isExo d = false → kitB (tyD d) Tn = some (o d)) (hx : x = "isinstance") (hg : c.sc.names.lookup x = some .globalImplicit) (hm : c.mg x = none) (hgT : c.sc.names.lookup T = some .globalImplicit) (hmT : c.mg T = none) (hvT : bootBuiltins T = some (.type Tn)) (ha : SB c W a f)
    (hnT : T ≠ "__name__" := by decide) (hdT : (T == ("__debug__" : Str)) = false := by decide) (he : ∀ env, starEach [a, .Name T pT] env = (false, eval a env) :: starEach [.Name T pT] env := by intro _; rfl) : SE c W (.Call (.Name x p) [a, .Name T pT] [] pos) (eIsi o f) := by
  subst hx
  obtain ⟨t, k, ad⟩ := ha
  refine ⟨tCB (rIsi c.K) (tCons t (tCons (tC (.ty Tn)) tNil)), fun X G => pe_callB (by rw [← G.K]; exact call_isi) (by show X.env.scope.names.lookup _ = _; rw [G.sc]; exact hg) (by rw [G.mg]; exact hm) (by decide +kernel)
    (pa_cons (k X G) (pa_cons (pe_bltn (by show X.env.scope.names.lookup _ = _; rw [G.sc]; exact hgT) (by rw [G.mg]; exact hmT) hvT rfl hnT hdT) pa_nil) (he X.env)) (by decide) (by decide) (he X.env) rfl, fun G B H ρ σ Q m hh => ?_⟩
  refine ad G B H ρ σ _ m ((Po.bind hh).imp fun d B1 H1 e1 h1 v r1 => ?_)
  cases hd : isExo d with
  | true =>
    rw [hd] at h1
    exact (show False from h1).elim
  | false =>
    rw [hd] at h1
    exact ⟨v, .ty Tn, .type (tyD d), .type Tn, o d, rfl, .ty Tn, r1.ty e1.in_ hd, kit_ty (ho d hd), ok_refl h1 e1.in_ _ rfl⟩
@[simp] def isIntD : D → Bool
  | .int _ => true
  | .bl _ => true
  | _ => false
@[simp] def isBoolD : D → Bool
  | .bl _ => true
  | _ => false
@[simp] def isStrD : D → Bool
  | .str _ => true
  | _ => false
@[simp] def isTupD : D → Bool
  | .tup _ => true
  | _ => false
@[simp] def isLstD : D → Bool
  | .lst _ => true
  | _ => false
theorem isInt_ok (d : D) (ne : isExo d = false) : kitB (tyD d) "int" = some (isIntD d) := by cases d <;> first | (cases ne; done) | (dsimp only [tyD, isIntD, isBoolD, isStrD, isTupD, isLstD]; decide +kernel)
theorem isBool_ok (d : D) (ne : isExo d = false) : kitB (tyD d) "bool" = some (isBoolD d) := by cases d <;> first | (cases ne; done) | (dsimp only [tyD, isIntD, isBoolD, isStrD, isTupD, isLstD]; decide +kernel)
theorem isStr_ok (d : D) (ne : isExo d = false) : kitB (tyD d) "str" = some (isStrD d) := by cases d <;> first | (cases ne; done) | (dsimp only [tyD, isIntD, isBoolD, isStrD, isTupD, isLstD]; decide +kernel)
theorem isTup_ok (d : D) (ne : isExo d = false) : kitB (tyD d) "tuple" = some (isTupD d) := by cases d <;> first | (cases ne; done) | (dsimp only [tyD, isIntD, isBoolD, isStrD, isTupD, isLstD]; decide +kernel)
theorem isLst_ok (d : D) (ne : isExo d = false) : kitB (tyD d) "list" = some (isLstD d) := by cases d <;> first | (cases ne; done) | (dsimp only [tyD, isIntD, isBoolD, isStrD, isTupD, isLstD]; decide +kernel)
end
end Mi

namespace Mi
open PySem PySem.Spec L2
/-! ## 10. What is read off the text; the end of a law -/
def visB (sc : Scope) (x : Str) : Bool := match sc.names.lookup x with
  | some .local => true
  | some .cell => true
  | some .free => true
  | _ => false
theorem vis_of {sc : Scope} {x : Str} (h : visB sc x = true) : Vis sc x := by
  unfold visB at h
  unfold Vis
  split at h
  · exact .inl (by assumption)
  · exact .inr (.inl (by assumption))
  · exact .inr (.inr (by assumption))
  · cases h
def kindB (sc : Scope) (x : Str) (k : NameKind) : Bool := sc.names.lookup x == some k
theorem glob_of {sc : Scope} {x : Str} (h : kindB sc x .globalImplicit = true) : sc.names.lookup x = some .globalImplicit := beq_iff_eq.mp h
theorem loc_of {sc : Scope} {x : Str} (h : kindB sc x .local = true) : sc.names.lookup x = some .local := beq_iff_eq.mp h
theorem cell_of {sc : Scope} {x : Str} (h : kindB sc x .cell = true) : sc.names.lookup x = some .cell := beq_iff_eq.mp h
theorem locc_of {c : Cf} {x : Str} (h : LocC c x) : LocC c x := h
theorem blk_of {N : List Str} {sc scope : Scope} {own : List (Str × Nat)} (h : blkC N sc scope own = true) : blkC N sc scope own = true := h
theorem reps_ints {K : PySem.W.Frag} {B : Hp} : ∀ ns : List Int, Reps K B (ns.map D.int) (ns.map V.int)
  | [] => rfl
  | n :: ns => ⟨.int n, ns.map V.int, rfl, rfl, reps_ints ns⟩
theorem law_end {l : PySem.W.OpenLaw} {m : List Sl → R Sl} {k : Nat} {q : Program} {loose : List Str} {XP : (Str → Option Value) → Heap → Prop} {YP : World → Heap → Prop} {d : DefRec} {K : Params → PySem.W.Frag}
    (hn : l.most = some 63) (hdf : d.params.defaults = []) (hr : Room k callerA)
    (hY : ∀ (w : World) (h : Heap), YP w h → (K w.params).In h)
    (F : ∀ (w : World) (mg : Str → Option Value) (fa : Addr) (h : Heap), (K w.params).In h → h.Ns mainGlobals mg → mg d.name = some (.ref fa) →
      ∃ fd : FuncData, (∀ (s : Shared) (u : Value), BindsTo s fd ⟨[u], []⟩ [("script", u)]) ∧
        ∀ base : Heap, (K w.params).In base → base.Ns mainGlobals mg → FnOk l.prog w (K w.params) mg base (L2.CX l.prog w) k fa fd ["script"] (FSp (K w.params) mg 1 m))
    (hm : ∀ ns : List Int, ns.length ≤ 63 → (∀ z ∈ ns, Builtin.Int.intBits z ≤ 1048576) → m [.sh (.lst (ns.map D.int))] = .ok (.sh (.bl true))) :
    PySem.W.WalkO q loose XP YP l.row.toRowW d [] (fun f vs => PySem.call f vs) := by
  refine Att.attach_callB hn hdf fun w s₀ s₁ mg mb fa o pm cd doc a vs ns G Y ho hd hcd hmg hobj hints hlen hbits hg => ?_
  have KX := hY w _ Y
  obtain ⟨fd, hb, hF⟩ := F w mg fa _ KX G.T.g hmg
  refine law_call KX G.T.g G.T.b G.T.builtins G.T.nolimit hg hobj hints (Nat.le_trans hlen (by decide)) hr hF hb (fun H hO hS => ?_) fun H e s' h => ?_
  · refine ⟨H, [.sh (.lst (ns.map D.int))], Same.refl _, ⟨.ref a, [], rfl, ⟨a, ns.map V.int, rfl, hS, reps_ints ns⟩, rfl⟩, rfl, ?_⟩
    rw [hm ns hlen hbits]
    exact fun v B' H' _ r => r
  · obtain ⟨_, _, _, _, _, _, _, _, _, _, _, _, z⟩ := h
    exact z.elim
end Mi

/-! ## 11. list(reversed(xs)), at the library's level -/
namespace Mi
open PySem PySem.Spec PyProof.Rows RT
section
variable {prog : Program} {w : World} {A : Around} {E : Value → Shared → Prop} {s : Shared}
theorem extend_rev {R : Result → Shared → Prop} {it l : Addr} {items : Array Value} (hh : A.handled = none) (hit : s.heap.IsRevIter it l ((items.size : Int) - 1)) (hl : s.heap.IsList l items) (hne : l ≠ it) (hn : items.size ≤ sizeLine) (S : Addr) (res : Value) (c₀ : Nat)
    (hS : s.heap.get? S = some { cls := .type "list", dict := none, data := .seq #[] c₀, slots := #[] }) (hSi : S ≠ it) (hSl : S ≠ l)
    (hR : ∀ h' tk acc c', (∀ b o, b ≠ S → b ≠ it → s.heap.get? b = some o → h'.get? b = some o) → h'.get? S = some { cls := .type "list", dict := none, data := .seq acc c', slots := #[] } →
      ItemsOf (fun i v => items[items.size - 1 - i]? = some v) acc items.size → R (.ok (.ret res)) { s with heap := h', toks := tk }) :
    wpAny (model prog w) A.in1 (Builtin.List.listExtendWith (.ref S) (.ref it) res)
      (fun fin s' => match fin with | .done f => R (.ok f) s' | .again c' => c'.quiet = true ∧ codeAny (model prog w) A c' R s') (fun e s' => R (.error e) s') s := by
  have W := (Walks.listRev (prog := prog) (w := w) (A := A.in1) hh it l hne items).toS
  have hSf : S ∉ [it, l] := by simp only [List.mem_cons, List.not_mem_nil, or_false, not_or]; exact ⟨hSi, hSl⟩
  have hT : s.TypeIs (.ref it) "list_reverseiterator" := Heap.IsRevIter.typeIs hit
  have h1 : Builtin.List.listSameRef (.ref S) (.ref it) = false := by simp [Builtin.List.listSameRef, hSi]
  unfold Builtin.List.listExtendWith
  refine wpAny_bind (wpAny_typeOf hT ?_)
  rw [if_neg (by rw [h1]; decide)]
  refine wpAny_bind (wpAny_pyIter_revIter hit ?_)
  refine wpAny_bind (wpAny_holding ?_)
  unfold Builtin.List.listLengthHint
  refine wpAny_bind (wpAny_specialOf hT nolen_lri ?_)
  show wpAny _ A.in1 (specialOf (Value.ref it) (Str.ofString "__length_hint__") >>= _) _ _ _
  refine wpAny_bind (wpAny_specialOf hT hint_lri ?_)
  generalize hid : ("list_reverseiterator.__length_hint__" : String) = id0
  wp_delta
  rw [show splitId id0 = some ("list_reverseiterator", "__length_hint__") from by subst hid; decide +kernel]
  subst hid
  refine wpAny_bind (wpAny_isInstance (b := true) hT (by rw [isSubtype_type]; kernel_rfl) ?_)
  refine wpAny_pure ?_
  rw [if_neg (by decide)]
  have e0 : ((items.size : Nat) : Int) - 1 - ((0 : Nat) : Int) = (items.size : Int) - 1 := by omega
  refine wpAny_pure ⟨plainId_quiet F.plain_extend_loop _, codeAny_extend_loopS W hn _ hSf _ items.size 0 _ _ _ rfl (Nat.zero_le _) ⟨Nat.zero_le _, by rw [e0]; exact hit, hl⟩ hS (ItemsOf.nil _) fun s' acc' c' hm hS' hacc => ?_⟩
  rw [Moved.eq_with hm]
  refine hR s'.heap s'.toks acc' c' (fun b o hb hb2 e => hm.heap b o (fun hmem => ?_) e) hS' hacc
  rcases List.mem_cons.mp hmem with e' | hmem
  · exact hb e'
  · exact hb2 (List.mem_singleton.mp hmem)
theorem init_rev {R : Result → Shared → Prop} {it l : Addr} {items : Array Value} (hh : A.handled = none) (hit : s.heap.IsRevIter it l ((items.size : Int) - 1)) (hl : s.heap.IsList l items) (hne : l ≠ it) (hn : items.size ≤ sizeLine) (S : Addr)
    (hS : s.heap.get? S = some { cls := .type "list", data := .seq #[] }) (hSi : S ≠ it) (hSl : S ≠ l)
    (hR : ∀ h' tk acc c', (∀ b o, b ≠ S → b ≠ it → s.heap.get? b = some o → h'.get? b = some o) → h'.get? S = some { cls := .type "list", dict := none, data := .seq acc c', slots := #[] } →
      ItemsOf (fun i v => items[items.size - 1 - i]? = some v) acc items.size → R (.ok (.ret .none)) { s with heap := h', toks := tk }) :
    wpAny (model prog w) A.in1 (Builtin.«list.__init__» ⟨[.ref S, .ref it], []⟩)
      (fun fin s' => match fin with | .done f => R (.ok f) s' | .again c' => c'.quiet = true ∧ codeAny (model prog w) A c' R s') (fun e s' => R (.error e) s') s := by
  show wpAny _ _ (do let old ← Builtin.List.listItems (.ref S); Builtin.List.listUpdate (.ref S) (fun _ => #[]); letGo old.toList.reverse; Builtin.List.listExtendWith (.ref S) (.ref it) .none) _ _ s
  refine wpAny_bind ?_
  unfold Builtin.List.listItems
  refine wpAny_bind (wpAny_seqItems hS rfl (wpAny_pure ?_))
  show wpAny _ _ (updateSeq S (fun _ => #[]) >>= fun _ => letGo (#[] : Array Value).toList.reverse >>= fun _ => Builtin.List.listExtendWith (.ref S) (.ref it) .none) _ _ s
  refine wpAny_bind (wpAny_updateSeq hS rfl ?_)
  have hS₂ := Heap.get?_update_self (Obj.mapSeq (fun _ => (#[] : Array Value))) hS rfl
  have oth : ∀ b o, b ≠ S → s.heap.get? b = some o → (s.heap.update S (Obj.mapSeq (fun _ => (#[] : Array Value)))).get? b = some o :=
    fun b o hb e => (Heap.get?_update_other _ _ (Ne.symm hb)).trans e
  refine wpAny_bind (wpAny_letGo ?_)
  obtain ⟨oi, hoi, ci, di⟩ := id hit
  obtain ⟨ol, hol, cl, dl⟩ := id hl
  refine extend_rev (s := { s with heap := s.heap.update S (Obj.mapSeq (fun _ => (#[] : Array Value))) }) hh ⟨oi, oth _ _ (Ne.symm hSi) hoi, ci, di⟩ ⟨ol, oth _ _ (Ne.symm hSl) hol, cl, dl⟩ hne hn S .none _ hS₂ hSi hSl fun h' tk acc' c' hk hS' hacc => ?_
  exact hR h' tk acc' c' (fun b o hb hb2 e => hk b o hb hb2 (oth b o hb e)) hS' hacc
theorem call_list_rev {it l : Addr} {items : Array Value} {Q : Value → Shared → Prop} (hh : A.handled = none) (hit : s.heap.IsRevIter it l ((items.size : Int) - 1)) (hl : s.heap.IsList l items) (hne : l ≠ it) (hn : items.size ≤ sizeLine)
    (hQ : ∀ h' tk acc c', (∀ b o, b ≠ it → s.heap.get? b = some o → h'.get? b = some o) → h'.get? s.heap.objs.size = some { cls := .type "list", dict := none, data := .seq acc c', slots := #[] } →
      ItemsOf (fun i v => items[items.size - 1 - i]? = some v) acc items.size → Q (.ref s.heap.objs.size) { s with heap := h', toks := tk }) :
    wpAny (model prog w) A (call (.type "list") [.ref it]) Q E s := by
  refine callType_codes (Q₁ := fun obj s₁ => obj = .ref s.heap.objs.size ∧ s₁ = { s with heap := s.heap.push { cls := .type "list", data := .seq #[] } }) F.called_list (F.typeCall_list_1 _) F.entry_list_init
    (code_list_new _ ⟨rfl, rfl⟩) fun obj s₁ h₁ => ?_
  obtain ⟨rfl, rfl⟩ := h₁
  have hS : (s.heap.push { cls := .type "list", data := .seq #[] }).get? s.heap.objs.size = some { cls := .type "list", data := .seq #[] } := Heap.get?_push_size _ rfl
  obtain ⟨oi, hoi, ci, di⟩ := id hit
  obtain ⟨ol, hol, cl, dl⟩ := id hl
  refine ⟨⟨_, hS, rfl⟩, F.args_list_init_2 _ _, init_rev (A := A.in1) (s := { s with heap := s.heap.push { cls := .type "list", data := .seq #[] } }) hh ⟨oi, Heap.get?_push_of_some _ hoi, ci, di⟩ ⟨ol, Heap.get?_push_of_some _ hol, cl, dl⟩ hne hn _ hS (Nat.ne_of_gt (Heap.lt_size hoi)) (Nat.ne_of_gt (Heap.lt_size hol)) fun h' tk acc' c' hk hS' hacc => ?_⟩
  exact ⟨rfl, hQ h' tk acc' c' (fun b o hb e => hk b o (Nat.ne_of_lt (Heap.lt_size e)) hb (Heap.get?_push_of_some _ e)) hS' hacc⟩
end
end Mi
namespace Mi
section
open PySem PySem.Spec PyProof.Rows L2 RT
def tLstRev (K : PySem.W.Frag) (te : TE) : TE := fun σ H Q => te σ H fun v H1 => ∃ (a : Addr) (xs : List V), v = .ref a ∧ SqL K H1 a xs ∧ ∀ q, H1 q = none → Q (.ref q) (upd H1 q (.lst xs.reverse))
theorem pe_lstRev {X : Cx} {e : Expr} {te : TE} {p p2 pos pos2 : Pos} (hc : X.calm = true) (hg : Gl X "list") (hm : X.mg "list" = none) (hg2 : Gl X "reversed") (hm2 : X.mg "reversed" = none) (he : PE X e te)
    (hs : starEach [e] X.env = (false, eval e X.env) :: starEach [] X.env := by rfl)
    (hs2 : starEach [.Call (.Name "reversed" p2) [e] [] pos2] X.env = (false, eval (.Call (.Name "reversed" p2) [e] [] pos2) X.env) :: starEach [] X.env := by rfl) :
    PE X (.Call (.Name "list" p) [.Call (.Name "reversed" p2) [e] [] pos2] [] pos) (tLstRev X.K te) := by
  refine ⟨fun pins s σ H Q I h => ?_⟩
  refine Call_ (ld_blt I hg hm boot_list (PyProof.Rows.callWith_type1 (args_cons (Call_ (ld_blt I hg2 hm2 PyProof.Rows.boot_reversed (PyProof.Rows.callWith_type1 (args_cons (thn (he.run pins s σ H _ I h) fun u s1 ⟨v, H1, I1, r1, q1⟩ => args_nil ?_) hs) hs rfl))) hs2) hs2 rfl))
  obtain ⟨a, xs, ev, hq, q⟩ := q1
  subst ev
  obtain rfl : u = Value.ref a := r1
  obtain ⟨its, rv, p', hz⟩ := I1.list hq
  refine call_reversed_list p'.isList (args_nil ?_)
  have k0 : ∀ b o, s1.heap.get? b = some o → (s1.heap.push (revObj a ((its.toArray.size : Int) - 1))).get? b = some o := fun b o e => Heap.get?_push_of_some _ e
  have I2 : Inv X pins σ H1 { s1 with heap := s1.heap.push (revObj a ((its.toArray.size : Int) - 1)) } := I1.kept (t' := s1.toks) k0
  obtain ⟨f0, f1, f2, f3, f4, f5⟩ := I1.fpOk (H' := H1) (b := s1.heap.objs.size) (Nat.le_refl _) (I1.hok.fresh (Nat.le_refl _))
  have hl := p'.isList
  obtain ⟨ol, hol, _⟩ := id hl
  have hne : a ≠ s1.heap.objs.size := Nat.ne_of_lt (Heap.lt_size hol)
  have hn : its.toArray.size ≤ sizeLine := by rw [List.size_toArray, ← rv.length]; exact hz
  refine Mi.call_list_rev (s := { s1 with heap := s1.heap.push (revObj a ((its.toArray.size : Int) - 1)) }) (I1.ok.hd hc) ⟨_, Heap.get?_push_size _ rfl, rfl, rfl⟩ (hl.push _) hne hn fun h' tk acc c' hk e' hi => ?_
  have hsz : (s1.heap.push (revObj a ((its.toArray.size : Int) - 1))).objs.size = s1.heap.objs.size + 1 := Heap.size_push _ _
  refine ⟨.ref _, upd H1 (s1.heap.push (revObj a ((its.toArray.size : Int) - 1))).objs.size (.lst xs.reverse), ?_, rfl, q _ (I2.hok.fresh (Nat.le_refl _))⟩
  refine I1.laid (t' := tk) (fun b o e => hk b o (Nat.ne_of_lt (Heap.lt_size e)) (k0 b o e)) (by rw [hsz]; omega) (show ObjOk X.prog X.w _ _ _ (.lst xs.reverse) from ⟨by rw [List.length_reverse]; exact hz, acc.toList, c', vals_rev rv hi, ?_⟩)
  rw [Array.toArray_toList]
  exact e'
end
open PySem PySem.Spec L2
section
variable {c : Cf} {W : WX} {a b e tg : Expr} {es : List Expr} {f g h : Ev} {p q : Et} {pos pos' : Pos}
@[simp] def eListRev (f : Ev) : Es := fun ρ => (f ρ).bind fun d => match d with
  | .lst ds => .ok ds.reverse
  | _ => .stuck
theorem sf_listRev {x x2 : Str} {p p2 pos2 : Pos} (hx : x = "list") (hg : c.sc.names.lookup x = some .globalImplicit) (hm : c.mg x = none) (hx2 : x2 = "reversed") (hg2 : c.sc.names.lookup x2 = some .globalImplicit) (hm2 : c.mg x2 = none) (ha : SB c W e f)
    (he : ∀ env, starEach [e] env = (false, eval e env) :: starEach [] env := by intro _; rfl) (he2 : ∀ env, starEach [.Call (.Name x2 p2) [e] [] pos2] env = (false, eval (.Call (.Name x2 p2) [e] [] pos2) env) :: starEach [] env := by intro _; rfl) :
    SF c W (.Call (.Name x p) [.Call (.Name x2 p2) [e] [] pos2] [] pos) (eListRev f) := by
  subst hx
  subst hx2
  obtain ⟨t, k, ad⟩ := ha
  refine ⟨tLstRev c.K t, fun X G => by rw [← G.K]; exact pe_lstRev G.calm (by show X.env.scope.names.lookup _ = _; rw [G.sc]; exact hg) (by rw [G.mg]; exact hm) (by show X.env.scope.names.lookup _ = _; rw [G.sc]; exact hg2) (by rw [G.mg]; exact hm2) (k X G) (he X.env) (he2 X.env), fun G B H ρ σ Q m hh => ?_⟩
  refine ad G B H ρ σ _ m ((Po.bind hh).imp fun d B1 H1 e1 h1 v r1 => ?_)
  cases d with
  | lst ds =>
    obtain ⟨p, us, rfl, q1, q2⟩ := r1
    refine ⟨p, us, rfl, q1, fun l hl => ?_⟩
    exact h1 _ _ (Ext.new e1.in_ hl) l _ upd_same (e1.in_.free hl) (e1.h.free hl) q2.rev
  | _ => exact h1.elim
/-! ### what is walked: reversed, zip, enumerate, range with a step, a text -/
/-- a list that stands from here on -/
def SLL (c : Cf) (W : WX) (e : Expr) (f : Es) : Prop := ∃ t : TE, (∀ X, GX c W X → PE X e t) ∧ ∀ (g : Gd) (B H : Hp) (ρ : En) (σ : St) (Q : VK), Mt c.K g B H ρ σ →
  Po c W σ B H (f ρ) (fun ds B' H' => ∀ p vs, (∀ B2 H2, Same B' B2 → Ext g.B g.H B2 H2 → SqL c.K H2 p vs) → SqL c.K H' p vs → Reps c.K B' ds vs → Q (.ref p) H') → t σ H Q
@[simp] def lOf (f : Ev) : Es := fun ρ => (f ρ).bind fun d => match d with
  | .lst ds => .ok ds
  | _ => .stuck
@[simp] def lVar (i : Nat) : Es := fun ρ => match ρ[i]? with
  | some (some (.sh (.lst ds))) => .ok ds
  | some (some (.bo ds)) => .ok ds
  | _ => .stuck
theorem sl_of (he : SE c W e f) : SLL c W e (lOf f) := by
  obtain ⟨t, k, ad⟩ := he
  refine ⟨t, k, fun G B H ρ σ Q m hh => ad G B H ρ σ _ m ((Po.bind hh).imp fun d B1 H1 e1 h1 v r1 => ?_)⟩
  cases d with
  | lst ds =>
    obtain ⟨p, vs, rfl, q1, q2⟩ := r1
    exact ok_refl h1 e1.in_ p vs (fun B' H' s x => x.in_.seq (s.seq q1)) (e1.in_.seq q1) q2
  | _ => exact h1.elim
theorem sl_var {i : Nat} {x : Str} (hN : c.N[i]? = some x) (hv : Vis c.sc x) (hd : (x == ("__debug__" : Str)) = false := by decide) (hcd : (x == ("__classdict__" : Str)) = false := by decide) : SLL c W (.Name x pos) (lVar i) := by
  refine ⟨_, fun X G => pe_var (by rw [G.N]; exact hN) (by rw [G.sc]; exact hv) hd hcd, fun G B H ρ σ Q m hh => ?_⟩
  unfold lVar at hh
  split at hh
  · rename_i ds e
    obtain ⟨v, h1, p, vs, rfl, q1, q2⟩ := m.sl i _ e
    exact ⟨_, h1, ok_refl hh m.sub p vs (fun B' H' s x => x.in_.seq (s.seq q1)) (m.sub.seq q1) q2⟩
  · rename_i ds e
    obtain ⟨v, h1, p, vs, rfl, q1, q2⟩ := m.sl i _ e
    exact ⟨_, h1, ok_refl hh m.sub p vs (fun B' H' s x => x.h.seq q1) (m.ext.h.seq q1) q2⟩
  · exact hh.elim
@[simp] def iRevD (f : Es) : Es := fun ρ => (f ρ).map List.reverse
theorem Reps.revAt {K : PySem.W.Frag} {B : Hp} {ds : List D} {vs : List V} {i : Nat} {d : D} (r : Reps K B ds vs) (h : ds.reverse[i]? = some d) : i < vs.length ∧ ∃ v, vs[vs.length - 1 - i]? = some v ∧ Rep K B d v := by
  obtain ⟨v, e1, e2⟩ := r.rev.get h
  have hi : i < vs.length := by
    have := (List.getElem?_eq_some_iff.mp e1).1
    rwa [List.length_reverse] at this
  rw [List.getElem?_reverse hi] at e1
  exact ⟨hi, v, e1, e2⟩
theorem wk_rev {K : PySem.W.Frag} {g : Gd} {B : Hp} {a : Addr} {vs : List V} {ds : List D} (h : ∀ B' H', Same B B' → Ext g.B g.H B' H' → SqL K H' a vs) (r : Reps K B ds vs) : Wk K g B (Itv K a vs.length) ds.reverse := by
  intro B' H' i s x
  have q := h B' H' s x
  refine ⟨fun d e => ?_, fun hi => ?_⟩
  · obtain ⟨hi, v, e1, e2⟩ := r.revAt e
    refine ⟨⟨hi, vs, v, q, e1⟩, fun y H2 hy => ?_⟩
    obtain ⟨rfl, hy⟩ := hy
    have e3 := hy vs q
    rw [e1] at e3
    cases e3
    exact ⟨B', Ext.refl x.in_, Rep.mono s _ _ e2⟩
  · rw [List.length_reverse, r.length] at hi
    exact hi
theorem si_rev {x : Str} {p : Pos} {f : Es} (hx : x = "reversed") (hg : c.sc.names.lookup x = some .globalImplicit) (hm : c.mg x = none) (ha : SLL c W e f) (he : ∀ env, starEach [e] env = (false, eval e env) :: starEach [] env := by intro _; rfl) : SI c W tg (.Call (.Name x p) [e] [] pos) (iRevD f) := by
  subst hx
  obtain ⟨t, k, ad⟩ := ha
  refine ⟨RT.iRevA c.K t, fun X G => by rw [← G.K]; exact RT.pi_revA (by show X.env.scope.names.lookup _ = _; rw [G.sc]; exact hg) (by rw [G.mg]; exact hm) (k X G) (he X.env), fun G B H ρ σ Q m hh => ?_⟩
  refine ad G B H ρ σ _ m ((Po.map hh).imp fun ds B1 H1 e1 h1 p us q0 q1 q2 => ?_)
  exact ⟨p, us, rfl, .inl ⟨q1, h1 _ (wk_rev q0 q2)⟩⟩
def zipD : List D → List D → List D
  | x :: xs, y :: ys => .tup [x, y] :: zipD xs ys
  | _, _ => []
@[simp] def iZipD (f g : Es) : Es := fun ρ => (f ρ).bind fun x => (g ρ).map fun y => zipD x y
theorem zipD_get : ∀ {xs ys : List D} {i : Nat} {d : D}, (zipD xs ys)[i]? = some d → ∃ x y, xs[i]? = some x ∧ ys[i]? = some y ∧ d = .tup [x, y]
  | x :: xs, y :: ys, 0, d, h => by
    simp [zipD] at h
    exact ⟨x, y, rfl, rfl, h.symm⟩
  | x :: xs, y :: ys, i + 1, d, h => by
    obtain ⟨x', y', h1, h2, h3⟩ := zipD_get (i := i) (d := d) (by simpa [zipD] using h)
    exact ⟨x', y', by simpa using h1, by simpa using h2, h3⟩
  | [], _, _, _, h => by simp [zipD] at h
  | _ :: _, [], _, _, h => by simp [zipD] at h
theorem zipD_len : ∀ {xs ys : List D} {i : Nat}, (zipD xs ys).length ≤ i → xs.length ≤ i ∨ ys.length ≤ i
  | x :: xs, y :: ys, 0, h => by simp [zipD] at h
  | x :: xs, y :: ys, i + 1, h => by
    have := zipD_len (xs := xs) (ys := ys) (i := i) (by simpa [zipD] using h)
    simpa using this
  | [], _, _, _ => .inl (Nat.zero_le _)
  | _ :: _, [], _, _ => .inr (Nat.zero_le _)
theorem rep_pair {K : PySem.W.Frag} {B H : Hp} {T : Addr} {x y : V} {d d' : D} (s : Same B H) (n : H T = none) (r1 : Rep K B d x) (r2 : Rep K B d' y) :
    ∃ B2, Ext B H B2 (upd H T (.tup [x, y])) ∧ Rep K B2 (.tup [d, d']) (.ref T) := by
  have hb : B T = none := s.free n
  refine ⟨upd B T (.tup [x, y]), Ext.newB s n, T, [x, y], rfl, SqT.of upd_same, ?_⟩
  exact ⟨x, [y], rfl, Rep.mono (same_put hb) _ _ r1, y, [], rfl, Rep.mono (same_put hb) _ _ r2, rfl⟩
theorem wk_zip {K : PySem.W.Frag} {g : Gd} {B : Hp} {a b : Addr} {vs us : List V} {ds es : List D} (h : ∀ B' H', Same B B' → Ext g.B g.H B' H' → SqL K H' a vs) (h' : ∀ B' H', Same B B' → Ext g.B g.H B' H' → SqL K H' b us) (r : Reps K B ds vs) (r' : Reps K B es us) :
    Wk K g B (Itz K a b) (zipD ds es) := by
  intro B' H' i s x
  have q := h B' H' s x
  have q' := h' B' H' s x
  refine ⟨fun d e => ?_, fun hi => ⟨vs, us, q, q', by have := zipD_len hi; rw [r.length, r'.length] at this; exact this⟩⟩
  obtain ⟨d1, d2, e1, e2, rfl⟩ := zipD_get e
  obtain ⟨v1, f1, g1⟩ := r.get e1
  obtain ⟨v2, f2, g2⟩ := r'.get e2
  refine ⟨⟨vs, us, v1, v2, q, q', f1, f2⟩, fun y H2 hy => ?_⟩
  obtain ⟨T, x1, x2, rfl, n, rfl, k1, k2⟩ := hy
  have e3 := k1 vs q
  have e4 := k2 us q'
  rw [f1] at e3
  rw [f2] at e4
  cases e3
  cases e4
  exact rep_pair x.in_ n (Rep.mono s _ _ g1) (Rep.mono s _ _ g2)
theorem si_zip {x : Str} {p tpos : Pos} {elts : List Expr} {kk : Nat} {f g : Es} (hx : x = "zip") (hg : c.sc.names.lookup x = some .globalImplicit) (hm : c.mg x = none) (ha : SLL c W a f) (hb : SLL c W b g)
    (h1 : ∀ env, starEach [a, b] env = (false, eval a env) :: starEach [b] env := by intro _; rfl) (h2 : ∀ env, starEach [b] env = (false, eval b env) :: starEach [] env := by intro _; rfl) (hpl : ∀ env, (backTo pos (starEach [b] env)).any (·.1) = false := by intro _; rfl) : SI c W (.Tuple elts kk tpos) (.Call (.Name x p) [a, b] [] pos) (iZipD f g) := by
  subst hx
  obtain ⟨t, k, ad⟩ := ha
  obtain ⟨t2, k2, ad2⟩ := hb
  refine ⟨iZip c.K (tCons t (tCons t2 tNil)), fun X G => by rw [← G.K]; exact pi_zip (by show X.env.scope.names.lookup _ = _; rw [G.sc]; exact hg) (by rw [G.mg]; exact hm) (pa_cons (k X G) (pa_cons (k2 X G) pa_nil (h2 X.env)) (h1 X.env)) (h1 X.env) (hpl X.env), fun G B H ρ σ Q m hh => ?_⟩
  refine ad G B H ρ σ _ m ((Po.bind hh).imp fun ds B1 H1 e1 q1 p1 vs a0 a1 a2 => ?_)
  refine ad2 G B1 H1 ρ σ _ (m.go e1) ((Po.map q1).imp fun es B2 H2 e2 q2 p2 us b0 b1 b2 => ?_)
  have m2 := (m.go e1).go e2
  exact ⟨p1, p2, vs, us, rfl, a0 B2 H2 e2.b m2.ext, b1, q2 _ (wk_zip (fun B' H' s x => a0 B' H' (e2.b.trans s) x) b0 (Reps.mono e2.b _ _ a2) b2)⟩
def enumD (n : Nat) : List D → List D
  | [] => []
  | x :: xs => .tup [.int n, x] :: enumD (n + 1) xs
@[simp] def iEnumD (f : Es) : Es := fun ρ => (f ρ).map (enumD 0)
theorem enumD_get : ∀ {xs : List D} {n i : Nat} {d : D}, (enumD n xs)[i]? = some d → ∃ x, xs[i]? = some x ∧ d = .tup [.int ((n + i : Nat) : Int), x]
  | x :: xs, n, 0, d, h => by
    simp [enumD] at h
    exact ⟨x, rfl, h.symm⟩
  | x :: xs, n, i + 1, d, h => by
    obtain ⟨x', h1, h3⟩ := enumD_get (n := n + 1) (i := i) (d := d) (by simpa [enumD] using h)
    refine ⟨x', by simpa using h1, ?_⟩
    rw [h3, show n + 1 + i = n + (i + 1) by omega]
  | [], _, _, _, h => by simp [enumD] at h
theorem enumD_len : ∀ {xs : List D} {n : Nat}, (enumD n xs).length = xs.length
  | [], _ => rfl
  | _ :: xs, n => by simp [enumD, enumD_len (xs := xs)]
theorem si_enum {x : Str} {p tpos : Pos} {elts : List Expr} {kk : Nat} {f : Es} (hx : x = "enumerate") (hg : c.sc.names.lookup x = some .globalImplicit) (hm : c.mg x = none) (ha : SLL c W a f)
    (h1 : ∀ env, starEach [a] env = [(false, eval a env)] := by intro _; rfl) : SI c W (.Tuple elts kk tpos) (.Call (.Name x p) [a] [] pos) (iEnumD f) := by
  subst hx
  obtain ⟨t, k, ad⟩ := ha
  refine ⟨iEnum c.K (tCons t tNil), fun X G => by rw [← G.K]; exact pi_enum (by show X.env.scope.names.lookup _ = _; rw [G.sc]; exact hg) (by rw [G.mg]; exact hm) (pa_cons (k X G) pa_nil (by rw [h1]; rfl)) (h1 X.env), fun G B H ρ σ Q m hh => ?_⟩
  refine ad G B H ρ σ _ m ((Po.map hh).imp fun ds B1 H1 e1 q1 p1 vs a0 a1 a2 => ?_)
  refine ⟨p1, vs, rfl, a1, q1 _ fun B' H' i s x => ?_⟩
  have q : SqL c.K H' p1 vs := a0 B' H' s x
  refine ⟨fun d e => ?_, fun hi => ⟨vs, q, by rw [enumD_len, a2.length] at hi; exact hi⟩⟩
  obtain ⟨d1, f1, rfl⟩ := enumD_get e
  obtain ⟨v1, f2, g1⟩ := a2.get f1
  refine ⟨⟨vs, v1, q, f2⟩, fun y H2 hy => ?_⟩
  obtain ⟨T, x1, rfl, n, rfl, k1⟩ := hy
  have e3 := k1 vs q
  rw [f2] at e3
  cases e3
  rw [Nat.zero_add]
  exact rep_pair x.in_ n rfl (Rep.mono s _ _ g1)
def rngC (lo c : Int) (n : Nat) : List D := (List.range n).map fun (i : Nat) => D.int (lo + (i : Int) * c)
theorem wk_rngC {K : PySem.W.Frag} {g : Gd} {B : Hp} {lo c : Int} {n : Nat} : Wk K g B (Itc lo c n) (rngC lo c n) := by
  intro B' H' i s x
  refine ⟨fun d e => ?_, fun hi => ?_⟩
  · unfold rngC at e
    rw [List.getElem?_map] at e
    by_cases hi : i < n
    · rw [List.getElem?_range hi] at e
      cases e
      refine ⟨hi, fun y H2 hy => ?_⟩
      obtain ⟨rfl, rfl⟩ := hy
      exact ⟨B', Ext.refl x.in_, rfl⟩
    · rw [List.getElem?_eq_none (by rw [List.length_range]; omega)] at e
      cases e
  · unfold rngC at hi
    rw [List.length_map, List.length_range] at hi
    exact hi
/-- range(i, j, k), 0 < k: the count of items -/
def rngN (i j k : Int) : Nat := ((j - i + k - 1) / k).toNat
noncomputable def iRng3D (f g h : Ev) : Es := fun ρ => (f ρ).bind fun x => (g ρ).bind fun y => (h ρ).bind fun z => match x, y, z with
  | .int i, .int j, .int k => if (-big6 ≤ i ∧ i < big6) ∧ (-big6 ≤ j ∧ j < big6) ∧ 0 < k ∧ k < big6 then .ok (rngC i k (rngN i j k)) else .stuck
  | _, _, _ => .stuck
theorem small_of3 {i j k : Int} (h : (-1000000 ≤ i ∧ i < 1000000) ∧ (-1000000 ≤ j ∧ j < 1000000) ∧ 0 < k ∧ k < 1000000) : RgC i j k (rngN i j k) := by
  have key : Builtin.Range.rangeSize i j k = (rngN i j k : Int) ∧ (rngN i j k : Int) ≤ 2000000 := by
    unfold Builtin.Range.rangeSize rngN
    rw [if_pos (by omega)]
    split
    · rename_i hij
      have e : j - i + k - 1 = (j - i - 1) + 1 * k := by omega
      have h1 : 0 ≤ (j - i - 1) / k := Int.ediv_nonneg (by omega) (by omega)
      have h2 : (j - i - 1) / k ≤ j - i - 1 := Int.ediv_le_self _ (by omega)
      rw [e, Int.add_mul_ediv_right _ _ (by omega)]
      omega
    · have h1 : (j - i + k - 1) / k < 1 := Int.ediv_lt_of_lt_mul (by omega) (by omega)
      omega
  refine ⟨by omega, by omega, ?_, key.1⟩
  unfold Builtin.Range.small
  rw [key.1]
  have h2 := key.2
  simp only [Builtin.Range.rangeFitsLong, Bool.and_eq_true, Bool.or_eq_true, decide_eq_true_eq, beq_iff_eq, show k > 0 by omega, if_true]
  omega
theorem si_range3 {d : Expr} {x : Str} {p : Pos} (hx : x = "range") (hg : c.sc.names.lookup x = some .globalImplicit) (hm : c.mg x = none) (ha : SE c W a f) (hb : SE c W b g) (hd : SE c W d h) (hs : ∀ env, starEach [a, b, d] env = (false, eval a env) :: starEach [b, d] env := by intro _; rfl) (hs2 : ∀ env, starEach [b, d] env = (false, eval b env) :: starEach [d] env := by intro _; rfl)
    (hs3 : ∀ env, starEach [d] env = (false, eval d env) :: starEach [] env := by intro _; rfl) (hpl : ∀ env, (backTo pos (starEach [b, d] env)).any (·.1) = false := by intro _; rfl) : SI c W tg (.Call (.Name x p) [a, b, d] [] pos) (iRng3D f g h) := by
  subst hx
  obtain ⟨t, k, ad⟩ := ha
  obtain ⟨t2, k2, ad2⟩ := hb
  obtain ⟨t3, k3, ad3⟩ := hd
  refine ⟨_, fun X G => pi_range3 (ta := tCons t (tCons t2 (tCons t3 tNil))) (by show X.env.scope.names.lookup _ = _; rw [G.sc]; exact hg) (by rw [G.mg]; exact hm) (pa_cons (k X G) (pa_cons (k2 X G) (pa_cons (k3 X G) pa_nil (hs3 X.env)) (hs2 X.env)) (hs X.env)) (hs X.env) (hpl X.env), fun G B H ρ σ Q m hh => ?_⟩
  refine ad G B H ρ σ _ m ((Po.bind hh).imp fun d B1 H1 e1 h1 v r1 => ?_)
  refine ad2 G B1 H1 ρ σ _ (m.go e1) ((Po.bind h1).imp fun d2 B2 H2 e2 h2 v2 r2 => ?_)
  refine ad3 G B2 H2 ρ σ _ ((m.go e1).go e2) ((Po.bind h2).imp fun d3 B3 H3 e3 h3 v3 r3 => ?_)
  cases d with
  | int i => cases d2 with
    | int j => cases d3 with
      | int k =>
        cases (show v = .int i from r1)
        cases (show v2 = .int j from r2)
        cases (show v3 = .int k from r3)
        dsimp only at h3
        split at h3
        · rename_i hz
          rw [big6_eq] at hz
          exact ⟨i, j, k, _, rfl, small_of3 hz, ok_refl h3 e3.in_ _ wk_rngC⟩
        · exact h3.elim
      | _ => exact h3.elim
    | _ => exact h3.elim
  | _ => exact h3.elim
/-- range(i, j, -1) -/
noncomputable def iRngDn (f g : Ev) : Es := fun ρ => (f ρ).bind fun x => (g ρ).bind fun y => match x, y with
  | .int i, .int j => if (-big62 ≤ i ∧ i < big62) ∧ -big62 ≤ j ∧ j < big62 then .ok (rngC i (-1) (i - j).toNat) else .stuck
  | _, _ => .stuck
theorem si_rangeDn {d : Expr} {x : Str} {p : Pos} (hx : x = "range") (hg : c.sc.names.lookup x = some .globalImplicit) (hm : c.mg x = none) (ha : SE c W a f) (hb : SE c W b g) (hd : SE c W d (eD (.int (-1)))) (hs : ∀ env, starEach [a, b, d] env = (false, eval a env) :: starEach [b, d] env := by intro _; rfl) (hs2 : ∀ env, starEach [b, d] env = (false, eval b env) :: starEach [d] env := by intro _; rfl)
    (hs3 : ∀ env, starEach [d] env = (false, eval d env) :: starEach [] env := by intro _; rfl) (hpl : ∀ env, (backTo pos (starEach [b, d] env)).any (·.1) = false := by intro _; rfl) : SI c W tg (.Call (.Name x p) [a, b, d] [] pos) (iRngDn f g) := by
  subst hx
  obtain ⟨t, k, ad⟩ := ha
  obtain ⟨t2, k2, ad2⟩ := hb
  obtain ⟨t3, k3, ad3⟩ := hd
  refine ⟨_, fun X G => pi_range3 (ta := tCons t (tCons t2 (tCons t3 tNil))) (by show X.env.scope.names.lookup _ = _; rw [G.sc]; exact hg) (by rw [G.mg]; exact hm) (pa_cons (k X G) (pa_cons (k2 X G) (pa_cons (k3 X G) pa_nil (hs3 X.env)) (hs2 X.env)) (hs X.env)) (hs X.env) (hpl X.env), fun G B H ρ σ Q m hh => ?_⟩
  refine ad G B H ρ σ _ m ((Po.bind hh).imp fun d B1 H1 e1 h1 v r1 => ?_)
  refine ad2 G B1 H1 ρ σ _ (m.go e1) ((Po.bind h1).imp fun d2 B2 H2 e2 h2 v2 r2 => ?_)
  refine ad3 G B2 H2 ρ σ _ ((m.go e1).go e2) fun B3 H3 e3 v3 r3 => ?_
  have h3 := h2.ext e3
  cases d with
  | int i => cases d2 with
    | int j =>
      cases (show v = .int i from r1)
      cases (show v2 = .int j from r2)
      cases (show v3 = .int (-1) from r3)
      dsimp only at h3
      split at h3
      · rename_i hz
        rw [big62_eq] at hz
        exact ⟨i, j, -1, _, rfl, RgC.neg (by omega) (by omega) (by omega) (by omega), ok_refl h3 e3.in_ _ wk_rngC⟩
      · exact h3.elim
    | _ => exact h3.elim
  | _ => exact h3.elim
def strD (z : Str) : List D := z.cps.toList.map fun k => .str ⟨#[k]⟩
@[simp] def iStrD (f : Ev) : Es := fun ρ => (f ρ).bind fun x => match x with
  | .str z => .ok (strD z)
  | _ => .stuck
theorem si_str (ha : SE c W a f) : SI c W tg a (iStrD f) := by
  obtain ⟨t, k, ad⟩ := ha
  refine ⟨iStr t, fun X G => pi_str (k X G), fun G B H ρ σ Q m hh => ?_⟩
  refine ad G B H ρ σ _ m ((Po.bind hh).imp fun d B1 H1 e1 q1 v r1 => ?_)
  cases d with
  | str z =>
    refine ⟨z, r1, ok_refl q1 e1.in_ _ fun B' H' i s x => ?_⟩
    unfold strD
    refine ⟨fun d e => ?_, fun hi => (by simpa using hi : z.cps.size ≤ i)⟩
    rw [List.getElem?_map] at e
    cases e0 : z.cps[i]? with
    | none => simp [e0] at e
    | some k =>
      simp [e0] at e
      subst e
      have hi : i < z.cps.size := (Array.getElem?_eq_some_iff.mp e0).1
      refine ⟨hi, fun y H2 hy => ?_⟩
      obtain ⟨rfl, k', hk', rfl⟩ := hy
      rw [e0] at hk'
      cases hk'
      exact ⟨B', Ext.refl x.in_, rfl⟩
  | _ => exact q1.elim
/-! ### sum, any, all -/
def allI : List D → Option (List Int)
  | [] => some []
  | .int i :: ds => (allI ds).map (i :: ·)
  | _ :: _ => none
def allB : List D → Option (List Bool)
  | [] => some []
  | .bl i :: ds => (allB ds).map (i :: ·)
  | _ :: _ => none
theorem Reps.ints {K : PySem.W.Frag} {B : Hp} : ∀ {ds : List D} {vs : List V} {ns : List Int}, Reps K B ds vs → allI ds = some ns → vs = ns.map V.int
  | [], vs, ns, h, e => by
    cases e
    exact h
  | d :: ds, _, ns, ⟨v, r, rfl, h1, h2⟩, e => by
    cases d with
    | int i =>
      unfold allI at e
      cases e1 : allI ds with
      | none => rw [e1] at e; cases e
      | some ms =>
        rw [e1] at e
        cases e
        cases (show v = .int i from h1)
        rw [Reps.ints h2 e1, List.map_cons]
    | _ => cases e
theorem Reps.bools {K : PySem.W.Frag} {B : Hp} : ∀ {ds : List D} {vs : List V} {ns : List Bool}, Reps K B ds vs → allB ds = some ns → vs = ns.map V.bl
  | [], vs, ns, h, e => by
    cases e
    exact h
  | d :: ds, _, ns, ⟨v, r, rfl, h1, h2⟩, e => by
    cases d with
    | bl i =>
      unfold allB at e
      cases e1 : allB ds with
      | none => rw [e1] at e; cases e
      | some ms =>
        rw [e1] at e
        cases e
        rw [Reps.bools h2 e1, List.map_cons]
        cases (show v = .bl i from h1)
        rfl
    | _ => cases e
def oSum : List D → R D
  | [.lst ds] => match allI ds with
    | some ns => .ok (.int ns.sum)
    | none => .stuck
  | _ => .stuck
def oAny : List D → R D
  | [.lst ds] => match allB ds with
    | some ns => .ok (.bl (ns.any id))
    | none => .stuck
  | _ => .stuck
def oAll : List D → R D
  | [.lst ds] => match allB ds with
    | some ns => .ok (.bl (ns.all id))
    | none => .stuck
  | _ => .stuck
theorem ac_sum : AdC c W (rSum c.K) oSum := by
  intro σ B H ds vs Q s r h
  rcases ds with _ | ⟨d, _ | ⟨d2, ds⟩⟩
  · exact h.elim
  · obtain ⟨v, rfl, r1⟩ := r.one
    cases d with
    | lst ds =>
      obtain ⟨p, us, rfl, q1, q2⟩ := r1
      unfold oSum at h
      dsimp only at h
      split at h
      · rename_i ns hns
        rw [q2.ints hns] at q1
        exact ⟨p, ns, rfl, q1, ok_refl h s _ rfl⟩
      · exact h.elim
    | _ => exact h.elim
  · cases d <;> exact h.elim
theorem ac_any : AdC c W (rAny c.K) oAny := by
  intro σ B H ds vs Q s r h
  rcases ds with _ | ⟨d, _ | ⟨d2, ds⟩⟩
  · exact h.elim
  · obtain ⟨v, rfl, r1⟩ := r.one
    cases d with
    | lst ds =>
      obtain ⟨p, us, rfl, q1, q2⟩ := r1
      unfold oAny at h
      dsimp only at h
      split at h
      · rename_i ns hns
        rw [q2.bools hns] at q1
        exact ⟨p, ns, rfl, q1, ok_refl h s _ rfl⟩
      · exact h.elim
    | _ => exact h.elim
  · cases d <;> exact h.elim
theorem ac_all : AdC c W (rAll c.K) oAll := by
  intro σ B H ds vs Q s r h
  rcases ds with _ | ⟨d, _ | ⟨d2, ds⟩⟩
  · exact h.elim
  · obtain ⟨v, rfl, r1⟩ := r.one
    cases d with
    | lst ds =>
      obtain ⟨p, us, rfl, q1, q2⟩ := r1
      unfold oAll at h
      dsimp only at h
      split at h
      · rename_i ns hns
        rw [q2.bools hns] at q1
        exact ⟨p, ns, rfl, q1, ok_refl h s _ rfl⟩
      · exact h.elim
    | _ => exact h.elim
  · cases d <;> exact h.elim
theorem se_sum {x : Str} {p : Pos} (hx : x = "sum") (hg : c.sc.names.lookup x = some .globalImplicit) (hm : c.mg x = none) (ha : SB c W e f) (he : ∀ env, starEach [e] env = (false, eval e env) :: starEach [] env := by intro _; rfl) : SE c W (.Call (.Name x p) [e] [] pos) (eCall oSum (vCons f vNil)) := by
  subst hx
  exact se_callB (fun X G => by rw [← G.K]; exact cr_sum G.calm) ac_sum hg hm (by decide +kernel) (sbs_cons ha sbs_nil he) (by decide) (by decide) he (fun _ => rfl)
theorem se_any {x : Str} {p : Pos} (hx : x = "any") (hg : c.sc.names.lookup x = some .globalImplicit) (hm : c.mg x = none) (ha : SB c W e f) (he : ∀ env, starEach [e] env = (false, eval e env) :: starEach [] env := by intro _; rfl) : SE c W (.Call (.Name x p) [e] [] pos) (eCall oAny (vCons f vNil)) := by
  subst hx
  exact se_callB (fun X G => by rw [← G.K]; exact cr_any G.calm) ac_any hg hm (by decide +kernel) (sbs_cons ha sbs_nil he) (by decide) (by decide) he (fun _ => rfl)
theorem se_all {x : Str} {p : Pos} (hx : x = "all") (hg : c.sc.names.lookup x = some .globalImplicit) (hm : c.mg x = none) (ha : SB c W e f) (he : ∀ env, starEach [e] env = (false, eval e env) :: starEach [] env := by intro _; rfl) : SE c W (.Call (.Name x p) [e] [] pos) (eCall oAll (vCons f vNil)) := by
  subst hx
  exact se_callB (fun X G => by rw [← G.K]; exact cr_all G.calm) ac_all hg hm (by decide +kernel) (sbs_cons ha sbs_nil he) (by decide) (by decide) he (fun _ => rfl)
end
end Mi

/-! ### defs that call themselves: by fuel -/
namespace Mi
open PySem PySem.Spec L2
section
variable {P : Program} {w : World} {K : PySem.W.Frag} {mg : Str → Option Value} {base : Heap}
theorem fn_rec {x qual : Str} {st : Stmt} {f : Addr} {fd : FuncData} {N ps : List Str} {n : Nat} {u : (List Sl → R Sl) → Sv} {m : Nat → List Sl → R Sl} (L : Nat) (h0 : m 0 = fun _ => .stuck) (hs : ∀ j, m (j + 1) = runB N.length (u (m j)))
    (F : L2.Fun K x qual st f fd) (hm : mg x = some (.ref f)) (b : Binds K fd ps []) (S : FnScope N ps (defScope st)) (hn : ps.length = n)
    (body : ∀ (k : Nat) (rec : List Sl → R Sl), L ≤ k → Fn P w K mg base k x n rec → ∀ W, SSs (cfOf P w K mg base N (defScope st) k) W (defBody st) (u rec)) : ∀ j, Fn P w K mg base (L + j) x n (m j)
  | 0 => by
    rw [h0]
    refine ⟨f, fd, ps, hm, F.kp, b, ⟨fun vs H Q E h => ?_, fun A outer s H args us vs Q E _ _ _ _ h => ?_⟩⟩
    · obtain ⟨_, _, _, _, _, z⟩ := h
      exact z.elim
    · obtain ⟨_, _, _, _, _, z⟩ := h
      exact z.elim
  | j + 1 => by
    rw [hs]
    exact fn_mk F hm b S hn (body (L + j) (m j) (Nat.le_add_right _ _) (fn_rec L h0 hs F hm b S hn body j))
end
end Mi

/-! ### lists of one's own are lent while a block runs, that changes none of them -/
namespace Mi
open PySem PySem.Spec L2
def lendS (k : Nat) : Option Sl → Option Sl
  | some (.ow ds) => some (.lt k ds)
  | some (.lt _ ds) => some (.bo ds)
  | some (.oo _) => none
  | some (.mu _ _) => none
  | some (.mr _ _) => none
  | x => x
def lendE : Nat → En → En
  | _, [] => []
  | k, x :: xs => lendS k x :: lendE (k + 1) xs
/-- behind the block: what was lent is one's own again -/
def backS (k : Nat) : Option Sl → Option Sl → Option Sl
  | _, some (.sh d) => some (.sh d)
  | _, some (.ow ds) => some (.ow ds)
  | some (.ow ds), some (.lt j _) => if j = k then some (.ow ds) else none
  | _, _ => none
def backE : Nat → En → En → En
  | k, x :: xs, y :: ys => backS k x y :: backE (k + 1) xs ys
  | _, _, ys => ys.map fun _ => none
def Fl.back (ρ : En) : Fl → Fl
  | .nx ρ' => .nx (backE 0 ρ ρ')
  | .bk ρ' => .bk (backE 0 ρ ρ')
  | .ct ρ' => .ct (backE 0 ρ ρ')
  | .exc c ρ' => .exc c (backE 0 ρ ρ')
  | .rt (.sh d) => .rt (.sh d)
  | .rt (.ow ds) => .rt (.ow ds)
  | _ => .stuck
def sLend (u : Sv) : Sv := fun ρ => (u (lendE 0 ρ)).back ρ
theorem lendE_get : ∀ (ρ : En) (k i : Nat), (lendE k ρ)[i]? = (ρ[i]?).map (lendS (k + i))
  | [], _, _ => by simp [lendE]
  | x :: xs, k, 0 => by simp [lendE]
  | x :: xs, k, i + 1 => by
    simp only [lendE, List.getElem?_cons_succ]
    rw [lendE_get xs (k + 1) i, show k + 1 + i = k + (i + 1) by omega]
theorem lendE_len : ∀ (ρ : En) (k : Nat), (lendE k ρ).length = ρ.length
  | [], _ => rfl
  | x :: xs, k => by simp [lendE, lendE_len xs]
theorem backE_len : ∀ (ρ ρ' : En) (k : Nat), (backE k ρ ρ').length = ρ'.length
  | [], ys, k => by simp [backE]
  | x :: xs, [], k => by simp [backE]
  | x :: xs, y :: ys, k => by simp [backE, backE_len xs ys]
theorem backE_get : ∀ (ρ ρ' : En) (k i : Nat) (s : Sl), (backE k ρ ρ')[i]? = some (some s) → ∃ x y, ρ[i]? = some x ∧ ρ'[i]? = some y ∧ backS (k + i) x y = some s
  | [], ys, k, i, s, h => by
    simp only [backE, List.getElem?_map] at h
    cases hy : ys[i]? with
    | none => rw [hy] at h; cases h
    | some y => rw [hy] at h; cases h
  | x :: xs, [], k, i, s, h => by simp [backE] at h
  | x :: xs, y :: ys, k, 0, s, h => ⟨x, y, rfl, rfl, by simpa [backE] using h⟩
  | x :: xs, y :: ys, k, i + 1, s, h => by
    simp only [backE, List.getElem?_cons_succ] at h
    obtain ⟨x', y', h1, h2, h3⟩ := backE_get xs ys (k + 1) i s h
    exact ⟨x', y', by simpa using h1, by simpa using h2, by rw [show k + (i + 1) = k + 1 + i by omega]; exact h3⟩
section
variable {K : PySem.W.Frag} {g : Gd} {B H B' H' : Hp} {ρ ρ' : En} {σ σ' : St}
/-- the guard at a block's begin -/
def gdAt (B H : Hp) (σ : St) : Gd := { B := B, H := H, ln := fun k => match σ[k]? with
  | some (some v) => some v
  | _ => none }
theorem Mt.lend (m : Mt K g B H ρ σ) : Mt K (gdAt B H σ) B H (lendE 0 ρ) σ := by
  have noOw : ∀ (i : Nat) (s : Sl), (lendE 0 ρ)[i]? = some (some s) → isOw s = false := fun i s e => by
    rw [lendE_get] at e
    cases hr : ρ[i]? with
    | none => rw [hr] at e; cases e
    | some x =>
      rw [hr] at e
      have e' : lendS (0 + i) x = some s := Option.some.inj e
      cases x with
      | none => cases e'
      | some t => cases t <;> first | (cases e'; done) | (cases e'; rfl)
  refine ⟨m.refl, by rw [lendE_len, m.len], fun i s e => ?_, fun i j s t v u z _ e1 _ _ _ o _ => by have o := owA_is o; rw [noOw i s e1] at o; cases o⟩
  rw [lendE_get] at e
  cases hr : ρ[i]? with
  | none => rw [hr] at e; cases e
  | some x =>
    rw [hr] at e
    have e' : lendS (0 + i) x = some s := Option.some.inj e
    cases x with
    | none => cases e'
    | some t =>
      obtain ⟨v, h1, h2⟩ := m.sl i t hr
      refine ⟨v, h1, ?_⟩
      cases t with
      | sh d => cases e'; exact h2
      | ow ds =>
        cases e'
        obtain ⟨a, vs, rfl, q1, q2, q3, q4⟩ := h2
        refine ⟨a, vs, rfl, ?_, SqL.of q1, q4⟩
        show (match σ[0 + i]? with | some (some v) => some v | _ => none) = _
        rw [Nat.zero_add, h1]
      | bo ds =>
        cases e'
        obtain ⟨a, vs, rfl, q1, q2⟩ := h2
        exact ⟨a, vs, rfl, m.ext.h.seq q1, q2⟩
      | lt k ds =>
        cases e'
        obtain ⟨a, vs, rfl, q0, q1, q2⟩ := h2
        exact ⟨a, vs, rfl, m.ext.h.seq q1, q2⟩
      | oo ds => cases e'
      | mu k o => cases e'
      | mr d os => cases e'
theorem Mt.back (m : Mt K g B H ρ σ) (m' : Mt K (gdAt B H σ) B' H' ρ' σ') : Mt K g B' H' (backE 0 ρ ρ') σ' := by
  have x : Ext B H B' H' := m'.ext
  -- what a slot holds behind the block
  have key : ∀ (i : Nat) (s : Sl), (backE 0 ρ ρ')[i]? = some (some s) → ∃ v, σ'[i]? = some (some v) ∧ SlOk K g B' H' s v ∧
      (∀ z, owA H' s v z → z = v ∧ ((∃ ds, ρ'[i]? = some (some (.ow ds))) ∨ (∃ ds, ρ[i]? = some (some (.ow ds)) ∧ σ[i]? = some (some v)))) := fun i s e => by
    obtain ⟨p, q, h1, h2, h3⟩ := backE_get ρ ρ' 0 i s e
    rw [Nat.zero_add] at h3
    cases q with
    | none => cases p with
      | none => cases h3
      | some t => cases t <;> cases h3
    | some t =>
      obtain ⟨v, k1, k2⟩ := m'.sl i t h2
      refine ⟨v, k1, ?_⟩
      cases t with
      | sh d =>
        have h4 : backS i p (some (.sh d)) = some (.sh d) := by cases p with
          | none => rfl
          | some t => cases t <;> rfl
        rw [h4] at h3
        cases h3
        exact ⟨k2, fun z o => o.elim⟩
      | ow ds =>
        have h4 : backS i p (some (.ow ds)) = some (.ow ds) := by cases p with
          | none => rfl
          | some t => cases t <;> rfl
        rw [h4] at h3
        cases h3
        obtain ⟨a, vs, rfl, q1, q2, q3, q4⟩ := k2
        exact ⟨⟨a, vs, rfl, q1, q2, m.ext.h.free q3, q4⟩, fun z o => ⟨o, .inl ⟨_, h2⟩⟩⟩
      | bo ds => cases p with
        | none => cases h3
        | some t => cases t <;> cases h3
      | oo ds => cases p with
        | none => cases h3
        | some t => cases t <;> cases h3
      | mu k o => cases p with
        | none => cases h3
        | some t => cases t <;> cases h3
      | mr d os => cases p with
        | none => cases h3
        | some t => cases t <;> cases h3
      | lt j ds => cases p with
        | none => cases h3
        | some t => cases t with
          | ow es =>
            have h3' : (if j = i then some (Sl.ow es) else none) = some s := h3
            split at h3'
            · rename_i hj
              subst hj
              cases h3'
              obtain ⟨v0, l1, a, vs, rfl, q1, q2, q3, q4⟩ := m.sl j _ h1
              obtain ⟨a', vs', rfl, w0, w1, w2⟩ := k2
              have w0' : (match σ[j]? with | some (some v) => some v | _ => none) = some (V.ref a') := w0
              rw [l1] at w0'
              cases w0'
              refine ⟨⟨a, vs, rfl, x.h _ _ q1, x.off a q2 (by rw [q1]; exact fun z => by cases z), q3, Reps.mono x.b _ _ q4⟩, fun z o => ⟨o, .inr ⟨_, h1, l1⟩⟩⟩
            · cases h3'
          | _ => cases h3
  refine ⟨m.ext.trans x, by rw [backE_len, m'.len], fun i s e => ?_, fun i j s t v w z hij e1 e2 e3 e4 o1 o2 => ?_⟩
  · obtain ⟨v, k1, k2, _⟩ := key i s e
    exact ⟨v, k1, k2⟩
  · obtain ⟨v1, k1, k2, k3⟩ := key i s e1
    obtain ⟨v2, l1, l2, l3⟩ := key j t e2
    rw [e3] at k1
    cases k1
    rw [e4] at l1
    cases l1
    obtain ⟨z1, k3⟩ := k3 z o1
    obtain ⟨z2, l3⟩ := l3 z o2
    subst z1
    subst z2
    -- a new list and one that was there
    have two : ∀ (i j : Nat) (ds es : List D), ρ'[i]? = some (some (.ow ds)) → ρ[j]? = some (some (.ow es)) → σ[j]? = some (some z) → σ'[i]? = some (some z) → False := fun i j ds es p1 r1 r3 e3 => by
      obtain ⟨w, w1, a, vs, rfl, q1, q2, q3, q4⟩ := m'.sl i _ p1
      rw [e3] at w1
      cases w1
      obtain ⟨w, w1, b, us, hb, y1, y2, y3, y4⟩ := m.sl j _ r1
      rw [r3] at w1
      cases w1
      cases hb
      have q3' : H a = none := q3
      rw [y1] at q3'
      cases q3'
    rcases k3 with ⟨ds, p1⟩ | ⟨ds, p1, p3⟩
    · rcases l3 with ⟨es, r1⟩ | ⟨es, r1, r3⟩
      · exact m'.ne i j _ _ z z z hij p1 r1 e3 e4 rfl rfl
      · exact two i j ds es p1 r1 r3 e3
    · rcases l3 with ⟨es, r1⟩ | ⟨es, r1, r3⟩
      · exact two j i es ds r1 p1 p3 e4
      · exact m.ne i j _ _ z z z hij p1 r1 p3 r3 rfl rfl
end
section
variable {c : Cf} {W : WX} {st : Stmt} {u : Sv}
theorem ss_lend (h : SS c W st u) : SS c W st (sLend u) := by
  obtain ⟨t, k, ad⟩ := h
  refine ⟨t, k, fun G B H ρ σ E m hh => ad (gdAt B H σ) B H (lendE 0 ρ) σ E m.lend ?_⟩
  unfold sLend at hh
  cases hu : u (lendE 0 ρ) with
  | nx ρ' => rw [hu] at hh; exact fun σ' B' H' s m' => hh σ' B' H' s (m.back m')
  | bk ρ' => rw [hu] at hh; exact fun σ' B' H' s m' => hh σ' B' H' s (m.back m')
  | ct ρ' => rw [hu] at hh; exact fun σ' B' H' s m' => hh σ' B' H' s (m.back m')
  | exc x ρ' => rw [hu] at hh; exact fun C σ' B' H' g s m' => hh C σ' B' H' g s (m.back m')
  | stuck => rw [hu] at hh; exact hh.elim
  | rt s =>
    rw [hu] at hh
    cases s with
    | sh d =>
      have hh' : RtOk c.K G E.rt (.sh d) := hh
      exact fun v B' H' x r => hh' v B' H' (m.ext.trans x) r
    | ow ds =>
      have hh' : RtOk c.K G E.rt (.ow ds) := hh
      exact fun p vs B' H' x q1 q2 q3 q4 => hh' p vs B' H' (m.ext.trans x) q1 q2 (m.ext.h.free q3) q4
    | bo ds => exact hh.elim
    | lt k ds => exact hh.elim
    | oo ds => exact hh.elim
    | mu k o => exact hh.elim
    | mr d os => exact hh.elim
section
variable {ρ ρ' : En} {x y : Option Sl} {k : Nat} {d : D} {ds es : List D} {s : Sl} {z : Str}
@[simp] theorem lendS_sh : lendS k (some (.sh d)) = some (.sh d) := rfl
@[simp] theorem lendS_ow : lendS k (some (.ow ds)) = some (.lt k ds) := rfl
@[simp] theorem lendS_bo : lendS k (some (.bo ds)) = some (.bo ds) := rfl
@[simp] theorem lendS_no : lendS k none = none := rfl
@[simp] theorem lendE_nil : lendE k [] = [] := rfl
@[simp] theorem lendE_cons : lendE k (x :: ρ) = lendS k x :: lendE (k + 1) ρ := rfl
@[simp] theorem backS_sh : backS k x (some (.sh d)) = some (.sh d) := by cases x with
  | none => rfl
  | some t => cases t <;> rfl
@[simp] theorem backS_lt : backS k (some (.ow ds)) (some (.lt k es)) = some (.ow ds) := if_pos rfl
@[simp] theorem backS_no : backS k x none = none := by cases x with
  | none => rfl
  | some t => cases t <;> rfl
@[simp] theorem backE_nil : backE k [] [] = [] := rfl
@[simp] theorem backE_cons : backE k (x :: ρ) (y :: ρ') = backS k x y :: backE (k + 1) ρ ρ' := rfl
@[simp] theorem back_nx : (Fl.nx ρ').back ρ = .nx (backE 0 ρ ρ') := rfl
@[simp] theorem back_rt : (Fl.rt (.sh d)).back ρ = .rt (.sh d) := rfl
@[simp] theorem back_rtO : (Fl.rt (.ow ds)).back ρ = .rt (.ow ds) := rfl
@[simp] theorem back_exc : (Fl.exc z ρ').back ρ = .exc z (backE 0 ρ ρ') := rfl
end
end
end Mi

/-! ### lists of one's own that hold lists of one's own -/
namespace Mi
open PySem PySem.Spec L2
section
variable {K : PySem.W.Frag} {B H B' H' G G' : Hp} {p : Addr} {n : Nat}
theorem Inn.guard (s : Same G' G) : ∀ {dss : List (List D)} {vs : List V}, Inn K B G H dss vs → Inn K B G' H dss vs
  | [], _, h => h
  | ds :: dss, _, ⟨p, us, r, e, h1, h2, h3, h4, h5, h⟩ => ⟨p, us, r, e, h1, h2, s.free h3, h4, h5, Inn.guard s h⟩
theorem Inn.ext (x : Ext B H B' H') {dss : List (List D)} {vs : List V} (h : Inn K B G H dss vs) : Inn K B' G H' dss vs :=
  h.mono x.b fun p us e1 e2 _ => ⟨x.h _ _ e1, x.off p e2 (by rw [e1]; exact fun z => by cases z)⟩
end
abbrev Eoo := En → R (List (List D))
def AdOo (c : Cf) (W : WX) (t : TE) (f : Eoo) : Prop := ∀ (g : Gd) (B H : Hp) (ρ : En) (σ : St) (Q : VK), Mt c.K g B H ρ σ →
  Po c W σ B H (f ρ) (fun dss B' H' => ∀ p vs, H' p = some (.lst vs) → B' p = none → H p = none → V.ref p ∉ vs → Inn c.K B' H H' dss vs → Q (.ref p) H') → t σ H Q
def SOo (c : Cf) (W : WX) (e : Expr) (f : Eoo) : Prop := ∃ t : TE, (∀ X, GX c W X → PE X e t) ∧ AdOo c W t f
def SOos (c : Cf) (W : WX) (es : List Expr) (f : Eoo) : Prop := (∃ t : TA, (∀ X, GX c W X → PA X es t) ∧
  (∀ (g : Gd) (B H : Hp) (ρ : En) (σ : St) (Q : List V → Hp → Prop), Mt c.K g B H ρ σ → Po c W σ B H (f ρ) (fun dss B' H' => ∀ vs, Inn c.K B' H H' dss vs → Q vs H') → t σ H Q)) ∧ ∀ ρ dss, f ρ = .ok dss → dss.length = es.length
section
variable {c : Cf} {W : WX} {a b e tg : Expr} {es : List Expr} {f g h : Ev} {F : Es} {O O' : Eoo} {p q : Et} {pos pos' : Pos} {st : Stmt} {sts : List Stmt} {u : Sv}
@[simp] def ooNil : Eoo := fun _ => .ok []
@[simp] def ooCons (F : Es) (O : Eoo) : Eoo := fun ρ => (F ρ).bind fun ds => (O ρ).map fun dss => ds :: dss
theorem soos_nil : SOos c W [] ooNil := ⟨⟨_, fun _ _ => pa_nil, fun _ _ _ _ _ _ m h => ok_refl h m.sub _ rfl⟩, fun _ _ e => by cases e; rfl⟩
theorem soos_cons (ha : SF c W e F) (hr : SOos c W es O) (hs : ∀ env, starEach (e :: es) env = (false, eval e env) :: starEach es env := by intro _; rfl) : SOos c W (e :: es) (ooCons F O) := by
  obtain ⟨t, k, ad⟩ := ha
  obtain ⟨⟨t2, k2, ad2⟩, l2⟩ := hr
  refine ⟨⟨_, fun X G => pa_cons (k X G) (k2 X G) (hs X.env), fun G B H ρ σ Q m hh => ?_⟩, fun ρ dss h => ?_⟩
  · refine ad G B H ρ σ _ m ((Po.bind hh).imp fun ds B1 H1 e1 h1 p us q1 q2 q3 q4 => ?_)
    refine ad2 G B1 H1 ρ σ _ (m.go e1) ((Po.map h1).imp fun dss B2 H2 e2 h2 vs r2 => ?_)
    refine h2 _ ⟨p, us, vs, rfl, e2.h _ _ q1, e2.off p q2 (by rw [q1]; exact fun z => by cases z), q3, fun z => ?_, Reps.mono e2.b _ _ q4, r2.guard e1.h⟩
    obtain ⟨p', us', z1, z2, z3, z4⟩ := r2.mem z
    cases z1
    rw [q1] at z4
    cases z4
  · unfold ooCons at h
    cases h1 : F ρ with
    | ok ds =>
      rw [h1, R.bind_ok] at h
      cases h2 : O ρ with
      | ok xs =>
        rw [h2, R.map_ok] at h
        cases h
        rw [List.length_cons, List.length_cons, l2 ρ xs h2]
      | exc z => rw [h2] at h; cases h
      | stuck => rw [h2] at h; cases h
    | exc z => rw [h1] at h; cases h
    | stuck => rw [h1] at h; cases h
theorem soo_disp (h : SOos c W es O) (hl : es.length ≤ 1000) : SOo c W (.List es pos) O := by
  obtain ⟨⟨t, k, ad⟩, l⟩ := h
  refine ⟨_, fun X G => pe_lst (k X G), fun G B H ρ σ Q m hh => ?_⟩
  refine ad G B H ρ σ _ m ?_
  cases hf : O ρ with
  | ok dss =>
    rw [hf] at hh
    intro B1 H1 e1 vs r1
    refine ⟨by rw [← r1.length, l ρ dss hf]; exact line_ok hl, fun p hp => ?_⟩
    refine hh _ _ (e1.trans (Ext.new e1.in_ hp)) p vs upd_same (e1.in_.free hp) (e1.h.free hp) (fun z => ?_) (r1.ext (Ext.new e1.in_ hp))
    obtain ⟨p', us', z1, z2, z3, z4⟩ := r1.mem z
    cases z1
    rw [hp] at z2
    cases z2
  | exc z => rw [hf] at hh; exact hh
  | stuck => rw [hf] at hh; exact hh
/-- x = [F1, F2 ..], each of them a new list -/
@[simp] def sSetOO (i : Nat) (O : Eoo) : Sv := fun ρ => thnS (O ρ) ρ fun dss => .nx (ρ.set i (some (.oo dss)))
theorem own_newOO {G : Gd} {B H B1 H1 : Hp} {ρ : En} {σ : St} {dss : List (List D)} {p : Addr} {vs : List V} (m : Mt c.K G B H ρ σ) (e1 : Ext B H B1 H1) (q1 : H1 p = some (.lst vs)) (q2 : B1 p = none) (q3 : H p = none) (q4 : V.ref p ∉ vs) (q5 : Inn c.K B1 H H1 dss vs) (i : Nat) :
    Mt c.K G B1 H1 (ρ.set i (some (.oo dss))) (σ.set i (some (.ref p))) := by
  refine (m.go e1).set (s := .oo dss) ⟨p, vs, rfl, q1, q2, m.ext.h.free q3, q4, q5.guard m.ext.h⟩ fun z o j t u hj ej eu o2 => ?_
  rcases o with rfl | ⟨b, us, o1, o3, o4⟩
  · exact m.noNew e1 q3 ej eu o2
  · cases o1
    rw [q1] at o3
    cases o3
    obtain ⟨p', us', rfl, z2, z3, z4⟩ := q5.mem o4
    exact m.noNew e1 z4 ej eu o2
theorem ss_setOO {i : Nat} {x : Str} (hN : c.N[i]? = some x) (hx : LocC c x) (he : SOo c W e O) (hs : ∀ env, swapsWith e (some (.Name x pos')) pos.line env = pure false := by intro _; rfl) : SS c W (.Assign [.Name x pos'] e pos) (sSetOO i O) := by
  obtain ⟨t, k, ad⟩ := he
  refine ⟨_, fun X G => ps_set G.nd (by rw [G.N]; exact hN) (by rw [G.sc]; exact hx.loc) (k X G) (hs X.env) (loc_fn G hx), fun G B H ρ σ E m h => ?_⟩
  refine ad G B H ρ σ _ m ((Po.thn m h).imp fun ds B1 H1 e1 h1 p vs q1 q2 q3 q4 q5 => ?_)
  exact h1 _ B1 H1 (Same.refl _) (own_newOO m e1 q1 q2 q3 q4 q5 i)
/-- the list that stands there -/
noncomputable def atOO (dss : List (List D)) (d : D) : R (Nat × List D) := match d with
  | .int k => (match ixN dss.length k with
    | some j => (match dss[j]? with
      | some ds => .ok (j, ds)
      | none => .stuck)
    | none => .stuck)
  | _ => .stuck
theorem atOO_ok {dss : List (List D)} {k : Int} {j : Nat} {ds : List D} (h : ixN dss.length k = some j) (e : dss[j]? = some ds) : atOO dss (.int k) = .ok (j, ds) := by
  unfold atOO
  dsimp only
  rw [h]
  dsimp only
  rw [e]
theorem atOO_is {dss : List (List D)} {d : D} {r : Nat × List D} (h : atOO dss d = .ok r) : ∃ k, d = .int k ∧ ixN dss.length k = some r.1 ∧ dss[r.1]? = some r.2 := by
  unfold atOO at h
  cases d with
  | int k =>
    dsimp only at h
    split at h
    · rename_i j hj
      split at h
      · rename_i ds hd
        cases h
        exact ⟨k, rfl, hj, hd⟩
      · cases h
    · cases h
  | _ => cases h
theorem atOO_exc {dss : List (List D)} {d : D} {z : Str} (h : atOO dss d = .exc z) : False := by
  unfold atOO at h
  cases d with
  | int k =>
    dsimp only at h
    split at h
    · split at h
      · cases h
      · cases h
    · cases h
  | _ => cases h
/-- x[k].append(e) -/
@[simp] noncomputable def sAppO (i : Nat) (fk f : Ev) : Sv := fun ρ => match ρ[i]? with
  | some (some (.oo dss)) => thnS (fk ρ) ρ fun k => thnS (atOO dss k) ρ fun r => thnS (f ρ) ρ fun d => if r.2.length < szL then .nx (ρ.set i (some (.oo (dss.set r.1 (r.2 ++ [d]))))) else .stuck
  | _ => .stuck
theorem Mt.innAt {G : Gd} {ρ : En} {σ : St} {i : Nat} {dss : List (List D)} {a : Addr} {vs : List V} {B H : Hp} {K : PySem.W.Frag} (m : Mt K G B H ρ σ) (e : ρ[i]? = some (some (.oo dss))) (ev : σ[i]? = some (some (.ref a))) (ea : H a = some (.lst vs)) : Inn K B G.H H dss vs := by
  obtain ⟨v, h1, a', vs', e1, q1, q2, q3, q4, q5⟩ := m.sl i _ e
  rw [ev] at h1
  cases h1
  cases e1
  rw [ea] at q1
  cases q1
  exact q5
theorem ss_appO {i : Nat} {x : Str} {k : Expr} {px spos apos cpos : Pos} (hN : c.N[i]? = some x) (hv : Vis c.sc x) (hk : SB c W k g) (he : SE c W e f) (hd : (x == ("__debug__" : Str)) = false := by decide) (hcd : (x == ("__classdict__" : Str)) = false := by decide) (hp : PlainIx k := by exact fun _ _ => rfl)
    (hbase : ∀ env, attributeBase (.Subscript (.Name x px) k spos) "append" env (eval (.Subscript (.Name x px) k spos) env) = eval (.Subscript (.Name x px) k spos) env := by intro _; rfl)
    (hfew : ∀ env, ((backTo cpos (starEach [e] env)).all (fun x => !x.1) && (backToKw cpos (keywordEach [] env)).all (fun x => x.1.isSome) && decide ([e].length + ([] : List Keyword).length + (if ([] : List Keyword).isEmpty then 0 else 1) < 30)) = true := by intro _; rfl)
    (hline : (apos.endLine == cpos.line) = true := by rfl) (hs : ∀ env, starEach [e] env = (false, eval e env) :: starEach [] env := by intro _; rfl) :
    SS c W (.Expr (.Call (.Attribute (.Subscript (.Name x px) k spos) "append" apos) [e] [] cpos) pos) (sAppO i g f) := by
  obtain ⟨tk, kk, adk⟩ := hk
  obtain ⟨t, k2, ad⟩ := he
  refine ⟨tDrop (tBM c.K "list" rAppend (tOp (rIxL c.K) (tVar i) tk) (tCons t tNil)), fun X G => ?_, fun G B H ρ σ E m h => ?_⟩
  · rw [← G.K]
    exact ps_expr (pe_bm PySem.F.plainAttrs_list PySem.F.slot_list_append PySem.F.type_list_append mt_append (pe_ix ix_list (pe_var (by rw [G.N]; exact hN) (by rw [G.sc]; exact hv) hd hcd) (kk X G) hp) (pa_cons (k2 X G) pa_nil (hs X.env)) (hbase X.env) (hfew X.env) hline (hs X.env) rfl) rfl
  · unfold sAppO at h
    split at h
    · rename_i dss hds
      obtain ⟨v, h1, a, vs, rfl, q1, q2, q3, q4, q5⟩ := m.sl i _ hds
      refine ⟨.ref a, h1, adk G B H ρ σ _ m ((Po.thn m h).imp fun kd B1 H1 e1 h2 kv r1 => ?_)⟩
      cases hat : atOO dss kd with
      | stuck => rw [hat] at h2; exact h2.elim
      | exc z => exact (atOO_exc hat).elim
      | ok r =>
      rw [hat, thnS_ok] at h2
      obtain ⟨kz, rfl, hj, hdj⟩ := atOO_is hat
      have m1 := m.go e1
      have q1' : H1 a = some (.lst vs) := e1.h _ _ q1
      obtain ⟨pp, us, g1, g2, g3, g4, g5⟩ := (m1.innAt hds h1 q1').get hdj
      refine ⟨a, vs, kz, .ref pp, rfl, r1, SqL.of q1', ?_, .inl ⟨rfl, us, SqL.of g2⟩, ad G B1 H1 ρ σ _ m1 ((Po.thn m1 h2).imp fun d B2 H2 e2 h3 y r2 => ?_)⟩
      · unfold atI
        rw [← q5.length, hj]
        exact g1
      · split at h3
        · rename_i hz
          rw [szL_eq] at hz
          refine ⟨pp, us, y, rfl, rfl, e2.h _ _ g2, by rw [← g5.length]; exact hz, ?_⟩
          exact h3 σ B2 _ (Same.refl _) ((m1.go e2).ooIn hds h1 (e2.h _ _ q1') g1 ((Reps.mono e2.b _ _ g5).append (Reps.one r2)))
        · exact h3.elim
    · exact h.elim
/-- x[k].clear() -/
@[simp] noncomputable def sClrO (i : Nat) (fk : Ev) : Sv := fun ρ => match ρ[i]? with
  | some (some (.oo dss)) => thnS (fk ρ) ρ fun k => thnS (atOO dss k) ρ fun r => .nx (ρ.set i (some (.oo (dss.set r.1 []))))
  | _ => .stuck
theorem ss_clrO {i : Nat} {x : Str} {k : Expr} {px spos apos cpos : Pos} (hN : c.N[i]? = some x) (hv : Vis c.sc x) (hk : SB c W k g) (hd : (x == ("__debug__" : Str)) = false := by decide) (hcd : (x == ("__classdict__" : Str)) = false := by decide) (hp : PlainIx k := by exact fun _ _ => rfl)
    (hbase : ∀ env, attributeBase (.Subscript (.Name x px) k spos) "clear" env (eval (.Subscript (.Name x px) k spos) env) = eval (.Subscript (.Name x px) k spos) env := by intro _; rfl)
    (hline : (apos.endLine == cpos.line) = true := by rfl) :
    SS c W (.Expr (.Call (.Attribute (.Subscript (.Name x px) k spos) "clear" apos) [] [] cpos) pos) (sClrO i g) := by
  obtain ⟨tk, kk, adk⟩ := hk
  refine ⟨tDrop (tBM0 c.K "list" rClear (tOp (rIxL c.K) (tVar i) tk)), fun X G => ?_, fun G B H ρ σ E m h => ?_⟩
  · rw [← G.K]
    exact ps_expr (pe_bm0 PySem.F.plainAttrs_list PySem.F.slot_list_clear PySem.F.type_list_clear mt_clear (pe_ix ix_list (pe_var (by rw [G.N]; exact hN) (by rw [G.sc]; exact hv) hd hcd) (kk X G) hp) (hbase X.env) hline) rfl
  · unfold sClrO at h
    split at h
    · rename_i dss hds
      obtain ⟨v, h1, a, vs, rfl, q1, q2, q3, q4, q5⟩ := m.sl i _ hds
      refine ⟨.ref a, h1, adk G B H ρ σ _ m ((Po.thn m h).imp fun kd B1 H1 e1 h2 kv r1 => ?_)⟩
      cases hat : atOO dss kd with
      | stuck => rw [hat] at h2; exact h2.elim
      | exc z => exact (atOO_exc hat).elim
      | ok r =>
      rw [hat, thnS_ok] at h2
      obtain ⟨kz, rfl, hj, hdj⟩ := atOO_is hat
      have m1 := m.go e1
      have q1' : H1 a = some (.lst vs) := e1.h _ _ q1
      obtain ⟨pp, us, g1, g2, g3, g4, g5⟩ := (m1.innAt hds h1 q1').get hdj
      refine ⟨a, vs, kz, .ref pp, rfl, r1, SqL.of q1', ?_, .inl ⟨rfl, us, SqL.of g2⟩, ⟨pp, us, rfl, rfl, g2, ?_⟩⟩
      · unfold atI
        rw [← q5.length, hj]
        exact g1
      · exact h2 σ B1 _ (Same.refl _) (m1.ooIn hds h1 q1' g1 Reps.nil)
    · exact h.elim
/-- x[k] = F, a new list -/
@[simp] noncomputable def sPutO (i : Nat) (fk : Ev) (F : Es) : Sv := fun ρ => match ρ[i]? with
  | some (some (.oo dss)) => thnS (F ρ) ρ fun ds => thnS (fk ρ) ρ fun k => thnS (atOO dss k) ρ fun r => .nx (ρ.set i (some (.oo (dss.set r.1 ds))))
  | _ => .stuck
theorem ss_putO {i : Nat} {x : Str} {k : Expr} {px tpos : Pos} (hN : c.N[i]? = some x) (hv : Vis c.sc x) (hk : SB c W k f) (he : SF c W e F) (hd : (x == ("__debug__" : Str)) = false := by decide) (hcd : (x == ("__classdict__" : Str)) = false := by decide)
    (ha : ∀ env v, assign (.Subscript (.Name x px) k tpos) env v = (do
      let ov ← holding [v] (eval (.Name x px) env)
      let iv ← holding [v, ov] (eval k env)
      standAt tpos
      holding [v, ov, iv] (setItem ov iv v)
      release [v, ov, iv] []) := by intro _ _; rfl)
    (hs : ∀ env, swapsWithSole [.Subscript (.Name x px) k tpos] e pos.line env = pure false := by intro _; rfl) (hw : ∀ env, swappedStores [.Subscript (.Name x px) k tpos] e env = pure none := by intro _; rfl) (h1 : ∀ env, (assignEach [.Subscript (.Name x px) k tpos] env).map (·.2) = [assign (.Subscript (.Name x px) k tpos) env] := by intro _; rfl) :
    SS c W (.Assign [.Subscript (.Name x px) k tpos] e pos) (sPutO i f F) := by
  obtain ⟨t, kk, ad⟩ := hk
  obtain ⟨t2, k2, ad2⟩ := he
  refine ⟨_, fun X G => ps_asg (k2 X G) (pg_sub (pe_var (by rw [G.N]; exact hN) (by rw [G.sc]; exact hv) hd hcd) (kk X G) set_list (ha X.env)) (hs X.env) (hw X.env) (h1 X.env), fun G B H ρ σ E m h => ?_⟩
  unfold sPutO at h
  split at h
  · rename_i dss hds
    obtain ⟨v, e0, a, vs, rfl, q1, q2, q3, q4, q5⟩ := m.sl i _ hds
    refine ad2 G B H ρ σ _ m ((Po.thn m h).imp fun ds B1 H1 e1 h2 p us p1 p2 p3 p4 => ?_)
    refine ⟨.ref a, e0, ad G B1 H1 ρ σ _ (m.go e1) ((Po.thn (m.go e1) h2).imp fun kd B2 H2 e2 h3 kv r2 => ?_)⟩
    cases hat : atOO dss kd with
    | stuck => rw [hat] at h3; exact h3.elim
    | exc z => exact (atOO_exc hat).elim
    | ok r =>
    rw [hat] at h3
    obtain ⟨kz, rfl, hj, hdj⟩ := atOO_is hat
    have q1' : H2 a = some (.lst vs) := e2.h _ _ (e1.h _ _ q1)
    have m2 := (m.go e1).go e2
    refine ⟨a, vs, kz, r.1, rfl, r2, q1', by rw [← q5.length]; exact hj, ?_⟩
    exact h3 σ B2 _ (Same.refl _) (m2.ooPut (p := p) hds e0 q1' (e2.h _ _ p1) (e2.off p p2 (by rw [p1]; exact fun z => by cases z)) (m.ext.h.free p3) (fun j t u ej eu o => m.noNew (e1.trans e2) p3 ej eu o) (Reps.mono e2.b _ _ p4))
  · exact h.elim
/-- a test that looks at what is shared for its time alone -/
@[simp] def tFz (i : Nat) (p : Et) : Et := fun ρ => p (frz i ρ)
theorem st_fz (i : Nat) (h : ST c W e p) : ST c W e (tFz i p) := by
  obtain ⟨t, k, ad⟩ := h
  refine ⟨t, k, fun G B H ρ σ Q m hh => ?_⟩
  have go : ∀ (B' : Hp) (ρ' : En), Same B B' → Mt c.K G B' H ρ' σ → frz i ρ = ρ' → t σ H Q := fun B' ρ' s m' e => by
    unfold tFz at hh
    rw [e] at hh
    refine ad G B' H ρ' σ Q m' ?_
    cases hp : p ρ' with
    | ok b =>
      rw [hp] at hh
      exact fun B1 H1 x => hh B H1 ⟨Same.refl _, x.h, m.sub.trans x.h, fun _ e _ => e⟩
    | exc z =>
      rw [hp] at hh
      exact fun C B1 H1 mg x => hh C B H1 mg ⟨Same.refl _, x.h, m.sub.trans x.h, fun _ e _ => e⟩
    | stuck => rw [hp] at hh; exact hh.elim
  cases e : ρ[i]? with
  | none => exact go B ρ (Same.refl _) m (by unfold frz; rw [e])
  | some s =>
    cases s with
    | none => exact go B ρ (Same.refl _) m (by unfold frz; rw [e])
    | some s =>
      cases s with
      | ow ds =>
        obtain ⟨B', s, m'⟩ := m.frz e
        exact go B' _ s m' (by unfold frz; rw [e])
      | oo ds =>
        obtain ⟨B', s, m'⟩ := m.frzOO e
        exact go B' _ s m' (by unfold frz; rw [e])
      | _ => exact go B ρ (Same.refl _) m (by unfold frz; rw [e])
/-- x[k], lent to a call -/
@[simp] noncomputable def aBorI (i : Nat) (fk : Ev) (g : Ea) : Ea := fun ρ => (match ρ[i]? with
  | some (some (.oo dss)) => (fk ρ).bind fun k => (atOO dss k).bind fun r => R.ok r.2
  | _ => .stuck).bind fun ds => (g ρ).map fun ss => .bo ds :: ss
theorem sa_borI {i : Nat} {x : Str} {k : Expr} {px : Pos} {ka : Ea} (hN : c.N[i]? = some x) (hv : Vis c.sc x) (hk : SB c W k f) (hr : SAn c W es ka) (hd : (x == ("__debug__" : Str)) = false := by decide) (hcd : (x == ("__classdict__" : Str)) = false := by decide) (hp : PlainIx k := by exact fun _ _ => rfl)
    (hs : ∀ env, starEach (.Subscript (.Name x px) k pos :: es) env = (false, eval (.Subscript (.Name x px) k pos) env) :: starEach es env := by intro _; rfl) : SAn c W (.Subscript (.Name x px) k pos :: es) (aBorI i f ka) := by
  obtain ⟨⟨t2, k2, ad2⟩, l2⟩ := hr
  obtain ⟨tk, kk, adk⟩ := hk
  refine ⟨⟨tCons (tOp (rIxL c.K) (tVar i) tk) t2, fun X G => ?_, fun G B H ρ σ Q m hh => ?_⟩, fun ρ ss h => bind_map_len (l2 ρ) h⟩
  · rw [← G.K]
    exact pa_cons (pe_ix ix_list (pe_var (by rw [G.N]; exact hN) (by rw [G.sc]; exact hv) hd hcd) (kk X G) hp) (k2 X G) (hs X.env)
  unfold aBorI at hh
  have hh' := Po.bind hh
  split at hh'
  · rename_i dss hds
    obtain ⟨v, h1, a, vs, rfl, q1, q2, q3, q4, q5⟩ := m.sl i _ hds
    refine ⟨.ref a, h1, adk G B H ρ σ _ m ((Po.bind hh').imp fun kd B1 H1 e1 h2 kv r1 => ?_)⟩
    cases hat : atOO dss kd with
    | stuck => rw [hat] at h2; exact h2.elim
    | exc z => exact (atOO_exc hat).elim
    | ok r =>
    rw [hat] at h2
    obtain ⟨kz, rfl, hj, hdj⟩ := atOO_is hat
    have m1 := m.go e1
    have q1' : H1 a = some (.lst vs) := e1.h _ _ q1
    obtain ⟨pp, us, g1, g2, g3, g4, g5⟩ := (m1.innAt hds h1 q1').get hdj
    have h3 := ok_refl h2 e1.in_
    refine ⟨a, vs, kz, .ref pp, rfl, r1, SqL.of q1', ?_, ad2 G B1 H1 ρ σ _ m1 ((Po.map h3).imp fun xs B2 H2 x2 h4 ws r2 => ?_)⟩
    · unfold atI
      rw [← q5.length, hj]
      exact g1
    · exact h4 _ ⟨_, ws, rfl, ⟨pp, us, rfl, x2.h.seq (SqL.of g2), Reps.mono x2.b _ _ g5⟩, r2⟩
  · exact hh'.elim
/-- x.extend(F), x a list of one's own, F a new list -/
@[simp] noncomputable def sExt (i : Nat) (F : Es) : Sv := fun ρ => match ρ[i]? with
  | some (some (.ow ds)) => thnS (F ρ) ρ fun es => if ds.length + es.length ≤ szL then .nx (ρ.set i (some (.ow (ds ++ es)))) else .stuck
  | _ => .stuck
theorem ss_ext {i : Nat} {x : Str} {px apos cpos : Pos} (hN : c.N[i]? = some x) (hv : Vis c.sc x) (he : SF c W e F) (hd : (x == ("__debug__" : Str)) = false := by decide) (hcd : (x == ("__classdict__" : Str)) = false := by decide)
    (hbase : ∀ env, attributeBase (.Name x px) "extend" env (eval (.Name x px) env) = eval (.Name x px) env := by intro _; rfl)
    (hfew : ∀ env, ((backTo cpos (starEach [e] env)).all (fun x => !x.1) && (backToKw cpos (keywordEach [] env)).all (fun x => x.1.isSome) && decide ([e].length + ([] : List Keyword).length + (if ([] : List Keyword).isEmpty then 0 else 1) < 30)) = true := by intro _; rfl)
    (hline : (apos.endLine == cpos.line) = true := by rfl) (hs : ∀ env, starEach [e] env = (false, eval e env) :: starEach [] env := by intro _; rfl) :
    SS c W (.Expr (.Call (.Attribute (.Name x px) "extend" apos) [e] [] cpos) pos) (sExt i F) := by
  obtain ⟨t, k, ad⟩ := he
  refine ⟨tDrop (tBM c.K "list" rExtend (tVar i) (tCons t tNil)), fun X G => ?_, fun G B H ρ σ E m h => ?_⟩
  · rw [← G.K]
    exact ps_expr (pe_bm PySem.F.plainAttrs_list PySem.F.slot_list_extend PySem.F.type_list_extend mt_extend (pe_var (by rw [G.N]; exact hN) (by rw [G.sc]; exact hv) hd hcd) (pa_cons (k X G) pa_nil (hs X.env)) (hbase X.env) (hfew X.env) hline (hs X.env) rfl) rfl
  · unfold sExt at h
    split at h
    · rename_i ds hds
      obtain ⟨v, h1, p, vs, rfl, q1, q2, q3, q4⟩ := m.sl i _ hds
      refine ⟨.ref p, h1, .inl ⟨rfl, vs, SqL.of q1⟩, ad G B H ρ σ _ m ((Po.thn m h).imp fun es B1 H1 e1 h2 b us b1 b2 b3 b4 => ?_)⟩
      split at h2
      · rename_i hz
        rw [szL_eq] at hz
        have q1' : H1 p = some (.lst vs) := e1.h _ _ q1
        refine ⟨p, b, vs, us, rfl, rfl, q1', b1, by rw [← q4.length, ← b4.length]; exact hz, ?_⟩
        exact h2 σ B1 _ (Same.refl _) ((m.go e1).own (vs := vs) hds h1 ((Reps.mono e1.b _ _ q4).append b4))
      · exact h2.elim
    · exact h.elim
/-- reversed(range(n)) -/
noncomputable def iRevRg (f : Ev) : Es := fun ρ => (f ρ).bind fun x => match x with
  | .int n => if -big62 ≤ n ∧ n < big62 then .ok (rngC ((n.toNat : Int) - 1) (-1) n.toNat) else .stuck
  | _ => .stuck
theorem si_revr {x y : Str} {p p2 pos2 : Pos} (hx : x = "reversed") (hg : c.sc.names.lookup x = some .globalImplicit) (hm : c.mg x = none) (hy : y = "range") (hg2 : c.sc.names.lookup y = some .globalImplicit) (hm2 : c.mg y = none) (ha : SE c W a f)
    (hs : ∀ env, starEach [a] env = (false, eval a env) :: starEach [] env := by intro _; rfl) (hs2 : ∀ env, starEach [Expr.Call (.Name y p2) [a] [] pos2] env = (false, eval (.Call (.Name y p2) [a] [] pos2) env) :: starEach [] env := by intro _; rfl) : SI c W tg (.Call (.Name x p) [.Call (.Name y p2) [a] [] pos2] [] pos) (iRevRg f) := by
  subst hx
  subst hy
  obtain ⟨t, k, ad⟩ := ha
  refine ⟨_, fun X G => pi_revR (tr := tRg1 t) (by show X.env.scope.names.lookup _ = _; rw [G.sc]; exact hg) (by rw [G.mg]; exact hm) (prg_1 (by show X.env.scope.names.lookup _ = _; rw [G.sc]; exact hg2) (by rw [G.mg]; exact hm2) (k X G) (hs X.env)) (hs2 X.env), fun G B H ρ σ Q m hh => ?_⟩
  refine ad G B H ρ σ _ m ((Po.bind hh).imp fun d B1 H1 e1 h1 v r1 => ?_)
  cases d with
  | int n =>
    cases (show v = .int n from r1)
    dsimp only at h1
    split at h1
    · rename_i hz
      rw [big62_eq] at hz
      refine ⟨n, rfl, by decide, by decide, by omega, by omega, ?_⟩
      have e : (0 : Int) + (((n - 0).toNat : Nat) : Int) - 1 = (n.toNat : Int) - 1 := by omega
      have e2 : (n - 0).toNat = n.toNat := by omega
      rw [e, e2]
      exact ok_refl h1 e1.in_ _ wk_rngC
    · exact h1.elim
  | _ => exact h1.elim
theorem iRevRg_ok {f : Ev} {ρ : En} {n : Nat} (h : f ρ = .ok (.int (n : Int))) (hn : n ≤ 1000000000) : iRevRg f ρ = .ok (rngC ((n : Int) - 1) (-1) n) := by
  unfold iRevRg
  rw [h, R.bind_ok]
  dsimp only
  rw [if_pos (by rw [big62_eq]; omega), Int.toNat_natCast]
end
end Mi

/-! ## Plain laws about the combinators -/
namespace Mi
open PySem PySem.Spec L2
/-! sizes -/
class Bd (n : outParam Nat) (x : Int) : Prop where
  lt : x.natAbs < 2 ^ n
theorem Bd.of {x : Int} {N : Nat} (h : x.natAbs ≤ N) : Bd (N.log2 + 1) x := ⟨Nat.lt_of_le_of_lt h Nat.lt_log2_self⟩
theorem Bd.up {m n : Nat} {x : Int} (h : Bd m x) (l : m ≤ n) : Bd n x := ⟨Nat.lt_of_lt_of_le h.lt (Nat.pow_le_pow_right (by decide) l)⟩
theorem bd_lit (n : Nat) : Bd (n.log2 + 1) (@OfNat.ofNat Int n _) := .of (Nat.le_refl n)
theorem bd_self (x : Int) : Bd (x.natAbs.log2 + 1) x := .of (Nat.le_refl _)
instance (priority := 10) bd_any {x : Int} : Bd (x.natAbs.log2 + 1) x := bd_self x
theorem bd_neg' {n : Nat} {x : Int} (h : Bd n x) : Bd n (-x) := ⟨by rw [Int.natAbs_neg]; exact h.lt⟩
instance bd_neg {n : Nat} {x : Int} [h : Bd n x] : Bd n (-x) := bd_neg' h
theorem pow_sum {a b : Nat} : 2 ^ a + 2 ^ b ≤ 2 ^ (Nat.max a b + 1) := by
  have h1 : 2 ^ a ≤ 2 ^ (Nat.max a b) := Nat.pow_le_pow_right (by decide) (Nat.le_max_left a b)
  have h2 : 2 ^ b ≤ 2 ^ (Nat.max a b) := Nat.pow_le_pow_right (by decide) (Nat.le_max_right a b)
  rw [Nat.pow_succ]
  omega
instance bd_add {a b : Nat} {x y : Int} [h : Bd a x] [h' : Bd b y] : Bd (Nat.max a b + 1) (x + y) := ⟨by
  have := h.lt
  have := h'.lt
  have := @pow_sum a b
  have := Int.natAbs_add_le x y
  omega⟩
instance bd_sub {a b : Nat} {x y : Int} [h : Bd a x] [h' : Bd b y] : Bd (Nat.max a b + 1) (x - y) := ⟨by
  have := h.lt
  have := h'.lt
  have := @pow_sum a b
  have : (x - y).natAbs ≤ x.natAbs + y.natAbs := by omega
  omega⟩
instance bd_mul {a b : Nat} {x y : Int} [h : Bd a x] [h' : Bd b y] : Bd (a + b) (x * y) := ⟨by
  rw [Int.natAbs_mul, Nat.pow_add]
  exact Nat.mul_lt_mul'' h.lt h'.lt⟩
theorem bd_mod' {b : Nat} {x y : Int} (p : 0 < y) (h : Bd b y) : Bd b (x % y) := ⟨by
  have := h.lt
  have := Int.emod_nonneg x (show y ≠ 0 by omega)
  have := Int.emod_lt_of_pos x p
  omega⟩
instance bd_mod {a : Nat} {x y : Int} [h : Bd a x] : Bd (if y = 0 then a else y.natAbs.log2 + 1) (x % y) := by
  by_cases e : y = 0
  · rw [if_pos e, e, Int.emod_zero]
    exact h
  · rw [if_neg e]
    have h1 := Int.emod_nonneg x e
    have h2 := Int.emod_lt x e
    exact .of (by omega)
instance bd_pow {a : Nat} {x : Int} (k : Nat) [h : Bd a x] : Bd (a * k + 1) (x ^ k) := ⟨by
  rw [Int.natAbs_pow]
  have h1 : x.natAbs ^ k ≤ (2 ^ a) ^ k := Nat.pow_le_pow_left (Nat.le_of_lt h.lt) k
  rw [← Nat.pow_mul] at h1
  have h2 : 0 < 2 ^ (a * k) := Nat.pow_pos (by decide)
  rw [Nat.pow_succ]
  omega⟩
theorem natAbs_div_le (x y : Int) : (x / y).natAbs ≤ x.natAbs := Int.natAbs_ediv_le_natAbs x y
instance bd_div {a : Nat} {x y : Int} [h : Bd a x] : Bd a (x / y) := ⟨Nat.lt_of_le_of_lt (natAbs_div_le x y) h.lt⟩
theorem log_le {n : Nat} {x : Int} (h : Bd n x) : x.natAbs.log2 ≤ n := by
  by_cases h0 : x.natAbs = 0
  · rw [h0]
    exact Nat.zero_le _
  · exact Nat.le_of_lt ((Nat.log2_lt h0).mpr h.lt)
theorem mulOk_i {a b : Nat} {x y : Int} [h : Bd a x] [h' : Bd b y] (l : Nat.blt (a + b) 130000000 = true) : mulOk x y = true := by
  have := log_le h
  have := log_le h'
  have l' : a + b < 130000000 := by rw [Nat.blt_eq] at l; exact l
  exact decide_eq_true (by omega)
theorem logOk_i {a : Nat} {x : Int} [h : Bd a x] (l : Nat.blt a 9000 = true) : x.natAbs.log2 < 9000 := by
  have := log_le h
  have l' : a < 9000 := by rw [Nat.blt_eq] at l; exact l
  omega
theorem divOk_i {a : Nat} {x : Int} [h : Bd a x] (l : Nat.blt a 9000 = true) : divOk x = true := decide_eq_true (logOk_i l)
@[simp] theorem divOk_lit {x : Int} (h : x.natAbs < 2 ^ 250) : divOk x = true := @divOk_i 250 x ⟨h⟩ (by rfl)
@[simp] theorem mulOk_lit {x y : Int} (h : x.natAbs < 2 ^ 250) (h' : y.natAbs < 2 ^ 250) : mulOk x y = true := @mulOk_i 250 250 x y ⟨h⟩ ⟨h'⟩ (by rfl)
theorem Bd.cell {z : Int} (h : Builtin.Int.intBits z ≤ 1048576) : Bd 1048576 z := by
  constructor
  unfold Builtin.Int.intBits at h
  split at h
  · rename_i h0
    have e : z = 0 := by simpa using h0
    rw [e]
    exact Nat.pow_pos (by decide)
  · exact Nat.lt_of_lt_of_le Nat.lt_log2_self (Nat.pow_le_pow_right (by decide) h)

/-! loops -/
/-- one turn of a loop's body -/
def turnR (gt : Gt) (u : Sv) (d : D) (ρ : En) : Fl := (gt d ρ).fl fun ρ1 => (u ρ1).turn .nx
theorem forR_cons {gt : Gt} {u : Sv} {d : D} {ds : List D} {ρ : En} : forR gt u (d :: ds) ρ = (gt d ρ).fl fun ρ1 => (u ρ1).turn (forR gt u ds) := rfl
theorem forR_nil {gt : Gt} {u : Sv} {ρ : En} : forR gt u [] ρ = .nx ρ := rfl
/-- a break is not the end of a turn by turnR: where the body breaks, forR_bk -/
def noBk : Fl → Bool
  | .bk _ => false
  | _ => true
def turnB (gt : Gt) (u : Sv) (d : D) (ρ : En) : Fl := (gt d ρ).fl u
theorem forR_nx {gt : Gt} {u : Sv} {d : D} {ds : List D} {ρ ρ' : En} (h : turnB gt u d ρ = .nx ρ') : forR gt u (d :: ds) ρ = forR gt u ds ρ' := by
  unfold turnB at h
  rw [forR_cons]
  cases hg : gt d ρ with
  | ok ρ1 =>
    rw [hg] at h
    simp only [R.fl] at h ⊢
    rw [h] <;> rfl
  | exc c => rw [hg] at h; cases h
  | stuck => rw [hg] at h; cases h
theorem forR_ct {gt : Gt} {u : Sv} {d : D} {ds : List D} {ρ ρ' : En} (h : turnB gt u d ρ = .ct ρ') : forR gt u (d :: ds) ρ = forR gt u ds ρ' := by
  unfold turnB at h
  rw [forR_cons]
  cases hg : gt d ρ with
  | ok ρ1 =>
    rw [hg] at h
    simp only [R.fl] at h ⊢
    rw [h] <;> rfl
  | exc c => rw [hg] at h; cases h
  | stuck => rw [hg] at h; cases h
theorem forR_rt {gt : Gt} {u : Sv} {d : D} {ds : List D} {ρ : En} {s : Sl} (h : turnB gt u d ρ = .rt s) : forR gt u (d :: ds) ρ = .rt s := by
  unfold turnB at h
  rw [forR_cons]
  cases hg : gt d ρ with
  | ok ρ1 =>
    rw [hg] at h
    simp only [R.fl] at h ⊢
    rw [h] <;> rfl
  | exc c => rw [hg] at h; cases h
  | stuck => rw [hg] at h; cases h
theorem forR_exc {gt : Gt} {u : Sv} {d : D} {ds : List D} {ρ ρ' : En} {x : Str} (h : turnB gt u d ρ = .exc x ρ') : forR gt u (d :: ds) ρ = .exc x ρ' := by
  unfold turnB at h
  rw [forR_cons]
  cases hg : gt d ρ with
  | ok ρ1 =>
    rw [hg] at h
    simp only [R.fl] at h ⊢
    rw [h] <;> rfl
  | exc c => rw [hg] at h; cases h
  | stuck => rw [hg] at h; cases h
/-- a loop that carries a state on: the turns of typed items -/
theorem forR_fold {σ τ : Type} {gt : Gt} {u : Sv} (enc : σ → En) (val : τ → D) (stp : σ → τ → σ) (I : σ → Prop) :
    ∀ (xs : List τ) (s : σ), I s → (∀ s x, x ∈ xs → I s → turnB gt u (val x) (enc s) = .nx (enc (stp s x)) ∧ I (stp s x)) → forR gt u (xs.map val) (enc s) = .nx (enc (xs.foldl stp s)) ∧ I (xs.foldl stp s)
  | [], s, i, _ => ⟨rfl, i⟩
  | x :: xs, s, i, h => by
    obtain ⟨h1, h2⟩ := h s x (List.mem_cons_self ..) i
    rw [List.map_cons, forR_nx h1]
    exact forR_fold enc val stp I xs _ h2 fun s y hy => h s y (List.mem_cons_of_mem _ hy)
/-- an invariant that knows how many items were met -/
theorem forR_inv {τ : Type} {gt : Gt} {u : Sv} (val : τ → D) (I : List τ → En → Prop) :
    ∀ (done xs : List τ) (ρ : En), I done ρ → (∀ done x rest ρ, done ++ x :: rest = done ++ x :: rest → I done ρ → (∃ a b, a ++ x :: b = a ++ x :: b) → x ∈ xs → ∃ ρ', turnB gt u (val x) ρ = .nx ρ' ∧ I (done ++ [x]) ρ') → ∃ ρ', forR gt u (xs.map val) ρ = .nx ρ' ∧ I (done ++ xs) ρ'
  | done, [], ρ, i, _ => ⟨ρ, rfl, by rw [List.append_nil]; exact i⟩
  | done, x :: xs, ρ, i, h => by
    obtain ⟨ρ', h1, h2⟩ := h done x [] ρ rfl i ⟨[], [], rfl⟩ (List.mem_cons_self ..)
    obtain ⟨ρ2, h3, h4⟩ := forR_inv val I (done ++ [x]) xs ρ' h2 fun done y rest ρ e i z hy => h done y rest ρ e i z (List.mem_cons_of_mem _ hy)
    exact ⟨ρ2, by rw [List.map_cons, forR_nx h1]; exact h3, by rw [List.append_assoc] at h4; exact h4⟩
/-- every turn leaves all as it was -/
theorem forR_keep {τ : Type} {gt : Gt} {u : Sv} {ρ : En} (val : τ → D) : ∀ (xs : List τ), (∀ x, x ∈ xs → turnB gt u (val x) ρ = .nx ρ) → forR gt u (xs.map val) ρ = .nx ρ
  | [], _ => rfl
  | x :: xs, h => by
    rw [List.map_cons, forR_nx (h x (List.mem_cons_self ..))]
    exact forR_keep val xs fun y hy => h y (List.mem_cons_of_mem _ hy)
/-- a search -/
theorem forR_find {τ : Type} {gt : Gt} {u : Sv} {ρ : En} (val : τ → D) (q : τ → Bool) (r : τ → Sl) : ∀ (xs : List τ), (∀ x, x ∈ xs → turnB gt u (val x) ρ = if q x = true then .rt (r x) else .nx ρ) →
    forR gt u (xs.map val) ρ = match xs.find? q with
      | some x => .rt (r x)
      | none => .nx ρ
  | [], _ => rfl
  | x :: xs, h => by
    have h1 := h x (List.mem_cons_self ..)
    rw [List.map_cons, List.find?_cons]
    cases hq : q x with
    | true =>
      rw [hq, if_pos rfl] at h1
      exact forR_rt h1
    | false =>
      rw [hq, if_neg Bool.false_ne_true] at h1
      rw [forR_nx h1]
      exact forR_find val q r xs fun y hy => h y (List.mem_cons_of_mem _ hy)
/-- by the number of items that were met -/
theorem forR_nat {gt : Gt} {u : Sv} (I : Nat → En → Prop) : ∀ (ds : List D) (k : Nat) (ρ : En), I k ρ → (∀ i d ρ, ds[i]? = some d → I (k + i) ρ → ∃ ρ', turnB gt u d ρ = .nx ρ' ∧ I (k + i + 1) ρ') → ∃ ρ', forR gt u ds ρ = .nx ρ' ∧ I (k + ds.length) ρ'
  | [], k, ρ, i, _ => ⟨ρ, rfl, i⟩
  | d :: ds, k, ρ, i, h => by
    obtain ⟨ρ', h1, h2⟩ := h 0 d ρ rfl i
    obtain ⟨ρ2, h3, h4⟩ := forR_nat I ds (k + 1) ρ' h2 fun i e ρ he hi => by
      have := h (i + 1) e ρ (by simpa using he) (by rw [show k + (i + 1) = k + 1 + i by omega]; exact hi)
      rw [show k + (i + 1) = k + 1 + i by omega] at this
      exact this
    exact ⟨ρ2, by rw [forR_nx h1]; exact h3, by rw [List.length_cons, show k + (ds.length + 1) = k + 1 + ds.length by omega]; exact h4⟩
theorem rngD_get {lo : Int} {n i : Nat} {d : D} (h : (rngD lo n)[i]? = some d) : i < n ∧ d = .int (lo + i) := by
  unfold rngD at h
  rw [List.getElem?_map] at h
  by_cases hi : i < n
  · rw [List.getElem?_range hi] at h
    cases h
    exact ⟨hi, rfl⟩
  · rw [List.getElem?_eq_none (by rw [List.length_range]; omega)] at h
    cases h
theorem rngD_len {lo : Int} {n : Nat} : (rngD lo n).length = n := by unfold rngD; rw [List.length_map, List.length_range]
/-- a comprehension without a test -/
theorem lcR_map {τ : Type} {gt : Gt} {p : Et} {f : Ev} {ρ : En} (val : τ → D) (res : τ → D) : ∀ (xs : List τ), (∀ x, x ∈ xs → ((gt (val x) ρ).bnd fun ρ1 => (p ρ1).bnd fun b => if b = true then f ρ1 else .stuck) = .ok (res x)) → lcR gt p f ρ (xs.map val) = .ok (xs.map res)
  | [], _ => rfl
  | x :: xs, h => by
    have h1 := h x (List.mem_cons_self ..)
    have h2 := lcR_map (gt := gt) (p := p) (f := f) (ρ := ρ) val res xs fun y hy => h y (List.mem_cons_of_mem _ hy)
    rw [List.map_cons, List.map_cons, lcR]
    cases hg : gt (val x) ρ with
    | ok ρ1 =>
      rw [hg] at h1
      simp only [R.bnd] at h1 ⊢
      cases hp : p ρ1 with
      | ok b =>
        rw [hp] at h1
        simp only [R.bnd] at h1 ⊢
        cases b with
        | true =>
          rw [if_pos rfl] at h1 ⊢
          rw [h1, h2] <;> rfl
        | false => rw [if_neg Bool.false_ne_true] at h1; cases h1
      | exc z => rw [hp] at h1; cases h1
      | stuck => rw [hp] at h1; cases h1
    | exc z => rw [hg] at h1; cases h1
    | stuck => rw [hg] at h1; cases h1
/-- with a test -/
theorem lcR_filter {τ : Type} {gt : Gt} {p : Et} {f : Ev} {ρ : En} (val : τ → D) (q : τ → Bool) (res : τ → D) : ∀ (xs : List τ), (∀ x, x ∈ xs → ∃ ρ1, gt (val x) ρ = .ok ρ1 ∧ p ρ1 = .ok (q x) ∧ (q x = true → f ρ1 = .ok (res x))) → lcR gt p f ρ (xs.map val) = .ok ((xs.filter q).map res)
  | [], _ => rfl
  | x :: xs, h => by
    obtain ⟨ρ1, h1, h2, h3⟩ := h x (List.mem_cons_self ..)
    have h4 := lcR_filter (gt := gt) (p := p) (f := f) (ρ := ρ) val q res xs fun y hy => h y (List.mem_cons_of_mem _ hy)
    rw [List.map_cons, lcR, h1, List.filter_cons]
    simp only [R.bnd, h2]
    cases hq : q x with
    | true => rw [if_pos rfl, if_pos rfl, h3 hq, h4] <;> rfl
    | false => rw [if_neg Bool.false_ne_true, if_neg Bool.false_ne_true, h4]

/-! places in lists -/
theorem ixN_nat {n : Nat} {i : Int} (h0 : 0 ≤ i) (h : i < n) : ixN n i = some i.toNat := by unfold ixN; rw [if_pos h0, if_pos h]
theorem ixN_neg {n : Nat} {i : Int} (h0 : i < 0) (h : -(n : Int) ≤ i) : ixN n i = some (i + n).toNat := by unfold ixN; rw [if_neg (by omega), if_pos h]
theorem atI_nat {α : Type} {xs : List α} {i : Int} (h0 : 0 ≤ i) (h : i < xs.length) : atI xs i = xs[i.toNat]? := by unfold atI; rw [ixN_nat h0 h]; rfl
section
variable {α : Type} {a b c d e f : α} {xs : List α}
@[simp] theorem atI_0 : atI (a :: xs) 0 = some a := by rw [atI_nat (by decide) (by simp only [List.length_cons]; omega)]; rfl
@[simp] theorem atI_1 : atI (a :: b :: xs) 1 = some b := by rw [atI_nat (by decide) (by simp only [List.length_cons]; omega)]; rfl
@[simp] theorem atI_2 : atI (a :: b :: c :: xs) 2 = some c := by rw [atI_nat (by decide) (by simp only [List.length_cons]; omega)]; rfl
@[simp] theorem atI_3 : atI (a :: b :: c :: d :: xs) 3 = some d := by rw [atI_nat (by decide) (by simp only [List.length_cons]; omega)]; rfl
@[simp] theorem atI_4 : atI (a :: b :: c :: d :: e :: xs) 4 = some e := by rw [atI_nat (by decide) (by simp only [List.length_cons]; omega)]; rfl
@[simp] theorem atI_5 : atI (a :: b :: c :: d :: e :: f :: xs) 5 = some f := by rw [atI_nat (by decide) (by simp only [List.length_cons]; omega)]; rfl
end
theorem sizeLine_is : sizeLine = 16777216 := PySem.sizeLine_eq
end Mi
namespace Mi
theorem sSeq_nx {u v : Sv} {ρ ρ' : En} (h : u ρ = .nx ρ') : sSeq u v ρ = v ρ' := by unfold sSeq; rw [h]; rfl
theorem sSeq_rt {u v : Sv} {ρ : En} {s : Sl} (h : u ρ = .rt s) : sSeq u v ρ = .rt s := by unfold sSeq; rw [h]; rfl
theorem sFor_at {f : Es} {gt : Gt} {u : Sv} {ρ : En} {ds : List D} {r : Fl} (h : f ρ = .ok ds) (h2 : forR gt u ds ρ = r) : sFor f gt u ρ = r := by rw [sFor_eq]; show thnS (f ρ) ρ _ = r; rw [h]; exact h2
theorem runB_rt {n : Nat} {u : Sv} {args : List Sl} {s : Sl} (h : u (args.map some ++ List.replicate (n - args.length) none) = .rt s) : runB n u args = .ok s := by unfold runB; rw [h]; rfl
theorem eLc_ok {fi : Es} {gt : Gt} {p : Et} {f : Ev} {vs : List Nat} {ρ : En} {items ds : List D} (h : fi ρ = .ok items) (hl : items.length ≤ 1000000) (h2 : lcR gt p f (wipeE ρ vs) items = .ok ds) : eLc fi gt p f vs ρ = .ok ds := by
  unfold eLc
  rw [h, R.bind_ok, if_pos (by rw [szL_eq, PySem.sizeLine_eq]; omega), h2]
  rfl
theorem iRng1D_ok {f : Ev} {ρ : En} {j : Int} (h : f ρ = .ok (.int j)) (hj : -1000000000 ≤ j ∧ j ≤ 1000000000) : iRng1D f ρ = .ok (rngD 0 j.toNat) := by
  unfold iRng1D
  rw [h, R.bind_ok]
  dsimp only
  rw [if_pos]
  rw [big62_eq]
  omega
theorem iRng2D_ok {f g : Ev} {ρ : En} {i j : Int} (h : f ρ = .ok (.int i)) (h2 : g ρ = .ok (.int j)) (hi : -1000000000 ≤ i ∧ i ≤ 1000000000) (hj : -1000000000 ≤ j ∧ j ≤ 1000000000) : iRng2D f g ρ = .ok (rngD i (j - i).toNat) := by
  unfold iRng2D
  rw [h, R.bind_ok, h2, R.bind_ok]
  dsimp only
  rw [if_pos]
  rw [big62_eq]
  omega
theorem iRng3D_ok {f g h : Ev} {ρ : En} {i j k : Int} (h1 : f ρ = .ok (.int i)) (h2 : g ρ = .ok (.int j)) (h3 : h ρ = .ok (.int k)) (hi : -1000000 ≤ i ∧ i < 1000000) (hj : -1000000 ≤ j ∧ j < 1000000) (hk : 0 < k ∧ k < 1000000) : iRng3D f g h ρ = .ok (rngC i k (rngN i j k)) := by
  unfold iRng3D
  rw [h1, R.bind_ok, h2, R.bind_ok, h3, R.bind_ok]
  dsimp only
  rw [if_pos (by rw [big6_eq]; exact ⟨hi, hj, hk⟩)]
theorem oRep_ok {ds : List D} {n : Nat} (h : ds.length * n ≤ 1000000) (h2 : n ≤ 1000000) : oRep ds (.int (n : Int)) = .ok (List.replicate n ds).flatten := by
  unfold oRep
  dsimp only
  rw [if_pos (by rw [szL_eq, big63_eq, sizeLine_is, Int.toNat_natCast]; exact ⟨by omega, by omega, by omega⟩), Int.toNat_natCast]
theorem Bd.zero (n : Nat) : Bd n 0 := ⟨by rw [Int.natAbs_zero]; exact Nat.pow_pos (by decide)⟩
theorem cutD_map {α β : Type} (f : α → β) (xs : List α) (lo hi : Option Int) : cutD (xs.map f) lo hi = (cutD xs lo hi).map f := by
  unfold cutD
  rw [List.length_map, ← List.map_drop, ← List.map_take]
theorem mem_cutD {α : Type} {xs : List α} {lo hi : Option Int} {x : α} (h : x ∈ cutD xs lo hi) : x ∈ xs := List.mem_of_mem_drop (List.mem_of_mem_take h)
theorem cutD_len {α : Type} {xs : List α} {lo hi : Option Int} : (cutD xs lo hi).length ≤ xs.length := by
  unfold cutD
  rw [List.length_take, List.length_drop]
  omega
theorem cutD_len2 {α : Type} {xs : List α} {a b : Nat} : (cutD xs (some (a : Int)) (some (b : Int))).length ≤ b - a := by
  unfold cutD
  rw [List.length_take, HT.sIx_nat, HT.sIx_nat]
  omega
theorem cutD_len1 {α : Type} {xs : List α} {b : Nat} : (cutD xs none (some (b : Int))).length ≤ b := by
  unfold cutD
  rw [List.length_take, HT.sIx_none, HT.sIx_nat]
  omega
/-- for k in range(len(cells)): number = number * c + cells[k] -/
theorem horner {gt : Gt} {u : Sv} {cells : List Int} (enc : Int → En) (c : Int) [hc : Bd 8 c] (hb : ∀ z ∈ cells, Bd 1048576 z) (hl : cells.length ≤ 1000)
    (hu : ∀ (s : Int) (i : Nat) (h : i < cells.length), Bd 1060000 s → turnB gt u (.int (i : Int)) (enc s) = .nx (enc (s * c + cells[i]))) :
    ∃ s, forR gt u (rngD 0 cells.length) (enc 0) = .nx (enc s) := by
  obtain ⟨ρ', h1, s, h2, h3⟩ := forR_nat (gt := gt) (u := u) (fun k ρ => ∃ s : Int, Bd (1048576 + 9 * k) s ∧ ρ = enc s) (rngD 0 cells.length) 0 (enc 0) ⟨0, Bd.zero _, rfl⟩ fun i d ρ hd ⟨s, h2, h3⟩ => by
    obtain ⟨hi, rfl⟩ := rngD_get hd
    subst h3
    rw [Nat.zero_add] at h2 ⊢
    have hz : Bd 1048576 cells[i] := hb _ (List.getElem_mem _)
    have e := hu s i hi (h2.up (by omega))
    rw [Int.zero_add]
    refine ⟨_, e, _, ?_, rfl⟩
    have q := @bd_add _ _ _ _ (@bd_mul _ _ _ _ h2 hc) hz
    exact q.up (by
      have : Nat.max (1048576 + 9 * i + 8) 1048576 = 1048576 + 9 * i + 8 := Nat.max_eq_left (by omega)
      omega)
  exact ⟨s, by rw [h1, h3]⟩
/-- a comprehension whose items are told by what holds of them -/
theorem lcR_ex {τ ω : Type} {gt : Gt} {p : Et} {f : Ev} {ρ : En} (val : τ → D) (res : ω → D) (P : τ → ω → Prop) : ∀ (xs : List τ), (∀ x, x ∈ xs → ∃ w, P x w ∧ ((gt (val x) ρ).bnd fun ρ1 => (p ρ1).bnd fun b => if b = true then f ρ1 else .stuck) = .ok (res w)) →
    ∃ ws : List ω, ws.length = xs.length ∧ (∀ w ∈ ws, ∃ x ∈ xs, P x w) ∧ lcR gt p f ρ (xs.map val) = .ok (ws.map res)
  | [], _ => ⟨[], rfl, fun w h => absurd h (List.not_mem_nil), rfl⟩
  | x :: xs, h => by
    obtain ⟨w, h1, h2⟩ := h x (List.mem_cons_self ..)
    obtain ⟨ws, h3, h4, h5⟩ := lcR_ex (gt := gt) (p := p) (f := f) (ρ := ρ) val res P xs fun y hy => h y (List.mem_cons_of_mem _ hy)
    refine ⟨w :: ws, by rw [List.length_cons, List.length_cons, h3], fun v hv => ?_, ?_⟩
    · rcases List.mem_cons.mp hv with rfl | hv
      · exact ⟨x, List.mem_cons_self .., h1⟩
      · obtain ⟨y, hy, hP⟩ := h4 v hv
        exact ⟨y, List.mem_cons_of_mem _ hy, hP⟩
    · have e := lcR_map (gt := gt) (p := p) (f := f) (ρ := ρ) (fun _ : Unit => val x) (fun _ => res w) [()] fun _ _ => h2
      rw [List.map_cons, List.map_cons, lcR]
      rw [List.map_cons, lcR] at e
      cases hg : gt (val x) ρ with
      | ok ρ1 =>
        rw [hg] at h2
        simp only [R.bnd_ok] at h2 ⊢
        cases hp : p ρ1 with
        | ok b =>
          rw [hp] at h2
          simp only [R.bnd_ok] at h2 ⊢
          cases b with
          | true =>
            rw [if_pos rfl] at h2 ⊢
            rw [h2, h5] <;> rfl
          | false => rw [if_neg Bool.false_ne_true] at h2; cases h2
        | exc z => rw [hp] at h2; cases h2
        | stuck => rw [hp] at h2; cases h2
      | exc z => rw [hg] at h2; cases h2
      | stuck => rw [hg] at h2; cases h2
theorem iRngDn_ok {f g : Ev} {ρ : En} {i j : Int} (h : f ρ = .ok (.int i)) (h2 : g ρ = .ok (.int j)) (hi : -1000000000000000 ≤ i ∧ i ≤ 1000000000000000) (hj : -1000000000000000 ≤ j ∧ j ≤ 1000000000000000) : iRngDn f g ρ = .ok (rngC i (-1) (i - j).toNat) := by
  unfold iRngDn
  rw [h, R.bind_ok, h2, R.bind_ok]
  dsimp only
  rw [if_pos]
  rw [big62_eq]
  omega
end Mi

/-! ## equal data -/
namespace Mi
open PySem PySem.Spec L2
@[simp] theorem oEq_int {i j : Int} : oEq (.int i) (.int j) = .ok (.bl (decide (i = j))) := rfl
@[simp] theorem oEq_str {i j : Str} : oEq (.str i) (.str j) = .ok (.bl (decide (i = j))) := rfl
@[simp] theorem oEq_bl {i j : Bool} : oEq (.bl i) (.bl j) = .ok (.bl (decide (i = j))) := rfl
@[simp] theorem oEq_nn : oEq .non .non = .ok (.bl true) := rfl
@[simp] theorem oEq_ni {i : Int} : oEq .non (.int i) = .ok (.bl false) := rfl
@[simp] theorem oEq_in {i : Int} : oEq (.int i) .non = .ok (.bl false) := rfl
mutual
def okD : D → Bool
  | .str x => PyData.strOk x
  | .tup ds => okDs ds
  | .lst ds => okDs ds
  | .exo _ => false
  | _ => true
def okDs : List D → Bool
  | [] => true
  | d :: ds => okD d && okDs ds
end
mutual
def depD : D → Nat
  | .tup ds => depDs ds + 1
  | .lst ds => depDs ds + 1
  | .exo _ => 1
  | _ => 0
def depDs : List D → Nat
  | [] => 0
  | d :: ds => max (depD d) (depDs ds)
end
mutual
theorem okD_lay : ∀ d : D, d.py.canLay0 = okD d
  | .non => rfl
  | .bl _ => rfl
  | .int _ => rfl
  | .str _ => rfl
  | .tup ds => okDs_lay ds
  | .lst ds => okDs_lay ds
  | .exo _ => rfl
theorem okDs_lay : ∀ ds : List D, PyData.canLayAll0 (D.pys ds) = okDs ds
  | [] => rfl
  | d :: ds => by
    show (d.py.canLay0 && PyData.canLayAll0 (D.pys ds)) = (okD d && okDs ds)
    rw [okD_lay d, okDs_lay ds]
end
mutual
theorem depD_py : ∀ d : D, d.py.depth = depD d
  | .non => rfl
  | .bl _ => rfl
  | .int _ => rfl
  | .str _ => rfl
  | .tup ds => by show PyData.depthAll (D.pys ds) + 1 = depDs ds + 1; rw [depDs_py ds]
  | .lst ds => by show PyData.depthAll (D.pys ds) + 1 = depDs ds + 1; rw [depDs_py ds]
  | .exo _ => rfl
theorem depDs_py : ∀ ds : List D, PyData.depthAll (D.pys ds) = depDs ds
  | [] => rfl
  | d :: ds => by
    show max d.py.depth (PyData.depthAll (D.pys ds)) = max (depD d) (depDs ds)
    rw [depD_py d, depDs_py ds]
end
mutual
theorem eqv_refl : ∀ d : D, okD d = true → PyData.eqv d.py d.py = true
  | .non, _ => rfl
  | .bl b, _ => by cases b <;> rfl
  | .int i, _ => by show (i == i) = true; simp
  | .str x, _ => by show (x == x) = true; simp
  | .tup ds, h => eqvs_refl ds h
  | .lst ds, h => eqvs_refl ds h
  | .exo _, h => by cases h
theorem eqvs_refl : ∀ ds : List D, okDs ds = true → PyData.eqvAll (D.pys ds) (D.pys ds) = true
  | [], _ => rfl
  | d :: ds, h => by
    have h' := Bool.and_eq_true_iff.mp (show (okD d && okDs ds) = true from h)
    show (PyData.eqv d.py d.py && PyData.eqvAll (D.pys ds) (D.pys ds)) = true
    rw [eqv_refl d h'.1, eqvs_refl ds h'.2]
    rfl
end
theorem shaped_of {d : D} (h : okD d = true) (h2 : depD d ≤ 64) : SeqAt.shaped d.py = true := by
  unfold SeqAt.shaped
  rw [okD_lay, depD_py, h, decide_eq_true h2]
  rfl
theorem oEq_def_l {xs ys : List D} : oEq (.lst xs) (.lst ys) = if SeqAt.shaped (D.lst xs).py = true ∧ SeqAt.shaped (D.lst ys).py = true then .ok (.bl (PyData.eqv (D.lst xs).py (D.lst ys).py)) else .stuck := rfl
theorem oEq_def_t {xs ys : List D} : oEq (.tup xs) (.tup ys) = if SeqAt.shaped (D.tup xs).py = true ∧ SeqAt.shaped (D.tup ys).py = true then .ok (.bl (PyData.eqv (D.tup xs).py (D.tup ys).py)) else .stuck := rfl
theorem oEq_lsame {xs : List D} (h : okDs xs = true) (h2 : depDs xs ≤ 63) : oEq (.lst xs) (.lst xs) = .ok (.bl true) := by
  have s : SeqAt.shaped (D.lst xs).py = true := shaped_of h (show depDs xs + 1 ≤ 64 by omega)
  rw [oEq_def_l, if_pos ⟨s, s⟩, eqv_refl (.lst xs) h]
theorem oEq_tsame {xs : List D} (h : okDs xs = true) (h2 : depDs xs ≤ 63) : oEq (.tup xs) (.tup xs) = .ok (.bl true) := by
  have s : SeqAt.shaped (D.tup xs).py = true := shaped_of h (show depDs xs + 1 ≤ 64 by omega)
  rw [oEq_def_t, if_pos ⟨s, s⟩, eqv_refl (.tup xs) h]
theorem oEq_nil {xs : List D} (h : okDs xs = true) (h2 : depDs xs ≤ 63) : oEq (.lst xs) (.lst []) = .ok (.bl xs.isEmpty) := by
  have s : SeqAt.shaped (D.lst xs).py = true := shaped_of h (show depDs xs + 1 ≤ 64 by omega)
  have s' : SeqAt.shaped (D.lst []).py = true := shaped_of rfl (by decide)
  rw [oEq_def_l, if_pos ⟨s, s'⟩]
  cases xs <;> rfl
theorem okDs_map {τ : Type} {f : τ → D} (h : ∀ x, okD (f x) = true) : ∀ xs : List τ, okDs (xs.map f) = true
  | [] => rfl
  | x :: xs => by
    show (okD (f x) && okDs (xs.map f)) = true
    rw [h x, okDs_map h xs]
    rfl
theorem depDs_map {τ : Type} {f : τ → D} {k : Nat} (h : ∀ x, depD (f x) ≤ k) : ∀ xs : List τ, depDs (xs.map f) ≤ k
  | [] => Nat.zero_le _
  | x :: xs => by
    show max (depD (f x)) (depDs (xs.map f)) ≤ k
    have := h x
    have := depDs_map h xs
    omega
/-- a list of whole numbers -/
theorem oEq_ints {ns : List Int} : oEq (.lst (ns.map D.int)) (.lst (ns.map D.int)) = .ok (.bl true) :=
  oEq_lsame (okDs_map (fun _ => rfl) ns) (Nat.le_trans (depDs_map (f := D.int) (k := 0) (fun x => (Nat.le_refl 0 : depD (D.int x) ≤ 0)) ns) (by decide))
theorem oEq_nats {ns : List Nat} : oEq (.lst (ns.map fun (n : Nat) => D.int (n : Int))) (.lst (ns.map fun (n : Nat) => D.int (n : Int))) = .ok (.bl true) :=
  oEq_lsame (okDs_map (fun _ => rfl) ns) (Nat.le_trans (depDs_map (f := fun (n : Nat) => D.int (n : Int)) (k := 0) (fun x => (Nat.le_refl 0 : depD (D.int (x : Int)) ≤ 0)) ns) (by decide))
/-- wakings -/
abbrev Wk3 := Int × Int × Int
def wkD (w : Wk3) : D := .tup [.int w.1, .int w.2.1, .int w.2.2]
theorem okD_wk (w : Wk3) : okD (wkD w) = true := rfl
theorem depD_wk (w : Wk3) : depD (wkD w) ≤ 1 := Nat.le_refl 1
theorem oEq_wks {ws : List Wk3} : oEq (.lst (ws.map wkD)) (.lst (ws.map wkD)) = .ok (.bl true) :=
  oEq_lsame (okDs_map okD_wk ws) (Nat.le_trans (depDs_map depD_wk ws) (by decide))
theorem oEq_wks_nil {ws : List Wk3} : oEq (.lst (ws.map wkD)) (.lst []) = .ok (.bl ws.isEmpty) := by
  rw [oEq_nil (okDs_map okD_wk ws) (Nat.le_trans (depDs_map depD_wk ws) (by decide))]
  cases ws <;> rfl
theorem oEq_wk {w : Wk3} : oEq (wkD w) (wkD w) = .ok (.bl true) := oEq_tsame rfl (Nat.zero_le 63)
end Mi

namespace Mi.Sh
open PySem PySem.Spec L2 Mi
-- divisor: 0:one 1:other
noncomputable def u_divisor_1 : Sv :=
  sPar 0 1 (eVar 1) (eBin oMod (eLook 0) (eLook 1))
noncomputable def b_divisor : Sv :=
  sSeq (sWhl (tst (eBin oGt (eLook 1) (eD (.int 0)))) (u_divisor_1)) (sRet (eVar 0))
noncomputable def m_divisor : List Sl → R Sl := hid (runB 2 b_divisor)
theorem m_divisor_eq : m_divisor = runB 2 b_divisor := hid_eq _
-- _law_cell_at: 0:script 1:k
noncomputable def b__law_cell_at : Sv :=
  sSeq (sIf (tst (eBin oLt (eLook 1) (eCall oLen (vCons (eLook 0) vNil)))) (sRet (eBin oIx (eLook 0) (eLook 1))) (sNx)) (sRet (eD (.int 0)))
noncomputable def m__law_cell_at : List Sl → R Sl := hid (runB 2 b__law_cell_at)
theorem m__law_cell_at_eq : m__law_cell_at = runB 2 b__law_cell_at := hid_eq _
-- least_round: 0:numbers 1:found 2:number
noncomputable def u_least_round_1 : Sv :=
  sSeq (sAsg (eBin oMul (eBin oDiv (eLook 1) (eApp m_divisor (aVal (eVar 1) (aVal (eVar 2) (aNil))))) (eLook 2)) (gSet 1)) (sKill 2 (sNx))
noncomputable def t_least_round_2 : Sv :=
  sSeq (sFor (iVar 0) (gSet 2) (u_least_round_1)) (sRet (eVar 1))
noncomputable def b_least_round : Sv :=
  sSeq (sAsg (eD (.int 1)) (gSet 1)) (t_least_round_2)
noncomputable def m_least_round : List Sl → R Sl := hid (runB 3 b_least_round)
theorem m_least_round_eq : m_least_round = runB 3 b_least_round := hid_eq _
-- _law_divisor: 0:one 1:other
noncomputable def u__law_divisor_1 : Sv :=
  sPar 0 1 (eVar 1) (eBin oMod (eLook 0) (eLook 1))
noncomputable def b__law_divisor : Sv :=
  sSeq (sWhl (tst (eBin oNe (eLook 1) (eD (.int 0)))) (u__law_divisor_1)) (sRet (eVar 0))
noncomputable def m__law_divisor : List Sl → R Sl := hid (runB 2 b__law_divisor)
theorem m__law_divisor_eq : m__law_divisor = runB 2 b__law_divisor := hid_eq _
-- least_part: 0:number 1:part
noncomputable def u_least_part_1 : Sv :=
  sSeq (sIf (tst (eBin oEq (eBin oMod (eLook 0) (eLook 1)) (eD (.int 0)))) (sRet (eVar 1)) (sNx)) (sAug 1 oAdd (eD (.int 1)))
noncomputable def t_least_part_2 : Sv :=
  sSeq (sWhl (tst (eBin oLe (eBin oMul (eLook 1) (eLook 1)) (eLook 0))) (u_least_part_1)) (sRet (eVar 0))
noncomputable def b_least_part : Sv :=
  sSeq (sAsg (eD (.int 2)) (gSet 1)) (t_least_part_2)
noncomputable def m_least_part : List Sl → R Sl := hid (runB 2 b_least_part)
theorem m_least_part_eq : m_least_part = runB 2 b_least_part := hid_eq _
-- gone_down: 0:step 1:whole 2:low 3:high 4:pile 5:count
noncomputable def t_gone_down_1 : Sv :=
  sSeq (sAsg (eTup (vCons (eBin oMod (eLook 1) (eLook 0)) (vCons (eVar 0) (vCons (eBin oMod (eBin oSub (eD (.int 0)) (eLook 3)) (eLook 0)) (vCons (eBin oMod (eBin oSub (eD (.int 0)) (eLook 2)) (eLook 0)) (vNil)))))) (gTupD 4 (gsCons (gSet 0) (gsCons (gSet 1) (gsCons (gSet 2) (gsCons (gSet 3) (gsNil))))))) (sKill 5 (sNx))
noncomputable def t_gone_down_2 : Sv :=
  sSeq (sApp 4 (eTup (vCons (eVar 0) (vCons (eVar 2) (vCons (eVar 1) (vNil)))))) (t_gone_down_1)
noncomputable def t_gone_down_3 : Sv :=
  sSeq (sIf (tst (eBin oLe (eBin oMul (eLook 0) (eLook 5)) (eLook 3))) (sFrz 4 (sRet (eTup (vCons (eVar 4) (vCons (eVar 5) (vNil)))))) (sNx)) (t_gone_down_2)
noncomputable def u_gone_down_4 : Sv :=
  sSeq (sAsg (eBin oSub (eD (.int 0)) (eBin oDiv (eBin oSub (eD (.int 0)) (eLook 2)) (eLook 0))) (gSet 5)) (t_gone_down_3)
noncomputable def t_gone_down_5 : Sv :=
  sSeq (sWhl (tst (eBin oGt (eLook 0) (eD (.int 0)))) (u_gone_down_4)) (sFrz 4 (sRet (eTup (vCons (eVar 4) (vCons (eD .non) (vNil))))))
noncomputable def b_gone_down : Sv :=
  sSeq (sSetF 4 (vNil)) (t_gone_down_5)
noncomputable def m_gone_down : List Sl → R Sl := hid (runB 6 b_gone_down)
theorem m_gone_down_eq : m_gone_down = runB 6 b_gone_down := hid_eq _
-- first_hit: 0:start 1:step 2:whole 3:many 4:rest 5:low 6:pile 7:count 8:by 9:begin 10:turns
noncomputable def u_first_hit_1 : Sv :=
  sSeq (sAsg (eBin oSub (eD (.int 0)) (eBin oDiv (eBin oSub (eBin oSub (eD (.int 0)) (eBin oMul (eLook 10) (eLook 7))) (eLook 9)) (eLook 8))) (gSet 7)) (sKill 9 (sKill 8 (sKill 10 (sNx))))
noncomputable def t_first_hit_2 : Sv :=
  sSeq (sFor (iRevD (lVar 6)) (gTupD 3 (gsCons (gSet 8) (gsCons (gSet 9) (gsCons (gSet 10) (gsNil))))) (u_first_hit_1)) (sRet (eVar 7))
noncomputable def t_first_hit_3 : Sv :=
  sSeq (sIf (tst (eBin oIs (eLook 7) (eD .non))) (sRet (eD .non)) (sNx)) (t_first_hit_2)
noncomputable def t_first_hit_4 : Sv :=
  sSeq (sAsg (eApp m_gone_down (aVal (eBin oMod (eLook 1) (eLook 2)) (aVal (eVar 2) (aVal (eVar 5) (aVal (eBin oSub (eBin oAdd (eLook 5) (eLook 3)) (eD (.int 1))) (aNil)))))) (gTupD 2 (gsCons (gSet 6) (gsCons (gSet 7) (gsNil))))) (t_first_hit_3)
noncomputable def t_first_hit_5 : Sv :=
  sSeq (sAsg (eBin oSub (eLook 2) (eLook 4)) (gSet 5)) (t_first_hit_4)
noncomputable def t_first_hit_6 : Sv :=
  sSeq (sIf (tst (eBin oLt (eLook 4) (eLook 3))) (sRet (eD (.int 0))) (sNx)) (t_first_hit_5)
noncomputable def b_first_hit : Sv :=
  sSeq (sAsg (eBin oMod (eLook 0) (eLook 2)) (gSet 4)) (t_first_hit_6)
noncomputable def m_first_hit : List Sl → R Sl := hid (runB 11 b_first_hit)
theorem m_first_hit_eq : m_first_hit = runB 11 b_first_hit := hid_eq _
-- _law_sums: 0:script 1:many 2:sums 3:k 4:at 5:number
noncomputable def t__law_sums_1 : Sv :=
  sSeq (sPut 2 (eLook 4) (eBin oAdd (eBin oMul (eBin oIx (eLook 2) (eLook 4)) (eD (.int 17))) (eBin oIx (eLook 0) (eLook 3)))) (sKill 4 (sKill 3 (sNx)))
noncomputable def u__law_sums_2 : Sv :=
  sSeq (sAsg (eBin oMod (eLook 3) (eLook 1)) (gSet 4)) (t__law_sums_1)
noncomputable def t__law_sums_3 : Sv :=
  sSeq (sFor (iRng2D (eD (.int 1)) (eCall oLen (vCons (eLook 0) vNil))) (gSet 3) (u__law_sums_2)) (sFrz 2 (sRetF (eLc (iVar 2) (gSet 5) (tYesE) (eBin oMod (eLook 5) (eBin oPow (eD (.int 10)) (eD (.int 40)))) [5])))
noncomputable def b__law_sums : Sv :=
  sSeq (sSetF 2 (eRep (vCons (eD (.int 0)) (vNil)) (eLook 1))) (t__law_sums_3)
noncomputable def m__law_sums : List Sl → R Sl := hid (runB 6 b__law_sums)
theorem m__law_sums_eq : m__law_sums = runB 6 b__law_sums := hid_eq _
-- _law_spaced: 0:script 1:sums 2:kind 3:by 4:whole 5:step 6:start 7:many
noncomputable def t__law_spaced_1 : Sv :=
  sSeq (sIf (tst (eBin oEq (eBin oMod (eBin oIx (eLook 1) (eD (.int 5))) (eD (.int 3))) (eD (.int 2)))) (sAsg (eBin oAdd (eD (.int 1)) (eBin oMod (eBin oMod (eBin oMul (eBin oIx (eLook 1) (eD (.int 4))) (eBin oPow (eD (.int 13)) (eD (.int 30)))) (eBin oPow (eD (.int 10)) (eD (.int 64)))) (eCall oMin (vCons (eLook 4) (vCons (eBin oMul (eD (.int 2)) (eLook 3)) vNil))))) (gSet 7)) (sNx)) (sRet (eTup (vCons (eVar 6) (vCons (eVar 5) (vCons (eVar 4) (vCons (eVar 7) (vNil)))))))
noncomputable def t__law_spaced_2 : Sv :=
  sSeq (sIf (tst (eBin oEq (eBin oMod (eBin oIx (eLook 1) (eD (.int 5))) (eD (.int 3))) (eD (.int 1)))) (sAsg (eBin oAdd (eD (.int 1)) (eBin oMod (eBin oIx (eLook 1) (eD (.int 4))) (eCall oMin (vCons (eLook 4) (vCons (eD (.int 5)) vNil))))) (gSet 7)) (sNx)) (t__law_spaced_1)
noncomputable def t__law_spaced_3 : Sv :=
  sSeq (sAsg (eBin oAdd (eD (.int 1)) (eBin oMod (eBin oMod (eBin oMul (eBin oIx (eLook 1) (eD (.int 4))) (eBin oPow (eD (.int 13)) (eD (.int 30)))) (eBin oPow (eD (.int 10)) (eD (.int 64)))) (eLook 4))) (gSet 7)) (t__law_spaced_2)
noncomputable def t__law_spaced_4 : Sv :=
  sSeq (sIf (tst (eBin oEq (eBin oMod (eBin oDiv (eLook 2) (eD (.int 108))) (eD (.int 2))) (eD (.int 1)))) (sAsg (eBin oSub (eD (.int 0)) (eLook 6)) (gSet 6)) (sNx)) (t__law_spaced_3)
noncomputable def t__law_spaced_5 : Sv :=
  sSeq (sIf (tst (eBin oEq (eBin oMod (eBin oDiv (eLook 2) (eD (.int 54))) (eD (.int 2))) (eD (.int 1)))) (sAsg (eBin oSub (eD (.int 0)) (eLook 5)) (gSet 5)) (sNx)) (t__law_spaced_4)
noncomputable def t__law_spaced_6 : Sv :=
  sSeq (sAsg (eBin oMod (eBin oMul (eBin oIx (eLook 1) (eD (.int 3))) (eBin oPow (eD (.int 7)) (eD (.int 50)))) (eBin oIx (eLst (vCons (eD (.int 100)) (vCons (eBin oPow (eD (.int 10)) (eD (.int 50))) (vNil)))) (eBin oMod (eBin oDiv (eLook 2) (eD (.int 27))) (eD (.int 2))))) (gSet 6)) (t__law_spaced_5)
noncomputable def t__law_spaced_7 : Sv :=
  sSeq (sAsg (eBin oMul (eLook 3) (eBin oMod (eBin oMul (eBin oIx (eLook 1) (eD (.int 2))) (eBin oPow (eD (.int 11)) (eD (.int 40)))) (eBin oIx (eLst (vCons (eD (.int 60)) (vCons (eBin oPow (eD (.int 10)) (eD (.int 7))) (vCons (eBin oPow (eD (.int 10)) (eD (.int 41))) (vNil))))) (eBin oMod (eBin oDiv (eLook 2) (eD (.int 9))) (eD (.int 3)))))) (gSet 5)) (t__law_spaced_6)
noncomputable def t__law_spaced_8 : Sv :=
  sSeq (sAsg (eBin oMul (eLook 3) (eBin oAdd (eD (.int 1)) (eBin oMod (eBin oMul (eBin oIx (eLook 1) (eD (.int 1))) (eBin oPow (eD (.int 7)) (eD (.int 60)))) (eBin oIx (eLst (vCons (eD (.int 30)) (vCons (eBin oPow (eD (.int 10)) (eD (.int 6))) (vCons (eBin oPow (eD (.int 10)) (eD (.int 40))) (vNil))))) (eBin oMod (eBin oDiv (eLook 2) (eD (.int 3))) (eD (.int 3))))))) (gSet 4)) (t__law_spaced_7)
noncomputable def t__law_spaced_9 : Sv :=
  sSeq (sAsg (eBin oIx (eLst (vCons (eD (.int 1)) (vCons (eBin oAdd (eD (.int 1)) (eBin oMod (eBin oIx (eLook 1) (eD (.int 0))) (eD (.int 12)))) (vCons (eBin oAdd (eD (.int 1)) (eBin oMod (eBin oMul (eBin oIx (eLook 1) (eD (.int 0))) (eBin oPow (eD (.int 7)) (eD (.int 40)))) (eBin oPow (eD (.int 10)) (eD (.int 20))))) (vNil))))) (eBin oMod (eLook 2) (eD (.int 3)))) (gSet 3)) (t__law_spaced_8)
noncomputable def t__law_spaced_10 : Sv :=
  sFrz 1 (sSeq (sAsg (eApp m__law_cell_at (aVal (eVar 0) (aVal (eD (.int 0)) (aNil)))) (gSet 2)) (t__law_spaced_9))
noncomputable def b__law_spaced : Sv :=
  sSeq (sSetF 1 (eAppF m__law_sums (aVal (eVar 0) (aVal (eD (.int 6)) (aNil))))) (t__law_spaced_10)
noncomputable def m__law_spaced : List Sl → R Sl := hid (runB 8 b__law_spaced)
theorem m__law_spaced_eq : m__law_spaced = runB 8 b__law_spaced := hid_eq _
-- awake: 0:plan 1:turn 2:period 3:first 4:length
noncomputable def u_awake_1 : Sv :=
  sSeq (sIf (tst (eBin oLt (eBin oMod (eBin oSub (eLook 1) (eLook 3)) (eLook 2)) (eLook 4))) (sRet (eD (.bl true))) (sNx)) (sKill 3 (sKill 4 (sKill 2 (sNx))))
noncomputable def b_awake : Sv :=
  sSeq (sFor (iVar 0) (gTupD 3 (gsCons (gSet 2) (gsCons (gSet 3) (gsCons (gSet 4) (gsNil))))) (u_awake_1)) (sRet (eD (.bl false)))
noncomputable def m_awake : List Sl → R Sl := hid (runB 5 b_awake)
theorem m_awake_eq : m_awake = runB 5 b_awake := hid_eq _
-- _law_drawn: 0:cell 1:k 2:number
noncomputable def t__law_drawn_1 : Sv :=
  sSeq (sAsg (eBin oAdd (eBin oMul (eLook 2) (eLook 2)) (eBin oMul (eD (.int 69621)) (eLook 2))) (gSet 2)) (sRet (eBin oDiv (eBin oMod (eBin oMul (eLook 2) (eLook 2)) (eBin oAdd (eBin oPow (eD (.int 10)) (eD (.int 61))) (eD (.int 7)))) (eD (.int 8))))
noncomputable def b__law_drawn : Sv :=
  sSeq (sAsg (eBin oAdd (eBin oAdd (eBin oMul (eBin oMod (eLook 0) (eBin oPow (eD (.int 10)) (eD (.int 40)))) (eD (.int 48271))) (eBin oMul (eBin oMul (eBin oPow (eD (.int 3)) (eD (.int 30))) (eBin oAdd (eLook 1) (eD (.int 1)))) (eBin oAdd (eLook 1) (eD (.int 1))))) (eLook 1)) (gSet 2)) (t__law_drawn_1)
noncomputable def m__law_drawn : List Sl → R Sl := hid (runB 3 b__law_drawn)
theorem m__law_drawn_eq : m__law_drawn = runB 3 b__law_drawn := hid_eq _
-- _law_waking: 0:cell 1:size 2:period 3:first 4:kind 5:length
noncomputable def t__law_waking_1 : Sv :=
  sSeq (sAsg (eBin oIx (eLst (vCons (eD (.int 1)) (vCons (eVar 2) (vCons (eBin oAdd (eD (.int 1)) (eBin oMod (eApp m__law_drawn (aVal (eVar 0) (aVal (eD (.int 2)) (aNil)))) (eLook 2))) (vCons (eBin oAdd (eD (.int 1)) (eBin oMod (eBin oDiv (eLook 4) (eD (.int 4))) (eCall oMin (vCons (eLook 2) (vCons (eD (.int 3)) vNil))))) (vNil)))))) (eBin oMod (eLook 4) (eD (.int 4)))) (gSet 5)) (sRet (eTup (vCons (eVar 2) (vCons (eVar 3) (vCons (eVar 5) (vNil))))))
noncomputable def t__law_waking_2 : Sv :=
  sSeq (sAsg (eApp m__law_drawn (aVal (eVar 0) (aVal (eD (.int 3)) (aNil)))) (gSet 4)) (t__law_waking_1)
noncomputable def t__law_waking_3 : Sv :=
  sSeq (sAsg (eBin oMod (eApp m__law_drawn (aVal (eVar 0) (aVal (eD (.int 1)) (aNil)))) (eLook 2)) (gSet 3)) (t__law_waking_2)
noncomputable def t__law_waking_4 : Sv :=
  sSeq (sAsg (eBin oAdd (eD (.int 1)) (eBin oMod (eBin oDiv (eLook 1) (eD (.int 4))) (eBin oIx (eLst (vCons (eD (.int 6)) (vCons (eD (.int 30)) (vCons (eBin oPow (eD (.int 10)) (eD (.int 6))) (vCons (eBin oPow (eD (.int 10)) (eD (.int 60))) (vNil)))))) (eBin oMod (eLook 1) (eD (.int 4)))))) (gSet 2)) (t__law_waking_3)
noncomputable def b__law_waking : Sv :=
  sSeq (sAsg (eApp m__law_drawn (aVal (eVar 0) (aVal (eD (.int 0)) (aNil)))) (gSet 1)) (t__law_waking_4)
noncomputable def m__law_waking : List Sl → R Sl := hid (runB 6 b__law_waking)
theorem m__law_waking_eq : m__law_waking = runB 6 b__law_waking := hid_eq _
-- _law_turn: 0:cell 1:plan 2:number 3:turn 4:period 5:first 6:length 7:rounds
noncomputable def t__law_turn_1 : Sv :=
  sSeq (sIf (tAndE (tst (eBin oNe (eLook 1) (eLst (vNil)))) (tst (eBin oGt (eBin oMod (eBin oDiv (eLook 2) (eD (.int 2))) (eD (.int 4))) (eD (.int 0))))) (sSeq (sAsg (eBin oIx (eLook 1) (eBin oMod (eApp m__law_drawn (aVal (eVar 0) (aVal (eD (.int 9)) (aNil)))) (eCall oLen (vCons (eLook 1) vNil)))) (gTupD 3 (gsCons (gSet 4) (gsCons (gSet 5) (gsCons (gSet 6) (gsNil)))))) (sSeq (sAsg (eBin oSub (eBin oMod (eApp m__law_drawn (aVal (eVar 0) (aVal (eD (.int 10)) (aNil)))) (eBin oMul (eD (.int 2)) (eBin oPow (eD (.int 10)) (eD (.int 30))))) (eBin oPow (eD (.int 10)) (eD (.int 30)))) (gSet 7)) (sAsg (eBin oAdd (eBin oAdd (eLook 5) (eBin oMul (eLook 4) (eLook 7))) (eBin oIx (eLst (vCons (eD (.int 0)) (vCons (eUn oNeg (eD (.int 1))) (vCons (eVar 6) (vCons (eBin oSub (eLook 6) (eD (.int 1))) (vNil)))))) (eBin oMod (eApp m__law_drawn (aVal (eVar 0) (aVal (eD (.int 11)) (aNil)))) (eD (.int 4))))) (gSet 3)))) (sNx)) (sKill 5 (sKill 6 (sKill 4 (sKill 7 (sRet (eVar 3))))))
noncomputable def t__law_turn_2 : Sv :=
  sSeq (sAsg (eBin oSub (eBin oMod (eBin oDiv (eLook 2) (eD (.int 8))) (eBin oIx (eLst (vCons (eD (.int 41)) (vCons (eBin oMul (eD (.int 2)) (eBin oPow (eD (.int 10)) (eD (.int 60)))) (vNil)))) (eBin oMod (eLook 2) (eD (.int 2))))) (eBin oIx (eLst (vCons (eD (.int 20)) (vCons (eBin oPow (eD (.int 10)) (eD (.int 60))) (vNil)))) (eBin oMod (eLook 2) (eD (.int 2))))) (gSet 3)) (t__law_turn_1)
noncomputable def b__law_turn : Sv :=
  sSeq (sAsg (eApp m__law_drawn (aVal (eVar 0) (aVal (eD (.int 8)) (aNil)))) (gSet 2)) (t__law_turn_2)
noncomputable def m__law_turn : List Sl → R Sl := hid (runB 8 b__law_turn)
theorem m__law_turn_eq : m__law_turn = runB 8 b__law_turn := hid_eq _
-- shifted: 0:plan 1:by 2:period 3:first 4:length
noncomputable def b_shifted : Sv :=
  sRetF (eLc (iVar 0) (gTupD 3 (gsCons (gSet 2) (gsCons (gSet 3) (gsCons (gSet 4) (gsNil))))) (tYesE) (eTup (vCons (eVar 2) (vCons (eBin oMod (eBin oAdd (eLook 3) (eLook 1)) (eLook 2)) (vCons (eVar 4) (vNil))))) [2, 3, 4])
noncomputable def m_shifted : List Sl → R Sl := hid (runB 5 b_shifted)
theorem m_shifted_eq : m_shifted = runB 5 b_shifted := hid_eq _
-- plan_round: 0:plan 1:period 2:first 3:length
noncomputable def b_plan_round : Sv :=
  sRet (eApp m_least_round (aVal (eLst (eLc (iVar 0) (gTupD 3 (gsCons (gSet 1) (gsCons (gSet 2) (gsCons (gSet 3) (gsNil))))) (tYesE) (eVar 1) [1, 2, 3])) (aNil)))
noncomputable def m_plan_round : List Sl → R Sl := hid (runB 4 b_plan_round)
theorem m_plan_round_eq : m_plan_round = runB 4 b_plan_round := hid_eq _
-- plan_of: 0:rows 1:plan 2:period 3:first 4:length
noncomputable def t_plan_of_1 : Sv :=
  sSeq (sApp 1 (eTup (vCons (eVar 2) (vCons (eVar 3) (vCons (eVar 4) (vNil)))))) (sKill 3 (sKill 4 (sKill 2 (sNx))))
noncomputable def u_plan_of_2 : Sv :=
  sSeq (sIf (tOrE (tst (eBin oLt (eLook 2) (eD (.int 1)))) (tOrE (tNotE (tst (eChain (fun i j => decide (i ≤ j)) (fun i j => decide (i < j)) (eD (.int 0)) (eLook 3) (eLook 2)))) (tNotE (tst (eChain (fun i j => decide (i ≤ j)) (fun i j => decide (i ≤ j)) (eD (.int 1)) (eLook 4) (eLook 2)))))) (sRaise "NoPlan") (sNx)) (t_plan_of_1)
noncomputable def t_plan_of_3 : Sv :=
  sSeq (sFor (iVar 0) (gTupD 3 (gsCons (gSet 2) (gsCons (gSet 3) (gsCons (gSet 4) (gsNil))))) (u_plan_of_2)) (sRetO 1)
noncomputable def b_plan_of : Sv :=
  sSeq (sSetF 1 (vNil)) (t_plan_of_3)
noncomputable def m_plan_of : List Sl → R Sl := hid (runB 5 b_plan_of)
theorem m_plan_of_eq : m_plan_of = runB 5 b_plan_of := hid_eq _
end Mi.Sh

namespace Mi.Sh
open PySem PySem.Spec L2 Mi
theorem divisor_loop : ∀ (n m : Nat), sWhl (tst (eBin oGt (eLook 1) (eD (.int 0)))) u_divisor_1 [some (.sh (.int (m : Int))), some (.sh (.int (n : Int)))] = .nx [some (.sh (.int (Nat.gcd m n : Nat))), some (.sh (.int 0))] := by
  intro n
  induction n using Nat.strongRecOn with
  | _ n ih =>
    intro m
    by_cases h : n = 0
    · subst h
      rw [sWhl_false (by simp)]
      simp
    · have hp : 0 < n := by omega
      rw [sWhl_next (ρ2 := [some (.sh (.int (n : Int))), some (.sh (.int ((m % n : Nat) : Int)))]) (by simp [hp]) (by simp [u_divisor_1, hp, h]), ih (m % n) (Nat.mod_lt _ (by omega)) n]
      have e : Nat.gcd n (m % n) = Nat.gcd m n := by rw [Nat.gcd_comm m n, Nat.gcd_rec n m, Nat.gcd_comm]
      rw [e]
theorem divisor_nat (m n : Nat) : m_divisor [.sh (.int (m : Int)), .sh (.int (n : Int))] = .ok (.sh (.int (Nat.gcd m n : Nat))) := by
  simp [m_divisor_eq, b_divisor, divisor_loop]
theorem divisor_ok {a b : Int} (ha : 0 ≤ a) (hb : 0 ≤ b) : m_divisor [.sh (.int a), .sh (.int b)] = .ok (.sh (.int (Int.gcd a b : Nat))) := by
  have h := divisor_nat a.toNat b.toNat
  rw [Int.toNat_of_nonneg ha, Int.toNat_of_nonneg hb] at h
  rw [h]
  have e1 : a.natAbs = a.toNat := by omega
  have e2 : b.natAbs = b.toNat := by omega
  rw [Int.gcd, e1, e2]
theorem cell_at_ok {ns : List Int} {k : Nat} (hl : ns.length ≤ 63) : m__law_cell_at [.sh (.lst (ns.map D.int)), .sh (.int (k : Int))] = .ok (.sh (.int (ns.getD k 0))) := by
  by_cases h : k < ns.length
  · have h2 : (k : Int) < (ns.length : Int) := by omega
    have h3 : atI (ns.map D.int) (k : Int) = some (.int ns[k]) := by
      rw [atI_nat (by omega) (by simpa using h2)]
      simp [h]
    simp [m__law_cell_at_eq, b__law_cell_at, h, h2, h3, List.getD]
  · have h2 : ¬ (k : Int) < (ns.length : Int) := by omega
    have h3 : ns[k]? = none := by simp; omega
    simp [m__law_cell_at_eq, b__law_cell_at, h, h2, h3, List.getD]
end Mi.Sh

namespace Mi.Sh
open PySem PySem.Spec L2 Mi
noncomputable abbrev sumsU (c : Int) : Sv := sSeq (sAsg (eBin oMod (eLook 3) (eLook 1)) (gSet 4)) (sSeq (sPut 2 (eLook 4) (eBin oAdd (eBin oMul (eBin oIx (eLook 2) (eLook 4)) (eD (.int c))) (eBin oIx (eLook 0) (eLook 3)))) (sKill 4 (sKill 3 (sNx))))
noncomputable abbrev sumsB (c : Int) : Sv := sSeq (sSetF 2 (eRep (vCons (eD (.int 0)) (vNil)) (eLook 1))) (sSeq (sFor (iRng2D (eD (.int 1)) (eCall oLen (vCons (eLook 0) vNil))) (gSet 3) (sumsU c)) (sFrz 2 (sRetF (eLc (iVar 2) (gSet 5) (tYesE) (eBin oMod (eLook 5) (eBin oPow (eD (.int 10)) (eD (.int 40)))) [5]))))
abbrev Script (ns : List Int) : Prop := ns.length ≤ 63 ∧ ∀ z ∈ ns, Builtin.Int.intBits z ≤ 1048576
theorem Script.bd {ns : List Int} (h : Script ns) {z : Int} (m : z ∈ ns) : Bd 1048576 z := .cell (h.2 z m)
theorem sums_turn {c : Int} {ns ss : List Int} {many k : Nat} {b i : Nat} [hc : Bd 5 c] (S : Script ns) (hs : ss.length = many) (hm : 0 < many) (hi : i + 1 < ns.length) (hb : ∀ s ∈ ss, Bd b s) (h1 : 1048576 ≤ b) (h2 : b ≤ 2000000) :
    ∃ ss' : List Int, ss'.length = many ∧ (∀ s ∈ ss', Bd (b + 6) s) ∧
      turnB (gSet 3) (sumsU c) (.int (1 + (i : Int))) [some (.sh (.lst (ns.map D.int))), some (.sh (.int (many : Int))), some (.ow (ss.map D.int)), none, none, none] = .nx [some (.sh (.lst (ns.map D.int))), some (.sh (.int (many : Int))), some (.ow (ss'.map D.int)), none, none, none] := by
  obtain ⟨j, hjd⟩ : ∃ j, j = (i + 1) % many := ⟨_, rfl⟩
  have hj : j < many := by rw [hjd]; exact Nat.mod_lt _ hm
  have e1 : (1 + (i : Int)) % (many : Int) = (j : Int) := by
    rw [hjd, show (1 + (i : Int)) = ((i + 1 : Nat) : Int) by omega]
    exact (Int.natCast_emod _ _).symm
  have hjs : j < ss.length := by omega
  have a1 : atI (ss.map D.int) (j : Int) = some (.int ss[j]) := by
    rw [atI_nat (by omega) (by rw [List.length_map]; omega), Int.toNat_natCast]
    simp [hjs]
  have a2 : atI (ns.map D.int) (1 + (i : Int)) = some (.int ns[i + 1]) := by
    rw [atI_nat (by omega) (by rw [List.length_map]; omega), show (1 + (i : Int)).toNat = i + 1 by omega]
    simp [hi]
  have b1 : Bd b ss[j] := hb _ (List.getElem_mem _)
  have b2 : Bd 1048576 ns[i + 1] := S.bd (List.getElem_mem _)
  have m1 : mulOk ss[j] c = true := @mulOk_i _ _ _ _ b1 hc (by rw [Nat.blt_eq]; omega)
  have x1 : ixN ss.length (j : Int) = some j := by rw [ixN_nat (by omega) (by omega), Int.toNat_natCast]
  refine ⟨ss.set j (ss[j] * c + ns[i + 1]), by rw [List.length_set, hs], fun s hs' => ?_, ?_⟩
  · rcases List.mem_or_eq_of_mem_set hs' with h | h
    · exact (hb s h).up (by omega)
    · rw [h]
      have q := @bd_add _ _ _ _ (@bd_mul _ _ _ _ b1 hc) b2
      exact q.up (by
        have : Nat.max (b + 5) 1048576 = b + 5 := Nat.max_eq_left (by omega)
        omega)
  · have hm' : ¬ many = 0 := by omega
    simp [turnB, hm, hm', e1, a1, a2, m1, x1]
theorem sums_ok {c : Int} {ns : List Int} {many : Nat} [hc : Bd 5 c] (S : Script ns) (hm : 0 < many) (hm2 : many ≤ 100) :
    ∃ ss : List Int, ss.length = many ∧ (∀ s ∈ ss, 0 ≤ s ∧ s < 10 ^ 40) ∧ runB 6 (sumsB c) [.sh (.lst (ns.map D.int)), .sh (.int (many : Int))] = .ok (.ow (ss.map D.int)) := by
  have hl := S.1
  have fin : ∃ ss : List Int, ss.length = many ∧ forR (gSet 3) (sumsU c) (rngD 1 ((ns.length : Int) - 1).toNat) [some (.sh (.lst (ns.map D.int))), some (.sh (.int (many : Int))), some (.ow ((List.replicate many (0 : Int)).map D.int)), none, none, none] = .nx [some (.sh (.lst (ns.map D.int))), some (.sh (.int (many : Int))), some (.ow (ss.map D.int)), none, none, none] := by
    obtain ⟨ρ', h1, ss, h2, h3, h4⟩ := forR_nat (gt := gSet 3) (u := sumsU c) (fun k ρ => ∃ ss : List Int, ss.length = many ∧ (∀ s ∈ ss, Bd (1048576 + 6 * k) s) ∧ ρ = [some (.sh (.lst (ns.map D.int))), some (.sh (.int (many : Int))), some (.ow (ss.map D.int)), none, none, none])
      (rngD 1 ((ns.length : Int) - 1).toNat) 0 _ ⟨List.replicate many 0, by simp, fun s hs => by
        rw [(List.mem_replicate.mp hs).2]
        exact Bd.zero _, rfl⟩ fun i d ρ hd ⟨ss, h2, h3, h4⟩ => by
      obtain ⟨hi, rfl⟩ := rngD_get hd
      subst h4
      rw [Nat.zero_add] at h3 ⊢
      obtain ⟨ss', g1, g2, g3⟩ := sums_turn (c := c) (ns := ns) (ss := ss) (k := 0) (many := many) (b := 1048576 + 6 * i) (i := i) S h2 hm (by omega) h3 (by omega) (by omega)
      exact ⟨_, g3, ss', g1, fun s hs => by rw [show 1048576 + 6 * (i + 1) = 1048576 + 6 * i + 6 by omega]; exact g2 s hs, rfl⟩
    exact ⟨ss, h2, by rw [h1, h4]⟩
  obtain ⟨ss, h2, h3⟩ := fin
  refine ⟨ss.map fun s => s % 10 ^ 40, by rw [List.length_map, h2], fun s hs => ?_, ?_⟩
  · obtain ⟨t, _, rfl⟩ := List.mem_map.mp hs
    omega
  · refine runB_rt ?_
    have e0 : oRep [.int 0] (.int (many : Int)) = .ok ((List.replicate many (0 : Int)).map D.int) := by
      rw [oRep_ok (by simp; omega) (by omega)]
      simp
    have e1 : sSetF 2 (eRep (vCons (eD (.int 0)) (vNil)) (eLook 1)) [some (.sh (.lst (ns.map D.int))), some (.sh (.int (many : Int))), none, none, none, none] = .nx [some (.sh (.lst (ns.map D.int))), some (.sh (.int (many : Int))), some (.ow ((List.replicate many (0 : Int)).map D.int)), none, none, none] := by
      simp [e0]
    have e3 : sFor (iRng2D (eD (.int 1)) (eCall oLen (vCons (eLook 0) vNil))) (gSet 3) (sumsU c) [some (.sh (.lst (ns.map D.int))), some (.sh (.int (many : Int))), some (.ow ((List.replicate many (0 : Int)).map D.int)), none, none, none] = .nx [some (.sh (.lst (ns.map D.int))), some (.sh (.int (many : Int))), some (.ow (ss.map D.int)), none, none, none] :=
      sFor_at (iRng2D_ok (i := 1) (j := (ns.length : Int)) rfl (by simp) (by omega) (by omega)) h3
    refine (sSeq_nx e1).trans ((sSeq_nx e3).trans ?_)
    have e4 := eLc_ok (fi := iVar 2) (gt := gSet 5) (p := tYesE) (f := eBin oMod (eLook 5) (eBin oPow (eD (.int 10)) (eD (.int 40)))) (vs := [5]) (ρ := [some (.sh (.lst (ns.map D.int))), some (.sh (.int (many : Int))), some (.sh (.lst (ss.map D.int))), none, none, none]) (items := ss.map D.int) (ds := ss.map fun s => .int (s % 10 ^ 40)) rfl (by rw [List.length_map]; omega)
      (lcR_map D.int (fun s => .int (s % 10 ^ 40)) ss fun x hx => by simp)
    simp [e4]
end Mi.Sh

namespace Mi.Sh
open PySem PySem.Spec L2 Mi
theorem ldivisor_loop : ∀ (n m : Nat), sWhl (tst (eBin oNe (eLook 1) (eD (.int 0)))) u__law_divisor_1 [some (.sh (.int (m : Int))), some (.sh (.int (n : Int)))] = .nx [some (.sh (.int (Nat.gcd m n : Nat))), some (.sh (.int 0))] := by
  intro n
  induction n using Nat.strongRecOn with
  | _ n ih =>
    intro m
    by_cases h : n = 0
    · subst h
      rw [sWhl_false (by simp)]
      simp
    · have hp : 0 < n := by omega
      rw [sWhl_next (ρ2 := [some (.sh (.int (n : Int))), some (.sh (.int ((m % n : Nat) : Int)))]) (by simp [h]) (by simp [u__law_divisor_1, hp, h]), ih (m % n) (Nat.mod_lt _ (by omega)) n]
      have e : Nat.gcd n (m % n) = Nat.gcd m n := by rw [Nat.gcd_comm m n, Nat.gcd_rec n m, Nat.gcd_comm]
      rw [e]
theorem ldivisor_nat (m n : Nat) : m__law_divisor [.sh (.int (m : Int)), .sh (.int (n : Int))] = .ok (.sh (.int (Nat.gcd m n : Nat))) := by
  simp [m__law_divisor_eq, b__law_divisor, ldivisor_loop]
/-! least rounds -/
def lcms (acc : Nat) (ns : List Nat) : Nat := ns.foldl Nat.lcm acc
theorem lcm_step {m n : Nat} : m / Nat.gcd m n * n = Nat.lcm m n := by
  rw [Nat.lcm, Nat.div_mul_right_comm (Nat.gcd_dvd_left m n)]
theorem lcm_step' {m n : Nat} : m * n / Nat.gcd m n = Nat.lcm m n := rfl
theorem lcm_bd {a b m n : Nat} (h : Bd a (m : Int)) (h' : Bd b (n : Int)) (hn : 0 < n) (hm : 0 < m) : Bd (a + b) ((Nat.lcm m n : Nat) : Int) := ⟨by
  have h1 := h.lt
  have h2 := h'.lt
  rw [Int.natAbs_natCast] at h1 h2 ⊢
  have h3 : Nat.lcm m n ≤ m * n := Nat.le_of_dvd (Nat.mul_pos hm hn) (Nat.lcm_dvd_mul m n)
  rw [Nat.pow_add]
  exact Nat.lt_of_le_of_lt h3 (Nat.mul_lt_mul'' h1 h2)⟩
theorem bd_of_le {b : Nat} {m n : Nat} (h : Bd b (n : Int)) (l : m ≤ n) : Bd b (m : Int) := ⟨by
  have := h.lt
  rw [Int.natAbs_natCast] at this ⊢
  omega⟩
theorem lround_loop {b : Nat} (hb : b < 9000) {u : Sv} {s0 : Option Sl} (hu : ∀ m n : Nat, 0 < m → 0 < n → Bd 1000000 (m : Int) → Bd b (n : Int) → turnB (gSet 2) u (.int (n : Int)) [s0, some (.sh (.int (m : Int))), none] = .nx [s0, some (.sh (.int (Nat.lcm m n : Nat))), none]) :
    ∀ (ns : List Nat) (k m : Nat), (∀ n ∈ ns, 0 < n ∧ Bd b (n : Int)) → 0 < m → Bd k (m : Int) → k + ns.length * b ≤ 1000000 → forR (gSet 2) u (ns.map fun (n : Nat) => D.int (n : Int)) [s0, some (.sh (.int (m : Int))), none] = .nx [s0, some (.sh (.int (lcms m ns : Nat))), none]
  | [], k, m, _, _, _, _ => rfl
  | n :: ns, k, m, h, hm, hk, hl => by
    obtain ⟨h1, h2⟩ := h n (List.mem_cons_self ..)
    rw [List.length_cons, Nat.succ_mul] at hl
    rw [List.map_cons, forR_nx (hu m n hm h1 (hk.up (by omega)) h2)]
    exact lround_loop hb hu ns (k + b) (Nat.lcm m n) (fun x hx => h x (List.mem_cons_of_mem _ hx)) (Nat.lcm_pos hm h1) (lcm_bd hk h2 h1 hm) (by omega)
theorem lround_ok {b : Nat} (hb : b < 9000) {ns : List Nat} (h : ∀ n ∈ ns, 0 < n ∧ Bd b (n : Int)) (hl : ns.length * b ≤ 999000) {s : Sl} (hs : s = .sh (.lst (ns.map fun (n : Nat) => D.int (n : Int))) ∨ s = .bo (ns.map fun (n : Nat) => D.int (n : Int))) :
    m_least_round [s] = .ok (.sh (.int (lcms 1 ns : Nat))) := by
  have key : ∀ s0 : Sl, forR (gSet 2) u_least_round_1 (ns.map fun (n : Nat) => D.int (n : Int)) [some s0, some (.sh (.int ((1 : Nat) : Int))), none] = .nx [some s0, some (.sh (.int (lcms 1 ns : Nat))), none] := fun s0 => by
    refine lround_loop hb (fun m n hm hn h1 h2 => ?_) ns 1 1 h (by decide) ⟨by decide⟩ (by omega)
    have hg : 0 < Nat.gcd m n := Nat.gcd_pos_of_pos_left _ hm
    have hg2 : Nat.gcd m n ≤ n := Nat.gcd_le_right _ hn
    have q1 : divOk ((Nat.gcd m n : Nat) : Int) = true := @divOk_i b _ (bd_of_le h2 hg2) (by rw [Nat.blt_eq]; omega)
    have q2 : mulOk ((m / Nat.gcd m n : Nat) : Int) (n : Int) = true := @mulOk_i 1000000 b _ _ (bd_of_le h1 (Nat.div_le_self _ _)) h2 (by rw [Nat.blt_eq]; omega)
    have e := divisor_nat m n
    have e2 : ((m / Nat.gcd m n : Nat) : Int) * (n : Int) = ((Nat.lcm m n : Nat) : Int) := by rw [← lcm_step, Int.natCast_mul]
    rw [Int.natCast_ediv] at q2 e2
    generalize Nat.gcd m n = g at *
    simp [turnB, u_least_round_1, e, hg, q1, q2, e2]
  rcases hs with rfl | rfl
  · have := sFor_at (f := iVar 0) rfl (key (.sh (.lst (ns.map fun (n : Nat) => D.int (n : Int)))))
    simp at this
    simp [m_least_round_eq, b_least_round, t_least_round_2, this]
  · have := sFor_at (f := iVar 0) rfl (key (.bo (ns.map fun (n : Nat) => D.int (n : Int))))
    simp at this
    simp [m_least_round_eq, b_least_round, t_least_round_2, this]
theorem lcms_dvd {ns : List Nat} : ∀ {acc n : Nat}, n ∈ ns → n ∣ lcms acc ns := by
  induction ns with
  | nil => intro acc n h; cases h
  | cons a ns ih =>
    intro acc n h
    rcases List.mem_cons.mp h with rfl | h
    · have : ∀ (ns : List Nat) (m : Nat), m ∣ lcms m ns := by
        intro ns
        induction ns with
        | nil => exact fun m => Nat.dvd_refl m
        | cons b ns ih => exact fun m => Nat.dvd_trans (Nat.dvd_lcm_left m b) (ih _)
      exact Nat.dvd_trans (Nat.dvd_lcm_right acc n) (this ns _)
    · exact ih h
theorem lcms_acc {ns : List Nat} : ∀ {acc : Nat}, acc ∣ lcms acc ns := by
  induction ns with
  | nil => exact fun {m} => Nat.dvd_refl m
  | cons b ns ih => exact fun {m} => Nat.dvd_trans (Nat.dvd_lcm_left m b) ih
theorem lcms_least {ns : List Nat} : ∀ {acc k : Nat}, acc ∣ k → (∀ n ∈ ns, n ∣ k) → lcms acc ns ∣ k := by
  induction ns with
  | nil => exact fun h _ => h
  | cons b ns ih => exact fun {acc k} h h' => ih (Nat.lcm_dvd h (h' b (List.mem_cons_self ..))) fun n hn => h' n (List.mem_cons_of_mem _ hn)
theorem lcms_pos {ns : List Nat} : ∀ {acc : Nat}, 0 < acc → (∀ n ∈ ns, 0 < n) → 0 < lcms acc ns := by
  induction ns with
  | nil => exact fun h _ => h
  | cons b ns ih => exact fun {acc} h h' => ih (Nat.lcm_pos h (h' b (List.mem_cons_self ..))) fun n hn => h' n (List.mem_cons_of_mem _ hn)
theorem lcms_same {ns ms : List Nat} (h : ∀ n, n ∈ ns ↔ n ∈ ms) : lcms 1 ns = lcms 1 ms :=
  Nat.dvd_antisymm (lcms_least (Nat.one_dvd _) fun n hn => lcms_dvd ((h n).mp hn)) (lcms_least (Nat.one_dvd _) fun n hn => lcms_dvd ((h n).mpr hn))
/-! least parts -/
def Least (n p : Int) : Prop := 2 ≤ p ∧ n % p = 0 ∧ ∀ q, 2 ≤ q → q < p → n % q ≠ 0
theorem lpart_loop {n : Int} {b : Nat} (hn : 2 ≤ n) (hb : Bd b n) (h9 : b < 60000000) : ∀ (k : Nat) (p : Int), (n - p).toNat ≤ k → 2 ≤ p → p ≤ n → (∀ q, 2 ≤ q → q < p → n % q ≠ 0) →
    ∃ r, Least n r ∧ ((sWhl (tst (eBin oLe (eBin oMul (eLook 1) (eLook 1)) (eLook 0))) u_least_part_1 [some (.sh (.int n)), some (.sh (.int p))]).thn (sRet (eVar 0))) = .rt (.sh (.int r)) := by
  intro k
  induction k with
  | zero =>
    intro p hk h2 hp hq
    have : p = n := by omega
    subst this
    have bp : mulOk p p = true := @mulOk_i b b p p hb hb (by rw [Nat.blt_eq]; omega)
    have h1 : ¬ p * p ≤ p := by
      have : 2 * p ≤ p * p := Int.mul_le_mul_of_nonneg_right h2 (by omega)
      omega
    refine ⟨p, ⟨h2, Int.emod_self, hq⟩, ?_⟩
    rw [sWhl_false (by simp [bp, h1])]
    simp
  | succ k ih =>
    intro p hk h2 hp hq
    have hbp : Bd b p := ⟨by have := hb.lt; omega⟩
    have bp : mulOk p p = true := @mulOk_i b b p p hbp hbp (by rw [Nat.blt_eq]; omega)
    have hp0 : 0 < p := by omega
    by_cases h1 : p * p ≤ n
    · by_cases h3 : n % p = 0
      · refine ⟨p, ⟨h2, h3, hq⟩, ?_⟩
        rw [sWhl_ret (s := .sh (.int p)) (by simp [bp, h1]) (by simp [u_least_part_1, h3, hp0])]
        rfl
      · have hlt : p < n := by
          rcases Int.lt_or_eq_of_le hp with h | h
          · exact h
          · rw [h, Int.emod_self] at h3
            exact absurd rfl h3
        obtain ⟨r, h4, h5⟩ := ih (p + 1) (by omega) (by omega) (by omega) fun q q1 q2 => by
          by_cases e : q = p
          · rw [e]; exact h3
          · exact hq q q1 (by omega)
        refine ⟨r, h4, ?_⟩
        rw [sWhl_next (ρ2 := [some (.sh (.int n)), some (.sh (.int (p + 1)))]) (by simp [bp, h1]) (by simp [u_least_part_1, h3, hp0])]
        exact h5
    · refine ⟨n, ⟨hn, Int.emod_self, fun q q1 q2 e => ?_⟩, ?_⟩
      · have hd : q ∣ n := Int.dvd_of_emod_eq_zero e
        obtain ⟨r, hr⟩ := hd
        have hr2 : 2 ≤ r := by
          rcases Int.lt_or_le r 2 with h | h
          · exfalso
            have h6 : r ≤ 1 := by omega
            have : q * r ≤ q * 1 := Int.mul_le_mul_of_nonneg_left h6 (by omega)
            omega
          · exact h
        have a1 : p ≤ q := by
          rcases Int.lt_or_le q p with h | h
          · exact absurd e (hq q q1 h)
          · exact h
        have a2 : p ≤ r := by
          rcases Int.lt_or_le r p with h | h
          · exact absurd (by rw [hr, Int.mul_emod_left]) (hq r hr2 h)
          · exact h
        have : p * p ≤ q * r := Int.mul_le_mul a1 a2 (by omega) (by omega)
        omega
      · rw [sWhl_false (by simp [bp, h1])]
        simp
theorem lpart_ok {n : Int} {b : Nat} (hn : 2 ≤ n) (hb : Bd b n) (h9 : b < 60000000) : ∃ r, Least n r ∧ m_least_part [.sh (.int n)] = .ok (.sh (.int r)) := by
  obtain ⟨r, h1, h2⟩ := lpart_loop hn hb h9 (n - 2).toNat 2 (by omega) (by omega) hn fun q q1 q2 => by omega
  refine ⟨r, h1, ?_⟩
  rw [m_least_part_eq]
  refine runB_rt ?_

  simp [b_least_part, t_least_part_2, h2]
theorem Least.le {n p q : Int} (h : Least n p) (h2 : 2 ≤ q) (hq : n % q = 0) : p ≤ q := by
  rcases Int.lt_or_le q p with z | z
  · exact absurd hq (h.2.2 q h2 z)
  · exact z
theorem Least.sq {n p : Int} (h : Least n p) (hn : 2 ≤ n) (ne : p ≠ n) : p * p ≤ n := by
  obtain ⟨r, hr⟩ := Int.dvd_of_emod_eq_zero h.2.1
  have hp := h.1
  have hr2 : 2 ≤ r := by
    rcases Int.lt_or_le r 2 with z | z
    · exfalso
      by_cases h1 : r = 1
      · rw [h1, Int.mul_one] at hr
        exact ne hr.symm
      · have : r ≤ 0 := by omega
        have : p * r ≤ p * 0 := Int.mul_le_mul_of_nonneg_left this (by omega)
        omega
    · exact z
  have a := h.le hr2 (by rw [hr, Int.mul_emod_left])
  have : p * p ≤ p * r := Int.mul_le_mul_of_nonneg_left a (by omega)
  omega
end Mi.Sh

namespace Mi.Sh
open PySem PySem.Spec L2 Mi
theorem drawn_ok {cell k : Int} (hk : 0 ≤ k ∧ k ≤ 100) : ∃ n : Int, 0 ≤ n ∧ n < 10 ^ 61 ∧ m__law_drawn [.sh (.int cell), .sh (.int k)] = .ok (.sh (.int n)) := by
  haveI : Bd 8 k := ⟨by omega⟩
  have m1 : mulOk (cell % 10000000000000000000000000000000000000000) 48271 = true := mulOk_i (by rfl)
  have m2 : mulOk 205891132094649 (k + 1) = true := mulOk_i (by rfl)
  have m3 : mulOk (205891132094649 * (k + 1)) (k + 1) = true := mulOk_i (by rfl)
  have m4 : mulOk (cell % 10000000000000000000000000000000000000000 * 48271 + 205891132094649 * (k + 1) * (k + 1) + k) (cell % 10000000000000000000000000000000000000000 * 48271 + 205891132094649 * (k + 1) * (k + 1) + k) = true := mulOk_i (by rfl)
  have m5 : mulOk 69621 (cell % 10000000000000000000000000000000000000000 * 48271 + 205891132094649 * (k + 1) * (k + 1) + k) = true := mulOk_i (by rfl)
  have m6 := @mulOk_i _ _ ((cell % 10000000000000000000000000000000000000000 * 48271 + 205891132094649 * (k + 1) * (k + 1) + k) * (cell % 10000000000000000000000000000000000000000 * 48271 + 205891132094649 * (k + 1) * (k + 1) + k) + 69621 * (cell % 10000000000000000000000000000000000000000 * 48271 + 205891132094649 * (k + 1) * (k + 1) + k)) ((cell % 10000000000000000000000000000000000000000 * 48271 + 205891132094649 * (k + 1) * (k + 1) + k) * (cell % 10000000000000000000000000000000000000000 * 48271 + 205891132094649 * (k + 1) * (k + 1) + k) + 69621 * (cell % 10000000000000000000000000000000000000000 * 48271 + 205891132094649 * (k + 1) * (k + 1) + k)) inferInstance inferInstance (by rfl)
  generalize hN : cell % 10000000000000000000000000000000000000000 * 48271 + 205891132094649 * (k + 1) * (k + 1) + k = N at *
  generalize hM : N * N + 69621 * N = M at *
  refine ⟨M * M % 10000000000000000000000000000000000000000000000000000000000007 / 8, by omega, by omega, ?_⟩
  simp [m__law_drawn_eq, b__law_drawn, t__law_drawn_1, runB, m1, m2, m3, hN, m4, m5, hM, m6]
structure GoodW (w : Wk3) : Prop where
  p1 : 1 ≤ w.1
  p2 : w.1 ≤ 10 ^ 60
  f1 : 0 ≤ w.2.1
  f2 : w.2.1 < w.1
  l1 : 1 ≤ w.2.2
  l2 : w.2.2 ≤ w.1
theorem waking_ok {cell : Int} : ∃ w : Wk3, GoodW w ∧ m__law_waking [.sh (.int cell)] = .ok (.sh (wkD w)) := by
  obtain ⟨n0, a0, b0, e0⟩ := drawn_ok (cell := cell) (k := 0) (by decide)
  obtain ⟨n1, a1, b1, e1⟩ := drawn_ok (cell := cell) (k := 1) (by decide)
  obtain ⟨n2, a2, b2, e2⟩ := drawn_ok (cell := cell) (k := 2) (by decide)
  obtain ⟨n3, a3, b3, e3⟩ := drawn_ok (cell := cell) (k := 3) (by decide)
  obtain ⟨p, p1, p2, hp⟩ : ∃ p : Int, 1 ≤ p ∧ p ≤ 10 ^ 60 ∧ ∀ ρ : En, ρ = [some (.sh (.int cell)), some (.sh (.int n0)), none, none, none, none] → t__law_waking_4 ρ = t__law_waking_3 [some (.sh (.int cell)), some (.sh (.int n0)), some (.sh (.int p)), none, none, none] := by
    have h : n0 % 4 = 0 ∨ n0 % 4 = 1 ∨ n0 % 4 = 2 ∨ n0 % 4 = 3 := by omega
    rcases h with h | h | h | h
    · exact ⟨1 + n0 / 4 % 6, by omega, by omega, fun ρ e => by subst e; simp [t__law_waking_4, h]⟩
    · exact ⟨1 + n0 / 4 % 30, by omega, by omega, fun ρ e => by subst e; simp [t__law_waking_4, h]⟩
    · exact ⟨1 + n0 / 4 % 10 ^ 6, by omega, by omega, fun ρ e => by subst e; simp [t__law_waking_4, h]⟩
    · exact ⟨1 + n0 / 4 % 10 ^ 60, by omega, by omega, fun ρ e => by subst e; simp [t__law_waking_4, h]⟩
  have hp0 : 0 < p := by omega
  have hm : 0 < min p 3 := by omega
  have f1 := Int.emod_nonneg n1 (show p ≠ 0 by omega)
  have f2 := Int.emod_lt_of_pos n1 hp0
  have g1 := Int.emod_nonneg n2 (show p ≠ 0 by omega)
  have g2 := Int.emod_lt_of_pos n2 hp0
  have k1 := Int.emod_nonneg (n3 / 4) (show min p 3 ≠ 0 by omega)
  have k2 := Int.emod_lt_of_pos (n3 / 4) hm
  obtain ⟨l, l1, l2, hl⟩ : ∃ l : Int, 1 ≤ l ∧ l ≤ p ∧ t__law_waking_1 [some (.sh (.int cell)), some (.sh (.int n0)), some (.sh (.int p)), some (.sh (.int (n1 % p))), some (.sh (.int n3)), none] = .rt (.sh (wkD (p, n1 % p, l))) := by
    have h : n3 % 4 = 0 ∨ n3 % 4 = 1 ∨ n3 % 4 = 2 ∨ n3 % 4 = 3 := by omega
    rcases h with h | h | h | h
    · exact ⟨1, by omega, by omega, by simp [t__law_waking_1, e2, hp0, hm, h, wkD]⟩
    · exact ⟨p, by omega, by omega, by simp [t__law_waking_1, e2, hp0, hm, h, wkD]⟩
    · exact ⟨1 + n2 % p, by omega, by omega, by simp [t__law_waking_1, e2, hp0, hm, h, wkD]⟩
    · exact ⟨1 + n3 / 4 % min p 3, by omega, by omega, by simp [t__law_waking_1, e2, hp0, hm, h, wkD]⟩
  refine ⟨(p, n1 % p, l), ⟨p1, p2, f1, f2, l1, l2⟩, ?_⟩
  rw [m__law_waking_eq]
  refine runB_rt ?_
  simp [b__law_waking, e0, hp, t__law_waking_3, t__law_waking_2, e1, e3, hp0, hl]
theorem any_find {α : Type} {q : α → Bool} : ∀ xs : List α, xs.any q = (xs.find? q).isSome
  | [] => rfl
  | x :: xs => by
    rw [List.any_cons, List.find?_cons, any_find xs]
    cases q x <;> rfl
/-- awake by a plan -/
def awk (ws : List Wk3) (t : Int) : Bool := ws.any fun w => decide ((t - w.2.1) % w.1 < w.2.2)
theorem awake_ok {ws : List Wk3} {t : Int} (h : ∀ w ∈ ws, 1 ≤ w.1) {s : Sl} (hs : s = .sh (.lst (ws.map wkD)) ∨ s = .bo (ws.map wkD)) : m_awake [s, .sh (.int t)] = .ok (.sh (.bl (awk ws t))) := by
  have key := forR_find (gt := gTupD 3 (gsCons (gSet 2) (gsCons (gSet 3) (gsCons (gSet 4) (gsNil))))) (u := u_awake_1) (ρ := [some s, some (.sh (.int t)), none, none, none]) wkD (fun w => decide ((t - w.2.1) % w.1 < w.2.2)) (fun _ => .sh (.bl true)) ws fun w hw => by
    have := h w hw
    have hp : 0 < w.1 := by omega
    by_cases hq : (t - w.2.1) % w.1 < w.2.2
    · simp [turnB, wkD, u_awake_1, hp, hq]
    · simp [turnB, wkD, u_awake_1, hp, hq]
  have e := sFor_at (f := iVar 0) (by rcases hs with rfl | rfl <;> rfl) key
  rw [m_awake_eq]
  refine runB_rt ?_
  simp [b_awake, e]
  unfold awk
  rw [any_find]
  cases List.find? (fun w => decide ((t - w.2.1) % w.1 < w.2.2)) ws <;> simp
theorem shifted_ok {ws : List Wk3} {by_ : Int} (h : ∀ w ∈ ws, 1 ≤ w.1) (hl : ws.length ≤ 1000000) {s : Sl} (hs : s = .sh (.lst (ws.map wkD)) ∨ s = .bo (ws.map wkD)) :
    m_shifted [s, .sh (.int by_)] = .ok (.ow ((ws.map fun w => (w.1, (w.2.1 + by_) % w.1, w.2.2)).map wkD)) := by
  have e := eLc_ok (fi := iVar 0) (gt := gTupD 3 (gsCons (gSet 2) (gsCons (gSet 3) (gsCons (gSet 4) (gsNil))))) (p := tYesE) (f := eTup (vCons (eVar 2) (vCons (eBin oMod (eBin oAdd (eLook 3) (eLook 1)) (eLook 2)) (vCons (eVar 4) (vNil))))) (vs := [2, 3, 4]) (ρ := [some s, some (.sh (.int by_)), none, none, none]) (items := ws.map wkD)
    (by rcases hs with rfl | rfl <;> rfl) (by rw [List.length_map]; exact hl) (lcR_map wkD (fun w => wkD (w.1, (w.2.1 + by_) % w.1, w.2.2)) ws fun w hw => by
      have := h w hw
      have hp : 0 < w.1 := by omega
      simp [wkD, hp])
  rw [m_shifted_eq]
  refine runB_rt ?_
  simp [b_shifted, e]
theorem plan_round_ok {ws : List Wk3} {b : Nat} (hb : b < 9000) (h : ∀ w ∈ ws, 1 ≤ w.1 ∧ Bd b w.1) (hl : ws.length * b ≤ 999000) (hl2 : ws.length ≤ 1000000) {s : Sl} (hs : s = .sh (.lst (ws.map wkD)) ∨ s = .bo (ws.map wkD)) :
    m_plan_round [s] = .ok (.sh (.int (lcms 1 (ws.map fun w => w.1.toNat) : Nat))) := by
  have e := eLc_ok (fi := iVar 0) (gt := gTupD 3 (gsCons (gSet 1) (gsCons (gSet 2) (gsCons (gSet 3) (gsNil))))) (p := tYesE) (f := eVar 1) (vs := [1, 2, 3]) (ρ := [some s, none, none, none]) (items := ws.map wkD)
    (by rcases hs with rfl | rfl <;> rfl) (by rw [List.length_map]; exact hl2) (lcR_map wkD (fun w => D.int w.1) ws fun w hw => by simp [wkD])
  have e2 : (ws.map fun w => D.int w.1) = (ws.map fun w => w.1.toNat).map fun (n : Nat) => D.int (n : Int) := by
    rw [List.map_map]
    refine List.map_congr_left fun w hw => ?_
    have := (h w hw).1
    show D.int w.1 = D.int (w.1.toNat : Int)
    rw [Int.toNat_of_nonneg (by omega)]
  rw [e2] at e
  have e3 := lround_ok (b := b) hb (ns := ws.map fun w => w.1.toNat) (fun n hn => by
    obtain ⟨w, hw, rfl⟩ := List.mem_map.mp hn
    obtain ⟨h1, h2⟩ := h w hw
    refine ⟨by omega, ?_⟩
    rw [Int.toNat_of_nonneg (by omega)]
    exact h2) (by rw [List.length_map]; exact hl) (.inl rfl)
  rw [m_plan_round_eq]
  refine runB_rt ?_
  simp only [List.map_map] at e e3 ⊢
  simp [b_plan_round, e, e3]
theorem GoodW.bp {w : Wk3} (h : GoodW w) : Bd 200 w.1 := ⟨by have := h.p1; have := h.p2; omega⟩
theorem GoodW.bf {w : Wk3} (h : GoodW w) : Bd 200 w.2.1 := ⟨by have := h.p1; have := h.p2; have := h.f1; have := h.f2; omega⟩
theorem GoodW.bl {w : Wk3} (h : GoodW w) : Bd 200 w.2.2 := ⟨by have := h.p1; have := h.p2; have := h.l1; have := h.l2; omega⟩
theorem atI_at {α β : Type} {f : α → β} {xs : List α} {i : Int} (h0 : 0 ≤ i) (h : i < xs.length) : ∃ x ∈ xs, atI (xs.map f) i = some (f x) := by
  have hi : i.toNat < xs.length := by omega
  refine ⟨xs[i.toNat], List.getElem_mem _, ?_⟩
  rw [atI_nat h0 (by rw [List.length_map]; exact h)]
  simp [hi]
theorem turn_ok {ws : List Wk3} {cell : Int} (h : ∀ w ∈ ws, GoodW w) (hl : ws.length ≤ 63) : ∃ t : Int, t.natAbs < 2 ^ 400 ∧ m__law_turn [.sh (.int cell), .sh (.lst (ws.map wkD))] = .ok (.sh (.int t)) := by
  obtain ⟨n8, a8, b8, e8⟩ := drawn_ok (cell := cell) (k := 8) (by decide)
  obtain ⟨n9, a9, b9, e9⟩ := drawn_ok (cell := cell) (k := 9) (by decide)
  obtain ⟨n10, a10, b10, e10⟩ := drawn_ok (cell := cell) (k := 10) (by decide)
  obtain ⟨n11, a11, b11, e11⟩ := drawn_ok (cell := cell) (k := 11) (by decide)
  rw [m__law_turn_eq]
  obtain ⟨t0, ht0, k0⟩ : ∃ t0 : Int, t0.natAbs < 2 ^ 300 ∧ t__law_turn_2 [some (.sh (.int cell)), some (.sh (.lst (ws.map wkD))), some (.sh (.int n8)), none, none, none, none, none] = t__law_turn_1 [some (.sh (.int cell)), some (.sh (.lst (ws.map wkD))), some (.sh (.int n8)), some (.sh (.int t0)), none, none, none, none] := by
    have q : n8 % 2 = 0 ∨ n8 % 2 = 1 := by omega
    rcases q with q | q
    · exact ⟨n8 / 8 % 41 - 20, by omega, by simp [t__law_turn_2, q]⟩
    · exact ⟨n8 / 8 % (2 * 10 ^ 60) - 10 ^ 60, by omega, by simp [t__law_turn_2, q]⟩
  have start : ∀ {t : Int}, t__law_turn_1 [some (.sh (.int cell)), some (.sh (.lst (ws.map wkD))), some (.sh (.int n8)), some (.sh (.int t0)), none, none, none, none] = .rt (.sh (.int t)) → runB 8 b__law_turn [.sh (.int cell), .sh (.lst (ws.map wkD))] = .ok (.sh (.int t)) := fun {t} e => by
    refine runB_rt ?_
    simp [b__law_turn, e8, k0, e]
  by_cases c1 : ws = []
  · subst c1
    refine ⟨t0, by omega, start ?_⟩
    have := oEq_wks_nil (ws := [])
    simp at this
    simp [t__law_turn_1, this]
  by_cases c2 : n8 / 2 % 4 > 0
  · have hpos : 0 < ws.length := List.length_pos_iff.mpr c1
    have hpos' : (0 : Int) < ws.length := by omega
    obtain ⟨w, hw, hat⟩ := atI_at (f := wkD) (xs := ws) (i := n9 % ws.length) (Int.emod_nonneg _ (by omega)) (Int.emod_lt_of_pos _ hpos')
    have g := h w hw
    haveI := g.bp
    haveI := g.bf
    haveI := g.bl
    have m1 : mulOk w.1 (n10 % 2000000000000000000000000000000 - 1000000000000000000000000000000) = true := mulOk_i (by rfl)
    have bigm : (w.1 * (n10 % 2000000000000000000000000000000 - 1000000000000000000000000000000)).natAbs < 2 ^ 320 := ((inferInstance : Bd _ (w.1 * (n10 % 2000000000000000000000000000000 - 1000000000000000000000000000000))).up (Nat.le_of_ble_eq_true (by rfl))).lt
    have := g.bf.lt
    have := g.bl.lt
    generalize hr : w.1 * (n10 % 2000000000000000000000000000000 - 1000000000000000000000000000000) = R at *
    have em := oEq_wks_nil (ws := ws)
    have em2 : ws.isEmpty = false := by cases ws; exact absurd rfl c1; rfl
    rw [em2] at em
    have q : n11 % 4 = 0 ∨ n11 % 4 = 1 ∨ n11 % 4 = 2 ∨ n11 % 4 = 3 := by omega
    rcases q with q | q | q | q
    · exact ⟨w.2.1 + R + 0, by omega, start (by simp [t__law_turn_1, em, c2, e9, e10, e11, hpos, c1, hat, wkD, m1, hr, q])⟩
    · exact ⟨w.2.1 + R + -1, by omega, start (by simp [t__law_turn_1, em, c2, e9, e10, e11, hpos, c1, hat, wkD, m1, hr, q])⟩
    · exact ⟨w.2.1 + R + w.2.2, by omega, start (by simp [t__law_turn_1, em, c2, e9, e10, e11, hpos, c1, hat, wkD, m1, hr, q])⟩
    · exact ⟨w.2.1 + R + (w.2.2 - 1), by omega, start (by simp [t__law_turn_1, em, c2, e9, e10, e11, hpos, c1, hat, wkD, m1, hr, q])⟩
  · refine ⟨t0, by omega, start ?_⟩
    have em := oEq_wks_nil (ws := ws)
    have em2 : ws.isEmpty = false := by cases ws; exact absurd rfl c1; rfl
    rw [em2] at em
    have c3 : ¬ (0 < n8 / 2 % 4) := c2
    simp [t__law_turn_1, em, c3]
end Mi.Sh
namespace Mi.Sh
open PySem PySem.Spec L2 Mi
theorem lcms_bd {b : Nat} : ∀ (ns : List Nat) (k acc : Nat), 0 < acc → Bd k (acc : Int) → (∀ n ∈ ns, 0 < n ∧ Bd b (n : Int)) → Bd (k + ns.length * b) ((lcms acc ns : Nat) : Int)
  | [], k, acc, _, h, _ => by
    rw [List.length_nil, Nat.zero_mul]
    exact h
  | n :: ns, k, acc, h0, h, hn => by
    obtain ⟨h1, h2⟩ := hn n (List.mem_cons_self ..)
    have := lcms_bd ns (k + b) (Nat.lcm acc n) (Nat.lcm_pos h0 h1) (lcm_bd h h2 h1 h0) fun m hm => hn m (List.mem_cons_of_mem _ hm)
    rw [List.length_cons, show k + (ns.length + 1) * b = k + b + ns.length * b by rw [Nat.succ_mul]; omega]
    exact this
theorem lcm_fold {τ : Type} {gt : Gt} {u : Sv} (enc : Nat → En) (val : τ → D) (per : τ → Nat) (xs : List τ) (hx : ∀ x ∈ xs, 0 < per x)
    (hu : ∀ m x, x ∈ xs → 0 < m → m ≤ lcms 1 (xs.map per) → turnB gt u (val x) (enc m) = .nx (enc (Nat.lcm m (per x)))) : forR gt u (xs.map val) (enc 1) = .nx (enc (lcms 1 (xs.map per))) := by
  have hT : 0 < lcms 1 (xs.map per) := lcms_pos (by decide) fun n hn => by
    obtain ⟨x, h, rfl⟩ := List.mem_map.mp hn
    exact hx x h
  obtain ⟨h1, _⟩ := forR_fold (gt := gt) (u := u) enc val (fun m x => Nat.lcm m (per x)) (fun m => 0 < m ∧ m ∣ lcms 1 (xs.map per)) xs 1 ⟨by decide, Nat.one_dvd _⟩ fun m x hm ⟨i1, i2⟩ =>
    ⟨hu m x hm i1 (Nat.le_of_dvd hT i2), Nat.lcm_pos i1 (hx x hm), Nat.lcm_dvd i2 (lcms_dvd (List.mem_map.mpr ⟨x, hm, rfl⟩))⟩
  rw [h1]
  have : ∀ (xs : List τ) (a : Nat), xs.foldl (fun m x => Nat.lcm m (per x)) a = lcms a (xs.map per) := fun xs a => by
    unfold lcms
    rw [List.foldl_map]
  rw [this]
theorem awk_more {ws : List Wk3} {t L : Int} (h : ∀ w ∈ ws, w.1 ∣ L) : awk ws (t + L) = awk ws t := by
  unfold awk
  have : ∀ w ∈ ws, decide ((t + L - w.2.1) % w.1 < w.2.2) = decide ((t - w.2.1) % w.1 < w.2.2) := fun w hw => by
    obtain ⟨k, rfl⟩ := h w hw
    rw [show t + w.1 * k - w.2.1 = (t - w.2.1) + w.1 * k by omega, Int.add_mul_emod_self_left]
  clear h
  induction ws with
  | nil => rfl
  | cons w ws ih =>
    rw [List.any_cons, List.any_cons, this w (List.mem_cons_self ..), ih fun v hv => this v (List.mem_cons_of_mem _ hv)]
end Mi.Sh

namespace Mi.Sh
open PySem PySem.Spec L2 Mi
def okW (w : Wk3) : Bool := decide (1 ≤ w.1) && (decide (0 ≤ w.2.1) && (decide (w.2.1 < w.1) && (decide (1 ≤ w.2.2) && decide (w.2.2 ≤ w.1))))
theorem plan_of_loop {s : Sl} : ∀ (ws acc : List Wk3), acc.length + ws.length ≤ 100000 → ∃ ρ, forR (gTupD 3 (gsCons (gSet 2) (gsCons (gSet 3) (gsCons (gSet 4) (gsNil))))) u_plan_of_2 (ws.map wkD) [some s, some (.ow (acc.map wkD)), none, none, none] =
    if ws.all okW = true then .nx [some s, some (.ow ((acc ++ ws).map wkD)), none, none, none] else .exc "NoPlan" ρ
  | [], acc, _ => ⟨[], by simp⟩
  | w :: ws, acc, hl => by
    rw [List.length_cons] at hl
    have hz : (acc.map wkD).length < szL := lt_szL (by rw [List.length_map]; omega)
    by_cases hw : okW w = true
    · obtain ⟨ρ, e⟩ := plan_of_loop (s := s) ws (acc ++ [w]) (by rw [List.length_append, List.length_singleton]; omega)
      refine ⟨ρ, ?_⟩
      have hh := hw
      simp only [okW, Bool.and_eq_true, decide_eq_true_eq] at hh
      obtain ⟨h1, h2, h3, h4, h5⟩ := hh
      have h1' : ¬ w.1 < 1 := by omega
      have hz2 : acc.length < szL := by rw [List.length_map] at hz; exact hz
      rw [List.map_cons, forR_nx (ρ' := [some s, some (.ow ((acc ++ [w]).map wkD)), none, none, none]), e]
      · rw [List.all_cons, hw, Bool.true_and, List.append_assoc]
        rfl
      · simp [turnB, wkD, u_plan_of_2, t_plan_of_1, h1', h2, h3, h4, h5, hz2]
    · refine ⟨[some s, some (.ow (acc.map wkD)), some (.sh (.int w.1)), some (.sh (.int w.2.1)), some (.sh (.int w.2.2))], ?_⟩
      have hz2 : acc.length < szL := by rw [List.length_map] at hz; exact hz
      have hw' : okW w = false := by cases h : okW w with | true => exact absurd h hw | false => rfl
      rw [List.map_cons, List.all_cons, hw', Bool.false_and, if_neg Bool.false_ne_true]
      refine forR_exc ?_
      by_cases h1 : w.1 < 1
      · simp [turnB, wkD, u_plan_of_2, h1]
      by_cases h2 : 0 ≤ w.2.1
      · by_cases h3 : w.2.1 < w.1
        · by_cases h4 : 1 ≤ w.2.2
          · have h5 : ¬ w.2.2 ≤ w.1 := fun h5 => hw (by
              simp only [okW, Bool.and_eq_true, decide_eq_true_eq]
              exact ⟨by omega, h2, h3, h4, h5⟩)
            simp [turnB, wkD, u_plan_of_2, h1, h2, h3, h4, h5]
          · simp [turnB, wkD, u_plan_of_2, h1, h2, h3, h4]
        · simp [turnB, wkD, u_plan_of_2, h1, h2, h3]
      · simp [turnB, wkD, u_plan_of_2, h1, h2]
theorem plan_of_ok {ws : List Wk3} (hl : ws.length ≤ 100000) (h : ws.all okW = true) {s : Sl} (hs : s = .sh (.lst (ws.map wkD)) ∨ s = .bo (ws.map wkD)) : m_plan_of [s] = .ok (.ow (ws.map wkD)) := by
  obtain ⟨ρ, e⟩ := plan_of_loop (s := s) ws [] (by simpa using hl)
  rw [if_pos h] at e
  have e2 := sFor_at (f := iVar 0) (by rcases hs with rfl | rfl <;> rfl) e
  rw [m_plan_of_eq]
  refine runB_rt ?_
  simp at e2
  simp [b_plan_of, t_plan_of_3, e2]
theorem runB_exc {n : Nat} {u : Sv} {args : List Sl} {x : Str} {ρ : En} (h : u (args.map some ++ List.replicate (n - args.length) none) = .exc x ρ) : runB n u args = .exc x := by unfold runB; rw [h]; rfl
theorem plan_of_no {ws : List Wk3} (hl : ws.length ≤ 100000) (h : ws.all okW = false) {s : Sl} (hs : s = .sh (.lst (ws.map wkD)) ∨ s = .bo (ws.map wkD)) : m_plan_of [s] = .exc "NoPlan" := by
  obtain ⟨ρ, e⟩ := plan_of_loop (s := s) ws [] (by simpa using hl)
  rw [if_neg (by rw [h]; exact Bool.false_ne_true)] at e
  have e2 := sFor_at (f := iVar 0) (by rcases hs with rfl | rfl <;> rfl) e
  rw [m_plan_of_eq]
  refine runB_exc (ρ := ρ) ?_
  simp at e2
  simp [b_plan_of, t_plan_of_3, e2]
theorem GoodW.ok {w : Wk3} (h : GoodW w) : okW w = true := by
  simp only [okW, Bool.and_eq_true, decide_eq_true_eq]
  exact ⟨h.p1, h.f1, h.f2, h.l1, h.l2⟩
theorem all_ok {ws : List Wk3} (h : ∀ w ∈ ws, GoodW w) : ws.all okW = true := List.all_eq_true.mpr fun w hw => (h w hw).ok
theorem zipD_map {τ : Type} {f g : τ → D} : ∀ xs : List τ, zipD (xs.map f) (xs.map g) = xs.map fun x => .tup [f x, g x]
  | [] => rfl
  | x :: xs => by
    rw [List.map_cons, List.map_cons, List.map_cons, zipD, zipD_map xs]
end Mi.Sh

namespace Mi.Sh
open PySem PySem.Spec L2 Mi
/-! ## the first hit -/
theorem emod_of {a s q r : Int} (h0 : 0 ≤ r) (h1 : r < s) (h : a = s * q + r) : a % s = r := by
  rw [h, Int.add_comm, Int.add_mul_emod_self_left, Int.emod_eq_of_lt h0 h1]
theorem cl_ge {s x : Int} (hs : 0 < s) : -x ≤ s * -(x / s) := by
  have h1 := Int.emod_add_mul_ediv x s
  have h2 := Int.emod_nonneg x (show s ≠ 0 by omega)
  rw [Int.mul_neg]
  omega
theorem cl_lt {s x : Int} (hs : 0 < s) : s * -(x / s) < -x + s := by
  have h1 := Int.emod_add_mul_ediv x s
  have h2 := Int.emod_lt_of_pos x hs
  rw [Int.mul_neg]
  omega
theorem cl_le {s x m : Int} (hs : 0 < s) (h : -x ≤ s * m) : -(x / s) ≤ m := by
  have h1 := cl_lt (x := x) hs
  have h2 : s * -(x / s) < s * (m + 1) := by
    rw [Int.mul_add, Int.mul_one]
    omega
  have := Int.lt_of_mul_lt_mul_left h2 (by omega)
  omega
def Hit (s w l h c : Int) : Prop := l ≤ (s * c) % w ∧ (s * c) % w ≤ h
def LeastHit (s w l h : Int) : Option Int → Prop
  | some c => 0 ≤ c ∧ Hit s w l h c ∧ ∀ c', 0 ≤ c' → c' < c → ¬ Hit s w l h c'
  | none => ∀ c, 0 ≤ c → ¬ Hit s w l h c
structure Rg (s w l h : Int) : Prop where
  s0 : 0 ≤ s
  sw : s < w
  l1 : 1 ≤ l
  lh : l ≤ h
  hw : h < w
theorem hit_stop {s w l h : Int} (g : Rg s w l h) (hs : 0 < s) (hc : s * -(-l / s) ≤ h) : LeastHit s w l h (some (-(-l / s))) := by
  have h1 := cl_ge (x := -l) hs
  rw [Int.neg_neg] at h1
  have c0 : 0 ≤ -(-l / s) := by
    rcases Int.lt_or_le (-(-l / s)) 0 with z | z
    · have : s * -(-l / s) ≤ s * 0 := Int.mul_le_mul_of_nonneg_left (by omega) (by omega)
      have := g.l1
      omega
    · exact z
  have hw := g.hw
  have l1 := g.l1
  refine ⟨c0, ?_, fun c' p1 p2 q => ?_⟩
  · unfold Hit
    rw [Int.emod_eq_of_lt (by omega) (by omega)]
    exact ⟨h1, hc⟩
  · have h2 : ¬ l ≤ s * c' := fun z => by
      have := cl_le (x := -l) hs (by rw [Int.neg_neg]; exact z)
      omega
    have h3 : 0 ≤ s * c' := Int.mul_nonneg (by omega) p1
    have hw := g.lh
    unfold Hit at q
    rw [Int.emod_eq_of_lt h3 (by omega)] at q
    omega
theorem hit_zero {w l h : Int} (g : Rg 0 w l h) : LeastHit 0 w l h none := fun c h0 q => by
  unfold Hit at q
  rw [Int.zero_mul, Int.zero_emod] at q
  have := g.l1
  omega
/-- the step down: no multiple of s from l to h -/
theorem down_rg {s w l h : Int} (g : Rg s w l h) (hs : 0 < s) (hc : h < s * -(-l / s)) : (-h) % s = s * -(-l / s) - h ∧ (-l) % s = s * -(-l / s) - l ∧ Rg (w % s) s ((-h) % s) ((-l) % s) := by
  have h1 := cl_ge (x := -l) hs
  have h2 := cl_lt (x := -l) hs
  rw [Int.neg_neg] at h1 h2
  have lh := g.lh
  have e1 : (-h) % s = s * -(-l / s) - h := emod_of (q := -l / s) (by omega) (by omega) (by rw [Int.mul_neg]; omega)
  have e2 : (-l) % s = s * -(-l / s) - l := emod_of (q := -l / s) (by omega) (by omega) (by rw [Int.mul_neg]; omega)
  refine ⟨e1, e2, ⟨Int.emod_nonneg _ (by omega), Int.emod_lt_of_pos _ hs, ?_, ?_, ?_⟩⟩
  · rw [e1]; omega
  · rw [e1, e2]; omega
  · rw [e2]; omega
def up (s l w q : Int) : Int := -((-(w * q) - l) / s)
theorem hit_up {s w l h q : Int} (g : Rg s w l h) (hs : 0 < s) (hc : h < s * -(-l / s)) (hq : Hit (w % s) s ((-h) % s) ((-l) % s) q) : Hit s w l h (up s l w q) := by
  obtain ⟨e1, e2, _⟩ := down_rg g hs hc
  have em : (w % s * q) % s = (w * q) % s := by rw [Int.mul_emod, Int.emod_emod_of_dvd _ (Int.dvd_refl s), ← Int.mul_emod]
  unfold Hit at hq
  rw [em, e1, e2] at hq
  have h1 := cl_ge (x := -(w * q) - l) hs
  have hd := Int.emod_add_mul_ediv (w * q) s
  have h3 : s * ((w * q) / s + -(-l / s)) = s * ((w * q) / s) + s * -(-l / s) := Int.mul_add ..
  have h2 : up s l w q ≤ (w * q) / s + -(-l / s) := cl_le hs (by rw [h3]; omega)
  have h4 : s * up s l w q ≤ s * ((w * q) / s + -(-l / s)) := Int.mul_le_mul_of_nonneg_left h2 (by omega)
  have h5 : -(-(w * q) - l) ≤ s * up s l w q := h1
  have l1 := g.l1
  have hw := g.hw
  have e : (s * up s l w q) % w = s * up s l w q - w * q := emod_of (q := q) (by omega) (by omega) (by omega)
  unfold Hit
  rw [e]
  omega
theorem hit_back {s w l h c : Int} (g : Rg s w l h) (hs : 0 < s) (hc : h < s * -(-l / s)) (h0 : 0 ≤ c) (hq : Hit s w l h c) : 0 ≤ (s * c) / w ∧ Hit (w % s) s ((-h) % s) ((-l) % s) ((s * c) / w) ∧ up s l w ((s * c) / w) ≤ c := by
  obtain ⟨e1, e2, _⟩ := down_rg g hs hc
  have sw := g.sw
  have hd := Int.emod_add_mul_ediv (s * c) w
  have hq2 := hq
  unfold Hit at hq2
  have h1 := cl_ge (x := -l) hs
  have h2 := cl_lt (x := -l) hs
  rw [Int.neg_neg] at h1 h2
  have em : (w % s * ((s * c) / w)) % s = (w * ((s * c) / w)) % s := by rw [Int.mul_emod, Int.emod_emod_of_dvd _ (Int.dvd_refl s), ← Int.mul_emod]
  have e3 : (w * ((s * c) / w)) % s = s * -(-l / s) - (s * c) % w := emod_of (q := c + -l / s) (by omega) (by omega) (by rw [Int.mul_add, Int.mul_neg]; omega)
  refine ⟨Int.ediv_nonneg (Int.mul_nonneg (by omega) h0) (by omega), ?_, ?_⟩
  · unfold Hit
    rw [em, e3, e1, e2]
    omega
  · exact cl_le hs (by omega)
theorem up_mono {s w l q q' : Int} (hs : 0 < s) (hw : 0 ≤ w) (h : q ≤ q') : up s l w q ≤ up s l w q' := by
  have h1 := cl_ge (x := -(w * q') - l) hs
  have h2 : w * q ≤ w * q' := Int.mul_le_mul_of_nonneg_left h hw
  exact cl_le hs (by unfold up; omega)
theorem up_nonneg {s w l q : Int} (hs : 0 < s) (hw : 0 ≤ w) (hl : 1 ≤ l) (hq : 0 ≤ q) : 0 ≤ up s l w q := by
  have h1 := cl_ge (x := -(w * q) - l) hs
  have h2 : 0 ≤ w * q := Int.mul_nonneg hw hq
  rcases Int.lt_or_le (up s l w q) 0 with z | z
  · have : s * up s l w q ≤ s * 0 := Int.mul_le_mul_of_nonneg_left (by omega) (by omega)
    unfold up at this
    omega
  · exact z
theorem least_up {s w l h : Int} (g : Rg s w l h) (hs : 0 < s) (hc : h < s * -(-l / s)) {o : Option Int} (ho : LeastHit (w % s) s ((-h) % s) ((-l) % s) o) : LeastHit s w l h (o.map (up s l w)) := by
  have sw := g.sw
  cases o with
  | none =>
    intro c h0 q
    obtain ⟨a, b, _⟩ := hit_back g hs hc h0 q
    exact ho _ a b
  | some q =>
    obtain ⟨q0, q1, q2⟩ := ho
    refine ⟨up_nonneg hs (by omega) g.l1 q0, hit_up g hs hc q1, fun c' p1 p2 z => ?_⟩
    obtain ⟨a, b, d⟩ := hit_back g hs hc p1 z
    have : q ≤ (s * c') / w := by
      rcases Int.lt_or_le ((s * c') / w) q with y | y
      · exact absurd b (q2 _ a y)
      · exact y
    have := up_mono (s := s) (l := l) hs (show 0 ≤ w by omega) this
    omega
theorem least_lt {s w l h c : Int} (g : Rg s w l h) (hl : LeastHit s w l h (some c)) : 0 ≤ c ∧ c < w := by
  obtain ⟨c0, c1, c2⟩ := hl
  have hw : 0 < w := by have := g.s0; have := g.sw; omega
  refine ⟨c0, ?_⟩
  rcases Int.lt_or_le c w with z | z
  · exact z
  · exfalso
    have e : (s * (c % w)) % w = (s * c) % w := by rw [Int.mul_emod, Int.emod_emod_of_dvd _ (Int.dvd_refl w), ← Int.mul_emod]
    have lt := Int.emod_lt_of_pos c hw
    exact c2 (c % w) (Int.emod_nonneg _ (by omega)) (by omega) (by unfold Hit; rw [e]; exact c1)
/-- the way down and the count at its end -/
inductive Chain : Int → Int → Int → Int → List (Int × Int × Int) → Option Int → Prop where
  | zero {w l h : Int} : Chain 0 w l h [] none
  | stop {s w l h : Int} (hs : 0 < s) (hc : s * -(-l / s) ≤ h) : Chain s w l h [] (some (-(-l / s)))
  | go {s w l h : Int} {ps : List (Int × Int × Int)} {o : Option Int} (hs : 0 < s) (hc : h < s * -(-l / s)) (t : Chain (w % s) s ((-h) % s) ((-l) % s) ps o) : Chain s w l h ((s, l, w) :: ps) o
def unw (ps : List (Int × Int × Int)) (c : Int) : Int := ps.foldr (fun p q => up p.1 p.2.1 p.2.2 q) c
theorem chain_least {s w l h : Int} {ps : List (Int × Int × Int)} {o : Option Int} (t : Chain s w l h ps o) : Rg s w l h → LeastHit s w l h (o.map (unw ps)) := by
  induction t with
  | zero => exact hit_zero
  | stop hs hc => exact fun g => hit_stop g hs hc
  | @go s w l h ps o hs hc t ih =>
    intro g
    have := least_up g hs hc (ih (down_rg g hs hc).2.2)
    cases o with
    | none => exact this
    | some c => exact this
def pD (p : Int × Int × Int) : D := .tup [.int p.1, .int p.2.1, .int p.2.2]
def optD : Option Int → D
  | none => .non
  | some c => .int c
theorem down_loop {b : Nat} (hb : b < 8000) : ∀ (n : Nat) (s w l h : Int) (acc : List (Int × Int × Int)), Rg s w l h → s * w < 2 ^ n → Bd b w → acc.length + n ≤ 900000 →
    ∃ ps o, Chain s w l h ps o ∧ ((sWhl (tst (eBin oGt (eLook 0) (eD (.int 0)))) u_gone_down_4 [some (.sh (.int s)), some (.sh (.int w)), some (.sh (.int l)), some (.sh (.int h)), some (.ow (acc.map pD)), none]).thn (sFrz 4 (sRet (eTup (vCons (eVar 4) (vCons (eD .non) (vNil))))))) = .rt (.sh (.tup [.lst ((acc ++ ps).map pD), optD o])) := by
  intro n
  induction n with
  | zero =>
    intro s w l h acc g hn hw hl
    have s0 : s = 0 := by
      rcases Int.lt_or_le 0 s with z | z
      · have : 1 * 1 ≤ s * w := Int.mul_le_mul (by omega) (by have := g.sw; omega) (by omega) (by omega)
        omega
      · have := g.s0; omega
    subst s0
    refine ⟨[], none, .zero, ?_⟩
    rw [sWhl_false (by simp)]
    simp [optD]
  | succ n ih =>
    intro s w l h acc g hn hw hl
    rcases Int.lt_or_le 0 s with hs | z
    · have hws := g.sw
      have bs : Bd b s := ⟨by have := hw.lt; omega⟩
      have bl : Bd b l := ⟨by have := hw.lt; have := g.l1; have := g.lh; have := g.hw; omega⟩
      have ds : divOk s = true := @divOk_i b s bs (by rw [Nat.blt_eq]; omega)
      have c1 := cl_ge (x := -l) hs
      have c2 := cl_lt (x := -l) hs
      rw [Int.neg_neg] at c1 c2
      have bc : Bd b (-(-l / s)) := @bd_neg b _ (@bd_div b _ _ (@bd_neg b l bl))
      have ms : mulOk s (-(-l / s)) = true := @mulOk_i b b _ _ bs bc (by rw [Nat.blt_eq]; omega)
      by_cases hc : s * -(-l / s) ≤ h
      · refine ⟨[], some (-(-l / s)), .stop hs hc, ?_⟩
        rw [sWhl_ret (s := .sh (.tup [.lst (acc.map pD), .int (-(-l / s))])) (by simp [hs]) (by simp [u_gone_down_4, t_gone_down_3, hs, ds, ms, hc])]
        simp [optD]
      · have hc' : h < s * -(-l / s) := by omega
        obtain ⟨e1, e2, g2⟩ := down_rg g hs hc'
        have hlt : w % s * s < 2 ^ n := by
          have m1 := Int.emod_lt_of_pos w hs
          have m2 := Int.emod_nonneg w (show s ≠ 0 by omega)
          have m3 : w % s + s ≤ w := by
            have d := Int.emod_add_mul_ediv w s
            have : 1 ≤ w / s := Int.le_ediv_of_mul_le hs (by omega)
            have : s * 1 ≤ s * (w / s) := Int.mul_le_mul_of_nonneg_left this (by omega)
            omega
          have m4 : (2 * (w % s)) * s ≤ w * s := Int.mul_le_mul_of_nonneg_right (by omega) (by omega)
          have m5 : 2 * (w % s) * s = 2 * (w % s * s) := Int.mul_assoc ..
          rw [Int.mul_comm s w] at hn
          have : (2 : Int) ^ (n + 1) = 2 * 2 ^ n := by rw [Int.pow_succ, Int.mul_comm]
          omega
        obtain ⟨ps, o, t, e⟩ := ih (w % s) s ((-h) % s) ((-l) % s) (acc ++ [(s, l, w)]) g2 hlt bs (by rw [List.length_append, List.length_singleton]; omega)
        refine ⟨(s, l, w) :: ps, o, .go hs hc' t, ?_⟩
        have hz : acc.length < szL := lt_szL (by omega)
        rw [sWhl_next (ρ2 := [some (.sh (.int (w % s))), some (.sh (.int s)), some (.sh (.int ((-h) % s))), some (.sh (.int ((-l) % s))), some (.ow ((acc ++ [(s, l, w)]).map pD)), none]) (by simp [hs]) (by simp [u_gone_down_4, t_gone_down_3, t_gone_down_2, t_gone_down_1, hs, ds, ms, hc, hz, pD]), e]
        rw [List.append_assoc]
        rfl
    · have s0 : s = 0 := by have := g.s0; omega
      subst s0
      refine ⟨[], none, .zero, ?_⟩
      rw [sWhl_false (by simp)]
      simp [optD]
theorem gone_ok {b : Nat} (hb : b < 8000) {s w l h : Int} (g : Rg s w l h) (hw : Bd b w) : ∃ ps o, Chain s w l h ps o ∧ m_gone_down [.sh (.int s), .sh (.int w), .sh (.int l), .sh (.int h)] = .ok (.sh (.tup [.lst (ps.map pD), optD o])) := by
  have hn : s * w < 2 ^ (b + b) := by
    have h1 := hw.lt
    have w0 : 0 < w := by have := g.s0; have := g.sw; omega
    have h2 : w < 2 ^ b := by
      have : ((w.natAbs : Nat) : Int) < ((2 ^ b : Nat) : Int) := Int.ofNat_lt.mpr h1
      rw [Int.natCast_pow] at this
      rw [Int.natAbs_of_nonneg (by omega)] at this
      exact this
    rw [Int.pow_add]
    have s0 := g.s0
    have sw := g.sw
    exact Int.lt_of_le_of_lt (Int.mul_le_mul_of_nonneg_right (show s ≤ w by omega) (by omega)) (Int.lt_of_lt_of_le (Int.mul_lt_mul_of_pos_left h2 w0) (Int.mul_le_mul_of_nonneg_right (by omega) (Int.le_of_lt (by omega))))
  obtain ⟨ps, o, t, e⟩ := down_loop hb (b + b) s w l h [] g hn hw (by simp; omega)
  refine ⟨ps, o, t, ?_⟩
  rw [m_gone_down_eq]
  refine runB_rt ?_
  simp at e
  simp [b_gone_down, t_gone_down_5, e]
end Mi.Sh

namespace Mi.Sh
open PySem PySem.Spec L2 Mi
abbrev gt3 (i j k : Nat) : Gt := gTupD 3 (gsCons (gSet i) (gsCons (gSet j) (gsCons (gSet k) gsNil)))
theorem hit_turn {a0 a1 a2 a3 a4 a5 a6 : Option Sl} {b : Nat} {s l w c : Int} (hs : 0 < s) (hb : b < 8000) (bs : Bd b s) (bw : Bd b w) (bc : Bd b c) :
    turnB (gt3 8 9 10) u_first_hit_1 (pD (s, l, w)) [a0, a1, a2, a3, a4, a5, a6, some (.sh (.int c)), none, none, none] = .nx [a0, a1, a2, a3, a4, a5, a6, some (.sh (.int (up s l w c))), none, none, none] := by
  have m1 : mulOk w c = true := @mulOk_i b b _ _ bw bc (by rw [Nat.blt_eq]; omega)
  have d1 : divOk s = true := @divOk_i b _ bs (by rw [Nat.blt_eq]; omega)
  simp [turnB, pD, u_first_hit_1, hs, m1, d1, up]
theorem unw_loop {a0 a1 a2 a3 a4 a5 a6 : Option Sl} {b : Nat} (hb : b < 8000) {s w l h : Int} {ps : List (Int × Int × Int)} {o : Option Int} (t : Chain s w l h ps o) : ∀ c (ys : List D), o = some c → Rg s w l h → Bd b w →
    forR (gt3 8 9 10) u_first_hit_1 ((ps.map pD).reverse ++ ys) [a0, a1, a2, a3, a4, a5, a6, some (.sh (.int c)), none, none, none] = forR (gt3 8 9 10) u_first_hit_1 ys [a0, a1, a2, a3, a4, a5, a6, some (.sh (.int (unw ps c))), none, none, none] := by
  induction t with
  | zero => intro c ys e; cases e
  | stop hs hc => intro c ys e _ _; cases e; rfl
  | @go s w l h ps o hs hc t ih =>
    intro c ys e g bw
    subst e
    have g2 := (down_rg g hs hc).2.2
    have sw := g.sw
    have bs : Bd b s := ⟨by have := bw.lt; omega⟩
    have lt := least_lt g2 (chain_least t g2)
    have bc : Bd b (unw ps c) := ⟨by have := bs.lt; omega⟩
    rw [List.map_cons, List.reverse_cons, List.append_assoc, ih c _ rfl g2 bs, List.singleton_append, forR_nx (hit_turn hs hb bs bw bc)]
    rfl
/-- the first count from 0 on behind which the rest is below many -/
def HitF (st sp w m c : Int) : Prop := (st + sp * c) % w < m
def LeastF (st sp w m : Int) : Option Int → Prop
  | some c => 0 ≤ c ∧ HitF st sp w m c ∧ ∀ c', 0 ≤ c' → c' < c → ¬ HitF st sp w m c'
  | none => ∀ c, 0 ≤ c → ¬ HitF st sp w m c
theorem hitF_iff {st sp w m c : Int} (hw : 0 < w) (hm : m ≤ st % w) : HitF st sp w m c ↔ Hit (sp % w) w (w - st % w) (w - st % w + m - 1) c := by
  unfold HitF Hit
  have e1 : (sp % w * c) % w = (sp * c) % w := by rw [Int.mul_emod, Int.emod_emod_of_dvd _ (Int.dvd_refl w), ← Int.mul_emod]
  have e2 : (st + sp * c) % w = (st % w + (sp * c) % w) % w := Int.add_emod ..
  rw [e1, e2]
  have r0 := Int.emod_nonneg st (show w ≠ 0 by omega)
  have r1 := Int.emod_lt_of_pos st hw
  have t0 := Int.emod_nonneg (sp * c) (show w ≠ 0 by omega)
  have t1 := Int.emod_lt_of_pos (sp * c) hw
  generalize st % w = r at *
  generalize (sp * c) % w = t at *
  by_cases z : r + t < w
  · rw [Int.emod_eq_of_lt (by omega) z]
    omega
  · rw [emod_of (q := 1) (r := r + t - w) (by omega) (by omega) (by omega)]
    omega
theorem leastF_of {st sp w m : Int} (hw : 0 < w) (hm : m ≤ st % w) {o : Option Int} (h : LeastHit (sp % w) w (w - st % w) (w - st % w + m - 1) o) : LeastF st sp w m o := by
  cases o with
  | none => exact fun c h0 q => h c h0 ((hitF_iff hw hm).mp q)
  | some c => exact ⟨h.1, (hitF_iff hw hm).mpr h.2.1, fun c' p1 p2 q => h.2.2 c' p1 p2 ((hitF_iff hw hm).mp q)⟩
theorem first_hit_ok {b : Nat} (hb : b < 8000) {st sp w m : Int} (hw : 0 < w) (bw : Bd b w) (m1 : 1 ≤ m) : ∃ o, LeastF st sp w m o ∧ m_first_hit [.sh (.int st), .sh (.int sp), .sh (.int w), .sh (.int m)] = .ok (.sh (optD o)) := by
  rw [m_first_hit_eq]
  have r0 := Int.emod_nonneg st (show w ≠ 0 by omega)
  have r1 := Int.emod_lt_of_pos st hw
  by_cases h : st % w < m
  · refine ⟨some 0, ⟨by omega, by unfold HitF; rw [Int.mul_zero, Int.add_zero]; exact h, fun c' p1 p2 => by omega⟩, runB_rt ?_⟩
    simp [b_first_hit, t_first_hit_6, hw, h, optD]
  · have g : Rg (sp % w) w (w - st % w) (w - st % w + m - 1) := ⟨Int.emod_nonneg _ (by omega), Int.emod_lt_of_pos _ hw, by omega, by omega, by omega⟩
    obtain ⟨ps, o, t, e⟩ := gone_ok hb g bw
    refine ⟨o.map (unw ps), leastF_of hw (by omega) (chain_least t g), runB_rt ?_⟩
    cases o with
    | none =>
      simp only [optD] at e
      simp [b_first_hit, t_first_hit_6, t_first_hit_5, t_first_hit_4, t_first_hit_3, hw, h, e, optD]
    | some c =>
      have e2 := unw_loop (a0 := some (.sh (.int st))) (a1 := some (.sh (.int sp))) (a2 := some (.sh (.int w))) (a3 := some (.sh (.int m))) (a4 := some (.sh (.int (st % w)))) (a5 := some (.sh (.int (w - st % w)))) (a6 := some (.sh (.lst (ps.map pD)))) hb t c [] rfl g bw
      rw [List.append_nil, forR_nil] at e2
      have e3 := sFor_at (f := iRevD (lVar 6)) (by simp) e2
      simp only [optD] at e
      simp [b_first_hit, t_first_hit_6, t_first_hit_5, t_first_hit_4, t_first_hit_3, t_first_hit_2, hw, h, e, e3, optD]
end Mi.Sh

namespace Mi.Sh
open PySem PySem.Spec L2 Mi
theorem one_mul_pos {a b : Int} (ha : 1 ≤ a) (hb : 1 ≤ b) : 1 ≤ a * b := by
  have : 1 * 1 ≤ a * b := Int.mul_le_mul ha hb (by omega) (by omega)
  omega
structure Spaced (st sp w m : Int) : Prop where
  st_ : st.natAbs < 2 ^ 200
  sp_ : sp.natAbs < 2 ^ 250
  w1 : 1 ≤ w
  w2 : w.natAbs < 2 ^ 210
  m1 : 1 ≤ m
  m2 : m ≤ w
theorem abs_neg {x : Int} {n : Nat} (h : x.natAbs < n) : (-x).natAbs < n := by omega
theorem spaced_ok {ns : List Int} (S : Script ns) : ∃ st sp w m : Int, Spaced st sp w m ∧ m__law_spaced [.sh (.lst (ns.map D.int))] = .ok (.sh (.tup [.int st, .int sp, .int w, .int m])) := by
  obtain ⟨ss, h1, h2, h3⟩ := sums_ok (c := 17) (ns := ns) (many := 6) (hc := (bd_lit 17).up (by decide)) S (by decide) (by decide)
  have h3' : m__law_sums [.sh (.lst (ns.map D.int)), .sh (.int 6)] = .ok (.ow (ss.map D.int)) := by rw [m__law_sums_eq]; exact h3
  match ss, h1 with
  | [s0, s1, s2, s3, s4, s5], _ =>
    have hc : m__law_cell_at [.sh (.lst (ns.map D.int)), .sh (.int 0)] = .ok (.sh (.int (ns.getD 0 0))) := cell_at_ok (ns := ns) (k := 0) S.1
    generalize ns.getD 0 0 = k at *
    have r0 := h2 s0 (by simp)
    have r1 := h2 s1 (by simp)
    have r2 := h2 s2 (by simp)
    have r3 := h2 s3 (by simp)
    have r4 := h2 s4 (by simp)
    have r5 := h2 s5 (by simp)
    haveI : Bd 133 s0 := ⟨by omega⟩
    haveI : Bd 133 s1 := ⟨by omega⟩
    haveI : Bd 133 s2 := ⟨by omega⟩
    haveI : Bd 133 s3 := ⟨by omega⟩
    haveI : Bd 133 s4 := ⟨by omega⟩
    have m0 : mulOk s0 (7 ^ 40) = true := mulOk_i (by rfl)
    have m1 : mulOk s1 (7 ^ 60) = true := mulOk_i (by rfl)
    have m2 : mulOk s2 (11 ^ 40) = true := mulOk_i (by rfl)
    have m3 : mulOk s3 (7 ^ 50) = true := mulOk_i (by rfl)
    have m4 : mulOk s4 (13 ^ 30) = true := mulOk_i (by rfl)
    simp at m0 m1 m2 m3 m4
    clear h2 h3
    obtain ⟨A, hA⟩ : ∃ A : Option Sl, A = some (.sh (.lst [.int s0, .int s1, .int s2, .int s3, .int s4, .int s5])) := ⟨_, rfl⟩
    obtain ⟨S0, hS0⟩ : ∃ S0 : Option Sl, S0 = some (.sh (.lst (ns.map D.int))) := ⟨_, rfl⟩
    obtain ⟨b, b1, b2, e1⟩ : ∃ b : Int, 1 ≤ b ∧ b ≤ 10 ^ 20 ∧ t__law_spaced_9 [S0, A, some (.sh (.int k)), none, none, none, none, none] = t__law_spaced_8 [S0, A, some (.sh (.int k)), some (.sh (.int b)), none, none, none, none] := by
      have q : k % 3 = 0 ∨ k % 3 = 1 ∨ k % 3 = 2 := by omega
      rcases q with q | q | q
      · exact ⟨1, by omega, by omega, by simp [hA, t__law_spaced_9, q, m0]⟩
      · exact ⟨1 + s0 % 12, by omega, by omega, by simp [hA, t__law_spaced_9, q, m0]⟩
      · exact ⟨1 + s0 * 7 ^ 40 % 10 ^ 20, by omega, by omega, by simp [hA, t__law_spaced_9, q, m0]⟩
    haveI bb : Bd 67 b := ⟨by omega⟩
    have bp : ∀ {x : Int}, 1 ≤ x → x ≤ 10 ^ 40 → 1 ≤ b * x ∧ (b * x).natAbs < 2 ^ 210 := fun {x} p q => ⟨one_mul_pos b1 p, (@bd_mul 67 134 b x bb ⟨by omega⟩ : Bd 201 _).up (by decide) |>.lt⟩
    have mb : ∀ {x : Int}, 0 ≤ x → x ≤ 10 ^ 41 → mulOk b x = true := fun {x} p q => @mulOk_i 67 140 b x bb ⟨by omega⟩ (by rfl)
    obtain ⟨w, w1, w2, e2⟩ : ∃ w : Int, 1 ≤ w ∧ w.natAbs < 2 ^ 210 ∧ t__law_spaced_8 [S0, A, some (.sh (.int k)), some (.sh (.int b)), none, none, none, none] = t__law_spaced_7 [S0, A, some (.sh (.int k)), some (.sh (.int b)), some (.sh (.int w)), none, none, none] := by
      have q : k / 3 % 3 = 0 ∨ k / 3 % 3 = 1 ∨ k / 3 % 3 = 2 := by omega
      rcases q with q | q | q
      · have z1 : 1 ≤ 1 + s1 * 508021860739623365322188197652216501772434524836001 % 30 := by omega
        have z2 : 1 + s1 * 508021860739623365322188197652216501772434524836001 % 30 ≤ 10 ^ 40 := by omega
        exact ⟨_, (bp z1 z2).1, (bp z1 z2).2, by simp [hA, t__law_spaced_8, q, m1, mb (x := 1 + s1 * 508021860739623365322188197652216501772434524836001 % 30) (by omega) (by omega)]⟩
      · have z1 : 1 ≤ 1 + s1 * 508021860739623365322188197652216501772434524836001 % 1000000 := by omega
        have z2 : 1 + s1 * 508021860739623365322188197652216501772434524836001 % 1000000 ≤ 10 ^ 40 := by omega
        exact ⟨_, (bp z1 z2).1, (bp z1 z2).2, by simp [hA, t__law_spaced_8, q, m1, mb (x := 1 + s1 * 508021860739623365322188197652216501772434524836001 % 1000000) (by omega) (by omega)]⟩
      · have z1 : 1 ≤ 1 + s1 * 508021860739623365322188197652216501772434524836001 % 10000000000000000000000000000000000000000 := by omega
        have z2 : 1 + s1 * 508021860739623365322188197652216501772434524836001 % 10000000000000000000000000000000000000000 ≤ 10 ^ 40 := by omega
        exact ⟨_, (bp z1 z2).1, (bp z1 z2).2, by simp [hA, t__law_spaced_8, q, m1, mb (x := 1 + s1 * 508021860739623365322188197652216501772434524836001 % 10000000000000000000000000000000000000000) (by omega) (by omega)]⟩
    obtain ⟨p, p1, e3⟩ : ∃ p : Int, p.natAbs < 2 ^ 250 ∧ t__law_spaced_7 [S0, A, some (.sh (.int k)), some (.sh (.int b)), some (.sh (.int w)), none, none, none] = t__law_spaced_6 [S0, A, some (.sh (.int k)), some (.sh (.int b)), some (.sh (.int w)), some (.sh (.int p)), none, none] := by
      have bq : ∀ {x : Int}, 0 ≤ x → x ≤ 10 ^ 41 → (b * x).natAbs < 2 ^ 250 := fun {x} p q => (@bd_mul 67 140 b x bb ⟨by omega⟩ : Bd 207 _).up (by decide) |>.lt
      have q : k / 9 % 3 = 0 ∨ k / 9 % 3 = 1 ∨ k / 9 % 3 = 2 := by omega
      rcases q with q | q | q
      · exact ⟨b * (s2 * 452592555681759518058893560348969204658401 % 60), bq (by omega) (by omega), by simp [hA, t__law_spaced_7, q, m2, mb (x := s2 * 452592555681759518058893560348969204658401 % 60) (by omega) (by omega)]⟩
      · exact ⟨b * (s2 * 452592555681759518058893560348969204658401 % 10000000), bq (by omega) (by omega), by simp [hA, t__law_spaced_7, q, m2, mb (x := s2 * 452592555681759518058893560348969204658401 % 10000000) (by omega) (by omega)]⟩
      · exact ⟨b * (s2 * 452592555681759518058893560348969204658401 % 100000000000000000000000000000000000000000), bq (by omega) (by omega), by simp [hA, t__law_spaced_7, q, m2, mb (x := s2 * 452592555681759518058893560348969204658401 % 100000000000000000000000000000000000000000) (by omega) (by omega)]⟩
    obtain ⟨st, st1, e4⟩ : ∃ st : Int, st.natAbs < 2 ^ 200 ∧ t__law_spaced_6 [S0, A, some (.sh (.int k)), some (.sh (.int b)), some (.sh (.int w)), some (.sh (.int p)), none, none] = t__law_spaced_5 [S0, A, some (.sh (.int k)), some (.sh (.int b)), some (.sh (.int w)), some (.sh (.int p)), some (.sh (.int st)), none] := by
      have q : k / 27 % 2 = 0 ∨ k / 27 % 2 = 1 := by omega
      rcases q with q | q
      · exact ⟨s3 * 1798465042647412146620280340569649349251249 % 100, by omega, by simp [hA, t__law_spaced_6, q, m3]⟩
      · exact ⟨s3 * 1798465042647412146620280340569649349251249 % 10 ^ 50, by omega, by simp [hA, t__law_spaced_6, q, m3]⟩
    obtain ⟨p', p1', e5⟩ : ∃ p' : Int, p'.natAbs < 2 ^ 250 ∧ t__law_spaced_5 [S0, A, some (.sh (.int k)), some (.sh (.int b)), some (.sh (.int w)), some (.sh (.int p)), some (.sh (.int st)), none] = t__law_spaced_4 [S0, A, some (.sh (.int k)), some (.sh (.int b)), some (.sh (.int w)), some (.sh (.int p')), some (.sh (.int st)), none] := by
      by_cases q : k / 54 % 2 = 1
      · exact ⟨-p, abs_neg p1, by simp [t__law_spaced_5, q]⟩
      · exact ⟨p, p1, by simp [t__law_spaced_5, q]⟩
    obtain ⟨st', st1', e6⟩ : ∃ st' : Int, st'.natAbs < 2 ^ 200 ∧ t__law_spaced_4 [S0, A, some (.sh (.int k)), some (.sh (.int b)), some (.sh (.int w)), some (.sh (.int p')), some (.sh (.int st)), none] = t__law_spaced_3 [S0, A, some (.sh (.int k)), some (.sh (.int b)), some (.sh (.int w)), some (.sh (.int p')), some (.sh (.int st')), none] := by
      by_cases q : k / 108 % 2 = 1
      · exact ⟨-st, abs_neg st1, by simp [t__law_spaced_4, q]⟩
      · exact ⟨st, st1, by simp [t__law_spaced_4, q]⟩
    have w0 : 0 < w := by omega
    have c1 : 0 < min w 5 := by omega
    have mb2 : mulOk 2 b = true := @mulOk_i _ 67 2 b (bd_lit 2) bb (by rfl)
    have c2 : 0 < min w (2 * b) := by omega
    have f0 := Int.emod_nonneg (s4 * 2619995643649944960380551432833049 % 10000000000000000000000000000000000000000000000000000000000000000) (show w ≠ 0 by omega)
    have f1 := Int.emod_lt_of_pos (s4 * 2619995643649944960380551432833049 % 10000000000000000000000000000000000000000000000000000000000000000) w0
    have g0 := Int.emod_nonneg s4 (show min w 5 ≠ 0 by omega)
    have g1 := Int.emod_lt_of_pos s4 c1
    have k0 := Int.emod_nonneg (s4 * 2619995643649944960380551432833049 % 10000000000000000000000000000000000000000000000000000000000000000) (show min w (2 * b) ≠ 0 by omega)
    have k1 := Int.emod_lt_of_pos (s4 * 2619995643649944960380551432833049 % 10000000000000000000000000000000000000000000000000000000000000000) c2
    obtain ⟨m, mm1, mm2, e7⟩ : ∃ m : Int, 1 ≤ m ∧ m ≤ w ∧ t__law_spaced_3 [S0, A, some (.sh (.int k)), some (.sh (.int b)), some (.sh (.int w)), some (.sh (.int p')), some (.sh (.int st')), none] = .rt (.sh (.tup [.int st', .int p', .int w, .int m])) := by
      have q : s5 % 3 = 0 ∨ s5 % 3 = 1 ∨ s5 % 3 = 2 := by omega
      rcases q with q | q | q
      · exact ⟨1 + s4 * 2619995643649944960380551432833049 % 10000000000000000000000000000000000000000000000000000000000000000 % w, by omega, by omega, by simp [hA, t__law_spaced_3, t__law_spaced_2, t__law_spaced_1, q, m4, w0]⟩
      · exact ⟨1 + s4 % min w 5, by omega, by omega, by simp [hA, t__law_spaced_3, t__law_spaced_2, t__law_spaced_1, q, m4, w0, c1]⟩
      · exact ⟨1 + s4 * 2619995643649944960380551432833049 % 10000000000000000000000000000000000000000000000000000000000000000 % min w (2 * b), by omega, by omega, by simp [hA, t__law_spaced_3, t__law_spaced_2, t__law_spaced_1, q, m4, w0, mb2, c2]⟩
    refine ⟨st', p', w, m, ⟨st1', p1', w1, w2, mm1, mm2⟩, ?_⟩
    rw [m__law_spaced_eq]
    refine runB_rt ?_
    subst hA
    subst hS0
    simp [b__law_spaced, t__law_spaced_10, h3', hc, e1, e2, e3, e4, e5, e6, e7]
end Mi.Sh

namespace Mi.Sh
open PySem PySem.Spec L2 Mi
theorem emod_le_self {x g : Int} (h0 : 0 ≤ x) (hg : 0 < g) : x % g ≤ x := by
  have h1 := Int.emod_add_mul_ediv x g
  have h2 : 0 ≤ g * (x / g) := Int.mul_nonneg (by omega) (Int.ediv_nonneg h0 (by omega))
  omega
theorem bez (a b : Nat) : ∃ x y : Int, (a : Int) * x + (b : Int) * y = (Nat.gcd a b : Int) := by
  induction a, b using Nat.gcd.induction with
  | H0 n => exact ⟨0, 1, by rw [Nat.gcd_zero_left]; omega⟩
  | H1 m n hm ih =>
    obtain ⟨x, y, e⟩ := ih
    refine ⟨y - (n / m : Nat) * x, x, ?_⟩
    rw [Nat.gcd_rec, ← e]
    have h : ((n % m : Nat) : Int) = (n : Int) - (m : Int) * ((n / m : Nat) : Int) := by
      have := Nat.mod_add_div n m
      have h2 : ((n % m + m * (n / m) : Nat) : Int) = (n : Int) := by rw [this]
      rw [Int.natCast_add, Int.natCast_mul] at h2
      omega
    rw [h, Int.mul_sub, Int.sub_mul, ← Int.mul_assoc]
    omega
theorem LeastF.uni {st sp w m : Int} {o o' : Option Int} (h : LeastF st sp w m o) (h' : LeastF st sp w m o') : o = o' := by
  cases o with
  | none =>
    cases o' with
    | none => rfl
    | some c => exact absurd h'.2.1 (h c h'.1)
  | some c =>
    cases o' with
    | none => exact absurd h.2.1 (h' c h.1)
    | some c' =>
      have : c = c' := by
        rcases Int.lt_trichotomy c c' with z | z | z
        · exact absurd h.2.1 (h'.2.2 c h.1 z)
        · exact z
        · exact absurd h'.2.1 (h.2.2 c' h'.1 z)
      rw [this]
theorem LeastF.congr {st sp st' sp' w m : Int} (e : ∀ c, (st + sp * c) % w = (st' + sp' * c) % w) {o : Option Int} (h : LeastF st sp w m o) : LeastF st' sp' w m o := by
  have hh : ∀ c, HitF st sp w m c ↔ HitF st' sp' w m c := fun c => by unfold HitF; rw [e]
  cases o with
  | none => exact fun c h0 q => h c h0 ((hh c).mpr q)
  | some c => exact ⟨h.1, (hh c).mp h.2.1, fun c' p1 p2 q => h.2.2 c' p1 p2 ((hh c').mpr q)⟩
/-- the greatest divisor of step and round -/
def gOf (w sp : Int) : Int := (Nat.gcd w.toNat (sp % w).toNat : Nat)
theorem gOf_pos {w sp : Int} (hw : 0 < w) : 0 < gOf w sp := by
  have : 0 < Nat.gcd w.toNat (sp % w).toNat := Nat.gcd_pos_of_pos_left _ (by omega)
  unfold gOf
  omega
theorem gOf_w {w sp : Int} (hw : 0 < w) : gOf w sp ∣ w := by
  have := Int.natCast_dvd_natCast.mpr (Nat.gcd_dvd_left w.toNat (sp % w).toNat)
  rwa [Int.toNat_of_nonneg (by omega)] at this
theorem gOf_m {w sp : Int} (hw : 0 < w) : gOf w sp ∣ sp % w := by
  have := Int.natCast_dvd_natCast.mpr (Nat.gcd_dvd_right w.toNat (sp % w).toNat)
  rwa [Int.toNat_of_nonneg (Int.emod_nonneg _ (by omega))] at this
theorem gOf_sp {w sp : Int} (hw : 0 < w) : gOf w sp ∣ sp := by
  have h := Int.emod_add_mul_ediv sp w
  have := Int.dvd_add (gOf_m (sp := sp) hw) (Int.dvd_trans (gOf_w (sp := sp) hw) (Int.dvd_mul_right w (sp / w)))
  rwa [h] at this
theorem gOf_le {w sp : Int} (hw : 0 < w) : gOf w sp ≤ w := Int.le_of_dvd hw (gOf_w hw)
theorem gOf_bez {w sp : Int} (hw : 0 < w) : ∃ x : Int, 0 ≤ x ∧ (sp * x) % w = gOf w sp % w := by
  obtain ⟨a, b, e⟩ := bez w.toNat (sp % w).toNat
  rw [Int.toNat_of_nonneg (by omega), Int.toNat_of_nonneg (Int.emod_nonneg _ (by omega))] at e
  refine ⟨b % w, Int.emod_nonneg _ (by omega), ?_⟩
  unfold gOf
  rw [← e]
  have h1 : (w * a + sp % w * b) % w = (sp * b) % w := by
    rw [Int.add_comm, Int.add_mul_emod_self_left, Int.mul_emod, Int.emod_emod_of_dvd _ (Int.dvd_refl w), ← Int.mul_emod]
  rw [h1, Int.mul_emod, Int.emod_emod_of_dvd _ (Int.dvd_refl w), ← Int.mul_emod]
/-- behind so many steps the rests come again -/
theorem hitF_round {st sp w m c : Int} (hw : 0 < w) : HitF st sp w m (c + w / gOf w sp) ↔ HitF st sp w m c := by
  obtain ⟨k, hk⟩ := gOf_sp (sp := sp) hw
  have e : (st + sp * (c + w / gOf w sp)) % w = (st + sp * c) % w := by
    have h1 : sp * (w / gOf w sp) = w * k := by
      have h2 := Int.mul_ediv_cancel' (gOf_w (sp := sp) hw)
      generalize hg : gOf w sp = g at *
      generalize hq : w / g = q at *
      rw [hk, ← h2, Int.mul_assoc, Int.mul_comm k q, ← Int.mul_assoc]
    rw [Int.mul_add, h1, ← Int.add_assoc, Int.add_mul_emod_self_left]
  unfold HitF
  rw [e]
theorem LeastF.lt {st sp w m c : Int} (hw : 0 < w) (h : LeastF st sp w m (some c)) : c < w / gOf w sp := by
  rcases Int.lt_or_le c (w / gOf w sp) with z | z
  · exact z
  · exfalso
    have hp : 0 < w / gOf w sp := Int.ediv_pos_of_pos_of_dvd hw (Int.le_of_lt (gOf_pos hw)) (gOf_w hw)
    have e := hitF_round (st := st) (sp := sp) (m := m) (c := c - w / gOf w sp) hw
    rw [Int.sub_add_cancel] at e
    exact h.2.2 _ (by omega) (by omega) (e.mp h.2.1)
/-- a hit is, just where the rest by the greatest divisor is below many -/
theorem hitF_ex {st sp w m : Int} (hw : 0 < w) : (∃ c, 0 ≤ c ∧ HitF st sp w m c) ↔ st % gOf w sp < m := by
  have hg := gOf_pos (sp := sp) hw
  constructor
  · rintro ⟨c, _, h⟩
    unfold HitF at h
    have e : ((st + sp * c) % w) % gOf w sp = st % gOf w sp := by
      rw [Int.emod_emod_of_dvd _ (gOf_w hw)]
      obtain ⟨k, hk⟩ := gOf_sp (sp := sp) hw
      have : sp * c = gOf w sp * (k * c) := by
        conv => lhs; rw [hk]
        rw [Int.mul_assoc]
      rw [this, Int.add_mul_emod_self_left]
    have h0 := Int.emod_nonneg (st + sp * c) (show w ≠ 0 by omega)
    have h1 : ((st + sp * c) % w) % gOf w sp ≤ (st + sp * c) % w := emod_le_self h0 hg
    omega
  · intro h
    obtain ⟨x, x0, hx⟩ := gOf_bez (sp := sp) hw
    have d := Int.emod_add_mul_ediv st (gOf w sp)
    refine ⟨(x * -(st / gOf w sp)) % w, Int.emod_nonneg _ (by omega), ?_⟩
    unfold HitF
    have e1 : (sp * ((x * -(st / gOf w sp)) % w)) % w = (gOf w sp * -(st / gOf w sp)) % w := by
      rw [Int.mul_emod, Int.emod_emod_of_dvd _ (Int.dvd_refl w), ← Int.mul_emod, ← Int.mul_assoc, Int.mul_emod, hx, ← Int.mul_emod]
    rw [Int.add_emod, e1, ← Int.add_emod]
    have e2 : st + gOf w sp * -(st / gOf w sp) = st % gOf w sp := by
      rw [Int.mul_neg]
      omega
    have r0 := Int.emod_nonneg st (show gOf w sp ≠ 0 by omega)
    have r1 := Int.emod_lt_of_pos st hg
    have := gOf_le (sp := sp) hw
    rw [e2, Int.emod_eq_of_lt r0 (by omega)]
    exact h
theorem least_none {st sp w m : Int} (hw : 0 < w) {o : Option Int} (h : LeastF st sp w m o) : o = none ↔ ¬ st % gOf w sp < m := by
  rw [← hitF_ex hw]
  cases o with
  | none => exact ⟨fun _ ⟨c, h0, q⟩ => h c h0 q, fun _ => rfl⟩
  | some c => exact ⟨fun e => (by cases e), fun q => absurd ⟨c, h.1, h.2.1⟩ q⟩
theorem gOf_div {w sp : Int} (hw : 0 < w) : m__law_divisor [.sh (.int w), .sh (.int (sp % w))] = .ok (.sh (.int (gOf w sp))) := by
  have := ldivisor_nat w.toNat (sp % w).toNat
  rw [Int.toNat_of_nonneg (by omega), Int.toNat_of_nonneg (Int.emod_nonneg _ (by omega))] at this
  exact this
end Mi.Sh

namespace Mi.Sh
open PySem PySem.Spec L2 Mi
-- lies_in: 0:waking 1:part 2:period 3:first 4:length 5:step 6:rest
noncomputable def t_lies_in_1 : Sv :=
  sSeq (sAsg (eVar 1) (gTupD 2 (gsCons (gSet 5) (gsCons (gSet 6) (gsNil))))) (sRet (eBin oGe (eBin oMod (eBin oSub (eBin oSub (eLook 6) (eLook 3)) (eLook 4)) (eApp m_divisor (aVal (eVar 5) (aVal (eVar 2) (aNil))))) (eBin oSub (eLook 2) (eLook 4))))
noncomputable def b_lies_in : Sv :=
  sSeq (sAsg (eVar 0) (gTupD 3 (gsCons (gSet 2) (gsCons (gSet 3) (gsCons (gSet 4) (gsNil)))))) (t_lies_in_1)
noncomputable def m_lies_in : List Sl → R Sl := hid (runB 7 b_lies_in)
theorem m_lies_in_eq : m_lies_in = runB 7 b_lies_in := hid_eq _
-- hole: 0:plan 1:turns 2:turn
noncomputable def u_hole_1 : Sv :=
  sSeq (sIf (tNotE (tst (eApp m_awake (aVal (eVar 0) (aVal (eVar 2) (aNil)))))) (sRet (eVar 2)) (sNx)) (sKill 2 (sNx))
noncomputable def t_hole_2 : Sv :=
  sSeq (sFor (iRng1D (eVar 1)) (gSet 2) (u_hole_1)) (sRet (eD .non))
noncomputable def t_hole_3 : Sv :=
  sSeq (sIf (tst (eBin oGt (eLook 1) (eD (.int 5000)))) (sRaise "TooMany") (sNx)) (t_hole_2)
noncomputable def b_hole : Sv :=
  sSeq (sAsg (eApp m_plan_round (aVal (eVar 0) (aNil))) (gSet 1)) (t_hole_3)
noncomputable def m_hole : List Sl → R Sl := hid (runB 3 b_hole)
theorem m_hole_eq : m_hole = runB 3 b_hole := hid_eq _
-- shifts_of_two: 0:one 1:other 2:by 3:span
noncomputable def t_shifts_of_two_1 : Sv :=
  sSeq (sAsg (eBin oSub (eBin oAdd (eBin oIx (eLook 0) (eD (.int 2))) (eBin oIx (eLook 1) (eD (.int 2)))) (eD (.int 1))) (gSet 3)) (sRet (eTup (vCons (eVar 2) (vCons (eBin oMod (eBin oAdd (eBin oSub (eBin oSub (eBin oIx (eLook 0) (eD (.int 1))) (eBin oIx (eLook 1) (eD (.int 1)))) (eBin oIx (eLook 1) (eD (.int 2)))) (eD (.int 1))) (eLook 2)) (vCons (eCall oMin (vCons (eLook 2) (vCons (eLook 3) vNil))) (vNil))))))
noncomputable def b_shifts_of_two : Sv :=
  sSeq (sAsg (eApp m_divisor (aVal (eBin oIx (eLook 0) (eD (.int 0))) (aVal (eBin oIx (eLook 1) (eD (.int 0))) (aNil)))) (gSet 2)) (t_shifts_of_two_1)
noncomputable def m_shifts_of_two : List Sl → R Sl := hid (runB 4 b_shifts_of_two)
theorem m_shifts_of_two_eq : m_shifts_of_two = runB 4 b_shifts_of_two := hid_eq _
-- shifts: 0:one 1:other 2:found 3:mine 4:yours
noncomputable def u_shifts_1 : Sv :=
  sSeq (sApp 2 (eApp m_shifts_of_two (aVal (eVar 3) (aVal (eVar 4) (aNil))))) (sKill 4 (sNx))
noncomputable def u_shifts_2 : Sv :=
  sSeq (sFor (iVar 1) (gSet 4) (u_shifts_1)) (sKill 3 (sKill 4 (sNx)))
noncomputable def t_shifts_3 : Sv :=
  sSeq (sFor (iVar 0) (gSet 3) (u_shifts_2)) (sRetO 2)
noncomputable def b_shifts : Sv :=
  sSeq (sSetF 2 (vNil)) (t_shifts_3)
noncomputable def m_shifts : List Sl → R Sl := hid (runB 5 b_shifts)
theorem m_shifts_eq : m_shifts = runB 5 b_shifts := hid_eq _
-- together: 0:one 1:other 2:shift 3:turn
noncomputable def b_together : Sv :=
  sRet (eAnd (eApp m_awake (aVal (eVar 0) (aVal (eVar 3) (aNil)))) (eApp m_awake (aVal (eVar 1) (aVal (eBin oSub (eLook 3) (eLook 2)) (aNil)))))
noncomputable def m_together : List Sl → R Sl := hid (runB 4 b_together)
theorem m_together_eq : m_together = runB 4 b_together := hid_eq _
-- begun: 0:waking 1:first 2:other 3:turn 4:start 5:many
noncomputable def t_begun_1 : Sv :=
  sSeq (sIf (tst (eBin oIs (eLook 5) (eD .non))) (sRet (eD .non)) (sNx)) (sRet (eBin oAdd (eLook 4) (eBin oMul (eBin oIx (eLook 0) (eD (.int 0))) (eLook 5))))
noncomputable def t_begun_2 : Sv :=
  sSeq (sAsg (eApp m_first_hit (aVal (eBin oSub (eLook 4) (eLook 1)) (aVal (eBin oIx (eLook 0) (eD (.int 0))) (aVal (eBin oIx (eLook 2) (eD (.int 0))) (aVal (eBin oIx (eLook 2) (eD (.int 2))) (aNil)))))) (gSet 5)) (t_begun_1)
noncomputable def b_begun : Sv :=
  sSeq (sAsg (eBin oAdd (eLook 3) (eBin oMod (eBin oSub (eBin oIx (eLook 0) (eD (.int 1))) (eLook 3)) (eBin oIx (eLook 0) (eD (.int 0))))) (gSet 4)) (t_begun_2)
noncomputable def m_begun : List Sl → R Sl := hid (runB 6 b_begun)
theorem m_begun_eq : m_begun = runB 6 b_begun := hid_eq _
-- next_of_two: 0:mine 1:yours 2:shift 3:turn 4:ours 5:theirs
noncomputable def t_next_of_two_1 : Sv :=
  sSeq (sIf (tOrE (tst (eBin oIs (eLook 4) (eD .non))) (tst (eBin oIs (eLook 5) (eD .non)))) (sRet (eIf (tst (eBin oIs (eLook 5) (eD .non))) (eVar 4) (eBin oAdd (eLook 5) (eLook 2)))) (sNx)) (sRet (eCall oMin (vCons (eLook 4) (vCons (eBin oAdd (eLook 5) (eLook 2)) vNil))))
noncomputable def t_next_of_two_2 : Sv :=
  sSeq (sAsg (eApp m_begun (aVal (eVar 1) (aVal (eBin oSub (eBin oIx (eLook 0) (eD (.int 1))) (eLook 2)) (aVal (eVar 0) (aVal (eBin oSub (eLook 3) (eLook 2)) (aNil)))))) (gSet 5)) (t_next_of_two_1)
noncomputable def b_next_of_two : Sv :=
  sSeq (sAsg (eApp m_begun (aVal (eVar 0) (aVal (eBin oAdd (eBin oIx (eLook 1) (eD (.int 1))) (eLook 2)) (aVal (eVar 1) (aVal (eVar 3) (aNil)))))) (gSet 4)) (t_next_of_two_2)
noncomputable def m_next_of_two : List Sl → R Sl := hid (runB 6 b_next_of_two)
theorem m_next_of_two_eq : m_next_of_two = runB 6 b_next_of_two := hid_eq _
-- next_together: 0:one 1:other 2:shift 3:turn 4:best 5:mine 6:yours 7:found
noncomputable def t_next_together_1 : Sv :=
  sSeq (sIf (tAndE (tst (eBin oIsNot (eLook 7) (eD .non))) (tOrE (tst (eBin oIs (eLook 4) (eD .non))) (tst (eBin oLt (eLook 7) (eLook 4))))) (sAsg (eVar 7) (gSet 4)) (sNx)) (sKill 7 (sKill 6 (sNx)))
noncomputable def u_next_together_2 : Sv :=
  sSeq (sAsg (eApp m_next_of_two (aVal (eVar 5) (aVal (eVar 6) (aVal (eVar 2) (aVal (eVar 3) (aNil)))))) (gSet 7)) (t_next_together_1)
noncomputable def u_next_together_3 : Sv :=
  sSeq (sFor (iVar 1) (gSet 6) (u_next_together_2)) (sKill 7 (sKill 5 (sKill 6 (sNx))))
noncomputable def t_next_together_4 : Sv :=
  sSeq (sFor (iVar 0) (gSet 5) (u_next_together_3)) (sRet (eVar 4))
noncomputable def t_next_together_5 : Sv :=
  sSeq (sAsg (eD .non) (gSet 4)) (t_next_together_4)
noncomputable def b_next_together : Sv :=
  sSeq (sIf (tst (eApp m_together (aVal (eVar 0) (aVal (eVar 1) (aVal (eVar 2) (aVal (eVar 3) (aNil))))))) (sRet (eVar 3)) (sNx)) (t_next_together_5)
noncomputable def m_next_together : List Sl → R Sl := hid (runB 8 b_next_together)
theorem m_next_together_eq : m_next_together = runB 8 b_next_together := hid_eq _
-- letter_way: 0:hands 1:turn 2:way 3:before 4:behind 5:one 6:mine 7:other 8:yours 9:found
noncomputable def t_letter_way_1 : Sv :=
  sSeq (sApp 2 (eBin oAdd (eLook 9) (eLook 6))) (sKill 3 (sKill 4 (sKill 9 (sKill 6 (sKill 5 (sKill 7 (sKill 8 (sNx))))))))
noncomputable def t_letter_way_2 : Sv :=
  sSeq (sIf (tst (eBin oIs (eLook 9) (eD .non))) (sSeq (sApp 2 (eD .non)) (sRetO 2)) (sNx)) (t_letter_way_1)
noncomputable def t_letter_way_3 : Sv :=
  sSeq (sAsg (eApp m_next_together (aVal (eVar 5) (aVal (eVar 7) (aVal (eBin oSub (eLook 8) (eLook 6)) (aVal (eBin oSub (eBin oIx (eLook 2) (eUn oNeg (eD (.int 1)))) (eLook 6)) (aNil)))))) (gSet 9)) (t_letter_way_2)
noncomputable def t_letter_way_4 : Sv :=
  sSeq (sAsg (eVar 4) (gTupD 2 (gsCons (gSet 7) (gsCons (gSet 8) (gsNil))))) (t_letter_way_3)
noncomputable def u_letter_way_5 : Sv :=
  sSeq (sAsg (eVar 3) (gTupD 2 (gsCons (gSet 5) (gsCons (gSet 6) (gsNil))))) (t_letter_way_4)
noncomputable def t_letter_way_6 : Sv :=
  sSeq (sFor (iZipD (lOf (eLst (eCut (eLook 0) (pNo) (pSome (eUn oNeg (eD (.int 1))))))) (lOf (eLst (eCut (eLook 0) (pSome (eD (.int 1))) (pNo))))) (gTupD 2 (gsCons (gSet 3) (gsCons (gSet 4) (gsNil)))) (u_letter_way_5)) (sRetO 2)
noncomputable def b_letter_way : Sv :=
  sSeq (sSetF 2 (vCons (eVar 1) (vNil))) (t_letter_way_6)
noncomputable def m_letter_way : List Sl → R Sl := hid (runB 10 b_letter_way)
theorem m_letter_way_eq : m_letter_way = runB 10 b_letter_way := hid_eq _
-- _law_big: 0:cell
noncomputable def b__law_big : Sv :=
  sRet (eBin oMod (eBin oMul (eLook 0) (eD (.int 618033988749894848204586834365638117720309179805762862123))) (eBin oPow (eD (.int 10)) (eD (.int 60))))
noncomputable def m__law_big : List Sl → R Sl := hid (runB 1 b__law_big)
theorem m__law_big_eq : m__law_big = runB 1 b__law_big := hid_eq _
-- is_prime: 0:number
noncomputable def b_is_prime : Sv :=
  sRet (eAnd (eBin oGt (eLook 0) (eD (.int 1))) (eBin oEq (eApp m_least_part (aVal (eVar 0) (aNil))) (eLook 0)))
noncomputable def m_is_prime : List Sl → R Sl := hid (runB 1 b_is_prime)
theorem m_is_prime_eq : m_is_prime = runB 1 b_is_prime := hid_eq _
-- pair_plan: 0:one 1:other
noncomputable def b_pair_plan : Sv :=
  sSeq (sIf (tOrE (tst (eBin oEq (eLook 0) (eLook 1))) (tOrE (tNotE (tst (eApp m_is_prime (aVal (eVar 0) (aNil))))) (tNotE (tst (eApp m_is_prime (aVal (eVar 1) (aNil))))))) (sRaise "NoPrimes") (sNx)) (sRetF (vCons (eTup (vCons (eVar 0) (vCons (eD (.int 0)) (vCons (eD (.int 1)) (vNil))))) (vCons (eTup (vCons (eVar 1) (vCons (eD (.int 0)) (vCons (eD (.int 1)) (vNil))))) (vNil))))
noncomputable def m_pair_plan : List Sl → R Sl := hid (runB 2 b_pair_plan)
theorem m_pair_plan_eq : m_pair_plan = runB 2 b_pair_plan := hid_eq _
-- grid_plan: 0:number
noncomputable def b_grid_plan : Sv :=
  sSeq (sIf (tst (eBin oLt (eLook 0) (eD (.int 1)))) (sRaise "NoPlan") (sNx)) (sRetF (vCons (eTup (vCons (eVar 0) (vCons (eD (.int 0)) (vCons (eD (.int 1)) (vNil))))) (vCons (eTup (vCons (eBin oMul (eLook 0) (eLook 0)) (vCons (eD (.int 0)) (vCons (eVar 0) (vNil))))) (vNil))))
noncomputable def m_grid_plan : List Sl → R Sl := hid (runB 1 b_grid_plan)
theorem m_grid_plan_eq : m_grid_plan = runB 1 b_grid_plan := hid_eq _
-- _law_great: 0:cell 1:many 2:number
noncomputable def t__law_great_1 : Sv :=
  sSeq (sAsg (eBin oAdd (eLook 2) (eD (.int 141421356237309504880168872420969807))) (gSet 2)) (sRet (eBin oMod (eBin oAdd (eBin oMul (eLook 2) (eBin oAdd (eLook 2) (eBin oMod (eBin oMul (eD (.int 2)) (eLook 0)) (eBin oPow (eD (.int 10)) (eD (.int 30)))))) (eBin oDiv (eLook 0) (eD (.int 3)))) (eLook 1)))
noncomputable def t__law_great_2 : Sv :=
  sSeq (sAsg (eBin oMul (eLook 2) (eBin oAdd (eLook 2) (eD (.int 271828182845904523536028747135266249)))) (gSet 2)) (t__law_great_1)
noncomputable def b__law_great : Sv :=
  sSeq (sAsg (eBin oMod (eLook 0) (eBin oPow (eD (.int 10)) (eD (.int 60)))) (gSet 2)) (t__law_great_2)
noncomputable def m__law_great : List Sl → R Sl := hid (runB 3 b__law_great)
theorem m__law_great_eq : m__law_great = runB 3 b__law_great := hid_eq _
-- _law_waking_2: 0:cell 1:part 2:number 3:period 4:first 5:length
noncomputable def t__law_waking_2_1 : Sv :=
  sSeq (sAsg (eBin oIx (eLst (vCons (eBin oAdd (eD (.int 1)) (eBin oMod (eBin oDiv (eLook 2) (eD (.int 3))) (eD (.int 4)))) (vCons (eBin oSub (eLook 3) (eBin oMod (eBin oDiv (eLook 2) (eD (.int 3))) (eD (.int 4)))) (vCons (eBin oAdd (eD (.int 1)) (eBin oMod (eBin oDiv (eLook 2) (eD (.int 3))) (eLook 3))) (vNil))))) (eBin oMod (eLook 2) (eD (.int 3)))) (gSet 5)) (sRet (eTup (vCons (eVar 3) (vCons (eVar 4) (vCons (eCall oMax (vCons (eD (.int 1)) (vCons (eCall oMin (vCons (eLook 5) (vCons (eLook 3) vNil))) vNil))) (vNil))))))
noncomputable def t__law_waking_2_2 : Sv :=
  sSeq (sAsg (eApp m__law_big (aVal (eBin oAdd (eBin oDiv (eLook 0) (eD (.int 2))) (eD (.int 5))) (aNil))) (gSet 2)) (t__law_waking_2_1)
noncomputable def t__law_waking_2_3 : Sv :=
  sSeq (sAsg (eBin oMod (eBin oDiv (eLook 2) (eD (.int 6))) (eLook 3)) (gSet 4)) (t__law_waking_2_2)
noncomputable def t__law_waking_2_4 : Sv :=
  sSeq (sAsg (eBin oMul (eLook 1) (eBin oAdd (eD (.int 1)) (eBin oMod (eLook 2) (eD (.int 6))))) (gSet 3)) (t__law_waking_2_3)
noncomputable def b__law_waking_2 : Sv :=
  sSeq (sAsg (eApp m__law_big (aVal (eVar 0) (aNil))) (gSet 2)) (t__law_waking_2_4)
noncomputable def m__law_waking_2 : List Sl → R Sl := hid (runB 6 b__law_waking_2)
theorem m__law_waking_2_eq : m__law_waking_2 = runB 6 b__law_waking_2 := hid_eq _
-- _law_plans: 0:script 1:number 2:part 3:one 4:k
noncomputable def t__law_plans_1 : Sv :=
  sSeq (sSetF 3 (eLc (iRng1D (eBin oMod (eLook 1) (eD (.int 4)))) (gSet 4) (tYesE) (eApp m__law_waking_2 (aVal (eApp m__law_cell_at (aVal (eVar 0) (aVal (eBin oAdd (eD (.int 2)) (eLook 4)) (aNil)))) (aVal (eVar 2) (aNil)))) [4])) (sFrz 3 (sRetF (vCons (eVar 3) (vCons (eLst (eLc (iRng1D (eBin oMod (eBin oDiv (eLook 1) (eD (.int 4))) (eD (.int 4)))) (gSet 4) (tYesE) (eApp m__law_waking_2 (aVal (eApp m__law_cell_at (aVal (eVar 0) (aVal (eBin oAdd (eD (.int 5)) (eLook 4)) (aNil)))) (aVal (eVar 2) (aNil)))) [4])) (vNil)))))
noncomputable def t__law_plans_2 : Sv :=
  sSeq (sAsg (eBin oIx (eLst (vCons (eBin oAdd (eD (.int 1)) (eBin oMod (eBin oDiv (eLook 1) (eD (.int 16))) (eD (.int 12)))) (vCons (eBin oAdd (eD (.int 1)) (eBin oMod (eBin oDiv (eLook 1) (eD (.int 16))) (eBin oPow (eD (.int 10)) (eD (.int 30))))) (vNil)))) (eBin oMod (eApp m__law_cell_at (aVal (eVar 0) (aVal (eD (.int 1)) (aNil)))) (eD (.int 2)))) (gSet 2)) (t__law_plans_1)
noncomputable def b__law_plans : Sv :=
  sSeq (sAsg (eApp m__law_big (aVal (eApp m__law_cell_at (aVal (eVar 0) (aVal (eD (.int 0)) (aNil)))) (aNil))) (gSet 1)) (t__law_plans_2)
noncomputable def m__law_plans : List Sl → R Sl := hid (runB 5 b__law_plans)
theorem m__law_plans_eq : m__law_plans = runB 5 b__law_plans := hid_eq _
-- _law_awake: 0:plan 1:turn 2:row
noncomputable def b__law_awake : Sv :=
  sRet (eCall oAny (vCons (eLst (eLc (iVar 0) (gSet 2) (tYesE) (eBin oLt (eBin oMod (eBin oSub (eLook 1) (eBin oIx (eLook 2) (eD (.int 1)))) (eBin oIx (eLook 2) (eD (.int 0)))) (eBin oIx (eLook 2) (eD (.int 2)))) [2])) vNil))
noncomputable def m__law_awake : List Sl → R Sl := hid (runB 3 b__law_awake)
theorem m__law_awake_eq : m__law_awake = runB 3 b__law_awake := hid_eq _
-- _law_whole: 0:found
noncomputable def b__law_whole : Sv :=
  sRet (eAnd (eIsi isIntD (eLook 0)) (eNot (eIsi isBoolD (eLook 0))))
noncomputable def m__law_whole : List Sl → R Sl := hid (runB 1 b__law_whole)
theorem m__law_whole_eq : m__law_whole = runB 1 b__law_whole := hid_eq _
-- _law_meet: 0:one 1:other 2:shift 3:mine 4:yours 5:by 6:apart
noncomputable def t__law_meet_1 : Sv :=
  sSeq (sIf (tst (eBin oLt (eBin oMod (eBin oSub (eBin oAdd (eLook 6) (eBin oIx (eLook 4) (eD (.int 2)))) (eD (.int 1))) (eLook 5)) (eBin oSub (eBin oAdd (eBin oIx (eLook 3) (eD (.int 2))) (eBin oIx (eLook 4) (eD (.int 2)))) (eD (.int 1))))) (sRet (eD (.bl true))) (sNx)) (sKill 6 (sKill 5 (sKill 4 (sNx))))
noncomputable def t__law_meet_2 : Sv :=
  sSeq (sAsg (eBin oAdd (eBin oSub (eLook 2) (eBin oIx (eLook 3) (eD (.int 1)))) (eBin oIx (eLook 4) (eD (.int 1)))) (gSet 6)) (t__law_meet_1)
noncomputable def u__law_meet_3 : Sv :=
  sSeq (sAsg (eApp m__law_divisor (aVal (eBin oIx (eLook 3) (eD (.int 0))) (aVal (eBin oIx (eLook 4) (eD (.int 0))) (aNil)))) (gSet 5)) (t__law_meet_2)
noncomputable def u__law_meet_4 : Sv :=
  sSeq (sFor (iVar 1) (gSet 4) (u__law_meet_3)) (sKill 6 (sKill 5 (sKill 3 (sKill 4 (sNx)))))
noncomputable def b__law_meet : Sv :=
  sSeq (sFor (iVar 0) (gSet 3) (u__law_meet_4)) (sRet (eD (.bl false)))
noncomputable def m__law_meet : List Sl → R Sl := hid (runB 7 b__law_meet)
theorem m__law_meet_eq : m__law_meet = runB 7 b__law_meet := hid_eq _
-- _law_awake_2: 0:plan 1:turn 2:row
noncomputable def u__law_awake_2_1 : Sv :=
  sSeq (sIf (tst (eBin oLt (eBin oMod (eBin oSub (eLook 1) (eBin oIx (eLook 2) (eD (.int 1)))) (eBin oIx (eLook 2) (eD (.int 0)))) (eBin oIx (eLook 2) (eD (.int 2))))) (sRet (eD (.bl true))) (sNx)) (sKill 2 (sNx))
noncomputable def b__law_awake_2 : Sv :=
  sSeq (sFor (iVar 0) (gSet 2) (u__law_awake_2_1)) (sRet (eD (.bl false)))
noncomputable def m__law_awake_2 : List Sl → R Sl := hid (runB 3 b__law_awake_2)
theorem m__law_awake_2_eq : m__law_awake_2 = runB 3 b__law_awake_2 := hid_eq _
end Mi.Sh

namespace Mi.Sh
open PySem PySem.Spec L2 Mi
theorem gcd_gOf {s p : Nat} (hp : 0 < p) : ((Nat.gcd s p : Nat) : Int) = gOf (p : Int) (s : Int) := by
  unfold gOf
  rw [Int.toNat_natCast, show ((s : Int) % (p : Int)) = ((s % p : Nat) : Int) from (Int.natCast_emod s p).symm, Int.toNat_natCast, Nat.gcd_comm s p, Nat.gcd_rec p s, Nat.gcd_comm]
theorem divisor_gOf {s p : Int} (hs : 0 ≤ s) (hp : 0 < p) : m_divisor [.sh (.int s), .sh (.int p)] = .ok (.sh (.int (gOf p s))) := by
  have h := divisor_nat s.toNat p.toNat
  rw [gcd_gOf (by omega)] at h
  rwa [Int.toNat_of_nonneg hs, Int.toNat_of_nonneg (by omega)] at h
/-- all numbers of a part are awake turns -/
def Lies (p f l s r : Int) : Prop := ∀ k : Int, 0 ≤ k → (r + s * k - f) % p < l
theorem lies_iff {p f l s r : Int} (hp : 0 < p) (l1 : 1 ≤ l) (l2 : l ≤ p) : p - l ≤ (r - f - l) % gOf p s ↔ Lies p f l s r := by
  have h := hitF_ex (st := r - f - l) (sp := s) (m := p - l) hp
  have key : ∀ k, HitF (r - f - l) s p (p - l) k ↔ ¬ (r + s * k - f) % p < l := fun k => by
    unfold HitF
    have e : r - f - l + s * k = r + s * k - f - l := by omega
    have a0 := Int.emod_nonneg (r + s * k - f) (show p ≠ 0 by omega)
    have a1 := Int.emod_lt_of_pos (r + s * k - f) hp
    rw [e, Int.sub_emod (r + s * k - f) l]
    by_cases z : l = p
    · rw [z, Int.emod_self, Int.sub_zero, Int.emod_emod_of_dvd _ (Int.dvd_refl p)]
      omega
    · rw [Int.emod_eq_of_lt (a := l) (by omega) (by omega)]
      generalize (r + s * k - f) % p = v at *
      by_cases y : v < l
      · rw [emod_of (q := -1) (r := v - l + p) (by omega) (by omega) (by omega)]
        omega
      · rw [Int.emod_eq_of_lt (by omega) (by omega)]
        omega
  constructor
  · intro q k k0
    by_cases z : (r + s * k - f) % p < l
    · exact z
    · have := h.mp ⟨k, k0, (key k).mpr z⟩
      omega
  · intro q
    rcases Int.lt_or_le ((r - f - l) % gOf p s) (p - l) with z | z
    · obtain ⟨k, k0, hk⟩ := h.mpr z
      exact absurd (q k k0) ((key k).mp hk)
    · exact z
def partD (q : Int × Int) : D := .tup [.int q.1, .int q.2]
open Classical in
theorem lies_in_ok {w : Wk3} {q : Int × Int} (hp : 1 ≤ w.1) (l1 : 1 ≤ w.2.2) (l2 : w.2.2 ≤ w.1) (hs : 0 ≤ q.1) : m_lies_in [.sh (wkD w), .sh (partD q)] = .ok (.sh (.bl (decide (Lies w.1 w.2.1 w.2.2 q.1 q.2)))) := by
  have hp0 : 0 < w.1 := by omega
  have e := divisor_gOf hs hp0
  have g := gOf_pos (sp := q.1) hp0
  rw [m_lies_in_eq]
  refine runB_rt ?_
  have z : decide (Lies w.1 w.2.1 w.2.2 q.1 q.2) = decide (w.1 - w.2.2 ≤ (q.2 - w.2.1 - w.2.2) % gOf w.1 q.1) := decide_eq_decide.mpr (lies_iff hp0 l1 l2).symm
  rw [z]
  simp [b_lies_in, t_lies_in_1, wkD, partD, e, g]
theorem lies_mod {p f l s r : Int} (hp : 0 < p) (h : ∀ k : Int, 0 ≤ k → k < p → (r + s * k - f) % p < l) : Lies p f l s r := fun k k0 => by
  have := h (k % p) (Int.emod_nonneg _ (by omega)) (Int.emod_lt_of_pos _ hp)
  have e : (r + s * (k % p) - f) % p = (r + s * k - f) % p := by
    have d := Int.emod_add_mul_ediv k p
    have : r + s * k - f = (r + s * (k % p) - f) + p * (s * (k / p)) := by
      conv => lhs; rw [← d]
      grind
    rw [this, Int.add_mul_emod_self_left]
  rwa [e] at this
end Mi.Sh

namespace Mi.Sh
open PySem PySem.Spec L2 Mi
/-- both wakings are awake together at some turn, at this shift -/
def Both (u v : Wk3) (sh : Int) : Prop := ∃ t : Int, (t - u.2.1) % u.1 < u.2.2 ∧ (t - sh - v.2.1) % v.1 < v.2.2
theorem both_iff {p1 f1 l1 p2 f2 l2 sh : Int} (h1 : 0 < p1) (h2 : 0 < p2) (a1 : 1 ≤ l1) (a2 : l1 ≤ p1) (b1 : 1 ≤ l2) (b2 : l2 ≤ p2) :
    (∃ t : Int, (t - f1) % p1 < l1 ∧ (t - sh - f2) % p2 < l2) ↔ (sh - (f1 - f2 - l2 + 1)) % gOf p2 p1 < min (gOf p2 p1) (l1 + l2 - 1) := by
  have gp := gOf_pos (sp := p1) h2
  have gd := gOf_w (sp := p1) h2
  have gs := gOf_sp (sp := p1) h2
  constructor
  · rintro ⟨t, ht1, ht2⟩
    have d1 := Int.emod_add_mul_ediv (t - f1) p1
    have d2 := Int.emod_add_mul_ediv (t - sh - f2) p2
    have m1 := Int.emod_nonneg (t - f1) (show p1 ≠ 0 by omega)
    have m2 := Int.emod_nonneg (t - sh - f2) (show p2 ≠ 0 by omega)
    generalize (t - f1) % p1 = a at *
    generalize (t - sh - f2) % p2 = b at *
    obtain ⟨k1, hk1⟩ := gs
    obtain ⟨k2, hk2⟩ := gd
    have e : (sh - (f1 - f2 - l2 + 1)) = (a - b + l2 - 1) + gOf p2 p1 * (k1 * ((t - f1) / p1) - k2 * ((t - sh - f2) / p2)) := by
      have e1 : gOf p2 p1 * (k1 * ((t - f1) / p1)) = p1 * ((t - f1) / p1) := by
        conv => rhs; lhs; rw [hk1]
        rw [Int.mul_assoc]
      have e2 : gOf p2 p1 * (k2 * ((t - sh - f2) / p2)) = p2 * ((t - sh - f2) / p2) := by
        have : p2 * ((t - sh - f2) / p2) = gOf p2 p1 * k2 * ((t - sh - f2) / p2) := congrArg (· * ((t - sh - f2) / p2)) hk2
        rw [this, Int.mul_assoc]
      rw [Int.mul_sub, e1, e2]
      omega
    rw [e, Int.add_mul_emod_self_left]
    have y0 : 0 ≤ a - b + l2 - 1 := by omega
    have := emod_le_self y0 gp
    have := Int.emod_lt_of_pos (a - b + l2 - 1) gp
    omega
  · intro hx
    have x0 := Int.emod_nonneg (sh - (f1 - f2 - l2 + 1)) (show gOf p2 p1 ≠ 0 by omega)
    have d := Int.emod_add_mul_ediv (sh - (f1 - f2 - l2 + 1)) (gOf p2 p1)
    generalize (sh - (f1 - f2 - l2 + 1)) % gOf p2 p1 = x at *
    generalize (sh - (f1 - f2 - l2 + 1)) / gOf p2 p1 = q at *
    obtain ⟨a, b, ha0, ha1, hb0, hb1, hab⟩ : ∃ a b : Int, 0 ≤ a ∧ a < l1 ∧ 0 ≤ b ∧ b < l2 ∧ a - b + l2 - 1 = x := by
      by_cases z : l2 - 1 ≤ x
      · exact ⟨x - (l2 - 1), 0, by omega, by omega, by omega, by omega, by omega⟩
      · exact ⟨0, l2 - 1 - x, by omega, by omega, by omega, by omega, by omega⟩
    obtain ⟨i, _, hi⟩ := gOf_bez (sp := p1) h2
    refine ⟨f1 + a + p1 * (i * q), ?_, ?_⟩
    · rw [show f1 + a + p1 * (i * q) - f1 = a + p1 * (i * q) by omega, Int.add_mul_emod_self_left, Int.emod_eq_of_lt ha0 (by omega)]
      exact ha1
    · have e1 : (p1 * (i * q)) % p2 = (gOf p2 p1 * q) % p2 := by
        rw [← Int.mul_assoc, Int.mul_emod, hi, ← Int.mul_emod]
      have e2 : f1 + a + p1 * (i * q) - sh - f2 = (b - gOf p2 p1 * q) + p1 * (i * q) := by omega
      rw [e2, Int.add_emod, e1, ← Int.add_emod, show b - gOf p2 p1 * q + gOf p2 p1 * q = b by omega, Int.emod_eq_of_lt hb0 (by omega)]
      exact hb1
def shW (u v : Wk3) : Wk3 := (gOf v.1 u.1, (u.2.1 - v.2.1 - v.2.2 + 1) % gOf v.1 u.1, min (gOf v.1 u.1) (u.2.2 + v.2.2 - 1))
structure Wak (w : Wk3) : Prop where
  p1 : 1 ≤ w.1
  l1 : 1 ≤ w.2.2
  l2 : w.2.2 ≤ w.1
theorem shW_iff {u v : Wk3} (hu : Wak u) (hv : Wak v) {sh : Int} : (sh - (shW u v).2.1) % (shW u v).1 < (shW u v).2.2 ↔ Both u v sh := by
  have p := hu.p1
  have q := hv.p1
  unfold Both
  rw [both_iff (by omega) (by omega) hu.l1 hu.l2 hv.l1 hv.l2]
  show (sh - (u.2.1 - v.2.1 - v.2.2 + 1) % gOf v.1 u.1) % gOf v.1 u.1 < _ ↔ _
  rw [Int.sub_emod, Int.emod_emod_of_dvd _ (Int.dvd_refl _), ← Int.sub_emod]
  exact Iff.rfl
theorem shW_good {u v : Wk3} (hu : Wak u) (hv : Wak v) : 1 ≤ (shW u v).1 ∧ 0 ≤ (shW u v).2.1 ∧ (shW u v).2.1 < (shW u v).1 ∧ 1 ≤ (shW u v).2.2 ∧ (shW u v).2.2 ≤ (shW u v).1 := by
  have p := hu.p1
  have q := hv.p1
  have gp := gOf_pos (w := v.1) (sp := u.1) (by omega)
  have a := hu.l1
  have b := hv.l1
  refine ⟨gp, Int.emod_nonneg _ (by omega), Int.emod_lt_of_pos _ gp, ?_, ?_⟩
  · show 1 ≤ min (gOf v.1 u.1) (u.2.2 + v.2.2 - 1)
    omega
  · show min (gOf v.1 u.1) (u.2.2 + v.2.2 - 1) ≤ gOf v.1 u.1
    omega
theorem shifts_of_two_ok {u v : Wk3} (hu : Wak u) (hv : Wak v) : m_shifts_of_two [.sh (wkD u), .sh (wkD v)] = .ok (.sh (wkD (shW u v))) := by
  have p := hu.p1
  have q := hv.p1
  have e := divisor_gOf (s := u.1) (p := v.1) (by omega) (by omega)
  have gp := gOf_pos (w := v.1) (sp := u.1) (by omega)
  rw [m_shifts_of_two_eq]
  refine runB_rt ?_
  simp [b_shifts_of_two, t_shifts_of_two_1, wkD, shW, e, gp]
end Mi.Sh

namespace Mi
open PySem PySem.Spec L2
theorem forR_list {τ : Type} {gt : Gt} {u : Sv} (val : τ → D) (I : List τ → En → Prop) : ∀ (xs done : List τ) (ρ : En), I done ρ → (∀ done x ρ, x ∈ xs → I done ρ → ∃ ρ', turnB gt u (val x) ρ = .nx ρ' ∧ I (done ++ [x]) ρ') → ∃ ρ', forR gt u (xs.map val) ρ = .nx ρ' ∧ I (done ++ xs) ρ'
  | [], done, ρ, i, _ => ⟨ρ, rfl, by rw [List.append_nil]; exact i⟩
  | x :: xs, done, ρ, i, h => by
    obtain ⟨ρ', h1, h2⟩ := h done x ρ (List.mem_cons_self ..) i
    obtain ⟨ρ2, h3, h4⟩ := forR_list val I xs (done ++ [x]) ρ' h2 fun d y ρ hy => h d y ρ (List.mem_cons_of_mem _ hy)
    exact ⟨ρ2, by rw [List.map_cons, forR_nx h1]; exact h3, by rw [List.append_assoc] at h4; exact h4⟩
end Mi
namespace Mi.Sh
open PySem PySem.Spec L2 Mi
/-- the least turn from one on of which P holds -/
def LeastT (P : Int → Prop) (from_ : Int) : Option Int → Prop
  | some t => from_ ≤ t ∧ P t ∧ ∀ t', from_ ≤ t' → t' < t → ¬ P t'
  | none => ∀ t, from_ ≤ t → ¬ P t
theorem LeastT.congr {P Q : Int → Prop} {a : Int} {o : Option Int} (h : LeastT P a o) (e : ∀ t, a ≤ t → (P t ↔ Q t)) : LeastT Q a o := by
  cases o with
  | none => exact fun t ht q => h t ht ((e t ht).mpr q)
  | some t => exact ⟨h.1, (e t h.1).mp h.2.1, fun t' h1 h2 q => h.2.2 t' h1 h2 ((e t' h1).mpr q)⟩
theorem LeastT.uni {P : Int → Prop} {a : Int} {o o' : Option Int} (h : LeastT P a o) (h' : LeastT P a o') : o = o' := by
  cases o with
  | none =>
    cases o' with
    | none => rfl
    | some c => exact absurd h'.2.1 (h c h'.1)
  | some c =>
    cases o' with
    | none => exact absurd h.2.1 (h' c h.1)
    | some c' =>
      have : c = c' := by
        rcases Int.lt_trichotomy c c' with z | z | z
        · exact absurd h.2.1 (h'.2.2 c h.1 z)
        · exact z
        · exact absurd h'.2.1 (h.2.2 c' h'.1 z)
      rw [this]
def minO : Option Int → Option Int → Option Int
  | none, o => o
  | o, none => o
  | some a, some b => some (min a b)
theorem LeastT.or {P Q : Int → Prop} {a : Int} {o o' : Option Int} (h : LeastT P a o) (h' : LeastT Q a o') : LeastT (fun t => P t ∨ Q t) a (minO o o') := by
  cases o with
  | none =>
    have e : minO none o' = o' := by cases o' <;> rfl
    rw [e]
    exact h'.congr fun t ht => ⟨.inr, fun z => z.resolve_left (h t ht)⟩
  | some c =>
    cases o' with
    | none => exact (show LeastT P a (some c) from h).congr fun t ht => ⟨.inl, fun z => z.resolve_right (h' t ht)⟩
    | some c' =>
      refine ⟨by have := h.1; have := h'.1; omega, ?_, fun t h1 h2 q => ?_⟩
      · rcases Int.le_total c c' with z | z
        · rw [Int.min_eq_left z]; exact .inl h.2.1
        · rw [Int.min_eq_right z]; exact .inr h'.2.1
      · rcases q with q | q
        · exact h.2.2 t h1 (by omega) q
        · exact h'.2.2 t h1 (by omega) q
theorem LeastT.shift {P : Int → Prop} {a s : Int} {o : Option Int} (h : LeastT P (a - s) o) : LeastT (fun t => P (t - s)) a (o.map (· + s)) := by
  cases o with
  | none => exact fun t ht => h (t - s) (by omega)
  | some c =>
    refine ⟨?_, ?_, fun t h1 h2 => h.2.2 (t - s) (by omega) ?_⟩
    · have := h.1
      show a ≤ c + s
      omega
    · show P (c + s - s)
      rw [Int.add_sub_cancel]
      exact h.2.1
    · have : t < c + s := h2
      omega
/-- the first begin of a waking from a turn on in which another one is awake -/
def BeginIn (w : Wk3) (first : Int) (v : Wk3) (t : Int) : Prop := (t - w.2.1) % w.1 = 0 ∧ (t - first) % v.1 < v.2.2
structure WB (b : Nat) (w : Wk3) : Prop where
  wak : Wak w
  bd : Bd b w.1
theorem begun_ok {b : Nat} (hb : b < 8000) {w v : Wk3} {first turn : Int} (hw : WB b w) (hv : WB b v) : ∃ o, LeastT (BeginIn w first v) turn o ∧ m_begun [.sh (wkD w), .sh (.int first), .sh (wkD v), .sh (.int turn)] = .ok (.sh (optD o)) := by
  have p1 := hw.wak.p1
  have q1 := hv.wak.p1
  have p0 : 0 < w.1 := by omega
  have q0 : 0 < v.1 := by omega
  obtain ⟨o, ho, e⟩ := first_hit_ok (b := b) (st := turn + (w.2.1 - turn) % w.1 - first) (sp := w.1) (m := v.2.2) hb q0 hv.bd hv.wak.l1
  have d := Int.emod_add_mul_ediv (w.2.1 - turn) w.1
  have d0 := Int.emod_nonneg (w.2.1 - turn) (show w.1 ≠ 0 by omega)
  have d1 := Int.emod_lt_of_pos (w.2.1 - turn) p0
  obtain ⟨st, hst⟩ : ∃ st, st = turn + (w.2.1 - turn) % w.1 := ⟨_, rfl⟩
  rw [← hst] at ho e
  have hb1 : ∀ c, HitF (st - first) w.1 v.1 v.2.2 c ↔ BeginIn w first v (st + w.1 * c) := fun c => by
    unfold HitF BeginIn
    have e1 : (st + w.1 * c - w.2.1) % w.1 = 0 := by
      have : st + w.1 * c - w.2.1 = w.1 * (c - (w.2.1 - turn) / w.1) := by
        rw [Int.mul_sub]
        omega
      rw [this, Int.mul_emod_right]
    rw [show st - first + w.1 * c = st + w.1 * c - first by omega]
    exact ⟨fun z => ⟨e1, z⟩, fun z => z.2⟩
  have hb2 : ∀ t, turn ≤ t → BeginIn w first v t → ∃ c, 0 ≤ c ∧ t = st + w.1 * c := fun t ht hB => by
    obtain ⟨k, hk⟩ := Int.dvd_of_emod_eq_zero hB.1
    refine ⟨k + (w.2.1 - turn) / w.1, ?_, ?_⟩
    · rcases Int.lt_or_le (k + (w.2.1 - turn) / w.1) 0 with z | z
      · exfalso
        have h1 : w.1 * (k + (w.2.1 - turn) / w.1) ≤ w.1 * (-1) := Int.mul_le_mul_of_nonneg_left (by omega) (by omega)
        rw [Int.mul_add] at h1
        omega
      · exact z
    · rw [Int.mul_add]
      omega
  refine ⟨o.map fun c => st + w.1 * c, ?_, ?_⟩
  · cases o with
    | none =>
      intro t ht hB
      obtain ⟨c, c0, rfl⟩ := hb2 t ht hB
      exact ho c c0 ((hb1 c).mpr hB)
    | some c =>
      have c0 := ho.1
      have : 0 ≤ w.1 * c := Int.mul_nonneg (by omega) c0
      refine ⟨by show turn ≤ st + w.1 * c; omega, (hb1 c).mp ho.2.1, fun t ht1 ht2 hB => ?_⟩
      obtain ⟨c', c0', rfl⟩ := hb2 t ht1 hB
      have hlt : w.1 * c' < w.1 * c := by
        have : st + w.1 * c' < st + w.1 * c := ht2
        omega
      exact ho.2.2 c' c0' (Int.lt_of_mul_lt_mul_left hlt (by omega)) ((hb1 c').mpr hB)
  · rw [m_begun_eq]
    refine runB_rt ?_
    cases o with
    | none =>
      simp only [optD, wkD] at e ⊢
      simp [b_begun, t_begun_2, t_begun_1, p0, ← hst, e, optD]
    | some c =>
      have c1 := ho.lt q0
      have c0 := ho.1
      have : v.1 / gOf v.1 w.1 ≤ v.1 := Int.ediv_le_self _ (by omega)
      have bc : Bd b c := ⟨by have := hv.bd.lt; omega⟩
      have m1 : mulOk w.1 c = true := @mulOk_i b b _ _ hw.bd bc (by rw [Nat.blt_eq]; omega)
      simp only [optD, wkD] at e ⊢
      simp [b_begun, t_begun_2, t_begun_1, p0, ← hst, e, m1, optD]
/-- both awake -/
def AwW (w : Wk3) (t : Int) : Prop := (t - w.2.1) % w.1 < w.2.2
def BothAt (u v : Wk3) (sh t : Int) : Prop := AwW u t ∧ AwW v (t - sh)
def BegB (u v : Wk3) (sh t : Int) : Prop := BeginIn u (v.2.1 + sh) v t ∨ BeginIn v (u.2.1 - sh) u (t - sh)
theorem next_of_two_ok {b : Nat} (hb : b < 8000) {u v : Wk3} {sh turn : Int} (hu : WB b u) (hv : WB b v) : ∃ o, LeastT (BegB u v sh) turn o ∧ m_next_of_two [.sh (wkD u), .sh (wkD v), .sh (.int sh), .sh (.int turn)] = .ok (.sh (optD o)) := by
  obtain ⟨o1, h1, e1⟩ := begun_ok (first := v.2.1 + sh) (turn := turn) hb hu hv
  obtain ⟨o2, h2, e2⟩ := begun_ok (first := u.2.1 - sh) (turn := turn - sh) hb hv hu
  refine ⟨minO o1 (o2.map (· + sh)), h1.or h2.shift, ?_⟩
  rw [m_next_of_two_eq]
  refine runB_rt ?_
  simp only [wkD] at e1 e2 ⊢
  cases o1 with
  | none =>
    cases o2 with
    | none =>
      simp only [optD] at e1 e2
      simp [b_next_of_two, t_next_of_two_2, t_next_of_two_1, e1, e2, minO, optD]
    | some c =>
      simp only [optD] at e1 e2
      simp [b_next_of_two, t_next_of_two_2, t_next_of_two_1, e1, e2, minO, optD]
  | some c1 =>
    cases o2 with
    | none =>
      simp only [optD] at e1 e2
      simp [b_next_of_two, t_next_of_two_2, t_next_of_two_1, e1, e2, minO, optD]
    | some c =>
      simp only [optD] at e1 e2
      simp [b_next_of_two, t_next_of_two_2, t_next_of_two_1, e1, e2, minO, optD]
theorem begins {w : Wk3} {t : Int} (hw : Wak w) (h : AwW w t) (h' : ¬ AwW w (t - 1)) : (t - w.2.1) % w.1 = 0 := by
  unfold AwW at h h'
  have p1 := hw.p1
  have d := Int.emod_add_mul_ediv (t - w.2.1) w.1
  have d0 := Int.emod_nonneg (t - w.2.1) (show w.1 ≠ 0 by omega)
  have d1 := Int.emod_lt_of_pos (t - w.2.1) (show 0 < w.1 by omega)
  by_cases z : (t - w.2.1) % w.1 = 0
  · exact z
  · exfalso
    have e : (t - 1 - w.2.1) % w.1 = (t - w.2.1) % w.1 - 1 := emod_of (q := (t - w.2.1) / w.1) (by omega) (by omega) (by omega)
    omega
theorem begB_both {u v : Wk3} {sh t : Int} (hu : Wak u) (hv : Wak v) (h : BegB u v sh t) : BothAt u v sh t := by
  rcases h with ⟨h1, h2⟩ | ⟨h1, h2⟩
  · refine ⟨?_, ?_⟩
    · unfold AwW
      rw [h1]
      have := hu.l1
      omega
    · unfold AwW
      rw [show t - sh - v.2.1 = t - (v.2.1 + sh) by omega]
      exact h2
  · refine ⟨?_, ?_⟩
    · unfold AwW
      rw [show t - u.2.1 = t - sh - (u.2.1 - sh) by omega]
      exact h2
    · unfold AwW
      rw [h1]
      have := hv.l1
      omega
theorem both_beg {u v : Wk3} {sh t : Int} (hu : Wak u) (hv : Wak v) (h : BothAt u v sh t) (h' : ¬ BothAt u v sh (t - 1)) : BegB u v sh t := by
  by_cases z : AwW u (t - 1)
  · have z2 : ¬ AwW v (t - sh - 1) := fun y => h' ⟨z, by rw [show t - 1 - sh = t - sh - 1 by omega]; exact y⟩
    refine .inr ⟨begins hv h.2 z2, ?_⟩
    rw [show t - sh - (u.2.1 - sh) = t - u.2.1 by omega]
    exact h.1
  · refine .inl ⟨begins hu h.1 z, ?_⟩
    rw [show t - (v.2.1 + sh) = t - sh - v.2.1 by omega]
    exact h.2
theorem awk_iff {ws : List Wk3} {t : Int} : awk ws t = true ↔ ∃ w ∈ ws, AwW w t := by
  unfold awk AwW
  rw [List.any_eq_true]
  exact ⟨fun ⟨w, h1, h2⟩ => ⟨w, h1, of_decide_eq_true h2⟩, fun ⟨w, h1, h2⟩ => ⟨w, h1, decide_eq_true h2⟩⟩
/-- both plans awake -/
def TogP (us vs : List Wk3) (sh t : Int) : Prop := awk us t = true ∧ awk vs (t - sh) = true
theorem togP_iff {us vs : List Wk3} {sh t : Int} : TogP us vs sh t ↔ ∃ u ∈ us, ∃ v ∈ vs, BothAt u v sh t := by
  unfold TogP
  rw [awk_iff, awk_iff]
  exact ⟨fun ⟨⟨u, h1, h2⟩, v, h3, h4⟩ => ⟨u, h1, v, h3, h2, h4⟩, fun ⟨u, h1, v, h3, h2, h4⟩ => ⟨⟨u, h1, h2⟩, v, h3, h4⟩⟩
/-- from a turn on at which they are not together: the least begin is the least turn together -/
theorem least_tog {us vs : List Wk3} {sh turn : Int} (hu : ∀ u ∈ us, Wak u) (hv : ∀ v ∈ vs, Wak v) (hn : ¬ TogP us vs sh turn) {o : Option Int} (h : LeastT (fun t => ∃ u ∈ us, ∃ v ∈ vs, BegB u v sh t) turn o) : LeastT (TogP us vs sh) turn o := by
  -- any turn together has a begin at it or ahead of it
  have key : ∀ (n : Nat) t, turn ≤ t → t ≤ turn + n → TogP us vs sh t → ∃ t', turn ≤ t' ∧ t' ≤ t ∧ ∃ u ∈ us, ∃ v ∈ vs, BegB u v sh t' := by
    intro n
    induction n with
    | zero =>
      intro t h1 h2 q
      have : t = turn := by omega
      exact absurd (this ▸ q) hn
    | succ n ih =>
      intro t h1 h2 q
      obtain ⟨u, hu1, v, hv1, hb⟩ := togP_iff.mp q
      by_cases z : BothAt u v sh (t - 1)
      · by_cases y : turn ≤ t - 1
        · obtain ⟨t', a, b, c⟩ := ih (t - 1) y (by omega) (togP_iff.mpr ⟨u, hu1, v, hv1, z⟩)
          exact ⟨t', a, by omega, c⟩
        · have : t = turn := by omega
          exact absurd (this ▸ q) hn
      · exact ⟨t, h1, Int.le_refl _, u, hu1, v, hv1, both_beg (hu u hu1) (hv v hv1) hb z⟩
  have to : ∀ t, (∃ u ∈ us, ∃ v ∈ vs, BegB u v sh t) → TogP us vs sh t := fun t ⟨u, h1, v, h2, h3⟩ => togP_iff.mpr ⟨u, h1, v, h2, begB_both (hu u h1) (hv v h2) h3⟩
  cases o with
  | none =>
    intro t ht q
    obtain ⟨t', a, _, c⟩ := key (t - turn).toNat t ht (by omega) q
    exact h t' a c
  | some c =>
    refine ⟨h.1, to c h.2.1, fun t h1 h2 q => ?_⟩
    obtain ⟨t', a, b, d⟩ := key (t - turn).toNat t h1 (by omega) q
    exact h.2.2 t' a (by omega) d
theorem together_ok {us vs : List Wk3} {sh t : Int} (hu : ∀ u ∈ us, 1 ≤ u.1) (hv : ∀ v ∈ vs, 1 ≤ v.1) : m_together [.sh (.lst (us.map wkD)), .sh (.lst (vs.map wkD)), .sh (.int sh), .sh (.int t)] = .ok (.sh (.bl (awk us t && awk vs (t - sh)))) := by
  have a1 := awake_ok (t := t) hu (.inl rfl)
  have a2 := awake_ok (t := t - sh) hv (.inl rfl)
  rw [m_together_eq]
  refine runB_rt ?_
  cases h : awk us t with
  | true =>
    rw [h] at a1
    simp [b_together, a1, a2]
  | false =>
    rw [h] at a1
    simp [b_together, a1]
theorem next_together_ok {b : Nat} (hb : b < 8000) {us vs : List Wk3} {sh turn : Int} (hu : ∀ u ∈ us, WB b u) (hv : ∀ v ∈ vs, WB b v) :
    ∃ o, LeastT (TogP us vs sh) turn o ∧ m_next_together [.sh (.lst (us.map wkD)), .sh (.lst (vs.map wkD)), .sh (.int sh), .sh (.int turn)] = .ok (.sh (optD o)) := by
  have tg := together_ok (sh := sh) (t := turn) (fun u h => (hu u h).wak.p1) (fun v h => (hv v h).wak.p1)
  rw [m_next_together_eq]
  by_cases h0 : TogP us vs sh turn
  · refine ⟨some turn, ⟨Int.le_refl _, h0, fun t h1 h2 => by omega⟩, runB_rt ?_⟩
    rw [h0.1, h0.2] at tg
    simp [b_next_together, tg, optD]
  · have ht : (awk us turn && awk vs (turn - sh)) = false := by
      cases z : (awk us turn && awk vs (turn - sh)) with
      | true => rw [Bool.and_eq_true] at z; exact absurd z h0
      | false => rfl
    rw [ht] at tg
    -- one pair more
    have stp : ∀ (u v : Wk3) (best : Option Int) (Q : Int → Prop), u ∈ us → v ∈ vs → LeastT Q turn best → ∃ best', LeastT (fun t => Q t ∨ BegB u v sh t) turn best' ∧
        turnB (gSet 6) u_next_together_2 (wkD v) [some (.sh (.lst (us.map wkD))), some (.sh (.lst (vs.map wkD))), some (.sh (.int sh)), some (.sh (.int turn)), some (.sh (optD best)), some (.sh (wkD u)), none, none] =
          .nx [some (.sh (.lst (us.map wkD))), some (.sh (.lst (vs.map wkD))), some (.sh (.int sh)), some (.sh (.int turn)), some (.sh (optD best')), some (.sh (wkD u)), none, none] := fun u v best Q h1 h2 hQ => by
      obtain ⟨o, ho, e⟩ := next_of_two_ok (sh := sh) (turn := turn) hb (hu u h1) (hv v h2)
      refine ⟨minO best o, hQ.or ho, ?_⟩
      cases o with
      | none =>
        have z : minO best none = best := by cases best <;> rfl
        rw [z]
        simp only [optD] at e
        simp [turnB, u_next_together_2, t_next_together_1, e]
      | some c =>
        simp only [optD] at e
        cases best with
        | none => simp [turnB, u_next_together_2, t_next_together_1, e, optD, minO]
        | some c' =>
          by_cases z : c < c'
          · have y : min c' c = c := Int.min_eq_right (by omega)
            simp [turnB, u_next_together_2, t_next_together_1, e, optD, minO, z, y]
          · have y : min c' c = c' := Int.min_eq_left (by omega)
            simp [turnB, u_next_together_2, t_next_together_1, e, optD, minO, z, y]
    have inner : ∀ (u : Wk3) (best : Option Int) (Q : Int → Prop), u ∈ us → LeastT Q turn best → ∃ best', LeastT (fun t => Q t ∨ ∃ v ∈ vs, BegB u v sh t) turn best' ∧
        forR (gSet 6) u_next_together_2 (vs.map wkD) [some (.sh (.lst (us.map wkD))), some (.sh (.lst (vs.map wkD))), some (.sh (.int sh)), some (.sh (.int turn)), some (.sh (optD best)), some (.sh (wkD u)), none, none] =
          .nx [some (.sh (.lst (us.map wkD))), some (.sh (.lst (vs.map wkD))), some (.sh (.int sh)), some (.sh (.int turn)), some (.sh (optD best')), some (.sh (wkD u)), none, none] := fun u best Q h1 hQ => by
      obtain ⟨ρ, e, best', hb', rfl⟩ := forR_list (gt := gSet 6) (u := u_next_together_2) wkD (fun done ρ => ∃ best', LeastT (fun t => Q t ∨ ∃ v ∈ done, BegB u v sh t) turn best' ∧ ρ = [some (.sh (.lst (us.map wkD))), some (.sh (.lst (vs.map wkD))), some (.sh (.int sh)), some (.sh (.int turn)), some (.sh (optD best')), some (.sh (wkD u)), none, none]) vs [] _
        ⟨best, hQ.congr fun t _ => ⟨.inl, fun z => z.resolve_right fun ⟨v, hv, _⟩ => absurd hv List.not_mem_nil⟩, rfl⟩ fun done v ρ hv2 ⟨b1, hb1, hρ⟩ => by
          subst hρ
          obtain ⟨b2, hb2, e2⟩ := stp u v b1 _ h1 hv2 hb1
          refine ⟨_, e2, b2, hb2.congr fun t _ => ?_, rfl⟩
          constructor
          · rintro ((q | ⟨w, hw, q⟩) | q)
            · exact .inl q
            · exact .inr ⟨w, List.mem_append_left _ hw, q⟩
            · exact .inr ⟨v, List.mem_append_right _ (List.mem_singleton.mpr rfl), q⟩
          · rintro (q | ⟨w, hw, q⟩)
            · exact .inl (.inl q)
            · rcases List.mem_append.mp hw with hw | hw
              · exact .inl (.inr ⟨w, hw, q⟩)
              · rw [List.mem_singleton.mp hw] at q
                exact .inr q
      rw [List.nil_append] at hb'
      exact ⟨best', hb', e⟩
    obtain ⟨ρ, e, best, hb', rfl⟩ := forR_list (gt := gSet 5) (u := u_next_together_3) wkD (fun done ρ => ∃ best', LeastT (fun t => ∃ u ∈ done, ∃ v ∈ vs, BegB u v sh t) turn best' ∧ ρ = [some (.sh (.lst (us.map wkD))), some (.sh (.lst (vs.map wkD))), some (.sh (.int sh)), some (.sh (.int turn)), some (.sh (optD best')), none, none, none]) us [] _
      ⟨none, fun t _ ⟨u, hu, _⟩ => absurd hu List.not_mem_nil, rfl⟩ fun done u ρ hu2 ⟨b1, hb1, hρ⟩ => by
        subst hρ
        obtain ⟨b2, hb2, e2⟩ := inner u b1 _ hu2 hb1
        have e3 := sFor_at (f := iVar 1) rfl e2
        refine ⟨_, ?_, b2, hb2.congr fun t _ => ?_, rfl⟩
        · simp [turnB, u_next_together_3, e3]
        · constructor
          · rintro (⟨w, hw, q⟩ | q)
            · exact ⟨w, List.mem_append_left _ hw, q⟩
            · exact ⟨u, List.mem_append_right _ (List.mem_singleton.mpr rfl), q⟩
          · rintro ⟨w, hw, q⟩
            rcases List.mem_append.mp hw with hw | hw
            · exact .inl ⟨w, hw, q⟩
            · rw [List.mem_singleton.mp hw] at q
              exact .inr q
    rw [List.nil_append] at hb'
    refine ⟨best, least_tog (fun u h => (hu u h).wak) (fun v h => (hv v h).wak) h0 hb', runB_rt ?_⟩
    have e2 := sFor_at (f := iVar 0) rfl e
    change sFor _ _ _ [_, _, _, _, some (.sh .non), none, none, none] = _ at e2
    simp [b_next_together, tg, t_next_together_5, t_next_together_4, e2]
end Mi.Sh

namespace Mi.Sh
open PySem PySem.Spec L2 Mi
theorem cellx {cs : List Int} (hl : cs.length ≤ 63) (k j : Nat) : m__law_cell_at [.sh (.lst (cs.map D.int)), .sh (.int ((k : Int) + (j : Int)))] = .ok (.sh (.int (cs.getD (k + j) 0))) := by
  have := cell_at_ok (ns := cs) (k := k + j) hl
  rwa [show (((k + j : Nat)) : Int) = (k : Int) + (j : Int) by omega] at this
theorem getD_bd {cs : List Int} (hb : ∀ z ∈ cs, Builtin.Int.intBits z ≤ 1048576) (j : Nat) : Bd 1048576 (cs.getD j 0) := by
  by_cases h : j < cs.length
  · rw [List.getD_eq_getElem?_getD, List.getElem?_eq_getElem h]
    exact .cell (hb _ (List.getElem_mem _))
  · rw [List.getD_eq_getElem?_getD, List.getElem?_eq_none (by omega)]
    exact Bd.zero _
theorem big_ok {c : Int} (hc : Bd 1048590 c) : ∃ n : Int, 0 ≤ n ∧ n < 10 ^ 60 ∧ m__law_big [.sh (.int c)] = .ok (.sh (.int n)) := by
  haveI := hc
  have m1 : mulOk c 618033988749894848204586834365638117720309179805762862123 = true := mulOk_i (by rfl)
  refine ⟨c * 618033988749894848204586834365638117720309179805762862123 % 10 ^ 60, by omega, by omega, ?_⟩
  rw [m__law_big_eq]
  refine runB_rt ?_
  simp [b__law_big, m1]
structure Gw (w : Wk3) : Prop where
  wak : Wak w
  bp : Bd 210 w.1
  f0 : 0 ≤ w.2.1
  f1 : w.2.1 < w.1
theorem Gw.wb {w : Wk3} (h : Gw w) : WB 210 w := ⟨h.wak, h.bp⟩
theorem waking2_ok {c part : Int} (hc : Bd 1048576 c) (hp : 1 ≤ part ∧ part ≤ 10 ^ 30) : ∃ w : Wk3, Gw w ∧ m__law_waking_2 [.sh (.int c), .sh (.int part)] = .ok (.sh (wkD w)) := by
  obtain ⟨n0, a0, b0, e0⟩ := big_ok (c := c) (hc.up (by decide))
  obtain ⟨n2, a2, b2, e2⟩ := big_ok (c := c / 2 + 5) ⟨by
    have := hc.lt
    have h1 : (c / 2).natAbs ≤ c.natAbs := natAbs_div_le c 2
    have h2 : (2 : Nat) ^ 1048590 = 2 ^ 1048576 * 2 ^ 14 := by rw [← Nat.pow_add]
    have h3 : 0 < 2 ^ 1048576 := Nat.pow_pos (by decide)
    rw [h2]
    generalize 2 ^ 1048576 = M at *
    omega⟩
  haveI bpart : Bd 101 part := ⟨by omega⟩
  have m1 : mulOk part (1 + n0 % 6) = true := mulOk_i (by rfl)
  have p1 : 1 ≤ part * (1 + n0 % 6) := one_mul_pos hp.1 (by omega)
  have bp : Bd 210 (part * (1 + n0 % 6)) := (@bd_mul 101 70 _ _ bpart ⟨by omega⟩).up (by decide)
  generalize hP : part * (1 + n0 % 6) = p at *
  have p0 : 0 < p := by omega
  have f0 := Int.emod_nonneg (n0 / 6) (show p ≠ 0 by omega)
  have f1 := Int.emod_lt_of_pos (n0 / 6) p0
  obtain ⟨l, el⟩ : ∃ l : Int, t__law_waking_2_1 [some (.sh (.int c)), some (.sh (.int part)), some (.sh (.int n2)), some (.sh (.int p)), some (.sh (.int (n0 / 6 % p))), none] = .rt (.sh (wkD (p, n0 / 6 % p, max 1 (min l p)))) := by
    have q : n2 % 3 = 0 ∨ n2 % 3 = 1 ∨ n2 % 3 = 2 := by omega
    rcases q with q | q | q
    · exact ⟨1 + n2 / 3 % 4, by simp [t__law_waking_2_1, q, p0, wkD]⟩
    · exact ⟨p - n2 / 3 % 4, by simp [t__law_waking_2_1, q, p0, wkD]⟩
    · exact ⟨1 + n2 / 3 % p, by simp [t__law_waking_2_1, q, p0, wkD]⟩
  refine ⟨(p, n0 / 6 % p, max 1 (min l p)), ⟨⟨p1, by show 1 ≤ max 1 _; omega, by show max 1 (min l p) ≤ p; omega⟩, bp, f0, f1⟩, ?_⟩
  rw [m__law_waking_2_eq]
  refine runB_rt ?_
  simp [b__law_waking_2, e0, t__law_waking_2_4, m1, hP, t__law_waking_2_3, t__law_waking_2_2, e2, p0, el]
theorem plans_ok {ns : List Int} (hl : ns.length ≤ 63) (hb : ∀ z ∈ ns, Builtin.Int.intBits z ≤ 1048576) : ∃ us vs : List Wk3, (∀ u ∈ us, Gw u) ∧ (∀ v ∈ vs, Gw v) ∧ us.length ≤ 3 ∧ vs.length ≤ 3 ∧
    m__law_plans [.sh (.lst (ns.map D.int))] = .ok (.ow [.lst (us.map wkD), .lst (vs.map wkD)]) := by
  have c0 : m__law_cell_at [.sh (.lst (ns.map D.int)), .sh (.int 0)] = .ok (.sh (.int (ns.getD 0 0))) := cell_at_ok (ns := ns) (k := 0) hl
  have c1 : m__law_cell_at [.sh (.lst (ns.map D.int)), .sh (.int 1)] = .ok (.sh (.int (ns.getD 1 0))) := cell_at_ok (ns := ns) (k := 1) hl
  obtain ⟨n, n0, n1, en⟩ := big_ok ((getD_bd hb 0).up (by decide))
  generalize ns.getD 0 0 = x0 at *
  generalize ns.getD 1 0 = x1 at *
  obtain ⟨S0, hS0⟩ : ∃ S0 : Option Sl, S0 = some (.sh (.lst (ns.map D.int))) := ⟨_, rfl⟩
  obtain ⟨part, hp, ep⟩ : ∃ part : Int, (1 ≤ part ∧ part ≤ 10 ^ 30) ∧ t__law_plans_2 [S0, some (.sh (.int n)), none, none, none] = t__law_plans_1 [S0, some (.sh (.int n)), some (.sh (.int part)), none, none] := by
    have q : x1 % 2 = 0 ∨ x1 % 2 = 1 := by omega
    rcases q with q | q
    · exact ⟨1 + n / 16 % 12, ⟨by omega, by omega⟩, by simp [hS0, t__law_plans_2, c1, q]⟩
    · exact ⟨1 + n / 16 % 10 ^ 30, ⟨by omega, by omega⟩, by simp [hS0, t__law_plans_2, c1, q]⟩
  have one : ∀ (k m : Nat) (ρ3 : Option Sl), m ≤ 3 → ∃ ws : List Wk3, ws.length = m ∧ (∀ w ∈ ws, Gw w) ∧
      lcR (gSet 4) tYesE (eApp m__law_waking_2 (aVal (eApp m__law_cell_at (aVal (eVar 0) (aVal (eBin oAdd (eD (.int (k : Int))) (eLook 4)) aNil))) (aVal (eVar 2) aNil))) [some (.sh (.lst (ns.map D.int))), some (.sh (.int n)), some (.sh (.int part)), ρ3, none] (rngD 0 m) = .ok (ws.map wkD) := fun k m ρ3 hm => by
    obtain ⟨ws, h1, h2, h3⟩ := lcR_ex (gt := gSet 4) (p := tYesE) (f := eApp m__law_waking_2 (aVal (eApp m__law_cell_at (aVal (eVar 0) (aVal (eBin oAdd (eD (.int (k : Int))) (eLook 4)) aNil))) (aVal (eVar 2) aNil))) (ρ := [some (.sh (.lst (ns.map D.int))), some (.sh (.int n)), some (.sh (.int part)), ρ3, none]) (fun (j : Nat) => D.int (0 + (j : Int))) wkD (fun _ w => Gw w) (List.range m) fun j hj => by
      have cj := cellx hl k j
      obtain ⟨w, hw, ew⟩ := waking2_ok (getD_bd hb (k + j)) hp
      generalize ns.getD (k + j) 0 = x at *
      exact ⟨w, hw, by simp [cj, ew]⟩
    exact ⟨ws, by rw [h1, List.length_range], fun w hw => (h2 w hw).elim fun _ z => z.2, h3⟩
  obtain ⟨us, u1, u2, u3⟩ := one 2 (n % 4).toNat none (by omega)
  obtain ⟨vs, v1, v2, v3⟩ := one 5 (n / 4 % 4).toNat (some (.sh (.lst (us.map wkD)))) (by omega)
  have eu := eLc_ok (fi := iRng1D (eBin oMod (eLook 1) (eD (.int 4)))) (vs := [4]) (ρ := [some (.sh (.lst (ns.map D.int))), some (.sh (.int n)), some (.sh (.int part)), none, none]) (iRng1D_ok (j := n % 4) (by simp) (by omega)) (by rw [rngD_len]; omega) u3
  have ev := eLc_ok (fi := iRng1D (eBin oMod (eBin oDiv (eLook 1) (eD (.int 4))) (eD (.int 4)))) (vs := [4]) (ρ := [some (.sh (.lst (ns.map D.int))), some (.sh (.int n)), some (.sh (.int part)), some (.sh (.lst (us.map wkD))), none]) (iRng1D_ok (j := n / 4 % 4) (by simp) (by omega)) (by rw [rngD_len]; omega) v3
  change eLc _ _ _ (eApp m__law_waking_2 (aVal (eApp m__law_cell_at (aVal (eVar 0) (aVal (eBin oAdd (eD (.int 2)) (eLook 4)) aNil))) (aVal (eVar 2) aNil))) _ _ = _ at eu
  change eLc _ _ _ (eApp m__law_waking_2 (aVal (eApp m__law_cell_at (aVal (eVar 0) (aVal (eBin oAdd (eD (.int 5)) (eLook 4)) aNil))) (aVal (eVar 2) aNil))) _ _ = _ at ev
  refine ⟨us, vs, u2, v2, by omega, by omega, ?_⟩
  rw [m__law_plans_eq]
  refine runB_rt ?_
  subst hS0
  simp [b__law_plans, c0, en, ep, t__law_plans_1, eu, ev]
end Mi.Sh

namespace Mi.Sh
open PySem PySem.Spec L2 Mi
def shP (us vs : List Wk3) : List Wk3 := us.flatMap fun u => vs.map (shW u)
theorem shifts_ok {us vs : List Wk3} (hu : ∀ u ∈ us, Wak u) (hv : ∀ v ∈ vs, Wak v) (hl : us.length ≤ 300) (hl2 : vs.length ≤ 300) : m_shifts [.sh (.lst (us.map wkD)), .sh (.lst (vs.map wkD))] = .ok (.ow ((shP us vs).map wkD)) := by
  have inner : ∀ (u : Wk3) (acc : List Wk3), u ∈ us → acc.length ≤ 90000 → forR (gSet 4) u_shifts_1 (vs.map wkD) [some (.sh (.lst (us.map wkD))), some (.sh (.lst (vs.map wkD))), some (.ow (acc.map wkD)), some (.sh (wkD u)), none] =
      .nx [some (.sh (.lst (us.map wkD))), some (.sh (.lst (vs.map wkD))), some (.ow ((acc ++ vs.map (shW u)).map wkD)), some (.sh (wkD u)), none] := fun u acc h1 ha => by
    -- by the number of items
    obtain ⟨ρ2, e2, h2⟩ := forR_nat (gt := gSet 4) (u := u_shifts_1) (fun i ρ => ρ = [some (.sh (.lst (us.map wkD))), some (.sh (.lst (vs.map wkD))), some (.ow ((acc ++ (vs.take i).map (shW u)).map wkD)), some (.sh (wkD u)), none]) (vs.map wkD) 0 _ (by simp : [some (Sl.sh (.lst (us.map wkD))), some (.sh (.lst (vs.map wkD))), some (.ow (acc.map wkD)), some (.sh (wkD u)), none] = _) fun i d ρ hd hρ => by
      subst hρ
      rw [List.getElem?_map] at hd
      cases hx : vs[i]? with
      | none => rw [hx] at hd; cases hd
      | some v =>
        rw [hx] at hd
        cases hd
        have hi := (List.getElem?_eq_some_iff.mp hx).1
        have hvm : v ∈ vs := List.mem_of_getElem? hx
        have es := shifts_of_two_ok (hu u h1) (hv v hvm)
        have hz : acc.length + min i vs.length < szL := lt_szL (by omega)
        rw [Nat.zero_add]
        refine ⟨_, ?_, rfl⟩
        have ht : vs.take (i + 1) = vs.take i ++ [v] := by rw [List.take_add_one, hx]; rfl
        rw [ht]
        simp [turnB, u_shifts_1, es, hz]
    rw [List.length_map, Nat.zero_add, List.take_length] at h2
    rw [e2, h2]
  obtain ⟨ρ2, e2, h2⟩ := forR_nat (gt := gSet 3) (u := u_shifts_2) (fun i ρ => ρ = [some (.sh (.lst (us.map wkD))), some (.sh (.lst (vs.map wkD))), some (.ow ((shP (us.take i) vs).map wkD)), none, none]) (us.map wkD) 0 _ (by simp [shP] : [some (Sl.sh (.lst (us.map wkD))), some (.sh (.lst (vs.map wkD))), some (.ow []), none, none] = _) fun i d ρ hd hρ => by
    subst hρ
    rw [List.getElem?_map] at hd
    cases hx : us[i]? with
    | none => rw [hx] at hd; cases hd
    | some u =>
      rw [hx] at hd
      cases hd
      have hi := (List.getElem?_eq_some_iff.mp hx).1
      have hum : u ∈ us := List.mem_of_getElem? hx
      have hlen : ∀ l : List Wk3, (shP l vs).length = l.length * vs.length := fun l => by
        induction l with
        | nil => simp [shP]
        | cons a l ih =>
          unfold shP at ih ⊢
          rw [List.flatMap_cons, List.length_append, ih, List.length_map, List.length_cons, Nat.succ_mul]
          omega
      have hb : (shP (us.take i) vs).length ≤ 90000 := by
        rw [hlen, List.length_take]
        have : min i us.length * vs.length ≤ 300 * 300 := Nat.mul_le_mul (by omega) hl2
        omega
      have ei := inner u (shP (us.take i) vs) hum hb
      have e3 := sFor_at (f := iVar 1) rfl ei
      rw [Nat.zero_add]
      refine ⟨_, ?_, rfl⟩
      have ht : shP (us.take (i + 1)) vs = shP (us.take i) vs ++ vs.map (shW u) := by
        rw [List.take_add_one, hx]
        unfold shP
        rw [List.flatMap_append]
        simp
      rw [ht]
      simp only [List.map_append] at e3 ⊢
      simp [turnB, u_shifts_2, e3]
  rw [List.length_map, Nat.zero_add, List.take_length] at h2
  rw [h2] at e2
  have e4 := sFor_at (f := iVar 0) rfl e2
  rw [m_shifts_eq]
  refine runB_rt ?_
  simp [b_shifts, t_shifts_3, e4]
theorem shP_awk {us vs : List Wk3} {sh : Int} (hu : ∀ u ∈ us, Wak u) (hv : ∀ v ∈ vs, Wak v) : awk (shP us vs) sh = true ↔ ∃ t, TogP us vs sh t := by
  rw [awk_iff]
  unfold shP
  constructor
  · rintro ⟨w, hw, ha⟩
    obtain ⟨u, h1, h2⟩ := List.mem_flatMap.mp hw
    obtain ⟨v, h3, rfl⟩ := List.mem_map.mp h2
    obtain ⟨t, a, b⟩ := (shW_iff (hu u h1) (hv v h3)).mp ha
    exact ⟨t, togP_iff.mpr ⟨u, h1, v, h3, a, b⟩⟩
  · rintro ⟨t, h⟩
    obtain ⟨u, h1, v, h3, a, b⟩ := togP_iff.mp h
    exact ⟨shW u v, List.mem_flatMap.mpr ⟨u, h1, List.mem_map.mpr ⟨v, h3, rfl⟩⟩, (shW_iff (hu u h1) (hv v h3)).mpr ⟨t, a, b⟩⟩
theorem shP_p1 {us vs : List Wk3} (hu : ∀ u ∈ us, Wak u) (hv : ∀ v ∈ vs, Wak v) : ∀ w ∈ shP us vs, 1 ≤ w.1 := fun w hw => by
  obtain ⟨u, h1, h2⟩ := List.mem_flatMap.mp hw
  obtain ⟨v, h3, rfl⟩ := List.mem_map.mp h2
  exact (shW_good (hu u h1) (hv v h3)).1
end Mi.Sh

namespace Mi.Sh
open PySem PySem.Spec L2 Mi
theorem oAny_map {τ : Type} (q : τ → Bool) (xs : List τ) : oAny [.lst (xs.map fun x => D.bl (q x))] = .ok (.bl (xs.any q)) := by
  have h : allB (xs.map fun x => D.bl (q x)) = some (xs.map q) := by
    induction xs with
    | nil => rfl
    | cons x xs ih => rw [List.map_cons, allB, ih]; rfl
  unfold oAny
  dsimp only
  rw [h]
  dsimp only
  rw [List.any_map]
  rfl
theorem law_awake_ok {ws : List Wk3} {t : Int} (h : ∀ w ∈ ws, 1 ≤ w.1) (hl : ws.length ≤ 1000000) : m__law_awake [.sh (.lst (ws.map wkD)), .sh (.int t)] = .ok (.sh (.bl (awk ws t))) := by
  have e0 := lcR_map (gt := gSet 2) (p := tYesE) (f := eBin oLt (eBin oMod (eBin oSub (eLook 1) (eBin oIx (eLook 2) (eD (.int 1)))) (eBin oIx (eLook 2) (eD (.int 0)))) (eBin oIx (eLook 2) (eD (.int 2)))) (ρ := [some (.sh (.lst (ws.map wkD))), some (.sh (.int t)), none]) wkD (fun w => D.bl (decide ((t - w.2.1) % w.1 < w.2.2))) ws fun w hw => by
    have := h w hw
    have hp : 0 < w.1 := by omega
    simp [wkD, hp]
  have e1 := eLc_ok (fi := iVar 0) (vs := [2]) (ρ := [some (.sh (.lst (ws.map wkD))), some (.sh (.int t)), none]) (items := ws.map wkD) rfl (by rw [List.length_map]; exact hl) e0
  rw [m__law_awake_eq]
  refine runB_rt ?_
  have e2 := oAny_map (fun w : Wk3 => decide ((t - w.2.1) % w.1 < w.2.2)) ws
  simp [b__law_awake, e1, e2, awk]
theorem law_awake2_ok {ws : List Wk3} {t : Int} (h : ∀ w ∈ ws, 1 ≤ w.1) : m__law_awake_2 [.sh (.lst (ws.map wkD)), .sh (.int t)] = .ok (.sh (.bl (awk ws t))) := by
  have key := forR_find (gt := gSet 2) (u := u__law_awake_2_1) (ρ := [some (.sh (.lst (ws.map wkD))), some (.sh (.int t)), none]) wkD (fun w => decide ((t - w.2.1) % w.1 < w.2.2)) (fun _ => .sh (.bl true)) ws fun w hw => by
    have := h w hw
    have hp : 0 < w.1 := by omega
    by_cases hq : (t - w.2.1) % w.1 < w.2.2
    · simp [turnB, wkD, u__law_awake_2_1, hp, hq]
    · simp [turnB, wkD, u__law_awake_2_1, hp, hq]
  have e := sFor_at (f := iVar 0) rfl key
  rw [m__law_awake_2_eq]
  refine runB_rt ?_
  simp [b__law_awake_2, e]
  unfold awk
  rw [any_find]
  cases List.find? (fun w => decide ((t - w.2.1) % w.1 < w.2.2)) ws <;> simp
@[simp] theorem whole_ok (x : Int) : m__law_whole [.sh (.int x)] = .ok (.sh (.bl true)) := by
  rw [m__law_whole_eq]
  refine runB_rt ?_
  simp [b__law_whole]
theorem whole_non : m__law_whole [.sh .non] = .ok (.sh (.bl false)) := by
  rw [m__law_whole_eq]
  refine runB_rt ?_
  simp [b__law_whole]
theorem ldiv_gOf {s p : Int} (hs : 0 ≤ s) (hp : 0 < p) : m__law_divisor [.sh (.int s), .sh (.int p)] = .ok (.sh (.int (gOf p s))) := by
  have h := ldivisor_nat s.toNat p.toNat
  rw [gcd_gOf (by omega)] at h
  rwa [Int.toNat_of_nonneg hs, Int.toNat_of_nonneg (by omega)] at h
theorem both_iff2 {u v : Wk3} (hu : Wak u) (hv : Wak v) {sh : Int} : (sh - u.2.1 + v.2.1 + v.2.2 - 1) % gOf v.1 u.1 < u.2.2 + v.2.2 - 1 ↔ Both u v sh := by
  have p := hu.p1
  have q := hv.p1
  unfold Both
  rw [both_iff (by omega) (by omega) hu.l1 hu.l2 hv.l1 hv.l2]
  have gp := gOf_pos (w := v.1) (sp := u.1) (by omega)
  rw [show sh - (u.2.1 - v.2.1 - v.2.2 + 1) = sh - u.2.1 + v.2.1 + v.2.2 - 1 by omega]
  have := Int.emod_lt_of_pos (sh - u.2.1 + v.2.1 + v.2.2 - 1) gp
  omega
theorem law_meet_ok {us vs : List Wk3} {sh : Int} (hu : ∀ u ∈ us, Wak u) (hv : ∀ v ∈ vs, Wak v) : ∃ b : Bool, (b = true ↔ ∃ t, TogP us vs sh t) ∧ m__law_meet [.sh (.lst (us.map wkD)), .sh (.lst (vs.map wkD)), .sh (.int sh)] = .ok (.sh (.bl b)) := by
  classical
  have inner := fun (u : Wk3) (h1 : u ∈ us) => forR_find (gt := gSet 4) (u := u__law_meet_3) (ρ := [some (.sh (.lst (us.map wkD))), some (.sh (.lst (vs.map wkD))), some (.sh (.int sh)), some (.sh (wkD u)), none, none, none]) wkD (fun v => decide (Both u v sh)) (fun _ => .sh (.bl true)) vs fun v h2 => by
      have p := (hu u h1).p1
      have q := (hv v h2).p1
      have e := ldiv_gOf (s := u.1) (p := v.1) (by omega) (by omega)
      have gp := gOf_pos (w := v.1) (sp := u.1) (by omega)
      have i := both_iff2 (hu u h1) (hv v h2) (sh := sh)
      by_cases z : Both u v sh
      · have z' := i.mpr z
        simp [turnB, u__law_meet_3, t__law_meet_2, t__law_meet_1, wkD, e, gp, z, z']
      · have z' : ¬ _ := fun y => z (i.mp y)
        simp [turnB, u__law_meet_3, t__law_meet_2, t__law_meet_1, wkD, e, gp, z, z']
  have outer := forR_find (gt := gSet 3) (u := u__law_meet_4) (ρ := [some (.sh (.lst (us.map wkD))), some (.sh (.lst (vs.map wkD))), some (.sh (.int sh)), none, none, none, none]) wkD (fun u => decide (∃ v ∈ vs, Both u v sh)) (fun _ => .sh (.bl true)) us fun u h1 => by
      have e := sFor_at (f := iVar 1) rfl (inner u h1)
      cases z : vs.find? (fun v => decide (Both u v sh)) with
      | some v =>
        rw [z] at e
        have := List.find?_some z
        have h : ∃ v ∈ vs, Both u v sh := ⟨v, List.mem_of_find?_eq_some z, of_decide_eq_true this⟩
        simp [turnB, u__law_meet_4, e]
        exact ⟨v.1, v.2.1, v.2.2, h.elim fun w hw => List.mem_of_find?_eq_some z, of_decide_eq_true this⟩
      | none =>
        rw [z] at e
        have h : ¬ ∃ v ∈ vs, Both u v sh := fun ⟨v, h2, h3⟩ => by
          have := List.find?_eq_none.mp z v h2
          exact this (decide_eq_true h3)
        simp [turnB, u__law_meet_4, e]
        exact fun a b c h1 h2 => h ⟨(a, b, c), h1, h2⟩
  have e := sFor_at (f := iVar 0) rfl outer
  rw [m__law_meet_eq]
  have i : (∃ u ∈ us, ∃ v ∈ vs, Both u v sh) ↔ ∃ t, TogP us vs sh t := by
    constructor
    · rintro ⟨u, h1, v, h2, t, h3⟩
      exact ⟨t, togP_iff.mpr ⟨u, h1, v, h2, h3⟩⟩
    · rintro ⟨t, h⟩
      obtain ⟨u, h1, v, h2, h3⟩ := togP_iff.mp h
      exact ⟨u, h1, v, h2, t, h3⟩
  cases z : us.find? (fun u => decide (∃ v ∈ vs, Both u v sh)) with
  | some u =>
    rw [z] at e
    refine ⟨true, ⟨fun _ => i.mp ⟨u, List.mem_of_find?_eq_some z, of_decide_eq_true (List.find?_some (p := fun u => decide (∃ v ∈ vs, Both u v sh)) z)⟩, fun _ => rfl⟩, runB_rt ?_⟩
    simp [b__law_meet, e]
  | none =>
    rw [z] at e
    refine ⟨false, ⟨(fun h => absurd h (by decide)), fun h => ?_⟩, runB_rt ?_⟩
    · obtain ⟨u, h1, h2⟩ := i.mpr h
      exact absurd (decide_eq_true h2) (List.find?_eq_none.mp z u h1)
    · simp [b__law_meet, e]
theorem oEq_pl2 {us vs : List Wk3} : oEq (.lst [.lst (us.map wkD), .lst (vs.map wkD)]) (.lst [.lst (us.map wkD), .lst (vs.map wkD)]) = .ok (.bl true) := by
  refine oEq_lsame ?_ ?_
  · show (okDs (us.map wkD) && (okDs (vs.map wkD) && true)) = true
    rw [okDs_map okD_wk, okDs_map okD_wk]
    rfl
  · show max (depDs (us.map wkD) + 1) (max (depDs (vs.map wkD) + 1) 0) ≤ 63
    have := depDs_map depD_wk us
    have := depDs_map depD_wk vs
    omega
theorem common : ∀ ws : List Wk3, (∀ w ∈ ws, 1 ≤ w.1) → ∃ L : Int, 1 ≤ L ∧ ∀ w ∈ ws, w.1 ∣ L
  | [], _ => ⟨1, Int.le_refl _, fun w h => absurd h List.not_mem_nil⟩
  | w :: ws, h => by
    obtain ⟨L, h1, h2⟩ := common ws fun v hv => h v (List.mem_cons_of_mem _ hv)
    have h3 := h w (List.mem_cons_self ..)
    refine ⟨w.1 * L, one_mul_pos h3 h1, fun v hv => ?_⟩
    rcases List.mem_cons.mp hv with rfl | hv
    · exact Int.dvd_mul_right ..
    · exact Int.dvd_trans (h2 v hv) (Int.dvd_mul_left ..)
theorem tog_more {us vs : List Wk3} {sh t L : Int} (hu : ∀ u ∈ us, u.1 ∣ L) (hv : ∀ v ∈ vs, v.1 ∣ L) : TogP us vs sh (t + L) ↔ TogP us vs sh t := by
  unfold TogP
  rw [awk_more hu, show t + L - sh = t - sh + L by omega, awk_more hv]
theorem tog_far {us vs : List Wk3} {sh : Int} (turn : Int) (hu : ∀ u ∈ us, 1 ≤ u.1) (hv : ∀ v ∈ vs, 1 ≤ v.1) (h : ∃ t, TogP us vs sh t) : ∃ t, turn ≤ t ∧ TogP us vs sh t := by
  obtain ⟨L, h1, h2⟩ := common (us ++ vs) fun w hw => (List.mem_append.mp hw).elim (hu w) (hv w)
  obtain ⟨t, ht⟩ := h
  obtain ⟨k, k0⟩ : ∃ k : Int, turn ≤ t + L * k := ⟨(turn - t).toNat, by
    have : (turn - t).toNat * 1 ≤ (turn - t).toNat * L := Int.mul_le_mul_of_nonneg_left h1 (by omega)
    rw [Int.mul_comm L]
    omega⟩
  exact ⟨t + L * k, k0, (tog_more (fun u h => Int.dvd_trans (h2 u (List.mem_append_left _ h)) (Int.dvd_mul_right ..)) (fun u h => Int.dvd_trans (h2 u (List.mem_append_right _ h)) (Int.dvd_mul_right ..))).mpr ht⟩
end Mi.Sh

namespace Mi.Sh
open PySem PySem.Spec L2 Mi
/-- hands: a plan and a shift -/
abbrev Hd := List Wk3 × Int
def hdD (h : Hd) : D := .tup [.lst (h.1.map wkD), .int h.2]
def hAw (h : Hd) (t : Int) : Prop := awk h.1 (t - h.2) = true
def HTog (a b : Hd) (t : Int) : Prop := hAw a t ∧ hAw b t
def WayP : Hd → List Hd → Int → List (Option Int) → Prop
  | _, [], t, w => w = [some t]
  | a, b :: hs, t, w => (LeastT (HTog a b) t none ∧ w = [some t, none]) ∨ ∃ t', LeastT (HTog a b) t (some t') ∧ ∃ w', WayP b hs t' w' ∧ w = some t :: w'
theorem WayP.uni : ∀ {hs : List Hd} {a : Hd} {t : Int} {w w' : List (Option Int)}, WayP a hs t w → WayP a hs t w' → w = w'
  | [], a, t, w, w', h, h' => h.trans h'.symm
  | b :: hs, a, t, w, w', h, h' => by
    rcases h with ⟨h1, h2⟩ | ⟨t1, h1, w1, h2, h3⟩ <;> rcases h' with ⟨g1, g2⟩ | ⟨t2, g1, w2, g2, g3⟩
    · rw [h2, g2]
    · exact nomatch h1.uni g1
    · exact nomatch h1.uni g1
    · cases h1.uni g1
      rw [h3, g3, h2.uni g2]
theorem WayP.len : ∀ {hs : List Hd} {a : Hd} {t : Int} {w : List (Option Int)}, WayP a hs t w → 1 ≤ w.length ∧ w.length ≤ hs.length + 1
  | [], a, t, w, h => by rw [show w = [some t] from h]; exact ⟨Nat.le_refl _, Nat.le_refl _⟩
  | b :: hs, a, t, w, h => by
    rcases h with ⟨h1, h2⟩ | ⟨t1, h1, w1, h2, h3⟩
    · rw [h2]; simp
    · have := h2.len
      rw [h3]
      simp only [List.length_cons]
      omega
theorem WayP.head {hs : List Hd} {a : Hd} {t : Int} {w : List (Option Int)} (h : WayP a hs t w) : ∃ w', w = some t :: w' := by
  cases hs with
  | nil => exact ⟨[], h⟩
  | cons b hs =>
    rcases h with ⟨h1, h2⟩ | ⟨t1, h1, w1, h2, h3⟩
    · exact ⟨[none], h2⟩
    · exact ⟨w1, h3⟩
def pairD (p : Hd × Hd) : D := .tup [hdD p.1, hdD p.2]
theorem cutD_init {α : Type} (a : α) (xs : List α) : cutD (a :: xs) none (some (-1)) = (a :: xs).dropLast := by
  unfold cutD HT.sIx
  simp [List.dropLast_eq_take]
  omega
theorem cutD_tail {α : Type} (a : α) (xs : List α) : cutD (a :: xs) (some 1) none = xs := by
  unfold cutD HT.sIx
  simp
theorem zip_pairs : ∀ (a : Hd) (hs : List Hd), zipD ((a :: hs).dropLast.map hdD) (hs.map hdD) = (((a :: hs).dropLast.zip hs).map pairD)
  | a, [] => rfl
  | a, b :: hs => by
    have := zip_pairs b hs
    show zipD (hdD a :: (b :: hs).dropLast.map hdD) (hdD b :: hs.map hdD) = pairD (a, b) :: (((b :: hs).dropLast.zip hs).map pairD)
    rw [zipD, this]
    rfl
theorem way_loop {b : Nat} (hb : b < 8000) {s0 s1 : Option Sl} : ∀ (hs : List Hd) (a : Hd) (t : Int) (acc : List D), (∀ w ∈ a.1, WB b w) → (∀ h ∈ hs, ∀ w ∈ h.1, WB b w) → acc.length + hs.length ≤ 100000 →
    ∃ w, WayP a hs t w ∧ (forR (gTupD 2 (gsCons (gSet 3) (gsCons (gSet 4) gsNil))) u_letter_way_5 (((a :: hs).dropLast.zip hs).map pairD) [s0, s1, some (.ow (acc ++ [.int t])), none, none, none, none, none, none, none] = .nx [s0, s1, some (.ow (acc ++ w.map optD)), none, none, none, none, none, none, none] ∨
      forR (gTupD 2 (gsCons (gSet 3) (gsCons (gSet 4) gsNil))) u_letter_way_5 (((a :: hs).dropLast.zip hs).map pairD) [s0, s1, some (.ow (acc ++ [.int t])), none, none, none, none, none, none, none] = .rt (.ow (acc ++ w.map optD)))
  | [], a, t, acc, _, _, _ => ⟨[some t], rfl, .inl rfl⟩
  | c :: hs, a, t, acc, h1, h2, hl => by
    have hl' : acc.length + (hs.length + 1) ≤ 100000 := hl
    obtain ⟨o, ho, e⟩ := next_together_ok (sh := c.2 - a.2) (turn := t - a.2) hb h1 (h2 c (List.mem_cons_self ..))
    have ho2 := (ho.shift).congr (Q := HTog a c) fun t' _ => by
      unfold TogP HTog hAw
      rw [show t' - a.2 - (c.2 - a.2) = t' - c.2 by omega]
    have z1 : acc.length + 1 < szL := lt_szL (by omega)
    have lst : atI (acc ++ [D.int t]) (-1) = some (.int t) := by
      unfold atI
      rw [ixN_neg (by decide) (by simp; omega)]
      simp
      rw [show (-1 + ((acc.length : Int) + 1)).toNat = acc.length by omega]
      simp
    have lst2 : ((acc ++ [D.int t]).map fun d => d) = acc ++ [D.int t] := List.map_id _
    cases o with
    | none =>
      simp only [optD] at e
      refine ⟨[some t, none], .inl ⟨ho2, rfl⟩, .inr ?_⟩
      refine forR_rt ?_
      simp [turnB, pairD, hdD, u_letter_way_5, t_letter_way_4, t_letter_way_3, t_letter_way_2, lst, e, z1, optD]
    | some f =>
      simp only [optD] at e
      obtain ⟨w, hw, hr⟩ := way_loop hb (s0 := s0) (s1 := s1) hs c (f + a.2) (acc ++ [.int t]) (h2 c (List.mem_cons_self ..)) (fun h m => h2 h (List.mem_cons_of_mem _ m)) (by rw [List.length_append]; simp only [List.length_singleton]; omega)
      have stp : turnB (gTupD 2 (gsCons (gSet 3) (gsCons (gSet 4) gsNil))) u_letter_way_5 (pairD (a, c)) [s0, s1, some (.ow (acc ++ [.int t])), none, none, none, none, none, none, none] = .nx [s0, s1, some (.ow (acc ++ [.int t] ++ [.int (f + a.2)])), none, none, none, none, none, none, none] := by
        simp [turnB, pairD, hdD, u_letter_way_5, t_letter_way_4, t_letter_way_3, t_letter_way_2, t_letter_way_1, lst, e, z1]
      refine ⟨some t :: w, .inr ⟨f + a.2, ho2, w, hw, rfl⟩, ?_⟩
      have := forR_nx (ds := (((c :: hs).dropLast.zip hs).map pairD)) stp
      rw [show ((a :: c :: hs).dropLast.zip (c :: hs)).map pairD = pairD (a, c) :: (((c :: hs).dropLast.zip hs).map pairD) from rfl, this]
      have ee : acc ++ (some t :: w).map optD = acc ++ [.int t] ++ w.map optD := by
        rw [List.map_cons, List.append_assoc]
        rfl
      rw [ee]
      exact hr
theorem letter_way_ok {b : Nat} (hb : b < 8000) {a : Hd} {hs : List Hd} {t : Int} (h1 : ∀ w ∈ a.1, WB b w) (h2 : ∀ h ∈ hs, ∀ w ∈ h.1, WB b w) (hl : hs.length ≤ 90000) :
    ∃ w, WayP a hs t w ∧ m_letter_way [.sh (.lst ((a :: hs).map hdD)), .sh (.int t)] = .ok (.ow (w.map optD)) := by
  obtain ⟨w, hw, hr⟩ := way_loop hb (s0 := some (.sh (.lst ((a :: hs).map hdD)))) (s1 := some (.sh (.int t))) hs a t [] h1 h2 (by simp only [List.length_nil]; omega)
  refine ⟨w, hw, ?_⟩
  have c1 : cutD ((a :: hs).map hdD) none (some (-1)) = (a :: hs).dropLast.map hdD := by rw [cutD_map, cutD_init]
  have c2 : cutD ((a :: hs).map hdD) (some 1) none = hs.map hdD := by rw [cutD_map, cutD_tail]
  have c3 := zip_pairs a hs
  generalize (a :: hs).map hdD = L at *
  have eit : iZipD (lOf (eLst (eCut (eLook 0) pNo (pSome (eUn oNeg (eD (.int 1))))))) (lOf (eLst (eCut (eLook 0) (pSome (eD (.int 1))) pNo))) [some (.sh (.lst L)), some (.sh (.int t)), some (.ow [.int t]), none, none, none, none, none, none, none] = .ok (((a :: hs).dropLast.zip hs).map pairD) := by
    rw [← c3]
    simp [c1, c2]
  generalize ((a :: hs).dropLast.zip hs).map pairD = I at *
  rw [m_letter_way_eq]
  refine runB_rt ?_
  simp only [List.nil_append] at hr
  rcases hr with hr | hr
  · have e := sFor_at eit hr
    simp [b_letter_way, t_letter_way_6, e]
  · have e := sFor_at eit hr
    simp [b_letter_way, t_letter_way_6, e]
end Mi.Sh

namespace Mi.Sh
open PySem PySem.Spec L2 Mi
theorem hTog_iff {a b : Hd} {t : Int} : HTog a b t ↔ TogP a.1 b.1 (b.2 - a.2) (t - a.2) := by
  unfold TogP HTog hAw
  rw [show t - a.2 - (b.2 - a.2) = t - b.2 by omega]
theorem hTog_far {a b : Hd} (turn : Int) (ha : ∀ u ∈ a.1, 1 ≤ u.1) (hb : ∀ v ∈ b.1, 1 ≤ v.1) (h : ∃ t, HTog a b t) : ∃ t, turn ≤ t ∧ HTog a b t := by
  obtain ⟨t, ht⟩ := h
  obtain ⟨t', h1, h2⟩ := tog_far (turn - a.2) ha hb ⟨_, hTog_iff.mp ht⟩
  exact ⟨t' + a.2, by omega, hTog_iff.mpr (by rwa [show t' + a.2 - a.2 = t' by omega])⟩
def Hp1 (h : Hd) : Prop := ∀ w ∈ h.1, 1 ≤ w.1
/-- pairs of turns that may stand beside one another -/
def LaterR : Option Int × Option Int → Prop
  | (none, none) => True
  | (some x, some y) => x ≤ y
  | _ => False
theorem WayP.mono : ∀ {hs : List Hd} {a : Hd} {t t' : Int} {w w' : List (Option Int)}, Hp1 a → (∀ h ∈ hs, Hp1 h) → t ≤ t' → WayP a hs t w → WayP a hs t' w' → w.length = w'.length ∧ ∀ p ∈ w.zip w', LaterR p
  | [], a, t, t', w, w', _, _, hle, h, h' => by
    rw [show w = [some t] from h, show w' = [some t'] from h']
    exact ⟨rfl, fun p hp => by rw [List.mem_singleton.mp hp]; exact hle⟩
  | b :: hs, a, t, t', w, w', ha, hb, hle, h, h' => by
    have hb1 := hb b (List.mem_cons_self ..)
    rcases h with ⟨h1, h2⟩ | ⟨t1, h1, w1, h2, h3⟩ <;> rcases h' with ⟨g1, g2⟩ | ⟨t2, g1, w2, g2, g3⟩
    · rw [h2, g2]
      refine ⟨rfl, fun p hp => ?_⟩
      simp only [List.zip_cons_cons, List.zip_nil_right, List.mem_cons, List.not_mem_nil, or_false] at hp
      rcases hp with rfl | rfl
      · exact hle
      · trivial
    · have q := g1.1
      exact absurd g1.2.1 (h1 t2 (by omega))
    · obtain ⟨t3, q1, q2⟩ := hTog_far t' ha hb1 ⟨t1, h1.2.1⟩
      exact absurd q2 (g1 t3 q1)
    · have q := g1.1
      have l : t1 ≤ t2 := by
        by_cases z : t1 ≤ t2
        · exact z
        · exact absurd g1.2.1 (h1.2.2 t2 (by omega) (by omega))
      obtain ⟨r1, r2⟩ := h2.mono hb1 (fun h m => hb h (List.mem_cons_of_mem _ m)) l g2
      rw [h3, g3]
      refine ⟨by simp [r1], fun p hp => ?_⟩
      rw [List.zip_cons_cons] at hp
      rcases List.mem_cons.mp hp with rfl | hp
      · exact hle
      · exact r2 p hp
theorem WayP.short : ∀ {hs : List Hd} {a : Hd} {t : Int} {w : List (Option Int)}, WayP a hs t w → w.length < hs.length + 1 → ∃ w', w = w' ++ [none]
  | [], a, t, w, h, hl => by
    rw [show w = [some t] from h] at hl
    simp at hl
  | b :: hs, a, t, w, h, hl => by
    rcases h with ⟨h1, h2⟩ | ⟨t1, h1, w1, h2, h3⟩
    · exact ⟨[some t], h2⟩
    · rw [h3] at hl
      simp only [List.length_cons] at hl
      obtain ⟨w', e⟩ := h2.short (by omega)
      exact ⟨some t :: w', by rw [h3, e]; rfl⟩
theorem WayP.cut : ∀ {place : Nat} {hs : List Hd} {a : Hd} {t : Int} {w : List (Option Int)}, WayP a hs t w → place ≤ hs.length →
    (∃ t' b hs', w[place]? = some (some t') ∧ (a :: hs).drop place = b :: hs' ∧ WayP a (hs.take place) t (w.take (place + 1)) ∧ WayP b hs' t' (w.drop place)) ∨ ((w.length ≤ place ∨ w[place]? = some none) ∧ WayP a (hs.take place) t w)
  | 0, hs, a, t, w, h, _ => by
    obtain ⟨w', e⟩ := h.head
    refine .inl ⟨t, a, hs, by rw [e]; rfl, rfl, ?_, h⟩
    rw [e]
    rfl
  | n + 1, [], a, t, w, h, hp => by simp at hp
  | n + 1, b :: hs, a, t, w, h, hp => by
    rcases h with ⟨h1, h2⟩ | ⟨t1, h1, w1, h2, h3⟩
    · refine .inr ⟨?_, .inl ⟨h1, h2⟩⟩
      rw [h2]
      cases n with
      | zero => exact .inr rfl
      | succ n => exact .inl (by simp)
    · rcases h2.cut (place := n) (by simp only [List.length_cons] at hp; omega) with ⟨t', b', hs', q1, q2, q3, q4⟩ | ⟨q1, q2⟩
      · refine .inl ⟨t', b', hs', by rw [h3]; exact q1, q2, ?_, by rw [h3]; exact q4⟩
        rw [h3]
        exact .inr ⟨t1, h1, _, q3, rfl⟩
      · refine .inr ⟨?_, .inr ⟨t1, h1, w1, q2, h3⟩⟩
        rw [h3]
        rcases q1 with q1 | q1
        · exact .inl (by simp only [List.length_cons]; omega)
        · exact .inr q1
def hSh (s : Int) (h : Hd) : Hd := (h.1, h.2 + s)
theorem LeastT.shf {P : Int → Prop} {a s : Int} {o : Option Int} (h : LeastT P a o) : LeastT (fun t => P (t - s)) (a + s) (o.map (· + s)) := by
  have : LeastT P (a + s - s) o := by rwa [show a + s - s = a by omega]
  exact this.shift
theorem WayP.shf {s : Int} : ∀ {hs : List Hd} {a : Hd} {t : Int} {w : List (Option Int)}, WayP a hs t w → WayP (hSh s a) (hs.map (hSh s)) (t + s) (w.map fun o => o.map (· + s))
  | [], a, t, w, h => by rw [show w = [some t] from h]; rfl
  | b :: hs, a, t, w, h => by
    have key : ∀ {o : Option Int}, LeastT (HTog a b) t o → LeastT (HTog (hSh s a) (hSh s b)) (t + s) (o.map (· + s)) := fun {o} h =>
      h.shf.congr fun t _ => by
        unfold HTog hAw hSh
        dsimp only
        rw [show t - s - a.2 = t - (a.2 + s) by omega, show t - s - b.2 = t - (b.2 + s) by omega]
    rcases h with ⟨h1, h2⟩ | ⟨t1, h1, w1, h2, h3⟩
    · exact .inl ⟨key h1, by rw [h2]; rfl⟩
    · exact .inr ⟨t1 + s, key h1, _, h2.shf, by rw [h3]; rfl⟩
theorem okD_opt (o : Option Int) : okD (optD o) = true := by cases o <;> rfl
theorem depD_opt (o : Option Int) : depD (optD o) ≤ 0 := by cases o <;> exact Nat.le_refl 0
theorem oEq_opts {w : List (Option Int)} : oEq (.lst (w.map optD)) (.lst (w.map optD)) = .ok (.bl true) :=
  oEq_lsame (okDs_map okD_opt w) (Nat.le_trans (depDs_map depD_opt w) (by decide))
theorem okD_hd (h : Hd) : okD (hdD h) = true := by
  show (okDs (h.1.map wkD) && (true && true)) = true
  rw [okDs_map okD_wk]
  rfl
theorem depD_hd (h : Hd) : depD (hdD h) ≤ 4 := by
  show max (depDs (h.1.map wkD) + 1) (max 0 0) + 1 ≤ 4
  have := depDs_map depD_wk h.1
  omega
theorem oEq_hds {hs : List Hd} : oEq (.lst (hs.map hdD)) (.lst (hs.map hdD)) = .ok (.bl true) :=
  oEq_lsame (okDs_map okD_hd hs) (Nat.le_trans (depDs_map depD_hd hs) (by decide))
theorem atI_last {α : Type} {xs : List α} {x : α} : atI (xs ++ [x]) (-1) = some x := by
  unfold atI
  rw [ixN_neg (by decide) (by simp; omega)]
  simp
  rw [show (-1 + ((xs.length : Int) + 1)).toNat = xs.length by omega]
  simp
theorem cutD_to {α : Type} (xs : List α) (n : Nat) : cutD xs none (some (n : Int)) = xs.take n := by
  unfold cutD HT.sIx
  simp
  rw [if_neg (by omega)]
  omega
theorem cutD_from {α : Type} (xs : List α) (n : Nat) : cutD xs (some (n : Int)) none = xs.drop n := by
  have h1 : HT.sIx xs.length xs.length none = xs.length := rfl
  have h2 : HT.sIx xs.length 0 (some (n : Int)) = min n xs.length := by
    unfold HT.sIx
    simp
    intro h
    omega
  unfold cutD
  rw [h1, h2, List.take_of_length_le (by rw [List.length_drop]; exact Nat.le_refl _)]
  by_cases z : n ≤ xs.length
  · rw [Nat.min_eq_left z]
  · rw [Nat.min_eq_right (by omega), List.drop_length, List.drop_eq_nil_of_le (by omega)]
end Mi.Sh

namespace Mi.Sh
open PySem PySem.Spec L2 Mi
theorem waking2x_ok {c part : Int} (hc : Bd 1048580 c) (hp : 1 ≤ part ∧ part ≤ 10 ^ 30) : ∃ w : Wk3, Gw w ∧ m__law_waking_2 [.sh (.int c), .sh (.int part)] = .ok (.sh (wkD w)) := by
  obtain ⟨n0, a0, b0, e0⟩ := big_ok (c := c) (hc.up (by decide))
  obtain ⟨n2, a2, b2, e2⟩ := big_ok (c := c / 2 + 5) ⟨by
    have := hc.lt
    have h1 : (c / 2).natAbs ≤ c.natAbs := natAbs_div_le c 2
    have h2 : (2 : Nat) ^ 1048590 = 2 ^ 1048580 * 2 ^ 10 := by rw [← Nat.pow_add]
    have h3 : 0 < 2 ^ 1048580 := Nat.pow_pos (by decide)
    rw [h2]
    generalize 2 ^ 1048580 = M at *
    omega⟩
  haveI bpart : Bd 101 part := ⟨by omega⟩
  have m1 : mulOk part (1 + n0 % 6) = true := mulOk_i (by rfl)
  have p1 : 1 ≤ part * (1 + n0 % 6) := one_mul_pos hp.1 (by omega)
  have bp : Bd 210 (part * (1 + n0 % 6)) := (@bd_mul 101 70 _ _ bpart ⟨by omega⟩).up (by decide)
  generalize hP : part * (1 + n0 % 6) = p at *
  have p0 : 0 < p := by omega
  have f0 := Int.emod_nonneg (n0 / 6) (show p ≠ 0 by omega)
  have f1 := Int.emod_lt_of_pos (n0 / 6) p0
  obtain ⟨l, el⟩ : ∃ l : Int, t__law_waking_2_1 [some (.sh (.int c)), some (.sh (.int part)), some (.sh (.int n2)), some (.sh (.int p)), some (.sh (.int (n0 / 6 % p))), none] = .rt (.sh (wkD (p, n0 / 6 % p, max 1 (min l p)))) := by
    have q : n2 % 3 = 0 ∨ n2 % 3 = 1 ∨ n2 % 3 = 2 := by omega
    rcases q with q | q | q
    · exact ⟨1 + n2 / 3 % 4, by simp [t__law_waking_2_1, q, p0, wkD]⟩
    · exact ⟨p - n2 / 3 % 4, by simp [t__law_waking_2_1, q, p0, wkD]⟩
    · exact ⟨1 + n2 / 3 % p, by simp [t__law_waking_2_1, q, p0, wkD]⟩
  refine ⟨(p, n0 / 6 % p, max 1 (min l p)), ⟨⟨p1, by show 1 ≤ max 1 _; omega, by show max 1 (min l p) ≤ p; omega⟩, bp, f0, f1⟩, ?_⟩
  rw [m__law_waking_2_eq]
  refine runB_rt ?_
  simp [b__law_waking_2, e0, t__law_waking_2_4, m1, hP, t__law_waking_2_3, t__law_waking_2_2, e2, p0, el]
end Mi.Sh

namespace Mi.Sh
open PySem PySem.Spec L2 Mi
/-- a loop that puts on, at each turn, what that turn makes -/
theorem forR_app {τ ω : Type} {gt : Gt} {u : Sv} (enc : List ω → En) (val : τ → D) (g : τ → List ω) (N : Nat) : ∀ (xs : List τ) (acc : List ω), acc.length + (xs.flatMap g).length ≤ N →
    (∀ x acc, x ∈ xs → acc.length + (g x).length ≤ N → turnB gt u (val x) (enc acc) = .nx (enc (acc ++ g x))) → forR gt u (xs.map val) (enc acc) = .nx (enc (acc ++ xs.flatMap g))
  | [], acc, _, _ => by rw [List.flatMap_nil, List.append_nil]; rfl
  | x :: xs, acc, hN, h => by
    rw [List.flatMap_cons, List.length_append] at hN
    rw [List.map_cons, forR_nx (h x acc (List.mem_cons_self ..) (by omega)), forR_app enc val g N xs (acc ++ g x) (by rw [List.length_append]; omega) fun y acc hy => h y acc (List.mem_cons_of_mem _ hy), List.flatMap_cons, List.append_assoc]
theorem flatMap_one {τ ω : Type} (g : τ → ω) : ∀ xs : List τ, xs.flatMap (fun x => [g x]) = xs.map g
  | [] => rfl
  | x :: xs => by rw [List.flatMap_cons, flatMap_one g xs]; rfl
theorem shP_len {us vs : List Wk3} : (shP us vs).length = us.length * vs.length := by
  induction us with
  | nil => simp [shP]
  | cons a l ih =>
    unfold shP at ih ⊢
    rw [List.flatMap_cons, List.length_append, ih, List.length_map, List.length_cons, Nat.succ_mul]
    omega
theorem shifts_any {us vs : List Wk3} (hu : ∀ u ∈ us, Wak u) (hv : ∀ v ∈ vs, Wak v) (hl : us.length ≤ 300) (hl2 : vs.length ≤ 300) {s0 s1 : Sl} (h0 : s0 = .sh (.lst (us.map wkD)) ∨ s0 = .bo (us.map wkD)) (h1 : s1 = .sh (.lst (vs.map wkD)) ∨ s1 = .bo (vs.map wkD)) : m_shifts [s0, s1] = .ok (.ow ((shP us vs).map wkD)) := by
  have i0 : ∀ r, iVar 0 (some s0 :: r) = .ok (us.map wkD) := fun r => by rcases h0 with rfl | rfl <;> rfl
  have i1 : ∀ a r, iVar 1 (a :: some s1 :: r) = .ok (vs.map wkD) := fun a r => by rcases h1 with rfl | rfl <;> rfl
  clear h0 h1
  have hN : us.length * vs.length ≤ 90000 := by
    have : us.length * vs.length ≤ 300 * 300 := Nat.mul_le_mul hl hl2
    omega
  have outer : forR (gSet 3) u_shifts_2 (us.map wkD) [some s0, some s1, some (.ow ([].map wkD)), none, none] = .nx [some s0, some s1, some (.ow (([] ++ shP us vs).map wkD)), none, none] := by
    refine forR_app (fun acc : List Wk3 => [some s0, some s1, some (.ow (acc.map wkD)), none, none]) wkD (fun u => vs.map (shW u)) 90000 us [] (by have := @shP_len us vs; unfold shP at this; rw [this, List.length_nil]; omega) fun u acc hum hacc => ?_
    rw [List.length_map] at hacc
    have inner : forR (gSet 4) u_shifts_1 (vs.map wkD) [some s0, some s1, some (.ow (acc.map wkD)), some (.sh (wkD u)), none] = .nx [some s0, some s1, some (.ow ((acc ++ vs.flatMap fun v => [shW u v]).map wkD)), some (.sh (wkD u)), none] := by
      refine forR_app (fun acc : List Wk3 => [some s0, some s1, some (.ow (acc.map wkD)), some (.sh (wkD u)), none]) wkD (fun v => [shW u v]) 90000 vs acc (by rw [flatMap_one, List.length_map]; exact hacc) fun v acc hvm ha => ?_
      rw [List.length_singleton] at ha
      have es := shifts_of_two_ok (hu u hum) (hv v hvm)
      have hz : acc.length < szL := lt_szL (by omega)
      simp [turnB, u_shifts_1, es, hz]
    rw [flatMap_one] at inner
    have e3 := sFor_at (f := iVar 1) (i1 _ _) inner
    simp only [List.map_append] at e3 ⊢
    simp [turnB, u_shifts_2, e3]
  have e4 := sFor_at (f := iVar 0) (i0 _) outer
  rw [List.nil_append] at e4
  rw [m_shifts_eq]
  refine runB_rt ?_
  simp only [List.map_nil] at e4
  simp [b_shifts, t_shifts_3, e4]
theorem whole_int (x : Int) : m__law_whole [.sh (.int x)] = .ok (.sh (.bl true)) := by
  rw [m__law_whole_eq]
  refine runB_rt ?_
  simp [b__law_whole]
theorem oEq_two {a b : Int} : oEq (.tup [.int a, .int b]) (.tup [.int a, .int b]) = .ok (.bl true) := oEq_tsame rfl (Nat.zero_le 63)
end Mi.Sh

namespace Mi
open PySem PySem.Spec L2 PyProof.Rows
/-! ### min(xs, default=None), min(xs), max(xs, default=0) of whole numbers; divmod -/
def minI : List Int → D
  | [] => .non
  | n :: ns => .int (ns.foldl min n)
def minV : List Int → V
  | [] => .non
  | n :: ns => .int (ns.foldl min n)
theorem reads_ints {h : Heap} : ∀ {us : List Value} {ns : List Int}, IntsAre us ns → ReadsAll h us (ns.map .int) []
  | _, _, .nil => .nil
  | _, _, .cons _ _ r => .cons (.int _ _) (reads_ints r)
theorem depth_ints : ∀ ns : List Int, PyData.depthAll (ns.map .int) = 0
  | [] => rfl
  | n :: ns => by
    rw [List.map_cons, PyData.depthAll, depth_ints ns]
    rfl
theorem alike_ints (ns : List Int) : PySem.W.AlikeAll (ns.map PyData.int) := by
  refine ⟨fun x hx y hy => ?_, fun x hx => ?_⟩
  · obtain ⟨i, _, rfl⟩ := List.mem_map.mp hx
    obtain ⟨j, _, rfl⟩ := List.mem_map.mp hy
    rfl
  · obtain ⟨i, _, rfl⟩ := List.mem_map.mp hx
    exact fun z => nomatch z
def rMinN (K : PySem.W.Frag) : List V → List V → Hp → VK → Prop := fun vs zs H Q => ∃ (a : Addr) (ns : List Int), vs = [V.ref a] ∧ zs = [.non] ∧ SqL K H a (ns.map V.int) ∧ Q (minV ns) H
theorem cr_minN {X : Cx} (hc : X.calm = true) (hu : X.A.units + 64 < cLine) : CallRK X (.builtin "min") [Str.ofString "default"] (rMinN X.K) := by
  intro pins s σ H vs zs us ws Q I r rz h
  obtain ⟨a, ns, rfl, rfl, hs, q⟩ := h
  obtain ⟨its, rv, hl, hz⟩ := I.list hs
  obtain rfl := Vals.ref1 r
  obtain ⟨w1, rfl, e1⟩ := vals1 rz
  obtain rfl : w1 = Value.none := e1
  refine PySem.W.min_list_default (xs := ns.map .int) (as := []) (I.ok.hd hc) hl.isList (by simpa using reads_ints rv.ints) (alike_ints ns) (by rw [depth_ints]; omega) (fun e h' tk hk => ?_) fun y ys i v h' tk bs e hv rd hk => ?_
  · cases ns with
    | nil => exact ⟨V.non, H, I.kept hk, rfl, q⟩
    | cons n ns => cases e
  · cases ns with
    | nil => cases e
    | cons n ns =>
      rw [List.map_cons] at e
      cases e
      rw [PySem.W.minD_ints] at rd
      cases rd with
      | int i t => exact ⟨V.int (List.foldl min n ns), H, I.kept hk, ⟨_, rfl⟩, q⟩
section
variable {c : Cf} {W : WX} {a b e : Expr} {es : List Expr} {f g : Ev} {pos : Pos}
/-- min(xs, default=None) -/
def eMinD (f : Ev) : Ev := fun ρ => (f ρ).bind fun d => match d with
  | .lst ds => (match allI ds with
    | some ns => .ok (minI ns)
    | none => .stuck)
  | _ => .stuck
theorem rep_minI {K : PySem.W.Frag} {B : Hp} : ∀ ns : List Int, Rep K B (minI ns) (minV ns)
  | [] => rfl
  | _ :: _ => rfl
theorem se_minD {x : Str} {p kp p2 : Pos} {j : Nat} (hx : x = "min") (hg : c.sc.names.lookup x = some .globalImplicit) (hm : c.mg x = none) (ha : SB c W e f) (he : ∀ env, starEach [e] env = (false, eval e env) :: starEach [] env := by intro _; rfl)
    (he2 : ∀ env, backTo pos (starEach [e] env) = (false, eval e env) :: backTo pos (starEach [] env) := by intro _; rfl) (hpl : ∀ env, (backTo pos (starEach [e] env)).any (·.1) = false := by intro _; rfl) :
    SE c W (.Call (.Name x p) [e] [⟨some "default", .Constant .none j p2, kp⟩] pos) (eMinD f) := by
  subst hx
  obtain ⟨t, k, ad⟩ := ha
  refine ⟨tCKw (rMinN c.K) (tCons t tNil) (tCons (tC .non) tNil), fun X G => by rw [← G.K]; exact pe_callBK (id := "min") (ks := [Str.ofString "default"]) (cr_minN G.calm (hu_room G.room)) (by show X.env.scope.names.lookup _ = _; rw [G.sc]; exact hg) (by rw [G.mg]; exact hm) (by decide +kernel) (pa_cons (k X G) pa_nil (he X.env)) (pk_cons pe_non pk_nil) (by decide) (by decide) (he2 X.env) (hpl X.env) rfl rfl rfl, fun G B H ρ σ Q m hh => ?_⟩
  refine ad G B H ρ σ _ m ((Po.bind hh).imp fun d B1 H1 e1 h1 v r1 => ?_)
  cases d with
  | lst ds =>
    obtain ⟨a, vs, rfl, q1, q2⟩ := r1
    dsimp only at h1
    split at h1
    · rename_i ns hns
      rw [q2.ints hns] at q1
      exact ⟨a, ns, rfl, rfl, q1, ok_refl h1 e1.in_ _ (rep_minI ns)⟩
    · exact h1.elim
  | _ => exact h1.elim
/-- min(xs), xs a list of whole numbers, not empty -/
@[simp] def oMinL : List D → R D
  | [.lst ds] => match allI ds with
    | some (n :: ns) => .ok (.int (ns.foldl min n))
    | _ => .stuck
  | _ => .stuck
theorem foldl_min_le : ∀ (ns : List Int) (n : Int), ns.foldl min n ≤ n ∧ (∀ y ∈ ns, ns.foldl min n ≤ y) ∧ (ns.foldl min n = n ∨ ns.foldl min n ∈ ns)
  | [], n => ⟨Int.le_refl _, fun y h => absurd h List.not_mem_nil, .inl rfl⟩
  | k :: ns, n => by
    obtain ⟨h1, h2, h3⟩ := foldl_min_le ns (min n k)
    rw [List.foldl_cons]
    refine ⟨by omega, fun y hy => ?_, ?_⟩
    · rcases List.mem_cons.mp hy with rfl | hy
      · omega
      · exact h2 y hy
    · rcases h3 with h3 | h3
      · by_cases q : n ≤ k
        · exact .inl (by rw [h3]; omega)
        · exact .inr (by rw [h3, show min n k = k by omega]; exact List.mem_cons_self)
      · exact .inr (List.mem_cons_of_mem _ h3)
theorem ac_minL : AdC c W (rMin c.K) oMinL := by
  intro σ B H ds vs Q s r h
  rcases ds with _ | ⟨d, _ | ⟨d2, ds⟩⟩
  · exact h.elim
  · obtain ⟨v, rfl, r1⟩ := r.one
    cases d with
    | lst ds =>
      obtain ⟨p, us, rfl, q1, q2⟩ := r1
      unfold oMinL at h
      dsimp only at h
      split at h
      · rename_i n ns hns
        rw [q2.ints hns] at q1
        refine ⟨p, n :: ns, rfl, q1, Nat.succ_pos _, fun m hm hle => ?_⟩
        obtain ⟨h1, h2, h3⟩ := foldl_min_le ns n
        have e : m = ns.foldl min n := by
          have a1 : m ≤ ns.foldl min n := by
            rcases h3 with h3 | h3
            · rw [h3]; exact hle n List.mem_cons_self
            · exact hle _ (List.mem_cons_of_mem _ h3)
          have a2 : ns.foldl min n ≤ m := by
            rcases List.mem_cons.mp hm with rfl | hm
            · exact h1
            · exact h2 m hm
          omega
        rw [e]
        exact ok_refl h s _ rfl
      · exact h.elim
    | _ => exact h.elim
  · cases d <;> exact h.elim
theorem se_minL {x : Str} {p : Pos} (hx : x = "min") (hg : c.sc.names.lookup x = some .globalImplicit) (hm : c.mg x = none) (ha : SB c W e f) (he : ∀ env, starEach [e] env = (false, eval e env) :: starEach [] env := by intro _; rfl) : SE c W (.Call (.Name x p) [e] [] pos) (eCall oMinL (vCons f vNil)) := by
  subst hx
  exact se_callB (fun X G => by rw [← G.K]; exact cr_min G.calm) ac_minL hg hm (by decide +kernel) (sbs_cons ha sbs_nil he) (by decide) (by decide) he (fun _ => rfl)
/-- divmod(i, j) -/
@[simp] def oDivmod : List D → R D
  | [.int i, .int j] => if 0 < j ∧ divOk j = true then .ok (.tup [.int (i / j), .int (i % j)]) else .stuck
  | _ => .stuck
theorem ac_divmod : AdC c W (fun xs H Q => ∃ i j, xs = [.int i, .int j] ∧ CDivP i j ∧ ∀ p, H p = none → Q (.ref p) (upd H p (.tup [.int (i / j), .int (i % j)]))) oDivmod := by
  intro σ B H ds vs Q s r h
  rcases ds with _ | ⟨d, _ | ⟨d2, _ | ⟨d3, ds⟩⟩⟩
  · exact h.elim
  · cases d <;> exact h.elim
  · obtain ⟨v, v', rfl, r1, r2⟩ := r.two
    cases d with
    | int i => cases d2 with
      | int j =>
        cases (show v = .int i from r1)
        cases (show v' = .int j from r2)
        unfold oDivmod at h
        dsimp only at h
        split at h
        · rename_i hz
          refine ⟨i, j, rfl, ⟨hz.1, PyProof.noPylong_of_log2 (of_decide_eq_true hz.2)⟩, fun p hp => ?_⟩
          have x := Ext.newB (o := .tup [.int (i / j), .int (i % j)]) s hp
          exact h _ _ x _ ⟨p, _, rfl, SqT.of upd_same, ⟨_, _, rfl, rfl, _, _, rfl, rfl, rfl⟩⟩
        · exact h.elim
      | _ => exact h.elim
    | _ => cases d2 <;> exact h.elim
  · cases d <;> cases d2 <;> exact h.elim
theorem se_divmod {x : Str} {p : Pos} (hx : x = "divmod") (hg : c.sc.names.lookup x = some .globalImplicit) (hm : c.mg x = none) (ha : SB c W a f) (hb : SB c W b g) (he : ∀ env, starEach [a, b] env = (false, eval a env) :: starEach [b] env := by intro _; rfl) (he2 : ∀ env, starEach [b] env = (false, eval b env) :: starEach [] env := by intro _; rfl)
    (hpl : ∀ env, (backTo pos (starEach [b] env)).any (·.1) = false := by intro _; rfl) : SE c W (.Call (.Name x p) [a, b] [] pos) (eCall oDivmod (vCons f (vCons g vNil))) := by
  subst hx
  exact se_callB (fun X G => call_divmodW) ac_divmod hg hm (by decide +kernel) (sbs_cons ha (sbs_cons hb sbs_nil he2) he) (by decide) (by decide) he hpl
end
end Mi

namespace Mi.Sh
open PySem PySem.Spec L2 Mi
-- lonely_shift: 0:one 1:other
noncomputable def b_lonely_shift : Sv :=
  sRet (eApp m_hole (aVal (eLst (eAppF m_shifts (aVal (eVar 0) (aVal (eVar 1) (aNil))))) (aNil)))
noncomputable def m_lonely_shift : List Sl → R Sl := hid (runB 2 b_lonely_shift)
theorem m_lonely_shift_eq : m_lonely_shift = runB 2 b_lonely_shift := hid_eq _
-- _law_waking_3: 0:most 1:cells 2:k 3:period 4:length
noncomputable def t__law_waking_3_1 : Sv :=
  sSeq (sIf (tst (eBin oEq (eBin oMod (eBin oIx (eLook 1) (eBin oAdd (eLook 2) (eD (.int 2)))) (eD (.int 2))) (eD (.int 0)))) (sAsg (eBin oAdd (eD (.int 1)) (eBin oMod (eBin oDiv (eBin oIx (eLook 1) (eBin oAdd (eLook 2) (eD (.int 2)))) (eD (.int 2))) (eCall oMin (vCons (eLook 3) (vCons (eD (.int 2)) vNil))))) (gSet 4)) (sNx)) (sRet (eTup (vCons (eVar 3) (vCons (eBin oMod (eBin oIx (eLook 1) (eBin oAdd (eLook 2) (eD (.int 1)))) (eLook 3)) (vCons (eVar 4) (vNil))))))
noncomputable def t__law_waking_3_2 : Sv :=
  sSeq (sAsg (eBin oAdd (eD (.int 1)) (eBin oMod (eBin oDiv (eBin oIx (eLook 1) (eBin oAdd (eLook 2) (eD (.int 2)))) (eD (.int 2))) (eLook 3))) (gSet 4)) (t__law_waking_3_1)
noncomputable def b__law_waking_3 : Sv :=
  sSeq (sAsg (eApp m_divisor (aVal (eVar 0) (aVal (eBin oMod (eBin oIx (eLook 1) (eLook 2)) (eLook 0)) (aNil)))) (gSet 3)) (t__law_waking_3_2)
noncomputable def m__law_waking_3 : List Sl → R Sl := hid (runB 5 b__law_waking_3)
theorem m__law_waking_3_eq : m__law_waking_3 = runB 5 b__law_waking_3 := hid_eq _
-- _law_up: 0:plan 1:most 2:rows 3:turn 4:one
noncomputable def u__law_up_1 : Sv :=
  sSeq (sApp 2 (eBin oNe (eLst (eLc (iVar 0) (gSet 4) (tst (eBin oLt (eBin oMod (eBin oSub (eLook 3) (eBin oIx (eLook 4) (eD (.int 1)))) (eBin oIx (eLook 4) (eD (.int 0)))) (eBin oIx (eLook 4) (eD (.int 2))))) (eVar 4) [4])) (eLst (vNil)))) (sKill 3 (sNx))
noncomputable def t__law_up_2 : Sv :=
  sSeq (sFor (iRng1D (eVar 1)) (gSet 3) (u__law_up_1)) (sRetO 2)
noncomputable def b__law_up : Sv :=
  sSeq (sSetF 2 (vNil)) (t__law_up_2)
noncomputable def m__law_up : List Sl → R Sl := hid (runB 5 b__law_up)
theorem m__law_up_eq : m__law_up = runB 5 b__law_up := hid_eq _
-- worst_at: 0:one 1:other 2:shift 3:turns 4:ahead 5:most 6:least 7:turn
noncomputable def t_worst_at_1 : Sv :=
  sSeq (sIf (tst (eBin oGe (eBin oSub (eLook 4) (eLook 7)) (eLook 5))) (sSeq (sAsg (eBin oSub (eLook 4) (eLook 7)) (gSet 5)) (sAsg (eVar 7) (gSet 6))) (sNx)) (sKill 7 (sNx))
noncomputable def u_worst_at_2 : Sv :=
  sSeq (sIf (tst (eApp m_together (aVal (eVar 0) (aVal (eVar 1) (aVal (eVar 2) (aVal (eVar 7) (aNil))))))) (sAsg (eVar 7) (gSet 4)) (sNx)) (t_worst_at_1)
noncomputable def t_worst_at_3 : Sv :=
  sSeq (sFor (iRevRg (eVar 3)) (gSet 7) (u_worst_at_2)) (sRet (eTup (vCons (eVar 5) (vCons (eVar 6) (vNil)))))
noncomputable def t_worst_at_4 : Sv :=
  sSeq (sAsg (eD (.int 0)) (gSet 6)) (t_worst_at_3)
noncomputable def t_worst_at_5 : Sv :=
  sSeq (sAsg (eD (.int 0)) (gSet 5)) (t_worst_at_4)
noncomputable def b_worst_at : Sv :=
  sSeq (sAsg (eApp m_next_together (aVal (eVar 0) (aVal (eVar 1) (aVal (eVar 2) (aVal (eVar 3) (aNil)))))) (gSet 4)) (t_worst_at_5)
noncomputable def m_worst_at : List Sl → R Sl := hid (runB 8 b_worst_at)
theorem m_worst_at_eq : m_worst_at = runB 8 b_worst_at := hid_eq _
-- worst: 0:one 1:other 2:meeting 3:turns 4:found 5:shift 6:most 7:turn
noncomputable def t_worst_1 : Sv :=
  sSeq (sIf (tOrE (tst (eBin oIs (eLook 4) (eD .non))) (tst (eBin oGt (eLook 6) (eBin oIx (eLook 4) (eD (.int 0)))))) (sAsg (eTup (vCons (eVar 6) (vCons (eVar 5) (vCons (eVar 7) (vNil))))) (gSet 4)) (sNx)) (sKill 6 (sKill 5 (sKill 7 (sNx))))
noncomputable def u_worst_2 : Sv :=
  sSeq (sAsg (eApp m_worst_at (aVal (eVar 0) (aVal (eVar 1) (aVal (eVar 5) (aVal (eVar 3) (aNil)))))) (gTupD 2 (gsCons (gSet 6) (gsCons (gSet 7) (gsNil))))) (t_worst_1)
noncomputable def t_worst_3 : Sv :=
  sSeq (sFor (iRng1D (eApp m_plan_round (aVal (eVar 2) (aNil)))) (gSet 5) (u_worst_2)) (sRet (eVar 4))
noncomputable def t_worst_4 : Sv :=
  sSeq (sAsg (eD .non) (gSet 4)) (t_worst_3)
noncomputable def t_worst_5 : Sv :=
  sSeq (sIf (tst (eBin oIsNot (eApp m_hole (aVal (eVar 2) (aNil))) (eD .non))) (sRet (eD .non)) (sNx)) (t_worst_4)
noncomputable def t_worst_6 : Sv :=
  sSeq (sIf (tst (eBin oGt (eBin oMul (eApp m_plan_round (aVal (eVar 2) (aNil))) (eLook 3)) (eD (.int 20000)))) (sRaise "TooMany") (sNx)) (t_worst_5)
noncomputable def t_worst_7 : Sv :=
  sFrz 2 (sSeq (sAsg (eApp m_least_round (aVal (eLst (vCons (eApp m_plan_round (aVal (eVar 0) (aNil))) (vCons (eApp m_plan_round (aVal (eVar 1) (aNil))) (vNil)))) (aNil))) (gSet 3)) (t_worst_6))
noncomputable def b_worst : Sv :=
  sSeq (sSetF 2 (eAppF m_shifts (aVal (eVar 0) (aVal (eVar 1) (aNil))))) (t_worst_7)
noncomputable def m_worst : List Sl → R Sl := hid (runB 8 b_worst)
theorem m_worst_eq : m_worst = runB 8 b_worst := hid_eq _
end Mi.Sh

namespace Mi.Sh
open PySem PySem.Spec L2 Mi
theorem rngD_0 {n : Nat} : rngD 0 n = (List.range n).map fun (j : Nat) => D.int (j : Int) := by
  unfold rngD
  refine List.map_congr_left fun i _ => ?_
  show D.int (0 + (i : Int)) = _
  rw [Int.zero_add]
/-- the first that is wanted, of 0, 1, 2 .. -/
theorem forR_first {gt : Gt} {u : Sv} {ρ : En} (q : Nat → Bool) (r : Nat → Sl) (n : Nat) (h : ∀ j, j < n → turnB gt u (.int (j : Int)) ρ = if q j = true then .rt (r j) else .nx ρ) :
    (∃ j, j < n ∧ q j = true ∧ (∀ i, i < j → q i = false) ∧ forR gt u (rngD 0 n) ρ = .rt (r j)) ∨ ((∀ j, j < n → q j = false) ∧ forR gt u (rngD 0 n) ρ = .nx ρ) := by
  have key := forR_find (gt := gt) (u := u) (ρ := ρ) (fun (j : Nat) => D.int (j : Int)) q r (List.range n) fun j hj => h j (List.mem_range.mp hj)
  rw [← rngD_0] at key
  cases e : List.find? q (List.range n) with
  | some j =>
    rw [e] at key
    obtain ⟨h1, h2, h3⟩ := List.find?_range_eq_some.mp e
    refine .inl ⟨j, List.mem_range.mp h2, h1, fun i hi => ?_, key⟩
    have := h3 i hi
    cases z : q i with
    | false => rfl
    | true => rw [z] at this; cases this
  | none =>
    rw [e] at key
    refine .inr ⟨fun j hj => ?_, key⟩
    have := List.find?_range_eq_none.mp e j hj
    cases z : q j with
    | false => rfl
    | true => rw [z] at this; cases this
/-- the first turn ahead of n at which none is awake -/
def HoleN (ws : List Wk3) (n : Int) : Option Int → Prop
  | none => ∀ t : Int, 0 ≤ t → t < n → awk ws t = true
  | some t => 0 ≤ t ∧ t < n ∧ awk ws t = false ∧ ∀ t', 0 ≤ t' → t' < t → awk ws t' = true
theorem HoleN.of {ws : List Wk3} {n : Nat} {gt : Gt} {u : Sv} {ρ : En} (h : ∀ j : Nat, j < n → turnB gt u (.int (j : Int)) ρ = if (!awk ws (j : Int)) = true then .rt (.sh (.int (j : Int))) else .nx ρ) :
    ∃ o, HoleN ws n o ∧ forR gt u (rngD 0 n) ρ = match o with | some t => .rt (.sh (.int t)) | none => .nx ρ := by
  rcases forR_first (fun j => !awk ws (j : Int)) (fun j => .sh (.int (j : Int))) n h with ⟨j, h1, h2, h3, h4⟩ | ⟨h1, h2⟩
  · refine ⟨some (j : Int), ⟨by omega, by omega, ?_, fun t' p1 p2 => ?_⟩, h4⟩
    · cases z : awk ws (j : Int) with
      | false => rfl
      | true => rw [z] at h2; cases h2
    · have := h3 t'.toNat (by omega)
      rw [Int.toNat_of_nonneg p1] at this
      cases z : awk ws t' with
      | true => rfl
      | false => rw [z] at this; cases this
  · refine ⟨none, fun t p1 p2 => ?_, h2⟩
    have := h1 t.toNat (by omega)
    rw [Int.toNat_of_nonneg p1] at this
    cases z : awk ws t with
    | true => rfl
    | false => rw [z] at this; cases this
theorem HoleN.uni {ws : List Wk3} {R n : Int} (hR : 0 < R) (hd : ∀ w ∈ ws, w.1 ∣ R) (hl : R ≤ n) {o o' : Option Int} (h : HoleN ws R o) (h' : HoleN ws n o') : o = o' := by
  have per : ∀ t, awk ws (t % R) = awk ws t := fun t => by
    have d := Int.emod_add_mul_ediv t R
    have := awk_more (ws := ws) (t := t % R) (L := R * (t / R)) fun w hw => Int.dvd_trans (hd w hw) (Int.dvd_mul_right ..)
    rw [d] at this
    exact this.symm
  cases o with
  | none =>
    cases o' with
    | none => rfl
    | some t =>
      have := h (t % R) (Int.emod_nonneg _ (by omega)) (Int.emod_lt_of_pos _ hR)
      rw [per, h'.2.2.1] at this
      cases this
  | some t =>
    obtain ⟨a1, a2, a3, a4⟩ := h
    cases o' with
    | none =>
      have := h' t a1 (by omega)
      rw [a3] at this
      cases this
    | some t' =>
      obtain ⟨b1, b2, b3, b4⟩ := h'
      by_cases z : t = t'
      · rw [z]
      · exfalso
        by_cases y : t < t'
        · have := b4 t a1 y
          rw [a3] at this
          cases this
        · have := a4 t' b1 (by omega)
          rw [b3] at this
          cases this
def rndOf (ws : List Wk3) : Nat := lcms 1 (ws.map fun w => w.1.toNat)
theorem rndOf_pos {ws : List Wk3} (h : ∀ w ∈ ws, 1 ≤ w.1) : 0 < rndOf ws := lcms_pos (by decide) fun n hn => by
  obtain ⟨w, hw, rfl⟩ := List.mem_map.mp hn
  have := h w hw
  omega
theorem rndOf_dvd {ws : List Wk3} (h : ∀ w ∈ ws, 1 ≤ w.1) {w : Wk3} (hw : w ∈ ws) : w.1 ∣ (rndOf ws : Int) := by
  have := lcms_dvd (acc := 1) (List.mem_map_of_mem (f := fun w : Wk3 => w.1.toNat) hw)
  have h1 := h w hw
  have := Int.natCast_dvd_natCast.mpr this
  rwa [Int.toNat_of_nonneg (by omega)] at this
theorem rndOf_least {ws : List Wk3} {k : Nat} (h : ∀ w ∈ ws, w.1.toNat ∣ k) : rndOf ws ∣ k := lcms_least (Nat.one_dvd _) fun n hn => by
  obtain ⟨w, hw, rfl⟩ := List.mem_map.mp hn
  exact h w hw
theorem hole_ok {ws : List Wk3} {b : Nat} (hb : b < 9000) (h : ∀ w ∈ ws, 1 ≤ w.1 ∧ Bd b w.1) (hl : ws.length * b ≤ 999000) (hl2 : ws.length ≤ 1000000) (h5 : rndOf ws ≤ 5000) : ∃ o, HoleN ws (rndOf ws) o ∧ m_hole [.sh (.lst (ws.map wkD))] = .ok (.sh (optD o)) := by
  have e0 := plan_round_ok hb h hl hl2 (.inl rfl)
  change _ = R.ok (Sl.sh (.int (rndOf ws : Nat))) at e0
  obtain ⟨o, ho, e1⟩ := HoleN.of (ws := ws) (n := rndOf ws) (gt := gSet 2) (u := u_hole_1) (ρ := [some (.sh (.lst (ws.map wkD))), some (.sh (.int (rndOf ws : Nat))), none]) fun j hj => by
    have a := awake_ok (t := (j : Int)) (fun w hw => (h w hw).1) (.inl rfl)
    cases z : awk ws (j : Int) with
    | true => rw [z] at a; simp [turnB, u_hole_1, a]
    | false => rw [z] at a; simp [turnB, u_hole_1, a]
  refine ⟨o, ho, ?_⟩
  have e2 := sFor_at (f := iRng1D (eVar 1)) (iRng1D_ok (j := ((rndOf ws : Nat) : Int)) rfl (by omega)) e1
  have z : ¬ (5000 : Int) < (rndOf ws : Int) := by omega
  rw [m_hole_eq]
  refine runB_rt ?_
  generalize rndOf ws = n at *
  cases o with
  | none => simp [b_hole, e0, t_hole_3, z, t_hole_2, e2, optD]
  | some t => simp [b_hole, e0, t_hole_3, z, t_hole_2, e2, optD]
end Mi.Sh

namespace Mi.Sh
open PySem PySem.Spec L2 Mi
/-! things counted -/
theorem len_sub {α : Type} [BEq α] [LawfulBEq α] : ∀ {xs ys : List α}, xs.Nodup → (∀ x ∈ xs, x ∈ ys) → xs.length ≤ ys.length
  | [], ys, _, _ => Nat.zero_le _
  | x :: xs, ys, hn, hs => by
    rw [List.nodup_cons] at hn
    have hx := hs x (List.mem_cons_self ..)
    have h1 := len_sub (xs := xs) (ys := ys.erase x) hn.2 fun y hy => (List.mem_erase_of_ne (a := y) (b := x) (fun e => hn.1 (by rw [← e]; exact hy))).mpr (hs y (List.mem_cons_of_mem _ hy))
    rw [List.length_erase_of_mem hx] at h1
    have := List.length_pos_of_mem hx
    rw [List.length_cons]
    omega
open Classical in
noncomputable def cnt (P : Int → Prop) (a : Int) (n : Nat) : List Int := ((List.range n).map fun (i : Nat) => a + (i : Int)).filter fun c => decide (P c)
open Classical in
theorem mem_cnt {P : Int → Prop} {a c : Int} {n : Nat} : c ∈ cnt P a n ↔ a ≤ c ∧ c < a + n ∧ P c := by
  unfold cnt
  rw [List.mem_filter, List.mem_map]
  constructor
  · rintro ⟨⟨i, hi, rfl⟩, h⟩
    have := List.mem_range.mp hi
    exact ⟨by omega, by omega, of_decide_eq_true h⟩
  · rintro ⟨h1, h2, h3⟩
    exact ⟨⟨(c - a).toNat, List.mem_range.mpr (by omega), by omega⟩, decide_eq_true h3⟩
theorem nodup_map {α β : Type} {f : α → β} : ∀ {xs : List α}, xs.Nodup → (∀ x ∈ xs, ∀ y ∈ xs, f x = f y → x = y) → (xs.map f).Nodup
  | [], _, _ => by simp
  | x :: xs, h, inj => by
    rw [List.nodup_cons] at h
    rw [List.map_cons, List.nodup_cons]
    refine ⟨fun hm => ?_, nodup_map h.2 fun y hy z hz => inj y (List.mem_cons_of_mem _ hy) z (List.mem_cons_of_mem _ hz)⟩
    obtain ⟨y, hy, e⟩ := List.mem_map.mp hm
    have := inj y (List.mem_cons_of_mem _ hy) x (List.mem_cons_self ..) e
    exact h.1 (this ▸ hy)
theorem nodup_cnt {P : Int → Prop} {a : Int} {n : Nat} : (cnt P a n).Nodup := by
  unfold cnt
  exact (nodup_map List.nodup_range fun x _ y _ e => by omega).filter _
theorem cnt_one {P : Int → Prop} {a : Int} {n : Nat} (h1 : ∀ c, a ≤ c → c < a + n → ¬ P c) (h2 : P (a + n)) : (cnt P a (n + 1)).length = 1 := by
  have e : ∀ c, c ∈ cnt P a (n + 1) ↔ c ∈ [a + (n : Int)] := fun c => by
    rw [mem_cnt, List.mem_singleton]
    constructor
    · rintro ⟨p1, p2, p3⟩
      rcases Int.lt_or_le c (a + n) with z | z
      · exact absurd p3 (h1 c p1 z)
      · omega
    · rintro rfl
      exact ⟨by omega, by omega, h2⟩
  have a1 := len_sub nodup_cnt (fun c hc => (e c).mp hc)
  have a2 := len_sub (xs := [a + (n : Int)]) (by simp) (fun c hc => (e c).mpr hc)
  simp at a1 a2
  omega
theorem cnt_add {P : Int → Prop} {a : Int} {n m : Nat} : (cnt P a (n + m)).length = (cnt P a n).length + (cnt P (a + n) m).length := by
  have nd : (cnt P a n ++ cnt P (a + n) m).Nodup := by
    rw [List.nodup_append]
    refine ⟨nodup_cnt, nodup_cnt, fun x hx y hy e => ?_⟩
    have := (mem_cnt.mp hx).2.1
    have := (mem_cnt.mp hy).1
    omega
  have e : ∀ c, c ∈ cnt P a (n + m) ↔ c ∈ cnt P a n ++ cnt P (a + n) m := fun c => by
    rw [List.mem_append, mem_cnt, mem_cnt, mem_cnt]
    constructor
    · rintro ⟨p1, p2, p3⟩
      rcases Int.lt_or_le c (a + n) with z | z
      · exact .inl ⟨p1, z, p3⟩
      · exact .inr ⟨z, by omega, p3⟩
    · rintro (⟨p1, p2, p3⟩ | ⟨p1, p2, p3⟩)
      · exact ⟨p1, by omega, p3⟩
      · exact ⟨by omega, by omega, p3⟩
  have a1 := len_sub nodup_cnt (fun c hc => (e c).mp hc)
  have a2 := len_sub nd (fun c hc => (e c).mpr hc)
  rw [List.length_append] at a1 a2
  omega
/-- G steps on from one that is counted there have been just as many as in a round: then G is the round -/
theorem cnt_whole {P : Int → Prop} {c0 : Int} {G R n : Nat} (hr : (cnt P (c0 + 1) R).length = n) (hg : (cnt P (c0 + 1) G).length = n) (h1 : P (c0 + R)) (h2 : P (c0 + G)) (hR : 0 < R) (hG : 0 < G) : G = R := by
  rcases Nat.lt_trichotomy G R with z | z | z
  · exfalso
    have hs := cnt_add (P := P) (a := c0 + 1) (n := G) (m := R - G)
    rw [show G + (R - G) = R by omega] at hs
    have : c0 + R ∈ cnt P (c0 + 1 + G) (R - G) := mem_cnt.mpr ⟨by omega, by omega, h1⟩
    have := List.length_pos_of_mem this
    omega
  · exact z
  · exfalso
    have hs := cnt_add (P := P) (a := c0 + 1) (n := R) (m := G - R)
    rw [show R + (G - R) = G by omega] at hs
    have : c0 + G ∈ cnt P (c0 + 1 + R) (G - R) := mem_cnt.mpr ⟨by omega, by omega, h2⟩
    have := List.length_pos_of_mem this
    omega
/-- in each whole round of two wakings there are as many turns together as pairs of their turns that fit -/
theorem cnt_pair {p1 p2 g f1 f2 l1 l2 sh a k1 k2 x0 z : Int} (hg : 0 < g) (e1 : p1 = g * k1) (e2 : p2 = g * k2) (bz : p1 * x0 = g + p2 * z) (hk1 : 0 < k1) (hk2 : 0 < k2) (h1 : 1 ≤ l1) (h1' : l1 ≤ p1) (h2 : 1 ≤ l2) (h2' : l2 ≤ p2) :
    (cnt (fun t => (t - f1) % p1 < l1 ∧ (t - sh - f2) % p2 < l2) a (k1 * p2).toNat).length = ((List.range (l1 * l2).toNat).filter fun (k : Nat) => decide ((f1 - f2 - sh + (k : Int) / l2 - (k : Int) % l2) % g = 0)).length := by
  have P1 : 0 < p1 := by omega
  have P2 : 0 < p2 := by omega
  have L0 : 0 < k1 * p2 := Int.mul_pos hk1 P2
  have Lk : k1 * p2 = p1 * k2 := by rw [e1, e2]; grind
  have gL : g * (k1 * p2) = p1 * p2 := by rw [e1]; grind
  have ll : 0 ≤ l1 * l2 := Int.mul_nonneg (by omega) (by omega)
  have r1 : ∀ t, 0 ≤ (t - f1) % p1 := fun t => Int.emod_nonneg _ (by omega)
  have r2 : ∀ t, 0 ≤ (t - sh - f2) % p2 := fun t => Int.emod_nonneg _ (by omega)
  have code : ∀ i j : Int, 0 ≤ i → i < l1 → 0 ≤ j → j < l2 → 0 ≤ i * l2 + j ∧ i * l2 + j < l1 * l2 ∧ (i * l2 + j) / l2 = i ∧ (i * l2 + j) % l2 = j := fun i j i0 i1 j0 j1 => by
    have m0 : 0 ≤ i * l2 := Int.mul_nonneg i0 (by omega)
    have m1 : (i + 1) * l2 ≤ l1 * l2 := Int.mul_le_mul_of_nonneg_right (by omega) (by omega)
    rw [Int.add_mul, Int.one_mul] at m1
    refine ⟨by omega, by omega, ?_, ?_⟩
    · rw [Int.add_comm, Int.add_mul_ediv_right _ _ (by omega), Int.ediv_eq_zero_of_lt j0 j1, Int.zero_add]
    · rw [Int.add_comm, Int.add_mul_emod_self_right, Int.emod_eq_of_lt j0 j1]
  have V1 : ∀ t, (t - f1) % p1 < l1 ∧ (t - sh - f2) % p2 < l2 → ((t - f1) % p1 * l2 + (t - sh - f2) % p2).toNat ∈ (List.range (l1 * l2).toNat).filter fun (k : Nat) => decide ((f1 - f2 - sh + (k : Int) / l2 - (k : Int) % l2) % g = 0) := fun t ⟨a1, a2⟩ => by
    obtain ⟨c1, c2, c3, c4⟩ := code _ _ (r1 t) a1 (r2 t) a2
    refine List.mem_filter.mpr ⟨List.mem_range.mpr (by omega), decide_eq_true ?_⟩
    rw [Int.toNat_of_nonneg c1, c3, c4]
    have d1 := Int.emod_add_mul_ediv (t - f1) p1
    have d2 := Int.emod_add_mul_ediv (t - sh - f2) p2
    generalize (t - f1) / p1 = q1 at *
    generalize (t - sh - f2) / p2 = q2 at *
    have : f1 - f2 - sh + (t - f1) % p1 - (t - sh - f2) % p2 = g * (k2 * q2 - k1 * q1) := by
      have x1 : g * (k2 * q2 - k1 * q1) = p2 * q2 - p1 * q1 := by rw [e1, e2]; grind
      rw [x1]
      omega
    rw [this, Int.mul_emod_right]
  have same : ∀ x y : Int, x ≤ y → y < x + k1 * p2 → (x - f1) % p1 = (y - f1) % p1 → (x - sh - f2) % p2 = (y - sh - f2) % p2 → x = y := fun x y b1 b2 s1 s2 => by
    obtain ⟨m, hm⟩ : p1 ∣ y - x := by
      have : (y - f1 - (x - f1)) % p1 = 0 := by rw [Int.sub_emod, s1, Int.sub_self, Int.zero_emod]
      rw [show y - f1 - (x - f1) = y - x by omega] at this
      exact Int.dvd_of_emod_eq_zero this
    obtain ⟨n, hn⟩ : p2 ∣ y - x := by
      have : (y - sh - f2 - (x - sh - f2)) % p2 = 0 := by rw [Int.sub_emod, s2, Int.sub_self, Int.zero_emod]
      rw [show y - sh - f2 - (x - sh - f2) = y - x by omega] at this
      exact Int.dvd_of_emod_eq_zero this
    -- p2 divides g m
    have e3 : g * m = p2 * (n * x0 - z * m) := by
      have : p1 * x0 * m = (y - x) * x0 := by rw [hm]; grind
      rw [bz] at this
      rw [hn] at this
      grind
    generalize n * x0 - z * m = k at *
    by_cases zz : x = y
    · exact zz
    · exfalso
      have D : 0 < y - x := by omega
      have mp : 0 < m := by
        rcases Int.lt_or_le 0 m with w | w
        · exact w
        · have := Int.mul_nonneg_of_nonpos_of_nonpos (a := -p1) (b := m) (by omega) w
          rw [Int.neg_mul] at this
          omega
      have gm : 0 < g * m := Int.mul_pos hg mp
      have kp : 1 ≤ k := by
        rcases Int.lt_or_le 0 k with w | w
        · exact w
        · have := Int.mul_nonneg_of_nonpos_of_nonpos (a := -p2) (b := k) (by omega) w
          rw [Int.neg_mul] at this
          omega
      have x1 : p1 * p2 * 1 ≤ p1 * p2 * k := Int.mul_le_mul_of_nonneg_left kp (Int.mul_nonneg (by omega) (by omega))
      have x2 : g * (y - x) = p1 * p2 * k := by
        rw [hm]
        have : g * (p1 * m) = p1 * (g * m) := by grind
        rw [this, e3]
        grind
      have x3 : g * (y - x) < g * (k1 * p2) := Int.mul_lt_mul_of_pos_left (by omega) hg
      omega
  have inj : ∀ x ∈ cnt (fun t => (t - f1) % p1 < l1 ∧ (t - sh - f2) % p2 < l2) a (k1 * p2).toNat, ∀ y ∈ cnt (fun t => (t - f1) % p1 < l1 ∧ (t - sh - f2) % p2 < l2) a (k1 * p2).toNat, ((x - f1) % p1 * l2 + (x - sh - f2) % p2).toNat = ((y - f1) % p1 * l2 + (y - sh - f2) % p2).toNat → x = y := fun x hx y hy e => by
    obtain ⟨x1, x2, x3, x4⟩ := mem_cnt.mp hx
    obtain ⟨y1, y2, y3, y4⟩ := mem_cnt.mp hy
    rw [Int.toNat_of_nonneg (by omega)] at x2 y2
    obtain ⟨c1, c2, c3, c4⟩ := code _ _ (r1 x) x3 (r2 x) x4
    obtain ⟨d1, d2, d3, d4⟩ := code _ _ (r1 y) y3 (r2 y) y4
    have e' : (x - f1) % p1 * l2 + (x - sh - f2) % p2 = (y - f1) % p1 * l2 + (y - sh - f2) % p2 := by omega
    rw [e'] at c3 c4
    have s1 := c3.symm.trans d3
    have s2 := c4.symm.trans d4
    rcases Int.le_total x y with w | w
    · exact same x y w (by omega) s1 s2
    · exact (same y x w (by omega) s1.symm s2.symm).symm
  have up := len_sub (nodup_map (f := fun t : Int => ((t - f1) % p1 * l2 + (t - sh - f2) % p2).toNat) nodup_cnt inj) fun v hv => by
    obtain ⟨t, ht, rfl⟩ := List.mem_map.mp hv
    exact V1 t (mem_cnt.mp ht).2.2
  rw [List.length_map] at up
  have dn := len_sub (xs := (List.range (l1 * l2).toNat).filter fun (k : Nat) => decide ((f1 - f2 - sh + (k : Int) / l2 - (k : Int) % l2) % g = 0)) (ys := (cnt (fun t => (t - f1) % p1 < l1 ∧ (t - sh - f2) % p2 < l2) a (k1 * p2).toNat).map fun t : Int => ((t - f1) % p1 * l2 + (t - sh - f2) % p2).toNat) (List.nodup_range.filter _) fun k hk => by
    obtain ⟨hk1', hk2'⟩ := List.mem_filter.mp hk
    have hkl := List.mem_range.mp hk1'
    have hc := of_decide_eq_true hk2'
    have j0 := Int.emod_nonneg (k : Int) (show l2 ≠ 0 by omega)
    have j1 := Int.emod_lt_of_pos (k : Int) (show 0 < l2 by omega)
    have d := Int.emod_add_mul_ediv (k : Int) l2
    have i0 : 0 ≤ (k : Int) / l2 := Int.ediv_nonneg (by omega) (by omega)
    have i1 : (k : Int) / l2 < l1 := Int.ediv_lt_of_lt_mul (by omega) (by omega)
    generalize (k : Int) / l2 = i at *
    generalize hj : (k : Int) % l2 = j at *
    obtain ⟨e, he⟩ := Int.dvd_of_emod_eq_zero hc
    -- a turn
    have t1 : f1 + i + p1 * (x0 * -e) - sh - f2 = j + p2 * -(z * e) := by
      have : p1 * (x0 * -e) = -((p1 * x0) * e) := by grind
      rw [this, bz]
      have : (g + p2 * z) * e = g * e + p2 * (z * e) := by grind
      rw [this, Int.mul_neg]
      omega
    obtain ⟨t, ht⟩ : ∃ t, t = f1 + i + p1 * (x0 * -e) := ⟨_, rfl⟩
    rw [← ht] at t1
    have dd := Int.emod_add_mul_ediv (t - a) (k1 * p2)
    have w0 := Int.emod_nonneg (t - a) (show k1 * p2 ≠ 0 by omega)
    have w1 := Int.emod_lt_of_pos (t - a) L0
    generalize (t - a) / (k1 * p2) = q at *
    have ht' : a + (t - a) % (k1 * p2) = t - k1 * p2 * q := by omega
    have m1 : (t - k1 * p2 * q - f1) % p1 = i := by
      have : t - k1 * p2 * q - f1 = i + p1 * (x0 * -e - k2 * q) := by
        rw [ht, Lk, Int.mul_sub]
        have : p1 * k2 * q = p1 * (k2 * q) := by grind
        rw [this]
        omega
      rw [this, Int.add_mul_emod_self_left, Int.emod_eq_of_lt i0 (by omega)]
    have m2 : (t - k1 * p2 * q - sh - f2) % p2 = j := by
      have : t - k1 * p2 * q - sh - f2 = j + p2 * (-(z * e) - k1 * q) := by
        rw [Int.mul_sub]
        have : p2 * (k1 * q) = k1 * p2 * q := by grind
        rw [this]
        omega
      rw [this, Int.add_mul_emod_self_left, Int.emod_eq_of_lt j0 (by omega)]
    refine List.mem_map.mpr ⟨t - k1 * p2 * q, mem_cnt.mpr ⟨by omega, by rw [Int.toNat_of_nonneg (by omega)]; omega, by rw [m1, m2]; exact ⟨i1, j1⟩⟩, ?_⟩
    rw [m1, m2]
    have : i * l2 = l2 * i := Int.mul_comm ..
    omega
  rw [List.length_map] at dn
  omega
end Mi.Sh

namespace Mi.Sh
open PySem PySem.Spec L2 Mi
/-- a waking whose period divides M -/
structure Okw (M : Int) (w : Wk3) : Prop where
  wak : Wak w
  d : w.1 ∣ M
theorem Okw.le {M : Int} {w : Wk3} (hM : 1 ≤ M) (h : Okw M w) : w.1 ≤ M := Int.le_of_dvd (by omega) h.d
theorem gcd_pos_l {M a : Int} (hM : 1 ≤ M) : (1 : Int) ≤ ((Int.gcd M a : Nat) : Int) := by
  have : Int.gcd M a ≠ 0 := fun z => by
    have := Int.gcd_eq_zero_iff.mp z
    omega
  omega
theorem rngC_get' {lo c : Int} {n i : Nat} {d : D} (h : (rngC lo c n)[i]? = some d) : i < n ∧ d = .int (lo + i * c) := by
  unfold rngC at h
  rw [List.getElem?_map] at h
  by_cases hi : i < n
  · rw [List.getElem?_range hi] at h
    cases h
    exact ⟨hi, rfl⟩
  · rw [List.getElem?_eq_none (by rw [List.length_range]; omega)] at h
    cases h
theorem rngC_len' {lo c : Int} {n : Nat} : (rngC lo c n).length = n := by unfold rngC; rw [List.length_map, List.length_range]
theorem waking3_ok {cs : List Int} {M k : Int} (hM : 1 ≤ M) (h0 : 0 ≤ k) (hk : k + 2 < cs.length) : ∃ w : Wk3, Okw M w ∧ m__law_waking_3 [.sh (.int M), .sh (.lst (cs.map D.int)), .sh (.int k)] = .ok (.sh (wkD w)) := by
  obtain ⟨a, _, ea⟩ := atI_at (f := D.int) (xs := cs) (i := k) (by omega) (by omega)
  obtain ⟨b, _, eb⟩ := atI_at (f := D.int) (xs := cs) (i := k + 1) (by omega) (by omega)
  obtain ⟨c, _, ec⟩ := atI_at (f := D.int) (xs := cs) (i := k + 2) (by omega) (by omega)
  have M0 : 0 < M := by omega
  have r0 := Int.emod_nonneg a (show M ≠ 0 by omega)
  have ed := divisor_ok (a := M) (b := a % M) (by omega) r0
  obtain ⟨p, hp⟩ : ∃ p : Int, p = ((Int.gcd M (a % M) : Nat) : Int) := ⟨_, rfl⟩
  have pd : p ∣ M := by rw [hp]; exact Int.gcd_dvd_left ..
  have p1 : 1 ≤ p := by rw [hp]; exact gcd_pos_l hM
  rw [← hp] at ed
  have p0 : 0 < p := by omega
  have f0 := Int.emod_nonneg b (show p ≠ 0 by omega)
  have l0 := Int.emod_nonneg (c / 2) (show p ≠ 0 by omega)
  have l1 := Int.emod_lt_of_pos (c / 2) p0
  have mp : 0 < min p 2 := by omega
  have k0 := Int.emod_nonneg (c / 2) (show min p 2 ≠ 0 by omega)
  have k1 := Int.emod_lt_of_pos (c / 2) mp
  have q : c % 2 = 0 ∨ c % 2 = 1 := by omega
  rcases q with q | q
  · refine ⟨(p, b % p, 1 + c / 2 % min p 2), ⟨⟨p1, by show 1 ≤ 1 + _; omega, by show 1 + _ ≤ p; omega⟩, pd⟩, ?_⟩
    rw [m__law_waking_3_eq]
    refine runB_rt ?_
    simp [b__law_waking_3, ea, M0, ed, t__law_waking_3_2, ec, p0, t__law_waking_3_1, q, eb, mp, wkD]
  · refine ⟨(p, b % p, 1 + c / 2 % p), ⟨⟨p1, by show 1 ≤ 1 + _; omega, by show 1 + _ ≤ p; omega⟩, pd⟩, ?_⟩
    rw [m__law_waking_3_eq]
    refine runB_rt ?_
    simp [b__law_waking_3, ea, M0, ed, t__law_waking_3_2, ec, p0, t__law_waking_3_1, q, eb, wkD]
theorem filter_awk {t : Int} : ∀ {ws : List Wk3}, (ws.filter fun w => decide ((t - w.2.1) % w.1 < w.2.2)).isEmpty = !awk ws t
  | [] => rfl
  | w :: ws => by
    have ih := @filter_awk t ws
    unfold awk at ih ⊢
    rw [List.filter_cons, List.any_cons]
    by_cases z : (t - w.2.1) % w.1 < w.2.2
    · rw [if_pos (by rw [decide_eq_true z]), decide_eq_true z]; rfl
    · rw [if_neg (by rw [decide_eq_false z]; exact Bool.false_ne_true), decide_eq_false z, Bool.false_or]
      exact ih
/-- the turns of a plan, each by its own test -/
theorem law_up_ok {ws : List Wk3} {M : Nat} (h : ∀ w ∈ ws, 1 ≤ w.1) (hl : ws.length ≤ 1000000) (hM : M ≤ 900000) : m__law_up [.sh (.lst (ws.map wkD)), .sh (.int (M : Int))] = .ok (.ow ((List.range M).map fun (t : Nat) => D.bl (awk ws (t : Int)))) := by
  have e : forR (gSet 3) u__law_up_1 ((List.range M).map fun (t : Nat) => D.int (0 + (t : Int))) [some (.sh (.lst (ws.map wkD))), some (.sh (.int (M : Int))), some (.ow ([].map fun (b : Bool) => D.bl b)), none, none] = .nx [some (.sh (.lst (ws.map wkD))), some (.sh (.int (M : Int))), some (.ow (([] ++ (List.range M).flatMap fun (t : Nat) => [awk ws (t : Int)]).map fun (b : Bool) => D.bl b)), none, none] := by
    refine forR_app (fun acc : List Bool => [some (.sh (.lst (ws.map wkD))), some (.sh (.int (M : Int))), some (.ow (acc.map fun (b : Bool) => D.bl b)), none, none]) (fun (t : Nat) => D.int (0 + (t : Int))) (fun (t : Nat) => [awk ws (t : Int)]) 900000 (List.range M) [] (by rw [flatMap_one, List.length_map, List.length_range, List.length_nil]; omega) fun t acc ht ha => ?_
    rw [List.length_singleton] at ha
    have hz : acc.length < szL := lt_szL (by omega)
    have key := lcR_filter (gt := gSet 4) (p := tst (eBin oLt (eBin oMod (eBin oSub (eLook 3) (eBin oIx (eLook 4) (eD (.int 1)))) (eBin oIx (eLook 4) (eD (.int 0)))) (eBin oIx (eLook 4) (eD (.int 2))))) (f := eVar 4) (ρ := [some (.sh (.lst (ws.map wkD))), some (.sh (.int (M : Int))), some (.ow (acc.map fun (b : Bool) => D.bl b)), some (.sh (.int (t : Int))), none]) wkD (fun w => decide (((t : Int) - w.2.1) % w.1 < w.2.2)) wkD ws fun w hw => by
      have w0 : 0 < w.1 := by have := h w hw; omega
      exact ⟨_, rfl, by simp [wkD, w0], fun _ => rfl⟩
    have e1 := eLc_ok (fi := iVar 0) (vs := [4]) (ρ := [some (.sh (.lst (ws.map wkD))), some (.sh (.int (M : Int))), some (.ow (acc.map fun (b : Bool) => D.bl b)), some (.sh (.int (t : Int))), none]) rfl (by rw [List.length_map]; exact hl) key
    have e2 := @oEq_wks_nil (ws.filter fun w => decide (((t : Int) - w.2.1) % w.1 < w.2.2))
    have e3 : (ws.filter fun w => decide (((t : Int) - w.2.1) % w.1 < w.2.2)).isEmpty = !awk ws (t : Int) := filter_awk
    rw [e3] at e2
    generalize awk ws (t : Int) = r at *
    generalize (ws.filter fun w => decide (((t : Int) - w.2.1) % w.1 < w.2.2)).map wkD = F at *
    simp [turnB, u__law_up_1, e1, e2, hz]
  have e2 := sFor_at (f := iRng1D (eVar 1)) (ds := rngD 0 M) (by have := iRng1D_ok (f := eVar 1) (ρ := [some (.sh (.lst (ws.map wkD))), some (.sh (.int (M : Int))), some (.ow ([].map fun (b : Bool) => D.bl b)), none, none]) (j := ((M : Nat) : Int)) rfl (by omega); rwa [Int.toNat_natCast] at this) e
  rw [flatMap_one, List.nil_append, List.map_map] at e2
  rw [m__law_up_eq]
  refine runB_rt ?_
  simp only [List.map_nil] at e2
  simp [b__law_up, t__law_up_2, e2]
theorem shP_d {M0 M1 : Int} {us vs : List Wk3} (h1 : 1 ≤ M0) (hu : ∀ u ∈ us, Okw M0 u) (hv : ∀ v ∈ vs, Okw M1 v) : ∀ w ∈ shP us vs, w.1 ∣ ((Int.gcd M0 M1 : Nat) : Int) := fun w hw => by
  obtain ⟨u, h1, h2⟩ := List.mem_flatMap.mp hw
  obtain ⟨v, h3, rfl⟩ := List.mem_map.mp h2
  have q := (hv v h3).wak.p1
  have a1 : gOf v.1 u.1 ∣ v.1 := gOf_w (by omega)
  have a2 : gOf v.1 u.1 ∣ u.1 := gOf_sp (by omega)
  exact Int.dvd_coe_gcd (Int.dvd_trans a2 (hu u h1).d) (Int.dvd_trans a1 (hv v h3).d)
theorem rnd_shP {M0 M1 : Int} {us vs : List Wk3} (h1 : 1 ≤ M0) (hu : ∀ u ∈ us, Okw M0 u) (hv : ∀ v ∈ vs, Okw M1 v) : rndOf (shP us vs) ∣ Int.gcd M0 M1 := rndOf_least fun w hw => by
  have a := shP_p1 (fun u h => (hu u h).wak) (fun v h => (hv v h).wak) w hw
  have b := shP_d h1 hu hv w hw
  have : (w.1.toNat : Int) ∣ ((Int.gcd M0 M1 : Nat) : Int) := by rw [Int.toNat_of_nonneg (by omega)]; exact b
  exact Int.natCast_dvd_natCast.mp this
theorem awk_per {ws : List Wk3} {R : Int} (hd : ∀ w ∈ ws, w.1 ∣ R) (t : Int) : awk ws (t % R) = awk ws t := by
  have d := Int.emod_add_mul_ediv t R
  have := awk_more (ws := ws) (t := t % R) (L := R * (t / R)) fun w hw => Int.dvd_trans (hd w hw) (Int.dvd_mul_right ..)
  rw [d] at this
  exact this.symm
theorem HoleN.all {ws : List Wk3} {R : Int} (hR : 0 < R) (hd : ∀ w ∈ ws, w.1 ∣ R) {o : Option Int} (h : HoleN ws R o) : o = none ↔ ∀ t, awk ws t = true := by
  cases o with
  | none => exact ⟨fun _ t => by rw [← awk_per hd t]; exact h _ (Int.emod_nonneg _ (by omega)) (Int.emod_lt_of_pos _ hR), fun _ => rfl⟩
  | some t =>
    refine ⟨(fun z => by cases z), fun z => ?_⟩
    have := h.2.2.1
    rw [z t] at this
    cases this
/-- hole(shifts(one, other)) -/
theorem lonely_ok {us vs : List Wk3} {M0 M1 : Int} (h1 : 1 ≤ M0 ∧ M0 ≤ 5000) (h2 : 1 ≤ M1) (hu : ∀ u ∈ us, Okw M0 u) (hv : ∀ v ∈ vs, Okw M1 v) (hl : us.length ≤ 100) (hl2 : vs.length ≤ 100) :
    ∃ o, HoleN (shP us vs) (Int.gcd M0 M1 : Nat) o ∧ m_hole [.sh (.lst ((shP us vs).map wkD))] = .ok (.sh (optD o)) ∧ m_lonely_shift [.sh (.lst (us.map wkD)), .sh (.lst (vs.map wkD))] = .ok (.sh (optD o)) := by
  have wu : ∀ u ∈ us, Wak u := fun u h => (hu u h).wak
  have wv : ∀ v ∈ vs, Wak v := fun v h => (hv v h).wak
  have p1 := shP_p1 wu wv
  have hd := shP_d h1.1 hu hv
  have hr := rnd_shP h1.1 hu hv
  have g1 := gcd_pos_l (M := M0) (a := M1) h1.1
  have gle : Int.gcd M0 M1 ≤ 5000 := by
    have := Int.le_of_dvd (by omega) (Int.gcd_dvd_left M0 M1)
    omega
  have rle := Nat.le_of_dvd (by omega) hr
  have hsl : (shP us vs).length ≤ 100 * 100 := by
    rw [shP_len]
    exact Nat.mul_le_mul hl hl2
  obtain ⟨o, ho, eo⟩ := hole_ok (ws := shP us vs) (b := 13) (by decide) (fun w hw => ⟨p1 w hw, ⟨by
    have a := p1 w hw
    have b := Int.le_of_dvd (by omega) (hd w hw)
    omega⟩⟩) (by omega) (by omega) (by omega)
  have ho2 : HoleN (shP us vs) (Int.gcd M0 M1 : Nat) o := by
    have hp := rndOf_pos p1
    cases o with
    | none =>
      have := (HoleN.all (by omega) (fun w hw => rndOf_dvd p1 hw) ho).mp rfl
      exact fun t _ _ => this t
    | some t => exact ⟨ho.1, by have := ho.2.1; omega, ho.2.2.1, ho.2.2.2⟩
  refine ⟨o, ho2, eo, ?_⟩
  have es := shifts_any wu wv (by omega) (by omega) (.inl rfl) (.inl rfl)
  rw [m_lonely_shift_eq]
  refine runB_rt ?_
  simp [b_lonely_shift, es, eo]
theorem shP_turned {us vs : List Wk3} (hu : ∀ u ∈ us, Wak u) (hv : ∀ v ∈ vs, Wak v) (h : ∀ sh, awk (shP us vs) sh = true) : ∀ sh, awk (shP vs us) sh = true := fun sh => by
  obtain ⟨t, a, b⟩ := (shP_awk hu hv).mp (h (-sh))
  refine (shP_awk hv hu).mpr ⟨t + sh, ?_, ?_⟩
  · rw [show t + sh = t - -sh by omega]; exact b
  · rw [show t + sh - sh = t by omega]; exact a
/-- the turns by which two plans are built, one waking for each -/
theorem plans_loop {cs : List Int} {M0 M1 : Int} {m : List Sl → R Sl} {S0 : Option Sl} {rest : List (Option Sl)} (hl : cs.length ≤ 36)
    (hm : ∀ (k M : Int), M = M0 ∨ M = M1 → 0 ≤ k → k + 2 < cs.length → ∃ w, Okw M w ∧ m [.sh (.int M), .sh (.lst (cs.map D.int)), .sh (.int k)] = .ok (.sh (wkD w))) : ∃ us vs : List Wk3, (∀ u ∈ us, Okw M0 u) ∧ (∀ v ∈ vs, Okw M1 v) ∧ us.length + vs.length ≤ (cs.length / 3 : Nat) ∧
    sFor (iRng3D (eD (.int 0)) (eBin oSub (eCall oLen (vCons (eLook 3) vNil)) (eD (.int 2))) (eD (.int 3))) (gSet 4) (sSeq (sAppO 2 (eBin oMod (eBin oDiv (eLook 4) (eD (.int 3))) (eD (.int 2))) (eApp m (aVal (eBin oIx (eLook 1) (eBin oMod (eBin oDiv (eLook 4) (eD (.int 3))) (eD (.int 2)))) (aVal (eVar 3) (aVal (eVar 4) (aNil)))))) (sKill 4 (sNx)))
      (S0 :: some (.sh (.lst [.int M0, .int M1])) :: some (.oo [[], []]) :: some (.sh (.lst (cs.map D.int))) :: none :: rest) =
    .nx (S0 :: some (.sh (.lst [.int M0, .int M1])) :: some (.oo [us.map wkD, vs.map wkD]) :: some (.sh (.lst (cs.map D.int))) :: none :: rest) := by
  obtain ⟨ρ, e, us, vs, h1, h2, h3, h4⟩ := forR_nat (gt := gSet 4) (u := sSeq (sAppO 2 (eBin oMod (eBin oDiv (eLook 4) (eD (.int 3))) (eD (.int 2))) (eApp m (aVal (eBin oIx (eLook 1) (eBin oMod (eBin oDiv (eLook 4) (eD (.int 3))) (eD (.int 2)))) (aVal (eVar 3) (aVal (eVar 4) (aNil)))))) (sKill 4 (sNx)))
    (fun i ρ => ∃ us vs : List Wk3, (∀ u ∈ us, Okw M0 u) ∧ (∀ v ∈ vs, Okw M1 v) ∧ us.length + vs.length = i ∧ ρ = S0 :: some (.sh (.lst [.int M0, .int M1])) :: some (.oo [us.map wkD, vs.map wkD]) :: some (.sh (.lst (cs.map D.int))) :: none :: rest) (rngC 0 3 (rngN 0 ((cs.length : Int) - 2) 3)) 0
    (S0 :: some (.sh (.lst [.int M0, .int M1])) :: some (.oo [[], []]) :: some (.sh (.lst (cs.map D.int))) :: none :: rest) ⟨[], [], fun w h => absurd h List.not_mem_nil, fun w h => absurd h List.not_mem_nil, rfl, rfl⟩ fun i d ρ hd ⟨us, vs, h1, h2, h3, h4⟩ => by
      obtain ⟨hi, rfl⟩ := rngC_get' hd
      subst h4
      rw [Nat.zero_add] at h3 ⊢
      unfold rngN at hi
      have hi2 : (0 : Int) + (i : Int) * 3 + 2 < cs.length := by omega
      have hk3 : ((0 : Int) + (i : Int) * 3) / 3 = i := by omega
      generalize hk : (0 : Int) + (i : Int) * 3 = k at *
      have hz : us.length < szL := lt_szL (by omega)
      have hz2 : vs.length < szL := lt_szL (by omega)
      have at0 : atOO [us.map wkD, vs.map wkD] (.int 0) = .ok (0, us.map wkD) := atOO_ok (ixN_nat (by decide) (by simp)) rfl
      have at1 : atOO [us.map wkD, vs.map wkD] (.int 1) = .ok (1, vs.map wkD) := atOO_ok (ixN_nat (by decide) (by simp)) rfl
      have q : (i : Int) % 2 = 0 ∨ (i : Int) % 2 = 1 := by omega
      rcases q with q | q
      · obtain ⟨w, hw, ew⟩ := hm k M0 (.inl rfl) (by omega) hi2
        refine ⟨_, ?_, us ++ [w], vs, fun x hx => ?_, h2, by rw [List.length_append, List.length_singleton]; omega, rfl⟩
        · simp [turnB, hk3, q, at0, ew, hz]
        · rcases List.mem_append.mp hx with hx | hx
          · exact h1 x hx
          · rw [List.mem_singleton.mp hx]
            exact hw
      · obtain ⟨w, hw, ew⟩ := hm k M1 (.inr rfl) (by omega) hi2
        refine ⟨_, ?_, us, vs ++ [w], h1, fun x hx => ?_, by rw [List.length_append, List.length_singleton]; omega, rfl⟩
        · simp [turnB, hk3, q, at1, ew, hz2]
        · rcases List.mem_append.mp hx with hx | hx
          · exact h2 x hx
          · rw [List.mem_singleton.mp hx]
            exact hw
  rw [h4] at e
  have hn : rngN 0 ((cs.length : Int) - 2) 3 ≤ cs.length / 3 := by unfold rngN; omega
  refine ⟨us, vs, h1, h2, by rw [h3, rngC_len']; omega, ?_⟩
  exact sFor_at (iRng3D_ok (i := 0) (j := (cs.length : Int) - 2) (k := 3) rfl (by simp) rfl (by decide) (by omega) (by decide)) e
end Mi.Sh

namespace Mi.Sh
open PySem PySem.Spec L2 Mi
/-! ### waits -/
/-- w turns from t on till both are awake, at shift s -/
def Wt (us vs : List Wk3) (s t w : Int) : Prop := LeastT (TogP us vs s) t (some (t + w))
theorem Wt.uni {us vs : List Wk3} {s t w w' : Int} (h : Wt us vs s t w) (h' : Wt us vs s t w') : w = w' := by
  have := LeastT.uni h h'
  injection this with this
  omega
theorem Wt.nn {us vs : List Wk3} {s t w : Int} (h : Wt us vs s t w) : 0 ≤ w := by have := h.1; omega
/-- the greatest wait of the shifts 0 .. R - 1 and the turns 0 .. n - 1, at the least of them -/
structure WorstQ (us vs : List Wk3) (R n w s t : Int) : Prop where
  s0 : 0 ≤ s
  s1 : s < R
  t0 : 0 ≤ t
  t1 : t < n
  wt : Wt us vs s t w
  b : ∀ s' t' w', 0 ≤ s' → s' < R → 0 ≤ t' → t' < n → Wt us vs s' t' w' → w' ≤ w ∧ (w' = w → s < s' ∨ (s = s' ∧ t ≤ t'))
theorem WorstQ.uni {us vs : List Wk3} {R n w s t w' s' t' : Int} (h : WorstQ us vs R n w s t) (h' : WorstQ us vs R n w' s' t') : w = w' ∧ s = s' ∧ t = t' := by
  have a := h.b s' t' w' h'.s0 h'.s1 h'.t0 h'.t1 h'.wt
  have b := h'.b s t w h.s0 h.s1 h.t0 h.t1 h.wt
  have e : w = w' := by omega
  have a2 := a.2 e.symm
  have b2 := b.2 e
  omega
/-- the wait comes again: by the turns' round -/
theorem Wt.turns {us vs : List Wk3} {s t w n : Int} (hu : ∀ u ∈ us, u.1 ∣ n) (hv : ∀ v ∈ vs, v.1 ∣ n) (h : Wt us vs s t w) (k : Int) : Wt us vs s (t + n * k) w := by
  have e : ∀ x, TogP us vs s (x + n * k) ↔ TogP us vs s x := fun x => by
    unfold TogP
    rw [awk_more fun u hu' => Int.dvd_trans (hu u hu') (Int.dvd_mul_right ..), show x + n * k - s = x - s + n * k by omega, awk_more fun v hv' => Int.dvd_trans (hv v hv') (Int.dvd_mul_right ..)]
  refine ⟨by have := h.1; omega, ?_, fun t' h1 h2 z => h.2.2 (t' - n * k) (by omega) (by omega) ?_⟩
  · rw [show t + n * k + w = t + w + n * k by omega, e]
    exact h.2.1
  · rw [← e, show t' - n * k + n * k = t' by omega]
    exact z
/-- by the shifts' round, the turns moved by T -/
theorem Wt.shifts {us vs : List Wk3} {s t w R T : Int} (hu : ∀ u ∈ us, u.1 ∣ T) (hv : ∀ v ∈ vs, v.1 ∣ T - R) (h : Wt us vs s t w) (k : Int) : Wt us vs (s + R * k) (t + T * k) w := by
  have e : ∀ x, TogP us vs (s + R * k) (x + T * k) ↔ TogP us vs s x := fun x => by
    unfold TogP
    have z : x + T * k - (s + R * k) = x - s + (T - R) * k := by rw [Int.sub_mul]; omega
    rw [awk_more fun u hu' => Int.dvd_trans (hu u hu') (Int.dvd_mul_right ..), z, awk_more fun v hv' => Int.dvd_trans (hv v hv') (Int.dvd_mul_right ..)]
  refine ⟨by have := h.1; omega, ?_, fun t' h1 h2 z => h.2.2 (t' - T * k) (by omega) (by omega) ?_⟩
  · rw [show t + T * k + w = t + w + T * k by omega, e]
    exact h.2.1
  · rw [← e, show t' - T * k + T * k = t' by omega]
    exact z
/-! ### the greatest divisor of least rounds -/
theorem gcd_lcm_dvd {a b g : Nat} (hb : 0 < b) (hg : 0 < g) (h : g ∣ Nat.lcm a b) : g ∣ Nat.lcm (Nat.gcd a g) (Nat.gcd b g) := by
  have e := Nat.gcd_mul_lcm (Nat.gcd a g) (Nat.gcd b g)
  have d0 : 0 < Nat.gcd (Nat.gcd a g) (Nat.gcd b g) := Nat.gcd_pos_of_pos_right _ (Nat.gcd_pos_of_pos_right _ hg)
  have da : Nat.gcd (Nat.gcd a g) (Nat.gcd b g) ∣ a := Nat.dvd_trans (Nat.gcd_dvd_left ..) (Nat.gcd_dvd_left ..)
  have db : Nat.gcd (Nat.gcd a g) (Nat.gcd b g) ∣ b := Nat.dvd_trans (Nat.gcd_dvd_right ..) (Nat.gcd_dvd_left ..)
  have dg : Nat.gcd (Nat.gcd a g) (Nat.gcd b g) ∣ g := Nat.dvd_trans (Nat.gcd_dvd_left ..) (Nat.gcd_dvd_right ..)
  generalize Nat.gcd (Nat.gcd a g) (Nat.gcd b g) = d at *
  have k : g * d ∣ Nat.gcd a g * Nat.gcd b g := by
    rw [← Nat.gcd_mul_right]
    refine Nat.dvd_gcd ?_ ?_
    · rw [← Nat.gcd_mul_left]
      refine Nat.dvd_gcd ?_ ?_
      · rw [← Nat.gcd_mul_lcm a b, Nat.mul_comm g d]
        exact Nat.mul_dvd_mul (Nat.dvd_gcd da db) h
      · rw [Nat.mul_comm a g]
        exact Nat.mul_dvd_mul (Nat.dvd_refl _) da
    · exact Nat.mul_dvd_mul (Nat.dvd_refl _) (Nat.dvd_gcd db dg)
  rw [← e, Nat.mul_comm g d] at k
  exact Nat.dvd_of_mul_dvd_mul_left d0 k
theorem gcd_lcms {c K : Nat} (hc : 0 < c) : ∀ (ps : List Nat) (acc : Nat), 0 < acc → (∀ p ∈ ps, 0 < p) → Nat.gcd acc c ∣ K → (∀ p ∈ ps, Nat.gcd p c ∣ K) → Nat.gcd (lcms acc ps) c ∣ K
  | [], acc, _, _, h, _ => h
  | p :: ps, acc, h0, h1, h2, h3 => by
    show Nat.gcd (lcms (Nat.lcm acc p) ps) c ∣ K
    have p0 := h1 p (List.mem_cons_self ..)
    refine gcd_lcms hc ps _ (Nat.lcm_pos h0 p0) (fun q hq => h1 q (List.mem_cons_of_mem _ hq)) ?_ fun q hq => h3 q (List.mem_cons_of_mem _ hq)
    have g0 : 0 < Nat.gcd (Nat.lcm acc p) c := Nat.gcd_pos_of_pos_right _ hc
    refine Nat.dvd_trans (gcd_lcm_dvd p0 g0 (Nat.gcd_dvd_left ..)) (Nat.lcm_dvd ?_ ?_)
    · exact Nat.dvd_trans (Nat.dvd_gcd (Nat.gcd_dvd_left ..) (Nat.dvd_trans (Nat.gcd_dvd_right ..) (Nat.gcd_dvd_right ..))) h2
    · exact Nat.dvd_trans (Nat.dvd_gcd (Nat.gcd_dvd_left ..) (Nat.dvd_trans (Nat.gcd_dvd_right ..) (Nat.gcd_dvd_right ..))) (h3 p (List.mem_cons_self ..))
/-- the shifts' round is what both rounds leave in common -/
theorem rnd_gcd {us vs : List Wk3} (hu : ∀ u ∈ us, Wak u) (hv : ∀ v ∈ vs, Wak v) : Nat.gcd (rndOf us) (rndOf vs) ∣ rndOf (shP us vs) := by
  have pu : ∀ u ∈ us, 1 ≤ u.1 := fun u h => (hu u h).p1
  have pv : ∀ v ∈ vs, 1 ≤ v.1 := fun v h => (hv v h).p1
  have nu : ∀ p ∈ us.map fun w => w.1.toNat, 0 < p := fun p h => by
    obtain ⟨u, h1, rfl⟩ := List.mem_map.mp h
    have := pu u h1
    omega
  have nv : ∀ p ∈ vs.map fun w => w.1.toNat, 0 < p := fun p h => by
    obtain ⟨u, h1, rfl⟩ := List.mem_map.mp h
    have := pv u h1
    omega
  refine gcd_lcms (rndOf_pos pv) _ 1 (by decide) nu (by rw [Nat.gcd_one_left]; exact Nat.one_dvd _) fun p hp => ?_
  obtain ⟨u, hum, rfl⟩ := List.mem_map.mp hp
  rw [Nat.gcd_comm]
  have u0 := pu u hum
  refine gcd_lcms (by omega) _ 1 (by decide) nv (by rw [Nat.gcd_one_left]; exact Nat.one_dvd _) fun q hq => ?_
  obtain ⟨v, hvm, rfl⟩ := List.mem_map.mp hq
  have v0 := pv v hvm
  have hw : shW u v ∈ shP us vs := List.mem_flatMap.mpr ⟨u, hum, List.mem_map.mpr ⟨v, hvm, rfl⟩⟩
  have := rndOf_dvd (shP_p1 hu hv) hw
  have e : (shW u v).1 = ((Nat.gcd v.1.toNat u.1.toNat : Nat) : Int) := by
    show gOf v.1 u.1 = _
    rw [Nat.gcd_comm, gcd_gOf (by omega), Int.toNat_of_nonneg (by omega), Int.toNat_of_nonneg (by omega)]
  rw [e] at this
  exact Int.natCast_dvd_natCast.mp this
/-- a move of the turns that moves the shifts by their round -/
theorem move {us vs : List Wk3} (hu : ∀ u ∈ us, Wak u) (hv : ∀ v ∈ vs, Wak v) : ∃ T : Int, (∀ u ∈ us, u.1 ∣ T) ∧ ∀ v ∈ vs, v.1 ∣ T - (rndOf (shP us vs) : Int) := by
  obtain ⟨k, hk⟩ := rnd_gcd hu hv
  obtain ⟨x, y, hxy⟩ := bez (rndOf us) (rndOf vs)
  have pu : ∀ u ∈ us, 1 ≤ u.1 := fun u h => (hu u h).p1
  have pv : ∀ v ∈ vs, 1 ≤ v.1 := fun v h => (hv v h).p1
  refine ⟨(rndOf us : Int) * (x * k), fun u h => Int.dvd_trans (rndOf_dvd pu h) (Int.dvd_mul_right ..), fun v h => ?_⟩
  have e : (rndOf us : Int) * (x * k) - (rndOf (shP us vs) : Int) = (rndOf vs : Int) * (-(y * k)) := by
    rw [hk, Int.natCast_mul, ← hxy]
    grind
  rw [e]
  exact Int.dvd_trans (rndOf_dvd pv h) (Int.dvd_mul_right ..)
/-- any shift and turn wait no longer -/
theorem WorstQ.all {us vs : List Wk3} {n w s t : Int} (hu : ∀ u ∈ us, Wak u) (hv : ∀ v ∈ vs, Wak v) (du : ∀ u ∈ us, u.1 ∣ n) (dv : ∀ v ∈ vs, v.1 ∣ n) (h : WorstQ us vs (rndOf (shP us vs) : Nat) n w s t) {s' t' w' : Int} (h' : Wt us vs s' t' w') :
    w' ≤ w ∧ (w' = w → s ≤ s' % ((rndOf (shP us vs) : Nat) : Int) ∧ (s = s' → t ≤ t' % n)) := by
  obtain ⟨T, T1, T2⟩ := move hu hv
  have hn : 0 < n := by have := h.t0; have := h.t1; omega
  have hR : (0 : Int) < ((rndOf (shP us vs) : Nat) : Int) := by have := h.s0; have := h.s1; omega
  generalize ((rndOf (shP us vs) : Nat) : Int) = R at *
  have a := h'.shifts T1 T2 (-(s' / R))
  have b := a.turns du dv (-((t' + T * -(s' / R)) / n))
  have d1 := Int.emod_add_mul_ediv s' R
  have d2 := Int.emod_add_mul_ediv (t' + T * -(s' / R)) n
  have e1 : s' + R * -(s' / R) = s' % R := by rw [Int.mul_neg]; omega
  have e2 : t' + T * -(s' / R) + n * -((t' + T * -(s' / R)) / n) = (t' + T * -(s' / R)) % n := by rw [Int.mul_neg n]; omega
  rw [e1, e2] at b
  have c := h.b _ _ _ (Int.emod_nonneg s' (by omega)) (Int.emod_lt_of_pos s' hR) (Int.emod_nonneg (t' + T * -(s' / R)) (by omega)) (Int.emod_lt_of_pos (t' + T * -(s' / R)) hn) b
  refine ⟨c.1, fun e => ⟨by have := c.2 e; omega, fun es => ?_⟩⟩
  have c2 := c.2 e
  have z0 : s' % R = s' := Int.emod_eq_of_lt (by rw [← es]; exact h.s0) (by rw [← es]; exact h.s1)
  have z : s' / R = 0 := Int.ediv_eq_zero_of_lt (by rw [← es]; exact h.s0) (by rw [← es]; exact h.s1)
  rw [z, Int.neg_zero, Int.mul_zero, Int.add_zero] at c2
  omega
/-- over more shifts and turns the same -/
theorem WorstQ.more {us vs : List Wk3} {n w s t : Int} (hu : ∀ u ∈ us, Wak u) (hv : ∀ v ∈ vs, Wak v) (du : ∀ u ∈ us, u.1 ∣ n) (dv : ∀ v ∈ vs, v.1 ∣ n) (h : WorstQ us vs (rndOf (shP us vs) : Nat) n w s t) {R' n' : Int} (hR : ((rndOf (shP us vs) : Nat) : Int) ≤ R') (hn : n ≤ n') : WorstQ us vs R' n' w s t := by
  refine ⟨h.s0, by have := h.s1; omega, h.t0, by have := h.t1; omega, h.wt, fun s' t' w' a0 a1 b0 b1 hw => ?_⟩
  have c := h.all hu hv du dv hw
  have r := h.s1
  have r0 := h.s0
  refine ⟨c.1, fun e => ?_⟩
  obtain ⟨c1, c2⟩ := c.2 e
  have l1 : s' % ((rndOf (shP us vs) : Nat) : Int) ≤ s' := emod_le_self a0 (by omega)
  have l2 : t' % n ≤ t' := emod_le_self b0 (by have := h.t0; have := h.t1; omega)
  by_cases z : s = s'
  · have := c2 z
    omega
  · omega
/-! ### worst_at, worst -/
theorem rngC_down {n i : Nat} {d : D} (h : (rngC ((n : Int) - 1) (-1) n)[i]? = some d) : i < n ∧ d = .int ((n : Int) - 1 - i) := by
  obtain ⟨h1, rfl⟩ := rngC_get' h
  exact ⟨h1, by rw [Int.mul_neg, Int.mul_one]; rfl⟩
/-- the best of the turns from c on -/
structure WatQ (us vs : List Wk3) (s c n w t : Int) : Prop where
  t0 : c ≤ t
  t1 : t < n
  wt : Wt us vs s t w
  b : ∀ t' w', c ≤ t' → t' < n → Wt us vs s t' w' → w' ≤ w ∧ (w' = w → t ≤ t')
theorem WatQ.step {us vs : List Wk3} {s c n w t w0 : Int} (h : WatQ us vs s (c + 1) n w t) (hw : Wt us vs s c w0) (hc : c < n) : if w ≤ w0 then WatQ us vs s c n w0 c else WatQ us vs s c n w t := by
  by_cases z : w ≤ w0
  · rw [if_pos z]
    refine ⟨Int.le_refl _, hc, hw, fun t' w' h1 h2 h3 => ?_⟩
    by_cases y : t' = c
    · subst y
      have := h3.uni hw
      omega
    · have := h.b t' w' (by omega) h2 h3
      omega
  · rw [if_neg z]
    refine ⟨by have := h.t0; omega, h.t1, h.wt, fun t' w' h1 h2 h3 => ?_⟩
    by_cases y : t' = c
    · subst y
      have := h3.uni hw
      omega
    · exact h.b t' w' (by omega) h2 h3
theorem worst_at_ok {us vs : List Wk3} {s : Int} {n : Nat} {b : Nat} (hb : b < 8000) (hu : ∀ u ∈ us, WB b u) (hv : ∀ v ∈ vs, WB b v) (hn : 1 ≤ n ∧ n ≤ 1000000) (hm : ∀ t, ∃ w, Wt us vs s t w) :
    ∃ w t, WatQ us vs s 0 n w t ∧ m_worst_at [.sh (.lst (us.map wkD)), .sh (.lst (vs.map wkD)), .sh (.int s), .sh (.int (n : Int))] = .ok (.sh (.tup [.int w, .int t])) := by
  obtain ⟨o, ho, e0⟩ := next_together_ok hb (sh := s) (turn := (n : Int)) hu hv
  obtain ⟨w0, hw0⟩ := hm (n : Int)
  have := LeastT.uni ho hw0
  subst this
  simp only [optD] at e0
  obtain ⟨U, hU⟩ : ∃ U : D, U = .lst (us.map wkD) := ⟨_, rfl⟩
  obtain ⟨V, hV⟩ : ∃ V : D, V = .lst (vs.map wkD) := ⟨_, rfl⟩
  obtain ⟨ρ, e, ahead, w, t, h1, h2, h3⟩ := forR_nat (gt := gSet 7) (u := u_worst_at_2) (fun i ρ => ∃ ahead w t : Int, LeastT (TogP us vs s) ((n : Int) - i) (some ahead) ∧ ((i = 0 ∧ w = 0) ∨ WatQ us vs s ((n : Int) - i) n w t) ∧ ρ = [some (.sh U), some (.sh V), some (.sh (.int s)), some (.sh (.int (n : Int))), some (.sh (.int ahead)), some (.sh (.int w)), some (.sh (.int t)), none])
    (rngC ((n : Int) - 1) (-1) n) 0 [some (.sh U), some (.sh V), some (.sh (.int s)), some (.sh (.int (n : Int))), some (.sh (.int ((n : Int) + w0))), some (.sh (.int 0)), some (.sh (.int 0)), none] ⟨_, 0, 0, by rw [show (n : Int) - (0 : Nat) = n by omega]; exact hw0, .inl ⟨rfl, rfl⟩, rfl⟩ fun i d ρ hd ⟨ahead, w, t, h1, h2, h3⟩ => by
      obtain ⟨hi, rfl⟩ := rngC_down hd
      rw [Nat.zero_add] at h1 h2 ⊢
      subst h3
      obtain ⟨c, hc⟩ : ∃ c : Int, c = (n : Int) - 1 - i := ⟨_, rfl⟩
      rw [show (n : Int) - i = c + 1 by omega] at h1 h2
      rw [← hc, show (n : Int) - ((i + 1 : Nat) : Int) = c by omega]
      have tg := together_ok (sh := s) (t := c) (fun u h => (hu u h).wak.p1) (fun v h => (hv v h).wak.p1)
      rw [← hU, ← hV] at tg
      -- the turn together from c on
      obtain ⟨a2, ha2, et⟩ : ∃ a2 : Int, LeastT (TogP us vs s) c (some a2) ∧ turnB (gSet 7) u_worst_at_2 (.int c) [some (.sh U), some (.sh V), some (.sh (.int s)), some (.sh (.int (n : Int))), some (.sh (.int ahead)), some (.sh (.int w)), some (.sh (.int t)), none] =
          t_worst_at_1 [some (.sh U), some (.sh V), some (.sh (.int s)), some (.sh (.int (n : Int))), some (.sh (.int a2)), some (.sh (.int w)), some (.sh (.int t)), some (.sh (.int c))] := by
        by_cases h0 : TogP us vs s c
        · refine ⟨c, ⟨Int.le_refl _, h0, fun t h1 h2 => by omega⟩, ?_⟩
          rw [h0.1, h0.2] at tg
          simp -implicitDefEqProofs [turnB, u_worst_at_2, tg]
        · have ht : (awk us c && awk vs (c - s)) = false := by
            cases z : (awk us c && awk vs (c - s)) with
            | true => rw [Bool.and_eq_true] at z; exact absurd z h0
            | false => rfl
          rw [ht] at tg
          refine ⟨ahead, ⟨by have := h1.1; omega, h1.2.1, fun t' y1 y2 y3 => ?_⟩, by simp -implicitDefEqProofs [turnB, u_worst_at_2, tg]⟩
          by_cases z : t' = c
          · exact h0 (by rw [← z]; exact y3)
          · exact h1.2.2 t' (by omega) y2 y3
      have hwt : Wt us vs s c (a2 - c) := by
        unfold Wt
        rw [show c + (a2 - c) = a2 by omega]
        exact ha2
      have hnn := hwt.nn
      rw [et]
      by_cases z : w ≤ a2 - c
      · refine ⟨[some (.sh U), some (.sh V), some (.sh (.int s)), some (.sh (.int (n : Int))), some (.sh (.int a2)), some (.sh (.int (a2 - c))), some (.sh (.int c)), none], by simp -implicitDefEqProofs [t_worst_at_1, z], a2, a2 - c, c, ha2, .inr ?_, rfl⟩
        rcases h2 with ⟨i0, _⟩ | h2
        · refine ⟨Int.le_refl _, by omega, hwt, fun t' w' y1 y2 y3 => ?_⟩
          have : t' = c := by omega
          subst this
          have := y3.uni hwt
          omega
        · have := h2.step hwt (by omega)
          rw [if_pos z] at this
          exact this
      · refine ⟨[some (.sh U), some (.sh V), some (.sh (.int s)), some (.sh (.int (n : Int))), some (.sh (.int a2)), some (.sh (.int w)), some (.sh (.int t)), none], by simp -implicitDefEqProofs [t_worst_at_1, z], a2, w, t, ha2, .inr ?_, rfl⟩
        rcases h2 with ⟨i0, w0⟩ | h2
        · omega
        · have := h2.step hwt (by omega)
          rw [if_neg z] at this
          exact this
  rw [rngC_len', Nat.zero_add] at h1 h2
  rw [show (n : Int) - n = 0 by omega] at h2
  rcases h2 with ⟨i0, _⟩ | h2
  · omega
  refine ⟨w, t, h2, ?_⟩
  rw [h3] at e
  have e2 := sFor_at (f := iRevRg (eVar 3)) (iRevRg_ok (n := n) rfl (by omega)) e
  rw [m_worst_at_eq]
  refine runB_rt ?_
  rw [← hU, ← hV] at e0 ⊢
  simp -implicitDefEqProofs [b_worst_at, e0, t_worst_at_5, t_worst_at_4, t_worst_at_3, e2]
/-- of the shifts ahead of i -/
theorem WorstQ.step {us vs : List Wk3} {i n w s t w0 t0 : Int} (h : WorstQ us vs i n w s t) (hw : WatQ us vs i 0 n w0 t0) : if w < w0 then WorstQ us vs (i + 1) n w0 i t0 else WorstQ us vs (i + 1) n w s t := by
  have i0 : 0 ≤ i := by have := h.s0; have := h.s1; omega
  by_cases z : w < w0
  · rw [if_pos z]
    refine ⟨i0, by omega, hw.t0, hw.t1, hw.wt, fun s' t' w' a0 a1 b0 b1 hh => ?_⟩
    by_cases y : s' = i
    · subst y
      have := hw.b t' w' b0 b1 hh
      exact ⟨this.1, fun e => .inr ⟨rfl, this.2 e⟩⟩
    · have := h.b s' t' w' a0 (by omega) b0 b1 hh
      omega
  · rw [if_neg z]
    refine ⟨h.s0, by have := h.s1; omega, h.t0, h.t1, h.wt, fun s' t' w' a0 a1 b0 b1 hh => ?_⟩
    by_cases y : s' = i
    · subst y
      have := hw.b t' w' b0 b1 hh
      have := h.s1
      omega
    · exact h.b s' t' w' a0 (by omega) b0 b1 hh
theorem WatQ.first {us vs : List Wk3} {n w t : Int} (hw : WatQ us vs 0 0 n w t) : WorstQ us vs 1 n w 0 t := by
  refine ⟨Int.le_refl _, by decide, hw.t0, hw.t1, hw.wt, fun s' t' w' a0 a1 b0 b1 hh => ?_⟩
  have : s' = 0 := by omega
  subst this
  have := hw.b t' w' b0 b1 hh
  exact ⟨this.1, fun e => .inr ⟨rfl, this.2 e⟩⟩
/-- a plan's round divides -/
theorem rnd_dvd {us : List Wk3} {M : Nat} (hu : ∀ u ∈ us, Okw (M : Int) u) : rndOf us ∣ M := rndOf_least fun w hw => by
  have a := (hu w hw).wak.p1
  have : (w.1.toNat : Int) ∣ (M : Int) := by rw [Int.toNat_of_nonneg (by omega)]; exact (hu w hw).d
  exact Int.natCast_dvd_natCast.mp this
theorem worst_ok {us vs : List Wk3} {M0 M1 : Nat} (h0 : 1 ≤ M0 ∧ M0 ≤ 20000) (h1 : 1 ≤ M1 ∧ M1 ≤ 20000) (hM : M0 * M1 ≤ 20000) (hu : ∀ u ∈ us, Okw (M0 : Int) u) (hv : ∀ v ∈ vs, Okw (M1 : Int) v) (hl : us.length ≤ 100) (hl2 : vs.length ≤ 100) :
    ((∃ s, awk (shP us vs) s = false) ∧ m_worst [.sh (.lst (us.map wkD)), .sh (.lst (vs.map wkD))] = .ok (.sh .non)) ∨
    ((∀ s, awk (shP us vs) s = true) ∧ ∃ w s t, WorstQ us vs (rndOf (shP us vs) : Nat) (Nat.lcm (rndOf us) (rndOf vs) : Nat) w s t ∧ m_worst [.sh (.lst (us.map wkD)), .sh (.lst (vs.map wkD))] = .ok (.sh (.tup [.int w, .int s, .int t]))) := by
  have wu : ∀ u ∈ us, Wak u := fun u h => (hu u h).wak
  have wv : ∀ v ∈ vs, Wak v := fun v h => (hv v h).wak
  have pu : ∀ u ∈ us, 1 ≤ u.1 := fun u h => (wu u h).p1
  have pv : ∀ v ∈ vs, 1 ≤ v.1 := fun v h => (wv v h).p1
  have bu : ∀ u ∈ us, Bd 15 u.1 := fun u h => ⟨by have := pu u h; have := (hu u h).le (by omega); omega⟩
  have bv : ∀ v ∈ vs, Bd 15 v.1 := fun v h => ⟨by have := pv v h; have := (hv v h).le (by omega); omega⟩
  have p1 := shP_p1 wu wv
  have es := shifts_any wu wv (by omega) (by omega) (.inl rfl) (.inl rfl)
  have hd := shP_d (M0 := (M0 : Int)) (M1 := (M1 : Int)) (by omega) hu hv
  have gle : Int.gcd (M0 : Int) (M1 : Int) ≤ 5000 := by
    have a : Int.gcd (M0 : Int) (M1 : Int) ≤ M0 := Nat.le_of_dvd (by omega) (Nat.gcd_dvd_left ..)
    have b : Int.gcd (M0 : Int) (M1 : Int) ≤ M1 := Nat.le_of_dvd (by omega) (Nat.gcd_dvd_right ..)
    have c := Nat.mul_le_mul a b
    rcases Nat.lt_or_ge 5000 (Int.gcd (M0 : Int) (M1 : Int)) with z | z
    · have : 5001 * 5001 ≤ Int.gcd (M0 : Int) (M1 : Int) * Int.gcd (M0 : Int) (M1 : Int) := Nat.mul_le_mul z z
      omega
    · exact z
  have g1 := gcd_pos_l (M := (M0 : Int)) (a := (M1 : Int)) (by omega)
  have hsl : (shP us vs).length ≤ 100 * 100 := by
    rw [shP_len]
    exact Nat.mul_le_mul hl hl2
  have bs : ∀ w ∈ shP us vs, Bd 15 w.1 := fun w hw => ⟨by
    have a := p1 w hw
    have b := Int.le_of_dvd (by omega) (hd w hw)
    omega⟩
  have e1 := plan_round_ok (b := 15) (by decide) (fun u h => ⟨pu u h, bu u h⟩) (by omega) (by omega) (.inl rfl)
  have e2 := plan_round_ok (b := 15) (by decide) (fun u h => ⟨pv u h, bv u h⟩) (by omega) (by omega) (.inl rfl)
  have e3 := plan_round_ok (b := 15) (by decide) (fun u h => ⟨p1 u h, bs u h⟩) (by omega) (by omega) (.inl rfl)
  change m_plan_round _ = R.ok (Sl.sh (.int (rndOf us : Nat))) at e1
  change m_plan_round _ = R.ok (Sl.sh (.int (rndOf vs : Nat))) at e2
  change m_plan_round _ = R.ok (Sl.sh (.int (rndOf (shP us vs) : Nat))) at e3
  have dP := rnd_dvd hu
  have dQ := rnd_dvd hv
  have P0 := rndOf_pos pu
  have Q0 := rndOf_pos pv
  have R0 := rndOf_pos p1
  have lP := Nat.le_of_dvd (by omega) dP
  have lQ := Nat.le_of_dvd (by omega) dQ
  have RG : rndOf (shP us vs) ∣ Nat.gcd (rndOf us) (rndOf vs) := rndOf_least fun w hw => by
    obtain ⟨u, h1, h2⟩ := List.mem_flatMap.mp hw
    obtain ⟨v, h3, rfl⟩ := List.mem_map.mp h2
    have q := pv v h3
    have g := gOf_pos (w := v.1) (sp := u.1) (by omega)
    have a1 : gOf v.1 u.1 ∣ v.1 := gOf_w (by omega)
    have a2 : gOf v.1 u.1 ∣ u.1 := gOf_sp (by omega)
    have c : ((gOf v.1 u.1).toNat : Int) = gOf v.1 u.1 := Int.toNat_of_nonneg (by omega)
    refine Nat.dvd_gcd ?_ ?_
    · refine Int.natCast_dvd_natCast.mp ?_
      show (((gOf v.1 u.1).toNat : Nat) : Int) ∣ _
      rw [c]
      exact Int.dvd_trans a2 (rndOf_dvd pu h1)
    · refine Int.natCast_dvd_natCast.mp ?_
      show (((gOf v.1 u.1).toNat : Nat) : Int) ∣ _
      rw [c]
      exact Int.dvd_trans a1 (rndOf_dvd pv h3)
  have lR := Nat.le_of_dvd (Nat.gcd_pos_of_pos_right _ Q0) RG
  have lR2 : Nat.gcd (rndOf us) (rndOf vs) ≤ rndOf us := Nat.gcd_le_left _ P0
  have lR3 : rndOf (shP us vs) ≤ 5000 := Nat.le_trans (Nat.le_of_dvd (by omega) (rnd_shP (M0 := (M0 : Int)) (M1 := (M1 : Int)) (by omega) hu hv)) gle
  have prod : rndOf (shP us vs) * Nat.lcm (rndOf us) (rndOf vs) ≤ 20000 := by
    have x1 : rndOf (shP us vs) * Nat.lcm (rndOf us) (rndOf vs) ≤ Nat.gcd (rndOf us) (rndOf vs) * Nat.lcm (rndOf us) (rndOf vs) := Nat.mul_le_mul_right _ lR
    rw [Nat.gcd_mul_lcm] at x1
    have x2 : rndOf us * rndOf vs ≤ M0 * M1 := Nat.mul_le_mul lP lQ
    omega
  have L0 : 0 < Nat.lcm (rndOf us) (rndOf vs) := Nat.lcm_pos P0 Q0
  have lL : Nat.lcm (rndOf us) (rndOf vs) ≤ 20000 := by
    have : 1 * Nat.lcm (rndOf us) (rndOf vs) ≤ rndOf (shP us vs) * Nat.lcm (rndOf us) (rndOf vs) := Nat.mul_le_mul_right _ R0
    omega
  have e4 := lround_ok (b := 20) (by decide) (ns := [rndOf us, rndOf vs]) (fun x hx => by
    have : x = rndOf us ∨ x = rndOf vs := by simpa using hx
    rcases this with rfl | rfl
    · exact ⟨P0, ⟨by omega⟩⟩
    · exact ⟨Q0, ⟨by omega⟩⟩) (by simp) (.inl rfl)
  have e5 : lcms 1 [rndOf us, rndOf vs] = Nat.lcm (rndOf us) (rndOf vs) := by
    show Nat.lcm (Nat.lcm 1 (rndOf us)) (rndOf vs) = _
    rw [Nat.lcm_one_left]
  rw [e5] at e4
  simp only [List.map_cons, List.map_nil] at e4
  obtain ⟨o, ho, eo⟩ := hole_ok (ws := shP us vs) (b := 15) (by decide) (fun w hw => ⟨p1 w hw, bs w hw⟩) (by omega) (by omega) (by omega)
  have hall := HoleN.all (by omega) (fun w hw => rndOf_dvd p1 hw) ho
  obtain ⟨SU, hSU⟩ : ∃ S : D, S = .lst ((shP us vs).map wkD) := ⟨_, rfl⟩
  obtain ⟨U, hU⟩ : ∃ U : D, U = .lst (us.map wkD) := ⟨_, rfl⟩
  obtain ⟨V, hV⟩ : ∃ V : D, V = .lst (vs.map wkD) := ⟨_, rfl⟩
  have m1 : mulOk ((rndOf (shP us vs) : Nat) : Int) ((Nat.lcm (rndOf us) (rndOf vs) : Nat) : Int) = true := @mulOk_i 20 20 _ _ ⟨by omega⟩ ⟨by omega⟩ (by rfl)
  have cmp : ¬ (20000 : Int) < ((rndOf (shP us vs) : Nat) : Int) * ((Nat.lcm (rndOf us) (rndOf vs) : Nat) : Int) := by
    rw [← Int.natCast_mul]
    omega
  have du : ∀ u ∈ us, u.1 ∣ ((Nat.lcm (rndOf us) (rndOf vs) : Nat) : Int) := fun u h => Int.dvd_trans (rndOf_dvd pu h) (Int.natCast_dvd_natCast.mpr (Nat.dvd_lcm_left ..))
  have dv : ∀ v ∈ vs, v.1 ∣ ((Nat.lcm (rndOf us) (rndOf vs) : Nat) : Int) := fun v h => Int.dvd_trans (rndOf_dvd pv h) (Int.natCast_dvd_natCast.mpr (Nat.dvd_lcm_right ..))
  have head : ∀ s : Sl, t_worst_5 [some (.sh U), some (.sh V), some (.sh SU), some (.sh (.int ((Nat.lcm (rndOf us) (rndOf vs) : Nat) : Int))), none, none, none, none] = .rt s → m_worst [.sh U, .sh V] = .ok s := fun s hs => by
    rw [m_worst_eq]
    refine runB_rt ?_
    subst hSU hU hV
    generalize (shP us vs).map wkD = X at *
    generalize us.map wkD = Y at *
    generalize vs.map wkD = Z at *
    simp -implicitDefEqProofs [b_worst, es, t_worst_7, e1, e2, e4, t_worst_6, e3, m1, cmp, hs]
  rw [← hU, ← hV]
  rw [← hSU] at eo e3
  cases o with
  | some x =>
    refine .inl ⟨⟨x, ho.2.2.1⟩, head _ ?_⟩
    simp only [optD] at eo
    simp -implicitDefEqProofs [t_worst_5, eo]
  | none =>
    have al := hall.mp rfl
    have ex : ∀ s t, ∃ w, Wt us vs s t w := fun s t => by
      obtain ⟨o, ho, _⟩ := next_together_ok (b := 15) (by decide) (sh := s) (turn := t) (fun u h => ⟨wu u h, bu u h⟩) (fun v h => ⟨wv v h, bv v h⟩)
      cases o with
      | none =>
        obtain ⟨x, hx⟩ := tog_far t pu pv ((shP_awk wu wv).mp (al s))
        exact absurd hx.2 (ho x hx.1)
      | some x => exact ⟨x - t, by unfold Wt; rw [show t + (x - t) = x by omega]; exact ho⟩
    obtain ⟨ρ, e, f, h2, h3⟩ := forR_nat (gt := gSet 5) (u := u_worst_2) (fun i ρ => ∃ f : Option (Int × Int × Int), (match f with | none => i = 0 | some f => WorstQ us vs i (Nat.lcm (rndOf us) (rndOf vs) : Nat) f.1 f.2.1 f.2.2) ∧ ρ = [some (.sh U), some (.sh V), some (.sh SU), some (.sh (.int ((Nat.lcm (rndOf us) (rndOf vs) : Nat) : Int))), some (.sh (match f with | none => .non | some f => .tup [.int f.1, .int f.2.1, .int f.2.2])), none, none, none])
      (rngD 0 (rndOf (shP us vs))) 0 [some (.sh U), some (.sh V), some (.sh SU), some (.sh (.int ((Nat.lcm (rndOf us) (rndOf vs) : Nat) : Int))), some (.sh .non), none, none, none] ⟨none, rfl, rfl⟩ fun i d ρ hd ⟨f, h2, h3⟩ => by
        obtain ⟨hi, rfl⟩ := rngD_get hd
        rw [Nat.zero_add] at h2 ⊢
        subst h3
        rw [show (0 : Int) + (i : Int) = i by omega]
        obtain ⟨w, t, hw, ew⟩ := worst_at_ok (b := 15) (s := (i : Int)) (n := Nat.lcm (rndOf us) (rndOf vs)) (by decide) (fun u h => ⟨wu u h, bu u h⟩) (fun v h => ⟨wv v h, bv v h⟩) ⟨L0, by omega⟩ (ex i)
        rw [← hU, ← hV] at ew
        cases f with
        | none =>
          have hi0 : i = 0 := h2
          subst hi0
          rw [show ((0 : Nat) : Int) = 0 from rfl] at ew ⊢
          exact ⟨_, by simp -implicitDefEqProofs [turnB, u_worst_2, ew, t_worst_1], some (w, 0, t), hw.first, rfl⟩
        | some f =>
          have st := WorstQ.step h2 hw
          by_cases z : f.1 < w
          · rw [if_pos z] at st
            exact ⟨_, by simp -implicitDefEqProofs [turnB, u_worst_2, ew, t_worst_1, z], some (w, (i : Int), t), by rw [Int.natCast_add]; exact st, rfl⟩
          · rw [if_neg z] at st
            exact ⟨_, by simp -implicitDefEqProofs [turnB, u_worst_2, ew, t_worst_1, z], some f, by dsimp only; rw [Int.natCast_add]; exact st, rfl⟩
    rw [rngD_len, Nat.zero_add] at h2
    rw [h3] at e
    cases f with
    | none =>
      have : rndOf (shP us vs) = 0 := h2
      omega
    | some f =>
      have it := iRng1D_ok (f := eApp m_plan_round (aVal (eVar 2) (aNil))) (ρ := [some (.sh U), some (.sh V), some (.sh SU), some (.sh (.int ((Nat.lcm (rndOf us) (rndOf vs) : Nat) : Int))), some (.sh .non), none, none, none]) (j := ((rndOf (shP us vs) : Nat) : Int)) (by simp -implicitDefEqProofs [e3]) (by omega)
      rw [Int.toNat_natCast] at it
      have e6 := sFor_at it e
      refine .inr ⟨al, f.1, f.2.1, f.2.2, h2, head _ ?_⟩
      simp only [optD] at eo
      generalize ((Nat.lcm (rndOf us) (rndOf vs) : Nat) : Int) = LL at *
      simp -implicitDefEqProofs [t_worst_5, eo, t_worst_4, t_worst_3, e6]
end Mi.Sh

namespace Mi.Sh
open PySem PySem.Spec L2 Mi
-- right_for: 0:plan 1:part 2:paper 3:by 4:step 5:rest 6:c
noncomputable def u_right_for_1 (rec : List Sl → R Sl) : Sv :=
  sSeq (sIf (tNotE (tst (eApp rec (aVal (eVar 0) (aVal (eTup (vCons (eBin oMul (eLook 4) (eLook 3)) (vCons (eBin oAdd (eLook 5) (eBin oMul (eLook 4) (eLook 6))) (vNil)))) (aVal (eBin oIx (eBin oIx (eLook 2) (eD (.int 2))) (eLook 6)) (aNil))))))) (sRet (eD (.bl false))) (sNx)) (sKill 6 (sNx))
noncomputable def t_right_for_2 (rec : List Sl → R Sl) : Sv :=
  sSeq (sFor (iRng1D (eVar 3)) (gSet 6) ((u_right_for_1 rec))) (sRet (eD (.bl true)))
noncomputable def t_right_for_3 (rec : List Sl → R Sl) : Sv :=
  sSeq (sAsg (eVar 1) (gTupD 2 (gsCons (gSet 4) (gsCons (gSet 5) (gsNil))))) ((t_right_for_2 rec))
noncomputable def t_right_for_4 (rec : List Sl → R Sl) : Sv :=
  sSeq (sIf (tOrE (tst (eBin oLt (eLook 3) (eD (.int 2)))) (tst (eBin oNe (eCall oLen (vCons (eBin oIx (eLook 2) (eD (.int 2))) vNil)) (eLook 3)))) (sRet (eD (.bl false))) (sNx)) ((t_right_for_3 rec))
noncomputable def t_right_for_5 (rec : List Sl → R Sl) : Sv :=
  sSeq (sAsg (eBin oIx (eLook 2) (eD (.int 1))) (gSet 3)) ((t_right_for_4 rec))
noncomputable def b_right_for (rec : List Sl → R Sl) : Sv :=
  sSeq (sIf (tst (eBin oEq (eBin oIx (eLook 2) (eD (.int 0))) (eD (.str "in")))) (sRet (eAnd (eChain (fun i j => decide (i ≤ j)) (fun i j => decide (i < j)) (eD (.int 0)) (eBin oIx (eLook 2) (eD (.int 1))) (eCall oLen (vCons (eLook 0) vNil))) (eApp m_lies_in (aVal (eBin oIx (eLook 0) (eBin oIx (eLook 2) (eD (.int 1)))) (aVal (eVar 1) (aNil)))))) (sNx)) ((t_right_for_5 rec))
noncomputable def m_right_for : Nat → List Sl → R Sl
  | 0 => fun _ => .stuck
  | n + 1 => hid (runB 7 (b_right_for (m_right_for n)))
theorem m_right_for_zero : m_right_for 0 = fun _ => .stuck := by rw [m_right_for]
theorem m_right_for_succ (n : Nat) : m_right_for (n + 1) = runB 7 (b_right_for (m_right_for n)) := by
  rw [m_right_for]
  exact hid_eq _
end Mi.Sh

namespace Mi.Sh
open PySem PySem.Spec L2 Mi
theorem rngD_z {n : Nat} : rngD 0 n = (List.range n).map fun (j : Nat) => D.int (j : Int) := by
  unfold rngD
  refine List.map_congr_left fun i _ => ?_
  show D.int (0 + (i : Int)) = _
  rw [Int.zero_add]
/-- the first that is wanted, of 0, 1, 2 .. -/
theorem forR_fst {gt : Gt} {u : Sv} {ρ : En} (q : Nat → Bool) (r : Nat → Sl) (n : Nat) (h : ∀ j, j < n → turnB gt u (.int (j : Int)) ρ = if q j = true then .rt (r j) else .nx ρ) :
    (∃ j, j < n ∧ q j = true ∧ (∀ i, i < j → q i = false) ∧ forR gt u (rngD 0 n) ρ = .rt (r j)) ∨ ((∀ j, j < n → q j = false) ∧ forR gt u (rngD 0 n) ρ = .nx ρ) := by
  have key := forR_find (gt := gt) (u := u) (ρ := ρ) (fun (j : Nat) => D.int (j : Int)) q r (List.range n) fun j hj => h j (List.mem_range.mp hj)
  rw [← rngD_z] at key
  cases e : List.find? q (List.range n) with
  | some j =>
    rw [e] at key
    obtain ⟨h1, h2, h3⟩ := List.find?_range_eq_some.mp e
    refine .inl ⟨j, List.mem_range.mp h2, h1, fun i hi => ?_, key⟩
    have := h3 i hi
    cases z : q i with
    | false => rfl
    | true => rw [z] at this; cases this
  | none =>
    rw [e] at key
    refine .inr ⟨fun j hj => ?_, key⟩
    have := List.find?_range_eq_none.mp e j hj
    cases z : q j with
    | false => rfl
    | true => rw [z] at this; cases this
/-- a paper -/
inductive Pap where
  | leaf (k : Int) | part (b : Int) (ps : List Pap)
mutual
def papD : Pap → D
  | .leaf k => .tup [.str "in", .int k]
  | .part b ps => .tup [.str "parted", .int b, .lst (papDs ps)]
def papDs : List Pap → List D
  | [] => []
  | p :: ps => papD p :: papDs ps
end
theorem papDs_map : ∀ ps : List Pap, papDs ps = ps.map papD
  | [] => rfl
  | p :: ps => by rw [papDs, papDs_map ps, List.map_cons]
/-- no deeper than d, no wider than fifteen -/
def okP : Nat → Pap → Prop
  | _, .leaf _ => True
  | 0, .part _ _ => False
  | d + 1, .part _ ps => ps.length ≤ 15 ∧ ∀ p ∈ ps, okP d p
theorem okP.up : ∀ {d : Nat} {p : Pap}, okP d p → okP (d + 1) p
  | _, .leaf _, _ => by simp only [okP]
  | 0, .part _ _, h => by simp only [okP] at h
  | d + 1, .part b ps, h => by
    simp only [okP] at h ⊢
    exact ⟨h.1, fun p hp => okP.up (h.2 p hp)⟩
theorem okP.mono {d : Nat} {p : Pap} (h : okP d p) : ∀ {e : Nat}, d ≤ e → okP e p := fun {e} he => by
  induction e with
  | zero =>
    have : d = 0 := by omega
    subst this
    exact h
  | succ e ih =>
    by_cases q : d ≤ e
    · exact (ih q).up
    · have : d = e + 1 := by omega
      subst this
      exact h
def leafB (ws : List Wk3) (s r k : Int) : Bool := match ws[k.toNat]? with
  | some w => decide (0 ≤ k) && decide (w.1 - w.2.2 ≤ (r - w.2.1 - w.2.2) % gOf w.1 s)
  | none => false
mutual
/-- the walk from a part -/
def rightB (ws : List Wk3) : Int → Int → Pap → Bool
  | s, r, .leaf k => leafB ws s r k
  | s, r, .part b ps => if b < 2 ∨ (ps.length : Int) ≠ b then false else rightsB ws s r b 0 ps
def rightsB (ws : List Wk3) : Int → Int → Int → Nat → List Pap → Bool
  | _, _, _, _, [] => true
  | s, r, b, c, p :: ps => rightB ws (s * b) (r + s * c) p && rightsB ws s r b (c + 1) ps
end
theorem rightsB_iff {ws : List Wk3} {s r b : Int} : ∀ (ps : List Pap) (c : Nat), rightsB ws s r b c ps = true ↔ ∀ (j : Nat) (p : Pap), ps[j]? = some p → rightB ws (s * b) (r + s * ((c + j : Nat) : Int)) p = true
  | [], c => by simp [rightsB]
  | p :: ps, c => by
    rw [rightsB, Bool.and_eq_true, rightsB_iff ps (c + 1)]
    constructor
    · rintro ⟨h1, h2⟩ j q e
      cases j with
      | zero =>
        simp at e
        subst e
        exact h1
      | succ j =>
        have := h2 j q (by simpa using e)
        rw [show c + (j + 1) = c + 1 + j by omega]
        exact this
    · intro h
      refine ⟨h 0 p rfl, fun j q e => ?_⟩
      have := h (j + 1) q (by simpa using e)
      rw [show c + (j + 1) = c + 1 + j by omega] at this
      exact this
theorem oEq_s {x y : Str} : oEq (.str x) (.str y) = .ok (.bl (decide (x = y))) := rfl
theorem ne_in : decide (("parted" : Str) = "in") = false := by decide
theorem ne_in' : (("parted" : Str) = "in") = False := eq_false (by decide)
theorem oEq_ii {i j : Int} : oEq (.int i) (.int j) = .ok (.bl (decide (i = j))) := rfl
theorem at_wk {ws : List Wk3} {k : Int} (h0 : 0 ≤ k) (h : k < ws.length) : ∃ w, ws[k.toNat]? = some w ∧ w ∈ ws ∧ atI (ws.map wkD) k = some (wkD w) := by
  have hi : k.toNat < ws.length := by omega
  refine ⟨ws[k.toNat], List.getElem?_eq_getElem hi, List.getElem_mem hi, ?_⟩
  rw [atI_nat h0 (by rw [List.length_map]; exact h), List.getElem?_map, List.getElem?_eq_getElem hi]
  rfl
theorem leafB_no {ws : List Wk3} {s r k : Int} (h : ¬ (0 ≤ k ∧ k < ws.length)) : leafB ws s r k = false := by
  unfold leafB
  by_cases h0 : 0 ≤ k
  · rw [List.getElem?_eq_none (by omega)]
  · cases ws[k.toNat]? with
    | none => rfl
    | some w => simp [h0]
theorem lies_bool {w : Wk3} {s r : Int} (hw : Wak w) (hs : 0 ≤ s) : m_lies_in [.sh (wkD w), .sh (partD (s, r))] = .ok (.sh (.bl (decide (w.1 - w.2.2 ≤ (r - w.2.1 - w.2.2) % gOf w.1 s)))) := by
  have hp0 : 0 < w.1 := by have := hw.p1; omega
  have e := divisor_gOf hs hp0
  have g := gOf_pos (sp := s) hp0
  rw [m_lies_in_eq]
  refine runB_rt ?_
  simp [b_lies_in, t_lies_in_1, wkD, partD, e, g]
theorem right_for_ok {ws : List Wk3} (hw : ∀ w ∈ ws, Wak w) : ∀ (d n : Nat) (p : Pap) (s r : Int) (m : Nat), okP d p → d < n → 1 ≤ s → Bd m s → m + 4 * d ≤ 8000 →
    m_right_for n [.sh (.lst (ws.map wkD)), .sh (partD (s, r)), .sh (papD p)] = .ok (.sh (.bl (rightB ws s r p)))
  | d, 0, p, s, r, m, _, h, _, _, _ => absurd h (Nat.not_lt_zero _)
  | d, n + 1, .leaf k, s, r, m, ok, hd, hs, hb, hm => by
    rw [m_right_for_succ]
    refine runB_rt ?_
    have pl : (ws.map wkD).length = ws.length := List.length_map ..
    rw [rightB, papD]
    by_cases q : 0 ≤ k ∧ k < ws.length
    · obtain ⟨w, h1, h2, h3⟩ := at_wk q.1 q.2
      have e := lies_bool (r := r) (hw w h2) (show 0 ≤ s by omega)
      have le : leafB ws s r k = decide (w.1 - w.2.2 ≤ (r - w.2.1 - w.2.2) % gOf w.1 s) := by
        unfold leafB
        rw [h1]
        simp [q.1]
      rw [le]
      obtain ⟨q0, q1⟩ := q
      generalize ws.map wkD = U at *
      simp -implicitDefEqProofs [b_right_for, oEq_s, q0, q1, pl, h3, e]
    · rw [leafB_no q]
      generalize ws.map wkD = U at *
      by_cases q0 : 0 ≤ k
      · have q1 : ¬ k < ws.length := fun z => q ⟨q0, z⟩
        simp -implicitDefEqProofs [b_right_for, oEq_s, q0, q1, pl]
      · simp -implicitDefEqProofs [b_right_for, oEq_s, q0]
  | 0, n + 1, .part b ps, s, r, m, ok, hd, hs, hb, hm => by simp only [okP] at ok
  | d + 1, n + 1, .part b ps, s, r, m, ok, hd, hs, hb, hm => by
    simp only [okP] at ok
    obtain ⟨ok1, ok2⟩ := ok
    have pl : (papDs ps).length = ps.length := by rw [papDs_map, List.length_map]
    rw [m_right_for_succ]
    refine runB_rt ?_
    rw [rightB, papD]
    have e0 : b_right_for (m_right_for n) [some (.sh (.lst (ws.map wkD))), some (.sh (partD (s, r))), some (.sh (.tup [.str "parted", .int b, .lst (papDs ps)])), none, none, none, none] = t_right_for_4 (m_right_for n) [some (.sh (.lst (ws.map wkD))), some (.sh (partD (s, r))), some (.sh (.tup [.str "parted", .int b, .lst (papDs ps)])), some (.sh (.int b)), none, none, none] := by
      generalize ws.map wkD = U at *
      generalize papDs ps = PS at *
      simp -implicitDefEqProofs [b_right_for, oEq_s, ne_in', t_right_for_5]
    show b_right_for (m_right_for n) [some (.sh (.lst (ws.map wkD))), some (.sh (partD (s, r))), some (.sh (.tup [.str "parted", .int b, .lst (papDs ps)])), none, none, none, none] = _
    rw [e0]
    by_cases q1 : b < 2
    · rw [if_pos (.inl q1)]
      generalize ws.map wkD = U at *
      simp -implicitDefEqProofs [t_right_for_4, q1]
    by_cases q2 : (ps.length : Int) = b
    · rw [if_neg (by simp [q1, q2])]
      have hbl : b ≤ 15 := by omega
      have hsb : 1 ≤ s * b := by
        have : s * 1 ≤ s * b := Int.mul_le_mul_of_nonneg_left (by omega) (by omega)
        omega
      have hbb : Bd 4 b := ⟨by omega⟩
      have hbsb : Bd (m + 4) (s * b) := @bd_mul _ _ _ _ hb hbb
      have m1 : mulOk s b = true := @mulOk_i _ _ _ _ hb hbb (by rw [Nat.blt_eq]; omega)
      have step : ∀ j, j < ps.length → ∀ p, ps[j]? = some p → turnB (gSet 6) (u_right_for_1 (m_right_for n)) (.int (j : Int)) [some (.sh (.lst (ws.map wkD))), some (.sh (partD (s, r))), some (.sh (.tup [.str "parted", .int b, .lst (papDs ps)])), some (.sh (.int b)), some (.sh (.int s)), some (.sh (.int r)), none] =
          if (!rightB ws (s * b) (r + s * (j : Int)) p) = true then .rt (.sh (.bl false)) else .nx [some (.sh (.lst (ws.map wkD))), some (.sh (partD (s, r))), some (.sh (.tup [.str "parted", .int b, .lst (papDs ps)])), some (.sh (.int b)), some (.sh (.int s)), some (.sh (.int r)), none] := fun j hj p hp => by
        have ih := right_for_ok hw d n p (s * b) (r + s * (j : Int)) (m + 4) (ok2 p (List.mem_of_getElem? hp)) (by omega) hsb hbsb (by omega)
        have a1 : atI (papDs ps) (j : Int) = some (papD p) := by
          rw [papDs_map, atI_nat (by omega) (by rw [List.length_map]; omega), Int.toNat_natCast, List.getElem?_map, hp]
          rfl
        have m2 : mulOk s (j : Int) = true := @mulOk_i m 4 _ _ hb ⟨by omega⟩ (by rw [Nat.blt_eq]; omega)
        have pd : partD (s * b, r + s * (j : Int)) = .tup [.int (s * b), .int (r + s * (j : Int))] := rfl
        rw [pd] at ih
        generalize ws.map wkD = U at *
        generalize papDs ps = PS at *
        generalize partD (s, r) = PD at *
        cases hr : rightB ws (s * b) (r + s * (j : Int)) p with
        | true =>
          rw [hr] at ih
          simp -implicitDefEqProofs [turnB, u_right_for_1, m1, m2, a1, ih]
        | false =>
          rw [hr] at ih
          simp -implicitDefEqProofs [turnB, u_right_for_1, m1, m2, a1, ih]
      have fin : ∀ fl : Fl, forR (gSet 6) (u_right_for_1 (m_right_for n)) (rngD 0 ps.length) [some (.sh (.lst (ws.map wkD))), some (.sh (partD (s, r))), some (.sh (.tup [.str "parted", .int b, .lst (papDs ps)])), some (.sh (.int b)), some (.sh (.int s)), some (.sh (.int r)), none] = fl →
          t_right_for_4 (m_right_for n) [some (.sh (.lst (ws.map wkD))), some (.sh (partD (s, r))), some (.sh (.tup [.str "parted", .int b, .lst (papDs ps)])), some (.sh (.int b)), none, none, none] = fl.thn (sRet (eD (.bl true))) := fun fl e => by
        have it := iRng1D_ok (f := eVar 3) (ρ := [some (.sh (.lst (ws.map wkD))), some (.sh (partD (s, r))), some (.sh (.tup [.str "parted", .int b, .lst (papDs ps)])), some (.sh (.int b)), some (.sh (.int s)), some (.sh (.int r)), none]) (j := b) rfl (by omega)
        rw [← q2, Int.toNat_natCast, q2] at it
        have e2 := sFor_at it e
        have pd : partD (s, r) = .tup [.int s, .int r] := rfl
        generalize ws.map wkD = U at *
        generalize hPS : papDs ps = PS at *
        rw [pd] at e2 ⊢
        simp -implicitDefEqProofs [t_right_for_4, q1, pl, oEq_ii, q2, t_right_for_3, t_right_for_2, e2]
      rcases forR_fst (gt := gSet 6) (u := u_right_for_1 (m_right_for n)) (ρ := [some (.sh (.lst (ws.map wkD))), some (.sh (partD (s, r))), some (.sh (.tup [.str "parted", .int b, .lst (papDs ps)])), some (.sh (.int b)), some (.sh (.int s)), some (.sh (.int r)), none])
          (fun j => match ps[j]? with | some p => !rightB ws (s * b) (r + s * (j : Int)) p | none => false) (fun _ => .sh (.bl false)) ps.length (fun j hj => by
            have hp := List.getElem?_eq_getElem hj
            rw [step j hj _ hp]
            try dsimp only
            rw [hp]) with ⟨j, hj, h1, _, h2⟩ | ⟨h1, h2⟩
      · rw [fin _ h2]
        have hp := List.getElem?_eq_getElem hj
        try dsimp only at h1
        rw [hp] at h1
        dsimp only at h1
        have : rightsB ws s r b 0 ps = false := by
          cases hr : rightsB ws s r b 0 ps with
          | false => rfl
          | true =>
            have := (rightsB_iff ps 0).mp hr j _ hp
            rw [Nat.zero_add] at this
            rw [this] at h1
            cases h1
        rw [this]
        rfl
      · rw [fin _ h2]
        have : rightsB ws s r b 0 ps = true := (rightsB_iff ps 0).mpr fun j p hp => by
          have hj : j < ps.length := (List.getElem?_eq_some_iff.mp hp).1
          have := h1 j hj
          try dsimp only at this
          rw [hp] at this
          dsimp only at this
          rw [Nat.zero_add]
          cases hr : rightB ws (s * b) (r + s * (j : Int)) p with
          | true => rfl
          | false => rw [hr] at this; cases this
        rw [this]
        rfl
    · rw [if_pos (.inr q2)]
      generalize ws.map wkD = U at *
      generalize papDs ps = PS at *
      simp -implicitDefEqProofs [t_right_for_4, q1, pl, oEq_ii, q2]
end Mi.Sh

/-! ### try: .. except (A, B, C, D, E, F): .. except X as n: .. (the second clause is the one) -/
namespace PySem.W
open PySem PySem.Spec PySem.Calls PyProof.Rows
theorem exm_tupNo6 {M : Model} {K : Frag} {c1 c2 c3 c4 c5 c6 cls : Value} {tp e : Addr} {h : Heap} (X : K.In h) (LT : Looks M h (typeOf (.ref e)) cls) (hp : h.get? tp = some { cls := .type "tuple", data := .seq [c1, c2, c3, c4, c5, c6].toArray })
    (x1 : exmOne K cls c1 = some false) (x2 : exmOne K cls c2 = some false) (x3 : exmOne K cls c3 = some false) (x4 : exmOne K cls c4 = some false) (x5 : exmOne K cls c5 = some false) (x6 : exmOne K cls c6 = some false) :
    Looks M h (excMatches (.ref e) (.ref tp)) false := by
  intro A Q E s k₀ q
  obtain ⟨hh, g, d, tk, os⟩ := s
  have k : ∀ b o, h.get? b = some o → hh.get? b = some o := k₀
  have LT0 : Looks M h (isInstance (.ref tp) (.type "tuple")) true := ((Looks.ld hp).andThen .now).andThen (Looks.of_pure isSubtype_tuple_tuple)
  obtain ⟨e1, S1⟩ := exm_cls (M := M) X x1
  have e1 := e1.keeps k
  have S1 := S1.keeps k
  obtain ⟨e2, S2⟩ := exm_cls (M := M) X x2
  have e2 := e2.keeps k
  have S2 := S2.keeps k
  obtain ⟨e3, S3⟩ := exm_cls (M := M) X x3
  have e3 := e3.keeps k
  have S3 := S3.keeps k
  obtain ⟨e4, S4⟩ := exm_cls (M := M) X x4
  have e4 := e4.keeps k
  have S4 := S4.keeps k
  obtain ⟨e5, S5⟩ := exm_cls (M := M) X x5
  have e5 := e5.keeps k
  have S5 := S5.keeps k
  obtain ⟨e6, S6⟩ := exm_cls (M := M) X x6
  have e6 := e6.keeps k
  have S6 := S6.keeps k
  have LT := LT.keeps k
  have LT0 := LT0.keeps k
  have hp' := k _ _ hp
  unfold excMatches
  refine wpAny_bind (LT0.at ?_)
  dsimp only
  rw [if_pos rfl]
  first
    | refine wpAny_bind (wpAny_seqItems hp' rfl ?_)
    | refine wpAny_bind (wpAny_bind (wpAny_seqItems hp' rfl (wpAny_pure ?_)))
  dsimp only [Option.getD_some, Option.getD]
  ((repeat (first | simp only [List.forIn_cons, List.forIn_nil, Bool.not_true, Bool.false_eq_true, if_false, if_true] | lk)); exact q)
end PySem.W
namespace L2
open PySem PySem.Spec PyProof.Rows
/-- what the two clauses wish: none of the six, but the last one, under the name in slot i -/
def wTwo (K : PySem.W.Frag) (cs : List Value) (c : Value) (i : Nat) (ts : Addr → Value → Option Addr → TS) (D : Ends) : WX := fun cls d σ H =>
  (∀ c' ∈ cs, PySem.W.exmOne K cls c' = some false) ∧ PySem.W.exmOne K cls c = some true ∧
    ∀ a, H a = none → ts a cls d { nx := fun σ' H' => D.nx (σ'.set i none) H', rt := D.rt, bk := fun σ' H' => D.bk (σ'.set i none) H', ct := fun σ' H' => D.ct (σ'.set i none) H' } (σ.set i (some (.ref a))) H
theorem flyZ_push {B h : Heap} {l : List Env} {a : Addr} {Z : Obj → Prop} (fl : HandSPX.FlyingZ B l a Z h) (o : Obj) : HandSPX.FlyingZ B l a Z (h.push o) := by
  obtain ⟨k1, k2, k3, oe, vs, T, oT, ts, he, hz, hd, h1, hr, hTe, hT, hdT, h3⟩ := fl
  exact ⟨fun b u e => Heap.get?_push_of_some _ (k1 b u e), k2, k3.of_keeps fun b u e _ => ⟨u, Heap.get?_push_of_some _ e, rfl⟩, oe, vs, T, oT, ts, Heap.get?_push_of_some _ he, hz, hd, h1, hr, hTe, Heap.get?_push_of_some _ hT, hdT, h3⟩
theorem name_at {X : Cx} {pins : List (Addr × Obj)} {s : Shared} {σ : St} {H : Hp} {x : Str} {c : Value} {p : Pos} {Q : Value → Shared → Prop} {E : Value → Shared → Prop} (I : Inv X pins σ H s) (hc : Names X x c) (q : Q c s) : wpAny (model X.prog X.w) X.A (eval (.Name x p) X.env) Q E s := by
  obtain ⟨hg, hdbg, hm | ⟨hm, hv, hnn⟩⟩ := hc
  · exact ld_glob I hg hm q hdbg
  · exact ld_blt I hg hm hv q hnn hdbg
section
variable {X : Cx} {x n y1 y2 y3 y4 y5 y6 : Str} {c c1 c2 c3 c4 c5 c6 : Value} {i kt : Nat} {body suite suite0 : List Stmt} {b₀ b₁ : Stmt} {np pos p1 p2 tp q1 q2 q3 q4 q5 q6 : Pos} {tb : WX → TS} {ts : Addr → Value → Option Addr → TS} {Wout : WX}
theorem ps_try_two (hs : X.stack = X.env :: X.outer) (hf : X.env.frame = some X.env.locals) (hN : X.N.Nodup) (hi : X.N[i]? = some n) (hln : X.env.kindOf n = some .local) (hc : Names X x c)
    (h1 : Names X y1 c1) (h2 : Names X y2 c2) (h3 : Names X y3 c3) (h4 : Names X y4 c4) (h5 : Names X y5 c5) (h6 : Names X y6 c6)
    (hb : ∀ (W : WX) (pn : List (Addr × Obj)) (xe : Value → Shared → Prop), Takes (X.tr pn xe) W → PassesOwn (model X.prog X.w) X.A X.env xe → PSs (X.tr pn xe) body (tb W))
    (hsu : ∀ (a : Addr) (oe : Obj) (cls : Value) (d : Option Addr) (pn : List (Addr × Obj)), Zc cls d oe → (∃ vs, oe.data = .fields vs) → PSs (X.suite a ((a, oe) :: pn)) (b₀ :: suite) (ts a cls d)) :
    PS X (.Try body [.ExceptHandler (some (.Tuple [.Name y1 q1, .Name y2 q2, .Name y3 q3, .Name y4 q4, .Name y5 q5, .Name y6 q6] kt tp)) none (b₁ :: suite0) p1, .ExceptHandler (some (.Name x np)) (some n) (b₀ :: suite) p2] [] [] pos)
      (fun D σ H => tb (wTwo X.K [c1, c2, c3, c4, c5, c6] c i ts D) D σ H) := by
  refine ⟨fun pins s σ H D I h => ?_⟩
  have ok := I.ok
  have hfr : X.A.frames = some (X.env :: X.outer) := by rw [ok.frames, hs]
  have hloc : Loc X.env.scope n := .inl hln
  refine wpAny_Try_except ?_
  refine wpAny_mono ((hb (wTwo X.K [c1, c2, c3, c4, c5, c6] c i ts D) (X.pn ++ pins) (fun e s₁ => wpAny (model X.prog X.w) X.A (noteFrame e X.env) (fun _ s₂ => wpAny (model X.prog X.w) X.A (setFlight e none) (fun _ s₃ =>
    wpAny (model X.prog X.w) X.A (handleBy e X.env [.ExceptHandler (some (.Tuple [.Name y1 q1, .Name y2 q2, .Name y3 q3, .Name y4 q4, .Name y5 q5, .Name y6 q6] kt tp)) none (b₁ :: suite0) p1, .ExceptHandler (some (.Name x np)) (some n) (b₀ :: suite) p2]) (SP X pins D) X.xe s₃) X.xe s₂) X.xe s₁) (fun u s' xx => ?_) PassesOwn.looking).run [] s σ H D (I.toTry _) h) (fun f s1 hsp => ?_) (fun e s1 he => he)
  · -- the catch
    obtain ⟨a, B, sI, pins', σ', H', cls, d, rfl, J', nb, up, sky, na, os, ag, hno6, hyes, hts⟩ := xx
    have J : Inv X pins σ' H' sI := J'.ofTry ok
    have sky' : Sky B (X.env :: X.outer) a (Zc cls d) X.env.locals s'.heap := by rw [← hs]; exact sky
    show wpAny (model X.prog X.w) X.A (noteFrame (.ref a) X.env) _ _ _
    refine Sky.land Zc.steady hfr hf sky' fun h3' fl3 up3 => ?_
    have J3 : Inv X pins σ' H' { s' with heap := h3' } := J.landed nb fl3.1 (up.trans up3) os ag
    obtain ⟨oe3, vs3, he3, hz3, hd3⟩ := fl3.there
    have notFr : ∀ {h : Heap} {o : Obj} {vs : Array Value}, h.FunFrames B (X.env :: X.outer) → h.get? a = some o → o.data = .fields vs → a ∉ frs (X.env :: X.outer) := fun {h o vs} ff e dd hm => by
      obtain ⟨_, o', e', hnf⟩ := ff.mem hm
      rw [e] at e'; cases e'
      exact hnf _ dd
    have nfr := notFr fl3.2.2.1 he3 hd3
    have nL : a ≠ X.env.locals := fun z => nfr (List.mem_filterMap.mpr ⟨X.env, List.mem_cons_self, by rw [hf, z]⟩)
    have nF : a ∉ X.fs := fun hm => by
      obtain ⟨e, he, q⟩ := List.mem_filterMap.mp hm
      exact nfr (List.mem_filterMap.mpr ⟨e, List.mem_cons_of_mem _ he, q⟩)
    have S3 := J3.suite he3 hd3 na nL nF
    -- the first clause: none of the six
    refine wpAny_handleBy_cons (codeAny_handlers_test ?_) (by intro q; cases q)
    have nm : ∀ {y : Str} {cy : Value} {p : Pos} {Q : Value → Shared → Prop} {E : Value → Shared → Prop}, Names X y cy → Q cy { s' with heap := h3' } → wpAny (model X.prog X.w) (X.A.mark (some (.ref a))) (eval (.Name y p) X.env) Q E { s' with heap := h3' } := fun {y cy p Q E} hy q => name_at (X := X.suite a ((a, oe3) :: (X.pn ++ pins))) S3 hy q
    refine wpAny_Tuple ?_
    show wpAny _ _ (spliced ((false, eval (.Name y1 q1) X.env) :: backTo tp (starEach [.Name y2 q2, .Name y3 q3, .Name y4 q4, .Name y5 q5, .Name y6 q6] X.env))) _ _ _
    refine Calls.spliced_cons (nm h1 ?_)
    show wpAny _ _ (spliced ((false, eval (.Name y2 q2) X.env) :: backTo tp (starEach [.Name y3 q3, .Name y4 q4, .Name y5 q5, .Name y6 q6] X.env))) _ _ _
    refine Calls.spliced_cons (nm h2 ?_)
    show wpAny _ _ (spliced ((false, eval (.Name y3 q3) X.env) :: backTo tp (starEach [.Name y4 q4, .Name y5 q5, .Name y6 q6] X.env))) _ _ _
    refine Calls.spliced_cons (nm h3 ?_)
    show wpAny _ _ (spliced ((false, eval (.Name y4 q4) X.env) :: backTo tp (starEach [.Name y5 q5, .Name y6 q6] X.env))) _ _ _
    refine Calls.spliced_cons (nm h4 ?_)
    show wpAny _ _ (spliced ((false, eval (.Name y5 q5) X.env) :: backTo tp (starEach [.Name y6 q6] X.env))) _ _ _
    refine Calls.spliced_cons (nm h5 ?_)
    show wpAny _ _ (spliced ((false, eval (.Name y6 q6) X.env) :: backTo tp (starEach [] X.env))) _ _ _
    refine Calls.spliced_cons (nm h6 ?_)
    refine Calls.spliced_nil ⟨Mi.line_ok (by simp), ?_⟩
    have kp : ∀ b u, h3'.get? b = some u → (h3'.push { cls := .type "tuple", data := .seq [c1, c2, c3, c4, c5, c6].toArray }).get? b = some u := fun b u e => Heap.get?_push_of_some _ e
    have J5 : Inv X pins σ' H' { s' with heap := h3'.push { cls := .type "tuple", data := .seq [c1, c2, c3, c4, c5, c6].toArray } } := J3.kept (t' := s'.toks) kp
    have LT : PySem.W.Looks (model X.prog X.w) (h3'.push { cls := .type "tuple", data := .seq [c1, c2, c3, c4, c5, c6].toArray }) (typeOf (.ref a)) cls := fun A Q E s k q => wpAny_typeOf_ref (k _ _ (kp _ _ he3)) (by rw [hz3.1]; exact q)
    have LN := PySem.W.exm_tupNo6 (M := model X.prog X.w) J5.kIn LT (Heap.get?_push_size _ rfl) (hno6 c1 (by simp)) (hno6 c2 (by simp)) (hno6 c3 (by simp)) (hno6 c4 (by simp)) (hno6 c5 (by simp)) (hno6 c6 (by simp))
    refine LN.here ?_
    show wpAny _ X.A (handleBy (.ref a) X.env [.ExceptHandler (some (.Name x np)) (some n) (b₀ :: suite) p2]) _ _ _
    -- the second one
    have fl5 := flyZ_push fl3 { cls := .type "tuple", data := .seq [c1, c2, c3, c4, c5, c6].toArray }
    have up5 : sI.heap.UpToSlots (h3'.push { cls := .type "tuple", data := .seq [c1, c2, c3, c4, c5, c6].toArray }) := (up.trans up3).trans (Heap.UpToSlots.of_keeps kp)
    generalize (h3'.push { cls := .type "tuple", data := .seq [c1, c2, c3, c4, c5, c6].toArray }) = h5' at *
    have he5 := kp _ _ he3
    have S5 := J5.suite he5 hd3 na nL nF
    refine wpAny_handleBy_cons (codeAny_handlers_test ?_) (by intro q; cases q)
    have LT : PySem.W.Looks (model X.prog X.w) h5' (typeOf (.ref a)) cls := fun A Q E s k q => wpAny_typeOf_ref (k _ _ he5) (by rw [hz3.1]; exact q)
    have LM := PySem.W.exm_one (M := model X.prog X.w) J5.kIn LT hyes
    refine name_at (X := X.suite a ((a, oe3) :: (X.pn ++ pins))) S5 hc ?_
    refine LM.here ?_
    refine codeAny_handlers_suite_as ?_
    refine HandSPX.lands_againZ fl5 fun h4 fl4 up4 => ?_
    have J4 : Inv X pins σ' H' { s' with heap := h4 } := J.landed nb fl4.1 (up5.trans up4) os ag
    obtain ⟨oe4, vs4, he4, hz4, hd4⟩ := fl4.there
    have S4 := J4.suite he4 hd4 na nL nF
    refine store_ok (X := X.suite a ((a, oe4) :: (X.pn ++ pins))) (v := .ref a) S4 hN hi hloc rfl (fun s5 S5 => ?_) (.inr hln)
    refine wpAny_mono ((hsu a oe4 cls d (X.pn ++ pins) hz4 ⟨_, hd4⟩).run [] s5 _ H' _ S5 (hts a na)) (fun f s6 hsp => ?_) (fun _ _ z => False.elim z)
    have end_ : ∀ {σ6 : St} {H6 : Hp} {Q : Shared → Prop}, Inv (X.suite a ((a, oe4) :: (X.pn ++ pins))) [] σ6 H6 s6 → (∀ s7, Inv X pins (σ6.set i none) H6 s7 → Q s7) →
        wpAny (model X.prog X.w) X.A (do bindName X.env n .none; unbindBehindTheSuite X.env n p2) (fun _ s7 => Q s7) X.xe s6 := fun {σ6 H6 Q} S6 hq => gone_ok (S6.unsuite ok) hN hi hln hq
    cases f with
    | next =>
      obtain ⟨σ6, H6, S6, q6⟩ := hsp
      exact end_ S6 fun s7 J7 => ⟨_, _, J7, q6⟩
    | brk =>
      obtain ⟨σ6, H6, S6, q6⟩ := hsp
      exact end_ S6 fun s7 J7 => ⟨_, _, J7, q6⟩
    | cont =>
      obtain ⟨σ6, H6, S6, q6⟩ := hsp
      exact end_ S6 fun s7 J7 => ⟨_, _, J7, q6⟩
    | ret u =>
      obtain ⟨v6, σ6, H6, S6, r6, q6⟩ := hsp
      exact end_ S6 fun s7 J7 => ⟨_, _, _, J7, r6, q6⟩
  · cases f with
    | next =>
      obtain ⟨σ', H', J', q⟩ := hsp
      exact wpAny_execs_nil ⟨σ', H', J'.ofTry ok, q⟩
    | brk =>
      obtain ⟨σ', H', J', q⟩ := hsp
      exact ⟨σ', H', J'.ofTry ok, q⟩
    | cont =>
      obtain ⟨σ', H', J', q⟩ := hsp
      exact ⟨σ', H', J'.ofTry ok, q⟩
    | ret u =>
      obtain ⟨v, σ', H', J', r, q⟩ := hsp
      exact ⟨v, σ', H', J'.ofTry ok, r, q⟩
end
end L2
namespace Mi
open PySem PySem.Spec L2
/-- what is known of an own error's class x: none of the six, one of m and of ValueError -/
structure Xt (c : Cf) (x m y1 y2 y3 y4 y5 y6 : Str) : Prop where
  ex : ∃ C Cm C1 C2 C3 C4 C5 C6 : Addr, c.mg x = some (.ref C) ∧ c.mg m = some (.ref Cm) ∧ c.mg y1 = some (.ref C1) ∧ c.mg y2 = some (.ref C2) ∧ c.mg y3 = some (.ref C3) ∧ c.mg y4 = some (.ref C4) ∧ c.mg y5 = some (.ref C5) ∧ c.mg y6 = some (.ref C6) ∧
    PySem.W.exmOne c.K (.ref C) (.ref C) = some true ∧ PySem.W.exmOne c.K (.ref C) (.ref C1) = some false ∧ PySem.W.exmOne c.K (.ref C) (.ref C2) = some false ∧ PySem.W.exmOne c.K (.ref C) (.ref C3) = some false ∧ PySem.W.exmOne c.K (.ref C) (.ref C4) = some false ∧ PySem.W.exmOne c.K (.ref C) (.ref C5) = some false ∧ PySem.W.exmOne c.K (.ref C) (.ref C6) = some false ∧
    ExcC c.K C ∧ PySem.W.kitOne c.K (.ref C) (.ref Cm) = some true ∧ PySem.W.kitOne c.K (.ref C) (.type "ValueError") = some true
section
variable {c : Cf} {W : WX}
/-- try: u except (six): .. except x as n: g = isinstance(n, m) and isinstance(n, ValueError) -/
@[simp] def sTryG (x : Str) (u : Sv) (i j : Nat) : Sv := fun ρ => match u ρ with
  | .exc z ρ' => if z = x ∧ i < ρ'.length then .nx (((ρ'.set i none).set j (some (.sh (.bl true)))).set i none) else .stuck
  | r => r
theorem ss_try {x n g m y1 y2 y3 y4 y5 y6 : Str} {i j kt : Nat} {body suite0 : List Stmt} {b₁ : Stmt} {np pos p1 p2 tp q1 q2 q3 q4 q5 q6 pg ps pa pc1 pc2 pi1 pi2 pn1 pn2 pm pv : Pos} {u : Sv}
    (hx : Xt c x m y1 y2 y3 y4 y5 y6) (hN : c.N[i]? = some n) (hNg : c.N[j]? = some g) (hn : c.sc.names.lookup n = some .local) (hg : c.sc.names.lookup g = some .local) (ht : c.top = true)
    (gx : c.sc.names.lookup x = some .globalImplicit) (gm : c.sc.names.lookup m = some .globalImplicit) (g1 : c.sc.names.lookup y1 = some .globalImplicit) (g2 : c.sc.names.lookup y2 = some .globalImplicit) (g3 : c.sc.names.lookup y3 = some .globalImplicit) (g4 : c.sc.names.lookup y4 = some .globalImplicit) (g5 : c.sc.names.lookup y5 = some .globalImplicit) (g6 : c.sc.names.lookup y6 = some .globalImplicit)
    (gi : c.sc.names.lookup ("isinstance" : Str) = some .globalImplicit) (gv : c.sc.names.lookup ("ValueError" : Str) = some .globalImplicit) (mi : c.mg "isinstance" = none) (mv : c.mg "ValueError" = none)
    (hb : ∀ W, SSs c W body u)
    (hd : ([x, m, y1, y2, y3, y4, y5, y6, n].any fun z => z == ("__debug__" : Str) || z == ("__classdict__" : Str)) = false := by decide) :
    SS c W (.Try body [.ExceptHandler (some (.Tuple [.Name y1 q1, .Name y2 q2, .Name y3 q3, .Name y4 q4, .Name y5 q5, .Name y6 q6] kt tp)) none (b₁ :: suite0) p1,
      .ExceptHandler (some (.Name x np)) (some n) [.Assign [.Name g pg] (.BoolOp .And [.Call (.Name "isinstance" pi1) [.Name n pn1, .Name m pm] [] pc1, .Call (.Name "isinstance" pi2) [.Name n pn2, .Name "ValueError" pv] [] pc2] pa) ps] p2] [] [] pos) (sTryG x u i j) := by
  obtain ⟨C, Cm, C1, C2, C3, C4, C5, C6, mx, mm, m1, m2, m3, m4, m5, m6, z0, z1, z2, z3, z4, z5, z6, hE, k1, k2⟩ := hx.ex
  have hd' : ∀ z ∈ [x, m, y1, y2, y3, y4, y5, y6, n], (z == ("__debug__" : Str)) = false ∧ (z == ("__classdict__" : Str)) = false := fun z hz => by
    have := List.any_eq_false.mp hd z hz
    simpa [Bool.or_eq_true, not_or] using this
  have dn := hd' n (by simp)
  let tb : WX → TS := fun W => Classical.choose (hb W)
  have htb : ∀ W, (∀ X, GX c W X → PSs X body (tb W)) ∧ AdS c W (tb W) u := fun W => Classical.choose_spec (hb W)
  let rd : Addr → TS := fun a => tAsg (tAndV (tCB (rIsE c.K C a) (tCons (tVar i) (tCons (tC (.ref Cm)) tNil))) (tCB (rIsE c.K C a) (tCons (tVar i) (tCons (tC (.ty "ValueError")) tNil)))) (gName j)
  let ts : Addr → Value → Option Addr → TS := fun a cls d D σ H => cls = .ref C ∧ d = none ∧ rd a D σ H
  refine ⟨fun D σ H => tb (wTwo c.K [.ref C1, .ref C2, .ref C3, .ref C4, .ref C5, .ref C6] (.ref C) i ts D) D σ H, fun X G => ?_, fun G B H ρ σ E mt h => ?_⟩
  · have nmx : ∀ {z : Str} {a : Addr}, c.sc.names.lookup z = some .globalImplicit → c.mg z = some (.ref a) → z ∈ [x, m, y1, y2, y3, y4, y5, y6, n] → Names X z (.ref a) := fun {z a} h1 h2 h3 => ⟨by show X.env.scope.names.lookup z = _; rw [G.sc]; exact h1, (hd' z h3).1, .inl (by rw [G.mg]; exact h2)⟩
    rw [← G.K]
    refine ps_try_two (tb := tb) (ts := ts) (G.top ht).1 (G.top ht).2 G.nd (by rw [G.N]; exact hN) (by show X.env.scope.names.lookup n = _; rw [G.sc]; exact hn) (nmx gx mx (by simp)) (nmx g1 m1 (by simp)) (nmx g2 m2 (by simp)) (nmx g3 m3 (by simp)) (nmx g4 m4 (by simp)) (nmx g5 m5 (by simp)) (nmx g6 m6 (by simp))
      (fun W' pn xe tk po => (htb W').1 _ ⟨G.P, G.w, G.K, G.mg, G.base, G.N, G.nd, G.sc, G.calm, tk, po, G.room, G.fn, G.top, G.ex⟩) (fun a oe cls d pn hz hf => ?_)
    refine ⟨fun pins s σ H D I hh => ?_⟩
    obtain ⟨rfl, rfl, hh⟩ := hh
    have vn : ∀ {p : Pos}, PE (X.suite a ((a, oe) :: pn)) (.Name n p) (tVar i) := fun {p} => pe_var (by show X.N[i]? = _; rw [G.N]; exact hN) (by show Vis X.env.scope n; rw [G.sc]; exact .inl hn) dn.1 dn.2
    have ci : CallR (X.suite a ((a, oe) :: pn)) (.builtin "isinstance") (rIsE c.K C a) := by
      rw [← G.K]
      exact call_isE (by rw [G.K]; exact hE) hz hf
    have gli : Gl (X.suite a ((a, oe) :: pn)) "isinstance" := by show X.env.scope.names.lookup _ = _; rw [G.sc]; exact gi
    have mgi : (X.suite a ((a, oe) :: pn)).mg "isinstance" = none := by show X.mg _ = _; rw [G.mg]; exact mi
    exact (pss_one (ps_set (X := X.suite a ((a, oe) :: pn)) G.nd (by show X.N[j]? = _; rw [G.N]; exact hNg) (by show Loc X.env.scope g; rw [G.sc]; exact .inl hg)
      (pe_and (pe_callB (X := X.suite a ((a, oe) :: pn)) ci gli mgi (by decide +kernel) (pa_cons vn (pa_cons (pe_glob (v := .ref Cm) (by show X.env.scope.names.lookup m = _; rw [G.sc]; exact gm) (by show X.mg m = _; rw [G.mg]; exact mm) rfl (hd' m (by simp)).1) pa_nil)))
        (pe_one (pe_callB (X := X.suite a ((a, oe) :: pn)) ci gli mgi (by decide +kernel) (pa_cons vn (pa_cons (pe_bltn (v := .ty "ValueError") (by show X.env.scope.names.lookup _ = _; rw [G.sc]; exact gv) (by show X.mg _ = _; rw [G.mg]; exact mv) (by decide +kernel) rfl (by decide) (by decide)) pa_nil)))))
      rfl (.inr (by show X.env.scope.names.lookup g = _; rw [G.sc]; exact hg)))).run pins s σ H D I hh
  · refine (htb _).2 G B H ρ σ E mt ?_
    unfold sTryG at h
    cases hu : u ρ with
    | nx ρ' => rw [hu] at h; exact h
    | bk ρ' => rw [hu] at h; exact h
    | ct ρ' => rw [hu] at h; exact h
    | rt s => rw [hu] at h; exact h
    | stuck => rw [hu] at h; exact h.elim
    | exc z ρ' =>
      rw [hu] at h
      dsimp only at h
      split at h
      · rename_i hz
        obtain ⟨rfl, hi⟩ := hz
        intro C' σ' B' H' mC s' m'
        rw [mx] at mC
        cases mC
        refine ⟨fun c' hc' => ?_, z0, fun a ha => ⟨rfl, rfl, ?_⟩⟩
        · simp only [List.mem_cons, List.not_mem_nil, or_false] at hc'
          rcases hc' with rfl | rfl | rfl | rfl | rfl | rfl
          · exact z1
          · exact z2
          · exact z3
          · exact z4
          · exact z5
          · exact z6
        · have at_i : (σ'.set i (some (V.ref a)))[i]? = some (some (V.ref a)) := List.getElem?_set_self (by rw [← m'.len]; exact hi)
          refine ⟨.ref a, at_i, .ref Cm, .ref Cm, true, rfl, fun u e => e, k1, true, rfl, ?_⟩
          rw [if_pos rfl]
          refine ⟨.ref a, at_i, .ty "ValueError", .type "ValueError", true, rfl, fun u e => e, k2, ?_⟩
          refine h _ B' H' s' ?_
          have k0 := (m'.kill i (σ'.set i (some (V.ref a))) (List.length_set ..) fun j' hj => List.getElem?_set_ne (Ne.symm hj)).setSh (i := j) (d := .bl true) (v := .bl true) rfl
          exact k0.kill i _ (List.length_set ..) fun j' hj => List.getElem?_set_ne (Ne.symm hj)
      · exact h.elim
theorem kit_ref {K : PySem.W.Frag} {C D : Addr} (hdct : PySem.W.hasDictIn K D = true) (ht : PySem.W.typeIn K (.ref D) = some (.type "type")) (h4 : PySem.W.subIn K (.ref C) (.ref D) = some true) : PySem.W.kitOne K (.ref C) (.ref D) = some true := by
  obtain ⟨cd, hc, _⟩ := PySem.W.any_some hdct
  have e2 : ((PySem.W.clsIn K D).isSome && PySem.W.typeIn K (.ref D) == some (.type "type")) = true := by rw [hc, ht] <;> rfl
  unfold PySem.W.kitOne
  split
  · rfl
  · show (if ((PySem.W.clsIn K D).isSome && PySem.W.typeIn K (.ref D) == some (.type "type")) = true then PySem.W.subIn K (.ref C) (.ref D) else none) = some true
    rw [if_pos e2]
    exact h4
theorem kit_val {K : PySem.W.Frag} {C : Addr} (h4 : PySem.W.subIn K (.ref C) (.type "ValueError") = some true) : PySem.W.kitOne K (.ref C) (.type "ValueError") = some true := by
  unfold PySem.W.kitOne
  split
  · rfl
  · show (if PySem.W.kitMeta "ValueError" = true then PySem.W.subIn K (.ref C) (.type "ValueError") else none) = some true
    rw [if_pos (by decide +kernel)]
    exact h4
end
end Mi

/-! ### try: .. except M as n: g = n, and what is asked of g behind it -/
namespace L2
open PySem PySem.Spec PyProof.Rows
/-- the context that holds the caught object -/
abbrev Cx.kept (X : Cx) (pn : List (Addr × Obj)) : Cx := { X with pn := pn }
section
variable {X : Cx} {pins : List (Addr × Obj)} {σ : St} {H : Hp} {s : Shared}
theorem ok_kept (ok : X.Ok) (pn : List (Addr × Obj)) : (X.kept pn).Ok := ⟨ok.mod, ok.kind, ok.glob, ok.blt, ok.above, ok.inj, ok.has, ok.cab, ok.hd, ok.frames, ok.stk, ok.exf, ok.bs, ok.bsz, ok.noex, ok.exfs, ok.funs, ok.frf⟩
theorem keep_suite {a : Addr} {pn : List (Addr × Obj)} (I : Inv (X.suite a pn) [] σ H s) (ok : X.Ok) : Inv (X.kept pn) [] σ H s :=
  ⟨ok_kept ok pn, I.os, I.bare, I.base, I.loc, I.cell, I.free, I.freeC, I.pin, I.hok, I.len⟩
theorem unkeep {q : Addr × Obj} (I : Inv (X.kept (q :: (X.pn ++ pins))) [] σ H s) (ok : X.Ok) : Inv X pins σ H s :=
  ⟨ok, I.os, I.bare, I.base, I.loc, I.cell, I.free, I.freeC, fun p hp => I.pin p (List.mem_append_left _ (List.mem_cons_of_mem _ hp)), I.hok, I.len⟩
end
/-- isinstance(e, c) and isinstance(e, (c, ..)), e the exception at a -/
def rIsK (K : PySem.W.Frag) (D a : Addr) : List V → Hp → VK → Prop := fun xs H Q => (∃ (c : V) (cv : Value) (b : Bool), xs = [.ref a, c] ∧ (∀ u, RelV c u → u = cv) ∧ PySem.W.kitOne K (.ref D) cv = some b ∧ Q (.bl b) H) ∨
  (∃ (p : Addr) (cs : List Addr) (b : Bool), xs = [.ref a, .ref p] ∧ H p = some (.tup (cs.map V.ref)) ∧ PySem.W.kitAny K (.ref D) (cs.map Value.ref) = some b ∧ Q (.bl b) H)
theorem vals_refsK : ∀ {cs : List Addr} {us : List Value}, Vals (cs.map V.ref) us → us = cs.map Value.ref
  | [], _, h => by cases h; rfl
  | c :: cs, _, h => by
    cases h with
    | cons h1 h2 =>
      cases h1
      rw [vals_refsK h2]
      rfl
theorem call_isK {X : Cx} {a D : Addr} {oe : Obj} (C : ExcC X.K D) (hz : Zc (.ref D) none oe) (hf : ∃ vs, oe.data = .fields vs) (hp : (a, oe) ∈ X.pn) : CallR X (.builtin "isinstance") (rIsK X.K D a) := by
  intro pins s σ H xs us Q I r h
  obtain ⟨hget, _⟩ := I.pin (a, oe) (List.mem_append_left _ hp)
  obtain ⟨vs, hv⟩ := hf
  have J : PySem.W.InstAt s.heap a oe D none := by
    obtain ⟨oc, od, oda, osl⟩ := oe
    obtain ⟨h1, h2⟩ := hz
    dsimp only at h1 h2 hv
    subst h1 h2 hv
    exact ⟨hget, rfl, rfl, trivial⟩
  rcases h with ⟨c, cv, b, rfl, hcv, e, q⟩ | ⟨p, cs, b, rfl, hH, e, q⟩
  · cases r with
    | cons rx rr =>
      cases rr with
      | cons rt rr =>
        cases rr
        cases rx
        have ec := hcv _ rt
        subst ec
        exact PySem.W.kia_one (PySem.W.handS_kitx_exc C.hg C.hk C.hs C.hd C.ha C.hn C.ht C.hm) I.kIn J e (fun z => nomatch z) fun tk => ⟨.bl b, H, I.kept (t' := tk) fun _ _ z => z, rfl, q⟩
  · cases r with
    | cons rx rr =>
      cases rr with
      | cons rt rr =>
        cases rr
        cases rx
        cases rt
        obtain ⟨hz, its, hr, o, ho, hc, n, hd⟩ := I.hok p _ hH
        have ei := vals_refsK hr
        subst ei
        obtain ⟨oc, od, oda, osl⟩ := o
        dsimp only at hc hd
        subst hc hd
        exact PySem.W.kia_tup (PySem.W.handS_kitx_exc C.hg C.hk C.hs C.hd C.ha C.hn C.ht C.hm) I.kIn J ho e (fun z => nomatch z) fun tk => ⟨.bl b, H, I.kept (t' := tk) fun _ _ z => z, rfl, q⟩
/-- what is wished of the exception: its class; then what comes behind -/
def wKeep (C : Addr) (i j : Nat) (tr : Addr → TS) (D : Ends) : WX := fun cls d σ H =>
  cls = .ref C ∧ d = none ∧ ∀ a, H a = none → tr a D (((σ.set i (some (.ref a))).set j (some (.ref a))).set i none) H
section
variable {X : Cx} {x n g : Str} {C M : Addr} {i j : Nat} {body rest : List Stmt} {np pos pos' pg pn1 ps : Pos} {tb : WX → TS} {tr : Addr → TS}
theorem pss_keep (hs : X.stack = X.env :: X.outer) (hf : X.env.frame = some X.env.locals) (hN : X.N.Nodup) (hi : X.N[i]? = some n) (hj : X.N[j]? = some g) (hij : i ≠ j) (hln : X.env.kindOf n = some .local) (hlg : X.env.kindOf g = some .local) (hc : Names X x (.ref M)) (hCM : PySem.W.exmOne X.K (.ref C) (.ref M) = some true)
    (hdn : (n == ("__debug__" : Str)) = false) (hcn : (n == ("__classdict__" : Str)) = false)
    (hb : ∀ (W : WX) (pn : List (Addr × Obj)) (xe : Value → Shared → Prop), Takes (X.tr pn xe) W → PassesOwn (model X.prog X.w) X.A X.env xe → PSs (X.tr pn xe) body (tb W))
    (hr : ∀ (a : Addr) (oe : Obj) (pn : List (Addr × Obj)), Zc (.ref C) none oe → (∃ vs, oe.data = .fields vs) → PSs (X.kept ((a, oe) :: pn)) rest (tr a)) :
    PSs X (.Try body [.ExceptHandler (some (.Name x np)) (some n) [.Assign [.Name g pg] (.Name n pn1) ps] pos'] [] [] pos :: rest) (fun D σ H => tb (wKeep C i j tr D) { nx := fun _ _ => False, rt := fun _ _ => False, bk := fun _ _ => False, ct := fun _ _ => False } σ H) := by
  refine ⟨fun pins s σ H D I h => ?_⟩
  have ok := I.ok
  have hfr : X.A.frames = some (X.env :: X.outer) := by rw [ok.frames, hs]
  have hloc : Loc X.env.scope n := .inl hln
  -- behind the try
  let Q : Flow → Shared → Prop := fun f s1 => f = .next ∧ ∃ (a : Addr) (oe : Obj) (σ' : St) (H' : Hp), Inv (X.kept ((a, oe) :: (X.pn ++ pins))) [] σ' H' s1 ∧ Zc (.ref C) none oe ∧ (∃ vs, oe.data = .fields vs) ∧ tr a D σ' H'
  refine wpAny_execs_cons (thn (Q := Q) ?_ fun f s1 q => ?_)
  rotate_left
  · obtain ⟨rfl, a, oe, σ', H', J, hz, hfd, hq⟩ := q
    refine wpAny_mono ((hr a oe (X.pn ++ pins) hz hfd).run [] s1 σ' H' D J hq) (fun f s2 hsp => ?_) fun _ _ z => z
    cases f with
    | next =>
      obtain ⟨σ6, H6, S6, q6⟩ := hsp
      exact ⟨_, _, unkeep S6 ok, q6⟩
    | brk =>
      obtain ⟨σ6, H6, S6, q6⟩ := hsp
      exact ⟨_, _, unkeep S6 ok, q6⟩
    | cont =>
      obtain ⟨σ6, H6, S6, q6⟩ := hsp
      exact ⟨_, _, unkeep S6 ok, q6⟩
    | ret u =>
      obtain ⟨v6, σ6, H6, S6, r6, q6⟩ := hsp
      exact ⟨_, _, _, unkeep S6 ok, r6, q6⟩
  refine wpAny_Try_except ?_
  refine wpAny_mono ((hb (wKeep C i j tr D) (X.pn ++ pins) (fun e s₁ => wpAny (model X.prog X.w) X.A (noteFrame e X.env) (fun _ s₂ => wpAny (model X.prog X.w) X.A (setFlight e none) (fun _ s₃ =>
    wpAny (model X.prog X.w) X.A (handleBy e X.env [.ExceptHandler (some (.Name x np)) (some n) [.Assign [.Name g pg] (.Name n pn1) ps] pos']) Q X.xe s₃) X.xe s₂) X.xe s₁) (fun u s' xx => ?_) PassesOwn.looking).run [] s σ H _ (I.toTry _) h) (fun f s1 hsp => ?_) (fun e s1 he => he)
  · -- the catch
    obtain ⟨a, B, sI, pins', σ', H', cls, d, rfl, J', nb, up, sky, na, os, ag, rfl, rfl, hyes⟩ := xx
    have J : Inv X pins σ' H' sI := J'.ofTry ok
    have sky' : Sky B (X.env :: X.outer) a (Zc (.ref C) none) X.env.locals s'.heap := by rw [← hs]; exact sky
    show wpAny (model X.prog X.w) X.A (noteFrame (.ref a) X.env) _ _ _
    refine Sky.land Zc.steady hfr hf sky' fun h3 fl3 up3 => ?_
    have J3 : Inv X pins σ' H' { s' with heap := h3 } := J.landed nb fl3.1 (up.trans up3) os ag
    obtain ⟨oe3, vs3, he3, hz3, hd3⟩ := fl3.there
    have notFr : ∀ {h : Heap} {o : Obj} {vs : Array Value}, h.FunFrames B (X.env :: X.outer) → h.get? a = some o → o.data = .fields vs → a ∉ frs (X.env :: X.outer) := fun {h o vs} ff e dd hm => by
      obtain ⟨_, o', e', hnf⟩ := ff.mem hm
      rw [e] at e'; cases e'
      exact hnf _ dd
    have nfr := notFr fl3.2.2.1 he3 hd3
    have nL : a ≠ X.env.locals := fun z => nfr (List.mem_filterMap.mpr ⟨X.env, List.mem_cons_self, by rw [hf, z]⟩)
    have nF : a ∉ X.fs := fun hm => by
      obtain ⟨e, he, q⟩ := List.mem_filterMap.mp hm
      exact nfr (List.mem_filterMap.mpr ⟨e, List.mem_cons_of_mem _ he, q⟩)
    have S3 := J3.suite he3 hd3 na nL nF
    refine wpAny_handleBy_cons (codeAny_handlers_test ?_) (by intro q; cases q)
    have LT : PySem.W.Looks (model X.prog X.w) h3 (typeOf (.ref a)) (.ref C) := fun A Q E s k q => wpAny_typeOf_ref (k _ _ he3) (by rw [hz3.1]; exact q)
    have LM := PySem.W.exm_one (M := model X.prog X.w) (J3.kIn) LT hCM
    refine name_at (X := X.suite a ((a, oe3) :: (X.pn ++ pins))) S3 hc ?_
    refine LM.here ?_
    refine codeAny_handlers_suite_as ?_
    refine HandSPX.lands_againZ fl3 fun h4 fl4 up4 => ?_
    have J4 : Inv X pins σ' H' { s' with heap := h4 } := J.landed nb fl4.1 ((up.trans up3).trans up4) os ag
    obtain ⟨oe4, vs4, he4, hz4, hd4⟩ := fl4.there
    have S4 := J4.suite he4 hd4 na nL nF
    refine store_ok (X := X.suite a ((a, oe4) :: (X.pn ++ pins))) (v := .ref a) S4 hN hi hloc rfl (fun s5 S5 => ?_) (.inr hln)
    have suite : PSs (X.suite a ((a, oe4) :: (X.pn ++ pins))) [.Assign [.Name g pg] (.Name n pn1) ps] (tAsg (tVar i) (gName j)) :=
      pss_one (ps_set (X := X.suite a ((a, oe4) :: (X.pn ++ pins))) hN hj (.inl hlg) (pe_var hi (.inl hln) hdn hcn) rfl (.inr hlg))
    have hiL : i < σ'.length := by rw [J.len]; exact (List.getElem?_eq_some_iff.mp hi).1
    refine wpAny_mono (suite.run [] s5 _ H' { nx := fun σ6 H6 => tr a D (σ6.set i none) H6, rt := fun _ _ => False, bk := fun _ _ => False, ct := fun _ _ => False } S5 ⟨.ref a, List.getElem?_set_self hiL, hyes a na⟩) (fun f s6 hsp => ?_) (fun _ _ z => False.elim z)
    cases f with
    | next =>
      obtain ⟨σ6, H6, S6, q6⟩ := hsp
      exact gone_ok (X := X.kept ((a, oe4) :: (X.pn ++ pins))) (keep_suite S6 ok) hN hi hln fun s7 J7 => ⟨rfl, a, oe4, _, _, J7, hz4, ⟨_, hd4⟩, q6⟩
    | brk =>
      obtain ⟨σ6, H6, S6, q6⟩ := hsp
      exact q6.elim
    | cont =>
      obtain ⟨σ6, H6, S6, q6⟩ := hsp
      exact q6.elim
    | ret u =>
      obtain ⟨v6, σ6, H6, S6, r6, q6⟩ := hsp
      exact q6.elim
  · cases f with
    | next =>
      obtain ⟨σ', H', J', q⟩ := hsp
      exact q.elim
    | brk =>
      obtain ⟨σ', H', J', q⟩ := hsp
      exact q.elim
    | cont =>
      obtain ⟨σ', H', J', q⟩ := hsp
      exact q.elim
    | ret u =>
      obtain ⟨v, σ', H', J', r, q⟩ := hsp
      exact q.elim
end
end L2
namespace Mi
open PySem PySem.Spec L2
/-- what is known of an own error's class x: it is caught as one of m, it is none of the six, and one of ValueError -/
structure Xk (c : Cf) (x m y1 y2 y3 y4 y5 y6 : Str) : Prop where
  ex : ∃ C Cm C1 C2 C3 C4 C5 C6 : Addr, c.mg x = some (.ref C) ∧ c.mg m = some (.ref Cm) ∧ c.mg y1 = some (.ref C1) ∧ c.mg y2 = some (.ref C2) ∧ c.mg y3 = some (.ref C3) ∧ c.mg y4 = some (.ref C4) ∧ c.mg y5 = some (.ref C5) ∧ c.mg y6 = some (.ref C6) ∧
    PySem.W.exmOne c.K (.ref C) (.ref Cm) = some true ∧ PySem.W.kitAny c.K (.ref C) [.ref C1, .ref C2, .ref C3, .ref C4, .ref C5, .ref C6] = some false ∧
    ExcC c.K C ∧ PySem.W.kitOne c.K (.ref C) (.ref C) = some true ∧ PySem.W.kitOne c.K (.ref C) (.type "ValueError") = some true
section
variable {c : Cf} {W : WX}
theorem kit_self {K : PySem.W.Frag} {t : Value} : PySem.W.kitOne K t t = some true := by
  unfold PySem.W.kitOne
  rw [if_pos (beq_self_eq_true t)]
/-- try: u except m as n: g = n; then: none of the six? return isinstance(g, x) and isinstance(g, ValueError) -/
@[simp] def sCaught (x : Str) (u : Sv) (i j : Nat) : Sv := fun ρ => match u ρ with
  | .exc z ρ' => if z = x ∧ i < ρ'.length ∧ j < ρ'.length then .rt (.sh (.bl true)) else .stuck
  | _ => .stuck
theorem sss_caught {x n g m y1 y2 y3 y4 y5 y6 : Str} {i j kt kf : Nat} {body : List Stmt} {np pos p2 tp q1 q2 q3 q4 q5 q6 pg ps pn1 pf pif pr pret pa pc0 pc1 pc2 pi0 pi1 pi2 pg0 pg1 pg2 px pv : Pos} {u : Sv}
    (hx : Xk c x m y1 y2 y3 y4 y5 y6) (hN : c.N[i]? = some n) (hNg : c.N[j]? = some g) (hij : i ≠ j) (hn : c.sc.names.lookup n = some .local) (hg : c.sc.names.lookup g = some .local) (ht : c.top = true)
    (gx : c.sc.names.lookup x = some .globalImplicit) (gm : c.sc.names.lookup m = some .globalImplicit) (g1 : c.sc.names.lookup y1 = some .globalImplicit) (g2 : c.sc.names.lookup y2 = some .globalImplicit) (g3 : c.sc.names.lookup y3 = some .globalImplicit) (g4 : c.sc.names.lookup y4 = some .globalImplicit) (g5 : c.sc.names.lookup y5 = some .globalImplicit) (g6 : c.sc.names.lookup y6 = some .globalImplicit)
    (gi : c.sc.names.lookup ("isinstance" : Str) = some .globalImplicit) (gv : c.sc.names.lookup ("ValueError" : Str) = some .globalImplicit) (mi : c.mg "isinstance" = none) (mv : c.mg "ValueError" = none)
    (hb : ∀ W, SSs c W body u)
    (hd : ([x, m, y1, y2, y3, y4, y5, y6, n, g].any fun z => z == ("__debug__" : Str) || z == ("__classdict__" : Str)) = false := by decide) :
    SSs c W [.Try body [.ExceptHandler (some (.Name m np)) (some n) [.Assign [.Name g pg] (.Name n pn1) ps] p2] [] [] pos,
      .If (.Call (.Name "isinstance" pi0) [.Name g pg0, .Tuple [.Name y1 q1, .Name y2 q2, .Name y3 q3, .Name y4 q4, .Name y5 q5, .Name y6 q6] kt tp] [] pc0) [.Return (some (.Constant (.bool false) kf pf)) pr] [] pif,
      .Return (some (.BoolOp .And [.Call (.Name "isinstance" pi1) [.Name g pg1, .Name x px] [] pc1, .Call (.Name "isinstance" pi2) [.Name g pg2, .Name "ValueError" pv] [] pc2] pa)) pret] (sCaught x u i j) := by
  obtain ⟨C, Cm, C1, C2, C3, C4, C5, C6, mx, mm, m1, m2, m3, m4, m5, m6, z0, z1, hE, k1, k2⟩ := hx.ex
  have hd' : ∀ z ∈ [x, m, y1, y2, y3, y4, y5, y6, n, g], (z == ("__debug__" : Str)) = false ∧ (z == ("__classdict__" : Str)) = false := fun z hz => by
    have := List.any_eq_false.mp hd z hz
    simpa [Bool.or_eq_true, not_or] using this
  have dn := hd' n (by simp)
  have dg := hd' g (by simp)
  let tb : WX → TS := fun W => Classical.choose (hb W)
  have htb : ∀ W, (∀ X, GX c W X → PSs X body (tb W)) ∧ AdS c W (tb W) u := fun W => Classical.choose_spec (hb W)
  let tr : Addr → TS := fun a => tSeq (tIfS (tB (tCB (rIsK c.K C a) (tCons (tVar j) (tCons (tTup (tCons (tC (.ref C1)) (tCons (tC (.ref C2)) (tCons (tC (.ref C3)) (tCons (tC (.ref C4)) (tCons (tC (.ref C5)) (tCons (tC (.ref C6)) tNil))))))) tNil)))) (tRet (tC (.bl false))) tNext)
    (tRet (tAndV (tCB (rIsK c.K C a) (tCons (tVar j) (tCons (tC (.ref C)) tNil))) (tCB (rIsK c.K C a) (tCons (tVar j) (tCons (tC (.ty "ValueError")) tNil)))))
  refine ⟨fun D σ H => tb (wKeep C i j tr D) { nx := fun _ _ => False, rt := fun _ _ => False, bk := fun _ _ => False, ct := fun _ _ => False } σ H, fun X G => ?_, fun G B H ρ σ E mt h => ?_⟩
  · have nmx : ∀ {z : Str} {a : Addr}, c.sc.names.lookup z = some .globalImplicit → c.mg z = some (.ref a) → z ∈ [x, m, y1, y2, y3, y4, y5, y6, n, g] → Names X z (.ref a) := fun {z a} h1 h2 h3 => ⟨by show X.env.scope.names.lookup z = _; rw [G.sc]; exact h1, (hd' z h3).1, .inl (by rw [G.mg]; exact h2)⟩
    refine pss_keep (C := C) (M := Cm) (tb := tb) (tr := tr) (G.top ht).1 (G.top ht).2 G.nd (by rw [G.N]; exact hN) (by rw [G.N]; exact hNg) hij (by show X.env.scope.names.lookup n = _; rw [G.sc]; exact hn) (by show X.env.scope.names.lookup g = _; rw [G.sc]; exact hg) (nmx gm mm (by simp)) (by rw [G.K]; exact z0) dn.1 dn.2
      (fun W' pn xe tk po => (htb W').1 _ ⟨G.P, G.w, G.K, G.mg, G.base, G.N, G.nd, G.sc, G.calm, tk, po, G.room, G.fn, G.top, G.ex⟩) (fun a oe pn hz hf => ?_)
    have vg : ∀ {p : Pos}, PE (X.kept ((a, oe) :: pn)) (.Name g p) (tVar j) := fun {p} => pe_var (by show X.N[j]? = _; rw [G.N]; exact hNg) (by show Vis X.env.scope g; rw [G.sc]; exact .inl hg) dg.1 dg.2
    have ci : CallR (X.kept ((a, oe) :: pn)) (.builtin "isinstance") (rIsK c.K C a) := by
      rw [← G.K]
      exact call_isK (X := X.kept ((a, oe) :: pn)) (by show ExcC X.K C; rw [G.K]; exact hE) hz hf (List.mem_cons_self ..)
    have gli : Gl (X.kept ((a, oe) :: pn)) "isinstance" := by show X.env.scope.names.lookup _ = _; rw [G.sc]; exact gi
    have mgi : (X.kept ((a, oe) :: pn)).mg "isinstance" = none := by show X.mg _ = _; rw [G.mg]; exact mi
    have cl : ∀ {z : Str} {b : Addr} {p : Pos}, c.sc.names.lookup z = some .globalImplicit → c.mg z = some (.ref b) → z ∈ [x, m, y1, y2, y3, y4, y5, y6, n, g] → PE (X.kept ((a, oe) :: pn)) (.Name z p) (tC (.ref b)) := fun {z b p} h1 h2 h3 => pe_glob (v := .ref b) (by show X.env.scope.names.lookup z = _; rw [G.sc]; exact h1) (by show X.mg z = _; rw [G.mg]; exact h2) rfl (hd' z h3).1
    refine pss_cons (ps_if (pt_val (pe_callB (X := X.kept ((a, oe) :: pn)) ci gli mgi (by decide +kernel) (pa_cons vg (pa_cons (pe_tup (pa_cons (cl g1 m1 (by simp)) (pa_cons (cl g2 m2 (by simp)) (pa_cons (cl g3 m3 (by simp)) (pa_cons (cl g4 m4 (by simp)) (pa_cons (cl g5 m5 (by simp)) (pa_cons (cl g6 m6 (by simp)) pa_nil))))))) pa_nil)))) (pss_one (ps_ret pe_bl)) pss_nil) (pss_one (ps_ret ?_))
    exact pe_and (pe_callB (X := X.kept ((a, oe) :: pn)) ci gli mgi (by decide +kernel) (pa_cons vg (pa_cons (cl gx mx (by simp)) pa_nil)))
      (pe_one (pe_callB (X := X.kept ((a, oe) :: pn)) ci gli mgi (by decide +kernel) (pa_cons vg (pa_cons (pe_bltn (v := .ty "ValueError") (by show X.env.scope.names.lookup _ = _; rw [G.sc]; exact gv) (by show X.mg _ = _; rw [G.mg]; exact mv) (by decide +kernel) rfl (by decide) (by decide)) pa_nil))))
  · refine (htb _).2 G B H ρ σ _ mt ?_
    unfold sCaught at h
    cases hu : u ρ with
    | nx ρ' => rw [hu] at h; exact h.elim
    | bk ρ' => rw [hu] at h; exact h.elim
    | ct ρ' => rw [hu] at h; exact h.elim
    | rt s => rw [hu] at h; exact h.elim
    | stuck => rw [hu] at h; exact h.elim
    | exc z ρ' =>
      rw [hu] at h
      dsimp only at h
      split at h
      · rename_i hz
        obtain ⟨rfl, hi, hj⟩ := hz
        intro C' σ' B' H' mC s' m'
        rw [mx] at mC
        cases mC
        refine ⟨rfl, rfl, fun a ha => ?_⟩
        have at_j : (((σ'.set i (some (V.ref a))).set j (some (V.ref a))).set i none)[j]? = some (some (V.ref a)) := by
          rw [List.getElem?_set_ne hij, List.getElem?_set_self (by rw [List.length_set, ← m'.len]; exact hj)]
        refine ⟨.ref a, at_j, line_ok (by simp), fun p hp => ?_⟩
        refine .inr ⟨p, [C1, C2, C3, C4, C5, C6], false, rfl, upd_same, z1, false, rfl, ?_⟩
        show (if (false : Bool) = true then _ else _)
        rw [if_neg Bool.false_ne_true]
        refine ⟨.ref a, at_j, .inl ⟨.ref C, .ref C, true, rfl, fun u e => e, k1, true, rfl, ?_⟩⟩
        show (if (true : Bool) = true then _ else _)
        rw [if_pos rfl]
        refine ⟨.ref a, at_j, .inl ⟨.ty "ValueError", .type "ValueError", true, rfl, fun u e => e, k2, ?_⟩⟩
        exact h _ B' _ (m'.ext.trans (Ext.new m'.ext.in_ hp)) rfl
      · exact h.elim
end
end Mi

namespace Mi
open PySem PySem.Spec L2
section
variable {c : Cf} {W : WX} {a b e tg : Expr} {es : List Expr} {f g h fj : Ev} {F : Es} {p q : Et} {pos pos' : Pos} {st : Stmt} {sts : List Stmt} {u : Sv}
/-- max(xs), xs a list of whole numbers, not empty -/
@[simp] def oMaxL : List D → R D
  | [.lst ds] => match allI ds with
    | some (n :: ns) => .ok (.int (ns.foldl max n))
    | _ => .stuck
  | _ => .stuck
theorem foldl_max_le : ∀ (ns : List Int) (n : Int), n ≤ ns.foldl max n ∧ (∀ y ∈ ns, y ≤ ns.foldl max n) ∧ (ns.foldl max n = n ∨ ns.foldl max n ∈ ns)
  | [], n => ⟨Int.le_refl _, fun y h => absurd h List.not_mem_nil, .inl rfl⟩
  | k :: ns, n => by
    obtain ⟨h1, h2, h3⟩ := foldl_max_le ns (max n k)
    rw [List.foldl_cons]
    refine ⟨by omega, fun y hy => ?_, ?_⟩
    · rcases List.mem_cons.mp hy with rfl | hy
      · omega
      · exact h2 y hy
    · rcases h3 with h3 | h3
      · by_cases q : k ≤ n
        · exact .inl (by rw [h3]; omega)
        · exact .inr (by rw [h3, show max n k = k by omega]; exact List.mem_cons_self)
      · exact .inr (List.mem_cons_of_mem _ h3)
theorem ac_maxL : AdC c W (rMax c.K) oMaxL := by
  intro σ B H ds vs Q s r h
  rcases ds with _ | ⟨d, _ | ⟨d2, ds⟩⟩
  · exact h.elim
  · obtain ⟨v, rfl, r1⟩ := r.one
    cases d with
    | lst ds =>
      obtain ⟨p, us, rfl, q1, q2⟩ := r1
      unfold oMaxL at h
      dsimp only at h
      split at h
      · rename_i n ns hns
        rw [q2.ints hns] at q1
        refine ⟨p, n :: ns, rfl, q1, Nat.succ_pos _, fun m hm hle => ?_⟩
        obtain ⟨h1, h2, h3⟩ := foldl_max_le ns n
        have e : m = ns.foldl max n := by
          have a1 : ns.foldl max n ≤ m := by
            rcases h3 with h3 | h3
            · rw [h3]; exact hle n List.mem_cons_self
            · exact hle _ (List.mem_cons_of_mem _ h3)
          have a2 : m ≤ ns.foldl max n := by
            rcases List.mem_cons.mp hm with rfl | hm
            · exact h1
            · exact h2 m hm
          omega
        rw [e]
        exact ok_refl h s _ rfl
      · exact h.elim
    | _ => exact h.elim
  · cases d <;> exact h.elim
theorem se_maxL {x : Str} {p : Pos} (hx : x = "max") (hg : c.sc.names.lookup x = some .globalImplicit) (hm : c.mg x = none) (ha : SB c W e f) (he : ∀ env, starEach [e] env = (false, eval e env) :: starEach [] env := by intro _; rfl) : SE c W (.Call (.Name x p) [e] [] pos) (eCall oMaxL (vCons f vNil)) := by
  subst hx
  exact se_callB (fun X G => by rw [← G.K]; exact cr_max G.calm) ac_maxL hg hm (by decide +kernel) (sbs_cons ha sbs_nil he) (by decide) (by decide) he (fun _ => rfl)/-- x[k][j], x a list of lists of one's own -/
@[simp] noncomputable def eIxOO (i : Nat) (fk fj : Ev) : Ev := fun ρ => match ρ[i]? with
  | some (some (.oo dss)) => (fk ρ).bind fun k => (atOO dss k).bind fun r => (fj ρ).bind fun j => oIx (.lst r.2) j
  | _ => .stuck
theorem se_ixOO {i : Nat} {x : Str} {k j : Expr} {px spos : Pos} (hN : c.N[i]? = some x) (hv : Vis c.sc x) (hk : SB c W k g) (hj : SB c W j fj) (hd : (x == ("__debug__" : Str)) = false := by decide) (hcd : (x == ("__classdict__" : Str)) = false := by decide) (hp : PlainIx k := by exact fun _ _ => rfl) (hp2 : PlainIx j := by exact fun _ _ => rfl) :
    SE c W (.Subscript (.Subscript (.Name x px) k spos) j pos) (eIxOO i g fj) := by
  obtain ⟨tk, kk, adk⟩ := hk
  obtain ⟨tj, kj, adj⟩ := hj
  refine ⟨tOp (rIxL c.K) (tOp (rIxL c.K) (tVar i) tk) tj, fun X G => ?_, fun G B H ρ σ Q m hh => ?_⟩
  · rw [← G.K]
    exact pe_ix ix_list (pe_ix ix_list (pe_var (by rw [G.N]; exact hN) (by rw [G.sc]; exact hv) hd hcd) (kk X G) hp) (kj X G) hp2
  unfold eIxOO at hh
  split at hh
  · rename_i dss hds
    obtain ⟨v, h1, a, vs, rfl, q1, q2, q3, q4, q5⟩ := m.sl i _ hds
    refine ⟨.ref a, h1, adk G B H ρ σ _ m ((Po.bind hh).imp fun kd B1 H1 e1 h2 kv r1 => ?_)⟩
    cases hat : atOO dss kd with
    | stuck => rw [hat] at h2; exact (show False from h2).elim
    | exc z => exact (atOO_exc hat).elim
    | ok r =>
    rw [hat, R.bind_ok] at h2
    obtain ⟨kz, rfl, hj, hdj⟩ := atOO_is hat
    have m1 := m.go e1
    have q1' : H1 a = some (.lst vs) := e1.h _ _ q1
    obtain ⟨pp, us, g1, g2, g3, g4, g5⟩ := (m1.innAt hds h1 q1').get hdj
    refine ⟨a, vs, kz, .ref pp, rfl, r1, SqL.of q1', ?_, adj G B1 H1 ρ σ _ m1 ((Po.bind h2).imp fun jd B2 H2 e2 h3 jv r2 => ?_)⟩
    · unfold atI
      rw [← q5.length, hj]
      exact g1
    · cases jd with
      | int jz =>
        unfold oIx at h3
        dsimp only at h3
        split at h3
        · rename_i d hd'
          obtain ⟨w, y1, y2⟩ := (Reps.mono e2.b _ _ g5).at hd'
          exact ⟨pp, us, jz, w, rfl, r2, SqL.of (e2.h _ _ g2), y1, ok_refl h3 e2.in_ _ y2⟩
        · exact (show False from h3).elim
      | _ => exact (show False from h3).elim
  · exact (show False from hh).elim
/-- x[k][j] = e -/
@[simp] noncomputable def sPutI (i : Nat) (fk fj f : Ev) : Sv := fun ρ => match ρ[i]? with
  | some (some (.oo dss)) => thnS (f ρ) ρ fun d => thnS (fk ρ) ρ fun k => thnS (atOO dss k) ρ fun r => thnS (fj ρ) ρ fun j => match j with
    | .int j => (match ixN r.2.length j with
      | some j => .nx (ρ.set i (some (.oo (dss.set r.1 (r.2.set j d)))))
      | none => .stuck)
    | _ => .stuck
  | _ => .stuck
theorem ss_putI {i : Nat} {x : Str} {k j : Expr} {px spos tpos : Pos} (hN : c.N[i]? = some x) (hv : Vis c.sc x) (hk : SB c W k g) (hj : SB c W j fj) (he : SE c W e f) (hd : (x == ("__debug__" : Str)) = false := by decide) (hcd : (x == ("__classdict__" : Str)) = false := by decide) (hp : PlainIx k := by exact fun _ _ => rfl)
    (ha : ∀ env v, assign (.Subscript (.Subscript (.Name x px) k spos) j tpos) env v = (do
      let ov ← holding [v] (eval (.Subscript (.Name x px) k spos) env)
      let iv ← holding [v, ov] (eval j env)
      standAt tpos
      holding [v, ov, iv] (setItem ov iv v)
      release [v, ov, iv] []) := by intro _ _; rfl)
    (hs : ∀ env, swapsWithSole [.Subscript (.Subscript (.Name x px) k spos) j tpos] e pos.line env = pure false := by intro _; rfl) (hw : ∀ env, swappedStores [.Subscript (.Subscript (.Name x px) k spos) j tpos] e env = pure none := by intro _; rfl) (h1 : ∀ env, (assignEach [.Subscript (.Subscript (.Name x px) k spos) j tpos] env).map (·.2) = [assign (.Subscript (.Subscript (.Name x px) k spos) j tpos) env] := by intro _; rfl) :
    SS c W (.Assign [.Subscript (.Subscript (.Name x px) k spos) j tpos] e pos) (sPutI i g fj f) := by
  obtain ⟨tk, kk, adk⟩ := hk
  obtain ⟨tj, kj, adj⟩ := hj
  obtain ⟨te, ke, ade⟩ := he
  refine ⟨tAsg te (gSub (tOp (rIxL c.K) (tVar i) tk) tj _), fun X G => ps_asg (ke X G) (pg_sub (by rw [← G.K]; exact pe_ix ix_list (pe_var (by rw [G.N]; exact hN) (by rw [G.sc]; exact hv) hd hcd) (kk X G) hp) (kj X G) set_list (ha X.env)) (hs X.env) (hw X.env) (h1 X.env), fun G B H ρ σ E m h => ?_⟩
  unfold sPutI at h
  split at h
  · rename_i dss hds
    obtain ⟨v, e0, a, vs, rfl, q1, q2, q3, q4, q5⟩ := m.sl i _ hds
    refine ade G B H ρ σ _ m ((Po.thn m h).imp fun d B1 H1 e1 h2 y r1 => ?_)
    have m1 := m.go e1
    refine ⟨.ref a, e0, adk G B1 H1 ρ σ _ m1 ((Po.thn m1 h2).imp fun kd B2 H2 e2 h3 kv r2 => ?_)⟩
    cases hat : atOO dss kd with
    | stuck => rw [hat] at h3; exact h3.elim
    | exc z => exact (atOO_exc hat).elim
    | ok r =>
    rw [hat, thnS_ok] at h3
    obtain ⟨kz, rfl, hj, hdj⟩ := atOO_is hat
    have m2 := m1.go e2
    have q1' : H2 a = some (.lst vs) := e2.h _ _ (e1.h _ _ q1)
    obtain ⟨pp, us, g1, g2, g3, g4, g5⟩ := (m2.innAt hds e0 q1').get hdj
    refine ⟨a, vs, kz, .ref pp, rfl, r2, SqL.of q1', ?_, adj G B2 H2 ρ σ _ m2 ((Po.thn m2 h3).imp fun jd B3 H3 e3 h4 jv r3 => ?_)⟩
    · unfold atI
      rw [← q5.length, hj]
      exact g1
    · cases jd with
      | int jz =>
        dsimp only at h4
        split at h4
        · rename_i jn hjn
          refine ⟨pp, us, jz, jn, rfl, r3, e3.h _ _ g2, by rw [← g5.length]; exact hjn, ?_⟩
          exact h4 σ B3 _ (Same.refl _) ((m2.go e3).ooIn hds e0 (e3.h _ _ q1') g1 ((Reps.mono e3.b _ _ g5).set jn (Rep.mono (e2.b.trans e3.b) _ _ r1)))
        · exact h4.elim
      | _ => exact h4.elim
  · exact h.elim
end
end Mi

namespace Mi.Sh
open PySem PySem.Spec L2 Mi
-- lets_by: 0:plan 1:paper
noncomputable def b_lets_by : Sv :=
  sRet (eApp (m_right_for 12) (aVal (eVar 0) (aVal (eTup (vCons (eD (.int 1)) (vCons (eD (.int 0)) (vNil)))) (aVal (eVar 1) (aNil)))))
noncomputable def m_lets_by : List Sl → R Sl := hid (runB 2 b_lets_by)
theorem m_lets_by_eq : m_lets_by = runB 2 b_lets_by := hid_eq _
-- paper_names: 0:paper 1:names 2:one
noncomputable def u_paper_names_1 (rec : List Sl → R Sl) : Sv :=
  sSeq (sExt 1 (eAppF rec (aVal (eVar 2) (aNil)))) (sKill 2 (sNx))
noncomputable def t_paper_names_2 (rec : List Sl → R Sl) : Sv :=
  sSeq (sFor (iSeq (eBin oIx (eLook 0) (eD (.int 2)))) (gSet 2) ((u_paper_names_1 rec))) (sRetO 1)
noncomputable def t_paper_names_3 (rec : List Sl → R Sl) : Sv :=
  sSeq (sSetF 1 (vNil)) ((t_paper_names_2 rec))
noncomputable def b_paper_names (rec : List Sl → R Sl) : Sv :=
  sSeq (sIf (tst (eBin oEq (eBin oIx (eLook 0) (eD (.int 0))) (eD (.str "in")))) (sRetF (vCons (eBin oIx (eLook 0) (eD (.int 1))) (vNil))) (sNx)) ((t_paper_names_3 rec))
noncomputable def m_paper_names : Nat → List Sl → R Sl
  | 0 => fun _ => .stuck
  | n + 1 => hid (runB 3 (b_paper_names (m_paper_names n)))
theorem m_paper_names_zero : m_paper_names 0 = fun _ => .stuck := by rw [m_paper_names]
theorem m_paper_names_succ (n : Nat) : m_paper_names (n + 1) = runB 3 (b_paper_names (m_paper_names n)) := by
  rw [m_paper_names]
  exact hid_eq _
-- pair_of: 0:one 1:other 2:k
noncomputable def b_pair_of : Sv :=
  sRet (eCall oDivmod (vCons (eLook 2) (vCons (eCall oLen (vCons (eLook 1) vNil)) vNil)))
noncomputable def m_pair_of : List Sl → R Sl := hid (runB 3 b_pair_of)
theorem m_pair_of_eq : m_pair_of = runB 3 b_pair_of := hid_eq _
-- lets_meet: 0:one 1:other 2:paper
noncomputable def b_lets_meet : Sv :=
  sRet (eApp m_lets_by (aVal (eLst (eAppF m_shifts (aVal (eVar 0) (aVal (eVar 1) (aNil))))) (aVal (eVar 2) (aNil))))
noncomputable def m_lets_meet : List Sl → R Sl := hid (runB 3 b_lets_meet)
theorem m_lets_meet_eq : m_lets_meet = runB 3 b_lets_meet := hid_eq _
-- paper_wait: 0:one 1:other 2:paper 3:most 4:k 5:mine 6:yours
noncomputable def t_paper_wait_1 : Sv :=
  sSeq (sAsg (eCall oMax (vCons (eLook 3) (vCons (eApp m_least_round (aVal (eLst (vCons (eBin oIx (eBin oIx (eLook 0) (eLook 5)) (eD (.int 0))) (vCons (eBin oIx (eBin oIx (eLook 1) (eLook 6)) (eD (.int 0))) (vNil)))) (aNil))) vNil))) (gSet 3)) (sKill 4 (sKill 5 (sKill 6 (sNx))))
noncomputable def u_paper_wait_2 : Sv :=
  sSeq (sAsg (eApp m_pair_of (aVal (eVar 0) (aVal (eVar 1) (aVal (eVar 4) (aNil))))) (gTupD 2 (gsCons (gSet 5) (gsCons (gSet 6) (gsNil))))) (t_paper_wait_1)
noncomputable def t_paper_wait_3 : Sv :=
  sSeq (sFor (iSeq (eLst (eAppF (m_paper_names 12) (aVal (eVar 2) (aNil))))) (gSet 4) (u_paper_wait_2)) (sRet (eVar 3))
noncomputable def t_paper_wait_4 : Sv :=
  sSeq (sAsg (eD (.int 0)) (gSet 3)) (t_paper_wait_3)
noncomputable def b_paper_wait : Sv :=
  sSeq (sIf (tNotE (tst (eApp m_lets_meet (aVal (eVar 0) (aVal (eVar 1) (aVal (eVar 2) (aNil))))))) (sRaise "NoPaper") (sNx)) (t_paper_wait_4)
noncomputable def m_paper_wait : List Sl → R Sl := hid (runB 7 b_paper_wait)
theorem m_paper_wait_eq : m_paper_wait = runB 7 b_paper_wait := hid_eq _
end Mi.Sh

namespace Mi.Sh
open PySem PySem.Spec L2 Mi
theorem great_ok {c m : Int} (hc : Bd 1048580 c) (hm : 0 < m) : ∃ n : Int, 0 ≤ n ∧ n < m ∧ m__law_great [.sh (.int c), .sh (.int m)] = .ok (.sh (.int n)) := by
  haveI := hc
  have m1 : mulOk (c % 1000000000000000000000000000000000000000000000000000000000000) (c % 1000000000000000000000000000000000000000000000000000000000000 + 271828182845904523536028747135266249) = true := mulOk_i (by rfl)
  have m2 : mulOk 2 c = true := mulOk_i (by rfl)
  have m3 : mulOk (c % 1000000000000000000000000000000000000000000000000000000000000 * (c % 1000000000000000000000000000000000000000000000000000000000000 + 271828182845904523536028747135266249) + 141421356237309504880168872420969807) (c % 1000000000000000000000000000000000000000000000000000000000000 * (c % 1000000000000000000000000000000000000000000000000000000000000 + 271828182845904523536028747135266249) + 141421356237309504880168872420969807 + 2 * c % 1000000000000000000000000000000) = true := mulOk_i (by rfl)
  generalize hN : c % 1000000000000000000000000000000000000000000000000000000000000 * (c % 1000000000000000000000000000000000000000000000000000000000000 + 271828182845904523536028747135266249) + 141421356237309504880168872420969807 = N at *
  refine ⟨(N * (N + 2 * c % 1000000000000000000000000000000) + c / 3) % m, Int.emod_nonneg _ (by omega), Int.emod_lt_of_pos _ hm, ?_⟩
  rw [m__law_great_eq]
  refine runB_rt ?_
  simp [b__law_great, t__law_great_2, t__law_great_1, m1, hN, m2, m3, hm]

mutual
/-- the numbers of a paper's ins, in their order -/
def namesP : Pap → List Int
  | .leaf k => [k]
  | .part _ ps => namesPs ps
def namesPs : List Pap → List Int
  | [] => []
  | p :: ps => namesP p ++ namesPs ps
end
theorem namesPs_flat : ∀ ps : List Pap, namesPs ps = ps.flatMap namesP
  | [] => by rw [namesPs]; rfl
  | p :: ps => by rw [namesPs, namesPs_flat ps, List.flatMap_cons]
theorem flat_len {τ ω : Type} {g : τ → List ω} {N : Nat} : ∀ {xs : List τ}, (∀ x ∈ xs, (g x).length ≤ N) → (xs.flatMap g).length ≤ xs.length * N
  | [], _ => by simp
  | x :: xs, h => by
    have h1 := h x (List.mem_cons_self ..)
    have h2 := flat_len (xs := xs) fun y hy => h y (List.mem_cons_of_mem _ hy)
    rw [List.flatMap_cons, List.length_append, List.length_cons, Nat.succ_mul]
    omega
theorem names_len : ∀ (d : Nat) (p : Pap), okP d p → (namesP p).length ≤ 15 ^ d
  | d, .leaf k, _ => by
    rw [namesP]
    exact Nat.pow_pos (by decide)
  | 0, .part b ps, h => by simp only [okP] at h
  | d + 1, .part b ps, h => by
    simp only [okP] at h
    rw [namesP, namesPs_flat]
    have := flat_len (g := namesP) (N := 15 ^ d) fun p hp => names_len d p (h.2 p hp)
    have z : ps.length * 15 ^ d ≤ 15 * 15 ^ d := Nat.mul_le_mul_right _ h.1
    rw [Nat.pow_succ]
    omega
theorem pow15 {d : Nat} (h : d ≤ 4) : 15 ^ d ≤ 50625 := Nat.pow_le_pow_right (by decide) h
theorem names_ok : ∀ (d n : Nat) (p : Pap), okP d p → d < n → d ≤ 4 → m_paper_names n [.sh (papD p)] = .ok (.ow ((namesP p).map D.int))
  | d, 0, p, _, h, _ => absurd h (Nat.not_lt_zero _)
  | d, n + 1, .leaf k, ok, hd, h4 => by
    rw [m_paper_names_succ]
    refine runB_rt ?_
    rw [papD, namesP]
    simp -implicitDefEqProofs [b_paper_names, oEq_s]
  | 0, n + 1, .part b ps, ok, hd, h4 => by simp only [okP] at ok
  | d + 1, n + 1, .part b ps, ok, hd, h4 => by
    have ok' := ok
    simp only [okP] at ok
    rw [m_paper_names_succ]
    refine runB_rt ?_
    rw [papD, namesP, namesPs_flat, papDs_map]
    obtain ⟨T, hT⟩ : ∃ T : D, T = .tup [.str "parted", .int b, .lst (ps.map papD)] := ⟨_, rfl⟩
    have fl : (ps.flatMap namesP).length ≤ 50625 := by
      have := names_len (d + 1) _ ok'
      rw [namesP, namesPs_flat] at this
      have := pow15 h4
      omega
    have loop : forR (gSet 2) (u_paper_names_1 (m_paper_names n)) (ps.map papD) [some (.sh T), some (.ow ([].map D.int)), none] = .nx [some (.sh T), some (.ow (([] ++ ps.flatMap namesP).map D.int)), none] := by
      refine forR_app (fun acc : List Int => [some (.sh T), some (.ow (acc.map D.int)), none]) papD namesP 50625 ps [] (by rw [List.length_nil]; omega) fun p acc hp ha => ?_
      have e := names_ok d n p (ok.2 p hp) (by omega) (by omega)
      have hz : acc.length + (namesP p).length ≤ szL := le_szL (by omega)
      simp -implicitDefEqProofs [turnB, u_paper_names_1, e, hz]
    have e2 := sFor_at (f := iSeq (eBin oIx (eLook 0) (eD (.int 2)))) (ρ := [some (.sh T), some (.ow ([].map D.int)), none]) (by subst hT; simp -implicitDefEqProofs) loop
    rw [List.nil_append] at e2
    simp only [List.map_nil] at e2
    show b_paper_names (m_paper_names n) [some (.sh (.tup [.str "parted", .int b, .lst (ps.map papD)])), none, none] = _
    have e0 : b_paper_names (m_paper_names n) [some (.sh (.tup [.str "parted", .int b, .lst (ps.map papD)])), none, none] = t_paper_names_2 (m_paper_names n) [some (.sh (.tup [.str "parted", .int b, .lst (ps.map papD)])), some (.ow []), none] := by
      generalize ps.map papD = PS at *
      simp -implicitDefEqProofs [b_paper_names, oEq_s, ne_in', t_paper_names_3]
    rw [e0, ← hT]
    simp -implicitDefEqProofs [t_paper_names_2, e2]
theorem leafB_in {ws : List Wk3} {s r k : Int} (h : leafB ws s r k = true) : 0 ≤ k ∧ k < ws.length := by
  by_cases q : 0 ≤ k ∧ k < ws.length
  · exact q
  · rw [leafB_no q] at h
    cases h
/-- the names of a paper that is right are there -/
theorem right_names {ws : List Wk3} : ∀ (d : Nat) (p : Pap) (s r : Int), okP d p → rightB ws s r p = true → ∀ k ∈ namesP p, 0 ≤ k ∧ k < ws.length
  | d, .leaf k', s, r, _, h, k, hk => by
    rw [namesP, List.mem_singleton] at hk
    rw [rightB] at h
    rw [hk]
    exact leafB_in h
  | 0, .part b ps, s, r, ok, h, k, hk => by simp only [okP] at ok
  | d + 1, .part b ps, s, r, ok, h, k, hk => by
    simp only [okP] at ok
    rw [namesP, namesPs_flat] at hk
    obtain ⟨p, hp, hk⟩ := List.mem_flatMap.mp hk
    rw [rightB] at h
    split at h
    · cases h
    · obtain ⟨j, hj, e⟩ := List.mem_iff_getElem.mp hp
      have := (rightsB_iff ps 0).mp h j p (by rw [List.getElem?_eq_getElem hj, e])
      exact right_names d p _ _ (ok.2 p hp) this k hk
theorem right_part {ws : List Wk3} {b s r : Int} {ps : List Pap} (h : rightB ws s r (.part b ps) = true) : 2 ≤ b ∧ (ps.length : Int) = b ∧ ∀ p ∈ ps, ∃ s' r', rightB ws s' r' p = true := by
  rw [rightB] at h
  split at h
  · cases h
  · rename_i z
    have z1 : ¬ b < 2 := fun y => z (.inl y)
    have z2 : (ps.length : Int) = b := Classical.not_not.mp fun y => z (.inr y)
    refine ⟨by omega, z2, fun p hp => ?_⟩
    obtain ⟨j, hj, e⟩ := List.mem_iff_getElem.mp hp
    exact ⟨_, _, (rightsB_iff ps 0).mp h j p (by rw [List.getElem?_eq_getElem hj, e])⟩
theorem shP_wak {us vs : List Wk3} (hu : ∀ u ∈ us, Wak u) (hv : ∀ v ∈ vs, Wak v) : ∀ w ∈ shP us vs, Wak w := fun w hw => by
  obtain ⟨u, h1, h2⟩ := List.mem_flatMap.mp hw
  obtain ⟨v, h3, rfl⟩ := List.mem_map.mp h2
  have g := shW_good (hu u h1) (hv v h3)
  exact ⟨g.1, g.2.2.2.1, g.2.2.2.2⟩
theorem meet_ok {us vs : List Wk3} {p : Pap} {d : Nat} (hu : ∀ u ∈ us, Wak u) (hv : ∀ v ∈ vs, Wak v) (hl : us.length ≤ 100) (hl2 : vs.length ≤ 100) (hp : okP d p) (hd : d < 12) :
    m_lets_meet [.sh (.lst (us.map wkD)), .sh (.lst (vs.map wkD)), .sh (papD p)] = .ok (.sh (.bl (rightB (shP us vs) 1 0 p))) := by
  have es := shifts_any hu hv (by omega) (by omega) (.inl rfl) (.inl rfl)
  have er := right_for_ok (shP_wak hu hv) d 12 p 1 0 10 hp hd (by decide) ⟨by decide⟩ (by omega)
  have el : m_lets_by [.sh (.lst ((shP us vs).map wkD)), .sh (papD p)] = .ok (.sh (.bl (rightB (shP us vs) 1 0 p))) := by
    rw [m_lets_by_eq]
    refine runB_rt ?_
    have pd : partD (1, 0) = .tup [.int 1, .int 0] := rfl
    rw [pd] at er
    generalize (shP us vs).map wkD = U at *
    simp -implicitDefEqProofs [b_lets_by, er]
  rw [m_lets_meet_eq]
  refine runB_rt ?_
  generalize (shP us vs).map wkD = U at *
  simp -implicitDefEqProofs [b_lets_meet, es, el]
/-- the pair that stands at k -/
theorem shP_get {us vs : List Wk3} {k : Nat} (h : k < us.length * vs.length) : ∃ u v, us[k / vs.length]? = some u ∧ vs[k % vs.length]? = some v ∧ u ∈ us ∧ v ∈ vs ∧ (shP us vs)[k]? = some (shW u v) := by
  have v0 : 0 < vs.length := by
    rcases Nat.eq_zero_or_pos vs.length with z | z
    · rw [z, Nat.mul_zero] at h
      exact absurd h (Nat.not_lt_zero _)
    · exact z
  induction us generalizing k with
  | nil => simp at h
  | cons a us ih =>
    unfold shP
    rw [List.flatMap_cons]
    by_cases q : k < vs.length
    · have e0 : k / vs.length = 0 := Nat.div_eq_of_lt q
      have e1 : k % vs.length = k := Nat.mod_eq_of_lt q
      refine ⟨a, vs[k], by rw [e0]; rfl, by rw [e1]; exact List.getElem?_eq_getElem q, List.mem_cons_self .., List.getElem_mem q, ?_⟩
      rw [List.getElem?_append_left (by rw [List.length_map]; exact q), List.getElem?_map, List.getElem?_eq_getElem q]
      rfl
    · have hk : k - vs.length < us.length * vs.length := by
        rw [List.length_cons, Nat.succ_mul] at h
        omega
      obtain ⟨u, v, h1, h2, h3, h4, h5⟩ := ih hk
      have e0 : k / vs.length = (k - vs.length) / vs.length + 1 := by
        rw [← Nat.add_div_right _ v0, Nat.sub_add_cancel (by omega)]
      have e1 : k % vs.length = (k - vs.length) % vs.length := by
        rw [← Nat.add_mod_right (k - vs.length), Nat.sub_add_cancel (by omega)]
      refine ⟨u, v, by rw [e0]; exact h1, by rw [e1]; exact h2, List.mem_cons_of_mem _ h3, h4, ?_⟩
      rw [List.getElem?_append_right (by rw [List.length_map]; omega), List.length_map]
      exact h5
/-- the least round of the pair at k -/
def lcmAt (us vs : List Wk3) (k : Int) : Int := match us[k.toNat / vs.length]?, vs[k.toNat % vs.length]? with
  | some u, some v => ((Nat.lcm u.1.toNat v.1.toNat : Nat) : Int)
  | _, _ => 0
def mx0 (xs : List Int) : Int := xs.foldl max 0
theorem mx_from : ∀ (xs : List Int) (a : Int), 0 ≤ a → xs.foldl max a = max a (mx0 xs)
  | [], a, h => by show a = max a 0; omega
  | x :: xs, a, h => by
    unfold mx0
    rw [List.foldl_cons, List.foldl_cons, mx_from xs (max a x) (by omega), mx_from xs (max 0 x) (by omega)]
    omega
theorem mx0_nn (xs : List Int) : 0 ≤ mx0 xs := by
  have := mx_from xs 0 (Int.le_refl _)
  unfold mx0 at this ⊢
  omega
theorem mx0_app (xs ys : List Int) : mx0 (xs ++ ys) = max (mx0 xs) (mx0 ys) := by
  unfold mx0
  rw [List.foldl_append]
  exact mx_from ys _ (mx0_nn xs)
theorem mx0_le {xs : List Int} {x : Int} (h : x ∈ xs) : x ≤ mx0 xs := by
  obtain ⟨a, b, rfl⟩ := List.append_of_mem h
  rw [mx0_app]
  have : mx0 (x :: b) = max (max 0 x) (mx0 b) := by
    unfold mx0
    rw [List.foldl_cons]
    exact mx_from b _ (by omega)
  rw [this]
  omega
theorem pair_ok {U : D} {vs : List Wk3} {k : Int} (h : 0 < vs.length ∧ vs.length ≤ 1000) : m_pair_of [.sh U, .sh (.lst (vs.map wkD)), .sh (.int k)] = .ok (.sh (.tup [.int (k / vs.length), .int (k % vs.length)])) := by
  have h0 : (0 : Int) < (vs.length : Int) := by omega
  have hd : divOk (vs.length : Int) = true := divOk_lit (by omega)
  rw [m_pair_of_eq]
  refine runB_rt ?_
  have z : vs ≠ [] := by rintro rfl; exact absurd h.1 (by decide)
  simp -implicitDefEqProofs [b_pair_of, h0, hd, z]
theorem paper_wait_no {us vs : List Wk3} {p : Pap} {d : Nat} (hu : ∀ u ∈ us, Wak u) (hv : ∀ v ∈ vs, Wak v) (hl : us.length ≤ 100) (hl2 : vs.length ≤ 100) (hp : okP d p) (hd : d ≤ 4) (h : rightB (shP us vs) 1 0 p = false) :
    m_paper_wait [.sh (.lst (us.map wkD)), .sh (.lst (vs.map wkD)), .sh (papD p)] = .exc "NoPaper" := by
  have e := meet_ok hu hv hl hl2 hp (by omega)
  rw [h] at e
  rw [m_paper_wait_eq]
  generalize us.map wkD = U at *
  generalize vs.map wkD = V at *
  generalize papD p = PP at *
  exact runB_exc (ρ := [some (.sh (.lst U)), some (.sh (.lst V)), some (.sh PP), none, none, none, none]) (by simp -implicitDefEqProofs [b_paper_wait, e])
theorem paper_wait_ok {us vs : List Wk3} {p : Pap} {d b : Nat} (hu : ∀ u ∈ us, Wak u) (hv : ∀ v ∈ vs, Wak v) (hb : b < 9000) (bu : ∀ u ∈ us, Bd b u.1) (bv : ∀ v ∈ vs, Bd b v.1) (hl : us.length ≤ 100) (hl2 : vs.length ≤ 100) (hp : okP d p) (hd : d ≤ 4) (h : rightB (shP us vs) 1 0 p = true) :
    m_paper_wait [.sh (.lst (us.map wkD)), .sh (.lst (vs.map wkD)), .sh (papD p)] = .ok (.sh (.int (mx0 ((namesP p).map (lcmAt us vs))))) := by
  have e := meet_ok hu hv hl hl2 hp (by omega)
  rw [h] at e
  have en := names_ok d 12 p hp (by omega) hd
  have hin := right_names d p 1 0 hp h
  rw [shP_len] at hin
  obtain ⟨PP, hPP⟩ : ∃ PP : D, PP = papD p := ⟨_, rfl⟩
  rw [← hPP] at e en ⊢
  have fold := forR_fold (gt := gSet 4) (u := u_paper_wait_2) (fun m : Int => [some (.sh (.lst (us.map wkD))), some (.sh (.lst (vs.map wkD))), some (.sh PP), some (.sh (.int m)), none, none, none]) D.int (fun m k => max m (lcmAt us vs k)) (fun _ => True) (namesP p) 0 trivial fun m k hk _ => by
    obtain ⟨k0, k1⟩ := hin k hk
    obtain ⟨kn, rfl⟩ := Int.eq_ofNat_of_zero_le k0
    have hlt : kn < us.length * vs.length := by omega
    obtain ⟨u, v, h1, h2, h3, h4, _⟩ := shP_get hlt
    have v0 : 0 < vs.length := by
      rcases Nat.eq_zero_or_pos vs.length with z | z
      · rw [z, Nat.mul_zero] at hlt
        exact absurd hlt (Nat.not_lt_zero _)
      · exact z
    have ep := pair_ok (U := .lst (us.map wkD)) (vs := vs) (k := (kn : Int)) ⟨v0, by omega⟩
    have pu := (hu u h3).p1
    have pv := (hv v h4).p1
    have er := lround_ok (b := b) hb (ns := [u.1.toNat, v.1.toNat]) (fun x hx => by
      have : x = u.1.toNat ∨ x = v.1.toNat := by simpa using hx
      rcases this with rfl | rfl
      · exact ⟨by omega, by rw [Int.toNat_of_nonneg (by omega)]; exact bu u h3⟩
      · exact ⟨by omega, by rw [Int.toNat_of_nonneg (by omega)]; exact bv v h4⟩) (by simp; omega) (.inl rfl)
    have e5 : lcms 1 [u.1.toNat, v.1.toNat] = Nat.lcm u.1.toNat v.1.toNat := by
      show Nat.lcm (Nat.lcm 1 _) _ = _
      rw [Nat.lcm_one_left]
    rw [e5] at er
    simp only [List.map_cons, List.map_nil] at er
    rw [Int.toNat_of_nonneg (show 0 ≤ u.1 by omega), Int.toNat_of_nonneg (show 0 ≤ v.1 by omega)] at er
    have el : lcmAt us vs (kn : Int) = ((Nat.lcm u.1.toNat v.1.toNat : Nat) : Int) := by
      unfold lcmAt
      rw [Int.toNat_natCast, h1, h2]
    have i1 : (kn : Int) / (vs.length : Int) = ((kn / vs.length : Nat) : Int) := (Int.natCast_ediv ..).symm
    have i2 : (kn : Int) % (vs.length : Int) = ((kn % vs.length : Nat) : Int) := (Int.natCast_emod ..).symm
    rw [i1, i2] at ep
    have ul : kn / vs.length < us.length := (List.getElem?_eq_some_iff.mp h1).1
    have vl : kn % vs.length < vs.length := (List.getElem?_eq_some_iff.mp h2).1
    have a1 : atI (us.map wkD) ((kn / vs.length : Nat) : Int) = some (wkD u) := by
      rw [atI_nat (Int.natCast_nonneg _) (by rw [List.length_map]; exact Int.ofNat_lt.mpr ul), Int.toNat_natCast, List.getElem?_map, h1]
      rfl
    have a2 : atI (vs.map wkD) ((kn % vs.length : Nat) : Int) = some (wkD v) := by
      rw [atI_nat (Int.natCast_nonneg _) (by rw [List.length_map]; exact Int.ofNat_lt.mpr vl), Int.toNat_natCast, List.getElem?_map, h2]
      rfl
    rw [el]
    refine ⟨?_, trivial⟩
    generalize ((Nat.lcm u.1.toNat v.1.toNat : Nat) : Int) = LL at *
    generalize ((kn / vs.length : Nat) : Int) = K1 at *
    generalize ((kn % vs.length : Nat) : Int) = K2 at *
    generalize us.map wkD = U at *
    generalize vs.map wkD = V at *
    have wu : wkD u = .tup [.int u.1, .int u.2.1, .int u.2.2] := rfl
    have wv : wkD v = .tup [.int v.1, .int v.2.1, .int v.2.2] := rfl
    rw [wu] at a1
    rw [wv] at a2
    simp -implicitDefEqProofs [turnB, u_paper_wait_2, ep, t_paper_wait_1, a1, a2, er]
  have e4 := sFor_at (f := iSeq (eLst (eAppF (m_paper_names 12) (aVal (eVar 2) (aNil))))) (ρ := [some (.sh (.lst (us.map wkD))), some (.sh (.lst (vs.map wkD))), some (.sh PP), some (.sh (.int 0)), none, none, none]) (by
    generalize us.map wkD = U at *
    generalize vs.map wkD = V at *
    simp -implicitDefEqProofs [en]) fold.1
  have ef : (namesP p).foldl (fun m k => max m (lcmAt us vs k)) 0 = mx0 ((namesP p).map (lcmAt us vs)) := by
    unfold mx0
    rw [List.foldl_map]
  rw [ef] at e4
  rw [m_paper_wait_eq]
  refine runB_rt ?_
  generalize us.map wkD = U at *
  generalize vs.map wkD = V at *
  simp -implicitDefEqProofs [b_paper_wait, e, t_paper_wait_4, t_paper_wait_3, e4]
end Mi.Sh

/-! ## objects that calls change -/
namespace Mi
open PySem PySem.Spec L2
section
variable {K : PySem.W.Frag} {g : Gd} {B H B' H' : Hp} {ρ : En} {σ : St}
theorem Mt.muL {i : Nat} {k : Option Nat} {ds es : List D} {a : Addr} {us : List V} (m : Mt K g B H ρ σ) (e : ρ[i]? = some (some (.mu k (.lst ds)))) (ev : σ[i]? = some (some (.ref a))) (r : Reps K B es us) :
    Mt K g B (upd H a (.lst us)) (ρ.set i (some (.mu k (.lst es)))) σ := by
  obtain ⟨v, h1, h0, a', vs', e1, q1, q2, q3, q4⟩ := m.sl i _ e
  rw [ev] at h1
  cases h1
  cases e1
  refine m.reown (s := .mu k (.lst ds)) (s' := .mu k (.lst es)) (v := .ref a) e ev (m.ext.own q2 q3) (fun p ws h n => ?_) ⟨h0, a, us, rfl, upd_same, q2, q3, r⟩ fun z o => .inl o
  rw [upd_ne]
  · exact h
  · rintro rfl
    exact n rfl
theorem Mt.muD {i : Nat} {k : Option Nat} {kvs kvs' : List (Str × D)} {a : Addr} {es : List (Key × V)} (m : Mt K g B H ρ σ) (e : ρ[i]? = some (some (.mu k (.dct kvs)))) (ev : σ[i]? = some (some (.ref a))) (r : Kvs K B kvs' es) :
    Mt K g B (upd H a (.dK es)) (ρ.set i (some (.mu k (.dct kvs')))) σ := by
  obtain ⟨v, h1, h0, a', vs', e1, q1, q2, q3, q4⟩ := m.sl i _ e
  rw [ev] at h1
  cases h1
  cases e1
  refine m.reown (s := .mu k (.dct kvs)) (s' := .mu k (.dct kvs')) (v := .ref a) e ev (m.ext.own q2 q3) (fun p ws h n => ?_) ⟨h0, a, es, rfl, upd_same, q2, q3, r⟩ fun z o => .inl o
  rw [upd_ne]
  · exact h
  · rintro rfl
    exact n rfl
theorem Mt.muK {i : Nat} {k : Option Nat} {kvs kvs' : List (Str × D)} {a C dx d : Addr} {es : List (Key × V)} (m : Mt K g B H ρ σ) (e : ρ[i]? = some (some (.mu k (.dsk kvs)))) (ev : σ[i]? = some (some (.ref a))) (ea : H a = some (.ins C dx [("plans", .ref d)])) (r : Kvs K B kvs' es) :
    Mt K g B (upd H d (.dK es)) (ρ.set i (some (.mu k (.dsk kvs')))) σ := by
  obtain ⟨v, h1, h0, a', C', dx', d', es', e1, q1, q2, q3, qc, q4, q5, q6, q7⟩ := m.sl i _ e
  rw [ev] at h1
  cases h1
  cases e1
  rw [ea] at q1
  cases q1
  have ne : a ≠ d := ne_of ea q4 (by intro z; cases z)
  refine m.reown (s := .mu k (.dsk kvs)) (s' := .mu k (.dsk kvs')) (v := .ref a) e ev (m.ext.own q5 q6) (fun p ws h n => ?_) ⟨h0, a, C, dx, d, es, rfl, by rw [upd_ne ne]; exact ea, q2, q3, qc, upd_same, q5, q6, r⟩ fun z o => .inl ?_
  · rw [upd_ne]
    · exact h
    · rintro rfl
      exact n (.inr ⟨a, C, dx, p, rfl, ea, rfl⟩)
  · rcases o with o | ⟨b, C2, dx2, d2, o1, o2, o3⟩
    · exact .inl o
    · cases o1
      rw [upd_ne ne, ea] at o2
      cases o2
      exact .inr ⟨a, C, dx, d, rfl, ea, o3⟩
/-- the list of one's own that stands in a slot -/
@[simp] def ownL : Option (Option Sl) → R (List D)
  | some (some (.ow ds)) => .ok ds
  | some (some (.mu _ (.lst ds))) => .ok ds
  | _ => .stuck
@[simp] def setL (i : Nat) (es : List D) (ρ : En) : En := match ρ[i]? with
  | some (some (.mu k _)) => ρ.set i (some (.mu k (.lst es)))
  | _ => ρ.set i (some (.ow es))
theorem Mt.atL {i : Nat} {ds : List D} (m : Mt K g B H ρ σ) (e : ownL ρ[i]? = .ok ds) : ∃ a vs, σ[i]? = some (some (.ref a)) ∧ H a = some (.lst vs) ∧ Reps K B ds vs ∧ ∀ es us, Reps K B es us → Mt K g B (upd H a (.lst us)) (setL i es ρ) σ := by
  cases h : ρ[i]? with
  | none => rw [h] at e; cases e
  | some s =>
    cases s with
    | none => rw [h] at e; cases e
    | some s =>
      rw [h] at e
      obtain ⟨v, h1, h2⟩ := m.sl i _ h
      cases s with
      | ow xs =>
        cases e
        obtain ⟨a, vs, rfl, q1, q2, q3, q4⟩ := h2
        refine ⟨a, vs, h1, q1, q4, fun es us r => ?_⟩
        have e2 : setL i es ρ = ρ.set i (some (.ow es)) := by unfold setL; rw [h]
        rw [e2]
        exact m.own (vs := us) h h1 r
      | mu k o => cases o with
        | lst xs =>
          cases e
          obtain ⟨_, a, vs, rfl, q1, q2, q3, q4⟩ := h2
          refine ⟨a, vs, h1, q1, q4, fun es us r => ?_⟩
          have e2 : setL i es ρ = ρ.set i (some (.mu k (.lst es))) := by unfold setL; rw [h]
          rw [e2]
          exact m.muL h h1 r
        | _ => cases e
      | _ => cases e
theorem Mt.atO {i k : Nat} {o : Ob} (m : Mt K g B H ρ σ) (e : ρ[i]? = some (some (.mu (some k) o))) : ∃ v, σ[i]? = some (some v) ∧ g.ln k = some v ∧ ObOk K g.H B H o v := by
  obtain ⟨v, h1, h2, h3⟩ := m.sl i _ e
  exact ⟨v, h1, h2 _ rfl, h3⟩
/-- what the pinned slots hold -/
def cont1 (ρ : En) (i : Nat) : Option Ob := match ρ[i]? with
  | some (some (.mu (some k) o)) => if k = i then some o else none
  | _ => none
def conts (ρ : En) : List Nat → Option (List (Nat × Ob))
  | [] => some []
  | i :: is => match cont1 ρ i with
    | some o => match conts ρ is with
      | some os => some ((i, o) :: os)
      | none => none
    | none => none
theorem cont1_is {i : Nat} {o : Ob} (h : cont1 ρ i = some o) : ρ[i]? = some (some (.mu (some i) o)) := by
  unfold cont1 at h
  split at h
  · split at h
    · rename_i k o' e q
      cases h
      rw [e, q]
    · cases h
  · cases h
theorem conts_is : ∀ {ms : List Nat} {os : List (Nat × Ob)}, conts ρ ms = some os → os.map (·.1) = ms ∧ ∀ p ∈ os, ρ[p.1]? = some (some (.mu (some p.1) p.2))
  | [], os, h => by
    cases h
    exact ⟨rfl, fun _ z => nomatch z⟩
  | i :: is, os, h => by
    unfold conts at h
    cases h1 : cont1 ρ i with
    | none => rw [h1] at h; cases h
    | some o =>
      cases h2 : conts ρ is with
      | none => rw [h1, h2] at h; cases h
      | some os' =>
        rw [h1, h2] at h
        cases h
        obtain ⟨k1, k2⟩ := conts_is h2
        refine ⟨by rw [List.map_cons, k1], fun p hp => ?_⟩
        rcases List.mem_cons.mp hp with rfl | hp
        · exact cont1_is h1
        · exact k2 p hp
theorem Mt.fin {ms : List Nat} {os : List (Nat × Ob)} (m : Mt K g B H ρ σ) (h : conts ρ ms = some os) : MFin K g B H os := by
  obtain ⟨_, k⟩ := conts_is h
  refine ⟨fun i o ho => ?_, fun i j o u v w z hij ho hu e1 e2 o1 o2 => ?_⟩
  · obtain ⟨v, _, h2, h3⟩ := m.atO (k _ ho)
    exact ⟨v, h2, h3⟩
  · obtain ⟨v', a1, a2, _⟩ := m.atO (k _ ho)
    obtain ⟨w', b1, b2, _⟩ := m.atO (k _ hu)
    rw [e1] at a2
    cases a2
    rw [e2] at b2
    cases b2
    exact m.ne i j _ _ v w z hij (k _ ho) (k _ hu) a1 b1 o1 o2
theorem Mt.pad (m : Mt K g B H ρ σ) (n : Nat) : Mt K g B H (ρ ++ List.replicate n none) (σ ++ List.replicate n none) := by
  have here : ∀ (i : Nat) (s : Sl), (ρ ++ List.replicate n none)[i]? = some (some s) → ρ[i]? = some (some s) ∧ i < ρ.length := fun i s e => by
    by_cases hi : i < ρ.length
    · rw [List.getElem?_append_left hi] at e
      exact ⟨e, hi⟩
    · rw [List.getElem?_append_right (Nat.le_of_not_lt hi), List.getElem?_replicate] at e
      split at e <;> cases e
  have sg : ∀ (i : Nat), i < ρ.length → (σ ++ List.replicate n none)[i]? = σ[i]? := fun i hi => List.getElem?_append_left (by rw [← m.len]; exact hi)
  refine ⟨m.ext, by rw [List.length_append, List.length_append, m.len, List.length_replicate, List.length_replicate], fun i s e => ?_, fun i j s t v u z hij e1 e2 e3 e4 o1 o2 => ?_⟩
  · obtain ⟨e', hi⟩ := here i s e
    rw [sg i hi]
    exact m.sl i s e'
  · obtain ⟨e1', hi⟩ := here i s e1
    obtain ⟨e2', hj⟩ := here j t e2
    rw [sg i hi] at e3
    rw [sg j hj] at e4
    exact m.ne i j s t v u z hij e1' e2' e3 e4 o1 o2
theorem Mt.cut {ρx : En} {σx : St} (m : Mt K g B H (ρ ++ ρx) (σ ++ σx)) (hl : ρ.length = σ.length) : Mt K g B H ρ σ := by
  have sg : ∀ (i : Nat) (s : Sl), ρ[i]? = some (some s) → (ρ ++ ρx)[i]? = some (some s) ∧ (σ ++ σx)[i]? = σ[i]? := fun i s e => by
    have hi : i < ρ.length := (List.getElem?_eq_some_iff.mp e).1
    exact ⟨by rw [List.getElem?_append_left hi]; exact e, List.getElem?_append_left (by omega)⟩
  refine ⟨m.ext, hl, fun i s e => ?_, fun i j s t v u z hij e1 e2 e3 e4 o1 o2 => ?_⟩
  · obtain ⟨a, b⟩ := sg i s e
    rw [← b]
    exact m.sl i s a
  · obtain ⟨a1, b1⟩ := sg i s e1
    obtain ⟨a2, b2⟩ := sg j t e2
    rw [← b1] at e3
    rw [← b2] at e4
    exact m.ne i j s t v u z hij a1 a2 e3 e4 o1 o2
/-- a new list, behind all slots -/
theorem Mt.more {B1 H1 : Hp} {ds : List D} {p : Addr} {vs : List V} (m : Mt K g B H ρ σ) (e1 : Ext B H B1 H1) (q1 : H1 p = some (.lst vs)) (q2 : B1 p = none) (q3 : H p = none) (q4 : Reps K B1 ds vs) : Mt K g B1 H1 (ρ ++ [some (.ow ds)]) (σ ++ [some (.ref p)]) := by
  have m0 := m.pad 1
  have m1 := (m0.go e1).set (i := ρ.length) (s := .ow ds) (v := .ref p) ⟨p, vs, rfl, q1, q2, m.ext.h.free q3, q4⟩ fun z o j t u hj ej eu o2 => by
    have oz : z = .ref p := o
    subst oz
    obtain ⟨v', k1, k2⟩ := m0.sl j t ej
    rw [eu] at k1
    cases k1
    have o3 := k2.owB (fun q u hq _ => e1.h _ _ hq) o2
    exact m0.free q3 ej eu o3
  have l1 : (ρ ++ List.replicate 1 none).set ρ.length (some (Sl.ow ds)) = ρ ++ [some (.ow ds)] := by
    rw [List.set_append_right _ _ (Nat.le_refl _), Nat.sub_self]
    rfl
  have l2 : (σ ++ List.replicate 1 none).set ρ.length (some (V.ref p)) = σ ++ [some (.ref p)] := by
    rw [m.len, List.set_append_right _ _ (Nat.le_refl _), Nat.sub_self]
    rfl
  rw [l1, l2] at m1
  exact m1
end
end Mi

/-! ## expressions that change what one's own names hold -/
namespace Mi
open PySem PySem.Spec L2
inductive Rx where
  | ok (d : D) (ρ : En) | exc (x : Str) (ρ : En) | stuck
abbrev Ex := En → Rx
def PoX (c : Cf) (W : WX) (g : Gd) (B : Hp) (σ : St) (Q : D → En → Hp → Hp → Prop) : Rx → Prop
  | .ok d ρ' => ∀ B' H', Same B B' → Mt c.K g B' H' ρ' σ → Q d ρ' B' H'
  | .exc x ρ' => ∀ (C : Addr) B' H', c.mg x = some (.ref C) → Same B B' → Mt c.K g B' H' ρ' σ → W (.ref C) none σ H'
  | .stuck => False
theorem PoX.mono {c : Cf} {W : WX} {g : Gd} {B B' : Hp} {σ : St} {Q : D → En → Hp → Hp → Prop} {r : Rx} (h : PoX c W g B σ Q r) (s : Same B B') : PoX c W g B' σ Q r := by
  cases r with
  | ok d ρ' => exact fun B2 H2 s2 m => h B2 H2 (s.trans s2) m
  | exc x ρ' => exact fun C B2 H2 e s2 m => h C B2 H2 e (s.trans s2) m
  | stuck => exact h
theorem PoX.imp {c : Cf} {W : WX} {g : Gd} {B : Hp} {σ : St} {Q Q' : D → En → Hp → Hp → Prop} {r : Rx} (h : PoX c W g B σ Q r) (k : ∀ d ρ' B' H', Same B B' → Mt c.K g B' H' ρ' σ → Q d ρ' B' H' → Q' d ρ' B' H') : PoX c W g B σ Q' r := by
  cases r with
  | ok d ρ' => exact fun B2 H2 s2 m => k _ _ _ _ s2 m (h B2 H2 s2 m)
  | exc x ρ' => exact h
  | stuck => exact h
def AdX (c : Cf) (W : WX) (t : TE) (f : Ex) : Prop := ∀ (g : Gd) (B H : Hp) (ρ : En) (σ : St) (Q : VK), Mt c.K g B H ρ σ →
  PoX c W g B σ (fun d _ B' H' => ∀ v, Rep c.K B' d v → Q v H') (f ρ) → t σ H Q
def AdTX (c : Cf) (W : WX) (t : TT) (f : Ex) : Prop := ∀ (g : Gd) (B H : Hp) (ρ : En) (σ : St) (Q : Bool → Hp → Prop), Mt c.K g B H ρ σ →
  PoX c W g B σ (fun d _ _ H' => ∃ b, d = .bl b ∧ Q b H') (f ρ) → t σ H Q
def SX (c : Cf) (W : WX) (e : Expr) (f : Ex) : Prop := ∃ t : TE, (∀ X, GX c W X → PE X e t) ∧ AdX c W t f
def STX (c : Cf) (W : WX) (e : Expr) (f : Ex) : Prop := ∃ t : TT, (∀ X, GX c W X → PT X e t) ∧ AdTX c W t f
def SWX (c : Cf) (W : WX) (e : Expr) (f : Ex) : Prop := ∃ t : TT, (∀ X, GX c W X → PW X e t) ∧ AdTX c W t f
def Rx.bind : Rx → (D → En → Rx) → Rx
  | .ok d ρ, k => k d ρ
  | .exc x ρ, _ => .exc x ρ
  | .stuck, _ => .stuck
def R.rx : R D → En → Rx
  | .ok d, ρ => .ok d ρ
  | .exc x, ρ => .exc x ρ
  | .stuck, _ => .stuck
def Rx.fl : Rx → (D → En → Fl) → Fl
  | .ok d ρ, k => k d ρ
  | .exc x ρ, _ => .exc x ρ
  | .stuck, _ => .stuck
section
variable {d : D} {ρ : En} {x : Str} {k : D → En → Rx} {k2 : D → En → Fl} {q : Prop} [Decidable q]
@[simp] theorem Rx.bind_ok : (Rx.ok d ρ).bind k = k d ρ := rfl
@[simp] theorem Rx.bind_exc : (Rx.exc x ρ).bind k = .exc x ρ := rfl
@[simp] theorem Rx.bind_stuck : Rx.stuck.bind k = .stuck := rfl
@[simp] theorem R.rx_ok : (R.ok d).rx ρ = .ok d ρ := rfl
@[simp] theorem R.rx_exc : (R.exc x).rx ρ = .exc x ρ := rfl
@[simp] theorem R.rx_stuck : (R.stuck : R D).rx ρ = .stuck := rfl
@[simp] theorem Rx.fl_ok : (Rx.ok d ρ).fl k2 = k2 d ρ := rfl
@[simp] theorem Rx.fl_exc : (Rx.exc x ρ).fl k2 = .exc x ρ := rfl
@[simp] theorem Rx.fl_stuck : Rx.stuck.fl k2 = .stuck := rfl
@[simp] theorem Rx.bind_ite {a b : Rx} : (if q then a else b).bind k = if q then a.bind k else b.bind k := by split <;> rfl
@[simp] theorem Rx.fl_ite {a b : Rx} : (if q then a else b).fl k2 = if q then a.fl k2 else b.fl k2 := by split <;> rfl
@[simp] theorem R.rx_ite {a b : R D} : (if q then a else b).rx ρ = if q then a.rx ρ else b.rx ρ := by split <;> rfl
end
section
variable {c : Cf} {W : WX} {a b e : Expr} {es rest : List Expr} {X Y : Ex} {f h : Ev} {p : Et} {pos pos' : Pos} {g : Gd} {B H : Hp} {σ : St} {ρ : En}
theorem Po.x (m : Mt c.K g B H ρ σ) {r : R D} {Q : D → En → Hp → Hp → Prop} (h : PoX c W g B σ Q (r.rx ρ)) : Po c W σ B H r fun d B' H' => Q d ρ B' H' := by
  cases r with
  | ok d => exact fun B' H' x => h B' H' x.b (m.go x)
  | exc z => exact fun C B' H' e x => h C B' H' e x.b (m.go x)
  | stuck => exact h
theorem PoX.bind {r : Rx} {k : D → En → Rx} {Q : D → En → Hp → Hp → Prop} (h : PoX c W g B σ Q (r.bind k)) : PoX c W g B σ (fun d ρ' B' _ => PoX c W g B' σ Q (k d ρ')) r := by
  cases r with
  | ok d ρ' => exact fun B' H' s m => PoX.mono h s
  | exc x ρ' => exact h
  | stuck => exact h
theorem PoX.flE {E : Ends} {r : Rx} {k : D → En → Fl} (h : PoS c W g B E (r.fl k)) : PoX c W g B σ (fun d ρ' B' _ => PoS c W g B' E (k d ρ')) r := by
  cases r with
  | ok d ρ' => exact fun B' H' s m => PoS.mono h s
  | exc x ρ' => exact fun C B' H' e s m => h C σ B' H' e s m
  | stuck => exact h.elim
/-- a pure one -/
@[simp] def xPure (f : Ev) : Ex := fun ρ => (f ρ).rx ρ
theorem sx_pure (h : SE c W e f) : SX c W e (xPure f) := by
  obtain ⟨t, k, ad⟩ := h
  exact ⟨t, k, fun g B H ρ σ Q m hh => ad g B H ρ σ Q m (Po.x m hh)⟩
@[simp] def xTst (p : Et) : Ex := fun ρ => ((p ρ).map D.bl).rx ρ
theorem stx_pure (h : ST c W e p) : STX c W e (xTst p) := by
  obtain ⟨t, k, ad⟩ := h
  refine ⟨t, k, fun g B H ρ σ Q m hh => ad g B H ρ σ Q m ((Po.map (Po.x m hh)).imp fun b B' H' _ z => ?_)⟩
  obtain ⟨b', e, q⟩ := z
  cases e
  exact q
/-- a comparison, its right side pure -/
@[simp] def xBin (o : D → D → R D) (X : Ex) (f : Ev) : Ex := fun ρ => (X ρ).bind fun x ρ1 => ((f ρ1).bind fun y => o x y).rx ρ1
theorem adx_bin {r : R2} {o : D → D → R D} {ta tb : TE} (hr : Ad2 c W r o) (ha : AdX c W ta X) (hb : AdB c W tb f) : AdX c W (tOp r ta tb) (xBin o X f) := by
  intro g B H ρ σ Q m hh
  refine ha g B H ρ σ _ m ((PoX.bind hh).imp fun x ρ1 B1 H1 s1 m1 h1 v r1 => ?_)
  refine hb g B1 H1 ρ1 σ _ m1 ((Po.bind (Po.x m1 h1)).imp fun y B2 H2 e2 h2 u r2 => ?_)
  exact hr σ B2 H2 x y v u Q e2.in_ (Rep.t e2.in_ (Rep.mono e2.b _ _ r1)) r2 h2
theorem sx_cmp {op : CmpOp} {r : R2} {o : D → D → R D} (ho : ∀ X, GX c W X → OpR X (compareOp op) r) (hr : Ad2 c W r o) (hm : behindInMarks op b = false) (ha : SX c W a X) (hb : SB c W b f) : SX c W (.Compare a [op] [b] pos) (xBin o X f) := by
  obtain ⟨ta, ka, aa⟩ := ha
  obtain ⟨tb, kb, ab⟩ := hb
  exact ⟨_, fun Z G => pe_cmpR (ho Z G) (ka Z G) (kb Z G) hm, adx_bin hr aa ab⟩
theorem sx_eq (ha : SX c W a X) (hb : SB c W b f) : SX c W (.Compare a [.Eq] [b] pos) (xBin oEq X f) := sx_cmp (fun _ G => oc_eq G) sc_eq (nomark _) ha hb
theorem sx_ne (ha : SX c W a X) (hb : SB c W b f) : SX c W (.Compare a [.NotEq] [b] pos) (xBin oNe X f) := sx_cmp (fun _ G => oc_ne G) sc_ne (nomark _) ha hb
/-- a truth as a test -/
@[simp] def xBool (X : Ex) : Ex := fun ρ => (X ρ).bind fun d ρ1 => (d.bool.map D.bl).rx ρ1
theorem adx_tst {t : TE} (h : AdX c W t X) : AdTX c W (tTest t) (xBool X) := by
  intro g B H ρ σ Q m hh
  refine h g B H ρ σ _ m ((PoX.bind hh).imp fun d ρ1 B1 H1 s1 m1 h1 v r1 => ?_)
  cases d with
  | bl b =>
    obtain ⟨b', e, q⟩ := (show PoX c W g B1 σ _ (.ok (.bl b) ρ1) from h1) B1 H1 (Same.refl _) m1
    cases e
    cases (show v = .bl b from r1)
    exact ⟨b, rfl, q⟩
  | _ => exact h1.elim
theorem stx_cmp {op : CmpOp} {r : R2} {o : D → D → R D} (ho : ∀ X, GX c W X → OpR X (compareOp op) r) (hr : Ad2 c W r o) (hm : behindInMarks op b = false) (ha : SX c W a X) (hb : SB c W b f) : STX c W (.Compare a [op] [b] pos) (xBool (xBin o X f)) := by
  obtain ⟨ta, ka, aa⟩ := ha
  obtain ⟨tb, kb, ab⟩ := hb
  exact ⟨_, fun Z G => pt_cmpR (ho Z G) (ka Z G) (kb Z G) hm, adx_tst (adx_bin hr aa ab)⟩
theorem stx_eq (ha : SX c W a X) (hb : SB c W b f) : STX c W (.Compare a [.Eq] [b] pos) (xBool (xBin oEq X f)) := stx_cmp (fun _ G => oc_eq G) sc_eq (nomark _) ha hb
theorem stx_ne (ha : SX c W a X) (hb : SB c W b f) : STX c W (.Compare a [.NotEq] [b] pos) (xBool (xBin oNe X f)) := stx_cmp (fun _ G => oc_ne G) sc_ne (nomark _) ha hb
theorem stx_val (he : ∀ env whole, isTrue e env whole = (do let v ← whole; standAt e.pos; holding [v] (truthy v))) (h : SX c W e X) : STX c W e (xBool X) := by
  obtain ⟨t, k, ad⟩ := h
  exact ⟨_, fun Z G => pt_val (k Z G) (he Z.env), adx_tst ad⟩
@[simp] def xNot (X : Ex) : Ex := fun ρ => (X ρ).bind fun d ρ1 => (notD d).rx ρ1
theorem stx_not (h : STX c W a X) : STX c W (.UnaryOp .Not a pos) (xNot X) := by
  obtain ⟨t, k, ad⟩ := h
  refine ⟨_, fun Z G => pt_not (k Z G), fun g B H ρ σ Q m hh => ?_⟩
  refine ad g B H ρ σ _ m ((PoX.bind hh).imp fun d ρ1 B1 H1 s1 m1 h1 => ?_)
  cases d with
  | bl b =>
    obtain ⟨b', e, q⟩ := (show PoX c W g B1 σ _ (.ok (.bl (!b)) ρ1) from h1) B1 H1 (Same.refl _) m1
    cases e
    exact ⟨b, rfl, q⟩
  | _ => exact h1.elim
@[simp] def xOr (X Y : Ex) : Ex := fun ρ => (X ρ).bind fun d ρ1 => match d with
  | .bl b => if b = true then .ok (.bl true) ρ1 else Y ρ1
  | _ => .stuck
@[simp] def xAnd (X Y : Ex) : Ex := fun ρ => (X ρ).bind fun d ρ1 => match d with
  | .bl b => if b = true then Y ρ1 else .ok (.bl false) ρ1
  | _ => .stuck
theorem stx_w (h : SWX c W e X) : STX c W e X := by
  obtain ⟨t, k, ad⟩ := h
  exact ⟨t, fun Z G => (k Z G).pt, ad⟩
theorem swx_and1 (h : STX c W a X) : SWX c W (.BoolOp .And [a] pos) X := by
  obtain ⟨t, k, ad⟩ := h
  exact ⟨_, fun Z G => pw_and1 (k Z G), ad⟩
theorem swx_or1 (h : STX c W a X) : SWX c W (.BoolOp .Or [a] pos) X := by
  obtain ⟨t, k, ad⟩ := h
  exact ⟨_, fun Z G => pw_or1 (k Z G), ad⟩
theorem swx_and (h : STX c W a X) (h2 : SWX c W (.BoolOp .And (b :: rest) pos) Y) : SWX c W (.BoolOp .And (a :: b :: rest) pos) (xAnd X Y) := by
  obtain ⟨t, k, ad⟩ := h
  obtain ⟨t2, k2, ad2⟩ := h2
  refine ⟨_, fun Z G => pw_and (k Z G) (k2 Z G), fun g B H ρ σ Q m hh => ?_⟩
  refine ad g B H ρ σ _ m ((PoX.bind hh).imp fun d ρ1 B1 H1 s1 m1 h1 => ?_)
  cases d with
  | bl b =>
    refine ⟨b, rfl, ?_⟩
    cases b with
    | true => exact ad2 g B1 H1 ρ1 σ _ m1 h1
    | false =>
      obtain ⟨b', e, q⟩ := (show PoX c W g B1 σ _ (.ok (.bl false) ρ1) from h1) B1 H1 (Same.refl _) m1
      cases e
      exact q
  | _ => exact h1.elim
theorem swx_or (h : STX c W a X) (h2 : SWX c W (.BoolOp .Or (b :: rest) pos) Y) : SWX c W (.BoolOp .Or (a :: b :: rest) pos) (xOr X Y) := by
  obtain ⟨t, k, ad⟩ := h
  obtain ⟨t2, k2, ad2⟩ := h2
  refine ⟨_, fun Z G => pw_or (k Z G) (k2 Z G), fun g B H ρ σ Q m hh => ?_⟩
  refine ad g B H ρ σ _ m ((PoX.bind hh).imp fun d ρ1 B1 H1 s1 m1 h1 => ?_)
  cases d with
  | bl b =>
    refine ⟨b, rfl, ?_⟩
    cases b with
    | true =>
      obtain ⟨b', e, q⟩ := (show PoX c W g B1 σ _ (.ok (.bl true) ρ1) from h1) B1 H1 (Same.refl _) m1
      cases e
      exact q
    | false => exact ad2 g B1 H1 ρ1 σ _ m1 h1
  | _ => exact h1.elim
/-! ### statements -/
@[simp] def xIf (X : Ex) (u v : Sv) : Sv := fun ρ => (X ρ).fl fun d ρ1 => match d with
  | .bl b => if b = true then u ρ1 else v ρ1
  | _ => .stuck
theorem ssx_if {k : Expr} {s1 s2 : List Stmt} {u v : Sv} (hk : STX c W k X) (h1 : SSs c W s1 u) (h2 : SSs c W s2 v) : SS c W (.If k s1 s2 pos) (xIf X u v) := by
  obtain ⟨t, kk, ad⟩ := hk
  obtain ⟨t1, k1, ad1⟩ := h1
  obtain ⟨t2, k2, ad2⟩ := h2
  refine ⟨_, fun Z G => ps_if (kk Z G) (k1 Z G) (k2 Z G), fun G B H ρ σ E m hh => ?_⟩
  refine ad G B H ρ σ _ m ((PoX.flE hh).imp fun d ρ1 B1 H1 s1 m1 h1 => ?_)
  cases d with
  | bl b =>
    refine ⟨b, rfl, ?_⟩
    cases b with
    | true => exact ad1 G B1 H1 ρ1 σ E m1 h1
    | false => exact ad2 G B1 H1 ρ1 σ E m1 h1
  | _ => exact h1.elim
@[simp] def xAsg (X : Ex) (gt : Gt) : Sv := fun ρ => (X ρ).fl fun d ρ1 => (gt d ρ1).fl .nx
theorem adx_asg {te : TE} {t : TG} {is : List Nat} {gt : Gt} (ha : AdX c W te X) (hg : ∀ (g : Gd) (B H : Hp) (ρ : En) (σ : St) (v : V) (d : D) (Q : St → Hp → Prop), Mt c.K g B H ρ σ → Rep c.K B d v → PoG c.K g B H σ is (gt d ρ) Q → t v σ H Q) : AdS c W (tAsg te t) (xAsg X gt) := by
  intro G B H ρ σ E m hh
  refine ha G B H ρ σ _ m ((PoX.flE hh).imp fun d ρ1 B1 H1 s1 m1 h1 v r1 => ?_)
  refine hg G B1 H1 ρ1 σ v d _ m1 r1 ?_
  cases hgt : gt d ρ1 with
  | ok ρ2 =>
    rw [hgt] at h1
    exact fun σ' m' _ _ => h1 σ' B1 H1 (Same.refl _) m'
  | exc z => rw [hgt] at h1; exact h1
  | stuck => rw [hgt] at h1; exact h1
theorem ssx_set {i : Nat} {x : Str} (hN : c.N[i]? = some x) (hx : LocC c x) (he : SX c W e X) (hs : ∀ env, swapsWith e (some (.Name x pos')) pos.line env = pure false := by intro _; rfl) : SS c W (.Assign [.Name x pos'] e pos) (xAsg X (gSet i)) := by
  obtain ⟨t, k, ad⟩ := he
  obtain ⟨tg, kg, ag⟩ := sg_name (pos := pos') hN hx
  exact ⟨_, fun Z G => ps_set (by rw [← G.N] at *; exact G.nd) (by rw [G.N]; exact hN) (by show Loc Z.env.scope x; rw [G.sc]; exact hx.loc) (k Z G) (hs Z.env) (loc_fn G hx), adx_asg ad fun g B H ρ σ v d Q m r q => by
    have q' : ∀ σ', Mt c.K g B H (ρ.set i (some (.sh d))) σ' → σ'.length = σ.length → (∀ j, j ∉ [i] → σ'[j]? = σ[j]?) → Q σ' H := q
    exact q' _ (m.setSh r) (List.length_set ..) fun j hj => List.getElem?_set_ne fun z => hj (by simp [z])⟩
@[simp] def xDrop (X : Ex) : Sv := fun ρ => (X ρ).fl fun _ ρ1 => .nx ρ1
theorem ssx_drop (he : SX c W e X) (hs : ∀ env, swapsWith e none pos.line env = pure false := by intro _; rfl) : SS c W (.Expr e pos) (xDrop X) := by
  obtain ⟨t, k, ad⟩ := he
  refine ⟨_, fun Z G => ps_expr (k Z G) (hs Z.env), fun G B H ρ σ E m hh => ?_⟩
  exact ad G B H ρ σ _ m ((PoX.flE hh).imp fun d ρ1 B1 H1 s1 m1 h1 v r1 => h1 σ B1 H1 (Same.refl _) m1)
@[simp] def xRet (X : Ex) : Sv := fun ρ => (X ρ).fl fun d _ => .rt (.sh d)
theorem ssx_ret (he : SX c W e X) : SS c W (.Return (some e) pos) (xRet X) := by
  obtain ⟨t, k, ad⟩ := he
  refine ⟨_, fun Z G => ps_ret (k Z G), fun G B H ρ σ E m hh => ?_⟩
  exact ad G B H ρ σ _ m ((PoX.flE hh).imp fun d ρ1 B1 H1 s1 m1 h1 v r1 => h1 v B1 H1 m1.ext r1)
/-- what is handed back, and what the pinned objects hold by then -/
@[simp] def xRetM (ms : List Nat) (X : Ex) : Sv := fun ρ => (X ρ).fl fun d ρ1 => match conts ρ1 ms with
  | some os => .rt (.mr d os)
  | none => .stuck
theorem ssx_retM {ms : List Nat} (he : SX c W e X) : SS c W (.Return (some e) pos) (xRetM ms X) := by
  obtain ⟨t, k, ad⟩ := he
  refine ⟨_, fun Z G => ps_ret (k Z G), fun G B H ρ σ E m hh => ?_⟩
  refine ad G B H ρ σ _ m ((PoX.flE hh).imp fun d ρ1 B1 H1 s1 m1 h1 v r1 => ?_)
  cases hc : conts ρ1 ms with
  | some os =>
    rw [hc] at h1
    exact h1 v B1 H1 m1.ext r1 (m1.fin hc)
  | none => rw [hc] at h1; exact h1.elim
/-- xs.append(e), e changes others -/
@[simp] noncomputable def xApp (i : Nat) (X : Ex) : Sv := fun ρ => match ρ[i]? with
  | some (some (.ow _)) => (X ρ).fl fun d ρ1 => match ρ1[i]? with
    | some (some (.ow ds)) => if ds.length < szL then .nx (ρ1.set i (some (.ow (ds ++ [d])))) else .stuck
    | _ => .stuck
  | _ => .stuck
theorem ssx_app {i : Nat} {x : Str} {px apos cpos : Pos} (hN : c.N[i]? = some x) (hv : Vis c.sc x) (he : SX c W e X) (hd : (x == ("__debug__" : Str)) = false := by decide) (hcd : (x == ("__classdict__" : Str)) = false := by decide)
    (hbase : ∀ env, attributeBase (.Name x px) "append" env (eval (.Name x px) env) = eval (.Name x px) env := by intro _; rfl)
    (hfew : ∀ env, ((backTo cpos (starEach [e] env)).all (fun x => !x.1) && (backToKw cpos (keywordEach [] env)).all (fun x => x.1.isSome) && decide ([e].length + ([] : List Keyword).length + (if ([] : List Keyword).isEmpty then 0 else 1) < 30)) = true := by intro _; rfl)
    (hline : (apos.endLine == cpos.line) = true := by rfl) (hs : ∀ env, starEach [e] env = (false, eval e env) :: starEach [] env := by intro _; rfl) :
    SS c W (.Expr (.Call (.Attribute (.Name x px) "append" apos) [e] [] cpos) pos) (xApp i X) := by
  obtain ⟨t, k, ad⟩ := he
  refine ⟨tDrop (tBM c.K "list" rAppend (tVar i) (tCons t tNil)), fun X G => ?_, fun G B H ρ σ E m h => ?_⟩
  · rw [← G.K]
    exact ps_expr (pe_bm PySem.F.plainAttrs_list PySem.F.slot_list_append PySem.F.type_list_append mt_append (pe_var (by rw [G.N]; exact hN) (by rw [G.sc]; exact hv) hd hcd) (pa_cons (k X G) pa_nil (hs X.env)) (hbase X.env) (hfew X.env) hline (hs X.env) rfl) rfl
  · unfold xApp at h
    split at h
    · rename_i ds0 e0
      obtain ⟨v0, e1, p, vs, rfl, e2, _⟩ := m.sl i _ e0
      refine ⟨.ref p, e1, .inl ⟨rfl, vs, SqL.of e2⟩, ad G B H ρ σ _ m ((PoX.flE h).imp fun d ρ1 B1 H1 s1 m1 h2 y r1 => ?_)⟩
      split at h2
      · rename_i ds e4
        obtain ⟨v, h1, p', vs', rfl, q1, q2, q3, q4⟩ := m1.sl i _ e4
        rw [e1] at h1
        cases h1
        split at h2
        · rename_i hz
          rw [szL_eq] at hz
          refine ⟨p, vs', y, rfl, rfl, q1, by rw [← q4.length]; exact hz, ?_⟩
          exact h2 σ B1 _ (Same.refl _) (m1.own (vs := vs') e4 e1 (q4.append (Reps.one r1)))
        · exact h2.elim
      · exact h2.elim
    · exact h.elim
end
end Mi

/-! ## defs that change what is handed in, and their calls -/
namespace Mi
open PySem PySem.Spec L2
inductive RM where
  | ok (d : D) (os : List (Nat × Ob)) | exc (x : Str) (os : List (Nat × Ob)) | stuck
def RM.of : Option (List (Nat × Ob)) → (List (Nat × Ob) → RM) → RM
  | some os, k => k os
  | none, _ => .stuck
@[simp] theorem RM.of_some {os : List (Nat × Ob)} {k : List (Nat × Ob) → RM} : RM.of (some os) k = k os := rfl
@[simp] theorem RM.of_none {k : List (Nat × Ob) → RM} : RM.of none k = .stuck := rfl
def Fl.outM (ms : List Nat) : Fl → RM
  | .rt (.mr d os) => .ok d os
  | .nx ρ => RM.of (conts ρ ms) (RM.ok .non)
  | .exc x ρ => RM.of (conts ρ ms) (RM.exc x)
  | _ => .stuck
@[simp] theorem Fl.outM_rt {ms : List Nat} {d : D} {os : List (Nat × Ob)} : (Fl.rt (.mr d os)).outM ms = .ok d os := rfl
@[simp] theorem Fl.outM_nx {ms : List Nat} {ρ : En} : (Fl.nx ρ).outM ms = RM.of (conts ρ ms) (RM.ok .non) := rfl
@[simp] theorem Fl.outM_exc {ms : List Nat} {x : Str} {ρ : En} : (Fl.exc x ρ).outM ms = RM.of (conts ρ ms) (RM.exc x) := rfl
@[simp] theorem Fl.outM_stuck {ms : List Nat} : Fl.stuck.outM ms = .stuck := rfl
@[simp] theorem Fl.outM_ite {ms : List Nat} {q : Prop} [Decidable q] {a b : Fl} : (if q then a else b).outM ms = if q then a.outM ms else b.outM ms := by split <;> rfl
/-- a body at the arguments; ms: the places of those that are changed -/
@[simp] def runM (n : Nat) (ms : List Nat) (u : Sv) (args : List Sl) : RM := (u (args.map some ++ List.replicate (n - args.length) none)).outM ms
def FPoM (K : PySem.W.Frag) (mg : Str → Option Value) (g : Gd) (Q : VK) (E : XK) : RM → Prop
  | .ok d os => ∀ v B' H', Ext g.B g.H B' H' → Rep K B' d v → MFin K g B' H' os → Q v H'
  | .exc x os => ∀ (C : Addr) B' H', mg x = some (.ref C) → Ext g.B g.H B' H' → MFin K g B' H' os → E (.ref C) none H'
  | .stuck => False
abbrev gdM (B G : Hp) (vs : List V) : Gd := { B := B, H := G, ln := fun i => vs[i]? }
def FSpM (K : PySem.W.Frag) (mg : Str → Option Value) (n : Nat) (m : List Sl → RM) : Sp := fun vs H Q E => ∃ (B G : Hp) (args : List Sl), args.length = n ∧ Mt K (gdM B G vs) B H (args.map some) (vs.map some) ∧ FPoM K mg (gdM B G vs) Q E (m args)
structure FnM (P : Program) (w : World) (K : PySem.W.Frag) (mg : Str → Option Value) (base : Heap) (k : Nat) (x : Str) (n : Nat) (m : List Sl → RM) : Prop where
  ex : ∃ (f : Addr) (fd : FuncData) (ps : List Str), mg x = some (.ref f) ∧ PySem.W.keepIn K (.ref f) = true ∧ Binds K fd ps [] ∧ FnOk P w K mg base (L2.CX P w) k f fd ps (FSpM K mg n m)
theorem FnM.mono {P : Program} {w : World} {K : PySem.W.Frag} {mg : Str → Option Value} {base : Heap} {j k : Nat} {x : Str} {n : Nat} {m : List Sl → RM} (F : FnM P w K mg base j x n m) (h : j ≤ k) : FnM P w K mg base k x n m := by
  obtain ⟨f, fd, ps, h1, h2, h3, h4⟩ := F.ex
  exact ⟨f, fd, ps, h1, h2, h3, h4.mono h⟩
section
variable {P : Program} {w : World} {K : PySem.W.Frag} {mg : Str → Option Value} {base : Heap}
theorem fn_okM {x qual : Str} {st : Stmt} {f : Addr} {fd : FuncData} {N ps : List Str} {k n : Nat} {ms : List Nat} {u : Sv} (F : L2.Fun K x qual st f fd) (S : FnScope N ps (defScope st)) (hn : ps.length = n)
    (body : ∀ W, SSs (cfOf P w K mg base N (defScope st) k) W (defBody st) u) : FnOk P w K mg base (L2.CX P w) (k + 1) f fd ps (FSpM K mg n (runM N.length ms u)) := by
  refine F.okX S (fun vs H Q E ⟨B, G, args, l, mt, _⟩ => by have := mt.len; rw [List.length_map, List.length_map] at this; rw [← this, l, hn]) (fun cdv A outer s H vs Q E hr h => ?_)
  obtain ⟨B, G, args, l, mt, p⟩ := h
  obtain ⟨t, kx, ad⟩ := body (fun cls d _ H => E cls d H)
  refine ⟨t, kx _ ⟨rfl, rfl, rfl, rfl, rfl, rfl, S.nd, rfl, rfl, takes_of rfl rfl rfl rfl, passes_of rfl, hr, fun _ _ => rfl, fun _ => ⟨rfl, rfl⟩, fun _ => rfl⟩, ?_⟩
  have hl : args.length = vs.length := by have := mt.len; rwa [List.length_map, List.length_map] at this
  have mp := mt.pad (N.length - args.length)
  have es : L2.start N vs = vs.map some ++ List.replicate (N.length - args.length) none := by unfold L2.start; rw [hl]
  rw [← es] at mp
  refine ad (gdM B G vs) B H _ _ _ mp ?_
  unfold runM at p
  cases hu : u (args.map some ++ List.replicate (N.length - args.length) none) with
  | nx ρ =>
    rw [hu, Fl.outM_nx] at p
    intro σ' B' H' _ m'
    cases hc : conts ρ ms with
    | none => rw [hc] at p; exact p.elim
    | some os => rw [hc] at p; exact p .non B' H' m'.ext rfl (m'.fin hc)
  | rt s =>
    rw [hu] at p
    cases s with
    | mr d os => exact p
    | _ => exact p.elim
  | exc z ρ =>
    rw [hu, Fl.outM_exc] at p
    intro C σ' B' H' g _ m'
    cases hc : conts ρ ms with
    | none => rw [hc] at p; exact p.elim
    | some os => rw [hc] at p; exact p C B' H' g m'.ext (m'.fin hc)
  | bk ρ => rw [hu] at p; exact p.elim
  | ct ρ => rw [hu] at p; exact p.elim
  | stuck => rw [hu] at p; exact p.elim
theorem fn_mkM {x qual : Str} {st : Stmt} {f : Addr} {fd : FuncData} {N ps : List Str} {k n : Nat} {ms : List Nat} {u : Sv} (F : L2.Fun K x qual st f fd) (hm : mg x = some (.ref f)) (b : Binds K fd ps []) (S : FnScope N ps (defScope st)) (hn : ps.length = n)
    (body : ∀ W, SSs (cfOf P w K mg base N (defScope st) k) W (defBody st) u) : FnM P w K mg base (k + 1) x n (runM N.length ms u) := ⟨f, fd, ps, hm, F.kp, b, fn_okM F S hn body⟩
theorem fn_recM {x qual : Str} {st : Stmt} {f : Addr} {fd : FuncData} {N ps : List Str} {n : Nat} {ms : List Nat} {u : (List Sl → RM) → Sv} {m : Nat → List Sl → RM} (L : Nat) (h0 : m 0 = fun _ => .stuck) (hs : ∀ j, m (j + 1) = runM N.length ms (u (m j)))
    (F : L2.Fun K x qual st f fd) (hm : mg x = some (.ref f)) (b : Binds K fd ps []) (S : FnScope N ps (defScope st)) (hn : ps.length = n)
    (body : ∀ (k : Nat) (rec : List Sl → RM), L ≤ k → FnM P w K mg base k x n rec → ∀ W, SSs (cfOf P w K mg base N (defScope st) k) W (defBody st) (u rec)) : ∀ j, FnM P w K mg base (L + j) x n (m j)
  | 0 => by
    rw [h0]
    refine ⟨f, fd, ps, hm, F.kp, b, ⟨fun vs H Q E h => ?_, fun A outer s H args us vs Q E _ _ _ _ h => ?_⟩⟩
    · obtain ⟨_, _, _, _, _, z⟩ := h
      exact z.elim
    · obtain ⟨_, _, _, _, _, z⟩ := h
      exact z.elim
  | j + 1 => by
    rw [hs]
    exact fn_mkM F hm b S hn (body (L + j) (m j) (Nat.le_add_right _ _) (fn_recM L h0 hs F hm b S hn body j))
end

/-! ### arguments -/
inductive MA where
  | val (d : D) | slot (i : Nat)
abbrev Em := En → R (List MA)
def MA1 (K : PySem.W.Frag) (B : Hp) (σ : St) : MA → V → Prop
  | .val d, v => Rep K B d v
  | .slot i, v => σ[i]? = some (some v)
def MAs (K : PySem.W.Frag) (B : Hp) (σ : St) : List MA → List V → Prop
  | [], vs => vs = []
  | a :: as, vs => ∃ v r, vs = v :: r ∧ MA1 K B σ a v ∧ MAs K B σ as r
section
variable {K : PySem.W.Frag} {B B' : Hp} {σ : St}
theorem MAs.length : ∀ {as : List MA} {vs : List V}, MAs K B σ as vs → as.length = vs.length
  | [], _, h => by cases (show _ = ([] : List V) from h); rfl
  | _ :: _, _, ⟨v, r, e, _, h⟩ => by rw [e, List.length_cons, List.length_cons, MAs.length h]
theorem MAs.get : ∀ {as : List MA} {vs : List V} {i : Nat} {a : MA}, MAs K B σ as vs → as[i]? = some a → ∃ v, vs[i]? = some v ∧ MA1 K B σ a v
  | [], _, _, _, _, e => by simp at e
  | _ :: _, _, 0, _, ⟨v, r, rfl, h1, _⟩, e => by
    simp at e
    subst e
    exact ⟨v, rfl, h1⟩
  | _ :: as, _, i + 1, a, ⟨v, r, rfl, _, h2⟩, e => by
    obtain ⟨v', e', h'⟩ := MAs.get (i := i) (a := a) h2 (by simpa using e)
    exact ⟨v', by simpa using e', h'⟩
end
/-- what may be handed in to be changed -/
@[simp] def obOf : Option (Option Sl) → Option Ob
  | some (some (.ow ds)) => some (.lst ds)
  | some (some (.mu _ o)) => some o
  | _ => none
/-- the arguments as the def meets them -/
@[simp] def convA (ρ : En) : Nat → List MA → Option (List Sl)
  | _, [] => some []
  | p, .val d :: as => (convA ρ (p + 1) as).map (Sl.sh d :: ·)
  | p, .slot i :: as => match obOf ρ[i]? with
    | some o => (convA ρ (p + 1) as).map (Sl.mu (some p) o :: ·)
    | none => none
@[simp] def slotsA : List MA → List Nat
  | [] => []
  | .val _ :: as => slotsA as
  | .slot i :: as => i :: slotsA as
/-- the places of those that may be changed -/
@[simp] def posA : Nat → List MA → List Nat
  | _, [] => []
  | p, .val _ :: as => posA (p + 1) as
  | p, .slot _ :: as => p :: posA (p + 1) as
/-- the place at which slot j is handed in -/
@[simp] def posOf (j : Nat) : Nat → List MA → Option Nat
  | _, [] => none
  | p, .val _ :: as => posOf j (p + 1) as
  | p, .slot i :: as => if i = j then some p else posOf j (p + 1) as
@[simp] def obAt (os : List (Nat × Ob)) (p : Nat) : Option Ob := match os with
  | [] => none
  | (q, o) :: os => if q = p then some o else obAt os p
@[simp] def putA : Option Sl → Option Ob → Option Sl
  | some (.ow _), some (.lst ds) => some (.ow ds)
  | some (.mu k _), some o => some (.mu k o)
  | _, _ => none
@[simp] def backA (as : List MA) (os : List (Nat × Ob)) : Nat → En → En
  | _, [] => []
  | j, s :: ρ => (match posOf j 0 as with
    | none => s
    | some p => putA s (obAt os p)) :: backA as os (j + 1) ρ
theorem backA_len {as : List MA} {os : List (Nat × Ob)} : ∀ {ρ : En} {j : Nat}, (backA as os j ρ).length = ρ.length
  | [], _ => rfl
  | _ :: ρ, j => by rw [backA, List.length_cons, List.length_cons, backA_len]
theorem backA_get {as : List MA} {os : List (Nat × Ob)} : ∀ {ρ : En} {j i : Nat}, (backA as os j ρ)[i]? = (ρ[i]?).map fun s => match posOf (j + i) 0 as with
    | none => s
    | some p => putA s (obAt os p)
  | [], _, _ => by simp [backA]
  | _ :: ρ, j, 0 => by simp [backA]
  | _ :: ρ, j, i + 1 => by
    rw [backA, List.getElem?_cons_succ, backA_get, List.getElem?_cons_succ, show j + 1 + i = j + (i + 1) by omega]
theorem posOf_none {j : Nat} : ∀ {as : List MA} {p : Nat}, posOf j p as = none → ∀ i : Nat, as[i]? ≠ some (.slot j)
  | [], _, _, i => by simp
  | .val d :: as, p, h, 0 => by simp
  | .val d :: as, p, h, i + 1 => by rw [List.getElem?_cons_succ]; exact posOf_none (p := p + 1) h i
  | .slot k :: as, p, h, i => by
    unfold posOf at h
    split at h
    · cases h
    · rename_i hk
      cases i with
      | zero =>
        simp
        exact hk
      | succ i => rw [List.getElem?_cons_succ]; exact posOf_none h i
theorem posOf_some {j q : Nat} : ∀ {as : List MA} {p : Nat}, posOf j p as = some q → ∃ i : Nat, q = p + i ∧ as[i]? = some (.slot j)
  | [], _, h => by cases h
  | .val d :: as, p, h => by
    obtain ⟨i, e, h'⟩ := posOf_some (p := p + 1) h
    exact ⟨i + 1, by omega, by rw [List.getElem?_cons_succ]; exact h'⟩
  | .slot k :: as, p, h => by
    unfold posOf at h
    split at h
    · rename_i hk
      cases h
      exact ⟨0, rfl, by rw [hk]; rfl⟩
    · obtain ⟨i, e, h'⟩ := posOf_some (p := p + 1) h
      exact ⟨i + 1, by omega, by rw [List.getElem?_cons_succ]; exact h'⟩
theorem slotsA_mem {j : Nat} : ∀ {as : List MA} {i : Nat}, as[i]? = some (.slot j) → j ∈ slotsA as
  | [], _, h => by simp at h
  | .val d :: as, 0, h => by simp at h
  | .val d :: as, i + 1, h => slotsA_mem (as := as) (i := i) (by simpa using h)
  | .slot k :: as, 0, h => by
    simp at h
    rw [h]
    exact List.mem_cons_self ..
  | .slot k :: as, i + 1, h => List.mem_cons_of_mem _ (slotsA_mem (as := as) (i := i) (by simpa using h))
theorem slotsA_at {j : Nat} : ∀ {as : List MA}, j ∈ slotsA as → ∃ i : Nat, as[i]? = some (.slot j)
  | [], h => nomatch h
  | .val d :: as, h => by
    obtain ⟨i, hi⟩ := slotsA_at (as := as) h
    exact ⟨i + 1, by simpa using hi⟩
  | .slot k :: as, h => by
    rcases List.mem_cons.mp h with rfl | h
    · exact ⟨0, rfl⟩
    · obtain ⟨i, hi⟩ := slotsA_at (as := as) h
      exact ⟨i + 1, by simpa using hi⟩
theorem slotsA_inj {j : Nat} : ∀ {as : List MA} {i i' : Nat}, (slotsA as).Nodup → as[i]? = some (.slot j) → as[i']? = some (.slot j) → i = i'
  | [], _, _, _, h, _ => by simp at h
  | .val d :: as, 0, _, _, h, _ => by simp at h
  | .val d :: as, _ + 1, 0, _, _, h => by simp at h
  | .val d :: as, i + 1, i' + 1, n, h, h' => congrArg (· + 1) (slotsA_inj (as := as) n (by simpa using h) (by simpa using h'))
  | .slot k :: as, 0, 0, _, _, _ => rfl
  | .slot k :: as, 0, i' + 1, n, h, h' => by
    simp at h
    have := slotsA_mem (as := as) (i := i') (by simpa using h')
    rw [← h] at this
    exact absurd this (List.nodup_cons.mp n).1
  | .slot k :: as, i + 1, 0, n, h, h' => by
    simp at h'
    have := slotsA_mem (as := as) (i := i) (by simpa using h)
    rw [← h'] at this
    exact absurd this (List.nodup_cons.mp n).1
  | .slot k :: as, i + 1, i' + 1, n, h, h' => congrArg (· + 1) (slotsA_inj (as := as) (List.nodup_cons.mp n).2 (by simpa using h) (by simpa using h'))
theorem convA_get {ρ : En} : ∀ {as : List MA} {p : Nat} {args : List Sl}, convA ρ p as = some args → args.length = as.length ∧ ∀ (i : Nat) (s : Sl), args[i]? = some s → (∃ d : D, as[i]? = some (.val d) ∧ s = .sh d) ∨ ∃ (j : Nat) (o : Ob), as[i]? = some (.slot j) ∧ obOf ρ[j]? = some o ∧ s = .mu (some (p + i)) o
  | [], _, args, h => by
    cases h
    exact ⟨rfl, fun i s e => by simp at e⟩
  | .val d :: as, p, args, h => by
    unfold convA at h
    cases h2 : convA ρ (p + 1) as with
    | none => rw [h2] at h; cases h
    | some r =>
      rw [h2] at h
      cases h
      obtain ⟨l, k⟩ := convA_get h2
      refine ⟨by rw [List.length_cons, List.length_cons, l], fun i s e => ?_⟩
      cases i with
      | zero =>
        simp at e
        exact .inl ⟨d, rfl, e.symm⟩
      | succ i =>
        rcases k i s (by simpa using e) with ⟨d', a, b⟩ | ⟨j, o, a, b, c⟩
        · exact .inl ⟨d', by simpa using a, b⟩
        · exact .inr ⟨j, o, by simpa using a, b, by rw [c, show p + 1 + i = p + (i + 1) by omega]⟩
  | .slot j :: as, p, args, h => by
    unfold convA at h
    split at h
    · rename_i o ho
      cases h2 : convA ρ (p + 1) as with
      | none => rw [h2] at h; cases h
      | some r =>
        rw [h2] at h
        cases h
        obtain ⟨l, k⟩ := convA_get h2
        refine ⟨by rw [List.length_cons, List.length_cons, l], fun i s e => ?_⟩
        cases i with
        | zero =>
          simp at e
          exact .inr ⟨j, o, rfl, ho, e.symm⟩
        | succ i =>
          rcases k i s (by simpa using e) with ⟨d', a, b⟩ | ⟨j, o, a, b, c⟩
          · exact .inl ⟨d', by simpa using a, b⟩
          · exact .inr ⟨j, o, by simpa using a, b, by rw [c, show p + 1 + i = p + (i + 1) by omega]⟩
    · cases h
theorem posA_mem : ∀ {as : List MA} {p i j : Nat}, as[i]? = some (.slot j) → p + i ∈ posA p as
  | [], _, _, _, h => by simp at h
  | .val d :: as, p, 0, j, h => by simp at h
  | .val d :: as, p, i + 1, j, h => by
    have := posA_mem (as := as) (p := p + 1) (i := i) (j := j) (by simpa using h)
    rwa [show p + 1 + i = p + (i + 1) by omega] at this
  | .slot k :: as, p, 0, j, h => List.mem_cons_self ..
  | .slot k :: as, p, i + 1, j, h => by
    have := posA_mem (as := as) (p := p + 1) (i := i) (j := j) (by simpa using h)
    rw [show p + 1 + i = p + (i + 1) by omega] at this
    exact List.mem_cons_of_mem _ this
theorem obAt_mem {p : Nat} : ∀ {os : List (Nat × Ob)}, p ∈ os.map (·.1) → ∃ o, obAt os p = some o ∧ (p, o) ∈ os
  | [], h => by simp at h
  | (q, o) :: os, h => by
    unfold obAt
    by_cases e : q = p
    · rw [if_pos e]
      exact ⟨o, rfl, by rw [e]; exact List.mem_cons_self ..⟩
    · rw [if_neg e]
      rw [List.map_cons] at h
      obtain ⟨o', a, b⟩ := obAt_mem ((List.mem_cons.mp h).resolve_left fun z => e z.symm)
      exact ⟨o', a, List.mem_cons_of_mem _ b⟩
section
variable {K : PySem.W.Frag} {g : Gd} {B H : Hp} {ρ : En} {σ : St} {as : List MA} {vs : List V} {args : List Sl}
open Classical in
/-- the heap without what is handed in to be changed -/
noncomputable def lessA (H : Hp) (ρ : En) (σ : St) (as : List MA) : Hp := fun p => if ∃ (j : Nat) (s : Sl) (v : V), j ∈ slotsA as ∧ ρ[j]? = some (some s) ∧ σ[j]? = some (some v) ∧ owA H s v (.ref p) then none else H p
theorem lessA_none {p : Addr} {j : Nat} {s : Sl} {v : V} (h1 : j ∈ slotsA as) (h2 : ρ[j]? = some (some s)) (h3 : σ[j]? = some (some v)) (h4 : owA H s v (.ref p)) : lessA H ρ σ as p = none := by
  unfold lessA
  rw [if_pos ⟨j, s, v, h1, h2, h3, h4⟩]
theorem lessA_some {p : Addr} (h : ∀ (j : Nat) (s : Sl) (v : V), j ∈ slotsA as → ρ[j]? = some (some s) → σ[j]? = some (some v) → ¬ owA H s v (.ref p)) : lessA H ρ σ as p = H p := by
  unfold lessA
  rw [if_neg]
  rintro ⟨j, s, v, h1, h2, h3, h4⟩
  exact h j s v h1 h2 h3 h4
theorem lessA_sub : Same (lessA H ρ σ as) H := fun p o e => by
  unfold lessA at e
  split at e
  · cases e
  · exact e
theorem obOf_ok {j : Nat} {o : Ob} {v : V} (m : Mt K g B H ρ σ) (h : obOf ρ[j]? = some o) (hv : σ[j]? = some (some v)) : ∃ s, ρ[j]? = some (some s) ∧ ObOk K g.H B H o v ∧ ∀ H' z, owO H' o v z ↔ owA H' s v z := by
  cases e : ρ[j]? with
  | none => rw [e] at h; cases h
  | some s =>
    cases s with
    | none => rw [e] at h; cases h
    | some s =>
      rw [e] at h
      obtain ⟨v', h1, h2⟩ := m.sl j _ e
      rw [hv] at h1
      cases h1
      refine ⟨s, rfl, ?_⟩
      cases s with
      | ow ds => cases h; exact ⟨h2, fun H' z => Iff.rfl⟩
      | mu k o' => cases h; exact ⟨h2.2, fun H' z => Iff.rfl⟩
      | _ => cases h
/-- the arguments as the def meets them -/
theorem argsM (m : Mt K g B H ρ σ) (nd : (slotsA as).Nodup) (hc : convA ρ 0 as = some args) (ha : MAs K B σ as vs) : Mt K (gdM B (lessA H ρ σ as) vs) B H (args.map some) (vs.map some) := by
  obtain ⟨hl, hg⟩ := convA_get hc
  have av : ∀ (i : Nat) (v : V), (vs.map some)[i]? = some (some v) → vs[i]? = some v := fun i v e => by
    rw [List.getElem?_map] at e
    cases h : vs[i]? with
    | none => rw [h] at e; cases e
    | some u => rw [h] at e; cases e; rfl
  have aa : ∀ (i : Nat) (s : Sl), (args.map some)[i]? = some (some s) → args[i]? = some s := fun i v e => by
    rw [List.getElem?_map] at e
    cases h : args[i]? with
    | none => rw [h] at e; cases e
    | some u => rw [h] at e; cases e; rfl
  refine ⟨⟨Same.refl _, lessA_sub, m.sub, fun _ e _ => e⟩, by rw [List.length_map, List.length_map, hl, ha.length], fun i s e => ?_, fun i i' s t v u z hi e1 e2 e3 e4 o1 o2 => ?_⟩
  · rcases hg i s (aa i s e) with ⟨d, k1, rfl⟩ | ⟨j, o, k1, k2, rfl⟩
    · obtain ⟨v, l1, l2⟩ := ha.get k1
      exact ⟨v, by rw [List.getElem?_map, l1]; rfl, l2⟩
    · obtain ⟨v, l1, l2⟩ := ha.get k1
      obtain ⟨s', n1, n2, n3⟩ := obOf_ok m k2 l2
      refine ⟨v, by rw [List.getElem?_map, l1]; rfl, fun q hq => ?_, n2.keep (Same.refl _) fun p u hp w => ⟨hp, ?_, lessA_none (slotsA_mem k1) n1 l2 ((n3 _ _).mp w)⟩⟩
      · cases hq
        show vs[0 + i]? = some v
        rw [Nat.zero_add]
        exact l1
      · obtain ⟨q, u', e1, _, e3, _⟩ := n2.isA w
        cases e1
        exact e3
  · rcases hg i s (aa i s e1) with ⟨d, k1, rfl⟩ | ⟨j, o, k1, k2, rfl⟩
    · exact o1.elim
    · rcases hg i' t (aa i' t e2) with ⟨d, k3, rfl⟩ | ⟨j', o', k3, k4, rfl⟩
      · exact o2.elim
      · obtain ⟨v', l1, l2⟩ := ha.get k1
        obtain ⟨u', l3, l4⟩ := ha.get k3
        rw [av i v e3] at l1
        cases l1
        rw [av i' u e4] at l3
        cases l3
        have hj : j ≠ j' := by
          rintro rfl
          exact hi (slotsA_inj nd k1 k3)
        obtain ⟨s1, n1, _, n3⟩ := obOf_ok m k2 l2
        obtain ⟨s2, n4, _, n6⟩ := obOf_ok m k4 l4
        exact m.ne j j' s1 s2 v u z hj n1 n4 l2 l4 ((n3 _ _).mp o1) ((n6 _ _).mp o2)
/-- behind the call -/
theorem backM {B' H' : Hp} {os : List (Nat × Ob)} (m : Mt K g B H ρ σ) (nd : (slotsA as).Nodup) (hc : convA ρ 0 as = some args) (ha : MAs K B σ as vs) (x : Ext B (lessA H ρ σ as) B' H') (f : MFin K (gdM B (lessA H ρ σ as) vs) B' H' os) (hp : os.map (·.1) = posA 0 as) :
    Mt K g B' H' (backA as os 0 ρ) σ := by
  have gl : ∀ (p : Addr) (u : HO), g.H p = some u → lessA H ρ σ as p = some u := fun p u e => by
    rw [lessA_some]
    · exact m.ext.h _ _ e
    · intro j s v _ h2 h3 h4
      obtain ⟨v', k1, k2⟩ := m.sl j s h2
      rw [h3] at k1
      cases k1
      obtain ⟨q, u', e1, _, _, e4⟩ := k2.isA h4
      cases e1
      rw [e] at e4
      cases e4
  have gn : ∀ p, lessA H ρ σ as p = none → g.H p = none := fun p e => by
    cases h : g.H p with
    | none => rfl
    | some u => rw [gl p u h] at e; cases e
  -- what a slot behind the call is
  have kind : ∀ (j : Nat) (s : Sl), (backA as os 0 ρ)[j]? = some (some s) → (j ∉ slotsA as ∧ ρ[j]? = some (some s)) ∨
      (j ∈ slotsA as ∧ ∃ (i : Nat) (o : Ob) (v : V), as[i]? = some (.slot j) ∧ (i, o) ∈ os ∧ vs[i]? = some v ∧ σ[j]? = some (some v) ∧ (∀ H' z, owO H' o v z ↔ owA H' s v z) ∧ (ObOk K g.H B' H' o v → SlOk K g B' H' s v)) := fun j s e => by
    rw [backA_get, Nat.zero_add] at e
    cases hr : ρ[j]? with
    | none => rw [hr] at e; cases e
    | some x0 =>
      rw [hr, Option.map_some] at e
      cases hpo : posOf j 0 as with
      | none =>
        rw [hpo] at e
        refine .inl ⟨fun hm => ?_, by cases e; rfl⟩
        have := slotsA_at hm
        obtain ⟨i, hi⟩ := this
        exact posOf_none hpo i hi
      | some q =>
        rw [hpo] at e
        obtain ⟨i, hq, hi⟩ := posOf_some hpo
        rw [Nat.zero_add] at hq
        subst hq
        obtain ⟨o, ho, hm⟩ := obAt_mem (os := os) (p := q) (by rw [hp]; have := posA_mem (p := 0) hi; rwa [Nat.zero_add] at this)
        obtain ⟨v, l1, l2⟩ := ha.get hi
        refine .inr ⟨slotsA_mem hi, q, o, v, hi, hm, l1, l2, ?_⟩
        dsimp only at e
        rw [ho] at e
        cases x0 with
        | none => cases e
        | some s0 =>
          obtain ⟨v', k1, k2⟩ := m.sl j s0 hr
          have l2' : σ[j]? = some (some v) := l2
          rw [l2'] at k1
          cases k1
          cases s0 with
          | ow ds => cases o with
            | lst es => cases e; exact ⟨fun _ _ => Iff.rfl, fun h => h⟩
            | _ => cases e
          | mu k o0 => cases e; exact ⟨fun _ _ => Iff.rfl, fun h => ⟨k2.1, h⟩⟩
          | _ => cases e
  have stay : ∀ (j : Nat) (s : Sl) (v : V), j ∉ slotsA as → ρ[j]? = some (some s) → σ[j]? = some (some v) → ∀ p u, H p = some u → owA H s v (.ref p) → lessA H ρ σ as p = some u ∧ H' p = some u ∧ B' p = none := fun j s v hj hr hv p u hp' w => by
    have l : lessA H ρ σ as p = some u := by
      rw [lessA_some]
      · exact hp'
      · intro j' s' v' h1 h2 h3 h4
        exact m.ne j j' s s' v v' _ (by rintro rfl; exact hj h1) hr h2 hv h3 w h4
    obtain ⟨v', k1, k2⟩ := m.sl j s hr
    rw [hv] at k1
    cases k1
    obtain ⟨q, u', e1, _, e3, _⟩ := k2.isA w
    cases e1
    exact ⟨l, x.h _ _ l, x.off _ e3 (by rw [l]; exact fun z => by cases z)⟩
  have okO : ∀ (i : Nat) (o : Ob) (v : V), (i, o) ∈ os → vs[i]? = some v → ObOk K g.H B' H' o v ∧ ∀ z, owO H' o v z → ∃ p, z = .ref p ∧ lessA H ρ σ as p = none := fun i o v hm hv => by
    obtain ⟨v', k1, k2⟩ := f.ok i o hm
    have k1' : vs[i]? = some v' := k1
    rw [hv] at k1'
    cases k1'
    have isA : ∀ z, owO H' o v z → ∃ p u, z = .ref p ∧ H' p = some u ∧ B' p = none ∧ lessA H ρ σ as p = none := fun z w => k2.isA w
    refine ⟨k2.keep (Same.refl _) fun p u e w => ?_, fun z w => (isA z w).elim fun p ⟨u, a, _, _, b⟩ => ⟨p, a, b⟩⟩
    obtain ⟨q, u', e1, _, e3, e4⟩ := isA _ w
    cases e1
    exact ⟨e, e3, gn _ e4⟩
  have mix : ∀ (j j' : Nat) (s s' : Sl) (v v' z : V), j ∉ slotsA as → ρ[j]? = some (some s) → σ[j]? = some (some v) → owA H' s v z → ∀ (i : Nat) (o : Ob), (i, o) ∈ os → vs[i]? = some v' → owO H' o v' z → False := fun j j' s s' v v' z hj hr hv w i o hm hv' w' => by
    obtain ⟨v0, k1, k2⟩ := m.sl j s hr
    rw [hv] at k1
    cases k1
    have w0 : owA H s v z := k2.owB (fun p u e w => (stay j s v hj hr hv p u e w).2.1) w
    obtain ⟨p, u, rfl, h1, _, _⟩ := k2.isA w0
    obtain ⟨q, e1, e2⟩ := (okO i o v' hm hv').2 _ w'
    cases e1
    rw [(stay j s v hj hr hv p u h1 w0).1] at e2
    cases e2
  refine ⟨⟨m.ext.b.trans x.b, fun p u e => x.h _ _ (gl p u e), x.in_, fun p e n => x.off p (m.ext.off p e n) ?_⟩, by rw [backA_len, m.len], fun j s e => ?_, fun j j' s t v u z hj e1 e2 e3 e4 o1 o2 => ?_⟩
  · cases h : g.H p with
    | none => exact absurd h n
    | some u => rw [gl p u h]; exact fun z => by cases z
  · rcases kind j s e with ⟨k1, k2⟩ | ⟨k1, i, o, v, k2, k3, k4, k5, k6, k7⟩
    · obtain ⟨v, l1, l2⟩ := m.sl j s k2
      exact ⟨v, l1, l2.keep x.b fun p u hp' w => (stay j s v k1 k2 l1 p u hp' w).2⟩
    · exact ⟨v, k5, k7 (okO i o v k3 k4).1⟩
  · rcases kind j s e1 with ⟨k1, k2⟩ | ⟨k1, i, o, v1, k2, k3, k4, k5, k6, _⟩
    · rcases kind j' t e2 with ⟨l1, l2⟩ | ⟨l1, i', o', v2, l2, l3, l4, l5, l6, _⟩
      · obtain ⟨v0, n1, n2⟩ := m.sl j s k2
        rw [e3] at n1
        cases n1
        obtain ⟨u0, n3, n4⟩ := m.sl j' t l2
        rw [e4] at n3
        cases n3
        exact m.ne j j' s t v u z hj k2 l2 e3 e4 (n2.owB (fun p u e w => (stay j s v k1 k2 e3 p u e w).2.1) o1) (n4.owB (fun p w0 e w => (stay j' t u l1 l2 e4 p w0 e w).2.1) o2)
      · rw [e4] at l5
        cases l5
        exact mix j j' s t v u z k1 k2 e3 o1 i' o' l3 l4 ((l6 _ _).mpr o2)
    · rw [e3] at k5
      cases k5
      rcases kind j' t e2 with ⟨l1, l2⟩ | ⟨l1, i', o', v2, l2, l3, l4, l5, l6, _⟩
      · exact mix j' j t s u v z l1 l2 e4 o2 i o k3 k4 ((k6 _ _).mpr o1)
      · rw [e4] at l5
        cases l5
        refine f.ne i i' o o' v u z ?_ k3 l3 k4 l4 ((k6 _ _).mpr o1) ((l6 _ _).mpr o2)
        rintro rfl
        rw [k2] at l2
        cases l2
        exact hj rfl
end
end Mi

namespace Mi
open PySem PySem.Spec L2
@[simp] def RM.back (as : List MA) (ρ : En) : RM → Rx
  | .ok d os => if os.map (·.1) = posA 0 as then .ok d (backA as os 0 ρ) else .stuck
  | .exc x os => if os.map (·.1) = posA 0 as then .exc x (backA as os 0 ρ) else .stuck
  | .stuck => .stuck
def RM.on : Option (List Sl) → (List Sl → RM) → RM
  | some args, m => m args
  | none, _ => .stuck
@[simp] theorem RM.on_some {args : List Sl} {m : List Sl → RM} : RM.on (some args) m = m args := rfl
@[simp] theorem RM.on_none {m : List Sl → RM} : RM.on none m = .stuck := rfl
@[simp] def appM (m : List Sl → RM) (ρ : En) (as : List MA) : Rx := if (slotsA as).Nodup then (RM.on (convA ρ 0 as) m).back as ρ else .stuck
def R.rxA {α : Type} : R α → En → (α → Rx) → Rx
  | .ok a, _, k => k a
  | .exc x, ρ, _ => .exc x ρ
  | .stuck, _, _ => .stuck
@[simp] theorem R.rxA_ok {α : Type} {a : α} {ρ : En} {k : α → Rx} : (R.ok a).rxA ρ k = k a := rfl
@[simp] theorem R.rxA_exc {α : Type} {x : Str} {ρ : En} {k : α → Rx} : (R.exc x).rxA ρ k = .exc x ρ := rfl
@[simp] theorem R.rxA_stuck {α : Type} {ρ : En} {k : α → Rx} : R.stuck.rxA ρ k = .stuck := rfl
@[simp] theorem R.rxA_ite {α : Type} {q : Prop} [Decidable q] {a b : R α} {ρ : En} {k : α → Rx} : (if q then a else b).rxA ρ k = if q then a.rxA ρ k else b.rxA ρ k := by split <;> rfl
section
variable {c : Cf} {W : WX} {a b e : Expr} {es : List Expr} {f h : Ev} {pos pos' : Pos}
def AdMa (c : Cf) (W : WX) (t : TA) (f : Em) : Prop := ∀ (g : Gd) (B H : Hp) (ρ : En) (σ : St) (Q : List V → Hp → Prop), Mt c.K g B H ρ σ →
  Po c W σ B H (f ρ) (fun as B' H' => ∀ vs, MAs c.K B' σ as vs → Q vs H') → t σ H Q
def SMa (c : Cf) (W : WX) (es : List Expr) (f : Em) : Prop := (∃ t : TA, (∀ X, GX c W X → PA X es t) ∧ AdMa c W t f) ∧ ∀ ρ as, f ρ = .ok as → as.length = es.length
@[simp] def mNil : Em := fun _ => .ok []
@[simp] def mVal (f : Ev) (g : Em) : Em := fun ρ => (f ρ).bind fun d => (g ρ).map fun as => .val d :: as
@[simp] def mSlot (i : Nat) (g : Em) : Em := fun ρ => match ρ[i]? with
  | some (some _) => (g ρ).map fun as => .slot i :: as
  | _ => .stuck
theorem sma_nil : SMa c W [] mNil := ⟨⟨_, fun _ _ => pa_nil, fun _ _ _ _ _ _ m h => ok_refl h m.sub _ rfl⟩, fun _ _ e => by cases e; rfl⟩
theorem MAs.mono {K : PySem.W.Frag} {B B' : Hp} {σ : St} (s : Same B B') : ∀ {as : List MA} {vs : List V}, MAs K B σ as vs → MAs K B' σ as vs
  | [], _, h => h
  | .val d :: as, _, ⟨v, r, e, h1, h2⟩ => ⟨v, r, e, Rep.mono s _ _ h1, MAs.mono s h2⟩
  | .slot i :: as, _, ⟨v, r, e, h1, h2⟩ => ⟨v, r, e, h1, MAs.mono s h2⟩
theorem MAs.more {K : PySem.W.Frag} {B : Hp} {σ σx : St} : ∀ {as : List MA} {vs : List V}, MAs K B σ as vs → MAs K B (σ ++ σx) as vs
  | [], _, h => h
  | .val d :: as, _, ⟨v, r, e, h1, h2⟩ => ⟨v, r, e, h1, MAs.more h2⟩
  | .slot i :: as, _, ⟨v, r, e, h1, h2⟩ => ⟨v, r, e, by
    have h1' : σ[i]? = some (some v) := h1
    show (σ ++ σx)[i]? = some (some v)
    rw [List.getElem?_append_left (List.getElem?_eq_some_iff.mp h1').1]
    exact h1', MAs.more h2⟩
theorem sma_val {k : Em} (ha : SE c W e f) (hr : SMa c W es k) (hs : ∀ env, starEach (e :: es) env = (false, eval e env) :: starEach es env := by intro _; rfl) : SMa c W (e :: es) (mVal f k) := by
  obtain ⟨t, kk, ad⟩ := ha
  obtain ⟨⟨t2, k2, ad2⟩, l2⟩ := hr
  refine ⟨⟨_, fun X G => pa_cons (kk X G) (k2 X G) (hs X.env), fun G B H ρ σ Q m hh => ?_⟩, fun ρ as h => ?_⟩
  · refine ad G B H ρ σ _ m ((Po.bind hh).imp fun x B1 H1 e1 h1 v r1 => ?_)
    refine ad2 G B1 H1 ρ σ _ (m.go e1) ((Po.map h1).imp fun xs B2 H2 e2 h2 vs r2 => ?_)
    exact h2 _ ⟨v, vs, rfl, Rep.mono e2.b _ _ r1, r2⟩
  · unfold mVal at h
    cases h1 : f ρ with
    | ok d =>
      rw [h1, R.bind_ok] at h
      cases h2 : k ρ with
      | ok xs =>
        rw [h2, R.map_ok] at h
        cases h
        rw [List.length_cons, List.length_cons, l2 ρ xs h2]
      | exc z => rw [h2] at h; cases h
      | stuck => rw [h2] at h; cases h
    | exc z => rw [h1] at h; cases h
    | stuck => rw [h1] at h; cases h
theorem sma_slot {i : Nat} {x : Str} {k : Em} (hN : c.N[i]? = some x) (hv : Vis c.sc x) (hr : SMa c W es k) (hd : (x == ("__debug__" : Str)) = false := by decide) (hcd : (x == ("__classdict__" : Str)) = false := by decide)
    (hs : ∀ env, starEach (.Name x pos :: es) env = (false, eval (.Name x pos) env) :: starEach es env := by intro _; rfl) : SMa c W (.Name x pos :: es) (mSlot i k) := by
  obtain ⟨⟨t2, k2, ad2⟩, l2⟩ := hr
  refine ⟨⟨_, fun X G => pa_cons (pe_var (by rw [G.N]; exact hN) (by rw [G.sc]; exact hv) hd hcd) (k2 X G) (hs X.env), fun G B H ρ σ Q m hh => ?_⟩, fun ρ as h => ?_⟩
  · unfold mSlot at hh
    split at hh
    · rename_i s e
      obtain ⟨v, h1, _⟩ := m.sl i s e
      refine ⟨v, h1, ad2 G B H ρ σ _ m ((Po.map hh).imp fun xs B2 H2 x2 h2 vs r2 => ?_)⟩
      exact h2 _ ⟨v, vs, rfl, h1, r2⟩
    · exact hh.elim
  · unfold mSlot at h
    split at h
    · cases h2 : k ρ with
      | ok xs =>
        rw [h2, R.map_ok] at h
        cases h
        rw [List.length_cons, List.length_cons, l2 ρ xs h2]
      | exc z => rw [h2] at h; cases h
      | stuck => rw [h2] at h; cases h
    · cases h
/-- what a call asks -/
theorem appM_ok {K : PySem.W.Frag} {g : Gd} {B H : Hp} {ρ : En} {σ : St} {as : List MA} {vs : List V} {n : Nat} {m : List Sl → RM} {Q : VK} {Qx : D → En → Hp → Hp → Prop} (hK : K = c.K) (mt : Mt c.K g B H ρ σ) (ha : MAs c.K B σ as vs) (hn : as.length = n)
    (hQ : ∀ d ρ' B' H', Qx d ρ' B' H' → ∀ v, Rep c.K B' d v → Q v H') (h : PoX c W g B σ Qx (appM m ρ as)) : FSpM c.K c.mg n m vs H Q (WE W σ) := by
  unfold appM at h
  split at h
  · rename_i nd
    cases hc : convA ρ 0 as with
    | none => rw [hc] at h; exact h.elim
    | some args =>
      rw [hc, RM.on_some] at h
      refine ⟨B, lessA H ρ σ as, args, by rw [(convA_get hc).1, hn], argsM mt nd hc ha, ?_⟩
      cases hm : m args with
      | ok d os =>
        rw [hm, RM.back] at h
        split at h
        · rename_i hp
          exact fun v B' H' x r fin => hQ d _ B' H' (h B' H' x.b (backM mt nd hc ha x fin hp)) v r
        · exact h.elim
      | exc z os =>
        rw [hm, RM.back] at h
        split at h
        · rename_i hp
          exact fun C B' H' g x fin => h C B' H' g x.b (backM mt nd hc ha x fin hp)
        · exact h.elim
      | stuck => rw [hm] at h; exact h.elim
  · exact h.elim
@[simp] def xCall (m : List Sl → RM) (f : Em) : Ex := fun ρ => (f ρ).rxA ρ (appM m ρ)
theorem PoX.args {g : Gd} {B H : Hp} {ρ : En} {σ : St} {α : Type} {r : R α} {k : α → Rx} {Q : D → En → Hp → Hp → Prop} (m : Mt c.K g B H ρ σ) (h : PoX c W g B σ Q (r.rxA ρ k)) : Po c W σ B H r fun a B' H' => PoX c W g B' σ Q (k a) := by
  cases r with
  | ok a => exact fun B' H' x => PoX.mono h x.b
  | exc z => exact fun C B' H' e x => h C B' H' e x.b (m.go x)
  | stuck => exact h
theorem sx_call {n : Nat} {m : List Sl → RM} {x : Str} {f : Em} {p : Pos} (hF : FnM c.P c.w c.K c.mg c.base c.k x n m) (hg : c.sc.names.lookup x = some .globalImplicit) (ha : SMa c W (e :: es) f) (hn : (e :: es).length = n := by rfl) (hdb : (x == ("__debug__" : Str)) = false := by decide)
    (he : ∀ env, starEach (e :: es) env = (false, eval e env) :: starEach es env := by intro _; rfl) (hpl : ∀ env, (backTo pos (starEach es env)).any (·.1) = false := by intro _; rfl) : SX c W (.Call (.Name x p) (e :: es) [] pos) (xCall m f) := by
  obtain ⟨ff, fd, ps, h1, h2, h3, h4⟩ := hF.ex
  obtain ⟨⟨t, k, ad⟩, l⟩ := ha
  refine ⟨_, fun X G => pe_callS (E := WE W) (by rw [G.P, G.w, G.K, G.mg, G.base]; exact h4) G.room (by show X.env.scope.names.lookup x = _; rw [G.sc]; exact hg) (by rw [G.mg]; exact h1) (by rw [G.K]; exact h2) (by rw [G.K]; exact h3) (fun σ => by rw [← G.P, ← G.w]; exact passAt G.tk σ) (k X G) hdb (he X.env) (hpl X.env), fun G B H ρ σ Q mm hh => ?_⟩
  refine ad G B H ρ σ _ mm ?_
  unfold xCall at hh
  cases hf : f ρ with
  | ok as =>
    rw [hf] at hh
    intro B1 H1 e1 vs r1
    exact appM_ok rfl (mm.go e1) r1 (by rw [l ρ as hf, hn]) (fun d ρ' B' H' q => q) (PoX.mono hh e1.b)
  | exc z =>
    rw [hf] at hh
    exact fun C B' H' g x => hh C B' H' g x.b (mm.go x)
  | stuck => rw [hf] at hh; exact hh
/-! ### a new list is handed in, and dropped behind the call -/
@[simp] def Rx.cut (n : Nat) : Rx → Rx
  | .ok d ρ => .ok d (ρ.take n)
  | .exc x ρ => .exc x (ρ.take n)
  | .stuck => .stuck
@[simp] def xCallT (m : List Sl → RM) (F : Es) (f : Em) : Ex := fun ρ => (F ρ).rxA ρ fun ds => (f ρ).rxA ρ fun as => (appM m (ρ ++ [some (.ow ds)]) (.slot ρ.length :: as)).cut ρ.length
theorem PoX.cut {g : Gd} {B : Hp} {σ : St} {n : Nat} {v : Option V} {r : Rx} {Q : D → En → Hp → Hp → Prop} (hn : n = σ.length) (hl : ∀ d ρ', r = .ok d ρ' → ρ'.length = n + 1) (hl2 : ∀ x ρ', r = .exc x ρ' → ρ'.length = n + 1) (h : PoX c W g B σ Q (r.cut n)) :
    PoX c (fun C d _ H => W C d σ H) g B (σ ++ [v]) (fun d ρ' B' H' => Q d (ρ'.take n) B' H') r := by
  have key : ∀ (ρ' : En) (B' H' : Hp), ρ'.length = n + 1 → Mt c.K g B' H' ρ' (σ ++ [v]) → Mt c.K g B' H' (ρ'.take n) σ := fun ρ' B' H' l m => by
    rw [← List.take_append_drop n ρ'] at m
    exact m.cut (by rw [List.length_take, l, hn]; omega)
  cases r with
  | ok d ρ' => exact fun B' H' s m => h B' H' s (key ρ' B' H' (hl d ρ' rfl) m)
  | exc x ρ' => exact fun C B' H' e s m => h C B' H' e s (key ρ' B' H' (hl2 x ρ' rfl) m)
  | stuck => exact h
theorem appM_len {m : List Sl → RM} {ρ : En} {as : List MA} : (∀ d ρ', appM m ρ as = .ok d ρ' → ρ'.length = ρ.length) ∧ ∀ x ρ', appM m ρ as = .exc x ρ' → ρ'.length = ρ.length := by
  unfold appM
  split
  · cases RM.on (convA ρ 0 as) m with
    | ok d os =>
      rw [RM.back]
      split
      · exact ⟨(fun d ρ' e => by cases e; exact backA_len), (fun _ _ e => by cases e)⟩
      · exact ⟨(fun _ _ e => by cases e), (fun _ _ e => by cases e)⟩
    | exc x os =>
      rw [RM.back]
      split
      · exact ⟨(fun _ _ e => by cases e), (fun d ρ' e => by cases e; exact backA_len)⟩
      · exact ⟨(fun _ _ e => by cases e), (fun _ _ e => by cases e)⟩
    | stuck => exact ⟨(fun _ _ e => by cases e), (fun _ _ e => by cases e)⟩
  · exact ⟨(fun _ _ e => by cases e), (fun _ _ e => by cases e)⟩
theorem sx_callT {n : Nat} {m : List Sl → RM} {x : Str} {F : Es} {f : Em} {p : Pos} (hF : FnM c.P c.w c.K c.mg c.base c.k x n m) (hg : c.sc.names.lookup x = some .globalImplicit) (hb : SF c W e F) (ha : SMa c W es f) (hn : (e :: es).length = n := by rfl) (hdb : (x == ("__debug__" : Str)) = false := by decide)
    (he : ∀ env, starEach (e :: es) env = (false, eval e env) :: starEach es env := by intro _; rfl) (hpl : ∀ env, (backTo pos (starEach es env)).any (·.1) = false := by intro _; rfl) : SX c W (.Call (.Name x p) (e :: es) [] pos) (xCallT m F f) := by
  obtain ⟨ff, fd, ps, h1, h2, h3, h4⟩ := hF.ex
  obtain ⟨t0, k0, ad0⟩ := hb
  obtain ⟨⟨t, k, ad⟩, l⟩ := ha
  refine ⟨_, fun X G => pe_callS (E := WE W) (by rw [G.P, G.w, G.K, G.mg, G.base]; exact h4) G.room (by show X.env.scope.names.lookup x = _; rw [G.sc]; exact hg) (by rw [G.mg]; exact h1) (by rw [G.K]; exact h2) (by rw [G.K]; exact h3) (fun σ => by rw [← G.P, ← G.w]; exact passAt G.tk σ) (pa_cons (k0 X G) (k X G) (he X.env)) hdb (he X.env) (hpl X.env), fun G B H ρ σ Q mm hh => ?_⟩
  refine ad0 G B H ρ σ _ mm ((PoX.args mm hh).imp fun ds B1 H1 e1 h5 pp us q1 q2 q3 q4 => ?_)
  refine ad G B1 H1 ρ σ _ (mm.go e1) ?_
  cases hf : f ρ with
  | ok as =>
    rw [hf] at h5
    intro B2 H2 e2 vs r2
    have m2 := (mm.more e1 q1 q2 q3 q4).go e2
    have h6 := PoX.cut (v := some (.ref pp)) mm.len (fun d ρ' e => by rw [(appM_len.1 d ρ' e), List.length_append]; rfl) (fun d ρ' e => by rw [(appM_len.2 d ρ' e), List.length_append]; rfl) (PoX.mono h5 e2.b)
    exact appM_ok (c := c) (W := fun C d _ H => W C d σ H) rfl m2 (as := .slot ρ.length :: as) ⟨.ref pp, vs, rfl, by
      show (σ ++ [some (.ref pp)])[ρ.length]? = some (some (.ref pp))
      rw [mm.len, List.getElem?_append_right (Nat.le_refl _), Nat.sub_self]
      rfl, r2.more⟩ (by rw [List.length_cons, l ρ as hf, ← hn, List.length_cons]) (fun d ρ' B' H' q => q) h6
  | exc z =>
    rw [hf] at h5
    exact fun C B' H' g x => h5 C B' H' g x.b ((mm.go e1).go x)
  | stuck => rw [hf] at h5; exact h5
end
end Mi

/-! ### a list of one's own: append, pop, insert, clear -/
namespace Mi
open PySem PySem.Spec L2
section
variable {c : Cf} {W : WX} {a b e : Expr} {es : List Expr} {f h g : Ev} {pos pos' : Pos}
theorem ownL_exc {s : Option (Option Sl)} {z : Str} (ho : ownL s = .exc z) : False := by
  revert ho
  cases s with
  | none => intro ho; cases ho
  | some s => cases s with
    | none => intro ho; cases ho
    | some s => cases s with
      | mu k o => cases o <;> (intro ho; cases ho)
      | _ => intro ho; cases ho
/-- xs.append(e) -/
@[simp] noncomputable def sAppM (i : Nat) (f : Ev) : Sv := fun ρ => thnS (ownL ρ[i]?) ρ fun ds => thnS (f ρ) ρ fun d => if ds.length < szL then .nx (setL i (ds ++ [d]) ρ) else .stuck
theorem ss_appM {i : Nat} {x : Str} {px apos cpos : Pos} (hN : c.N[i]? = some x) (hv : Vis c.sc x) (he : SE c W e f) (hd : (x == ("__debug__" : Str)) = false := by decide) (hcd : (x == ("__classdict__" : Str)) = false := by decide)
    (hbase : ∀ env, attributeBase (.Name x px) "append" env (eval (.Name x px) env) = eval (.Name x px) env := by intro _; rfl)
    (hfew : ∀ env, ((backTo cpos (starEach [e] env)).all (fun x => !x.1) && (backToKw cpos (keywordEach [] env)).all (fun x => x.1.isSome) && decide ([e].length + ([] : List Keyword).length + (if ([] : List Keyword).isEmpty then 0 else 1) < 30)) = true := by intro _; rfl)
    (hline : (apos.endLine == cpos.line) = true := by rfl) (hs : ∀ env, starEach [e] env = (false, eval e env) :: starEach [] env := by intro _; rfl) :
    SS c W (.Expr (.Call (.Attribute (.Name x px) "append" apos) [e] [] cpos) pos) (sAppM i f) := by
  obtain ⟨t, k, ad⟩ := he
  refine ⟨tDrop (tBM c.K "list" rAppend (tVar i) (tCons t tNil)), fun X G => ?_, fun G B H ρ σ E m h => ?_⟩
  · rw [← G.K]
    exact ps_expr (pe_bm PySem.F.plainAttrs_list PySem.F.slot_list_append PySem.F.type_list_append mt_append (pe_var (by rw [G.N]; exact hN) (by rw [G.sc]; exact hv) hd hcd) (pa_cons (k X G) pa_nil (hs X.env)) (hbase X.env) (hfew X.env) hline (hs X.env) rfl) rfl
  · unfold sAppM at h
    cases ho : ownL ρ[i]? with
    | ok ds =>
      rw [ho, thnS_ok] at h
      obtain ⟨p, vs, h1, q1, q2, q3⟩ := m.atL ho
      refine ⟨.ref p, h1, .inl ⟨rfl, vs, SqL.of q1⟩, ad G B H ρ σ _ m ((Po.thn m h).imp fun d B1 H1 e1 h2 y r1 => ?_)⟩
      split at h2
      · rename_i hz
        rw [szL_eq] at hz
        obtain ⟨p', vs', h1', q1', q2', q3'⟩ := (m.go e1).atL ho
        rw [h1] at h1'
        cases h1'
        refine ⟨p, vs', y, rfl, rfl, q1', by rw [← q2'.length]; exact hz, ?_⟩
        exact h2 σ B1 _ (Same.refl _) (q3' _ _ (q2'.append (Reps.one r1)))
      · exact h2.elim
    | exc z => exact (ownL_exc ho).elim
    | stuck => rw [ho] at h; exact h.elim
/-- xs.pop(k) -/
@[simp] noncomputable def popD (i : Nat) (ρ : En) (ds : List D) : D → Rx
  | .int k => if ds.length ≤ szL then (match ixN ds.length k with
    | some n => (match ds[n]? with
      | some d => .ok d (setL i (ds.eraseIdx n) ρ)
      | none => .stuck)
    | none => .stuck) else .stuck
  | _ => .stuck
@[simp] noncomputable def xPop (i : Nat) (f : Ev) : Ex := fun ρ => (ownL ρ[i]?).rxA ρ fun ds => (f ρ).rxA ρ (popD i ρ ds)
theorem Reps.erase {K : PySem.W.Frag} {B : Hp} : ∀ {ds : List D} {vs : List V} (n : Nat), Reps K B ds vs → Reps K B (ds.eraseIdx n) (vs.eraseIdx n)
  | [], _, n, h => by cases (show _ = ([] : List V) from h); exact rfl
  | d :: ds, _, 0, ⟨v, r, rfl, _, h⟩ => h
  | d :: ds, _, n + 1, ⟨v, r, rfl, h1, h⟩ => ⟨v, r.eraseIdx n, rfl, h1, Reps.erase n h⟩
theorem sx_pop {i : Nat} {x : Str} {px apos cpos : Pos} (hN : c.N[i]? = some x) (hv : Vis c.sc x) (he : SB c W e f) (hd : (x == ("__debug__" : Str)) = false := by decide) (hcd : (x == ("__classdict__" : Str)) = false := by decide)
    (hbase : ∀ env, attributeBase (.Name x px) "pop" env (eval (.Name x px) env) = eval (.Name x px) env := by intro _; rfl)
    (hfew : ∀ env, ((backTo cpos (starEach [e] env)).all (fun x => !x.1) && (backToKw cpos (keywordEach [] env)).all (fun x => x.1.isSome) && decide ([e].length + ([] : List Keyword).length + (if ([] : List Keyword).isEmpty then 0 else 1) < 30)) = true := by intro _; rfl)
    (hline : (apos.endLine == cpos.line) = true := by rfl) (hs : ∀ env, starEach [e] env = (false, eval e env) :: starEach [] env := by intro _; rfl) :
    SX c W (.Call (.Attribute (.Name x px) "pop" apos) [e] [] cpos) (xPop i f) := by
  obtain ⟨t, k, ad⟩ := he
  refine ⟨tBM c.K "list" rPopAt (tVar i) (tCons t tNil), fun X G => ?_, fun G B H ρ σ Q m h => ?_⟩
  · rw [← G.K]
    exact pe_bm PySem.F.plainAttrs_list PySem.F.slot_list_pop PySem.F.type_list_pop mt_popAt (pe_var (by rw [G.N]; exact hN) (by rw [G.sc]; exact hv) hd hcd) (pa_cons (k X G) pa_nil (hs X.env)) (hbase X.env) (hfew X.env) hline (hs X.env) rfl
  · unfold xPop at h
    cases ho : ownL ρ[i]? with
    | ok ds =>
      rw [ho, R.rxA_ok] at h
      obtain ⟨p, vs, h1, q1, q2, q3⟩ := m.atL ho
      refine ⟨.ref p, h1, .inl ⟨rfl, vs, SqL.of q1⟩, ad G B H ρ σ _ m ((PoX.args m h).imp fun d B1 H1 e1 h2 y r1 => ?_)⟩
      cases d with
      | int kk =>
        cases (show y = .int kk from r1)
        dsimp only [popD] at h2
        by_cases hz : ds.length ≤ szL
        · rw [if_pos hz] at h2
          rw [szL_eq, PySem.sizeLine_eq] at hz
          cases hn : ixN ds.length kk with
          | none => rw [hn] at h2; exact h2.elim
          | some n =>
            rw [hn] at h2
            dsimp only at h2
            cases hdn : ds[n]? with
            | none => rw [hdn] at h2; exact h2.elim
            | some d =>
              rw [hdn] at h2
              obtain ⟨p', vs', h1', q1', q2', q3'⟩ := (m.go e1).atL ho
              rw [h1] at h1'
              cases h1'
              obtain ⟨k1, k2, k3, k4⟩ := ixN_seq hn
              obtain ⟨y, y1, y2⟩ := q2'.get hdn
              refine ⟨p, vs', kk, n, y, rfl, rfl, q1', by omega, by omega, by rw [← q2'.length]; exact k1, y1, ?_⟩
              exact h2 B1 _ (Same.refl _) (q3' _ _ (q2'.erase n)) y y2
        · rw [if_neg hz] at h2
          exact h2.elim
      | _ => exact h2.elim
    | exc z => exact (ownL_exc ho).elim
    | stuck => rw [ho] at h; exact h.elim
def rInsL : V → List V → Hp → VK → Prop := fun x vs H Q => ∃ (l : Addr) (xs : List V) (i : Int) (y : V), x = .ref l ∧ vs = [.int i, y] ∧ H l = some (.lst xs) ∧ xs.length < sizeLine ∧ 0 ≤ i ∧ i < 2 ^ 63 ∧ Q .non (upd H l (.lst (xs.take i.toNat ++ [y] ++ xs.drop i.toNat)))
/-- xs.insert(k, e) -/
@[simp] noncomputable def sIns (i : Nat) (f g : Ev) : Sv := fun ρ => thnS (ownL ρ[i]?) ρ fun ds => thnS (f ρ) ρ fun k => thnS (g ρ) ρ fun d => match k with
  | .int k => if ds.length < szL ∧ 0 ≤ k ∧ k < big62 then .nx (setL i (ds.take k.toNat ++ [d] ++ ds.drop k.toNat) ρ) else .stuck
  | _ => .stuck
theorem ss_ins {i : Nat} {x : Str} {px apos cpos : Pos} (hN : c.N[i]? = some x) (hv : Vis c.sc x) (ha : SE c W a f) (hb : SE c W b g) (hd : (x == ("__debug__" : Str)) = false := by decide) (hcd : (x == ("__classdict__" : Str)) = false := by decide)
    (hbase : ∀ env, attributeBase (.Name x px) "insert" env (eval (.Name x px) env) = eval (.Name x px) env := by intro _; rfl)
    (hfew : ∀ env, ((backTo cpos (starEach [a, b] env)).all (fun x => !x.1) && (backToKw cpos (keywordEach [] env)).all (fun x => x.1.isSome) && decide ([a, b].length + ([] : List Keyword).length + (if ([] : List Keyword).isEmpty then 0 else 1) < 30)) = true := by intro _; rfl)
    (hline : (apos.endLine == cpos.line) = true := by rfl) (hs : ∀ env, starEach [a, b] env = (false, eval a env) :: starEach [b] env := by intro _; rfl) (hs2 : ∀ env, starEach [b] env = (false, eval b env) :: starEach [] env := by intro _; rfl) (hpl : ∀ env, (backTo cpos (starEach [b] env)).any (·.1) = false := by intro _; rfl) :
    SS c W (.Expr (.Call (.Attribute (.Name x px) "insert" apos) [a, b] [] cpos) pos) (sIns i f g) := by
  obtain ⟨t, k, ad⟩ := ha
  obtain ⟨t2, k2, ad2⟩ := hb
  refine ⟨tDrop (tBM c.K "list" rInsL (tVar i) (tCons t (tCons t2 tNil))), fun X G => ?_, fun G B H ρ σ E m h => ?_⟩
  · rw [← G.K]
    exact ps_expr (pe_bm PySem.F.plainAttrs_list PySem.F.slot_list_insert PySem.F.type_list_insert mt_insert (pe_var (by rw [G.N]; exact hN) (by rw [G.sc]; exact hv) hd hcd) (pa_cons (k X G) (pa_cons (k2 X G) pa_nil (hs2 X.env)) (hs X.env)) (hbase X.env) (hfew X.env) hline (hs X.env) (hpl X.env)) rfl
  · unfold sIns at h
    cases ho : ownL ρ[i]? with
    | ok ds =>
      rw [ho, thnS_ok] at h
      obtain ⟨p, vs, h1, q1, q2, q3⟩ := m.atL ho
      refine ⟨.ref p, h1, .inl ⟨rfl, vs, SqL.of q1⟩, ad G B H ρ σ _ m ((Po.thn m h).imp fun kd B1 H1 e1 h2 y r1 => ?_)⟩
      refine ad2 G B1 H1 ρ σ _ (m.go e1) ((Po.thn (m.go e1) h2).imp fun d B2 H2 e2 h3 y2 r2 => ?_)
      cases kd with
      | int kk =>
        cases (show y = .int kk from r1)
        dsimp only at h3
        by_cases hz : ds.length < szL ∧ 0 ≤ kk ∧ kk < big62
        · rw [if_pos hz] at h3
          rw [szL_eq, big62_eq] at hz
          obtain ⟨p', vs', h1', q1', q2', q3'⟩ := ((m.go e1).go e2).atL ho
          rw [h1] at h1'
          cases h1'
          refine ⟨p, vs', kk, y2, rfl, rfl, q1', by rw [← q2'.length]; exact hz.1, hz.2.1, by omega, ?_⟩
          exact h3 σ B2 _ (Same.refl _) (q3' _ _ (((q2'.take _).append (Reps.one r2)).append (q2'.drop _)))
        · rw [if_neg hz] at h3
          exact h3.elim
      | _ => exact h3.elim
    | exc z => exact (ownL_exc ho).elim
    | stuck => rw [ho] at h; exact h.elim
/-- xs.clear() -/
@[simp] noncomputable def sClr (i : Nat) : Sv := fun ρ => thnS (ownL ρ[i]?) ρ fun _ => .nx (setL i [] ρ)
theorem ss_clr {i : Nat} {x : Str} {px apos cpos : Pos} (hN : c.N[i]? = some x) (hv : Vis c.sc x) (hd : (x == ("__debug__" : Str)) = false := by decide) (hcd : (x == ("__classdict__" : Str)) = false := by decide)
    (hbase : ∀ env, attributeBase (.Name x px) "clear" env (eval (.Name x px) env) = eval (.Name x px) env := by intro _; rfl)
    (hline : (apos.endLine == cpos.line) = true := by rfl) :
    SS c W (.Expr (.Call (.Attribute (.Name x px) "clear" apos) [] [] cpos) pos) (sClr i) := by
  refine ⟨tDrop (tBM0 c.K "list" rClear (tVar i)), fun X G => ?_, fun G B H ρ σ E m h => ?_⟩
  · rw [← G.K]
    exact ps_expr (pe_bm0 PySem.F.plainAttrs_list PySem.F.slot_list_clear PySem.F.type_list_clear mt_clear (pe_var (by rw [G.N]; exact hN) (by rw [G.sc]; exact hv) hd hcd) (hbase X.env) hline) rfl
  · unfold sClr at h
    cases ho : ownL ρ[i]? with
    | ok ds =>
      rw [ho, thnS_ok] at h
      obtain ⟨p, vs, h1, q1, q2, q3⟩ := m.atL ho
      exact ⟨.ref p, h1, .inl ⟨rfl, vs, SqL.of q1⟩, p, vs, rfl, rfl, q1, h σ B _ (Same.refl _) (q3 [] [] rfl)⟩
    | exc z => exact (ownL_exc ho).elim
    | stuck => rw [ho] at h; exact h.elim
end
end Mi

namespace Mi.Sh
open PySem PySem.Spec L2 Mi
-- waits_of: 0:hands 1:papers 2:total 3:k 4:paper
noncomputable def u_waits_of_1 : Sv :=
  sSeq (sAug 2 oAdd (eApp m_paper_wait (aVal (eBin oIx (eBin oIx (eLook 0) (eLook 3)) (eD (.int 0))) (aVal (eBin oIx (eBin oIx (eLook 0) (eBin oAdd (eLook 3) (eD (.int 1)))) (eD (.int 0))) (aVal (eVar 4) (aNil)))))) (sKill 3 (sKill 4 (sNx)))
noncomputable def t_waits_of_2 : Sv :=
  sSeq (sFor (iEnumD (lVar 1)) (gTupD 2 (gsCons (gSet 3) (gsCons (gSet 4) (gsNil)))) (u_waits_of_1)) (sRet (eVar 2))
noncomputable def t_waits_of_3 : Sv :=
  sSeq (sAsg (eD (.int 0)) (gSet 2)) (t_waits_of_2)
noncomputable def b_waits_of : Sv :=
  sSeq (sIf (tst (eBin oNe (eCall oLen (vCons (eLook 1) vNil)) (eBin oSub (eCall oLen (vCons (eLook 0) vNil)) (eD (.int 1))))) (sRaise "NoPaper") (sNx)) (t_waits_of_3)
noncomputable def m_waits_of : List Sl → R Sl := hid (runB 5 b_waits_of)
theorem m_waits_of_eq : m_waits_of = runB 5 b_waits_of := hid_eq _
-- _law_plan: 0:cell 1:part 2:by 3:great 4:number 5:plan 6:k 7:period 8:at 9:c 10:times
noncomputable def t__law_plan_1 : Sv :=
  sSeq (sApp 5 (eTup (vCons (eVar 7) (vCons (eBin oMod (eBin oDiv (eLook 4) (eD (.int 100))) (eLook 7)) (vCons (eBin oAdd (eD (.int 1)) (eBin oDiv (eBin oMod (eBin oDiv (eLook 4) (eD (.int 1000))) (eLook 7)) (eD (.int 2)))) (vNil)))))) (sKill 6 (sKill 7 (sNx)))
noncomputable def u__law_plan_2 : Sv :=
  sSeq (sAsg (eBin oMul (eLook 1) (eBin oAdd (eD (.int 1)) (eBin oMod (eBin oDiv (eLook 4) (eBin oAdd (eD (.int 9)) (eBin oMul (eD (.int 8)) (eLook 6)))) (eD (.int 6))))) (gSet 7)) (t__law_plan_1)
noncomputable def t__law_plan_3 : Sv :=
  sSeq (sApp 5 (eTup (vCons (eBin oMul (eLook 2) (eLook 10)) (vCons (eBin oAdd (eLook 9) (eBin oMul (eLook 2) (eBin oMod (eBin oDiv (eLook 4) (eBin oAdd (eD (.int 13)) (eLook 9))) (eLook 10)))) (vCons (eD (.int 1)) (vNil)))))) (sKill 9 (sKill 10 (sNx)))
noncomputable def u__law_plan_4 : Sv :=
  sSeq (sAsg (eBin oAdd (eD (.int 1)) (eBin oMul (eLook 3) (eBin oMod (eBin oDiv (eLook 4) (eBin oAdd (eD (.int 11)) (eLook 9))) (eBin oPow (eD (.int 10)) (eD (.int 20)))))) (gSet 10)) (t__law_plan_3)
noncomputable def t__law_plan_5 : Sv :=
  sSeq (sFor (iRng1D (eVar 2)) (gSet 9) (u__law_plan_4)) (sFrz 5 (sRetF (vCons (eVar 5) (vCons (eVar 8) (vCons (eBin oSub (eCall oLen (vCons (eLook 5) vNil)) (eLook 2)) (vNil))))))
noncomputable def t__law_plan_6 : Sv :=
  sSeq (sIns 5 (eVar 8) (eTup (vCons (eVar 7) (vCons (eBin oMod (eBin oDiv (eLook 4) (eD (.int 2000))) (eLook 7)) (vCons (eBin oSub (eLook 7) (eBin oDiv (eBin oMod (eBin oDiv (eLook 4) (eD (.int 30))) (eLook 7)) (eD (.int 2)))) (vNil)))))) (t__law_plan_5)
noncomputable def t__law_plan_7 : Sv :=
  sSeq (sAsg (eBin oMod (eBin oDiv (eLook 4) (eD (.int 420))) (eBin oAdd (eCall oLen (vCons (eLook 5) vNil)) (eD (.int 1)))) (gSet 8)) (t__law_plan_6)
noncomputable def t__law_plan_8 : Sv :=
  sSeq (sAsg (eBin oMul (eLook 1) (eBin oAdd (eD (.int 1)) (eBin oMod (eBin oDiv (eLook 4) (eD (.int 70))) (eD (.int 6))))) (gSet 7)) (t__law_plan_7)
noncomputable def t__law_plan_9 : Sv :=
  sSeq (sFor (iRng1D (eBin oMod (eLook 4) (eD (.int 3)))) (gSet 6) (u__law_plan_2)) (t__law_plan_8)
noncomputable def t__law_plan_10 : Sv :=
  sSeq (sSetF 5 (vNil)) (t__law_plan_9)
noncomputable def t__law_plan_11 : Sv :=
  sSeq (sIf (tst (eBin oEq (eBin oMod (eBin oDiv (eLook 4) (eD (.int 17))) (eD (.int 2))) (eD (.int 1)))) (sAsg (eBin oMul (eLook 1) (eBin oAdd (eD (.int 1)) (eBin oMod (eBin oDiv (eLook 4) (eD (.int 5000))) (eBin oPow (eD (.int 10)) (eD (.int 20)))))) (gSet 1)) (sNx)) (t__law_plan_10)
noncomputable def b__law_plan : Sv :=
  sSeq (sAsg (eApp m__law_big (aVal (eVar 0) (aNil))) (gSet 4)) (t__law_plan_11)
noncomputable def m__law_plan : List Sl → R Sl := hid (runB 11 b__law_plan)
theorem m__law_plan_eq : m__law_plan = runB 11 b__law_plan := hid_eq _
-- _law_round: 0:one 1:other
noncomputable def b__law_round : Sv :=
  sRet (eBin oMul (eBin oDiv (eBin oIx (eLook 0) (eD (.int 0))) (eApp m__law_divisor (aVal (eBin oIx (eLook 0) (eD (.int 0))) (aVal (eBin oIx (eLook 1) (eD (.int 0))) (aNil))))) (eBin oIx (eLook 1) (eD (.int 0))))
noncomputable def m__law_round : List Sl → R Sl := hid (runB 2 b__law_round)
theorem m__law_round_eq : m__law_round = runB 2 b__law_round := hid_eq _
end Mi.Sh

namespace Mi
open PySem PySem.Spec L2 PyProof.Rows
/-! ### max(xs, default=0), int(truth) -/
def max0I (ns : List Int) : Int := match ns with
  | [] => 0
  | n :: ns => ns.foldl max n
def rMax0 (K : PySem.W.Frag) : List V → List V → Hp → VK → Prop := fun vs zs H Q => ∃ (a : Addr) (ns : List Int), vs = [V.ref a] ∧ zs = [.int 0] ∧ SqL K H a (ns.map V.int) ∧ Q (.int (max0I ns)) H
theorem cr_max0 {X : Cx} (hc : X.calm = true) (hu : X.A.units + 64 < cLine) : CallRK X (.builtin "max") [Str.ofString "default"] (rMax0 X.K) := by
  intro pins s σ H vs zs us ws Q I r rz h
  obtain ⟨a, ns, rfl, rfl, hs, q⟩ := h
  obtain ⟨its, rv, hl, hz⟩ := I.list hs
  obtain rfl := Vals.ref1 r
  obtain ⟨w1, rfl, e1⟩ := vals1 rz
  obtain ⟨t0, rfl⟩ := e1
  refine PySem.W.max_list_default (xs := ns.map .int) (as := []) (I.ok.hd hc) hl.isList (by simpa using reads_ints rv.ints) (alike_ints ns) (by rw [depth_ints]; omega) (fun e h' tk hk => ?_) fun y ys i v h' tk bs e hv rd hk => ?_
  · cases ns with
    | nil => exact ⟨V.int 0, H, I.kept hk, ⟨_, rfl⟩, q⟩
    | cons n ns => cases e
  · cases ns with
    | nil => cases e
    | cons n ns =>
      rw [List.map_cons] at e
      cases e
      rw [PySem.W.maxD_ints] at rd
      cases rd with
      | int i t => exact ⟨V.int (List.foldl max n ns), H, I.kept hk, ⟨_, rfl⟩, q⟩
section
variable {c : Cf} {W : WX} {a b e : Expr} {es : List Expr} {f g : Ev} {pos : Pos}
/-- max(xs, default=0) -/
def eMaxD0 (f : Ev) : Ev := fun ρ => (f ρ).bind fun d => match d with
  | .lst ds => (match allI ds with
    | some ns => .ok (.int (max0I ns))
    | none => .stuck)
  | _ => .stuck
theorem se_maxD0 {x : Str} {p kp p2 : Pos} {j : Nat} (hx : x = "max") (hg : c.sc.names.lookup x = some .globalImplicit) (hm : c.mg x = none) (ha : SB c W e f) (he : ∀ env, starEach [e] env = (false, eval e env) :: starEach [] env := by intro _; rfl)
    (he2 : ∀ env, backTo pos (starEach [e] env) = (false, eval e env) :: backTo pos (starEach [] env) := by intro _; rfl) (hpl : ∀ env, (backTo pos (starEach [e] env)).any (·.1) = false := by intro _; rfl) :
    SE c W (.Call (.Name x p) [e] [⟨some "default", .Constant (.int 0) j p2, kp⟩] pos) (eMaxD0 f) := by
  subst hx
  obtain ⟨t, k, ad⟩ := ha
  refine ⟨tCKw (rMax0 c.K) (tCons t tNil) (tCons (tC (.int 0)) tNil), fun X G => by rw [← G.K]; exact pe_callBK (id := "max") (ks := [Str.ofString "default"]) (cr_max0 G.calm (hu_room G.room)) (by show X.env.scope.names.lookup _ = _; rw [G.sc]; exact hg) (by rw [G.mg]; exact hm) (by decide +kernel) (pa_cons (k X G) pa_nil (he X.env)) (pk_cons pe_int pk_nil) (by decide) (by decide) (he2 X.env) (hpl X.env) rfl rfl rfl, fun G B H ρ σ Q m hh => ?_⟩
  refine ad G B H ρ σ _ m ((Po.bind hh).imp fun d B1 H1 e1 h1 v r1 => ?_)
  cases d with
  | lst ds =>
    obtain ⟨a, vs, rfl, q1, q2⟩ := r1
    dsimp only at h1
    split at h1
    · rename_i ns hns
      rw [q2.ints hns] at q1
      exact ⟨a, ns, rfl, rfl, q1, ok_refl h1 e1.in_ _ rfl⟩
    · exact h1.elim
  | _ => exact h1.elim
@[simp] def oInt : List D → R D
  | [.int i] => .ok (.int i)
  | [.bl b] => .ok (.int (if b then 1 else 0))
  | _ => .stuck
theorem ac_int : AdC c W (fun xs H Q => (∃ i, xs = [.int i] ∧ Q (.int i) H) ∨ ∃ k, xs = [.bl k] ∧ Q (.int (if k then 1 else 0)) H) oInt := by
  intro σ B H ds vs Q s r h
  match ds, h with
  | [.int i], h =>
    obtain ⟨v, rfl, r1⟩ := r.one
    cases (show v = .int i from r1)
    exact .inl ⟨i, rfl, ok_refl h s _ rfl⟩
  | [.bl b], h =>
    obtain ⟨v, rfl, r1⟩ := r.one
    cases (show v = .bl b from r1)
    exact .inr ⟨b, rfl, ok_refl h s _ rfl⟩
theorem se_int1 {x : Str} {p : Pos} (hx : x = "int") (hg : c.sc.names.lookup x = some .globalImplicit) (hm : c.mg x = none) (ha : SB c W e f) (he : ∀ env, starEach [e] env = (false, eval e env) :: starEach [] env := by intro _; rfl) : SE c W (.Call (.Name x p) [e] [] pos) (eCall oInt (vCons f vNil)) := by
  subst hx
  exact se_callTy (fun X G => call_int1) ac_int hg hm (by decide +kernel) (sbs_cons ha sbs_nil he) (by decide) (by decide) he (by intro _; rfl)
end
/-! ### one's own lists are lent while a comprehension runs -/
section
variable {c : Cf} {W : WX} {e : Expr}
@[simp] def fLend (f : Es) : Es := fun ρ => f (lendE 0 ρ)
theorem sf_lend {f : Es} (h : SF c W e f) : SF c W e (fLend f) := by
  obtain ⟨t, k, ad⟩ := h
  exact ⟨t, k, fun G B H ρ σ Q m hh => ad (gdAt B H σ) B H (lendE 0 ρ) σ Q m.lend hh⟩
end
end Mi

/-! ### try: .. except M as n: g = n; the caught exception is data behind it -/
namespace L2
open PySem PySem.Spec PyProof.Rows
section
variable {X : Cx} {pins : List (Addr × Obj)} {σ : St} {H : Hp} {s : Shared}
/-- the caught exception, pinned till now, is tracked -/
theorem Inv.tracked {a C : Addr} {oe : Obj} (J : Inv (X.kept ((a, oe) :: (X.pn ++ pins))) [] σ H s) (ok : X.Ok) (hz : Zc (.ref C) none oe) (hd : ∃ vs, oe.data = .fields vs) (n0 : X.s_0.heap.get? a = none) (np : ∀ p ∈ X.pn ++ pins, p.1 ≠ a) : Inv X pins σ (upd H a (Mi.CaE C a)) s := by
  obtain ⟨vs, hvs⟩ := hd
  obtain ⟨ha, na, nL, nF, nc⟩ := J.pin (a, oe) (by show _ ∈ ((a, oe) :: (X.pn ++ pins)) ++ []; rw [List.append_nil]; exact List.mem_cons_self ..)
  dsimp only at ha na nL nF nc
  have ne0 : ∀ b o, X.s_0.heap.get? b = some o → b ≠ a := fun b o e z => by
    rw [z, n0] at e
    cases e
  have neH : ∀ {b : Addr} {u : HO}, H b = some u → b ≠ a := fun {b u} e z => by
    rw [z, na] at e
    cases e
  have neC : ∀ x c, X.env.cells.lookup x = some c → c ≠ a := fun x c e z => by
    obtain ⟨v, o, ho, hcl⟩ := J.cell x c e
    rw [z, ha] at ho
    cases ho
    exact nc _ hcl
  have b := J.base
  refine ⟨ok, J.os, J.bare, ⟨b.keep, b.slot, fun c o e n hx => ?_, b.there, fun c xs e => ?_, fun c o u e => ?_, fun c ps e => ?_⟩, J.loc, J.cell, ?_, fun x c e => ?_, fun p hp => ?_, ?_, J.len⟩
  · rw [upd_ne (ne0 c o e)]
    exact b.free c o e n hx
  · have q := b.tups c xs e
    rw [upd_ne (neH q)]
    exact q
  · have q := b.frzs c o u e
    rw [upd_ne (neH q)]
    exact q
  · obtain ⟨m, q⟩ := b.tbls c ps e
    exact ⟨m, by rw [upd_ne (neH q)]; exact q⟩
  · rw [upd_ne (fun z => nL z.symm)]
    exact J.free
  · rw [upd_ne (neC x c e)]
    exact J.freeC x c e
  · have := J.pin p (by show p ∈ ((a, oe) :: (X.pn ++ pins)) ++ []; rw [List.append_nil]; exact List.mem_cons_of_mem _ hp)
    exact ⟨this.1, by rw [upd_ne (np p hp)]; exact this.2.1, this.2.2⟩
  · exact HOk.laidN J.hok (fun _ _ e => e) na ⟨⟨oe, vs, ha, hz, hvs⟩, ⟨oe, ha⟩, fun h1 h2 ⟨o, v, q, r⟩ k => ⟨o, v, k o q, r⟩⟩
end
/-- what is wished of the exception: one of M's; then it stands in slot j -/
def wKeepE (K : PySem.W.Frag) (M : Addr) (i j : Nat) (D : Ends) : WX := fun cls d σ H =>
  ∃ C, cls = .ref C ∧ d = none ∧ PySem.W.exmOne K (.ref C) (.ref M) = some true ∧ ∀ a, H a = none → D.nx (((σ.set i (some (.ref a))).set j (some (.ref a))).set i none) (upd H a (Mi.CaE C a))
section
variable {X : Cx} {x n g : Str} {M : Addr} {i j : Nat} {body : List Stmt} {np pos pos' pg pn1 ps : Pos} {tb : WX → TS}
theorem ps_keepE (hs : X.stack = X.env :: X.outer) (hf : X.env.frame = some X.env.locals) (hex : X.ex = []) (hN : X.N.Nodup) (hi : X.N[i]? = some n) (hj : X.N[j]? = some g) (hij : i ≠ j) (hln : X.env.kindOf n = some .local) (hlg : X.env.kindOf g = some .local) (hc : Names X x (.ref M))
    (hdn : (n == ("__debug__" : Str)) = false) (hcn : (n == ("__classdict__" : Str)) = false)
    (hb : ∀ (W : WX) (pn : List (Addr × Obj)) (xe : Value → Shared → Prop), Takes (X.tr pn xe) W → PassesOwn (model X.prog X.w) X.A X.env xe → PSs (X.tr pn xe) body (tb W)) :
    PS X (.Try body [.ExceptHandler (some (.Name x np)) (some n) [.Assign [.Name g pg] (.Name n pn1) ps] pos'] [] [] pos) (fun D σ H => tb (wKeepE X.K M i j D) D σ H) := by
  refine ⟨fun pins s σ H D I h => ?_⟩
  have ok := I.ok
  have hfr : X.A.frames = some (X.env :: X.outer) := by rw [ok.frames, hs]
  have hloc : Loc X.env.scope n := .inl hln
  refine wpAny_Try_except ?_
  refine wpAny_mono ((hb (wKeepE X.K M i j D) (X.pn ++ pins) (fun e s₁ => wpAny (model X.prog X.w) X.A (noteFrame e X.env) (fun _ s₂ => wpAny (model X.prog X.w) X.A (setFlight e none) (fun _ s₃ =>
    wpAny (model X.prog X.w) X.A (handleBy e X.env [.ExceptHandler (some (.Name x np)) (some n) [.Assign [.Name g pg] (.Name n pn1) ps] pos']) (SP X pins D) X.xe s₃) X.xe s₂) X.xe s₁) (fun u s' xx => ?_) PassesOwn.looking).run [] s σ H D (I.toTry _) h) (fun f s1 hsp => ?_) (fun e s1 he => he)
  · -- the catch
    obtain ⟨a, B, sI, pins', σ', H', cls, d, rfl, J', nb, up, sky, na, os, ag, C, rfl, rfl, hCM, hyes⟩ := xx
    have J : Inv X pins σ' H' sI := J'.ofTry ok
    have sky' : Sky B (X.env :: X.outer) a (Zc (.ref C) none) X.env.locals s'.heap := by rw [← hs]; exact sky
    show wpAny _ X.A (noteFrame (.ref a) X.env) _ _ _
    refine Sky.land Zc.steady hfr hf sky' fun h3 fl3 up3 => ?_
    have J3 : Inv X pins σ' H' { s' with heap := h3 } := J.landed nb fl3.1 (up.trans up3) os ag
    obtain ⟨oe3, vs3, he3, hz3, hd3⟩ := fl3.there
    have notFr : ∀ {h : Heap} {o : Obj} {vs : Array Value}, h.FunFrames B (X.env :: X.outer) → h.get? a = some o → o.data = .fields vs → a ∉ frs (X.env :: X.outer) := fun {h o vs} ff e dd hm => by
      obtain ⟨_, o', e', hnf⟩ := ff.mem hm
      rw [e] at e'; cases e'
      exact hnf _ dd
    have nfr := notFr fl3.2.2.1 he3 hd3
    have nI : sI.heap.get? a = none := by
      cases e : sI.heap.get? a with
      | none => rfl
      | some o =>
        have q := nb a o e (by rw [hs]; exact nfr)
        rw [fl3.2.1] at q
        cases q
    have n0 : X.s_0.heap.get? a = none := by
      cases e : X.s_0.heap.get? a with
      | none => rfl
      | some o =>
        obtain ⟨o', q⟩ := J.base.there a o e (by rw [hex]; exact fun z => nomatch z)
        rw [nI] at q
        cases q
    have npn : ∀ p ∈ X.pn ++ pins, p.1 ≠ a := fun p hp z => by
      have q := (J.pin p hp).1
      rw [z, nI] at q
      cases q
    have nL : a ≠ X.env.locals := fun z => nfr (List.mem_filterMap.mpr ⟨X.env, List.mem_cons_self, by rw [hf, z]⟩)
    have nF : a ∉ X.fs := fun hm => by
      obtain ⟨e, he, q⟩ := List.mem_filterMap.mp hm
      exact nfr (List.mem_filterMap.mpr ⟨e, List.mem_cons_of_mem _ he, q⟩)
    have S3 := J3.suite he3 hd3 na nL nF
    refine wpAny_handleBy_cons (codeAny_handlers_test ?_) (by intro q; cases q)
    have LT : PySem.W.Looks (model X.prog X.w) h3 (typeOf (.ref a)) (.ref C) := fun A Q E s k q => wpAny_typeOf_ref (k _ _ he3) (by rw [hz3.1]; exact q)
    have LM := PySem.W.exm_one (M := model X.prog X.w) (J3.kIn) LT hCM
    refine name_at (X := X.suite a ((a, oe3) :: (X.pn ++ pins))) S3 hc ?_
    refine LM.here ?_
    refine codeAny_handlers_suite_as ?_
    refine HandSPX.lands_againZ fl3 fun h4 fl4 up4 => ?_
    have J4 : Inv X pins σ' H' { s' with heap := h4 } := J.landed nb fl4.1 ((up.trans up3).trans up4) os ag
    obtain ⟨oe4, vs4, he4, hz4, hd4⟩ := fl4.there
    have S4 := J4.suite he4 hd4 na nL nF
    refine store_ok (X := X.suite a ((a, oe4) :: (X.pn ++ pins))) (v := .ref a) S4 hN hi hloc rfl (fun s5 S5 => ?_) (.inr hln)
    have suite : PSs (X.suite a ((a, oe4) :: (X.pn ++ pins))) [.Assign [.Name g pg] (.Name n pn1) ps] (tAsg (tVar i) (gName j)) :=
      pss_one (ps_set (X := X.suite a ((a, oe4) :: (X.pn ++ pins))) hN hj (.inl hlg) (pe_var hi (.inl hln) hdn hcn) rfl (.inr hlg))
    have hiL : i < σ'.length := by rw [J.len]; exact (List.getElem?_eq_some_iff.mp hi).1
    refine wpAny_mono (suite.run [] s5 _ H' { nx := fun σ6 H6 => D.nx (σ6.set i none) (upd H6 a (Mi.CaE C a)), rt := fun _ _ => False, bk := fun _ _ => False, ct := fun _ _ => False } S5 ⟨.ref a, List.getElem?_set_self hiL, hyes a na⟩) (fun f s6 hsp => ?_) (fun _ _ z => False.elim z)
    cases f with
    | next =>
      obtain ⟨σ6, H6, S6, q6⟩ := hsp
      exact gone_ok (X := X.kept ((a, oe4) :: (X.pn ++ pins))) (keep_suite S6 ok) hN hi hln fun s7 J7 => ⟨_, _, J7.tracked ok hz4 ⟨_, hd4⟩ n0 npn, q6⟩
    | brk =>
      obtain ⟨σ6, H6, S6, q6⟩ := hsp
      exact q6.elim
    | cont =>
      obtain ⟨σ6, H6, S6, q6⟩ := hsp
      exact q6.elim
    | ret u =>
      obtain ⟨v6, σ6, H6, S6, r6, q6⟩ := hsp
      exact q6.elim
  · cases f with
    | next =>
      obtain ⟨σ', H', J', q⟩ := hsp
      exact wpAny_execs_nil ⟨σ', H', J'.ofTry ok, q⟩
    | brk =>
      obtain ⟨σ', H', J', q⟩ := hsp
      exact ⟨σ', H', J'.ofTry ok, q⟩
    | cont =>
      obtain ⟨σ', H', J', q⟩ := hsp
      exact ⟨σ', H', J'.ofTry ok, q⟩
    | ret u =>
      obtain ⟨v, σ', H', J', r, q⟩ := hsp
      exact ⟨v, σ', H', J'.ofTry ok, r, q⟩
end
/-- isinstance(x, c), x a caught exception or None -/
def rIsQ (K : PySem.W.Frag) : List V → Hp → VK → Prop := fun xs H Q => ∃ (x c : V) (u : Value) (b : Bool), xs = [x, c] ∧ ClsV c u ∧ Q (.bl b) H ∧
  ((x = .non ∧ PySem.W.kitOne K (.type "NoneType") u = some b) ∨ ∃ a C, x = .ref a ∧ H a = some (Mi.CaE C a) ∧ ExcC K C ∧ PySem.W.kitOne K (.ref C) u = some b)
theorem call_isQ {X : Cx} : CallR X (.builtin "isinstance") (rIsQ X.K) := by
  intro pins s σ H xs us Q I r h
  obtain ⟨x, c, u, b, rfl, k, q, h⟩ := h
  obtain ⟨u1, u2, rfl, r1, r2⟩ := vals2 r
  have e2 := k.eq r2
  subst e2
  rcases h with ⟨rfl, e⟩ | ⟨a, C, rfl, hH, hE, e⟩
  · obtain ⟨P, Z, p, hx⟩ := kit_of I r1 (.base .non)
    exact PySem.W.kia_one Z I.kIn p e hx fun tk => ⟨.bl b, H, I.tok tk, rfl, q⟩
  · cases (show u1 = Value.ref a from r1)
    obtain ⟨⟨oe, vs, hget, hz, hv⟩, _, _⟩ := I.hok a _ hH
    have J : PySem.W.InstAt s.heap a oe C none := by
      obtain ⟨oc, od, oda, osl⟩ := oe
      obtain ⟨h1, h2⟩ := hz
      dsimp only at h1 h2 hv
      subst h1 h2 hv
      exact ⟨hget, rfl, rfl, trivial⟩
    exact PySem.W.kia_one (PySem.W.handS_kitx_exc hE.hg hE.hk hE.hs hE.hd hE.ha hE.hn hE.ht hE.hm) I.kIn J e (fun z => nomatch z) fun tk => ⟨.bl b, H, I.kept (t' := tk) fun _ _ z => z, rfl, q⟩
end L2
namespace Mi
open PySem PySem.Spec L2
/-- what is known of the classes of zs: each is caught as one of m -/
structure Xz (c : Cf) (m : Str) (zs : List Str) : Prop where
  ex : ∃ M : Addr, c.mg m = some (.ref M) ∧ ∀ z ∈ zs, ∃ C : Addr, c.mg z = some (.ref C) ∧ PySem.W.nsIn c.K mainGlobals z = some (some (.ref C)) ∧ PySem.W.exmOne c.K (.ref C) (.ref M) = some true
/-- what isinstance answers of an exception of each class, and of None, where t is the class that is asked for -/
structure Xi (c : Cf) (t : Value) (tab : List (Str × Bool)) : Prop where
  non : PySem.W.kitOne c.K (.type "NoneType") t = some false
  of : ∀ z b, tab.lookup z = some b → ∃ C : Addr, PySem.W.nsIn c.K mainGlobals z = some (some (.ref C)) ∧ ExcC c.K C ∧ PySem.W.kitOne c.K (.ref C) t = some b
section
variable {c : Cf} {W : WX}
abbrev XiOf (c : Cf) (t : Value) (tab : List (Str × Bool)) : Prop := ∀ z b, tab.lookup z = some b → ∃ C : Addr, PySem.W.nsIn c.K mainGlobals z = some (some (.ref C)) ∧ ExcC c.K C ∧ PySem.W.kitOne c.K (.ref C) t = some b
theorem Xi_nil {t : Value} : XiOf c t [] := fun z b h => nomatch h
theorem Xi_cons {t : Value} {z : Str} {b : Bool} {tab : List (Str × Bool)} (h : ∃ C : Addr, PySem.W.nsIn c.K mainGlobals z = some (some (.ref C)) ∧ ExcC c.K C ∧ PySem.W.kitOne c.K (.ref C) t = some b) (hs : XiOf c t tab) : XiOf c t ((z, b) :: tab) := fun y d e => by
  rw [List.lookup_cons] at e
  split at e
  · rename_i q
    cases e
    cases (eq_of_beq q)
    exact h
  · exact hs y d e
/-- try: u except m as n: g = n -/
@[simp] def sTryE (zs : List Str) (u : Sv) (i j : Nat) : Sv := fun ρ => match u ρ with
  | .exc z ρ' => if z ∈ zs ∧ i < ρ'.length ∧ j < ρ'.length then .nx (((ρ'.set i none).set j (some (.sh (.exo z)))).set i none) else .stuck
  | r => r
theorem ss_tryE {n g m : Str} {zs : List Str} {i j : Nat} {body : List Stmt} {np pos p2 pg ps pn1 : Pos} {u : Sv}
    (hx : Xz c m zs) (hN : c.N[i]? = some n) (hNg : c.N[j]? = some g) (hij : i ≠ j) (hn : c.sc.names.lookup n = some .local) (hg : c.sc.names.lookup g = some .local) (ht : c.top = true) (gm : c.sc.names.lookup m = some .globalImplicit)
    (hb : ∀ W, SSs c W body u)
    (hd : ([m, n, g].any fun z => z == ("__debug__" : Str) || z == ("__classdict__" : Str)) = false := by decide) :
    SS c W (.Try body [.ExceptHandler (some (.Name m np)) (some n) [.Assign [.Name g pg] (.Name n pn1) ps] p2] [] [] pos) (sTryE zs u i j) := by
  obtain ⟨M, mm, hz⟩ := hx.ex
  have hd' : ∀ z ∈ [m, n, g], (z == ("__debug__" : Str)) = false ∧ (z == ("__classdict__" : Str)) = false := fun z hz => by
    have := List.any_eq_false.mp hd z hz
    simpa [Bool.or_eq_true, not_or] using this
  have dn := hd' n (by simp)
  let tb : WX → TS := fun W => Classical.choose (hb W)
  have htb : ∀ W, (∀ X, GX c W X → PSs X body (tb W)) ∧ AdS c W (tb W) u := fun W => Classical.choose_spec (hb W)
  refine ⟨fun D σ H => tb (wKeepE c.K M i j D) D σ H, fun X G => ?_, fun G B H ρ σ E mt h => ?_⟩
  · rw [← G.K]
    exact ps_keepE (tb := tb) (G.top ht).1 (G.top ht).2 (G.ex ht) G.nd (by rw [G.N]; exact hN) (by rw [G.N]; exact hNg) hij (by show X.env.scope.names.lookup n = _; rw [G.sc]; exact hn) (by show X.env.scope.names.lookup g = _; rw [G.sc]; exact hg)
      ⟨by show X.env.scope.names.lookup m = _; rw [G.sc]; exact gm, (hd' m (by simp)).1, .inl (by rw [G.mg]; exact mm)⟩ dn.1 dn.2
      (fun W' pn xe tk po => (htb W').1 _ ⟨G.P, G.w, G.K, G.mg, G.base, G.N, G.nd, G.sc, G.calm, tk, po, G.room, G.fn, G.top, G.ex⟩)
  · refine (htb _).2 G B H ρ σ E mt ?_
    unfold sTryE at h
    cases hu : u ρ with
    | nx ρ' => rw [hu] at h; exact h
    | bk ρ' => rw [hu] at h; exact h
    | ct ρ' => rw [hu] at h; exact h
    | rt s => rw [hu] at h; exact h
    | stuck => rw [hu] at h; exact h.elim
    | exc z ρ' =>
      rw [hu] at h
      dsimp only at h
      split at h
      · rename_i q
        obtain ⟨hzz, hi, hj⟩ := q
        obtain ⟨C, mC0, nC, hCM⟩ := hz z hzz
        intro C' σ' B' H' mC s' m'
        rw [mC0] at mC
        cases mC
        refine ⟨C, rfl, rfl, hCM, fun a ha => ?_⟩
        have e1 : Ext B' H' (upd B' a (CaE C a)) (upd H' a (CaE C a)) := Ext.newB m'.ext.in_ ha
        have m2 := m'.go e1
        have k0 := (m2.kill i (σ'.set i (some (V.ref a))) (List.length_set ..) fun j' hj => List.getElem?_set_ne (Ne.symm hj)).setSh (i := j) (d := .exo z) (v := .ref a) ⟨a, C, rfl, nC, upd_same⟩
        exact h _ (upd B' a (CaE C a)) (upd H' a (CaE C a)) (s'.trans e1.b) (k0.kill i _ (List.length_set ..) fun j' hj => List.getElem?_set_ne (Ne.symm hj))
      · exact h.elim
def instD (tab : List (Str × Bool)) : D → R D
  | .exo z => match tab.lookup z with
    | some b => .ok (.bl b)
    | none => .stuck
  | .non => .ok (.bl false)
  | _ => .stuck
@[simp] theorem instD_non {tab : List (Str × Bool)} : instD tab .non = .ok (.bl false) := rfl
theorem instD_ex0 {tab : List (Str × Bool)} {z : Str} : instD tab (.exo z) = match tab.lookup z with
    | some b => .ok (.bl b)
    | none => .stuck := rfl
theorem instD_exo {tab : List (Str × Bool)} {z : Str} {b : Bool} (h : tab.lookup z = some b) : instD tab (.exo z) = .ok (.bl b) := by
  rw [instD_ex0, h]
@[simp] def eInst (tab : List (Str × Bool)) (f : Ev) : Ev := fun ρ => (f ρ).bind (instD tab)
theorem inst_of {K : PySem.W.Frag} {t : Value} {cv : V} {tab : List (Str × Bool)} (hc : ClsV cv t) {c : Cf} (hK : c.K = K) (hX : Xi c t tab) {σ : St} {B H : Hp} {W : WX} {d : D} {v : V} {Q : VK} (hr : RepT K B H d v) (hs : Same B H) {P : D → Hp → Hp → Prop}
    (h : Po c W σ B H (instD tab d) P) (hq : ∀ b, P (.bl b) B H → Q (.bl b) H) : rIsQ K [v, cv] H Q := by
  subst hK
  cases d with
  | non =>
    cases (show v = .non from hr)
    exact ⟨.non, cv, t, false, rfl, hc, hq _ (h B H (Ext.refl hs)), .inl ⟨rfl, hX.non⟩⟩
  | exo z =>
    obtain ⟨a, C, rfl, nC, hB⟩ := hr
    cases hl : tab.lookup z with
    | none =>
      rw [instD_ex0, hl] at h
      exact (show False from h).elim
    | some b =>
      rw [instD_exo hl] at h
      obtain ⟨C', nC', hE, hk⟩ := hX.of z b hl
      rw [nC] at nC'
      cases nC'
      exact ⟨.ref a, cv, t, b, rfl, hc, hq _ (h B H (Ext.refl hs)), .inr ⟨a, C, rfl, hs _ _ hB, hE, hk⟩⟩
  | _ => exact (show False from h).elim
theorem se_inst {x y : Str} {p pT pos : Pos} {a : Expr} {f : Ev} {D : Addr} {tab : List (Str × Bool)} (mD : c.mg y = some (.ref D)) (hX : Xi c (.ref D) tab) (hx : x = "isinstance") (hg : c.sc.names.lookup x = some .globalImplicit) (hm : c.mg x = none) (hgT : c.sc.names.lookup y = some .globalImplicit) (ha : SB c W a f)
    (hdT : (y == ("__debug__" : Str)) = false := by decide) (he : ∀ env, starEach [a, .Name y pT] env = (false, eval a env) :: starEach [.Name y pT] env := by intro _; rfl) : SE c W (.Call (.Name x p) [a, .Name y pT] [] pos) (eInst tab f) := by
  subst hx
  obtain ⟨t, k, ad⟩ := ha
  refine ⟨tCB (rIsQ c.K) (tCons t (tCons (tC (.ref D)) tNil)), fun X G => pe_callB (by rw [← G.K]; exact call_isQ) (by show X.env.scope.names.lookup _ = _; rw [G.sc]; exact hg) (by rw [G.mg]; exact hm) (by decide +kernel)
    (pa_cons (k X G) (pa_cons (pe_glob (v := .ref D) (by show X.env.scope.names.lookup y = _; rw [G.sc]; exact hgT) (by rw [G.mg]; exact mD) rfl hdT) pa_nil) (he X.env)) (by decide) (by decide) (he X.env) rfl, fun G B H ρ σ Q m hh => ?_⟩
  refine ad G B H ρ σ _ m ((Po.bind hh).imp fun d B1 H1 e1 h1 v r1 => ?_)
  exact inst_of (.own D) rfl hX r1 e1.in_ h1 fun b hb => hb _ rfl
theorem se_instV {x : Str} {p pT pos : Pos} {a : Expr} {f : Ev} {tab : List (Str × Bool)} (hX : Xi c (.type "ValueError") tab) (hx : x = "isinstance") (hg : c.sc.names.lookup x = some .globalImplicit) (hm : c.mg x = none) (hgT : c.sc.names.lookup ("ValueError" : Str) = some .globalImplicit) (hmT : c.mg "ValueError" = none) (ha : SB c W a f)
    (he : ∀ env, starEach [a, .Name "ValueError" pT] env = (false, eval a env) :: starEach [.Name "ValueError" pT] env := by intro _; rfl) : SE c W (.Call (.Name x p) [a, .Name "ValueError" pT] [] pos) (eInst tab f) := by
  subst hx
  obtain ⟨t, k, ad⟩ := ha
  refine ⟨tCB (rIsQ c.K) (tCons t (tCons (tC (.ty "ValueError")) tNil)), fun X G => pe_callB (by rw [← G.K]; exact call_isQ) (by show X.env.scope.names.lookup _ = _; rw [G.sc]; exact hg) (by rw [G.mg]; exact hm) (by decide +kernel)
    (pa_cons (k X G) (pa_cons (pe_bltn (v := .ty "ValueError") (by show X.env.scope.names.lookup _ = _; rw [G.sc]; exact hgT) (by rw [G.mg]; exact hmT) (by decide +kernel) rfl (by decide) (by decide)) pa_nil) (he X.env)) (by decide) (by decide) (he X.env) rfl, fun G B H ρ σ Q m hh => ?_⟩
  refine ad G B H ρ σ _ m ((Po.bind hh).imp fun d B1 H1 e1 h1 v r1 => ?_)
  exact inst_of (.ty "ValueError") rfl hX r1 e1.in_ h1 fun b hb => hb _ rfl
end
end Mi

/-! ### texts -/
namespace L2
open PySem PySem.Spec PyProof.Rows
/-- a text, so many times -/
def repS (x : Str) (n : Int) : Str := ⟨(List.replicate n.toNat (TL.tl x)).flatten.toArray⟩
theorem foldl_app {l : List (Array Nat)} : ∀ acc : Array Nat, (l.foldl (· ++ ·) acc).toList = acc.toList ++ (l.map Array.toList).flatten := by
  induction l with
  | nil => intro acc; simp
  | cons a l ih =>
    intro acc
    rw [List.foldl_cons, ih, Array.toList_append, List.map_cons, List.flatten_cons, List.append_assoc]
theorem repS_tl (x : Str) (n : Int) : TL.tl (repS x n) = (List.replicate n.toNat (TL.tl x)).flatten := rfl
theorem repS_eq (x : Str) (n : Int) : (⟨(List.replicate n.toNat x.cps).foldl (· ++ ·) #[]⟩ : Str) = repS x n := by
  refine TL.ext_tl ?_
  show ((List.replicate n.toNat x.cps).foldl (· ++ ·) #[]).toList = _
  rw [foldl_app, repS_tl, List.map_replicate]
  rfl
theorem repS_len (x : Str) (n : Int) : (repS x n).length = n.toNat * x.length := by
  rw [TL.len_tl, repS_tl, List.length_flatten, List.map_replicate, List.sum_replicate_nat, TL.len_tl]
def rMulS : R2 := fun x y H Q => ∃ (a : Str) (n : Int), x = .str a ∧ y = .int n ∧ -1000000 ≤ n ∧ n ≤ 1000000 ∧ a.length ≤ 1000000 ∧ a.length * n.toNat ≤ sizeLine ∧ Q (.str (repS a n)) H
theorem op_mulS {X : Cx} : OpR X (binaryOp .Mult) rMulS := by
  intro pins s σ H x y v u Q I rx ry h
  obtain ⟨a, n, rfl, rfl, h0, h1, h2, h3, q⟩ := h
  obtain ⟨t, rfl⟩ := rx
  obtain ⟨t', rfl⟩ := ry
  refine PySem.P.mul_str (by rw [decide_eq_false (by omega), decide_eq_false (by omega)]; rfl) (fun h4 h5 h6 => ?_) (fun h4 _ => ?_) ?_
  · have hn : 0 < n := by omega
    have e : (9223372036854775807 : Int) / 1000000 ≤ (2 ^ 63 - 1) / n := by
      rw [show (2 ^ 63 - 1 : Int) = 9223372036854775807 by decide]
      refine Int.le_ediv_of_mul_le hn ?_
      have : (9223372036854775807 : Int) / 1000000 * n ≤ 9223372036854775807 / 1000000 * 1000000 := Int.mul_le_mul_of_nonneg_left h1 (by decide)
      exact Int.le_trans this (by decide)
    have : (9223372036854775807 : Int) / 1000000 = 9223372036854 := by decide
    omega
  · unfold Builtin.Str.tooLong
    exact decide_eq_false (by omega)
  · have fit : (repS a n).length ≤ sizeLine := by rw [repS_len, Nat.mul_comm]; exact h3
    by_cases c1 : n < 1
    · rw [if_pos c1]
      have e : repS a n = Str.empty := by
        refine TL.ext_tl ?_
        rw [repS_tl, show n.toNat = 0 by omega]
        rfl
      rw [e] at q
      exact ⟨by decide, ⟨.str _, H, I.tok _, ⟨_, rfl⟩, q⟩⟩
    · rw [if_neg c1]
      by_cases c2 : (n == 1 || a.length == 0) = true
      · rw [if_pos c2]
        have e : repS a n = a := by
          refine TL.ext_tl ?_
          rw [repS_tl]
          rcases Bool.or_eq_true_iff.mp c2 with c2 | c2
          · rw [eq_of_beq c2]
            show ([TL.tl a]).flatten = _
            simp
          · have : TL.tl a = [] := List.length_eq_zero_iff.mp (by rw [← TL.len_tl]; exact eq_of_beq c2)
            rw [this]
            simp
        rw [e] at q
        exact ⟨.str _, H, I, ⟨_, rfl⟩, q⟩
      · rw [if_neg c2, repS_eq]
        exact ⟨fit, ⟨.str _, H, I.tok _, ⟨_, rfl⟩, q⟩⟩
end L2
namespace Mi
open PySem PySem.Spec L2 PyProof.Rows
theorem reps_strs {K : PySem.W.Frag} {B : Hp} : ∀ ys : List Str, Reps K B (ys.map D.str) (ys.map V.str)
  | [] => rfl
  | y :: ys => ⟨_, _, rfl, rfl, reps_strs ys⟩
def allS : List D → Option (List Str)
  | [] => some []
  | .str x :: ds => (allS ds).map (x :: ·)
  | _ :: _ => none
@[simp] theorem allS_strs : ∀ ys : List Str, allS (ys.map D.str) = some ys
  | [] => rfl
  | y :: ys => by rw [List.map_cons, allS, allS_strs ys] <;> rfl
theorem Reps.strs {K : PySem.W.Frag} {B : Hp} : ∀ {ds : List D} {vs : List V} {ns : List Str}, Reps K B ds vs → allS ds = some ns → vs = ns.map V.str
  | [], vs, ns, h, e => by
    cases e
    exact h
  | d :: ds, _, ns, ⟨v, r, rfl, h1, h2⟩, e => by
    cases d with
    | str i =>
      unfold allS at e
      cases e1 : allS ds with
      | none => rw [e1] at e; cases e
      | some ms =>
        rw [e1] at e
        cases e
        cases (show v = .str i from h1)
        rw [Reps.strs h2 e1, List.map_cons]
    | _ => cases e
/-- a number as it is written -/
def intS (i : Int) : Str := Str.ofString (toString i)
def strOk (i : Int) : Bool := decide (i.natAbs.log2 < 1920)
set_option exponentiation.threshold 4000 in
theorem strOk_of {i : Int} {b : Nat} (h : Bd b i) (hb : b ≤ 1920) : strOk i = true := by
  refine decide_eq_true ?_
  have h1 := h.lt
  by_cases z : i.natAbs = 0
  · rw [z]
    decide
  · exact (Nat.log2_lt z).mpr (Nat.lt_of_lt_of_le h1 (Nat.pow_le_pow_right (by decide) hb))
section
variable {c : Cf} {W : WX} {a b e : Expr} {es : List Expr} {f g : Ev} {pos : Pos}
@[simp] def oStr : List D → R D
  | [.int i] => if strOk i = true then .ok (.str (intS i)) else .stuck
  | _ => .stuck
theorem ac_str : AdC c W (fun xs H Q => ∃ i : Int, xs = [.int i] ∧ i.natAbs.log2 < 1920 ∧ Q (.str (toString i)) H) oStr := by
  intro σ B H ds vs Q s r h
  match ds, h with
  | [.int i], h =>
    obtain ⟨v, rfl, r1⟩ := r.one
    cases (show v = .int i from r1)
    have h' : Po c W σ B H (if strOk i = true then R.ok (D.str (intS i)) else .stuck) (fun d B' H' => ∀ v, Rep c.K B' d v → Q v H') := h
    by_cases hz : strOk i = true
    · rw [if_pos hz] at h'
      exact ⟨i, rfl, of_decide_eq_true hz, ok_refl h' s _ rfl⟩
    · rw [if_neg hz] at h'
      exact h'.elim
theorem se_strI {x : Str} {p : Pos} (hx : x = "str") (hg : c.sc.names.lookup x = some .globalImplicit) (hm : c.mg x = none) (ha : SB c W e f) (he : ∀ env, starEach [e] env = (false, eval e env) :: starEach [] env := by intro _; rfl) : SE c W (.Call (.Name x p) [e] [] pos) (eCall oStr (vCons f vNil)) := by
  subst hx
  exact se_callTy (fun X G => call_str_int) ac_str hg hm (by decide +kernel) (sbs_cons ha sbs_nil he) (by decide) (by decide) he (by intro _; rfl)
/-- int(text) -/
def oIntS : List D → R D
  | [.str x] => match PySem.intText? x with
    | some n => if x.length ≤ 640 then .ok (.int n) else .stuck
    | none => .stuck
  | _ => .stuck
theorem oIntS_ok {x : Str} {n : Int} (h : PySem.intText? x = some n) (hl : x.length ≤ 640) : oIntS [.str x] = .ok (.int n) := by
  show (match PySem.intText? x with
    | some n => if x.length ≤ 640 then R.ok (D.int n) else .stuck
    | none => .stuck) = _
  rw [h]
  exact if_pos hl
theorem ac_intS : AdC c W (fun xs H Q => ∃ a n, xs = [.str a] ∧ PySem.intText? a = some n ∧ a.length ≤ 640 ∧ Q (.int n) H) oIntS := by
  intro σ B H ds vs Q s r h
  match ds, h with
  | [.str x], h =>
    obtain ⟨v, rfl, r1⟩ := r.one
    cases (show v = .str x from r1)
    have h' : Po c W σ B H (match PySem.intText? x with
      | some n => if x.length ≤ 640 then R.ok (D.int n) else .stuck
      | none => .stuck) (fun d B' H' => ∀ v, Rep c.K B' d v → Q v H') := h
    cases hn : PySem.intText? x with
    | none => rw [hn] at h'; exact h'.elim
    | some n =>
      rw [hn] at h'
      dsimp only at h'
      by_cases hz : x.length ≤ 640
      · rw [if_pos hz] at h'
        exact ⟨x, n, rfl, hn, hz, ok_refl h' s _ rfl⟩
      · rw [if_neg hz] at h'
        exact h'.elim
theorem se_intS {x : Str} {p : Pos} (hx : x = "int") (hg : c.sc.names.lookup x = some .globalImplicit) (hm : c.mg x = none) (ha : SB c W e f) (he : ∀ env, starEach [e] env = (false, eval e env) :: starEach [] env := by intro _; rfl) : SE c W (.Call (.Name x p) [e] [] pos) (eCall oIntS (vCons f vNil)) := by
  subst hx
  exact se_callTy (fun X G => call_int_str) ac_intS hg hm (by decide +kernel) (sbs_cons ha sbs_nil he) (by decide) (by decide) he (by intro _; rfl)
/-- tuple(a list) -/
@[simp] def oTupL : List D → R D
  | [.lst ds] => .ok (.tup ds)
  | _ => .stuck
/-- one sign in a text -/
def signOf (x : Str) : Option Nat := match TL.tl x with
  | [k] => some k
  | _ => none
theorem signOf_eq {x : Str} {k : Nat} (h : signOf x = some k) : x = ⟨#[k]⟩ := by
  unfold signOf at h
  split at h
  · rename_i y hy
    cases h
    exact TL.ext_tl hy
  · cases h
@[simp] theorem signOf_one {k : Nat} : signOf ⟨#[k]⟩ = some k := rfl
def hasS (z : Str) (k : Nat) : Bool := decide (k ∈ z.cps.toList)
@[simp] def oInS : D → D → R D
  | .str x, .str z => match signOf x with
    | some k => .ok (.bl (hasS z k))
    | none => .stuck
  | _, _ => .stuck
@[simp] def oNotInS : D → D → R D
  | .str x, .str z => match signOf x with
    | some k => .ok (.bl (!hasS z k))
    | none => .stuck
  | _, _ => .stuck
theorem ad_inS : Ad2 c W (fun x y H Q => ∃ (k : Nat) (z : Str), x = .str ⟨#[k]⟩ ∧ y = .str z ∧ Q (.bl (decide (k ∈ z.cps.toList))) H) oInS := by
  intro σ B H x y v u Q s r1 r2 h
  cases x with
  | str x => cases y with
    | str z =>
      cases (show v = .str x from r1)
      cases (show u = .str z from r2)
      unfold oInS at h
      dsimp only at h
      cases hk : signOf x with
      | none => rw [hk] at h; exact h.elim
      | some k =>
        rw [hk] at h
        rw [signOf_eq hk]
        exact ⟨k, z, rfl, rfl, ok_refl h s _ rfl⟩
    | _ => exact h.elim
  | _ => exact h.elim
theorem ad_notInS : Ad2 c W (fun x y H Q => ∃ (k : Nat) (z : Str), x = .str ⟨#[k]⟩ ∧ y = .str z ∧ Q (.bl (!decide (k ∈ z.cps.toList))) H) oNotInS := by
  intro σ B H x y v u Q s r1 r2 h
  cases x with
  | str x => cases y with
    | str z =>
      cases (show v = .str x from r1)
      cases (show u = .str z from r2)
      unfold oNotInS at h
      dsimp only at h
      cases hk : signOf x with
      | none => rw [hk] at h; exact h.elim
      | some k =>
        rw [hk] at h
        rw [signOf_eq hk]
        exact ⟨k, z, rfl, rfl, ok_refl h s _ rfl⟩
    | _ => exact h.elim
  | _ => exact h.elim
theorem se_inS (ha : SB c W a f) (hb : SB c W b g) (hm : behindInMarks .In b = false := by rfl) : SE c W (.Compare a [.In] [b] pos) (eBin oInS f g) := se_cmp (fun _ _ => op_in_sign) ad_inS hm ha hb
theorem se_notInS (ha : SB c W a f) (hb : SB c W b g) (hm : behindInMarks .NotIn b = false := by rfl) : SE c W (.Compare a [.NotIn] [b] pos) (eBin oNotInS f g) := se_cmp (fun _ _ => op_notIn_sign) ad_notInS hm ha hb
theorem st_inS (ha : SB c W a f) (hb : SB c W b g) (hm : behindInMarks .In b = false := by rfl) : ST c W (.Compare a [.In] [b] pos) (tst (eBin oInS f g)) := st_cmp (fun _ _ => op_in_sign) ad_inS hm ha hb
theorem st_notInS (ha : SB c W a f) (hb : SB c W b g) (hm : behindInMarks .NotIn b = false := by rfl) : ST c W (.Compare a [.NotIn] [b] pos) (tst (eBin oNotInS f g)) := st_cmp (fun _ _ => op_notIn_sign) ad_notInS hm ha hb
/-- a text, so many times -/
@[simp] noncomputable def oMulS : D → D → R D
  | .str x, .int n => if -1000000 ≤ n ∧ n ≤ 1000000 ∧ x.length ≤ 1000000 ∧ x.length * n.toNat ≤ szL then .ok (.str (repS x n)) else .stuck
  | _, _ => .stuck
theorem ad_mulS : Ad2 c W rMulS oMulS := by
  intro σ B H x y v u Q s r1 r2 h
  cases x with
  | str x => cases y with
    | int n =>
      cases (show v = .str x from r1)
      cases (show u = .int n from r2)
      unfold oMulS at h
      dsimp only at h
      split at h
      · rename_i hz
        rw [szL_eq] at hz
        exact ⟨x, n, rfl, rfl, hz.1, hz.2.1, hz.2.2.1, hz.2.2.2, ok_refl h s _ rfl⟩
      · exact h.elim
    | _ => exact h.elim
  | _ => exact h.elim
theorem se_mulS (ha : SB c W a f) (hb : SB c W b g) : SE c W (.BinOp a .Mult b pos) (eBin oMulS f g) := se_bin (fun _ _ => op_mulS) ad_mulS ha hb
/-- a slice of a text -/
@[simp] noncomputable def eCutS (f : Ev) (l h : Eo) : Ev := fun ρ => (f ρ).bind fun x => (l ρ).bind fun lo => (h ρ).bind fun hi => match x with
  | .str z => if z.length ≤ szL then .ok (.str (cutS z lo hi)) else .stuck
  | _ => .stuck
theorem se_cutS {lo hi : Option Expr} {p2 : Pos} {l h : Eo} (ha : SB c W a f) (hl : SO c W lo l) (hh : SO c W hi h) : SE c W (.Subscript a (.Slice lo hi none p2) pos) (eCutS f l h) := by
  obtain ⟨ta, pa, aa⟩ := ha
  obtain ⟨tl, pl, al⟩ := hl
  obtain ⟨th, ph, ah⟩ := hh
  refine ⟨tSl rSlS ta tl th, fun X G => pe_slice sl_str (pa X G) (pl X G) (ph X G), fun G B H ρ σ Q m q => ?_⟩
  refine aa G B H ρ σ _ m ((Po.bind q).imp fun x B1 H1 e1 h1 v r1 => ?_)
  refine al G B1 H1 ρ σ _ (m.go e1) ((Po.bind h1).imp fun y B2 H2 e2 h2 => ?_)
  refine ah G B2 H2 ρ σ _ ((m.go e1).go e2) ((Po.bind h2).imp fun z B3 H3 e3 h3 => ?_)
  cases x with
  | str x =>
    cases (show v = .str x from r1)
    dsimp only at h3
    split at h3
    · rename_i hz
      rw [szL_eq] at hz
      exact ⟨x, rfl, hz, ok_refl h3 e3.in_ _ rfl⟩
    · exact h3.elim
  | _ => exact h3.elim
/-- x.split(sep) -/
@[simp] noncomputable def splitD (a : Str) : D → R (List D)
  | .str b => if (b.length == 0) = false ∧ a.length + 2 ≤ szL then .ok ((Txt.split a b).map D.str) else .stuck
  | _ => .stuck
@[simp] def asStr : D → R Str
  | .str a => .ok a
  | _ => .stuck
@[simp] noncomputable def eSplit (f g : Ev) : Es := fun ρ => ((f ρ).bind asStr).bind fun a => (g ρ).bind (splitD a)
theorem sf_split {apos : Pos} (ha : SE c W a f) (hb : SE c W b g) (hs : ∀ env, starEach [b] env = [(false, eval b env)] := by intro _; rfl)
    (hbase : ∀ env, attributeBase a "split" env (eval a env) = eval a env := by intro _; rfl) (hline : (apos.endLine == pos.line) = true := by rfl) : SF c W (.Call (.Attribute a "split" apos) [b] [] pos) (eSplit f g) := by
  obtain ⟨ta, pa, aa⟩ := ha
  obtain ⟨tb, pb, ab⟩ := hb
  refine ⟨_, fun X G => pe_split (pa X G) (pb X G) (hs X.env) (hbase X.env) hline, fun G B H ρ σ Q m q => ?_⟩
  have q' : Po c W σ B H ((f ρ).bind fun x => (asStr x).bind fun a => (g ρ).bind (splitD a)) (fun ds B' H' => ∀ p vs, H' p = some (.lst vs) → B' p = none → H p = none → Reps c.K B' ds vs → Q (.ref p) H') := by
    have e : ((f ρ).bind fun x => (asStr x).bind fun a => (g ρ).bind (splitD a)) = eSplit f g ρ := by
      unfold eSplit
      cases f ρ <;> rfl
    rw [e]
    exact q
  refine aa G B H ρ σ _ m ((Po.bind q').imp fun x B1 H1 e1 h1 v r1 => ?_)
  cases x with
  | str x =>
    cases (show v = .str x from r1)
    have h1' : Po c W σ B1 H1 ((g ρ).bind (splitD x)) _ := h1
    refine ⟨⟨x, rfl⟩, ab G B1 H1 ρ σ _ (m.go e1) ((Po.bind h1').imp fun y B2 H2 e2 h2 u r2 => ?_)⟩
    cases y with
    | str y =>
      cases (show u = .str y from r2)
      dsimp only [splitD] at h2
      split at h2
      · rename_i hz
        rw [szL_eq] at hz
        refine ⟨x, y, rfl, rfl, hz.1, hz.2, fun p hp => ?_⟩
        exact h2 _ _ (Ext.new e2.in_ hp) p _ upd_same (e2.in_.free hp) ((e1.trans e2).h.free hp) (reps_strs _)
      · exact h2.elim
    | _ => exact h2.elim
  | _ => exact h1.elim
/-- sep.join(a list of texts) -/
def joinD (a : Str) : D → R D
  | .lst ds => match allS ds with
    | some ys => if (ys.map fun (z : Str) => z.length).sum + ys.length * a.length ≤ 16777216 then .ok (.str (Txt.join a ys)) else .stuck
    | none => .stuck
  | _ => .stuck
theorem joinD_ok {a : Str} {ys : List Str} (h : (ys.map fun (z : Str) => z.length).sum + ys.length * a.length ≤ 16777216) : joinD a (.lst (ys.map D.str)) = .ok (.str (Txt.join a ys)) := by
  show (match allS (ys.map D.str) with
    | some ys => if (ys.map fun (z : Str) => z.length).sum + ys.length * a.length ≤ 16777216 then R.ok (D.str (Txt.join a ys)) else .stuck
    | none => .stuck) = _
  rw [allS_strs]
  exact if_pos h
def rJoin (K : PySem.W.Frag) : V → List V → Hp → VK → Prop := fun x xs H Q => ∃ a p, ∃ ys : List Str, x = .str a ∧ xs = [.ref p] ∧ (SqL K H p (ys.map V.str) ∨ SqT K H p (ys.map V.str)) ∧
      (ys.map fun (z : Str) => z.length).sum + ys.length * a.length ≤ 16777216 ∧ Q (.str (Txt.join a ys)) H
def eJoin (f g : Ev) : Ev := fun ρ => ((f ρ).bind asStr).bind fun a => (g ρ).bind (joinD a)
theorem se_join {apos : Pos} (ha : SE c W a f) (hb : SB c W b g) (hs : ∀ env, starEach [b] env = [(false, eval b env)] := by intro _; rfl)
    (hbase : ∀ env, attributeBase a "join" env (eval a env) = eval a env := by intro _; rfl) (hline : (apos.endLine == pos.line) = true := by rfl) : SE c W (.Call (.Attribute a "join" apos) [b] [] pos) (eJoin f g) := by
  obtain ⟨ta, pa, aa⟩ := ha
  obtain ⟨tb, pb, ab⟩ := hb
  refine ⟨tM1 (rJoin c.K) ta tb, fun X G => by rw [← G.K]; exact pe_join (pa X G) (pb X G) (hs X.env) (hbase X.env) hline, fun G B H ρ σ Q m q => ?_⟩
  have q' : Po c W σ B H ((f ρ).bind fun x => (asStr x).bind fun a => (g ρ).bind (joinD a)) (fun d B' H' => ∀ v, Rep c.K B' d v → Q v H') := by
    have e : ((f ρ).bind fun x => (asStr x).bind fun a => (g ρ).bind (joinD a)) = eJoin f g ρ := by
      unfold eJoin
      cases f ρ <;> rfl
    rw [e]
    exact q
  refine aa G B H ρ σ _ m ((Po.bind q').imp fun x B1 H1 e1 h1 v r1 => ?_)
  cases x with
  | str x =>
    cases (show v = .str x from r1)
    have h1' : Po c W σ B1 H1 ((g ρ).bind (joinD x)) _ := h1
    refine ⟨⟨x, rfl⟩, ab G B1 H1 ρ σ _ (m.go e1) ((Po.bind h1').imp fun y B2 H2 e2 h2 u r2 => ?_)⟩
    cases y with
    | lst ds =>
      obtain ⟨p, vs, rfl, q1, q2⟩ := r2
      have h2' : Po c W σ B2 H2 (match allS ds with
        | some ys => if (ys.map fun (z : Str) => z.length).sum + ys.length * x.length ≤ 16777216 then R.ok (D.str (Txt.join x ys)) else .stuck
        | none => .stuck) (fun d B' H' => ∀ v, Rep c.K B' d v → Q v H') := h2
      cases hk : allS ds with
      | none => rw [hk] at h2'; exact h2'.elim
      | some ys =>
        rw [hk] at h2'
        dsimp only at h2'
        by_cases hz : (ys.map fun (z : Str) => z.length).sum + ys.length * x.length ≤ 16777216
        · rw [if_pos hz] at h2'
          rw [q2.strs hk] at q1
          exact ⟨x, p, ys, rfl, rfl, .inl q1, hz, ok_refl h2' e2.in_ _ rfl⟩
        · rw [if_neg hz] at h2'
          exact h2'.elim
    | _ => exact h2.elim
  | _ => exact h1.elim
end
end Mi

/-! ### a new list that nobody keeps is changed -/
namespace Mi
open PySem PySem.Spec L2
section
variable {c : Cf} {W : WX} {a b e o : Expr} {es : List Expr} {f : Es} {g : Ev} {pos : Pos}
theorem Mt.loose {G : Gd} {B H B1 H1 B2 H2 : Hp} {ρ : En} {σ : St} (m : Mt c.K G B H ρ σ) (e1 : Ext B H B1 H1) (e2 : Ext B1 H1 B2 H2) {p : Addr} {vs : List V} {x : HO} (q1 : H1 p = some (.lst vs)) (q2 : B1 p = none) (q3 : H p = none) : Mt c.K G B2 (upd H2 p x) ρ σ := by
  have m1 := m.go e1
  have m2 := m1.go e2
  refine m2.put (e2.off p q2 (by rw [q1]; exact fun z => nomatch z)) (m.ext.h.free q3) fun j t u ht hu o => ?_
  obtain ⟨v, h1, h2⟩ := m.sl j t ht
  rw [hu] at h1
  cases h1
  have o' := h2.owB (H' := H2) (fun q us hq _ => (e1.trans e2).h _ _ hq) o
  obtain ⟨p', us, z, hp, _⟩ := h2.isA o'
  cases z
  rw [q3] at hp
  cases hp
/-- a new list is appended to -/
@[simp] noncomputable def sTmpApp (f : Es) (g : Ev) : Sv := fun ρ => thnS (f ρ) ρ fun ds => thnS (g ρ) ρ fun _ => if ds.length < szL then .nx ρ else .stuck
theorem ss_tmpApp {apos cpos : Pos} (ho : SF c W o f) (he : SE c W e g)
    (hbase : ∀ env, attributeBase o "append" env (eval o env) = eval o env := by intro _; rfl)
    (hfew : ∀ env, ((backTo cpos (starEach [e] env)).all (fun x => !x.1) && (backToKw cpos (keywordEach [] env)).all (fun x => x.1.isSome) && decide ([e].length + ([] : List Keyword).length + (if ([] : List Keyword).isEmpty then 0 else 1) < 30)) = true := by intro _; rfl)
    (hline : (apos.endLine == cpos.line) = true := by rfl) (hs : ∀ env, starEach [e] env = (false, eval e env) :: starEach [] env := by intro _; rfl) :
    SS c W (.Expr (.Call (.Attribute o "append" apos) [e] [] cpos) pos) (sTmpApp f g) := by
  obtain ⟨to, ko, ado⟩ := ho
  obtain ⟨t, k, ad⟩ := he
  refine ⟨tDrop (tBM c.K "list" rAppend to (tCons t tNil)), fun X G => ?_, fun G B H ρ σ E m h => ?_⟩
  · rw [← G.K]
    exact ps_expr (pe_bm PySem.F.plainAttrs_list PySem.F.slot_list_append PySem.F.type_list_append mt_append (ko X G) (pa_cons (k X G) pa_nil (hs X.env)) (hbase X.env) (hfew X.env) hline (hs X.env) rfl) rfl
  · unfold sTmpApp at h
    refine ado G B H ρ σ _ m ((Po.thn m h).imp fun ds B1 H1 e1 h1 p vs q1 q2 q3 q4 => ?_)
    refine ⟨.inl ⟨rfl, vs, SqL.of q1⟩, ad G B1 H1 ρ σ _ (m.go e1) ((Po.thn (m.go e1) h1).imp fun d B2 H2 e2 h2 y r2 => ?_)⟩
    split at h2
    · rename_i hz
      rw [szL_eq] at hz
      exact ⟨p, vs, y, rfl, rfl, e2.h _ _ q1, by rw [← q4.length]; exact hz, h2 σ B2 _ (Same.refl _) (m.loose e1 e2 q1 q2 q3)⟩
    · exact h2.elim
/-- a new list is cleared -/
@[simp] def sTmpClr (f : Es) : Sv := fun ρ => thnS (f ρ) ρ fun _ => .nx ρ
theorem ss_tmpClr {apos cpos : Pos} (ho : SF c W o f) (hbase : ∀ env, attributeBase o "clear" env (eval o env) = eval o env := by intro _; rfl)
    (hline : (apos.endLine == cpos.line) = true := by rfl) : SS c W (.Expr (.Call (.Attribute o "clear" apos) [] [] cpos) pos) (sTmpClr f) := by
  obtain ⟨to, ko, ado⟩ := ho
  refine ⟨tDrop (tBM0 c.K "list" rClear to), fun X G => ?_, fun G B H ρ σ E m h => ?_⟩
  · rw [← G.K]
    exact ps_expr (pe_bm0 PySem.F.plainAttrs_list PySem.F.slot_list_clear PySem.F.type_list_clear mt_clear (ko X G) (hbase X.env) hline) rfl
  · unfold sTmpClr at h
    refine ado G B H ρ σ _ m ((Po.thn m h).imp fun ds B1 H1 e1 h1 p vs q1 q2 q3 q4 => ?_)
    exact ⟨.inl ⟨rfl, vs, SqL.of q1⟩, p, vs, rfl, rfl, q1, h1 σ B1 _ (Same.refl _) (m.loose e1 (Ext.refl e1.in_) q1 q2 q3)⟩
end
end Mi

namespace Mi.Sh
open PySem PySem.Spec L2 Mi
-- shown_waking: 0:waking 1:period 2:first 3:length
noncomputable def t_shown_waking_1 : Sv :=
  sSeq (sIf (tst (eBin oEq (eLook 3) (eD (.int 1)))) (sRet (eBin oAdd (eBin oAdd (eCall oStr (vCons (eLook 1) vNil)) (eD (.str ":"))) (eCall oStr (vCons (eLook 2) vNil)))) (sNx)) (sRet (eBin oAdd (eBin oAdd (eBin oAdd (eBin oAdd (eCall oStr (vCons (eLook 1) vNil)) (eD (.str ":"))) (eCall oStr (vCons (eLook 2) vNil))) (eD (.str ":"))) (eCall oStr (vCons (eLook 3) vNil))))
noncomputable def b_shown_waking : Sv :=
  sSeq (sAsg (eVar 0) (gTupD 3 (gsCons (gSet 1) (gsCons (gSet 2) (gsCons (gSet 3) (gsNil)))))) (t_shown_waking_1)
noncomputable def m_shown_waking : List Sl → R Sl := hid (runB 4 b_shown_waking)
theorem m_shown_waking_eq : m_shown_waking = runB 4 b_shown_waking := hid_eq _
-- shown_plan: 0:plan 1:waking
noncomputable def b_shown_plan : Sv :=
  sSeq (sIf (tst (eBin oEq (eLook 0) (eLst (vNil)))) (sRet (eD (.str "never"))) (sNx)) (sRet (eJoin (eD (.str " ")) (eLst (eLc (iVar 0) (gSet 1) (tYesE) (eApp m_shown_waking (aVal (eVar 1) (aNil))) [1]))))
noncomputable def m_shown_plan : List Sl → R Sl := hid (runB 2 b_shown_plan)
theorem m_shown_plan_eq : m_shown_plan = runB 2 b_shown_plan := hid_eq _
-- number_of: 0:word 1:sign
noncomputable def u_number_of_1 : Sv :=
  sSeq (sIf (tst (eBin oNotInS (eLook 1) (eD (.str "0123456789")))) (sRaise "NoText") (sNx)) (sKill 1 (sNx))
noncomputable def t_number_of_2 : Sv :=
  sSeq (sFor (iStrD (eVar 0)) (gSet 1) (u_number_of_1)) (sRet (eCall oIntS (vCons (eLook 0) vNil)))
noncomputable def b_number_of : Sv :=
  sSeq (sIf (tOrE (tst (eBin oEq (eLook 0) (eD (.str "")))) (tOrE (tst (eBin oGt (eCall oLen (vCons (eLook 0) vNil)) (eD (.int 100)))) (tAndE (tst (eBin oEq (eBin oIx (eLook 0) (eD (.int 0))) (eD (.str "0")))) (tst (eBin oGt (eCall oLen (vCons (eLook 0) vNil)) (eD (.int 1))))))) (sRaise "NoText") (sNx)) (t_number_of_2)
noncomputable def m_number_of : List Sl → R Sl := hid (runB 2 b_number_of)
theorem m_number_of_eq : m_number_of = runB 2 b_number_of := hid_eq _
-- read_waking: 0:word 1:numbers 2:part
noncomputable def t_read_waking_1 : Sv :=
  sSeq (sIf (tst (eBin oEq (eCall oLen (vCons (eLook 1) vNil)) (eD (.int 3)))) (sRet (eTup (vCons (eBin oIx (eLook 1) (eD (.int 0))) (vCons (eBin oIx (eLook 1) (eD (.int 1))) (vCons (eBin oIx (eLook 1) (eD (.int 2))) (vNil)))))) (sNx)) (sRaise "NoText")
noncomputable def t_read_waking_2 : Sv :=
  sFrz 1 (sSeq (sIf (tst (eBin oEq (eCall oLen (vCons (eLook 1) vNil)) (eD (.int 2)))) (sRet (eTup (vCons (eBin oIx (eLook 1) (eD (.int 0))) (vCons (eBin oIx (eLook 1) (eD (.int 1))) (vCons (eD (.int 1)) (vNil)))))) (sNx)) (t_read_waking_1))
noncomputable def b_read_waking : Sv :=
  sSeq (sSetF 1 (eLc (iSeq (eLst (eSplit (eVar 0) (eD (.str ":"))))) (gSet 2) (tYesE) (eApp m_number_of (aVal (eVar 2) (aNil))) [2])) (t_read_waking_2)
noncomputable def m_read_waking : List Sl → R Sl := hid (runB 3 b_read_waking)
theorem m_read_waking_eq : m_read_waking = runB 3 b_read_waking := hid_eq _
-- read_plan: 0:text 1:words 2:word
noncomputable def t_read_plan_1 : Sv :=
  sFrz 1 (sSeq (sIf (tst (eBin oGt (eCall oLen (vCons (eLook 1) vNil)) (eD (.int 12)))) (sRaise "NoText") (sNx)) (sRetF (eAppF m_plan_of (aVal (eLst (eLc (iVar 1) (gSet 2) (tYesE) (eApp m_read_waking (aVal (eVar 2) (aNil))) [2])) (aNil)))))
noncomputable def t_read_plan_2 : Sv :=
  sSeq (sSetF 1 (eSplit (eVar 0) (eD (.str " ")))) (t_read_plan_1)
noncomputable def b_read_plan : Sv :=
  sSeq (sIf (tst (eBin oEq (eLook 0) (eD (.str "never")))) (sRetF (eAppF m_plan_of (aVal (eLst (vNil)) (aNil)))) (sNx)) (t_read_plan_2)
noncomputable def m_read_plan : List Sl → R Sl := hid (runB 3 b_read_plan)
theorem m_read_plan_eq : m_read_plan = runB 3 b_read_plan := hid_eq _
end Mi.Sh

namespace Mi.Sh
open PySem PySem.Spec L2 Mi
theorem tl_dig : ("0123456789" : Str).cps.toList = [48, 49, 50, 51, 52, 53, 54, 55, 56, 57] := by decide
theorem in_dig (k : Nat) : k ∈ ("0123456789" : Str).cps.toList ↔ 48 ≤ k ∧ k ≤ 57 := by
  rw [tl_dig]
  simp only [List.mem_cons, List.not_mem_nil, or_false]
  omega
def isDig (k : Nat) : Bool := decide (48 ≤ k ∧ k ≤ 57)
theorem dec_dig (k : Nat) : hasS "0123456789" k = isDig k := by
  unfold isDig hasS
  exact decide_eq_decide.mpr (in_dig k)
/-- the signs write a number -/
def numOk (l : List Nat) : Bool := !l.isEmpty && (decide (l.length ≤ 100) && (!(decide (l.head? = some 48) && decide (1 < l.length)) && l.all isDig))
def numV (l : List Nat) : Int := ((NumText.digitsVal l : Nat) : Int)
theorem str_empty {w : Str} : w = ("" : Str) ↔ TL.tl w = [] := ⟨fun h => by rw [h]; rfl, fun h => TL.ext_tl (by rw [h]; rfl)⟩
theorem one_zero {k : Nat} : ((⟨#[k]⟩ : Str) = ("0" : Str)) ↔ k = 48 := ⟨fun h => by
  have := congrArg TL.tl h
  have e : TL.tl ("0" : Str) = [48] := by decide
  rw [e] at this
  exact (List.cons.inj this).1, fun h => by rw [h]; exact TL.ext_tl (by decide)⟩
theorem dig_loop {s : Option Sl} : ∀ l : List Nat, (l.all isDig = true → forR (gSet 1) u_number_of_1 (l.map fun k => .str ⟨#[k]⟩) [s, none] = .nx [s, none]) ∧ (l.all isDig = false → ∃ ρ, forR (gSet 1) u_number_of_1 (l.map fun k => .str ⟨#[k]⟩) [s, none] = .exc "NoText" ρ)
  | [] => ⟨fun _ => rfl, fun h => by cases h⟩
  | k :: l => by
    obtain ⟨i1, i2⟩ := dig_loop (s := s) l
    rw [List.map_cons, List.all_cons]
    cases h : isDig k with
    | true =>
      have st : turnB (gSet 1) u_number_of_1 (.str ⟨#[k]⟩) [s, none] = .nx [s, none] := by
        simp -implicitDefEqProofs [turnB, u_number_of_1, dec_dig, h]
      rw [forR_nx st, Bool.true_and]
      exact ⟨i1, i2⟩
    | false =>
      refine ⟨fun z => (by cases z), fun _ => ?_⟩
      have st : turnB (gSet 1) u_number_of_1 (.str ⟨#[k]⟩) [s, none] = .exc "NoText" [s, some (.sh (.str ⟨#[k]⟩))] := by
        simp -implicitDefEqProofs [turnB, u_number_of_1, dec_dig, h]
      exact ⟨_, forR_exc st⟩
theorem number_of_ok {w : Str} (h : numOk (TL.tl w) = true) : m_number_of [.sh (.str w)] = .ok (.sh (.int (numV (TL.tl w)))) := by
  unfold numOk at h
  simp only [Bool.and_eq_true, Bool.not_eq_true', decide_eq_true_eq, List.isEmpty_eq_false_iff] at h
  obtain ⟨h1, h2, h3, h4⟩ := h
  have lw : w.length = (TL.tl w).length := TL.len_tl w
  obtain ⟨k, r, hk⟩ : ∃ k r, TL.tl w = k :: r := by
    cases e : TL.tl w with
    | nil => exact absurd e h1
    | cons k r => exact ⟨k, r, rfl⟩
  have hx : atI w.cps.toList 0 = some k := by
    rw [show w.cps.toList = k :: r from hk, atI_nat (by decide) (by simp)]
    rfl
  have d1 : ¬ w = ("" : Str) := fun z => h1 (str_empty.mp z)
  have d2 : ¬ ((100 : Int) < (w.length : Int)) := by omega
  have hz : w.length ≤ szL := le_szL (by omega)
  have lp := (dig_loop (s := some (.sh (.str w))) (TL.tl w)).1 h4
  have e2 := sFor_at (f := iStrD (eVar 0)) (ρ := [some (.sh (.str w)), none]) (by simp; rfl) lp
  have ad : NumText.AllDigits (TL.tl w) := fun c hc => of_decide_eq_true (List.all_eq_true.mp h4 c hc)
  have ei : oIntS [.str w] = .ok (.int (numV (TL.tl w))) := oIntS_ok (by
    have := intText_digits (x := w) ad h1 (by omega)
    exact this) (by omega)
  have d3 : ((⟨#[k]⟩ : Str) = ("0" : Str)) = (k = 48) := propext one_zero
  have e3 : (k = 48 → ¬ ((1 : Int) < (w.length : Int))) := fun z y => by
    have y : 1 < w.length := by omega
    rw [hk] at h3
    rw [z, List.head?_cons] at h3
    have : 1 < (48 :: r).length := by rw [lw, hk, z] at y; exact y
    rw [decide_eq_true rfl, decide_eq_true this] at h3
    cases h3
  rw [m_number_of_eq]
  refine runB_rt ?_
  by_cases q : k = 48
  · have e4 := e3 q
    subst q
    have d4 : ((⟨#[48]⟩ : Str) = ("0" : Str)) = True := eq_true (one_zero.mpr rfl)
    simp -implicitDefEqProofs [b_number_of, oEq_str, d1, d2, hz, hx, d4, e4, t_number_of_2, e2, ei]
  · simp -implicitDefEqProofs [b_number_of, oEq_str, d1, d2, hz, hx, d3, q, t_number_of_2, e2, ei]
theorem number_of_no {w : Str} (hl : w.length < 1000000) (h : numOk (TL.tl w) = false) : m_number_of [.sh (.str w)] = .exc "NoText" := by
  have lw : w.length = (TL.tl w).length := TL.len_tl w
  rw [m_number_of_eq]
  by_cases h1 : w = ("" : Str)
  · exact runB_exc (ρ := [some (.sh (.str w)), none]) (by
      subst h1
      simp -implicitDefEqProofs [b_number_of])
  have d1 : ¬ w = ("" : Str) := h1
  have hz : w.length ≤ szL := le_szL (by omega)
  by_cases h2 : (100 : Int) < (w.length : Int)
  · exact runB_exc (ρ := [some (.sh (.str w)), none]) (by
      simp -implicitDefEqProofs [b_number_of, oEq_str, d1, h2, hz])
  have n1 : TL.tl w ≠ [] := fun z => h1 (str_empty.mpr z)
  obtain ⟨k, r, hk⟩ : ∃ k r, TL.tl w = k :: r := by
    cases e : TL.tl w with
    | nil => exact absurd e n1
    | cons k r => exact ⟨k, r, rfl⟩
  have hx : atI w.cps.toList 0 = some k := by
    rw [show w.cps.toList = k :: r from hk, atI_nat (by decide) (by simp)]
    rfl
  have d3 : ((⟨#[k]⟩ : Str) = ("0" : Str)) = (k = 48) := propext one_zero
  by_cases h3 : k = 48 ∧ (1 : Int) < (w.length : Int)
  · obtain ⟨h3a, h3b⟩ := h3
    subst h3a
    have d4 : ((⟨#[48]⟩ : Str) = ("0" : Str)) = True := eq_true (one_zero.mpr rfl)
    exact runB_exc (ρ := [some (.sh (.str w)), none]) (by
      simp -implicitDefEqProofs [b_number_of, oEq_str, d1, h2, hz, hx, d4, h3b])
  · have h4 : (TL.tl w).all isDig = false := by
      cases q : (TL.tl w).all isDig with
      | false => rfl
      | true =>
        have : numOk (TL.tl w) = true := by
          unfold numOk
          simp only [Bool.and_eq_true, Bool.not_eq_true', decide_eq_true_eq, List.isEmpty_eq_false_iff]
          refine ⟨n1, by omega, ?_, q⟩
          cases z : (decide ((TL.tl w).head? = some 48) && decide (1 < (TL.tl w).length)) with
          | false => rfl
          | true =>
            simp only [Bool.and_eq_true, decide_eq_true_eq] at z
            have z2 := z.2
            have z1 := z.1
            rw [hk, List.head?_cons] at z1
            exact absurd ⟨Option.some.inj z1, by omega⟩ h3
        rw [h] at this
        cases this
    obtain ⟨ρ, lp⟩ := (dig_loop (s := some (.sh (.str w))) (TL.tl w)).2 h4
    have e2 := sFor_at (f := iStrD (eVar 0)) (ρ := [some (.sh (.str w)), none]) (by simp; rfl) lp
    refine runB_exc (ρ := ρ) ?_
    by_cases q : k = 48
    · have e4 : ¬ (1 : Int) < (w.length : Int) := fun z => h3 ⟨q, z⟩
      subst q
      have d4 : ((⟨#[48]⟩ : Str) = ("0" : Str)) = True := eq_true (one_zero.mpr rfl)
      simp -implicitDefEqProofs [b_number_of, oEq_str, d1, h2, hz, hx, d4, e4, t_number_of_2, e2]
    · simp -implicitDefEqProofs [b_number_of, oEq_str, d1, h2, hz, hx, d3, q, t_number_of_2, e2]
end Mi.Sh

namespace Mi.Sh
open PySem PySem.Spec L2 Mi
theorem tl_intS (n : Nat) : TL.tl (intS (n : Int)) = TL.numL n := TL.tl_num n
theorem tl_intI {i : Int} (h : 0 ≤ i) : TL.tl (intS i) = TL.numL i.toNat := by
  have := tl_intS i.toNat
  rwa [Int.toNat_of_nonneg h] at this
theorem len_app (x y : Str) : (x ++ y).length = x.length + y.length := by
  rw [TL.len_tl, TL.tl_append, List.length_append, ← TL.len_tl, ← TL.len_tl]
theorem numL_head {n : Nat} : 10 ≤ n → (TL.numL n).head? ≠ some 48 := by
  induction n using Nat.strongRecOn with
  | _ n ih =>
    intro h
    rw [TL.numL_step h]
    by_cases q : n / 10 < 10
    · rw [TL.numL_lt q]
      intro z
      have : 48 + n / 10 = 48 := Option.some.inj z
      omega
    · have := ih (n / 10) (by omega) (by omega)
      intro z
      apply this
      rw [List.head?_append] at z
      cases e : (TL.numL (n / 10)).head? with
      | none => exact absurd (List.head?_eq_none_iff.mp e) (TL.numL_ne _)
      | some c =>
        rw [e] at z
        exact z
theorem numOk_num {n : Nat} (h : n < 10 ^ 100) : numOk (TL.numL n) = true := by
  have l := TL.numL_len (n := n) (k := 100) (by decide) h
  unfold numOk
  simp only [Bool.and_eq_true, Bool.not_eq_true', decide_eq_true_eq, List.isEmpty_eq_false_iff]
  refine ⟨TL.numL_ne n, l, ?_, List.all_eq_true.mpr fun c hc => decide_eq_true (TL.numL_digits n c hc)⟩
  by_cases q : n < 10
  · rw [TL.numL_lt q]
    simp
  · have := numL_head (n := n) (by omega)
    simp [this]
theorem numV_num (n : Nat) : numV (TL.numL n) = (n : Int) := by
  unfold numV
  rw [TL.numL_val]
/-- a number that is written in a hundred signs -/
structure Nn (i : Int) : Prop where
  nn : 0 ≤ i
  lt : i < 10 ^ 100
theorem Nn.nat {i : Int} (h : Nn i) : i.toNat < 10 ^ 100 := by
  have := h.lt
  have := h.nn
  omega
theorem Nn.bd {i : Int} (h : Nn i) : Bd 400 i := ⟨by
  have := h.nat
  have := h.nn
  have e : i.natAbs = i.toNat := by omega
  rw [e]
  exact Nat.lt_of_lt_of_le h.nat (by decide)⟩
theorem Nn.strOk {i : Int} (h : Nn i) : strOk i = true := strOk_of h.bd (by decide)
theorem Nn.len {i : Int} (h : Nn i) : (intS i).length ≤ 100 := by
  rw [TL.len_tl, tl_intI h.nn]
  exact TL.numL_len (by decide) h.nat
theorem number_of_intS {i : Int} (h : Nn i) : m_number_of [.sh (.str (intS i))] = .ok (.sh (.int i)) := by
  have e := number_of_ok (w := intS i) (by rw [tl_intI h.nn]; exact numOk_num h.nat)
  rw [tl_intI h.nn, numV_num, Int.toNat_of_nonneg h.nn] at e
  exact e
theorem mem_joinL {S : List Nat} {c : Nat} : ∀ {ps : List (List Nat)}, c ∈ TL.joinL S ps → c ∈ S ∨ ∃ p ∈ ps, c ∈ p
  | [], h => by cases h
  | [p], h => .inr ⟨p, List.mem_singleton.mpr rfl, h⟩
  | p :: q :: r, h => by
    have h' : c ∈ p ++ (S ++ TL.joinL S (q :: r)) := h
    rcases List.mem_append.mp h' with h1 | h1
    · exact .inr ⟨p, List.mem_cons_self .., h1⟩
    · rcases List.mem_append.mp h1 with h1 | h1
      · exact .inl h1
      · rcases mem_joinL h1 with h2 | ⟨z, hz, h2⟩
        · exact .inl h2
        · exact .inr ⟨z, List.mem_cons_of_mem _ hz, h2⟩
theorem mem_join {y : Str} {c : Nat} {ps : List Str} (h : c ∈ TL.tl (Txt.join y ps)) : c ∈ TL.tl y ∨ ∃ p ∈ ps, c ∈ TL.tl p := by
  rw [TL.join_eq, TL.tl_join] at h
  rcases mem_joinL h with h | ⟨p, hp, h⟩
  · exact .inl h
  · obtain ⟨q, hq, rfl⟩ := List.mem_map.mp hp
    exact .inr ⟨q, hq, h⟩
theorem join2 (y a b : Str) : Txt.join y [a, b] = a ++ y ++ b := TL.join_eq y [a, b]
theorem join3 (y a b d : Str) : Txt.join y [a, b, d] = a ++ y ++ b ++ y ++ d := by
  rw [TL.join_eq]
  refine TL.ext_tl ?_
  show TL.tl (a ++ y ++ (b ++ y ++ d)) = _
  simp only [TL.tl_append, List.append_assoc]
theorem len_join {y : Str} {k : Nat} : ∀ {ps : List Str}, (∀ p ∈ ps, p.length ≤ k) → (Txt.join y ps).length ≤ ps.length * (k + y.length)
  | [], _ => by rw [TL.join_eq]; exact Nat.zero_le _
  | [p], h => by
    rw [TL.join_eq]
    have := h p (List.mem_singleton.mpr rfl)
    show p.length ≤ _
    rw [List.length_singleton, Nat.one_mul]
    omega
  | p :: q :: r, h => by
    have ih := len_join (y := y) (ps := q :: r) fun z hz => h z (List.mem_cons_of_mem _ hz)
    have hp := h p (List.mem_cons_self ..)
    rw [TL.join_eq] at ih ⊢
    show (p ++ y ++ Str.join y (q :: r)).length ≤ _
    rw [len_app, len_app, List.length_cons, Nat.succ_mul]
    omega
theorem sum_len {k : Nat} : ∀ {ps : List Str}, (∀ p ∈ ps, p.length ≤ k) → (ps.map fun (z : Str) => z.length).sum ≤ ps.length * k
  | [], _ => Nat.zero_le _
  | p :: ps, h => by
    have ih := sum_len (ps := ps) fun z hz => h z (List.mem_cons_of_mem _ hz)
    have hp := h p (List.mem_cons_self ..)
    rw [List.map_cons, List.sum_cons, List.length_cons, Nat.succ_mul]
    omega
theorem join_fits {y : Str} {k n : Nat} {ps : List Str} (h : ∀ p ∈ ps, p.length ≤ k) (hn : ps.length ≤ n) (hy : y.length ≤ 10) (hk : n * k + n * 10 ≤ 16777216) : joinD y (.lst (ps.map D.str)) = .ok (.str (Txt.join y ps)) := by
  refine joinD_ok ?_
  have a := sum_len h
  have b : ps.length * k ≤ n * k := Nat.mul_le_mul_right _ hn
  have c : ps.length * y.length ≤ n * 10 := Nat.mul_le_mul hn hy
  omega
theorem txtOk_of {x : Str} (h : ∀ c ∈ TL.tl x, c < 0x110000) : okD (.str x) = true := by
  show x.cps.all (· < 0x110000) = true
  rw [← Array.all_toList]
  exact List.all_eq_true.mpr fun c hc => decide_eq_true (h c hc)
theorem okDs_mem : ∀ {ds : List D}, (∀ d ∈ ds, okD d = true) → okDs ds = true
  | [], _ => rfl
  | d :: ds, h => by
    show (okD d && okDs ds) = true
    rw [h d (List.mem_cons_self ..), okDs_mem fun e he => h e (List.mem_cons_of_mem _ he)]
    rfl
theorem oEq_txts_nil {ys : List Str} (h : ∀ y ∈ ys, ∀ c ∈ TL.tl y, c < 0x110000) : oEq (.lst (ys.map D.str)) (.lst []) = .ok (.bl ys.isEmpty) := by
  rw [oEq_nil (okDs_mem fun d hd => by
    obtain ⟨y, hy, rfl⟩ := List.mem_map.mp hd
    exact txtOk_of (h y hy)) (Nat.le_trans (depDs_map (f := D.str) (k := 0) (fun x => Nat.le_refl 0) _) (by decide))]
  cases ys <;> rfl
/-! ### wakings -/
def wI (sh : Bool) (w : Wk3) : List Int := if sh = true ∧ w.2.2 = 1 then [w.1, w.2.1] else [w.1, w.2.1, w.2.2]
def wT (sh : Bool) (w : Wk3) : Str := Txt.join ":" ((wI sh w).map intS)
def planT (sh : Bool) (ws : List Wk3) : Str := if ws.isEmpty = true then "never" else Txt.join " " (ws.map (wT sh))
structure Nw (w : Wk3) : Prop where
  p : Nn w.1
  f : Nn w.2.1
  l : Nn w.2.2
theorem Nw.all {w : Wk3} (h : Nw w) (sh : Bool) : ∀ i ∈ wI sh w, Nn i := fun i hi => by
  unfold wI at hi
  split at hi
  · rcases List.mem_cons.mp hi with rfl | hi
    · exact h.p
    · rw [List.mem_singleton.mp hi]; exact h.f
  · rcases List.mem_cons.mp hi with rfl | hi
    · exact h.p
    · rcases List.mem_cons.mp hi with rfl | hi
      · exact h.f
      · rw [List.mem_singleton.mp hi]; exact h.l
theorem wI_len (sh : Bool) (w : Wk3) : (wI sh w).length ≤ 3 ∧ wI sh w ≠ [] := by
  unfold wI
  split <;> simp
theorem wT_len {w : Wk3} (h : Nw w) (sh : Bool) : (wT sh w).length ≤ 303 := by
  have := len_join (y := ":") (k := 100) (ps := (wI sh w).map intS) fun p hp => by
    obtain ⟨i, hi, rfl⟩ := List.mem_map.mp hp
    exact (h.all sh i hi).len
  have l := (wI_len sh w).1
  rw [List.length_map] at this
  have e : (":" : Str).length = 1 := by decide
  rw [e] at this
  have : (wI sh w).length * 101 ≤ 3 * 101 := Nat.mul_le_mul_right _ l
  unfold wT
  omega
theorem wT_free {w : Wk3} (h : Nw w) {sh : Bool} {c : Nat} (hc : c ∈ TL.tl (wT sh w)) : 48 ≤ c ∧ c ≤ 58 := by
  rcases mem_join hc with hc | ⟨p, hp, hc⟩
  · have e : TL.tl (":" : Str) = [58] := by decide
    rw [e, List.mem_singleton] at hc
    omega
  · obtain ⟨i, hi, rfl⟩ := List.mem_map.mp hp
    rw [tl_intI (h.all sh i hi).nn] at hc
    have := TL.numL_digits _ c hc
    omega
theorem planT_len {ws : List Wk3} (h : ∀ w ∈ ws, Nw w) (sh : Bool) (hl : ws.length ≤ 1000) : (planT sh ws).length ≤ 304000 := by
  unfold planT
  split
  · decide
  · have := len_join (y := " ") (k := 303) (ps := ws.map (wT sh)) fun p hp => by
      obtain ⟨w, hw, rfl⟩ := List.mem_map.mp hp
      exact wT_len (h w hw) sh
    have e : (" " : Str).length = 1 := by decide
    rw [e, List.length_map] at this
    have : ws.length * 304 ≤ 1000 * 304 := Nat.mul_le_mul_right _ hl
    omega
theorem planT_never {ws : List Wk3} (h : ∀ w ∈ ws, Nw w) (sh : Bool) (hn : ws ≠ []) : planT sh ws ≠ "never" := fun z => by
  unfold planT at z
  rw [if_neg (by rw [List.isEmpty_iff]; exact hn)] at z
  have hm : 110 ∈ TL.tl (Txt.join " " (ws.map (wT sh))) := by
    rw [z]
    decide
  rcases mem_join hm with hc | ⟨p, hp, hc⟩
  · revert hc
    decide
  · obtain ⟨w, hw, rfl⟩ := List.mem_map.mp hp
    have := wT_free (h w hw) hc
    omega
theorem shown_waking_ok {w : Wk3} (h : Nw w) : m_shown_waking [.sh (wkD w)] = .ok (.sh (.str (wT true w))) := by
  have a := h.p.strOk
  have b := h.f.strOk
  have d := h.l.strOk
  have la := h.p.len
  have lb := h.f.len
  have ld := h.l.len
  have e1 : (":" : Str).length = 1 := by decide
  rw [m_shown_waking_eq]
  refine runB_rt ?_
  have z1 : (intS w.1).length + (":" : Str).length ≤ szL := le_szL (by omega)
  have z2 : (intS w.1 ++ ":").length + (intS w.2.1).length ≤ szL := le_szL (by rw [len_app]; omega)
  have z3 : (intS w.1 ++ ":" ++ intS w.2.1).length + (":" : Str).length ≤ szL := le_szL (by rw [len_app, len_app]; omega)
  have z4 : (intS w.1 ++ ":" ++ intS w.2.1 ++ ":").length + (intS w.2.2).length ≤ szL := le_szL (by rw [len_app, len_app, len_app]; omega)
  by_cases q : w.2.2 = 1
  · have e : wT true w = intS w.1 ++ ":" ++ intS w.2.1 := by
      unfold wT wI
      rw [if_pos ⟨rfl, q⟩]
      exact join2 ..
    rw [e]
    simp -implicitDefEqProofs [b_shown_waking, wkD, t_shown_waking_1, q, a, b, z1, z2]
  · have e : wT true w = intS w.1 ++ ":" ++ intS w.2.1 ++ ":" ++ intS w.2.2 := by
      unfold wT wI
      rw [if_neg (fun z => q z.2)]
      exact join3 ..
    rw [e]
    simp -implicitDefEqProofs [b_shown_waking, wkD, t_shown_waking_1, q, a, b, d, z1, z2, z3, z4]
theorem shown_plan_ok {ws : List Wk3} (h : ∀ w ∈ ws, Nw w) (hl : ws.length ≤ 1000) : m_shown_plan [.sh (.lst (ws.map wkD))] = .ok (.sh (.str (planT true ws))) := by
  have e0 := @oEq_wks_nil ws
  have lc := lcR_map (gt := gSet 1) (p := tYesE) (f := eApp m_shown_waking (aVal (eVar 1) (aNil))) (ρ := [some (.sh (.lst (ws.map wkD))), none]) wkD (fun w => .str (wT true w)) ws fun w hw => by
    have := shown_waking_ok (h w hw)
    generalize ws.map wkD = W at *
    generalize wkD w = WW at *
    simp -implicitDefEqProofs [this]
  have e1 := eLc_ok (fi := iVar 0) (ρ := [some (.sh (.lst (ws.map wkD))), none]) (vs := [1]) (items := ws.map wkD) rfl (by rw [List.length_map]; omega) lc
  have e2 : (ws.map fun w => D.str (wT true w)) = (ws.map (wT true)).map D.str := by rw [List.map_map]; rfl
  rw [e2] at e1
  have e3 := join_fits (y := " ") (k := 303) (n := 1000) (ps := ws.map (wT true)) (fun p hp => by
    obtain ⟨w, hw, rfl⟩ := List.mem_map.mp hp
    exact wT_len (h w hw) true) (by rw [List.length_map]; exact hl) (by decide) (by decide)
  rw [m_shown_plan_eq]
  refine runB_rt ?_
  unfold planT
  by_cases z : ws.isEmpty = true
  · rw [z] at e0
    rw [if_pos z]
    generalize ws.map wkD = W at *
    simp -implicitDefEqProofs [b_shown_plan, e0]
  · have z' : ws.isEmpty = false := by simpa using z
    rw [z'] at e0
    rw [if_neg z]
    generalize (ws.map (wT true)).map D.str = T at *
    generalize ws.map wkD = W at *
    simp -implicitDefEqProofs [b_shown_plan, e0, e1, eJoin, e3]
theorem read_waking_ok {w : Wk3} (h : Nw w) (sh : Bool) : m_read_waking [.sh (.str (wT sh w))] = .ok (.sh (wkD w)) := by
  have ll := wT_len h sh
  have es : Txt.split (wT sh w) ":" = (wI sh w).map intS := by
    refine TL.split_join (s := 58) (S := []) (by decide) (by decide +kernel) ?_ fun p hp => ?_
    · rw [Ne, List.map_eq_nil_iff]
      exact (wI_len sh w).2
    · obtain ⟨i, hi, rfl⟩ := List.mem_map.mp hp
      rw [tl_intI (h.all sh i hi).nn]
      exact TL.numL_free (by decide)
  have z1 : (wT sh w).length + 2 ≤ szL := le_szL (by omega)
  have e0 : eLst (eSplit (eVar 0) (eD (.str ":"))) [some (.sh (.str (wT sh w))), none, none] = .ok (.lst ((wI sh w).map fun i => D.str (intS i))) := by
    have e5 : ((":" : Str).length == 0) = false := by decide
    simp -implicitDefEqProofs [z1, es, e5]
  have lc := lcR_map (gt := gSet 2) (p := tYesE) (f := eApp m_number_of (aVal (eVar 2) (aNil))) (ρ := [some (.sh (.str (wT sh w))), none, none]) (fun i => D.str (intS i)) D.int (wI sh w) fun i hi => by
    have := number_of_intS (h.all sh i hi)
    simp -implicitDefEqProofs [this]
  have e1 := eLc_ok (fi := iSeq (eLst (eSplit (eVar 0) (eD (.str ":"))))) (ρ := [some (.sh (.str (wT sh w))), none, none]) (vs := [2]) (items := (wI sh w).map fun i => D.str (intS i)) (by unfold iSeq; rw [e0]; rfl) (by rw [List.length_map]; have := (wI_len sh w).1; omega) lc
  rw [m_read_waking_eq]
  refine runB_rt ?_
  show b_read_waking [some (.sh (.str (wT sh w))), none, none] = _
  generalize wT sh w = T at *
  unfold wI at e1
  by_cases q : sh = true ∧ w.2.2 = 1
  · rw [if_pos q] at e1
    have q2 := q.2
    simp -implicitDefEqProofs [b_read_waking, e1, t_read_waking_2, wkD, q2]
  · rw [if_neg q] at e1
    simp -implicitDefEqProofs [b_read_waking, e1, t_read_waking_2, t_read_waking_1, wkD]
theorem read_plan_ok {ws : List Wk3} (h : ∀ w ∈ ws, Nw w) (hl : ws.length ≤ 12) (ok : ws.all okW = true) (sh : Bool) : m_read_plan [.sh (.str (planT sh ws))] = .ok (.ow (ws.map wkD)) := by
  have ep := plan_of_ok (ws := ws) (by omega) ok (.inl rfl)
  rw [m_read_plan_eq]
  refine runB_rt ?_
  by_cases z : ws = []
  · subst z
    simp only [List.map_nil] at ep
    show b_read_plan [some (.sh (.str "never")), none, none] = _
    simp -implicitDefEqProofs [b_read_plan, ep]
  · have nv := planT_never h sh z
    have lt := planT_len h sh (by omega)
    have es : Txt.split (planT sh ws) " " = ws.map (wT sh) := by
      unfold planT
      rw [if_neg (by rw [List.isEmpty_iff]; exact z)]
      refine TL.split_join (s := 32) (S := []) (by decide) (by decide +kernel) (by rw [Ne, List.map_eq_nil_iff]; exact z) fun p hp => ?_
      obtain ⟨w, hw, rfl⟩ := List.mem_map.mp hp
      intro hc
      have := wT_free (h w hw) hc
      omega
    have z1 : (planT sh ws).length + 2 ≤ szL := le_szL (by omega)
    have lc := lcR_map (gt := gSet 2) (p := tYesE) (f := eApp m_read_waking (aVal (eVar 2) (aNil))) (ρ := [some (.sh (.str (planT sh ws))), some (.sh (.lst (ws.map fun w => D.str (wT sh w)))), none]) (fun w => D.str (wT sh w)) wkD ws fun w hw => by
      have := read_waking_ok (h w hw) sh
      generalize (ws.map fun w => D.str (wT sh w)) = W at *
      generalize wkD w = WW at *
      simp -implicitDefEqProofs [this]
    have e1 := eLc_ok (fi := iVar 1) (ρ := [some (.sh (.str (planT sh ws))), some (.sh (.lst (ws.map fun w => D.str (wT sh w)))), none]) (vs := [2]) (items := ws.map fun w => D.str (wT sh w)) rfl (by rw [List.length_map]; omega) lc
    have es2 : (Txt.split (planT sh ws) " ").map D.str = ws.map fun w => D.str (wT sh w) := by rw [es, List.map_map]; rfl
    have lW : ((ws.map fun w => D.str (wT sh w)).length : Int) = (ws.length : Int) := by rw [List.length_map]
    have l12 : ¬ (12 : Int) < (ws.length : Int) := by omega
    have e5 : ((" " : Str).length == 0) = false := by decide
    show b_read_plan [some (.sh (.str (planT sh ws))), none, none] = _
    generalize (ws.map fun w => D.str (wT sh w)) = W at *
    generalize planT sh ws = T at *
    generalize ws.map wkD = WW at *
    simp -implicitDefEqProofs [b_read_plan, nv, t_read_plan_2, z1, e5, es2, t_read_plan_1, lW, l12, e1, ep]
end Mi.Sh

namespace Mi.Sh
open PySem PySem.Spec L2 Mi
-- _law_waking_4: 0:part 1:cell 2:step 3:rest 4:period 5:by 6:short 7:later 8:length
noncomputable def t__law_waking_4_1 : Sv :=
  sSeq (sAsg (eBin oSub (eLook 4) (eLook 6)) (gSet 8)) (sRet (eTup (vCons (eVar 4) (vCons (eBin oMod (eBin oSub (eBin oSub (eLook 3) (eLook 8)) (eLook 7)) (eLook 4)) (vCons (eVar 8) (vNil))))))
noncomputable def t__law_waking_4_2 : Sv :=
  sSeq (sAsg (eBin oAdd (eLook 6) (eBin oMod (eBin oDiv (eLook 1) (eD (.int 13))) (eBin oSub (eLook 5) (eLook 6)))) (gSet 7)) (t__law_waking_4_1)
noncomputable def t__law_waking_4_3 : Sv :=
  sSeq (sAsg (eBin oMod (eBin oDiv (eLook 1) (eD (.int 11))) (eLook 5)) (gSet 6)) (t__law_waking_4_2)
noncomputable def t__law_waking_4_4 : Sv :=
  sSeq (sAsg (eApp m_divisor (aVal (eVar 2) (aVal (eVar 4) (aNil)))) (gSet 5)) (t__law_waking_4_3)
noncomputable def t__law_waking_4_5 : Sv :=
  sSeq (sIf (tst (eBin oEq (eBin oMod (eLook 1) (eD (.int 5))) (eD (.int 0)))) (sAsg (eBin oMul (eApp m_divisor (aVal (eVar 2) (aVal (eBin oMod (eBin oDiv (eLook 1) (eD (.int 5))) (eLook 2)) (aNil)))) (eBin oAdd (eD (.int 1)) (eApp m__law_great (aVal (eVar 1) (aVal (eBin oPow (eD (.int 10)) (eD (.int 30))) (aNil)))))) (gSet 4)) (sNx)) (t__law_waking_4_4)
noncomputable def t__law_waking_4_6 : Sv :=
  sSeq (sAsg (eBin oMul (eApp m_divisor (aVal (eVar 2) (aVal (eBin oMod (eBin oDiv (eLook 1) (eD (.int 5))) (eLook 2)) (aNil)))) (eBin oAdd (eD (.int 1)) (eBin oMod (eBin oDiv (eLook 1) (eD (.int 7))) (eD (.int 4))))) (gSet 4)) (t__law_waking_4_5)
noncomputable def b__law_waking_4 : Sv :=
  sSeq (sAsg (eVar 0) (gTupD 2 (gsCons (gSet 2) (gsCons (gSet 3) (gsNil))))) (t__law_waking_4_6)
noncomputable def m__law_waking_4 : List Sl → R Sl := hid (runB 9 b__law_waking_4)
theorem m__law_waking_4_eq : m__law_waking_4 = runB 9 b__law_waking_4 := hid_eq _
-- _law_tree: 0:xs 1:part 2:deep 3:widest 4:plan 5:cell 6:by 7:papers 8:c
noncomputable def u__law_tree_1 (rec : List Sl → RM) : Sv :=
  sSeq (xApp 7 (xCall rec (mSlot 0 (mVal (eTup (vCons (eBin oMul (eBin oIx (eLook 1) (eD (.int 0))) (eLook 6)) (vCons (eBin oAdd (eBin oIx (eLook 1) (eD (.int 1))) (eBin oMul (eBin oIx (eLook 1) (eD (.int 0))) (eLook 8))) (vNil)))) (mVal (eBin oSub (eLook 2) (eD (.int 1))) (mVal (eVar 3) (mSlot 4 (mNil)))))))) (sKill 8 (sNx))
noncomputable def t__law_tree_2 (rec : List Sl → RM) : Sv :=
  sSeq (sFor (iRng1D (eVar 6)) (gSet 8) ((u__law_tree_1 rec))) (sFrz 7 (xRetM [0, 4] (xPure (eTup (vCons (eD (.str "parted")) (vCons (eVar 6) (vCons (eVar 7) (vNil))))))))
noncomputable def t__law_tree_3 (rec : List Sl → RM) : Sv :=
  sSeq (sSetF 7 (vNil)) ((t__law_tree_2 rec))
noncomputable def t__law_tree_4 (rec : List Sl → RM) : Sv :=
  sSeq (sAsg (eBin oAdd (eD (.int 2)) (eBin oMod (eBin oDiv (eLook 5) (eD (.int 5))) (eBin oSub (eLook 3) (eD (.int 1))))) (gSet 6)) ((t__law_tree_3 rec))
noncomputable def t__law_tree_5 (rec : List Sl → RM) : Sv :=
  sSeq (sIf (tOrE (tst (eBin oEq (eLook 2) (eD (.int 0)))) (tst (eBin oEq (eBin oMod (eLook 5) (eD (.int 5))) (eD (.int 4))))) (sSeq (sAppM 4 (eApp m__law_waking_4 (aVal (eVar 1) (aVal (eVar 5) (aNil))))) (xRetM [0, 4] (xPure (eTup (vCons (eD (.str "in")) (vCons (eBin oSub (eCall oLen (vCons (eLook 4) vNil)) (eD (.int 1))) (vNil))))))) (sNx)) ((t__law_tree_4 rec))
noncomputable def t__law_tree_6 (rec : List Sl → RM) : Sv :=
  sSeq (sIf (tst (eBin oNe (eLook 0) (eLst (vNil)))) (xAsg (xPop 0 (eD (.int 0))) (gSet 5)) (sNx)) ((t__law_tree_5 rec))
noncomputable def b__law_tree (rec : List Sl → RM) : Sv :=
  sSeq (sAsg (eD (.int 0)) (gSet 5)) ((t__law_tree_6 rec))
noncomputable def m__law_tree : Nat → List Sl → RM
  | 0 => fun _ => .stuck
  | n + 1 => hid (runM 9 [0, 4] (b__law_tree (m__law_tree n)))
theorem m__law_tree_zero : m__law_tree 0 = fun _ => .stuck := by rw [m__law_tree]
theorem m__law_tree_succ (n : Nat) : m__law_tree (n + 1) = runM 9 [0, 4] (b__law_tree (m__law_tree n)) := by
  rw [m__law_tree]
  exact hid_eq _
-- _law_right: 0:plan 1:part 2:paper 3:step 4:rest 5:period 6:first 7:length 8:c
noncomputable def u__law_right_1 (rec : List Sl → R Sl) : Sv :=
  sSeq (sIf (tNotE (tst (eApp rec (aVal (eVar 0) (aVal (eTup (vCons (eBin oMul (eLook 3) (eBin oIx (eLook 2) (eD (.int 1)))) (vCons (eBin oAdd (eLook 4) (eBin oMul (eLook 3) (eLook 8))) (vNil)))) (aVal (eBin oIx (eBin oIx (eLook 2) (eD (.int 2))) (eLook 8)) (aNil))))))) (sRet (eD (.bl false))) (sNx)) (sKill 8 (sNx))
noncomputable def t__law_right_2 (rec : List Sl → R Sl) : Sv :=
  sSeq (sFor (iRng1D (eBin oIx (eLook 2) (eD (.int 1)))) (gSet 8) ((u__law_right_1 rec))) (sRet (eD (.bl true)))
noncomputable def t__law_right_3 (rec : List Sl → R Sl) : Sv :=
  sKill 6 (sKill 7 (sKill 5 (sSeq (sIf (tOrE (tst (eBin oLt (eBin oIx (eLook 2) (eD (.int 1))) (eD (.int 2)))) (tst (eBin oNe (eCall oLen (vCons (eBin oIx (eLook 2) (eD (.int 2))) vNil)) (eBin oIx (eLook 2) (eD (.int 1)))))) (sRet (eD (.bl false))) (sNx)) ((t__law_right_2 rec)))))
noncomputable def t__law_right_4 (rec : List Sl → R Sl) : Sv :=
  sSeq (sIf (tst (eBin oEq (eBin oIx (eLook 2) (eD (.int 0))) (eD (.str "in")))) (sSeq (sIf (tOrE (tst (eBin oLt (eBin oIx (eLook 2) (eD (.int 1))) (eD (.int 0)))) (tst (eBin oGe (eBin oIx (eLook 2) (eD (.int 1))) (eCall oLen (vCons (eLook 0) vNil))))) (sRet (eD (.bl false))) (sNx)) (sSeq (sAsg (eBin oIx (eLook 0) (eBin oIx (eLook 2) (eD (.int 1)))) (gTupD 3 (gsCons (gSet 5) (gsCons (gSet 6) (gsCons (gSet 7) (gsNil)))))) (sRet (eBin oGe (eBin oMod (eBin oSub (eBin oSub (eLook 4) (eLook 6)) (eLook 7)) (eApp m_divisor (aVal (eVar 3) (aVal (eVar 5) (aNil))))) (eBin oSub (eLook 5) (eLook 7)))))) (sNx)) ((t__law_right_3 rec))
noncomputable def b__law_right (rec : List Sl → R Sl) : Sv :=
  sSeq (sAsg (eVar 1) (gTupD 2 (gsCons (gSet 3) (gsCons (gSet 4) (gsNil))))) ((t__law_right_4 rec))
noncomputable def m__law_right : Nat → List Sl → R Sl
  | 0 => fun _ => .stuck
  | n + 1 => hid (runB 9 (b__law_right (m__law_right n)))
theorem m__law_right_zero : m__law_right 0 = fun _ => .stuck := by rw [m__law_right]
theorem m__law_right_succ (n : Nat) : m__law_right (n + 1) = runB 9 (b__law_right (m__law_right n)) := by
  rw [m__law_right]
  exact hid_eq _
end Mi.Sh

namespace Mi.Sh
open PySem PySem.Spec L2 Mi
theorem law_right_ok {ws : List Wk3} (hw : ∀ w ∈ ws, Wak w) : ∀ (d n : Nat) (p : Pap) (s r : Int) (m : Nat), okP d p → d < n → 1 ≤ s → Bd m s → m + 4 * d ≤ 8000 →
    m__law_right n [.sh (.lst (ws.map wkD)), .sh (partD (s, r)), .sh (papD p)] = .ok (.sh (.bl (rightB ws s r p)))
  | d, 0, p, s, r, m, _, h, _, _, _ => absurd h (Nat.not_lt_zero _)
  | d, n + 1, .leaf k, s, r, m, ok, hd, hs, hb, hm => by
    rw [m__law_right_succ]
    refine runB_rt ?_
    have pl : (ws.map wkD).length = ws.length := List.length_map ..
    have pd : partD (s, r) = .tup [.int s, .int r] := rfl
    rw [rightB, papD, pd]
    by_cases q : 0 ≤ k ∧ k < ws.length
    · obtain ⟨w, h1, h2, h3⟩ := at_wk q.1 q.2
      have hp0 : 0 < w.1 := by have := (hw w h2).p1; omega
      have e := divisor_gOf (show 0 ≤ s by omega) hp0
      have g := gOf_pos (sp := s) hp0
      have le : leafB ws s r k = decide (w.1 - w.2.2 ≤ (r - w.2.1 - w.2.2) % gOf w.1 s) := by
        unfold leafB
        rw [h1]
        simp [q.1]
      rw [le]
      obtain ⟨q0, q1⟩ := q
      have q0' : ¬ k < 0 := by omega
      have q1' : ¬ (ws.length : Int) ≤ k := by omega
      have wk : wkD w = .tup [.int w.1, .int w.2.1, .int w.2.2] := rfl
      rw [wk] at h3
      generalize ws.map wkD = U at *
      simp -implicitDefEqProofs [b__law_right, t__law_right_4, oEq_s, q0', q1', pl, h3, e, g]
    · rw [leafB_no q]
      generalize ws.map wkD = U at *
      by_cases q0 : k < 0
      · simp -implicitDefEqProofs [b__law_right, t__law_right_4, oEq_s, q0]
      · have q1 : (ws.length : Int) ≤ k := by omega
        simp -implicitDefEqProofs [b__law_right, t__law_right_4, oEq_s, q0, q1, pl]
  | 0, n + 1, .part b ps, s, r, m, ok, hd, hs, hb, hm => by simp only [okP] at ok
  | d + 1, n + 1, .part b ps, s, r, m, ok, hd, hs, hb, hm => by
    simp only [okP] at ok
    obtain ⟨ok1, ok2⟩ := ok
    have pl : (papDs ps).length = ps.length := by rw [papDs_map, List.length_map]
    have pd : partD (s, r) = .tup [.int s, .int r] := rfl
    rw [m__law_right_succ]
    refine runB_rt ?_
    rw [rightB, papD]
    have e0 : b__law_right (m__law_right n) [some (.sh (.lst (ws.map wkD))), some (.sh (partD (s, r))), some (.sh (.tup [.str "parted", .int b, .lst (papDs ps)])), none, none, none, none, none, none] = t__law_right_3 (m__law_right n) [some (.sh (.lst (ws.map wkD))), some (.sh (partD (s, r))), some (.sh (.tup [.str "parted", .int b, .lst (papDs ps)])), some (.sh (.int s)), some (.sh (.int r)), none, none, none, none] := by
      rw [pd]
      generalize ws.map wkD = U at *
      generalize papDs ps = PS at *
      simp -implicitDefEqProofs [b__law_right, t__law_right_4, oEq_s, ne_in']
    show b__law_right (m__law_right n) [some (.sh (.lst (ws.map wkD))), some (.sh (partD (s, r))), some (.sh (.tup [.str "parted", .int b, .lst (papDs ps)])), none, none, none, none, none, none] = _
    rw [e0]
    by_cases q1 : b < 2
    · rw [if_pos (.inl q1)]
      generalize ws.map wkD = U at *
      simp -implicitDefEqProofs [t__law_right_3, q1]
    by_cases q2 : (ps.length : Int) = b
    · rw [if_neg (by simp [q1, q2])]
      have hbl : b ≤ 15 := by omega
      have hsb : 1 ≤ s * b := by
        have : s * 1 ≤ s * b := Int.mul_le_mul_of_nonneg_left (by omega) (by omega)
        omega
      have hbb : Bd 4 b := ⟨by omega⟩
      have hbsb : Bd (m + 4) (s * b) := @bd_mul _ _ _ _ hb hbb
      have m1 : mulOk s b = true := @mulOk_i _ _ _ _ hb hbb (by rw [Nat.blt_eq]; omega)
      have step : ∀ j, j < ps.length → ∀ p, ps[j]? = some p → turnB (gSet 8) (u__law_right_1 (m__law_right n)) (.int (j : Int)) [some (.sh (.lst (ws.map wkD))), some (.sh (partD (s, r))), some (.sh (.tup [.str "parted", .int b, .lst (papDs ps)])), some (.sh (.int s)), some (.sh (.int r)), none, none, none, none] =
          if (!rightB ws (s * b) (r + s * (j : Int)) p) = true then .rt (.sh (.bl false)) else .nx [some (.sh (.lst (ws.map wkD))), some (.sh (partD (s, r))), some (.sh (.tup [.str "parted", .int b, .lst (papDs ps)])), some (.sh (.int s)), some (.sh (.int r)), none, none, none, none] := fun j hj p hp => by
        have ih := law_right_ok hw d n p (s * b) (r + s * (j : Int)) (m + 4) (ok2 p (List.mem_of_getElem? hp)) (by omega) hsb hbsb (by omega)
        have a1 : atI (papDs ps) (j : Int) = some (papD p) := by
          rw [papDs_map, atI_nat (by omega) (by rw [List.length_map]; omega), Int.toNat_natCast, List.getElem?_map, hp]
          rfl
        have m2 : mulOk s (j : Int) = true := @mulOk_i m 4 _ _ hb ⟨by omega⟩ (by rw [Nat.blt_eq]; omega)
        have pd : partD (s * b, r + s * (j : Int)) = .tup [.int (s * b), .int (r + s * (j : Int))] := rfl
        rw [pd] at ih
        generalize ws.map wkD = U at *
        generalize papDs ps = PS at *
        generalize partD (s, r) = PD at *
        cases hr : rightB ws (s * b) (r + s * (j : Int)) p with
        | true =>
          rw [hr] at ih
          simp -implicitDefEqProofs [turnB, u__law_right_1, m1, m2, a1, ih]
        | false =>
          rw [hr] at ih
          simp -implicitDefEqProofs [turnB, u__law_right_1, m1, m2, a1, ih]
      have fin : ∀ fl : Fl, forR (gSet 8) (u__law_right_1 (m__law_right n)) (rngD 0 ps.length) [some (.sh (.lst (ws.map wkD))), some (.sh (partD (s, r))), some (.sh (.tup [.str "parted", .int b, .lst (papDs ps)])), some (.sh (.int s)), some (.sh (.int r)), none, none, none, none] = fl →
          t__law_right_3 (m__law_right n) [some (.sh (.lst (ws.map wkD))), some (.sh (partD (s, r))), some (.sh (.tup [.str "parted", .int b, .lst (papDs ps)])), some (.sh (.int s)), some (.sh (.int r)), none, none, none, none] = fl.thn (sRet (eD (.bl true))) := fun fl e => by
        have it := iRng1D_ok (f := eBin oIx (eLook 2) (eD (.int 1))) (ρ := [some (.sh (.lst (ws.map wkD))), some (.sh (partD (s, r))), some (.sh (.tup [.str "parted", .int b, .lst (papDs ps)])), some (.sh (.int s)), some (.sh (.int r)), none, none, none, none]) (j := b) (by simp) (by omega)
        rw [← q2, Int.toNat_natCast, q2] at it
        have e2 := sFor_at it e
        generalize ws.map wkD = U at *
        generalize hPS : papDs ps = PS at *
        simp -implicitDefEqProofs [t__law_right_3, q1, pl, oEq_ii, q2, t__law_right_2, e2]
      rcases forR_fst (gt := gSet 8) (u := u__law_right_1 (m__law_right n)) (ρ := [some (.sh (.lst (ws.map wkD))), some (.sh (partD (s, r))), some (.sh (.tup [.str "parted", .int b, .lst (papDs ps)])), some (.sh (.int s)), some (.sh (.int r)), none, none, none, none])
          (fun j => match ps[j]? with | some p => !rightB ws (s * b) (r + s * (j : Int)) p | none => false) (fun _ => .sh (.bl false)) ps.length (fun j hj => by
            have hp := List.getElem?_eq_getElem hj
            rw [step j hj _ hp]
            try dsimp only
            rw [hp]) with ⟨j, hj, h1, _, h2⟩ | ⟨h1, h2⟩
      · rw [fin _ h2]
        have hp := List.getElem?_eq_getElem hj
        try dsimp only at h1
        rw [hp] at h1
        try dsimp only at h1
        have : rightsB ws s r b 0 ps = false := by
          cases hr : rightsB ws s r b 0 ps with
          | false => rfl
          | true =>
            have := (rightsB_iff ps 0).mp hr j _ hp
            rw [Nat.zero_add] at this
            rw [this] at h1
            cases h1
        rw [this]
        rfl
      · rw [fin _ h2]
        have : rightsB ws s r b 0 ps = true := (rightsB_iff ps 0).mpr fun j p hp => by
          have hj : j < ps.length := (List.getElem?_eq_some_iff.mp hp).1
          have := h1 j hj
          try dsimp only at this
          rw [hp] at this
          try dsimp only at this
          rw [Nat.zero_add]
          cases hr : rightB ws (s * b) (r + s * (j : Int)) p with
          | true => rfl
          | false => rw [hr] at this; cases this
        rw [this]
        rfl
    · rw [if_pos (.inr q2)]
      generalize ws.map wkD = U at *
      generalize papDs ps = PS at *
      simp -implicitDefEqProofs [t__law_right_3, q1, pl, oEq_ii, q2]
end Mi.Sh

namespace Mi.Sh
open PySem PySem.Spec L2 Mi
theorem cellI {ns : List Int} (hl : ns.length ≤ 63) {x : Int} (hx : 0 ≤ x) : m__law_cell_at [.sh (.lst (ns.map D.int)), .sh (.int x)] = .ok (.sh (.int (ns.getD x.toNat 0))) := by
  have := cell_at_ok (ns := ns) (k := x.toNat) hl
  rwa [Int.toNat_of_nonneg hx] at this
theorem getD_bd1 {ns : List Int} (hb : ∀ z ∈ ns, Builtin.Int.intBits z ≤ 1048576) (k : Nat) : Bd 1048576 (ns.getD k 0) := by
  by_cases h : k < ns.length
  · rw [List.getD_eq_getElem?_getD, List.getElem?_eq_getElem h]
    exact .cell (hb _ (List.getElem_mem h))
  · rw [List.getD_eq_getElem?_getD, List.getElem?_eq_none (by omega)]
    exact Bd.zero _
/-- a waking in which the part lies -/
theorem in_part {p s r l short later : Int} (hp : 0 < p) (hl : l = p - short) (h1 : 0 ≤ short) (h2 : short ≤ later) (h3 : later < gOf p s) : p - l ≤ (r - (r - l - later) % p - l) % gOf p s := by
  have g0 := gOf_pos (sp := s) hp
  have gd := gOf_w (sp := s) hp
  have e : (r - (r - l - later) % p - l) % gOf p s = later := by
    have e1 : r - (r - l - later) % p - l = later + p * ((r - l - later) / p) := by
      have := Int.emod_add_mul_ediv (r - l - later) p
      omega
    obtain ⟨k, hk⟩ := gd
    have e2 : p * ((r - l - later) / p) = gOf p s * (k * ((r - l - later) / p)) := by
      rw [← Int.mul_assoc, ← hk]
    rw [e1, e2, Int.add_mul_emod_self_left]
    exact Int.emod_eq_of_lt (by omega) h3
  rw [e]
  omega
theorem divisor_any {a b : Int} (ha : 1 ≤ a) (hb : 0 ≤ b) : ∃ v : Int, 1 ≤ v ∧ v ≤ a ∧ m_divisor [.sh (.int a), .sh (.int b)] = .ok (.sh (.int v)) := by
  have h := divisor_nat a.toNat b.toNat
  rw [Int.toNat_of_nonneg (show 0 ≤ a by omega), Int.toNat_of_nonneg hb] at h
  have g0 : 0 < Nat.gcd a.toNat b.toNat := Nat.gcd_pos_of_pos_left _ (by omega)
  have g1 : Nat.gcd a.toNat b.toNat ≤ a.toNat := Nat.le_of_dvd (by omega) (Nat.gcd_dvd_left ..)
  exact ⟨_, by omega, by omega, h⟩
/-- a waking of the tree's -/
structure Tw (w : Wk3) : Prop where
  wak : Wak w
  le : w.1 ≤ 10 ^ 40
  f0 : 0 ≤ w.2.1
  f1 : w.2.1 < w.1
theorem Tw.bd {w : Wk3} (h : Tw w) : Bd 200 w.1 := ⟨by have := h.wak.p1; have := h.le; omega⟩
theorem waking4_ok {s r cell : Int} (hs : 1 ≤ s) (hs2 : s ≤ 10000000) (hr : Bd 60 r) (hb : Bd 1048576 cell) : ∃ w : Wk3, Tw w ∧ w.1 - w.2.2 ≤ (r - w.2.1 - w.2.2) % gOf w.1 s ∧ m__law_waking_4 [.sh (partD (s, r)), .sh (.int cell)] = .ok (.sh (wkD w)) := by
  have s0 : 0 < s := by omega
  obtain ⟨v, v1, v2, ev⟩ := divisor_any hs (Int.emod_nonneg (cell / 5) (show s ≠ 0 by omega))
  have a0 := Int.emod_nonneg (cell / 7) (show (4 : Int) ≠ 0 by decide)
  have a1 := Int.emod_lt_of_pos (cell / 7) (show (0 : Int) < 4 by decide)
  obtain ⟨g, g0, g1, eg⟩ := great_ok (c := cell) (m := 1000000000000000000000000000000) (hb.up (by decide)) (by decide)
  have bs : Bd 60 s := ⟨by omega⟩
  have dvs : divOk s = true := @divOk_i 60 s bs (by rfl)
  obtain ⟨p, p1, p2, e2⟩ : ∃ p : Int, 1 ≤ p ∧ p ≤ 10 ^ 40 ∧ b__law_waking_4 [some (.sh (partD (s, r))), some (.sh (.int cell)), none, none, none, none, none, none, none] = t__law_waking_4_4 [some (.sh (partD (s, r))), some (.sh (.int cell)), some (.sh (.int s)), some (.sh (.int r)), some (.sh (.int p)), none, none, none, none] := by
    have m1 : mulOk v (1 + cell / 7 % 4) = true := @mulOk_i 60 10 _ _ ⟨by omega⟩ ⟨by omega⟩ (by rfl)
    have pd : partD (s, r) = .tup [.int s, .int r] := rfl
    rw [pd]
    by_cases q : cell % 5 = 0
    · have m2 : mulOk v (1 + g) = true := @mulOk_i 60 200 _ _ ⟨by omega⟩ ⟨by omega⟩ (by rfl)
      refine ⟨v * (1 + g), ?_, ?_, ?_⟩
      · have : 1 * 1 ≤ v * (1 + g) := Int.mul_le_mul v1 (by omega) (by decide) (by omega)
        omega
      · have : v * (1 + g) ≤ 10000000 * 1000000000000000000000000000000 := Int.mul_le_mul (by omega) (by omega) (by omega) (by decide)
        omega
      · simp -implicitDefEqProofs [b__law_waking_4, t__law_waking_4_6, t__law_waking_4_5, s0, ev, m1, oEq_ii, q, eg, m2]
    · refine ⟨v * (1 + cell / 7 % 4), ?_, ?_, ?_⟩
      · have : 1 * 1 ≤ v * (1 + cell / 7 % 4) := Int.mul_le_mul v1 (by omega) (by decide) (by omega)
        omega
      · have : v * (1 + cell / 7 % 4) ≤ 10000000 * 4 := Int.mul_le_mul (by omega) (by omega) (by omega) (by decide)
        omega
      · simp -implicitDefEqProofs [b__law_waking_4, t__law_waking_4_6, t__law_waking_4_5, s0, ev, m1, oEq_ii, q]
  have p0 : 0 < p := by omega
  have eb := divisor_gOf (show 0 ≤ s by omega) p0
  have by0 := gOf_pos (sp := s) p0
  have by1 := gOf_le (sp := s) p0
  generalize hby : gOf p s = by_ at *
  have h0 := Int.emod_nonneg (cell / 11) (show by_ ≠ 0 by omega)
  have h1 := Int.emod_lt_of_pos (cell / 11) by0
  generalize hsh : cell / 11 % by_ = short at *
  have k0 := Int.emod_nonneg (cell / 13) (show by_ - short ≠ 0 by omega)
  have k1 := Int.emod_lt_of_pos (cell / 13) (show 0 < by_ - short by omega)
  have k2 : 0 < by_ - short := by omega
  have f0 := Int.emod_nonneg (r - (p - short) - (short + cell / 13 % (by_ - short))) (show p ≠ 0 by omega)
  have f1 := Int.emod_lt_of_pos (r - (p - short) - (short + cell / 13 % (by_ - short))) p0
  refine ⟨(p, (r - (p - short) - (short + cell / 13 % (by_ - short))) % p, p - short), ⟨⟨p1, by show 1 ≤ p - short; omega, by show p - short ≤ p; omega⟩, p2, f0, f1⟩, ?_, ?_⟩
  · have := in_part (p := p) (s := s) (r := r) (l := p - short) (short := short) (later := short + cell / 13 % (by_ - short)) p0 rfl h0 (by omega) (by rw [hby]; omega)
    exact this
  · rw [m__law_waking_4_eq]
    refine runB_rt ?_
    show b__law_waking_4 [some (.sh (partD (s, r))), some (.sh (.int cell)), none, none, none, none, none, none, none] = _
    rw [e2]
    generalize partD (s, r) = PD
    have k2' : short < by_ := by omega
    simp -implicitDefEqProofs [t__law_waking_4_4, eb, t__law_waking_4_3, by0, hsh, t__law_waking_4_2, k2, k2', t__law_waking_4_1, p0, wkD]
end Mi.Sh

namespace Mi.Sh
open PySem PySem.Spec L2 Mi
mutual
/-- as many papers as each parting is by, two to fifteen -/
def wfP : Pap → Prop
  | .leaf _ => True
  | .part b ps => (2 ≤ b ∧ b ≤ 12) ∧ (ps.length : Int) = b ∧ wfPs ps
def wfPs : List Pap → Prop
  | [] => True
  | p :: ps => wfP p ∧ wfPs ps
end
theorem wfPs_mem : ∀ {ps : List Pap}, wfPs ps ↔ ∀ p ∈ ps, wfP p
  | [] => by simp [wfPs]
  | p :: ps => by
    rw [wfPs, wfPs_mem]
    exact List.forall_mem_cons.symm
theorem right_all {ws : List Wk3} {s r b : Int} {ps : List Pap} (hb : 2 ≤ b) (hl : (ps.length : Int) = b) (h : ∀ (j : Nat) (p : Pap), ps[j]? = some p → rightB ws (s * b) (r + s * (j : Int)) p = true) : rightB ws s r (.part b ps) = true := by
  rw [rightB, if_neg (by omega)]
  exact (rightsB_iff ps 0).mpr fun j p hp => by
    rw [Nat.zero_add]
    exact h j p hp
theorem leaf_at {ws more : List Wk3} {w : Wk3} {s r : Int} (h : w.1 - w.2.2 ≤ (r - w.2.1 - w.2.2) % gOf w.1 s) : leafB (ws ++ [w] ++ more) s r (ws.length : Int) = true := by
  unfold leafB
  rw [Int.toNat_natCast, List.append_assoc, List.getElem?_append_right (Nat.le_refl _), Nat.sub_self]
  simp [h]
theorem oEq_ints_nil {xs : List Int} : oEq (.lst (xs.map D.int)) (.lst []) = .ok (.bl xs.isEmpty) := by
  rw [oEq_nil (okDs_map (fun _ => rfl) xs) (Nat.le_trans (depDs_map (f := D.int) (k := 0) (fun x => (Nat.le_refl 0 : depD (D.int x) ≤ 0)) xs) (by decide))]
  cases xs <;> rfl
theorem tree_cell {rec : List Sl → RM} {xs : List Int} {o1 o2 o3 o4 : Option Sl} (hl : xs.length ≤ 63) (hb : ∀ z ∈ xs, Bd 1048576 z) : ∃ (x : Int) (xs1 : List Int), Bd 1048576 x ∧ (∀ z ∈ xs1, z ∈ xs) ∧ xs1.length ≤ xs.length ∧
    b__law_tree rec [some (.mu (some 0) (.lst (xs.map D.int))), o1, o2, o3, o4, none, none, none, none] = t__law_tree_5 rec [some (.mu (some 0) (.lst (xs1.map D.int))), o1, o2, o3, o4, some (.sh (.int x)), none, none, none] := by
  have e := @oEq_ints_nil xs
  cases xs with
  | nil =>
    refine ⟨0, [], Bd.zero _, fun z h => h, Nat.le_refl _, ?_⟩
    simp only [List.map_nil] at e ⊢
    simp -implicitDefEqProofs [b__law_tree, t__law_tree_6, e]
  | cons x xs =>
    refine ⟨x, xs, hb x (List.mem_cons_self ..), fun z h => List.mem_cons_of_mem _ h, Nat.le_succ _, ?_⟩
    rw [List.length_cons] at hl
    have hz : (xs.map D.int).length + 1 ≤ szL := le_szL (by rw [List.length_map]; omega)
    have hn : ixN ((xs.map D.int).length + 1) 0 = some 0 := ixN_nat (by decide) (by omega)
    simp only [List.map_cons] at e ⊢
    generalize xs.map D.int = XS at *
    simp -implicitDefEqProofs [b__law_tree, t__law_tree_6, e, hz, hn]
theorem tree_ok {wd : Int} (hw : 2 ≤ wd ∧ wd ≤ 12) : ∀ (d n : Nat) (xs : List Int) (s r : Int) (plan : List Wk3), d < n → xs.length ≤ 63 → (∀ z ∈ xs, Bd 1048576 z) → 1 ≤ s → s * 12 ^ d ≤ 10000000 → 0 ≤ r → r < s → plan.length + 12 ^ d ≤ 100000 →
    ∃ (p : Pap) (xs' : List Int) (ws : List Wk3), okP d p ∧ wfP p ∧ (∀ z ∈ xs', z ∈ xs) ∧ xs'.length ≤ xs.length ∧ (∀ w ∈ ws, Tw w) ∧ ws.length ≤ 12 ^ d ∧ 1 ≤ ws.length ∧ (∀ more, rightB (plan ++ ws ++ more) s r p = true) ∧
      m__law_tree n [.mu (some 0) (.lst (xs.map D.int)), .sh (partD (s, r)), .sh (.int (d : Int)), .sh (.int wd), .mu (some 4) (.lst (plan.map wkD))] = .ok (papD p) [(0, .lst (xs'.map D.int)), (4, .lst ((plan ++ ws).map wkD))]
  | d, 0, xs, s, r, plan, h, _, _, _, _, _, _, _ => absurd h (Nat.not_lt_zero _)
  | d, n + 1, xs, s, r, plan, hd, hl, hb, hs, hs2, hr0, hr1, hp => by
    have pw : 1 ≤ 12 ^ d := Nat.pow_pos (by decide)
    have s7 : s ≤ 10000000 := by
      have : s * 1 ≤ s * 12 ^ d := Int.mul_le_mul_of_nonneg_left (by have : (1 : Int) ≤ ((12 ^ d : Nat) : Int) := by omega
                                                                     simpa using this) (by omega)
      omega
    obtain ⟨x, xs1, bx, hm, hl1, e0⟩ := tree_cell (rec := m__law_tree n) (xs := xs) (o1 := some (.sh (partD (s, r)))) (o2 := some (.sh (.int (d : Int)))) (o3 := some (.sh (.int wd))) (o4 := some (.mu (some 4) (.lst (plan.map wkD)))) hl hb
    have start : ∀ (q : D) (os : List (Nat × Ob)), t__law_tree_5 (m__law_tree n) [some (.mu (some 0) (.lst (xs1.map D.int))), some (.sh (partD (s, r))), some (.sh (.int (d : Int))), some (.sh (.int wd)), some (.mu (some 4) (.lst (plan.map wkD))), some (.sh (.int x)), none, none, none] = .rt (.mr q os) →
        m__law_tree (n + 1) [.mu (some 0) (.lst (xs.map D.int)), .sh (partD (s, r)), .sh (.int (d : Int)), .sh (.int wd), .mu (some 4) (.lst (plan.map wkD))] = .ok q os := fun q os e => by
      rw [m__law_tree_succ]
      show (b__law_tree (m__law_tree n) [some (.mu (some 0) (.lst (xs.map D.int))), some (.sh (partD (s, r))), some (.sh (.int (d : Int))), some (.sh (.int wd)), some (.mu (some 4) (.lst (plan.map wkD))), none, none, none, none]).outM [0, 4] = _
      rw [e0, e]
      rfl
    have pz : plan.length < szL := lt_szL (by omega)
    by_cases q : (d : Int) = 0 ∨ x % 5 = 4
    · obtain ⟨w, w1, w2, ew⟩ := waking4_ok hs s7 ⟨show r.natAbs < 2 ^ 60 by omega⟩ bx
      refine ⟨.leaf (plan.length : Int), xs1, [w], by cases d <;> simp only [okP], by rw [wfP]; trivial, hm, hl1, fun y hy => by rw [List.mem_singleton.mp hy]; exact w1, pw, Nat.le_refl _, fun more => by rw [rightB]; exact leaf_at w2, start _ _ ?_⟩
      rw [papD]
      have lp : (plan.map wkD).length = plan.length := List.length_map ..
      rw [List.map_append, List.map_singleton]
      generalize plan.map wkD = PL at *
      generalize xs1.map D.int = XS at *
      generalize partD (s, r) = PD at *
      by_cases q0 : d = 0
      · simp -implicitDefEqProofs [t__law_tree_5, oEq_ii, q0, ew, pz, conts, cont1, lp]
      · have q1 : x % 5 = 4 := by omega
        simp -implicitDefEqProofs [t__law_tree_5, oEq_ii, q0, q1, ew, pz, conts, cont1, lp]
    · cases d with
      | zero => exact absurd (.inl rfl) q
      | succ d =>
        have q1 : ¬ x % 5 = 4 := fun z => q (.inr z)
        have c0 := Int.emod_nonneg (x / 5) (show wd - 1 ≠ 0 by omega)
        have c1 := Int.emod_lt_of_pos (x / 5) (show 0 < wd - 1 by omega)
        obtain ⟨b, hbb⟩ : ∃ b : Nat, (b : Int) = 2 + x / 5 % (wd - 1) := ⟨(2 + x / 5 % (wd - 1)).toNat, Int.toNat_of_nonneg (by omega)⟩
        have b2 : 2 ≤ b := by omega
        have b12 : b ≤ 12 := by omega
        have p12 : (12 : Nat) ^ (d + 1) = 12 ^ d * 12 := Nat.pow_succ ..
        have s12 : s * (b : Int) * 12 ^ d ≤ 10000000 := by
          have e1 : s * (b : Int) * 12 ^ d = (s * 12 ^ d) * (b : Int) := by rw [Int.mul_assoc, Int.mul_comm (b : Int), ← Int.mul_assoc]
          have e2 : s * 12 ^ (d + 1) = (s * 12 ^ d) * 12 := by rw [Int.pow_succ, ← Int.mul_assoc]
          have p0 : 0 ≤ s * 12 ^ d := Int.mul_nonneg (by omega) (Int.pow_nonneg (by decide))
          have : (s * 12 ^ d) * (b : Int) ≤ (s * 12 ^ d) * 12 := Int.mul_le_mul_of_nonneg_left (by omega) p0
          rw [e1]
          omega
        have sb1 : 1 ≤ s * (b : Int) := by
          have : 1 * 1 ≤ s * (b : Int) := Int.mul_le_mul hs (by omega) (by decide) (by omega)
          omega
        have m1 : mulOk s (b : Int) = true := @mulOk_i 60 60 _ _ ⟨by omega⟩ ⟨by omega⟩ (by rfl)
        obtain ⟨ρ, e, ps, xs2, ws, h1, h2, h3, h4, h5, h6, h7, h8, h9, h10⟩ := forR_nat (gt := gSet 8) (u := u__law_tree_1 (m__law_tree n))
          (fun i ρ => ∃ (ps : List Pap) (xs2 : List Int) (ws : List Wk3), ps.length = i ∧ (∀ p ∈ ps, okP d p ∧ wfP p) ∧ (∀ z ∈ xs2, z ∈ xs) ∧ xs2.length ≤ xs.length ∧ (∀ w ∈ ws, Tw w) ∧ ws.length ≤ i * 12 ^ d ∧ i ≤ ws.length ∧
            (∀ (more : List Wk3) (j : Nat) (p : Pap), ps[j]? = some p → rightB (plan ++ ws ++ more) (s * (b : Int)) (r + s * (j : Int)) p = true) ∧ True ∧
            ρ = [some (.mu (some 0) (.lst (xs2.map D.int))), some (.sh (partD (s, r))), some (.sh (.int ((d + 1 : Nat) : Int))), some (.sh (.int wd)), some (.mu (some 4) (.lst ((plan ++ ws).map wkD))), some (.sh (.int x)), some (.sh (.int (b : Int))), some (.ow (ps.map papD)), none])
          (rngD 0 b) 0 [some (.mu (some 0) (.lst (xs1.map D.int))), some (.sh (partD (s, r))), some (.sh (.int ((d + 1 : Nat) : Int))), some (.sh (.int wd)), some (.mu (some 4) (.lst (plan.map wkD))), some (.sh (.int x)), some (.sh (.int (b : Int))), some (.ow []), none]
          ⟨[], xs1, [], rfl, fun p hp => absurd hp List.not_mem_nil, hm, hl1, fun p hp => absurd hp List.not_mem_nil, Nat.zero_le _, Nat.le_refl _, fun more j p hp => by simp at hp, trivial, by rw [List.append_nil]; rfl⟩ fun i dd ρ hdd ⟨ps, xs2, ws, h1, h2, h3, h4, h5, h6, h7, h8, _, h9⟩ => by
            obtain ⟨hi, rfl⟩ := rngD_get hdd
            subst h9
            rw [Nat.zero_add] at h1 h6 h7 ⊢
            have hle : i * 12 ^ d ≤ 11 * 12 ^ d := Nat.mul_le_mul_right _ (by omega)
            have r0 : 0 ≤ r + s * (i : Int) := by
              have : 0 ≤ s * (i : Int) := Int.mul_nonneg (by omega) (by omega)
              omega
            have r1 : r + s * (i : Int) < s * (b : Int) := by
              have : s * ((i : Int) + 1) ≤ s * (b : Int) := Int.mul_le_mul_of_nonneg_left (by omega) (by omega)
              rw [Int.mul_add] at this
              omega
            obtain ⟨p, xs3, ws3, k1, k2, k3, k4, k5, k6, k7, k8, k9⟩ := tree_ok hw d n xs2 (s * (b : Int)) (r + s * (i : Int)) (plan ++ ws) (by omega) (by omega) (fun z hz => hb z (h3 z hz)) sb1 s12 r0 r1 (by rw [List.length_append]; omega)
            have m2 : mulOk s (i : Int) = true := @mulOk_i 60 60 _ _ ⟨by omega⟩ ⟨by omega⟩ (by rfl)
            have hz : (ps.map papD).length < szL := lt_szL (by rw [List.length_map]; omega)
            refine ⟨_, ?_, ps ++ [p], xs3, ws ++ ws3, by rw [List.length_append, List.length_singleton, h1], fun y hy => ?_, fun z hz => h3 z (k3 z hz), by omega, fun w hw' => ?_, by rw [List.length_append, Nat.succ_mul]; omega, by rw [List.length_append]; omega, fun more j y hy => ?_, trivial, rfl⟩
            rotate_left
            · rcases List.mem_append.mp hy with hy | hy
              · exact h2 y hy
              · rw [List.mem_singleton.mp hy]
                exact ⟨k1, k2⟩
            · rcases List.mem_append.mp hw' with hw' | hw'
              · exact h5 w hw'
              · exact k5 w hw'
            · by_cases hj : j < ps.length
              · rw [List.getElem?_append_left hj] at hy
                have := h8 (ws3 ++ more) j y hy
                rwa [← List.append_assoc, List.append_assoc plan ws ws3] at this
              · rw [List.getElem?_append_right (by omega)] at hy
                have ej : j = i := by
                  have := (List.getElem?_eq_some_iff.mp hy).1
                  rw [List.length_singleton] at this
                  omega
                subst ej
                rw [h1, Nat.sub_self] at hy
                cases hy
                have := k8 more
                rwa [List.append_assoc plan ws ws3] at this
            · rw [List.append_assoc] at k9
              have pd : partD (s * (b : Int), r + s * (i : Int)) = .tup [.int (s * (b : Int)), .int (r + s * (i : Int))] := rfl
              have pd2 : partD (s, r) = .tup [.int s, .int r] := rfl
              rw [pd] at k9
              rw [pd2]
              have ed : ((d + 1 : Nat) : Int) - 1 = d := by omega
              rw [List.map_append (l₁ := ps), List.map_singleton]
              generalize ps.map papD = PS at *
              generalize (plan ++ (ws ++ ws3)).map wkD = P2 at *
              generalize (plan ++ ws).map wkD = P1 at *
              generalize xs2.map D.int = X2 at *
              generalize xs3.map D.int = X3 at *
              generalize ((d + 1 : Nat) : Int) = DD at *
              simp -implicitDefEqProofs [turnB, u__law_tree_1, m1, m2, ed, k9, hz]
        rw [rngD_len, Nat.zero_add] at h1 h6 h7
        rw [h10] at e
        have it := iRng1D_ok (f := eVar 6) (ρ := [some (.mu (some 0) (.lst (xs1.map D.int))), some (.sh (partD (s, r))), some (.sh (.int ((d + 1 : Nat) : Int))), some (.sh (.int wd)), some (.mu (some 4) (.lst (plan.map wkD))), some (.sh (.int x)), some (.sh (.int (b : Int))), some (.ow []), none]) (j := (b : Int)) rfl (by omega)
        rw [Int.toNat_natCast] at it
        have e2 := sFor_at it e
        have hle : b * 12 ^ d ≤ 12 * 12 ^ d := Nat.mul_le_mul_right _ b12
        refine ⟨.part (b : Int) ps, xs2, ws, ?_, ?_, h3, h4, h5, by rw [p12]; omega, by omega, fun more => right_all (by omega) (by omega) (h8 more), start _ _ ?_⟩
        · simp only [okP]
          exact ⟨by omega, fun p hp => (h2 p hp).1⟩
        · rw [wfP]
          exact ⟨⟨by omega, by omega⟩, by omega, wfPs_mem.mpr fun p hp => (h2 p hp).2⟩
        rw [papD, papDs_map]
        have w0 : 0 < wd - 1 := by omega
        have w1 : 1 < wd := by omega
        have dz : ¬ (((d + 1 : Nat) : Int) = 0) := by omega
        have dw : divOk (wd - 1) = true := divOk_lit (by omega)
        generalize ps.map papD = PS at *
        generalize (plan ++ ws).map wkD = P1 at *
        generalize plan.map wkD = P0 at *
        generalize xs2.map D.int = X2 at *
        generalize xs1.map D.int = X1 at *
        generalize partD (s, r) = PD at *
        generalize ((d + 1 : Nat) : Int) = DD at *
        generalize hB : (b : Int) = B at *
        simp -implicitDefEqProofs [t__law_tree_5, oEq_ii, dz, q1, t__law_tree_4, w0, w1, ← hbb, t__law_tree_3, t__law_tree_2, e2, conts, cont1]
theorem lets_by_ok {ws : List Wk3} (hw : ∀ w ∈ ws, Wak w) {d : Nat} {p : Pap} (hp : okP d p) (hd : d < 12) : m_lets_by [.sh (.lst (ws.map wkD)), .sh (papD p)] = .ok (.sh (.bl (rightB ws 1 0 p))) := by
  have er := right_for_ok hw d 12 p 1 0 10 hp hd (by decide) ⟨by decide⟩ (by omega)
  have pd : partD (1, 0) = .tup [.int 1, .int 0] := rfl
  rw [pd] at er
  rw [m_lets_by_eq]
  refine runB_rt ?_
  generalize ws.map wkD = U at *
  simp -implicitDefEqProofs [b_lets_by, er]
mutual
theorem okD_pap : ∀ p : Pap, okD (papD p) = true
  | .leaf k => by
    rw [papD]
    show (okD (.str "in") && (okD (.int k) && true)) = true
    rw [show okD (.str "in") = true by decide +kernel]
    rfl
  | .part b ps => by
    rw [papD]
    show (okD (.str "parted") && (okD (.int b) && (okD (.lst (papDs ps)) && true))) = true
    rw [show okD (.lst (papDs ps)) = okDs (papDs ps) from rfl, okD_paps ps, show okD (.str "parted") = true by decide +kernel]
    rfl
theorem okD_paps : ∀ ps : List Pap, okDs (papDs ps) = true
  | [] => by rw [papDs]; rfl
  | p :: ps => by
    rw [papDs]
    show (okD (papD p) && okDs (papDs ps)) = true
    rw [okD_pap p, okD_paps ps]
    rfl
end
theorem depD_pap : ∀ (d : Nat) (p : Pap), okP d p → depD (papD p) ≤ 2 * d + 1
  | d, .leaf k, _ => by
    rw [papD]
    show 0 + 1 ≤ _
    omega
  | 0, .part b ps, h => by simp only [okP] at h
  | d + 1, .part b ps, h => by
    simp only [okP] at h
    rw [papD, papDs_map]
    have : depDs (ps.map papD) ≤ 2 * d + 1 := by
      have : ∀ qs : List Pap, (∀ p ∈ qs, okP d p) → depDs (qs.map papD) ≤ 2 * d + 1 := fun qs => by
        induction qs with
        | nil => intro _; exact Nat.zero_le _
        | cons q qs ih =>
          intro hq
          show max (depD (papD q)) (depDs (qs.map papD)) ≤ _
          have := depD_pap d q (hq q (List.mem_cons_self ..))
          have := ih fun p hp => hq p (List.mem_cons_of_mem _ hp)
          omega
      exact this ps h.2
    show max 0 (max 0 (max (depDs (ps.map papD) + 1) 0)) + 1 ≤ _
    omega
theorem oEq_pap {p : Pap} {d : Nat} (h : okP d p) (hd : d ≤ 30) : oEq (papD p) (papD p) = .ok (.bl true) := by
  have h1 := okD_pap p
  have h2 := depD_pap d p h
  cases p with
  | leaf k =>
    rw [papD] at *
    exact oEq_tsame h1 (by have h2 : depDs [D.str "in", .int k] + 1 ≤ 2 * d + 1 := h2; omega)
  | part b ps =>
    rw [papD] at *
    exact oEq_tsame h1 (by have h2 : depDs [D.str "parted", .int b, .lst (papDs ps)] + 1 ≤ 2 * d + 1 := h2; omega)
end Mi.Sh

namespace Mi.Sh
open PySem PySem.Spec L2 Mi
theorem emod_dvd_eq {a b g : Int} (h : g ∣ a - b) : a % g = b % g := Int.emod_eq_emod_iff_emod_sub_eq_zero.mpr (Int.emod_eq_zero_of_dvd h)
/-- every turn of a part that lies in a waking is awake -/
theorem part_awake {p a l s r t : Int} (hp : 0 < p) (hl : l ≤ p) (h : p - l ≤ (r - a - l) % gOf p s) (ht : s ∣ t - r) : (t - a) % p < l := by
  have g0 := gOf_pos (sp := s) hp
  have gp := gOf_w (sp := s) hp
  have gs := gOf_sp (w := p) (sp := s) hp
  have x0 := Int.emod_nonneg (t - a) (show p ≠ 0 by omega)
  have x1 := Int.emod_lt_of_pos (t - a) hp
  rcases (show (t - a) % p < l ∨ l ≤ (t - a) % p by omega) with q | q
  · exact q
  · exfalso
    have e1 : (r - a - l) % gOf p s = ((t - a) % p - l) % gOf p s := by
      apply emod_dvd_eq
      have h1 : gOf p s ∣ t - r := Int.dvd_trans gs ht
      have h2 : gOf p s ∣ (t - a) - (t - a) % p := Int.dvd_trans gp (by
        have := Int.emod_add_mul_ediv (t - a) p
        exact ⟨(t - a) / p, by omega⟩)
      have : r - a - l - ((t - a) % p - l) = ((t - a) - (t - a) % p) - (t - r) := by omega
      rw [this]
      exact Int.dvd_sub h2 h1
    have e2 : ((t - a) % p - l) % gOf p s ≤ (t - a) % p - l := by
      rcases (show (t - a) % p - l < gOf p s ∨ gOf p s ≤ (t - a) % p - l by omega) with z | z
      · rw [Int.emod_eq_of_lt (by omega) z]
        exact Int.le_refl _
      · have := Int.emod_lt_of_pos ((t - a) % p - l) g0
        omega
    omega
theorem right_awake {ws : List Wk3} (hw : ∀ w ∈ ws, Wak w) : ∀ (d : Nat) (p : Pap) (s r t : Int), okP d p → 1 ≤ s → rightB ws s r p = true → s ∣ t - r → awk ws t = true
  | d, .leaf k, s, r, t, _, hs, h, ht => by
    rw [rightB] at h
    obtain ⟨k0, k1⟩ := leafB_in h
    obtain ⟨w, e1, e2, _⟩ := at_wk k0 k1
    unfold leafB at h
    rw [e1] at h
    simp only [Bool.and_eq_true, decide_eq_true_eq] at h
    have wk := hw w e2
    have := part_awake (by have := wk.p1; omega) wk.l2 h.2 ht
    unfold awk
    rw [List.any_eq_true]
    exact ⟨w, e2, decide_eq_true this⟩
  | 0, .part b ps, s, r, t, ok, _, _, _ => by simp only [okP] at ok
  | d + 1, .part b ps, s, r, t, ok, hs, h, ht => by
    simp only [okP] at ok
    rw [rightB] at h
    split at h
    · cases h
    · rename_i z
      have b2 : 2 ≤ b := by omega
      have bl : (ps.length : Int) = b := by omega
      obtain ⟨q, hq⟩ := ht
      have c0 := Int.emod_nonneg q (show b ≠ 0 by omega)
      have c1 := Int.emod_lt_of_pos q (show 0 < b by omega)
      obtain ⟨j, hj⟩ : ∃ j : Nat, (j : Int) = q % b := ⟨(q % b).toNat, Int.toNat_of_nonneg c0⟩
      have jl : j < ps.length := by omega
      have hr := (rightsB_iff ps 0).mp h j ps[j] (List.getElem?_eq_getElem jl)
      rw [Nat.zero_add] at hr
      have sb : 1 ≤ s * b := by
        have : 1 * 1 ≤ s * b := Int.mul_le_mul hs (by omega) (by decide) (by omega)
        omega
      refine right_awake hw d ps[j] (s * b) (r + s * (j : Int)) t (ok.2 _ (List.getElem_mem jl)) sb hr ⟨q / b, ?_⟩
      have := Int.emod_add_mul_ediv q b
      have e1 : t - (r + s * (j : Int)) = s * (q - q % b) := by rw [Int.mul_sub, ← hj]; omega
      rw [e1, show q - q % b = b * (q / b) by omega, Int.mul_assoc]
end Mi.Sh

/-! ### enumerate of a tuple -/
namespace PySem
open Sem (wp)
open AutoSeq1 (wpAny_loadPart')
theorem meets_enumerate_newT (l : Addr) (items : Array Value) (n : Nat) (dct : Option Addr) (sl : Array (Option Value)) :
    Meets (Builtin.«enumerate.__new__» ⟨[.type "enumerate", .ref l], []⟩) (fun _ R s => s.heap.get? l = some { cls := .type "tuple", dict := dct, data := .seq items n, slots := sl } ∧
      R (.ok (.ret (.ref (s.heap.push { cls := .type "tuple_iterator", data := .fields #[.ref l, .int 0 0] }).objs.size)))
        { s with heap := (s.heap.push { cls := .type "tuple_iterator", data := .fields #[.ref l, .int 0 0] }).push { cls := .type "enumerate", data := .fields #[.none, .bool false, .ref s.heap.objs.size, rawInt 0, .none, .none] } }) :=
  .of_wp fun prog w A R s h => by
    obtain ⟨hp, g, d, tk, os⟩ := s; obtain ⟨hl, h⟩ := h
    have hsub := sub_enumerate
    have hL : Heap.IsTuple (Shared.heap ⟨hp, g, d, tk, os⟩) l items := ⟨_, hl, rfl, n, rfl⟩
    wp_walk using wpAny_loadPart' hl
    refine wpAny_stack_any fun st => wpAny_pure ?_
    split
    · rename_i c _ _ _ _ _
      cases (c == Value.type "enumerate")
      · wp_walk using wpAny_loadPart' hl, wpAny_pyIter_tuple hL
        exact ⟨_, rfl, h⟩
      · wp_walk using wpAny_loadPart' hl, wpAny_pyIter_tuple hL
        exact ⟨_, rfl, h⟩
    · wp_walk using wpAny_loadPart' hl, wpAny_pyIter_tuple hL
      exact ⟨_, rfl, h⟩
section
variable {prog : Program} {w : World} {A : Around} {E : Value → Shared → Prop} {s : Shared}
theorem call_enumerate_tuple {l : Addr} {items : Array Value} {Q : Value → Shared → Prop} (hL : s.heap.IsTuple l items)
    (h : ∀ h', IsEnum h' (s.heap.objs.size + 1) s.heap.objs.size 0 .none → h'.IsTupleIter s.heap.objs.size l 0 → h'.objs.size = s.heap.objs.size + 2 →
      (∀ b o, s.heap.get? b = some o → h'.get? b = some o) → Q (.ref (s.heap.objs.size + 1)) { s with heap := h' }) :
    wpAny (model prog w) A (call (.type "enumerate") [.ref l]) Q E s := by
  obtain ⟨⟨c, dct, dt, sl⟩, hl, hc, n, hd⟩ := hL
  replace hc : c = .type "tuple" := hc
  replace hd : dt = .seq items n := hd
  subst hc hd
  refine callType_new F.called_enumerate (by decide) (F.typeCall_enumerate_1 _) (F.newCall_enumerate_1 _) (fun obj => F.args_object_init_2 obj _) F.entry_enumerate_new
    (meets_enumerate_newT l items n dct sl) ⟨hl, ?_⟩
  have hz : (s.heap.push { cls := .type "tuple_iterator", data := .fields #[.ref l, .int 0 0] }).objs.size = s.heap.objs.size + 1 := Heap.size_push ..
  show _ ∧ _
  rw [hz]
  have he : IsEnum ((s.heap.push { cls := .type "tuple_iterator", data := .fields #[.ref l, .int 0 0] }).push
      { cls := .type "enumerate", data := .fields #[.none, .bool false, .ref s.heap.objs.size, rawInt 0, .none, .none] }) (s.heap.objs.size + 1) s.heap.objs.size 0 .none := by
    have := Heap.get?_push_size (s.heap.push { cls := .type "tuple_iterator", data := .fields #[.ref l, .int 0 0] })
      (o := { cls := .type "enumerate", data := .fields #[.none, .bool false, .ref s.heap.objs.size, rawInt 0, .none, .none] }) rfl
    rw [hz] at this; exact this
  refine ⟨⟨_, he, rfl⟩, h _ he ⟨_, Heap.get?_push_of_some _ (Heap.get?_push_size _ rfl), rfl, rfl⟩ (by rw [Heap.size_push, hz]) fun b o x => Heap.get?_push_of_some _ (Heap.get?_push_of_some _ x)⟩
end
end PySem
namespace Mi
open PySem PySem.Spec L2
def IteT (K : PySem.W.Frag) (a : Addr) : It :=
  ⟨fun i H => ∃ (xs : List V) (x : V), SqT K H a xs ∧ xs[i]? = some x, fun i H v H' => ∃ T x, v = .ref T ∧ H T = none ∧ H' = upd H T (.tup [.int (i : Nat), x]) ∧ ∀ xs, SqT K H a xs → xs[i]? = some x, fun i H => ∃ xs : List V, SqT K H a xs ∧ xs.length ≤ i⟩
theorem turn_enumT {P : Program} {w : World} {K : PySem.W.Frag} {elts : List Expr} {kk : Nat} {tpos : Pos} (a e it : Addr) :
    Turn P w K (.Tuple elts kk tpos) (IteT K a) [e, it] e (fun i h => (∃ old, IsEnum h e it ((i : Nat) : Int) old) ∧ h.IsTupleIter it a i ∧ e ≠ it) where
  mem := by simp
  obj := fun i h st b hb => by
    obtain ⟨⟨old, he⟩, ⟨o, ho, hc, hd⟩, _⟩ := st
    have e' : b = e ∨ b = it := by simpa using hb
    rcases e' with z | z
    · rw [z]; exact ⟨_, he, fun v q => nomatch q⟩
    · rw [z]; exact ⟨o, ho, fun v q => by rw [hd] at q; cases q⟩
  keep := fun i h h' st k => let ⟨⟨old, he⟩, hi, hne⟩ := st; ⟨⟨old, k e (by simp) _ he⟩, hi.at fun o q => k it (by simp) o q, hne⟩
  item := by
    intro X hP hw hK hc i pins s σ H E I hf st hg
    subst hP hw hK
    obtain ⟨⟨old, he⟩, hit, hne⟩ := st
    obtain ⟨xs, x, hq, hx⟩ := hg
    obtain ⟨its, rv, p, hz⟩ := I.tuple hq
    obtain ⟨u, hu, ru⟩ := rv.get hx
    have hel : e < s.heap.objs.size := Heap.lt_size he
    have hil : it < s.heap.objs.size := by obtain ⟨_, q, _⟩ := hit; exact Heap.lt_size q
    have pT : s.heap.IsTuple a its.toArray := p
    have nai : a ≠ it := fun z => by
      obtain ⟨o, ho, hco, n, hd⟩ := pT
      obtain ⟨o2, ho2, hc2, hd2⟩ := hit
      rw [z, ho2] at ho
      cases ho
      rw [hd2] at hd
      cases hd
    have nae : e ∉ [it, a] := fun hm => by
      rcases List.mem_cons.mp hm with z | hm
      · exact hne z
      · have z := List.mem_singleton.mp hm
        obtain ⟨o, ho, hco, n, hd⟩ := pT
        rw [← z, he] at ho
        cases ho
        cases hd
    have D := Draws.tuple (prog := X.prog) (w := X.w) (A := X.A.in1) (I.ok.hd hc) it a nai its.toArray
    refine wpAny_pyNext_enum_itemD D he ⟨hit, pT⟩ (by simpa using (List.getElem?_eq_some_iff.mp hu).1) hne nae fun x' h' tk hx' ho st' hT hsz hk => ?_
    obtain ⟨hit', _⟩ := st'
    have eu : x' = u := by
      have e1 : its.toArray[i]? = some u := by simpa using hu
      rw [hx'] at e1
      exact Option.some.inj e1
    subst eu
    refine ⟨_, rfl, wpAny_letOwnedTupleGo_enum (s := { s with heap := h', toks := tk + 1 }) ho fun h'' he' sb => ?_⟩
    have hT2 : h''.get? s.heap.objs.size = some { cls := .type "tuple", data := .seq #[.int i tk, x'] } := (sb.2 _ (Nat.ne_of_gt hel)).trans hT
    have new : ObjOk X.prog X.w (upd H s.heap.objs.size (.tup [.int (i : Nat), x])) h'' s.heap.objs.size (.tup [.int (i : Nat), x]) :=
      ⟨by show 2 ≤ sizeLine; decide, [.int i tk, x'], .cons ⟨_, rfl⟩ (.cons ru .nil), ⟨_, hT2, rfl, _, rfl⟩⟩
    have I1 : Inv X pins σ (upd H s.heap.objs.size (.tup [.int (i : Nat), x])) { s with heap := h'', toks := tk + 1 } :=
      I.turnedNew (ch := [e, it]) (fun b ob hb q => (sb.2 b (fun z => hb (by simp [z]))).trans (hk b ob (fun z => hb (by simp [z])) (fun z => hb (by simp [z])) q)) hf (Nat.le_refl _) new
    refine ⟨.ref s.heap.objs.size, _, I1, rfl, ⟨_, x, rfl, I.hok.fresh (Nat.le_refl _), rfl, fun ys hy => by rw [I.tuple_inj hy hq]; exact hx⟩, ⟨⟨x', ?_⟩, hit'.at fun o q => (sb.2 it (Ne.symm hne)).trans q, hne⟩, fun b hb => ?_⟩
    · have e1 : ((i + 1 : Nat) : Int) = (i : Int) + 1 := by omega
      rw [e1]; exact he'
    · have hb' : b < s.heap.objs.size := by
        have e' : b = e ∨ b = it := by simpa using hb
        rcases e' with z | z
        · rw [z]; exact hel
        · rw [z]; exact hil
      rw [upd_ne (Nat.ne_of_lt hb')]
      exact (hf b hb).1
  done := by
    intro X hP hw hK hc i pins s σ H E I hf st hg
    subst hP hw hK
    obtain ⟨⟨old, he⟩, hit, hne⟩ := st
    obtain ⟨xs, hq, hx⟩ := hg
    obtain ⟨its, rv, p, hz⟩ := I.tuple hq
    obtain ⟨f0, f1, f2, f3, f4, f5⟩ := hf it (by simp)
    have hl := rv.length
    have pT : s.heap.IsTuple a its.toArray := p
    have T : s.TypeIs (.ref e) "enumerate" := ⟨_, he, rfl⟩
    unfold pyNext
    refine wpAny_bind (wpAny_attempt (wpAny_callSpecial?_slot (name := Str.ofString "__next__") T F.slot_enumerate_next
      (wpAny_call_entry F.slot_enumerate_next T F.entry_enumerate_next ?_ (F.args_enumerate_next_1 _))))
    show wpAny _ _ (field (.ref e) 2 >>= _) _ _ _
    refine wpAny_bind (wpAny_field he rfl (x := .ref it) rfl ?_)
    refine wpAny_bind (wpAny_nextOf_tuple_end (A := X.A.in1) (I.ok.hd hc) hit pT (by simp; omega) fun h' x he' hx' => ?_)
    obtain ⟨o, ho, hcl⟩ := hx'
    refine wpAny_bind (wpAny_isInstance (T := "StopIteration") (b := true) ⟨o, ho, hcl⟩ isSubtype_stop ?_)
    exact wpAny_pure ⟨rfl, I.turned (t' := s.toks) (fun b o hb q => he' b o hb q) f0 f1 f3 f4 f5⟩
  self := fun A i s Q E st h => let ⟨⟨_, he⟩, _⟩ := st; wpAny_pyIter_enum he h
def iEnumT0 (K : PySem.W.Frag) (ta : TA) : TI := fun σ H R => ta σ H fun vs H1 => ∃ a xs, vs = [.ref a] ∧ SqT K H1 a xs ∧ R (IteT K a) H1
theorem pi_enumT {X : Cx} {e : Expr} {ta : TA} {p pos tpos : Pos} {elts : List Expr} {kk : Nat} (hg : Gl X "enumerate") (hm : X.mg "enumerate" = none) (ha : PA X [e] ta) (hs : starEach [e] X.env = [(false, eval e X.env)] := by rfl) :
    PI X (.Tuple elts kk tpos) (.Call (.Name "enumerate" p) [e] [] pos) (iEnumT0 X.K ta) := by
  refine ⟨fun pins s σ H R I h => ?_⟩
  refine PyProof.Rows.Call_ (ld_blt I hg hm PyProof.Rows.boot_enumerate (PyProof.Rows.callWith_type1 (thn (ha.run pos pins s σ H _ I h) fun us s1 ⟨vs, H1, I1, r1, q1⟩ => ?_) hs rfl))
  obtain ⟨a, xs, ex, hq, q⟩ := q1
  subst ex
  cases r1 with
  | cons r rr =>
    cases rr
    cases r
    obtain ⟨its, rv, p', hz⟩ := I1.tuple hq
    refine call_enumerate_tuple (show s1.heap.IsTuple a its.toArray from p') fun h' he hit hsz hk => wpAny_pyIter_enum he ?_
    have I2 : Inv X pins σ H1 { s1 with heap := h' } := I1.kept (t' := s1.toks) hk
    refine ⟨s1.heap.objs.size + 1, [s1.heap.objs.size + 1, s1.heap.objs.size], _, _, H1, rfl, I2, turn_enumT a (s1.heap.objs.size + 1) s1.heap.objs.size, ⟨⟨.none, he⟩, hit, Nat.succ_ne_self _⟩, fun b hb => ?_, q⟩
    have e' : b = s1.heap.objs.size + 1 ∨ b = s1.heap.objs.size := by simpa using hb
    have hle : s1.heap.objs.size ≤ b := by
      rcases e' with z | z
      · rw [z]; exact Nat.le_add_right _ _
      · rw [z]; exact Nat.le_refl _
    exact I1.fpOk hle (I1.hok.fresh hle)
section
variable {c : Cf} {W : WX} {a b e tg : Expr} {f g : Ev} {pos : Pos}
/-- a tuple, enumerated -/
@[simp] def iEnumT (f : Ev) : Es := fun ρ => (f ρ).bind fun d => match d with
  | .tup ds => .ok (enumD 0 ds)
  | _ => .stuck
theorem si_enumT {x : Str} {p tpos : Pos} {elts : List Expr} {kk : Nat} (hx : x = "enumerate") (hg : c.sc.names.lookup x = some .globalImplicit) (hm : c.mg x = none) (ha : SE c W a f)
    (h1 : ∀ env, starEach [a] env = [(false, eval a env)] := by intro _; rfl) : SI c W (.Tuple elts kk tpos) (.Call (.Name x p) [a] [] pos) (iEnumT f) := by
  subst hx
  obtain ⟨t, k, ad⟩ := ha
  refine ⟨iEnumT0 c.K (tCons t tNil), fun X G => by rw [← G.K]; exact pi_enumT (by show X.env.scope.names.lookup _ = _; rw [G.sc]; exact hg) (by rw [G.mg]; exact hm) (pa_cons (k X G) pa_nil (by rw [h1]; rfl)) (h1 X.env), fun G B H ρ σ Q m hh => ?_⟩
  refine ad G B H ρ σ _ m ((Po.bind hh).imp fun d B1 H1 e1 q1 v r1 => ?_)
  cases d with
  | tup ds =>
    obtain ⟨p1, vs, rfl, a1, a2⟩ := r1
    refine ⟨p1, vs, rfl, Same.seqT e1.in_ a1, ok_refl q1 e1.in_ _ fun B' H' i s x => ?_⟩
    have q : SqT c.K H' p1 vs := Same.seqT x.in_ (Same.seqT s a1)
    refine ⟨fun d e => ?_, fun hi => ⟨vs, q, by rw [enumD_len, a2.length] at hi; exact hi⟩⟩
    obtain ⟨d1, f1, rfl⟩ := enumD_get e
    obtain ⟨v1, f2, g1⟩ := a2.get f1
    refine ⟨⟨vs, v1, q, f2⟩, fun y H2 hy => ?_⟩
    obtain ⟨T, x1, rfl, n, rfl, k1⟩ := hy
    have e3 := k1 vs q
    rw [f2] at e3
    cases e3
    rw [Nat.zero_add]
    exact rep_pair x.in_ n rfl (Rep.mono s _ _ g1)
  | _ => exact q1.elim
end
end Mi

namespace Mi.Sh
open PySem PySem.Spec L2 Mi
-- least_pair: 0:ones 1:others 2:found 3:k 4:one 5:j 6:other
noncomputable def u_least_pair_1 : Sv :=
  sSeq (sIf (tAndE (tst (eBin oNe (eLook 4) (eLook 6))) (tOrE (tst (eBin oIs (eLook 2) (eD .non))) (tst (eBin oLt (eBin oMul (eLook 4) (eLook 6)) (eBin oIx (eLook 2) (eD (.int 0))))))) (sAsg (eTup (vCons (eBin oMul (eLook 4) (eLook 6)) (vCons (eBin oAdd (eBin oMul (eD (.int 2)) (eLook 3)) (eLook 5)) (vNil)))) (gSet 2)) (sNx)) (sKill 5 (sKill 6 (sNx)))
noncomputable def u_least_pair_2 : Sv :=
  sSeq (sFor (iEnumT (eVar 1)) (gTupD 2 (gsCons (gSet 5) (gsCons (gSet 6) (gsNil)))) (u_least_pair_1)) (sKill 5 (sKill 3 (sKill 4 (sKill 6 (sNx)))))
noncomputable def t_least_pair_3 : Sv :=
  sSeq (sFor (iEnumT (eVar 0)) (gTupD 2 (gsCons (gSet 3) (gsCons (gSet 4) (gsNil)))) (u_least_pair_2)) (sRet (eVar 2))
noncomputable def b_least_pair : Sv :=
  sSeq (sAsg (eD .non) (gSet 2)) (t_least_pair_3)
noncomputable def m_least_pair : List Sl → R Sl := hid (runB 7 b_least_pair)
theorem m_least_pair_eq : m_least_pair = runB 7 b_least_pair := hid_eq _
-- pair_wait: 0:ones 1:others
noncomputable def b_pair_wait : Sv :=
  sRet (eBin oIx (eApp m_least_pair (aVal (eVar 0) (aVal (eVar 1) (aNil)))) (eD (.int 0)))
noncomputable def m_pair_wait : List Sl → R Sl := hid (runB 2 b_pair_wait)
theorem m_pair_wait_eq : m_pair_wait = runB 2 b_pair_wait := hid_eq _
-- _law_sum: 0:cells 1:start 2:step 3:number 4:k
noncomputable def u__law_sum_1 : Sv :=
  sSeq (sIf (tst (eBin oEq (eBin oMod (eLook 4) (eLook 2)) (eBin oMod (eLook 1) (eLook 2)))) (sAsg (eBin oAdd (eBin oMul (eLook 3) (eD (.int 23))) (eBin oIx (eLook 0) (eLook 4))) (gSet 3)) (sNx)) (sKill 4 (sNx))
noncomputable def t__law_sum_2 : Sv :=
  sSeq (sFor (iRng1D (eCall oLen (vCons (eLook 0) vNil))) (gSet 4) (u__law_sum_1)) (sRet (eBin oMod (eLook 3) (eBin oPow (eD (.int 10)) (eD (.int 40)))))
noncomputable def b__law_sum : Sv :=
  sSeq (sAsg (eVar 1) (gSet 3)) (t__law_sum_2)
noncomputable def m__law_sum : List Sl → R Sl := hid (runB 5 b__law_sum)
theorem m__law_sum_eq : m__law_sum = runB 5 b__law_sum := hid_eq _
-- _law_is_prime: 0:number 1:part
noncomputable def u__law_is_prime_1 : Sv :=
  sSeq (sIf (tst (eBin oEq (eBin oMod (eLook 0) (eLook 1)) (eD (.int 0)))) (sRet (eD (.bl false))) (sNx)) (sAsg (eBin oAdd (eLook 1) (eD (.int 1))) (gSet 1))
noncomputable def t__law_is_prime_2 : Sv :=
  sSeq (sWhl (tst (eBin oLe (eBin oMul (eLook 1) (eLook 1)) (eLook 0))) (u__law_is_prime_1)) (sRet (eBin oGt (eLook 0) (eD (.int 1))))
noncomputable def b__law_is_prime : Sv :=
  sSeq (sAsg (eD (.int 2)) (gSet 1)) (t__law_is_prime_2)
noncomputable def m__law_is_prime : List Sl → R Sl := hid (runB 2 b__law_is_prime)
theorem m__law_is_prime_eq : m__law_is_prime = runB 2 b__law_is_prime := hid_eq _
-- _law_prime: 0:number
noncomputable def u__law_prime_1 : Sv :=
  sAsg (eBin oAdd (eLook 0) (eD (.int 1))) (gSet 0)
noncomputable def b__law_prime : Sv :=
  sSeq (sWhl (tNotE (tst (eApp m__law_is_prime (aVal (eVar 0) (aNil))))) (u__law_prime_1)) (sRet (eVar 0))
noncomputable def m__law_prime : List Sl → R Sl := hid (runB 1 b__law_prime)
theorem m__law_prime_eq : m__law_prime = runB 1 b__law_prime := hid_eq _
-- _law_from: 0:number 1:kind
noncomputable def b__law_from : Sv :=
  sSeq (sIf (tst (eBin oEq (eBin oMod (eLook 1) (eD (.int 4))) (eD (.int 3)))) (sRet (eBin oIx (eLst (vCons (eD (.int 1000003)) (vCons (eD (.int 100000007)) (vNil)))) (eBin oMod (eLook 0) (eD (.int 2))))) (sNx)) (sRet (eApp m__law_prime (aVal (eBin oAdd (eD (.int 2)) (eBin oMod (eBin oMul (eLook 0) (eD (.int 48271))) (eBin oIx (eLst (vCons (eD (.int 30)) (vCons (eD (.int 1000)) (vCons (eD (.int 998999)) (vNil))))) (eBin oMod (eLook 1) (eD (.int 4)))))) (aNil))))
noncomputable def m__law_from : List Sl → R Sl := hid (runB 2 b__law_from)
theorem m__law_from_eq : m__law_from = runB 2 b__law_from := hid_eq _
-- _law_unlike: 0:prime
noncomputable def b__law_unlike : Sv :=
  sSeq (sIf (tst (eBin oGt (eLook 0) (eBin oPow (eD (.int 10)) (eD (.int 6))))) (sRet (eD (.int 2))) (sNx)) (sRet (eApp m__law_prime (aVal (eBin oAdd (eLook 0) (eD (.int 1))) (aNil))))
noncomputable def m__law_unlike : List Sl → R Sl := hid (runB 1 b__law_unlike)
theorem m__law_unlike_eq : m__law_unlike = runB 1 b__law_unlike := hid_eq _
-- _law_pairs: 0:script 1:kind 2:primes 3:k
noncomputable def t__law_pairs_1 : Sv :=
  sFrz 2 (sSeq (sIf (tst (eBin oEq (eBin oMod (eBin oDiv (eLook 1) (eD (.int 8))) (eD (.int 2))) (eD (.int 1)))) (sSeq (sSetF 2 (eCat (eLst (eCut (eLook 2) (pNo) (pSome (eD (.int 2))))) (eLst (vCons (eBin oIx (eLook 2) (eD (.int 3))) (vCons (eBin oIx (eLook 2) (eD (.int 2))) (vNil)))))) (sFrz 2 (sNx))) (sNx)) (sRet (eTup (vCons (eTup (vCons (eBin oIx (eLook 2) (eD (.int 0))) (vCons (eBin oIx (eLook 2) (eD (.int 1))) (vNil)))) (vCons (eTup (vCons (eBin oIx (eLook 2) (eD (.int 2))) (vCons (eBin oIx (eLook 2) (eD (.int 3))) (vNil)))) (vNil))))))
noncomputable def t__law_pairs_2 : Sv :=
  sSeq (sIf (tst (eBin oEq (eBin oIx (eLook 2) (eD (.int 3))) (eBin oIx (eLook 2) (eD (.int 2))))) (sPut 2 (eD (.int 3)) (eApp m__law_unlike (aVal (eBin oIx (eLook 2) (eD (.int 2))) (aNil)))) (sNx)) (t__law_pairs_1)
noncomputable def t__law_pairs_3 : Sv :=
  sSeq (sIf (tst (eBin oEq (eBin oIx (eLook 2) (eD (.int 1))) (eBin oIx (eLook 2) (eD (.int 0))))) (sPut 2 (eD (.int 1)) (eApp m__law_unlike (aVal (eBin oIx (eLook 2) (eD (.int 0))) (aNil)))) (sNx)) (t__law_pairs_2)
noncomputable def t__law_pairs_4 : Sv :=
  sSeq (sIf (tst (eBin oEq (eBin oMod (eLook 1) (eD (.int 8))) (eD (.int 3)))) (sSetF 2 (vCons (eBin oIx (eLook 2) (eD (.int 0))) (vCons (eBin oIx (eLook 2) (eD (.int 1))) (vCons (eBin oIx (eLook 2) (eD (.int 1))) (vCons (eBin oIx (eLook 2) (eD (.int 0))) (vNil)))))) (sNx)) (t__law_pairs_3)
noncomputable def t__law_pairs_5 : Sv :=
  sSeq (sIf (tst (eBin oEq (eBin oMod (eLook 1) (eD (.int 4))) (eD (.int 1)))) (sPut 2 (eD (.int 2)) (eBin oIx (eLook 2) (eBin oMod (eBin oDiv (eLook 1) (eD (.int 4))) (eD (.int 2))))) (sNx)) (t__law_pairs_4)
noncomputable def t__law_pairs_6 : Sv :=
  sSeq (sSetF 2 (eLc (iRng2D (eD (.int 1)) (eD (.int 5))) (gSet 3) (tYesE) (eApp m__law_from (aVal (eApp m__law_sum (aVal (eVar 0) (aVal (eVar 3) (aVal (eD (.int 5)) (aNil))))) (aVal (eBin oDiv (eLook 1) (eBin oAdd (eLook 3) (eD (.int 1)))) (aNil)))) [3])) (t__law_pairs_5)
noncomputable def b__law_pairs : Sv :=
  sSeq (sAsg (eApp m__law_cell_at (aVal (eVar 0) (aVal (eD (.int 0)) (aNil)))) (gSet 1)) (t__law_pairs_6)
noncomputable def m__law_pairs : List Sl → R Sl := hid (runB 4 b__law_pairs)
theorem m__law_pairs_eq : m__law_pairs = runB 4 b__law_pairs := hid_eq _
-- grid_wait: 0:one 1:other 2:great
noncomputable def b_grid_wait : Sv :=
  sSeq (sAsg (eCall oMax (vCons (eLook 0) (vCons (eLook 1) vNil))) (gSet 2)) (sRet (eApp m_least_round (aVal (eLst (vCons (eBin oMul (eLook 2) (eLook 2)) (vCons (eCall oMin (vCons (eLook 0) (vCons (eLook 1) vNil))) (vNil)))) (aNil))))
noncomputable def m_grid_wait : List Sl → R Sl := hid (runB 3 b_grid_wait)
theorem m_grid_wait_eq : m_grid_wait = runB 3 b_grid_wait := hid_eq _
-- _law_grids: 0:script 1:kind 2:one 3:other
noncomputable def t__law_grids_1 : Sv :=
  sSeq (sIf (tst (eBin oEq (eBin oMod (eBin oDiv (eLook 1) (eD (.int 4))) (eD (.int 4))) (eD (.int 2)))) (sAsg (eApp m__law_divisor (aVal (eVar 2) (aVal (eVar 3) (aNil)))) (gSet 3)) (sNx)) (sRet (eTup (vCons (eVar 2) (vCons (eVar 3) (vNil)))))
noncomputable def t__law_grids_2 : Sv :=
  sSeq (sIf (tst (eBin oEq (eBin oMod (eBin oDiv (eLook 1) (eD (.int 4))) (eD (.int 4))) (eD (.int 1)))) (sAsg (eVar 2) (gSet 3)) (sNx)) (t__law_grids_1)
noncomputable def t__law_grids_3 : Sv :=
  sSeq (sAsg (eBin oAdd (eD (.int 1)) (eBin oMod (eBin oMul (eApp m__law_sum (aVal (eVar 0) (aVal (eD (.int 4)) (aVal (eD (.int 4)) (aNil))))) (eBin oPow (eD (.int 7)) (eD (.int 50)))) (eBin oIx (eLst (vCons (eD (.int 30)) (vCons (eBin oSub (eBin oPow (eD (.int 10)) (eD (.int 50))) (eD (.int 1))) (vNil)))) (eBin oMod (eBin oDiv (eLook 1) (eD (.int 2))) (eD (.int 2)))))) (gSet 3)) (t__law_grids_2)
noncomputable def t__law_grids_4 : Sv :=
  sSeq (sAsg (eBin oAdd (eD (.int 1)) (eBin oMod (eBin oMul (eApp m__law_sum (aVal (eVar 0) (aVal (eD (.int 3)) (aVal (eD (.int 4)) (aNil))))) (eBin oPow (eD (.int 7)) (eD (.int 50)))) (eBin oIx (eLst (vCons (eD (.int 30)) (vCons (eBin oSub (eBin oPow (eD (.int 10)) (eD (.int 50))) (eD (.int 1))) (vNil)))) (eBin oMod (eLook 1) (eD (.int 2)))))) (gSet 2)) (t__law_grids_3)
noncomputable def b__law_grids : Sv :=
  sSeq (sAsg (eApp m__law_cell_at (aVal (eVar 0) (aVal (eD (.int 1)) (aNil)))) (gSet 1)) (t__law_grids_4)
noncomputable def m__law_grids : List Sl → R Sl := hid (runB 4 b__law_grids)
theorem m__law_grids_eq : m__law_grids = runB 4 b__law_grids := hid_eq _
-- _law_from_2: 0:number 1:kind
noncomputable def b__law_from_2 : Sv :=
  sSeq (sIf (tst (eBin oEq (eBin oMod (eLook 1) (eD (.int 4))) (eD (.int 3)))) (sRet (eBin oIx (eLst (vCons (eD (.int 1000003)) (vCons (eD (.int 100000007)) (vCons (eD (.int 10000000019)) (vCons (eD (.int 999999999989)) (vNil)))))) (eBin oMod (eLook 0) (eD (.int 4))))) (sNx)) (sRet (eApp m__law_prime (aVal (eBin oAdd (eD (.int 2)) (eBin oMod (eBin oMul (eLook 0) (eD (.int 48271))) (eBin oIx (eLst (vCons (eD (.int 30)) (vCons (eD (.int 1000)) (vCons (eD (.int 998999)) (vNil))))) (eBin oMod (eLook 1) (eD (.int 4)))))) (aNil))))
noncomputable def m__law_from_2 : List Sl → R Sl := hid (runB 2 b__law_from_2)
theorem m__law_from_2_eq : m__law_from_2 = runB 2 b__law_from_2 := hid_eq _
-- _law_pairs_2: 0:script 1:kind 2:primes 3:k
noncomputable def t__law_pairs_2_1 : Sv :=
  sFrz 2 (sSeq (sIf (tst (eBin oEq (eBin oMod (eBin oDiv (eLook 1) (eD (.int 8))) (eD (.int 2))) (eD (.int 1)))) (sSeq (sSetF 2 (eCat (eLst (eCut (eLook 2) (pNo) (pSome (eD (.int 2))))) (eLst (vCons (eBin oIx (eLook 2) (eD (.int 3))) (vCons (eBin oIx (eLook 2) (eD (.int 2))) (vNil)))))) (sFrz 2 (sNx))) (sNx)) (sRet (eTup (vCons (eTup (vCons (eBin oIx (eLook 2) (eD (.int 0))) (vCons (eBin oIx (eLook 2) (eD (.int 1))) (vNil)))) (vCons (eTup (vCons (eBin oIx (eLook 2) (eD (.int 2))) (vCons (eBin oIx (eLook 2) (eD (.int 3))) (vNil)))) (vNil))))))
noncomputable def t__law_pairs_2_2 : Sv :=
  sSeq (sIf (tst (eBin oEq (eBin oIx (eLook 2) (eD (.int 3))) (eBin oIx (eLook 2) (eD (.int 2))))) (sPut 2 (eD (.int 3)) (eApp m__law_unlike (aVal (eBin oIx (eLook 2) (eD (.int 2))) (aNil)))) (sNx)) (t__law_pairs_2_1)
noncomputable def t__law_pairs_2_3 : Sv :=
  sSeq (sIf (tst (eBin oEq (eBin oIx (eLook 2) (eD (.int 1))) (eBin oIx (eLook 2) (eD (.int 0))))) (sPut 2 (eD (.int 1)) (eApp m__law_unlike (aVal (eBin oIx (eLook 2) (eD (.int 0))) (aNil)))) (sNx)) (t__law_pairs_2_2)
noncomputable def t__law_pairs_2_4 : Sv :=
  sSeq (sIf (tst (eBin oEq (eBin oMod (eLook 1) (eD (.int 8))) (eD (.int 3)))) (sSetF 2 (vCons (eBin oIx (eLook 2) (eD (.int 0))) (vCons (eBin oIx (eLook 2) (eD (.int 1))) (vCons (eBin oIx (eLook 2) (eD (.int 1))) (vCons (eBin oIx (eLook 2) (eD (.int 0))) (vNil)))))) (sNx)) (t__law_pairs_2_3)
noncomputable def t__law_pairs_2_5 : Sv :=
  sSeq (sIf (tst (eBin oEq (eBin oMod (eLook 1) (eD (.int 4))) (eD (.int 1)))) (sPut 2 (eD (.int 2)) (eBin oIx (eLook 2) (eBin oMod (eBin oDiv (eLook 1) (eD (.int 4))) (eD (.int 2))))) (sNx)) (t__law_pairs_2_4)
noncomputable def t__law_pairs_2_6 : Sv :=
  sSeq (sSetF 2 (eLc (iRng2D (eD (.int 1)) (eD (.int 5))) (gSet 3) (tYesE) (eApp m__law_from_2 (aVal (eApp m__law_sum (aVal (eVar 0) (aVal (eVar 3) (aVal (eD (.int 5)) (aNil))))) (aVal (eBin oDiv (eLook 1) (eBin oAdd (eLook 3) (eD (.int 1)))) (aNil)))) [3])) (t__law_pairs_2_5)
noncomputable def b__law_pairs_2 : Sv :=
  sSeq (sAsg (eApp m__law_cell_at (aVal (eVar 0) (aVal (eD (.int 0)) (aNil)))) (gSet 1)) (t__law_pairs_2_6)
noncomputable def m__law_pairs_2 : List Sl → R Sl := hid (runB 4 b__law_pairs_2)
theorem m__law_pairs_2_eq : m__law_pairs_2 = runB 4 b__law_pairs_2 := hid_eq _
end Mi.Sh

namespace Mi.Sh
open PySem PySem.Spec L2 Mi
/-- the law's sum of cells -/
theorem law_sum_ok {ns : List Int} {start step : Int} (hl : ns.length ≤ 63) (hb : ∀ z ∈ ns, Builtin.Int.intBits z ≤ 1048576) (s0 : 0 ≤ start ∧ start ≤ 100) (p0 : 0 < step ∧ step ≤ 100) :
    ∃ n : Int, 0 ≤ n ∧ n < 10 ^ 40 ∧ m__law_sum [.sh (.lst (ns.map D.int)), .sh (.int start), .sh (.int step)] = .ok (.sh (.int n)) := by
  obtain ⟨ρ', h1, s, h2, h3⟩ := forR_nat (gt := gSet 4) (u := u__law_sum_1) (fun k ρ => ∃ s : Int, Bd (1048576 + 9 * k) s ∧ ρ = [some (.sh (.lst (ns.map D.int))), some (.sh (.int start)), some (.sh (.int step)), some (.sh (.int s)), none]) (rngD 0 ns.length) 0
    [some (.sh (.lst (ns.map D.int))), some (.sh (.int start)), some (.sh (.int step)), some (.sh (.int start)), none] ⟨start, ⟨Nat.lt_of_lt_of_le (show start.natAbs < 2 ^ 7 by omega) (Nat.pow_le_pow_right (by decide) (by omega))⟩, rfl⟩ fun i d ρ hd ⟨s, h2, h3⟩ => by
    obtain ⟨hi, rfl⟩ := rngD_get hd
    subst h3
    rw [Nat.zero_add] at h2 ⊢
    have hz : Bd 1048576 ns[i] := .cell (hb _ (List.getElem_mem _))
    have at1 : atI (ns.map D.int) (i : Int) = some (.int ns[i]) := by
      rw [atI_nat (by omega) (by rw [List.length_map]; omega), Int.toNat_natCast, List.getElem?_map, List.getElem?_eq_getElem hi]
      rfl
    rw [Int.zero_add]
    have pp := p0.1
    by_cases q : (i : Int) % step = start % step
    · refine ⟨[some (.sh (.lst (ns.map D.int))), some (.sh (.int start)), some (.sh (.int step)), some (.sh (.int (s * 23 + ns[i]))), none], ?_, s * 23 + ns[i], ?_, rfl⟩
      · have h2' : Bd 1060000 s := h2.up (by omega)
        have m1 : mulOk s 23 = true := @mulOk_i _ _ _ _ h2' (bd_lit 23) (by rfl)
        simp [turnB, u__law_sum_1, pp, q, at1, m1, oEq]
      · have h23 : Bd 8 (23 : Int) := ⟨by decide⟩
        exact (@bd_add _ _ _ _ (@bd_mul _ _ _ _ h2 h23) hz).up (by
          have : Nat.max (1048576 + 9 * i + 8) 1048576 = 1048576 + 9 * i + 8 := Nat.max_eq_left (by omega)
          omega)
    · exact ⟨[some (.sh (.lst (ns.map D.int))), some (.sh (.int start)), some (.sh (.int step)), some (.sh (.int s)), none], by simp [turnB, u__law_sum_1, pp, q, oEq], s, h2.up (by omega), rfl⟩
  rw [h3] at h1
  have it := iRng1D_ok (f := eCall oLen (vCons (eLook 0) vNil)) (ρ := [some (.sh (.lst (ns.map D.int))), some (.sh (.int start)), some (.sh (.int step)), some (.sh (.int start)), none]) (j := (ns.length : Int)) (by simp) (by omega)
  rw [Int.toNat_natCast] at it
  have e2 := sFor_at it h1
  refine ⟨s % 10 ^ 40, Int.emod_nonneg _ (by decide), Int.emod_lt_of_pos _ (by decide), ?_⟩
  rw [m__law_sum_eq]
  refine runB_rt ?_
  simp [b__law_sum, t__law_sum_2, e2]
def gridP (n : Int) : List Wk3 := [(n, 0, 1), (n * n, 0, n)]
theorem grid_plan_ok {n : Int} (h : 1 ≤ n) (hb : n ≤ 10 ^ 60) : m_grid_plan [.sh (.int n)] = .ok (.ow ((gridP n).map wkD)) := by
  haveI : Bd 200 n := ⟨by omega⟩
  have m1 : mulOk n n = true := mulOk_i (by rfl)
  have h' : ¬ n < 1 := by omega
  rw [m_grid_plan_eq]
  exact runB_rt (by simp [b_grid_plan, m1, h', gridP, wkD])
theorem grid_plan_no {n : Int} (h : n < 1) : m_grid_plan [.sh (.int n)] = .exc "NoPlan" := by
  rw [m_grid_plan_eq]
  simp [b_grid_plan, h]
theorem grid_wait_ok {m n : Nat} (hm : 0 < m ∧ m ≤ 10 ^ 60) (hn : 0 < n ∧ n ≤ 10 ^ 60) : m_grid_wait [.sh (.int (m : Int)), .sh (.int (n : Int))] = .ok (.sh (.int ((Nat.lcm (max m n * max m n) (min m n) : Nat) : Int))) := by
  have h1 : 0 < max m n := by omega
  have hg : max m n ≤ 10 ^ 60 := by omega
  have e := lround_ok (b := 500) (ns := [max m n * max m n, min m n]) (by decide) (fun x hx => by
    rcases List.mem_cons.mp hx with rfl | hx
    · refine ⟨Nat.mul_pos h1 h1, ?_⟩
      haveI : Bd 200 ((max m n : Nat) : Int) := ⟨by omega⟩
      rw [Int.natCast_mul]
      exact (inferInstance : Bd (200 + 200) (((max m n : Nat) : Int) * ((max m n : Nat) : Int))).up (by decide)
    · rw [List.mem_singleton.mp hx]
      exact ⟨by omega, ⟨by omega⟩⟩) (by simp) (s := .sh (.lst [.int ((max m n * max m n : Nat) : Int), .int ((min m n : Nat) : Int)])) (.inl rfl)
  have e1 : lcms 1 [max m n * max m n, min m n] = Nat.lcm (max m n * max m n) (min m n) := by
    show Nat.lcm (Nat.lcm 1 (max m n * max m n)) (min m n) = _
    rw [Nat.lcm_one_left]
  rw [e1] at e
  haveI : Bd 200 ((max m n : Nat) : Int) := ⟨by omega⟩
  have m1 : mulOk ((max m n : Nat) : Int) ((max m n : Nat) : Int) = true := mulOk_i (by rfl)
  have c1 : max (m : Int) (n : Int) = ((max m n : Nat) : Int) := by omega
  have c2 : min (m : Int) (n : Int) = ((min m n : Nat) : Int) := by omega
  rw [m_grid_wait_eq]
  refine runB_rt ?_
  rw [Int.natCast_mul] at e
  generalize max m n = g at *
  generalize min m n = l at *
  simp [b_grid_wait, c1, c2, m1, e]
theorem law_grids_ok {ns : List Int} (hl : ns.length ≤ 63) (hb : ∀ z ∈ ns, Builtin.Int.intBits z ≤ 1048576) :
    ∃ m n : Nat, (0 < m ∧ m ≤ 10 ^ 50) ∧ (0 < n ∧ n ≤ 10 ^ 50) ∧ m__law_grids [.sh (.lst (ns.map D.int))] = .ok (.sh (.tup [.int (m : Int), .int (n : Int)])) := by
  have c1 : m__law_cell_at [.sh (.lst (ns.map D.int)), .sh (.int 1)] = .ok (.sh (.int (ns.getD 1 0))) := cell_at_ok (ns := ns) (k := 1) hl
  obtain ⟨a, a0, a1, ea⟩ := law_sum_ok (start := 3) (step := 4) hl hb (by decide) (by decide)
  obtain ⟨b, b0, b1, eb⟩ := law_sum_ok (start := 4) (step := 4) hl hb (by decide) (by decide)
  generalize ns.getD 1 0 = k at *
  obtain ⟨S0, hS0⟩ : ∃ S0 : D, S0 = .lst (ns.map D.int) := ⟨_, rfl⟩
  rw [← hS0] at c1 ea eb
  have first : ∃ m : Nat, (0 < m ∧ m ≤ 10 ^ 50) ∧ t__law_grids_4 [some (.sh S0), some (.sh (.int k)), none, none] = t__law_grids_3 [some (.sh S0), some (.sh (.int k)), some (.sh (.int (m : Int))), none] := by
    haveI : Bd 140 a := ⟨by omega⟩
    have m1 : mulOk a 1798465042647412146620280340569649349251249 = true := mulOk_i (by rfl)
    have q : k % 2 = 0 ∨ k % 2 = 1 := by omega
    rcases q with q | q
    · obtain ⟨m, hm⟩ := Int.eq_ofNat_of_zero_le (show 0 ≤ 1 + a * 1798465042647412146620280340569649349251249 % 30 by omega)
      exact ⟨m, by omega, by rw [← hm]; simp [t__law_grids_4, ea, q, m1]⟩
    · obtain ⟨m, hm⟩ := Int.eq_ofNat_of_zero_le (show 0 ≤ 1 + a * 1798465042647412146620280340569649349251249 % 99999999999999999999999999999999999999999999999999 by omega)
      exact ⟨m, by omega, by rw [← hm]; simp [t__law_grids_4, ea, q, m1]⟩
  obtain ⟨m, hm, em⟩ := first
  have second : ∃ n : Nat, (0 < n ∧ n ≤ 10 ^ 50) ∧ t__law_grids_3 [some (.sh S0), some (.sh (.int k)), some (.sh (.int (m : Int))), none] = t__law_grids_2 [some (.sh S0), some (.sh (.int k)), some (.sh (.int (m : Int))), some (.sh (.int (n : Int)))] := by
    haveI : Bd 140 b := ⟨by omega⟩
    have m1 : mulOk b 1798465042647412146620280340569649349251249 = true := mulOk_i (by rfl)
    have q : k / 2 % 2 = 0 ∨ k / 2 % 2 = 1 := by omega
    rcases q with q | q
    · obtain ⟨n, hn⟩ := Int.eq_ofNat_of_zero_le (show 0 ≤ 1 + b * 1798465042647412146620280340569649349251249 % 30 by omega)
      exact ⟨n, by omega, by rw [← hn]; simp [t__law_grids_3, eb, q, m1]⟩
    · obtain ⟨n, hn⟩ := Int.eq_ofNat_of_zero_le (show 0 ≤ 1 + b * 1798465042647412146620280340569649349251249 % 99999999999999999999999999999999999999999999999999 by omega)
      exact ⟨n, by omega, by rw [← hn]; simp [t__law_grids_3, eb, q, m1]⟩
  obtain ⟨n, hn, en⟩ := second
  have third : ∃ n' : Nat, (0 < n' ∧ n' ≤ 10 ^ 50) ∧ t__law_grids_2 [some (.sh S0), some (.sh (.int k)), some (.sh (.int (m : Int))), some (.sh (.int (n : Int)))] = .rt (.sh (.tup [.int (m : Int), .int (n' : Int)])) := by
    by_cases q : k / 4 % 4 = 1
    · exact ⟨m, hm, by simp [t__law_grids_2, t__law_grids_1, q, oEq]⟩
    by_cases q2 : k / 4 % 4 = 2
    · have e := ldivisor_nat m n
      have h1 : 0 < Nat.gcd m n := Nat.gcd_pos_of_pos_left _ hm.1
      have h2 : Nat.gcd m n ≤ m := Nat.gcd_le_left _ hm.1
      exact ⟨Nat.gcd m n, ⟨h1, by omega⟩, by simp [t__law_grids_2, t__law_grids_1, q, q2, oEq, e]⟩
    · exact ⟨n, hn, by simp [t__law_grids_2, t__law_grids_1, q, q2, oEq]⟩
  obtain ⟨n', hn', e'⟩ := third
  refine ⟨m, n', hm, hn', ?_⟩
  rw [m__law_grids_eq]
  refine runB_rt ?_
  rw [en, e'] at em
  subst hS0
  simp [b__law_grids, c1, em]
end Mi.Sh

namespace Mi.Sh
open PySem PySem.Spec L2 Mi
theorem both_within {u v : Wk3} {sh L : Int} (turn : Int) (hL : 0 < L) (d1 : u.1 ∣ L) (d2 : v.1 ∣ L) (h : Both u v sh) : ∃ t, turn ≤ t ∧ t < turn + L ∧ BothAt u v sh t := by
  obtain ⟨t0, h1, h2⟩ := h
  have e0 := Int.emod_nonneg (t0 - turn) (show L ≠ 0 by omega)
  have e1 := Int.emod_lt_of_pos (t0 - turn) hL
  have e2 := Int.emod_add_mul_ediv (t0 - turn) L
  refine ⟨turn + (t0 - turn) % L, by omega, by omega, ?_, ?_⟩
  · obtain ⟨k, hk⟩ := d1
    show (turn + (t0 - turn) % L - u.2.1) % u.1 < u.2.2
    have e : turn + (t0 - turn) % L - u.2.1 = (t0 - u.2.1) + u.1 * -(k * ((t0 - turn) / L)) := by
      have : L * ((t0 - turn) / L) = u.1 * (k * ((t0 - turn) / L)) := by
        conv => lhs; lhs; rw [hk]
        rw [Int.mul_assoc]
      rw [Int.mul_neg]
      omega
    rw [e, Int.add_mul_emod_self_left]
    exact h1
  · obtain ⟨k, hk⟩ := d2
    show (turn + (t0 - turn) % L - sh - v.2.1) % v.1 < v.2.2
    have e : turn + (t0 - turn) % L - sh - v.2.1 = (t0 - sh - v.2.1) + v.1 * -(k * ((t0 - turn) / L)) := by
      have : L * ((t0 - turn) / L) = v.1 * (k * ((t0 - turn) / L)) := by
        conv => lhs; lhs; rw [hk]
        rw [Int.mul_assoc]
      rw [Int.mul_neg]
      omega
    rw [e, Int.add_mul_emod_self_left]
    exact h2
/-- the next turn together lies within any common round of a pair that meets -/
theorem next_within {b : Nat} (hb : b < 8000) {us vs : List Wk3} {sh turn L : Int} (hu : ∀ u ∈ us, WB b u) (hv : ∀ v ∈ vs, WB b v) {u v : Wk3} (h1 : u ∈ us) (h2 : v ∈ vs) (hL : 0 < L) (d1 : u.1 ∣ L) (d2 : v.1 ∣ L) (h : Both u v sh) :
    ∃ f : Int, turn ≤ f ∧ f < turn + L ∧ TogP us vs sh f ∧ (∀ t, turn ≤ t → t < f → ¬ TogP us vs sh t) ∧ m_next_together [.sh (.lst (us.map wkD)), .sh (.lst (vs.map wkD)), .sh (.int sh), .sh (.int turn)] = .ok (.sh (.int f)) := by
  obtain ⟨t, t1, t2, t3⟩ := both_within turn hL d1 d2 h
  have ht : TogP us vs sh t := togP_iff.mpr ⟨u, h1, v, h2, t3⟩
  obtain ⟨o, ho, e⟩ := next_together_ok (sh := sh) (turn := turn) hb hu hv
  cases o with
  | none => exact absurd ht (ho t t1)
  | some f =>
    refine ⟨f, ho.1, ?_, ho.2.1, ho.2.2, e⟩
    by_cases q : f ≤ t
    · omega
    · exact absurd ht (ho.2.2 t t1 (by omega))
theorem grid_wb {n : Nat} (h : 0 < n ∧ n ≤ 10 ^ 60) : ∀ w ∈ gridP (n : Int), WB 500 w := fun w hw => by
  have h1 : (n : Int) ≤ (n : Int) * n := by
    have : (n : Int) * 1 ≤ (n : Int) * n := Int.mul_le_mul_of_nonneg_left (by omega) (by omega)
    omega
  have h2 : ((n : Int) * n).natAbs < 2 ^ 500 := by
    rw [Int.natAbs_mul, Int.natAbs_natCast]
    have : n * n ≤ 10 ^ 60 * 10 ^ 60 := Nat.mul_le_mul h.2 h.2
    exact Nat.lt_of_le_of_lt this (by decide)
  rcases List.mem_cons.mp hw with rfl | hw
  · exact ⟨⟨by dsimp only; omega, by dsimp only; omega, by dsimp only; omega⟩, ⟨by dsimp only; omega⟩⟩
  · rw [List.mem_singleton.mp hw]
    exact ⟨⟨by dsimp only; omega, by dsimp only; omega, by dsimp only; exact h1⟩, ⟨by dsimp only; exact h2⟩⟩
theorem grid_both {m n : Nat} (hm : 0 < m ∧ m ≤ 10 ^ 60) (hn : 0 < n ∧ n ≤ 10 ^ 60) (sh : Int) :
    ∃ u ∈ gridP (m : Int), ∃ v ∈ gridP (n : Int), u.1 ∣ ((Nat.lcm (max m n * max m n) (min m n) : Nat) : Int) ∧ v.1 ∣ ((Nat.lcm (max m n * max m n) (min m n) : Nat) : Int) ∧ Both u v sh := by
  have wm := grid_wb hm
  have wn := grid_wb hn
  by_cases q : n ≤ m
  · refine ⟨((m : Int) * m, 0, (m : Int)), List.mem_cons_of_mem _ (List.mem_singleton.mpr rfl), ((n : Int), 0, 1), List.mem_cons_self, ?_, ?_, ?_⟩
    · rw [show max m n = m by omega, show min m n = n by omega]
      have := Int.natCast_dvd_natCast.mpr (Nat.dvd_lcm_left (m * m) n)
      rwa [Int.natCast_mul] at this
    · rw [show max m n = m by omega, show min m n = n by omega]
      exact Int.natCast_dvd_natCast.mpr (Nat.dvd_lcm_right (m * m) n)
    · refine (both_iff2 (wm _ (List.mem_cons_of_mem _ (List.mem_singleton.mpr rfl))).wak (wn _ List.mem_cons_self).wak).mp ?_
      dsimp only
      have h1 := gOf_pos (w := (n : Int)) (sp := (m : Int) * m) (by omega)
      have h2 := gOf_le (w := (n : Int)) (sp := (m : Int) * m) (by omega)
      have h3 := Int.emod_lt_of_pos (sh - 0 + 0 + 1 - 1) h1
      omega
  · refine ⟨((m : Int), 0, 1), List.mem_cons_self, ((n : Int) * n, 0, (n : Int)), List.mem_cons_of_mem _ (List.mem_singleton.mpr rfl), ?_, ?_, ?_⟩
    · rw [show max m n = n by omega, show min m n = m by omega]
      exact Int.natCast_dvd_natCast.mpr (Nat.dvd_lcm_right (n * n) m)
    · rw [show max m n = n by omega, show min m n = m by omega]
      have := Int.natCast_dvd_natCast.mpr (Nat.dvd_lcm_left (n * n) m)
      rwa [Int.natCast_mul] at this
    · refine (both_iff2 (wm _ List.mem_cons_self).wak (wn _ (List.mem_cons_of_mem _ (List.mem_singleton.mpr rfl))).wak).mp ?_
      dsimp only
      have hp : (0 : Int) < (n : Int) * n := Int.mul_pos (by omega) (by omega)
      have h1 := gOf_pos (w := (n : Int) * n) (sp := (m : Int)) hp
      have h2 : gOf ((n : Int) * n) (m : Int) ≤ m := Int.le_of_dvd (by omega) (gOf_sp hp)
      have h3 := Int.emod_lt_of_pos (sh - 0 + 0 + n - 1) h1
      omega
end Mi.Sh

namespace Mi.Sh
open PySem PySem.Spec L2 Mi
theorem dvd_gOf {d w sp : Int} (hd : 0 < d) (hw : 0 < w) (h1 : d ∣ w) (h2 : d ∣ sp) : d ∣ gOf w sp := by
  unfold gOf
  have h3 : d ∣ sp % w := by
    have e := Int.emod_add_mul_ediv sp w
    obtain ⟨a, ha⟩ := h1
    obtain ⟨b, hb⟩ := h2
    refine ⟨b - a * (sp / w), ?_⟩
    rw [Int.mul_sub, ← hb, ← Int.mul_assoc, ← ha]
    omega
  have p0 := Int.emod_nonneg sp (show w ≠ 0 by omega)
  have e1 : d = ((d.toNat : Nat) : Int) := (Int.toNat_of_nonneg (by omega)).symm
  have e2 : w = ((w.toNat : Nat) : Int) := (Int.toNat_of_nonneg (by omega)).symm
  have e3 : sp % w = (((sp % w).toNat : Nat) : Int) := (Int.toNat_of_nonneg p0).symm
  rw [e1]
  refine Int.natCast_dvd_natCast.mpr (Nat.dvd_gcd ?_ ?_)
  · rw [e1, e2] at h1
    exact Int.natCast_dvd_natCast.mp h1
  · rw [e1, e3] at h3
    exact Int.natCast_dvd_natCast.mp h3
theorem gOf_eq {d w sp : Int} (hd : 0 < d) (hw : 0 < w) (h1 : d ∣ w) (h2 : d ∣ sp) (h : w = d ∨ sp = d) : gOf w sp = d := by
  have g0 := gOf_pos (sp := sp) hw
  have a := Int.le_of_dvd g0 (dvd_gOf hd hw h1 h2)
  have b : gOf w sp ≤ d := by
    rcases h with h | h
    · rw [← h]; exact gOf_le hw
    · exact Int.le_of_dvd hd (h ▸ gOf_sp hw)
  omega
/-- what a row of a script holds: a plan, where the waking stands that is mostly awake, and where the wakings of the parts begin -/
structure RowP (B : Nat) (one : Prop) (ws : List Wk3) (at_ base : Nat) : Prop where
  wb : ∀ w ∈ ws, WB 200 w
  len : ws.length = base + B
  le : base ≤ 3
  at_lt : at_ < base
  most : ∃ w, ws[at_]? = some w ∧ w.1 + 1 ≤ 2 * w.2.2
  parts : ∀ c, c < B → ∃ t s : Int, 0 < t ∧ (one → t = 1) ∧ ws[base + c]? = some ((B : Int) * t, (c : Int) + (B : Int) * s, 1)
theorem rows_plan {cell part great : Int} {B : Nat} (hc : Bd 1048590 cell) (hp : 1 ≤ part) (hp2 : part ≤ 2000000000000000000000000000000) (hB : 2 ≤ B ∧ B ≤ 4) (hg : great = 0 ∨ great = 1) :
    ∃ (ws : List Wk3) (at_ base : Nat), RowP B (great = 0) ws at_ base ∧ m__law_plan [.sh (.int cell), .sh (.int part), .sh (.int (B : Int)), .sh (.int great)] = .ok (.ow [.lst (ws.map wkD), .int (at_ : Int), .int (base : Int)]) := by
  obtain ⟨n, n0, n1, en⟩ := big_ok hc
  -- the part that the wakings are made of
  obtain ⟨pt, pt1, pt2, ept⟩ : ∃ pt : Int, 1 ≤ pt ∧ pt ≤ 10 ^ 52 ∧ b__law_plan [some (.sh (.int cell)), some (.sh (.int part)), some (.sh (.int (B : Int))), some (.sh (.int great)), none, none, none, none, none, none, none] = t__law_plan_10 [some (.sh (.int cell)), some (.sh (.int pt)), some (.sh (.int (B : Int))), some (.sh (.int great)), some (.sh (.int n)), none, none, none, none, none, none] := by
    by_cases q : n / 17 % 2 = 1
    · have x0 := Int.emod_nonneg (n / 5000) (show (100000000000000000000 : Int) ≠ 0 by decide)
      have x1 := Int.emod_lt_of_pos (n / 5000) (show (0 : Int) < 100000000000000000000 by decide)
      have m1 : mulOk part (1 + n / 5000 % 100000000000000000000) = true := @mulOk_i 200 200 _ _ ⟨by omega⟩ ⟨by omega⟩ (by rfl)
      refine ⟨part * (1 + n / 5000 % 100000000000000000000), ?_, ?_, ?_⟩
      · have : 1 * 1 ≤ part * (1 + n / 5000 % 100000000000000000000) := Int.mul_le_mul hp (by omega) (by decide) (by omega)
        omega
      · have : part * (1 + n / 5000 % 100000000000000000000) ≤ 2000000000000000000000000000000 * 100000000000000000000 := Int.mul_le_mul hp2 (by omega) (by omega) (by decide)
        omega
      · simp -implicitDefEqProofs [b__law_plan, en, t__law_plan_11, oEq_ii, q, m1]
    · refine ⟨part, hp, by omega, ?_⟩
      simp -implicitDefEqProofs [b__law_plan, en, t__law_plan_11, oEq_ii, q]
  -- wakings of any kind
  have d0 := Int.emod_nonneg n (show (3 : Int) ≠ 0 by decide)
  have d1 := Int.emod_lt_of_pos n (show (0 : Int) < 3 by decide)
  obtain ⟨m, hm, m2⟩ : ∃ m : Nat, (m : Int) = n % 3 ∧ m ≤ 2 := ⟨(n % 3).toNat, by omega, by omega⟩
  obtain ⟨ρ, e, ws, h1, h2, h3⟩ := forR_nat (gt := gSet 6) (u := u__law_plan_2) (fun i ρ => ∃ ws : List Wk3, ws.length = i ∧ (∀ w ∈ ws, WB 200 w) ∧ ρ = [some (.sh (.int cell)), some (.sh (.int pt)), some (.sh (.int (B : Int))), some (.sh (.int great)), some (.sh (.int n)), some (.ow (ws.map wkD)), none, none, none, none, none]) (rngD 0 m) 0 [some (.sh (.int cell)), some (.sh (.int pt)), some (.sh (.int (B : Int))), some (.sh (.int great)), some (.sh (.int n)), some (.ow []), none, none, none, none, none]
    ⟨[], rfl, fun w h => absurd h List.not_mem_nil, rfl⟩ fun i d ρ hd ⟨ws, h1, h2, h3⟩ => by
      obtain ⟨hi, rfl⟩ := rngD_get hd
      subst h3
      rw [Nat.zero_add] at h1 ⊢
      have v0 : (0 : Int) < 9 + 8 * (i : Int) := by omega
      have dv : divOk (9 + 8 * (i : Int)) = true := divOk_lit (by omega)
      have m8 : mulOk 8 (i : Int) = true := @mulOk_i 10 10 _ _ ⟨by omega⟩ ⟨by omega⟩ (by rfl)
      have x0 := Int.emod_nonneg (n / (9 + 8 * (i : Int))) (show (6 : Int) ≠ 0 by decide)
      have x1 := Int.emod_lt_of_pos (n / (9 + 8 * (i : Int))) (show (0 : Int) < 6 by decide)
      generalize hq : n / (9 + 8 * (i : Int)) % 6 = q at *
      have mp : mulOk pt (1 + q) = true := @mulOk_i 200 10 _ _ ⟨by omega⟩ ⟨by omega⟩ (by rfl)
      have p1 : 1 * 1 ≤ pt * (1 + q) := Int.mul_le_mul pt1 (by omega) (by decide) (by omega)
      have p2 : pt * (1 + q) ≤ 10 ^ 52 * 6 := Int.mul_le_mul pt2 (by omega) (by omega) (by decide)
      generalize hP : pt * (1 + q) = P at *
      have p0 : 0 < P := by omega
      have dp : divOk P = true := @divOk_i 200 _ ⟨by omega⟩ (by rfl)
      have l0 := Int.emod_nonneg (n / 1000) (show P ≠ 0 by omega)
      have l1 := Int.emod_lt_of_pos (n / 1000) p0
      have hz : ws.length < szL := lt_szL (by omega)
      refine ⟨_, ?_, ws ++ [(P, n / 100 % P, 1 + n / 1000 % P / 2)], by rw [List.length_append, List.length_singleton, h1], fun w hw => ?_, rfl⟩
      · simp -implicitDefEqProofs [turnB, u__law_plan_2, m8, v0, dv, hq, mp, hP, t__law_plan_1, p0, dp, hz, wkD]
      · rcases List.mem_append.mp hw with hw | hw
        · exact h2 w hw
        · rw [List.mem_singleton.mp hw]
          exact ⟨⟨by show 1 ≤ P; omega, by show 1 ≤ 1 + _; omega, by show 1 + _ ≤ P; omega⟩, ⟨by show P.natAbs < _; omega⟩⟩
  rw [rngD_len, Nat.zero_add] at h1
  rw [h3] at e
  have it := iRng1D_ok (f := eBin oMod (eLook 4) (eD (.int 3))) (ρ := [some (.sh (.int cell)), some (.sh (.int pt)), some (.sh (.int (B : Int))), some (.sh (.int great)), some (.sh (.int n)), some (.ow []), none, none, none, none, none]) (j := n % 3) (by simp) (by omega)
  rw [← hm, Int.toNat_natCast] at it
  have e1 := sFor_at it e
  -- the waking that is mostly awake
  have x0 := Int.emod_nonneg (n / 70) (show (6 : Int) ≠ 0 by decide)
  have x1 := Int.emod_lt_of_pos (n / 70) (show (0 : Int) < 6 by decide)
  generalize hq : n / 70 % 6 = q at *
  have mp : mulOk pt (1 + q) = true := @mulOk_i 200 10 _ _ ⟨by omega⟩ ⟨by omega⟩ (by rfl)
  have p1 : 1 * 1 ≤ pt * (1 + q) := Int.mul_le_mul pt1 (by omega) (by decide) (by omega)
  have p2 : pt * (1 + q) ≤ 10 ^ 52 * 6 := Int.mul_le_mul pt2 (by omega) (by omega) (by decide)
  generalize hP : pt * (1 + q) = P at *
  have p0 : 0 < P := by omega
  have dp : divOk P = true := @divOk_i 200 _ ⟨by omega⟩ (by rfl)
  have k0 := Int.emod_nonneg (n / 420) (show (ws.length : Int) + 1 ≠ 0 by omega)
  have k1 := Int.emod_lt_of_pos (n / 420) (show (0 : Int) < (ws.length : Int) + 1 by omega)
  have dl : divOk ((ws.length : Int) + 1) = true := divOk_lit (by omega)
  have lp : (0 : Int) < (ws.length : Int) + 1 := by omega
  obtain ⟨at_, hat⟩ : ∃ a : Nat, (a : Int) = n / 420 % ((ws.length : Int) + 1) := ⟨(n / 420 % ((ws.length : Int) + 1)).toNat, Int.toNat_of_nonneg k0⟩
  have al : at_ ≤ ws.length := by omega
  have l0 := Int.emod_nonneg (n / 30) (show P ≠ 0 by omega)
  have l1 := Int.emod_lt_of_pos (n / 30) p0
  obtain ⟨w0, hw0⟩ : ∃ w : Wk3, w = (P, n / 2000 % P, P - n / 30 % P / 2) := ⟨_, rfl⟩
  have wb0 : WB 200 w0 := by
    rw [hw0]
    exact ⟨⟨by show 1 ≤ P; omega, by show 1 ≤ P - _; omega, by show P - _ ≤ P; omega⟩, ⟨by show P.natAbs < _; omega⟩⟩
  obtain ⟨us, hus⟩ : ∃ us : List Wk3, us = ws.take at_ ++ [w0] ++ ws.drop at_ := ⟨_, rfl⟩
  have lus : us.length = ws.length + 1 := by
    rw [hus]
    simp only [List.length_append, List.length_take, List.length_drop, List.length_singleton]
    omega
  have eus : us.map wkD = (ws.map wkD).take at_ ++ [wkD w0] ++ (ws.map wkD).drop at_ := by
    rw [hus, List.map_append, List.map_append, List.map_take, List.map_drop, List.map_singleton]
  have gus : us[at_]? = some w0 := by
    rw [hus, List.append_assoc, List.getElem?_append_right (by rw [List.length_take]; omega), List.length_take, show at_ - min at_ ws.length = 0 by omega]
    rfl
  have bus : ∀ w ∈ us, WB 200 w := fun w hw => by
    rw [hus] at hw
    rcases List.mem_append.mp hw with hw | hw
    · rcases List.mem_append.mp hw with hw | hw
      · exact h2 w (List.mem_of_mem_take hw)
      · rw [List.mem_singleton.mp hw]
        exact wb0
    · exact h2 w (List.mem_of_mem_drop hw)
  -- a waking for each part
  obtain ⟨ρ, e2, es, g1, g2, g3, g4⟩ := forR_nat (gt := gSet 9) (u := u__law_plan_4) (fun i ρ => ∃ es : List Wk3, es.length = i ∧ (∀ w ∈ es, WB 200 w) ∧ (∀ c, c < i → ∃ t s : Int, 0 < t ∧ (great = 0 → t = 1) ∧ es[c]? = some ((B : Int) * t, (c : Int) + (B : Int) * s, 1)) ∧ ρ = [some (.sh (.int cell)), some (.sh (.int pt)), some (.sh (.int (B : Int))), some (.sh (.int great)), some (.sh (.int n)), some (.ow ((us ++ es).map wkD)), none, some (.sh (.int P)), some (.sh (.int (at_ : Int))), none, none]) (rngD 0 B) 0 [some (.sh (.int cell)), some (.sh (.int pt)), some (.sh (.int (B : Int))), some (.sh (.int great)), some (.sh (.int n)), some (.ow (us.map wkD)), none, some (.sh (.int P)), some (.sh (.int (at_ : Int))), none, none]
    ⟨[], rfl, fun w h => absurd h List.not_mem_nil, fun c h => absurd h (Nat.not_lt_zero _), by rw [List.append_nil]⟩ fun i d ρ hd ⟨es, g1, g2, g3, g4⟩ => by
      obtain ⟨hi, rfl⟩ := rngD_get hd
      subst g4
      rw [Nat.zero_add] at g1 g3 ⊢
      have v0 : (0 : Int) < 11 + (i : Int) := by omega
      have dv : divOk (11 + (i : Int)) = true := divOk_lit (by omega)
      have v1 : (0 : Int) < 13 + (i : Int) := by omega
      have dv1 : divOk (13 + (i : Int)) = true := divOk_lit (by omega)
      have x0 := Int.emod_nonneg (n / (11 + (i : Int))) (show (100000000000000000000 : Int) ≠ 0 by decide)
      have x1 := Int.emod_lt_of_pos (n / (11 + (i : Int))) (show (0 : Int) < 100000000000000000000 by decide)
      generalize hy : n / (11 + (i : Int)) % 100000000000000000000 = y at *
      have mg : mulOk great y = true := @mulOk_i 10 200 _ _ ⟨by omega⟩ ⟨by omega⟩ (by rfl)
      obtain ⟨t, ht, t1, t2, t3⟩ : ∃ t : Int, t = 1 + great * y ∧ 1 ≤ t ∧ t ≤ 100000000000000000000 ∧ (great = 0 → t = 1) := by
        rcases hg with rfl | rfl
        · exact ⟨_, rfl, by omega, by omega, fun _ => by omega⟩
        · exact ⟨_, rfl, by omega, by omega, fun h => absurd h (by decide)⟩
      have t0 : 0 < t := by omega
      have dt : divOk t = true := @divOk_i 200 _ ⟨by omega⟩ (by rfl)
      have mt : mulOk (B : Int) t = true := @mulOk_i 10 200 _ _ ⟨by omega⟩ ⟨by omega⟩ (by rfl)
      have s0 := Int.emod_nonneg (n / (13 + (i : Int))) (show t ≠ 0 by omega)
      have s1 := Int.emod_lt_of_pos (n / (13 + (i : Int))) t0
      generalize hs : n / (13 + (i : Int)) % t = s at *
      have ms : mulOk (B : Int) s = true := @mulOk_i 10 200 _ _ ⟨by omega⟩ ⟨by omega⟩ (by rfl)
      have b1 : 2 * 1 ≤ (B : Int) * t := Int.mul_le_mul (by omega) t1 (by decide) (by omega)
      have b2 : (B : Int) * t ≤ 4 * 100000000000000000000 := Int.mul_le_mul (by omega) t2 (by omega) (by decide)
      have hz : us.length + es.length < szL := lt_szL (by omega)
      have hz2 : ((us ++ es).map wkD).length < szL := lt_szL (by rw [List.length_map, List.length_append]; omega)
      refine ⟨_, ?_, es ++ [((B : Int) * t, (i : Int) + (B : Int) * s, 1)], by rw [List.length_append, List.length_singleton, g1], fun w hw => ?_, fun c hc => ?_, rfl⟩
      rotate_left
      · rcases List.mem_append.mp hw with hw | hw
        · exact g2 w hw
        · rw [List.mem_singleton.mp hw]
          exact ⟨⟨by show 1 ≤ (B : Int) * t; omega, by show (1 : Int) ≤ 1; omega, by show 1 ≤ (B : Int) * t; omega⟩, ⟨by show ((B : Int) * t).natAbs < _; omega⟩⟩
      · rcases Nat.lt_or_ge c i with hc' | hc'
        · rw [List.getElem?_append_left (by omega)]
          exact g3 c hc'
        · have : c = i := by omega
          subst this
          refine ⟨t, s, t0, t3, ?_⟩
          rw [List.getElem?_append_right (by omega), g1, Nat.sub_self]
          rfl
      · rw [← List.append_assoc, List.map_append (l₁ := us ++ es), List.map_singleton]
        generalize (us ++ es).map wkD = U at *
        simp -implicitDefEqProofs [turnB, u__law_plan_4, v0, dv, hy, mg, ← ht, t__law_plan_3, v1, dv1, t0, dt, hs, mt, ms, hz2, wkD]
  rw [rngD_len, Nat.zero_add] at g1 g3
  rw [g4] at e2
  have it2 := iRng1D_ok (f := eVar 2) (ρ := [some (.sh (.int cell)), some (.sh (.int pt)), some (.sh (.int (B : Int))), some (.sh (.int great)), some (.sh (.int n)), some (.ow (us.map wkD)), none, some (.sh (.int P)), some (.sh (.int (at_ : Int))), none, none]) (j := (B : Int)) rfl (by omega)
  rw [Int.toNat_natCast] at it2
  have e3 := sFor_at it2 e2
  refine ⟨us ++ es, at_, us.length, ⟨fun w hw => ?_, by rw [List.length_append, g1], by omega, by omega, ⟨w0, ?_, by rw [hw0]; show P + 1 ≤ 2 * (P - _); omega⟩, fun c hc => ?_⟩, ?_⟩
  · rcases List.mem_append.mp hw with hw | hw
    · exact bus w hw
    · exact g2 w hw
  · rw [List.getElem?_append_left (by omega), gus]
  · obtain ⟨t, s, a1, a2, a3⟩ := g3 c hc
    refine ⟨t, s, a1, a2, ?_⟩
    rw [List.getElem?_append_right (by omega), Nat.add_sub_cancel_left]
    exact a3
  rw [m__law_plan_eq]
  refine runB_rt ?_
  show b__law_plan [some (.sh (.int cell)), some (.sh (.int part)), some (.sh (.int (B : Int))), some (.sh (.int great)), none, none, none, none, none, none, none] = _
  rw [ept]
  have lU : (((us ++ es).map wkD).length : Int) - (B : Int) = (us.length : Int) := by rw [List.length_map, List.length_append, g1]; omega
  have lW : (ws.map wkD).length = ws.length := List.length_map ..
  have hz : ws.length < szL := lt_szL (by omega)
  have ab : (at_ : Int) < big62 := by rw [big62_eq]; omega
  rw [eus] at e3
  have ww : wkD w0 = .tup [.int P, .int (n / 2000 % P), .int (P - n / 30 % P / 2)] := by rw [hw0]; rfl
  rw [ww, List.append_assoc, List.singleton_append] at e3
  generalize (us ++ es).map wkD = U at *
  generalize ws.map wkD = W at *
  have lWi : ((W.length : Nat) : Int) = (ws.length : Int) := by rw [lW]
  simp -implicitDefEqProofs [t__law_plan_10, t__law_plan_9, e1, t__law_plan_8, hq, mp, hP, t__law_plan_7, lWi, lp, dl, ← hat, t__law_plan_6, p0, dp, lW, hz, ab, e3, t__law_plan_5, lU]
end Mi.Sh

namespace Mi.Sh
open PySem PySem.Spec L2 Mi
def lcmW (u v : Wk3) : Int := ((Nat.lcm u.1.toNat v.1.toNat : Nat) : Int)
theorem round_ok {u v : Wk3} (hu : WB 200 u) (hv : WB 200 v) : m__law_round [.sh (wkD u), .sh (wkD v)] = .ok (.sh (.int (lcmW u v))) := by
  have pu := hu.wak.p1
  have pv := hv.wak.p1
  have bu := hu.bd
  have bv := hv.bd
  have eg := ldiv_gOf (s := u.1) (p := v.1) (by omega) (by omega)
  have e1 := gcd_gOf (s := u.1.toNat) (p := v.1.toNat) (by omega)
  rw [Int.toNat_of_nonneg (show 0 ≤ u.1 by omega), Int.toNat_of_nonneg (show 0 ≤ v.1 by omega)] at e1
  have el : lcmW u v = u.1 / gOf v.1 u.1 * v.1 := by
    unfold lcmW
    have := @lcm_step u.1.toNat v.1.toNat
    rw [← this, Int.natCast_mul, Int.natCast_ediv, Int.toNat_of_nonneg (show 0 ≤ u.1 by omega), Int.toNat_of_nonneg (show 0 ≤ v.1 by omega), e1]
  have g0 := gOf_pos (sp := u.1) (show 0 < v.1 by omega)
  have gle := gOf_le (sp := u.1) (show 0 < v.1 by omega)
  have dg : divOk (gOf v.1 u.1) = true := @divOk_i 200 _ ⟨by have := bv.lt; omega⟩ (by rfl)
  have mg : mulOk (u.1 / gOf v.1 u.1) v.1 = true := @mulOk_i 200 200 _ _ (@bd_div _ _ _ bu) bv (by rfl)
  rw [m__law_round_eq]
  refine runB_rt ?_
  rw [el]
  simp -implicitDefEqProofs [b__law_round, wkD, eg, g0, dg, mg]
theorem ij_div {i j n : Nat} (h : j < n) : (i * n + j) / n = i ∧ (i * n + j) % n = j := by
  have n0 : 0 < n := by omega
  constructor
  · rw [Nat.mul_comm, Nat.mul_add_div n0, Nat.div_eq_of_lt h, Nat.add_zero]
  · rw [Nat.mul_comm, Nat.mul_add_mod, Nat.mod_eq_of_lt h]
theorem lcmAt_at {us vs : List Wk3} {u v : Wk3} {i j : Nat} (h1 : us[i]? = some u) (h2 : vs[j]? = some v) : lcmAt us vs ((i : Int) * (vs.length : Int) + (j : Int)) = lcmW u v := by
  have hj := (List.getElem?_eq_some_iff.mp h2).1
  obtain ⟨a, b⟩ := @ij_div i j vs.length hj
  unfold lcmAt
  rw [show ((i : Int) * (vs.length : Int) + (j : Int)).toNat = i * vs.length + j by rw [← Int.natCast_mul, ← Int.natCast_add, Int.toNat_natCast], a, b, h1, h2]
  rfl
theorem leaf_ij {us vs : List Wk3} {u v : Wk3} {i j : Nat} {s r : Int} (h1 : us[i]? = some u) (h2 : vs[j]? = some v) : leafB (shP us vs) s r ((i : Int) * (vs.length : Int) + (j : Int)) = decide ((shW u v).1 - (shW u v).2.2 ≤ (r - (shW u v).2.1 - (shW u v).2.2) % gOf (shW u v).1 s) := by
  have hi := (List.getElem?_eq_some_iff.mp h1).1
  have hj := (List.getElem?_eq_some_iff.mp h2).1
  obtain ⟨a, b⟩ := @ij_div i j vs.length hj
  have hk : i * vs.length + j < us.length * vs.length := by
    have : (i + 1) * vs.length ≤ us.length * vs.length := Nat.mul_le_mul_right _ hi
    rw [Nat.succ_mul] at this
    omega
  obtain ⟨u', v', a1, a2, _, _, a3⟩ := shP_get hk
  rw [a, h1] at a1
  rw [b, h2] at a2
  cases a1
  cases a2
  unfold leafB
  rw [← Int.natCast_mul, ← Int.natCast_add, Int.toNat_natCast, a3]
  dsimp only
  have : decide ((0 : Int) ≤ ((i * vs.length + j : Nat) : Int)) = true := decide_eq_true (by omega)
  rw [this, Bool.true_and]
/-- a pair that always meets -/
theorem leaf_most {us vs : List Wk3} {u v : Wk3} {i j : Nat} {s r : Int} (hu : Wak u) (hv : Wak v) (h1 : us[i]? = some u) (h2 : vs[j]? = some v) (h : gOf v.1 u.1 ≤ u.2.2 + v.2.2 - 1) : leafB (shP us vs) s r ((i : Int) * (vs.length : Int) + (j : Int)) = true := by
  rw [leaf_ij h1 h2]
  refine decide_eq_true ?_
  have e : (shW u v).1 - (shW u v).2.2 = 0 := by
    show gOf v.1 u.1 - min (gOf v.1 u.1) (u.2.2 + v.2.2 - 1) = 0
    omega
  have g1 := gOf_pos (sp := u.1) (show 0 < v.1 by have := hv.p1; omega)
  have g2 := gOf_pos (sp := s) (show 0 < (shW u v).1 from g1)
  have := Int.emod_nonneg (r - (shW u v).2.1 - (shW u v).2.2) (show gOf (shW u v).1 s ≠ 0 by omega)
  omega
/-- a pair made for a part -/
theorem leaf_part {us vs : List Wk3} {i j B c m y : Nat} {t t' s s' : Int} (hB : 0 < B) (ht : 0 < t) (ht' : 0 < t') (one : t = 1 ∨ t' = 1) (h1 : us[i]? = some ((B : Int) * t, (m : Int) + (B : Int) * s, 1)) (h2 : vs[j]? = some ((B : Int) * t', (y : Int) + (B : Int) * s', 1)) (hc : c < B) (hm : m = (c + y) % B) :
    leafB (shP us vs) (B : Int) (c : Int) ((i : Int) * (vs.length : Int) + (j : Int)) = true := by
  rw [leaf_ij h1 h2]
  refine decide_eq_true ?_
  have b0 : (0 : Int) < (B : Int) := by omega
  have p1 : 0 < (B : Int) * t := Int.mul_pos b0 ht
  have p2 : 0 < (B : Int) * t' := Int.mul_pos b0 ht'
  have g : gOf ((B : Int) * t') ((B : Int) * t) = (B : Int) := gOf_eq b0 p2 ⟨t', rfl⟩ ⟨t, rfl⟩ (by
    rcases one with rfl | rfl
    · right; rw [Int.mul_one]
    · left; rw [Int.mul_one])
  have e1 : (shW ((B : Int) * t, (m : Int) + (B : Int) * s, 1) ((B : Int) * t', (y : Int) + (B : Int) * s', 1)).1 = (B : Int) := g
  have e2 : (shW ((B : Int) * t, (m : Int) + (B : Int) * s, 1) ((B : Int) * t', (y : Int) + (B : Int) * s', 1)).2.2 = 1 := by
    show min (gOf ((B : Int) * t') ((B : Int) * t)) (1 + 1 - 1) = 1
    rw [g]
    omega
  have e3 : (shW ((B : Int) * t, (m : Int) + (B : Int) * s, 1) ((B : Int) * t', (y : Int) + (B : Int) * s', 1)).2.1 = (c : Int) := by
    show ((m : Int) + (B : Int) * s - ((y : Int) + (B : Int) * s') - 1 + 1) % gOf ((B : Int) * t') ((B : Int) * t) = (c : Int)
    rw [g]
    have q : (c + y) % B + B * ((c + y) / B) = c + y := Nat.mod_add_div _ _
    have q' : (m : Int) + (B : Int) * (((c + y) / B : Nat) : Int) = (c : Int) + (y : Int) := by rw [hm]; exact_mod_cast q
    have e : (m : Int) + (B : Int) * s - ((y : Int) + (B : Int) * s') - 1 + 1 = (c : Int) + (B : Int) * (s - s' - (((c + y) / B : Nat) : Int)) := by
      rw [Int.mul_sub, Int.mul_sub]
      omega
    rw [e, Int.add_mul_emod_self_left]
    exact Int.emod_eq_of_lt (by omega) (by omega)
  rw [e1, e2, e3]
  have g2 : gOf (B : Int) (B : Int) = (B : Int) := gOf_eq b0 b0 (Int.dvd_refl _) (Int.dvd_refl _) (.inl rfl)
  rw [g2]
  have : ((c : Int) - (c : Int) - 1) % (B : Int) = (B : Int) - 1 := by
    rw [show (c : Int) - (c : Int) - 1 = ((B : Int) - 1) + (B : Int) * (-1) by omega, Int.add_mul_emod_self_left]
    exact Int.emod_eq_of_lt (by omega) (by omega)
  omega
/-- the waits of neighbours -/
def wP (a b : Hd) (p : Pap) : Int := mx0 ((namesP p).map (lcmAt a.1 b.1))
def okAtW (hs : List Hd) (k : Nat) (p : Pap) : Bool := match hs[k]?, hs[k + 1]? with
  | some a, some b => rightB (shP a.1 b.1) 1 0 p
  | _, _ => false
def wW (hs : List Hd) (k : Nat) (p : Pap) : Int := match hs[k]?, hs[k + 1]? with
  | some a, some b => wP a b p
  | _, _ => 0
def allW (hs : List Hd) : Nat → List Pap → Bool
  | _, [] => true
  | k, p :: ps => okAtW hs k p && allW hs (k + 1) ps
def sumW (hs : List Hd) : Nat → List Pap → Int
  | _, [] => 0
  | k, p :: ps => wW hs k p + sumW hs (k + 1) ps
structure HdOk (h : Hd) : Prop where
  wb : ∀ w ∈ h.1, WB 200 w
  len : h.1.length ≤ 100
theorem waits_loop {hs : List Hd} (hh : ∀ h ∈ hs, HdOk h) {P : Option Sl} : ∀ (ps : List Pap) (k : Nat) (tot : Int), (∀ p ∈ ps, okP 4 p) → k + ps.length < hs.length →
    (allW hs k ps = true → forR (gTupD 2 (gsCons (gSet 3) (gsCons (gSet 4) gsNil))) u_waits_of_1 (enumD k (ps.map papD)) [some (.sh (.lst (hs.map hdD))), P, some (.sh (.int tot)), none, none] = .nx [some (.sh (.lst (hs.map hdD))), P, some (.sh (.int (tot + sumW hs k ps))), none, none]) ∧
    (allW hs k ps = false → ∃ ρ, forR (gTupD 2 (gsCons (gSet 3) (gsCons (gSet 4) gsNil))) u_waits_of_1 (enumD k (ps.map papD)) [some (.sh (.lst (hs.map hdD))), P, some (.sh (.int tot)), none, none] = .exc "NoPaper" ρ)
  | [], k, tot, _, _ => ⟨fun _ => by rw [List.map_nil, enumD, sumW, Int.add_zero]; rfl, fun h => by cases h⟩
  | p :: ps, k, tot, hp, hl => by
    rw [List.length_cons] at hl
    have h1 : k < hs.length := by omega
    have h2 : k + 1 < hs.length := by omega
    have g1 : hs[k]? = some hs[k] := List.getElem?_eq_getElem h1
    have g2 : hs[k + 1]? = some hs[k + 1] := List.getElem?_eq_getElem h2
    have o1 := hh _ (List.getElem_mem h1)
    have o2 := hh _ (List.getElem_mem h2)
    have a1 : atI (hs.map hdD) (k : Int) = some (hdD hs[k]) := by
      rw [atI_nat (Int.natCast_nonneg _) (by rw [List.length_map]; exact Int.ofNat_lt.mpr h1), Int.toNat_natCast, List.getElem?_map, g1]
      rfl
    have a2 : atI (hs.map hdD) ((k : Int) + 1) = some (hdD hs[k + 1]) := by
      rw [show (k : Int) + 1 = ((k + 1 : Nat) : Int) by omega, atI_nat (Int.natCast_nonneg _) (by rw [List.length_map]; exact Int.ofNat_lt.mpr h2), Int.toNat_natCast, List.getElem?_map, g2]
      rfl
    have op := hp p (List.mem_cons_self ..)
    have ew : okAtW hs k p = rightB (shP hs[k].1 hs[k + 1].1) 1 0 p := by unfold okAtW; rw [g1, g2]
    have ew2 : wW hs k p = wP hs[k] hs[k + 1] p := by unfold wW; rw [g1, g2]
    obtain ⟨i1, i2⟩ := waits_loop hh (P := P) ps (k + 1) (tot + wW hs k p) (fun q hq => hp q (List.mem_cons_of_mem _ hq)) (by omega)
    rw [List.map_cons, enumD, allW, ew]
    have hda : hdD hs[k] = .tup [.lst (hs[k].1.map wkD), .int hs[k].2] := rfl
    have hdb : hdD hs[k + 1] = .tup [.lst (hs[k + 1].1.map wkD), .int hs[k + 1].2] := rfl
    rw [hda] at a1
    rw [hdb] at a2
    cases q : rightB (shP hs[k].1 hs[k + 1].1) 1 0 p with
    | true =>
      have e := paper_wait_ok (b := 200) (fun w m => (o1.wb w m).wak) (fun w m => (o2.wb w m).wak) (by decide) (fun w m => (o1.wb w m).bd) (fun w m => (o2.wb w m).bd) o1.len o2.len op (by decide) q
      have e' : m_paper_wait [.sh (.lst (hs[k].1.map wkD)), .sh (.lst (hs[k + 1].1.map wkD)), .sh (papD p)] = .ok (.sh (.int (wW hs k p))) := by rw [e, ew2]; rfl
      have st : turnB (gTupD 2 (gsCons (gSet 3) (gsCons (gSet 4) gsNil))) u_waits_of_1 (.tup [.int (k : Int), papD p]) [some (.sh (.lst (hs.map hdD))), P, some (.sh (.int tot)), none, none] = .nx [some (.sh (.lst (hs.map hdD))), P, some (.sh (.int (tot + wW hs k p))), none, none] := by
        generalize hs.map hdD = H at *
        generalize hs[k].1.map wkD = U at *
        generalize hs[k + 1].1.map wkD = V at *
        generalize papD p = PP at *
        simp -implicitDefEqProofs [turnB, u_waits_of_1, a1, a2, e']
      rw [forR_nx st, Bool.true_and, sumW, ← Int.add_assoc]
      exact ⟨i1, i2⟩
    | false =>
      have e := paper_wait_no (fun w m => (o1.wb w m).wak) (fun w m => (o2.wb w m).wak) o1.len o2.len op (by decide) q
      refine ⟨fun h => (by cases h), fun _ => ?_⟩
      have st : ∃ ρ, turnB (gTupD 2 (gsCons (gSet 3) (gsCons (gSet 4) gsNil))) u_waits_of_1 (.tup [.int (k : Int), papD p]) [some (.sh (.lst (hs.map hdD))), P, some (.sh (.int tot)), none, none] = .exc "NoPaper" ρ := by
        generalize hs.map hdD = H at *
        generalize hs[k].1.map wkD = U at *
        generalize hs[k + 1].1.map wkD = V at *
        generalize papD p = PP at *
        exact ⟨_, by simp -implicitDefEqProofs [turnB, u_waits_of_1, a1, a2, e]; rfl⟩
      obtain ⟨ρ, st⟩ := st
      exact ⟨ρ, forR_exc st⟩
theorem waits_ok {hs : List Hd} (hh : ∀ h ∈ hs, HdOk h) {ps : List Pap} (hp : ∀ p ∈ ps, okP 4 p) (hl : hs.length = ps.length + 1) (hl2 : ps.length ≤ 1000) (h : allW hs 0 ps = true) : m_waits_of [.sh (.lst (hs.map hdD)), .sh (.lst (ps.map papD))] = .ok (.sh (.int (sumW hs 0 ps))) := by
  have e := (waits_loop hh (P := some (.sh (.lst (ps.map papD)))) ps 0 0 hp (by omega)).1 h
  rw [Int.zero_add] at e
  have e2 := sFor_at (f := iEnumD (lVar 1)) (by simp) e
  have l1 : (hs.map hdD).length = hs.length := List.length_map ..
  have l2 : (ps.map papD).length = ps.length := List.length_map ..
  have l3 : ((hs.length : Nat) : Int) - 1 = (ps.length : Int) := by omega
  rw [m_waits_of_eq]
  refine runB_rt ?_
  generalize hs.map hdD = H at *
  generalize ps.map papD = PS at *
  simp -implicitDefEqProofs [b_waits_of, l1, l2, l3, oEq_ii, t_waits_of_3, t_waits_of_2, e2]
theorem waits_no {hs : List Hd} (hh : ∀ h ∈ hs, HdOk h) {ps : List Pap} (hp : ∀ p ∈ ps, okP 4 p) (hl2 : ps.length ≤ 1000) (hl3 : hs.length ≤ 1000) (h : hs.length ≠ ps.length + 1 ∨ allW hs 0 ps = false) : m_waits_of [.sh (.lst (hs.map hdD)), .sh (.lst (ps.map papD))] = .exc "NoPaper" := by
  have l1 : (hs.map hdD).length = hs.length := List.length_map ..
  have l2 : (ps.map papD).length = ps.length := List.length_map ..
  rw [m_waits_of_eq]
  by_cases hl : hs.length = ps.length + 1
  · have h' : allW hs 0 ps = false := by
      rcases h with h | h
      · exact absurd hl h
      · exact h
    obtain ⟨ρ, e⟩ := (waits_loop hh (P := some (.sh (.lst (ps.map papD)))) ps 0 0 hp (by omega)).2 h'
    have e2 := sFor_at (f := iEnumD (lVar 1)) (by simp) e
    have l3 : ((hs.length : Nat) : Int) - 1 = (ps.length : Int) := by omega
    generalize hs.map hdD = H at *
    generalize ps.map papD = PS at *
    exact runB_exc (ρ := ρ) (by
      show b_waits_of [some (.sh (.lst H)), some (.sh (.lst PS)), none, none, none] = _
      simp -implicitDefEqProofs [b_waits_of, l1, l2, l3, oEq_ii, t_waits_of_3, t_waits_of_2, e2])
  · have l3 : ¬ ((ps.length : Int) = (hs.length : Int) - 1) := by omega
    generalize hs.map hdD = H at *
    generalize ps.map papD = PS at *
    exact runB_exc (ρ := [some (.sh (.lst H)), some (.sh (.lst PS)), none, none, none]) (by
      simp -implicitDefEqProofs [b_waits_of, l1, l2, l3, oEq_ii])
end Mi.Sh

namespace Mi.Sh
open PySem PySem.Spec L2 Mi
/-- a name of a right paper whose shifts are met -/
theorem right_named {ws : List Wk3} (hw : ∀ w ∈ ws, Wak w) : ∀ (d : Nat) (p : Pap) (s r t : Int), okP d p → 1 ≤ s → rightB ws s r p = true → s ∣ t - r → ∃ k ∈ namesP p, ∃ w, 0 ≤ k ∧ ws[k.toNat]? = some w ∧ (t - w.2.1) % w.1 < w.2.2
  | d, .leaf k, s, r, t, _, hs, h, ht => by
    rw [rightB] at h
    obtain ⟨k0, k1⟩ := leafB_in h
    obtain ⟨w, e1, e2, _⟩ := at_wk k0 k1
    unfold leafB at h
    rw [e1] at h
    simp only [Bool.and_eq_true, decide_eq_true_eq] at h
    have wk := hw w e2
    exact ⟨k, by rw [namesP]; exact List.mem_singleton.mpr rfl, w, k0, e1, part_awake (by have := wk.p1; omega) wk.l2 h.2 ht⟩
  | 0, .part b ps, s, r, t, ok, _, _, _ => by simp only [okP] at ok
  | d + 1, .part b ps, s, r, t, ok, hs, h, ht => by
    simp only [okP] at ok
    rw [rightB] at h
    split at h
    · cases h
    · rename_i z
      have b2 : 2 ≤ b := by omega
      have bl : (ps.length : Int) = b := by omega
      obtain ⟨q, hq⟩ := ht
      have c0 := Int.emod_nonneg q (show b ≠ 0 by omega)
      have c1 := Int.emod_lt_of_pos q (show 0 < b by omega)
      obtain ⟨j, hj⟩ : ∃ j : Nat, (j : Int) = q % b := ⟨(q % b).toNat, Int.toNat_of_nonneg c0⟩
      have jl : j < ps.length := by omega
      have hr := (rightsB_iff ps 0).mp h j ps[j] (List.getElem?_eq_getElem jl)
      rw [Nat.zero_add] at hr
      have sb : 1 ≤ s * b := by
        have : 1 * 1 ≤ s * b := Int.mul_le_mul hs (by omega) (by decide) (by omega)
        omega
      obtain ⟨k, k1, w, k2, k3, k4⟩ := right_named hw d ps[j] (s * b) (r + s * (j : Int)) t (ok.2 _ (List.getElem_mem jl)) sb hr ⟨q / b, by
        have := Int.emod_add_mul_ediv q b
        have e1 : t - (r + s * (j : Int)) = s * (q - q % b) := by rw [Int.mul_sub, ← hj]; omega
        rw [e1, show q - q % b = b * (q / b) by omega, Int.mul_assoc]⟩
      exact ⟨k, by rw [namesP, namesPs_flat]; exact List.mem_flatMap.mpr ⟨_, List.getElem_mem jl, k1⟩, w, k2, k3, k4⟩
theorem mx_flat {f : Int → Int} : ∀ (ps : List Pap), mx0 ((ps.flatMap namesP).map f) = mx0 (ps.map fun p => mx0 ((namesP p).map f))
  | [] => rfl
  | p :: ps => by
    rw [List.flatMap_cons, List.map_append, mx0_app, mx_flat ps, List.map_cons]
    have : mx0 (mx0 ((namesP p).map f) :: ps.map fun p => mx0 ((namesP p).map f)) = max (max 0 (mx0 ((namesP p).map f))) (mx0 (ps.map fun p => mx0 ((namesP p).map f))) := by
      rw [show mx0 (mx0 ((namesP p).map f) :: ps.map fun p => mx0 ((namesP p).map f)) = (ps.map fun p => mx0 ((namesP p).map f)).foldl max (max 0 (mx0 ((namesP p).map f))) from rfl]
      exact mx_from _ _ (by omega)
    rw [this]
    have := mx0_nn ((namesP p).map f)
    omega
theorem allI_ints : ∀ ns : List Int, allI (ns.map D.int) = some ns
  | [] => rfl
  | n :: ns => by
    rw [List.map_cons, allI, allI_ints ns]
    rfl
theorem mx_cons {a : Int} {xs : List Int} (h : 0 ≤ a) : xs.foldl max a = mx0 (a :: xs) := by
  show _ = xs.foldl max (max 0 a)
  rw [show max 0 a = a by omega]

theorem lcR_nat {ω : Type} {gt : Gt} {p : Et} {f : Ev} {ρ : En} {lo : Int} {n : Nat} (res : ω → D) (P : Nat → ω → Prop) (h : ∀ i, i < n → ∃ w, P i w ∧ ((gt (.int (lo + (i : Int))) ρ).bnd fun ρ1 => (p ρ1).bnd fun b => if b = true then f ρ1 else .stuck) = .ok (res w)) :
    ∃ ws : List ω, ws.length = n ∧ (∀ i w, ws[i]? = some w → P i w) ∧ lcR gt p f ρ (rngD lo n) = .ok (ws.map res) := by
  by_cases n0 : n = 0
  · subst n0
    exact ⟨[], rfl, fun i w e => by simp at e, rfl⟩
  obtain ⟨w0, _⟩ := h 0 (by omega)
  have h' : ∀ i, ∃ w, i < n → P i w ∧ ((gt (.int (lo + (i : Int))) ρ).bnd fun ρ1 => (p ρ1).bnd fun b => if b = true then f ρ1 else .stuck) = .ok (res w) := fun i => by
    by_cases hi : i < n
    · obtain ⟨w, hw⟩ := h i hi
      exact ⟨w, fun _ => hw⟩
    · exact ⟨w0, fun z => absurd z hi⟩
  obtain ⟨g, hg⟩ := Classical.axiomOfChoice h'
  refine ⟨(List.range n).map g, by rw [List.length_map, List.length_range], fun i w e => ?_, ?_⟩
  · rw [List.getElem?_map] at e
    by_cases hi : i < n
    · rw [List.getElem?_range hi] at e
      cases e
      exact (hg i hi).1
    · rw [List.getElem?_eq_none (by rw [List.length_range]; omega)] at e
      cases e
  · have := lcR_map (gt := gt) (p := p) (f := f) (ρ := ρ) (fun i : Nat => D.int (lo + (i : Int))) (fun i => res (g i)) (List.range n) fun i hi => (hg i (List.mem_range.mp hi)).2
    rw [List.map_map]
    exact this
theorem atI_map {α : Type} {val : α → D} {xs : List α} {k : Nat} {x : α} (h : xs[k]? = some x) : atI (xs.map val) (k : Int) = some (val x) := by
  have hk := (List.getElem?_eq_some_iff.mp h).1
  rw [atI_nat (Int.natCast_nonneg _) (by rw [List.length_map]; exact Int.ofNat_lt.mpr hk), Int.toNat_natCast, List.getElem?_map, h]
  rfl
/-- neighbours that meet within every so many turns -/
def Meets (a b : Hd) (W : Int) : Prop := ∀ t : Int, ∃ f : Int, t ≤ f ∧ f < t + W ∧ HTog a b f
theorem meets_of {a b : Hd} (ha : HdOk a) (hb : HdOk b) {p : Pap} {d : Nat} (ok : okP d p) (h : rightB (shP a.1 b.1) 1 0 p = true) : Meets a b (wP a b p) := fun t => by
  have wa : ∀ w ∈ a.1, Wak w := fun w m => (ha.wb w m).wak
  have wb : ∀ w ∈ b.1, Wak w := fun w m => (hb.wb w m).wak
  obtain ⟨k, kn, w, n0, n1, n2⟩ := right_named (shP_wak wa wb) d p 1 0 (b.2 - a.2) ok (by decide) h (Int.one_dvd _)
  have kl : k.toNat < a.1.length * b.1.length := by
    have := (List.getElem?_eq_some_iff.mp n1).1
    rwa [shP_len] at this
  obtain ⟨u, v, h1, h2, mu, mv, h3⟩ := shP_get kl
  rw [h3] at n1
  cases n1
  have bo := (shW_iff (wa u mu) (wb v mv)).mp n2
  have el : lcmAt a.1 b.1 k = lcmW u v := by
    unfold lcmAt
    rw [h1, h2]
    rfl
  have le : lcmW u v ≤ wP a b p := by
    rw [← el]
    exact mx0_le (List.mem_map.mpr ⟨k, kn, rfl⟩)
  have up := (wa u mu).p1
  have op := (wb v mv).p1
  have d1 : u.1 ∣ lcmW u v := by
    have := Int.natCast_dvd_natCast.mpr (Nat.dvd_lcm_left u.1.toNat v.1.toNat)
    rwa [Int.toNat_of_nonneg (by omega)] at this
  have d2 : v.1 ∣ lcmW u v := by
    have := Int.natCast_dvd_natCast.mpr (Nat.dvd_lcm_right u.1.toNat v.1.toNat)
    rwa [Int.toNat_of_nonneg (show 0 ≤ v.1 by omega)] at this
  have l0 : (0 : Int) < lcmW u v := by
    have := Nat.lcm_pos (m := u.1.toNat) (n := v.1.toNat) (by omega) (by omega)
    unfold lcmW
    omega
  obtain ⟨f, f1, f2, f3, _, _⟩ := next_within (b := 200) (turn := t - a.2) (by decide) ha.wb hb.wb mu mv l0 d1 d2 bo
  refine ⟨f + a.2, by omega, by omega, ?_⟩
  obtain ⟨g1, g2⟩ := f3
  unfold HTog hAw
  rw [show f + a.2 - a.2 = f by omega, show f + a.2 - b.2 = f - (b.2 - a.2) by omega]
  exact ⟨g1, g2⟩
theorem way_chain : ∀ (hs : List Hd) (a : Hd) (t : Int) (Ws : List Int) (w : List (Option Int)), Ws.length = hs.length → (∀ (k : Nat) (x y : Hd) (W : Int), (a :: hs)[k]? = some x → hs[k]? = some y → Ws[k]? = some W → Meets x y W) → WayP a hs t w →
    ∃ ts : List Int, w = (t :: ts).map some ∧ ts.length = hs.length ∧ (∀ (k : Nat) (x y W : Int), (t :: ts)[k]? = some x → ts[k]? = some y → Ws[k]? = some W → x ≤ y ∧ y < x + W) ∧ ((t :: ts).getLast (List.cons_ne_nil _ _)) ≤ t + Ws.sum
  | [], a, t, Ws, w, hl, _, h => by
    have : Ws = [] := List.length_eq_zero_iff.mp hl
    subst this
    exact ⟨[], h, rfl, fun k x y W _ e => by simp at e, by show t ≤ t + 0; omega⟩
  | b :: hs, a, t, [], w, hl, _, _ => by cases hl
  | b :: hs, a, t, W :: Ws, w, hl, hm, h => by
    obtain ⟨f, f1, f2, f3⟩ := hm 0 a b W rfl rfl rfl t
    rcases h with ⟨h1, _⟩ | ⟨t', h1, w', h2, h3⟩
    · exact absurd f3 (h1 f f1)
    · have le : t' ≤ f := by
        by_cases q : t' ≤ f
        · exact q
        · exact absurd f3 (h1.2.2 f f1 (by omega))
      obtain ⟨ts, e1, e2, e3, e4⟩ := way_chain hs b t' Ws w' (by simpa using hl) (fun k x y W h1 h2 h3 => hm (k + 1) x y W (by simpa using h1) (by simpa using h2) (by simpa using h3)) h2
      refine ⟨t' :: ts, by rw [h3, e1]; rfl, by rw [List.length_cons, List.length_cons, e2], fun k x y V g1 g2 g3 => ?_, ?_⟩
      · cases k with
        | zero =>
          simp at g1 g2 g3
          subst g1 g2 g3
          exact ⟨h1.1, by omega⟩
        | succ k => exact e3 k x y V (by simpa using g1) (by simpa using g2) (by simpa using g3)
      · rw [List.getLast_cons (List.cons_ne_nil _ _), List.sum_cons]
        omega
structure Rw where
  ws : List Wk3
  at_ : Nat
  base : Nat
def rwD (r : Rw) : D := .lst [.lst (r.ws.map wkD), .int (r.at_ : Int), .int (r.base : Int)]
theorem sumW_sum {hs : List Hd} : ∀ (ps : List Pap) (k : Nat) (Ws : List Int), Ws.length = ps.length → (∀ j p W, ps[j]? = some p → Ws[j]? = some W → W = wW hs (k + j) p) → sumW hs k ps = Ws.sum
  | [], k, Ws, hl, _ => by
    have : Ws = [] := List.length_eq_zero_iff.mp hl
    subst this
    rfl
  | p :: ps, k, [], hl, _ => by cases hl
  | p :: ps, k, W :: Ws, hl, h => by
    rw [sumW, List.sum_cons, sumW_sum ps (k + 1) Ws (by simpa using hl) fun j q V h1 h2 => by
      have := h (j + 1) q V (by simpa using h1) (by simpa using h2)
      rwa [show k + (j + 1) = k + 1 + j by omega] at this, h 0 p W rfl rfl]
    rfl
theorem allW_of {hs : List Hd} : ∀ (ps : List Pap) (k : Nat), (∀ j p, ps[j]? = some p → okAtW hs (k + j) p = true) → allW hs k ps = true
  | [], k, _ => rfl
  | p :: ps, k, h => by
    have h0 := h 0 p rfl
    rw [Nat.add_zero] at h0
    rw [allW, h0, allW_of ps (k + 1) fun j q h1 => by
      have := h (j + 1) q (by simpa using h1)
      rwa [show k + (j + 1) = k + 1 + j by omega] at this]
    rfl
end Mi.Sh

/-! ### range(i, j) of numbers of any size -/
namespace Mi
open PySem PySem.Spec L2 PyProof.Rows
theorem turn_long {P : Program} {w : World} {K : PySem.W.Frag} {tg : Expr} (it : Addr) (lo : Int) (n : Nat) : Turn P w K tg (Itr lo n) [it] it (fun i h => IsLongIter h it (lo + (i : Nat) * 1) ((n : Int) - (i : Nat)) 1) where
  mem := by simp
  obj := fun i h st b hb => by
    have e : b = it := by simpa using hb
    subst e
    exact ⟨_, st, fun v z => by
      have z' : Data.fields _ = Data.cell v := z
      cases z'⟩
  keep := fun i h h' st k => k it (by simp) _ st
  item := by
    intro X hP hw hK hc i pins s σ H E I hf st hg
    subst hP hw hK
    obtain ⟨f0, f1, f2, f3, f4, f5⟩ := hf it (by simp)
    have W := Walks.longrange (prog := X.prog) (w := X.w) (I.ok.hd hc) it lo 1 n
    refine W.item i s _ _ hg st fun v h' tk hv st' kk => ?_
    obtain ⟨t, rfl⟩ := hv
    have I1 : Inv X pins σ H { s with heap := h', toks := tk } := I.turned (fun b o hb e => kk b o (by simpa using hb) e) f0 f1 f3 f4 f5
    refine ⟨_, rfl, go_of (s := { s with heap := h', toks := tk }) (n := "longrange_iterator") st' rfl rfl (by decide) ⟨.int (lo + i), H, I1, ⟨t, ?_⟩, ⟨rfl, rfl⟩, st', fun b hb => (hf b hb).1⟩⟩
    rw [Int.mul_one]
  done := by
    intro X hP hw hK hc i pins s σ H E I hf st hg
    subst hP hw hK
    obtain ⟨f0, f1, f2, f3, f4, f5⟩ := hf it (by simp)
    exact wpAny_pyNext_long_end (I.ok.hd hc) st (by have : n ≤ i := hg; omega) fun h' eb => ⟨rfl, I.turned (t' := s.toks) (fun b o hb e => eb b o hb e) f0 f1 f3 f4 f5⟩
  self := fun _ _ _ _ _ st h => wpAny_pyIter_longiter st h
section
variable {X : Cx} {tg : Expr}
theorem range_itU {pins : List (Addr × Obj)} {σ : L2.St} {H : Hp} {s : Shared} {R : It → Hp → Prop} {E : Value → Shared → Prop} {lo hi : Int} {t u v : Tok} {tk : Nat} (I : Inv X pins σ H s)
    (q : R (Itr lo (hi - lo).toNat) H) : wpAny (model X.prog X.w) X.A (pyIter (.ref s.heap.objs.size)) (PIE X pins σ tg R) E { s with heap := s.heap.push { cls := .type "range", data := .fields #[.int lo t, .int hi u, .int 1 v] }, toks := tk } := by
  have I1 : Inv X pins σ H { s with heap := s.heap.push { cls := .type "range", data := .fields #[.int lo t, .int hi u, .int 1 v] }, toks := tk } := I.kept fun b o e => Heap.get?_push_of_some _ e
  have e1 : lo + ((0 : Nat) : Int) * 1 = lo := by simp
  have e2 : (((hi - lo).toNat : Nat) : Int) - ((0 : Nat) : Int) = Builtin.Range.rangeSize lo hi 1 := by rw [rangeSize_one]; split <;> omega
  by_cases hs : Builtin.Range.small lo hi 1 = true
  · refine wpAny_pyIter_range (IsRange.new ..) hs ?_
    refine ⟨(s.heap.push { cls := .type "range", data := .fields #[.int lo t, .int hi u, .int 1 v] }).objs.size, [(s.heap.push { cls := .type "range", data := .fields #[.int lo t, .int hi u, .int 1 v] }).objs.size], _, _, H, rfl,
      I1.kept (t' := tk) fun b o e => Heap.get?_push_of_some _ e, turn_range _ lo (hi - lo).toNat, ?_, fun b hb => ?_, q⟩
    · show IsRangeIter _ _ (lo + ((0 : Nat) : Int) * 1) ((((hi - lo).toNat : Nat) : Int) - ((0 : Nat) : Int)) 1
      rw [e1, e2]
      exact Heap.get?_push_size _ rfl
    · have e : b = (s.heap.push { cls := .type "range", data := .fields #[.int lo t, .int hi u, .int 1 v] }).objs.size := by simpa using hb
      subst e
      exact I1.fpOk (Nat.le_refl _) (I1.hok.fresh (Nat.le_refl _))
  · refine wpAny_pyIter_longrange (IsRange.new ..) (by simpa using hs) ?_
    refine ⟨(s.heap.push { cls := .type "range", data := .fields #[.int lo t, .int hi u, .int 1 v] }).objs.size, [(s.heap.push { cls := .type "range", data := .fields #[.int lo t, .int hi u, .int 1 v] }).objs.size], _, _, H, rfl,
      I1.kept (t' := tk) fun b o e => Heap.get?_push_of_some _ e, turn_long _ lo (hi - lo).toNat, ?_, fun b hb => ?_, q⟩
    · show IsLongIter _ _ (lo + ((0 : Nat) : Int) * 1) ((((hi - lo).toNat : Nat) : Int) - ((0 : Nat) : Int)) 1
      rw [e1, e2]
      exact Heap.get?_push_size _ rfl
    · have e : b = (s.heap.push { cls := .type "range", data := .fields #[.int lo t, .int hi u, .int 1 v] }).objs.size := by simpa using hb
      subst e
      exact I1.fpOk (Nat.le_refl _) (I1.hok.fresh (Nat.le_refl _))
def iRng2U0 (ta : TA) : TI := fun σ H R => ta σ H fun vs H1 => ∃ i j : Int, vs = [.int i, .int j] ∧ R (Itr i (j - i).toNat) H1
theorem pi_range2U {a b : Expr} {ta : TA} {p pos : Pos} (hg : Gl X "range") (hm : X.mg "range" = none) (ha : PA X [a, b] ta) (hs : starEach [a, b] X.env = [(false, eval a X.env), (false, eval b X.env)] := by rfl) (hs2 : starEach [b] X.env = [(false, eval b X.env)] := by rfl) :
    PI X tg (.Call (.Name "range" p) [a, b] [] pos) (iRng2U0 ta) := by
  refine ⟨fun pins s σ H R I h => ?_⟩
  refine Call_ (ld_blt I hg hm boot_range (PyProof.Rows.callWith_type1 (thn (ha.run pos pins s σ H _ I h) fun us s1 ⟨vs, H1, I1, r1, q1⟩ => ?_) (by rw [hs, hs2]) (by rw [hs2]; rfl)))
  obtain ⟨i, j, e, q⟩ := q1
  subst e
  cases r1 with
  | cons r rr =>
    cases rr with
    | cons r' rr =>
      cases rr
      obtain ⟨t, rfl⟩ := r
      obtain ⟨t', rfl⟩ := r'
      exact call_range_2 (range_itU I1 q)
end
section
variable {c : Cf} {W : WX} {a b e tg : Expr} {f g : Ev} {pos : Pos}
@[simp] def iRng2U (f g : Ev) : Es := fun ρ => (f ρ).bind fun x => (g ρ).bind fun y => match x, y with
  | .int i, .int j => .ok (rngD i (j - i).toNat)
  | _, _ => .stuck
theorem si_range2U {x : Str} {p : Pos} (hx : x = "range") (hg : c.sc.names.lookup x = some .globalImplicit) (hm : c.mg x = none) (ha : SE c W a f) (hb : SE c W b g) (hs : ∀ env, starEach [a, b] env = [(false, eval a env), (false, eval b env)] := by intro _; rfl) (hs2 : ∀ env, starEach [b] env = [(false, eval b env)] := by intro _; rfl) : SI c W tg (.Call (.Name x p) [a, b] [] pos) (iRng2U f g) := by
  subst hx
  obtain ⟨t, k, ad⟩ := ha
  obtain ⟨t2, k2, ad2⟩ := hb
  refine ⟨_, fun X G => pi_range2U (ta := tCons t (tCons t2 tNil)) (by show X.env.scope.names.lookup _ = _; rw [G.sc]; exact hg) (by rw [G.mg]; exact hm) (pa_cons (k X G) (pa_cons (k2 X G) pa_nil (by rw [hs2]; rfl)) (by rw [hs, hs2])) (hs X.env) (hs2 X.env), fun G B H ρ σ Q m hh => ?_⟩
  refine ad G B H ρ σ _ m ((Po.bind hh).imp fun d B1 H1 e1 h1 v r1 => ?_)
  refine ad2 G B1 H1 ρ σ _ (m.go e1) ((Po.bind h1).imp fun d2 B2 H2 e2 h2 v2 r2 => ?_)
  cases d with
  | int i => cases d2 with
    | int j =>
      cases (show v = .int i from r1)
      cases (show v2 = .int j from r2)
      exact ⟨i, j, rfl, ok_refl h2 e2.in_ _ wk_rng⟩
    | _ => exact h2.elim
  | _ => exact h2.elim
/-! ### x = [..], x a cell (a comprehension behind it reads it) -/
theorem sw_cell {elt : Expr} {gs : List Comprehension} {scope : Scope} {p3 py : Pos} {y : Str} {l : Nat} {env : Env} (hy : env.scope.names.lookup y = some .cell) : swapsWith (.ListComp elt gs scope p3) (some (.Name y py)) l env = pure false := by
  have ky : env.kindOf y = some .cell := hy
  unfold swapsWith
  simp only [ky]
  have e : (env.blockKind == ScopeKind.function && some NameKind.cell == some NameKind.local) = false := by
    rw [show (some NameKind.cell == some NameKind.local) = false from rfl, Bool.and_false]
  rw [e, Bool.false_and, Bool.false_and]
theorem ss_setFC {i : Nat} {x : Str} {f : Es} {elt : Expr} {gs : List Comprehension} {scope : Scope} {p3 pos' : Pos} (hN : c.N[i]? = some x) (hc : c.sc.names.lookup x = some .cell) (ht : c.top = true) (he : SF c W (.ListComp elt gs scope p3) f) : SS c W (.Assign [.Name x pos'] (.ListComp elt gs scope p3) pos) (sSetF i f) := by
  have hx : LocC c x := .inr ⟨hc, ht⟩
  obtain ⟨t, k, ad⟩ := he
  refine ⟨_, fun X G => ps_set G.nd (by rw [G.N]; exact hN) (by rw [G.sc]; exact hx.loc) (k X G) (sw_cell (by rw [G.sc]; exact hc)) (loc_fn G hx), fun G B H ρ σ E m h => ?_⟩
  refine ad G B H ρ σ _ m ((Po.thn m h).imp fun ds B1 H1 e1 h1 p vs q1 q2 q3 q4 => ?_)
  exact h1 _ B1 H1 (Same.refl _) (own_new m e1 q1 q2 q3 q4 i)
end
end Mi

namespace K71
open PySem PySem.Spec L2 Mi
-- _law_waking: 0:one 1:two 2:three 3:period 4:length
noncomputable def t__law_waking_1 : Sv :=
  sSeq (sIf (tst (eBin oEq (eBin oMod (eLook 2) (eD (.int 2))) (eD (.int 1)))) (sAsg (eBin oAdd (eD (.int 1)) (eBin oMod (eBin oDiv (eLook 2) (eD (.int 2))) (eLook 3))) (gSet 4)) (sNx)) (sRet (eTup (vCons (eVar 3) (vCons (eBin oMod (eLook 1) (eLook 3)) (vCons (eVar 4) (vNil))))))
noncomputable def t__law_waking_2 : Sv :=
  sSeq (sAsg (eD (.int 1)) (gSet 4)) (t__law_waking_1)
noncomputable def b__law_waking : Sv :=
  sSeq (sAsg (eBin oAdd (eD (.int 1)) (eBin oMod (eBin oDiv (eLook 0) (eD (.int 2))) (eBin oIx (eLst (vCons (eD (.int 12)) (vCons (eBin oPow (eD (.int 10)) (eD (.int 60))) (vNil)))) (eBin oMod (eLook 0) (eD (.int 2)))))) (gSet 3)) (t__law_waking_2)
noncomputable def m__law_waking : List Sl → R Sl := hid (runB 5 b__law_waking)
theorem m__law_waking_eq : m__law_waking = runB 5 b__law_waking := hid_eq _
-- _law_plan: 0:script 1:plan 2:k 3:cells 4:j
noncomputable def t__law_plan_1 : Sv :=
  sFrz 3 (sSeq (sApp 1 (eApp m__law_waking (aVal (eBin oIx (eLook 3) (eD (.int 0))) (aVal (eBin oIx (eLook 3) (eD (.int 1))) (aVal (eBin oIx (eLook 3) (eD (.int 2))) (aNil)))))) (sKill 3 (sKill 2 (sNx))))
noncomputable def u__law_plan_2 : Sv :=
  sSeq (sSetF 3 (eLc (iRng1D (eD (.int 3))) (gSet 4) (tYesE) (eBin oAdd (eApp Sh.m__law_cell_at (aVal (eVar 0) (aVal (eBin oAdd (eBin oAdd (eD (.int 1)) (eBin oMul (eD (.int 3)) (eLook 2))) (eLook 4)) (aNil)))) (eBin oMul (eLook 2) (eBin oAdd (eLook 2) (eLook 4)))) [4])) (t__law_plan_1)
noncomputable def t__law_plan_3 : Sv :=
  sSeq (sFor (iRng1D (eBin oMod (eApp Sh.m__law_cell_at (aVal (eVar 0) (aVal (eD (.int 0)) (aNil)))) (eD (.int 13)))) (gSet 2) (u__law_plan_2)) (sRetO 1)
noncomputable def b__law_plan : Sv :=
  sSeq (sSetF 1 (vNil)) (t__law_plan_3)
noncomputable def m__law_plan : List Sl → R Sl := hid (runB 5 b__law_plan)
theorem m__law_plan_eq : m__law_plan = runB 5 b__law_plan := hid_eq _
-- _law_text: 0:plan 1:short 2:words 3:waking 4:numbers 5:number
noncomputable def t__law_text_1 : Sv :=
  sSeq (sApp 2 (eJoin (eD (.str ":")) (eLook 4))) (sKill 4 (sKill 3 (sNx)))
noncomputable def t__law_text_2 : Sv :=
  sFrz 4 (sSeq (sIf (tAndE (tst (eVar 1)) (tst (eBin oEq (eBin oIx (eLook 3) (eD (.int 2))) (eD (.int 1))))) (sSeq (sSetF 4 (eCut (eLook 4) (pNo) (pSome (eD (.int 2))))) (sFrz 4 (sNx))) (sNx)) (t__law_text_1))
noncomputable def u__law_text_3 : Sv :=
  sSeq (sSetF 4 (eLc (iVar 3) (gSet 5) (tYesE) (eCall oStr (vCons (eLook 5) vNil)) [5])) (t__law_text_2)
noncomputable def t__law_text_4 : Sv :=
  sFrz 2 (sSeq (sIf (tst (eBin oEq (eLook 2) (eLst (vNil)))) (sRet (eD (.str "never"))) (sNx)) (sRet (eJoin (eD (.str " ")) (eLook 2))))
noncomputable def t__law_text_5 : Sv :=
  sSeq (sFor (iVar 0) (gSet 3) (u__law_text_3)) (t__law_text_4)
noncomputable def b__law_text : Sv :=
  sSeq (sSetF 2 (vNil)) (t__law_text_5)
noncomputable def m__law_text : List Sl → R Sl := hid (runB 6 b__law_text)
theorem m__law_text_eq : m__law_text = runB 6 b__law_text := hid_eq _
-- _law_read: 0:text 1:plan 2:told 3:waking
noncomputable def t__law_read_1 : Sv :=
  sSeq (sIf (tOrE (tNotE (tst (eApp Sh.m__law_whole (aVal (eBin oIx (eLook 3) (eD (.int 0))) (aNil))))) (tOrE (tNotE (tst (eApp Sh.m__law_whole (aVal (eBin oIx (eLook 3) (eD (.int 1))) (aNil))))) (tNotE (tst (eApp Sh.m__law_whole (aVal (eBin oIx (eLook 3) (eD (.int 2))) (aNil))))))) (sRet (eD (.bl false))) (sNx)) (sKill 3 (sNx))
noncomputable def u__law_read_2 : Sv :=
  sSeq (sIf (tOrE (tNotE (tst (eIsi isTupD (eLook 3)))) (tst (eBin oNe (eCall oLen (vCons (eLook 3) vNil)) (eD (.int 3))))) (sRet (eD (.bl false))) (sNx)) (t__law_read_1)
noncomputable def t__law_read_3 : Sv :=
  sSeq (sFor (iVar 2) (gSet 3) (u__law_read_2)) (sRet (eBin oEq (eLook 2) (eLook 1)))
noncomputable def t__law_read_4 : Sv :=
  sFrz 2 (sSeq (sIf (tOrE (tNotE (tst (eIsi isLstD (eLook 2)))) (tst (eBin oNe (eCall oLen (vCons (eLook 2) vNil)) (eCall oLen (vCons (eLook 1) vNil))))) (sRet (eD (.bl false))) (sNx)) (t__law_read_3))
noncomputable def b__law_read : Sv :=
  sSeq (sSetF 2 (eAppF Sh.m_read_plan (aVal (eVar 0) (aNil)))) (t__law_read_4)
noncomputable def m__law_read : List Sl → R Sl := hid (runB 4 b__law_read)
theorem m__law_read_eq : m__law_read = runB 4 b__law_read := hid_eq _
-- law: 0:script 1:plan 2:handed 3:text
noncomputable def t_law_1 : Sv :=
  sSeq (sTmpClr (eAppF Sh.m_read_plan (aVal (eApp m__law_text (aVal (eVar 1) (aVal (eD (.bl false)) (aNil)))) (aNil)))) (sRet (eAnd (eApp m__law_read (aVal (eVar 3) (aVal (eVar 1) (aNil)))) (eApp m__law_read (aVal (eApp m__law_text (aVal (eVar 1) (aVal (eD (.bl false)) (aNil)))) (aVal (eVar 1) (aNil))))))
noncomputable def t_law_2 : Sv :=
  sSeq (sTmpApp (eAppF Sh.m_read_plan (aVal (eVar 3) (aNil))) (eTup (vCons (eD (.int 1)) (vCons (eD (.int 0)) (vCons (eD (.int 1)) (vNil)))))) (t_law_1)
noncomputable def t_law_3 : Sv :=
  sSeq (sIf (tOrE (tNotE (tst (eApp m__law_read (aVal (eVar 3) (aVal (eVar 1) (aNil)))))) (tNotE (tst (eApp m__law_read (aVal (eApp m__law_text (aVal (eVar 1) (aVal (eD (.bl false)) (aNil)))) (aVal (eVar 1) (aNil))))))) (sRet (eD (.bl false))) (sNx)) (t_law_2)
noncomputable def t_law_4 : Sv :=
  sSeq (sIf (tOrE (tNotE (tst (eIsi isStrD (eLook 3)))) (tOrE (tst (eBin oNe (eLook 3) (eApp m__law_text (aVal (eVar 1) (aVal (eD (.bl true)) (aNil)))))) (tst (eBin oNe (eLook 2) (eLook 1))))) (sRet (eD (.bl false))) (sNx)) (t_law_3)
noncomputable def t_law_5 : Sv :=
  sFrz 2 (sSeq (sAsg (eApp Sh.m_shown_plan (aVal (eVar 2) (aNil))) (gSet 3)) (t_law_4))
noncomputable def t_law_6 : Sv :=
  sFrz 1 (sSeq (sSetF 2 (eList (eLook 1))) (t_law_5))
noncomputable def b_law : Sv :=
  sSeq (sSetF 1 (eAppF m__law_plan (aVal (eVar 0) (aNil)))) (t_law_6)
noncomputable def m_law : List Sl → R Sl := hid (runB 4 b_law)
theorem m_law_eq : m_law = runB 4 b_law := hid_eq _
end K71

namespace K71
open PySem PySem.Spec L2 Mi
def topS (i : Nat) : Stmt := PySem.Challenge.pw_shiftmeet_k71_plans_written.main.body.getD i (.Pass ⟨0, 0, 0, 0⟩)
abbrev s_plan_of : Stmt := topS 5
abbrev N_plan_of : List Str := ["rows", "plan", "period", "first", "length"]
abbrev s_shown_waking : Stmt := topS 10
abbrev N_shown_waking : List Str := ["waking", "period", "first", "length"]
abbrev s_shown_plan : Stmt := topS 11
abbrev N_shown_plan : List Str := ["plan", "waking"]
abbrev s_number_of : Stmt := topS 12
abbrev N_number_of : List Str := ["word", "sign"]
abbrev s_read_waking : Stmt := topS 13
abbrev N_read_waking : List Str := ["word", "numbers", "part"]
abbrev s_read_plan : Stmt := topS 14
abbrev N_read_plan : List Str := ["text", "words", "word"]
abbrev s__law_cell_at : Stmt := topS 16
abbrev N__law_cell_at : List Str := ["script", "k"]
abbrev s__law_whole : Stmt := topS 17
abbrev N__law_whole : List Str := ["found"]
abbrev s__law_waking : Stmt := topS 18
abbrev N__law_waking : List Str := ["one", "two", "three", "period", "length"]
abbrev s__law_plan : Stmt := topS 19
abbrev N__law_plan : List Str := ["script", "plan", "k", "cells", "j"]
abbrev s__law_text : Stmt := topS 20
abbrev N__law_text : List Str := ["plan", "short", "words", "waking", "numbers", "number"]
abbrev s__law_read : Stmt := topS 21
abbrev N__law_read : List Str := ["text", "plan", "told", "waking"]
abbrev s_law : Stmt := topS 22
abbrev N_law : List Str := ["script", "plan", "handed", "text"]
theorem sc_plan_of : FnScope N_plan_of ["rows"] (defScope s_plan_of) := ⟨rfl, rfl, rfl, by decide +kernel, rfl, by decide +kernel, by decide +kernel⟩
theorem sc_shown_waking : FnScope N_shown_waking ["waking"] (defScope s_shown_waking) := ⟨rfl, rfl, rfl, by decide +kernel, rfl, by decide +kernel, by decide +kernel⟩
theorem sc_shown_plan : FnScope N_shown_plan ["plan"] (defScope s_shown_plan) := ⟨rfl, rfl, rfl, by decide +kernel, rfl, by decide +kernel, by decide +kernel⟩
theorem sc_number_of : FnScope N_number_of ["word"] (defScope s_number_of) := ⟨rfl, rfl, rfl, by decide +kernel, rfl, by decide +kernel, by decide +kernel⟩
theorem sc_read_waking : FnScope N_read_waking ["word"] (defScope s_read_waking) := ⟨rfl, rfl, rfl, by decide +kernel, rfl, by decide +kernel, by decide +kernel⟩
theorem sc_read_plan : FnScope N_read_plan ["text"] (defScope s_read_plan) := ⟨rfl, rfl, rfl, by decide +kernel, rfl, by decide +kernel, by decide +kernel⟩
theorem sc__law_cell_at : FnScope N__law_cell_at ["script", "k"] (defScope s__law_cell_at) := ⟨rfl, rfl, rfl, by decide +kernel, rfl, by decide +kernel, by decide +kernel⟩
theorem sc__law_whole : FnScope N__law_whole ["found"] (defScope s__law_whole) := ⟨rfl, rfl, rfl, by decide +kernel, rfl, by decide +kernel, by decide +kernel⟩
theorem sc__law_waking : FnScope N__law_waking ["one", "two", "three"] (defScope s__law_waking) := ⟨rfl, rfl, rfl, by decide +kernel, rfl, by decide +kernel, by decide +kernel⟩
theorem sc__law_plan : FnScope N__law_plan ["script"] (defScope s__law_plan) := ⟨rfl, rfl, rfl, by decide +kernel, rfl, by decide +kernel, by decide +kernel⟩
theorem sc__law_text : FnScope N__law_text ["plan", "short"] (defScope s__law_text) := ⟨rfl, rfl, rfl, by decide +kernel, rfl, by decide +kernel, by decide +kernel⟩
theorem sc__law_read : FnScope N__law_read ["text", "plan"] (defScope s__law_read) := ⟨rfl, rfl, rfl, by decide +kernel, rfl, by decide +kernel, by decide +kernel⟩
theorem sc_law : FnScope N_law ["script"] (defScope s_law) := ⟨rfl, rfl, rfl, by decide +kernel, rfl, by decide +kernel, by decide +kernel⟩
section
variable {P : Program} {w : World} {K : PySem.W.Frag} {mg : Str → Option Value} {base : Heap}
theorem d_plan_of (x_NoPlan : ∀ (N : List Str) (sc : Scope) (k : Nat), Xc (cfOf P w K mg base N sc k) "NoPlan") (W : WX) : SSs (cfOf P w K mg base N_plan_of (defScope s_plan_of) 0) W (defBody s_plan_of) Sh.b_plan_of :=
  sss_cons (ss_setF (i := 1) rfl (.inl (loc_of (sc := defScope s_plan_of) (by decide +kernel))) (sf_disp (sv_nil) (by decide))) (sss_cons (ss_for (si_var (i := 0) rfl (vis_of (sc := defScope s_plan_of) (by decide +kernel))) (sg_tup (sgs_cons (sg_name (i := 2) rfl (.inl (loc_of (sc := defScope s_plan_of) (by decide +kernel)))) (sgs_cons (sg_name (i := 3) rfl (.inl (loc_of (sc := defScope s_plan_of) (by decide +kernel)))) (sgs_cons (sg_name (i := 4) rfl (.inl (loc_of (sc := defScope s_plan_of) (by decide +kernel)))) (sgs_nil))))) (sss_cons (ss_if (st_w (sw_or (st_lt (sb_look (i := 2) rfl (vis_of (sc := defScope s_plan_of) (by decide +kernel))) (sb_of (se_int))) (sw_or (st_not (st_chain (fun _ => op_le) (fun _ => op_lt) rfl (sb_of (se_int)) (sb_look (i := 3) rfl (vis_of (sc := defScope s_plan_of) (by decide +kernel))) (sb_look (i := 2) rfl (vis_of (sc := defScope s_plan_of) (by decide +kernel))))) (sw_or1 (st_not (st_chain (fun _ => op_le) (fun _ => op_le) rfl (sb_of (se_int)) (sb_look (i := 4) rfl (vis_of (sc := defScope s_plan_of) (by decide +kernel))) (sb_look (i := 2) rfl (vis_of (sc := defScope s_plan_of) (by decide +kernel))))))))) (sss_one (ss_raise (x_NoPlan _ _ _) (glob_of (sc := defScope s_plan_of) (by decide +kernel)))) (sss_nil)) (sss_cons (ss_app (i := 1) rfl (vis_of (sc := defScope s_plan_of) (by decide +kernel)) (se_tup (sv_cons (se_var (i := 2) rfl (vis_of (sc := defScope s_plan_of) (by decide +kernel))) (sv_cons (se_var (i := 3) rfl (vis_of (sc := defScope s_plan_of) (by decide +kernel))) (sv_cons (se_var (i := 4) rfl (vis_of (sc := defScope s_plan_of) (by decide +kernel))) (sv_nil)))) (by decide))) (sss_kill 3 (sss_kill 4 (sss_kill 2 (sss_nil))))))) (sss_one (ss_retO (i := 1) rfl (vis_of (sc := defScope s_plan_of) (by decide +kernel)))))
theorem d_shown_waking (n_str : mg "str" = none) (W : WX) : SSs (cfOf P w K mg base N_shown_waking (defScope s_shown_waking) 0) W (defBody s_shown_waking) Sh.b_shown_waking :=
  sss_cons (ss_unp (se_var (i := 0) rfl (vis_of (sc := defScope s_shown_waking) (by decide +kernel))) (sg_tup (sgs_cons (sg_name (i := 1) rfl (.inl (loc_of (sc := defScope s_shown_waking) (by decide +kernel)))) (sgs_cons (sg_name (i := 2) rfl (.inl (loc_of (sc := defScope s_shown_waking) (by decide +kernel)))) (sgs_cons (sg_name (i := 3) rfl (.inl (loc_of (sc := defScope s_shown_waking) (by decide +kernel)))) (sgs_nil)))))) (sss_cons (ss_if (st_eq (sb_look (i := 3) rfl (vis_of (sc := defScope s_shown_waking) (by decide +kernel))) (sb_of (se_int))) (sss_one (ss_ret (se_add (sb_of (se_add (sb_of (se_strI rfl (glob_of (sc := defScope s_shown_waking) (by decide +kernel)) n_str (sb_look (i := 1) rfl (vis_of (sc := defScope s_shown_waking) (by decide +kernel))))) (sb_of (se_str)))) (sb_of (se_strI rfl (glob_of (sc := defScope s_shown_waking) (by decide +kernel)) n_str (sb_look (i := 2) rfl (vis_of (sc := defScope s_shown_waking) (by decide +kernel)))))))) (sss_nil)) (sss_one (ss_ret (se_add (sb_of (se_add (sb_of (se_add (sb_of (se_add (sb_of (se_strI rfl (glob_of (sc := defScope s_shown_waking) (by decide +kernel)) n_str (sb_look (i := 1) rfl (vis_of (sc := defScope s_shown_waking) (by decide +kernel))))) (sb_of (se_str)))) (sb_of (se_strI rfl (glob_of (sc := defScope s_shown_waking) (by decide +kernel)) n_str (sb_look (i := 2) rfl (vis_of (sc := defScope s_shown_waking) (by decide +kernel))))))) (sb_of (se_str)))) (sb_of (se_strI rfl (glob_of (sc := defScope s_shown_waking) (by decide +kernel)) n_str (sb_look (i := 3) rfl (vis_of (sc := defScope s_shown_waking) (by decide +kernel)))))))))
theorem d_shown_plan (h_shown_waking : Fn P w K mg base 1 "shown_waking" 1 Sh.m_shown_waking) (W : WX) : SSs (cfOf P w K mg base N_shown_plan (defScope s_shown_plan) 1) W (defBody s_shown_plan) Sh.b_shown_plan :=
  sss_cons (ss_if (st_eq (sb_look (i := 0) rfl (vis_of (sc := defScope s_shown_plan) (by decide +kernel))) (sb_lst (sf_disp (sv_nil) (by decide)))) (sss_one (ss_ret (se_str))) (sss_nil)) (sss_one (ss_ret (se_join (se_str) (sb_lst (sf_lc (own := [("waking", 1)]) (si_var (i := 0) rfl (vis_of (sc := defScope s_shown_plan) (by decide +kernel))) (blk_of (N := N_shown_plan) (sc := defScope s_shown_plan) (by decide +kernel)) (sg_name (i := 1) rfl (locc_of (c := Cf.blk _ _) (.inl (loc_of (sc := relS _ (defScope s_shown_plan)) (by decide +kernel))))) (sts_nil) (se_call (h_shown_waking.mono (j := 1) (k := 1) (by decide)) (glob_of (sc := relS _ (defScope s_shown_plan)) (by decide +kernel)) (sa_val (se_var (i := 1) rfl (vis_of (sc := relS _ (defScope s_shown_plan)) (by decide +kernel))) (sa_nil))) (by decide))))))
theorem d_number_of (n_int : mg "int" = none) (n_len : mg "len" = none) {t_FIGURES : Tok} (c_FIGURES : mg "FIGURES" = some (.str "0123456789" t_FIGURES)) {t_MOST_FIGURES : Tok} (c_MOST_FIGURES : mg "MOST_FIGURES" = some (.int 100 t_MOST_FIGURES)) (x_NoText : ∀ (N : List Str) (sc : Scope) (k : Nat), Xc (cfOf P w K mg base N sc k) "NoText") (W : WX) : SSs (cfOf P w K mg base N_number_of (defScope s_number_of) 0) W (defBody s_number_of) Sh.b_number_of :=
  sss_cons (ss_if (st_w (sw_or (st_eq (sb_look (i := 0) rfl (vis_of (sc := defScope s_number_of) (by decide +kernel))) (sb_of (se_str))) (sw_or (st_gt (sb_of (se_len rfl (glob_of (sc := defScope s_number_of) (by decide +kernel)) n_len (sb_look (i := 0) rfl (vis_of (sc := defScope s_number_of) (by decide +kernel))))) (sb_of (se_glob (v := .int 100) (glob_of (sc := defScope s_number_of) (by decide +kernel)) c_MOST_FIGURES ⟨_, rfl⟩ (fun _ _ => Iff.rfl)))) (sw_or1 (st_w (sw_and (st_eq (sb_of (se_ix (sb_look (i := 0) rfl (vis_of (sc := defScope s_number_of) (by decide +kernel))) (sb_of (se_int)) (fun _ _ => rfl))) (sb_of (se_str))) (sw_and1 (st_gt (sb_of (se_len rfl (glob_of (sc := defScope s_number_of) (by decide +kernel)) n_len (sb_look (i := 0) rfl (vis_of (sc := defScope s_number_of) (by decide +kernel))))) (sb_of (se_int)))))))))) (sss_one (ss_raise (x_NoText _ _ _) (glob_of (sc := defScope s_number_of) (by decide +kernel)))) (sss_nil)) (sss_cons (ss_for (si_str (se_var (i := 0) rfl (vis_of (sc := defScope s_number_of) (by decide +kernel)))) (sg_name (i := 1) rfl (.inl (loc_of (sc := defScope s_number_of) (by decide +kernel)))) (sss_cons (ss_if (st_notInS (sb_look (i := 1) rfl (vis_of (sc := defScope s_number_of) (by decide +kernel))) (sb_of (se_glob (v := .str "0123456789") (glob_of (sc := defScope s_number_of) (by decide +kernel)) c_FIGURES ⟨_, rfl⟩ (fun _ _ => Iff.rfl)))) (sss_one (ss_raise (x_NoText _ _ _) (glob_of (sc := defScope s_number_of) (by decide +kernel)))) (sss_nil)) (sss_kill 1 (sss_nil)))) (sss_one (ss_ret (se_intS rfl (glob_of (sc := defScope s_number_of) (by decide +kernel)) n_int (sb_look (i := 0) rfl (vis_of (sc := defScope s_number_of) (by decide +kernel)))))))
theorem d_read_waking (h_number_of : Fn P w K mg base 1 "number_of" 1 Sh.m_number_of) (n_len : mg "len" = none) (x_NoText : ∀ (N : List Str) (sc : Scope) (k : Nat), Xc (cfOf P w K mg base N sc k) "NoText") (W : WX) : SSs (cfOf P w K mg base N_read_waking (defScope s_read_waking) 1) W (defBody s_read_waking) Sh.b_read_waking :=
  sss_cons (ss_setLc (i := 1) (hN := rfl) (hy := loc_of (sc := defScope s_read_waking) (by decide +kernel)) (hk := rfl) (hl := rfl) (hna := by decide +kernel) (own := [("part", 2)]) (hi := si_seq (se_lst (sf_split (se_var (i := 0) rfl (vis_of (sc := defScope s_read_waking) (by decide +kernel))) (se_str)))) (ok := (blk_of (N := N_read_waking) (sc := defScope s_read_waking) (by decide +kernel))) (hg := sg_name (i := 2) rfl (locc_of (c := Cf.blk _ _) (.inl (loc_of (sc := relS _ (defScope s_read_waking)) (by decide +kernel))))) (ht := sts_nil) (he := se_call (h_number_of.mono (j := 1) (k := 1) (by decide)) (glob_of (sc := relS _ (defScope s_read_waking)) (by decide +kernel)) (sa_val (se_var (i := 2) rfl (vis_of (sc := relS _ (defScope s_read_waking)) (by decide +kernel))) (sa_nil))) (hv := by decide)) (sss_frz 1 (sss_cons (ss_if (st_eq (sb_of (se_len rfl (glob_of (sc := defScope s_read_waking) (by decide +kernel)) n_len (sb_look (i := 1) rfl (vis_of (sc := defScope s_read_waking) (by decide +kernel))))) (sb_of (se_int))) (sss_one (ss_ret (se_tup (sv_cons (se_ix (sb_look (i := 1) rfl (vis_of (sc := defScope s_read_waking) (by decide +kernel))) (sb_of (se_int)) (fun _ _ => rfl)) (sv_cons (se_ix (sb_look (i := 1) rfl (vis_of (sc := defScope s_read_waking) (by decide +kernel))) (sb_of (se_int)) (fun _ _ => rfl)) (sv_cons (se_int) (sv_nil)))) (by decide)))) (sss_nil)) (sss_cons (ss_if (st_eq (sb_of (se_len rfl (glob_of (sc := defScope s_read_waking) (by decide +kernel)) n_len (sb_look (i := 1) rfl (vis_of (sc := defScope s_read_waking) (by decide +kernel))))) (sb_of (se_int))) (sss_one (ss_ret (se_tup (sv_cons (se_ix (sb_look (i := 1) rfl (vis_of (sc := defScope s_read_waking) (by decide +kernel))) (sb_of (se_int)) (fun _ _ => rfl)) (sv_cons (se_ix (sb_look (i := 1) rfl (vis_of (sc := defScope s_read_waking) (by decide +kernel))) (sb_of (se_int)) (fun _ _ => rfl)) (sv_cons (se_ix (sb_look (i := 1) rfl (vis_of (sc := defScope s_read_waking) (by decide +kernel))) (sb_of (se_int)) (fun _ _ => rfl)) (sv_nil)))) (by decide)))) (sss_nil)) (sss_one (ss_raise (x_NoText _ _ _) (glob_of (sc := defScope s_read_waking) (by decide +kernel)))))))
theorem d_read_plan (h_plan_of : Fn P w K mg base 1 "plan_of" 1 Sh.m_plan_of) (h_read_waking : Fn P w K mg base 2 "read_waking" 1 Sh.m_read_waking) (n_len : mg "len" = none) {t_MOST_WAKINGS : Tok} (c_MOST_WAKINGS : mg "MOST_WAKINGS" = some (.int 12 t_MOST_WAKINGS)) (x_NoText : ∀ (N : List Str) (sc : Scope) (k : Nat), Xc (cfOf P w K mg base N sc k) "NoText") (W : WX) : SSs (cfOf P w K mg base N_read_plan (defScope s_read_plan) 2) W (defBody s_read_plan) Sh.b_read_plan :=
  sss_cons (ss_if (st_eq (sb_look (i := 0) rfl (vis_of (sc := defScope s_read_plan) (by decide +kernel))) (sb_of (se_str))) (sss_one (ss_retF (sf_call (h_plan_of.mono (j := 1) (k := 2) (by decide)) (glob_of (sc := defScope s_read_plan) (by decide +kernel)) (sa_val (se_lst (sf_disp (sv_nil) (by decide))) (sa_nil))))) (sss_nil)) (sss_cons (ss_setF (i := 1) rfl (.inl (loc_of (sc := defScope s_read_plan) (by decide +kernel))) (sf_split (se_var (i := 0) rfl (vis_of (sc := defScope s_read_plan) (by decide +kernel))) (se_str))) (sss_frz 1 (sss_cons (ss_if (st_gt (sb_of (se_len rfl (glob_of (sc := defScope s_read_plan) (by decide +kernel)) n_len (sb_look (i := 1) rfl (vis_of (sc := defScope s_read_plan) (by decide +kernel))))) (sb_of (se_glob (v := .int 12) (glob_of (sc := defScope s_read_plan) (by decide +kernel)) c_MOST_WAKINGS ⟨_, rfl⟩ (fun _ _ => Iff.rfl)))) (sss_one (ss_raise (x_NoText _ _ _) (glob_of (sc := defScope s_read_plan) (by decide +kernel)))) (sss_nil)) (sss_one (ss_retF (sf_call (h_plan_of.mono (j := 1) (k := 2) (by decide)) (glob_of (sc := defScope s_read_plan) (by decide +kernel)) (sa_val (se_lst (sf_lc (own := [("word", 2)]) (si_var (i := 1) rfl (vis_of (sc := defScope s_read_plan) (by decide +kernel))) (blk_of (N := N_read_plan) (sc := defScope s_read_plan) (by decide +kernel)) (sg_name (i := 2) rfl (locc_of (c := Cf.blk _ _) (.inl (loc_of (sc := relS _ (defScope s_read_plan)) (by decide +kernel))))) (sts_nil) (se_call (h_read_waking.mono (j := 2) (k := 2) (by decide)) (glob_of (sc := relS _ (defScope s_read_plan)) (by decide +kernel)) (sa_val (se_var (i := 2) rfl (vis_of (sc := relS _ (defScope s_read_plan)) (by decide +kernel))) (sa_nil))) (by decide))) (sa_nil))))))))
theorem d__law_cell_at (n_len : mg "len" = none) (W : WX) : SSs (cfOf P w K mg base N__law_cell_at (defScope s__law_cell_at) 0) W (defBody s__law_cell_at) Sh.b__law_cell_at :=
  sss_cons (ss_if (st_lt (sb_look (i := 1) rfl (vis_of (sc := defScope s__law_cell_at) (by decide +kernel))) (sb_of (se_len rfl (glob_of (sc := defScope s__law_cell_at) (by decide +kernel)) n_len (sb_look (i := 0) rfl (vis_of (sc := defScope s__law_cell_at) (by decide +kernel)))))) (sss_one (ss_ret (se_ix (sb_look (i := 0) rfl (vis_of (sc := defScope s__law_cell_at) (by decide +kernel))) (sb_look (i := 1) rfl (vis_of (sc := defScope s__law_cell_at) (by decide +kernel))) (fun _ _ => rfl)))) (sss_nil)) (sss_one (ss_ret (se_int)))
theorem d__law_whole (n_bool : mg "bool" = none) (n_int : mg "int" = none) (n_isinstance : mg "isinstance" = none) (W : WX) : SSs (cfOf P w K mg base N__law_whole (defScope s__law_whole) 0) W (defBody s__law_whole) Sh.b__law_whole :=
  sss_one (ss_ret (se_and (se_isi isInt_ok rfl (glob_of (sc := defScope s__law_whole) (by decide +kernel)) n_isinstance (glob_of (sc := defScope s__law_whole) (by decide +kernel)) n_int (by decide +kernel) (sb_look (i := 0) rfl (vis_of (sc := defScope s__law_whole) (by decide +kernel)))) (se_one (se_not (se_isi isBool_ok rfl (glob_of (sc := defScope s__law_whole) (by decide +kernel)) n_isinstance (glob_of (sc := defScope s__law_whole) (by decide +kernel)) n_bool (by decide +kernel) (sb_look (i := 0) rfl (vis_of (sc := defScope s__law_whole) (by decide +kernel))))))))
theorem d__law_waking  (W : WX) : SSs (cfOf P w K mg base N__law_waking (defScope s__law_waking) 0) W (defBody s__law_waking) b__law_waking :=
  sss_cons (ss_set (i := 3) rfl (.inl (loc_of (sc := defScope s__law_waking) (by decide +kernel))) (se_add (sb_of (se_int)) (sb_of (se_mod (sb_of (se_div (sb_look (i := 0) rfl (vis_of (sc := defScope s__law_waking) (by decide +kernel))) (sb_of (se_int)))) (sb_of (se_ix (sb_lst (sf_disp (sv_cons (se_int) (sv_cons (se_pow (sb_of (se_int)) (sb_of (se_int))) (sv_nil))) (by decide))) (sb_of (se_mod (sb_look (i := 0) rfl (vis_of (sc := defScope s__law_waking) (by decide +kernel))) (sb_of (se_int)))) (fun _ _ => rfl))))))) (sss_cons (ss_set (i := 4) rfl (.inl (loc_of (sc := defScope s__law_waking) (by decide +kernel))) (se_int)) (sss_cons (ss_if (st_eq (sb_of (se_mod (sb_look (i := 2) rfl (vis_of (sc := defScope s__law_waking) (by decide +kernel))) (sb_of (se_int)))) (sb_of (se_int))) (sss_one (ss_set (i := 4) rfl (.inl (loc_of (sc := defScope s__law_waking) (by decide +kernel))) (se_add (sb_of (se_int)) (sb_of (se_mod (sb_of (se_div (sb_look (i := 2) rfl (vis_of (sc := defScope s__law_waking) (by decide +kernel))) (sb_of (se_int)))) (sb_look (i := 3) rfl (vis_of (sc := defScope s__law_waking) (by decide +kernel)))))))) (sss_nil)) (sss_one (ss_ret (se_tup (sv_cons (se_var (i := 3) rfl (vis_of (sc := defScope s__law_waking) (by decide +kernel))) (sv_cons (se_mod (sb_look (i := 1) rfl (vis_of (sc := defScope s__law_waking) (by decide +kernel))) (sb_look (i := 3) rfl (vis_of (sc := defScope s__law_waking) (by decide +kernel)))) (sv_cons (se_var (i := 4) rfl (vis_of (sc := defScope s__law_waking) (by decide +kernel))) (sv_nil)))) (by decide))))))
theorem d__law_plan (h__law_cell_at : Fn P w K mg base 1 "_law_cell_at" 2 Sh.m__law_cell_at) (h__law_waking : Fn P w K mg base 1 "_law_waking" 3 m__law_waking) (n_range : mg "range" = none) (W : WX) : SSs (cfOf P w K mg base N__law_plan (defScope s__law_plan) 1) W (defBody s__law_plan) b__law_plan :=
  sss_cons (ss_setF (i := 1) rfl (.inl (loc_of (sc := defScope s__law_plan) (by decide +kernel))) (sf_disp (sv_nil) (by decide))) (sss_cons (ss_for (si_range1 rfl (glob_of (sc := defScope s__law_plan) (by decide +kernel)) n_range (se_mod (sb_of (se_call (h__law_cell_at.mono (j := 1) (k := 1) (by decide)) (glob_of (sc := defScope s__law_plan) (by decide +kernel)) (sa_val (se_var (i := 0) rfl (vis_of (sc := defScope s__law_plan) (by decide +kernel))) (sa_val (se_int) (sa_nil))))) (sb_of (se_int)))) (sg_name (i := 2) rfl (.inr ⟨cell_of (sc := defScope s__law_plan) (by decide +kernel), rfl⟩)) (sss_cons (ss_setLc (i := 3) (hN := rfl) (hy := loc_of (sc := defScope s__law_plan) (by decide +kernel)) (hk := rfl) (hl := rfl) (hna := by decide +kernel) (own := [("j", 4)]) (hi := si_range1 rfl (glob_of (sc := defScope s__law_plan) (by decide +kernel)) n_range (se_int)) (ok := (blk_of (N := N__law_plan) (sc := defScope s__law_plan) (by decide +kernel))) (hg := sg_name (i := 4) rfl (locc_of (c := Cf.blk _ _) (.inl (loc_of (sc := relS _ (defScope s__law_plan)) (by decide +kernel))))) (ht := sts_nil) (he := se_add (sb_of (se_call (h__law_cell_at.mono (j := 1) (k := 1) (by decide)) (glob_of (sc := relS _ (defScope s__law_plan)) (by decide +kernel)) (sa_val (se_var (i := 0) rfl (vis_of (sc := relS _ (defScope s__law_plan)) (by decide +kernel))) (sa_val (se_add (sb_of (se_add (sb_of (se_int)) (sb_of (se_mul (sb_of (se_int)) (sb_look (i := 2) rfl (vis_of (sc := relS _ (defScope s__law_plan)) (by decide +kernel))))))) (sb_look (i := 4) rfl (vis_of (sc := relS _ (defScope s__law_plan)) (by decide +kernel)))) (sa_nil))))) (sb_of (se_mul (sb_look (i := 2) rfl (vis_of (sc := relS _ (defScope s__law_plan)) (by decide +kernel))) (sb_of (se_add (sb_look (i := 2) rfl (vis_of (sc := relS _ (defScope s__law_plan)) (by decide +kernel))) (sb_look (i := 4) rfl (vis_of (sc := relS _ (defScope s__law_plan)) (by decide +kernel)))))))) (hv := by decide)) (sss_frz 3 (sss_cons (ss_app (i := 1) rfl (vis_of (sc := defScope s__law_plan) (by decide +kernel)) (se_call (h__law_waking.mono (j := 1) (k := 1) (by decide)) (glob_of (sc := defScope s__law_plan) (by decide +kernel)) (sa_val (se_ix (sb_look (i := 3) rfl (vis_of (sc := defScope s__law_plan) (by decide +kernel))) (sb_of (se_int)) (fun _ _ => rfl)) (sa_val (se_ix (sb_look (i := 3) rfl (vis_of (sc := defScope s__law_plan) (by decide +kernel))) (sb_of (se_int)) (fun _ _ => rfl)) (sa_val (se_ix (sb_look (i := 3) rfl (vis_of (sc := defScope s__law_plan) (by decide +kernel))) (sb_of (se_int)) (fun _ _ => rfl)) (sa_nil)))))) (sss_kill 3 (sss_kill 2 (sss_nil))))))) (sss_one (ss_retO (i := 1) rfl (vis_of (sc := defScope s__law_plan) (by decide +kernel)))))
theorem d__law_text (n_str : mg "str" = none) (W : WX) : SSs (cfOf P w K mg base N__law_text (defScope s__law_text) 0) W (defBody s__law_text) b__law_text :=
  sss_cons (ss_setF (i := 2) rfl (.inl (loc_of (sc := defScope s__law_text) (by decide +kernel))) (sf_disp (sv_nil) (by decide))) (sss_cons (ss_for (si_var (i := 0) rfl (vis_of (sc := defScope s__law_text) (by decide +kernel))) (sg_name (i := 3) rfl (.inl (loc_of (sc := defScope s__law_text) (by decide +kernel)))) (sss_cons (ss_setLc (i := 4) (hN := rfl) (hy := loc_of (sc := defScope s__law_text) (by decide +kernel)) (hk := rfl) (hl := rfl) (hna := by decide +kernel) (own := [("number", 5)]) (hi := si_var (i := 3) rfl (vis_of (sc := defScope s__law_text) (by decide +kernel))) (ok := (blk_of (N := N__law_text) (sc := defScope s__law_text) (by decide +kernel))) (hg := sg_name (i := 5) rfl (locc_of (c := Cf.blk _ _) (.inl (loc_of (sc := relS _ (defScope s__law_text)) (by decide +kernel))))) (ht := sts_nil) (he := se_strI rfl (glob_of (sc := relS _ (defScope s__law_text)) (by decide +kernel)) n_str (sb_look (i := 5) rfl (vis_of (sc := relS _ (defScope s__law_text)) (by decide +kernel)))) (hv := by decide)) (sss_frz 4 (sss_cons (ss_if (st_w (sw_and (st_val (fun _ _ => rfl) (se_var (i := 1) rfl (vis_of (sc := defScope s__law_text) (by decide +kernel)))) (sw_and1 (st_eq (sb_of (se_ix (sb_look (i := 3) rfl (vis_of (sc := defScope s__law_text) (by decide +kernel))) (sb_of (se_int)) (fun _ _ => rfl))) (sb_of (se_int)))))) (sss_cons (ss_setF (i := 4) rfl (.inl (loc_of (sc := defScope s__law_text) (by decide +kernel))) (sf_cut (sb_look (i := 4) rfl (vis_of (sc := defScope s__law_text) (by decide +kernel))) (so_none) (so_some (sb_of (se_int))))) (sss_frz 4 (sss_nil))) (sss_nil)) (sss_cons (ss_app (i := 2) rfl (vis_of (sc := defScope s__law_text) (by decide +kernel)) (se_join (se_str) (sb_look (i := 4) rfl (vis_of (sc := defScope s__law_text) (by decide +kernel))))) (sss_kill 4 (sss_kill 3 (sss_nil)))))))) (sss_frz 2 (sss_cons (ss_if (st_eq (sb_look (i := 2) rfl (vis_of (sc := defScope s__law_text) (by decide +kernel))) (sb_lst (sf_disp (sv_nil) (by decide)))) (sss_one (ss_ret (se_str))) (sss_nil)) (sss_one (ss_ret (se_join (se_str) (sb_look (i := 2) rfl (vis_of (sc := defScope s__law_text) (by decide +kernel)))))))))
theorem d__law_read (h_read_plan : Fn P w K mg base 3 "read_plan" 1 Sh.m_read_plan) (h__law_whole : Fn P w K mg base 1 "_law_whole" 1 Sh.m__law_whole) (n_isinstance : mg "isinstance" = none) (n_len : mg "len" = none) (n_list : mg "list" = none) (n_tuple : mg "tuple" = none) (W : WX) : SSs (cfOf P w K mg base N__law_read (defScope s__law_read) 3) W (defBody s__law_read) b__law_read :=
  sss_cons (ss_setF (i := 2) rfl (.inl (loc_of (sc := defScope s__law_read) (by decide +kernel))) (sf_call (h_read_plan.mono (j := 3) (k := 3) (by decide)) (glob_of (sc := defScope s__law_read) (by decide +kernel)) (sa_val (se_var (i := 0) rfl (vis_of (sc := defScope s__law_read) (by decide +kernel))) (sa_nil)))) (sss_frz 2 (sss_cons (ss_if (st_w (sw_or (st_not (st_val (fun _ _ => rfl) (se_isi isLst_ok rfl (glob_of (sc := defScope s__law_read) (by decide +kernel)) n_isinstance (glob_of (sc := defScope s__law_read) (by decide +kernel)) n_list (by decide +kernel) (sb_look (i := 2) rfl (vis_of (sc := defScope s__law_read) (by decide +kernel)))))) (sw_or1 (st_ne (sb_of (se_len rfl (glob_of (sc := defScope s__law_read) (by decide +kernel)) n_len (sb_look (i := 2) rfl (vis_of (sc := defScope s__law_read) (by decide +kernel))))) (sb_of (se_len rfl (glob_of (sc := defScope s__law_read) (by decide +kernel)) n_len (sb_look (i := 1) rfl (vis_of (sc := defScope s__law_read) (by decide +kernel))))))))) (sss_one (ss_ret (se_bl))) (sss_nil)) (sss_cons (ss_for (si_var (i := 2) rfl (vis_of (sc := defScope s__law_read) (by decide +kernel))) (sg_name (i := 3) rfl (.inl (loc_of (sc := defScope s__law_read) (by decide +kernel)))) (sss_cons (ss_if (st_w (sw_or (st_not (st_val (fun _ _ => rfl) (se_isi isTup_ok rfl (glob_of (sc := defScope s__law_read) (by decide +kernel)) n_isinstance (glob_of (sc := defScope s__law_read) (by decide +kernel)) n_tuple (by decide +kernel) (sb_look (i := 3) rfl (vis_of (sc := defScope s__law_read) (by decide +kernel)))))) (sw_or1 (st_ne (sb_of (se_len rfl (glob_of (sc := defScope s__law_read) (by decide +kernel)) n_len (sb_look (i := 3) rfl (vis_of (sc := defScope s__law_read) (by decide +kernel))))) (sb_of (se_int)))))) (sss_one (ss_ret (se_bl))) (sss_nil)) (sss_cons (ss_if (st_w (sw_or (st_not (st_val (fun _ _ => rfl) (se_call (h__law_whole.mono (j := 1) (k := 3) (by decide)) (glob_of (sc := defScope s__law_read) (by decide +kernel)) (sa_val (se_ix (sb_look (i := 3) rfl (vis_of (sc := defScope s__law_read) (by decide +kernel))) (sb_of (se_int)) (fun _ _ => rfl)) (sa_nil))))) (sw_or (st_not (st_val (fun _ _ => rfl) (se_call (h__law_whole.mono (j := 1) (k := 3) (by decide)) (glob_of (sc := defScope s__law_read) (by decide +kernel)) (sa_val (se_ix (sb_look (i := 3) rfl (vis_of (sc := defScope s__law_read) (by decide +kernel))) (sb_of (se_int)) (fun _ _ => rfl)) (sa_nil))))) (sw_or1 (st_not (st_val (fun _ _ => rfl) (se_call (h__law_whole.mono (j := 1) (k := 3) (by decide)) (glob_of (sc := defScope s__law_read) (by decide +kernel)) (sa_val (se_ix (sb_look (i := 3) rfl (vis_of (sc := defScope s__law_read) (by decide +kernel))) (sb_of (se_int)) (fun _ _ => rfl)) (sa_nil))))))))) (sss_one (ss_ret (se_bl))) (sss_nil)) (sss_kill 3 (sss_nil))))) (sss_one (ss_ret (se_eq (sb_look (i := 2) rfl (vis_of (sc := defScope s__law_read) (by decide +kernel))) (sb_look (i := 1) rfl (vis_of (sc := defScope s__law_read) (by decide +kernel)))))))))
theorem d_law (h__law_plan : Fn P w K mg base 2 "_law_plan" 1 m__law_plan) (h_shown_plan : Fn P w K mg base 2 "shown_plan" 1 Sh.m_shown_plan) (h__law_text : Fn P w K mg base 1 "_law_text" 2 m__law_text) (h__law_read : Fn P w K mg base 4 "_law_read" 2 m__law_read) (h_read_plan : Fn P w K mg base 3 "read_plan" 1 Sh.m_read_plan) (n_isinstance : mg "isinstance" = none) (n_list : mg "list" = none) (n_str : mg "str" = none) (W : WX) : SSs (cfOf P w K mg base N_law (defScope s_law) 4) W (defBody s_law) b_law :=
  sss_cons (ss_setF (i := 1) rfl (.inl (loc_of (sc := defScope s_law) (by decide +kernel))) (sf_call (h__law_plan.mono (j := 2) (k := 4) (by decide)) (glob_of (sc := defScope s_law) (by decide +kernel)) (sa_val (se_var (i := 0) rfl (vis_of (sc := defScope s_law) (by decide +kernel))) (sa_nil)))) (sss_frz 1 (sss_cons (ss_setF (i := 2) rfl (.inl (loc_of (sc := defScope s_law) (by decide +kernel))) (sf_list rfl (glob_of (sc := defScope s_law) (by decide +kernel)) n_list (sb_look (i := 1) rfl (vis_of (sc := defScope s_law) (by decide +kernel))))) (sss_frz 2 (sss_cons (ss_set (i := 3) rfl (.inl (loc_of (sc := defScope s_law) (by decide +kernel))) (se_call (h_shown_plan.mono (j := 2) (k := 4) (by decide)) (glob_of (sc := defScope s_law) (by decide +kernel)) (sa_val (se_var (i := 2) rfl (vis_of (sc := defScope s_law) (by decide +kernel))) (sa_nil)))) (sss_cons (ss_if (st_w (sw_or (st_not (st_val (fun _ _ => rfl) (se_isi isStr_ok rfl (glob_of (sc := defScope s_law) (by decide +kernel)) n_isinstance (glob_of (sc := defScope s_law) (by decide +kernel)) n_str (by decide +kernel) (sb_look (i := 3) rfl (vis_of (sc := defScope s_law) (by decide +kernel)))))) (sw_or (st_ne (sb_look (i := 3) rfl (vis_of (sc := defScope s_law) (by decide +kernel))) (sb_of (se_call (h__law_text.mono (j := 1) (k := 4) (by decide)) (glob_of (sc := defScope s_law) (by decide +kernel)) (sa_val (se_var (i := 1) rfl (vis_of (sc := defScope s_law) (by decide +kernel))) (sa_val (se_bl) (sa_nil)))))) (sw_or1 (st_ne (sb_look (i := 2) rfl (vis_of (sc := defScope s_law) (by decide +kernel))) (sb_look (i := 1) rfl (vis_of (sc := defScope s_law) (by decide +kernel)))))))) (sss_one (ss_ret (se_bl))) (sss_nil)) (sss_cons (ss_if (st_w (sw_or (st_not (st_val (fun _ _ => rfl) (se_call (h__law_read.mono (j := 4) (k := 4) (by decide)) (glob_of (sc := defScope s_law) (by decide +kernel)) (sa_val (se_var (i := 3) rfl (vis_of (sc := defScope s_law) (by decide +kernel))) (sa_val (se_var (i := 1) rfl (vis_of (sc := defScope s_law) (by decide +kernel))) (sa_nil)))))) (sw_or1 (st_not (st_val (fun _ _ => rfl) (se_call (h__law_read.mono (j := 4) (k := 4) (by decide)) (glob_of (sc := defScope s_law) (by decide +kernel)) (sa_val (se_call (h__law_text.mono (j := 1) (k := 4) (by decide)) (glob_of (sc := defScope s_law) (by decide +kernel)) (sa_val (se_var (i := 1) rfl (vis_of (sc := defScope s_law) (by decide +kernel))) (sa_val (se_bl) (sa_nil)))) (sa_val (se_var (i := 1) rfl (vis_of (sc := defScope s_law) (by decide +kernel))) (sa_nil))))))))) (sss_one (ss_ret (se_bl))) (sss_nil)) (sss_cons (ss_tmpApp (sf_call (h_read_plan.mono (j := 3) (k := 4) (by decide)) (glob_of (sc := defScope s_law) (by decide +kernel)) (sa_val (se_var (i := 3) rfl (vis_of (sc := defScope s_law) (by decide +kernel))) (sa_nil))) (se_tup (sv_cons (se_int) (sv_cons (se_int) (sv_cons (se_int) (sv_nil)))) (by decide))) (sss_cons (ss_tmpClr (sf_call (h_read_plan.mono (j := 3) (k := 4) (by decide)) (glob_of (sc := defScope s_law) (by decide +kernel)) (sa_val (se_call (h__law_text.mono (j := 1) (k := 4) (by decide)) (glob_of (sc := defScope s_law) (by decide +kernel)) (sa_val (se_var (i := 1) rfl (vis_of (sc := defScope s_law) (by decide +kernel))) (sa_val (se_bl) (sa_nil)))) (sa_nil)))) (sss_one (ss_ret (se_and (se_call (h__law_read.mono (j := 4) (k := 4) (by decide)) (glob_of (sc := defScope s_law) (by decide +kernel)) (sa_val (se_var (i := 3) rfl (vis_of (sc := defScope s_law) (by decide +kernel))) (sa_val (se_var (i := 1) rfl (vis_of (sc := defScope s_law) (by decide +kernel))) (sa_nil)))) (se_one (se_call (h__law_read.mono (j := 4) (k := 4) (by decide)) (glob_of (sc := defScope s_law) (by decide +kernel)) (sa_val (se_call (h__law_text.mono (j := 1) (k := 4) (by decide)) (glob_of (sc := defScope s_law) (by decide +kernel)) (sa_val (se_var (i := 1) rfl (vis_of (sc := defScope s_law) (by decide +kernel))) (sa_val (se_bl) (sa_nil)))) (sa_val (se_var (i := 1) rfl (vis_of (sc := defScope s_law) (by decide +kernel))) (sa_nil))))))))))))))))
end
theorem all_mk {l : PySem.W.OpenLaw} {w : World} {K : PySem.W.Frag} {h : Heap} {mg : Str → Option Value} {fa : Addr} (X : K.In h) (G : h.Ns mainGlobals mg) (hfa : mg "law" = some (.ref fa))
    {f_plan_of : Addr} {od_plan_of an_plan_of : Option Addr} {sl_plan_of : Array (Option Value)} {oc_plan_of kV_plan_of dc_plan_of pm_plan_of cd_plan_of ct_plan_of : Value}
    (a_plan_of : PySem.W.nsIn K mainGlobals "plan_of" = some (some (.ref f_plan_of)))
    (l_plan_of : K.lookup f_plan_of = some ⟨oc_plan_of, od_plan_of, .func (PySem.W.fnOf "plan_of" "plan_of" (defArgs s_plan_of) (defBody s_plan_of) (defScope s_plan_of) .none kV_plan_of dc_plan_of pm_plan_of an_plan_of cd_plan_of ct_plan_of), sl_plan_of⟩)
    (c_plan_of : PySem.W.codeIn K cd_plan_of "plan_of" = true) (k_plan_of : PySem.W.keepIn K (.ref f_plan_of) = true)
    {f_shown_waking : Addr} {od_shown_waking an_shown_waking : Option Addr} {sl_shown_waking : Array (Option Value)} {oc_shown_waking kV_shown_waking dc_shown_waking pm_shown_waking cd_shown_waking ct_shown_waking : Value}
    (a_shown_waking : PySem.W.nsIn K mainGlobals "shown_waking" = some (some (.ref f_shown_waking)))
    (l_shown_waking : K.lookup f_shown_waking = some ⟨oc_shown_waking, od_shown_waking, .func (PySem.W.fnOf "shown_waking" "shown_waking" (defArgs s_shown_waking) (defBody s_shown_waking) (defScope s_shown_waking) .none kV_shown_waking dc_shown_waking pm_shown_waking an_shown_waking cd_shown_waking ct_shown_waking), sl_shown_waking⟩)
    (c_shown_waking : PySem.W.codeIn K cd_shown_waking "shown_waking" = true) (k_shown_waking : PySem.W.keepIn K (.ref f_shown_waking) = true)
    {f_shown_plan : Addr} {od_shown_plan an_shown_plan : Option Addr} {sl_shown_plan : Array (Option Value)} {oc_shown_plan kV_shown_plan dc_shown_plan pm_shown_plan cd_shown_plan ct_shown_plan : Value}
    (a_shown_plan : PySem.W.nsIn K mainGlobals "shown_plan" = some (some (.ref f_shown_plan)))
    (l_shown_plan : K.lookup f_shown_plan = some ⟨oc_shown_plan, od_shown_plan, .func (PySem.W.fnOf "shown_plan" "shown_plan" (defArgs s_shown_plan) (defBody s_shown_plan) (defScope s_shown_plan) .none kV_shown_plan dc_shown_plan pm_shown_plan an_shown_plan cd_shown_plan ct_shown_plan), sl_shown_plan⟩)
    (c_shown_plan : PySem.W.codeIn K cd_shown_plan "shown_plan" = true) (k_shown_plan : PySem.W.keepIn K (.ref f_shown_plan) = true)
    {f_number_of : Addr} {od_number_of an_number_of : Option Addr} {sl_number_of : Array (Option Value)} {oc_number_of kV_number_of dc_number_of pm_number_of cd_number_of ct_number_of : Value}
    (a_number_of : PySem.W.nsIn K mainGlobals "number_of" = some (some (.ref f_number_of)))
    (l_number_of : K.lookup f_number_of = some ⟨oc_number_of, od_number_of, .func (PySem.W.fnOf "number_of" "number_of" (defArgs s_number_of) (defBody s_number_of) (defScope s_number_of) .none kV_number_of dc_number_of pm_number_of an_number_of cd_number_of ct_number_of), sl_number_of⟩)
    (c_number_of : PySem.W.codeIn K cd_number_of "number_of" = true) (k_number_of : PySem.W.keepIn K (.ref f_number_of) = true)
    {f_read_waking : Addr} {od_read_waking an_read_waking : Option Addr} {sl_read_waking : Array (Option Value)} {oc_read_waking kV_read_waking dc_read_waking pm_read_waking cd_read_waking ct_read_waking : Value}
    (a_read_waking : PySem.W.nsIn K mainGlobals "read_waking" = some (some (.ref f_read_waking)))
    (l_read_waking : K.lookup f_read_waking = some ⟨oc_read_waking, od_read_waking, .func (PySem.W.fnOf "read_waking" "read_waking" (defArgs s_read_waking) (defBody s_read_waking) (defScope s_read_waking) .none kV_read_waking dc_read_waking pm_read_waking an_read_waking cd_read_waking ct_read_waking), sl_read_waking⟩)
    (c_read_waking : PySem.W.codeIn K cd_read_waking "read_waking" = true) (k_read_waking : PySem.W.keepIn K (.ref f_read_waking) = true)
    {f_read_plan : Addr} {od_read_plan an_read_plan : Option Addr} {sl_read_plan : Array (Option Value)} {oc_read_plan kV_read_plan dc_read_plan pm_read_plan cd_read_plan ct_read_plan : Value}
    (a_read_plan : PySem.W.nsIn K mainGlobals "read_plan" = some (some (.ref f_read_plan)))
    (l_read_plan : K.lookup f_read_plan = some ⟨oc_read_plan, od_read_plan, .func (PySem.W.fnOf "read_plan" "read_plan" (defArgs s_read_plan) (defBody s_read_plan) (defScope s_read_plan) .none kV_read_plan dc_read_plan pm_read_plan an_read_plan cd_read_plan ct_read_plan), sl_read_plan⟩)
    (c_read_plan : PySem.W.codeIn K cd_read_plan "read_plan" = true) (k_read_plan : PySem.W.keepIn K (.ref f_read_plan) = true)
    {f__law_cell_at : Addr} {od__law_cell_at an__law_cell_at : Option Addr} {sl__law_cell_at : Array (Option Value)} {oc__law_cell_at kV__law_cell_at dc__law_cell_at pm__law_cell_at cd__law_cell_at ct__law_cell_at : Value}
    (a__law_cell_at : PySem.W.nsIn K mainGlobals "_law_cell_at" = some (some (.ref f__law_cell_at)))
    (l__law_cell_at : K.lookup f__law_cell_at = some ⟨oc__law_cell_at, od__law_cell_at, .func (PySem.W.fnOf "_law_cell_at" "_law_cell_at" (defArgs s__law_cell_at) (defBody s__law_cell_at) (defScope s__law_cell_at) .none kV__law_cell_at dc__law_cell_at pm__law_cell_at an__law_cell_at cd__law_cell_at ct__law_cell_at), sl__law_cell_at⟩)
    (c__law_cell_at : PySem.W.codeIn K cd__law_cell_at "_law_cell_at" = true) (k__law_cell_at : PySem.W.keepIn K (.ref f__law_cell_at) = true)
    {f__law_whole : Addr} {od__law_whole an__law_whole : Option Addr} {sl__law_whole : Array (Option Value)} {oc__law_whole kV__law_whole dc__law_whole pm__law_whole cd__law_whole ct__law_whole : Value}
    (a__law_whole : PySem.W.nsIn K mainGlobals "_law_whole" = some (some (.ref f__law_whole)))
    (l__law_whole : K.lookup f__law_whole = some ⟨oc__law_whole, od__law_whole, .func (PySem.W.fnOf "_law_whole" "_law_whole" (defArgs s__law_whole) (defBody s__law_whole) (defScope s__law_whole) .none kV__law_whole dc__law_whole pm__law_whole an__law_whole cd__law_whole ct__law_whole), sl__law_whole⟩)
    (c__law_whole : PySem.W.codeIn K cd__law_whole "_law_whole" = true) (k__law_whole : PySem.W.keepIn K (.ref f__law_whole) = true)
    {f__law_waking : Addr} {od__law_waking an__law_waking : Option Addr} {sl__law_waking : Array (Option Value)} {oc__law_waking kV__law_waking dc__law_waking pm__law_waking cd__law_waking ct__law_waking : Value}
    (a__law_waking : PySem.W.nsIn K mainGlobals "_law_waking" = some (some (.ref f__law_waking)))
    (l__law_waking : K.lookup f__law_waking = some ⟨oc__law_waking, od__law_waking, .func (PySem.W.fnOf "_law_waking" "_law_waking" (defArgs s__law_waking) (defBody s__law_waking) (defScope s__law_waking) .none kV__law_waking dc__law_waking pm__law_waking an__law_waking cd__law_waking ct__law_waking), sl__law_waking⟩)
    (c__law_waking : PySem.W.codeIn K cd__law_waking "_law_waking" = true) (k__law_waking : PySem.W.keepIn K (.ref f__law_waking) = true)
    {f__law_plan : Addr} {od__law_plan an__law_plan : Option Addr} {sl__law_plan : Array (Option Value)} {oc__law_plan kV__law_plan dc__law_plan pm__law_plan cd__law_plan ct__law_plan : Value}
    (a__law_plan : PySem.W.nsIn K mainGlobals "_law_plan" = some (some (.ref f__law_plan)))
    (l__law_plan : K.lookup f__law_plan = some ⟨oc__law_plan, od__law_plan, .func (PySem.W.fnOf "_law_plan" "_law_plan" (defArgs s__law_plan) (defBody s__law_plan) (defScope s__law_plan) .none kV__law_plan dc__law_plan pm__law_plan an__law_plan cd__law_plan ct__law_plan), sl__law_plan⟩)
    (c__law_plan : PySem.W.codeIn K cd__law_plan "_law_plan" = true) (k__law_plan : PySem.W.keepIn K (.ref f__law_plan) = true)
    {f__law_text : Addr} {od__law_text an__law_text : Option Addr} {sl__law_text : Array (Option Value)} {oc__law_text kV__law_text dc__law_text pm__law_text cd__law_text ct__law_text : Value}
    (a__law_text : PySem.W.nsIn K mainGlobals "_law_text" = some (some (.ref f__law_text)))
    (l__law_text : K.lookup f__law_text = some ⟨oc__law_text, od__law_text, .func (PySem.W.fnOf "_law_text" "_law_text" (defArgs s__law_text) (defBody s__law_text) (defScope s__law_text) .none kV__law_text dc__law_text pm__law_text an__law_text cd__law_text ct__law_text), sl__law_text⟩)
    (c__law_text : PySem.W.codeIn K cd__law_text "_law_text" = true) (k__law_text : PySem.W.keepIn K (.ref f__law_text) = true)
    {f__law_read : Addr} {od__law_read an__law_read : Option Addr} {sl__law_read : Array (Option Value)} {oc__law_read kV__law_read dc__law_read pm__law_read cd__law_read ct__law_read : Value}
    (a__law_read : PySem.W.nsIn K mainGlobals "_law_read" = some (some (.ref f__law_read)))
    (l__law_read : K.lookup f__law_read = some ⟨oc__law_read, od__law_read, .func (PySem.W.fnOf "_law_read" "_law_read" (defArgs s__law_read) (defBody s__law_read) (defScope s__law_read) .none kV__law_read dc__law_read pm__law_read an__law_read cd__law_read ct__law_read), sl__law_read⟩)
    (c__law_read : PySem.W.codeIn K cd__law_read "_law_read" = true) (k__law_read : PySem.W.keepIn K (.ref f__law_read) = true)
    {f_law : Addr} {od_law an_law : Option Addr} {sl_law : Array (Option Value)} {oc_law kV_law dc_law pm_law cd_law ct_law : Value}
    (a_law : PySem.W.nsIn K mainGlobals "law" = some (some (.ref f_law)))
    (l_law : K.lookup f_law = some ⟨oc_law, od_law, .func (PySem.W.fnOf "law" "law" (defArgs s_law) (defBody s_law) (defScope s_law) .none kV_law dc_law pm_law an_law cd_law ct_law), sl_law⟩)
    (c_law : PySem.W.codeIn K cd_law "law" = true) (k_law : PySem.W.keepIn K (.ref f_law) = true)
    (z_bool : PySem.W.nsIn K mainGlobals "bool" = some none)
    (z_int : PySem.W.nsIn K mainGlobals "int" = some none)
    (z_isinstance : PySem.W.nsIn K mainGlobals "isinstance" = some none)
    (z_len : PySem.W.nsIn K mainGlobals "len" = some none)
    (z_list : PySem.W.nsIn K mainGlobals "list" = some none)
    (z_range : PySem.W.nsIn K mainGlobals "range" = some none)
    (z_str : PySem.W.nsIn K mainGlobals "str" = some none)
    (z_tuple : PySem.W.nsIn K mainGlobals "tuple" = some none)
    {t_FIGURES : Tok} (y_FIGURES : PySem.W.nsIn K mainGlobals "FIGURES" = some (some (.str "0123456789" t_FIGURES)))
    {t_MOST_FIGURES : Tok} (y_MOST_FIGURES : PySem.W.nsIn K mainGlobals "MOST_FIGURES" = some (some (.int 100 t_MOST_FIGURES)))
    {t_MOST_WAKINGS : Tok} (y_MOST_WAKINGS : PySem.W.nsIn K mainGlobals "MOST_WAKINGS" = some (some (.int 12 t_MOST_WAKINGS)))
    {C_NoPlan : Addr} (e_NoPlan : PySem.W.nsIn K mainGlobals "NoPlan" = some (some (.ref C_NoPlan)))
    (e1_NoPlan : PySem.W.excIn K C_NoPlan [.type "ValueError", .type "Exception", .type "BaseException", .type "object"] "ValueError.__new__" = true) (e2_NoPlan : PySem.W.keepIn K (.ref C_NoPlan) = true) (e3_NoPlan : PySem.W.subIn K (.ref C_NoPlan) (.type "BaseException") = some true) (e4_NoPlan : PySem.W.typeIn K (.ref C_NoPlan) = some (.type "type"))
    {C_NoText : Addr} (e_NoText : PySem.W.nsIn K mainGlobals "NoText" = some (some (.ref C_NoText)))
    (e1_NoText : PySem.W.excIn K C_NoText [.type "ValueError", .type "Exception", .type "BaseException", .type "object"] "ValueError.__new__" = true) (e2_NoText : PySem.W.keepIn K (.ref C_NoText) = true) (e3_NoText : PySem.W.subIn K (.ref C_NoText) (.type "BaseException") = some true) (e4_NoText : PySem.W.typeIn K (.ref C_NoText) = some (.type "type")) :
    ∃ fd : FuncData, (∀ (s : Shared) (v : Value), BindsTo s fd ⟨[v], []⟩ [("script", v)]) ∧ ∀ base : Heap, K.In base → base.Ns mainGlobals mg → FnOk l.prog w K mg base (L2.CX l.prog w) 5 fa fd ["script"] (FSp K mg 1 m_law) := by
  have e := hfa.symm.trans (PySem.W.mg_of X G a_law)
  cases e
  have n_bool : mg "bool" = none := PySem.W.mg_none_of X G z_bool
  have n_int : mg "int" = none := PySem.W.mg_none_of X G z_int
  have n_isinstance : mg "isinstance" = none := PySem.W.mg_none_of X G z_isinstance
  have n_len : mg "len" = none := PySem.W.mg_none_of X G z_len
  have n_list : mg "list" = none := PySem.W.mg_none_of X G z_list
  have n_range : mg "range" = none := PySem.W.mg_none_of X G z_range
  have n_str : mg "str" = none := PySem.W.mg_none_of X G z_str
  have n_tuple : mg "tuple" = none := PySem.W.mg_none_of X G z_tuple
  have g_FIGURES : mg "FIGURES" = some (.str "0123456789" t_FIGURES) := PySem.W.mg_of X G y_FIGURES
  have g_MOST_FIGURES : mg "MOST_FIGURES" = some (.int 100 t_MOST_FIGURES) := PySem.W.mg_of X G y_MOST_FIGURES
  have g_MOST_WAKINGS : mg "MOST_WAKINGS" = some (.int 12 t_MOST_WAKINGS) := PySem.W.mg_of X G y_MOST_WAKINGS
  have F_plan_of := fun_mk (st := s_plan_of) l_plan_of c_plan_of k_plan_of
  have bb_plan_of := F_plan_of.binds (ps := ["rows"]) fun _ _ _ _ _ _ us hl => match us, hl with | [_], _ => rfl
  have F_shown_waking := fun_mk (st := s_shown_waking) l_shown_waking c_shown_waking k_shown_waking
  have bb_shown_waking := F_shown_waking.binds (ps := ["waking"]) fun _ _ _ _ _ _ us hl => match us, hl with | [_], _ => rfl
  have F_shown_plan := fun_mk (st := s_shown_plan) l_shown_plan c_shown_plan k_shown_plan
  have bb_shown_plan := F_shown_plan.binds (ps := ["plan"]) fun _ _ _ _ _ _ us hl => match us, hl with | [_], _ => rfl
  have F_number_of := fun_mk (st := s_number_of) l_number_of c_number_of k_number_of
  have bb_number_of := F_number_of.binds (ps := ["word"]) fun _ _ _ _ _ _ us hl => match us, hl with | [_], _ => rfl
  have F_read_waking := fun_mk (st := s_read_waking) l_read_waking c_read_waking k_read_waking
  have bb_read_waking := F_read_waking.binds (ps := ["word"]) fun _ _ _ _ _ _ us hl => match us, hl with | [_], _ => rfl
  have F_read_plan := fun_mk (st := s_read_plan) l_read_plan c_read_plan k_read_plan
  have bb_read_plan := F_read_plan.binds (ps := ["text"]) fun _ _ _ _ _ _ us hl => match us, hl with | [_], _ => rfl
  have F__law_cell_at := fun_mk (st := s__law_cell_at) l__law_cell_at c__law_cell_at k__law_cell_at
  have bb__law_cell_at := F__law_cell_at.binds (ps := ["script", "k"]) fun _ _ _ _ _ _ us hl => match us, hl with | [_, _], _ => rfl
  have F__law_whole := fun_mk (st := s__law_whole) l__law_whole c__law_whole k__law_whole
  have bb__law_whole := F__law_whole.binds (ps := ["found"]) fun _ _ _ _ _ _ us hl => match us, hl with | [_], _ => rfl
  have F__law_waking := fun_mk (st := s__law_waking) l__law_waking c__law_waking k__law_waking
  have bb__law_waking := F__law_waking.binds (ps := ["one", "two", "three"]) fun _ _ _ _ _ _ us hl => match us, hl with | [_, _, _], _ => rfl
  have F__law_plan := fun_mk (st := s__law_plan) l__law_plan c__law_plan k__law_plan
  have bb__law_plan := F__law_plan.binds (ps := ["script"]) fun _ _ _ _ _ _ us hl => match us, hl with | [_], _ => rfl
  have F__law_text := fun_mk (st := s__law_text) l__law_text c__law_text k__law_text
  have bb__law_text := F__law_text.binds (ps := ["plan", "short"]) fun _ _ _ _ _ _ us hl => match us, hl with | [_, _], _ => rfl
  have F__law_read := fun_mk (st := s__law_read) l__law_read c__law_read k__law_read
  have bb__law_read := F__law_read.binds (ps := ["text", "plan"]) fun _ _ _ _ _ _ us hl => match us, hl with | [_, _], _ => rfl
  have F_law := fun_mk (st := s_law) l_law c_law k_law
  have xx_NoPlan : ∀ (base : Heap) (N : List Str) (sc : Scope) (k : Nat), Xc (cfOf l.prog w K mg base N sc k) "NoPlan" := fun _ _ _ _ => ⟨C_NoPlan, PySem.W.mg_of X G e_NoPlan, e1_NoPlan, e2_NoPlan, e3_NoPlan, e4_NoPlan⟩
  have xx_NoText : ∀ (base : Heap) (N : List Str) (sc : Scope) (k : Nat), Xc (cfOf l.prog w K mg base N sc k) "NoText" := fun _ _ _ _ => ⟨C_NoText, PySem.W.mg_of X G e_NoText, e1_NoText, e2_NoText, e3_NoText, e4_NoText⟩
  refine ⟨PySem.W.fnOf "law" "law" (defArgs s_law) (defBody s_law) (defScope s_law) .none kV_law dc_law pm_law an_law cd_law ct_law, fun s v => .of_eq rfl, fun base _ _ => ?_⟩
  have h_plan_of : Fn l.prog w K mg base 1 "plan_of" 1 Sh.m_plan_of := by
    rw [Sh.m_plan_of_eq]
    exact fn_mk F_plan_of (PySem.W.mg_of X G a_plan_of) bb_plan_of sc_plan_of rfl (d_plan_of (xx_NoPlan base))
  have h_shown_waking : Fn l.prog w K mg base 1 "shown_waking" 1 Sh.m_shown_waking := by
    rw [Sh.m_shown_waking_eq]
    exact fn_mk F_shown_waking (PySem.W.mg_of X G a_shown_waking) bb_shown_waking sc_shown_waking rfl (d_shown_waking n_str)
  have h_shown_plan : Fn l.prog w K mg base 2 "shown_plan" 1 Sh.m_shown_plan := by
    rw [Sh.m_shown_plan_eq]
    exact fn_mk F_shown_plan (PySem.W.mg_of X G a_shown_plan) bb_shown_plan sc_shown_plan rfl (d_shown_plan h_shown_waking)
  have h_number_of : Fn l.prog w K mg base 1 "number_of" 1 Sh.m_number_of := by
    rw [Sh.m_number_of_eq]
    exact fn_mk F_number_of (PySem.W.mg_of X G a_number_of) bb_number_of sc_number_of rfl (d_number_of n_int n_len g_FIGURES g_MOST_FIGURES (xx_NoText base))
  have h_read_waking : Fn l.prog w K mg base 2 "read_waking" 1 Sh.m_read_waking := by
    rw [Sh.m_read_waking_eq]
    exact fn_mk F_read_waking (PySem.W.mg_of X G a_read_waking) bb_read_waking sc_read_waking rfl (d_read_waking h_number_of n_len (xx_NoText base))
  have h_read_plan : Fn l.prog w K mg base 3 "read_plan" 1 Sh.m_read_plan := by
    rw [Sh.m_read_plan_eq]
    exact fn_mk F_read_plan (PySem.W.mg_of X G a_read_plan) bb_read_plan sc_read_plan rfl (d_read_plan h_plan_of h_read_waking n_len g_MOST_WAKINGS (xx_NoText base))
  have h__law_cell_at : Fn l.prog w K mg base 1 "_law_cell_at" 2 Sh.m__law_cell_at := by
    rw [Sh.m__law_cell_at_eq]
    exact fn_mk F__law_cell_at (PySem.W.mg_of X G a__law_cell_at) bb__law_cell_at sc__law_cell_at rfl (d__law_cell_at n_len)
  have h__law_whole : Fn l.prog w K mg base 1 "_law_whole" 1 Sh.m__law_whole := by
    rw [Sh.m__law_whole_eq]
    exact fn_mk F__law_whole (PySem.W.mg_of X G a__law_whole) bb__law_whole sc__law_whole rfl (d__law_whole n_bool n_int n_isinstance)
  have h__law_waking : Fn l.prog w K mg base 1 "_law_waking" 3 m__law_waking := by
    rw [m__law_waking_eq]
    exact fn_mk F__law_waking (PySem.W.mg_of X G a__law_waking) bb__law_waking sc__law_waking rfl (d__law_waking )
  have h__law_plan : Fn l.prog w K mg base 2 "_law_plan" 1 m__law_plan := by
    rw [m__law_plan_eq]
    exact fn_mk F__law_plan (PySem.W.mg_of X G a__law_plan) bb__law_plan sc__law_plan rfl (d__law_plan h__law_cell_at h__law_waking n_range)
  have h__law_text : Fn l.prog w K mg base 1 "_law_text" 2 m__law_text := by
    rw [m__law_text_eq]
    exact fn_mk F__law_text (PySem.W.mg_of X G a__law_text) bb__law_text sc__law_text rfl (d__law_text n_str)
  have h__law_read : Fn l.prog w K mg base 4 "_law_read" 2 m__law_read := by
    rw [m__law_read_eq]
    exact fn_mk F__law_read (PySem.W.mg_of X G a__law_read) bb__law_read sc__law_read rfl (d__law_read h_read_plan h__law_whole n_isinstance n_len n_list n_tuple)
  rw [m_law_eq]
  exact fn_ok F_law sc_law rfl (d_law h__law_plan h_shown_plan h__law_text h__law_read h_read_plan n_isinstance n_list n_str)

end K71

namespace K71
open PySem PySem.Spec L2 Mi Mi.Sh
structure Gd (w : Wk3) : Prop where
  nw : Nw w
  ok : okW w = true
theorem waking_ok {a b c : Int} : ∃ w : Wk3, Gd w ∧ m__law_waking [.sh (.int a), .sh (.int b), .sh (.int c)] = .ok (.sh (wkD w)) := by
  obtain ⟨q, q1, q2, eq⟩ : ∃ q : Int, 12 ≤ q ∧ q ≤ 10 ^ 60 ∧ atI [D.int 12, D.int 1000000000000000000000000000000000000000000000000000000000000] (a % 2) = some (.int q) := by
    have h : a % 2 = 0 ∨ a % 2 = 1 := by omega
    rcases h with h | h
    · exact ⟨12, by decide, by decide, by rw [h]; simp⟩
    · exact ⟨10 ^ 60, by decide, by decide, by rw [h]; simp⟩
  have q0 : 0 < q := by omega
  have dq : divOk q = true := @divOk_i 250 _ ⟨by omega⟩ (by rfl)
  have p0 := Int.emod_nonneg (a / 2) (show q ≠ 0 by omega)
  have p1 := Int.emod_lt_of_pos (a / 2) q0
  obtain ⟨p, hp⟩ : ∃ p : Int, p = 1 + a / 2 % q := ⟨_, rfl⟩
  have pp : 0 < p := by omega
  have dp : divOk p = true := @divOk_i 250 _ ⟨by omega⟩ (by rfl)
  have f0 := Int.emod_nonneg b (show p ≠ 0 by omega)
  have f1 := Int.emod_lt_of_pos b pp
  have l0 := Int.emod_nonneg (c / 2) (show p ≠ 0 by omega)
  have l1 := Int.emod_lt_of_pos (c / 2) pp
  have good : ∀ l : Int, 1 ≤ l → l ≤ p → Gd (p, b % p, l) := fun l h1 h2 => by
    refine ⟨⟨⟨by dsimp only; omega, by dsimp only; omega⟩, ⟨f0, by dsimp only; omega⟩, ⟨by dsimp only; omega, by dsimp only; omega⟩⟩, ?_⟩
    simp only [okW, Bool.and_eq_true, decide_eq_true_eq]
    exact ⟨by omega, f0, f1, h1, h2⟩
  by_cases h : c % 2 = 1
  · refine ⟨(p, b % p, 1 + c / 2 % p), good _ (by omega) (by omega), ?_⟩
    rw [m__law_waking_eq]
    refine runB_rt ?_
    simp -implicitDefEqProofs [b__law_waking, eq, q0, dq, ← hp, t__law_waking_2, t__law_waking_1, h, pp, dp, wkD]
  · refine ⟨(p, b % p, 1), good _ (by omega) (by omega), ?_⟩
    rw [m__law_waking_eq]
    refine runB_rt ?_
    simp -implicitDefEqProofs [b__law_waking, eq, q0, dq, ← hp, t__law_waking_2, t__law_waking_1, h, pp, dp, wkD]
theorem plan_ok {ns : List Int} (hl : ns.length ≤ 63) : ∃ ws : List Wk3, ws.length ≤ 12 ∧ (∀ w ∈ ws, Gd w) ∧ m__law_plan [.sh (.lst (ns.map D.int))] = .ok (.ow (ws.map wkD)) := by
  have e0 := cellI hl (x := 0) (by decide)
  simp only [show (0 : Int).toNat = 0 from rfl] at e0
  generalize ns.getD 0 0 = x0 at *
  obtain ⟨m, hm, m2⟩ : ∃ m : Nat, (m : Int) = x0 % 13 ∧ m ≤ 12 := ⟨(x0 % 13).toNat, by omega, by omega⟩
  obtain ⟨L, hL⟩ : ∃ L : Option Sl, L = some (.sh (.lst (ns.map D.int))) := ⟨_, rfl⟩
  obtain ⟨ρ, e, ws, h1, h2, h3⟩ := forR_nat (gt := gSet 2) (u := u__law_plan_2) (fun i ρ => ∃ ws : List Wk3, ws.length = i ∧ (∀ w ∈ ws, Gd w) ∧ ρ = [L, some (.ow (ws.map wkD)), none, none, none]) (rngD 0 m) 0 [L, some (.ow []), none, none, none]
    ⟨[], rfl, fun w h => absurd h List.not_mem_nil, rfl⟩ fun i d ρ hd ⟨ws, h1, h2, h3⟩ => by
      obtain ⟨hi, rfl⟩ := rngD_get hd
      subst h3
      rw [Nat.zero_add] at h1 ⊢
      have m3 : mulOk 3 (i : Int) = true := @mulOk_i 10 10 _ _ ⟨by omega⟩ ⟨by omega⟩ (by rfl)
      obtain ⟨cs, c1, _, c3⟩ := lcR_nat (gt := gSet 4) (p := tYesE) (f := eBin oAdd (eApp Sh.m__law_cell_at (aVal (eVar 0) (aVal (eBin oAdd (eBin oAdd (eD (.int 1)) (eBin oMul (eD (.int 3)) (eLook 2))) (eLook 4)) (aNil)))) (eBin oMul (eLook 2) (eBin oAdd (eLook 2) (eLook 4)))) (ρ := [L, some (.ow (ws.map wkD)), some (.sh (.int (i : Int))), none, none]) (lo := 0) (n := 3) D.int (fun _ _ => True) fun j hj => by
        have ec := cellI hl (x := 1 + 3 * (i : Int) + (j : Int)) (by omega)
        have m4 : mulOk (i : Int) ((i : Int) + (j : Int)) = true := @mulOk_i 10 10 _ _ ⟨by omega⟩ ⟨by omega⟩ (by rfl)
        generalize ns.getD (1 + 3 * (i : Int) + (j : Int)).toNat 0 = c at *
        refine ⟨c + (i : Int) * ((i : Int) + (j : Int)), trivial, ?_⟩
        subst hL
        generalize ns.map D.int = NS at *
        simp -implicitDefEqProofs [m3, ec, m4]
      have e1 := eLc_ok (fi := iRng1D (eD (.int 3))) (vs := [4]) (ρ := [L, some (.ow (ws.map wkD)), some (.sh (.int (i : Int))), none, none]) (iRng1D_ok (j := 3) rfl (by decide)) (by rw [rngD_len]; decide) c3
      obtain ⟨a, b, c, rfl⟩ : ∃ a b c, cs = [a, b, c] := by
        match cs, c1 with
        | [a, b, c], _ => exact ⟨a, b, c, rfl⟩
      obtain ⟨w, w1, ew⟩ := waking_ok (a := a) (b := b) (c := c)
      have hz : (ws.map wkD).length < szL := lt_szL (by rw [List.length_map]; omega)
      refine ⟨_, ?_, ws ++ [w], by rw [List.length_append, List.length_singleton, h1], fun v hv => ?_, rfl⟩
      · rw [List.map_append, List.map_singleton]
        subst hL
        generalize ns.map D.int = NS at *
        generalize ws.map wkD = W at *
        generalize wkD w = WW at *
        simp -implicitDefEqProofs [turnB, u__law_plan_2, e1, t__law_plan_1, ew, hz]
      · rcases List.mem_append.mp hv with hv | hv
        · exact h2 v hv
        · rw [List.mem_singleton.mp hv]
          exact w1
  rw [rngD_len, Nat.zero_add] at h1
  rw [h3] at e
  have it := iRng1D_ok (f := eBin oMod (eApp Sh.m__law_cell_at (aVal (eVar 0) (aVal (eD (.int 0)) (aNil)))) (eD (.int 13))) (ρ := [L, some (.ow []), none, none, none]) (j := (m : Int)) (by
    subst hL
    generalize ns.map D.int = NS at *
    simp -implicitDefEqProofs [e0, hm]) (by omega)
  rw [Int.toNat_natCast] at it
  have e2 := sFor_at it e
  refine ⟨ws, by omega, h2, ?_⟩
  rw [m__law_plan_eq]
  refine runB_rt ?_
  show b__law_plan [some (.sh (.lst (ns.map D.int))), none, none, none, none] = _
  rw [← hL]
  simp -implicitDefEqProofs [b__law_plan, t__law_plan_3, e2]
theorem strI_lc {w : Wk3} (h : Nw w) (ρ : En) (h3 : ρ[3]? = some (some (.sh (wkD w)))) (h5 : 5 < ρ.length) : eLc (iVar 3) (gSet 5) (tYesE) (eCall oStr (vCons (eLook 5) vNil)) [5] ρ = .ok ([w.1, w.2.1, w.2.2].map fun i => D.str (intS i)) := by
  have lc := lcR_map (gt := gSet 5) (p := tYesE) (f := eCall oStr (vCons (eLook 5) vNil)) (ρ := wipeE ρ [5]) D.int (fun i => D.str (intS i)) [w.1, w.2.1, w.2.2] fun i hi => by
    have hs : strOk i = true := by
      have : i = w.1 ∨ i = w.2.1 ∨ i = w.2.2 := by simpa using hi
      rcases this with rfl | rfl | rfl
      · exact h.p.strOk
      · exact h.f.strOk
      · exact h.l.strOk
    have l5 : 5 < (wipeE ρ [5]).length := by unfold wipeE wipeE; rw [List.length_set]; exact h5
    generalize wipeE ρ [5] = ρ' at *
    simp -implicitDefEqProofs [hs, l5]
  exact eLc_ok (by unfold iVar; rw [h3]; rfl) (by simp) lc
theorem text_ok {ws : List Wk3} (h : ∀ w ∈ ws, Nw w) (hl : ws.length ≤ 1000) (sh : Bool) : m__law_text [.sh (.lst (ws.map wkD)), .sh (.bl sh)] = .ok (.sh (.str (planT sh ws))) := by
  obtain ⟨L, hL⟩ : ∃ L : D, L = .lst (ws.map wkD) := ⟨_, rfl⟩
  have loop : forR (gSet 3) u__law_text_3 (ws.map wkD) [some (.sh L), some (.sh (.bl sh)), some (.ow (([] : List Str).map D.str)), none, none, none] = .nx [some (.sh L), some (.sh (.bl sh)), some (.ow (([] ++ ws.flatMap fun w => [wT sh w]).map D.str)), none, none, none] := by
    refine forR_app (fun acc : List Str => [some (.sh L), some (.sh (.bl sh)), some (.ow (acc.map D.str)), none, none, none]) wkD (fun w => [wT sh w]) 1000 ws [] (by rw [← List.map_eq_flatMap, List.length_map]; simp; exact hl) fun w acc hw ha => ?_
    have hz : acc.length < szL := lt_szL (by rw [List.length_singleton] at ha; omega)
    have e1 := strI_lc (h w hw) [some (.sh L), some (.sh (.bl sh)), some (.ow (acc.map D.str)), some (.sh (wkD w)), none, none] rfl (Nat.le_refl _)
    have jf : ∀ is : List Int, (∀ i ∈ is, Nn i) → is.length ≤ 3 → joinD ":" (.lst (is.map fun i => D.str (intS i))) = .ok (.str (Txt.join ":" (is.map intS))) := fun is h1 h2 => by
      have := join_fits (y := ":") (k := 100) (n := 3) (ps := is.map intS) (fun p hp => by
        obtain ⟨i, hi, rfl⟩ := List.mem_map.mp hp
        exact (h1 i hi).len) (by rw [List.length_map]; exact h2) (by decide) (by decide)
      rw [List.map_map] at this
      exact this
    have a3 := jf [w.1, w.2.1, w.2.2] (fun i hi => (h w hw).all false i (by unfold wI; rw [if_neg (fun z => nomatch z.1)]; exact hi)) (by simp)
    have a2 := jf [w.1, w.2.1] (fun i hi => by
      have : i = w.1 ∨ i = w.2.1 := by simpa using hi
      rcases this with rfl | rfl
      · exact (h w hw).p
      · exact (h w hw).f) (by simp)
    have cut : cutD ([w.1, w.2.1, w.2.2].map fun i => D.str (intS i)) none (some 2) = [w.1, w.2.1].map fun i => D.str (intS i) := rfl
    have lk : atI [D.int w.1, D.int w.2.1, D.int w.2.2] 2 = some (D.int w.2.2) := by simp
    rw [List.map_append, List.map_singleton]
    by_cases q : sh = true ∧ w.2.2 = 1
    · obtain ⟨q1, q2⟩ := q
      have et : wT sh w = Txt.join ":" ([w.1, w.2.1].map intS) := by
        unfold wT wI
        rw [if_pos ⟨q1, q2⟩]
      rw [et]
      subst q1
      generalize ([w.1, w.2.1, w.2.2].map fun i => D.str (intS i)) = T3 at *
      generalize ([w.1, w.2.1].map fun i => D.str (intS i)) = T2 at *
      rw [q2] at lk
      have wD : wkD w = .tup [.int w.1, .int w.2.1, .int w.2.2] := rfl
      rw [wD] at e1 ⊢
      rw [q2] at e1 ⊢
      simp -implicitDefEqProofs [turnB, u__law_text_3, e1, t__law_text_2, cut, t__law_text_1, eJoin, a2, hz]
    · have et : wT sh w = Txt.join ":" ([w.1, w.2.1, w.2.2].map intS) := by
        unfold wT wI
        rw [if_neg q]
      rw [et]
      have wD : wkD w = .tup [.int w.1, .int w.2.1, .int w.2.2] := rfl
      rw [wD] at e1 ⊢
      generalize ([w.1, w.2.1, w.2.2].map fun i => D.str (intS i)) = T3 at *
      cases sh with
      | true =>
        have q2 : ¬ w.2.2 = 1 := fun z => q ⟨rfl, z⟩
        simp -implicitDefEqProofs [turnB, u__law_text_3, e1, t__law_text_2, q2, t__law_text_1, eJoin, a3, hz]
      | false => simp -implicitDefEqProofs [turnB, u__law_text_3, e1, t__law_text_2, t__law_text_1, eJoin, a3, hz]
  have ef : (ws.flatMap fun w => [wT sh w]) = ws.map (wT sh) := (List.map_eq_flatMap).symm
  rw [List.nil_append, ef] at loop
  have e2 := sFor_at (f := iVar 0) (ρ := [some (.sh L), some (.sh (.bl sh)), some (.ow (([] : List Str).map D.str)), none, none, none]) (by subst hL; rfl) loop
  have e3 := join_fits (y := " ") (k := 303) (n := 1000) (ps := ws.map (wT sh)) (fun p hp => by
    obtain ⟨w, hw, rfl⟩ := List.mem_map.mp hp
    exact wT_len (h w hw) sh) (by rw [List.length_map]; exact hl) (by decide) (by decide)
  have e4 : oEq (.lst ((ws.map (wT sh)).map D.str)) (.lst []) = .ok (.bl ws.isEmpty) := by
    rw [oEq_txts_nil fun y hy c hc => by
      obtain ⟨w, hw, rfl⟩ := List.mem_map.mp hy
      have := wT_free (h w hw) hc
      omega]
    cases ws <;> rfl
  rw [m__law_text_eq]
  refine runB_rt ?_
  show b__law_text [some (.sh (.lst (ws.map wkD))), some (.sh (.bl sh)), none, none, none, none] = _
  rw [← hL]
  unfold planT
  simp only [List.map_nil] at e2
  by_cases z : ws.isEmpty = true
  · rw [z] at e4
    rw [if_pos z]
    generalize (ws.map (wT sh)).map D.str = T at *
    simp -implicitDefEqProofs [b__law_text, t__law_text_5, e2, t__law_text_4, e4]
  · have z' : ws.isEmpty = false := by simpa using z
    rw [z'] at e4
    rw [if_neg z]
    generalize (ws.map (wT sh)).map D.str = T at *
    simp -implicitDefEqProofs [b__law_text, t__law_text_5, e2, t__law_text_4, e4, eJoin, e3]
theorem read_ok {ws : List Wk3} (h : ∀ w ∈ ws, Nw w) (hl : ws.length ≤ 12) (ok : ws.all okW = true) (sh : Bool) : m__law_read [.sh (.str (planT sh ws)), .sh (.lst (ws.map wkD))] = .ok (.sh (.bl true)) := by
  have er := read_plan_ok h hl ok sh
  obtain ⟨S, hS⟩ : ∃ S : Option Sl, S = some (.sh (.str (planT sh ws))) := ⟨_, rfl⟩
  obtain ⟨L, hL⟩ : ∃ L : D, L = .lst (ws.map wkD) := ⟨_, rfl⟩
  have loop : forR (gSet 3) u__law_read_2 (ws.map wkD) [S, some (.sh L), some (.sh L), none] = .nx [S, some (.sh L), some (.sh L), none] := by
    refine forR_keep wkD _ fun w hw => ?_
    have w1 := whole_ok w.1
    have w2 := whole_ok w.2.1
    have w3 := whole_ok w.2.2
    simp -implicitDefEqProofs [turnB, u__law_read_2, wkD, t__law_read_1, w1, w2, w3]
  have e2 := sFor_at (f := iVar 2) (by subst hL; rfl) loop
  have e3 : oEq L L = .ok (.bl true) := by subst hL; exact oEq_wks
  rw [m__law_read_eq]
  refine runB_rt ?_
  show b__law_read [some (.sh (.str (planT sh ws))), some (.sh (.lst (ws.map wkD))), none, none] = _
  have lW : oLen [L] = .ok (.int (ws.length : Int)) := by
    subst hL
    show R.ok (D.int ((ws.map wkD).length : Int)) = _
    rw [List.length_map]
  have iL : isLstD L = true ∧ isExo L = false := by subst hL; exact ⟨rfl, rfl⟩
  have er' : m_read_plan [.sh (.str (planT sh ws))] = .ok (.ow (ws.map wkD)) := er
  have fz : t__law_read_4 [S, some (.sh L), some (.ow (ws.map wkD)), none] = .rt (.sh (.bl true)) := by
    have g1 : sFrz 2 = sFrz 2 := rfl
    subst hL
    generalize ws.map wkD = W at *
    have lW' : (W.length : Int) = (ws.length : Int) := by
      have := lW
      simpa using this
    simp -implicitDefEqProofs [t__law_read_4, t__law_read_3, e2, e3]
  rw [← hS, ← hL]
  subst hS
  generalize planT sh ws = T at *
  simp -implicitDefEqProofs [b__law_read, er', fz]
theorem law_true : ∀ ns : List Int, ns.length ≤ 63 → (∀ z ∈ ns, Builtin.Int.intBits z ≤ 1048576) → m_law [.sh (.lst (ns.map D.int))] = .ok (.sh (.bl true)) := by
  intro ns hl hb
  obtain ⟨ws, h1, h2, ep⟩ := plan_ok hl
  have nw : ∀ w ∈ ws, Nw w := fun w hw => (h2 w hw).nw
  have ok : ws.all okW = true := List.all_eq_true.mpr fun w hw => (h2 w hw).ok
  have es := shown_plan_ok nw (by omega)
  have et := text_ok nw (by omega) true
  have ef := text_ok nw (by omega) false
  have r1 := read_ok nw h1 ok true
  have r2 := read_ok nw h1 ok false
  have p1 := read_plan_ok nw h1 ok true
  have p2 := read_plan_ok nw h1 ok false
  have eq := @oEq_wks ws
  have hz : ws.length < szL := lt_szL (by omega)
  have lW : (ws.map wkD).length = ws.length := List.length_map ..
  rw [m_law_eq]
  refine runB_rt ?_
  generalize planT true ws = T1 at *
  generalize planT false ws = T2 at *
  generalize ws.map wkD = W at *
  generalize ns.map D.int = NS at *
  simp -implicitDefEqProofs [b_law, ep, t_law_6, t_law_5, es, t_law_4, et, eq, t_law_3, r1, ef, r2, t_law_2, p1, lW, hz, t_law_1, p2]
end K71

open PySem PySem.W PyProof.Rows
set_option maxRecDepth 100000 in
set_option maxHeartbeats 0 in
theorem PySem.Challenge.cw_shiftmeet_k71_plans_written_holds : PySem.Challenge.rw_shiftmeet_k71_plans_written.Holds := by
  w_on; o_law; k_head; (case hw => w_witness2)
  k_fill
  refine Mi.law_end (l := PySem.Challenge.rw_shiftmeet_k71_plans_written) (m := K71.m_law) (k := 5) rfl rfl ⟨rfl, by decide, by decide⟩ (fun w h Y => PySem.W.kIn_of Y) ?F K71.law_true
  case F =>
    intro w mg fa h KX G hmg
    refine' K71.all_mk KX G hmg ?a_plan_of ?l_plan_of ?c_plan_of ?k_plan_of ?a_shown_waking ?l_shown_waking ?c_shown_waking ?k_shown_waking ?a_shown_plan ?l_shown_plan ?c_shown_plan ?k_shown_plan ?a_number_of ?l_number_of ?c_number_of ?k_number_of ?a_read_waking ?l_read_waking ?c_read_waking ?k_read_waking ?a_read_plan ?l_read_plan ?c_read_plan ?k_read_plan ?a__law_cell_at ?l__law_cell_at ?c__law_cell_at ?k__law_cell_at ?a__law_whole ?l__law_whole ?c__law_whole ?k__law_whole ?a__law_waking ?l__law_waking ?c__law_waking ?k__law_waking ?a__law_plan ?l__law_plan ?c__law_plan ?k__law_plan ?a__law_text ?l__law_text ?c__law_text ?k__law_text ?a__law_read ?l__law_read ?c__law_read ?k__law_read ?a_law ?l_law ?c_law ?k_law ?z_bool ?z_int ?z_isinstance ?z_len ?z_list ?z_range ?z_str ?z_tuple ?y_FIGURES ?y_MOST_FIGURES ?y_MOST_WAKINGS ?e_NoPlan ?e1_NoPlan ?e2_NoPlan ?e3_NoPlan ?e4_NoPlan ?e_NoText ?e1_NoText ?e2_NoText ?e3_NoText ?e4_NoText
    (case a_plan_of => k_is); (case l_plan_of => k_is); (case c_plan_of => k_is); (case k_plan_of => k_is); (case a_shown_waking => k_is); (case l_shown_waking => k_is); (case c_shown_waking => k_is); (case k_shown_waking => k_is); (case a_shown_plan => k_is); (case l_shown_plan => k_is); (case c_shown_plan => k_is); (case k_shown_plan => k_is); (case a_number_of => k_is); (case l_number_of => k_is); (case c_number_of => k_is); (case k_number_of => k_is); (case a_read_waking => k_is); (case l_read_waking => k_is); (case c_read_waking => k_is); (case k_read_waking => k_is); (case a_read_plan => k_is); (case l_read_plan => k_is); (case c_read_plan => k_is); (case k_read_plan => k_is); (case a__law_cell_at => k_is); (case l__law_cell_at => k_is); (case c__law_cell_at => k_is); (case k__law_cell_at => k_is); (case a__law_whole => k_is); (case l__law_whole => k_is); (case c__law_whole => k_is); (case k__law_whole => k_is); (case a__law_waking => k_is); (case l__law_waking => k_is); (case c__law_waking => k_is); (case k__law_waking => k_is); (case a__law_plan => k_is); (case l__law_plan => k_is); (case c__law_plan => k_is); (case k__law_plan => k_is); (case a__law_text => k_is); (case l__law_text => k_is); (case c__law_text => k_is); (case k__law_text => k_is); (case a__law_read => k_is); (case l__law_read => k_is); (case c__law_read => k_is); (case k__law_read => k_is); (case a_law => k_is); (case l_law => k_is); (case c_law => k_is); (case k_law => k_is); (case z_bool => k_is); (case z_int => k_is); (case z_isinstance => k_is); (case z_len => k_is); (case z_list => k_is); (case z_range => k_is); (case z_str => k_is); (case z_tuple => k_is); (case y_FIGURES => k_is); (case y_MOST_FIGURES => k_is); (case y_MOST_WAKINGS => k_is); (case e_NoPlan => k_is); (case e1_NoPlan => k_exc); (case e2_NoPlan => k_is); (case e3_NoPlan => k_is); (case e4_NoPlan => k_is); (case e_NoText => k_is); (case e1_NoText => k_exc); (case e2_NoText => k_is); (case e3_NoText => k_is); (case e4_NoText => k_is)

