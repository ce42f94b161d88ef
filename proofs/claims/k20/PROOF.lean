import PyProof.Rows.All
import Wide.All
import OpenK.AllK
import Wide.FinOn
import HandS.ForMost
import HandS.Zip
import HandS.Wide
import HandS.TupAny
import HandS.IsInst
import HandS.Gcd
import KE.GoesEnum
import HandS.SortKw
import HandS.Iter
import HandS.GenList
import HandS.Ends
import HandS.Defaults
import PySem.Challenge.RW_leaprungs_k20_whole_ways_for_an_aim
section
set_option Elab.async false
set_option linter.all false
set_option maxRecDepth 100000
/-! DL: values as data over the hand layer. -/
namespace DL
open PySem PySem.Spec PyProof.Rows L2

/-! ### data -/
inductive D where
  | non | bl (b : Bool) | int (i : Int) | str (x : Str) | cls (a : Addr) | ty (n : String)
  | tup (ds : List D) | lst (ds : List D) | ins (C : Addr) (fs : List (Str × D))
  | dK (kvs : List (Key × D)) | dT (kvs : List (List Key × D))

/-- a tuple, a list that is read: tracked and nobody's own, or the module's -/
def TupAt (K : PySem.W.Frag) (O : Addr → Prop) (H : Hp) (a : Addr) (xs : List V) : Prop :=
  (Rd H a (.tup xs) ∧ ¬ O a) ∨ (∃ (o : Obj) (its : Array Value) (n : Nat), K.lookup a = some o ∧ o.cls = .type "tuple" ∧ o.data = .seq its n ∧ its.size ≤ sizeLine ∧ Vals xs its.toList)
def LstAt (K : PySem.W.Frag) (O : Addr → Prop) (H : Hp) (a : Addr) (xs : List V) : Prop :=
  (Rd H a (.lst xs) ∧ ¬ O a) ∨ (∃ (o : Obj) (its : Array Value) (n : Nat), K.lookup a = some o ∧ o.cls = .type "list" ∧ o.dict = none ∧ o.data = .seq its n ∧ its.size ≤ sizeLine ∧ Vals xs its.toList)
theorem TupAt.sq {K O H a xs} (h : TupAt K O H a xs) : SqT K H a xs := h.elim (fun h => .inl h.1) .inr
theorem LstAt.sq {K O H a xs} (h : LstAt K O H a xs) : SqL K H a xs := h.elim (fun h => .inl h.1) .inr

mutual
def Fz (K : PySem.W.Frag) (O : Addr → Prop) (H : Hp) : V → D → Prop
  | v, .non => v = .non
  | v, .bl b => v = .bl b
  | v, .int i => v = .int i
  | v, .str x => v = .str x
  | v, .cls a => v = .ref a
  | v, .ty n => v = .ty n
  | v, .tup ds => ∃ a vs, v = .ref a ∧ TupAt K O H a vs ∧ FzL K O H vs ds
  | v, .lst ds => ∃ a vs, v = .ref a ∧ LstAt K O H a vs ∧ FzL K O H vs ds
  | v, .ins C fs => ∃ a dx vs, v = .ref a ∧ H a = some (.ins C dx vs) ∧ ¬ O a ∧ FzF K O H vs fs
  | v, .dK kvs => ∃ a vs, v = .ref a ∧ H a = some (.dK vs) ∧ ¬ O a ∧ FzK K O H vs kvs
  | v, .dT kvs => ∃ a vs, v = .ref a ∧ H a = some (.dT vs) ∧ ¬ O a ∧ FzT K O H vs kvs
def FzL (K : PySem.W.Frag) (O : Addr → Prop) (H : Hp) : List V → List D → Prop
  | vs, [] => vs = []
  | vs, d :: ds => ∃ v r, vs = v :: r ∧ Fz K O H v d ∧ FzL K O H r ds
def FzF (K : PySem.W.Frag) (O : Addr → Prop) (H : Hp) : List (Str × V) → List (Str × D) → Prop
  | vs, [] => vs = []
  | vs, (n, d) :: ds => ∃ v r, vs = (n, v) :: r ∧ Fz K O H v d ∧ FzF K O H r ds
def FzK (K : PySem.W.Frag) (O : Addr → Prop) (H : Hp) : List (Key × V) → List (Key × D) → Prop
  | vs, [] => vs = []
  | vs, (n, d) :: ds => ∃ v r, vs = (n, v) :: r ∧ Fz K O H v d ∧ FzK K O H r ds
def FzT (K : PySem.W.Frag) (O : Addr → Prop) (H : Hp) : List (List Key × V) → List (List Key × D) → Prop
  | vs, [] => vs = []
  | vs, (n, d) :: ds => ∃ v r, vs = (n, v) :: r ∧ Fz K O H v d ∧ FzT K O H r ds
end

/-- from (O, H) to (O', H') nothing that data lean on is lost -/
structure Tm (O : Addr → Prop) (H : Hp) (O' : Addr → Prop) (H' : Hp) : Prop where
  get : ∀ a o, H a = some o → ¬ O a → H' a = some o
  own : ∀ a o, H a = some o → ¬ O a → ¬ O' a
theorem Tm.refl {O H} : Tm O H O H := ⟨fun _ _ h _ => h, fun _ _ _ h => h⟩
theorem Tm.trans {O H O1 H1 O2 H2} (a : Tm O H O1 H1) (b : Tm O1 H1 O2 H2) : Tm O H O2 H2 :=
  ⟨fun x o h n => b.get x o (a.get x o h n) (a.own x o h n), fun x o h n => b.own x o (a.get x o h n) (a.own x o h n)⟩
theorem Tm.rd {O H O' H'} (t : Tm O H O' H') {a u} (h : Rd H a u) (n : ¬ O a) : Rd H' a u ∧ ¬ O' a := by
  rcases h with h | ⟨o, h⟩
  · exact ⟨.inl (t.get _ _ h n), t.own _ _ h n⟩
  · exact ⟨.inr ⟨o, t.get _ _ h n⟩, t.own _ _ h n⟩

section
variable {K : PySem.W.Frag} {O O' : Addr → Prop} {H H' : Hp}
mutual
theorem Fz.tm (t : Tm O H O' H') : ∀ {v : V} {d : D}, Fz K O H v d → Fz K O' H' v d
  | v, .non, h | v, .bl _, h | v, .int _, h | v, .str _, h | v, .cls _, h | v, .ty _, h => by
    unfold Fz at h ⊢
    exact h
  | v, .tup ds, h => by
    unfold Fz at h ⊢
    obtain ⟨a, vs, e, h1, h2⟩ := h
    exact ⟨a, vs, e, h1.imp (fun h => t.rd h.1 h.2) (fun h => h), FzL.tm t h2⟩
  | v, .lst ds, h => by
    unfold Fz at h ⊢
    obtain ⟨a, vs, e, h1, h2⟩ := h
    exact ⟨a, vs, e, h1.imp (fun h => t.rd h.1 h.2) (fun h => h), FzL.tm t h2⟩
  | v, .ins C fs, h => by
    unfold Fz at h ⊢
    obtain ⟨a, dx, vs, e, h1, h2, h3⟩ := h
    exact ⟨a, dx, vs, e, t.get _ _ h1 h2, t.own _ _ h1 h2, FzF.tm t h3⟩
  | v, .dK fs, h => by
    unfold Fz at h ⊢
    obtain ⟨a, vs, e, h1, h2, h3⟩ := h
    exact ⟨a, vs, e, t.get _ _ h1 h2, t.own _ _ h1 h2, FzK.tm t h3⟩
  | v, .dT fs, h => by
    unfold Fz at h ⊢
    obtain ⟨a, vs, e, h1, h2, h3⟩ := h
    exact ⟨a, vs, e, t.get _ _ h1 h2, t.own _ _ h1 h2, FzT.tm t h3⟩
theorem FzL.tm (t : Tm O H O' H') : ∀ {vs : List V} {ds : List D}, FzL K O H vs ds → FzL K O' H' vs ds
  | vs, [], h => by
    unfold FzL at h ⊢
    exact h
  | vs, d :: ds, h => by
    unfold FzL at h ⊢
    obtain ⟨v, r, e, h1, h2⟩ := h
    exact ⟨v, r, e, Fz.tm t h1, FzL.tm t h2⟩
theorem FzF.tm (t : Tm O H O' H') : ∀ {vs : List (Str × V)} {ds : List (Str × D)}, FzF K O H vs ds → FzF K O' H' vs ds
  | vs, [], h => by
    unfold FzF at h ⊢
    exact h
  | vs, (n, d) :: ds, h => by
    unfold FzF at h ⊢
    obtain ⟨v, r, e, h1, h2⟩ := h
    exact ⟨v, r, e, Fz.tm t h1, FzF.tm t h2⟩
theorem FzK.tm (t : Tm O H O' H') : ∀ {vs : List (Key × V)} {ds : List (Key × D)}, FzK K O H vs ds → FzK K O' H' vs ds
  | vs, [], h => by
    unfold FzK at h ⊢
    exact h
  | vs, (n, d) :: ds, h => by
    unfold FzK at h ⊢
    obtain ⟨v, r, e, h1, h2⟩ := h
    exact ⟨v, r, e, Fz.tm t h1, FzK.tm t h2⟩
theorem FzT.tm (t : Tm O H O' H') : ∀ {vs : List (List Key × V)} {ds : List (List Key × D)}, FzT K O H vs ds → FzT K O' H' vs ds
  | vs, [], h => by
    unfold FzT at h ⊢
    exact h
  | vs, (n, d) :: ds, h => by
    unfold FzT at h ⊢
    obtain ⟨v, r, e, h1, h2⟩ := h
    exact ⟨v, r, e, Fz.tm t h1, FzT.tm t h2⟩
end
end
end DL
end

section
set_option Elab.async false
set_option linter.all false
set_option maxRecDepth 100000
namespace DL
open PySem PySem.Spec PyProof.Rows L2

abbrev Sg := List (Option V)
/-! ### slots -/
inductive Own where
  | lst (ds : List D) | ins (C : Addr) (fs : List (Str × D)) | dK (kvs : List (Key × D)) | dT (kvs : List (List Key × D))
inductive Slot where
  | un | dat (d : D) | own (u : Own) | io (u : Own)
abbrev Ev := List Slot
def Slot.mu : Slot → Option Own
  | .own u => some u
  | .io u => some u
  | _ => none
def Slot.put : Slot → Own → Slot
  | .io _, u => .io u
  | _, u => .own u
def Own.toD : Own → D
  | .lst ds => .lst ds
  | .ins C fs => .ins C fs
  | .dK kvs => .dK kvs
  | .dT kvs => .dT kvs
def OwnAt (K : PySem.W.Frag) (O : Addr → Prop) (H : Hp) (a : Addr) : Own → Prop
  | .lst ds => ∃ vs, H a = some (.lst vs) ∧ FzL K O H vs ds
  | .ins C fs => ∃ dx vs, H a = some (.ins C dx vs) ∧ FzF K O H vs fs
  | .dK kvs => ∃ vs, H a = some (.dK vs) ∧ FzK K O H vs kvs
  | .dT kvs => ∃ vs, H a = some (.dT vs) ∧ FzT K O H vs kvs

structure Gh where
  K : PySem.W.Frag
  Oc : Addr → Prop
  H_0 : Hp
  ios : Nat → Addr → Prop

structure Rep (G : Gh) (O : Addr → Prop) (H : Hp) (σ : Sg) (ρ : Ev) : Prop where
  len : σ.length = ρ.length
  dat : ∀ (i : Nat) (d : D), ρ[i]? = some (.dat d) → ∃ v, σ[i]? = some (some v) ∧ Fz G.K O H v d
  mu : ∀ (i : Nat) (s : Slot) (u : Own), ρ[i]? = some s → s.mu = some u → ∃ a, σ[i]? = some (some (.ref a)) ∧ O a ∧ OwnAt G.K O H a u
  own : ∀ (i : Nat) (u : Own) (a : Addr), ρ[i]? = some (.own u) → σ[i]? = some (some (.ref a)) → G.H_0 a = none
  io : ∀ (i : Nat) (u : Own) (a : Addr), ρ[i]? = some (.io u) → σ[i]? = some (some (.ref a)) → G.ios i a
  ios : ∀ (i : Nat) (a : Addr), G.ios i a → σ[i]? = some (some (.ref a)) ∧ ∃ u : Own, ρ[i]? = some (.io u)
  inj : ∀ (i j : Nat) (a : Addr) (s s' : Slot) (u u' : Own), ρ[i]? = some s → s.mu = some u → ρ[j]? = some s' → s'.mu = some u' → σ[i]? = some (some (.ref a)) → σ[j]? = some (some (.ref a)) → i = j
  occ : ∀ a : Addr, O a → H a ≠ none
  sup : ∀ a : Addr, G.Oc a → O a
  frm : ∀ (a : Addr) (o : HO), G.H_0 a = some o → (∀ i : Nat, ¬ G.ios i a) → H a = some o
  oc0 : ∀ a : Addr, G.Oc a → G.H_0 a ≠ none
  ioc : ∀ (i : Nat) (a : Addr), G.ios i a → G.Oc a

def MutA (σ : Sg) (ρ : Ev) (a : Addr) : Prop := ∃ (i : Nat) (s : Slot) (u : Own), ρ[i]? = some s ∧ s.mu = some u ∧ σ[i]? = some (some (.ref a))
structure Fm (σ : Sg) (ρ : Ev) (H : Hp) (ρ' : Ev) (H' : Hp) : Prop where
  get : ∀ a o, H a = some o → ¬ MutA σ ρ a → H' a = some o
  shp : ∀ a, MutA σ ρ' a → MutA σ ρ a
theorem Fm.refl {σ ρ H} : Fm σ ρ H ρ H := ⟨fun _ _ h _ => h, fun _ h => h⟩
theorem Fm.same {σ ρ H H'} (s : Same H H') : Fm σ ρ H ρ H' := ⟨fun _ _ h _ => s _ _ h, fun _ h => h⟩
theorem Fm.trans {σ ρ H ρ1 H1 ρ2 H2} (a : Fm σ ρ H ρ1 H1) (b : Fm σ ρ1 H1 ρ2 H2) : Fm σ ρ H ρ2 H2 :=
  ⟨fun x o h n => b.get x o (a.get x o h n) fun z => n (a.shp x z), fun x z => a.shp x (b.shp x z)⟩

theorem tm_same {O H H'} (s : Same H H') : Tm O H O H' := ⟨fun _ _ h _ => s _ _ h, fun _ _ _ n => n⟩
theorem tm_less {O O' : Addr → Prop} {H} (s : ∀ a, O' a → O a) : Tm O H O' H := ⟨fun _ _ h _ => h, fun _ _ _ n z => n (s _ z)⟩
theorem tm_more {O : Addr → Prop} {H H'} {p : Addr} (s : Same H H') (hp : H p = none) : Tm O H (fun a => O a ∨ a = p) H' :=
  ⟨fun _ _ h _ => s _ _ h, fun a o h n z => z.elim n fun e => by subst e; rw [hp] at h; cases h⟩
theorem same_upd {H : Hp} {p : Addr} {o : HO} (hp : H p = none) : Same H (upd H p o) := fun b u h => by
  rw [upd_ne (ne_of_none h hp)]; exact h

theorem OwnAt.tm {K : PySem.W.Frag} {O O' : Addr → Prop} {H H' : Hp} {a : Addr} {u : Own} (t : Tm O H O' H') (g : ∀ o, H a = some o → H' a = some o) (h : OwnAt K O H a u) : OwnAt K O' H' a u := by
  cases u with
  | lst ds => obtain ⟨vs, h1, h2⟩ := h; exact ⟨vs, g _ h1, FzL.tm t h2⟩
  | ins C fs => obtain ⟨dx, vs, h1, h2⟩ := h; exact ⟨dx, vs, g _ h1, FzF.tm t h2⟩
  | dK fs => obtain ⟨vs, h1, h2⟩ := h; exact ⟨vs, g _ h1, FzK.tm t h2⟩
  | dT fs => obtain ⟨vs, h1, h2⟩ := h; exact ⟨vs, g _ h1, FzT.tm t h2⟩
theorem OwnAt.fz {K : PySem.W.Frag} {O : Addr → Prop} {H : Hp} {a : Addr} {u : Own} (h : OwnAt K O H a u) (n : ¬ O a) : Fz K O H (.ref a) u.toD := by
  cases u with
  | lst ds => obtain ⟨vs, h1, h2⟩ := h; unfold Own.toD Fz; exact ⟨a, vs, rfl, .inl ⟨.inl h1, n⟩, h2⟩
  | ins C fs => obtain ⟨dx, vs, h1, h2⟩ := h; unfold Own.toD Fz; exact ⟨a, dx, vs, rfl, h1, n, h2⟩
  | dK fs => obtain ⟨vs, h1, h2⟩ := h; unfold Own.toD Fz; exact ⟨a, vs, rfl, h1, n, h2⟩
  | dT fs => obtain ⟨vs, h1, h2⟩ := h; unfold Own.toD Fz; exact ⟨a, vs, rfl, h1, n, h2⟩
theorem OwnAt.some {K : PySem.W.Frag} {O : Addr → Prop} {H : Hp} {a : Addr} {u : Own} (h : OwnAt K O H a u) : ∃ o, H a = some o := by
  cases u with
  | lst ds => obtain ⟨vs, h1, h2⟩ := h; exact ⟨_, h1⟩
  | ins C fs => obtain ⟨dx, vs, h1, h2⟩ := h; exact ⟨_, h1⟩
  | dK fs => obtain ⟨vs, h1, h2⟩ := h; exact ⟨_, h1⟩
  | dT fs => obtain ⟨vs, h1, h2⟩ := h; exact ⟨_, h1⟩

section
variable {G : Gh} {O : Addr → Prop} {H H' : Hp} {σ : Sg} {ρ ρ' : Ev}
theorem Rep.mutO (R : Rep G O H σ ρ) {a : Addr} (h : MutA σ ρ a) : O a := by
  obtain ⟨i, s, u, h1, h2, h3⟩ := h
  obtain ⟨b, e, ho, _⟩ := R.mu i s u h1 h2
  rw [h3] at e; cases e; exact ho
theorem Rep.tm (R : Rep G O H σ ρ) (f : Fm σ ρ H ρ' H') : Tm O H O H' := ⟨fun a o h n => f.get a o h fun z => n (R.mutO z), fun _ _ _ n => n⟩
theorem Rep.new0 (R : Rep G O H σ ρ) {p : Addr} (hp : H p = none) : G.H_0 p = none := by
  cases q : G.H_0 p with
  | none => rfl
  | some o =>
    exfalso
    by_cases hi : ∃ i, G.ios i p
    · obtain ⟨i, hi⟩ := hi
      exact R.occ p (R.sup p (R.ioc i p hi)) hp
    · have := R.frm p o q fun i z => hi ⟨i, z⟩
      rw [hp] at this; cases this
theorem Rep.same (R : Rep G O H σ ρ) (s : Same H H') : Rep G O H' σ ρ where
  len := R.len
  dat := fun i d h => let ⟨v, e, z⟩ := R.dat i d h; ⟨v, e, Fz.tm (tm_same s) z⟩
  mu := fun i sl u h1 h2 => let ⟨a, e, o, z⟩ := R.mu i sl u h1 h2; ⟨a, e, o, z.tm (tm_same s) fun o h => s _ _ h⟩
  own := R.own
  io := R.io
  ios := R.ios
  inj := R.inj
  occ := fun a h z => by
    cases q : H a with
    | none => exact R.occ a h q
    | some o => rw [s _ _ q] at z; cases z
  sup := R.sup
  frm := fun a o h n => s _ _ (R.frm a o h n)
  oc0 := R.oc0
  ioc := R.ioc
/-- more is owned: an address that is new -/
theorem Rep.more (R : Rep G O H σ ρ) {p : Addr} (hp : H p = none) {o : HO} : Rep G (fun a => O a ∨ a = p) (upd H p o) σ ρ where
  len := R.len
  dat := fun i d h => let ⟨v, e, z⟩ := R.dat i d h; ⟨v, e, Fz.tm (tm_more (same_upd hp) hp) z⟩
  mu := fun i sl u h1 h2 => let ⟨a, e, ho, z⟩ := R.mu i sl u h1 h2; ⟨a, e, .inl ho, z.tm (tm_more (same_upd hp) hp) fun _ h => same_upd hp _ _ h⟩
  own := R.own
  io := R.io
  ios := R.ios
  inj := R.inj
  occ := fun a h z => by
    rcases h with h | h
    · cases q : H a with
      | none => exact R.occ a h q
      | some o => rw [same_upd hp _ _ q] at z; cases z
    · subst h; rw [upd_same] at z; cases z
  sup := fun a h => .inl (R.sup a h)
  frm := fun a o h n => same_upd hp _ _ (R.frm a o h n)
  oc0 := R.oc0
  ioc := R.ioc
/-- less is owned: an address of no slot, new since the entry -/
theorem Rep.less (R : Rep G O H σ ρ) {p : Addr} (hp : G.H_0 p = none) (hm : ¬ MutA σ ρ p) : Rep G (fun a => O a ∧ a ≠ p) H σ ρ where
  len := R.len
  dat := fun i d h => let ⟨v, e, z⟩ := R.dat i d h; ⟨v, e, Fz.tm (tm_less fun _ h => h.1) z⟩
  mu := fun i sl u h1 h2 => let ⟨a, e, ho, z⟩ := R.mu i sl u h1 h2; ⟨a, e, ⟨ho, fun q => hm (by subst q; exact ⟨i, sl, u, h1, h2, e⟩)⟩, z.tm (tm_less fun _ h => h.1) fun _ h => h⟩
  own := R.own
  io := R.io
  ios := R.ios
  inj := R.inj
  occ := fun a h => R.occ a h.1
  sup := fun a h => ⟨R.sup a h, fun e => by subst e; exact R.oc0 a h hp⟩
  frm := R.frm
  oc0 := R.oc0
  ioc := R.ioc
theorem get_set_self {α : Type} {l : List α} {i : Nat} {x y : α} (h : (l.set i x)[i]? = some y) : y = x ∧ i < l.length := by
  by_cases hi : i < l.length
  · rw [List.getElem?_set_self hi] at h; cases h; exact ⟨rfl, hi⟩
  · rw [List.getElem?_eq_none (by simpa using hi)] at h; cases h
/-- a slot that is not anybody's own is stored -/
theorem Rep.set (R : Rep G O H σ ρ) {i : Nat} {v : V} {d : D} {s : Slot} (hi : ρ[i]? = some s) (hs : s.mu = none) (z : Fz G.K O H v d) : Rep G O H (σ.set i (some v)) (ρ.set i (.dat d)) where
  len := by simpa using R.len
  dat := fun j e h => by
    have hl : i < σ.length := by rw [R.len]; exact (List.getElem?_eq_some_iff.mp hi).1
    by_cases hj : j = i
    · subst hj
      obtain ⟨e1, _⟩ := get_set_self h
      cases e1
      exact ⟨v, List.getElem?_set_self hl, z⟩
    · rw [List.getElem?_set_ne (Ne.symm hj)] at h ⊢
      exact R.dat j e h
  mu := fun j sl u h1 h2 => by
    by_cases hj : j = i
    · subst hj
      obtain ⟨e1, _⟩ := get_set_self h1
      subst e1; cases h2
    · rw [List.getElem?_set_ne (Ne.symm hj)] at h1 ⊢
      exact R.mu j sl u h1 h2
  own := fun j u a h1 h2 => by
    by_cases hj : j = i
    · subst hj
      obtain ⟨e1, _⟩ := get_set_self h1
      cases e1
    · rw [List.getElem?_set_ne (Ne.symm hj)] at h1 h2
      exact R.own j u a h1 h2
  io := fun j u a h1 h2 => by
    by_cases hj : j = i
    · subst hj
      obtain ⟨e1, _⟩ := get_set_self h1
      cases e1
    · rw [List.getElem?_set_ne (Ne.symm hj)] at h1 h2
      exact R.io j u a h1 h2
  ios := fun j a h => by
    obtain ⟨h1, u, h2⟩ := R.ios j a h
    have hj : j ≠ i := fun e => by subst e; rw [hi] at h2; cases h2; cases hs
    rw [List.getElem?_set_ne (Ne.symm hj), List.getElem?_set_ne (Ne.symm hj)]
    exact ⟨h1, u, h2⟩
  inj := fun j k a s1 s2 u1 u2 h1 h2 h3 h4 h5 h6 => by
    have hj : j ≠ i := fun e => by subst e; obtain ⟨e1, _⟩ := get_set_self h1; subst e1; cases h2
    have hk : k ≠ i := fun e => by subst e; obtain ⟨e1, _⟩ := get_set_self h3; subst e1; cases h4
    rw [List.getElem?_set_ne (Ne.symm hj)] at h1 h5
    rw [List.getElem?_set_ne (Ne.symm hk)] at h3 h6
    exact R.inj j k a s1 s2 u1 u2 h1 h2 h3 h4 h5 h6
  occ := R.occ
  sup := R.sup
  frm := R.frm
  oc0 := R.oc0
  ioc := R.ioc
/-- forgetting a slot that is not anybody's own -/
theorem Rep.unset (R : Rep G O H σ ρ) {i : Nat} {v : Option V} {s : Slot} (hi : ρ[i]? = some s) (hs : s.mu = none) : Rep G O H (σ.set i v) (ρ.set i .un) where
  len := by simpa using R.len
  dat := fun j e h => by
    by_cases hj : j = i
    · subst hj
      obtain ⟨e1, _⟩ := get_set_self h
      cases e1
    · rw [List.getElem?_set_ne (Ne.symm hj)] at h ⊢
      exact R.dat j e h
  mu := fun j sl u h1 h2 => by
    by_cases hj : j = i
    · subst hj
      obtain ⟨e1, _⟩ := get_set_self h1
      subst e1; cases h2
    · rw [List.getElem?_set_ne (Ne.symm hj)] at h1 ⊢
      exact R.mu j sl u h1 h2
  own := fun j u a h1 h2 => by
    by_cases hj : j = i
    · subst hj
      obtain ⟨e1, _⟩ := get_set_self h1
      cases e1
    · rw [List.getElem?_set_ne (Ne.symm hj)] at h1 h2
      exact R.own j u a h1 h2
  io := fun j u a h1 h2 => by
    by_cases hj : j = i
    · subst hj
      obtain ⟨e1, _⟩ := get_set_self h1
      cases e1
    · rw [List.getElem?_set_ne (Ne.symm hj)] at h1 h2
      exact R.io j u a h1 h2
  ios := fun j a h => by
    obtain ⟨h1, u, h2⟩ := R.ios j a h
    have hj : j ≠ i := fun e => by subst e; rw [hi] at h2; cases h2; cases hs
    rw [List.getElem?_set_ne (Ne.symm hj), List.getElem?_set_ne (Ne.symm hj)]
    exact ⟨h1, u, h2⟩
  inj := fun j k a s1 s2 u1 u2 h1 h2 h3 h4 h5 h6 => by
    have hj : j ≠ i := fun e => by subst e; obtain ⟨e1, _⟩ := get_set_self h1; subst e1; cases h2
    have hk : k ≠ i := fun e => by subst e; obtain ⟨e1, _⟩ := get_set_self h3; subst e1; cases h4
    rw [List.getElem?_set_ne (Ne.symm hj)] at h1 h5
    rw [List.getElem?_set_ne (Ne.symm hk)] at h3 h6
    exact R.inj j k a s1 s2 u1 u2 h1 h2 h3 h4 h5 h6
  occ := R.occ
  sup := R.sup
  frm := R.frm
  oc0 := R.oc0
  ioc := R.ioc
theorem put_mu {s : Slot} {u : Own} : (s.put u).mu = some u := by cases s <;> rfl
/-- what stands at a slot of one's own is changed -/
theorem Rep.write (R : Rep G O H σ ρ) {i : Nat} {a : Addr} {s : Slot} {u u' : Own} {o : HO} (hi : ρ[i]? = some s) (hs : s.mu = some u) (ha : σ[i]? = some (some (.ref a)))
    (new : Tm O H O (upd H a o) → OwnAt G.K O (upd H a o) a u') : Rep G O (upd H a o) σ (ρ.set i (s.put u')) ∧ Fm σ ρ H (ρ.set i (s.put u')) (upd H a o) := by
  obtain ⟨b, e, ho, at_⟩ := R.mu i s u hi hs
  rw [ha] at e; cases e
  have hl : i < ρ.length := (List.getElem?_eq_some_iff.mp hi).1
  have t : Tm O H O (upd H a o) := ⟨fun b q h n => by rw [upd_ne (fun z : b = a => n (by rw [z]; exact ho))]; exact h, fun _ _ _ n => n⟩
  have nw := new t
  refine ⟨⟨by simpa using R.len, fun j d h => ?_, fun j sl w h1 h2 => ?_, fun j w b h1 h2 => ?_, fun j w b h1 h2 => ?_, fun j b h => ?_, fun j k b s1 s2 u1 u2 h1 h2 h3 h4 h5 h6 => ?_, fun b h z => ?_, R.sup, fun b q h n => ?_, R.oc0, R.ioc⟩, ⟨fun b q h n => ?_, fun b ⟨j, sl, w, h1, h2, h3⟩ => ?_⟩⟩
  · by_cases hj : j = i
    · subst hj
      obtain ⟨e1, _⟩ := get_set_self h
      cases s <;> cases e1
    · rw [List.getElem?_set_ne (Ne.symm hj)] at h
      obtain ⟨v, e, z⟩ := R.dat j d h
      exact ⟨v, e, Fz.tm t z⟩
  · by_cases hj : j = i
    · subst hj
      obtain ⟨e1, _⟩ := get_set_self h1
      subst e1
      rw [put_mu] at h2; cases h2
      exact ⟨a, ha, ho, nw⟩
    · rw [List.getElem?_set_ne (Ne.symm hj)] at h1
      obtain ⟨b, e, hb, z⟩ := R.mu j sl w h1 h2
      refine ⟨b, e, hb, z.tm t fun q h => ?_⟩
      rw [upd_ne (fun z : b = a => hj (R.inj j i a sl s w u h1 h2 hi hs (by rw [← z]; exact e) ha))]; exact h
  · by_cases hj : j = i
    · subst hj
      obtain ⟨e1, _⟩ := get_set_self h1
      cases s with
      | own x => exact R.own j x b hi h2
      | io x => cases e1
      | un => cases hs
      | dat d => cases hs
    · rw [List.getElem?_set_ne (Ne.symm hj)] at h1
      exact R.own j w b h1 h2
  · by_cases hj : j = i
    · subst hj
      obtain ⟨e1, _⟩ := get_set_self h1
      cases s with
      | io x => exact R.io j x b hi h2
      | own x => cases e1
      | un => cases hs
      | dat d => cases hs
    · rw [List.getElem?_set_ne (Ne.symm hj)] at h1
      exact R.io j w b h1 h2
  · obtain ⟨h1, w, h2⟩ := R.ios j b h
    refine ⟨h1, ?_⟩
    by_cases hj : j = i
    · subst hj
      rw [hi] at h2; cases h2
      exact ⟨u', List.getElem?_set_self hl⟩
    · rw [List.getElem?_set_ne (Ne.symm hj)]
      exact ⟨w, h2⟩
  · have g : ∀ (j : Nat) (s1 : Slot) (u1 : Own), (ρ.set i (s.put u'))[j]? = some s1 → s1.mu = some u1 → ∃ (s2 : Slot) (u2 : Own), ρ[j]? = some s2 ∧ s2.mu = some u2 := fun j s1 u1 h1 h2 => by
      by_cases hj : j = i
      · subst hj; exact ⟨s, u, hi, hs⟩
      · rw [List.getElem?_set_ne (Ne.symm hj)] at h1; exact ⟨s1, u1, h1, h2⟩
    obtain ⟨s1', u1', p1, p2⟩ := g j s1 u1 h1 h2
    obtain ⟨s2', u2', p3, p4⟩ := g k s2 u2 h3 h4
    exact R.inj j k b s1' s2' u1' u2' p1 p2 p3 p4 h5 h6
  · by_cases hb : b = a
    · subst hb; rw [upd_same] at z; cases z
    · rw [upd_ne hb] at z; exact R.occ b h z
  · have hb : b ≠ a := fun z => by
      subst z
      cases s with
      | own x => rw [R.own i x b hi ha] at h; cases h
      | io x => exact n i (R.io i x b hi ha)
      | un => cases hs
      | dat d => cases hs
    rw [upd_ne hb]; exact R.frm b q h n
  · rw [upd_ne (fun z : b = a => n ⟨i, s, u, hi, hs, by rw [z]; exact ha⟩)]; exact h
  · by_cases hj : j = i
    · subst hj; exact ⟨j, s, u, hi, hs, h3⟩
    · rw [List.getElem?_set_ne (Ne.symm hj)] at h1; exact ⟨j, sl, w, h1, h2, h3⟩
/-- a new object becomes a slot's own -/
theorem Rep.newOwn (R : Rep G O H σ ρ) {i : Nat} {p : Addr} {s : Slot} {u : Own} (hO : O p) (h0 : G.H_0 p = none) (hm : ¬ MutA σ ρ p) (hi : ρ[i]? = some s) (hs : s.mu = none) (z : OwnAt G.K O H p u) :
    Rep G O H (σ.set i (some (.ref p))) (ρ.set i (.own u)) := by
  have hl : i < ρ.length := (List.getElem?_eq_some_iff.mp hi).1
  have hl' : i < σ.length := by rw [R.len]; exact hl
  refine ⟨by simpa using R.len, fun j d h => ?_, fun j sl w h1 h2 => ?_, fun j w b h1 h2 => ?_, fun j w b h1 h2 => ?_, fun j b h => ?_, fun j k b s1 s2 u1 u2 h1 h2 h3 h4 h5 h6 => ?_, R.occ, R.sup, R.frm, R.oc0, R.ioc⟩
  · by_cases hj : j = i
    · subst hj
      obtain ⟨e1, _⟩ := get_set_self h
      cases e1
    · rw [List.getElem?_set_ne (Ne.symm hj)] at h ⊢
      exact R.dat j d h
  · by_cases hj : j = i
    · subst hj
      obtain ⟨e1, _⟩ := get_set_self h1
      subst e1; cases h2
      exact ⟨p, List.getElem?_set_self hl', hO, z⟩
    · rw [List.getElem?_set_ne (Ne.symm hj)] at h1 ⊢
      exact R.mu j sl w h1 h2
  · by_cases hj : j = i
    · subst hj
      obtain ⟨e2, _⟩ := get_set_self h2
      cases e2; exact h0
    · rw [List.getElem?_set_ne (Ne.symm hj)] at h1 h2
      exact R.own j w b h1 h2
  · by_cases hj : j = i
    · subst hj
      obtain ⟨e1, _⟩ := get_set_self h1
      cases e1
    · rw [List.getElem?_set_ne (Ne.symm hj)] at h1 h2
      exact R.io j w b h1 h2
  · obtain ⟨h1, w, h2⟩ := R.ios j b h
    have hj : j ≠ i := fun e => by subst e; rw [hi] at h2; cases h2; cases hs
    rw [List.getElem?_set_ne (Ne.symm hj), List.getElem?_set_ne (Ne.symm hj)]
    exact ⟨h1, w, h2⟩
  · by_cases hj : j = i
    · by_cases hk : k = i
      · rw [hj, hk]
      · exfalso
        subst hj
        obtain ⟨e1, _⟩ := get_set_self h5
        cases e1
        rw [List.getElem?_set_ne (Ne.symm hk)] at h3 h6
        exact hm ⟨k, s2, u2, h3, h4, h6⟩
    · rw [List.getElem?_set_ne (Ne.symm hj)] at h1 h5
      by_cases hk : k = i
      · exfalso
        subst hk
        obtain ⟨e1, _⟩ := get_set_self h6
        cases e1
        exact hm ⟨j, s1, u1, h1, h2, h5⟩
      · rw [List.getElem?_set_ne (Ne.symm hk)] at h3 h6
        exact R.inj j k b s1 s2 u1 u2 h1 h2 h3 h4 h5 h6
/-- a slot's own is given away: it is data from now on -/
theorem Rep.freeze (R : Rep G O H σ ρ) {i : Nat} {u : Own} (hi : ρ[i]? = some (.own u)) : ∃ O' : Addr → Prop, (∀ a : Addr, O' a → O a) ∧ Rep G O' H σ (ρ.set i (.dat u.toD)) := by
  obtain ⟨a, ha, ho, z⟩ := R.mu i _ u hi rfl
  have hl : i < ρ.length := (List.getElem?_eq_some_iff.mp hi).1
  have t : Tm O H (fun b => O b ∧ b ≠ a) H := tm_less fun _ h => h.1
  refine ⟨fun b => O b ∧ b ≠ a, fun _ h => h.1, ⟨by simpa using R.len, fun j d h => ?_, fun j sl w h1 h2 => ?_, fun j w b h1 h2 => ?_, fun j w b h1 h2 => ?_, fun j b h => ?_, fun j k b s1 s2 u1 u2 h1 h2 h3 h4 h5 h6 => ?_, fun b h => R.occ b h.1, fun b h => ⟨R.sup b h, fun e => ?_⟩, R.frm, R.oc0, R.ioc⟩⟩
  · by_cases hj : j = i
    · subst hj
      obtain ⟨e1, _⟩ := get_set_self h
      cases e1
      exact ⟨.ref a, ha, OwnAt.fz (z.tm t fun _ h => h) fun q => q.2 rfl⟩
    · rw [List.getElem?_set_ne (Ne.symm hj)] at h
      obtain ⟨v, e, y⟩ := R.dat j d h
      exact ⟨v, e, Fz.tm t y⟩
  · by_cases hj : j = i
    · subst hj
      obtain ⟨e1, _⟩ := get_set_self h1
      subst e1; cases h2
    · rw [List.getElem?_set_ne (Ne.symm hj)] at h1
      obtain ⟨b, e, hb, y⟩ := R.mu j sl w h1 h2
      exact ⟨b, e, ⟨hb, fun q => hj (R.inj j i a sl _ w u h1 h2 hi rfl (q ▸ e) ha)⟩, y.tm t fun _ h => h⟩
  · by_cases hj : j = i
    · subst hj
      obtain ⟨e1, _⟩ := get_set_self h1
      cases e1
    · rw [List.getElem?_set_ne (Ne.symm hj)] at h1
      exact R.own j w b h1 h2
  · by_cases hj : j = i
    · subst hj
      obtain ⟨e1, _⟩ := get_set_self h1
      cases e1
    · rw [List.getElem?_set_ne (Ne.symm hj)] at h1
      exact R.io j w b h1 h2
  · obtain ⟨h1, w, h2⟩ := R.ios j b h
    have hj : j ≠ i := fun e => by subst e; rw [hi] at h2; cases h2
    rw [List.getElem?_set_ne (Ne.symm hj)]
    exact ⟨h1, w, h2⟩
  · have hj : j ≠ i := fun e => by subst e; obtain ⟨e1, _⟩ := get_set_self h1; subst e1; cases h2
    have hk : k ≠ i := fun e => by subst e; obtain ⟨e1, _⟩ := get_set_self h3; subst e1; cases h4
    rw [List.getElem?_set_ne (Ne.symm hj)] at h1
    rw [List.getElem?_set_ne (Ne.symm hk)] at h3
    exact R.inj j k b s1 s2 u1 u2 h1 h2 h3 h4 h5 h6
  · subst e
    exact R.oc0 b h (R.own i u b hi ha)
end
end DL
end

section
set_option Elab.async false
set_option linter.all false
set_option maxRecDepth 100000
namespace DL
open PySem PySem.Spec PyProof.Rows L2

theorem Rep.congr {G : Gh} {O O' : Addr → Prop} {H : Hp} {σ : Sg} {ρ : Ev} (R : Rep G O H σ ρ) (h : ∀ a, O a ↔ O' a) : Rep G O' H σ ρ := by
  have e : O = O' := funext fun a => propext (h a)
  subst e; exact R
theorem fz_congr {K : PySem.W.Frag} {O O' : Addr → Prop} {H : Hp} {v : V} {d : D} (R : Fz K O H v d) (h : ∀ a, O a ↔ O' a) : Fz K O' H v d := by
  have e : O = O' := funext fun a => propext (h a)
  subst e; exact R

/-! ### what a code does, as a function of data -/
abbrev FE := Ev → Option (D × Ev)
abbrev FT := Ev → Option (Bool × Ev)
abbrev FA := Ev → Option (List D × Ev)
abbrev FO := Ev → Option (Own × Ev)
inductive Fl where | nx | bk | ct | rt (d : D)
abbrev FS := Ev → Option (Fl × Ev)

structure DE (X : Cx) (e : Expr) (te : TE) (f : FE) : Prop where
  p : PE X e te
  q : ∀ (G : Gh) (O : Addr → Prop) (H : Hp) (σ : Sg) (ρ ρ' : Ev) (d : D) (Q : VK), G.K = X.K → Rep G O H σ ρ → f ρ = some (d, ρ') →
    (∀ v H', Rep G O H' σ ρ' → Fm σ ρ H ρ' H' → Fz X.K O H' v d → Q v H') → te σ H Q
structure DT (X : Cx) (e : Expr) (t : TT) (f : FT) : Prop where
  p : PT X e t
  q : ∀ (G : Gh) (O : Addr → Prop) (H : Hp) (σ : Sg) (ρ ρ' : Ev) (b : Bool) (Q : Bool → Hp → Prop), G.K = X.K → Rep G O H σ ρ → f ρ = some (b, ρ') →
    (∀ H', Rep G O H' σ ρ' → Fm σ ρ H ρ' H' → Q b H') → t σ H Q
structure DW (X : Cx) (e : Expr) (t : TT) (f : FT) : Prop where
  p : PW X e t
  q : ∀ (G : Gh) (O : Addr → Prop) (H : Hp) (σ : Sg) (ρ ρ' : Ev) (b : Bool) (Q : Bool → Hp → Prop), G.K = X.K → Rep G O H σ ρ → f ρ = some (b, ρ') →
    (∀ H', Rep G O H' σ ρ' → Fm σ ρ H ρ' H' → Q b H') → t σ H Q
structure DA (X : Cx) (es : List Expr) (t : TA) (f : FA) : Prop where
  p : PA X es t
  q : ∀ (G : Gh) (O : Addr → Prop) (H : Hp) (σ : Sg) (ρ ρ' : Ev) (ds : List D) (Q : List V → Hp → Prop), G.K = X.K → Rep G O H σ ρ → f ρ = some (ds, ρ') →
    (∀ vs H', Rep G O H' σ ρ' → Fm σ ρ H ρ' H' → FzL X.K O H' vs ds → Q vs H') → t σ H Q
/-- a new object that nobody else holds -/
structure DN (X : Cx) (e : Expr) (te : TE) (f : FO) : Prop where
  p : PE X e te
  q : ∀ (G : Gh) (O : Addr → Prop) (H : Hp) (σ : Sg) (ρ ρ' : Ev) (u : Own) (Q : VK), G.K = X.K → Rep G O H σ ρ → f ρ = some (u, ρ') →
    (∀ p H', H p = none → Rep G (fun a => O a ∨ a = p) H' σ ρ' → Fm σ ρ H ρ' H' → OwnAt X.K (fun a => O a ∨ a = p) H' p u → Q (.ref p) H') → te σ H Q
def PostF (K : PySem.W.Frag) (Dn : Ends) : Fl → (Addr → Prop) → Hp → Sg → Prop
  | .nx, _, H, σ => Dn.nx σ H
  | .bk, _, H, σ => Dn.bk σ H
  | .ct, _, H, σ => Dn.ct σ H
  | .rt d, O, H, _ => ∀ v, Fz K O H v d → Dn.rt v H
structure DS (X : Cx) (st : Stmt) (t : TS) (F : FS) : Prop where
  p : PS X st t
  q : ∀ (G : Gh) (O : Addr → Prop) (H : Hp) (σ : Sg) (ρ ρ' : Ev) (fl : Fl) (Dn : Ends), G.K = X.K → Rep G O H σ ρ → F ρ = some (fl, ρ') →
    (∀ O' H' σ', Rep G O' H' σ' ρ' → Tm O H O' H' → PostF X.K Dn fl O' H' σ') → t Dn σ H
structure DSs (X : Cx) (sts : List Stmt) (t : TS) (F : FS) : Prop where
  p : PSs X sts t
  q : ∀ (G : Gh) (O : Addr → Prop) (H : Hp) (σ : Sg) (ρ ρ' : Ev) (fl : Fl) (Dn : Ends), G.K = X.K → Rep G O H σ ρ → F ρ = some (fl, ρ') →
    (∀ O' H' σ', Rep G O' H' σ' ρ' → Tm O H O' H' → PostF X.K Dn fl O' H' σ') → t Dn σ H

section
variable {X : Cx} {e a b c : Expr} {es : List Expr} {pos : Pos} {f fa fb fc : FE} {ta tb tc : TE} {tt tt2 : TT} {tx : TA}

/-! ### names and constants -/
def fVar (i : Nat) : FE := fun ρ => match ρ[i]? with
  | some (.dat d) => some (d, ρ)
  | _ => none
def fC (d : D) : FE := fun ρ => some (d, ρ)
theorem de_var (i : Nat) {x : Str} (hN : X.N[i]? = some x := by rfl) (hv : Vis X.env.scope x := by first | exact Or.inl rfl | exact Or.inr (Or.inl rfl) | exact Or.inr (Or.inr rfl)) (hd : (x == ("__debug__" : Str)) = false := by decide)
    (hcd : (x == ("__classdict__" : Str)) = false := by decide) : DE X (.Name x pos) (tVar i) (fVar i) := by
  refine ⟨pe_var hN hv hd hcd, fun G O H σ ρ ρ' d Q hK R h k => ?_⟩
  unfold fVar at h
  split at h
  · rename_i d' e
    cases h
    obtain ⟨v, e1, z⟩ := R.dat i _ e
    exact ⟨v, e1, k v H R Fm.refl (hK ▸ z)⟩
  · cases h
theorem de_con {v : V} {d : D} (h : PE X e (tC v)) (z : ∀ O H, Fz X.K O H v d) : DE X e (tC v) (fC d) := by
  refine ⟨h, fun G O H σ ρ ρ' d' Q hK R h k => ?_⟩
  cases h
  exact k v H R Fm.refl (z O H)
theorem de_int {i j} : DE X (.Constant (.int i) j pos) (tC (.int i)) (fC (.int i)) := de_con pe_int fun _ _ => by unfold Fz; rfl
theorem de_bl {i j} : DE X (.Constant (.bool i) j pos) (tC (.bl i)) (fC (.bl i)) := de_con pe_bl fun _ _ => by unfold Fz; rfl
theorem de_non {j} : DE X (.Constant .none j pos) (tC .non) (fC .non) := de_con pe_non fun _ _ => by unfold Fz; rfl
theorem de_str {x j} : DE X (.Constant (.str x) j pos) (tC (.str x)) (fC (.str x)) := de_con pe_str fun _ _ => by unfold Fz; rfl

/-! ### operations by values -/
def Occ (O : Addr → Prop) (H : Hp) : Prop := ∀ a, O a → H a ≠ none
def R2D (K : PySem.W.Frag) (r : R2) (g : D → D → Option D) : Prop := ∀ (O : Addr → Prop) (H : Hp) (x y : V) (d1 d2 d : D) (Q : VK), Occ O H → Fz K O H x d1 → Fz K O H y d2 → g d1 d2 = some d →
  (∀ v H', Same H H' → Fz K O H' v d → Q v H') → r x y H Q
def R1D (K : PySem.W.Frag) (r : V → Hp → VK → Prop) (g : D → Option D) : Prop := ∀ (O : Addr → Prop) (H : Hp) (x : V) (d1 d : D) (Q : VK), Occ O H → Fz K O H x d1 → g d1 = some d →
  (∀ v H', Same H H' → Fz K O H' v d → Q v H') → r x H Q
def RnD (K : PySem.W.Frag) (r : List V → Hp → VK → Prop) (g : List D → Option D) : Prop := ∀ (O : Addr → Prop) (H : Hp) (vs : List V) (ds : List D) (d : D) (Q : VK), Occ O H → FzL K O H vs ds → g ds = some d →
  (∀ v H', Same H H' → Fz K O H' v d → Q v H') → r vs H Q
def fBin (g : D → D → Option D) (fa fb : FE) : FE := fun ρ => (fa ρ).bind fun x => (fb x.2).bind fun y => (g x.1 y.1).bind fun d => some (d, y.2)
def fUn (g : D → Option D) (fa : FE) : FE := fun ρ => (fa ρ).bind fun x => (g x.1).bind fun d => some (d, x.2)
def fN (g : List D → Option D) (fa : FA) : FE := fun ρ => (fa ρ).bind fun x => (g x.1).bind fun d => some (d, x.2)

theorem fBin_ok {g : D → D → Option D} {fa fb : FE} {ρ ρ' : Ev} {d : D} (h : fBin g fa fb ρ = some (d, ρ')) : ∃ x ρ1 y, fa ρ = some (x, ρ1) ∧ fb ρ1 = some (y, ρ') ∧ g x y = some d := by
  unfold fBin at h
  cases h1 : fa ρ with
  | none => rw [h1] at h; cases h
  | some p =>
    obtain ⟨x, ρ1⟩ := p
    rw [h1] at h
    simp only [Option.bind_some] at h
    cases h2 : fb ρ1 with
    | none => rw [h2] at h; cases h
    | some q =>
      obtain ⟨y, ρ2⟩ := q
      rw [h2] at h
      simp only [Option.bind_some] at h
      cases h3 : g x y with
      | none => rw [h3] at h; cases h
      | some z => rw [h3] at h; cases h; exact ⟨x, ρ1, y, rfl, h2, h3⟩
theorem bind_ok {α β : Type} {o : Option α} {f : α → Option β} {z : β} (h : o.bind f = some z) : ∃ x, o = some x ∧ f x = some z := by
  cases o with
  | none => cases h
  | some x => exact ⟨x, rfl, h⟩

/-- two expressions in a row, the operation's reading r -/
theorem two_ok {K : PySem.W.Frag} {r : R2} {g : D → D → Option D} (hK : K = X.K) (rr : R2D K r g)
    (ha : ∀ (G : Gh) (O : Addr → Prop) (H : Hp) (σ : Sg) (ρ ρ' : Ev) (d : D) (Q : VK), G.K = X.K → Rep G O H σ ρ → fa ρ = some (d, ρ') → (∀ v H', Rep G O H' σ ρ' → Fm σ ρ H ρ' H' → Fz X.K O H' v d → Q v H') → ta σ H Q)
    (hb : ∀ (G : Gh) (O : Addr → Prop) (H : Hp) (σ : Sg) (ρ ρ' : Ev) (d : D) (Q : VK), G.K = X.K → Rep G O H σ ρ → fb ρ = some (d, ρ') → (∀ v H', Rep G O H' σ ρ' → Fm σ ρ H ρ' H' → Fz X.K O H' v d → Q v H') → tb σ H Q)
    {G : Gh} {O : Addr → Prop} {H : Hp} {σ : Sg} {ρ ρ' : Ev} {d : D} {Q : VK} (hG : G.K = X.K) (R : Rep G O H σ ρ) (h : fBin g fa fb ρ = some (d, ρ')) (k : ∀ v H', Rep G O H' σ ρ' → Fm σ ρ H ρ' H' → Fz X.K O H' v d → Q v H') :
    tOp r ta tb σ H Q := by
  obtain ⟨x, ρ1, y, h1, h2, h3⟩ := fBin_ok h
  refine ha G O H σ ρ ρ1 x _ hG R h1 fun v H1 R1 m1 z1 => ?_
  refine hb G O H1 σ ρ1 ρ' y _ hG R1 h2 fun w H2 R2 m2 z2 => ?_
  subst hK
  refine rr O H2 v w x y d _ R2.occ (Fz.tm (R1.tm m2) z1) z2 h3 fun u H3 s z => ?_
  exact k u H3 (R2.same s) ((m1.trans m2).trans (Fm.same s)) z
theorem de_bin {op : Operator} {r : R2} {g : D → D → Option D} (ho : OpR X (binaryOp op) r) (rr : R2D X.K r g) (ha : DE X a ta fa) (hb : DE X b tb fb) : DE X (.BinOp a op b pos) (tOp r ta tb) (fBin g fa fb) := by
  obtain ⟨pa, qa⟩ := ha
  obtain ⟨pb, qb⟩ := hb
  exact ⟨pe_op ho pa pb, fun G O H σ ρ ρ' d Q hK R h k => two_ok rfl rr qa qb hK R h k⟩
theorem de_ix {r : R2} {g : D → D → Option D} (ho : IxR X r) (rr : R2D X.K r g) (ha : DE X a ta fa) (hb : DE X b tb fb) (hs : PlainIx b) : DE X (.Subscript a b pos) (tOp r ta tb) (fBin g fa fb) := by
  obtain ⟨pa, qa⟩ := ha
  obtain ⟨pb, qb⟩ := hb
  exact ⟨pe_ix ho pa pb hs, fun G O H σ ρ ρ' d Q hK R h k => two_ok rfl rr qa qb hK R h k⟩
theorem de_cmp {op : CmpOp} {r : R2} {g : D → D → Option D} (ho : OpR X (compareOp op) r) (rr : R2D X.K r g) (ha : DE X a ta fa) (hb : DE X b tb fb) (hm : behindInMarks op b = false) : DE X (.Compare a [op] [b] pos) (tOp r ta tb) (fBin g fa fb) := by
  obtain ⟨pa, qa⟩ := ha
  obtain ⟨pb, qb⟩ := hb
  exact ⟨pe_cmpR ho pa pb hm, fun G O H σ ρ ρ' d Q hK R h k => two_ok rfl rr qa qb hK R h k⟩
theorem de_un {op : UnaryOp} {r : V → Hp → VK → Prop} {g : D → Option D} (ho : UnR X (unaryOp op) r) (rr : R1D X.K r g) (ha : DE X a ta fa) : DE X (.UnaryOp op a pos) (tUn r ta) (fUn g fa) := by
  obtain ⟨pa, qa⟩ := ha
  refine ⟨pe_un ho pa, fun G O H σ ρ ρ' d Q hK R h k => ?_⟩
  obtain ⟨⟨x, ρ1⟩, h1, h⟩ := bind_ok h
  obtain ⟨y, h2, h⟩ := bind_ok h
  cases h
  refine qa G O H σ ρ _ x _ hK R h1 fun v H1 R1 m1 z1 => ?_
  exact rr O H1 v x _ _ R1.occ z1 h2 fun u H3 s z => k u H3 (R1.same s) (m1.trans (Fm.same s)) z

/-! ### tests -/
def fTB (f : FE) : FT := fun ρ => match f ρ with
  | some (.bl b, ρ') => some (b, ρ')
  | _ => none
theorem fTB_ok {f : FE} {ρ ρ' : Ev} {b : Bool} (h : fTB f ρ = some (b, ρ')) : f ρ = some (.bl b, ρ') := by
  unfold fTB at h
  split at h
  · rename_i e; cases h; exact e
  · cases h
theorem dt_cmp {op : CmpOp} {r : R2} {g : D → D → Option D} (ho : OpR X (compareOp op) r) (rr : R2D X.K r g) (ha : DE X a ta fa) (hb : DE X b tb fb) (hm : behindInMarks op b = false) : DT X (.Compare a [op] [b] pos) (tTest (tOp r ta tb)) (fTB (fBin g fa fb)) := by
  obtain ⟨pa, qa⟩ := ha
  obtain ⟨pb, qb⟩ := hb
  refine ⟨pt_cmpR ho pa pb hm, fun G O H σ ρ ρ' d Q hK R h k => ?_⟩
  refine two_ok rfl rr qa qb hK R (fTB_ok h) fun v H' R' m z => ?_
  unfold Fz at z
  exact ⟨d, z, k H' R' m⟩
theorem dt_val (h : DE X e ta f) (he : ∀ whole, isTrue e X.env whole = (do let v ← whole; standAt e.pos; holding [v] (truthy v)) := by intro _; rfl) : DT X e (tB ta) (fTB f) := by
  obtain ⟨pa, qa⟩ := h
  refine ⟨pt_val pa he, fun G O H σ ρ ρ' d Q hK R h k => ?_⟩
  refine qa G O H σ ρ ρ' _ _ hK R (fTB_ok h) fun v H' R' m z => ?_
  unfold Fz at z
  exact ⟨d, z, k H' R' m⟩
theorem dt_w {f : FT} (h : DW X e tt f) : DT X e tt f := ⟨h.p.pt, h.q⟩
def fAnd (f g : FT) : FT := fun ρ => (f ρ).bind fun x => if x.1 = true then g x.2 else some (false, x.2)
def fOr (f g : FT) : FT := fun ρ => (f ρ).bind fun x => if x.1 = true then some (true, x.2) else g x.2
def fNot (f : FT) : FT := fun ρ => (f ρ).bind fun x => some (!x.1, x.2)
theorem dw_and1 {f : FT} (h : DT X a tt f) : DW X (.BoolOp .And [a] pos) tt f := ⟨pw_and1 h.p, h.q⟩
theorem dw_or1 {f : FT} (h : DT X a tt f) : DW X (.BoolOp .Or [a] pos) tt f := ⟨pw_or1 h.p, h.q⟩
theorem dw_and {f g : FT} {rest : List Expr} (h : DT X a tt f) (h2 : DW X (.BoolOp .And (b :: rest) pos) tt2 g) : DW X (.BoolOp .And (a :: b :: rest) pos) (tAnd tt tt2) (fAnd f g) := by
  obtain ⟨p, q⟩ := h
  obtain ⟨p2, q2⟩ := h2
  refine ⟨pw_and p p2, fun G O H σ ρ ρ' d Q hK R h k => ?_⟩
  obtain ⟨⟨x, ρ1⟩, h1, h⟩ := bind_ok h
  refine q G O H σ ρ ρ1 x _ hK R h1 fun H1 R1 m1 => ?_
  cases x with
  | true =>
    rw [if_pos rfl]
    exact q2 G O H1 σ ρ1 ρ' d _ hK R1 h fun H2 R2 m2 => k H2 R2 (m1.trans m2)
  | false =>
    cases h
    rw [if_neg Bool.false_ne_true]
    exact k H1 R1 m1
theorem dw_or {f g : FT} {rest : List Expr} (h : DT X a tt f) (h2 : DW X (.BoolOp .Or (b :: rest) pos) tt2 g) : DW X (.BoolOp .Or (a :: b :: rest) pos) (tOr tt tt2) (fOr f g) := by
  obtain ⟨p, q⟩ := h
  obtain ⟨p2, q2⟩ := h2
  refine ⟨pw_or p p2, fun G O H σ ρ ρ' d Q hK R h k => ?_⟩
  obtain ⟨⟨x, ρ1⟩, h1, h⟩ := bind_ok h
  refine q G O H σ ρ ρ1 x _ hK R h1 fun H1 R1 m1 => ?_
  cases x with
  | true =>
    cases h
    rw [if_pos rfl]
    exact k H1 R1 m1
  | false =>
    rw [if_neg Bool.false_ne_true]
    exact q2 G O H1 σ ρ1 ρ' d _ hK R1 h fun H2 R2 m2 => k H2 R2 (m1.trans m2)
theorem dt_not {f : FT} (h : DT X a tt f) : DT X (.UnaryOp .Not a pos) (tNot tt) (fNot f) := by
  obtain ⟨p, q⟩ := h
  refine ⟨pt_not p, fun G O H σ ρ ρ' d Q hK R h k => ?_⟩
  obtain ⟨⟨x, ρ1⟩, h1, h⟩ := bind_ok h
  cases h
  exact q G O H σ ρ _ x _ hK R h1 fun H1 R1 m1 => k H1 R1 m1
/-- and, or, not as values of bools -/
def fAndV (f g : FE) : FE := fun ρ => (fTB f ρ).bind fun x => if x.1 = true then g x.2 else some (.bl false, x.2)
def fOrV (f g : FE) : FE := fun ρ => (fTB f ρ).bind fun x => if x.1 = true then some (.bl true, x.2) else g x.2
def fNotV (f : FE) : FE := fun ρ => (fTB f ρ).bind fun x => some (.bl (!x.1), x.2)
theorem de_one {op} {f : FE} (h : DE X a ta f) : DE X (.BoolOp op [a] pos) ta f := ⟨pe_one h.p, h.q⟩
theorem de_and {f g : FE} {rest : List Expr} (h : DE X a ta f) (h2 : DE X (.BoolOp .And (b :: rest) pos) tb g) : DE X (.BoolOp .And (a :: b :: rest) pos) (tAndV ta tb) (fAndV f g) := by
  obtain ⟨p, q⟩ := h
  obtain ⟨p2, q2⟩ := h2
  refine ⟨pe_and p p2, fun G O H σ ρ ρ' d Q hK R h k => ?_⟩
  obtain ⟨⟨x, ρ1⟩, h1, h⟩ := bind_ok h
  refine q G O H σ ρ ρ1 _ _ hK R (fTB_ok h1) fun v H1 R1 m1 z => ?_
  unfold Fz at z
  refine ⟨x, z, ?_⟩
  cases x with
  | true =>
    rw [if_pos rfl]
    exact q2 G O H1 σ ρ1 ρ' d _ hK R1 h fun v H2 R2 m2 z => k v H2 R2 (m1.trans m2) z
  | false =>
    cases h
    rw [if_neg Bool.false_ne_true]
    exact k _ H1 R1 m1 (by unfold Fz; rfl)
theorem de_or {f g : FE} {rest : List Expr} (h : DE X a ta f) (h2 : DE X (.BoolOp .Or (b :: rest) pos) tb g) : DE X (.BoolOp .Or (a :: b :: rest) pos) (tOrV ta tb) (fOrV f g) := by
  obtain ⟨p, q⟩ := h
  obtain ⟨p2, q2⟩ := h2
  refine ⟨pe_or p p2, fun G O H σ ρ ρ' d Q hK R h k => ?_⟩
  obtain ⟨⟨x, ρ1⟩, h1, h⟩ := bind_ok h
  refine q G O H σ ρ ρ1 _ _ hK R (fTB_ok h1) fun v H1 R1 m1 z => ?_
  unfold Fz at z
  refine ⟨x, z, ?_⟩
  cases x with
  | true =>
    cases h
    rw [if_pos rfl]
    exact k _ H1 R1 m1 (by unfold Fz; rfl)
  | false =>
    rw [if_neg Bool.false_ne_true]
    exact q2 G O H1 σ ρ1 ρ' d _ hK R1 h fun v H2 R2 m2 z => k v H2 R2 (m1.trans m2) z
theorem de_not {f : FE} (h : DE X a ta f) : DE X (.UnaryOp .Not a pos) (tNotV ta) (fNotV f) := by
  obtain ⟨p, q⟩ := h
  refine ⟨pe_not p, fun G O H σ ρ ρ' d Q hK R h k => ?_⟩
  obtain ⟨⟨x, ρ1⟩, h1, h⟩ := bind_ok h
  cases h
  refine q G O H σ ρ _ _ _ hK R (fTB_ok h1) fun v H1 R1 m1 z => ?_
  unfold Fz at z
  exact ⟨x, z, k _ H1 R1 m1 (by unfold Fz; rfl)⟩
def fIf (f : FT) (g h : FE) : FE := fun ρ => (f ρ).bind fun x => if x.1 = true then g x.2 else h x.2
theorem de_if {f : FT} {g g' : FE} (h : DT X c tt f) (ha : DE X a ta g) (hb : DE X b tb g') : DE X (.IfExp c a b pos) (tIf tt ta tb) (fIf f g g') := by
  obtain ⟨p, q⟩ := h
  obtain ⟨pa, qa⟩ := ha
  obtain ⟨pb, qb⟩ := hb
  refine ⟨pe_ifExp p pa pb, fun G O H σ ρ ρ' d Q hK R h k => ?_⟩
  obtain ⟨⟨x, ρ1⟩, h1, h⟩ := bind_ok h
  refine q G O H σ ρ ρ1 x _ hK R h1 fun H1 R1 m1 => ?_
  cases x with
  | true =>
    rw [if_pos rfl]
    exact qa G O H1 σ ρ1 ρ' d _ hK R1 h fun v H2 R2 m2 z => k v H2 R2 (m1.trans m2) z
  | false =>
    rw [if_neg Bool.false_ne_true]
    exact qb G O H1 σ ρ1 ρ' d _ hK R1 h fun v H2 R2 m2 z => k v H2 R2 (m1.trans m2) z

/-! ### arguments, displays, calls of what is built in -/
def fNil : FA := fun ρ => some ([], ρ)
def fCons (f : FE) (g : FA) : FA := fun ρ => (f ρ).bind fun x => (g x.2).bind fun y => some (x.1 :: y.1, y.2)
theorem da_nil : DA X [] tNil fNil := ⟨pa_nil, fun G O H σ ρ ρ' d Q hK R h k => by cases h; exact k [] H R Fm.refl (by unfold FzL; rfl)⟩
theorem da_cons {g : FA} (h : DE X e ta f) (h2 : DA X es tx g) (hs : starEach (e :: es) X.env = (false, eval e X.env) :: starEach es X.env := by rfl) : DA X (e :: es) (tCons ta tx) (fCons f g) := by
  obtain ⟨p, q⟩ := h
  obtain ⟨p2, q2⟩ := h2
  refine ⟨pa_cons p p2 hs, fun G O H σ ρ ρ' d Q hK R h k => ?_⟩
  obtain ⟨⟨x, ρ1⟩, h1, h⟩ := bind_ok h
  obtain ⟨⟨y, ρ2⟩, h2, h⟩ := bind_ok h
  cases h
  refine q G O H σ ρ ρ1 x _ hK R h1 fun v H1 R1 m1 z1 => ?_
  refine q2 G O H1 σ ρ1 _ y _ hK R1 h2 fun vs H2 R2 m2 z2 => ?_
  refine k _ H2 R2 (m1.trans m2) ?_
  unfold FzL
  exact ⟨v, vs, rfl, Fz.tm (R1.tm m2) z1, z2⟩
theorem FzL.len {K : PySem.W.Frag} {O : Addr → Prop} {H : Hp} : ∀ {vs : List V} {ds : List D}, FzL K O H vs ds → vs.length = ds.length
  | vs, [], h => by unfold FzL at h; subst h; rfl
  | vs, d :: ds, h => by
    unfold FzL at h
    obtain ⟨v, r, e, _, h2⟩ := h
    subst e
    simp [FzL.len h2]
theorem FzL.get {K : PySem.W.Frag} {O : Addr → Prop} {H : Hp} : ∀ {vs : List V} {ds : List D} {i : Nat} {d : D}, FzL K O H vs ds → ds[i]? = some d → ∃ v, vs[i]? = some v ∧ Fz K O H v d
  | vs, [], i, d, h, e => by simp at e
  | vs, d :: ds, 0, d', h, e => by
    unfold FzL at h
    obtain ⟨v, r, e1, h1, h2⟩ := h
    subst e1
    have e : d = d' := by simpa using e
    subst e
    exact ⟨v, by simp, h1⟩
  | vs, d :: ds, i + 1, d', h, e => by
    unfold FzL at h
    obtain ⟨v, r, e1, h1, h2⟩ := h
    subst e1
    obtain ⟨w, e2, h3⟩ := FzL.get h2 (i := i) (d := d') (by simpa using e)
    exact ⟨w, by simpa using e2, h3⟩
theorem FzL.app {K : PySem.W.Frag} {O : Addr → Prop} {H : Hp} : ∀ {vs : List V} {ds : List D} {ws : List V} {es : List D}, FzL K O H vs ds → FzL K O H ws es → FzL K O H (vs ++ ws) (ds ++ es)
  | vs, [], ws, es, h, h' => by
    unfold FzL at h; subst h; exact h'
  | vs, d :: ds, ws, es, h, h' => by
    unfold FzL at h
    obtain ⟨v, r, e1, h1, h2⟩ := h
    subst e1
    show FzL K O H (v :: (r ++ ws)) (d :: (ds ++ es))
    unfold FzL
    exact ⟨v, r ++ ws, rfl, h1, FzL.app h2 h'⟩
theorem FzL.one {K : PySem.W.Frag} {O : Addr → Prop} {H : Hp} {v : V} {d : D} (h : Fz K O H v d) : FzL K O H [v] [d] := by
  unfold FzL; exact ⟨v, [], rfl, h, by unfold FzL; rfl⟩
theorem line_big : 16000000 < sizeLine := by rw [sizeLine_eq]; decide
def lenOk (n : Nat) : Bool := decide (n < 16000000)
theorem lenOk_lt {n : Nat} (h : lenOk n = true) : n < sizeLine := Nat.lt_trans (of_decide_eq_true h) line_big
def fTup (f : FA) : FE := fun ρ => (f ρ).bind fun x => if lenOk x.1.length = true then some (.tup x.1, x.2) else none
def fLst (f : FA) : FO := fun ρ => (f ρ).bind fun x => if lenOk x.1.length = true then some (.lst x.1, x.2) else none
theorem fz_newTup {K : PySem.W.Frag} {O : Addr → Prop} {H : Hp} {vs : List V} {ds : List D} {p : Addr} (ho : Occ O H) (hp : H p = none) (z : FzL K O H vs ds) : Fz K O (upd H p (.tup vs)) (.ref p) (.tup ds) := by
  unfold Fz
  exact ⟨p, vs, rfl, .inl ⟨.inl upd_same, fun z => ho p z hp⟩, FzL.tm (tm_same (same_upd hp)) z⟩
theorem fz_newLst {K : PySem.W.Frag} {O : Addr → Prop} {H : Hp} {vs : List V} {ds : List D} {p : Addr} (ho : Occ O H) (hp : H p = none) (z : FzL K O H vs ds) : Fz K O (upd H p (.lst vs)) (.ref p) (.lst ds) := by
  unfold Fz
  exact ⟨p, vs, rfl, .inl ⟨.inl upd_same, fun z => ho p z hp⟩, FzL.tm (tm_same (same_upd hp)) z⟩
theorem de_tup {x1} {g : FA} (h : DA X es tx g) : DE X (.Tuple es x1 pos) (tTup tx) (fTup g) := by
  obtain ⟨p, q⟩ := h
  refine ⟨pe_tup p, fun G O H σ ρ ρ' d Q hK R h k => ?_⟩
  obtain ⟨⟨ds, ρ1⟩, h1, h⟩ := bind_ok h
  simp only at h
  split at h
  · rename_i hl
    cases h
    refine q G O H σ ρ _ ds _ hK R h1 fun vs H1 R1 m1 z1 => ⟨by rw [z1.len]; exact Nat.le_of_lt (lenOk_lt hl), fun p hp => ?_⟩
    exact k _ _ (R1.same (same_upd hp)) (m1.trans (Fm.same (same_upd hp))) (fz_newTup R1.occ hp z1)
  · cases h
theorem dn_lst {g : FA} (h : DA X es tx g) : DN X (.List es pos) (tLst tx) (fLst g) := by
  obtain ⟨p, q⟩ := h
  refine ⟨pe_lst p, fun G O H σ ρ ρ' u Q hK R h k => ?_⟩
  obtain ⟨⟨ds, ρ1⟩, h1, h⟩ := bind_ok h
  simp only at h
  split at h
  · rename_i hl
    cases h
    refine q G O H σ ρ _ ds _ hK R h1 fun vs H1 R1 m1 z1 => ⟨by rw [z1.len]; exact Nat.le_of_lt (lenOk_lt hl), fun p hp => ?_⟩
    have hp0 : H p = none := by
      cases q : H p with
      | none => rfl
      | some o =>
        by_cases hm : MutA σ ρ p
        · exact absurd hp (R1.occ p (R.mutO hm))
        · rw [m1.get _ _ q hm] at hp; cases hp
    exact k p _ hp0 (R1.more hp) (m1.trans (Fm.same (same_upd hp))) ⟨vs, upd_same, FzL.tm (tm_more (same_upd hp) hp) z1⟩
  · cases h
/-- an address that is new behind was new ahead -/
theorem new_ahead {G : Gh} {O : Addr → Prop} {H H1 : Hp} {σ : Sg} {ρ ρ1 : Ev} {p : Addr} (R : Rep G O H σ ρ) (m : Fm σ ρ H ρ1 H1) (R1 : Rep G O H1 σ ρ1) (hp : H1 p = none) : H p = none := by
  cases q : H p with
  | none => rfl
  | some o =>
    by_cases hm : MutA σ ρ p
    · exact absurd hp (R1.occ p (R.mutO hm))
    · rw [m.get _ _ q hm] at hp; cases hp
/-- .. given away at once -/
def fGive (f : FO) : FE := fun ρ => (f ρ).bind fun x => some (x.1.toD, x.2)
theorem de_give {g : FO} (h : DN X e ta g) : DE X e ta (fGive g) := by
  obtain ⟨p, q⟩ := h
  refine ⟨p, fun G O H σ ρ ρ' d Q hK R h k => ?_⟩
  obtain ⟨⟨u, ρ1⟩, h1, h⟩ := bind_ok h
  cases h
  refine q G O H σ ρ _ u _ hK R h1 fun p H1 hp R1 m1 z1 => ?_
  have hO : ¬ O p := fun z => R.occ p z hp
  have hM : ¬ MutA σ ρ1 p := fun z => hO (R.mutO (m1.shp p z))
  have e : ∀ a, ((O a ∨ a = p) ∧ a ≠ p) ↔ O a := fun a => ⟨fun h => h.1.elim id fun e => absurd e h.2, fun h => ⟨.inl h, fun e => hO (e ▸ h)⟩⟩
  refine k _ _ ((R1.less (R.new0 hp) hM).congr e) m1 ?_
  exact fz_congr (OwnAt.fz (z1.tm (tm_less (O' := fun a => (O a ∨ a = p) ∧ a ≠ p) fun _ h => h.1) fun _ h => h) fun z => z.2 rfl) e
theorem de_callB {id : String} {x : Str} {p : Pos} {r : List V → Hp → VK → Prop} {g : List D → Option D} {G : FA} (hc : CallR X (.builtin id) r) (rr : RnD X.K r g) (hg : Gl X x) (hm : X.mg x = none) (hv : bootBuiltins x = some (.builtin id)) (ha : DA X (e :: es) tx G)
    (hn : x ≠ "__name__" := by decide) (hdb : (x == ("__debug__" : Str)) = false := by decide)
    (he : starEach (e :: es) X.env = (false, eval e X.env) :: starEach es X.env := by rfl) (hpl : (backTo pos (starEach es X.env)).any (·.1) = false := by rfl) : DE X (.Call (.Name x p) (e :: es) [] pos) (tCB r tx) (fN g G) := by
  obtain ⟨pa, q⟩ := ha
  refine ⟨pe_callB hc hg hm hv pa hn hdb he hpl, fun G O H σ ρ ρ' d Q hK R h k => ?_⟩
  obtain ⟨⟨ds, ρ1⟩, h1, h⟩ := bind_ok h
  obtain ⟨d', h2, h⟩ := bind_ok h
  cases h
  refine q G O H σ ρ _ ds _ hK R h1 fun vs H1 R1 m1 z1 => ?_
  exact rr O H1 vs ds _ _ R1.occ z1 h2 fun v H2 s z => k v H2 (R1.same s) (m1.trans (Fm.same s)) z
theorem de_callTy {T : String} {x : Str} {p : Pos} {r : List V → Hp → VK → Prop} {g : List D → Option D} {G : FA} (hc : CallR X (.type T) r) (rr : RnD X.K r g) (hg : Gl X x) (hm : X.mg x = none) (hv : bootBuiltins x = some (.type T)) (ha : DA X (e :: es) tx G)
    (hn : x ≠ "__name__" := by decide) (hdb : (x == ("__debug__" : Str)) = false := by decide)
    (he : starEach (e :: es) X.env = (false, eval e X.env) :: starEach es X.env := by rfl) (hpl : (backTo pos (starEach es X.env)).any (·.1) = false := by rfl) : DE X (.Call (.Name x p) (e :: es) [] pos) (tCB r tx) (fN g G) := by
  obtain ⟨pa, q⟩ := ha
  refine ⟨pe_callTy hc hg hm hv pa hn hdb he hpl, fun G O H σ ρ ρ' d Q hK R h k => ?_⟩
  obtain ⟨⟨ds, ρ1⟩, h1, h⟩ := bind_ok h
  obtain ⟨d', h2, h⟩ := bind_ok h
  cases h
  refine q G O H σ ρ _ ds _ hK R h1 fun vs H1 R1 m1 z1 => ?_
  exact rr O H1 vs ds _ _ R1.occ z1 h2 fun v H2 s z => k v H2 (R1.same s) (m1.trans (Fm.same s)) z
end
end DL
end

section
set_option Elab.async false
set_option linter.all false
set_option maxRecDepth 100000
namespace DL
open PySem PySem.Spec PyProof.Rows L2

/-! ### statements -/
def fSeq (F G : FS) : FS := fun ρ => (F ρ).bind fun x => match x.1 with
  | .nx => G x.2
  | fl => some (fl, x.2)
def fSkip : FS := fun ρ => some (.nx, ρ)
def fBrk : FS := fun ρ => some (.bk, ρ)
def fCnt : FS := fun ρ => some (.ct, ρ)
def fRet (f : FE) : FS := fun ρ => (f ρ).bind fun x => some (.rt x.1, x.2)
def fRetN : FS := fun ρ => some (.rt .non, ρ)
def fDrop (f : FE) : FS := fun ρ => (f ρ).bind fun x => some (.nx, x.2)
def fIfS (f : FT) (F G : FS) : FS := fun ρ => (f ρ).bind fun x => if x.1 = true then F x.2 else G x.2
def fNever : FS := fun _ => none
/-- the i-th slot is given away -/
def frz (i : Nat) : Ev → Option Ev := fun ρ => match ρ[i]? with
  | some (.own u) => some (ρ.set i (.dat u.toD))
  | some (.dat _) => some ρ
  | some .un => some ρ
  | _ => none
def fPut (i : Nat) (d : D) : Ev → Option Ev := fun ρ => (frz i ρ).bind fun ρ => some (ρ.set i (.dat d))
def fSet (i : Nat) (f : FE) : FS := fun ρ => (f ρ).bind fun x => (fPut i x.1 x.2).bind fun ρ => some (.nx, ρ)
def fOwn (i : Nat) (u : Own) : Ev → Option Ev := fun ρ => match ρ[i]? with
  | some (.dat _) => some (ρ.set i (.own u))
  | some .un => some (ρ.set i (.own u))
  | _ => none
def fSetN (i : Nat) (f : FO) : FS := fun ρ => (frz i ρ).bind fun ρ => (f ρ).bind fun x => (fOwn i x.1 x.2).bind fun ρ => some (.nx, ρ)
def fFrz (i : Nat) (F : FS) : FS := fun ρ => (frz i ρ).bind F

section
variable {G : Gh} {O : Addr → Prop} {H : Hp} {σ : Sg} {ρ ρ' : Ev}
theorem Rep.frz (R : Rep G O H σ ρ) {i : Nat} (h : frz i ρ = some ρ') : ∃ O', (∀ a, O' a → O a) ∧ Rep G O' H σ ρ' ∧ ∃ s, ρ'[i]? = some s ∧ s.mu = none := by
  unfold DL.frz at h
  split at h
  · rename_i u e
    cases h
    obtain ⟨O', h1, h2⟩ := R.freeze e
    exact ⟨O', h1, h2, _, List.getElem?_set_self (List.getElem?_eq_some_iff.mp e).1, rfl⟩
  · rename_i d e
    cases h
    exact ⟨O, fun _ h => h, R, _, e, rfl⟩
  · rename_i e
    cases h
    exact ⟨O, fun _ h => h, R, _, e, rfl⟩
  · cases h
theorem Rep.putD (R : Rep G O H σ ρ) {i : Nat} {v : V} {d : D} (z : Fz G.K O H v d) (h : fPut i d ρ = some ρ') : ∃ O', Tm O H O' H ∧ Rep G O' H (σ.set i (some v)) ρ' := by
  obtain ⟨ρ1, h1, h⟩ := bind_ok h
  cases h
  obtain ⟨O', h2, R', s, e, m⟩ := R.frz h1
  exact ⟨O', tm_less h2, R'.set e m (Fz.tm (tm_less h2) z)⟩
theorem mutA_less (R : Rep G O H σ ρ) {a : Addr} (h : ¬ O a) : ¬ MutA σ ρ a := fun z => h (R.mutO z)
end

section
variable {X : Cx} {e a b c : Expr} {es : List Expr} {st : Stmt} {sts : List Stmt} {pos : Pos} {f fa fb fc : FE} {F F2 : FS} {ta tb tc : TE} {tt tt2 : TT} {tx : TA} {ts ts2 : TS}

theorem dss_nil : DSs X [] tNext fSkip := ⟨pss_nil, fun G O H σ ρ ρ' fl Dn hK R h k => by cases h; exact k O H σ R Tm.refl⟩
theorem dss_one (h : DS X st ts F) : DSs X [st] ts F := ⟨pss_one h.p, h.q⟩
theorem dss_cons (h : DS X st ts F) (h2 : DSs X sts ts2 F2) : DSs X (st :: sts) (tSeq ts ts2) (fSeq F F2) := by
  obtain ⟨p, q⟩ := h
  obtain ⟨p2, q2⟩ := h2
  refine ⟨pss_cons p p2, fun G O H σ ρ ρ' fl Dn hK R h k => ?_⟩
  obtain ⟨⟨fl1, ρ1⟩, h1, h⟩ := bind_ok h
  refine q G O H σ ρ ρ1 fl1 _ hK R h1 fun O1 H1 σ1 R1 t1 => ?_
  cases fl1 with
  | nx => exact q2 G O1 H1 σ1 ρ1 ρ' fl Dn hK R1 h fun O2 H2 σ2 R2 t2 => k O2 H2 σ2 R2 (t1.trans t2)
  | bk => cases h; exact k O1 H1 σ1 R1 t1
  | ct => cases h; exact k O1 H1 σ1 R1 t1
  | rt d => cases h; exact k O1 H1 σ1 R1 t1
theorem ds_pass : DS X (.Pass pos) tNext fSkip := ⟨ps_pass, fun G O H σ ρ ρ' fl Dn hK R h k => by cases h; exact k O H σ R Tm.refl⟩
theorem ds_break : DS X (.Break pos) tBreak fBrk := ⟨ps_break, fun G O H σ ρ ρ' fl Dn hK R h k => by cases h; exact k O H σ R Tm.refl⟩
theorem ds_continue : DS X (.Continue pos) tCont fCnt := ⟨ps_continue, fun G O H σ ρ ρ' fl Dn hK R h k => by cases h; exact k O H σ R Tm.refl⟩
theorem ds_never : DS X st tNever fNever := ⟨ps_never, fun G O H σ ρ ρ' fl Dn hK R h k => by cases h⟩
theorem dss_never : DSs X sts tNever fNever := ⟨pss_never, fun G O H σ ρ ρ' fl Dn hK R h k => by cases h⟩
theorem ds_ret (h : DE X e ta f) : DS X (.Return (some e) pos) (tRet ta) (fRet f) := by
  obtain ⟨p, q⟩ := h
  refine ⟨ps_ret p, fun G O H σ ρ ρ' fl Dn hK R h k => ?_⟩
  obtain ⟨⟨d, ρ1⟩, h1, h⟩ := bind_ok h
  cases h
  exact q G O H σ ρ _ d _ hK R h1 fun v H1 R1 m1 z => k O H1 σ R1 (R.tm m1) v z
theorem ds_retN : DS X (.Return none pos) tRetN fRetN := ⟨ps_retN, fun G O H σ ρ ρ' fl Dn hK R h k => by cases h; exact k O H σ R Tm.refl .non (by unfold Fz; rfl)⟩
theorem ds_expr (h : DE X e ta f) (hs : swapsWith e none pos.line X.env = pure false := by rfl) : DS X (.Expr e pos) (tDrop ta) (fDrop f) := by
  obtain ⟨p, q⟩ := h
  refine ⟨ps_expr p hs, fun G O H σ ρ ρ' fl Dn hK R h k => ?_⟩
  obtain ⟨⟨d, ρ1⟩, h1, h⟩ := bind_ok h
  cases h
  exact q G O H σ ρ _ d _ hK R h1 fun v H1 R1 m1 z => k O H1 σ R1 (R.tm m1)
theorem ds_doc {x j pos'} : DS X (.Expr (.Constant (.str x) j pos') pos) tNext fSkip := ⟨ps_doc, fun G O H σ ρ ρ' fl Dn hK R h k => by cases h; exact k O H σ R Tm.refl⟩
theorem ds_if {A B : List Stmt} {ft : FT} (h : DT X c tt ft) (h1 : DSs X A ts F) (h2 : DSs X B ts2 F2) : DS X (.If c A B pos) (tIfS tt ts ts2) (fIfS ft F F2) := by
  obtain ⟨p, q⟩ := h
  obtain ⟨p1, q1⟩ := h1
  obtain ⟨p2, q2⟩ := h2
  refine ⟨ps_if p p1 p2, fun G O H σ ρ ρ' fl Dn hK R h k => ?_⟩
  obtain ⟨⟨x, ρ1⟩, h1, h⟩ := bind_ok h
  refine q G O H σ ρ ρ1 x _ hK R h1 fun H1 R1 m1 => ?_
  have t0 := R.tm m1
  cases x with
  | true =>
    rw [if_pos rfl]
    exact q1 G O H1 σ ρ1 ρ' fl Dn hK R1 h fun O2 H2 σ2 R2 t2 => k O2 H2 σ2 R2 (t0.trans t2)
  | false =>
    rw [if_neg Bool.false_ne_true]
    exact q2 G O H1 σ ρ1 ρ' fl Dn hK R1 h fun O2 H2 σ2 R2 t2 => k O2 H2 σ2 R2 (t0.trans t2)
theorem ds_frz (i : Nat) (h : DS X st ts F) : DS X st ts (fFrz i F) := by
  obtain ⟨p, q⟩ := h
  refine ⟨p, fun G O H σ ρ ρ' fl Dn hK R h k => ?_⟩
  obtain ⟨ρ1, h1, h⟩ := bind_ok h
  obtain ⟨O1, l1, R1, _⟩ := R.frz h1
  exact q G O1 H σ ρ1 ρ' fl Dn hK R1 h fun O2 H2 σ2 R2 t2 => k O2 H2 σ2 R2 ((tm_less l1).trans t2)
/-- x = e -/
theorem ds_set (i : Nat) {x : Str} {pos' : Pos} (hN : X.N.Nodup) (he : DE X e ta f) (hi : X.N[i]? = some x := by rfl) (hx : Loc X.env.scope x := by first | exact Or.inl rfl | exact Or.inr rfl) (hs : swapsWith e (some (.Name x pos')) pos.line X.env = pure false := by rfl)
    (hf : X.fn x = true ∨ X.env.scope.names.lookup x = some .local := by first | exact .inl rfl | exact .inr rfl) : DS X (.Assign [.Name x pos'] e pos) (tAsg ta (gName i)) (fSet i f) := by
  obtain ⟨p, q⟩ := he
  refine ⟨ps_set hN hi hx p hs hf, fun G O H σ ρ ρ' fl Dn hK R h k => ?_⟩
  obtain ⟨⟨d, ρ1⟩, h1, h⟩ := bind_ok h
  obtain ⟨ρ2, h2, h⟩ := bind_ok h
  cases h
  refine q G O H σ ρ ρ1 d _ hK R h1 fun v H1 R1 m1 z => ?_
  obtain ⟨O2, t2, R2⟩ := R1.putD (hK ▸ z) h2
  exact k O2 H1 _ R2 ((R.tm m1).trans t2)
/-- x = a new object: x's own -/
theorem ownN {te : TE} {f : FO} {i : Nat}
    (q : ∀ (G : Gh) (O : Addr → Prop) (H : Hp) (σ : Sg) (ρ ρ' : Ev) (u : Own) (Q : VK), G.K = X.K → Rep G O H σ ρ → f ρ = some (u, ρ') →
      (∀ p H', H p = none → Rep G (fun a => O a ∨ a = p) H' σ ρ' → Fm σ ρ H ρ' H' → OwnAt X.K (fun a => O a ∨ a = p) H' p u → Q (.ref p) H') → te σ H Q)
    {G : Gh} {O : Addr → Prop} {H : Hp} {σ : Sg} {ρ ρ' : Ev} {fl : Fl} {Dn : Ends} (hK : G.K = X.K) (R : Rep G O H σ ρ) (h : fSetN i f ρ = some (fl, ρ'))
    (k : ∀ O' H' σ', Rep G O' H' σ' ρ' → Tm O H O' H' → PostF X.K Dn fl O' H' σ') :
    tAsg te (gName i) Dn σ H := by
  obtain ⟨ρ0, h0, h⟩ := bind_ok h
  obtain ⟨⟨u, ρ1⟩, h1, h⟩ := bind_ok h
  obtain ⟨ρ2, h2, h⟩ := bind_ok h
  cases h
  obtain ⟨O0, l0, R0, _⟩ := R.frz h0
  refine q G O0 H σ ρ0 ρ1 u _ hK R0 h1 fun p H1 hp R1 m1 z => ?_
  have hO : ¬ O0 p := fun z => R0.occ p z hp
  have hM : ¬ MutA σ ρ1 p := fun z => hO (R0.mutO (m1.shp p z))
  have g0 := R0.new0 hp
  have t1 : Tm O0 H (fun a => O0 a ∨ a = p) H1 := ⟨fun a o h n => m1.get a o h fun z => n (R0.mutO z), fun a o h n z => z.elim n fun e => by subst e; rw [hp] at h; cases h⟩
  unfold fOwn at h2
  split at h2
  · rename_i d e
    cases h2
    exact k _ H1 _ (R1.newOwn (u := u) (.inr rfl) g0 hM e rfl (hK ▸ z)) ((tm_less l0).trans t1)
  · rename_i e
    cases h2
    exact k _ H1 _ (R1.newOwn (u := u) (.inr rfl) g0 hM e rfl (hK ▸ z)) ((tm_less l0).trans t1)
  · cases h2
theorem ds_setN (i : Nat) {x : Str} {pos' : Pos} {f : FO} (hN : X.N.Nodup) (he : DN X e ta f) (hi : X.N[i]? = some x := by rfl) (hx : Loc X.env.scope x := by first | exact Or.inl rfl | exact Or.inr rfl) (hs : swapsWith e (some (.Name x pos')) pos.line X.env = pure false := by rfl)
    (hf : X.fn x = true ∨ X.env.scope.names.lookup x = some .local := by first | exact .inl rfl | exact .inr rfl) : DS X (.Assign [.Name x pos'] e pos) (tAsg ta (gName i)) (fSetN i f) := by
  obtain ⟨p, q⟩ := he
  exact ⟨ps_set hN hi hx p hs hf, fun G O H σ ρ ρ' fl Dn hK R h k => ownN q hK R h k⟩

end
end DL
end

section
set_option Elab.async false
set_option linter.all false
set_option maxRecDepth 100000
namespace DL
open PySem PySem.Spec PyProof.Rows L2

/-! ### targets -/
def fPut0 (i : Nat) (d : D) : Ev → Option Ev := fun ρ => match ρ[i]? with
  | some (.dat _) => some (ρ.set i (.dat d))
  | some .un => some (ρ.set i (.dat d))
  | _ => none
/-- only the slots in l have changed -/
structure Only (l : List Nat) (σ σ' : Sg) : Prop where
  len : σ'.length = σ.length
  out : ∀ j : Nat, j ∉ l → σ'[j]? = σ[j]?
theorem Only.refl {l σ} : Only l σ σ := ⟨rfl, fun _ _ => rfl⟩
theorem Only.trans {l l' σ σ1 σ2} (a : Only l σ σ1) (b : Only l' σ1 σ2) : Only (l ++ l') σ σ2 :=
  ⟨b.len.trans a.len, fun j h => (b.out j fun z => h (List.mem_append_right _ z)).trans (a.out j fun z => h (List.mem_append_left _ z))⟩
structure DG (X : Cx) (tg : Expr) (g : TG) (l : List Nat) (T : D → Ev → Option Ev) : Prop where
  p : PG X tg g
  q : ∀ (G : Gh) (O : Addr → Prop) (H : Hp) (σ : Sg) (ρ ρ' : Ev) (v : V) (d : D) (Q : Sg → Hp → Prop), G.K = X.K → Rep G O H σ ρ → Fz X.K O H v d → T d ρ = some ρ' →
    (∀ σ', Rep G O H σ' ρ' → Only l σ σ' → (∀ a, MutA σ' ρ' a → MutA σ ρ a) → Q σ' H) → g v σ H Q
structure DGs (X : Cx) (tgs : List Expr) (g : TGs) (l : List Nat) (T : List D → Ev → Option Ev) : Prop where
  p : PGs X tgs g
  q : ∀ (G : Gh) (O : Addr → Prop) (H : Hp) (σ : Sg) (ρ ρ' : Ev) (vs : List V) (ds : List D) (Q : Sg → Hp → Prop), G.K = X.K → Rep G O H σ ρ → FzL X.K O H vs ds → T ds ρ = some ρ' →
    (∀ σ', Rep G O H σ' ρ' → Only l σ σ' → (∀ a, MutA σ' ρ' a → MutA σ ρ a) → Q σ' H) → g vs σ H Q
def gsNil : List D → Ev → Option Ev := fun ds ρ => match ds with
  | [] => some ρ
  | _ => none
def gsCons (T : D → Ev → Option Ev) (U : List D → Ev → Option Ev) : List D → Ev → Option Ev := fun ds ρ => match ds with
  | d :: ds => (T d ρ).bind (U ds)
  | _ => none
def gTupF (n : Nat) (U : List D → Ev → Option Ev) : D → Ev → Option Ev := fun d ρ => match d with
  | .tup ds => if ds.length = n then U ds ρ else none
  | _ => none
section
variable {X : Cx} {pos : Pos}
theorem dg_name (i : Nat) {x : Str} (hN : X.N.Nodup) (hi : X.N[i]? = some x := by rfl) (hx : Loc X.env.scope x := by first | exact Or.inl rfl | exact Or.inr rfl)
    (hf : X.fn x = true ∨ X.env.scope.names.lookup x = some .local := by first | exact .inl rfl | exact .inr rfl) : DG X (.Name x pos) (gName i) [i] (fPut0 i) := by
  refine ⟨pg_name hN hi hx hf, fun G O H σ ρ ρ' v d Q hK R z h k => ?_⟩
  have only : Only [i] σ (σ.set i (some v)) := ⟨by simp, fun j hj => List.getElem?_set_ne (Ne.symm (by simpa using hj))⟩
  have mu : ∀ a, MutA (σ.set i (some v)) (ρ.set i (.dat d)) a → MutA σ ρ a := fun a ⟨j, s, u, h1, h2, h3⟩ => by
    have hj : j ≠ i := fun e => by subst e; obtain ⟨e1, _⟩ := get_set_self h1; subst e1; cases h2
    rw [List.getElem?_set_ne (Ne.symm hj)] at h1 h3
    exact ⟨j, s, u, h1, h2, h3⟩
  unfold fPut0 at h
  split at h
  · rename_i d' e
    cases h
    exact k _ (R.set e rfl (hK ▸ z)) only mu
  · rename_i e
    cases h
    exact k _ (R.set e rfl (hK ▸ z)) only mu
  · cases h
theorem dgs_nil : DGs X [] gNil [] gsNil := by
  refine ⟨pgs_nil, fun G O H σ ρ ρ' vs ds Q hK R z h k => ?_⟩
  cases ds with
  | nil =>
    cases h
    unfold FzL at z
    exact ⟨z, k σ R Only.refl fun _ h => h⟩
  | cons d ds => cases h
theorem dgs_cons {e : Expr} {es : List Expr} {t : TG} {u : TGs} {l l' : List Nat} {T : D → Ev → Option Ev} {U : List D → Ev → Option Ev} (h1 : DG X e t l T) (h2 : DGs X es u l' U)
    (hs : (assignEach (e :: es) X.env).map (·.2) = assign e X.env :: (assignEach es X.env).map (·.2) := by rfl) : DGs X (e :: es) (gCons t u) (l ++ l') (gsCons T U) := by
  obtain ⟨p1, q1⟩ := h1
  obtain ⟨p2, q2⟩ := h2
  refine ⟨pgs_cons p1 p2 hs, fun G O H σ ρ ρ' vs ds Q hK R z h k => ?_⟩
  cases ds with
  | nil => cases h
  | cons d ds =>
    obtain ⟨ρ1, h1, h⟩ := bind_ok (show (T d ρ).bind (U ds) = some ρ' from h)
    unfold FzL at z
    obtain ⟨v, r, e1, z1, z2⟩ := z
    refine ⟨v, r, e1, ?_⟩
    refine q1 G O H σ ρ ρ1 v d _ hK R z1 h1 fun σ1 R1 o1 m1 => ?_
    exact q2 G O H σ1 ρ1 ρ' r ds _ hK R1 z2 h fun σ2 R2 o2 m2 => k σ2 R2 (o1.trans o2) fun a h => m1 a (m2 a h)
theorem dg_tup {es : List Expr} {k : Nat} {t : TGs} {n : Nat} {l : List Nat} {U : List D → Ev → Option Ev} (hc : X.calm = true) (h : DGs X es t l U)
    (hn : (assignEach es X.env).length = n := by rfl) (hst : (assignEach es X.env).findIdx? (·.1) = none := by rfl) : DG X (.Tuple es k pos) (gTup X.K n t) l (gTupF n U) := by
  obtain ⟨p, q⟩ := h
  refine ⟨pg_tup hc p hn hst, fun G O H σ ρ ρ' v d Q hK R z h k => ?_⟩
  cases d with
  | tup ds =>
    have h : (if ds.length = n then U ds ρ else none) = some ρ' := h
    split at h
    · rename_i hl
      unfold Fz at z
      obtain ⟨a, vs, e1, z1, z2⟩ := z
      exact ⟨a, vs, e1, z1.sq, by rw [z2.len]; exact hl, q G O H σ ρ ρ' vs ds Q hK R z2 h k⟩
    · cases h
  | _ => cases h

/-! ### what is walked -/
structure ItOk (K : PySem.W.Frag) (J : It) (ds : List D) (O : Addr → Prop) (H : Hp) : Prop where
  ex : ∃ srcs : List (V × D), (∀ p, p ∈ srcs → Fz K O H p.1 p.2) ∧ ∀ (O' : Addr → Prop) (H' : Hp), Occ O' H' → (∀ p, p ∈ srcs → Fz K O' H' p.1 p.2) → ∀ i : Nat,
    (∀ d, ds[i]? = some d → J.go i H' ∧ ∀ x H'', J.yld i H' x H'' → Same H' H'' ∧ Fz K O' H'' x d) ∧ (ds.length = i → J.stop i H')
theorem ItOk.tm {K J ds O H O' H'} (h : ItOk K J ds O H) (t : Tm O H O' H') : ItOk K J ds O' H' := by
  obtain ⟨srcs, h1, h2⟩ := h.ex
  exact ⟨srcs, fun p hp => Fz.tm t (h1 p hp), h2⟩
theorem ItOk.at {K J ds O H} (h : ItOk K J ds O H) (o : Occ O H) (i : Nat) : (∀ d, ds[i]? = some d → J.go i H ∧ ∀ x H'', J.yld i H x H'' → Same H H'' ∧ Fz K O H'' x d) ∧ (ds.length = i → J.stop i H) := by
  obtain ⟨srcs, h1, h2⟩ := h.ex
  exact h2 O H o h1 i
structure DI (X : Cx) (tg iter : Expr) (wi : TI) (f : FA) : Prop where
  p : PI X tg iter wi
  q : ∀ (G : Gh) (O : Addr → Prop) (H : Hp) (σ : Sg) (ρ ρ' : Ev) (ds : List D) (Q : It → Hp → Prop), G.K = X.K → Rep G O H σ ρ → f ρ = some (ds, ρ') →
    (∀ J H', Rep G O H' σ ρ' → Fm σ ρ H ρ' H' → ItOk X.K J ds O H' → Q J H') → wi σ H Q
variable {tg e : Expr} {ta : TE} {f : FE}
def iOfL (f : FE) : FA := fun ρ => match f ρ with
  | some (.lst ds, ρ') => some (ds, ρ')
  | _ => none
def iOfT (f : FE) : FA := fun ρ => match f ρ with
  | some (.tup ds, ρ') => some (ds, ρ')
  | _ => none
theorem iOfL_ok {f : FE} {ρ ρ' : Ev} {ds : List D} (h : iOfL f ρ = some (ds, ρ')) : f ρ = some (.lst ds, ρ') := by
  unfold iOfL at h
  split at h
  · rename_i e; cases h; exact e
  · cases h
theorem iOfT_ok {f : FE} {ρ ρ' : Ev} {ds : List D} (h : iOfT f ρ = some (ds, ρ')) : f ρ = some (.tup ds, ρ') := by
  unfold iOfT at h
  split at h
  · rename_i e; cases h; exact e
  · cases h
theorem di_list (h : DE X e ta f) : DI X tg e (iList X.K ta) (iOfL f) := by
  obtain ⟨p, q⟩ := h
  refine ⟨pi_list p, fun G O H σ ρ ρ' ds Q hK R h k => ?_⟩
  refine q G O H σ ρ ρ' _ _ hK R (iOfL_ok h) fun v H1 R1 m1 z => ?_
  have z' := z
  unfold Fz at z
  obtain ⟨a, vs, e1, z1, z2⟩ := z
  refine ⟨a, e1, ⟨vs, z1.sq⟩, k _ H1 R1 m1 ⟨[(.ref a, .lst ds)], fun p hp => ?_, fun O' H' ho hz i => ⟨fun d hd => ?_, fun hl => ?_⟩⟩⟩
  · have ep : p = (.ref a, .lst ds) := by simpa using hp
    subst ep; exact e1 ▸ z'
  · have y := hz _ (List.mem_singleton.mpr rfl)
    unfold Fz at y
    obtain ⟨a', ws, e2, y1, y2⟩ := y
    cases e2
    obtain ⟨x, hx, zx⟩ := y2.get hd
    refine ⟨⟨ws, x, y1.sq, hx⟩, fun x' H'' hy => ?_⟩
    obtain ⟨eH, hy⟩ := hy
    subst eH
    have := hy ws y1.sq
    rw [hx] at this; cases this
    exact ⟨Same.refl _, zx⟩
  · have y := hz _ (List.mem_singleton.mpr rfl)
    unfold Fz at y
    obtain ⟨a', ws, e2, y1, y2⟩ := y
    cases e2
    exact ⟨ws, y1.sq, by rw [y2.len]; exact Nat.le_of_eq hl⟩
theorem di_tup (h : DE X e ta f) : DI X tg e (iTup X.K ta) (iOfT f) := by
  obtain ⟨p, q⟩ := h
  refine ⟨pi_tup p, fun G O H σ ρ ρ' ds Q hK R h k => ?_⟩
  refine q G O H σ ρ ρ' _ _ hK R (iOfT_ok h) fun v H1 R1 m1 z => ?_
  have z' := z
  unfold Fz at z
  obtain ⟨a, vs, e1, z1, z2⟩ := z
  refine ⟨a, e1, ⟨vs, z1.sq⟩, k _ H1 R1 m1 ⟨[(.ref a, .tup ds)], fun p hp => ?_, fun O' H' ho hz i => ⟨fun d hd => ?_, fun hl => ?_⟩⟩⟩
  · have ep : p = (.ref a, .tup ds) := by simpa using hp
    subst ep; exact e1 ▸ z'
  · have y := hz _ (List.mem_singleton.mpr rfl)
    unfold Fz at y
    obtain ⟨a', ws, e2, y1, y2⟩ := y
    cases e2
    obtain ⟨x, hx, zx⟩ := y2.get hd
    refine ⟨⟨ws, x, y1.sq, hx⟩, fun x' H'' hy => ?_⟩
    obtain ⟨eH, hy⟩ := hy
    subst eH
    have := hy ws y1.sq
    rw [hx] at this; cases this
    exact ⟨Same.refl _, zx⟩
  · have y := hz _ (List.mem_singleton.mpr rfl)
    unfold Fz at y
    obtain ⟨a', ws, e2, y1, y2⟩ := y
    cases e2
    exact ⟨ws, y1.sq, by rw [y2.len]; exact Nat.le_of_eq hl⟩
/-- the ints lo, lo + 1, .. -/
def intsFrom (lo : Int) (n : Nat) : List D := (List.range n).map fun k => .int (lo + (k : Nat))
theorem itok_range {K : PySem.W.Frag} {lo : Int} {n : Nat} {O : Addr → Prop} {H : Hp} : ItOk K (Itr lo n) (intsFrom lo n) O H := by
  refine ⟨[], fun p hp => absurd hp (by simp), fun O' H' _ _ i => ⟨fun d hd => ?_, fun hl => ?_⟩⟩
  · unfold intsFrom at hd
    rw [List.getElem?_map] at hd
    cases e : (List.range n)[i]? with
    | none => rw [e] at hd; cases hd
    | some j =>
      rw [e] at hd
      obtain ⟨hi, ej⟩ := List.getElem?_eq_some_iff.mp e
      rw [List.length_range] at hi
      rw [List.getElem_range] at ej
      subst ej
      cases hd
      refine ⟨hi, fun x H'' hy => ?_⟩
      obtain ⟨eH, ex⟩ := hy
      subst eH
      exact ⟨Same.refl _, by unfold Fz; exact ex⟩
  · unfold intsFrom at hl
    show n ≤ i
    exact Nat.le_of_eq (by simpa using hl)
def iRange1 (f : FA) : FA := fun ρ => match f ρ with
  | some ([.int j], ρ') => if -4611686018427387904 ≤ j ∧ j < 4611686018427387904 then some (intsFrom 0 j.toNat, ρ') else none
  | _ => none
def iRange2 (f : FA) : FA := fun ρ => match f ρ with
  | some ([.int i, .int j], ρ') => if -4611686018427387904 ≤ i ∧ i < 4611686018427387904 ∧ -4611686018427387904 ≤ j ∧ j < 4611686018427387904 then some (intsFrom i (j - i).toNat, ρ') else none
  | _ => none
theorem fzL_int1 {K : PySem.W.Frag} {O : Addr → Prop} {H : Hp} {vs : List V} {j : Int} (z : FzL K O H vs [.int j]) : vs = [.int j] := by
  unfold FzL at z
  obtain ⟨v, r, e, z1, z2⟩ := z
  unfold Fz at z1
  unfold FzL at z2
  subst z1; subst z2; exact e
theorem fzL_int2 {K : PySem.W.Frag} {O : Addr → Prop} {H : Hp} {vs : List V} {i j : Int} (z : FzL K O H vs [.int i, .int j]) : vs = [.int i, .int j] := by
  unfold FzL at z
  obtain ⟨v, r, e, z1, z2⟩ := z
  have := fzL_int1 z2
  unfold Fz at z1
  subst z1; subst this; exact e
variable {a b : Expr} {tx : TA} {fx : FA}
theorem di_range1 {p : Pos} (hg : Gl X "range") (hm : X.mg "range" = none) (ha : DA X [a] tx fx) (hs : starEach [a] X.env = [(false, eval a X.env)] := by rfl) : DI X tg (.Call (.Name "range" p) [a] [] pos) (iRng1 tx) (iRange1 fx) := by
  obtain ⟨pa, q⟩ := ha
  refine ⟨pi_range1 hg hm pa hs, fun G O H σ ρ ρ' ds Q hK R h k => ?_⟩
  unfold iRange1 at h
  split at h
  · rename_i j ρ1 e
    split at h
    · rename_i hl
      cases h
      refine q G O H σ ρ _ _ _ hK R e fun vs H1 R1 m1 z => ?_
      have ev := fzL_int1 z
      exact ⟨j, ev, hl.1, hl.2, k _ H1 R1 m1 itok_range⟩
    · cases h
  · cases h
theorem di_range2 {p : Pos} (hg : Gl X "range") (hm : X.mg "range" = none) (ha : DA X [a, b] tx fx) (hs : starEach [a, b] X.env = [(false, eval a X.env), (false, eval b X.env)] := by rfl) (hs2 : starEach [b] X.env = [(false, eval b X.env)] := by rfl) :
    DI X tg (.Call (.Name "range" p) [a, b] [] pos) (iRng2 tx) (iRange2 fx) := by
  obtain ⟨pa, q⟩ := ha
  refine ⟨pi_range2 hg hm pa hs hs2, fun G O H σ ρ ρ' ds Q hK R h k => ?_⟩
  unfold iRange2 at h
  split at h
  · rename_i i j ρ1 e
    split at h
    · rename_i hl
      cases h
      refine q G O H σ ρ _ _ _ hK R e fun vs H1 R1 m1 z => ?_
      exact ⟨i, j, fzL_int2 z, hl, k _ H1 R1 m1 itok_range⟩
    · cases h
  · cases h
end
end DL
end

section
set_option Elab.async false
set_option linter.all false
set_option maxRecDepth 100000
namespace DL
open PySem PySem.Spec PyProof.Rows L2

/-! ### for -/
def loopF (T : D → Ev → Option Ev) (F : FS) : List D → FS
  | [], ρ => some (.nx, ρ)
  | d :: ds, ρ => (T d ρ).bind fun ρ1 => (F ρ1).bind fun x => match x.1 with
    | .nx => loopF T F ds x.2
    | .ct => loopF T F ds x.2
    | .bk => some (.nx, x.2)
    | .rt r => some (.rt r, x.2)
def fFor (fi : FA) (T : D → Ev → Option Ev) (F : FS) : FS := fun ρ => (fi ρ).bind fun x => loopF T F x.1 x.2
section
variable {X : Cx} {pos : Pos} {tg iter e : Expr} {wi : TI} {fi : FA} {g : TG} {l : List Nat} {T : D → Ev → Option Ev} {body : List Stmt} {tb : TS} {F : FS}
theorem drop_at {α : Type} {ds : List α} {i : Nat} (h : i < ds.length) : ∃ d, ds[i]? = some d ∧ ds.drop i = d :: ds.drop (i + 1) :=
  ⟨ds[i], by simp [h], by rw [List.drop_eq_getElem_cons h]⟩
theorem ds_for (hp : PassesOwn (model X.prog X.w) X.A X.env X.xe) (hc : X.calm = true) (hi : DI X tg iter wi fi) (hg : DG X tg g l T) (hb : DSs X body tb F)
    (hs : ∀ x, foldedSetIterable iter X.env x = pure x := by intro _; rfl) : DS X (.For tg iter body [] pos) (tFor wi g tb) (fFor fi T F) := by
  obtain ⟨pi, qi⟩ := hi
  obtain ⟨pg, qg⟩ := hg
  obtain ⟨pb, qb⟩ := hb
  refine ⟨ps_for hp hc pi pg pb hs, fun G O H σ ρ ρ' fl Dn hK R h k => ?_⟩
  obtain ⟨⟨ds, ρ1⟩, h1, h⟩ := bind_ok h
  refine qi G O H σ ρ ρ1 ds _ hK R h1 fun J H1 R1 m1 it1 => ?_
  refine ⟨fun i m σ' H' => m = ds.length - i ∧ i ≤ ds.length ∧ ∃ O' ρ2, Rep G O' H' σ' ρ2 ∧ Tm O H1 O' H' ∧ loopF T F (ds.drop i) ρ2 = some (fl, ρ'), ⟨ds.length, by simp, Nat.zero_le _, O, ρ1, R1, Tm.refl, by simpa using h⟩, ?_⟩
  rintro i m σ2 H2 ⟨em, hi, O2, ρ2, R2, t2, h2⟩
  have it2 := (it1.tm t2).at R2.occ i
  by_cases hlt : i < ds.length
  · obtain ⟨d, hd, hdr⟩ := drop_at hlt
    rw [hdr] at h2
    obtain ⟨ρ3, h3, h2⟩ := bind_ok (show ((T d ρ2).bind fun ρ1 => (F ρ1).bind fun x => match x.1 with
      | .nx => loopF T F (ds.drop (i + 1)) x.2
      | .ct => loopF T F (ds.drop (i + 1)) x.2
      | .bk => some (.nx, x.2)
      | .rt r => some (.rt r, x.2)) = some (fl, ρ') from h2)
    obtain ⟨⟨fl1, ρ4⟩, h4, h2⟩ := bind_ok h2
    obtain ⟨go, yl⟩ := it2.1 d hd
    refine .inr ⟨go, fun σ' H' => ∃ O' ρ5, Rep G O' H' σ' ρ5 ∧ Tm O H1 O' H' ∧ loopF T F (ds.drop (i + 1)) ρ5 = some (fl, ρ'), fun σ' H' ⟨O', ρ5, a, b, c⟩ => ⟨ds.length - (i + 1), by omega, rfl, hlt, O', ρ5, a, b, c⟩, fun x H3 y => ?_⟩
    obtain ⟨s3, z3⟩ := yl x H3 y
    refine qg G O2 H3 σ2 ρ2 ρ3 x d _ hK (R2.same s3) z3 h3 fun σ4 R4 o4 _ => ?_
    refine qb G O2 H3 σ4 ρ3 ρ4 fl1 _ hK R4 h4 fun O5 H5 σ5 R5 t5 => ?_
    have t : Tm O H1 O5 H5 := (t2.trans (tm_same s3)).trans t5
    cases fl1 with
    | nx => exact ⟨O5, ρ4, R5, t, h2⟩
    | ct => exact ⟨O5, ρ4, R5, t, h2⟩
    | bk =>
      cases h2
      exact k O5 H5 σ5 R5 ((R.tm m1).trans t)
    | rt r =>
      cases h2
      exact k O5 H5 σ5 R5 ((R.tm m1).trans t)
  · have e : i = ds.length := by omega
    subst e
    refine .inl ⟨it2.2 rfl, ?_⟩
    rw [List.drop_length] at h2
    cases h2
    exact k O2 H2 σ2 R2 ((R.tm m1).trans t2)
end

/-! ### list comprehensions -/
def wipeE : List Nat → Ev → Ev
  | [], ρ => ρ
  | v :: vs, ρ => (wipeE vs ρ).set v .un
def wipOk (vs : List Nat) (ρ : Ev) : Bool := vs.all fun i => match ρ[i]? with
  | some .un => true
  | some (.dat _) => true
  | _ => false
/-- the slots vs as in ρ, the others as in ρ' -/
def backE (vs : List Nat) (ρ ρ' : Ev) : Ev := (List.range ρ'.length).map fun j => if vs.contains j then ρ.getD j .un else ρ'.getD j .un
def compGo (T : D → Ev → Option Ev) (ft : FT) (fe : FE) (vs : List Nat) : List D → Ev → Option (List D × Ev)
  | [], ρ => some ([], ρ)
  | d :: ds, ρ => (T d ρ).bind fun ρ1 => (ft ρ1).bind fun x => if x.1 = true then
      (fe x.2).bind fun y => if wipOk vs y.2 = true then (compGo T ft fe vs ds (wipeE vs y.2)).bind fun z => some (y.1 :: z.1, z.2) else none
    else if wipOk vs x.2 = true then compGo T ft fe vs ds (wipeE vs x.2) else none
def fComp (fi : FA) (T : D → Ev → Option Ev) (ft : FT) (fe : FE) (vs : List Nat) : FO := fun ρ => (fi ρ).bind fun x =>
  if lenOk x.1.length = true ∧ wipOk vs x.2 = true then (compGo T ft fe vs x.1 (wipeE vs x.2)).bind fun y => some (.lst y.1, backE vs x.2 y.2) else none

theorem wipe_get {σ : Sg} : ∀ {vs : List Nat} {j : Nat}, j ∉ vs → (wipe σ vs)[j]? = σ[j]?
  | [], j, h => rfl
  | v :: vs, j, h => by
    have h1 : j ≠ v := fun e => h (by simp [e])
    have h2 : j ∉ vs := fun e => h (List.mem_cons_of_mem _ e)
    unfold wipe
    rw [List.getElem?_set_ne (Ne.symm h1), wipe_get h2]
theorem wipe_in {σ : Sg} : ∀ {vs : List Nat} {j : Nat}, j ∈ vs → j < σ.length → (wipe σ vs)[j]? = some none
  | [], j, h, hl => by simp at h
  | v :: vs, j, h, hl => by
    unfold wipe
    by_cases e : v = j
    · subst e
      rw [List.getElem?_set_self (by rw [wipe_length]; exact hl)]
    · rw [List.getElem?_set_ne e]
      exact wipe_in ((List.mem_cons.mp h).elim (fun z => absurd z.symm e) id) hl
theorem wipeE_len {ρ : Ev} : ∀ vs : List Nat, (wipeE vs ρ).length = ρ.length
  | [] => rfl
  | v :: vs => by unfold wipeE; rw [List.length_set, wipeE_len vs]
theorem wipeE_get {ρ : Ev} : ∀ {vs : List Nat} {j : Nat}, j ∉ vs → (wipeE vs ρ)[j]? = ρ[j]?
  | [], j, h => rfl
  | v :: vs, j, h => by
    have h1 : j ≠ v := fun e => h (by simp [e])
    have h2 : j ∉ vs := fun e => h (List.mem_cons_of_mem _ e)
    unfold wipeE
    rw [List.getElem?_set_ne (Ne.symm h1), wipeE_get h2]
theorem wipe_of_only {vs : List Nat} {σ σ' : Sg} (h : ∀ j : Nat, j ∉ vs → σ'[j]? = σ[j]?) (hl : σ'.length = σ.length) : wipe σ' vs = wipe σ vs := by
  apply List.ext_getElem?
  intro j
  by_cases hj : j ∈ vs
  · by_cases hl2 : j < σ.length
    · rw [wipe_in hj hl2, wipe_in hj (by omega)]
    · rw [List.getElem?_eq_none (by rw [wipe_length]; omega), List.getElem?_eq_none (by rw [wipe_length]; omega)]
  · rw [wipe_get hj, wipe_get hj]; exact h j hj
section
variable {G : Gh} {O : Addr → Prop} {H : Hp} {σ : Sg} {ρ : Ev}
theorem wipOk_mem : ∀ {vs : List Nat} {ρ : Ev}, wipOk vs ρ = true → ∀ i, i ∈ vs → ∃ s, ρ[i]? = some s ∧ s.mu = none := by
  intro vs ρ h i hi
  have := List.all_eq_true.mp h i hi
  split at this
  · rename_i e; exact ⟨_, e, rfl⟩
  · rename_i d e; exact ⟨_, e, rfl⟩
  · cases this
theorem Rep.wipe (R : Rep G O H σ ρ) : ∀ {vs : List Nat}, (∀ i, i ∈ vs → ∃ s, ρ[i]? = some s ∧ s.mu = none) → Rep G O H (L2.wipe σ vs) (wipeE vs ρ)
  | [], _ => R
  | v :: vs, h => by
    have R1 := Rep.wipe R (vs := vs) fun i hi => h i (List.mem_cons_of_mem _ hi)
    obtain ⟨s, e, m⟩ := h v List.mem_cons_self
    unfold L2.wipe wipeE
    by_cases hv : v ∈ vs
    · have hl : v < (wipeE vs ρ).length := by rw [wipeE_len]; exact (List.getElem?_eq_some_iff.mp e).1
      have e2 : ∃ s, (wipeE vs ρ)[v]? = some s ∧ s.mu = none := by
        have hl2 : v < (L2.wipe σ vs).length := by rw [R1.len]; exact hl
        cases q : (wipeE vs ρ)[v]? with
        | none => rw [List.getElem?_eq_none_iff] at q; omega
        | some s' =>
          refine ⟨s', rfl, ?_⟩
          cases s' with
          | un => rfl
          | dat d => rfl
          | own u =>
            obtain ⟨a, ha, _⟩ := R1.mu v _ u q rfl
            rw [wipe_in hv (by rw [wipe_length] at hl2; exact hl2)] at ha; cases ha
          | io u =>
            obtain ⟨a, ha, _⟩ := R1.mu v _ u q rfl
            rw [wipe_in hv (by rw [wipe_length] at hl2; exact hl2)] at ha; cases ha
      obtain ⟨s', e3, m3⟩ := e2
      exact R1.unset e3 m3
    · exact R1.unset (by rw [wipeE_get hv]; exact e) m
theorem mutA_wipe {vs : List Nat} {a : Addr} (R : Rep G O H σ ρ) (h : ∀ i, i ∈ vs → ∃ s, ρ[i]? = some s ∧ s.mu = none) : MutA (L2.wipe σ vs) (wipeE vs ρ) a → MutA σ ρ a := fun ⟨i, s, u, h1, h2, h3⟩ => by
  have hi : i ∉ vs := fun hi => by
    by_cases hl : i < σ.length
    · rw [wipe_in hi hl] at h3; cases h3
    · rw [List.getElem?_eq_none (by rw [wipe_length]; omega)] at h3; cases h3
  rw [wipeE_get hi] at h1
  rw [wipe_get hi] at h3
  exact ⟨i, s, u, h1, h2, h3⟩
end
theorem backE_get {vs : List Nat} {ρ ρ' : Ev} (hl : ρ.length = ρ'.length) (j : Nat) : (backE vs ρ ρ')[j]? = if j ∈ vs then ρ[j]? else ρ'[j]? := by
  unfold backE
  rw [List.getElem?_map]
  by_cases h : j < ρ'.length
  · have e : (List.range ρ'.length)[j]? = some j := by
      rw [List.getElem?_eq_some_iff]; exact ⟨by simpa using h, by simp⟩
    rw [e]
    show some (if vs.contains j = true then ρ.getD j .un else ρ'.getD j .un) = _
    by_cases hv : j ∈ vs
    · rw [if_pos hv, if_pos (by simpa using hv), List.getD_eq_getElem?_getD, List.getElem?_eq_getElem (by omega)]; rfl
    · rw [if_neg hv, if_neg (by simpa using hv), List.getD_eq_getElem?_getD, List.getElem?_eq_getElem h]; rfl
  · have e : (List.range ρ'.length)[j]? = none := by rw [List.getElem?_eq_none_iff]; simpa using h
    rw [e, List.getElem?_eq_none (by omega), List.getElem?_eq_none (by omega)]
    simp
section
variable {G : Gh} {O : Addr → Prop} {H : Hp} {σ : Sg} {ρ : Ev}
/-- an owned object that is no slot's is changed -/
theorem Rep.updO (R : Rep G O H σ ρ) {p : Addr} {o : HO} (hO : O p) (h0 : G.H_0 p = none) (hm : ¬ MutA σ ρ p) : Rep G O (upd H p o) σ ρ := by
  have t : Tm O H O (upd H p o) := ⟨fun b q h n => by rw [upd_ne (fun z : b = p => n (by rw [z]; exact hO))]; exact h, fun _ _ _ n => n⟩
  refine ⟨R.len, fun i d h => ?_, fun i s u h1 h2 => ?_, R.own, R.io, R.ios, R.inj, fun a h z => ?_, R.sup, fun a q h n => ?_, R.oc0, R.ioc⟩
  · obtain ⟨v, e, z⟩ := R.dat i d h
    exact ⟨v, e, Fz.tm t z⟩
  · obtain ⟨a, e, ho, z⟩ := R.mu i s u h1 h2
    refine ⟨a, e, ho, z.tm t fun q h => ?_⟩
    rw [upd_ne (fun z : a = p => hm (by rw [← z]; exact ⟨i, s, u, h1, h2, e⟩))]; exact h
  · by_cases hb : a = p
    · subst hb; rw [upd_same] at z; cases z
    · rw [upd_ne hb] at z; exact R.occ a h z
  · rw [upd_ne (fun z : a = p => by rw [z, h0] at h; cases h)]; exact R.frm a q h n
theorem Rep.back {O' : Addr → Prop} {H' : Hp} {ρ' : Ev} {vs : List Nat} (R : Rep G O H σ ρ) (hv : ∀ i, i ∈ vs → ∃ s, ρ[i]? = some s ∧ s.mu = none) (t : Tm O H O' H') (R' : Rep G O' H' (L2.wipe σ vs) ρ') : Rep G O' H' σ (backE vs ρ ρ') := by
  have hl : ρ.length = ρ'.length := by rw [← R.len, ← R'.len, wipe_length]
  have nm : ∀ (i : Nat) (s : Slot) (u : Own), (backE vs ρ ρ')[i]? = some s → s.mu = some u → i ∉ vs ∧ ρ'[i]? = some s := fun i s u h1 h2 => by
    rw [backE_get hl] at h1
    by_cases hi : i ∈ vs
    · rw [if_pos hi] at h1
      obtain ⟨s', e, m⟩ := hv i hi
      rw [h1] at e; cases e; rw [m] at h2; cases h2
    · rw [if_neg hi] at h1; exact ⟨hi, h1⟩
  refine ⟨?_, fun i d h => ?_, fun i s u h1 h2 => ?_, fun i u a h1 h2 => ?_, fun i u a h1 h2 => ?_, fun i a h => ?_, fun i j a s s' u u' h1 h2 h3 h4 h5 h6 => ?_, R'.occ, R'.sup, R'.frm, R'.oc0, R'.ioc⟩
  · unfold backE; rw [List.length_map, List.length_range, ← hl]; exact R.len
  · rw [backE_get hl] at h
    by_cases hi : i ∈ vs
    · rw [if_pos hi] at h
      obtain ⟨v, e, z⟩ := R.dat i d h
      exact ⟨v, e, Fz.tm t z⟩
    · rw [if_neg hi] at h
      obtain ⟨v, e, z⟩ := R'.dat i d h
      rw [wipe_get hi] at e
      exact ⟨v, e, z⟩
  · obtain ⟨hi, h1⟩ := nm i s u h1 h2
    obtain ⟨a, e, z⟩ := R'.mu i s u h1 h2
    rw [wipe_get hi] at e
    exact ⟨a, e, z⟩
  · obtain ⟨hi, h1⟩ := nm i _ u h1 rfl
    exact R'.own i u a h1 (by rw [wipe_get hi]; exact h2)
  · obtain ⟨hi, h1⟩ := nm i _ u h1 rfl
    exact R'.io i u a h1 (by rw [wipe_get hi]; exact h2)
  · obtain ⟨h1, u, h2⟩ := R'.ios i a h
    have hi : i ∉ vs := fun hi => by
      by_cases hl : i < σ.length
      · rw [wipe_in hi hl] at h1; cases h1
      · rw [List.getElem?_eq_none (by rw [wipe_length]; omega)] at h1; cases h1
    rw [wipe_get hi] at h1
    exact ⟨h1, u, by rw [backE_get hl, if_neg hi]; exact h2⟩
  · obtain ⟨hi, h1⟩ := nm i s u h1 h2
    obtain ⟨hj, h3⟩ := nm j s' u' h3 h4
    exact R'.inj i j a s s' u u' h1 h2 h3 h4 (by rw [wipe_get hi]; exact h5) (by rw [wipe_get hj]; exact h6)
theorem mutA_back {O' : Addr → Prop} {H' : Hp} {ρ' : Ev} {vs : List Nat} {a : Addr} (R : Rep G O H σ ρ) (hv : ∀ i, i ∈ vs → ∃ s, ρ[i]? = some s ∧ s.mu = none) (R' : Rep G O' H' (L2.wipe σ vs) ρ') (h : MutA σ (backE vs ρ ρ') a) : MutA (L2.wipe σ vs) ρ' a := by
  have hl : ρ.length = ρ'.length := by rw [← R.len, ← R'.len, wipe_length]
  obtain ⟨i, s, u, h1, h2, h3⟩ := h
  rw [backE_get hl] at h1
  by_cases hi : i ∈ vs
  · rw [if_pos hi] at h1
    obtain ⟨s', e, m⟩ := hv i hi
    rw [h1] at e; cases e; rw [m] at h2; cases h2
  · rw [if_neg hi] at h1
    exact ⟨i, s, u, h1, h2, by rw [wipe_get hi]; exact h3⟩
end
end DL
end

section
set_option Elab.async false
set_option linter.all false
set_option maxRecDepth 100000
namespace DL
open PySem PySem.Spec PyProof.Rows L2

structure DTs (X : Cx) (es : List Expr) (t : TT) (f : FT) : Prop where
  p : PTs X es t
  q : ∀ (G : Gh) (O : Addr → Prop) (H : Hp) (σ : Sg) (ρ ρ' : Ev) (b : Bool) (Q : Bool → Hp → Prop), G.K = X.K → Rep G O H σ ρ → f ρ = some (b, ρ') →
    (∀ H', Rep G O H' σ ρ' → Fm σ ρ H ρ' H' → Q b H') → t σ H Q
def fYes : FT := fun ρ => some (true, ρ)
theorem dts_nil {X : Cx} : DTs X [] tYes fYes := ⟨pts_nil, fun G O H σ ρ ρ' b Q hK R h k => by cases h; exact k H R Fm.refl⟩
theorem dts_one {X : Cx} {c : Expr} {t : TT} {f : FT} (h : DT X c t f) : DTs X [c] t f := ⟨pts_one h.p, h.q⟩

section
variable {X : Cx} {elt tg iter : Expr} {ifs : List Expr} {scope : Scope} {own : List (Str × Nat)} {pos : Pos} {wi : TI} {fi : FA} {g : TG} {l : List Nat} {T : D → Ev → Option Ev} {tt : TT} {ft : FT} {te : TE} {fe : FE}
theorem comp_q {vs : List Nat} (hl : ∀ i, i ∈ l → i ∈ vs)
    (qi : ∀ (G : Gh) (O : Addr → Prop) (H : Hp) (σ : Sg) (ρ ρ' : Ev) (ds : List D) (Q : It → Hp → Prop), G.K = X.K → Rep G O H σ ρ → fi ρ = some (ds, ρ') →
      (∀ J H', Rep G O H' σ ρ' → Fm σ ρ H ρ' H' → ItOk X.K J ds O H' → Q J H') → wi σ H Q)
    (qg : ∀ (G : Gh) (O : Addr → Prop) (H : Hp) (σ : Sg) (ρ ρ' : Ev) (v : V) (d : D) (Q : Sg → Hp → Prop), G.K = X.K → Rep G O H σ ρ → Fz X.K O H v d → T d ρ = some ρ' →
      (∀ σ', Rep G O H σ' ρ' → Only l σ σ' → (∀ a, MutA σ' ρ' a → MutA σ ρ a) → Q σ' H) → g v σ H Q)
    (qt : ∀ (G : Gh) (O : Addr → Prop) (H : Hp) (σ : Sg) (ρ ρ' : Ev) (b : Bool) (Q : Bool → Hp → Prop), G.K = X.K → Rep G O H σ ρ → ft ρ = some (b, ρ') →
      (∀ H', Rep G O H' σ ρ' → Fm σ ρ H ρ' H' → Q b H') → tt σ H Q)
    (qe : ∀ (G : Gh) (O : Addr → Prop) (H : Hp) (σ : Sg) (ρ ρ' : Ev) (d : D) (Q : VK), G.K = X.K → Rep G O H σ ρ → fe ρ = some (d, ρ') →
      (∀ v H', Rep G O H' σ ρ' → Fm σ ρ H ρ' H' → Fz X.K O H' v d → Q v H') → te σ H Q)
    (G : Gh) (O : Addr → Prop) (H : Hp) (σ : Sg) (ρ ρ' : Ev) (u : Own) (Q : VK) (hK : G.K = X.K) (R : Rep G O H σ ρ) (h : fComp fi T ft fe vs ρ = some (u, ρ'))
    (k : ∀ p H', H p = none → Rep G (fun a => O a ∨ a = p) H' σ ρ' → Fm σ ρ H ρ' H' → OwnAt X.K (fun a => O a ∨ a = p) H' p u → Q (.ref p) H') : tLc wi g tt te vs σ H Q := by
  obtain ⟨⟨ds, ρ1⟩, h1, h⟩ := bind_ok h
  simp only at h
  split at h
  · rename_i hc
    obtain ⟨⟨ys, ρ2⟩, h2, h⟩ := bind_ok h
    cases h
    obtain ⟨hlen, hw⟩ := hc
    have hwip := wipOk_mem hw
    refine qi G O H σ ρ ρ1 ds _ hK R h1 fun J H1 R1 m1 it1 => ?_
    intro D hD
    have hOD : ¬ O D := fun z => R1.occ D z hD
    have g0 := R1.new0 hD
    have hMD : ¬ MutA σ ρ1 D := fun z => hOD (R1.mutO z)
    have Rw : Rep G (fun a => O a ∨ a = D) (upd H1 D (.lst [])) (wipe σ vs) (wipeE vs ρ1) := (R1.wipe hwip).more hD
    refine ⟨fun i m H' => m = ds.length - i ∧ i ≤ ds.length ∧ ∃ (acc : List V) (ads zs : List DL.D) (ρi : Ev), H' D = some (.lst acc) ∧ FzL X.K (fun a => O a ∨ a = D) H' acc ads ∧ ads.length ≤ i ∧
      Rep G (fun a => O a ∨ a = D) H' (wipe σ vs) ρi ∧ (∀ a o, H1 a = some o → ¬ MutA σ ρ1 a → H' a = some o) ∧ (∀ a, MutA (wipe σ vs) ρi a → MutA σ ρ1 a) ∧
      compGo T ft fe vs (ds.drop i) ρi = some (zs, ρ2) ∧ ads ++ zs = ys,
      ⟨ds.length, by simp, Nat.zero_le _, [], [], ys, wipeE vs ρ1, upd_same, by unfold FzL; rfl, Nat.le_refl _, Rw, fun a o q n => by rw [upd_ne (ne_of_none q hD)]; exact q, fun a z => mutA_wipe R1 hwip z, by simpa using h2, rfl⟩, ?_⟩
    rintro i m H2 ⟨em, hi, acc, ads, zs, ρi, hacc, zacc, hal, R2, fr2, mu2, c2, ey⟩
    have t12 : Tm O H1 (fun a => O a ∨ a = D) H2 := ⟨fun a o q n => fr2 a o q fun z => n (R1.mutO z), fun a o q n z => z.elim n fun e => by subst e; rw [hD] at q; cases q⟩
    have it2 := (it1.tm t12).at R2.occ i
    by_cases hlt : i < ds.length
    · obtain ⟨d, hd, hdr⟩ := drop_at hlt
      rw [hdr] at c2
      obtain ⟨ρa, ha, c2⟩ := bind_ok (show ((T d ρi).bind fun ρ1 => (ft ρ1).bind fun x => if x.1 = true then
          (fe x.2).bind fun y => if wipOk vs y.2 = true then (compGo T ft fe vs (ds.drop (i + 1)) (wipeE vs y.2)).bind fun z => some (y.1 :: z.1, z.2) else none
        else if wipOk vs x.2 = true then compGo T ft fe vs (ds.drop (i + 1)) (wipeE vs x.2) else none) = some (zs, ρ2) from c2)
      obtain ⟨⟨b, ρb⟩, hb, c2⟩ := bind_ok c2
      obtain ⟨go, yl⟩ := it2.1 d hd
      refine .inr ⟨go, fun H' => ∃ (acc : List V) (ads zs : List DL.D) (ρi : Ev), H' D = some (.lst acc) ∧ FzL X.K (fun a => O a ∨ a = D) H' acc ads ∧ ads.length ≤ i + 1 ∧
        Rep G (fun a => O a ∨ a = D) H' (wipe σ vs) ρi ∧ (∀ a o, H1 a = some o → ¬ MutA σ ρ1 a → H' a = some o) ∧ (∀ a, MutA (wipe σ vs) ρi a → MutA σ ρ1 a) ∧
        compGo T ft fe vs (ds.drop (i + 1)) ρi = some (zs, ρ2) ∧ ads ++ zs = ys, fun H' q => ⟨ds.length - (i + 1), by omega, rfl, hlt, q⟩, fun x H3 y => ?_⟩
      obtain ⟨s3, z3⟩ := yl x H3 y
      refine qg G _ H3 (wipe σ vs) ρi ρa x d _ hK (R2.same s3) z3 ha fun σ4 R4 o4 m4 => ?_
      have w4 : wipe σ4 vs = wipe σ vs := by
        rw [wipe_of_only (σ := wipe σ vs) (fun j hj => o4.out j fun z => hj (hl j z)) o4.len]
        exact wipe_of_only (fun j hj => wipe_get hj) (wipe_length σ vs)
      refine ⟨w4, ?_⟩
      refine qt G _ H3 σ4 ρa ρb b _ hK R4 hb fun H5 R5 m5 => ?_
      have mu5 : ∀ a, MutA σ4 ρb a → MutA σ ρ1 a := fun a z => mu2 a (m4 a (m5.shp a z))
      have fr5 : ∀ a o, H1 a = some o → ¬ MutA σ ρ1 a → H5 a = some o := fun a o q n => m5.get a o (s3 a o (fr2 a o q n)) fun z => n (mu2 a (m4 a z))
      have acc5 : H5 D = some (.lst acc) := m5.get D _ (s3 D _ hacc) fun z => hMD (mu2 D (m4 D z))
      have tm5 : Tm (fun a => O a ∨ a = D) H2 (fun a => O a ∨ a = D) H5 := (tm_same s3).trans (R4.tm m5)
      cases b with
      | true =>
        rw [if_pos rfl] at c2
        rw [if_pos rfl]
        obtain ⟨⟨y, ρc⟩, hy, c2⟩ := bind_ok c2
        simp only at c2
        split at c2
        · rename_i hw2
          obtain ⟨⟨zs', ρe⟩, hz, c2⟩ := bind_ok c2
          cases c2
          refine qe G _ H5 σ4 ρb ρc y _ hK R5 hy fun v H6 R6 m6 z6 => ?_
          have acc6 : H6 D = some (.lst acc) := m6.get D _ acc5 fun z => hMD (mu5 D z)
          have hw2' := wipOk_mem hw2
          have R6' : Rep G (fun a => O a ∨ a = D) H6 (wipe σ vs) (wipeE vs ρc) := w4 ▸ R6.wipe hw2'
          have mu6 : ∀ a, MutA (wipe σ vs) (wipeE vs ρc) a → MutA σ ρ1 a := fun a z => mu5 a (m6.shp a (mutA_wipe R6 hw2' (w4.symm ▸ z)))
          have tu : Tm (fun a => O a ∨ a = D) H6 (fun a => O a ∨ a = D) (upd H6 D (.lst (acc ++ [v]))) := ⟨fun a o q n => by rw [upd_ne (fun z : a = D => n (.inr z))]; exact q, fun _ _ _ n => n⟩
          refine ⟨acc, acc6, by rw [zacc.len]; exact Nat.lt_of_le_of_lt hal (Nat.lt_trans hlt (lenOk_lt hlen)), ?_⟩
          refine ⟨acc ++ [v], ads ++ [y], zs', wipeE vs ρc, upd_same, ?_, by simp; omega, R6'.updO (.inr rfl) g0 fun z => hMD (mu6 D z), fun a o q n => ?_, mu6, hz, by simpa using ey⟩
          · exact FzL.app (FzL.tm ((tm5.trans (R5.tm m6)).trans tu) zacc) (FzL.one (Fz.tm tu z6))
          · rw [upd_ne (ne_of_none q hD)]
            exact m6.get a o (fr5 a o q n) fun z => n (mu5 a z)
        · cases c2
      | false =>
        rw [if_neg Bool.false_ne_true] at c2
        rw [if_neg Bool.false_ne_true]
        simp only at c2
        split at c2
        · rename_i hw2
          have hw2' := wipOk_mem hw2
          exact ⟨acc, ads, zs, wipeE vs ρb, acc5, FzL.tm tm5 zacc, by omega, w4 ▸ R5.wipe hw2', fr5, fun a z => mu5 a (mutA_wipe R5 hw2' (w4.symm ▸ z)), c2, ey⟩
        · cases c2
    · have e : i = ds.length := by omega
      subst e
      refine .inl ⟨it2.2 rfl, ?_⟩
      rw [List.drop_length] at c2
      have c2 : some (([] : List DL.D), ρi) = some (zs, ρ2) := c2
      cases c2
      rw [List.append_nil] at ey
      subst ey
      refine k D H2 (new_ahead R m1 R1 hD) (R1.back hwip t12 R2) ⟨fun a o q n => ?_, fun a z => m1.shp a (mu2 a (mutA_back R1 hwip R2 z))⟩ ⟨acc, hacc, zacc⟩
      exact fr2 a o (m1.get a o q n) fun z => n (m1.shp a z)
  · cases h

/-! ### readings that hang on the function alone -/
def tD (K : PySem.W.Frag) (f : FE) : TE := fun σ H Q => ∃ (G : Gh) (O : Addr → Prop) (ρ ρ' : Ev) (d : DL.D), G.K = K ∧ Rep G O H σ ρ ∧ f ρ = some (d, ρ') ∧ ∀ v H', Rep G O H' σ ρ' → Fm σ ρ H ρ' H' → Fz K O H' v d → Q v H'
def ttD (K : PySem.W.Frag) (f : FT) : TT := fun σ H Q => ∃ (G : Gh) (O : Addr → Prop) (ρ ρ' : Ev) (b : Bool), G.K = K ∧ Rep G O H σ ρ ∧ f ρ = some (b, ρ') ∧ ∀ H', Rep G O H' σ ρ' → Fm σ ρ H ρ' H' → Q b H'
def gD (K : PySem.W.Frag) (l : List Nat) (T : DL.D → Ev → Option Ev) : TG := fun v σ H Q => ∃ (G : Gh) (O : Addr → Prop) (ρ ρ' : Ev) (d : DL.D), G.K = K ∧ Rep G O H σ ρ ∧ Fz K O H v d ∧ T d ρ = some ρ' ∧
  ∀ σ', Rep G O H σ' ρ' → Only l σ σ' → (∀ a, MutA σ' ρ' a → MutA σ ρ a) → Q σ' H
theorem DE.can {X : Cx} {e : Expr} {f : FE} (h : ∃ te, DE X e te f) : PE X e (tD X.K f) := by
  obtain ⟨te, p, q⟩ := h
  exact ⟨fun pins s σ H Q I ⟨G, O, ρ, ρ', d, hK, R, h, k⟩ => p.run pins s σ H Q I (q G O H σ ρ ρ' d Q hK R h k)⟩
theorem DTs.can {X : Cx} {es : List Expr} {f : FT} (h : ∃ t, DTs X es t f) : PTs X es (ttD X.K f) := by
  obtain ⟨te, p, q⟩ := h
  exact ⟨fun pins s σ H Q I ⟨G, O, ρ, ρ', d, hK, R, h, k⟩ => p.run pins s σ H Q I (q G O H σ ρ ρ' d Q hK R h k)⟩
theorem DG.can {X : Cx} {e : Expr} {l : List Nat} {T : DL.D → Ev → Option Ev} (h : ∃ g, DG X e g l T) : PG X e (gD X.K l T) := by
  obtain ⟨te, p, q⟩ := h
  exact ⟨fun pins s σ H v u Q I r ⟨G, O, ρ, ρ', d, hK, R, z, h, k⟩ => p.run pins s σ H v u Q I r (q G O H σ ρ ρ' v d Q hK R z h k)⟩
theorem comp_can {X : Cx} {vs l : List Nat} {wi : TI} {fi : FA} {T : DL.D → Ev → Option Ev} {ft : FT} {fe : FE} (hl : ∀ i, i ∈ l → i ∈ vs)
    (qi : ∀ (G : Gh) (O : Addr → Prop) (H : Hp) (σ : Sg) (ρ ρ' : Ev) (ds : List DL.D) (Q : It → Hp → Prop), G.K = X.K → Rep G O H σ ρ → fi ρ = some (ds, ρ') →
      (∀ J H', Rep G O H' σ ρ' → Fm σ ρ H ρ' H' → ItOk X.K J ds O H' → Q J H') → wi σ H Q)
    (G : Gh) (O : Addr → Prop) (H : Hp) (σ : Sg) (ρ ρ' : Ev) (u : Own) (Q : VK) (hK : G.K = X.K) (R : Rep G O H σ ρ) (h : fComp fi T ft fe vs ρ = some (u, ρ'))
    (k : ∀ p H', H p = none → Rep G (fun a => O a ∨ a = p) H' σ ρ' → Fm σ ρ H ρ' H' → OwnAt X.K (fun a => O a ∨ a = p) H' p u → Q (.ref p) H') : tLc wi (gD X.K l T) (ttD X.K ft) (tD X.K fe) vs σ H Q :=
  comp_q hl qi (fun G O H σ ρ ρ' v d Q hK R z h k => ⟨G, O, ρ, ρ', d, hK, R, z, h, k⟩) (fun G O H σ ρ ρ' d Q hK R h k => ⟨G, O, ρ, ρ', d, hK, R, h, k⟩) (fun G O H σ ρ ρ' d Q hK R h k => ⟨G, O, ρ, ρ', d, hK, R, h, k⟩) G O H σ ρ ρ' u Q hK R h k
def inAll (l vs : List Nat) : Bool := l.all fun i => vs.contains i
theorem inAll_mem {l vs : List Nat} (h : inAll l vs = true) : ∀ i, i ∈ l → i ∈ vs := fun i hi => by simpa using List.all_eq_true.mp h i hi
theorem dn_lc {vs : List Nat} (hc : X.calm = true) (hN : X.N.Nodup) (hi : DI X tg iter wi fi) (ok : BlkOk X.N X.env.scope scope own)
    (hg : ∀ (s : Shared) (H : Hp) (C : Addr) (cl : List (Str × Addr)) (fp : List Addr), ∃ g, DG (X.blk s H scope (compEnvC scope cl C X.env) fp) tg g l T)
    (ht : ∀ (s : Shared) (H : Hp) (C : Addr) (cl : List (Str × Addr)) (fp : List Addr), ∃ t, DTs (X.blk s H scope (compEnvC scope cl C X.env) fp) ifs t ft)
    (he : ∀ (s : Shared) (H : Hp) (C : Addr) (cl : List (Str × Addr)) (fp : List Addr), ∃ t, DE (X.blk s H scope (compEnvC scope cl C X.env) fp) elt t fe)
    (hv : own.map (·.2) = vs := by rfl) (hl : inAll l vs = true := by rfl) (hs : ∀ x, foldedSetIterable iter X.env x = pure x := by intro _; rfl) :
    DN X (.ListComp elt [⟨tg, iter, ifs, 0⟩] scope pos) (tLc wi (gD X.K l T) (ttD X.K ft) (tD X.K fe) vs) (fComp fi T ft fe vs) := by
  subst hv
  exact ⟨pe_lc hc hN hi.p ok (fun s H C cl fp => DG.can (hg s H C cl fp)) (fun s H C cl fp => DTs.can (ht s H C cl fp)) (fun s H C cl fp => DE.can (he s H C cl fp)) hs,
   comp_can (inAll_mem hl) hi.q⟩
/-- y = [..] : y's own -/
theorem ds_setLcN {vs : List Nat} (i : Nat) {y : Str} {py : Pos} {spos : Pos} (hc : X.calm = true) (hN : X.N.Nodup) (hi : DI X tg iter wi fi) (ok : BlkOk X.N X.env.scope scope own)
    (hg : ∀ (s : Shared) (H : Hp) (C : Addr) (cl : List (Str × Addr)) (fp : List Addr), ∃ g, DG (X.blk s H scope (compEnvC scope cl C X.env) fp) tg g l T)
    (ht : ∀ (s : Shared) (H : Hp) (C : Addr) (cl : List (Str × Addr)) (fp : List Addr), ∃ t, DTs (X.blk s H scope (compEnvC scope cl C X.env) fp) ifs t ft)
    (he : ∀ (s : Shared) (H : Hp) (C : Addr) (cl : List (Str × Addr)) (fp : List Addr), ∃ t, DE (X.blk s H scope (compEnvC scope cl C X.env) fp) elt t fe)
    (hsw : swapsWith (.ListComp elt [⟨tg, iter, ifs, 0⟩] scope pos) (some (.Name y py)) spos.line X.env = pure true)
    (hv : own.map (·.2) = vs := by rfl) (hl : inAll l vs = true := by rfl) (hy : X.N[i]? = some y := by rfl) (hyl : X.env.scope.names.lookup y = some .local := by rfl) (hs : ∀ x, foldedSetIterable iter X.env x = pure x := by intro _; rfl) :
    DS X (.Assign [.Name y py] (.ListComp elt [⟨tg, iter, ifs, 0⟩] scope pos) spos) (tAsg (tLc wi (gD X.K l T) (ttD X.K ft) (tD X.K fe) vs) (gName i)) (fSetN i (fComp fi T ft fe vs)) := by
  subst hv
  exact ⟨ps_setLc hc hN hy hyl hsw hi.p ok (fun s H C cl fp => DG.can (hg s H C cl fp)) (fun s H C cl fp => DTs.can (ht s H C cl fp)) (fun s H C cl fp => DE.can (he s H C cl fp)) hs,
   fun G O H σ ρ ρ' fl Dn hK R h k => ownN (comp_can (inAll_mem hl) hi.q) hK R h k⟩
end
end DL
end

section
set_option Elab.async false
set_option linter.all false
set_option maxRecDepth 100000
namespace DL
open PySem PySem.Spec PyProof.Rows L2

/-! ### what a def does with data; its promise -/
abbrev FG := List Slot → Option (D × List Slot)
structure ARep (K : PySem.W.Frag) (O : Addr → Prop) (H : Hp) (vs : List V) (ss : List Slot) : Prop where
  len : vs.length = ss.length
  dat : ∀ (i : Nat) (d : D), ss[i]? = some (.dat d) → ∃ v, vs[i]? = some v ∧ Fz K O H v d
  io : ∀ (i : Nat) (u : Own), ss[i]? = some (.io u) → ∃ a, vs[i]? = some (.ref a) ∧ O a ∧ OwnAt K O H a u
  no : ∀ (i : Nat) (s : Slot), ss[i]? = some s → (∃ d, s = .dat d) ∨ (∃ u, s = .io u)
  inj : ∀ (i j : Nat) (a : Addr) (u u' : Own), ss[i]? = some (.io u) → ss[j]? = some (.io u') → vs[i]? = some (.ref a) → vs[j]? = some (.ref a) → i = j
  occ : Occ O H
/-- the addresses that are handed to be changed -/
def IoA (vs : List V) (ss : List Slot) (a : Addr) : Prop := ∃ (i : Nat) (u : Own), ss[i]? = some (.io u) ∧ vs[i]? = some (.ref a)
def KeepIo (ss outs : List Slot) : Prop := ∀ (i : Nat) (u : Own), ss[i]? = some (.io u) → ∃ u', outs[i]? = some (.io u')
def spD (K : PySem.W.Frag) (n : Nat) (g : FG) : Sp := fun vs H Q _ => ∃ O ss d outs, vs.length = n ∧ ARep K O H vs ss ∧ g ss = some (d, outs) ∧
  ∀ v H', (∀ a o, H a = some o → ¬ IoA vs ss a → H' a = some o) → Fz K O H' v d → ARep K O H' vs outs → KeepIo ss outs → Q v H'
def outsOf : List Slot → Ev → List Slot
  | [], _ => []
  | .io u :: ss, s :: ρ => s :: outsOf ss ρ
  | s :: ss, _ :: ρ => s :: outsOf ss ρ
  | ss, [] => ss
/-- a def of N names, its body's function F -/
def bodyG (n : Nat) (F : FS) : FG := fun ss => (F (ss ++ List.replicate (n - ss.length) .un)).bind fun x => match x.1 with
  | .rt d => some (d, outsOf ss x.2)
  | .nx => some (.non, outsOf ss x.2)
  | _ => none
theorem outsOf_len : ∀ (ss : List Slot) (ρ : Ev), (outsOf ss ρ).length = ss.length
  | [], ρ => by unfold outsOf; rfl
  | s :: ss, [] => by cases s <;> rfl
  | s :: ss, r :: ρ => by cases s <;> (simp [outsOf, outsOf_len ss ρ])
theorem outsOf_io : ∀ {ss : List Slot} {ρ : Ev} {i : Nat} {s : Slot} {u : Own}, ss[i]? = some (.io u) → ρ[i]? = some s → (outsOf ss ρ)[i]? = some s
  | [], ρ, i, s, u, h, h' => by simp at h
  | t :: ss, [], i, s, u, h, h' => by simp at h'
  | t :: ss, r :: ρ, 0, s, u, h, h' => by
    have h : t = .io u := by simpa using h
    subst h
    simpa [outsOf] using h'
  | t :: ss, r :: ρ, i + 1, s, u, h, h' => by
    have ih := outsOf_io (ss := ss) (ρ := ρ) (i := i) (s := s) (u := u) (by simpa using h) (by simpa using h')
    cases t <;> simpa [outsOf] using ih
theorem outsOf_dat : ∀ {ss : List Slot} {ρ : Ev} {i : Nat} {s : Slot}, ss[i]? = some s → (∀ u, s ≠ .io u) → (outsOf ss ρ)[i]? = some s
  | [], ρ, i, s, h, h' => by simp at h
  | t :: ss, [], i, s, h, h' => by cases t <;> exact h
  | t :: ss, r :: ρ, 0, s, h, h' => by
    have h : t = s := by simpa using h
    subst h
    cases t with
    | io u => exact absurd rfl (h' u)
    | un => simp [outsOf]
    | dat d => simp [outsOf]
    | own u => simp [outsOf]
  | t :: ss, r :: ρ, i + 1, s, h, h' => by
    have ih := outsOf_dat (ss := ss) (ρ := ρ) (i := i) (s := s) (by simpa using h) h'
    cases t <;> simpa [outsOf] using ih

section
variable {K : PySem.W.Frag}
/-- the entry -/
theorem arep_start {O : Addr → Prop} {H : Hp} {vs : List V} {ss : List Slot} {N : List Str} (A : ARep K O H vs ss) (hn : vs.length ≤ N.length) :
    Rep ⟨K, O, H, fun i a => (∃ u, ss[i]? = some (.io u)) ∧ vs[i]? = some (.ref a)⟩ O H (start N vs) (ss ++ List.replicate (N.length - ss.length) .un) := by
  have g1 : ∀ (i : Nat) (s : Slot), (ss ++ List.replicate (N.length - ss.length) Slot.un)[i]? = some s → s ≠ .un → ss[i]? = some s := fun i s h hs => by
    by_cases hi : i < ss.length
    · rw [List.getElem?_append_left hi] at h; exact h
    · rw [List.getElem?_append_right (by omega), List.getElem?_replicate] at h
      split at h
      · cases h; exact absurd rfl hs
      · cases h
  have g2 : ∀ (i : Nat) (v : V), vs[i]? = some v → (start N vs)[i]? = some (some v) := fun i v h => by
    have hi : i < vs.length := (List.getElem?_eq_some_iff.mp h).1
    unfold L2.start
    rw [List.getElem?_append_left (by simpa using hi), List.getElem?_map, h]; rfl
  have g3 : ∀ (i : Nat) (v : V), (start N vs)[i]? = some (some v) → vs[i]? = some v := fun i v h => by
    unfold L2.start at h
    by_cases hi : i < vs.length
    · rw [List.getElem?_append_left (by simpa using hi), List.getElem?_map] at h
      cases e : vs[i]? with
      | none => rw [e] at h; cases h
      | some w => rw [e] at h; cases h; rfl
    · rw [List.getElem?_append_right (by simpa using hi), List.getElem?_replicate] at h
      split at h <;> cases h
  refine ⟨?_, fun i d h => ?_, fun i s u h1 h2 => ?_, fun i u a h1 h2 => ?_, fun i u a h1 h2 => ?_, fun i a h => ?_, fun i j a s s' u u' h1 h2 h3 h4 h5 h6 => ?_, A.occ, fun _ h => h, fun _ _ h _ => h, fun a h => A.occ a h, fun i a h => ?_⟩
  · unfold L2.start
    have := A.len
    simp only [List.length_append, List.length_map, List.length_replicate]
    omega
  · obtain ⟨v, e, z⟩ := A.dat i d (g1 i _ h (by intro z; cases z))
    exact ⟨v, g2 i v e, z⟩
  · have h0 := g1 i s h1 (by intro z; subst z; cases h2)
    rcases A.no i s h0 with ⟨d, rfl⟩ | ⟨w, rfl⟩
    · cases h2
    · cases h2
      obtain ⟨a, e, o, z⟩ := A.io i _ h0
      exact ⟨a, g2 i _ e, o, z⟩
  · have h0 := g1 i _ h1 (by intro z; cases z)
    rcases A.no i _ h0 with ⟨d, z⟩ | ⟨w, z⟩ <;> cases z
  · exact ⟨⟨u, g1 i _ h1 (by intro z; cases z)⟩, g3 i _ h2⟩
  · obtain ⟨⟨u, h1⟩, h2⟩ := h
    have hi : i < ss.length := (List.getElem?_eq_some_iff.mp h1).1
    exact ⟨g2 i _ h2, u, by rw [List.getElem?_append_left hi]; exact h1⟩
  · have k1 := g1 i s h1 (by intro z; subst z; cases h2)
    have k2 := g1 j s' h3 (by intro z; subst z; cases h4)
    rcases A.no i s k1 with ⟨d, rfl⟩ | ⟨w, rfl⟩
    · cases h2
    rcases A.no j s' k2 with ⟨d, rfl⟩ | ⟨w', rfl⟩
    · cases h4
    exact A.inj i j a w w' k1 k2 (g3 i _ h5) (g3 j _ h6)
  · obtain ⟨⟨u, h1⟩, h2⟩ := h
    obtain ⟨b, e, o, _⟩ := A.io i u h1
    rw [h2] at e; cases e; exact o
/-- the end: what the caller gets back -/
theorem arep_end {O O' : Addr → Prop} {H H' : Hp} {vs : List V} {ss : List Slot} {σ' : Sg} {ρ' : Ev} {v : V} {d : D} (A : ARep K O H vs ss)
    (R : Rep ⟨K, O, H, fun i a => (∃ u, ss[i]? = some (.io u)) ∧ vs[i]? = some (.ref a)⟩ O' H' σ' ρ') (z : Fz K O' H' v d) :
    (∀ a o, H a = some o → ¬ IoA vs ss a → H' a = some o) ∧ Fz K O H' v d ∧ ARep K O H' vs (outsOf ss ρ') ∧ KeepIo ss (outsOf ss ρ') := by
  have fr : ∀ a o, H a = some o → ¬ IoA vs ss a → H' a = some o := fun a o h n => R.frm a o h fun i ⟨⟨u, h1⟩, h2⟩ => n ⟨i, u, h1, h2⟩
  have tl : Tm O' H' O H' := tm_less fun a h => R.sup a h
  have t : Tm O H O H' := ⟨fun a o h n => fr a o h fun ⟨i, u, h1, h2⟩ => by
    obtain ⟨b, e, ho, _⟩ := A.io i u h1
    rw [h2] at e; cases e; exact n ho, fun _ _ _ n => n⟩
  have io' : ∀ (i : Nat) (u : Own) (a : Addr), ss[i]? = some (.io u) → vs[i]? = some (.ref a) → ∃ u', ρ'[i]? = some (.io u') ∧ σ'[i]? = some (some (.ref a)) := fun i u a h1 h2 => by
    obtain ⟨e1, u', e2⟩ := R.ios i a ⟨⟨u, h1⟩, h2⟩
    exact ⟨u', e2, e1⟩
  have back : ∀ (i : Nat) (s : Slot), (outsOf ss ρ')[i]? = some s → ∃ s0, ss[i]? = some s0 := fun i s h => by
    have hi : i < ss.length := by rw [← outsOf_len ss ρ']; exact (List.getElem?_eq_some_iff.mp h).1
    exact ⟨ss[i], by simp [hi]⟩
  have kind : ∀ (i : Nat) (s : Slot), (outsOf ss ρ')[i]? = some s → (∃ d, ss[i]? = some (.dat d) ∧ s = .dat d) ∨ ∃ u u' a, ss[i]? = some (.io u) ∧ s = .io u' ∧ vs[i]? = some (.ref a) ∧ ρ'[i]? = some (.io u') ∧ σ'[i]? = some (some (.ref a)) := fun i s h => by
    obtain ⟨s0, h0⟩ := back i s h
    rcases A.no i s0 h0 with ⟨d, rfl⟩ | ⟨u, rfl⟩
    · have := outsOf_dat (ρ := ρ') h0 (by intro u z; cases z)
      rw [h] at this; cases this
      exact .inl ⟨d, h0, rfl⟩
    · obtain ⟨a, e, _⟩ := A.io i u h0
      obtain ⟨u', e1, e2⟩ := io' i u a h0 e
      have := outsOf_io h0 e1
      rw [h] at this; cases this
      exact .inr ⟨u, u', a, h0, rfl, e, e1, e2⟩
  refine ⟨fr, Fz.tm tl z, ⟨by rw [outsOf_len]; exact A.len, fun i d h => ?_, fun i u h => ?_, fun i s h => ?_, fun i j a u u' h1 h2 h3 h4 => ?_, fun a h => R.occ a (R.sup a h)⟩, fun i u h => ?_⟩
  · rcases kind i _ h with ⟨d', h0, e⟩ | ⟨_, _, _, _, e, _⟩
    · cases e
      obtain ⟨w, e1, z1⟩ := A.dat i _ h0
      exact ⟨w, e1, Fz.tm t z1⟩
    · cases e
  · rcases kind i _ h with ⟨d', h0, e⟩ | ⟨u0, u', a, h0, e, e1, e2, e3⟩
    · cases e
    · cases e
      obtain ⟨b, eb, _, zb⟩ := R.mu i _ _ e2 rfl
      rw [e3] at eb; cases eb
      obtain ⟨b, ebb, ho, _⟩ := A.io i u0 h0
      rw [e1] at ebb; cases ebb
      exact ⟨a, e1, ho, zb.tm tl fun _ h => h⟩
  · rcases kind i _ h with ⟨d', _, e⟩ | ⟨_, u', _, _, e, _⟩
    · exact .inl ⟨_, e⟩
    · exact .inr ⟨_, e⟩
  · rcases kind i _ h1 with ⟨d', _, e⟩ | ⟨w1, _, _, k1, _, _⟩
    · cases e
    rcases kind j _ h2 with ⟨d', _, e⟩ | ⟨w2, _, _, k2, _, _⟩
    · cases e
    exact A.inj i j a w1 w2 k1 k2 h3 h4
  · obtain ⟨a, e, _⟩ := A.io i u h
    obtain ⟨u', e1, _⟩ := io' i u a h e
    exact ⟨u', outsOf_io h e1⟩
end

section
variable {P : Program} {w : World} {K : PySem.W.Frag} {mg : Str → Option Value} {base : Heap}
/-- THE RULE for a def: its body, statement by statement, as a function of data -/
theorem fn_D {x qual : Str} {st : Stmt} {f : Addr} {fd : FuncData} {N ps : List Str} {k n : Nat} {t : TS} {F : FS} (FF : Fun K x qual st f fd) (S : FnScope N ps (defScope st)) (hn : ps.length = n)
    (hbody : ∀ (cdv : Value) (A : Around) (outer : List Env) (s : Shared) (H : Hp) (E : XK), Room k (A.deeper (envOfC qual (defScope st) s.heap.objs.size f cdv)) →
      DSs (cxOf CX0 P w K mg base N qual (defScope st) f cdv A outer s H E).nox (defBody st) t F) : FnOk P w K mg base CX0 (k + 1) f fd ps (spD K n (bodyG N.length F)) := by
  refine FF.ok S (fun vs H Q E h => ?_) (fun cdv A outer s H vs Q E hr h => ?_)
  · obtain ⟨O, ss, d, outs, hl, _⟩ := h
    rw [hl, hn]
  · obtain ⟨O, ss, d, outs, hl, A1, hg, k1⟩ := h
    obtain ⟨⟨fl, ρ'⟩, h1, h2⟩ := bind_ok hg
    have hb := hbody cdv A outer s H E hr
    have hN : vs.length ≤ N.length := by
      have := congrArg List.length S.pre
      rw [List.length_take] at this
      omega
    refine ⟨t, hb.p, ?_⟩
    have R0 := arep_start (N := N) A1 hN
    refine hb.q _ O H _ _ ρ' fl _ rfl R0 h1 fun O' H' σ' R' t' => ?_
    cases fl with
    | nx =>
      cases h2
      obtain ⟨fr, z, A2, ki⟩ := arep_end A1 R' (v := .non) (d := .non) (by unfold Fz; rfl)
      exact k1 _ _ fr z A2 ki
    | rt r =>
      cases h2
      intro v z
      obtain ⟨fr, z, A2, ki⟩ := arep_end A1 R' z
      exact k1 _ _ fr z A2 ki
    | bk => cases h2
    | ct => cases h2
end

/-! ### arguments: data, or a slot of one's own that the callee may change -/
inductive Ar where | d (d : D) | r (i : Nat)
abbrev FR := Ev → Option (List Ar × Ev)
def ArV (K : PySem.W.Frag) (O : Addr → Prop) (H : Hp) (σ : Sg) : List V → List Ar → Prop
  | vs, [] => vs = []
  | vs, .d d :: as => ∃ v r, vs = v :: r ∧ Fz K O H v d ∧ ArV K O H σ r as
  | vs, .r i :: as => ∃ v r, vs = v :: r ∧ σ[i]? = some (some v) ∧ ArV K O H σ r as
theorem ArV.tm {K : PySem.W.Frag} {O O' : Addr → Prop} {H H' : Hp} {σ : Sg} (t : Tm O H O' H') : ∀ {vs : List V} {as : List Ar}, ArV K O H σ vs as → ArV K O' H' σ vs as
  | vs, [], h => h
  | vs, .d d :: as, h => by
    obtain ⟨v, r, e, z, h⟩ := h
    exact ⟨v, r, e, Fz.tm t z, ArV.tm t h⟩
  | vs, .r i :: as, h => by
    obtain ⟨v, r, e, z, h⟩ := h
    exact ⟨v, r, e, z, ArV.tm t h⟩
structure DR (X : Cx) (es : List Expr) (t : TA) (f : FR) : Prop where
  p : PA X es t
  q : ∀ (G : Gh) (O : Addr → Prop) (H : Hp) (σ : Sg) (ρ ρ' : Ev) (as : List Ar) (Q : List V → Hp → Prop), G.K = X.K → Rep G O H σ ρ → f ρ = some (as, ρ') →
    (∀ vs H', Rep G O H' σ ρ' → Fm σ ρ H ρ' H' → ArV X.K O H' σ vs as → Q vs H') → t σ H Q
def frNil : FR := fun ρ => some ([], ρ)
def frD (f : FE) (g : FR) : FR := fun ρ => (f ρ).bind fun x => (g x.2).bind fun y => some (.d x.1 :: y.1, y.2)
def frR (i : Nat) (g : FR) : FR := fun ρ => match ρ[i]? with
  | some (.own _) => (g ρ).bind fun y => some (.r i :: y.1, y.2)
  | some (.io _) => (g ρ).bind fun y => some (.r i :: y.1, y.2)
  | _ => none
/-- the slots that the callee sees -/
def argS (ρ : Ev) : List Ar → Option (List Slot)
  | [] => some []
  | .d d :: as => (argS ρ as).bind fun r => some (.dat d :: r)
  | .r i :: as => (ρ[i]?.bind Slot.mu).bind fun u => (argS ρ as).bind fun r => some (.io u :: r)
def refsOf : List Ar → List Nat
  | [] => []
  | .d _ :: as => refsOf as
  | .r i :: as => i :: refsOf as
/-- what the callee leaves in them -/
def putB : Ev → List Ar → List Slot → Ev
  | ρ, .r i :: as, s :: ss => (match ρ[i]?, s.mu with
    | some t, some u => putB (ρ.set i (t.put u)) as ss
    | _, _ => ρ)
  | ρ, .d _ :: as, _ :: ss => putB ρ as ss
  | ρ, _, _ => ρ
def nodupB (l : List Nat) : Bool := decide l.Nodup
def fCall (n : Nat) (g : FG) (f : FR) : FE := fun ρ => (f ρ).bind fun x => if nodupB (refsOf x.1) = true ∧ x.1.length = n then (argS x.2 x.1).bind fun ss => (g ss).bind fun y => some (y.1, putB x.2 x.1 y.2) else none
section
variable {X : Cx} {e : Expr} {es : List Expr} {pos : Pos} {ta : TE} {tx : TA} {f : FE} {g : FR}
theorem dr_nil : DR X [] tNil frNil := ⟨pa_nil, fun G O H σ ρ ρ' d Q hK R h k => by cases h; exact k [] H R Fm.refl rfl⟩
theorem dr_d (h : DE X e ta f) (h2 : DR X es tx g) (hs : starEach (e :: es) X.env = (false, eval e X.env) :: starEach es X.env := by rfl) : DR X (e :: es) (tCons ta tx) (frD f g) := by
  obtain ⟨p, q⟩ := h
  obtain ⟨p2, q2⟩ := h2
  refine ⟨pa_cons p p2 hs, fun G O H σ ρ ρ' d Q hK R h k => ?_⟩
  obtain ⟨⟨x, ρ1⟩, h1, h⟩ := bind_ok h
  obtain ⟨⟨y, ρ2⟩, h2, h⟩ := bind_ok h
  cases h
  refine q G O H σ ρ ρ1 x _ hK R h1 fun v H1 R1 m1 z1 => ?_
  refine q2 G O H1 σ ρ1 _ y _ hK R1 h2 fun vs H2 R2 m2 z2 => ?_
  exact k _ H2 R2 (m1.trans m2) ⟨v, vs, rfl, Fz.tm (R1.tm m2) z1, z2⟩
theorem dr_r (i : Nat) {x : Str} {pos' : Pos} (h2 : DR X es tx g) (hN : X.N[i]? = some x := by rfl) (hv : Vis X.env.scope x := by first | exact Or.inl rfl | exact Or.inr (Or.inl rfl) | exact Or.inr (Or.inr rfl))
    (hs : starEach ((.Name x pos' : Expr) :: es) X.env = (false, eval (.Name x pos') X.env) :: starEach es X.env := by rfl) (hd : (x == ("__debug__" : Str)) = false := by decide)
    (hcd : (x == ("__classdict__" : Str)) = false := by decide) : DR X (.Name x pos' :: es) (tCons (tVar i) tx) (frR i g) := by
  obtain ⟨p2, q2⟩ := h2
  refine ⟨pa_cons (pe_var hN hv hd hcd) p2 hs, fun G O H σ ρ ρ' as Q hK R h k => ?_⟩
  have go : ∀ (s : Slot) (u : Own), ρ[i]? = some s → s.mu = some u → (g ρ).bind (fun y => some (Ar.r i :: y.1, y.2)) = some (as, ρ') → tCons (tVar i) tx σ H Q := fun s u e m h => by
    obtain ⟨⟨y, ρ2⟩, h2, h⟩ := bind_ok h
    cases h
    obtain ⟨a, ea, _⟩ := R.mu i s u e m
    refine ⟨.ref a, ea, ?_⟩
    refine q2 G O H σ ρ _ y _ hK R h2 fun vs H2 R2 m2 z2 => ?_
    exact k _ H2 R2 m2 ⟨.ref a, vs, rfl, ea, z2⟩
  unfold frR at h
  split at h
  · rename_i u e; exact go _ u e rfl h
  · rename_i u e; exact go _ u e rfl h
  · cases h
end
/-! ### a call -/
section
variable {G : Gh} {O : Addr → Prop} {H : Hp} {σ : Sg} {ρ : Ev}
theorem Rep.wr {ρ' : Ev} {H' : Hp} (R : Rep G O H σ ρ) (W : Nat → Prop) (hlen : ρ'.length = ρ.length) (hout : ∀ j : Nat, ¬ W j → ρ'[j]? = ρ[j]?)
    (hin : ∀ j : Nat, W j → ∃ (s : Slot) (u u' : Own) (a : Addr), ρ[j]? = some s ∧ s.mu = some u ∧ ρ'[j]? = some (s.put u') ∧ σ[j]? = some (some (.ref a)) ∧ OwnAt G.K O H' a u')
    (fr : ∀ a o, H a = some o → (∀ j : Nat, W j → σ[j]? ≠ some (some (.ref a))) → H' a = some o) : Rep G O H' σ ρ' ∧ Fm σ ρ H ρ' H' := by
  have mo : ∀ (j : Nat) (a : Addr), W j → σ[j]? = some (some (.ref a)) → O a := fun j a hw ha => by
    obtain ⟨s, u, u', b, h1, h2, _, h4, _⟩ := hin j hw
    obtain ⟨c, hc, ho, _⟩ := R.mu j s u h1 h2
    rw [ha] at hc; cases hc; exact ho
  have t : Tm O H O H' := ⟨fun a o h n => fr a o h fun j hw e => n (mo j a hw e), fun _ _ _ n => n⟩
  have back : ∀ (j : Nat) (s' : Slot) (w : Own), ρ'[j]? = some s' → s'.mu = some w → ∃ s u, ρ[j]? = some s ∧ s.mu = some u := fun j s' w h1 h2 => by
    by_cases hw : W j
    · obtain ⟨s, u, _, _, h3, h4, _⟩ := hin j hw
      exact ⟨s, u, h3, h4⟩
    · rw [hout j hw] at h1; exact ⟨s', w, h1, h2⟩
  refine ⟨⟨by rw [hlen]; exact R.len, fun j d h => ?_, fun j s w h1 h2 => ?_, fun j w b h1 h2 => ?_, fun j w b h1 h2 => ?_, fun j b h => ?_, fun i j a s s' u u' h1 h2 h3 h4 h5 h6 => ?_, fun a h z => ?_, R.sup, fun a q h n => ?_, R.oc0, R.ioc⟩, ⟨fun a o h n => fr a o h fun j hw e => n ?_, fun a ⟨j, s, w, h1, h2, h3⟩ => ?_⟩⟩
  · by_cases hw : W j
    · obtain ⟨s, u, u', a, _, _, h3, _⟩ := hin j hw
      rw [h3] at h
      cases s <;> cases h
    · rw [hout j hw] at h
      obtain ⟨v, e, z⟩ := R.dat j d h
      exact ⟨v, e, Fz.tm t z⟩
  · by_cases hw : W j
    · obtain ⟨s0, u, u', a, _, _, h3, h4, h5⟩ := hin j hw
      rw [h3] at h1; cases h1
      rw [put_mu] at h2; cases h2
      exact ⟨a, h4, mo j a hw h4, h5⟩
    · rw [hout j hw] at h1
      obtain ⟨a, e, ho, z⟩ := R.mu j s w h1 h2
      refine ⟨a, e, ho, z.tm t fun o h => fr a o h fun i hi ei => ?_⟩
      obtain ⟨s1, u1, _, _, k1, k2, _⟩ := hin i hi
      exact hw (R.inj j i a s s1 w u1 h1 h2 k1 k2 e ei ▸ hi)
  · by_cases hw : W j
    · obtain ⟨s0, u, u', a, k1, k2, h3, h4, h5⟩ := hin j hw
      rw [h3] at h1
      cases s0 with
      | own x => exact R.own j x b k1 h2
      | io x => cases h1
      | un => cases k2
      | dat d => cases k2
    · rw [hout j hw] at h1; exact R.own j w b h1 h2
  · by_cases hw : W j
    · obtain ⟨s0, u, u', a, k1, k2, h3, h4, h5⟩ := hin j hw
      rw [h3] at h1
      cases s0 with
      | io x => exact R.io j x b k1 h2
      | own x => cases h1
      | un => cases k2
      | dat d => cases k2
    · rw [hout j hw] at h1; exact R.io j w b h1 h2
  · obtain ⟨h1, w, h2⟩ := R.ios j b h
    refine ⟨h1, ?_⟩
    by_cases hw : W j
    · obtain ⟨s0, u, u', a, k1, k2, h3, h4, h5⟩ := hin j hw
      rw [h2] at k1; cases k1
      exact ⟨u', h3⟩
    · rw [hout j hw]; exact ⟨w, h2⟩
  · obtain ⟨s1, u1, p1, p2⟩ := back i s u h1 h2
    obtain ⟨s2, u2, p3, p4⟩ := back j s' u' h3 h4
    exact R.inj i j a s1 s2 u1 u2 p1 p2 p3 p4 h5 h6
  · by_cases hw : ∃ j, W j ∧ σ[j]? = some (some (.ref a))
    · obtain ⟨j, hw, ha⟩ := hw
      obtain ⟨s0, u, u', b, k1, k2, h3, h4, h5⟩ := hin j hw
      rw [ha] at h4; cases h4
      obtain ⟨o, ho⟩ := h5.some
      rw [ho] at z; cases z
    · cases q : H a with
      | none => exact R.occ a h q
      | some o =>
        rw [fr a o q fun j hj e => hw ⟨j, hj, e⟩] at z; cases z
  · refine fr a q (R.frm a q h n) fun j hw e => ?_
    obtain ⟨s0, u, u', b, k1, k2, h3, h4, h5⟩ := hin j hw
    cases s0 with
    | own x => rw [R.own j x a k1 e] at h; cases h
    | io x => exact n j (R.io j x a k1 e)
    | un => cases k2
    | dat d => cases k2
  · obtain ⟨s0, u, u', b, k1, k2, _⟩ := hin j hw
    exact ⟨j, s0, u, k1, k2, e⟩
  · obtain ⟨s1, u1, p1, p2⟩ := back j s w h1 h2
    exact ⟨j, s1, u1, p1, p2, h3⟩
end
theorem mem_refs : ∀ {as : List Ar} {j i : Nat}, as[j]? = some (.r i) → i ∈ refsOf as
  | [], j, i, h => by simp at h
  | .d _ :: as, 0, i, h => by simp at h
  | .d _ :: as, j + 1, i, h => by unfold refsOf; exact mem_refs (by simpa using h)
  | .r k :: as, 0, i, h => by
    have e : k = i := by simpa using h
    subst e; unfold refsOf; exact List.mem_cons_self
  | .r k :: as, j + 1, i, h => by unfold refsOf; exact List.mem_cons_of_mem _ (mem_refs (by simpa using h))
theorem refs_mem : ∀ {as : List Ar} {i : Nat}, i ∈ refsOf as → ∃ j : Nat, as[j]? = some (.r i)
  | [], i, h => by unfold refsOf at h; simp at h
  | .d _ :: as, i, h => by
    unfold refsOf at h
    obtain ⟨j, e⟩ := refs_mem h
    exact ⟨j + 1, by simpa using e⟩
  | .r k :: as, i, h => by
    unfold refsOf at h
    rcases List.mem_cons.mp h with e | h
    · exact ⟨0, by simp [e]⟩
    · obtain ⟨j, e⟩ := refs_mem h
      exact ⟨j + 1, by simpa using e⟩
theorem refs_inj : ∀ {as : List Ar} {j k i : Nat}, (refsOf as).Nodup → as[j]? = some (.r i) → as[k]? = some (.r i) → j = k
  | [], j, k, i, nd, h, h' => by simp at h
  | .d _ :: as, 0, k, i, nd, h, h' => by simp at h
  | .d _ :: as, j + 1, 0, i, nd, h, h' => by simp at h'
  | .d _ :: as, j + 1, k + 1, i, nd, h, h' => by
    unfold refsOf at nd
    exact congrArg (· + 1) (refs_inj (as := as) (j := j) (k := k) (i := i) nd (by simpa using h) (by simpa using h'))
  | .r m :: as, 0, 0, i, nd, h, h' => rfl
  | .r m :: as, 0, k + 1, i, nd, h, h' => by
    unfold refsOf at nd
    have e : m = i := by simpa using h
    exact absurd (mem_refs (as := as) (j := k) (i := i) (by simpa using h')) (e ▸ (List.nodup_cons.mp nd).1)
  | .r m :: as, j + 1, 0, i, nd, h, h' => by
    unfold refsOf at nd
    have e : m = i := by simpa using h'
    exact absurd (mem_refs (as := as) (j := j) (i := i) (by simpa using h)) (e ▸ (List.nodup_cons.mp nd).1)
  | .r m :: as, j + 1, k + 1, i, nd, h, h' => by
    unfold refsOf at nd
    exact congrArg (· + 1) (refs_inj (as := as) (j := j) (k := k) (i := i) (List.nodup_cons.mp nd).2 (by simpa using h) (by simpa using h'))
theorem argS_ok {K : PySem.W.Frag} {O : Addr → Prop} {H : Hp} {σ : Sg} {ρ : Ev} : ∀ {as : List Ar} {vs : List V} {ss : List Slot}, ArV K O H σ vs as → argS ρ as = some ss → vs.length = as.length ∧ ss.length = as.length ∧
    (∀ (j : Nat) (d : D), as[j]? = some (.d d) → ss[j]? = some (.dat d) ∧ ∃ v, vs[j]? = some v ∧ Fz K O H v d) ∧
    (∀ j i : Nat, as[j]? = some (.r i) → ∃ u s, ρ[i]? = some s ∧ s.mu = some u ∧ ss[j]? = some (.io u) ∧ ∃ v, vs[j]? = some v ∧ σ[i]? = some (some v))
  | [], vs, ss, h, h' => by
    have e : vs = [] := h
    have e' : some [] = some ss := h'
    cases e'; subst e
    exact ⟨rfl, rfl, fun j d h => by simp at h, fun j d h => by simp at h⟩
  | .d d :: as, vs, ss, h, h' => by
    obtain ⟨v, r, e, z, h⟩ := h
    obtain ⟨rs, h1, h2⟩ := bind_ok (show (argS ρ as).bind (fun r => some (.dat d :: r)) = some ss from h')
    cases h2; subst e
    obtain ⟨l1, l2, q1, q2⟩ := argS_ok h h1
    refine ⟨by simp [l1], by simp [l2], fun j d' hj => ?_, fun j i hj => ?_⟩
    · cases j with
      | zero =>
        have e : d = d' := by simpa using hj
        subst e; exact ⟨by simp, v, by simp, z⟩
      | succ j => simpa using q1 j d' (by simpa using hj)
    · cases j with
      | zero => simp at hj
      | succ j => simpa using q2 j i (by simpa using hj)
  | .r k :: as, vs, ss, h, h' => by
    obtain ⟨v, r, e, z, h⟩ := h
    obtain ⟨u, h0, h'⟩ := bind_ok (show (ρ[k]?.bind Slot.mu).bind (fun u => (argS ρ as).bind fun r => some (.io u :: r)) = some ss from h')
    obtain ⟨rs, h1, h2⟩ := bind_ok h'
    obtain ⟨s, h3, h4⟩ := bind_ok h0
    cases h2; subst e
    obtain ⟨l1, l2, q1, q2⟩ := argS_ok h h1
    refine ⟨by simp [l1], by simp [l2], fun j d' hj => ?_, fun j i hj => ?_⟩
    · cases j with
      | zero => simp at hj
      | succ j => simpa using q1 j d' (by simpa using hj)
    · cases j with
      | zero =>
        have e : k = i := by simpa using hj
        subst e; exact ⟨u, s, h3, h4, by simp, v, by simp, z⟩
      | succ j => simpa using q2 j i (by simpa using hj)
theorem putB_ok : ∀ {as : List Ar} {outs : List Slot} {ρ : Ev}, (refsOf as).Nodup → outs.length = as.length →
    (∀ j i : Nat, as[j]? = some (.r i) → (∃ s u, ρ[i]? = some s ∧ s.mu = some u) ∧ ∃ s' u', outs[j]? = some s' ∧ s'.mu = some u') →
    (putB ρ as outs).length = ρ.length ∧ (∀ i : Nat, i ∉ refsOf as → (putB ρ as outs)[i]? = ρ[i]?) ∧
    (∀ j i : Nat, as[j]? = some (.r i) → ∃ s s' u', ρ[i]? = some s ∧ outs[j]? = some s' ∧ s'.mu = some u' ∧ (putB ρ as outs)[i]? = some (s.put u'))
  | [], outs, ρ, nd, hl, h => ⟨by unfold putB; rfl, fun i _ => by unfold putB; rfl, fun j i h => by simp at h⟩
  | .d d :: as, [], ρ, nd, hl, h => by simp at hl
  | .d d :: as, s :: outs, ρ, nd, hl, h => by
    unfold refsOf at nd
    obtain ⟨h1, h2, h3⟩ := putB_ok (as := as) (outs := outs) (ρ := ρ) nd (by simpa using hl) fun j i hj => by simpa using h (j + 1) i (by simpa using hj)
    have e : putB ρ (.d d :: as) (s :: outs) = putB ρ as outs := by cases s <;> rfl
    rw [e]
    refine ⟨h1, fun i hi => h2 i (by unfold refsOf at hi; exact hi), fun j i hj => ?_⟩
    cases j with
    | zero => simp at hj
    | succ j => simpa using h3 j i (by simpa using hj)
  | .r k :: as, [], ρ, nd, hl, h => by simp at hl
  | .r k :: as, s :: outs, ρ, nd, hl, h => by
    unfold refsOf at nd
    obtain ⟨nk, nd⟩ := List.nodup_cons.mp nd
    obtain ⟨⟨t, u, ht, hu⟩, s', u', hs, hu'⟩ := h 0 k (by simp)
    have es : s = s' := by simpa using hs
    subst es
    have e : putB ρ (.r k :: as) (s :: outs) = putB (ρ.set k (t.put u')) as outs := by
      show (match ρ[k]?, s.mu with | some t, some u => putB (ρ.set k (t.put u)) as outs | _, _ => ρ) = _
      rw [ht, hu']
    rw [e]
    have hk : k < ρ.length := (List.getElem?_eq_some_iff.mp ht).1
    obtain ⟨h1, h2, h3⟩ := putB_ok (as := as) (outs := outs) (ρ := ρ.set k (t.put u')) nd (by simpa using hl) fun j i hj => by
      have q := h (j + 1) i (by simpa using hj)
      have hi : i ≠ k := fun e => nk (e ▸ mem_refs hj)
      rw [List.getElem?_set_ne (Ne.symm hi)]
      simpa using q
    refine ⟨by simpa using h1, fun i hi => ?_, fun j i hj => ?_⟩
    · unfold refsOf at hi
      rw [h2 i fun z => hi (List.mem_cons_of_mem _ z), List.getElem?_set_ne (fun e => hi (by simp [e]))]
    · cases j with
      | zero =>
        have e : k = i := by simpa using hj
        subst e
        exact ⟨t, s, u', ht, by simp, hu', by rw [h2 k nk, List.getElem?_set_self hk]⟩
      | succ j =>
        have hj' : as[j]? = some (.r i) := by simpa using hj
        obtain ⟨a, b, c, q1, q2, q3, q4⟩ := h3 j i hj'
        have hi : i ≠ k := fun e => nk (e ▸ mem_refs hj')
        rw [List.getElem?_set_ne (Ne.symm hi)] at q1
        exact ⟨a, b, c, q1, by simpa using q2, q3, q4⟩

/-- the callee runs: its promise from what the caller has -/
theorem call_ok {K : PySem.W.Frag} {G : Gh} {O : Addr → Prop} {H : Hp} {σ : Sg} {ρ : Ev} {vs : List V} {as : List Ar} {ss outs : List Slot} {d : D} {n : Nat} {g : FG} {Q : VK} {E : XK} (hK : G.K = K) (R : Rep G O H σ ρ) (zv : ArV K O H σ vs as)
    (nd : (refsOf as).Nodup) (hn : as.length = n) (hs : argS ρ as = some ss) (hg : g ss = some (d, outs))
    (k : ∀ v H', Rep G O H' σ (putB ρ as outs) → Fm σ ρ H (putB ρ as outs) H' → Fz K O H' v d → Q v H') : spD K n g vs H Q E := by
  obtain ⟨l1, l2, q1, q2⟩ := argS_ok zv hs
  have lt : ∀ (j : Nat) (s : Slot), ss[j]? = some s → ∃ a, as[j]? = some a := fun j s h => by
    have hj : j < as.length := by rw [← l2]; exact (List.getElem?_eq_some_iff.mp h).1
    exact ⟨as[j], by simp [hj]⟩
  have isR : ∀ (j : Nat) (u : Own), ss[j]? = some (.io u) → ∃ i, as[j]? = some (.r i) := fun j u h => by
    obtain ⟨a, ha⟩ := lt j _ h
    cases a with
    | d x => rw [(q1 j x ha).1] at h; cases h
    | r i => exact ⟨i, ha⟩
  refine ⟨O, ss, d, outs, by rw [l1, hn], ⟨by rw [l1, l2], fun j x h => ?_, fun j u h => ?_, fun j s h => ?_, fun j m a u u' h1 h2 h3 h4 => ?_, R.occ⟩, hg, fun v H' fr z A' ki => ?_⟩
  · obtain ⟨a, ha⟩ := lt j _ h
    cases a with
    | d y => 
      obtain ⟨e, r⟩ := q1 j y ha
      rw [h] at e; cases e; exact r
    | r i =>
      obtain ⟨u, s, _, _, e, _⟩ := q2 j i ha
      rw [h] at e; cases e
  · obtain ⟨i, ha⟩ := isR j u h
    obtain ⟨u', s, h1, h2, e, v, hv, hσ⟩ := q2 j i ha
    rw [h] at e; cases e
    obtain ⟨a, ea, ho, z⟩ := R.mu i s _ h1 h2
    rw [hσ] at ea; cases ea
    exact ⟨a, hv, ho, hK ▸ z⟩
  · obtain ⟨a, ha⟩ := lt j _ h
    cases a with
    | d y => exact .inl ⟨y, by rw [(q1 j y ha).1] at h; cases h; rfl⟩
    | r i =>
      obtain ⟨u, _, _, _, e, _⟩ := q2 j i ha
      exact .inr ⟨u, by rw [h] at e; cases e; rfl⟩
  · obtain ⟨i1, a1⟩ := isR j u h1
    obtain ⟨i2, a2⟩ := isR m u' h2
    obtain ⟨u1, s1, p1, p2, e1, v1, p3, p4⟩ := q2 j i1 a1
    obtain ⟨u2, s2, r1, r2, e2, v2, r3, r4⟩ := q2 m i2 a2
    rw [h3] at p3; cases p3
    rw [h4] at r3; cases r3
    have e := R.inj i1 i2 a s1 s2 u1 u2 p1 p2 r1 r2 p4 r4
    subst e
    exact refs_inj nd a1 a2
  · have lo : outs.length = as.length := by rw [← A'.len, l1]
    have outR : ∀ j i : Nat, as[j]? = some (.r i) → ∃ (s : Slot) (u u' : Own) (a : Addr), ρ[i]? = some s ∧ s.mu = some u ∧ outs[j]? = some (.io u') ∧ vs[j]? = some (.ref a) ∧ σ[i]? = some (some (.ref a)) ∧ OwnAt K O H' a u' := fun j i hj => by
      obtain ⟨u, s, h1, h2, e, v, hv, hσ⟩ := q2 j i hj
      obtain ⟨u', e'⟩ := ki j u e
      obtain ⟨a, ea, _, za⟩ := A'.io j u' e'
      rw [hv] at ea; cases ea
      exact ⟨s, u, u', a, h1, h2, e', hv, hσ, za⟩
    obtain ⟨p1, p2, p3⟩ := putB_ok (ρ := ρ) nd lo fun j i hj => by
      obtain ⟨s, u, u', a, h1, h2, h3, _⟩ := outR j i hj
      exact ⟨⟨s, u, h1, h2⟩, _, u', h3, rfl⟩
    obtain ⟨R', m'⟩ := R.wr (ρ' := putB ρ as outs) (H' := H') (fun i => i ∈ refsOf as) p1 p2 (fun i hi => by
      obtain ⟨j, hj⟩ := refs_mem hi
      obtain ⟨s, u, u', a, h1, h2, h3, h4, h5, h6⟩ := outR j i hj
      obtain ⟨s1, s2, u2, e1, e2, e3, e4⟩ := p3 j i hj
      rw [h1] at e1; cases e1
      rw [h3] at e2; cases e2
      cases e3
      exact ⟨s, u, u', a, h1, h2, e4, h5, hK ▸ h6⟩) fun a o h n => fr a o h fun ⟨j, u, h1, h2⟩ => by
        obtain ⟨i, ha⟩ := isR j u h1
        obtain ⟨s, w, u', b, _, _, _, h4, h5, _⟩ := outR j i ha
        rw [h2] at h4; cases h4
        exact n i (mem_refs ha) h5
    exact k v H' R' m' z

section
variable {X : Cx} {e o : Expr} {es : List Expr} {pos apos : Pos} {ta : TE} {tx : TA} {fr : FR} {k n : Nat} {f C : Addr} {fd : FuncData} {ps : List Str} {g : FG} {x m : Str} {p : Pos} {fo : FE}
theorem fCall_ok {n : Nat} {g : FG} {fr : FR} {ρ ρ' : Ev} {d : D} (h : fCall n g fr ρ = some (d, ρ')) : ∃ as ρ1 ss outs, fr ρ = some (as, ρ1) ∧ (refsOf as).Nodup ∧ as.length = n ∧ argS ρ1 as = some ss ∧ g ss = some (d, outs) ∧ ρ' = putB ρ1 as outs := by
  obtain ⟨⟨as, ρ1⟩, h1, h⟩ := bind_ok h
  simp only at h
  split at h
  · rename_i hc
    obtain ⟨ss, h2, h⟩ := bind_ok h
    obtain ⟨⟨d', outs⟩, h3, h⟩ := bind_ok h
    cases h
    exact ⟨as, ρ1, ss, outs, h1, of_decide_eq_true hc.1, hc.2, h2, h3, rfl⟩
  · cases h
theorem de_call (F : FnOk X.prog X.w X.K X.mg X.base CX0 k f fd ps (spD X.K n g)) (hr : Room k X.A) (hg : Gl X x) (hm : X.mg x = some (.ref f)) (hk : PySem.W.keepIn X.K (.ref f) = true) (hb : Binds X.K fd ps [])
    (ha : DR X (e :: es) tx fr) (hdb : (x == ("__debug__" : Str)) = false := by decide) (he : starEach (e :: es) X.env = (false, eval e X.env) :: starEach es X.env := by rfl) (hpl : (backTo pos (starEach es X.env)).any (·.1) = false := by rfl) :
    DE X (.Call (.Name x p) (e :: es) [] pos) (tCall (spD X.K n g) [] E0 tx) (fCall n g fr) := by
  obtain ⟨pa, qa⟩ := ha
  refine ⟨pe_call F hr hg hm hk hb .nil pass0 pa hdb he hpl, fun G O H σ ρ ρ' d Q hK R h k => ?_⟩
  obtain ⟨as, ρ1, ss, outs, h1, nd, hn, h2, h3, rfl⟩ := fCall_ok h
  refine qa G O H σ ρ ρ1 as _ hK R h1 fun vs H1 R1 m1 zv => ?_
  show spD X.K n g (vs ++ []) H1 Q E0
  rw [List.append_nil]
  exact call_ok hK R1 zv nd hn h2 h3 fun v H' R' m' z => k v H' R' (m1.trans m') z
theorem de_call0 (F : FnOk X.prog X.w X.K X.mg X.base CX0 k f fd ps (spD X.K n g)) (hr : Room k X.A) (hg : Gl X x) (hm : X.mg x = some (.ref f)) (hk : PySem.W.keepIn X.K (.ref f) = true) (hb : Binds X.K fd ps [])
    (hdb : (x == ("__debug__" : Str)) = false := by decide) : DE X (.Call (.Name x p) [] [] pos) (tCall (spD X.K n g) [] E0 tNil) (fCall n g frNil) := by
  obtain ⟨pa, qa⟩ := dr_nil (X := X)
  refine ⟨pe_call0 F hr hg hm hk hb .nil pass0 hdb, fun G O H σ ρ ρ' d Q hK R h k => ?_⟩
  obtain ⟨as, ρ1, ss, outs, h1, nd, hn, h2, h3, rfl⟩ := fCall_ok h
  refine qa G O H σ ρ ρ1 as _ hK R h1 fun vs H1 R1 m1 zv => ?_
  show spD X.K n g (vs ++ []) H1 Q E0
  rw [List.append_nil]
  exact call_ok hK R1 zv nd hn h2 h3 fun v H' R' m' z => k v H' R' (m1.trans m') z
end
end DL
end

section
set_option Elab.async false
set_option linter.all false
set_option maxRecDepth 100000
namespace DL
open PySem PySem.Spec PyProof.Rows L2

/-! ### ints -/
def dInt2 (c : Int → Int → Bool) (out : Int → Int → D) : D → D → Option D
  | .int a, .int b => if c a b = true then some (out a b) else none
  | _, _ => none
def yes2 : Int → Int → Bool := fun _ _ => true
section
variable {K : PySem.W.Frag}
theorem r2_int {C : Int → Int → Prop} {c : Int → Int → Bool} {g : Int → Int → V} {out : Int → Int → D} (hc : ∀ a b, c a b = true → C a b) (hg : ∀ O H a b, Fz K O H (g a b) (out a b)) : R2D K (rI C g) (dInt2 c out) := by
  intro O H x y d1 d2 d Q ho z1 z2 h k
  unfold dInt2 at h
  split at h
  · split at h
    · rename_i a b hab
      cases h
      unfold Fz at z1 z2
      exact ⟨a, b, z1, z2, hc a b hab, k _ H (Same.refl H) (hg O H a b)⟩
    · cases h
  · cases h
theorem r2_int0 {g : Int → Int → V} {out : Int → Int → D} (hg : ∀ O H a b, Fz K O H (g a b) (out a b)) : R2D K (rI0 g) (dInt2 yes2 out) := by
  intro O H x y d1 d2 d Q ho z1 z2 h k
  unfold dInt2 at h
  split at h
  · rename_i a b
    rw [if_pos (show yes2 a b = true from rfl)] at h
    cases h
    unfold Fz at z1 z2
    exact ⟨a, b, z1, z2, k _ H (Same.refl H) (hg O H a b)⟩
  · cases h
theorem R2D.or {r r' : R2} {g g' : D → D → Option D} (h : R2D K r g) (h' : R2D K r' g') : R2D K (fun x y H Q => r x y H Q ∨ r' x y H Q) (fun a b => (g a b).or (g' a b)) := by
  intro O H x y d1 d2 d Q ho z1 z2 e k
  have e : (g d1 d2).or (g' d1 d2) = some d := e
  cases q : g d1 d2 with
  | some w =>
    rw [q] at e
    have e : some w = some d := e
    cases e
    exact .inl (h O H x y d1 d2 _ Q ho z1 z2 q k)
  | none =>
    rw [q] at e
    exact .inr (h' O H x y d1 d2 d Q ho z1 z2 (by simpa using e) k)
theorem OpR.or {X : Cx} {f : Value → Value → Sem Value} {r r' : R2} (h : OpR X f r) (h' : OpR X f r') : OpR X f (fun x y H Q => r x y H Q ∨ r' x y H Q) := by
  intro pins s σ H x y v u Q I rx ry q
  rcases q with q | q
  · exact h pins s σ H x y v u Q I rx ry q
  · exact h' pins s σ H x y v u Q I rx ry q
theorem fz_int {O H} (i : Int) : Fz K O H (.int i) (.int i) := by unfold Fz; rfl
theorem fz_bl {O H} (i : Bool) : Fz K O H (.bl i) (.bl i) := by unfold Fz; rfl
def mulOk (a b : Int) : Bool := decide (-(2 ^ 64) < a ∧ a < 2 ^ 64) || decide (-(2 ^ 64) < b ∧ b < 2 ^ 64) || decide (a.natAbs.log2 + b.natAbs.log2 < 1000000)
def divOk (_ b : Int) : Bool := decide (b ≠ 0 ∧ b.natAbs < 1073741824) || decide (0 < b ∧ b.natAbs.log2 < 9000)
def modOk (_ b : Int) : Bool := decide (b ≠ 0)
def powOk (a b : Int) : Bool := decide (0 ≤ b ∧ b ≤ 1000000 ∧ a.natAbs < 2 ^ 64)
/-- two tuples one behind the other -/
def dCatT : D → D → Option D
  | .tup a, .tup b => if lenOk (a.length + b.length) = true then some (.tup (a ++ b)) else none
  | _, _ => none
theorem fzL_nil {O H vs} : FzL K O H vs [] ↔ vs = [] := by unfold FzL; exact Iff.rfl
theorem r2_catT : R2D K (rCatA K) dCatT := by
  intro O H x y d1 d2 d Q ho z1 z2 h k
  unfold dCatT at h
  split at h
  · rename_i as bs
    split at h
    · rename_i hl
      cases h
      have z1' := z1
      have z2' := z2
      unfold Fz at z1 z2
      obtain ⟨a, vs, e1, t1, l1⟩ := z1
      obtain ⟨b, ws, e2, t2, l2⟩ := z2
      subst e1; subst e2
      refine ⟨a, b, vs, ws, rfl, rfl, t1.sq, t2.sq, by rw [l1.len, l2.len]; exact Nat.le_of_lt (lenOk_lt hl), fun e => ?_, fun _ e => ?_, fun _ _ p hp => ?_⟩
      · subst e
        have : as = [] := by have := l1.len; cases as with | nil => rfl | cons _ _ => simp at this
        subst this
        exact k _ H (Same.refl H) z2'
      · subst e
        have : bs = [] := by have := l2.len; cases bs with | nil => rfl | cons _ _ => simp at this
        subst this
        exact k _ H (Same.refl H) (by rw [List.append_nil]; exact z1')
      · exact k _ _ (same_upd hp) (fz_newTup ho hp (FzL.app l1 l2))
    · cases h
  · cases h
section
variable {X : Cx} {a b e : Expr} {pos : Pos} {ta tb : TE} {fa fb : FE}
def gAdd : D → D → Option D := fun a b => (dInt2 yes2 (fun i j => .int (i + j)) a b).or (dCatT a b)
theorem de_add (ha : DE X a ta fa) (hb : DE X b tb fb) : DE X (.BinOp a .Add b pos) (tOp (fun x y H Q => rI0 (fun i j => .int (i + j)) x y H Q ∨ rCatA X.K x y H Q) ta tb) (fBin gAdd fa fb) :=
  de_bin (OpR.or op_add op_catA) (R2D.or (r2_int0 fun O H a b => fz_int _) r2_catT) ha hb
def gMinus : D → D → Option D := dInt2 yes2 fun i j => .int (i - j)
theorem de_sub (ha : DE X a ta fa) (hb : DE X b tb fb) : DE X (.BinOp a .Sub b pos) (tOp (rI0 fun i j => .int (i - j)) ta tb) (fBin gMinus fa fb) :=
  de_bin op_sub (r2_int0 fun O H a b => fz_int _) ha hb
def gMul : D → D → Option D := dInt2 mulOk fun i j => .int (i * j)
theorem op_mulA {X : Cx} : OpR X (binaryOp .Mult) (rI (fun i j => mulOk i j = true) fun i j => .int (i * j)) := by
  intro pins s σ H x y v u Q I rx ry ⟨i, j, e1, e2, hc, q⟩
  have hc : mulOk i j = true := hc
  unfold mulOk at hc
  rw [Bool.or_eq_true, Bool.or_eq_true, decide_eq_true_eq, decide_eq_true_eq, decide_eq_true_eq] at hc
  rcases hc with (h | h) | h
  · exact op_mul pins s σ H x y v u Q I rx ry ⟨i, j, e1, e2, .inl h, q⟩
  · exact op_mul pins s σ H x y v u Q I rx ry ⟨i, j, e1, e2, .inr h, q⟩
  · exact op_mulW pins s σ H x y v u Q I rx ry ⟨i, j, e1, e2, h, q⟩
theorem de_mul (ha : DE X a ta fa) (hb : DE X b tb fb) : DE X (.BinOp a .Mult b pos) (tOp (rI (fun i j => mulOk i j = true) fun i j => .int (i * j)) ta tb) (fBin gMul fa fb) :=
  de_bin op_mulA (r2_int (fun _ _ h => h) fun O H a b => fz_int _) ha hb
def gDiv : D → D → Option D := dInt2 divOk fun i j => .int (i.fdiv j)
theorem op_divA {X : Cx} : OpR X (binaryOp .FloorDiv) (rI (fun i j => divOk i j = true) fun i j => .int (i.fdiv j)) := by
  intro pins s σ H x y v u Q I rx ry ⟨i, j, e1, e2, hc, q⟩
  have hc : divOk i j = true := hc
  unfold divOk at hc
  rw [Bool.or_eq_true, decide_eq_true_eq, decide_eq_true_eq] at hc
  rcases hc with h | h
  · exact op_fdivN pins s σ H x y v u Q I rx ry ⟨i, j, e1, e2, h, q⟩
  · refine op_fdivW pins s σ H x y v u Q I rx ry ⟨i, j, e1, e2, h, ?_⟩
    show Q (.int (i / j)) H
    rw [← Int.fdiv_eq_ediv_of_nonneg i (show (0 : Int) ≤ j by omega)]; exact q
theorem de_div (ha : DE X a ta fa) (hb : DE X b tb fb) : DE X (.BinOp a .FloorDiv b pos) (tOp (rI (fun i j => divOk i j = true) fun i j => .int (i.fdiv j)) ta tb) (fBin gDiv fa fb) :=
  de_bin op_divA (r2_int (fun _ _ h => h) fun O H a b => fz_int _) ha hb
def gMod : D → D → Option D := dInt2 modOk fun i j => .int (i.fmod j)
theorem de_mod (ha : DE X a ta fa) (hb : DE X b tb fb) : DE X (.BinOp a .Mod b pos) (tOp (rI (fun _ j => j ≠ 0) fun i j => .int (i.fmod j)) ta tb) (fBin gMod fa fb) :=
  de_bin op_modN (r2_int (fun _ _ h => of_decide_eq_true h) fun O H a b => fz_int _) ha hb
def gPow : D → D → Option D := dInt2 powOk fun i j => .int (i ^ j.toNat)
theorem de_pow (ha : DE X a ta fa) (hb : DE X b tb fb) : DE X (.BinOp a .Pow b pos) (tOp (rI CPow fun i j => .int (i ^ j.toNat)) ta tb) (fBin gPow fa fb) :=
  de_bin op_pow (r2_int (fun a b h => by unfold powOk at h; rw [decide_eq_true_eq] at h; exact h) fun O H a b => fz_int _) ha hb
def gShl : D → D → Option D := dInt2 powOk fun i j => .int (i * 2 ^ j.toNat)
theorem de_shl (ha : DE X a ta fa) (hb : DE X b tb fb) : DE X (.BinOp a .LShift b pos) (tOp (rI CPow fun i j => .int (i * 2 ^ j.toNat)) ta tb) (fBin gShl fa fb) :=
  de_bin op_shl (r2_int (fun a b h => by unfold powOk at h; rw [decide_eq_true_eq] at h; exact h) fun O H a b => fz_int _) ha hb
def gBand : D → D → Option D := dInt2 yes2 fun i j => .int (Builtin.bitAnd i j)
theorem de_band (ha : DE X a ta fa) (hb : DE X b tb fb) : DE X (.BinOp a .BitAnd b pos) (tOp (rI0 fun i j => .int (Builtin.bitAnd i j)) ta tb) (fBin gBand fa fb) :=
  de_bin op_and (r2_int0 fun O H a b => fz_int _) ha hb
def gBor : D → D → Option D := dInt2 yes2 fun i j => .int (Builtin.bitOr i j)
theorem de_bor (ha : DE X a ta fa) (hb : DE X b tb fb) : DE X (.BinOp a .BitOr b pos) (tOp (rI0 fun i j => .int (Builtin.bitOr i j)) ta tb) (fBin gBor fa fb) :=
  de_bin op_or (r2_int0 fun O H a b => fz_int _) ha hb
def gNeg : D → Option D
  | .int a => some (.int (-a))
  | _ => none
theorem de_neg (ha : DE X a ta fa) : DE X (.UnaryOp .USub a pos) (tUn (rU fun i => .int (-i)) ta) (fUn gNeg fa) := by
  refine de_un un_neg (fun O H x d1 d Q ho z h k => ?_) ha
  unfold gNeg at h
  split at h
  · cases h
    unfold Fz at z
    exact ⟨_, z, k _ H (Same.refl H) (fz_int _)⟩
  · cases h
/-! ### comparisons -/
def gLt : D → D → Option D := dInt2 yes2 fun i j => .bl (decide (i < j))
def gLe : D → D → Option D := dInt2 yes2 fun i j => .bl (decide (i ≤ j))
def gGt : D → D → Option D := dInt2 yes2 fun i j => .bl (decide (j < i))
def gGe : D → D → Option D := dInt2 yes2 fun i j => .bl (decide (j ≤ i))
theorem q_lt : R2D K (rI0 fun i j => .bl (decide (i < j))) gLt := r2_int0 fun O H a b => fz_bl _
theorem q_le : R2D K (rI0 fun i j => .bl (decide (i ≤ j))) gLe := r2_int0 fun O H a b => fz_bl _
theorem q_gt : R2D K (rI0 fun i j => .bl (decide (j < i))) gGt := r2_int0 fun O H a b => fz_bl _
theorem q_ge : R2D K (rI0 fun i j => .bl (decide (j ≤ i))) gGe := r2_int0 fun O H a b => fz_bl _
mutual
def toPy : D → Option PyData
  | .non => some .none
  | .bl b => some (.bool b)
  | .int i => some (.int i)
  | .str x => some (.str x)
  | .tup ds => (toPys ds).map .tuple
  | .lst ds => (toPys ds).map .list
  | _ => none
def toPys : List D → Option (List PyData)
  | [] => some []
  | d :: ds => (toPy d).bind fun x => (toPys ds).bind fun r => some (x :: r)
end
mutual
theorem dp_of {O H} : ∀ {d : D} {v : V} {p : PyData}, Fz K O H v d → toPy d = some p → Dp K H v p
  | .non, v, p, z, h => by unfold Fz at z; subst z; unfold toPy at h; cases h; exact .non
  | .bl b, v, p, z, h => by unfold Fz at z; subst z; unfold toPy at h; cases h; exact .bl b
  | .int i, v, p, z, h => by unfold Fz at z; subst z; unfold toPy at h; cases h; exact .int i
  | .str i, v, p, z, h => by unfold Fz at z; subst z; unfold toPy at h; cases h; exact .str i
  | .tup ds, v, p, z, h => by
    unfold Fz at z
    obtain ⟨a, vs, e, t, l⟩ := z
    subst e
    unfold toPy at h
    cases q : toPys ds with
    | none => rw [q] at h; cases h
    | some r => rw [q] at h; cases h; exact .tup t.sq (dps_of l q)
  | .lst ds, v, p, z, h => by
    unfold Fz at z
    obtain ⟨a, vs, e, t, l⟩ := z
    subst e
    unfold toPy at h
    cases q : toPys ds with
    | none => rw [q] at h; cases h
    | some r => rw [q] at h; cases h; exact .lst t.sq (dps_of l q)
  | .cls _, v, p, z, h => by unfold toPy at h; cases h
  | .ty _, v, p, z, h => by unfold toPy at h; cases h
  | .ins _ _, v, p, z, h => by unfold toPy at h; cases h
  | .dK _, v, p, z, h => by unfold toPy at h; cases h
  | .dT _, v, p, z, h => by unfold toPy at h; cases h
theorem dps_of {O H} : ∀ {ds : List D} {vs : List V} {ps : List PyData}, FzL K O H vs ds → toPys ds = some ps → DpAll K H vs ps
  | [], vs, ps, z, h => by unfold FzL at z; subst z; unfold toPys at h; cases h; exact .nil
  | d :: ds, vs, ps, z, h => by
    unfold FzL at z
    obtain ⟨v, r, e, z1, z2⟩ := z
    subst e
    unfold toPys at h
    obtain ⟨x, h1, h⟩ := bind_ok h
    obtain ⟨rs, h2, h⟩ := bind_ok h
    cases h
    exact .cons (dp_of z1 h1) (dps_of z2 h2)
end
def gEq : D → D → Option D
  | .int a, .int b => some (.bl (decide (a = b)))
  | a, b => (toPy a).bind fun x => (toPy b).bind fun y => if (SeqAt.shaped x && SeqAt.shaped y) = true then some (.bl (PyData.eqv x y)) else none
def gNe : D → D → Option D
  | .int a, .int b => some (.bl (!decide (a = b)))
  | a, b => (toPy a).bind fun x => (toPy b).bind fun y => if (SeqAt.shaped x && SeqAt.shaped y) = true then some (.bl (!PyData.eqv x y)) else none
theorem shaped_int (a : Int) : SeqAt.shaped (.int a) = true := rfl
theorem eqv_int (a b : Int) : PyData.eqv (.int a) (.int b) = decide (a = b) := by
  unfold PyData.eqv
  exact Bool.beq_eq_decide_eq a b
theorem q_eq : R2D K (rEqD K) gEq := by
  intro O H x y d1 d2 d Q ho z1 z2 h k
  unfold gEq at h
  split at h
  · rename_i a b
    cases h
    unfold Fz at z1 z2
    subst z1; subst z2
    exact ⟨_, _, .int a, .int b, shaped_int a, shaped_int b, by rw [eqv_int]; exact k _ H (Same.refl H) (fz_bl _)⟩
  · obtain ⟨p1, h1, h⟩ := bind_ok h
    obtain ⟨p2, h2, h⟩ := bind_ok h
    split at h
    · rename_i hs
      rw [Bool.and_eq_true] at hs
      cases h
      exact ⟨p1, p2, dp_of z1 h1, dp_of z2 h2, hs.1, hs.2, k _ H (Same.refl H) (fz_bl _)⟩
    · cases h
theorem q_ne : R2D K (rNeD K) gNe := by
  intro O H x y d1 d2 d Q ho z1 z2 h k
  unfold gNe at h
  split at h
  · rename_i a b
    cases h
    unfold Fz at z1 z2
    subst z1; subst z2
    exact ⟨_, _, .int a, .int b, shaped_int a, shaped_int b, by rw [eqv_int]; exact k _ H (Same.refl H) (fz_bl _)⟩
  · obtain ⟨p1, h1, h⟩ := bind_ok h
    obtain ⟨p2, h2, h⟩ := bind_ok h
    split at h
    · rename_i hs
      rw [Bool.and_eq_true] at hs
      cases h
      exact ⟨p1, p2, dp_of z1 h1, dp_of z2 h2, hs.1, hs.2, k _ H (Same.refl H) (fz_bl _)⟩
    · cases h
/-- x is None -/
def isNone : D → Bool
  | .non => true
  | _ => false
def gIsN : D → D → Option D
  | a, .non => some (.bl (isNone a))
  | _, _ => none
def gNotN : D → D → Option D
  | a, .non => some (.bl (!isNone a))
  | _, _ => none
theorem isN_of {O H} {v : V} {d : D} (z : Fz K O H v d) : decide (v = .non) = isNone d := by
  cases d with
  | non => unfold Fz at z; subst z; rfl
  | bl b => unfold Fz at z; subst z; rfl
  | int b => unfold Fz at z; subst z; rfl
  | str b => unfold Fz at z; subst z; rfl
  | cls b => unfold Fz at z; subst z; rfl
  | ty b => unfold Fz at z; subst z; rfl
  | tup ds => unfold Fz at z; obtain ⟨a, _, e, _⟩ := z; subst e; rfl
  | lst ds => unfold Fz at z; obtain ⟨a, _, e, _⟩ := z; subst e; rfl
  | ins C ds => unfold Fz at z; obtain ⟨a, _, _, e, _⟩ := z; subst e; rfl
  | dK ds => unfold Fz at z; obtain ⟨a, _, e, _⟩ := z; subst e; rfl
  | dT ds => unfold Fz at z; obtain ⟨a, _, e, _⟩ := z; subst e; rfl
theorem q_isN : R2D K (fun x y H Q => y = .non ∧ Q (.bl (decide (x = .non))) H) gIsN := by
  intro O H x y d1 d2 d Q ho z1 z2 h k
  unfold gIsN at h
  split at h
  · cases h
    unfold Fz at z2
    exact ⟨z2, by rw [isN_of z1]; exact k _ H (Same.refl H) (fz_bl _)⟩
  · cases h
theorem q_notN : R2D K (fun x y H Q => y = .non ∧ Q (.bl (!decide (x = .non))) H) gNotN := by
  intro O H x y d1 d2 d Q ho z1 z2 h k
  unfold gNotN at h
  split at h
  · cases h
    unfold Fz at z2
    exact ⟨z2, by rw [isN_of z1]; exact k _ H (Same.refl H) (fz_bl _)⟩
  · cases h
/-! ### subscripts -/
def gIx : D → D → Option D
  | .tup ds, .int i => atI ds i
  | .lst ds, .int i => atI ds i
  | _, _ => none
theorem atI_ok {α : Type} {ds : List α} {i : Int} {d : α} (h : atI ds i = some d) : ∃ j : Nat, ixN ds.length i = some j ∧ ds[j]? = some d := by
  unfold atI at h
  obtain ⟨j, h1, h2⟩ := bind_ok h
  exact ⟨j, h1, h2⟩
theorem FzL.at {O H} {vs : List V} {ds : List D} {i : Int} {d : D} (z : FzL K O H vs ds) (h : atI ds i = some d) : ∃ v, atI vs i = some v ∧ Fz K O H v d := by
  obtain ⟨j, h1, h2⟩ := atI_ok h
  obtain ⟨v, e, z1⟩ := z.get h2
  exact ⟨v, by unfold atI; rw [z.len, h1]; exact e, z1⟩
theorem q_ix : R2D K (rIx K) gIx := by
  intro O H x y d1 d2 d Q ho z1 z2 h k
  unfold gIx at h
  split at h
  · unfold Fz at z1 z2
    obtain ⟨a, vs, e, t, l⟩ := z1
    obtain ⟨v, ev, z⟩ := l.at h
    exact .inr (.inl ⟨a, vs, _, v, e, z2, t.sq, ev, k _ H (Same.refl H) z⟩)
  · unfold Fz at z1 z2
    obtain ⟨a, vs, e, t, l⟩ := z1
    obtain ⟨v, ev, z⟩ := l.at h
    exact .inl ⟨a, vs, _, v, e, z2, t.sq, ev, k _ H (Same.refl H) z⟩
  · cases h
theorem de_sub_ix (ha : DE X a ta fa) (hb : DE X b tb fb) (hs : PlainIx b := by exact fun _ _ => rfl) : DE X (.Subscript a b pos) (tOp (rIx X.K) ta tb) (fBin gIx fa fb) := de_ix ix_seq q_ix ha hb hs
end
end
end DL
end

section
set_option Elab.async false
set_option linter.all false
set_option maxRecDepth 100000
namespace DL
open PySem PySem.Spec PyProof.Rows L2

section
variable {K : PySem.W.Frag} {O : Addr → Prop} {H : Hp}
/-! ### what is built in -/
def gLen : List D → Option D
  | [.lst ds] => some (.int ds.length)
  | [.tup ds] => some (.int ds.length)
  | _ => none
theorem fzL_one {vs : List V} {d : D} (z : FzL K O H vs [d]) : ∃ v, vs = [v] ∧ Fz K O H v d := by
  unfold FzL at z
  obtain ⟨v, r, e, z1, z2⟩ := z
  unfold FzL at z2
  subst z2
  exact ⟨v, e, z1⟩
theorem fzL_two {vs : List V} {d d2 : D} (z : FzL K O H vs [d, d2]) : ∃ v w, vs = [v, w] ∧ Fz K O H v d ∧ Fz K O H w d2 := by
  unfold FzL at z
  obtain ⟨v, r, e, z1, z2⟩ := z
  obtain ⟨w, e2, z3⟩ := fzL_one z2
  subst e2
  exact ⟨v, w, e, z1, z3⟩
theorem q_len : RnD K (fun xs H Q => ∃ x n, xs = [x] ∧ LenV K x H n ∧ Q (.int n) H) gLen := by
  intro O H vs ds d Q ho z h k
  unfold gLen at h
  split at h
  · cases h
    obtain ⟨v, e, z1⟩ := fzL_one z
    unfold Fz at z1
    obtain ⟨a, ws, e2, t, l⟩ := z1
    subst e2
    exact ⟨.ref a, _, e, .inl ⟨ws, t.sq, l.len.symm⟩, k _ H (Same.refl H) (fz_int _)⟩
  · cases h
    obtain ⟨v, e, z1⟩ := fzL_one z
    unfold Fz at z1
    obtain ⟨a, ws, e2, t, l⟩ := z1
    subst e2
    exact ⟨.ref a, _, e, .inr ⟨ws, t.sq, l.len.symm⟩, k _ H (Same.refl H) (fz_int _)⟩
  · cases h
def gAbs : List D → Option D
  | [.int i] => some (.int (if i < 0 then -i else i))
  | _ => none
theorem q_abs : RnD K (fun xs H Q => ∃ i, xs = [.int i] ∧ Q (.int (if i < 0 then -i else i)) H) gAbs := by
  intro O H vs ds d Q ho z h k
  unfold gAbs at h
  split at h
  · cases h
    exact ⟨_, fzL_int1 z, k _ H (Same.refl H) (fz_int _)⟩
  · cases h
def gInt : List D → Option D
  | [.int i] => some (.int i)
  | [.bl b] => some (.int (if b then 1 else 0))
  | _ => none
theorem q_int : RnD K (fun xs H Q => (∃ i, xs = [.int i] ∧ Q (.int i) H) ∨ ∃ k, xs = [.bl k] ∧ Q (.int (if k then 1 else 0)) H) gInt := by
  intro O H vs ds d Q ho z h k
  unfold gInt at h
  split at h
  · cases h
    exact .inl ⟨_, fzL_int1 z, k _ H (Same.refl H) (fz_int _)⟩
  · cases h
    obtain ⟨v, e, z1⟩ := fzL_one z
    unfold Fz at z1
    subst z1
    exact .inr ⟨_, e, k _ H (Same.refl H) (fz_int _)⟩
  · cases h
def gGcd : List D → Option D
  | [.int i, .int j] => some (.int ((Nat.gcd i.natAbs j.natAbs : Nat) : Int))
  | _ => none
theorem q_gcd : RnD K rGcd gGcd := by
  intro O H vs ds d Q ho z h k
  unfold gGcd at h
  split at h
  · cases h
    exact ⟨_, _, fzL_int2 z, k _ H (Same.refl H) (fz_int _)⟩
  · cases h
def gTuple : List D → Option D
  | [.lst ds] => some (.tup ds)
  | [.tup ds] => some (.tup ds)
  | _ => none
theorem q_tuple : RnD K (fun xs H Q => ∃ p ys, xs = [.ref p] ∧ ((SqL K H p ys ∧ ∀ l, H l = none → Q (.ref l) (upd H l (.tup ys))) ∨ (SqT K H p ys ∧ Q (.ref p) H))) gTuple := by
  intro O H vs ds d Q ho z h k
  unfold gTuple at h
  split at h
  · cases h
    obtain ⟨v, e, z1⟩ := fzL_one z
    unfold Fz at z1
    obtain ⟨a, ws, e2, t, l⟩ := z1
    subst e2
    exact ⟨a, ws, e, .inl ⟨t.sq, fun p hp => k _ _ (same_upd hp) (fz_newTup ho hp l)⟩⟩
  · cases h
    obtain ⟨v, e, z1⟩ := fzL_one z
    have z1' := z1
    unfold Fz at z1
    obtain ⟨a, ws, e2, t, l⟩ := z1
    subst e2
    exact ⟨a, ws, e, .inr ⟨t.sq, k _ H (Same.refl H) z1'⟩⟩
  · cases h
def dInts : List D → Option (List Int)
  | [] => some []
  | .int i :: ds => (dInts ds).map (i :: ·)
  | _ => none
def dBls : List D → Option (List Bool)
  | [] => some []
  | .bl i :: ds => (dBls ds).map (i :: ·)
  | _ => none
theorem fzL_ints : ∀ {ds : List D} {ns : List Int} {vs : List V}, FzL K O H vs ds → dInts ds = some ns → vs = ns.map V.int
  | [], ns, vs, z, h => by
    unfold FzL at z; unfold dInts at h; cases h; exact z
  | d :: ds, ns, vs, z, h => by
    unfold FzL at z
    obtain ⟨v, r, e, z1, z2⟩ := z
    cases d with
    | int i =>
      have h : (dInts ds).map (i :: ·) = some ns := h
      cases q : dInts ds with
      | none => rw [q] at h; cases h
      | some l =>
        rw [q] at h
        cases h
        unfold Fz at z1
        rw [e, z1, fzL_ints z2 q]; rfl
    | _ => cases h
theorem fzL_bls : ∀ {ds : List D} {ns : List Bool} {vs : List V}, FzL K O H vs ds → dBls ds = some ns → vs = ns.map V.bl
  | [], ns, vs, z, h => by
    unfold FzL at z; unfold dBls at h; cases h; exact z
  | d :: ds, ns, vs, z, h => by
    unfold FzL at z
    obtain ⟨v, r, e, z1, z2⟩ := z
    cases d with
    | bl i =>
      have h : (dBls ds).map (i :: ·) = some ns := h
      cases q : dBls ds with
      | none => rw [q] at h; cases h
      | some l =>
        rw [q] at h
        cases h
        unfold Fz at z1
        rw [e, z1, fzL_bls z2 q]; rfl
    | _ => cases h
def gSum : List D → Option D
  | [.lst ds] => (dInts ds).map fun ns => .int ns.sum
  | _ => none
theorem q_sum : RnD K (rSum K) gSum := by
  intro O H vs ds d Q ho z h k
  unfold gSum at h
  split at h
  · rename_i es
    cases q : dInts es with
    | none => rw [q] at h; cases h
    | some ns =>
      rw [q] at h
      cases h
      obtain ⟨v, e, z1⟩ := fzL_one z
      unfold Fz at z1
      obtain ⟨a, ws, e2, t, l⟩ := z1
      subst e2
      exact ⟨a, ns, e, by rw [← fzL_ints l q]; exact t.sq, k _ H (Same.refl H) (fz_int _)⟩
  · cases h
/-- the greatest of a list that is not empty -/
def maxI : List Int → Int
  | [] => 0
  | [a] => a
  | a :: r => if a < maxI r then maxI r else a
theorem maxI_mem : ∀ {l : List Int}, l ≠ [] → maxI l ∈ l ∧ ∀ y ∈ l, y ≤ maxI l
  | [], h => absurd rfl h
  | [a], _ => ⟨by simp [maxI], fun y hy => by have : y = a := by simpa using hy
                                              subst this; exact Int.le_refl _⟩
  | a :: b :: r, _ => by
    obtain ⟨h1, h2⟩ := maxI_mem (l := b :: r) (by simp)
    unfold maxI
    split
    · rename_i hlt
      exact ⟨List.mem_cons_of_mem _ h1, fun y hy => (List.mem_cons.mp hy).elim (fun e => by rw [e]; exact Int.le_of_lt hlt) (h2 y)⟩
    · rename_i hlt
      exact ⟨List.mem_cons_self, fun y hy => (List.mem_cons.mp hy).elim (fun e => by rw [e]; exact Int.le_refl _) fun hy => Int.le_trans (h2 y hy) (by omega)⟩
def gMax : List D → Option D
  | [.lst (d :: ds)] => (dInts (d :: ds)).map fun ns => .int (maxI ns)
  | _ => none
theorem q_max : RnD K (rMax K) gMax := by
  intro O H vs ds d Q ho z h k
  unfold gMax at h
  split at h
  · rename_i e0 es
    cases q : dInts (e0 :: es) with
    | none => rw [q] at h; cases h
    | some ns =>
      rw [q] at h
      cases h
      obtain ⟨v, e, z1⟩ := fzL_one z
      unfold Fz at z1
      obtain ⟨a, ws, e2, t, l⟩ := z1
      subst e2
      have ew := fzL_ints l q
      have hl := l.len
      rw [ew] at hl
      simp at hl
      have hne : ns ≠ [] := fun e => by subst e; simp at hl
      obtain ⟨m1, m2⟩ := maxI_mem hne
      refine ⟨a, ns, e, by rw [← ew]; exact t.sq, by omega, fun m hm hb => ?_⟩
      have e3 : m = maxI ns := Int.le_antisymm (m2 m hm) (hb _ m1)
      subst e3
      exact k _ H (Same.refl H) (fz_int _)
  · cases h
def gAll : List D → Option D
  | [.lst ds] => (dBls ds).map fun ns => .bl (ns.all id)
  | _ => none
theorem q_all : RnD K (rAll K) gAll := by
  intro O H vs ds d Q ho z h k
  unfold gAll at h
  split at h
  · rename_i es
    cases q : dBls es with
    | none => rw [q] at h; cases h
    | some ns =>
      rw [q] at h
      cases h
      obtain ⟨v, e, z1⟩ := fzL_one z
      unfold Fz at z1
      obtain ⟨a, ws, e2, t, l⟩ := z1
      subst e2
      exact ⟨a, ns, e, by rw [← fzL_bls l q]; exact t.sq, k _ H (Same.refl H) (fz_bl _)⟩
  · cases h
/-- isinstance(x, a built-in class) -/
def tyName : D → Option String
  | .non => some "NoneType"
  | .bl _ => some "bool"
  | .int _ => some "int"
  | .str _ => some "str"
  | .tup _ => some "tuple"
  | .lst _ => some "list"
  | _ => none
def gIsi : List D → Option D
  | [d, .ty n] => (tyName d).bind fun t => (kitB t n).map .bl
  | _ => none
theorem tyX_of {v : V} {d : D} {t : String} (z : Fz K O H v d) (h : tyName d = some t) : TyX K H v (.type t) := by
  cases d with
  | non => unfold Fz at z; subst z; cases h; exact .base .non
  | bl b => unfold Fz at z; subst z; cases h; exact .base (.bl b)
  | int b => unfold Fz at z; subst z; cases h; exact .base (.int b)
  | str b => unfold Fz at z; subst z; cases h; exact .base (.str b)
  | tup ds =>
    unfold Fz at z
    obtain ⟨a, vs, e, t, l⟩ := z
    subst e; cases h
    rcases t with ⟨t | ⟨o, t⟩, _⟩ | ⟨o, its, n, h1, h2, _⟩
    · exact .base (.tup t)
    · exact .fTuple t
    · exact .kTuple h1 h2
  | lst ds =>
    unfold Fz at z
    obtain ⟨a, vs, e, t, l⟩ := z
    subst e; cases h
    rcases t with ⟨t | ⟨o, t⟩, _⟩ | ⟨o, its, n, h1, h2, _⟩
    · exact .base (.lst t)
    · exact .base (.frz t)
    · exact .kList h1 h2
  | _ => cases h
theorem q_isi : RnD K (rIsi K) gIsi := by
  intro O H vs ds d Q ho z h k
  unfold gIsi at h
  split at h
  · rename_i d1 n
    obtain ⟨t, h1, h⟩ := bind_ok h
    cases q : kitB t n with
    | none => rw [q] at h; cases h
    | some b =>
      rw [q] at h
      cases h
      obtain ⟨v, w, e, z1, z2⟩ := fzL_two z
      unfold Fz at z2
      subst z2
      exact ⟨v, .ty n, .type t, .type n, b, e, .ty n, tyX_of z1 h1, kit_ty q, k _ H (Same.refl H) (fz_bl _)⟩
  · cases h
end
end DL
end

section
set_option Elab.async false
set_option linter.all false
set_option maxRecDepth 100000
namespace DL
open PySem PySem.Spec PyProof.Rows L2

section
variable {X : Cx} {e a b : Expr} {es : List Expr} {pos : Pos} {ta tb : TE} {fa fb f : FE} {tx : TA} {fx : FA}
/-! ### a slot's own list: read -/
def fLenV (i : Nat) : FE := fun ρ => match ρ[i]? with
  | some (.dat d) => (gLen [d]).bind fun r => some (r, ρ)
  | some (.own (.lst ds)) => some (.int ds.length, ρ)
  | some (.io (.lst ds)) => some (.int ds.length, ρ)
  | _ => none
theorem own_lst {G : Gh} {O : Addr → Prop} {H : Hp} {σ : Sg} {ρ : Ev} {i : Nat} {s : Slot} {ds : List D} (R : Rep G O H σ ρ) (e : ρ[i]? = some s) (m : s.mu = some (.lst ds)) :
    ∃ p vs, σ[i]? = some (some (.ref p)) ∧ O p ∧ H p = some (.lst vs) ∧ FzL G.K O H vs ds := by
  obtain ⟨p, h1, h2, vs, h3, h4⟩ := R.mu i s _ e m
  exact ⟨p, vs, h1, h2, h3, h4⟩
theorem de_lenV (i : Nat) {x y : Str} {p pos' : Pos} (hg : Gl X y) (hm : X.mg y = none) (hv : bootBuiltins y = some (.builtin "len")) (hN : X.N[i]? = some x := by rfl) (hx : Vis X.env.scope x := by first | exact Or.inl rfl | exact Or.inr (Or.inl rfl) | exact Or.inr (Or.inr rfl))
    (hn : y ≠ "__name__" := by decide) (hdb : (y == ("__debug__" : Str)) = false := by decide) (hd : (x == ("__debug__" : Str)) = false := by decide) (hcd : (x == ("__classdict__" : Str)) = false := by decide)
    (he : starEach [(.Name x pos' : Expr)] X.env = (false, eval (.Name x pos') X.env) :: starEach [] X.env := by rfl) :
    DE X (.Call (.Name y p) [.Name x pos'] [] pos) (tCB (fun xs H Q => ∃ x n, xs = [x] ∧ LenV X.K x H n ∧ Q (.int n) H) (tCons (tVar i) tNil)) (fLenV i) := by
  refine ⟨pe_callB call_len hg hm hv (pa_cons (pe_var hN hx hd hcd) pa_nil he) hn hdb he rfl, fun G O H σ ρ ρ' d Q hK R h k => ?_⟩
  have own : ∀ (s : Slot) (ds : List D), ρ[i]? = some s → s.mu = some (.lst ds) → some (D.int ds.length, ρ) = some (d, ρ') → tCB (fun xs H Q => ∃ x n, xs = [x] ∧ LenV X.K x H n ∧ Q (.int n) H) (tCons (tVar i) tNil) σ H Q := fun s ds e m h => by
    cases h
    obtain ⟨p, vs, h1, h2, h3, h4⟩ := own_lst R e m
    exact ⟨.ref p, h1, .ref p, _, rfl, .inl ⟨vs, .inl (.inl h3), h4.len.symm⟩, k _ H R Fm.refl (fz_int _)⟩
  unfold fLenV at h
  split at h
  · rename_i d' e'
    obtain ⟨r, h1, h⟩ := bind_ok h
    cases h
    obtain ⟨v, e1, z⟩ := R.dat i _ e'
    exact ⟨v, e1, q_len O H [v] [d'] _ Q R.occ (FzL.one (hK ▸ z)) h1 fun v H' s z => k v H' (R.same s) (Fm.same s) z⟩
  · rename_i ds e'; exact own _ ds e' rfl h
  · rename_i ds e'; exact own _ ds e' rfl h
  · cases h
def fIxV (i : Nat) (fb : FE) : FE := fun ρ => match ρ[i]? with
  | some (.dat d) => (fb ρ).bind fun y => (gIx d y.1).bind fun r => some (r, y.2)
  | some (.own _) => (fb ρ).bind fun y => match y.2[i]?.bind Slot.mu, y.1 with
    | some (.lst ds), .int z => (atI ds z).bind fun r => some (r, y.2)
    | _, _ => none
  | some (.io _) => (fb ρ).bind fun y => match y.2[i]?.bind Slot.mu, y.1 with
    | some (.lst ds), .int z => (atI ds z).bind fun r => some (r, y.2)
    | _, _ => none
  | _ => none
theorem de_ixV (i : Nat) {x : Str} {pos' : Pos} (hb : DE X b tb fb) (hN : X.N[i]? = some x := by rfl) (hx : Vis X.env.scope x := by first | exact Or.inl rfl | exact Or.inr (Or.inl rfl) | exact Or.inr (Or.inr rfl))
    (hs : PlainIx b := by exact fun _ _ => rfl) (hd : (x == ("__debug__" : Str)) = false := by decide) (hcd : (x == ("__classdict__" : Str)) = false := by decide) :
    DE X (.Subscript (.Name x pos') b pos) (tOp (rIx X.K) (tVar i) tb) (fIxV i fb) := by
  obtain ⟨pb, qb⟩ := hb
  refine ⟨pe_ix ix_seq (pe_var hN hx hd hcd) pb hs, fun G O H σ ρ ρ' d Q hK R h k => ?_⟩
  have own : ∀ (s : Slot) (u : Own), ρ[i]? = some s → s.mu = some u → ((fb ρ).bind fun y => match y.2[i]?.bind Slot.mu, y.1 with
    | some (.lst ds), .int z => (atI ds z).bind fun r => some (r, y.2)
    | _, _ => none) = some (d, ρ') → tOp (rIx X.K) (tVar i) tb σ H Q := fun s u e m h => by
    obtain ⟨p, h1, _⟩ := R.mu i s u e m
    refine ⟨.ref p, h1, ?_⟩
    obtain ⟨⟨y, ρ1⟩, h2, h⟩ := bind_ok h
    refine qb G O H σ ρ ρ1 y _ hK R h2 fun w H1 R1 m1 z1 => ?_
    simp only at h
    split at h
    · rename_i ds z e3
      obtain ⟨r, h4, h⟩ := bind_ok h
      cases h
      obtain ⟨s1, e4, e5⟩ := bind_ok e3
      obtain ⟨p', vs, h5, h6, h7, h8⟩ := own_lst R1 e4 e5
      rw [h1] at h5; cases h5
      unfold Fz at z1
      obtain ⟨v, ev, zv⟩ := (hK ▸ h8).at h4
      exact .inl ⟨p, vs, z, v, rfl, z1, .inl (.inl h7), ev, k v H1 R1 m1 zv⟩
    · cases h
  unfold fIxV at h
  split at h
  · rename_i d' e'
    obtain ⟨⟨y, ρ1⟩, h2, h⟩ := bind_ok h
    obtain ⟨r, h3, h⟩ := bind_ok h
    cases h
    obtain ⟨v, e1, z⟩ := R.dat i _ e'
    refine ⟨v, e1, ?_⟩
    refine qb G O H σ ρ _ y _ hK R h2 fun w H1 R1 m1 z1 => ?_
    exact q_ix O H1 v w d' y _ _ R1.occ (Fz.tm (R.tm m1) (hK ▸ z)) z1 h3 fun v H' s z => k v H' (R1.same s) (m1.trans (Fm.same s)) z
  · rename_i u e'; exact own _ u e' rfl h
  · rename_i u e'; exact own _ u e' rfl h
  · cases h
/-! ### .. changed -/
def wrOwn (i : Nat) (c : Own → Option Own) (ρ : Ev) : Option Ev := match ρ[i]? with
  | some s => (s.mu.bind c).bind fun u => some (ρ.set i (s.put u))
  | none => none
theorem wrOwn_ok {i : Nat} {c : Own → Option Own} {ρ ρ' : Ev} (h : wrOwn i c ρ = some ρ') : ∃ s u u', ρ[i]? = some s ∧ s.mu = some u ∧ c u = some u' ∧ ρ' = ρ.set i (s.put u') := by
  unfold wrOwn at h
  split at h
  · rename_i s e
    obtain ⟨u', h1, h⟩ := bind_ok h
    obtain ⟨u, h2, h3⟩ := bind_ok h1
    cases h
    exact ⟨s, u, u', e, h2, h3, rfl⟩
  · cases h
def cSet (z : Int) (d : D) : Own → Option Own
  | .lst ds => (ixN ds.length z).bind fun j => some (.lst (ds.set j d))
  | _ => none
theorem FzL.set {K : PySem.W.Frag} {O : Addr → Prop} {H : Hp} {v : V} {d : D} (z : Fz K O H v d) : ∀ {vs : List V} {ds : List D} (j : Nat), FzL K O H vs ds → FzL K O H (vs.set j v) (ds.set j d)
  | vs, [], j, h => by
    unfold FzL at h; subst h
    show FzL K O H [] []
    unfold FzL; rfl
  | vs, d' :: ds, 0, h => by
    unfold FzL at h
    obtain ⟨w, r, e, h1, h2⟩ := h
    subst e
    show FzL K O H (v :: r) (d :: ds)
    unfold FzL
    exact ⟨v, r, rfl, z, h2⟩
  | vs, d' :: ds, j + 1, h => by
    unfold FzL at h
    obtain ⟨w, r, e, h1, h2⟩ := h
    subst e
    show FzL K O H (w :: r.set j v) (d' :: ds.set j d)
    unfold FzL
    exact ⟨w, _, rfl, h1, FzL.set z j h2⟩
def fSetIx (i : Nat) (fb fe : FE) : FS := fun ρ => (fe ρ).bind fun x => (x.2[i]?.bind Slot.mu).bind fun _ => (fb x.2).bind fun y => match y.1 with
  | .int z => (wrOwn i (cSet z x.1) y.2).bind fun ρ => some (.nx, ρ)
  | _ => none
theorem ds_setIx (i : Nat) {x : Str} {pos' pos2 : Pos} (he : DE X e ta fa) (hb : DE X b tb fb) (hN : X.N[i]? = some x := by rfl) (hx : Vis X.env.scope x := by first | exact Or.inl rfl | exact Or.inr (Or.inl rfl) | exact Or.inr (Or.inr rfl))
    (hd : (x == ("__debug__" : Str)) = false := by decide) (hcd : (x == ("__classdict__" : Str)) = false := by decide)
    (hs : swapsWithSole [.Subscript (.Name x pos') b pos2] e pos.line X.env = pure false := by rfl) (hw : swappedStores [.Subscript (.Name x pos') b pos2] e X.env = pure none := by rfl)
    (h1 : (assignEach [.Subscript (.Name x pos') b pos2] X.env).map (·.2) = [assign (.Subscript (.Name x pos') b pos2) X.env] := by rfl)
    (ha : ∀ v, assign (.Subscript (.Name x pos') b pos2) X.env v = (do
      let ov ← holding [v] (eval (.Name x pos') X.env)
      let iv ← holding [v, ov] (eval b X.env)
      standAt pos2
      holding [v, ov, iv] (setItem ov iv v)
      release [v, ov, iv] []) := by intro _; rfl) :
    DS X (.Assign [.Subscript (.Name x pos') b pos2] e pos) (tAsg ta (gSub (tVar i) tb rSetL)) (fSetIx i fb fa) := by
  obtain ⟨pe, qe⟩ := he
  obtain ⟨pb, qb⟩ := hb
  refine ⟨ps_asg pe (pg_sub (pe_var hN hx hd hcd) pb set_list ha) hs hw h1, fun G O H σ ρ ρ' fl Dn hK R h k => ?_⟩
  obtain ⟨⟨d, ρ1⟩, h2, h⟩ := bind_ok h
  obtain ⟨w0, h0, h⟩ := bind_ok h
  obtain ⟨⟨y, ρ2⟩, h3, h⟩ := bind_ok h
  simp only at h
  split at h
  · rename_i z
    obtain ⟨ρ3, h4, h⟩ := bind_ok h
    cases h
    obtain ⟨s, u, u', e4, e5, e6, e7⟩ := wrOwn_ok h4
    unfold cSet at e6
    split at e6
    · rename_i ds
      obtain ⟨j, e8, e6⟩ := bind_ok e6
      cases e6
      refine qe G O H σ ρ ρ1 d _ hK R h2 fun v H1 R1 m1 z1 => ?_
      obtain ⟨s0, e9, e10⟩ := bind_ok h0
      obtain ⟨p, hp, _⟩ := R1.mu i s0 _ e9 e10
      refine ⟨.ref p, hp, ?_⟩
      refine qb G O H1 σ ρ1 ρ2 _ _ hK R1 h3 fun w H2 R2 m2 z2 => ?_
      obtain ⟨p', vs, h5, h6, h7, h8⟩ := own_lst R2 e4 e5
      rw [hp] at h5; cases h5
      unfold Fz at z2
      refine ⟨p, vs, z, j, rfl, z2, h7, by rw [h8.len]; exact e8, ?_⟩
      subst e7
      obtain ⟨R3, m3⟩ := R2.write (o := .lst (vs.set j v)) (u' := .lst (ds.set j d)) e4 e5 hp fun t => ⟨_, upd_same, FzL.tm t (FzL.set (hK ▸ Fz.tm (R1.tm m2) z1) j h8)⟩
      exact k O _ σ R3 (R.tm ((m1.trans m2).trans m3))
    · cases e6
  · cases h
def cApp (d : D) : Own → Option Own
  | .lst ds => if lenOk ds.length = true then some (.lst (ds ++ [d])) else none
  | _ => none
def fApp (i : Nat) (fe : FE) : FS := fun ρ => match ρ[i]?.bind Slot.mu with
  | some (.lst _) => (fe ρ).bind fun x => (wrOwn i (cApp x.1) x.2).bind fun ρ => some (.nx, ρ)
  | _ => none
theorem ds_append (i : Nat) {x : Str} {p2 p3 p4 : Pos} (he : DE X e ta fa) (hN : X.N[i]? = some x := by rfl) (hx : Vis X.env.scope x := by first | exact Or.inl rfl | exact Or.inr (Or.inl rfl) | exact Or.inr (Or.inr rfl))
    (hd : (x == ("__debug__" : Str)) = false := by decide) (hcd : (x == ("__classdict__" : Str)) = false := by decide)
    (hbase : attributeBase (.Name x p2) "append" X.env (eval (.Name x p2) X.env) = eval (.Name x p2) X.env := by rfl)
    (hfew : ((backTo p4 (starEach [e] X.env)).all (fun x => !x.1) && (backToKw p4 (keywordEach [] X.env)).all (fun x => x.1.isSome)
      && decide (([e] : List Expr).length + ([] : List Keyword).length + (if ([] : List Keyword).isEmpty then 0 else 1) < 30)) = true := by rfl)
    (hline : (p3.endLine == p4.line) = true := by rfl) (hse : starEach [e] X.env = (false, eval e X.env) :: starEach [] X.env := by rfl) (hplain : (backTo p4 (starEach [] X.env)).any (·.1) = false := by rfl)
    (hs : swapsWith (.Call (.Attribute (.Name x p2) "append" p3) [e] [] p4) none pos.line X.env = pure false := by rfl) :
    DS X (.Expr (.Call (.Attribute (.Name x p2) "append" p3) [e] [] p4) pos) (tDrop (tBM X.K "list" rAppend (tVar i) (tCons ta tNil))) (fApp i fa) := by
  obtain ⟨pe, qe⟩ := he
  refine ⟨ps_expr (pe_bm PySem.F.plainAttrs_list PySem.F.slot_list_append PySem.F.type_list_append mt_append (pe_var hN hx hd hcd) (pa_cons pe pa_nil hse) hbase hfew hline hse hplain) hs, fun G O H σ ρ ρ' fl Dn hK R h k => ?_⟩
  unfold fApp at h
  split at h
  · rename_i ds0 e0
    obtain ⟨s0, e9, e10⟩ := bind_ok e0
    obtain ⟨⟨d, ρ1⟩, h2, h⟩ := bind_ok h
    obtain ⟨ρ3, h4, h⟩ := bind_ok h
    cases h
    obtain ⟨s, u, u', e4, e5, e6, e7⟩ := wrOwn_ok h4
    obtain ⟨p, vs0, hp, _, hv0, _⟩ := own_lst R e9 e10
    unfold cApp at e6
    split at e6
    · rename_i ds
      split at e6
      · rename_i hl
        cases e6
        refine ⟨.ref p, hp, .inl ⟨rfl, vs0, .inl (.inl hv0)⟩, ?_⟩
        refine qe G O H σ ρ ρ1 d _ hK R h2 fun v H1 R1 m1 z1 => ?_
        obtain ⟨p', vs, h5, h6, h7, h8⟩ := own_lst R1 e4 e5
        rw [hp] at h5; cases h5
        refine ⟨p, vs, v, rfl, rfl, h7, by rw [h8.len]; exact lenOk_lt hl, ?_⟩
        subst e7
        obtain ⟨R3, m3⟩ := R1.write (o := .lst (vs ++ [v])) (u' := .lst (ds ++ [d])) e4 e5 hp fun t => ⟨_, upd_same, FzL.tm t (FzL.app h8 (FzL.one (hK ▸ z1)))⟩
        exact k O _ σ R3 (R.tm (m1.trans m3))
      · cases e6
    · cases e6
  · cases h
/-! ### x op= e, a, b = b', a', a, b = t -/
def fAug (i : Nat) (g : D → D → Option D) (fe : FE) : FS := fun ρ => match ρ[i]? with
  | some (.dat d) => (fe ρ).bind fun x => (g d x.1).bind fun r => (fPut i r x.2).bind fun ρ => some (.nx, ρ)
  | _ => none
theorem ds_aug (i : Nat) {x : Str} {op : Operator} {ti : TIp} {g : D → D → Option D} {pos' : Pos} (hN : X.N.Nodup) (he : DE X e ta fa) (ho : PIp X op ti) (hq : R2D X.K ti g) (hi : X.N[i]? = some x := by rfl) (hx : Loc X.env.scope x := by first | exact Or.inl rfl | exact Or.inr rfl)
    (hf : X.fn x = true ∨ X.env.scope.names.lookup x = some .local := by first | exact .inl rfl | exact .inr rfl) : DS X (.AugAssign (.Name x pos') op e pos) (tAug i ta ti) (fAug i g fa) := by
  obtain ⟨pe, qe⟩ := he
  refine ⟨ps_aug hN hi hx pe ho hf, fun G O H σ ρ ρ' fl Dn hK R h k => ?_⟩
  unfold fAug at h
  split at h
  · rename_i d0 e0
    obtain ⟨⟨d, ρ1⟩, h2, h⟩ := bind_ok h
    obtain ⟨r, h3, h⟩ := bind_ok h
    obtain ⟨ρ2, h4, h⟩ := bind_ok h
    cases h
    obtain ⟨v0, e1, z0⟩ := R.dat i _ e0
    refine ⟨v0, e1, ?_⟩
    refine qe G O H σ ρ ρ1 d _ hK R h2 fun v H1 R1 m1 z1 => ?_
    refine hq O H1 v0 v d0 d r _ R1.occ (Fz.tm (R.tm m1) (hK ▸ z0)) z1 h3 fun w H2 s z2 => ?_
    obtain ⟨O3, t3, R3⟩ := (R1.same s).putD (hK ▸ z2) h4
    exact k O3 H2 _ R3 ((R.tm (m1.trans (Fm.same s))).trans t3)
  · cases h
theorem q_ipAdd {K : PySem.W.Frag} : R2D K (ipI fun i j => i + j) (dInt2 yes2 fun i j => .int (i + j)) := by
  intro O H x y d1 d2 d Q ho z1 z2 h k
  unfold dInt2 at h
  split at h
  · rename_i a b
    rw [if_pos (show yes2 a b = true from rfl)] at h
    cases h
    unfold Fz at z1 z2
    exact ⟨a, b, z1, z2, k _ H (Same.refl H) (fz_int _)⟩
  · cases h
theorem q_ipSub {K : PySem.W.Frag} : R2D K (ipI fun i j => i - j) (dInt2 yes2 fun i j => .int (i - j)) := by
  intro O H x y d1 d2 d Q ho z1 z2 h k
  unfold dInt2 at h
  split at h
  · rename_i a b
    rw [if_pos (show yes2 a b = true from rfl)] at h
    cases h
    unfold Fz at z1 z2
    exact ⟨a, b, z1, z2, k _ H (Same.refl H) (fz_int _)⟩
  · cases h
def fPar (i j : Nat) (fx : FA) : FS := fun ρ => (fx ρ).bind fun x => match x.1 with
  | [d, d2] => (fPut0 i d x.2).bind fun ρ => (fPut0 j d2 ρ).bind fun ρ => some (.nx, ρ)
  | _ => none
theorem fPut0_ok {i : Nat} {d : D} {ρ ρ' : Ev} (h : fPut0 i d ρ = some ρ') : ∃ s, ρ[i]? = some s ∧ s.mu = none ∧ ρ' = ρ.set i (.dat d) := by
  unfold fPut0 at h
  split at h
  · rename_i d' e; cases h; exact ⟨_, e, rfl, rfl⟩
  · rename_i e; cases h; exact ⟨_, e, rfl, rfl⟩
  · cases h
theorem ds_par (i j : Nat) {x y : Str} {px py pt : Pos} {kt k2 pt2} (hc : X.calm = true) (hN : X.N.Nodup) (ha : DA X [a, b] tx fx)
    (hw : swappedStores [.Tuple [.Name x px, .Name y py] kt pt] (.Tuple [a, b] k2 pt2) X.env = pure (some [x, y]))
    (hi : X.N[i]? = some x := by rfl) (hj : X.N[j]? = some y := by rfl) (hij : i ≠ j := by decide)
    (hx : X.env.scope.names.lookup x = some .local := by rfl) (hy : X.env.scope.names.lookup y = some .local := by rfl)
    (hs : swapsWithSole [.Tuple [.Name x px, .Name y py] kt pt] (.Tuple [a, b] k2 pt2) pos.line X.env = pure false := by rfl) :
    DS X (.Assign [.Tuple [.Name x px, .Name y py] kt pt] (.Tuple [a, b] k2 pt2) pos) (tPar i j tx) (fPar i j fx) := by
  obtain ⟨p, q⟩ := ha
  refine ⟨ps_par hc hN hi hj hij hx hy p hw hs, fun G O H σ ρ ρ' fl Dn hK R h k => ?_⟩
  obtain ⟨⟨ds, ρ1⟩, h1, h⟩ := bind_ok h
  simp only at h
  split at h
  · rename_i d d2
    obtain ⟨ρ2, h2, h⟩ := bind_ok h
    obtain ⟨ρ3, h3, h⟩ := bind_ok h
    cases h
    refine q G O H σ ρ ρ1 _ _ hK R h1 fun vs H1 R1 m1 z => ?_
    obtain ⟨v, w, e, z1, z2⟩ := fzL_two z
    refine ⟨v, w, e, ?_⟩
    obtain ⟨s1, e1, n1, rfl⟩ := fPut0_ok h2
    obtain ⟨s2, e2, n2, rfl⟩ := fPut0_ok h3
    exact k O H1 _ ((R1.set e1 n1 (hK ▸ z1)).set e2 n2 (hK ▸ z2)) (R.tm m1)
  · cases h
def fUnpack (fe : FE) (T : D → Ev → Option Ev) : FS := fun ρ => (fe ρ).bind fun x => (T x.1 x.2).bind fun ρ => some (.nx, ρ)
theorem ds_unpack {tg : Expr} {g : TG} {l : List Nat} {T : D → Ev → Option Ev} (he : DE X e ta fa) (hg : DG X tg g l T) (hs : swapsWithSole [tg] e pos.line X.env = pure false := by rfl) (hw : swappedStores [tg] e X.env = pure none := by rfl)
    (h1 : (assignEach [tg] X.env).map (·.2) = [assign tg X.env] := by rfl) : DS X (.Assign [tg] e pos) (tAsg ta g) (fUnpack fa T) := by
  obtain ⟨p, q⟩ := he
  obtain ⟨p2, q2⟩ := hg
  refine ⟨ps_asg p p2 hs hw h1, fun G O H σ ρ ρ' fl Dn hK R h k => ?_⟩
  obtain ⟨⟨d, ρ1⟩, h2, h⟩ := bind_ok h
  obtain ⟨ρ2, h3, h⟩ := bind_ok h
  cases h
  refine q G O H σ ρ ρ1 d _ hK R h2 fun v H1 R1 m1 z => ?_
  exact q2 G O H1 σ ρ1 _ v d _ hK R1 z h3 fun σ' R' _ _ => k O H1 σ' R' (R.tm m1)
/-! ### slices -/
abbrev FP := Ev → Option (Option Int × Ev)
structure DP (X : Cx) (e : Option Expr) (t : TO) (f : FP) : Prop where
  p : PO X e t
  q : ∀ (G : Gh) (O : Addr → Prop) (H : Hp) (σ : Sg) (ρ ρ' : Ev) (o : Option Int) (Q : Option Int → Hp → Prop), G.K = X.K → Rep G O H σ ρ → f ρ = some (o, ρ') → (∀ H', Rep G O H' σ ρ' → Fm σ ρ H ρ' H' → Q o H') → t σ H Q
def fNoP : FP := fun ρ => some (none, ρ)
def fPart (f : FE) : FP := fun ρ => (f ρ).bind fun x => match x.1 with
  | .int i => some (some i, x.2)
  | _ => none
theorem dp_none : DP X none tNoPart fNoP := ⟨po_none, fun G O H σ ρ ρ' o Q hK R h k => by cases h; exact k H R Fm.refl⟩
theorem dp_some (h : DE X e ta fa) : DP X (some e) (tPart ta) (fPart fa) := by
  obtain ⟨p, q⟩ := h
  refine ⟨po_some p, fun G O H σ ρ ρ' o Q hK R h k => ?_⟩
  obtain ⟨⟨d, ρ1⟩, h2, h⟩ := bind_ok h
  simp only at h
  split at h
  · cases h
    refine q G O H σ ρ _ _ _ hK R h2 fun v H1 R1 m1 z => ?_
    unfold Fz at z
    exact ⟨_, z, k H1 R1 m1⟩
  · cases h
def cutD (ds : List D) (lo hi : Option Int) : List D := (ds.drop (HT.sIx ds.length 0 lo)).take (HT.sIx ds.length ds.length hi - HT.sIx ds.length 0 lo)
theorem FzL.drop {K : PySem.W.Frag} {O : Addr → Prop} {H : Hp} : ∀ {vs : List V} {ds : List D} (n : Nat), FzL K O H vs ds → FzL K O H (vs.drop n) (ds.drop n)
  | vs, ds, 0, h => h
  | vs, [], n + 1, h => by
    unfold FzL at h; subst h
    show FzL K O H [] []
    unfold FzL; rfl
  | vs, d :: ds, n + 1, h => by
    unfold FzL at h
    obtain ⟨v, r, e, _, h2⟩ := h
    subst e
    exact FzL.drop n h2
theorem FzL.take {K : PySem.W.Frag} {O : Addr → Prop} {H : Hp} : ∀ {vs : List V} {ds : List D} (n : Nat), FzL K O H vs ds → FzL K O H (vs.take n) (ds.take n)
  | vs, ds, 0, h => by unfold List.take FzL; rfl
  | vs, [], n + 1, h => by
    unfold FzL at h; subst h
    show FzL K O H [] []
    unfold FzL; rfl
  | vs, d :: ds, n + 1, h => by
    unfold FzL at h
    obtain ⟨v, r, e, h1, h2⟩ := h
    subst e
    show FzL K O H (v :: r.take n) (d :: ds.take n)
    unfold FzL
    exact ⟨v, _, rfl, h1, FzL.take n h2⟩
theorem FzL.cut {K : PySem.W.Frag} {O : Addr → Prop} {H : Hp} {vs : List V} {ds : List D} {lo hi : Option Int} (h : FzL K O H vs ds) : FzL K O H (cutV vs lo hi) (cutD ds lo hi) := by
  unfold cutV cutD
  rw [h.len]
  exact FzL.take _ (FzL.drop _ h)
def gCut : D → Option Int → Option Int → Option D
  | .tup ds, lo, hi => some (.tup (cutD ds lo hi))
  | .lst ds, lo, hi => some (.lst (cutD ds lo hi))
  | _, _, _ => none
def fSlice (f : FE) (g h : FP) : FE := fun ρ => (f ρ).bind fun x => (g x.2).bind fun y => (h y.2).bind fun z => (gCut x.1 y.1 z.1).bind fun d => some (d, z.2)
theorem cut_whole {ds : List D} {lo hi : Option Int} (h : HT.sIx ds.length 0 lo = 0 ∧ HT.sIx ds.length ds.length hi = ds.length) : cutD ds lo hi = ds := by
  unfold cutD
  rw [h.1, h.2]
  simp
theorem de_slice {lo hi : Option Expr} {tl th : TO} {fl fh : FP} {p2 : Pos} (ha : DE X e ta fa) (hl : DP X lo tl fl) (hh : DP X hi th fh) :
    DE X (.Subscript e (.Slice lo hi none p2) pos) (tSl (fun x lo hi H Q => rSlL X.K x lo hi H Q ∨ rSlA X.K x lo hi H Q) ta tl th) (fSlice fa fl fh) := by
  obtain ⟨p, q⟩ := ha
  obtain ⟨pl, ql⟩ := hl
  obtain ⟨ph, qh⟩ := hh
  refine ⟨pe_slice (SlR.or sl_list sl_tupA) p pl ph, fun G O H σ ρ ρ' d Q hK R h k => ?_⟩
  obtain ⟨⟨x, ρ1⟩, h1, h⟩ := bind_ok h
  obtain ⟨⟨l, ρ2⟩, h2, h⟩ := bind_ok h
  obtain ⟨⟨u, ρ3⟩, h3, h⟩ := bind_ok h
  obtain ⟨d', h4, h⟩ := bind_ok h
  cases h
  refine q G O H σ ρ ρ1 x _ hK R h1 fun v H1 R1 m1 z1 => ?_
  refine ql G O H1 σ ρ1 ρ2 l _ hK R1 h2 fun H2 R2 m2 => ?_
  refine qh G O H2 σ ρ2 _ u _ hK R2 h3 fun H3 R3 m3 => ?_
  have z := Fz.tm (R1.tm (m2.trans m3)) z1
  have z' := z
  have m := (m1.trans m2).trans m3
  cases x with
  | tup ds =>
    cases h4
    unfold Fz at z
    obtain ⟨a, ws, e1, t, zl⟩ := z
    subst e1
    refine .inr ⟨a, ws, rfl, t.sq, fun hw => ?_, fun _ p hp => k _ _ (R3.same (same_upd hp)) (m.trans (Fm.same (same_upd hp))) (fz_newTup R3.occ hp zl.cut)⟩
    rw [zl.len] at hw
    exact k _ H3 R3 m (by rw [cut_whole hw]; exact z')
  | lst ds =>
    cases h4
    unfold Fz at z
    obtain ⟨a, ws, e1, t, zl⟩ := z
    subst e1
    exact .inl ⟨a, ws, rfl, t.sq, fun p hp => k _ _ (R3.same (same_upd hp)) (m.trans (Fm.same (same_upd hp))) (fz_newLst R3.occ hp zl.cut)⟩
  | _ => cases h4
/-! ### a value as a test -/
def gTru : D → Option Bool
  | .non => some false
  | .bl b => some b
  | .int i => some (i != 0)
  | .tup ds => some (!ds.isEmpty)
  | .lst ds => some (!ds.isEmpty)
  | _ => none
def fTru (f : FE) : FT := fun ρ => (f ρ).bind fun x => (gTru x.1).bind fun b => some (b, x.2)
theorem FzL.empty {K : PySem.W.Frag} {O : Addr → Prop} {H : Hp} {vs : List V} {ds : List D} (h : FzL K O H vs ds) : vs.isEmpty = ds.isEmpty := by
  have := h.len
  cases vs <;> cases ds <;> simp at this ⊢
theorem tru_of {K : PySem.W.Frag} {O : Addr → Prop} {H : Hp} {v : V} {d : D} {b : Bool} (z : Fz K O H v d) (h : gTru d = some b) : TruV K v H b := by
  cases d with
  | non => unfold Fz at z; subst z; cases h; rfl
  | bl c => unfold Fz at z; subst z; cases h; rfl
  | int i => unfold Fz at z; subst z; cases h; rfl
  | tup ds =>
    unfold Fz at z
    obtain ⟨a, ws, e1, t, zl⟩ := z
    subst e1; cases h
    exact .inr (.inl ⟨ws, t.sq, by rw [zl.empty]⟩)
  | lst ds =>
    unfold Fz at z
    obtain ⟨a, ws, e1, t, zl⟩ := z
    subst e1; cases h
    exact .inl ⟨ws, t.sq, by rw [zl.empty]⟩
  | _ => cases h
theorem dt_tru (h : DE X e ta fa) (he : ∀ whole, isTrue e X.env whole = (do let v ← whole; standAt e.pos; holding [v] (truthy v)) := by intro _; rfl) : DT X e (fun σ H Q => ta σ H fun x H' => ∃ k, TruV X.K x H' k ∧ Q k H') (fTru fa) := by
  obtain ⟨p, q⟩ := h
  refine ⟨pt_truth p he, fun G O H σ ρ ρ' b Q hK R h k => ?_⟩
  obtain ⟨⟨x, ρ1⟩, h1, h⟩ := bind_ok h
  obtain ⟨c, h2, h⟩ := bind_ok h
  cases h
  exact q G O H σ ρ _ x _ hK R h1 fun v H1 R1 m1 z1 => ⟨_, tru_of z1 h2, k H1 R1 m1⟩
/-! ### list(x) -/
def fListOf (fx : FA) : FO := fun ρ => (fx ρ).bind fun x => match x.1 with
  | [.lst ds] => some (.lst ds, x.2)
  | [.tup ds] => some (.lst ds, x.2)
  | _ => none
theorem dn_list {x : Str} {p : Pos} (ha : DA X [e] tx fx) (hg : Gl X x) (hm : X.mg x = none) (hv : bootBuiltins x = some (.type "list"))
    (hn : x ≠ "__name__" := by decide) (hdb : (x == ("__debug__" : Str)) = false := by decide) (he : starEach [e] X.env = (false, eval e X.env) :: starEach [] X.env := by rfl) (hpl : (backTo pos (starEach [] X.env)).any (·.1) = false := by rfl) :
    DN X (.Call (.Name x p) [e] [] pos) (tCB (fun xs H Q => ∃ p ys, xs = [.ref p] ∧ (SqL X.K H p ys ∨ SqT X.K H p ys) ∧ ∀ l, H l = none → Q (.ref l) (upd H l (.lst ys))) tx) (fListOf fx) := by
  obtain ⟨pa, q⟩ := ha
  refine ⟨pe_callTy call_list_of hg hm hv pa hn hdb he hpl, fun G O H σ ρ ρ' u Q hK R h k => ?_⟩
  obtain ⟨⟨ds, ρ1⟩, h1, h⟩ := bind_ok h
  refine q G O H σ ρ ρ1 ds _ hK R h1 fun vs H1 R1 m1 z1 => ?_
  simp only at h
  split at h
  · cases h
    obtain ⟨v, e, z1⟩ := fzL_one z1
    unfold Fz at z1
    obtain ⟨a, ws, e2, t, l⟩ := z1
    subst e2
    exact ⟨a, ws, e, .inl t.sq, fun p hp => k p _ (new_ahead R m1 R1 hp) (R1.more hp) (m1.trans (Fm.same (same_upd hp))) ⟨ws, upd_same, FzL.tm (tm_more (same_upd hp) hp) l⟩⟩
  · cases h
    obtain ⟨v, e, z1⟩ := fzL_one z1
    unfold Fz at z1
    obtain ⟨a, ws, e2, t, l⟩ := z1
    subst e2
    exact ⟨a, ws, e, .inr t.sq, fun p hp => k p _ (new_ahead R m1 R1 hp) (R1.more hp) (m1.trans (Fm.same (same_upd hp))) ⟨ws, upd_same, FzL.tm (tm_more (same_upd hp) hp) l⟩⟩
  · cases h
end
end DL
end

section
set_option Elab.async false
set_option linter.all false
set_option maxRecDepth 100000
namespace DL
open PySem PySem.Spec PyProof.Rows L2

/-! ### for over a list or a tuple, whichever it is -/
def iSeqR (K : PySem.W.Frag) (tl : TE) : TI := fun σ H R => tl σ H fun x H1 => ∃ a, x = .ref a ∧ ((∃ xs, SqL K H1 a xs ∧ R (Itl K a) H1) ∨ (∃ xs, SqT K H1 a xs ∧ R (Itt K a) H1))
theorem pi_seqR {X : Cx} {tg l : Expr} {tl : TE} (hl : PE X l tl) : PI X tg l (iSeqR X.K tl) := by
  refine ⟨fun pins s σ H R I h => thn (hl.run pins s σ H _ I h) ?_⟩
  rintro v s1 ⟨x, H1, I1, r1, a, e, q⟩
  subst e; cases r1
  have new : ∀ b, b ∈ [s1.heap.objs.size] → FpOk X pins H1 b := fun b hb => by
    rw [List.mem_singleton.mp hb]
    exact I1.fpOk (Nat.le_refl _) (I1.hok.fresh (Nat.le_refl _))
  rcases q with ⟨xs, hq, q⟩ | ⟨xs, hq, q⟩
  · obtain ⟨its, _, pl, _⟩ := I1.list hq
    exact wpAny_pyIter_list pl.isList ⟨_, [s1.heap.objs.size], _, _, H1, rfl, I1.kept (t' := s1.toks) fun _ _ e => Heap.get?_push_of_some _ e, turn_list a _, ⟨_, Heap.get?_push_size _ rfl, rfl, rfl⟩, new, q⟩
  · obtain ⟨its, _, pl, _⟩ := I1.tuple hq
    exact wpAny_pyIter_tuple (show s1.heap.IsTuple a its.toArray from pl) ⟨_, [s1.heap.objs.size], _, _, H1, rfl, I1.kept (t' := s1.toks) fun _ _ e => Heap.get?_push_of_some _ e, turn_tuple a _, ⟨_, Heap.get?_push_size _ rfl, rfl, rfl⟩, new, q⟩
def iOf (f : FE) : FA := fun ρ => match f ρ with
  | some (.lst ds, ρ') => some (ds, ρ')
  | some (.tup ds, ρ') => some (ds, ρ')
  | _ => none
theorem itok_list {K : PySem.W.Frag} {O : Addr → Prop} {H : Hp} {a : Addr} {ds : List D} (z : Fz K O H (.ref a) (.lst ds)) : ItOk K (Itl K a) ds O H := by
  refine ⟨[(.ref a, .lst ds)], fun p hp => by rw [List.mem_singleton.mp hp]; exact z, fun O' H' _ hz i => ?_⟩
  have y := hz _ (List.mem_singleton.mpr rfl)
  unfold Fz at y
  obtain ⟨a', ws, e2, y1, y2⟩ := y
  cases e2
  refine ⟨fun d hd => ?_, fun hl => ⟨ws, y1.sq, by rw [y2.len]; exact Nat.le_of_eq hl⟩⟩
  obtain ⟨x, hx, zx⟩ := y2.get hd
  refine ⟨⟨ws, x, y1.sq, hx⟩, fun x' H'' ⟨eH, hy⟩ => ?_⟩
  subst eH
  have := hy ws y1.sq
  rw [hx] at this; cases this
  exact ⟨Same.refl _, zx⟩
theorem itok_tup {K : PySem.W.Frag} {O : Addr → Prop} {H : Hp} {a : Addr} {ds : List D} (z : Fz K O H (.ref a) (.tup ds)) : ItOk K (Itt K a) ds O H := by
  refine ⟨[(.ref a, .tup ds)], fun p hp => by rw [List.mem_singleton.mp hp]; exact z, fun O' H' _ hz i => ?_⟩
  have y := hz _ (List.mem_singleton.mpr rfl)
  unfold Fz at y
  obtain ⟨a', ws, e2, y1, y2⟩ := y
  cases e2
  refine ⟨fun d hd => ?_, fun hl => ⟨ws, y1.sq, by rw [y2.len]; exact Nat.le_of_eq hl⟩⟩
  obtain ⟨x, hx, zx⟩ := y2.get hd
  refine ⟨⟨ws, x, y1.sq, hx⟩, fun x' H'' ⟨eH, hy⟩ => ?_⟩
  subst eH
  have := hy ws y1.sq
  rw [hx] at this; cases this
  exact ⟨Same.refl _, zx⟩
theorem di_seq {X : Cx} {tg e : Expr} {ta : TE} {f : FE} (h : DE X e ta f) : DI X tg e (iSeqR X.K ta) (iOf f) := by
  obtain ⟨p, q⟩ := h
  refine ⟨pi_seqR p, fun G O H σ ρ ρ' ds Q hK R h k => ?_⟩
  unfold iOf at h
  split at h
  · rename_i ds' ρ1 e1
    cases h
    refine q G O H σ ρ _ _ _ hK R e1 fun v H1 R1 m1 z => ?_
    have z' := z
    unfold Fz at z
    obtain ⟨a, vs, e2, z1, z2⟩ := z
    subst e2
    exact ⟨a, rfl, .inl ⟨vs, z1.sq, k _ H1 R1 m1 (itok_list z')⟩⟩
  · rename_i ds' ρ1 e1
    cases h
    refine q G O H σ ρ _ _ _ hK R e1 fun v H1 R1 m1 z => ?_
    have z' := z
    unfold Fz at z
    obtain ⟨a, vs, e2, z1, z2⟩ := z
    subst e2
    exact ⟨a, rfl, .inr ⟨vs, z1.sq, k _ H1 R1 m1 (itok_tup z')⟩⟩
  · cases h

/-! ### zip of two lists or two tuples -/
def zipD (as bs : List D) : List D := (as.zip bs).map fun p => .tup [p.1, p.2]
def iZipF (f : FA) : FA := fun ρ => match f ρ with
  | some ([.lst as, .lst bs], ρ') => some (zipD as bs, ρ')
  | some ([.tup as, .tup bs], ρ') => some (zipD as bs, ρ')
  | _ => none
theorem zipD_get {as bs : List D} {i : Nat} {d : D} (h : (zipD as bs)[i]? = some d) : ∃ a b, as[i]? = some a ∧ bs[i]? = some b ∧ d = .tup [a, b] := by
  unfold zipD at h
  rw [List.getElem?_map] at h
  cases q : (as.zip bs)[i]? with
  | none => rw [q] at h; cases h
  | some p =>
    rw [q] at h
    cases h
    obtain ⟨h1, h2⟩ := List.getElem?_zip_eq_some.mp q
    exact ⟨p.1, p.2, h1, h2, rfl⟩
theorem fz_pair {K : PySem.W.Frag} {O : Addr → Prop} {H : Hp} {v w : V} {d d2 : D} {p : Addr} (ho : Occ O H) (hp : H p = none) (z : Fz K O H v d) (z2 : Fz K O H w d2) : Fz K O (upd H p (.tup [v, w])) (.ref p) (.tup [d, d2]) :=
  fz_newTup ho hp (by unfold FzL; exact ⟨v, [w], rfl, z, FzL.one z2⟩)
theorem di_zip {X : Cx} {e e2 : Expr} {tx : TA} {fx : FA} {p pos tpos : Pos} {elts : List Expr} {kk : Nat} (hg : Gl X "zip") (hm : X.mg "zip" = none) (ha : DA X [e, e2] tx fx)
    (hs : starEach [e, e2] X.env = (false, eval e X.env) :: starEach [e2] X.env := by rfl) (hpl : (backTo pos (starEach [e2] X.env)).any (·.1) = false := by rfl) :
    DI X (.Tuple elts kk tpos) (.Call (.Name "zip" p) [e, e2] [] pos) (RZ.iZipA X.K tx) (iZipF fx) := by
  obtain ⟨pa, q⟩ := ha
  refine ⟨RZ.pi_zipA hg hm pa hs hpl, fun G O H σ ρ ρ' ds Q hK R h k => ?_⟩
  unfold iZipF at h
  split at h
  · rename_i as bs ρ1 e1
    cases h
    refine q G O H σ ρ _ _ _ hK R e1 fun vs H1 R1 m1 z => ?_
    obtain ⟨v, w, ev, z1, z2⟩ := fzL_two z
    have z1' := z1
    have z2' := z2
    unfold Fz at z1 z2
    obtain ⟨a, xs, ea, t1, l1⟩ := z1
    obtain ⟨b, ys, eb, t2, l2⟩ := z2
    subst ea; subst eb
    refine ⟨a, b, xs, ys, ev, .inl ⟨t1.sq, t2.sq, k _ H1 R1 m1 ⟨[(.ref a, .lst as), (.ref b, .lst bs)], fun p hp => ?_, fun O' H' ho hz i => ?_⟩⟩⟩
    · rcases List.mem_cons.mp hp with e | hp
      · rw [e]; exact z1'
      · rw [List.mem_singleton.mp hp]; exact z2'
    · have y1 := hz (.ref a, .lst as) (by simp)
      have y2 := hz (.ref b, .lst bs) (by simp)
      unfold Fz at y1 y2
      obtain ⟨a', xs', ea, u1, m1⟩ := y1
      obtain ⟨b', ys', eb, u2, m2⟩ := y2
      cases ea; cases eb
      refine ⟨fun d hd => ?_, fun hl => ⟨xs', ys', u1.sq, u2.sq, ?_⟩⟩
      · obtain ⟨da, db, ga, gb, ed⟩ := zipD_get hd
        obtain ⟨x, gx, zx⟩ := m1.get ga
        obtain ⟨y, gy, zy⟩ := m2.get gb
        refine ⟨⟨xs', ys', x, y, u1.sq, u2.sq, gx, gy⟩, fun r H'' ⟨T, x', y', er, hT, eH, k1, k2⟩ => ?_⟩
        have := k1 xs' u1.sq
        rw [gx] at this; cases this
        have := k2 ys' u2.sq
        rw [gy] at this; cases this
        subst er; subst eH; subst ed
        exact ⟨same_upd hT, fz_pair ho hT zx zy⟩
      · unfold zipD at hl
        rw [List.length_map, List.length_zip] at hl
        rw [m1.len, m2.len]
        omega
  · rename_i as bs ρ1 e1
    cases h
    refine q G O H σ ρ _ _ _ hK R e1 fun vs H1 R1 m1 z => ?_
    obtain ⟨v, w, ev, z1, z2⟩ := fzL_two z
    have z1' := z1
    have z2' := z2
    unfold Fz at z1 z2
    obtain ⟨a, xs, ea, t1, l1⟩ := z1
    obtain ⟨b, ys, eb, t2, l2⟩ := z2
    subst ea; subst eb
    refine ⟨a, b, xs, ys, ev, .inr ⟨t1.sq, t2.sq, k _ H1 R1 m1 ⟨[(.ref a, .tup as), (.ref b, .tup bs)], fun p hp => ?_, fun O' H' ho hz i => ?_⟩⟩⟩
    · rcases List.mem_cons.mp hp with e | hp
      · rw [e]; exact z1'
      · rw [List.mem_singleton.mp hp]; exact z2'
    · have y1 := hz (.ref a, .tup as) (by simp)
      have y2 := hz (.ref b, .tup bs) (by simp)
      unfold Fz at y1 y2
      obtain ⟨a', xs', ea, u1, m1⟩ := y1
      obtain ⟨b', ys', eb, u2, m2⟩ := y2
      cases ea; cases eb
      refine ⟨fun d hd => ?_, fun hl => ⟨xs', ys', u1.sq, u2.sq, ?_⟩⟩
      · obtain ⟨da, db, ga, gb, ed⟩ := zipD_get hd
        obtain ⟨x, gx, zx⟩ := m1.get ga
        obtain ⟨y, gy, zy⟩ := m2.get gb
        refine ⟨⟨xs', ys', x, y, u1.sq, u2.sq, gx, gy⟩, fun r H'' ⟨T, x', y', er, hT, eH, k1, k2⟩ => ?_⟩
        have := k1 xs' u1.sq
        rw [gx] at this; cases this
        have := k2 ys' u2.sq
        rw [gy] at this; cases this
        subst er; subst eH; subst ed
        exact ⟨same_upd hT, fz_pair ho hT zx zy⟩
      · unfold zipD at hl
        rw [List.length_map, List.length_zip] at hl
        rw [m1.len, m2.len]
        omega
  · cases h

/-! ### enumerate of a tuple or a list -/
def ItEn (K : PySem.W.Frag) (a : Addr) : It :=
  ⟨fun i H => ∃ (xs : List V) (x : V), SqT K H a xs ∧ xs[i]? = some x,
   fun i H v H' => ∃ T x, v = .ref T ∧ H T = none ∧ H' = upd H T (.tup [.int (i : Nat), x]) ∧ ∀ xs, SqT K H a xs → xs[i]? = some x,
   fun i H => ∃ xs : List V, SqT K H a xs ∧ xs.length = i⟩
set_option maxHeartbeats 1000000 in
theorem meets_enum1 {v : Value} {ob : Obj} {Hy : Heap → Prop} (B : Begins v ob Hy) : Meets (Builtin.«enumerate.__new__» ⟨[.type "enumerate", v], []⟩) (fun _ R s => Hy s.heap ∧
    R (.ok (.ret (.ref (s.heap.push ob).objs.size))) { s with heap := (s.heap.push ob).push { cls := .type "enumerate", data := .fields #[.none, .bool false, .ref s.heap.objs.size, rawInt 0, .none, .none] } }) := by
  refine .of_wp fun prog w A R s hs => ?_
  obtain ⟨hp, gs, dr, tk, os⟩ := s
  obtain ⟨y1, hr⟩ := hs
  have hsub := sub_enumerate
  have go : ∀ {A' : Around} {E' : Value → Shared → Prop} {Q' : Value → Shared → Prop}, Q' (.ref hp.objs.size) ⟨hp.push ob, gs, dr, tk, os⟩ → wpAny (model prog w) A' (pyIter v) Q' E' ⟨hp, gs, dr, tk, os⟩ := fun q => B.iter prog w _ _ ⟨hp, gs, dr, tk, os⟩ _ y1 q
  wp_walk using go
  refine wpAny_stack_any fun st => wpAny_pure ?_
  split
  · rename_i c _ _ _ _ _
    cases (c == Value.type "enumerate") <;> (wp_walk using go; exact ⟨_, rfl, hr⟩)
  · wp_walk using go
    exact ⟨_, rfl, hr⟩
theorem enum1_begins {prog : Program} {w : World} {A : Around} {E : Value → Shared → Prop} {s : Shared} {v : Value} {ob : Obj} {Hy : Heap → Prop} {Q : Value → Shared → Prop} (B : Begins v ob Hy) (y1 : Hy s.heap)
    (h : ∀ h', IsEnum h' (s.heap.objs.size + 1) s.heap.objs.size 0 .none → h'.get? s.heap.objs.size = some ob → (∀ b o, s.heap.get? b = some o → h'.get? b = some o) → Q (.ref (s.heap.objs.size + 1)) { s with heap := h' }) :
    wpAny (model prog w) A (call (.type "enumerate") [v]) Q E s := by
  refine callType_new F.called_enumerate (by decide) (F.typeCall_enumerate_1 _) (F.newCall_enumerate_1 _) (fun obj => F.args_object_init_2 obj _) F.entry_enumerate_new (meets_enum1 B) ⟨y1, ?_⟩
  have hz : (s.heap.push ob).objs.size = s.heap.objs.size + 1 := Heap.size_push ..
  have he := Heap.get?_push_size (s.heap.push ob) (o := { cls := .type "enumerate", data := .fields #[.none, .bool false, .ref s.heap.objs.size, rawInt 0, .none, .none] }) rfl
  rw [hz] at he
  show _ ∧ _
  rw [hz]
  exact ⟨⟨_, he, rfl⟩, h _ he (Heap.get?_push_of_some _ (Heap.get?_push_size _ B.free)) fun b o x => Heap.get?_push_of_some _ (Heap.get?_push_of_some _ x)⟩
theorem turn_enumT {P : Program} {w : World} {K : PySem.W.Frag} {elts : List Expr} {kk : Nat} {tpos : Pos} (a e it : Addr) :
    Turn P w K (.Tuple elts kk tpos) (ItEn K a) [e, it] e (fun i h => (∃ old, IsEnum h e it ((i : Nat) : Int) old) ∧ h.IsTupleIter it a i ∧ e ≠ it ∧ e ≠ a ∧ a ≠ it) := by
  refine ⟨by simp, fun i h st b hb => ?_, fun i h h' st kp => ?_, ?_, ?_, fun A i s Q E st h => let ⟨⟨_, he⟩, _⟩ := st; wpAny_pyIter_enum he h⟩
  · obtain ⟨⟨old, he⟩, ⟨o, ho, hc, hd⟩, _⟩ := st
    rcases List.mem_cons.mp hb with z | hb
    · rw [z]; exact ⟨_, he, fun v q => nomatch q⟩
    · rw [List.mem_singleton.mp hb]; exact ⟨o, ho, fun v q => by rw [hd] at q; cases q⟩
  · obtain ⟨⟨old, he⟩, hi, r⟩ := st
    exact ⟨⟨old, kp e (by simp) _ he⟩, hi.at fun o q => kp it (by simp) o q, r⟩
  · intro X hP hw hK hc i pins s σ H E I hf st hg
    subst hP hw hK
    obtain ⟨⟨old, he⟩, hit, hne, hea, hai⟩ := st
    obtain ⟨xs, x, hq, hx⟩ := hg
    obtain ⟨its, rv, pl, hz⟩ := I.tuple hq
    obtain ⟨u, hu, ru⟩ := rv.get hx
    have hel : e < s.heap.objs.size := Heap.lt_size he
    have hil : it < s.heap.objs.size := by obtain ⟨_, q, _⟩ := hit; exact Heap.lt_size q
    have DD := Draws.tuple (prog := X.prog) (w := X.w) (A := X.A.in1) (I.ok.hd hc) it a hai its.toArray
    refine wpAny_pyNext_enum_itemC DD he (show _ ∧ _ from ⟨hit, pl⟩) (by have := (List.getElem?_eq_some_iff.mp hu).1; simpa using this) hne (by simp [hne, hea]) fun y h' tk hy ho hst hT hsz hk => ?_
    have ey : y = u := by
      have hy : its.toArray[i]? = some y := hy
      have : its[i]? = some y := by simpa using hy
      rw [hu] at this; cases this; rfl
    subst ey
    refine ⟨_, rfl, wpAny_letOwnedTupleGo_enum (s := { s with heap := h', toks := tk + 1 }) ho fun h'' he' sb => ?_⟩
    have hT2 := (sb.2 _ (Nat.ne_of_gt hel)).trans hT
    have new : ObjOk X.prog X.w (upd H s.heap.objs.size (.tup [.int (i : Nat), x])) h'' s.heap.objs.size (.tup [.int (i : Nat), x]) :=
      ⟨by show 2 ≤ sizeLine; decide, [.int i tk, y], .cons ⟨_, rfl⟩ (.cons ru .nil), ⟨_, hT2, rfl, _, rfl⟩⟩
    have I1 := I.turnedNew (t' := tk + 1) (ch := [e, it]) (fun b ob hb q => (sb.2 b (fun z => hb (by simp [z]))).trans (hk b ob (fun z => hb (by simp [z])) (fun z => hb (by simp [z])) q)) hf (Nat.le_refl _) new
    refine ⟨.ref s.heap.objs.size, _, I1, rfl, ⟨_, x, rfl, I.hok.fresh (Nat.le_refl _), rfl, fun ys hy => by rw [I.tuple_inj hy hq]; exact hx⟩, ⟨⟨y, ?_⟩, ?_, hne, hea, hai⟩, fun b hb => ?_⟩
    · rw [show ((i + 1 : Nat) : Int) = (i : Int) + 1 by omega]; exact he'
    · exact hst.1.at fun o q => (sb.2 it (Ne.symm hne)).trans q
    · have hb' : b < s.heap.objs.size := by
        rcases List.mem_cons.mp hb with z | hb
        · rw [z]; exact hel
        · rw [List.mem_singleton.mp hb]; exact hil
      rw [upd_ne (Nat.ne_of_lt hb')]
      exact (hf b hb).1
  · intro X hP hw hK hc i pins s σ H E I hf st hg
    subst hP hw hK
    obtain ⟨⟨old, he⟩, hit, hne, hea, hai⟩ := st
    obtain ⟨xs, hq, hx⟩ := hg
    obtain ⟨its, rv, pl, hz⟩ := I.tuple hq
    obtain ⟨f0, f1, f2, f3, f4, f5⟩ := hf it (by simp)
    have hl := rv.length
    have DD := Draws.tuple (prog := X.prog) (w := X.w) (A := X.A.in1) (I.ok.hd hc) it a hai its.toArray
    have hi : i = its.toArray.size := by simp; omega
    subst hi
    exact wpAny_pyNext_enum_endD DD he (show _ ∧ _ from ⟨hit, pl⟩) fun h' eb => ⟨rfl, I.turned (t' := s.toks) (fun b o hb q => eb b o hb q) f0 f1 f3 f4 f5⟩
def iEnT (K : PySem.W.Frag) (ta : TA) : TI := fun σ H R => ta σ H fun vs H1 => ∃ a xs, vs = [.ref a] ∧ ((SqT K H1 a xs ∧ R (ItEn K a) H1) ∨ (SqL K H1 a xs ∧ R (Ite K a) H1))
theorem pi_enT {X : Cx} {e : Expr} {ta : TA} {p pos tpos : Pos} {elts : List Expr} {kk : Nat} (hg : Gl X "enumerate") (hm : X.mg "enumerate" = none) (ha : PA X [e] ta) (hs : starEach [e] X.env = [(false, eval e X.env)] := by rfl) :
    PI X (.Tuple elts kk tpos) (.Call (.Name "enumerate" p) [e] [] pos) (iEnT X.K ta) := by
  refine ⟨fun pins s σ H R I h => Call_ (ld_blt I hg hm boot_enumerate (PyProof.Rows.callWith_type1 (thn (ha.run pos pins s σ H _ I h) ?_) hs rfl))⟩
  rintro us s1 ⟨vs, H1, I1, r1, a, xs, ex, q⟩
  subst ex
  cases r1 with
  | cons r rr =>
    cases rr
    cases r
    have new : ∀ b, b ∈ [s1.heap.objs.size + 1, s1.heap.objs.size] → FpOk X pins H1 b := fun b hb => by
      have hle : s1.heap.objs.size ≤ b := by
        rcases List.mem_cons.mp hb with z | hb
        · rw [z]; exact Nat.le_add_right _ _
        · rw [List.mem_singleton.mp hb]; exact Nat.le_refl _
      exact I1.fpOk hle (I1.hok.fresh hle)
    rcases q with ⟨hq, q⟩ | ⟨hq, q⟩
    · obtain ⟨its, rv, pl, hz⟩ := I1.tuple hq
      have hal : a < s1.heap.objs.size := pl.lt
      refine enum1_begins (begins_tuple a its.toArray) pl fun h' he hit hk => wpAny_pyIter_enum he ?_
      exact ⟨s1.heap.objs.size + 1, [s1.heap.objs.size + 1, s1.heap.objs.size], _, _, H1, rfl, I1.kept (t' := s1.toks) hk, turn_enumT a (s1.heap.objs.size + 1) s1.heap.objs.size, ⟨⟨.none, he⟩, ⟨_, hit, rfl, rfl⟩, Nat.succ_ne_self _, Nat.ne_of_gt (Nat.lt_succ_of_lt hal), Nat.ne_of_lt hal⟩, new, q⟩
    · obtain ⟨its, rv, pl, hz⟩ := I1.list hq
      refine call_enumerate_list pl.isList fun h' he hit hsz hk => wpAny_pyIter_enum he ?_
      exact ⟨s1.heap.objs.size + 1, [s1.heap.objs.size + 1, s1.heap.objs.size], _, _, H1, rfl, I1.kept (t' := s1.toks) hk, turn_enum a (s1.heap.objs.size + 1) s1.heap.objs.size, ⟨⟨.none, he⟩, hit, Nat.succ_ne_self _⟩, new, q⟩
def enumD (n : Nat) : List D → List D
  | [] => []
  | d :: ds => .tup [.int (n : Nat), d] :: enumD (n + 1) ds
theorem enumD_get : ∀ {ds : List D} {n i : Nat} {d : D}, (enumD n ds)[i]? = some d → ∃ a, ds[i]? = some a ∧ d = .tup [.int ((n + i : Nat) : Int), a]
  | [], n, i, d, h => by unfold enumD at h; simp at h
  | a :: ds, n, 0, d, h => by
    unfold enumD at h
    have h : D.tup [.int (n : Nat), a] = d := by simpa using h
    exact ⟨a, by simp, by rw [← h]; rfl⟩
  | a :: ds, n, i + 1, d, h => by
    unfold enumD at h
    obtain ⟨b, h1, h2⟩ := enumD_get (ds := ds) (n := n + 1) (i := i) (d := d) (by simpa using h)
    exact ⟨b, by simpa using h1, by rw [h2]; congr 3; omega⟩
theorem enumD_len : ∀ (ds : List D) (n : Nat), (enumD n ds).length = ds.length
  | [], n => by unfold enumD; rfl
  | d :: ds, n => by unfold enumD; simp [enumD_len ds]
def iEnumF (f : FA) : FA := fun ρ => match f ρ with
  | some ([.lst ds], ρ') => some (enumD 0 ds, ρ')
  | some ([.tup ds], ρ') => some (enumD 0 ds, ρ')
  | _ => none
theorem di_enum {X : Cx} {e : Expr} {tx : TA} {fx : FA} {p pos tpos : Pos} {elts : List Expr} {kk : Nat} (hg : Gl X "enumerate") (hm : X.mg "enumerate" = none) (ha : DA X [e] tx fx) (hs : starEach [e] X.env = [(false, eval e X.env)] := by rfl) :
    DI X (.Tuple elts kk tpos) (.Call (.Name "enumerate" p) [e] [] pos) (iEnT X.K tx) (iEnumF fx) := by
  obtain ⟨pa, q⟩ := ha
  refine ⟨pi_enT hg hm pa hs, fun G O H σ ρ ρ' ds Q hK R h k => ?_⟩
  unfold iEnumF at h
  split at h
  · rename_i as ρ1 e1
    cases h
    refine q G O H σ ρ _ _ _ hK R e1 fun vs H1 R1 m1 z => ?_
    obtain ⟨v, ev, z1⟩ := fzL_one z
    have z1' := z1
    unfold Fz at z1
    obtain ⟨a, xs, ea, t1, l1⟩ := z1
    subst ea
    refine ⟨a, xs, ev, .inr ⟨t1.sq, k _ H1 R1 m1 ⟨[(.ref a, .lst as)], fun p hp => by rw [List.mem_singleton.mp hp]; exact z1', fun O' H' ho hz i => ?_⟩⟩⟩
    have y1 := hz _ (List.mem_singleton.mpr rfl)
    unfold Fz at y1
    obtain ⟨a', xs', ea, u1, m1⟩ := y1
    cases ea
    refine ⟨fun d hd => ?_, fun hl => ⟨xs', u1.sq, by rw [m1.len, ← enumD_len as 0]; exact Nat.le_of_eq hl⟩⟩
    obtain ⟨da, ga, ed⟩ := enumD_get hd
    obtain ⟨x, gx, zx⟩ := m1.get ga
    refine ⟨⟨xs', x, u1.sq, gx⟩, fun r H'' ⟨T, x', er, hT, eH, k1⟩ => ?_⟩
    have := k1 xs' u1.sq
    rw [gx] at this; cases this
    subst er; subst eH; subst ed
    rw [Nat.zero_add]
    exact ⟨same_upd hT, fz_pair ho hT (fz_int _) zx⟩
  · rename_i as ρ1 e1
    cases h
    refine q G O H σ ρ _ _ _ hK R e1 fun vs H1 R1 m1 z => ?_
    obtain ⟨v, ev, z1⟩ := fzL_one z
    have z1' := z1
    unfold Fz at z1
    obtain ⟨a, xs, ea, t1, l1⟩ := z1
    subst ea
    refine ⟨a, xs, ev, .inl ⟨t1.sq, k _ H1 R1 m1 ⟨[(.ref a, .tup as)], fun p hp => by rw [List.mem_singleton.mp hp]; exact z1', fun O' H' ho hz i => ?_⟩⟩⟩
    have y1 := hz _ (List.mem_singleton.mpr rfl)
    unfold Fz at y1
    obtain ⟨a', xs', ea, u1, m1⟩ := y1
    cases ea
    refine ⟨fun d hd => ?_, fun hl => ⟨xs', u1.sq, by rw [m1.len, ← enumD_len as 0]; exact hl⟩⟩
    obtain ⟨da, ga, ed⟩ := enumD_get hd
    obtain ⟨x, gx, zx⟩ := m1.get ga
    refine ⟨⟨xs', x, u1.sq, gx⟩, fun r H'' ⟨T, x', er, hT, eH, k1⟩ => ?_⟩
    have := k1 xs' u1.sq
    rw [gx] at this; cases this
    subst er; subst eH; subst ed
    rw [Nat.zero_add]
    exact ⟨same_upd hT, fz_pair ho hT (fz_int _) zx⟩
  · cases h
/-! ### short forms -/
section
variable {X : Cx} {elt tg iter : Expr} {ifs : List Expr} {scope : Scope} {own : List (Str × Nat)} {pos : Pos} {wi : TI} {fi : FA} {g : TG} {l : List Nat} {T : D → Ev → Option Ev} {tt : TT} {ft : FT} {te : TE} {fe : FE}
theorem give_q {t : TE} {f : FO}
    (q : ∀ (G : Gh) (O : Addr → Prop) (H : Hp) (σ : Sg) (ρ ρ' : Ev) (u : Own) (Q : VK), G.K = X.K → Rep G O H σ ρ → f ρ = some (u, ρ') →
      (∀ p H', H p = none → Rep G (fun a => O a ∨ a = p) H' σ ρ' → Fm σ ρ H ρ' H' → OwnAt X.K (fun a => O a ∨ a = p) H' p u → Q (.ref p) H') → t σ H Q)
    (G : Gh) (O : Addr → Prop) (H : Hp) (σ : Sg) (ρ ρ' : Ev) (d : D) (Q : VK) (hK : G.K = X.K) (R : Rep G O H σ ρ) (h : fGive f ρ = some (d, ρ'))
    (k : ∀ v H', Rep G O H' σ ρ' → Fm σ ρ H ρ' H' → Fz X.K O H' v d → Q v H') : t σ H Q := by
  obtain ⟨⟨u, ρ1⟩, h1, h⟩ := bind_ok h
  cases h
  refine q G O H σ ρ _ u _ hK R h1 fun p H1 hp R1 m1 z1 => ?_
  have hO : ¬ O p := fun z => R.occ p z hp
  have hM : ¬ MutA σ ρ1 p := fun z => hO (R.mutO (m1.shp p z))
  have e : ∀ a, ((O a ∨ a = p) ∧ a ≠ p) ↔ O a := fun a => ⟨fun h => h.1.elim id fun e => absurd e h.2, fun h => ⟨.inl h, fun e => hO (e ▸ h)⟩⟩
  exact k _ _ ((R1.less (R.new0 hp) hM).congr e) m1 (fz_congr (OwnAt.fz (z1.tm (tm_less (O' := fun a => (O a ∨ a = p) ∧ a ≠ p) fun _ h => h.1) fun _ h => h) fun z => z.2 rfl) e)
/-- y = [..] : data -/
theorem ds_setLc {vs : List Nat} (i : Nat) {y : Str} {py : Pos} {spos : Pos} (hc : X.calm = true) (hN : X.N.Nodup) (hi : DI X tg iter wi fi) (ok : BlkOk X.N X.env.scope scope own)
    (hg : ∀ (s : Shared) (H : Hp) (C : Addr) (cl : List (Str × Addr)) (fp : List Addr), ∃ g, DG (X.blk s H scope (compEnvC scope cl C X.env) fp) tg g l T)
    (ht : ∀ (s : Shared) (H : Hp) (C : Addr) (cl : List (Str × Addr)) (fp : List Addr), ∃ t, DTs (X.blk s H scope (compEnvC scope cl C X.env) fp) ifs t ft)
    (he : ∀ (s : Shared) (H : Hp) (C : Addr) (cl : List (Str × Addr)) (fp : List Addr), ∃ t, DE (X.blk s H scope (compEnvC scope cl C X.env) fp) elt t fe)
    (hsw : swapsWith (.ListComp elt [⟨tg, iter, ifs, 0⟩] scope pos) (some (.Name y py)) spos.line X.env = pure true)
    (hv : own.map (·.2) = vs := by rfl) (hl : inAll l vs = true := by rfl) (hy : X.N[i]? = some y := by rfl) (hyl : X.env.scope.names.lookup y = some .local := by rfl) (hs : ∀ x, foldedSetIterable iter X.env x = pure x := by intro _; rfl) :
    DS X (.Assign [.Name y py] (.ListComp elt [⟨tg, iter, ifs, 0⟩] scope pos) spos) (tAsg (tLc wi (gD X.K l T) (ttD X.K ft) (tD X.K fe) vs) (gName i)) (fSet i (fGive (fComp fi T ft fe vs))) := by
  subst hv
  refine ⟨ps_setLc hc hN hy hyl hsw hi.p ok (fun s H C cl fp => DG.can (hg s H C cl fp)) (fun s H C cl fp => DTs.can (ht s H C cl fp)) (fun s H C cl fp => DE.can (he s H C cl fp)) hs, fun G O H σ ρ ρ' fl Dn hK R h k => ?_⟩
  obtain ⟨⟨d, ρ1⟩, h1, h⟩ := bind_ok h
  obtain ⟨ρ2, h2, h⟩ := bind_ok h
  cases h
  refine give_q (comp_can (inAll_mem hl) hi.q) G O H σ ρ ρ1 d _ hK R h1 fun v H1 R1 m1 z => ?_
  obtain ⟨O2, t2, R2⟩ := R1.putD (hK ▸ z) h2
  exact k O2 H1 _ R2 ((R.tm m1).trans t2)
theorem de_ty {x : Str} {n : String} {p : Pos} (hm : X.mg x = none) (hv : bootBuiltins x = some (.type n)) (hg : Gl X x := by rfl) (hn : x ≠ "__name__" := by decide) (hd : (x == ("__debug__" : Str)) = false := by decide) : DE X (.Name x p) (tC (.ty n)) (fC (.ty n)) :=
  de_con (pe_bltn hg hm hv rfl hn hd) fun _ _ => by unfold Fz; rfl
end
end DL
end

section
set_option Elab.async false
set_option linter.all false
set_option maxRecDepth 100000
namespace DL
open PySem PySem.Spec PyProof.Rows L2

/-! ### two new lists one behind the other -/
def fCatN (fa fb : FO) : FO := fun ρ => (fa ρ).bind fun x => (fb x.2).bind fun y => match x.1, y.1 with
  | .lst as, .lst bs => if lenOk (as.length + bs.length) = true then some (.lst (as ++ bs), y.2) else none
  | _, _ => none
section
variable {X : Cx} {e a b : Expr} {es : List Expr} {pos : Pos} {ta tb : TE} {tx : TA}
theorem dn_cat {fa fb : FO} (ha : DN X a ta fa) (hb : DN X b tb fb) : DN X (.BinOp a .Add b pos) (tOp rCat ta tb) (fCatN fa fb) := by
  obtain ⟨pa, qa⟩ := ha
  obtain ⟨pb, qb⟩ := hb
  refine ⟨pe_op op_cat pa pb, fun G O H σ ρ ρ' u Q hK R h k => ?_⟩
  obtain ⟨⟨u1, ρ1⟩, h1, h⟩ := bind_ok h
  obtain ⟨⟨u2, ρ2⟩, h2, h⟩ := bind_ok h
  refine qa G O H σ ρ ρ1 u1 _ hK R h1 fun p1 H1 n1 R1 m1 z1 => ?_
  refine qb G _ H1 σ ρ1 ρ2 u2 _ hK R1 h2 fun p2 H2 n2 R2 m2 z2 => ?_
  simp only at h
  split at h
  · rename_i as bs
    split at h
    · rename_i hl
      cases h
      have o1 : ¬ O p1 := fun z => R.occ p1 z n1
      have hm1 : ¬ MutA σ ρ1 p1 := fun z => o1 (R.mutO (m1.shp _ z))
      have hm1' : ¬ MutA σ ρ' p1 := fun z => hm1 (m2.shp _ z)
      obtain ⟨vs, e1, l1⟩ := z1
      obtain ⟨ws, e2, l2⟩ := z2
      have ne : p2 ≠ p1 := fun z => by rw [z, e1] at n2; cases n2
      have o2 : ¬ O p2 := fun z => by
        rcases Classical.em (MutA σ ρ p2) with q | q
        · exact (R1.occ p2 (.inl z)) n2
        · exact (R1.occ p2 (.inl z)) n2
      have hm2 : ¬ MutA σ ρ' p2 := fun z => o2 (R.mutO (m1.shp _ (m2.shp _ z)))
      have e1' : H2 p1 = some (.lst vs) := m2.get _ _ e1 hm1
      have g2 : G.H_0 p2 = none := R1.new0 n2
      have R3 := ((R2.less (R.new0 n1) hm1').less g2 hm2).congr (O' := O) fun a => ⟨fun ⟨⟨h, n1⟩, n2⟩ => h.elim (fun h => h.elim id fun e => absurd e n1) fun e => absurd e n2, fun h => ⟨⟨.inl (.inl h), fun e => o1 (e ▸ h)⟩, fun e => o2 (e ▸ h)⟩⟩
      refine ⟨p1, p2, vs, ws, rfl, rfl, e1', e2, by rw [l1.len, l2.len]; exact Nat.le_of_lt (lenOk_lt hl), fun p hp => ?_⟩
      have hp0 : H p = none := new_ahead R (m1.trans m2) R3 hp
      refine k p _ hp0 (R3.more hp) ((m1.trans m2).trans (Fm.same (same_upd hp))) ⟨vs ++ ws, upd_same, ?_⟩
      have t3 : Tm (fun a => (O a ∨ a = p1) ∨ a = p2) H2 (fun a => O a ∨ a = p) (upd H2 p (.lst (vs ++ ws))) :=
        ⟨fun a o q _ => same_upd hp _ _ q, fun a o q n z => z.elim (fun z => n (.inl (.inl z))) fun e => by subst e; rw [hp] at q; cases q⟩
      have t12 : Tm (fun a => O a ∨ a = p1) H1 (fun a => (O a ∨ a = p1) ∨ a = p2) H2 :=
        ⟨fun a o q n => m2.get a o q fun z => n (.inl (R.mutO (m1.shp _ z))), fun a o q n z => z.elim n fun e => by subst e; rw [n2] at q; cases q⟩
      exact FzL.app (FzL.tm t3 (FzL.tm t12 l1)) (FzL.tm t3 l2)
    · cases h
  · cases h
/-! ### a function of a built-in module by its name -/
theorem de_callF {id : String} {x : Str} {p : Pos} {r : List V → Hp → VK → Prop} {g : List D → Option D} {G : FA} (hc : CallR X (.builtin id) r) (rr : RnD X.K r g) (hg : Gl X x) (hm : X.mg x = some (.builtin id)) (ha : DA X (e :: es) tx G)
    (hdb : (x == ("__debug__" : Str)) = false := by decide) (he : starEach (e :: es) X.env = (false, eval e X.env) :: starEach es X.env := by rfl) (hpl : (backTo pos (starEach es X.env)).any (·.1) = false := by rfl) : DE X (.Call (.Name x p) (e :: es) [] pos) (tCB r tx) (fN g G) := by
  obtain ⟨pa, q⟩ := ha
  refine ⟨pe_callBfun hc hg hm pa hdb he hpl, fun G O H σ ρ ρ' d Q hK R h k => ?_⟩
  obtain ⟨⟨ds, ρ1⟩, h1, h⟩ := bind_ok h
  obtain ⟨d', h2, h⟩ := bind_ok h
  cases h
  refine q G O H σ ρ _ ds _ hK R h1 fun vs H1 R1 m1 z1 => ?_
  exact rr O H1 vs ds _ _ R1.occ z1 h2 fun v H2 s z => k v H2 (R1.same s) (m1.trans (Fm.same s)) z
end

/-! ### defs of the text -/
/-- a def as it stands behind the top -/
structure Def (K : PySem.W.Frag) (mg : Str → Option Value) (x : Str) (st : Stmt) (ps : List Str) : Prop where
  ex : ∃ (f : Addr) (oc : Value) (od : Option Addr) (dV kV doc pm : Value) (an : Option Addr) (cdv ct : Value) (osl : Array (Option Value)),
    K.lookup f = some ⟨oc, od, .func (PySem.W.fnOf x x (defArgs st) (defBody st) (defScope st) dV kV doc pm an cdv ct), osl⟩ ∧ PySem.W.codeIn K cdv x = true ∧ PySem.W.keepIn K (.ref f) = true ∧ mg x = some (.ref f) ∧
    Binds K (PySem.W.fnOf x x (defArgs st) (defBody st) (defScope st) dV kV doc pm an cdv ct) ps []
/-- a def that is known by what it does with data -/
structure Cal (P : Program) (w : World) (K : PySem.W.Frag) (mg : Str → Option Value) (base : Heap) (x : Str) (k n : Nat) (g : FG) : Prop where
  ex : ∃ (f : Addr) (fd : FuncData) (ps : List Str), FnOk P w K mg base CX0 k f fd ps (spD K n g) ∧ Binds K fd ps [] ∧ mg x = some (.ref f) ∧ PySem.W.keepIn K (.ref f) = true
section
variable {P : Program} {w : World} {K : PySem.W.Frag} {mg : Str → Option Value} {base : Heap}
theorem fn_D' {x qual : Str} {st : Stmt} {f : Addr} {oc : Value} {od : Option Addr} {dV kV doc pm : Value} {an : Option Addr} {cdv ct : Value} {osl : Array (Option Value)} {N ps : List Str} {k n : Nat} {t : TS} {F : FS}
    (lk : K.lookup f = some ⟨oc, od, .func (PySem.W.fnOf x qual (defArgs st) (defBody st) (defScope st) dV kV doc pm an cdv ct), osl⟩) (hcd : PySem.W.codeIn K cdv qual = true) (S : FnScope N ps (defScope st)) (hn : ps.length = n)
    (hbody : ∀ (A : Around) (outer : List Env) (s : Shared) (H : Hp) (E : XK), Room k (A.deeper (envOfC qual (defScope st) s.heap.objs.size f cdv)) →
      DSs (cxOf CX0 P w K mg base N qual (defScope st) f cdv A outer s H E).nox (defBody st) t F) :
    FnOk P w K mg base CX0 (k + 1) f (PySem.W.fnOf x qual (defArgs st) (defBody st) (defScope st) dV kV doc pm an cdv ct) ps (spD K n (bodyG N.length F)) := by
  refine fn_of lk hcd S (fun vs H Q E h => ?_) fun A outer s H vs Q E hr h => ?_
  · obtain ⟨O, ss, d, outs, hl, _⟩ := h
    rw [hl, hn]
  · obtain ⟨O, ss, d, outs, hl, A1, hg, k1⟩ := h
    obtain ⟨⟨fl, ρ'⟩, h1, h2⟩ := bind_ok hg
    have hb := hbody A outer s H E hr
    have hN : vs.length ≤ N.length := by
      have := congrArg List.length S.pre
      rw [List.length_take] at this
      omega
    refine ⟨t, hb.p.nox, ?_⟩
    refine hb.q _ O H _ _ ρ' fl _ rfl (arep_start (N := N) A1 hN) h1 fun O' H' σ' R' t' => ?_
    cases fl with
    | nx =>
      cases h2
      obtain ⟨fr, z, A2, ki⟩ := arep_end A1 R' (v := .non) (d := .non) (by unfold Fz; rfl)
      exact k1 _ _ fr z A2 ki
    | rt r =>
      cases h2
      intro v z
      obtain ⟨fr, z, A2, ki⟩ := arep_end A1 R' z
      exact k1 _ _ fr z A2 ki
    | bk => cases h2
    | ct => cases h2
theorem Def.cal {x : Str} {st : Stmt} {ps : List Str} {N : List Str} {k n : Nat} {F : FS} (B : Def K mg x st ps) (S : FnScope N ps (defScope st)) (hn : ps.length = n)
    (hbody : ∀ (f : Addr) (cdv : Value) (A : Around) (outer : List Env) (s : Shared) (H : Hp) (E : XK), Room k (A.deeper (envOfC x (defScope st) s.heap.objs.size f cdv)) →
      ∃ t, DSs (cxOf CX0 P w K mg base N x (defScope st) f cdv A outer s H E).nox (defBody st) t F) : Cal P w K mg base x (k + 1) n (bodyG N.length F) := by
  obtain ⟨f, oc, od, dV, kV, doc, pm, an, cdv, ct, osl, lk, hcd, hk, hm, hb⟩ := B.ex
  refine ⟨f, _, ps, ?_, hb, hm, hk⟩
  refine fn_of lk hcd S (fun vs H Q E h => ?_) fun A outer s H vs Q E hr h => ?_
  · obtain ⟨O, ss, d, outs, hl, _⟩ := h
    rw [hl, hn]
  · obtain ⟨O, ss, d, outs, hl, A1, hg, k1⟩ := h
    obtain ⟨⟨fl, ρ'⟩, h1, h2⟩ := bind_ok hg
    obtain ⟨t, hb⟩ := hbody f cdv A outer s H E hr
    have hN : vs.length ≤ N.length := by
      have := congrArg List.length S.pre
      rw [List.length_take] at this
      omega
    refine ⟨t, hb.p.nox, ?_⟩
    refine hb.q _ O H _ _ ρ' fl _ rfl (arep_start (N := N) A1 hN) h1 fun O' H' σ' R' t' => ?_
    cases fl with
    | nx =>
      cases h2
      obtain ⟨fr, z, A2, ki⟩ := arep_end A1 R' (v := .non) (d := .non) (by unfold Fz; rfl)
      exact k1 _ _ fr z A2 ki
    | rt r =>
      cases h2
      intro v z
      obtain ⟨fr, z, A2, ki⟩ := arep_end A1 R' z
      exact k1 _ _ fr z A2 ki
    | bk => cases h2
    | ct => cases h2
/-- a def whose data are never asked -/
theorem Def.cal0 {x : Str} {st : Stmt} {ps : List Str} {k n : Nat} (B : Def K mg x st ps) : Cal P w K mg base x k n fun _ => none := by
  obtain ⟨f, oc, od, dV, kV, doc, pm, an, cdv, ct, osl, lk, hcd, hk, hm, hb⟩ := B.ex
  refine ⟨f, _, ps, ⟨fun vs H Q E h => ?_, fun A outer s H args us vs Q E hr e hb hv h => ?_⟩, hb, hm, hk⟩
  · obtain ⟨_, _, _, _, _, _, h, _⟩ := h
    cases h
  · obtain ⟨_, _, _, _, _, _, h, _⟩ := h
    cases h
end
end DL
end

section
set_option Elab.async false
set_option linter.all false
set_option maxRecDepth 100000
/-! DLs: what the functions of data are, one step at a time (for simp) -/
namespace DL
open PySem PySem.Spec PyProof.Rows L2

section
variable {ρ : Ev}
@[simp] theorem fVar_ap {i : Nat} : fVar i ρ = match ρ[i]? with
  | some (.dat d) => some (d, ρ)
  | _ => none := rfl
@[simp] theorem fC_ap {d : D} : fC d ρ = some (d, ρ) := rfl
@[simp] theorem fBin_ap {g fa fb} : fBin g fa fb ρ = (fa ρ).bind fun x => (fb x.2).bind fun y => (g x.1 y.1).bind fun d => some (d, y.2) := rfl
@[simp] theorem fUn_ap {g fa} : fUn g fa ρ = (fa ρ).bind fun x => (g x.1).bind fun d => some (d, x.2) := rfl
@[simp] theorem fN_ap {g fa} : fN g fa ρ = (fa ρ).bind fun x => (g x.1).bind fun d => some (d, x.2) := rfl
@[simp] theorem fTB_ap {f} : fTB f ρ = match f ρ with
  | some (.bl b, ρ') => some (b, ρ')
  | _ => none := rfl
@[simp] theorem fTru_ap {f} : fTru f ρ = (f ρ).bind fun x => (gTru x.1).bind fun b => some (b, x.2) := rfl
@[simp] theorem fAnd_ap {f g} : fAnd f g ρ = (f ρ).bind fun x => if x.1 = true then g x.2 else some (false, x.2) := rfl
@[simp] theorem fOr_ap {f g} : fOr f g ρ = (f ρ).bind fun x => if x.1 = true then some (true, x.2) else g x.2 := rfl
@[simp] theorem fNot_ap {f} : fNot f ρ = (f ρ).bind fun x => some (!x.1, x.2) := rfl
@[simp] theorem fAndV_ap {f g} : fAndV f g ρ = (fTB f ρ).bind fun x => if x.1 = true then g x.2 else some (.bl false, x.2) := rfl
@[simp] theorem fOrV_ap {f g} : fOrV f g ρ = (fTB f ρ).bind fun x => if x.1 = true then some (.bl true, x.2) else g x.2 := rfl
@[simp] theorem fNotV_ap {f} : fNotV f ρ = (fTB f ρ).bind fun x => some (.bl (!x.1), x.2) := rfl
@[simp] theorem fIf_ap {f g h} : fIf f g h ρ = (f ρ).bind fun x => if x.1 = true then g x.2 else h x.2 := rfl
@[simp] theorem fNil_ap : fNil ρ = some ([], ρ) := rfl
@[simp] theorem fCons_ap {f g} : fCons f g ρ = (f ρ).bind fun x => (g x.2).bind fun y => some (x.1 :: y.1, y.2) := rfl
@[simp] theorem fTup_ap {f} : fTup f ρ = (f ρ).bind fun x => if lenOk x.1.length = true then some (.tup x.1, x.2) else none := rfl
@[simp] theorem fLst_ap {f} : fLst f ρ = (f ρ).bind fun x => if lenOk x.1.length = true then some (.lst x.1, x.2) else none := rfl
@[simp] theorem fGive_ap {f} : fGive f ρ = (f ρ).bind fun x => some (x.1.toD, x.2) := rfl
@[simp] theorem fSeq_ap {F G} : fSeq F G ρ = (F ρ).bind fun x => match x.1 with
  | .nx => G x.2
  | fl => some (fl, x.2) := rfl
@[simp] theorem fSkip_ap : fSkip ρ = some (.nx, ρ) := rfl
@[simp] theorem fBrk_ap : fBrk ρ = some (.bk, ρ) := rfl
@[simp] theorem fCnt_ap : fCnt ρ = some (.ct, ρ) := rfl
@[simp] theorem fRet_ap {f} : fRet f ρ = (f ρ).bind fun x => some (.rt x.1, x.2) := rfl
@[simp] theorem fRetN_ap : fRetN ρ = some (.rt .non, ρ) := rfl
@[simp] theorem fDrop_ap {f} : fDrop f ρ = (f ρ).bind fun x => some (.nx, x.2) := rfl
@[simp] theorem fIfS_ap {f F G} : fIfS f F G ρ = (f ρ).bind fun x => if x.1 = true then F x.2 else G x.2 := rfl
@[simp] theorem frz_ap {i : Nat} : frz i ρ = match ρ[i]? with
  | some (.own u) => some (ρ.set i (.dat u.toD))
  | some (.dat _) => some ρ
  | some .un => some ρ
  | _ => none := rfl
@[simp] theorem fPut_ap {i : Nat} {d : D} : fPut i d ρ = (frz i ρ).bind fun ρ => some (ρ.set i (.dat d)) := rfl
@[simp] theorem fPut0_ap {i : Nat} {d : D} : fPut0 i d ρ = match ρ[i]? with
  | some (.dat _) => some (ρ.set i (.dat d))
  | some .un => some (ρ.set i (.dat d))
  | _ => none := rfl
@[simp] theorem fOwn_ap {i : Nat} {u : Own} : fOwn i u ρ = match ρ[i]? with
  | some (.dat _) => some (ρ.set i (.own u))
  | some .un => some (ρ.set i (.own u))
  | _ => none := rfl
@[simp] theorem fSet_ap {i : Nat} {f} : fSet i f ρ = (f ρ).bind fun x => (fPut i x.1 x.2).bind fun ρ => some (.nx, ρ) := rfl
@[simp] theorem fSetN_ap {i : Nat} {f} : fSetN i f ρ = (frz i ρ).bind fun ρ => (f ρ).bind fun x => (fOwn i x.1 x.2).bind fun ρ => some (.nx, ρ) := rfl
@[simp] theorem fFrz_ap {i : Nat} {F} : fFrz i F ρ = (frz i ρ).bind F := rfl
@[simp] theorem fFor_ap {fi T F} : fFor fi T F ρ = (fi ρ).bind fun x => loopF T F x.1 x.2 := rfl
@[simp] theorem iOf_ap {f} : iOf f ρ = match f ρ with
  | some (.lst ds, ρ') => some (ds, ρ')
  | some (.tup ds, ρ') => some (ds, ρ')
  | _ => none := rfl
@[simp] theorem iRange1_ap {f} : iRange1 f ρ = match f ρ with
  | some ([.int j], ρ') => if -4611686018427387904 ≤ j ∧ j < 4611686018427387904 then some (intsFrom 0 j.toNat, ρ') else none
  | _ => none := rfl
@[simp] theorem iRange2_ap {f} : iRange2 f ρ = match f ρ with
  | some ([.int i, .int j], ρ') => if -4611686018427387904 ≤ i ∧ i < 4611686018427387904 ∧ -4611686018427387904 ≤ j ∧ j < 4611686018427387904 then some (intsFrom i (j - i).toNat, ρ') else none
  | _ => none := rfl
@[simp] theorem iZipF_ap {f} : iZipF f ρ = match f ρ with
  | some ([.lst as, .lst bs], ρ') => some (zipD as bs, ρ')
  | some ([.tup as, .tup bs], ρ') => some (zipD as bs, ρ')
  | _ => none := rfl
@[simp] theorem iEnumF_ap {f} : iEnumF f ρ = match f ρ with
  | some ([.lst ds], ρ') => some (enumD 0 ds, ρ')
  | some ([.tup ds], ρ') => some (enumD 0 ds, ρ')
  | _ => none := rfl
@[simp] theorem gsNil_ap {ds} : gsNil ds ρ = match ds with
  | [] => some ρ
  | _ => none := rfl
@[simp] theorem gsCons_ap {T U ds} : gsCons T U ds ρ = match ds with
  | d :: ds => (T d ρ).bind (U ds)
  | _ => none := rfl
@[simp] theorem gTupF_ap {n : Nat} {U d} : gTupF n U d ρ = match d with
  | .tup ds => if ds.length = n then U ds ρ else none
  | _ => none := rfl
@[simp] theorem fLenV_ap {i : Nat} : fLenV i ρ = match ρ[i]? with
  | some (.dat d) => (gLen [d]).bind fun r => some (r, ρ)
  | some (.own (.lst ds)) => some (.int ds.length, ρ)
  | some (.io (.lst ds)) => some (.int ds.length, ρ)
  | _ => none := rfl
@[simp] theorem fIxV_ap {i : Nat} {fb} : fIxV i fb ρ = match ρ[i]? with
  | some (.dat d) => (fb ρ).bind fun y => (gIx d y.1).bind fun r => some (r, y.2)
  | some (.own _) => (fb ρ).bind fun y => match y.2[i]?.bind Slot.mu, y.1 with
    | some (.lst ds), .int z => (atI ds z).bind fun r => some (r, y.2)
    | _, _ => none
  | some (.io _) => (fb ρ).bind fun y => match y.2[i]?.bind Slot.mu, y.1 with
    | some (.lst ds), .int z => (atI ds z).bind fun r => some (r, y.2)
    | _, _ => none
  | _ => none := rfl
@[simp] theorem wrOwn_ap {i : Nat} {c} : wrOwn i c ρ = match ρ[i]? with
  | some s => (s.mu.bind c).bind fun u => some (ρ.set i (s.put u))
  | none => none := rfl
@[simp] theorem fSetIx_ap {i : Nat} {fb fe} : fSetIx i fb fe ρ = (fe ρ).bind fun x => (x.2[i]?.bind Slot.mu).bind fun _ => (fb x.2).bind fun y => match y.1 with
  | .int z => (wrOwn i (cSet z x.1) y.2).bind fun ρ => some (.nx, ρ)
  | _ => none := rfl
@[simp] theorem fApp_ap {i : Nat} {fe} : fApp i fe ρ = match ρ[i]?.bind Slot.mu with
  | some (.lst _) => (fe ρ).bind fun x => (wrOwn i (cApp x.1) x.2).bind fun ρ => some (.nx, ρ)
  | _ => none := rfl
@[simp] theorem fAug_ap {i : Nat} {g fe} : fAug i g fe ρ = match ρ[i]? with
  | some (.dat d) => (fe ρ).bind fun x => (g d x.1).bind fun r => (fPut i r x.2).bind fun ρ => some (.nx, ρ)
  | _ => none := rfl
@[simp] theorem fPar_ap {i j : Nat} {fx} : fPar i j fx ρ = (fx ρ).bind fun x => match x.1 with
  | [d, d2] => (fPut0 i d x.2).bind fun ρ => (fPut0 j d2 ρ).bind fun ρ => some (.nx, ρ)
  | _ => none := rfl
@[simp] theorem fUnpack_ap {fe T} : fUnpack fe T ρ = (fe ρ).bind fun x => (T x.1 x.2).bind fun ρ => some (.nx, ρ) := rfl
@[simp] theorem fNoP_ap : fNoP ρ = some (none, ρ) := rfl
@[simp] theorem fPart_ap {f} : fPart f ρ = (f ρ).bind fun x => match x.1 with
  | .int i => some (some i, x.2)
  | _ => none := rfl
@[simp] theorem fSlice_ap {f g h} : fSlice f g h ρ = (f ρ).bind fun x => (g x.2).bind fun y => (h y.2).bind fun z => (gCut x.1 y.1 z.1).bind fun d => some (d, z.2) := rfl
@[simp] theorem fListOf_ap {fx} : fListOf fx ρ = (fx ρ).bind fun x => match x.1 with
  | [.lst ds] => some (.lst ds, x.2)
  | [.tup ds] => some (.lst ds, x.2)
  | _ => none := rfl
@[simp] theorem fCatN_ap {fa fb} : fCatN fa fb ρ = (fa ρ).bind fun x => (fb x.2).bind fun y => match x.1, y.1 with
  | .lst as, .lst bs => if lenOk (as.length + bs.length) = true then some (.lst (as ++ bs), y.2) else none
  | _, _ => none := rfl
@[simp] theorem frNil_ap : frNil ρ = some ([], ρ) := rfl
@[simp] theorem frD_ap {f g} : frD f g ρ = (f ρ).bind fun x => (g x.2).bind fun y => some (.d x.1 :: y.1, y.2) := rfl
@[simp] theorem frR_ap {i : Nat} {g} : frR i g ρ = match ρ[i]? with
  | some (.own _) => (g ρ).bind fun y => some (.r i :: y.1, y.2)
  | some (.io _) => (g ρ).bind fun y => some (.r i :: y.1, y.2)
  | _ => none := rfl
@[simp] theorem fCall_ap {n g f} : fCall n g f ρ = (f ρ).bind fun x => if nodupB (refsOf x.1) = true ∧ x.1.length = n then (argS x.2 x.1).bind fun ss => (g ss).bind fun y => some (y.1, putB x.2 x.1 y.2) else none := rfl
@[simp] theorem fYes_ap : fYes ρ = some (true, ρ) := rfl
@[simp] theorem fComp_ap {fi T ft fe vs} : fComp fi T ft fe vs ρ = (fi ρ).bind fun x => if lenOk x.1.length = true ∧ wipOk vs x.2 = true then (compGo T ft fe vs x.1 (wipeE vs x.2)).bind fun y => some (.lst y.1, backE vs x.2 y.2) else none := rfl
end
section
variable {ρ : Ev} {i j : Int}
@[simp] theorem gAdd_i : gAdd (.int i) (.int j) = some (.int (i + j)) := rfl
@[simp] theorem gMinus_i : gMinus (.int i) (.int j) = some (.int (i - j)) := rfl
@[simp] theorem gMul_i : gMul (.int i) (.int j) = if mulOk i j = true then some (.int (i * j)) else none := rfl
@[simp] theorem gDiv_i : gDiv (.int i) (.int j) = if divOk i j = true then some (.int (i.fdiv j)) else none := rfl
@[simp] theorem gMod_i : gMod (.int i) (.int j) = if modOk i j = true then some (.int (i.fmod j)) else none := rfl
@[simp] theorem gPow_i : gPow (.int i) (.int j) = if powOk i j = true then some (.int (i ^ j.toNat)) else none := rfl
@[simp] theorem gShl_i : gShl (.int i) (.int j) = if powOk i j = true then some (.int (i * 2 ^ j.toNat)) else none := rfl
@[simp] theorem gBand_i : gBand (.int i) (.int j) = some (.int (Builtin.bitAnd i j)) := rfl
@[simp] theorem gBor_i : gBor (.int i) (.int j) = some (.int (Builtin.bitOr i j)) := rfl
@[simp] theorem gNeg_i : gNeg (.int i) = some (.int (-i)) := rfl
@[simp] theorem gLt_i : gLt (.int i) (.int j) = some (.bl (decide (i < j))) := rfl
@[simp] theorem gLe_i : gLe (.int i) (.int j) = some (.bl (decide (i ≤ j))) := rfl
@[simp] theorem gGt_i : gGt (.int i) (.int j) = some (.bl (decide (j < i))) := rfl
@[simp] theorem gGe_i : gGe (.int i) (.int j) = some (.bl (decide (j ≤ i))) := rfl
@[simp] theorem gEq_i : gEq (.int i) (.int j) = some (.bl (decide (i = j))) := rfl
@[simp] theorem gNe_i : gNe (.int i) (.int j) = some (.bl (!decide (i = j))) := rfl
@[simp] theorem gIsN_n {d : D} : gIsN d .non = some (.bl (isNone d)) := rfl
@[simp] theorem gNotN_n {d : D} : gNotN d .non = some (.bl (!isNone d)) := rfl
@[simp] theorem gIx_t {ds : List D} : gIx (.tup ds) (.int i) = atI ds i := rfl
@[simp] theorem gIx_l {ds : List D} : gIx (.lst ds) (.int i) = atI ds i := rfl
@[simp] theorem gLen_l {ds : List D} : gLen [.lst ds] = some (.int ds.length) := rfl
@[simp] theorem gLen_t {ds : List D} : gLen [.tup ds] = some (.int ds.length) := rfl
@[simp] theorem gAbs_i : gAbs [.int i] = some (.int (if i < 0 then -i else i)) := rfl
@[simp] theorem gInt_i : gInt [.int i] = some (.int i) := rfl
@[simp] theorem gGcd_i : gGcd [.int i, .int j] = some (.int ((Nat.gcd i.natAbs j.natAbs : Nat) : Int)) := rfl
@[simp] theorem gTuple_l {ds : List D} : gTuple [.lst ds] = some (.tup ds) := rfl
@[simp] theorem gTuple_t {ds : List D} : gTuple [.tup ds] = some (.tup ds) := rfl
@[simp] theorem gTru_i : gTru (.int i) = some (i != 0) := rfl
@[simp] theorem gTru_b {b : Bool} : gTru (.bl b) = some b := rfl
@[simp] theorem gTru_n : gTru .non = some false := rfl
@[simp] theorem gTru_t {ds : List D} : gTru (.tup ds) = some (!ds.isEmpty) := rfl
@[simp] theorem gTru_l {ds : List D} : gTru (.lst ds) = some (!ds.isEmpty) := rfl
@[simp] theorem gCut_t {ds : List D} {lo hi} : gCut (.tup ds) lo hi = some (.tup (cutD ds lo hi)) := rfl
@[simp] theorem gCut_l {ds : List D} {lo hi} : gCut (.lst ds) lo hi = some (.lst (cutD ds lo hi)) := rfl
@[simp] theorem gAdd_t {a b : List D} : gAdd (.tup a) (.tup b) = if lenOk (a.length + b.length) = true then some (.tup (a ++ b)) else none := rfl
@[simp] theorem mu_own {u : Own} : (Slot.own u).mu = some u := rfl
@[simp] theorem mu_io {u : Own} : (Slot.io u).mu = some u := rfl
@[simp] theorem mu_dat {d : D} : (Slot.dat d).mu = none := rfl
@[simp] theorem mu_un : Slot.un.mu = none := rfl
@[simp] theorem put_io {u v : Own} : (Slot.io u).put v = .io v := rfl
@[simp] theorem put_own {u v : Own} : (Slot.own u).put v = .own v := rfl
@[simp] theorem cSet_l {ds : List D} {d : D} {z : Int} : cSet z d (.lst ds) = (ixN ds.length z).bind fun j => some (.lst (ds.set j d)) := rfl
@[simp] theorem cApp_l {ds : List D} {d : D} : cApp d (.lst ds) = if lenOk ds.length = true then some (.lst (ds ++ [d])) else none := rfl
@[simp] theorem toD_lst {ds : List D} : (Own.lst ds).toD = .lst ds := rfl
@[simp] theorem isNone_n : isNone .non = true := rfl
@[simp] theorem isNone_l {ds : List D} : isNone (.lst ds) = false := rfl
@[simp] theorem isNone_t {ds : List D} : isNone (.tup ds) = false := rfl
@[simp] theorem isNone_i : isNone (.int i) = false := rfl
theorem lenOk_of {n : Nat} (h : n < 16000000) : lenOk n = true := decide_eq_true h
end
end DL
end

section
set_option Elab.async false
set_option linter.all false
set_option maxRecDepth 100000
namespace DL
open PySem PySem.Spec PyProof.Rows L2

/-! ### the order of keys (whole number, tuple of whole numbers) -/
abbrev SK := Int × List Int
def lexL : List Int → List Int → Bool := HT.lexLt
theorem lexL_irr : ∀ a : List Int, HT.lexLt a a = false
  | [] => rfl
  | x :: a => by rw [HT.lexLt_cons, if_pos rfl]; exact lexL_irr a
theorem lexL_asym : ∀ a b : List Int, HT.lexLt a b = true → HT.lexLt b a = false
  | [], [], h => rfl
  | [], _ :: _, h => rfl
  | _ :: _, [], h => by cases h
  | x :: a, y :: b, h => by
    rw [HT.lexLt_cons] at h ⊢
    by_cases e : x = y
    · rw [if_pos e] at h; rw [if_pos e.symm]; exact lexL_asym a b h
    · rw [if_neg e] at h; rw [if_neg (Ne.symm e)]
      have := of_decide_eq_true h
      exact decide_eq_false (by omega)
theorem lexL_tri : ∀ a b : List Int, HT.lexLt a b = false → HT.lexLt b a = false → a = b
  | [], [], _, _ => rfl
  | [], _ :: _, h, _ => by cases h
  | _ :: _, [], _, h => by cases h
  | x :: a, y :: b, h, h' => by
    rw [HT.lexLt_cons] at h h'
    by_cases e : x = y
    · rw [if_pos e] at h; rw [if_pos e.symm] at h'; rw [e, lexL_tri a b h h']
    · rw [if_neg e] at h; rw [if_neg (Ne.symm e)] at h'
      have := of_decide_eq_false h
      have := of_decide_eq_false h'
      exact absurd (show x = y by omega) e
theorem lexL_trans : ∀ a b c : List Int, HT.lexLt a b = true → HT.lexLt b c = true → HT.lexLt a c = true
  | [], [], _, h, _ => by cases h
  | [], _ :: _, [], _, h => by cases h
  | [], _ :: _, _ :: _, _, _ => rfl
  | _ :: _, [], _, h, _ => by cases h
  | _ :: _, _ :: _, [], _, h => by cases h
  | x :: a, y :: b, z :: c, h, h' => by
    rw [HT.lexLt_cons] at h h' ⊢
    by_cases e : x = y
    · subst e
      rw [if_pos rfl] at h
      by_cases e2 : x = z
      · rw [if_pos e2] at h' ⊢; exact lexL_trans a b c h h'
      · rw [if_neg e2] at h' ⊢; exact h'
    · rw [if_neg e] at h
      have h := of_decide_eq_true h
      by_cases e2 : y = z
      · subst e2
        rw [if_neg e]; exact decide_eq_true h
      · rw [if_neg e2] at h'
        have h' := of_decide_eq_true h'
        rw [if_neg (by omega)]; exact decide_eq_true (by omega)
def kLt (p q : SK) : Bool := if p.1 = q.1 then HT.lexLt p.2 q.2 else decide (p.1 < q.1)
theorem kLt_irr (p : SK) : kLt p p = false := by unfold kLt; rw [if_pos rfl]; exact lexL_irr _
theorem kLt_asym (p q : SK) (h : kLt p q = true) : kLt q p = false := by
  unfold kLt at h ⊢
  by_cases e : p.1 = q.1
  · rw [if_pos e] at h; rw [if_pos e.symm]; exact lexL_asym _ _ h
  · rw [if_neg e] at h; rw [if_neg (Ne.symm e)]
    have := of_decide_eq_true h
    exact decide_eq_false (by omega)
theorem kLt_tri (p q : SK) (h : kLt p q = false) (h' : kLt q p = false) : p = q := by
  unfold kLt at h h'
  by_cases e : p.1 = q.1
  · rw [if_pos e] at h; rw [if_pos e.symm] at h'
    exact Prod.ext e (lexL_tri _ _ h h')
  · rw [if_neg e] at h; rw [if_neg (Ne.symm e)] at h'
    have := of_decide_eq_false h
    have := of_decide_eq_false h'
    exact absurd (by omega) e
theorem kLt_trans (p q r : SK) (h : kLt p q = true) (h' : kLt q r = true) : kLt p r = true := by
  unfold kLt at h h' ⊢
  by_cases e : p.1 = q.1
  · rw [if_pos e] at h
    by_cases e2 : q.1 = r.1
    · rw [if_pos e2] at h'; rw [if_pos (e.trans e2)]; exact lexL_trans _ _ _ h h'
    · rw [if_neg e2] at h'; rw [if_neg (by omega), e]; exact h'
  · rw [if_neg e] at h
    have h := of_decide_eq_true h
    by_cases e2 : q.1 = r.1
    · rw [if_neg (by omega), ← e2]; exact decide_eq_true h
    · rw [if_neg e2] at h'
      have h' := of_decide_eq_true h'
      rw [if_neg (by omega)]; exact decide_eq_true (by omega)
theorem kLt_swo : SrtO.Swo kLt := by
  refine ⟨kLt_asym, fun x y z h1 h2 => ?_⟩
  cases h : kLt z x with
  | false => rfl
  | true =>
    cases h3 : kLt x y with
    | true => have := kLt_trans z x y h h3; rw [h2] at this; cases this
    | false =>
      have e := kLt_tri x y h3 h1
      subst e; rw [h] at h2; cases h2
def kLe (p q : SK) : Bool := !kLt q p
theorem kLe_trans (a b c : SK) (h : kLe a b = true) (h' : kLe b c = true) : kLe a c = true := by
  unfold kLe at h h' ⊢
  have h1 : kLt b a = false := by simpa using h
  have h2 : kLt c b = false := by simpa using h'
  simpa using kLt_swo.tr a b c h1 h2
theorem kLe_total (a b : SK) : (kLe a b || kLe b a) = true := by
  unfold kLe
  cases h : kLt a b with
  | false => simp
  | true => simp [kLt_asym a b h]

/-! ### the sorted list, keys apart -/
def sortK {α : Type} (l : List (SK × α)) : List (SK × α) := l.mergeSort fun p q => kLe p.1 q.1
theorem sortK_perm {α : Type} (l : List (SK × α)) : (sortK l).Perm l := List.mergeSort_perm ..
theorem sortK_sorted {α : Type} (l : List (SK × α)) : (sortK l).Pairwise fun p q => kLe p.1 q.1 = true :=
  List.pairwise_mergeSort (fun a b c => kLe_trans a.1 b.1 c.1) (fun a b => kLe_total a.1 b.1) l
/-- two sorted lists of one stock, keys apart, are one -/
theorem sort_uniq {α : Type} : ∀ {l m : List (SK × α)}, l.Perm m → (l.map (·.1)).Nodup → l.Pairwise (fun p q => kLe p.1 q.1 = true) → m.Pairwise (fun p q => kLe p.1 q.1 = true) → l = m
  | [], m, p, _, _, _ => (List.Perm.eq_nil p.symm).symm
  | x :: l, [], p, _, _, _ => absurd p.length_eq (by simp)
  | x :: l, y :: m, p, nd, s1, s2 => by
    have h1 : kLe x.1 y.1 = true := by
      rcases List.mem_cons.mp (p.mem_iff.mpr (List.mem_cons_self (a := y) (l := m))) with e | h
      · rw [e]; unfold kLe; rw [kLt_irr]; rfl
      · exact (List.pairwise_cons.mp s1).1 y h
    have h2 : kLe y.1 x.1 = true := by
      rcases List.mem_cons.mp (p.mem_iff.mp (List.mem_cons_self (a := x) (l := l))) with e | h
      · rw [e]; unfold kLe; rw [kLt_irr]; rfl
      · exact (List.pairwise_cons.mp s2).1 x h
    have e : x.1 = y.1 := kLt_tri _ _ (by unfold kLe at h2; simpa using h2) (by unfold kLe at h1; simpa using h1)
    have e2 : x = y := by
      rcases List.mem_cons.mp (p.mem_iff.mpr (List.mem_cons_self (a := y) (l := m))) with q | q
      · exact q.symm
      · exact absurd (List.mem_map.mpr ⟨y, q, e.symm⟩) (List.nodup_cons.mp nd).1
    subst e2
    rw [sort_uniq p.cons_inv (List.nodup_cons.mp nd).2 (List.pairwise_cons.mp s1).2 (List.pairwise_cons.mp s2).2]
theorem perm_map_inv {α β : Type} {f : α → β} : ∀ {l' : List β} {l : List α}, l'.Perm (l.map f) → ∃ m : List α, m.Perm l ∧ m.map f = l'
  | [], l, p => by
    have := p.symm.eq_nil
    have : l = [] := List.map_eq_nil_iff.mp this
    subst this; exact ⟨[], List.Perm.refl _, rfl⟩
  | b :: l', l, p => by
    obtain ⟨a, ha, rfl⟩ := List.mem_map.mp (p.mem_iff.mp (List.mem_cons_self (a := b) (l := l')))
    obtain ⟨l1, l2, rfl⟩ := List.append_of_mem ha
    have p1 : (a :: (l1 ++ l2)).Perm (l1 ++ a :: l2) := List.perm_middle.symm
    have p2 : (f a :: l').Perm (f a :: (l1 ++ l2).map f) := p.trans (p1.symm.map f)
    obtain ⟨m, pm, em⟩ := perm_map_inv (p2.cons_inv)
    exact ⟨a :: m, (pm.cons a).trans p1, by rw [List.map_cons, em]⟩

/-! ### keys as they lie -/
def IsSK (P : Program) (w : World) (h : Heap) (v : Value) (k : SK) : Prop :=
  ∃ (a b : Addr) (t : Tok) (its : List Value), v = .ref a ∧ IsTup h a #[.int k.1 t, .ref b] ∧ IsTup h b its.toArray ∧ IntsAre its k.2
theorem intsAre_key {P : Program} {w : World} : ∀ {vs : List Value} {ns : List Int}, IntsAre vs ns → PySem.ItemsAre (PySem.intKind P w) ns vs
  | _, _, .nil => .nil
  | _, _, .cons n t h => .cons (by simp [PySem.intKind, Value.isInt]) (intsAre_key h)
theorem isSK_uniq {P : Program} {w : World} {h : Heap} {v : Value} {k k' : SK} (z : IsSK P w h v k) (z' : IsSK P w h v k') : k = k' := by
  obtain ⟨a, b, t, its, e, ⟨o, ho, hc, n, hd⟩, ⟨o2, ho2, hc2, n2, hd2⟩, hi⟩ := z
  obtain ⟨a', b', t', its', e', ⟨o', ho', hc', n', hd'⟩, ⟨o2', ho2', hc2', n2', hd2'⟩, hi'⟩ := z'
  rw [e] at e'; cases e'
  rw [ho] at ho'; cases ho'
  rw [hd] at hd'
  injection hd' with e1
  have e4 : [Value.int k.1 t, Value.ref b] = [Value.int k'.1 t', Value.ref b'] := congrArg Array.toList e1
  have q1 : Value.int k.1 t = Value.int k'.1 t' := (List.cons.inj e4).1
  have e5 : k.1 = k'.1 := by injection q1
  have q2 : Value.ref b = Value.ref b' := (List.cons.inj (List.cons.inj e4).2).1
  have e2 : b = b' := by injection q2
  subst e2
  rw [ho2] at ho2'; cases ho2'
  rw [hd2] at hd2'
  injection hd2' with e3
  have e3 : its = its' := by simpa using congrArg Array.toList e3
  subst e3
  exact Prod.ext e5 (hi.nums.symm.trans hi'.nums)
noncomputable def skOf (P : Program) (w : World) (h : Heap) (v : Value) : SK := Classical.epsilon fun k => IsSK P w h v k
theorem skOf_is {P : Program} {w : World} {h : Heap} {v : Value} {k : SK} (z : IsSK P w h v k) : skOf P w h v = k := isSK_uniq (Classical.epsilon_spec ⟨k, z⟩) z
section
variable {P : Program} {w : World} {A : Around} {s : Shared}
theorem sk_cmp {ks : List Value} (hu : A.units < cLine) (hp : ∀ v ∈ ks, ∃ k, IsSK P w s.heap v k) :
    SrtO.Cmp P w A s (tuples' true) (fun p => p.1 ∈ ks) fun p q => kLt (skOf P w s.heap p.1) (skOf P w s.heap q.1) := by
  intro p q hm hm'
  obtain ⟨k, h1⟩ := hp _ hm
  obtain ⟨k', h2⟩ := hp _ hm'
  show wpAny (model P w) A (keyLt' (tuples' true) p.1 q.1) (fun r s' => s' = s ∧ r = kLt (skOf P w s.heap p.1) (skOf P w s.heap q.1)) (fun _ _ => False) s
  rw [skOf_is h1, skOf_is h2]
  obtain ⟨a, b, t, its, e, ⟨o, ho, hc, n, hd⟩, hb, hi⟩ := h1
  obtain ⟨a', b', t', its', e', ⟨o', ho', hc', n', hd'⟩, hb', hi'⟩ := h2
  rw [e, e']
  refine PySem.W.kat_lt ho hd ho' hd' ?_
  show PySem.W.KatLex P w A true (decide (2 < 2)) _ [(.int k.1 t, .int k'.1 t'), (.ref b, .ref b')] 0 s
  refine PySem.W.kat_cons (SeqAt.EqAt.int_int k.1 t k'.1 t' P w _ _ ?_)
  have kb : PySem.IsTupleKey (PySem.intKind P w) s.heap k.2 b := by
    obtain ⟨o, ho, hc, n, hd⟩ := hb
    exact ⟨o, _, n, ho, hc, hd, by simpa using intsAre_key hi⟩
  have kb' : PySem.IsTupleKey (PySem.intKind P w) s.heap k'.2 b' := by
    obtain ⟨o, ho, hc, n, hd⟩ := hb'
    exact ⟨o, _, n, ho, hc, hd, by simpa using intsAre_key hi'⟩
  refine PySem.W.kat_go (fun e1 => ?_) (fun e1 => ?_)
  · have ex : k.1 = k'.1 := by simpa using e1
    refine PySem.W.kat_yes (PySem.W.kat_cons (PySem.wpAny_eqBool_tuple hu kb kb' ?_))
    refine PySem.W.kat_go (fun e2 => ?_) (fun e2 => ?_)
    · have ey : k.2 = k'.2 := by simpa using e2
      have e3 : kLt k k' = false := by
        rw [show k = k' from Prod.ext ex ey]; exact kLt_irr _
      exact PySem.W.kat_yes (PySem.W.kat_nil ⟨rfl, e3.symm⟩)
    · refine PySem.W.kat_no (PySem.W.kat_one _ _ ?_)
      refine HT.lt_tupInts hb hb' (by simpa using hi) (by simpa using hi') hu ?_
      exact (show s = s ∧ HT.lexLt k.2 k'.2 = kLt k k' from ⟨rfl, by unfold kLt; rw [if_pos ex]⟩)
  · have ex : ¬ k.1 = k'.1 := by simpa using e1
    exact PySem.W.kat_no (oneLt_int ⟨rfl, by unfold kLt; rw [if_neg ex]⟩)
theorem sk_firsts : ∀ {ks : List Value}, (∀ v ∈ ks, ∃ k, IsSK P w s.heap v k) → ∃ fs, PySem.W.KatTups s.heap ks fs ∧ fs.length = ks.length ∧ ∀ f ∈ fs, ∃ n t, f = Value.int n t
  | [], _ => ⟨[], trivial, rfl, fun f h => absurd h (by simp)⟩
  | v :: ks, h => by
    obtain ⟨fs, h1, h2, h3⟩ := sk_firsts fun u hu => h u (List.mem_cons_of_mem _ hu)
    obtain ⟨k, a, b, t, its, rfl, ⟨o, ho, hc, n, hd⟩, _, _⟩ := h v List.mem_cons_self
    exact ⟨.int k.1 t :: fs, .cons ho hc hd rfl h1, by simp [h2], fun f hf => (List.mem_cons.mp hf).elim (fun e => ⟨_, _, e⟩) (h3 f)⟩
theorem sk_kind {ks : List Value} {Q : SortKind → Shared → Prop} {E : Value → Shared → Prop} (h0 : 0 < ks.length) (hp : ∀ v ∈ ks, ∃ k, IsSK P w s.heap v k) (h : Q (tuples' true) s) : wpAny (model P w) A (keyKind' ks.toArray) Q E s := by
  obtain ⟨fs, h1, h2, h3⟩ := sk_firsts hp
  refine PySem.W.kat_kind (T := .type "int") h1 (by omega) (fun f hm => ?_) (by rfl) ?_
  · obtain ⟨x, t, rfl⟩ := h3 f hm
    exact PySem.W.Looks.now
  · have e : (Value.type "int" != Value.type "tuple") = true := by first | decide +kernel | rfl | decide
    rw [e]
    exact h
end
end DL
end

section
set_option Elab.async false
set_option linter.all false
set_option maxRecDepth 100000
namespace DL
open PySem PySem.Spec PyProof.Rows L2

/-! ### sorted(xs, key=f), f's answers (whole number, tuple of whole numbers), all of them apart -/
def keyD : D → Option SK
  | .tup [.int n, .tup ks] => (dInts ks).bind fun ns => some (n, ns)
  | _ => none
def keysOf (g : FG) : List D → Option (List (SK × D))
  | [] => some []
  | d :: ds => (g [.dat d]).bind fun y => (keyD y.1).bind fun k => (keysOf g ds).bind fun r => some ((k, d) :: r)
def fSortK (g : FG) (f : FE) : FO := fun ρ => (f ρ).bind fun x => match x.1 with
  | .lst ds => (keysOf g ds).bind fun kd => if (kd.map (·.1)).Nodup then some (.lst ((sortK kd).map (·.2)), x.2) else none
  | _ => none
theorem keysOf_len {g : FG} : ∀ {ds : List D} {kd : List (SK × D)}, keysOf g ds = some kd → kd.length = ds.length
  | [], _, h => by cases h; rfl
  | d :: ds, kd, h => by
    obtain ⟨y, _, h⟩ := bind_ok h
    obtain ⟨k, _, h⟩ := bind_ok h
    obtain ⟨r, h3, h⟩ := bind_ok h
    cases h
    simp [keysOf_len h3]
theorem keysOf_at {g : FG} : ∀ {ds : List D} {kd : List (SK × D)}, keysOf g ds = some kd → ∀ (j : Nat) (d : D), ds[j]? = some d → ∃ y k, g [.dat d] = some y ∧ keyD y.1 = some k ∧ kd[j]? = some (k, d)
  | [], _, h, j, d, hj => by simp at hj
  | d :: ds, kd, h, j, d', hj => by
    obtain ⟨y, h1, h⟩ := bind_ok h
    obtain ⟨k, h2, h⟩ := bind_ok h
    obtain ⟨r, h3, h⟩ := bind_ok h
    cases h
    cases j with
    | zero =>
      have e : d = d' := by simpa using hj
      subst e
      exact ⟨y, k, h1, h2, rfl⟩
    | succ j =>
      obtain ⟨y', k', a, b, c⟩ := keysOf_at h3 j d' (by simpa using hj)
      exact ⟨y', k', a, b, by simpa using c⟩
theorem fz_key {K : PySem.W.Frag} {O : Addr → Prop} {H : Hp} {v : V} {d : D} {k : SK} (z : Fz K O H v d) (h : keyD d = some k) :
    ∃ a b, v = .ref a ∧ SqT K H a [.int k.1, .ref b] ∧ SqT K H b (k.2.map V.int) := by
  unfold keyD at h
  split at h
  · rename_i n ks
    obtain ⟨ns, h1, h⟩ := bind_ok h
    cases h
    unfold Fz at z
    obtain ⟨a, vs, e, t, l⟩ := z
    unfold FzL at l
    obtain ⟨v1, r, e1, z1, l⟩ := l
    unfold FzL at l
    obtain ⟨v2, r2, e2, z2, l⟩ := l
    unfold FzL at l
    subst l; subst e2; subst e1
    unfold Fz at z1 z2
    obtain ⟨b, ws, e3, t3, l3⟩ := z2
    subst z1; subst e3
    exact ⟨a, b, e, t.sq, by rw [← fzL_ints l3 h1]; exact t3.sq⟩
  · cases h
theorem isSK_of {X : Cx} {pins : List (Addr × Obj)} {σ : L2.St} {H : Hp} {s : Shared} {v : V} {u : Value} {k : SK} (I : Inv X pins σ H s) (r : RelV v u)
    (z : ∃ a b, v = .ref a ∧ SqT X.K H a [.int k.1, .ref b] ∧ SqT X.K H b (k.2.map V.int)) : IsSK X.prog X.w s.heap u k := by
  obtain ⟨a, b, rfl, h1, h2⟩ := z
  obtain rfl : u = Value.ref a := r
  obtain ⟨its, r1, p1, _⟩ := I.tuple h1
  obtain ⟨its2, r2, p2, _⟩ := I.tuple h2
  obtain ⟨u1, u2, rfl, ri, rj⟩ := vals2 r1
  obtain ⟨t, rfl⟩ := ri
  obtain rfl : u2 = Value.ref b := rj
  exact ⟨a, b, t, its2, rfl, p1, p2, intsAre_of r2⟩

section
variable {X : Cx} {k : Nat} {f : Addr} {fd : FuncData} {ps : List Str} {g : FG} {pins : List (Addr × Obj)} {σ : L2.St}
theorem run_in2 {H : Hp} {s : Shared} {Q : VK} {us : List Value} {vs : List V} {sp : Sp} (F : FnOk X.prog X.w X.K X.mg X.base CX0 k f fd ps sp) (hr : Room (k + 2) X.A) (hb : Binds X.K fd ps [])
    (I : Inv X pins σ H s) (r : Vals vs us) (h : sp vs H Q E0) : wpAny (model X.prog X.w) X.A.in1.in1 (call (.ref f) us) (EP X pins σ Q) (fun _ _ => False) s := by
  have hl : (us ++ []).length = ps.length := by rw [List.append_nil, ← r.length]; exact F.len _ _ _ _ h
  have hbb := hb s us I.kIn hl
  rw [List.append_nil] at hbb
  refine wpAny_call (codeAny_mono (F.run X.A.in1.in1 X.stack s H ⟨us, []⟩ us vs Q E0 hr.in1.in1 I.env0.in1.in1 hbb r h) fun r s' hq => ?_)
  cases r with
  | error e => exact hq
  | ok fl =>
    cases fl with
    | ret u => exact I.after hq
    | next => exact False.elim hq
    | brk => exact False.elim hq
    | cont => exact False.elim hq
theorem vals_at : ∀ {vs : List V} {us : List Value}, Vals vs us → ∀ (j : Nat) (u : Value), us[j]? = some u → ∃ v, vs[j]? = some v ∧ RelV v u
  | _, _, .nil, j, u, h => by simp at h
  | _, _, .cons (b := y) r h, 0, u, e => by
    have e : y = u := by simpa using e
    subst e
    exact ⟨_, rfl, r⟩
  | _, _, .cons r h, j + 1, u, e => by
    obtain ⟨v, e1, r1⟩ := vals_at h j u (by simpa using e)
    exact ⟨v, by simpa using e1, r1⟩
theorem fzL_get {K : PySem.W.Frag} {O : Addr → Prop} {H : Hp} : ∀ {vs : List V} {ds : List D}, FzL K O H vs ds → ∀ (j : Nat) (v : V), vs[j]? = some v → ∃ d, ds[j]? = some d ∧ Fz K O H v d
  | vs, [], l, j, v, e => by
    unfold FzL at l; subst l; simp at e
  | vs, d :: ds, l, j, v, e => by
    unfold FzL at l
    obtain ⟨w, r, rfl, z, l⟩ := l
    cases j with
    | zero =>
      have e : w = v := by simpa using e
      subst e
      exact ⟨d, rfl, z⟩
    | succ j =>
      obtain ⟨d', e1, z1⟩ := fzL_get l j v (by simpa using e)
      exact ⟨d', by simpa using e1, z1⟩

theorem vals_map {α : Type} {fx : α → V} {fu : α → Value} : ∀ {m : List α}, (∀ i ∈ m, RelV (fx i) (fu i)) → Vals (m.map fx) (m.map fu)
  | [], _ => .nil
  | i :: m, h => .cons (h i List.mem_cons_self) (vals_map fun j hj => h j (List.mem_cons_of_mem _ hj))
theorem fzL_map {α : Type} {K : PySem.W.Frag} {O : Addr → Prop} {H : Hp} {fx : α → V} {fd : α → D} : ∀ {m : List α}, (∀ i ∈ m, Fz K O H (fx i) (fd i)) → FzL K O H (m.map fx) (m.map fd)
  | [], _ => by rw [List.map_nil, List.map_nil]; unfold FzL; rfl
  | i :: m, h => by
    rw [List.map_cons, List.map_cons]; unfold FzL
    exact ⟨_, _, rfl, h i List.mem_cons_self, fzL_map fun j hj => h j (List.mem_cons_of_mem _ hj)⟩
theorem zip_ix {ks vs : List Value} (h : ks.length = vs.length) : ks.zip vs = (List.range vs.length).map fun i => (ks.getD i .none, vs.getD i .none) := by
  apply List.ext_getElem
  · simp [h]
  · intro i h1 h2
    have hv : i < vs.length := by simpa using h2
    have hk : i < ks.length := by omega
    simp [hv, hk]

theorem run_tree {O : Addr → Prop} {H : Hp} {s : Shared} {a : Addr} {xs : List V} {ds : List D} {kd : List (SK × D)} {R : PySem.Fin → Shared → Prop} {E : Value → Shared → Prop} (F : FnOk X.prog X.w X.K X.mg X.base CX0 k f fd ps (spD X.K 1 g)) (hr : Room (k + 2) X.A) (hb : Binds X.K fd ps [])
    (I : Inv X pins σ H s) (ha : H a = some (.lst xs)) (hO : O a) (z : FzL X.K O H xs ds) (occ : Occ O H) (hk : keysOf g ds = some kd) (nd : (kd.map (·.1)).Nodup)
    (h : ∀ s' H' vs, Inv X pins σ H' s' → (∀ b o, b ≠ a → H b = some o → H' b = some o) → H' a = some (.lst vs) → FzL X.K O H' vs ((sortK kd).map (·.2)) → R (.done (.ret .none)) s') :
    wpAny (model X.prog X.w) X.A.in1.in1 (ksk_tree a (.ref f) false) R E s := by
  obtain ⟨hz, its, n, rv, ho⟩ := I.hok a _ ha
  have hlen : xs.length = its.length := rv.length
  have hdl : xs.length = ds.length := z.len
  have hkl := keysOf_len hk
  unfold ksk_tree
  refine wpAny_bind (listItems_at ho rfl ?_)
  refine wpAny_bind (listUpdate_at ho rfl ?_ (by rw [List.size_toArray]; omega) (Nat.zero_le _))
  obtain ⟨e1, ho1⟩ : ∃ e1, (s.heap.update a (Obj.mapSeq fun _ => (#[] : Array Value))).get? a = some (seqObj "list" #[] e1) := ⟨_, get?_update_seq ho fun _ => #[]⟩
  have I2 : Inv X pins σ (upd H a (.lst [])) { s with heap := s.heap.update a (Obj.mapSeq fun _ => (#[] : Array Value)) } :=
    I.write (e := a) (t' := s.toks) (by rw [ha]; trivial) (.inl rfl) (fun b u hb hu => (Heap.get?_update_ne _ _ _ _ hb).trans hu) ⟨_, ho1⟩ ⟨Nat.zero_le _, [], e1, .nil, ho1⟩
  refine wpAny_bind (seqEpoch_at ho1 rfl ?_)
  refine wpAny_bind (wpAny_newTuple ?_ (by show its.length ≤ _; omega))
  refine wpAny_bind (wpAny_newList ?_ (Nat.zero_le _))
  refine wpAny_holding ?_
  have I3 := I2.kept (t' := s.toks) (h' := (s.heap.update a (Obj.mapSeq fun _ => (#[] : Array Value))).push (seqObj "tuple" its.toArray 0)) fun b u e => Heap.get?_push_of_some _ e
  have I4 := I3.laid (t' := s.toks) (h' := ((s.heap.update a (Obj.mapSeq fun _ => (#[] : Array Value))).push (seqObj "tuple" its.toArray 0)).push (seqObj "list" #[] 0))
    (a := ((s.heap.update a (Obj.mapSeq fun _ => (#[] : Array Value))).push (seqObj "tuple" its.toArray 0)).objs.size) (o := .lst []) (fun b u e => Heap.get?_push_of_some _ e) (Nat.le_refl _) ⟨Nat.zero_le _, [], 0, .nil, Heap.get?_push_size _ rfl⟩
  have n4 : upd H a (.lst []) ((s.heap.update a (Obj.mapSeq fun _ => (#[] : Array Value))).push (seqObj "tuple" its.toArray 0)).objs.size = none := I3.hok.fresh (Nat.le_refl _)
  show wpAny (model X.prog X.w) X.A.in1.in1 (ksk_rest a (.ref f) false its.toArray e1 (.ref ((s.heap.update a (Obj.mapSeq fun _ => (#[] : Array Value))).push (seqObj "tuple" its.toArray 0)).objs.size)) R E { s with heap := ((s.heap.update a (Obj.mapSeq fun _ => (#[] : Array Value))).push (seqObj "tuple" its.toArray 0)).push (seqObj "list" #[] 0) }
  have hs4 : ({ s with heap := ((s.heap.update a (Obj.mapSeq fun _ => (#[] : Array Value))).push (seqObj "tuple" its.toArray 0)).push (seqObj "list" #[] 0) } : Shared).heap.get? a = some (seqObj "list" #[] e1) := Heap.get?_push_of_some _ (Heap.get?_push_of_some _ ho1)
  revert I4 n4 hs4
  generalize ((s.heap.update a (Obj.mapSeq fun _ => (#[] : Array Value))).push (seqObj "tuple" its.toArray 0)).objs.size = kS
  generalize ({ s with heap := ((s.heap.update a (Obj.mapSeq fun _ => (#[] : Array Value))).push (seqObj "tuple" its.toArray 0)).push (seqObj "list" #[] 0) } : Shared) = s4
  intro I4 n4 hs4
  have hka : kS ≠ a := fun e => by subst e; rw [upd_same] at n4; cases n4
  have hkH : H kS = none := by rw [upd_ne hka] at n4; exact n4
  have g4 : s4.heap.get? a = some (seqObj "list" #[] e1) := hs4
  have nf := Inv.nofrz I4 (d := a) (u := .lst []) (by rw [upd_ne hka.symm, upd_same]) trivial
  obtain ⟨od, I5⟩ := Inv.lock I4 (d := a) (u := .lst []) (by rw [upd_ne hka.symm, upd_same]) trivial
  have hod : od = seqObj "list" #[] e1 := by
    have q := (I5.hok a _ upd_same).1
    rw [g4] at q; cases q; rfl
  subst hod
  revert I5
  generalize eH5 : upd (upd (upd H a (.lst [])) kS (.lst [])) a (.frz (seqObj "list" #[] e1) (.lst [])) = H5
  intro I5
  have k5 : ∀ b o, b ≠ a → H b = some o → H5 b = some o := fun b o hb e => by
    rw [← eH5, upd_ne hb, upd_ne (fun q => by rw [q, hkH] at e; cases e), upd_ne hb]; exact e
  have a5 : H5 a = some (.frz (seqObj "list" #[] e1) (.lst [])) := by rw [← eH5, upd_same]
  have s5 : H5 kS = some (.lst []) := by rw [← eH5, upd_ne hka, upd_same]
  clear I4 n4 eH5
  unfold ksk_rest
  refine wpAny_bind (wpAny_rule ?_)
  first
    | rw [List.forIn_toArray]
    | (rw [← Array.forIn_toList]; simp only [List.toList_toArray])
    | rw [← Array.forIn_toList]
  refine wpAny_bind (ksk_fold (fun i s' => ∃ H6 kvs dk, Inv X pins σ H6 s' ∧ (∀ b o, b ≠ a → H b = some o → H6 b = some o) ∧ H6 a = some (.frz (seqObj "list" #[] e1) (.lst [])) ∧ H6 kS = some (.lst kvs) ∧
    FzL X.K (fun b => O b ∨ b = kS) H6 kvs dk ∧ dk.map keyD = (kd.take i).map fun p => some p.1) its 0 s4 ⟨H5, [], [], I5, k5, a5, s5, (by unfold FzL; rfl), by simp⟩ ?step ?done)
  case step =>
    rintro j x s' hx ⟨H6, kvs, dk, I6, k6, a6, s6, z6, e6⟩
    simp only [Nat.zero_add] at e6 ⊢
    obtain ⟨v, hv, rx⟩ := vals_at rv j x hx
    obtain ⟨d, hd, zd⟩ := fzL_get z j v hv
    obtain ⟨y, sk, hy, hsk, hkd⟩ := keysOf_at hk j d hd
    have occ6 : Occ (fun b => O b ∨ b = kS) H6 := fun b hb q => by
      rcases hb with hb | hb
      · by_cases e : b = a
        · subst e; rw [a6] at q; cases q
        · cases e2 : H b with
          | none => exact occ b hb e2
          | some o => rw [k6 b o e e2] at q; cases q
      · subst hb; rw [s6] at q; cases q
    have t6 : Tm O H (fun b => O b ∨ b = kS) H6 := ⟨fun b o e n => k6 b o (fun q => n (by rw [q]; exact hO)) e, fun b o e n q => q.elim n fun q => by rw [q, hkH] at e; cases e⟩
    obtain ⟨y1, y2⟩ := y
    refine wpAny_bind (wpAny_attempt (wpAny_mono (run_in2 (Q := fun kv H7 => (∀ b o, H6 b = some o → H7 b = some o) ∧ Fz X.K (fun b => O b ∨ b = kS) H7 kv y1) F hr hb I6 (us := [x]) (vs := [v]) (.cons rx .nil) ?_) (fun u s'' he => ?_) fun _ _ hF => hF.elim))
    · refine ⟨fun b => O b ∨ b = kS, [.dat d], y1, y2, rfl, ⟨rfl, fun i d' h => ?_, fun i u h => ?_, fun i s h => ?_, fun i j a u u' h => ?_, occ6⟩, hy, fun kv H7 fr zk _ _ => ⟨fun b o e => fr b o e fun ⟨i, u, h, _⟩ => ?_, zk⟩⟩
      · cases i with
        | zero =>
          have e : d = d' := by simpa using h
          subst e
          exact ⟨v, rfl, Fz.tm t6 zd⟩
        | succ i => simp at h
      · cases i with
        | zero => simp at h
        | succ i => simp at h
      · cases i with
        | zero =>
          have e : Slot.dat d = s := by simpa using h
          exact .inl ⟨d, e.symm⟩
        | succ i => simp at h
      · cases i with
        | zero => simp at h
        | succ i => simp at h
      · cases i with
        | zero => simp at h
        | succ i => simp at h
    · obtain ⟨kv, H7, I7, ru, k7, zk⟩ := he
      try dsimp only
      have s7 := k7 _ _ s6
      obtain ⟨hz7, kits, n7, rv7, ho7⟩ := I7.hok kS _ s7
      have hl7 : kvs.length = kits.length := rv7.length
      have hll : kits.length ≤ its.length := by
        have h1 := z6.len
        have h2 := congrArg List.length e6
        simp only [List.length_map, List.length_take] at h2
        omega
      have hj : j < its.length := (List.getElem?_eq_some_iff.mp hx).1
      have hjl : kits.length = j := by
        have h1 := z6.len
        have h2 := congrArg List.length e6
        simp only [List.length_map, List.length_take] at h2
        omega
      obtain ⟨c2, hc2⟩ : ∃ c2, (s''.heap.update kS (Obj.mapSeq (·.push u))).get? kS = some (seqObj "list" (kits.toArray.push u) c2) := ⟨_, get?_update_seq ho7 (·.push u)⟩
      refine wpAny_bind (listUpdate_at ho7 rfl ?_ (by rw [List.size_toArray]; omega) (Nat.le_trans (Nat.le_of_eq (Array.size_push ..)) (by rw [List.size_toArray]; omega)))
      have ne7 : ∀ b o, H b = some o → b ≠ kS := fun b o e q => by rw [q, hkH] at e; cases e
      have I8 : Inv X pins σ (upd H7 kS (.lst (kvs ++ [kv]))) { s'' with heap := s''.heap.update kS (Obj.mapSeq (·.push u)) } :=
        I7.write (e := kS) (t' := s''.toks) (by rw [s7]; trivial) (.inl rfl) (fun b w hb hw => (Heap.get?_update_ne _ _ _ _ hb).trans hw) ⟨_, hc2⟩
          ⟨by rw [List.length_append]; simp; omega, kits ++ [u], c2, rv7.append (.cons ru .nil), by rw [hc2]; simp [seqObj]⟩
      have t7 : Tm (fun b => O b ∨ b = kS) H7 (fun b => O b ∨ b = kS) (upd H7 kS (.lst (kvs ++ [kv]))) := ⟨fun b o e n => by rw [upd_ne fun q => n (.inr q)]; exact e, fun b o e n => n⟩
      have t67 : Tm (fun b => O b ∨ b = kS) H6 (fun b => O b ∨ b = kS) H7 := ⟨fun b o e n => k7 b o e, fun b o e n => n⟩
      refine wpAny_pure ⟨rfl, _, kvs ++ [kv], dk ++ [y1], I8, fun b o hb e => ?_, ?_, upd_same, ?_, ?_⟩
      · rw [upd_ne (ne7 b o e)]; exact k7 b o (k6 b o hb e)
      · rw [upd_ne hka.symm]; exact k7 _ _ a6
      · refine FzL.app (FzL.tm (t67.trans t7) z6) ?_
        unfold FzL
        exact ⟨kv, [], rfl, Fz.tm t7 zk, by unfold FzL; rfl⟩
      · rw [List.map_append, e6, List.take_add_one, hkd]
        simp [hsk]
  case done =>
    rintro s' ⟨H6, kvs, dk, I6, k6, a6, s6, z6, e6⟩
    have e6' : dk.map keyD = kd.map fun p => some p.1 := by
      rw [e6, List.take_of_length_le (by omega)]
    clear e6
    obtain ⟨hz7, kits, n7, rv7, ho7⟩ := I6.hok kS _ s6
    have hkl2 : kits.length = its.length := by
      have h1 := z6.len
      have h2 := congrArg List.length e6'
      have h3 : kvs.length = kits.length := rv7.length
      simp only [List.length_map] at h2
      omega
    try dsimp only
    refine wpAny_bind (listItems_at ho7 rfl ?_)
    have hkd : kd.length = its.length := by omega
    have hkey : ∀ i (hi : i < its.length), IsSK X.prog X.w s'.heap (kits.getD i .none) (kd[i]'(by omega)).1 := fun i hi => by
      have hki : i < kits.length := by omega
      obtain ⟨kv, e1, r1⟩ := vals_at rv7 i kits[i] (by simp [hki])
      obtain ⟨d, e2, z2⟩ := fzL_get z6 i kv e1
      have e3 := congrArg (fun l : List (Option SK) => l[i]?) e6'
      simp only [List.getElem?_map, e2] at e3
      have hi' : i < kd.length := by omega
      rw [List.getElem?_eq_getElem hi'] at e3
      have e4 : keyD d = some kd[i].1 := by simpa using e3
      have := isSK_of I6 r1 (fz_key z2 e4)
      simpa [hki] using this
    have hkeyM : ∀ v ∈ kits, ∃ k, IsSK X.prog X.w s'.heap v k := fun v hv => by
      obtain ⟨i, hi, rfl⟩ := List.getElem_of_mem hv
      have := hkey i (by omega)
      exact ⟨_, by simpa [hi] using this⟩
    have hzip : (kits.toArray.zip its.toArray).toList = (List.range its.length).map fun i => (kits.getD i .none, its.getD i .none) := by
      rw [ksk_zip]
      exact zip_ix hkl2
    have sw : SrtO.Swo (fun p q : Keyed => kLt (skOf X.prog X.w s'.heap p.1) (skOf X.prog X.w s'.heap q.1)) := ⟨fun p q => kLt_asym _ _, fun p q r => kLt_swo.tr _ _ _⟩
    have fin : ∀ st : SortSt, SrtO.Srtd (fun p q => kLt (skOf X.prog X.w s'.heap p.1) (skOf X.prog X.w s'.heap q.1)) (arrOf st).toList → (arrOf st).toList.Perm (kits.toArray.zip its.toArray).toList → failedOf st = none →
        wpAny (model X.prog X.w) X.A.in1.in1 (ksk_tail a false e1 (.ref kS) st) R E s' := fun st hs hp hf => by
      rw [hzip] at hp
      obtain ⟨m, pm, em⟩ := perm_map_inv hp
      have hm : ∀ i ∈ m, i < its.length := fun i hi => by simpa using pm.mem_iff.mp hi
      have hml : m.length = its.length := by simpa using pm.length_eq
      have g6 := (I6.hok a _ a6).1
      unfold ksk_tail
      try dsimp only
      obtain ⟨c2, hc2⟩ : ∃ c2, (s'.heap.update kS (Obj.mapSeq fun _ => (#[] : Array Value))).get? kS = some (seqObj "list" #[] c2) := ⟨_, get?_update_seq ho7 fun _ => #[]⟩
      refine wpAny_bind (listUpdate_at ho7 rfl ?_ (by rw [List.size_toArray]; omega) (Nat.zero_le _))
      have I7 : Inv X pins σ (upd H6 kS (.lst [])) { s' with heap := s'.heap.update kS (Obj.mapSeq fun _ => (#[] : Array Value)) } :=
        I6.write (e := kS) (t' := s'.toks) (by rw [s6]; trivial) (.inl rfl) (fun b w hb hw => (Heap.get?_update_ne _ _ _ _ hb).trans hw) ⟨_, hc2⟩ ⟨Nat.zero_le _, [], c2, .nil, hc2⟩
      have a7 : upd H6 kS (.lst []) a = some (.frz (seqObj "list" #[] e1) (.lst [])) := by rw [upd_ne hka.symm]; exact a6
      have I8 := Inv.unlock I7 a7 nf
      have g7 := (I7.hok a _ a7).1
      refine wpAny_bind (wpAny_letGo ?_)
      refine wpAny_bind (seqEpoch_at g7 rfl ?_)
      have hout : (arrOf st).map (·.2) = (m.map fun i => its.getD i .none).toArray := by
        apply Array.toList_inj.mp
        rw [Array.toList_map, ← em, List.map_map]
        rfl
      rw [hout]
      obtain ⟨c3, hc3⟩ : ∃ c3, ((s'.heap.update kS (Obj.mapSeq fun _ => (#[] : Array Value))).update a (Obj.mapSeq fun _ => (m.map fun i => its.getD i .none).toArray)).get? a = some (seqObj "list" (m.map fun i => its.getD i .none).toArray c3) := ⟨_, get?_update_seq g7 fun _ => (m.map fun i => its.getD i .none).toArray⟩
      refine wpAny_bind (listUpdate_at g7 rfl ?_ (Nat.zero_le _) (by simp [hml]; omega))
      rw [hf]
      simp only [bne_self_eq_false, Bool.false_eq_true, if_false]
      have I9 : Inv X pins σ (upd (upd (upd H6 kS (.lst [])) a (.lst [])) a (.lst (m.map fun i => xs.getD i .non))) { s' with heap := (s'.heap.update kS (Obj.mapSeq fun _ => (#[] : Array Value))).update a (Obj.mapSeq fun _ => (m.map fun i => its.getD i .none).toArray) } :=
        I8.write (e := a) (t' := s'.toks) (by rw [upd_same]; trivial) (.inl rfl) (fun b w hb hw => (Heap.get?_update_ne _ _ _ _ hb).trans hw) ⟨_, hc3⟩
          ⟨by simp [hml]; omega, _, c3, vals_map (fx := fun i => xs.getD i .non) (fu := fun i => its.getD i .none) (fun i hi => by
            have hi := hm i hi
            obtain ⟨v, e1, r1⟩ := vals_at rv i its[i] (by simp [hi])
            have e2 : xs.getD i .non = v := by simp [List.getD, e1]
            rw [e2]; simpa [hi] using r1), hc3⟩
      refine wpAny_pure (h _ _ _ I9 (fun b o hb e => ?_) upd_same ?_)
      · rw [upd_ne hb, upd_ne hb, upd_ne (fun q => by rw [q, hkH] at e; cases e)]; exact k6 b o hb e
      · have tl : Tm O H O (upd (upd (upd H6 kS (.lst [])) a (.lst [])) a (.lst (m.map fun i => xs.getD i .non))) := ⟨fun b o e n => by
          have hb : b ≠ a := fun q => n (by rw [q]; exact hO)
          rw [upd_ne hb, upd_ne hb, upd_ne (fun q => by rw [q, hkH] at e; cases e)]; exact k6 b o hb e, fun _ _ _ n => n⟩
        have e5 : m.map (fun i => (kd.getD i ((0, []), .non))) = sortK kd := by
          have pk : (m.map (fun i => (kd.getD i ((0, []), .non)))).Perm kd := by
            have q := pm.map (fun i => (kd.getD i ((0, []), .non)))
            have e : (List.range its.length).map (fun i => (kd.getD i ((0, []), .non))) = kd := by
              apply List.ext_getElem
              · simp [hkd]
              · intro i h1 h2
                simp [h2]
            rwa [e] at q
          refine sort_uniq (pk.trans (sortK_perm kd).symm) ?_ ?_ (sortK_sorted kd)
          · exact ((pk.map (·.1)).nodup_iff).mpr nd
          · rw [← em] at hs
            have hs2 := List.pairwise_map.mp (show List.Pairwise _ _ from hs)
            refine List.pairwise_map.mpr (hs2.imp_of_mem fun {i j} hi hj q => ?_)
            have hi := hm i hi
            have hj := hm j hj
            have e1 := skOf_is (hkey i hi)
            have e2 := skOf_is (hkey j hj)
            simp only at q
            rw [e1, e2] at q
            have hi' : i < kd.length := by omega
            have hj' : j < kd.length := by omega
            unfold kLe
            simp only [List.getD_eq_getElem?_getD, List.getElem?_eq_getElem hi', List.getElem?_eq_getElem hj', Option.getD_some]
            rw [q]; rfl
        rw [← e5, List.map_map]
        refine FzL.tm tl (fzL_map fun i hi => ?_)
        have hi := hm i hi
        obtain ⟨v, e1, r1⟩ := vals_at rv i its[i] (by simp [hi])
        obtain ⟨d, e2, z2⟩ := fzL_get z i v e1
        obtain ⟨_, _, _, _, e3⟩ := keysOf_at hk i d e2
        have q1 : xs.getD i .non = v := by simp [List.getD, e1]
        have q2 : ((fun p : SK × D => p.2) ∘ fun i => kd.getD i ((0, []), D.non)) i = d := by simp [List.getD, e3]
        rw [q1, q2]; exact z2
    unfold ksk_end
    try dsimp only
    rw [if_neg (by simp)]
    by_cases h2 : its.toArray.size < 2
    · rw [if_pos h2, if_pos h2]
      refine wpAny_bind (wpAny_pure ?_)
      rw [StateT.run_pure]
      refine wpAny_bind (wpAny_pure ?_)
      try dsimp only
      refine fin (SortSt.mk' general' (kits.toArray.zip its.toArray) #[] 7 none) ?_ (List.Perm.refl _) rfl
      show List.Pairwise _ (kits.toArray.zip its.toArray).toList
      have hl : (kits.toArray.zip its.toArray).toList.length < 2 := by rw [hzip]; simpa using h2
      revert hl
      generalize (kits.toArray.zip its.toArray).toList = l
      intro hl
      match l, hl with
      | [], _ => exact .nil
      | [x], _ => exact List.pairwise_singleton _ _
      | _ :: _ :: l, hl => exact absurd hl (by simp)
    · rw [if_neg h2, if_neg h2]
      refine wpAny_bind (sk_kind (by simp at h2; omega) hkeyM ?_)
      refine wpAny_bind (wpAny_mono (SrtO.wpS_sortO (st0 := SortSt.mk' (tuples' true) (kits.toArray.zip its.toArray) #[] 7 none)
        (Q := fun _ st' => SrtO.Srtd (fun p q => kLt (skOf X.prog X.w s'.heap p.1) (skOf X.prog X.w s'.heap q.1)) (arrOf st').toList ∧ (arrOf st').toList.Perm (kits.toArray.zip its.toArray).toList ∧ failedOf st' = none)
        sw (sk_cmp hr.in1.in1.units0 hkeyM) rfl (fun p hm => ?_) rfl rfl fun st' a1 a2 a3 => ⟨a1, a2.perm, a3⟩) ?_ fun _ _ e => e)
      · rw [ksk_zip] at hm
        exact (List.of_mem_zip hm).1
      · rintro ⟨⟨⟩, st'⟩ s2 ⟨rfl, hs, hp, hf⟩
        try dsimp only
        exact fin st' hs hp hf
theorem run_sortK {O : Addr → Prop} {H : Hp} {s : Shared} {l : Addr} {xs : List V} {ds : List D} {kd : List (SK × D)} {Q : VK} (F : FnOk X.prog X.w X.K X.mg X.base CX0 k f fd ps (spD X.K 1 g)) (hr : Room (k + 2) X.A) (hb : Binds X.K fd ps [])
    (I : Inv X pins σ H s) (hs : SqL X.K H l xs) (z : FzL X.K O H xs ds) (occ : Occ O H) (hk : keysOf g ds = some kd) (nd : (kd.map (·.1)).Nodup)
    (q : ∀ p H' vs, H p = none → Same H H' → H' p = some (.lst vs) → FzL X.K (fun a => O a ∨ a = p) H' vs ((sortK kd).map (·.2)) → Q (.ref p) H') :
    wpAny (model X.prog X.w) X.A (call (.builtin "sorted") [.ref l] [(Str.ofString "key", .ref f)]) (EP X pins σ Q) X.xe s := by
  obtain ⟨its, rv, hl, hz⟩ := I.list hs
  have hzl : its.length ≤ sizeLine := by rw [← rv.length]; exact hz
  refine call_function_entry_kw kind_sorted plain_sorted entry_sorted (ksk_s1 _ _) ?_
  unfold Builtin.«sorted»
  refine wpAny_bind (m := checkCount "sorted" 1 1 _) (wpAny_pure ?_)
  refine wpAny_bind (collect_list hl.isList ?_ hzl)
  refine wpAny_bind (wpAny_newList ?_ hzl)
  have hsz : ((s.heap.push (seqObj "list" #[] 0)).update s.heap.objs.size (Obj.mapSeq (· ++ its.toArray))).objs.size = s.heap.objs.size + 1 := by
    rw [Heap.size_update, size_push']
  have hoL : (((s.heap.push (seqObj "list" #[] 0)).update s.heap.objs.size (Obj.mapSeq (· ++ its.toArray))).push (seqObj "list" its.toArray 0)).get? (s.heap.objs.size + 1) = some (seqObj "list" its.toArray 0) := by
    rw [← hsz]; exact Heap.get?_push_size _ rfl
  have keep : ∀ b o, s.heap.get? b = some o → (((s.heap.push (seqObj "list" #[] 0)).update s.heap.objs.size (Obj.mapSeq (· ++ its.toArray))).push (seqObj "list" its.toArray 0)).get? b = some o := fun b o q => by
    have hlt : b < s.heap.objs.size := Heap.lt_size q
    refine Heap.get?_push_of_some _ ?_
    rw [Heap.get?_update_ne _ _ _ _ (Nat.ne_of_lt hlt)]
    exact Heap.get?_push_of_some _ q
  show wpAny _ _ _ _ _ { s with heap := ((s.heap.push (seqObj "list" #[] 0)).update s.heap.objs.size (Obj.mapSeq (· ++ its.toArray))).push (seqObj "list" its.toArray 0) }
  rw [hsz]
  have hn : H (s.heap.objs.size + 1) = none := I.hok.fresh (Nat.le_succ _)
  have I1 : Inv X pins σ (upd H (s.heap.objs.size + 1) (.lst xs)) { s with heap := ((s.heap.push (seqObj "list" #[] 0)).update s.heap.objs.size (Obj.mapSeq (· ++ its.toArray))).push (seqObj "list" its.toArray 0) } :=
    I.laid (t' := s.toks) keep (Nat.le_succ _) ⟨hz, its, 0, rv, hoL⟩
  refine wpAny_bind (wpAny_holding (wpAny_call_entry_kw slot_list_sort ⟨_, hoL, rfl⟩ entry_list_sort ?_ (ksk_l1 _ _)))
  rw [ksk_t1]
  have t1 := tm_more (O := O) (same_upd (o := HO.lst xs) hn) hn
  refine run_tree (O := fun b => O b ∨ b = s.heap.objs.size + 1) F hr hb I1 upd_same (.inr rfl) (FzL.tm t1 z) (fun b hb q => ?_) hk nd fun s' H' vs I' k' ha' z' => ⟨_, rfl, wpAny_pure ⟨_, rfl, .ref (s.heap.objs.size + 1), H', I', rfl, q _ H' vs hn (fun b o e => ?_) ha' z'⟩⟩
  · rcases hb with hb | hb
    · rw [upd_ne (fun e => occ b hb (by rw [e]; exact hn))] at q
      exact occ b hb q
    · subst hb; rw [upd_same] at q; cases q
  · exact k' b o (fun e2 => by rw [e2, hn] at e; cases e) (same_upd hn b o e)
end
/-! ### the expression -/
section
variable {X : Cx} {k : Nat} {f : Addr} {fd : FuncData} {ps : List Str} {g : FG} {e : Expr} {te : TE} {fe : FE} {p p2 pos kp : Pos} {fn : Str}
def rSortKD (K : PySem.W.Frag) (f : Addr) (g : FG) : List V → List V → Hp → VK → Prop := fun vs zs H Q => ∃ (l : Addr) (xs : List V) (O : Addr → Prop) (ds : List D) (kd : List (SK × D)), vs = [.ref l] ∧ zs = [.ref f] ∧ SqL K H l xs ∧ FzL K O H xs ds ∧ Occ O H ∧
  keysOf g ds = some kd ∧ (kd.map (·.1)).Nodup ∧ ∀ p H' vs, H p = none → Same H H' → H' p = some (.lst vs) → FzL K (fun a => O a ∨ a = p) H' vs ((sortK kd).map (·.2)) → Q (.ref p) H'
theorem cr_sortKD (F : FnOk X.prog X.w X.K X.mg X.base CX0 k f fd ps (spD X.K 1 g)) (hr : Room (k + 2) X.A) (hb : Binds X.K fd ps []) : CallRK X (.builtin "sorted") [("key" : Str)] (rSortKD X.K f g) := by
  intro pins s σ H xs zs us ws Q I r rz h
  obtain ⟨l, vs, O, ds, kd, rfl, rfl, hs, z, occ, hk, nd, q⟩ := h
  obtain ⟨u, rfl, ru⟩ := vals1 r
  obtain rfl : u = Value.ref l := ru
  obtain ⟨u, rfl, ru⟩ := vals1 rz
  obtain rfl : u = Value.ref f := ru
  exact run_sortK F hr hb I hs z occ hk nd q
theorem dn_sortK (F : FnOk X.prog X.w X.K X.mg X.base CX0 k f fd ps (spD X.K 1 g)) (hr : Room (k + 2) X.A) (hg2 : Gl X fn) (hm2 : X.mg fn = some (.ref f)) (hb : Binds X.K fd ps [])
    (hg : Gl X "sorted") (hm : X.mg "sorted" = none) (hv : bootBuiltins "sorted" = some (.builtin "sorted")) (ha : DE X e te fe) (hdb : (fn == ("__debug__" : Str)) = false := by decide)
    (he : backTo pos (starEach (e :: []) X.env) = (false, eval e X.env) :: backTo pos (starEach [] X.env) := by rfl) (hpl : (backTo pos (starEach (e :: []) X.env)).any (·.1) = false := by rfl)
    (hs : starEach (e :: []) X.env = (false, eval e X.env) :: starEach [] X.env := by rfl)
    (hall : (backToKw pos (keywordEach [⟨some "key", .Name fn p2, kp⟩] X.env)).all (·.1.isSome) = true := by rfl) (hnone : (backToKw pos (keywordEach [⟨some "key", .Name fn p2, kp⟩] X.env)).any (·.1.isNone) = false := by rfl) (hks : (backToKw pos (keywordEach [⟨some "key", .Name fn p2, kp⟩] X.env)).filterMap (·.1) = [("key" : Str)] := by rfl) :
    DN X (.Call (.Name "sorted" p) [e] [⟨some "key", .Name fn p2, kp⟩] pos) (tCKw (rSortKD X.K f g) (tCons te tNil) (tCons (tC (.ref f)) tNil)) (fSortK g fe) := by
  refine ⟨pe_callBK (cr_sortKD F hr hb) hg hm hv (pa_cons ha.p pa_nil hs) (pk_cons (pe_glob hg2 hm2 rfl hdb) pk_nil) (by decide) (by decide) he hpl hall hnone hks, fun G O H σ ρ ρ' u Q hK R h kk => ?_⟩
  obtain ⟨⟨d, ρ1⟩, h1, h⟩ := bind_ok h
  refine ha.q G O H σ ρ ρ1 d _ hK R h1 fun v H1 R1 m1 z1 => ?_
  cases d with
  | lst ds =>
    obtain ⟨kd, h2, h⟩ := bind_ok h
    split at h
    · rename_i hnd
      cases h
      unfold Fz at z1
      obtain ⟨a, ws, rfl, t, l⟩ := z1
      refine ⟨a, ws, O, ds, kd, rfl, rfl, t.sq, l, R1.occ, h2, hnd, fun p H' vs hp sm hp' zl => ?_⟩
      have hp0 : H p = none := new_ahead R m1 R1 hp
      have sm2 : Same H1 (fun b => if b = p then none else H' b) := fun b o e => by
        show (if b = p then none else H' b) = some o
        rw [if_neg (fun q => by rw [q, hp] at e; cases e)]
        exact sm b o e
      have R2 := (R1.same sm2).more (p := p) (o := .lst vs) (by simp)
      have e2 : upd (fun b => if b = p then none else H' b) p (.lst vs) = H' := by
        funext b
        by_cases hb : b = p
        · subst hb; rw [upd_same, hp']
        · rw [upd_ne hb, if_neg hb]
      rw [e2] at R2
      exact kk p H' hp0 R2 (m1.trans (Fm.same sm)) ⟨vs, hp', zl⟩
    · cases h
  | _ => cases h
end
end DL
end

section
set_option Elab.async false
set_option linter.all false
set_option maxRecDepth 100000
namespace DL
open PySem PySem.Spec PyProof.Rows L2 GenW

/-! ### for, in a generator's body -/
section
variable {prog : Program} {w : World} {A : Around} {R : GenEnd} {Y : Protocol} {n : Nat} {s₀ : Shared} {fs : List Frame} {s : Shared} {env : Env} {c : Code}
  {K : Flow → Sem PySem.Fin} {J : Value → Sem PySem.Fin} {gd : Bool → Bool} {lv : List Value → List Value}
theorem seg_For {target iter : Expr} {body orelse : List Stmt} {pos : Pos} (hs : ∀ x, foldedSetIterable iter env x = pure x)
    (h : wpAny (model prog w) (A.over c fs) (eval iter env) (fun x s1 => wpAny (model prog w) (A.over c fs) (pyIter x) (fun it s2 =>
      ∀ p, Seg (model prog w) A R Y n s₀ (.forLoop target it body orelse env) ((model prog w).den (.forLoop target it body orelse env))
        (.ret (fun r => ((match r with | .ok f => (.pure f : Sem Flow) | .error e => .raise e).onRaise (cameBack env)).wrap K J gd lv) none (gd false) (lv []) c p [] :: fs) s2)
      (fun x s' => Seg (model prog w) A R Y n s₀ c (J x) fs s') s1) (fun x s' => Seg (model prog w) A R Y n s₀ c (J x) fs s') s) :
    Seg (model prog w) A R Y n s₀ c ((exec (.For target iter body orelse pos) env).wrap K J gd lv) fs s := by
  rw [exec_For]
  refine seg_bind_wrap (wpAny_standAt ?_)
  refine seg_bind_wrap (wpAny_mono h (fun x s1 h1 => ?_) fun _ _ x => x)
  refine seg_bind_wrap (wpAny_of_eq (hs x) ?_)
  refine seg_bind_wrap (wpAny_standAt ?_)
  refine seg_bind_wrap (wpAny_holding (wpAny_mono h1 (fun it s2 h2 => ?_) fun _ _ x => x))
  exact seg_call h2
abbrev forExc (env : Env) (e : Value) : Sem PySem.Fin := (do noteFrame e env; theTreesLotGoes e : Sem Unit).wrap (fun _ => .raise e) .raise id id
theorem seg_forLoop {target : Expr} {it : Value} {body orelse : List Stmt}
    (h : wpAny (model prog w) (A.over (.forLoop target it body orelse env) fs) (pyNext it) (fun r s1 => match r with
      | none => Seg (model prog w) A R Y n s₀ (.forLoop target it body orelse env) (.pure (.again (.block orelse env))) fs s1
      | some v => wpAny (model prog w) (A.over (.forLoop target it body orelse env) fs) (letOwnedTupleGo target it v) (fun _ s2 => wpAny (model prog w) (A.over (.forLoop target it body orelse env) fs) (assign target env v) (fun _ s3 =>
          Seg (model prog w) A R Y n s₀ (.forLoop target it body orelse env) ((execs body env).wrap (fun f => match f with
            | .next | .cont => .pure (.again (.forLoop target it body orelse env))
            | .brk => .pure (.done .next)
            | .ret v => .pure (.done (.ret v))) (forExc env) id id) fs s3)
          (fun x s' => Seg (model prog w) A R Y n s₀ (.forLoop target it body orelse env) (forExc env x) fs s') s2)
        (fun x s' => Seg (model prog w) A R Y n s₀ (.forLoop target it body orelse env) (forExc env x) fs s') s1)
      (fun x s' => Seg (model prog w) A R Y n s₀ (.forLoop target it body orelse env) (forExc env x) fs s') s) :
    Seg (model prog w) A R Y n s₀ (.forLoop target it body orelse env) ((model prog w).den (.forLoop target it body orelse env)) fs s := by
  show Seg _ A R Y n s₀ _ ((forTurn target it body orelse env).onRaise (fun x => do noteFrame x env; theTreesLotGoes x)) fs s
  have je : ∀ e, ((do noteFrame e env; theTreesLotGoes e : Sem Unit).bind fun _ => (.raise e : Sem PySem.Fin)) = forExc env e := fun e => Sem.bind_eq_wrap _ _
  unfold forTurn
  rw [Sem.onRaise_eq_wrap]
  refine seg_bind_wrap (wpAny_standAt ?_)
  refine seg_bind_wrap (wpAny_onRaise (wpAny_mono h (fun r s1 h1 => ?_) fun x s' hx => wpAny_standAt ?_))
  · cases r with
    | none => exact h1
    | some v =>
      refine seg_bind_wrap (wpAny_mono h1 (fun _ s2 h2 => ?_) fun x s' hx => ?_)
      · refine seg_bind_wrap (wpAny_mono h2 (fun _ s3 h3 => ?_) fun x s' hx => ?_)
        · rw [Sem.bind_eq_wrap', Sem.wrap_wrap]
          rw [Sem.wrap_congr (execs body env) _ _ (K' := fun f => match f with
            | .next | .cont => .pure (.again (.forLoop target it body orelse env))
            | .brk => .pure (.done .next)
            | .ret v => .pure (.done (.ret v))) (H' := forExc env)
            (fun f => by cases f <;> rfl)
            (fun e => by first | exact je e | exact Sem.bind_eq_wrap _ _)]
          exact h3
        · rw [← je] at hx; exact hx
      · rw [← je] at hx; exact hx
  · rw [← je] at hx; exact hx
end

section
variable {X : Cx} {st : Stmt}
def tGFor (wi : TI) (g : TG) (tb : TGn) : TGn := fun D ys σ H => wi σ H fun J H1 => ∃ W : Nat → Nat → List V → L2.St → Hp → Prop, (∃ m, W 0 m ys σ H1) ∧ ∀ i m ys σ H, W i m ys σ H →
  (J.stop i H ∧ D.nx ys σ H) ∨ (J.go i H ∧ ∃ N : List V → L2.St → Hp → Prop, (∀ ys' σ' H', N ys' σ' H' → ∃ m', m' < m ∧ W (i + 1) m' ys' σ' H') ∧ ∀ x H', J.yld i H x H' → g x σ H' fun σ2 H2 => tb { D with nx := N, ct := N, bk := D.nx } ys σ2 H2)
theorem gs_for {tg iter : Expr} {body : List Stmt} {wi : TI} {g : TG} {tb : TGn} {pos : Pos} (hp : PassesOwn (model X.prog X.w) X.A X.env X.xe) (hc : X.calm = true) (hi : PI X tg iter wi) (hg : PG X tg g) (hb : GSs X body tb)
    (hs : ∀ x, foldedSetIterable iter X.env x = pure x := by intro _; rfl) : GS X (.For tg iter body [] pos) (tGFor wi g tb) := by
  refine ⟨fun A S ip R n ys s₀ c fs K J gd lv s σ H D gc hn k hI ht => ?_⟩
  obtain ⟨acc, cc, r, I⟩ := hI
  refine seg_For hs ?_
  rw [gc.over]
  refine wpAny_mono (hi.run _ s σ H _ I ht) (fun v s1 h1 => wpAny_mono h1 (fun itv s2 h2 => ?_) fun x s' hx => k.exc n s₀ x s' hx) fun x s' hx => k.exc n s₀ x s' hx
  obtain ⟨it, fp, tn, Jt, H2, e, I2, T, st2, f2, W, ⟨m0, w0⟩, turn⟩ := h2
  subst e
  intro p
  have stat : ∀ {H' : Hp} {acc : Array Value} {cc : Nat}, (∀ b ∈ fp, H' b = none) → ∀ b ∈ fp, FpOk X ((S, lstObj acc cc) :: ip) H' b := fun {H' acc' cc'} hn b hb => ⟨hn b hb, (f2 b hb).2.1, (f2 b hb).2.2.1, (f2 b hb).2.2.2.1, (f2 b hb).2.2.2.2.1, fun p hp => by
    have h5 := (f2 b hb).2.2.2.2.2
    rcases List.mem_append.mp hp with hp | hp
    · exact h5 p (List.mem_append_left _ hp)
    · rcases List.mem_cons.mp hp with hp | hp
      · rw [hp]; exact h5 (S, lstObj acc cc) (List.mem_append_right _ List.mem_cons_self)
      · exact h5 p (List.mem_append_right _ (List.mem_cons_of_mem _ hp))⟩
  have fS : ∀ b ∈ fp, b ≠ S := fun b hb e => (f2 b hb).2.2.2.2.2 (S, lstObj acc cc) (List.mem_append_right _ List.mem_cons_self) e.symm
  have gl := fun (kk : Result → Sem PySem.Fin) => gc_loop (k := kk) (c' := .forLoop tg (.ref it) body [] X.env) (l := lv []) (kp := []) (p := p) gc rfl rfl
  have loop : ∀ (m i n : Nat) (ys : List V) (s₀ s : Shared) (σ : L2.St) (H : Hp), n + ys.length = sizeLine → W i m ys σ H → GI X S ip ys σ H s → tn i s.heap → (∀ b ∈ fp, H b = none) →
      Seg (model X.prog X.w) A R (GY X S) n s₀ (.forLoop tg (.ref it) body [] X.env) ((model X.prog X.w).den (.forLoop tg (.ref it) body [] X.env))
        (.ret (fun r => ((match r with | .ok f => (.pure f : Sem Flow) | .error e => .raise e).onRaise (cameBack X.env)).wrap K J gd lv) none (gd false) (lv []) c p [] :: fs) s := by
    intro m
    induction m using Nat.strongRecOn with
    | ind m ih =>
      intro i n ys s₀ s σ H hn w hI st fr
      have ee : ∀ (n : Nat) (s₀ : Shared) (x : Value) (s' : Shared), X.xe x s' → Seg (model X.prog X.w) A R (GY X S) n s₀ (.forLoop tg (.ref it) body [] X.env) (forExc X.env x)
          (.ret (fun r => ((match r with | .ok f => (.pure f : Sem Flow) | .error e => .raise e).onRaise (cameBack X.env)).wrap K J gd lv) none (gd false) (lv []) c p [] :: fs) s' := fun n s₀ x s' hx => by
        refine seg_wrap ?_
        rw [(gl _).over]
        refine wpAny_bind (wpAny_mono (hp x s' hx) (fun _ s'' hcb => wpAny_theTreesLotGoes ?_) fun y s'' hcb => ?_)
        · exact seg_leaf (.error x) (seg_cameBack gc k hcb)
        · exact seg_leaf (.error y) (seg_cameBack gc k hcb)
      obtain ⟨acc, cc, r, I⟩ := hI
      refine seg_forLoop ?_
      rw [(gl _).over]
      rcases turn i m ys σ H w with ⟨stop, qn⟩ | ⟨go, N, hN, step⟩
      · refine wpAny_mono (T.done X rfl rfl rfl hc i _ s σ H X.xe I (stat fr) st stop) (fun r4 s4 ⟨hr, I4⟩ => ?_) fun x s' hx => ee n s₀ x s' hx
        subst hr
        refine seg_again rfl ?_
        exact seg_leaf (.ok .next) (k.ok n ys s₀ s4 .next hn ⟨σ, H, ⟨acc, cc, r, I4⟩, qn⟩)
      · refine wpAny_mono (T.item X rfl rfl rfl hc i _ s σ H X.xe I (stat fr) st go) (fun r4 s4 ⟨u, hr, h4⟩ => ?_) fun x s' hx => ee n s₀ x s' hx
        subst hr
        refine wpAny_mono h4 (fun _ s5 ⟨x, H5, I5, r5, y5, st5, fr5⟩ => ?_) fun x s' hx => ee n s₀ x s' hx
        have I5' := I5.pinned (stat fr5) (T.obj _ _ st5)
        refine wpAny_mono (hg.run _ s5 σ H5 x u _ I5' r5 (step x H5 y5)) (fun _ s6 ⟨σ6, H6, I6, q6⟩ => ?_) fun x s' hx => ee n s₀ x s' hx
        have gc' := gl fun r => ((match r with | .ok f => (.pure f : Sem Flow) | .error e => .raise e).onRaise (cameBack X.env)).wrap K J gd lv
        have gc2 : GC X S (ip ++ pinsAt fp s5.heap) A (.forLoop tg (.ref it) body [] X.env) (.ret (fun r => ((match r with | .ok f => (.pure f : Sem Flow) | .error e => .raise e).onRaise (cameBack X.env)).wrap K J gd lv) none (gd false) (lv []) c p [] :: fs) id :=
          ⟨gc'.pn, fun q hq => (List.mem_append.mp hq).elim (gc'.ip q) fun hq => fS _ (of_pinsAt hq).1, gc'.apart, gc'.over, gc'.split, gc'.guard, gc'.gd⟩
        have again : ∀ {n' : Nat} {ys' : List V} {s₀' s7 : Shared} {σ7 : L2.St} {H7 : Hp}, n' + ys'.length = sizeLine → GI X S (ip ++ pinsAt fp s5.heap) ys' σ7 H7 s7 → N ys' σ7 H7 →
            Seg (model X.prog X.w) A R (GY X S) n' s₀' (.forLoop tg (.ref it) body [] X.env) (.pure (.again (.forLoop tg (.ref it) body [] X.env))) (.ret (fun r => ((match r with | .ok f => (.pure f : Sem Flow) | .error e => .raise e).onRaise (cameBack X.env)).wrap K J gd lv) none (gd false) (lv []) c p [] :: fs) s7 := fun {n' ys' s₀' s7 σ7 H7} hn' hI7 n7 => by
          obtain ⟨acc7, cc7, r7, I7⟩ := hI7
          obtain ⟨m', hm, w7⟩ := hN ys' σ7 H7 n7
          have pin7 : ∀ b ∈ fp, ∀ o, s5.heap.get? b = some o → s7.heap.get? b = some o ∧ H7 b = none := fun b hb o e => by
            have q := I7.pin (b, o) (List.mem_append_right _ (List.mem_cons_of_mem _ (List.mem_append_right _ (mem_pinsAt hb e))))
            exact ⟨q.1, q.2.1⟩
          refine seg_again rfl (ih m' hm (i + 1) n' ys' s₀' s7 σ7 H7 hn' w7 ⟨acc7, cc7, r7, I7.pins_of fun q hq => I7.pin q (List.mem_append_right _ ?_)⟩ (T.keep _ _ _ st5 fun b hb o e => (pin7 b hb o e).1) fun b hb => ?_)
          · rcases List.mem_cons.mp hq with hq | hq
            · rw [hq]; exact List.mem_cons_self
            · exact List.mem_cons_of_mem _ (List.mem_append_left _ hq)
          · obtain ⟨o, e, d⟩ := T.obj _ _ st5 b hb
            exact (pin7 b hb o e).2
        have down : ∀ {ys' : List V} {s7 : Shared} {σ7 : L2.St} {H7 : Hp}, GI X S (ip ++ pinsAt fp s5.heap) ys' σ7 H7 s7 → GI X S ip ys' σ7 H7 s7 := fun {ys' s7 σ7 H7} hI7 => by
          obtain ⟨acc7, cc7, r7, I7⟩ := hI7
          refine ⟨acc7, cc7, r7, I7.pins_of fun q hq => I7.pin q (List.mem_append_right _ ?_)⟩
          rcases List.mem_cons.mp hq with hq | hq
          · rw [hq]; exact List.mem_cons_self
          · exact List.mem_cons_of_mem _ (List.mem_append_left _ hq)
        refine hb.run A S (ip ++ pinsAt fp s5.heap) R n ys s₀ _ _ _ _ id id s6 σ6 H6 { D with nx := N, ct := N, bk := D.nx } gc2 hn ⟨fun n' ys' s₀' s3 f hn' hs => ?_, fun n' s₀' x s3 hx => ee n' s₀' x s3 hx⟩ ⟨acc, cc, r, I6⟩ q6
        cases f with
        | next =>
          obtain ⟨σ3, H3, I3, n3⟩ := hs
          exact again hn' I3 n3
        | cont =>
          obtain ⟨σ3, H3, I3, n3⟩ := hs
          exact again hn' I3 n3
        | brk =>
          obtain ⟨σ3, H3, I3, q⟩ := hs
          exact seg_leaf (.ok .next) (k.ok n' ys' s₀' s3 .next hn' ⟨σ3, H3, down I3, q⟩)
        | ret v =>
          obtain ⟨x3, σ3, H3, I3, r3, q⟩ := hs
          exact seg_leaf (.ok (.ret v)) (k.ok n' ys' s₀' s3 (.ret v) hn' ⟨x3, σ3, H3, down I3, r3, q⟩)
  exact loop m0 0 n ys s₀ s2 σ H2 hn w0 ⟨acc, cc, r, I2⟩ st2 fun b hb => (f2 b hb).1
end
end DL
end

section
set_option Elab.async false
set_option linter.all false
set_option maxRecDepth 100000
namespace DL
open PySem PySem.Spec PyProof.Rows L2 GenW

/-! ### a generator's body as a function of data: what it hands out -/
abbrev FY := Ev → Option (List D × Ev)
structure DY (X : Cx) (st : Stmt) (t : TGn) (F : FY) : Prop where
  p : GS X st t
  q : ∀ (G : Gh) (O : Addr → Prop) (H : Hp) (σ : Sg) (ρ ρ' : Ev) (ds : List D) (ys : List V) (Dn : GEnds), G.K = X.K → Rep G O H σ ρ → F ρ = some (ds, ρ') → ys.length + ds.length < sizeLine →
    (∀ O' H' σ' vs, Rep G O' H' σ' ρ' → Tm O H O' H' → FzL X.K O' H' vs ds → Dn.nx (ys ++ vs) σ' H') → t Dn ys σ H
structure DYs (X : Cx) (sts : List Stmt) (t : TGn) (F : FY) : Prop where
  p : GSs X sts t
  q : ∀ (G : Gh) (O : Addr → Prop) (H : Hp) (σ : Sg) (ρ ρ' : Ev) (ds : List D) (ys : List V) (Dn : GEnds), G.K = X.K → Rep G O H σ ρ → F ρ = some (ds, ρ') → ys.length + ds.length < sizeLine →
    (∀ O' H' σ' vs, Rep G O' H' σ' ρ' → Tm O H O' H' → FzL X.K O' H' vs ds → Dn.nx (ys ++ vs) σ' H') → t Dn ys σ H
def yPlain (F : FS) : FY := fun ρ => (F ρ).bind fun x => match x.1 with
  | .nx => some ([], x.2)
  | _ => none
def yNil : FY := fun ρ => some ([], ρ)
def ySeq (F F2 : FY) : FY := fun ρ => (F ρ).bind fun x => (F2 x.2).bind fun y => some (x.1 ++ y.1, y.2)
def yYield (f : FE) : FY := fun ρ => (f ρ).bind fun x => some ([x.1], x.2)
def loopY (T : D → Ev → Option Ev) (F : FY) : List D → FY
  | [], ρ => some ([], ρ)
  | d :: ds, ρ => (T d ρ).bind fun ρ1 => (F ρ1).bind fun x => (loopY T F ds x.2).bind fun y => some (x.1 ++ y.1, y.2)
def yFor (fi : FA) (T : D → Ev → Option Ev) (F : FY) : FY := fun ρ => (fi ρ).bind fun x => loopY T F x.1 x.2
theorem fzL_no {K : PySem.W.Frag} {O : Addr → Prop} {H : Hp} : FzL K O H [] [] := by unfold FzL; rfl
section
variable {X : Cx} {st : Stmt} {rest : List Stmt} {e : Expr} {te : TE} {fe : FE} {yp pos : Pos}
theorem DS.nox {t : TS} {F : FS} (h : DS X.nox st t F) : DS X st t F :=
  ⟨⟨fun pins s σ H D I hw => wpAny_mono (h.p.run pins s σ H D (I.wish _) hw) (fun _ _ q => q.unwish) fun _ _ z => False.elim z⟩, h.q⟩
theorem dy_plain {t : TS} {F : FS} (h : DS X st t F) : DY X st (tPlain t) (yPlain F) := by
  refine ⟨gs_ps h.p, fun G O H σ ρ ρ' ds ys Dn hK R h1 hl k => ?_⟩
  obtain ⟨⟨fl, ρ1⟩, h2, h1⟩ := bind_ok h1
  refine h.q G O H σ ρ ρ1 fl _ hK R h2 fun O' H' σ' R' t' => ?_
  cases fl with
  | nx =>
    cases h1
    have := k O' H' σ' [] R' t' fzL_no
    rw [List.append_nil] at this
    exact this
  | _ => cases h1
theorem dys_nil : DYs X [] tG0 yNil := ⟨gss_nil, fun G O H σ ρ ρ' ds ys Dn hK R h1 hl k => by
  cases h1
  have := k O H σ [] R Tm.refl fzL_no
  rw [List.append_nil] at this
  exact this⟩
theorem dys_cons {t u : TGn} {F F2 : FY} (a : DY X st t F) (b : DYs X rest u F2) : DYs X (st :: rest) (tGThen t u) (ySeq F F2) := by
  refine ⟨gss_cons a.p b.p, fun G O H σ ρ ρ' ds ys Dn hK R h hl k => ?_⟩
  obtain ⟨⟨d1, ρ1⟩, h1, h⟩ := bind_ok h
  obtain ⟨⟨d2, ρ2⟩, h2, h⟩ := bind_ok h
  cases h
  simp only [List.length_append] at hl
  refine a.q G O H σ ρ ρ1 d1 ys _ hK R h1 (by omega) fun O1 H1 σ1 v1 R1 t1 z1 => ?_
  refine b.q G O1 H1 σ1 ρ1 ρ2 d2 _ Dn hK R1 h2 (by rw [List.length_append, z1.len]; omega) fun O2 H2 σ2 v2 R2 t2 z2 => ?_
  rw [List.append_assoc]
  exact k O2 H2 σ2 _ R2 (t1.trans t2) (FzL.app (FzL.tm t2 z1) z2)
theorem dy_yield (h : DE X e te fe) (hco : X.env.scope.isCoroutine = false := by rfl) (hi : interactive X.env = false := by rfl) : DY X (.Expr (.Yield (some e) yp) pos) (tGYield te) (yYield fe) := by
  refine ⟨gs_yield h.p hco hi, fun G O H σ ρ ρ' ds ys Dn hK R h1 hl k => ?_⟩
  obtain ⟨⟨d, ρ1⟩, h2, h1⟩ := bind_ok h1
  cases h1
  refine ⟨by simp at hl; omega, h.q G O H σ ρ _ d _ hK R h2 fun v H' R' m z => ?_⟩
  exact k O H' σ [v] R' (R.tm m) (by unfold FzL; exact ⟨v, [], rfl, z, fzL_no⟩)
theorem dy_for {tg iter : Expr} {wi : TI} {fi : FA} {g : TG} {l : List Nat} {T : D → Ev → Option Ev} {body : List Stmt} {tb : TGn} {F : FY} (hp : PassesOwn (model X.prog X.w) X.A X.env X.xe) (hc : X.calm = true) (hi : DI X tg iter wi fi) (hg : DG X tg g l T) (hb : DYs X body tb F)
    (hs : ∀ x, foldedSetIterable iter X.env x = pure x := by intro _; rfl) : DY X (.For tg iter body [] pos) (tGFor wi g tb) (yFor fi T F) := by
  obtain ⟨pi, qi⟩ := hi
  obtain ⟨pg, qg⟩ := hg
  obtain ⟨pb, qb⟩ := hb
  refine ⟨gs_for hp hc pi pg pb hs, fun G O H σ ρ ρ' out ys Dn hK R h hl k => ?_⟩
  obtain ⟨⟨ds, ρ1⟩, h1, h⟩ := bind_ok h
  refine qi G O H σ ρ ρ1 ds _ hK R h1 fun J H1 R1 m1 it1 => ?_
  refine ⟨fun i m ys' σ' H' => m = ds.length - i ∧ i ≤ ds.length ∧ ∃ O' ρ2 vs dn rst, ys' = ys ++ vs ∧ FzL X.K O' H' vs dn ∧ Rep G O' H' σ' ρ2 ∧ Tm O H1 O' H' ∧ loopY T F (ds.drop i) ρ2 = some (rst, ρ') ∧ dn ++ rst = out,
    ⟨ds.length, by simp, Nat.zero_le _, O, ρ1, [], [], out, by simp, fzL_no, R1, Tm.refl, by simpa using h, rfl⟩, ?_⟩
  rintro i m ys2 σ2 H2 ⟨em, hi, O2, ρ2, vs, dn, rst, rfl, zv, R2, t2, h2, eo⟩
  have it2 := (it1.tm t2).at R2.occ i
  by_cases hlt : i < ds.length
  · obtain ⟨d, hd, hdr⟩ := drop_at hlt
    rw [hdr] at h2
    obtain ⟨ρ3, h3, h2⟩ := bind_ok (show ((T d ρ2).bind fun ρ1 => (F ρ1).bind fun x => (loopY T F (ds.drop (i + 1)) x.2).bind fun y => some (x.1 ++ y.1, y.2)) = some (rst, ρ') from h2)
    obtain ⟨⟨d1, ρ4⟩, h4, h2⟩ := bind_ok h2
    obtain ⟨⟨d2, ρ5⟩, h5, h2⟩ := bind_ok h2
    cases h2
    obtain ⟨go, yl⟩ := it2.1 d hd
    have eo2 : (dn ++ d1) ++ d2 = out := by rw [List.append_assoc]; exact eo
    refine .inr ⟨go, fun ys' σ' H' => ∃ O' vs, ys' = ys ++ vs ∧ FzL X.K O' H' vs (dn ++ d1) ∧ Rep G O' H' σ' ρ4 ∧ Tm O H1 O' H', fun ys' σ' H' ⟨O', vs, a, b, c, t⟩ => ⟨ds.length - (i + 1), by omega, rfl, hlt, O', ρ4, vs, dn ++ d1, d2, a, b, c, t, h5, eo2⟩, fun x H3 y => ?_⟩
    obtain ⟨s3, z3⟩ := yl x H3 y
    have hlo : out.length = dn.length + d1.length + d2.length := by rw [← eo2]; simp only [List.length_append]
    refine qg G O2 H3 σ2 ρ2 ρ3 x d _ hK (R2.same s3) z3 h3 fun σ4 R4 o4 _ => ?_
    refine qb G O2 H3 σ4 ρ3 ρ4 d1 _ _ hK R4 h4 (by rw [List.length_append, zv.len]; omega) fun O5 H5 σ5 v5 R5 t5 z5 => ?_
    exact ⟨O5, vs ++ v5, by simp, FzL.app (FzL.tm ((tm_same s3).trans t5) zv) z5, R5, (t2.trans (tm_same s3)).trans t5⟩
  · have e : i = ds.length := by omega
    subst e
    refine .inl ⟨it2.2 rfl, ?_⟩
    rw [List.drop_length] at h2
    cases h2
    rw [List.append_nil] at eo
    subst eo
    exact k O2 H2 σ2 vs R2 ((R.tm m1).trans t2) zv
end

/-! ### a generator def; list(f(..)) of it -/
abbrev FGY := List Slot → Option (List D)
def bodyY (n : Nat) (F : FY) : FGY := fun ss => (F (ss ++ List.replicate (n - ss.length) .un)).bind fun x => some x.1
def allDat (ss : List Slot) : Bool := ss.all fun s => match s with
  | .dat _ => true
  | _ => false
def spY (K : PySem.W.Frag) (n : Nat) (g : FGY) : SpG := fun vs H cont _ => ∃ O ss ds, vs.length = n ∧ allDat ss = true ∧ ARep K O H vs ss ∧ g ss = some ds ∧ ds.length < sizeLine ∧
  ∀ out H', Same H H' → FzL K O H' out ds → cont out H'
structure CalG (P : Program) (w : World) (K : PySem.W.Frag) (mg : Str → Option Value) (base : Heap) (x : Str) (k n : Nat) (g : FGY) : Prop where
  ex : ∃ (f : Addr) (fd : FuncData) (ps : List Str), GFn P w K mg base k f fd ps (spY K n g) ∧ Binds K fd ps [] ∧ mg x = some (.ref f) ∧ PySem.W.keepIn K (.ref f) = true
theorem allDat_at {ss : List Slot} (h : allDat ss = true) {i : Nat} {s : Slot} (e : ss[i]? = some s) : ∃ d, s = .dat d := by
  unfold allDat at h
  rw [List.all_eq_true] at h
  have := h s (List.mem_of_getElem? e)
  cases s with
  | dat d => exact ⟨d, rfl⟩
  | _ => cases this
section
variable {P : Program} {w : World} {K : PySem.W.Frag} {mg : Str → Option Value} {base : Heap}
theorem Def.calG {x : Str} {st : Stmt} {ps : List Str} {N : List Str} {k n : Nat} {F : FY} (B : Def K mg x st ps) (S : GScope N ps (defScope st)) (hn : ps.length = n)
    (hbody : ∀ (f : Addr) (cdv : Value) (A : Around) (outer : List Env) (s : Shared) (H : Hp) (E : XK) (pn : List (Addr × Obj)), Room k (A.deeper (envOfC x (defScope st) s.heap.objs.size f cdv)) →
      ∃ t, DYs (gcxOf P w K mg base N x (defScope st) f cdv A outer s H E pn) (defBody st) t F) : CalG P w K mg base x (k + 1) n (bodyY N.length F) := by
  obtain ⟨f, oc, od, dV, kV, doc, pm, an, cdv, ct, osl, lk, hcd, hk, hm, hb⟩ := B.ex
  refine ⟨f, _, ps, ?_, hb, hm, hk⟩
  refine gfn_of lk hcd S (fun vs H Q E h => ?_) fun A outer s H vs Q E pn hr h => ?_
  · obtain ⟨O, ss, d, hl, _⟩ := h
    rw [hl, hn]
  · obtain ⟨O, ss, ds, hl, had, A1, hg, hsz, k1⟩ := h
    obtain ⟨⟨ds', ρ'⟩, h1, h2⟩ := bind_ok hg
    cases h2
    obtain ⟨t, hb⟩ := hbody f cdv A outer s H E pn hr
    have hN : vs.length ≤ N.length := by
      have := congrArg List.length S.pre
      rw [List.length_take] at this
      omega
    refine ⟨t, hb.p, ?_⟩
    refine hb.q _ O H _ _ ρ' _ [] _ rfl (arep_start (N := N) A1 hN) h1 (by simpa using hsz) fun O' H' σ' out R' t' z => ?_
    rw [List.nil_append]
    have fr : Same H H' := fun a o e => R'.frm a o e fun i ⟨⟨u, h1⟩, h2⟩ => by
      obtain ⟨d, e⟩ := allDat_at had h1
      cases e
    exact k1 out H' fr (FzL.tm (tm_less fun a h => R'.sup a h) z)
end
section
variable {X : Cx} {e : Expr} {es : List Expr} {pos p p2 p3 : Pos} {tx : TA} {fa : FA} {k n : Nat} {f : Addr} {fd : FuncData} {ps : List Str} {g : FGY} {x : Str}
def fListG (n : Nat) (g : FGY) (fa : FA) : FO := fun ρ => (fa ρ).bind fun a => if a.1.length = n then (g (a.1.map Slot.dat)).bind fun ds => if lenOk ds.length = true then some (.lst ds, a.2) else none else none
theorem arep_dat {K : PySem.W.Frag} {O : Addr → Prop} {H : Hp} {vs : List V} {ds : List D} (o : Occ O H) (z : FzL K O H vs ds) : ARep K O H vs (ds.map Slot.dat) := by
  refine ⟨by rw [List.length_map, z.len], fun i d h => ?_, fun i u h => ?_, fun i s h => ?_, fun i j a u u' h => ?_, o⟩
  · rw [List.getElem?_map] at h
    cases q : ds[i]? with
    | none => rw [q] at h; cases h
    | some d' =>
      rw [q] at h; cases h
      have hi : i < vs.length := by rw [z.len]; exact (List.getElem?_eq_some_iff.mp q).1
      obtain ⟨d2, e2, z2⟩ := fzL_get z i vs[i] (by simp [hi])
      rw [q] at e2; cases e2
      exact ⟨vs[i], by simp [hi], z2⟩
  · rw [List.getElem?_map] at h
    cases q : ds[i]? with
    | none => rw [q] at h; cases h
    | some d' => rw [q] at h; cases h
  · rw [List.getElem?_map] at h
    cases q : ds[i]? with
    | none => rw [q] at h; cases h
    | some d' => rw [q] at h; cases h; exact .inl ⟨d', rfl⟩
  · rw [List.getElem?_map] at h
    cases q : ds[i]? with
    | none => rw [q] at h; cases h
    | some d' => rw [q] at h; cases h
theorem dn_listG (F : GFn X.prog X.w X.K X.mg X.base k f fd ps (spY X.K n g)) (hr : Room (k + 3) X.A) (hg : Gl X x) (hm : X.mg x = some (.ref f)) (hk : PySem.W.keepIn X.K (.ref f) = true) (hb : Binds X.K fd ps [])
    (hgl : Gl X "list") (hml : X.mg "list" = none) (hvl : bootBuiltins "list" = some (.type "list")) (ha : DA X (e :: es) tx fa)
    (hdb : (x == ("__debug__" : Str)) = false := by decide) (he : starEach (e :: es) X.env = (false, eval e X.env) :: starEach es X.env := by rfl) (hpl : (backTo pos (starEach es X.env)).any (·.1) = false := by rfl)
    (he2 : starEach [Expr.Call (.Name x p) (e :: es) [] pos] X.env = (false, eval (Expr.Call (.Name x p) (e :: es) [] pos) X.env) :: starEach [] X.env := by rfl) :
    DN X (.Call (.Name "list" p2) [.Call (.Name x p) (e :: es) [] pos] [] p3) (tListG (tCallG (spY X.K n g) [] E0 tx)) (fListG n g fa) := by
  obtain ⟨pa, qa⟩ := ha
  refine ⟨pe_listG (pgen_call F (hr.mono (by omega)) hg hm hk hb .nil pa hdb he hpl) (fun _ _ _ _ _ _ _ h => ?_) (fun cls d H h => h.elim) hr hgl hml hvl (by decide) (by decide) he2, fun G O H σ ρ ρ' u Q hK R h kk => ?_⟩
  · obtain ⟨_, _, _, _, _, _, _, _, _, _, _, _, h⟩ := h
    exact h.elim
  · obtain ⟨⟨ds, ρ1⟩, h1, h⟩ := bind_ok h
    split at h
    · rename_i hn
      obtain ⟨out, h2, h⟩ := bind_ok h
      split at h
      · rename_i hl
        cases h
        refine qa G O H σ ρ _ ds _ hK R h1 fun vs H1 R1 m1 z1 => ?_
        refine ⟨O, ds.map Slot.dat, out, by rw [List.append_nil, z1.len]; exact hn, by simp [allDat], by rw [List.append_nil]; exact arep_dat R1.occ z1, h2, lenOk_lt hl, fun vs2 H2 s2 z2 p hp => ?_⟩
        have R2 := R1.same s2
        have m2 := m1.trans (Fm.same s2)
        exact kk p _ (new_ahead R m2 R2 hp) (R2.more hp) (m2.trans (Fm.same (same_upd hp))) ⟨vs2, upd_same, FzL.tm (tm_more (same_upd hp) hp) z2⟩
      · cases h
    · cases h
end
end DL
namespace DL
open PySem PySem.Spec PyProof.Rows L2 GenW
section
variable {X : Cx} {st : Stmt}
def yFrz (i : Nat) (F : FY) : FY := fun ρ => (frz i ρ).bind F
theorem dy_frz (i : Nat) {t : TGn} {F : FY} (h : DY X st t F) : DY X st t (yFrz i F) := by
  obtain ⟨p, q⟩ := h
  refine ⟨p, fun G O H σ ρ ρ' ds ys Dn hK R h hl k => ?_⟩
  obtain ⟨ρ1, h1, h⟩ := bind_ok h
  obtain ⟨O1, l1, R1, _⟩ := R.frz h1
  exact q G O1 H σ ρ1 ρ' ds ys Dn hK R1 h hl fun O2 H2 σ2 vs R2 t2 => k O2 H2 σ2 vs R2 ((tm_less l1).trans t2)
end
end DL
namespace DL
open PySem PySem.Spec PyProof.Rows L2 GenW
/-! ### a def that gives a new object: its body is one return -/
abbrev FGN := List Slot → Option Own
def bodyN (n : Nat) (f : FO) : FGN := fun ss => (f (ss ++ List.replicate (n - ss.length) .un)).bind fun x => some x.1
def spN (K : PySem.W.Frag) (n : Nat) (g : FGN) : Sp := fun vs H Q _ => ∃ O ss u, vs.length = n ∧ allDat ss = true ∧ ARep K O H vs ss ∧ g ss = some u ∧
  ∀ p H', H p = none → Same H H' → OwnAt K (fun a => O a ∨ a = p) H' p u → Q (.ref p) H'
structure CalN (P : Program) (w : World) (K : PySem.W.Frag) (mg : Str → Option Value) (base : Heap) (x : Str) (k n : Nat) (g : FGN) : Prop where
  ex : ∃ (f : Addr) (fd : FuncData) (ps : List Str), FnOk P w K mg base CX0 k f fd ps (spN K n g) ∧ Binds K fd ps [] ∧ mg x = some (.ref f) ∧ PySem.W.keepIn K (.ref f) = true
section
variable {P : Program} {w : World} {K : PySem.W.Frag} {mg : Str → Option Value} {base : Heap}
theorem Def.calN {x : Str} {st : Stmt} {e : Expr} {pos : Pos} {ps : List Str} {N : List Str} {k n : Nat} {f : FO} (B : Def K mg x st ps) (S : FnScope N ps (defScope st)) (hn : ps.length = n) (hb1 : defBody st = [.Return (some e) pos])
    (hbody : ∀ (f' : Addr) (cdv : Value) (A : Around) (outer : List Env) (s : Shared) (H : Hp) (E : XK), Room k (A.deeper (envOfC x (defScope st) s.heap.objs.size f' cdv)) →
      ∃ t, DN (cxOf CX0 P w K mg base N x (defScope st) f' cdv A outer s H E).nox e t f) : CalN P w K mg base x (k + 1) n (bodyN N.length f) := by
  obtain ⟨f', oc, od, dV, kV, doc, pm, an, cdv, ct, osl, lk, hcd, hk, hm, hb⟩ := B.ex
  refine ⟨f', _, ps, ?_, hb, hm, hk⟩
  refine fn_of lk hcd S (fun vs H Q E h => ?_) fun A outer s H vs Q E hr h => ?_
  · obtain ⟨O, ss, u, hl, _⟩ := h
    rw [hl, hn]
  · obtain ⟨O, ss, u, hl, had, A1, hg, k1⟩ := h
    obtain ⟨⟨u', ρ'⟩, h1, h2⟩ := bind_ok hg
    cases h2
    obtain ⟨t, hb⟩ := hbody f' cdv A outer s H E hr
    have hN : vs.length ≤ N.length := by
      have := congrArg List.length S.pre
      rw [List.length_take] at this
      omega
    rw [hb1]
    refine ⟨_, (pss_one (ps_ret hb.p)).nox, ?_⟩
    show t _ _ _
    refine hb.q _ O H _ _ ρ' _ _ rfl (arep_start (N := N) A1 hN) h1 fun p H' hp R' m' z => ?_
    exact k1 p H' hp (fun a o h => R'.frm a o h fun i ⟨⟨u, h1⟩, h2⟩ => by
      obtain ⟨d, e⟩ := allDat_at had h1
      cases e) z
end
section
variable {X : Cx} {e : Expr} {es : List Expr} {pos p : Pos} {tx : TA} {fa : FA} {k n : Nat} {f : Addr} {fd : FuncData} {ps : List Str} {g : FGN} {x : Str}
def fCallN (n : Nat) (g : FGN) (fa : FA) : FO := fun ρ => (fa ρ).bind fun a => if a.1.length = n then (g (a.1.map Slot.dat)).bind fun u => some (u, a.2) else none
theorem dn_callN (F : FnOk X.prog X.w X.K X.mg X.base CX0 k f fd ps (spN X.K n g)) (hr : Room k X.A) (hg : Gl X x) (hm : X.mg x = some (.ref f)) (hk : PySem.W.keepIn X.K (.ref f) = true) (hb : Binds X.K fd ps []) (ha : DA X (e :: es) tx fa)
    (hdb : (x == ("__debug__" : Str)) = false := by decide) (he : starEach (e :: es) X.env = (false, eval e X.env) :: starEach es X.env := by rfl) (hpl : (backTo pos (starEach es X.env)).any (·.1) = false := by rfl) :
    DN X (.Call (.Name x p) (e :: es) [] pos) (tCall (spN X.K n g) [] E0 tx) (fCallN n g fa) := by
  obtain ⟨pa, qa⟩ := ha
  refine ⟨pe_call F hr hg hm hk hb .nil pass0 pa hdb he hpl, fun G O H σ ρ ρ' u Q hK R h kk => ?_⟩
  obtain ⟨⟨ds, ρ1⟩, h1, h⟩ := bind_ok h
  split at h
  · rename_i hn
    obtain ⟨u', h2, h⟩ := bind_ok h
    cases h
    refine qa G O H σ ρ _ ds _ hK R h1 fun vs H1 R1 m1 z1 => ?_
    show spN X.K n g (vs ++ []) H1 Q E0
    rw [List.append_nil]
    refine ⟨O, ds.map Slot.dat, u, by rw [z1.len]; exact hn, by simp [allDat], arep_dat R1.occ z1, h2, fun p H' hp sm z => ?_⟩
    have hp0 : H p = none := new_ahead R m1 R1 hp
    have sm2 : Same H1 (fun b => if b = p then none else H' b) := fun b o e => by
      show (if b = p then none else H' b) = some o
      rw [if_neg (fun q => by rw [q, hp] at e; cases e)]
      exact sm b o e
    obtain ⟨o, ho⟩ := z.some
    have R2 := (R1.same sm2).more (p := p) (o := o) (by simp)
    have e2 : upd (fun b => if b = p then none else H' b) p o = H' := by
      funext b
      by_cases hb : b = p
      · subst hb; rw [upd_same, ho]
      · rw [upd_ne hb, if_neg hb]
    rw [e2] at R2
    exact kk p H' hp0 R2 (m1.trans (Fm.same sm)) z
  · cases h
end
end DL
namespace DL
open PySem PySem.Spec PyProof.Rows L2 GenW
/-! ### a test of a name: a list of one's own stays one's own -/
def fTruV (i : Nat) : FT := fun ρ => match ρ[i]? with
  | some (.dat d) => (gTru d).bind fun b => some (b, ρ)
  | some (.own (.lst ds)) => some (!ds.isEmpty, ρ)
  | some (.io (.lst ds)) => some (!ds.isEmpty, ρ)
  | _ => none
theorem dt_truV {X : Cx} (i : Nat) {x : Str} {pos : Pos} (hN : X.N[i]? = some x := by rfl) (hv : Vis X.env.scope x := by first | exact Or.inl rfl | exact Or.inr (Or.inl rfl) | exact Or.inr (Or.inr rfl)) (hd : (x == ("__debug__" : Str)) = false := by decide)
    (hcd : (x == ("__classdict__" : Str)) = false := by decide) (he : ∀ whole, isTrue (.Name x pos) X.env whole = (do let v ← whole; standAt (Expr.Name x pos).pos; holding [v] (truthy v)) := by intro _; rfl) :
    DT X (.Name x pos) (fun σ H Q => tVar i σ H fun x H' => ∃ k, TruV X.K x H' k ∧ Q k H') (fTruV i) := by
  refine ⟨pt_truth (pe_var hN hv hd hcd) he, fun G O H σ ρ ρ' b Q hK R h k => ?_⟩
  have own : ∀ (s : Slot) (ds : List D), ρ[i]? = some s → s.mu = some (.lst ds) → some (!ds.isEmpty, ρ) = some (b, ρ') → (tVar i σ H fun x H' => ∃ k, TruV X.K x H' k ∧ Q k H') := fun s ds e m h => by
    cases h
    obtain ⟨p, vs, h1, h2, h3, h4⟩ := own_lst R e m
    refine ⟨.ref p, h1, !ds.isEmpty, ?_, k H R Fm.refl⟩
    exact .inl ⟨vs, .inl (.inl h3), by rw [h4.empty]⟩
  unfold fTruV at h
  split at h
  · rename_i d' e'
    obtain ⟨r, h1, h⟩ := bind_ok h
    cases h
    obtain ⟨v, e1, z⟩ := R.dat i _ e'
    exact ⟨v, e1, _, tru_of (hK ▸ z) h1, k H R Fm.refl⟩
  · rename_i ds e'; exact own _ ds e' rfl h
  · rename_i ds e'; exact own _ ds e' rfl h
  · cases h
@[simp] theorem fTruV_ap {i : Nat} {ρ : Ev} : fTruV i ρ = match ρ[i]? with
  | some (.dat d) => (gTru d).bind fun b => some (b, ρ)
  | some (.own (.lst ds)) => some (!ds.isEmpty, ρ)
  | some (.io (.lst ds)) => some (!ds.isEmpty, ρ)
  | _ => none := rfl
end DL
end

section
set_option Elab.async false
set_option linter.all false
set_option maxRecDepth 100000
namespace DL
open PySem PySem.Spec PyProof.Rows L2 GenW
section
variable {P : Program} {w : World} {K : PySem.W.Frag} {mg : Str → Option Value} {base : Heap}
/-- a def at a known place -/
theorem calAt {x : Str} {st : Stmt} {f : Addr} {oc : Value} {od : Option Addr} {dV kV doc pm : Value} {an : Option Addr} {cdv ct : Value} {osl : Array (Option Value)} {ps : List Str} {N : List Str} {k n : Nat} {F : FS}
    (lk : K.lookup f = some ⟨oc, od, .func (PySem.W.fnOf x x (defArgs st) (defBody st) (defScope st) dV kV doc pm an cdv ct), osl⟩) (hcd : PySem.W.codeIn K cdv x = true) (S : FnScope N ps (defScope st)) (hn : ps.length = n)
    (hbody : ∀ (f : Addr) (cdv : Value) (A : Around) (outer : List Env) (s : Shared) (H : Hp) (E : XK), Room k (A.deeper (envOfC x (defScope st) s.heap.objs.size f cdv)) →
      ∃ t, DSs (cxOf CX0 P w K mg base N x (defScope st) f cdv A outer s H E).nox (defBody st) t F) :
    FnOk P w K mg base CX0 (k + 1) f (PySem.W.fnOf x x (defArgs st) (defBody st) (defScope st) dV kV doc pm an cdv ct) ps (spD K n (bodyG N.length F)) := by
  refine fn_of lk hcd S (fun vs H Q E h => ?_) fun A outer s H vs Q E hr h => ?_
  · obtain ⟨O, ss, d, outs, hl, _⟩ := h
    rw [hl, hn]
  · obtain ⟨O, ss, d, outs, hl, A1, hg, k1⟩ := h
    obtain ⟨⟨fl, ρ'⟩, h1, h2⟩ := bind_ok hg
    obtain ⟨t, hb⟩ := hbody f cdv A outer s H E hr
    have hN : vs.length ≤ N.length := by
      have := congrArg List.length S.pre
      rw [List.length_take] at this
      omega
    refine ⟨t, hb.p.nox, ?_⟩
    refine hb.q _ O H _ _ ρ' fl _ rfl (arep_start (N := N) A1 hN) h1 fun O' H' σ' R' t' => ?_
    cases fl with
    | nx =>
      cases h2
      obtain ⟨fr, z, A2, ki⟩ := arep_end A1 R' (v := .non) (d := .non) (by unfold Fz; rfl)
      exact k1 _ _ fr z A2 ki
    | rt r =>
      cases h2
      intro v z
      obtain ⟨fr, z, A2, ki⟩ := arep_end A1 R' z
      exact k1 _ _ fr z A2 ki
    | bk => cases h2
    | ct => cases h2
end
theorem fzL_ofInts {K : PySem.W.Frag} {O : Addr → Prop} {H : Hp} : ∀ ns : List Int, FzL K O H (ns.map V.int) (ns.map D.int)
  | [] => by unfold FzL; rfl
  | n :: ns => by
    show FzL K O H (V.int n :: ns.map V.int) (D.int n :: ns.map D.int)
    unfold FzL
    exact ⟨V.int n, _, rfl, by unfold Fz; rfl, fzL_ofInts ns⟩
/-- the script comes in, True goes out -/
theorem endD {K : PySem.W.Frag} {H : Hp} {a : Addr} {ns : List Int} {g : FG} {E : XK} (hs : SqL K H a (ns.map V.int)) (h : ∃ outs, g [.dat (.lst (ns.map .int))] = some (.bl true, outs)) : spD K 1 g [.ref a] H (fun v _ => v = .bl true) E := by
  obtain ⟨outs, h⟩ := h
  refine ⟨fun _ => False, [.dat (.lst (ns.map .int))], .bl true, outs, rfl, ⟨rfl, fun i d e => ?_, fun i u e => ?_, fun i s e => ?_, fun i j a u u' e => ?_, fun a h => h.elim⟩, h, fun v H' _ z _ _ => by unfold Fz at z; exact z⟩
  · cases i with
    | zero =>
      have e : D.lst (ns.map .int) = d := by simpa using e
      subst e
      refine ⟨.ref a, rfl, ?_⟩
      unfold Fz
      exact ⟨a, ns.map V.int, rfl, hs.elim (fun h => .inl ⟨h, fun z => z⟩) .inr, fzL_ofInts ns⟩
    | succ i => simp at e
  · cases i with
    | zero => simp at e
    | succ i => simp at e
  · cases i with
    | zero =>
      have e : Slot.dat (D.lst (ns.map .int)) = s := by simpa using e
      exact .inl ⟨_, e.symm⟩
    | succ i => simp at e
  · cases i with
    | zero => simp at e
    | succ i => simp at e

/-- a def with defaults, every parameter given -/
theorem binds_dflt {K : PySem.W.Frag} {fd : FuncData} {ps : List Str} {T : Addr} {oc : Value} {od : Option Addr} {its : List Value} {m : Nat} {sl : Array (Option Value)} (lT : K.lookup T = some ⟨oc, od, .seq its.toArray m, sl⟩)
    (h : ∀ us : List Value, us.length = ps.length → ∃ k, bindArgs fd ⟨us, []⟩ = seqItems? (.ref T) >>= k ∧ k (some its.toArray) = pure (ps.zip us)) : Binds K fd ps [] := fun s us X hl => by
  rw [List.append_nil] at hl ⊢
  obtain ⟨k, e1, e2⟩ := h us hl
  refine BindsTo.of_looks fun M => ?_
  rw [e1]
  exact looks_items X lT rfl (.of_pure e2)
end DL
end

section
set_option Elab.async false
set_option linter.all false
set_option maxRecDepth 100000
namespace DL
open L2

/-! ### evaluating functions of data -/
def IsD (s : Slot) : Prop := s = .un ∨ ∃ d, s = .dat d
theorem isD_un : IsD .un := .inl rfl
theorem isD_dat {d : D} : IsD (.dat d) := .inr ⟨d, rfl⟩
theorem outsOf_dats : ∀ (ds : List D) (ρ : Ev), outsOf (ds.map Slot.dat) ρ = ds.map Slot.dat
  | [], ρ => by unfold outsOf; rfl
  | d :: ds, [] => by simp [outsOf]
  | d :: ds, r :: ρ => by simp [outsOf, outsOf_dats ds ρ]
def encL (ns : List Int) : List D := ns.map D.int
abbrev tupI (ns : List Int) : D := .tup (ns.map D.int)
abbrev lstI (ns : List Int) : D := .lst (ns.map D.int)

/-- a loop that carries a state and may return -/
def goL {A S : Type} (step : S → A → Sum D S) : List A → S → Sum D S
  | [], s => .inr s
  | a :: as, s => match step s a with
    | .inl d => .inl d
    | .inr s' => goL step as s'
theorem loopF_go {A S : Type} {enc : A → D} {I : S → Ev → Prop} {step : S → A → Sum D S} {T : D → Ev → Option Ev} {F : FS} : ∀ (as : List A) (s : S) (ρ : Ev), I s ρ →
    (∀ a, a ∈ as → ∀ s ρ, I s ρ → ∃ ρ1, T (enc a) ρ = some ρ1 ∧ (∀ d, step s a = .inl d → ∃ ρ2, F ρ1 = some (.rt d, ρ2)) ∧ ∀ s', step s a = .inr s' → ∃ fl ρ2, (fl = .nx ∨ fl = .ct) ∧ F ρ1 = some (fl, ρ2) ∧ I s' ρ2) →
    (∀ d, goL step as s = .inl d → ∃ ρ', loopF T F (as.map enc) ρ = some (.rt d, ρ')) ∧ ∀ s', goL step as s = .inr s' → ∃ ρ', loopF T F (as.map enc) ρ = some (.nx, ρ') ∧ I s' ρ'
  | [], s, ρ, hI, h => by
    refine ⟨fun d e => ?_, fun s' e => ?_⟩
    · simp only [goL] at e; cases e
    · simp only [goL] at e; cases e; exact ⟨ρ, rfl, hI⟩
  | a :: as, s, ρ, hI, h => by
    obtain ⟨ρ1, h1, h2, h3⟩ := h a List.mem_cons_self s ρ hI
    cases e : step s a with
    | inl d =>
      obtain ⟨ρ2, h4⟩ := h2 d e
      refine ⟨fun d' e' => ?_, fun s' e' => ?_⟩
      · simp only [goL, e] at e'
        cases e'
        exact ⟨ρ2, by simp [loopF, h1, h4]⟩
      · simp only [goL, e] at e'
        cases e'
    | inr s1 =>
      obtain ⟨fl, ρ2, hfl, h4, h5⟩ := h3 s1 e
      have ih := loopF_go as s1 ρ2 h5 fun a ha => h a (List.mem_cons_of_mem _ ha)
      refine ⟨fun d' e' => ?_, fun s' e' => ?_⟩
      · simp only [goL, e] at e'
        obtain ⟨ρ', q⟩ := ih.1 d' e'
        refine ⟨ρ', ?_⟩
        rcases hfl with rfl | rfl <;> simp [loopF, h1, h4, q]
      · simp only [goL, e] at e'
        obtain ⟨ρ', q, qi⟩ := ih.2 s' e'
        refine ⟨ρ', ?_, qi⟩
        rcases hfl with rfl | rfl <;> simp [loopF, h1, h4, q]
/-- a loop that only carries a state -/
theorem loopF_fold {A S : Type} {enc : A → D} {I : S → Ev → Prop} {step : S → A → S} {T : D → Ev → Option Ev} {F : FS} : ∀ (as : List A) (s : S) (ρ : Ev), I s ρ →
    (∀ a, a ∈ as → ∀ s ρ, I s ρ → ∃ ρ1, T (enc a) ρ = some ρ1 ∧ ∃ ρ2, F ρ1 = some (.nx, ρ2) ∧ I (step s a) ρ2) →
    ∃ ρ', loopF T F (as.map enc) ρ = some (.nx, ρ') ∧ I (as.foldl step s) ρ'
  | [], s, ρ, hI, h => ⟨ρ, rfl, hI⟩
  | a :: as, s, ρ, hI, h => by
    obtain ⟨ρ1, h1, ρ2, h2, h3⟩ := h a List.mem_cons_self s ρ hI
    obtain ⟨ρ', q, qi⟩ := loopF_fold as (step s a) ρ2 h3 fun a ha => h a (List.mem_cons_of_mem _ ha)
    exact ⟨ρ', by simp [loopF, h1, h2, q], qi⟩

theorem backE_wipe (vs : List Nat) (ρ : Ev) : backE vs ρ (wipeE vs ρ) = ρ := by
  unfold backE
  rw [wipeE_len]
  apply List.ext_getElem
  · simp
  · intro i h1 h2
    have hi : i < ρ.length := h2
    simp only [List.getElem_map, List.getElem_range]
    by_cases c : vs.contains i = true
    · rw [if_pos c]; simp [hi]
    · have : i ∉ vs := fun h => c (by simpa using h)
      rw [if_neg c]
      have := wipeE_get (ρ := ρ) this
      rw [List.getD_eq_getElem?_getD, this]
      simp [hi]
theorem compGo_eval {A : Type} {enc : A → D} {p : A → Bool} {fv : A → D} {T : D → Ev → Option Ev} {ft : FT} {fe : FE} {vs : List Nat} {ρ : Ev} : ∀ (as : List A),
    (∀ a, a ∈ as → ∃ ρ1, T (enc a) ρ = some ρ1 ∧ ∃ ρ2, ft ρ1 = some (p a, ρ2) ∧ (p a = true → ∃ ρ3, fe ρ2 = some (fv a, ρ3) ∧ wipOk vs ρ3 = true ∧ wipeE vs ρ3 = ρ) ∧ (p a = false → wipOk vs ρ2 = true ∧ wipeE vs ρ2 = ρ)) →
    compGo T ft fe vs (as.map enc) ρ = some ((as.filter p).map fv, ρ)
  | [], _ => rfl
  | a :: as, h => by
    obtain ⟨ρ1, h1, ρ2, h2, h3, h4⟩ := h a List.mem_cons_self
    have ih := compGo_eval as fun a ha => h a (List.mem_cons_of_mem _ ha)
    cases e : p a with
    | true =>
      obtain ⟨ρ3, h5, h6, h7⟩ := h3 e
      rw [e] at h2
      simp [compGo, h1, h2, h5, h6, h7, ih, List.filter_cons, e]
    | false =>
      obtain ⟨h6, h7⟩ := h4 e
      rw [e] at h2
      simp [compGo, h1, h2, h6, h7, ih, List.filter_cons, e]
theorem fComp_eval {A : Type} {enc : A → D} {p : A → Bool} {fv : A → D} {fi : FA} {T : D → Ev → Option Ev} {ft : FT} {fe : FE} {vs : List Nat} {ρ ρ0 : Ev} (as : List A) (hi : fi ρ = some (as.map enc, ρ0)) (hl : lenOk as.length = true) (hw : wipOk vs ρ0 = true)
    (h : ∀ a, a ∈ as → ∃ ρ1, T (enc a) (wipeE vs ρ0) = some ρ1 ∧ ∃ ρ2, ft ρ1 = some (p a, ρ2) ∧ (p a = true → ∃ ρ3, fe ρ2 = some (fv a, ρ3) ∧ wipOk vs ρ3 = true ∧ wipeE vs ρ3 = wipeE vs ρ0) ∧ (p a = false → wipOk vs ρ2 = true ∧ wipeE vs ρ2 = wipeE vs ρ0)) :
    fComp fi T ft fe vs ρ = some (.lst ((as.filter p).map fv), ρ0) := by
  unfold fComp
  rw [hi]
  simp only [Option.bind_some, List.length_map, hl, hw, and_self, if_true]
  rw [compGo_eval as h]
  simp only [Option.bind_some, backE_wipe]
/-- no test -/
theorem fComp_map {A : Type} {enc : A → D} {fv : A → D} {fi : FA} {T : D → Ev → Option Ev} {fe : FE} {vs : List Nat} {ρ ρ0 : Ev} (as : List A) (hi : fi ρ = some (as.map enc, ρ0)) (hl : lenOk as.length = true) (hw : wipOk vs ρ0 = true)
    (h : ∀ a, a ∈ as → ∃ ρ1, T (enc a) (wipeE vs ρ0) = some ρ1 ∧ ∃ ρ3, fe ρ1 = some (fv a, ρ3) ∧ wipOk vs ρ3 = true ∧ wipeE vs ρ3 = wipeE vs ρ0) :
    fComp fi T fYes fe vs ρ = some (.lst (as.map fv), ρ0) := by
  have := fComp_eval (p := fun _ => true) (ft := fYes) (fe := fe) (fv := fv) as hi hl hw fun a ha => by
    obtain ⟨ρ1, h1, ρ3, h2, h3, h4⟩ := h a ha
    exact ⟨ρ1, h1, ρ1, rfl, fun _ => ⟨ρ3, h2, h3, h4⟩, fun e => by cases e⟩
  rw [this, List.filter_eq_self.mpr fun _ _ => rfl]
end DL
namespace DL
open L2
theorem loopF_then {A S R : Type} {enc : A → D} {I : S → Ev → Prop} {step : S → A → Sum D S} {T : D → Ev → Option Ev} {F : FS} {K : Fl × Ev → Option R} {r : Option R} (as : List A) (s : S) (ρ : Ev) (hI : I s ρ)
    (h : ∀ a, a ∈ as → ∀ s ρ, I s ρ → ∃ ρ1, T (enc a) ρ = some ρ1 ∧ (∀ d, step s a = .inl d → ∃ ρ2, F ρ1 = some (.rt d, ρ2)) ∧ ∀ s', step s a = .inr s' → ∃ fl ρ2, (fl = .nx ∨ fl = .ct) ∧ F ρ1 = some (fl, ρ2) ∧ I s' ρ2)
    (k1 : ∀ d ρ', goL step as s = .inl d → K (.rt d, ρ') = r) (k2 : ∀ s' ρ', goL step as s = .inr s' → I s' ρ' → K (.nx, ρ') = r) : (loopF T F (as.map enc) ρ).bind K = r := by
  obtain ⟨h1, h2⟩ := loopF_go as s ρ hI h
  cases e : goL step as s with
  | inl d => obtain ⟨ρ', q⟩ := h1 d e; rw [q]; exact k1 d ρ' e
  | inr s' => obtain ⟨ρ', q, qi⟩ := h2 s' e; rw [q]; exact k2 s' ρ' e qi
theorem loopF_thenF {A S R : Type} {enc : A → D} {I : S → Ev → Prop} {step : S → A → S} {T : D → Ev → Option Ev} {F : FS} {K : Fl × Ev → Option R} {r : Option R} (as : List A) (s : S) (ρ : Ev) (hI : I s ρ)
    (h : ∀ a, a ∈ as → ∀ s ρ, I s ρ → ∃ ρ1, T (enc a) ρ = some ρ1 ∧ ∃ ρ2, F ρ1 = some (.nx, ρ2) ∧ I (step s a) ρ2)
    (k : ∀ ρ', I (as.foldl step s) ρ' → K (.nx, ρ') = r) : (loopF T F (as.map enc) ρ).bind K = r := by
  obtain ⟨ρ', q, qi⟩ := loopF_fold as s ρ hI h
  rw [q]; exact k ρ' qi
theorem mulOk_of {a b : Int} {B C : Nat} (ha : a.natAbs < 2 ^ B) (hb : b.natAbs < 2 ^ C) (h : B + C < 1000000) : mulOk a b = true := by
  unfold mulOk
  have h1 : a.natAbs.log2 ≤ B := by
    by_cases e : a.natAbs = 0
    · rw [e]; exact Nat.zero_le _
    · exact Nat.le_of_lt ((Nat.log2_lt e).mpr ha)
  have h2 : b.natAbs.log2 ≤ C := by
    by_cases e : b.natAbs = 0
    · rw [e]; exact Nat.zero_le _
    · exact Nat.le_of_lt ((Nat.log2_lt e).mpr hb)
  simp only [Bool.or_eq_true, decide_eq_true_eq]
  exact .inr (by omega)
theorem divOk_of {a b : Int} {B : Nat} (h0 : 0 < b) (hb : b.natAbs < 2 ^ B) (h : B ≤ 9000) : divOk a b = true := by
  unfold divOk
  have h1 : b.natAbs.log2 < B := (Nat.log2_lt (by omega)).mpr hb
  simp only [Bool.or_eq_true, decide_eq_true_eq]
  exact .inr ⟨h0, by omega⟩
end DL
namespace DL
open L2
/-! ### runs -/
def Rt (F : FS) (ρ : Ev) (d : D) : Prop := ∃ ρ', F ρ = some (.rt d, ρ')
def Nx (F : FS) (ρ ρ' : Ev) : Prop := F ρ = some (.nx, ρ')
section
variable {F G : FS} {ρ ρ1 ρ2 : Ev} {d : D}
theorem rt_seq (h1 : Nx F ρ ρ1) (h2 : Rt G ρ1 d) : Rt (fSeq F G) ρ d := by
  obtain ⟨ρ', h2⟩ := h2
  exact ⟨ρ', by rw [fSeq_ap, h1]; exact h2⟩
theorem rt_seq1 (h1 : Rt F ρ d) : Rt (fSeq F G) ρ d := by
  obtain ⟨ρ', h1⟩ := h1
  exact ⟨ρ', by rw [fSeq_ap, h1]; rfl⟩
theorem nx_seq (h1 : Nx F ρ ρ1) (h2 : Nx G ρ1 ρ2) : Nx (fSeq F G) ρ ρ2 := by
  unfold Nx; rw [fSeq_ap, h1]; exact h2
theorem rt_ret {f : FE} (h : ∃ ρ', f ρ = some (d, ρ')) : Rt (fRet f) ρ d := by
  obtain ⟨ρ', h⟩ := h
  exact ⟨ρ', by rw [fRet_ap, h]; rfl⟩
theorem rt_if {c : FT} {b : Bool} (h : c ρ = some (b, ρ1)) (h1 : b = true → Rt F ρ1 d) (h2 : b = false → Rt G ρ1 d) : Rt (fIfS c F G) ρ d := by
  cases b with
  | true => obtain ⟨ρ', q⟩ := h1 rfl; exact ⟨ρ', by rw [fIfS_ap, h]; simpa using q⟩
  | false => obtain ⟨ρ', q⟩ := h2 rfl; exact ⟨ρ', by rw [fIfS_ap, h]; simpa using q⟩
theorem nx_if {c : FT} {b : Bool} (h : c ρ = some (b, ρ1)) (h1 : b = true → Nx F ρ1 ρ2) (h2 : b = false → Nx G ρ1 ρ2) : Nx (fIfS c F G) ρ ρ2 := by
  cases b with
  | true => unfold Nx; rw [fIfS_ap, h]; simpa using (show F ρ1 = some (.nx, ρ2) from h1 rfl)
  | false => unfold Nx; rw [fIfS_ap, h]; simpa using (show G ρ1 = some (.nx, ρ2) from h2 rfl)
theorem nx_for {fi : FA} {T : D → Ev → Option Ev} {ds : List D} (h : fi ρ = some (ds, ρ1)) (h2 : loopF T F ds ρ1 = some (.nx, ρ2)) : Nx (fFor fi T F) ρ ρ2 := by
  unfold Nx; rw [fFor_ap, h]; exact h2
theorem rt_for {fi : FA} {T : D → Ev → Option Ev} {ds : List D} (h : fi ρ = some (ds, ρ1)) (h2 : ∃ ρ', loopF T F ds ρ1 = some (.rt d, ρ')) : Rt (fFor fi T F) ρ d := by
  obtain ⟨ρ', h2⟩ := h2
  exact ⟨ρ', by rw [fFor_ap, h]; exact h2⟩
theorem nx_set {f : FE} {i : Nat} {d0 : D} (h : f ρ = some (d0, ρ1)) (h2 : fPut i d0 ρ1 = some ρ2) : Nx (fSet i f) ρ ρ2 := by
  unfold Nx; rw [fSet_ap, h]; simp only [Option.bind_some]; rw [h2]; rfl
/-- a def of data alone -/
theorem body_rt {n : Nat} {ds : List D} (h : Rt F (ds.map Slot.dat ++ List.replicate (n - ds.length) .un) d) : bodyG n F (ds.map Slot.dat) = some (d, ds.map Slot.dat) := by
  obtain ⟨ρ', h⟩ := h
  unfold bodyG
  rw [List.length_map, h]
  simp [outsOf_dats]
theorem call_ev {n : Nat} {g : FG} {ds : List D} {fr : FR} (hf : fr ρ = some (ds.map Ar.d, ρ1)) (hn : ds.length = n) (hg : g (ds.map Slot.dat) = some (d, ds.map Slot.dat)) : fCall n g fr ρ = some (d, ρ1) := by
  have h1 : ∀ ds : List D, refsOf (ds.map Ar.d) = [] := fun ds => by
    induction ds with
    | nil => rfl
    | cons d ds ih => simpa [refsOf] using ih
  have h2 : ∀ ds : List D, argS ρ1 (ds.map Ar.d) = some (ds.map Slot.dat) := fun ds => by
    induction ds with
    | nil => rfl
    | cons d ds ih => simp [argS, ih]
  have h3 : ∀ (ds : List D) (ss : List Slot) (ρ : Ev), ss.length = ds.length → putB ρ (ds.map Ar.d) ss = ρ := fun ds => by
    induction ds with
    | nil => intro ss ρ h; cases ss <;> simp [putB]
    | cons d ds ih =>
      intro ss ρ h
      cases ss with
      | nil => simp at h
      | cons s ss => simp [putB]; exact ih ss ρ (by simpa using h)
  rw [fCall_ap, hf]
  simp only [Option.bind_some, h1, h2, List.length_map, hn, hg]
  rw [if_pos ⟨by simp [nodupB], trivial⟩, h3 _ _ _ (by simp)]
end
end DL
namespace DL
open L2
theorem loopF_pre {A : Type} {enc : A → D} {I : List A → Ev → Prop} {T : D → Ev → Option Ev} {F : FS} (as : List A) : ∀ (rest done : List A) (ρ : Ev), done ++ rest = as → I done ρ →
    (∀ done a rest, done ++ a :: rest = as → ∀ ρ, I done ρ → ∃ ρ1, T (enc a) ρ = some ρ1 ∧ ∃ ρ2, F ρ1 = some (.nx, ρ2) ∧ I (done ++ [a]) ρ2) →
    ∃ ρ', loopF T F (rest.map enc) ρ = some (.nx, ρ') ∧ I as ρ'
  | [], done, ρ, e, hI, h => by
    rw [List.append_nil] at e; subst e
    exact ⟨ρ, rfl, hI⟩
  | a :: rest, done, ρ, e, hI, h => by
    obtain ⟨ρ1, h1, ρ2, h2, h3⟩ := h done a rest e ρ hI
    obtain ⟨ρ', q, qi⟩ := loopF_pre as rest (done ++ [a]) ρ2 (by rw [← e]; simp) h3 h
    exact ⟨ρ', by simp [loopF, h1, h2, q], qi⟩
theorem ixN_nat {n c : Nat} (h : c < n) : ixN n (c : Int) = some c := by
  unfold ixN
  simp [h]
theorem atI_int {ns : List Int} {c : Nat} (h : c < ns.length) : atI (ns.map D.int) (c : Int) = some (.int (ns.getD c 0)) := by
  unfold atI
  simp [ixN_nat, h]
end DL
namespace DL
open L2
def RtE (F : FS) (ρ : Ev) (d : D) (ρ' : Ev) : Prop := F ρ = some (.rt d, ρ')
section
variable {F G : FS} {ρ ρ1 ρ2 ρ' : Ev} {d : D}
theorem rtE_seq (h1 : Nx F ρ ρ1) (h2 : RtE G ρ1 d ρ') : RtE (fSeq F G) ρ d ρ' := by
  unfold RtE; rw [fSeq_ap, h1]; exact h2
theorem rtE_seq1 (h1 : RtE F ρ d ρ') : RtE (fSeq F G) ρ d ρ' := by
  unfold RtE; rw [fSeq_ap, h1]; rfl
theorem rtE_ret {f : FE} (h : f ρ = some (d, ρ')) : RtE (fRet f) ρ d ρ' := by
  unfold RtE; rw [fRet_ap, h]; rfl
theorem rtE_if {c : FT} {b : Bool} (h : c ρ = some (b, ρ1)) (h1 : b = true → RtE F ρ1 d ρ') (h2 : b = false → RtE G ρ1 d ρ') : RtE (fIfS c F G) ρ d ρ' := by
  cases b with
  | true => unfold RtE; rw [fIfS_ap, h]; simpa using (show F ρ1 = some (.rt d, ρ') from h1 rfl)
  | false => unfold RtE; rw [fIfS_ap, h]; simpa using (show G ρ1 = some (.rt d, ρ') from h2 rfl)
theorem rtE_frz {i : Nat} (h : frz i ρ = some ρ1) (h2 : RtE F ρ1 d ρ') : RtE (fFrz i F) ρ d ρ' := by
  unfold RtE; rw [fFrz_ap, h]; exact h2
theorem nx_frz {i : Nat} (h : frz i ρ = some ρ1) (h2 : Nx F ρ1 ρ2) : Nx (fFrz i F) ρ ρ2 := by
  unfold Nx; rw [fFrz_ap, h]; exact h2
theorem nx_app {i : Nat} {fe : FE} {t0 t : Slot} {l0 ds : List D} (h0 : ρ[i]? = some t0) (h00 : t0.mu = some (.lst l0)) (h1 : fe ρ = some (d, ρ1)) (h2 : ρ1[i]? = some t) (h3 : t.mu = some (.lst ds)) (hl : lenOk ds.length = true) (h4 : ρ1.set i (t.put (.lst (ds ++ [d]))) = ρ2) : Nx (fApp i fe) ρ ρ2 := by
  unfold Nx
  subst h4
  rw [fApp_ap, h0]
  simp only [Option.bind_some, h00, h1, wrOwn_ap, h2, h3, cApp_l, hl, if_true]
theorem io_body {b b' : List D} {ds : List D} {n : Nat} {ρ0 : Ev} (h0 : .io (.lst b) :: ds.map Slot.dat ++ List.replicate (n - (ds.length + 1)) .un = ρ0) (h : RtE F ρ0 d (.io (.lst b') :: ρ')) :
    bodyG n F (.io (.lst b) :: ds.map Slot.dat) = some (d, .io (.lst b') :: ds.map Slot.dat) := by
  subst h0
  have h : F (.io (.lst b) :: ds.map Slot.dat ++ List.replicate (n - (ds.length + 1)) .un) = some (.rt d, .io (.lst b') :: ρ') := h
  unfold bodyG
  rw [List.length_cons, List.length_map, h]
  simp [outsOf, outsOf_dats]
theorem r_and {f g : FT} {b c : Bool} (h1 : f ρ = some (b, ρ1)) (h2 : b = true → g ρ1 = some (c, ρ2)) (h3 : b = false → ρ1 = ρ2 ∧ c = false) : fAnd f g ρ = some (c, ρ2) := by
  rw [fAnd_ap, h1]
  cases b with
  | true => simpa using h2 rfl
  | false => obtain ⟨rfl, rfl⟩ := h3 rfl; rfl
end
end DL
end

section
set_option Elab.async false
set_option linter.all false
set_option maxRecDepth 100000
namespace W20
open L2 DL
/-! printed by wip/gen.py -/
def F_fraction : FS := (fSeq (fIfS (fTB (fBin gEq (fVar 1) (fC (.int 0)))) fNever
 fSkip)
 (fSeq (fSet 2 (fN gGcd (fCons (fVar 0) (fCons (fVar 1) fNil))))
 (fSeq (fIfS (fTB (fBin gLt (fVar 1) (fC (.int 0)))) (fSet 2 (fUn gNeg (fVar 2)))
 fSkip)
 (fRet (fTup (fCons (fBin gDiv (fVar 0) (fVar 2)) (fCons (fBin gDiv (fVar 1) (fVar 2)) fNil)))))))
def g_fraction : FG := bodyG 3 F_fraction
def F_primitive : FS := (fSeq (fSet 1 (fC (.int 0)))
 (fSeq (fFor (iOf (fVar 0)) (fPut0 2)
 (fSeq (fSet 1 (fN gGcd (fCons (fVar 1) (fCons (fVar 2) fNil))))
 (fIfS (fTB (fBin gEq (fVar 1) (fC (.int 1)))) (fRet (fN gTuple (fCons (fVar 0) fNil)))
 fSkip)))
 (fSeq (fIfS (fTB (fBin gEq (fVar 1) (fC (.int 0)))) (fRet (fN gTuple (fCons (fVar 0) fNil)))
 fSkip)
 (fRet (fN gTuple (fCons (fGive (fComp (iOf (fVar 0)) (fPut0 2) fYes (fBin gDiv (fVar 2) (fVar 1)) [2])) fNil))))))
def g_primitive : FG := bodyG 3 F_primitive
def F__has_at_most : FS := (fSeq (fFor (iRange1 (fCons (fVar 1) fNil)) (fPut0 2)
 (fSeq (fSet 0 (fBin gBand (fVar 0) (fBin gMinus (fVar 0) (fC (.int 1)))))
 (fIfS (fTB (fBin gEq (fVar 0) (fC (.int 0)))) (fRet (fC (.bl true)))
 fSkip)))
 (fRet (fC (.bl false))))
def g__has_at_most : FG := bodyG 3 F__has_at_most
def F__are_neighbours : FS := (fSeq (fSet 3 (fBin gBor (fVar 1) (fVar 2)))
 (fSeq (fFor (iOf (fVar 0)) (gTupF 2 (gsCons (fPut0 4) (gsCons (fPut0 5) gsNil)))
 (fIfS (fAnd (fTB (fBin gEq (fBin gBor (fVar 4) (fVar 3)) (fVar 3))) (fAnd (fTB (fBin gNe (fVar 4) (fVar 1))) (fTB (fBin gNe (fVar 4) (fVar 2))))) (fRet (fC (.bl false)))
 fSkip))
 (fRet (fC (.bl true)))))
def g__are_neighbours : FG := bodyG 6 F__are_neighbours
def F__merged : FS := (fSeq (fSet 3 (fIxV 0 (fVar 2)))
 (fSeq (fSet 4 (fUn gNeg (fIxV 1 (fVar 2))))
 (fRet (fCall 1 g_primitive (frD (fN gTuple (fCons (fGive (fComp (iZipF (fCons (fVar 0) (fCons (fVar 1) fNil))) (gTupF 2 (gsCons (fPut0 5) (gsCons (fPut0 6) gsNil))) fYes (fBin gAdd (fBin gMul (fVar 4) (fVar 5)) (fBin gMul (fVar 3) (fVar 6))) [5, 6])) fNil)) frNil)))))
def g__merged : FG := bodyG 7 F__merged
def F__balanced_at : FS := (fSeq (fSetN 2 (fComp (iOf (fVar 0)) (fPut0 8) (fTB (fBin gEq (fBin gIx (fIxV 8 (fC (.int 1))) (fVar 1)) (fC (.int 0)))) (fVar 8) [8]))
 (fSeq (fSet 3 (fGive (fComp (iOf (fVar 0)) (fPut0 8) (fTB (fBin gGt (fBin gIx (fIxV 8 (fC (.int 1))) (fVar 1)) (fC (.int 0)))) (fVar 8) [8])))
 (fSeq (fSet 4 (fGive (fComp (iOf (fVar 0)) (fPut0 8) (fTB (fBin gLt (fBin gIx (fIxV 8 (fC (.int 1))) (fVar 1)) (fC (.int 0)))) (fVar 8) [8])))
 (fSeq (fFor (iOf (fVar 3)) (fPut0 5)
 (fFor (iOf (fVar 4)) (fPut0 6)
 (fSeq (fSet 7 (fBin gBor (fIxV 5 (fC (.int 0))) (fIxV 6 (fC (.int 0)))))
 (fIfS (fAnd (fTru (fCall 2 g__has_at_most (frD (fVar 7) (frD (fBin gAdd (fVar 1) (fC (.int 2))) frNil)))) (fTru (fCall 3 g__are_neighbours (frD (fVar 0) (frD (fIxV 5 (fC (.int 0))) (frD (fIxV 6 (fC (.int 0))) frNil)))))) (fApp 2 (fTup (fCons (fVar 7) (fCons (fCall 3 g__merged (frD (fIxV 5 (fC (.int 1))) (frD (fIxV 6 (fC (.int 1))) (frD (fVar 1) frNil)))) fNil))))
 fSkip))))
 (fFrz 2 (fRet (fVar 2)))))))
def g__balanced_at : FG := bodyG 9 F__balanced_at
def F__balances : FS := (fSeq (fSetN 2 (fLst fNil))
 (fSeq (fFor (iEnumF (fCons (fVar 0) fNil)) (gTupF 2 (gsCons (fPut0 3) (gsCons (fPut0 4) gsNil)))
 (fSeq (fSet 5 (fN gTuple (fCons (fGive (fComp (iRange1 (fCons (fLenV 0) fNil)) (fPut0 9) fYes (fIf (fTB (fBin gEq (fVar 9) (fVar 3))) (fC (.int 1)) (fC (.int 0))) [9])) fNil)))
 (fApp 2 (fTup (fCons (fBin gShl (fC (.int 1)) (fVar 3)) (fCons (fBin gAdd (fVar 4) (fVar 5)) fNil))))))
 (fSeq (fFor (iRange1 (fCons (fVar 1) fNil)) (fPut0 6)
 (fFrz 2 (fSet 2 (fCall 2 g__balanced_at (frD (fVar 2) (frD (fVar 6) frNil))))))
 (fFrz 2 (fRet (fGive (fComp (iOf (fVar 2)) (gTupF 2 (gsCons (fPut0 7) (gsCons (fPut0 8) gsNil))) fYes (fSlice (fVar 8) (fPart (fVar 1)) fNoP) [7, 8])))))))
def g__balances : FG := bodyG 10 F__balances
def F__sort_key : FS := (fRet (fTup (fCons (fLenV 0) (fCons (fN gTuple (fCons (fGive (fComp (iOf (fVar 0)) (gTupF 2 (gsCons (fPut0 1) (gsCons (fPut0 2) gsNil))) fYes (fVar 1) [1, 2])) fNil)) fNil))))
def g__sort_key : FG := bodyG 3 F__sort_key
def F__negated : FS := (fRet (fN gTuple (fCons (fGive (fComp (iOf (fVar 0)) (fPut0 1) fYes (fUn gNeg (fVar 1)) [1])) fNil)))
def g__negated : FG := bodyG 2 F__negated
def F__weights_of : FS := (fRet (fN gTuple (fCons (fGive (fComp (iEnumF (fCons (fVar 0) fNil)) (gTupF 2 (gsCons (fPut0 2) (gsCons (fPut0 3) gsNil))) (fTB (fBin gGt (fVar 3) (fC (.int 0)))) (fTup (fCons (fVar 2) (fCons (fCall 2 g_fraction (frD (fVar 3) (frD (fVar 1) frNil))) fNil))) [2, 3])) fNil)))
def g__weights_of : FG := bodyG 4 F__weights_of
def F_ways : FY := (ySeq (yPlain (fSetN 2 (fLst fNil)))
 (ySeq (yPlain (fFor (iOf (fCall 2 g__balances (frD (fBin gAdd (fVar 0) (fTup (fCons (fCall 1 g__negated (frD (fVar 1) frNil)) fNil))) (frD (fLenV 1) frNil)))) (fPut0 3)
 (fSeq (fSet 4 (fIxV 3 (fUn gNeg (fC (.int 1)))))
 (fIfS (fTB (fBin gGt (fVar 4) (fC (.int 0)))) (fApp 2 (fCall 2 g__weights_of (frD (fSlice (fVar 3) fNoP (fPart (fUn gNeg (fC (.int 1))))) (frD (fVar 4) frNil))))
 fSkip))))
 (ySeq (yFrz 2 (yFor (iOf (fGive (fSortK g__sort_key (fVar 2)))) (fPut0 5)
 (ySeq (yYield (fVar 5))
 yNil)))
 yNil)))
def g_ways : FGY := bodyY 6 F_ways
def F__law_bag : FO := (fLst (fCons (fGive (fListOf (fCons (fSlice (fVar 0) fNoP (fPart (fC (.int 63)))) fNil))) (fCons (fC (.int 0)) (fCons (fC (.int 0)) (fCons (fC (.int 0)) (fCons (fC (.int 1)) fNil))))))
def g__law_bag : FGN := bodyN 1 F__law_bag
def F__law_draw : FS := (fSeq (fSetIx 0 (fC (.int 3)) (fBin gAdd (fIxV 0 (fC (.int 3))) (fC (.int 1))))
 (fSeq (fSet 2 (fBin gMul (fIxV 0 (fC (.int 3))) (fC (.int 7919))))
 (fSeq (fIfS (fAnd (fTB (fBin gEq (fIxV 0 (fC (.int 2))) (fC (.int 0)))) (fTB (fBin gLt (fIxV 0 (fC (.int 1))) (fN gLen (fCons (fIxV 0 (fC (.int 0))) fNil))))) (fSeq (fSet 2 (fBin gIx (fIxV 0 (fC (.int 0))) (fIxV 0 (fC (.int 1)))))
 (fSeq (fSetIx 0 (fC (.int 1)) (fBin gAdd (fIxV 0 (fC (.int 1))) (fC (.int 1))))
 (fIfS (fTB (fBin gGe (fVar 2) (fBin gPow (fC (.int 10)) (fC (.int 18))))) (fSetIx 0 (fC (.int 2)) (fVar 2))
 fSkip)))
 fSkip)
 (fSeq (fIfS (fTB (fBin gGt (fIxV 0 (fC (.int 2))) (fC (.int 0)))) (fSeq (fSet 3 (fBin gMod (fN gInt (fCons (fIxV 0 (fC (.int 2))) fNil)) (fVar 1)))
 (fSeq (fSetIx 0 (fC (.int 2)) (fBin gDiv (fN gInt (fCons (fIxV 0 (fC (.int 2))) fNil)) (fVar 1)))
 (fRet (fVar 3))))
 fSkip)
 (fSeq (fSetIx 0 (fC (.int 4)) (fBin gMod (fN gInt (fCons (fBin gAdd (fBin gAdd (fBin gMul (fIxV 0 (fC (.int 4))) (fC (.int 48271))) (fBin gMul (fVar 2) (fC (.int 69621)))) (fC (.int 11))) fNil)) (fC (.int 2147483647))))
 (fSeq (fSet 4 (fBin gMod (fN gInt (fCons (fBin gAdd (fBin gMul (fIxV 0 (fC (.int 4))) (fIxV 0 (fC (.int 4)))) (fBin gMul (fIxV 0 (fC (.int 3))) (fC (.int 40692)))) fNil)) (fC (.int 2147483563))))
 (fRet (fBin gMod (fN gInt (fCons (fBin gDiv (fVar 4) (fC (.int 8))) fNil)) (fVar 1)))))))))
def g__law_draw : FG := bodyG 5 F__law_draw
def F__law_same (gself : FG) : FS := (fSeq (fIfS (fOr (fTru (fN gIsi (fCons (fVar 1) (fCons (fC (.ty "tuple")) fNil)))) (fTru (fN gIsi (fCons (fVar 1) (fCons (fC (.ty "list")) fNil))))) (fSeq (fIfS (fAnd (fNot (fTru (fN gIsi (fCons (fVar 0) (fCons (fC (.ty "tuple")) fNil))))) (fNot (fTru (fN gIsi (fCons (fVar 0) (fCons (fC (.ty "list")) fNil)))))) (fRet (fC (.bl false)))
 fSkip)
 (fSeq (fIfS (fOr (fTB (fBin gNe (fN gIsi (fCons (fVar 0) (fCons (fC (.ty "tuple")) fNil))) (fN gIsi (fCons (fVar 1) (fCons (fC (.ty "tuple")) fNil))))) (fTB (fBin gNe (fLenV 0) (fLenV 1)))) (fRet (fC (.bl false)))
 fSkip)
 (fSeq (fFor (iRange1 (fCons (fLenV 1) fNil)) (fPut0 2)
 (fIfS (fNot (fTru (fCall 2 gself (frD (fIxV 0 (fVar 2)) (frD (fIxV 1 (fVar 2)) frNil))))) (fRet (fC (.bl false)))
 fSkip))
 (fRet (fC (.bl true))))))
 fSkip)
 (fSeq (fIfS (fTB (fBin gIsN (fVar 1) (fC .non))) (fRet (fBin gIsN (fVar 0) (fC .non)))
 fSkip)
 (fSeq (fIfS (fTru (fN gIsi (fCons (fVar 1) (fCons (fC (.ty "str")) fNil)))) (fRet (fAndV (fN gIsi (fCons (fVar 0) (fCons (fC (.ty "str")) fNil))) (fBin gEq (fVar 0) (fVar 1))))
 fSkip)
 (fRet (fAndV (fN gIsi (fCons (fVar 0) (fCons (fC (.ty "int")) fNil))) (fAndV (fNotV (fN gIsi (fCons (fVar 0) (fCons (fC (.ty "bool")) fNil)))) (fBin gEq (fVar 0) (fVar 1))))))))
def g__law_same : Nat → FG
  | 0 => fun _ => none
  | n + 1 => bodyG 3 (F__law_same (g__law_same n))
def F__law_gcd : FS := (fSeq (fSet 0 (fN gAbs (fCons (fVar 0) fNil)))
 (fSeq (fSet 1 (fN gAbs (fCons (fVar 1) fNil)))
 (fSeq (fFor (iRange1 (fCons (fC (.int 3000)) fNil)) (fPut0 2)
 (fSeq (fIfS (fTB (fBin gEq (fVar 1) (fC (.int 0)))) (fRet (fVar 0))
 fSkip)
 (fSeq (fSet 3 (fBin gMod (fN gInt (fCons (fVar 0) fNil)) (fVar 1)))
 (fSeq (fSet 0 (fVar 1))
 (fSet 1 (fVar 3))))))
 (fRet (fC (.int 1))))))
def g__law_gcd : FG := bodyG 4 F__law_gcd
def F__law_fraction : FS := (fSeq (fIfS (fTB (fBin gLt (fVar 1) (fC (.int 0)))) (fSeq (fSet 0 (fUn gNeg (fVar 0)))
 (fSet 1 (fUn gNeg (fVar 1))))
 fSkip)
 (fSeq (fSet 2 (fCall 2 g__law_gcd (frD (fVar 0) (frD (fVar 1) frNil))))
 (fRet (fTup (fCons (fBin gDiv (fVar 0) (fVar 2)) (fCons (fBin gDiv (fVar 1) (fVar 2)) fNil))))))
def g__law_fraction : FG := bodyG 3 F__law_fraction
def F__law_row : FS := (fRet (fN gTuple (fCons (fGive (fComp (iRange1 (fCons (fVar 1) fNil)) (fPut0 3) fYes (fBin gMinus (fCall 2 g__law_draw (frR 0 (frD (fBin gAdd (fBin gMul (fC (.int 2)) (fVar 2)) (fC (.int 1))) frNil))) (fVar 2)) [3])) fNil)))
def g__law_row : FG := bodyG 4 F__law_row
def F__law_many : FS := (fSeq (fSet 2 (fBin gIx (fGive (fLst (fCons (fUn gNeg (fC (.int 1))) (fCons (fC (.int 1)) (fCons (fUn gNeg (fC (.int 2))) (fCons (fC (.int 2)) (fCons (fUn gNeg (fC (.int 3))) (fCons (fC (.int 3)) fNil)))))))) (fCall 2 g__law_draw (frR 0 (frD (fC (.int 6)) frNil)))))
 (fSeq (fIfS (fTB (fBin gGt (fBin gMul (fN gMax (fCons (fGive (fCatN (fLst (fCons (fC (.int 0)) fNil)) (fComp (iOf (fVar 1)) (fPut0 3) fYes (fN gAbs (fCons (fVar 3) fNil)) [3]))) fNil)) (fN gAbs (fCons (fVar 2) fNil))) (fC (.int 1000)))) (fSet 2 (fBin gDiv (fVar 2) (fN gAbs (fCons (fVar 2) fNil))))
 fSkip)
 (fRet (fN gTuple (fCons (fGive (fComp (iOf (fVar 1)) (fPut0 3) fYes (fBin gMul (fVar 2) (fVar 3)) [3])) fNil)))))
def g__law_many : FG := bodyG 4 F__law_many
def F__law_rows : FS := (fSeq (fSetN 4 (fLst fNil))
 (fSeq (fFor (iRange1 (fCons (fVar 2) fNil)) (fPut0 5)
 (fSeq (fSet 6 (fCall 2 g__law_draw (frR 0 (frD (fC (.int 5)) frNil))))
 (fIfS (fAnd (fTB (fBin gEq (fVar 6) (fC (.int 0)))) (fTruV 4)) (fApp 4 (fCall 2 g__law_many (frR 0 (frD (fIxV 4 (fCall 2 g__law_draw (frR 0 (frD (fLenV 4) frNil)))) frNil))))
 (fIfS (fTB (fBin gEq (fVar 6) (fC (.int 1)))) (fApp 4 (fCall 3 g__law_row (frR 0 (frD (fVar 1) (frD (fC (.int 1)) frNil)))))
 (fApp 4 (fCall 3 g__law_row (frR 0 (frD (fVar 1) (frD (fVar 3) frNil)))))))))
 (fFrz 4 (fRet (fN gTuple (fCons (fVar 4) fNil))))))
def g__law_rows : FG := bodyG 7 F__law_rows
def F__law_aim : FS := (fSeq (fSet 4 (fCall 2 g__law_draw (frR 0 (frD (fC (.int 4)) frNil))))
 (fSeq (fIfS (fTB (fBin gEq (fVar 4) (fC (.int 0)))) (fRet (fN gTuple (fCons (fGive (fComp (iRange1 (fCons (fVar 2) fNil)) (fPut0 9) fYes (fC (.int 0)) [9])) fNil)))
 fSkip)
 (fSeq (fSet 5 (fGive (fComp (iRange1 (fCons (fVar 2) fNil)) (fPut0 9) fYes (fC (.int 0)) [9])))
 (fSeq (fFor (iRange1 (fCons (fC (.int 3)) fNil)) (fPut0 6)
 (fIfS (fAnd (fTB (fBin gGt (fVar 4) (fC (.int 1)))) (fTruV 1)) (fSeq (fSet 7 (fIxV 1 (fCall 2 g__law_draw (frR 0 (frD (fLenV 1) frNil)))))
 (fSeq (fSet 8 (fCall 2 g__law_draw (frR 0 (frD (fC (.int 4)) frNil))))
 (fSet 5 (fGive (fComp (iRange1 (fCons (fVar 2) fNil)) (fPut0 9) fYes (fBin gAdd (fIxV 5 (fVar 9)) (fBin gMul (fVar 8) (fIxV 7 (fVar 9)))) [9])))))
 fSkip))
 (fSeq (fIfS (fOr (fTB (fBin gEq (fVar 4) (fC (.int 1)))) (fOr (fNot (fTruV 1)) (fTB (fBin gGt (fN gMax (fCons (fGive (fCatN (fLst (fCons (fC (.int 0)) fNil)) (fComp (iOf (fVar 5)) (fPut0 10) fYes (fN gAbs (fCons (fVar 10) fNil)) [10]))) fNil)) (fC (.int 1000)))))) (fRet (fCall 3 g__law_row (frR 0 (frD (fVar 2) (frD (fVar 3) frNil)))))
 fSkip)
 (fRet (fN gTuple (fCons (fVar 5) fNil))))))))
def g__law_aim : FG := bodyG 11 F__law_aim
def F__law_sets : FS := (fSeq (fSet 2 (fGive (fLst (fCons (fTup fNil) fNil))))
 (fSeq (fFor (iRange1 (fCons (fVar 1) fNil)) (fPut0 3)
 (fSeq (fSetN 4 (fLst fNil))
 (fSeq (fFor (iOf (fVar 2)) (fPut0 5)
 (fFor (iRange2 (fCons (fIf (fTruV 5) (fBin gAdd (fIxV 5 (fUn gNeg (fC (.int 1)))) (fC (.int 1))) (fC (.int 0))) (fCons (fVar 0) fNil))) (fPut0 6)
 (fApp 4 (fBin gAdd (fVar 5) (fTup (fCons (fVar 6) fNil))))))
 (fFrz 4 (fSet 2 (fVar 4))))))
 (fRet (fVar 2))))
def g__law_sets : FG := bodyG 7 F__law_sets
def F__law_weights : FS := (fSeq (fSetN 3 (fComp (iRange1 (fCons (fLenV 1) fNil)) (fPut0 2) fYes (fGive (fCatN (fComp (iOf (fVar 0)) (fPut0 8) fYes (fIxV 8 (fVar 2)) [8]) (fLst (fCons (fIxV 1 (fVar 2)) fNil)))) [2]))
 (fSeq (fFor (iRange1 (fCons (fLenV 0) fNil)) (fPut0 4)
 (fSeq (fSet 5 (fGive (fComp (iRange2 (fCons (fVar 4) (fCons (fLenV 3) fNil))) (fPut0 2) (fTB (fBin gNe (fBin gIx (fIxV 3 (fVar 2)) (fVar 4)) (fC (.int 0)))) (fVar 2) [2])))
 (fSeq (fIfS (fNot (fTruV 5)) (fRet (fC .non))
 fSkip)
 (fSeq (fSet 6 (fIxV 3 (fIxV 5 (fC (.int 0)))))
 (fSeq (fSetIx 3 (fIxV 5 (fC (.int 0))) (fIxV 3 (fVar 4)))
 (fSeq (fSetIx 3 (fVar 4) (fVar 6))
 (fFor (iRange1 (fCons (fLenV 3) fNil)) (fPut0 2)
 (fIfS (fTB (fBin gNe (fVar 2) (fVar 4))) (fSeq (fSet 7 (fIxV 3 (fVar 2)))
 (fSetIx 3 (fVar 2) (fGive (fComp (iRange1 (fCons (fLenV 6) fNil)) (fPut0 9) fYes (fBin gMinus (fBin gMul (fIxV 6 (fVar 4)) (fIxV 7 (fVar 9))) (fBin gMul (fIxV 7 (fVar 4)) (fIxV 6 (fVar 9)))) [9]))))
 fSkip))))))))
 (fSeq (fFor (iRange2 (fCons (fLenV 0) (fCons (fLenV 3) fNil))) (fPut0 2)
 (fIfS (fTB (fBin gNe (fBin gIx (fIxV 3 (fVar 2)) (fLenV 0)) (fC (.int 0)))) (fRet (fC .non))
 fSkip))
 (fRet (fGive (fComp (iRange1 (fCons (fLenV 0) fNil)) (fPut0 4) fYes (fCall 2 g__law_fraction (frD (fBin gIx (fIxV 3 (fVar 4)) (fLenV 0)) (frD (fBin gIx (fIxV 3 (fVar 4)) (fVar 4)) frNil))) [4]))))))
def g__law_weights : FG := bodyG 10 F__law_weights
def F__law_all_ways : FS := (fSeq (fSetN 2 (fLst fNil))
 (fSeq (fFor (iRange1 (fCons (fBin gAdd (fLenV 1) (fC (.int 1))) fNil)) (fPut0 3)
 (fFor (iOf (fCall 2 g__law_sets (frD (fLenV 0) (frD (fVar 3) frNil)))) (fPut0 4)
 (fSeq (fSet 5 (fCall 2 g__law_weights (frD (fGive (fComp (iOf (fVar 4)) (fPut0 6) fYes (fIxV 0 (fVar 6)) [6])) (frD (fVar 1) frNil))))
 (fIfS (fAnd (fTB (fBin gNotN (fVar 5) (fC .non))) (fTru (fN gAll (fCons (fGive (fComp (iOf (fVar 5)) (fPut0 7) fYes (fBin gGt (fIxV 7 (fC (.int 0))) (fC (.int 0))) [7])) fNil)))) (fApp 2 (fN gTuple (fCons (fGive (fComp (iRange1 (fCons (fVar 3) fNil)) (fPut0 8) fYes (fTup (fCons (fIxV 4 (fVar 8)) (fCons (fIxV 5 (fVar 8)) fNil))) [8])) fNil)))
 fSkip))))
 (fFrz 2 (fRet (fVar 2)))))
def g__law_all_ways : FG := bodyG 9 F__law_all_ways
def F_law : FS := (fSeq (fSetN 1 (fCallN 1 g__law_bag (fCons (fVar 0) fNil)))
 (fSeq (fSet 2 (fCall 2 g__law_draw (frR 1 (frD (fC (.int 12)) frNil))))
 (fSeq (fSet 3 (fBin gIx (fGive (fLst (fCons (fC (.int 2)) (fCons (fC (.int 2)) (fCons (fC (.int 2)) (fCons (fC (.int 2)) (fCons (fC (.int 3)) (fCons (fC (.int 3)) (fCons (fC (.int 3)) (fCons (fC (.int 1)) (fCons (fC (.int 1)) (fCons (fC (.int 4)) (fCons (fC (.int 5)) (fCons (fC (.int 0)) fNil)))))))))))))) (fVar 2)))
 (fSeq (fSet 4 (fBin gIx (fGive (fLst (fCons (fC (.int 4)) (fCons (fC (.int 12)) (fCons (fC (.int 10)) (fCons (fC (.int 8)) (fCons (fC (.int 6)) (fCons (fC (.int 6)) fNil)))))))) (fVar 3)))
 (fSeq (fIfS (fTB (fBin gEq (fVar 2) (fC (.int 0)))) (fSet 4 (fC (.int 20)))
 fSkip)
 (fSeq (fSet 5 (fBin gIx (fGive (fLst (fCons (fC (.int 1)) (fCons (fC (.int 2)) (fCons (fC (.int 3)) (fCons (fC (.int 9)) (fCons (fC (.int 300)) (fCons (fC (.int 1000)) fNil)))))))) (fCall 2 g__law_draw (frR 1 (frD (fC (.int 6)) frNil)))))
 (fSeq (fSet 6 (fCall 4 g__law_rows (frR 1 (frD (fVar 3) (frD (fCall 2 g__law_draw (frR 1 (frD (fBin gAdd (fVar 4) (fC (.int 1))) frNil))) (frD (fVar 5) frNil))))))
 (fSeq (fSet 7 (fCall 4 g__law_aim (frR 1 (frD (fVar 6) (frD (fVar 3) (frD (fVar 5) frNil))))))
 (fRet (fCall 2 (g__law_same 6) (frD (fGive (fListG 2 g_ways (fCons (fVar 6) (fCons (fVar 7) fNil)))) (frD (fCall 2 g__law_all_ways (frD (fVar 6) (frD (fVar 7) frNil))) frNil))))))))))))
def g_law : FG := bodyG 8 F_law
end W20
end

section
set_option Elab.async false
set_option linter.all false
set_option maxRecDepth 100000
namespace W20
open PySem L2 DL
/-! printed by wip/gen.py -/
def top (i : Nat) : Stmt := PySem.Challenge.pw_leaprungs_k20_whole_ways_for_an_aim.main.body.getD i (.Pass ⟨0, 0, 0, 0⟩)
structure Txt (mg : Str → Option Value) : Prop where
  m_gcd : mg "gcd" = some (.builtin "math.gcd")
  b_tuple : mg "tuple" = none
  b_range : mg "range" = none
  b_zip : mg "zip" = none
  b_enumerate : mg "enumerate" = none
  b_len : mg "len" = none
  b_sorted : mg "sorted" = none
  b_list : mg "list" = none
  b_int : mg "int" = none
  b_isinstance : mg "isinstance" = none
  b_str : mg "str" = none
  b_bool : mg "bool" = none
  b_abs : mg "abs" = none
  b_max : mg "max" = none
  b_all : mg "all" = none
abbrev s_fraction : Stmt := top 5
abbrev N_fraction : List Str := ["top", "bottom", "divisor"]
abbrev s_primitive : Stmt := top 7
abbrev N_primitive : List Str := ["row", "divisor", "entry"]
abbrev s__has_at_most : Stmt := top 15
abbrev N__has_at_most : List Str := ["bits", "most", "_"]
abbrev s__are_neighbours : Stmt := top 16
abbrev N__are_neighbours : List Str := ["found", "first", "second", "both", "used", "_"]
abbrev s__merged : Stmt := top 17
abbrev N__merged : List Str := ["first", "second", "column", "rise", "fall", "one", "other"]
abbrev s__balanced_at : Stmt := top 14
abbrev N__balanced_at : List Str := ["found", "column", "kept", "rising", "falling", "first", "second", "used", "pair"]
abbrev s__balances : Stmt := top 13
abbrev N__balances : List Str := ["vectors", "size", "found", "number", "vector", "single", "column", "_", "entries", "other"]
abbrev s__sort_key : Stmt := top 12
abbrev N__sort_key : List Str := ["weights", "number", "_"]
abbrev s__negated : Stmt := top 10
abbrev N__negated : List Str := ["row", "entry"]
abbrev s__weights_of : Stmt := top 11
abbrev N__weights_of : List Str := ["balance", "share", "number", "entry"]
abbrev s_ways : Stmt := top 9
abbrev N_ways : List Str := ["rows", "aim", "found", "balance", "share", "weights"]
abbrev s__law_bag : Stmt := top 19
abbrev N__law_bag : List Str := ["_law_script"]
abbrev s__law_draw : Stmt := top 20
abbrev N__law_draw : List Str := ["_law_bag_here", "_law_size", "_law_cell", "_law_digit", "_law_mixed"]
abbrev s__law_same : Stmt := top 21
abbrev N__law_same : List Str := ["_law_value", "_law_due", "_law_k"]
abbrev s__law_gcd : Stmt := top 22
abbrev N__law_gcd : List Str := ["_law_first", "_law_second", "_law_k", "_law_rest"]
abbrev s__law_fraction : Stmt := top 23
abbrev N__law_fraction : List Str := ["_law_top", "_law_bottom", "_law_common"]
abbrev s__law_row : Stmt := top 24
abbrev N__law_row : List Str := ["_law_bag_here", "_law_width", "_law_most", "_law_j"]
abbrev s__law_many : Stmt := top 25
abbrev N__law_many : List Str := ["_law_bag_here", "_law_row_here", "_law_factor", "_law_x"]
abbrev s__law_rows : Stmt := top 26
abbrev N__law_rows : List Str := ["_law_bag_here", "_law_width", "_law_many_here", "_law_most", "_law_rows_here", "_law_k", "_law_way"]
abbrev s__law_aim : Stmt := top 27
abbrev N__law_aim : List Str := ["_law_bag_here", "_law_rows_here", "_law_width", "_law_most", "_law_way", "_law_aim_here", "_law_k", "_law_row_here", "_law_times", "_law_j", "_law_x"]
abbrev s__law_sets : Stmt := top 28
abbrev N__law_sets : List Str := ["_law_many_here", "_law_size", "_law_found", "_law_k", "_law_longer", "_law_one", "_law_at"]
abbrev s__law_weights : Stmt := top 29
abbrev N__law_weights : List Str := ["_law_rows_here", "_law_aim_here", "_law_j", "_law_lines", "_law_k", "_law_spots", "_law_line", "_law_other", "_law_row_here", "_law_i"]
abbrev s__law_all_ways : Stmt := top 30
abbrev N__law_all_ways : List Str := ["_law_rows_here", "_law_aim_here", "_law_due", "_law_size", "_law_chosen", "_law_weights_here", "_law_at", "_law_one", "_law_k"]
abbrev s_law : Stmt := top 31
abbrev N_law : List Str := ["_law_script", "_law_bag_here", "_law_shape", "_law_width", "_law_cap", "_law_most", "_law_rows_here", "_law_aim_here"]
section
variable {P : Program} {w : World} {K : PySem.W.Frag} {mg : Str → Option Value} {base : Heap}
theorem sc_fraction : FnScope N_fraction ["top", "bottom"] (defScope s_fraction) := ⟨rfl, rfl, rfl, by decide +kernel, rfl, by decide +kernel, by decide +kernel⟩
set_option maxHeartbeats 4000000 in
theorem ok_fraction (T : Txt mg)  (B : Def K mg "fraction" s_fraction ["top", "bottom"]) : Cal P w K mg base "fraction" 1 2 g_fraction := by
  have nd : (N_fraction).Nodup := sc_fraction.nd
  exact B.cal (N := N_fraction) (F := F_fraction) sc_fraction rfl fun f cdv A outer s H E hr => ⟨_,
      (dss_cons (ds_if (dt_cmp (op_eqD hr.units) q_eq (de_var 1) de_int (nomark _)) (dss_one ds_never)
       dss_nil)
       (dss_cons (ds_set 2 nd (de_callF cr_gcd q_gcd rfl T.m_gcd (da_cons (de_var 0) (da_cons (de_var 1) da_nil))))
       (dss_cons (ds_if (dt_cmp op_lt q_lt (de_var 1) de_int (nomark _)) (dss_one (ds_set 2 nd (de_neg (de_var 2))))
       dss_nil)
       (dss_one (ds_ret (de_tup (da_cons (de_div (de_var 0) (de_var 2)) (da_cons (de_div (de_var 1) (de_var 2)) da_nil))))))))⟩
theorem sc_primitive : FnScope N_primitive ["row"] (defScope s_primitive) := ⟨rfl, rfl, rfl, by decide +kernel, rfl, by decide +kernel, by decide +kernel⟩
set_option maxHeartbeats 4000000 in
theorem ok_primitive (T : Txt mg)  (B : Def K mg "primitive" s_primitive ["row"]) : Cal P w K mg base "primitive" 1 1 g_primitive := by
  have nd : (N_primitive).Nodup := sc_primitive.nd
  exact B.cal (N := N_primitive) (F := F_primitive) sc_primitive rfl fun f cdv A outer s H E hr => ⟨_,
      (dss_cons (ds_set 1 nd de_int)
       (dss_cons (ds_for PassesOwn.never rfl (di_seq (de_var 0)) (dg_name 2 nd)
       (dss_cons (ds_set 1 nd (de_callF cr_gcd q_gcd rfl T.m_gcd (da_cons (de_var 1) (da_cons (de_var 2) da_nil))))
       (dss_one (ds_if (dt_cmp (op_eqD hr.units) q_eq (de_var 1) de_int (nomark _)) (dss_one (ds_ret (de_callTy call_tuple_of q_tuple rfl T.b_tuple PyProof.Rows.boot_tuple (da_cons (de_var 0) da_nil))))
       dss_nil))))
       (dss_cons (ds_if (dt_cmp (op_eqD hr.units) q_eq (de_var 1) de_int (nomark _)) (dss_one (ds_ret (de_callTy call_tuple_of q_tuple rfl T.b_tuple PyProof.Rows.boot_tuple (da_cons (de_var 0) da_nil))))
       dss_nil)
       (dss_one (ds_ret (de_callTy call_tuple_of q_tuple rfl T.b_tuple PyProof.Rows.boot_tuple (da_cons (de_give (dn_lc rfl nd (di_seq (de_var 0)) (blkOk_by (own := [("entry", 2)]) (N := N_primitive) (sc := defScope s_primitive) (by decide +kernel)) (fun _ _ _ _ _ => ⟨_, (dg_name 2 nd)⟩) (fun _ _ _ _ _ => ⟨_, dts_nil⟩) (fun _ _ _ _ _ => ⟨_, (de_div (de_var 2) (de_var 1))⟩))) da_nil)))))))⟩
theorem sc__has_at_most : FnScope N__has_at_most ["bits", "most"] (defScope s__has_at_most) := ⟨rfl, rfl, rfl, by decide +kernel, rfl, by decide +kernel, by decide +kernel⟩
set_option maxHeartbeats 4000000 in
theorem ok__has_at_most (T : Txt mg)  (B : Def K mg "_has_at_most" s__has_at_most ["bits", "most"]) : Cal P w K mg base "_has_at_most" 1 2 g__has_at_most := by
  have nd : (N__has_at_most).Nodup := sc__has_at_most.nd
  exact B.cal (N := N__has_at_most) (F := F__has_at_most) sc__has_at_most rfl fun f cdv A outer s H E hr => ⟨_,
      (dss_cons (ds_for PassesOwn.never rfl (di_range1 rfl T.b_range (da_cons (de_var 1) da_nil)) (dg_name 2 nd)
       (dss_cons (ds_set 0 nd (de_band (de_var 0) (de_sub (de_var 0) de_int)))
       (dss_one (ds_if (dt_cmp (op_eqD hr.units) q_eq (de_var 0) de_int (nomark _)) (dss_one (ds_ret de_bl))
       dss_nil))))
       (dss_one (ds_ret de_bl)))⟩
theorem sc__are_neighbours : FnScope N__are_neighbours ["found", "first", "second"] (defScope s__are_neighbours) := ⟨rfl, rfl, rfl, by decide +kernel, rfl, by decide +kernel, by decide +kernel⟩
set_option maxHeartbeats 4000000 in
theorem ok__are_neighbours (T : Txt mg)  (B : Def K mg "_are_neighbours" s__are_neighbours ["found", "first", "second"]) : Cal P w K mg base "_are_neighbours" 1 3 g__are_neighbours := by
  have nd : (N__are_neighbours).Nodup := sc__are_neighbours.nd
  exact B.cal (N := N__are_neighbours) (F := F__are_neighbours) sc__are_neighbours rfl fun f cdv A outer s H E hr => ⟨_,
      (dss_cons (ds_set 3 nd (de_bor (de_var 1) (de_var 2)))
       (dss_cons (ds_for PassesOwn.never rfl (di_seq (de_var 0)) (dg_tup rfl (dgs_cons (dg_name 4 nd) (dgs_cons (dg_name 5 nd) dgs_nil)))
       (dss_one (ds_if (dt_w (dw_and (dt_cmp (op_eqD hr.units) q_eq (de_bor (de_var 4) (de_var 3)) (de_var 3) (nomark _)) (dw_and (dt_cmp (op_neD hr.units) q_ne (de_var 4) (de_var 1) (nomark _)) (dw_and1 (dt_cmp (op_neD hr.units) q_ne (de_var 4) (de_var 2) (nomark _)))))) (dss_one (ds_ret de_bl))
       dss_nil)))
       (dss_one (ds_ret de_bl))))⟩
theorem sc__merged : FnScope N__merged ["first", "second", "column"] (defScope s__merged) := ⟨rfl, rfl, rfl, by decide +kernel, rfl, by decide +kernel, by decide +kernel⟩
set_option maxHeartbeats 4000000 in
theorem ok__merged (T : Txt mg) (C_primitive : Cal P w K mg base "primitive" 1 1 g_primitive) (B : Def K mg "_merged" s__merged ["first", "second", "column"]) : Cal P w K mg base "_merged" 2 3 g__merged := by
  have nd : (N__merged).Nodup := sc__merged.nd
  obtain ⟨f_primitive, fd_primitive, ps_primitive, F_of_primitive, b_primitive, m_primitive, k_primitive⟩ := C_primitive.ex
  exact B.cal (N := N__merged) (F := F__merged) sc__merged rfl fun f cdv A outer s H E hr => ⟨_,
      (dss_cons (ds_set 3 nd (de_ixV 0 (de_var 2)))
       (dss_cons (ds_set 4 nd (de_neg (de_ixV 1 (de_var 2))))
       (dss_one (ds_ret (de_call F_of_primitive (hr.mono (by decide)) rfl m_primitive k_primitive b_primitive (dr_d (de_callTy call_tuple_of q_tuple rfl T.b_tuple PyProof.Rows.boot_tuple (da_cons (de_give (dn_lc rfl nd (di_zip rfl T.b_zip (da_cons (de_var 0) (da_cons (de_var 1) da_nil))) (blkOk_by (own := [("one", 5), ("other", 6)]) (N := N__merged) (sc := defScope s__merged) (by decide +kernel)) (fun _ _ _ _ _ => ⟨_, (dg_tup rfl (dgs_cons (dg_name 5 nd) (dgs_cons (dg_name 6 nd) dgs_nil)))⟩) (fun _ _ _ _ _ => ⟨_, dts_nil⟩) (fun _ _ _ _ _ => ⟨_, (de_add (de_mul (de_var 4) (de_var 5)) (de_mul (de_var 3) (de_var 6)))⟩))) da_nil)) dr_nil))))))⟩
theorem sc__balanced_at : FnScope N__balanced_at ["found", "column"] (defScope s__balanced_at) := ⟨rfl, rfl, rfl, by decide +kernel, rfl, by decide +kernel, by decide +kernel⟩
set_option maxHeartbeats 4000000 in
theorem ok__balanced_at (T : Txt mg) (C__has_at_most : Cal P w K mg base "_has_at_most" 1 2 g__has_at_most) (C__are_neighbours : Cal P w K mg base "_are_neighbours" 1 3 g__are_neighbours) (C__merged : Cal P w K mg base "_merged" 2 3 g__merged) (B : Def K mg "_balanced_at" s__balanced_at ["found", "column"]) : Cal P w K mg base "_balanced_at" 3 2 g__balanced_at := by
  have nd : (N__balanced_at).Nodup := sc__balanced_at.nd
  obtain ⟨f__has_at_most, fd__has_at_most, ps__has_at_most, F_of__has_at_most, b__has_at_most, m__has_at_most, k__has_at_most⟩ := C__has_at_most.ex
  obtain ⟨f__are_neighbours, fd__are_neighbours, ps__are_neighbours, F_of__are_neighbours, b__are_neighbours, m__are_neighbours, k__are_neighbours⟩ := C__are_neighbours.ex
  obtain ⟨f__merged, fd__merged, ps__merged, F_of__merged, b__merged, m__merged, k__merged⟩ := C__merged.ex
  exact B.cal (N := N__balanced_at) (F := F__balanced_at) sc__balanced_at rfl fun f cdv A outer s H E hr => ⟨_,
      (dss_cons (ds_setLcN 2 rfl nd (di_seq (de_var 0)) (blkOk_by (own := [("pair", 8)]) (N := N__balanced_at) (sc := defScope s__balanced_at) (by decide +kernel)) (fun _ _ _ _ _ => ⟨_, (dg_name 8 nd)⟩) (fun _ _ _ _ _ => ⟨_, (dts_one (dt_cmp (op_eqD hr.units) q_eq (de_sub_ix (de_ixV 8 de_int) (de_var 1)) de_int (nomark _)))⟩) (fun _ _ _ _ _ => ⟨_, (de_var 8)⟩) (sw_true rfl rfl rfl (by decide +kernel)))
       (dss_cons (ds_setLc 3 rfl nd (di_seq (de_var 0)) (blkOk_by (own := [("pair", 8)]) (N := N__balanced_at) (sc := defScope s__balanced_at) (by decide +kernel)) (fun _ _ _ _ _ => ⟨_, (dg_name 8 nd)⟩) (fun _ _ _ _ _ => ⟨_, (dts_one (dt_cmp op_gt q_gt (de_sub_ix (de_ixV 8 de_int) (de_var 1)) de_int (nomark _)))⟩) (fun _ _ _ _ _ => ⟨_, (de_var 8)⟩) (sw_true rfl rfl rfl (by decide +kernel)))
       (dss_cons (ds_setLc 4 rfl nd (di_seq (de_var 0)) (blkOk_by (own := [("pair", 8)]) (N := N__balanced_at) (sc := defScope s__balanced_at) (by decide +kernel)) (fun _ _ _ _ _ => ⟨_, (dg_name 8 nd)⟩) (fun _ _ _ _ _ => ⟨_, (dts_one (dt_cmp op_lt q_lt (de_sub_ix (de_ixV 8 de_int) (de_var 1)) de_int (nomark _)))⟩) (fun _ _ _ _ _ => ⟨_, (de_var 8)⟩) (sw_true rfl rfl rfl (by decide +kernel)))
       (dss_cons (ds_for PassesOwn.never rfl (di_seq (de_var 3)) (dg_name 5 nd)
       (dss_one (ds_for PassesOwn.never rfl (di_seq (de_var 4)) (dg_name 6 nd)
       (dss_cons (ds_set 7 nd (de_bor (de_ixV 5 de_int) (de_ixV 6 de_int)))
       (dss_one (ds_if (dt_w (dw_and (dt_tru (de_call F_of__has_at_most (hr.mono (by decide)) rfl m__has_at_most k__has_at_most b__has_at_most (dr_d (de_var 7) (dr_d (de_add (de_var 1) de_int) dr_nil)))) (dw_and1 (dt_tru (de_call F_of__are_neighbours (hr.mono (by decide)) rfl m__are_neighbours k__are_neighbours b__are_neighbours (dr_d (de_var 0) (dr_d (de_ixV 5 de_int) (dr_d (de_ixV 6 de_int) dr_nil)))))))) (dss_one (ds_append 2 (de_tup (da_cons (de_var 7) (da_cons (de_call F_of__merged (hr.mono (by decide)) rfl m__merged k__merged b__merged (dr_d (de_ixV 5 de_int) (dr_d (de_ixV 6 de_int) (dr_d (de_var 1) dr_nil)))) da_nil)))))
       dss_nil))))))
       (dss_one (ds_frz 2 (ds_ret (de_var 2))))))))⟩
theorem sc__balances : FnScope N__balances ["vectors", "size"] (defScope s__balances) := ⟨rfl, rfl, rfl, by decide +kernel, rfl, by decide +kernel, by decide +kernel⟩
set_option maxHeartbeats 4000000 in
theorem ok__balances (T : Txt mg) (C__balanced_at : Cal P w K mg base "_balanced_at" 3 2 g__balanced_at) (B : Def K mg "_balances" s__balances ["vectors", "size"]) : Cal P w K mg base "_balances" 4 2 g__balances := by
  have nd : (N__balances).Nodup := sc__balances.nd
  obtain ⟨f__balanced_at, fd__balanced_at, ps__balanced_at, F_of__balanced_at, b__balanced_at, m__balanced_at, k__balanced_at⟩ := C__balanced_at.ex
  exact B.cal (N := N__balances) (F := F__balances) sc__balances rfl fun f cdv A outer s H E hr => ⟨_,
      (dss_cons (ds_setN 2 nd (dn_lst da_nil))
       (dss_cons (ds_for PassesOwn.never rfl (di_enum rfl T.b_enumerate (da_cons (de_var 0) da_nil)) (dg_tup rfl (dgs_cons (dg_name 3 nd) (dgs_cons (dg_name 4 nd) dgs_nil)))
       (dss_cons (ds_set 5 nd (de_callTy call_tuple_of q_tuple rfl T.b_tuple PyProof.Rows.boot_tuple (da_cons (de_give (dn_lc rfl nd (di_range1 rfl T.b_range (da_cons (de_lenV 0 rfl T.b_len PySem.boot_len) da_nil)) (blkOk_by (own := [("other", 9)]) (N := N__balances) (sc := defScope s__balances) (by decide +kernel)) (fun _ _ _ _ _ => ⟨_, (dg_name 9 nd)⟩) (fun _ _ _ _ _ => ⟨_, dts_nil⟩) (fun _ _ _ _ _ => ⟨_, (de_if (dt_cmp (op_eqD hr.units) q_eq (de_var 9) (de_var 3) (nomark _)) de_int de_int)⟩))) da_nil)))
       (dss_one (ds_append 2 (de_tup (da_cons (de_shl de_int (de_var 3)) (da_cons (de_add (de_var 4) (de_var 5)) da_nil)))))))
       (dss_cons (ds_for PassesOwn.never rfl (di_range1 rfl T.b_range (da_cons (de_var 1) da_nil)) (dg_name 6 nd)
       (dss_one (ds_frz 2 (ds_set 2 nd (de_call F_of__balanced_at (hr.mono (by decide)) rfl m__balanced_at k__balanced_at b__balanced_at (dr_d (de_var 2) (dr_d (de_var 6) dr_nil)))))))
       (dss_one (ds_frz 2 (ds_ret (de_give (dn_lc rfl nd (di_seq (de_var 2)) (blkOk_by (own := [("_", 7), ("entries", 8)]) (N := N__balances) (sc := defScope s__balances) (by decide +kernel)) (fun _ _ _ _ _ => ⟨_, (dg_tup rfl (dgs_cons (dg_name 7 nd) (dgs_cons (dg_name 8 nd) dgs_nil)))⟩) (fun _ _ _ _ _ => ⟨_, dts_nil⟩) (fun _ _ _ _ _ => ⟨_, (de_slice (de_var 8) (dp_some (de_var 1)) dp_none)⟩)))))))))⟩
theorem sc__sort_key : FnScope N__sort_key ["weights"] (defScope s__sort_key) := ⟨rfl, rfl, rfl, by decide +kernel, rfl, by decide +kernel, by decide +kernel⟩
set_option maxHeartbeats 4000000 in
theorem ok__sort_key (T : Txt mg)  (B : Def K mg "_sort_key" s__sort_key ["weights"]) : Cal P w K mg base "_sort_key" 1 1 g__sort_key := by
  have nd : (N__sort_key).Nodup := sc__sort_key.nd
  exact B.cal (N := N__sort_key) (F := F__sort_key) sc__sort_key rfl fun f cdv A outer s H E hr => ⟨_,
      (dss_one (ds_ret (de_tup (da_cons (de_lenV 0 rfl T.b_len PySem.boot_len) (da_cons (de_callTy call_tuple_of q_tuple rfl T.b_tuple PyProof.Rows.boot_tuple (da_cons (de_give (dn_lc rfl nd (di_seq (de_var 0)) (blkOk_by (own := [("number", 1), ("_", 2)]) (N := N__sort_key) (sc := defScope s__sort_key) (by decide +kernel)) (fun _ _ _ _ _ => ⟨_, (dg_tup rfl (dgs_cons (dg_name 1 nd) (dgs_cons (dg_name 2 nd) dgs_nil)))⟩) (fun _ _ _ _ _ => ⟨_, dts_nil⟩) (fun _ _ _ _ _ => ⟨_, (de_var 1)⟩))) da_nil)) da_nil)))))⟩
theorem sc__negated : FnScope N__negated ["row"] (defScope s__negated) := ⟨rfl, rfl, rfl, by decide +kernel, rfl, by decide +kernel, by decide +kernel⟩
set_option maxHeartbeats 4000000 in
theorem ok__negated (T : Txt mg)  (B : Def K mg "_negated" s__negated ["row"]) : Cal P w K mg base "_negated" 1 1 g__negated := by
  have nd : (N__negated).Nodup := sc__negated.nd
  exact B.cal (N := N__negated) (F := F__negated) sc__negated rfl fun f cdv A outer s H E hr => ⟨_,
      (dss_one (ds_ret (de_callTy call_tuple_of q_tuple rfl T.b_tuple PyProof.Rows.boot_tuple (da_cons (de_give (dn_lc rfl nd (di_seq (de_var 0)) (blkOk_by (own := [("entry", 1)]) (N := N__negated) (sc := defScope s__negated) (by decide +kernel)) (fun _ _ _ _ _ => ⟨_, (dg_name 1 nd)⟩) (fun _ _ _ _ _ => ⟨_, dts_nil⟩) (fun _ _ _ _ _ => ⟨_, (de_neg (de_var 1))⟩))) da_nil))))⟩
theorem sc__weights_of : FnScope N__weights_of ["balance", "share"] (defScope s__weights_of) := ⟨rfl, rfl, rfl, by decide +kernel, rfl, by decide +kernel, by decide +kernel⟩
set_option maxHeartbeats 4000000 in
theorem ok__weights_of (T : Txt mg) (C_fraction : Cal P w K mg base "fraction" 1 2 g_fraction) (B : Def K mg "_weights_of" s__weights_of ["balance", "share"]) : Cal P w K mg base "_weights_of" 2 2 g__weights_of := by
  have nd : (N__weights_of).Nodup := sc__weights_of.nd
  obtain ⟨f_fraction, fd_fraction, ps_fraction, F_of_fraction, b_fraction, m_fraction, k_fraction⟩ := C_fraction.ex
  exact B.cal (N := N__weights_of) (F := F__weights_of) sc__weights_of rfl fun f cdv A outer s H E hr => ⟨_,
      (dss_one (ds_ret (de_callTy call_tuple_of q_tuple rfl T.b_tuple PyProof.Rows.boot_tuple (da_cons (de_give (dn_lc rfl nd (di_enum rfl T.b_enumerate (da_cons (de_var 0) da_nil)) (blkOk_by (own := [("number", 2), ("entry", 3)]) (N := N__weights_of) (sc := defScope s__weights_of) (by decide +kernel)) (fun _ _ _ _ _ => ⟨_, (dg_tup rfl (dgs_cons (dg_name 2 nd) (dgs_cons (dg_name 3 nd) dgs_nil)))⟩) (fun _ _ _ _ _ => ⟨_, (dts_one (dt_cmp op_gt q_gt (de_var 3) de_int (nomark _)))⟩) (fun _ _ _ _ _ => ⟨_, (de_tup (da_cons (de_var 2) (da_cons (de_call F_of_fraction (hr.mono (by decide)) rfl m_fraction k_fraction b_fraction (dr_d (de_var 3) (dr_d (de_var 1) dr_nil))) da_nil)))⟩))) da_nil))))⟩
theorem sc_ways : GScope N_ways ["rows", "aim"] (defScope s_ways) := ⟨rfl, rfl, rfl, by decide +kernel, rfl, by decide +kernel, by decide +kernel⟩
set_option maxHeartbeats 4000000 in
theorem ok_ways (T : Txt mg) (C__balances : Cal P w K mg base "_balances" 4 2 g__balances) (C__negated : Cal P w K mg base "_negated" 1 1 g__negated) (C__weights_of : Cal P w K mg base "_weights_of" 2 2 g__weights_of) (C__sort_key : Cal P w K mg base "_sort_key" 1 1 g__sort_key) (B : Def K mg "ways" s_ways ["rows", "aim"]) : CalG P w K mg base "ways" 5 2 g_ways := by
  have nd : (N_ways).Nodup := sc_ways.nd
  obtain ⟨f__balances, fd__balances, ps__balances, F_of__balances, b__balances, m__balances, k__balances⟩ := C__balances.ex
  obtain ⟨f__negated, fd__negated, ps__negated, F_of__negated, b__negated, m__negated, k__negated⟩ := C__negated.ex
  obtain ⟨f__weights_of, fd__weights_of, ps__weights_of, F_of__weights_of, b__weights_of, m__weights_of, k__weights_of⟩ := C__weights_of.ex
  obtain ⟨f__sort_key, fd__sort_key, ps__sort_key, F_of__sort_key, b__sort_key, m__sort_key, k__sort_key⟩ := C__sort_key.ex
  exact B.calG (N := N_ways) (F := F_ways) sc_ways rfl fun f cdv A outer s H E pn hr => ⟨_,
      (dys_cons (dy_plain (DS.nox (ds_setN 2 nd (dn_lst da_nil))))
       (dys_cons (dy_plain (DS.nox (ds_for PassesOwn.never rfl (di_seq (de_call F_of__balances (hr.mono (by decide)) rfl m__balances k__balances b__balances (dr_d (de_add (de_var 0) (de_tup (da_cons (de_call F_of__negated (hr.mono (by decide)) rfl m__negated k__negated b__negated (dr_d (de_var 1) dr_nil)) da_nil))) (dr_d (de_lenV 1 rfl T.b_len PySem.boot_len) dr_nil)))) (dg_name 3 nd)
       (dss_cons (ds_set 4 nd (de_ixV 3 (de_neg de_int)))
       (dss_one (ds_if (dt_cmp op_gt q_gt (de_var 4) de_int (nomark _)) (dss_one (ds_append 2 (de_call F_of__weights_of (hr.mono (by decide)) rfl m__weights_of k__weights_of b__weights_of (dr_d (de_slice (de_var 3) dp_none (dp_some (de_neg de_int))) (dr_d (de_var 4) dr_nil)))))
       dss_nil))))))
       (dys_cons (dy_frz 2 (dy_for owns_gcx rfl (di_seq (de_give (dn_sortK F_of__sort_key (hr.mono (by decide)) rfl m__sort_key b__sort_key rfl T.b_sorted (by decide +kernel) (de_var 2)))) (dg_name 5 nd)
       (dys_cons (dy_yield (de_var 5))
       dys_nil)))
       dys_nil)))⟩
theorem sc__law_bag : FnScope N__law_bag ["_law_script"] (defScope s__law_bag) := ⟨rfl, rfl, rfl, by decide +kernel, rfl, by decide +kernel, by decide +kernel⟩
set_option maxHeartbeats 4000000 in
theorem ok__law_bag (T : Txt mg)  (B : Def K mg "_law_bag" s__law_bag ["_law_script"]) : CalN P w K mg base "_law_bag" 1 1 g__law_bag := by
  have nd : (N__law_bag).Nodup := sc__law_bag.nd
  exact B.calN (N := N__law_bag) (f := F__law_bag) sc__law_bag rfl rfl fun f cdv A outer s H E hr => ⟨_,
      (dn_lst (da_cons (de_give (dn_list (da_cons (de_slice (de_var 0) dp_none (dp_some de_int)) da_nil) rfl T.b_list PyProof.Rows.boot_list)) (da_cons de_int (da_cons de_int (da_cons de_int (da_cons de_int da_nil))))))⟩
theorem sc__law_draw : FnScope N__law_draw ["_law_bag_here", "_law_size"] (defScope s__law_draw) := ⟨rfl, rfl, rfl, by decide +kernel, rfl, by decide +kernel, by decide +kernel⟩
set_option maxHeartbeats 4000000 in
theorem ok__law_draw (T : Txt mg)  (B : Def K mg "_law_draw" s__law_draw ["_law_bag_here", "_law_size"]) : Cal P w K mg base "_law_draw" 1 2 g__law_draw := by
  have nd : (N__law_draw).Nodup := sc__law_draw.nd
  exact B.cal (N := N__law_draw) (F := F__law_draw) sc__law_draw rfl fun f cdv A outer s H E hr => ⟨_,
      (dss_cons (ds_setIx 0 (de_add (de_ixV 0 de_int) de_int) de_int)
       (dss_cons (ds_set 2 nd (de_mul (de_ixV 0 de_int) de_int))
       (dss_cons (ds_if (dt_w (dw_and (dt_cmp (op_eqD hr.units) q_eq (de_ixV 0 de_int) de_int (nomark _)) (dw_and1 (dt_cmp op_lt q_lt (de_ixV 0 de_int) (de_callB call_len q_len rfl T.b_len PySem.boot_len (da_cons (de_ixV 0 de_int) da_nil)) (nomark _))))) (dss_cons (ds_set 2 nd (de_sub_ix (de_ixV 0 de_int) (de_ixV 0 de_int)))
       (dss_cons (ds_setIx 0 (de_add (de_ixV 0 de_int) de_int) de_int)
       (dss_one (ds_if (dt_cmp op_ge q_ge (de_var 2) (de_pow de_int de_int) (nomark _)) (dss_one (ds_setIx 0 (de_var 2) de_int))
       dss_nil))))
       dss_nil)
       (dss_cons (ds_if (dt_cmp op_gt q_gt (de_ixV 0 de_int) de_int (nomark _)) (dss_cons (ds_set 3 nd (de_mod (de_callTy call_int1 q_int rfl T.b_int PyProof.Rows.boot_int (da_cons (de_ixV 0 de_int) da_nil)) (de_var 1)))
       (dss_cons (ds_setIx 0 (de_div (de_callTy call_int1 q_int rfl T.b_int PyProof.Rows.boot_int (da_cons (de_ixV 0 de_int) da_nil)) (de_var 1)) de_int)
       (dss_one (ds_ret (de_var 3)))))
       dss_nil)
       (dss_cons (ds_setIx 0 (de_mod (de_callTy call_int1 q_int rfl T.b_int PyProof.Rows.boot_int (da_cons (de_add (de_add (de_mul (de_ixV 0 de_int) de_int) (de_mul (de_var 2) de_int)) de_int) da_nil)) de_int) de_int)
       (dss_cons (ds_set 4 nd (de_mod (de_callTy call_int1 q_int rfl T.b_int PyProof.Rows.boot_int (da_cons (de_add (de_mul (de_ixV 0 de_int) (de_ixV 0 de_int)) (de_mul (de_ixV 0 de_int) de_int)) da_nil)) de_int))
       (dss_one (ds_ret (de_mod (de_callTy call_int1 q_int rfl T.b_int PyProof.Rows.boot_int (da_cons (de_div (de_var 4) de_int) da_nil)) (de_var 1))))))))))⟩
theorem sc__law_same : FnScope N__law_same ["_law_value", "_law_due"] (defScope s__law_same) := ⟨rfl, rfl, rfl, by decide +kernel, rfl, by decide +kernel, by decide +kernel⟩
set_option maxHeartbeats 4000000 in
theorem ok__law_same (T : Txt mg)  (B : Def K mg "_law_same" s__law_same ["_law_value", "_law_due"]) : ∀ n, Cal P w K mg base "_law_same" n 2 (g__law_same n)
  | 0 => B.cal0
  | n + 1 => by
    have nd : (N__law_same).Nodup := sc__law_same.nd
    obtain ⟨f__law_same, fd__law_same, ps__law_same, F_of__law_same, b__law_same, m__law_same, k__law_same⟩ := (ok__law_same T  B n).ex
    exact B.cal (N := N__law_same) (F := F__law_same (g__law_same n)) sc__law_same rfl fun f cdv A outer s H E hr => ⟨_,
      (dss_cons (ds_if (dt_w (dw_or (dt_tru (de_callB call_isi q_isi rfl T.b_isinstance PyProof.Rows.boot_isinstance (da_cons (de_var 1) (da_cons (de_ty T.b_tuple PyProof.Rows.boot_tuple) da_nil)))) (dw_or1 (dt_tru (de_callB call_isi q_isi rfl T.b_isinstance PyProof.Rows.boot_isinstance (da_cons (de_var 1) (da_cons (de_ty T.b_list PyProof.Rows.boot_list) da_nil))))))) (dss_cons (ds_if (dt_w (dw_and (dt_not (dt_tru (de_callB call_isi q_isi rfl T.b_isinstance PyProof.Rows.boot_isinstance (da_cons (de_var 0) (da_cons (de_ty T.b_tuple PyProof.Rows.boot_tuple) da_nil))))) (dw_and1 (dt_not (dt_tru (de_callB call_isi q_isi rfl T.b_isinstance PyProof.Rows.boot_isinstance (da_cons (de_var 0) (da_cons (de_ty T.b_list PyProof.Rows.boot_list) da_nil)))))))) (dss_one (ds_ret de_bl))
       dss_nil)
       (dss_cons (ds_if (dt_w (dw_or (dt_cmp (op_neD hr.units) q_ne (de_callB call_isi q_isi rfl T.b_isinstance PyProof.Rows.boot_isinstance (da_cons (de_var 0) (da_cons (de_ty T.b_tuple PyProof.Rows.boot_tuple) da_nil))) (de_callB call_isi q_isi rfl T.b_isinstance PyProof.Rows.boot_isinstance (da_cons (de_var 1) (da_cons (de_ty T.b_tuple PyProof.Rows.boot_tuple) da_nil))) (nomark _)) (dw_or1 (dt_cmp (op_neD hr.units) q_ne (de_lenV 0 rfl T.b_len PySem.boot_len) (de_lenV 1 rfl T.b_len PySem.boot_len) (nomark _))))) (dss_one (ds_ret de_bl))
       dss_nil)
       (dss_cons (ds_for PassesOwn.never rfl (di_range1 rfl T.b_range (da_cons (de_lenV 1 rfl T.b_len PySem.boot_len) da_nil)) (dg_name 2 nd)
       (dss_one (ds_if (dt_not (dt_tru (de_call F_of__law_same hr rfl m__law_same k__law_same b__law_same (dr_d (de_ixV 0 (de_var 2)) (dr_d (de_ixV 1 (de_var 2)) dr_nil))))) (dss_one (ds_ret de_bl))
       dss_nil)))
       (dss_one (ds_ret de_bl)))))
       dss_nil)
       (dss_cons (ds_if (dt_cmp op_isN q_isN (de_var 1) de_non (nomark _)) (dss_one (ds_ret (de_cmp op_isN q_isN (de_var 0) de_non (nomark _))))
       dss_nil)
       (dss_cons (ds_if (dt_tru (de_callB call_isi q_isi rfl T.b_isinstance PyProof.Rows.boot_isinstance (da_cons (de_var 1) (da_cons (de_ty T.b_str (by decide +kernel)) da_nil)))) (dss_one (ds_ret (de_and (de_callB call_isi q_isi rfl T.b_isinstance PyProof.Rows.boot_isinstance (da_cons (de_var 0) (da_cons (de_ty T.b_str (by decide +kernel)) da_nil))) (de_one (de_cmp (op_eqD hr.units) q_eq (de_var 0) (de_var 1) (nomark _))))))
       dss_nil)
       (dss_one (ds_ret (de_and (de_callB call_isi q_isi rfl T.b_isinstance PyProof.Rows.boot_isinstance (da_cons (de_var 0) (da_cons (de_ty T.b_int PyProof.Rows.boot_int) da_nil))) (de_and (de_not (de_callB call_isi q_isi rfl T.b_isinstance PyProof.Rows.boot_isinstance (da_cons (de_var 0) (da_cons (de_ty T.b_bool (by decide +kernel)) da_nil)))) (de_one (de_cmp (op_eqD hr.units) q_eq (de_var 0) (de_var 1) (nomark _))))))))))⟩
theorem sc__law_gcd : FnScope N__law_gcd ["_law_first", "_law_second"] (defScope s__law_gcd) := ⟨rfl, rfl, rfl, by decide +kernel, rfl, by decide +kernel, by decide +kernel⟩
set_option maxHeartbeats 4000000 in
theorem ok__law_gcd (T : Txt mg)  (B : Def K mg "_law_gcd" s__law_gcd ["_law_first", "_law_second"]) : Cal P w K mg base "_law_gcd" 1 2 g__law_gcd := by
  have nd : (N__law_gcd).Nodup := sc__law_gcd.nd
  exact B.cal (N := N__law_gcd) (F := F__law_gcd) sc__law_gcd rfl fun f cdv A outer s H E hr => ⟨_,
      (dss_cons (ds_set 0 nd (de_callB call_abs q_abs rfl T.b_abs PyProof.Rows.boot_abs (da_cons (de_var 0) da_nil)))
       (dss_cons (ds_set 1 nd (de_callB call_abs q_abs rfl T.b_abs PyProof.Rows.boot_abs (da_cons (de_var 1) da_nil)))
       (dss_cons (ds_for PassesOwn.never rfl (di_range1 rfl T.b_range (da_cons de_int da_nil)) (dg_name 2 nd)
       (dss_cons (ds_if (dt_cmp (op_eqD hr.units) q_eq (de_var 1) de_int (nomark _)) (dss_one (ds_ret (de_var 0)))
       dss_nil)
       (dss_cons (ds_set 3 nd (de_mod (de_callTy call_int1 q_int rfl T.b_int PyProof.Rows.boot_int (da_cons (de_var 0) da_nil)) (de_var 1)))
       (dss_cons (ds_set 0 nd (de_var 1))
       (dss_one (ds_set 1 nd (de_var 3)))))))
       (dss_one (ds_ret de_int)))))⟩
theorem sc__law_fraction : FnScope N__law_fraction ["_law_top", "_law_bottom"] (defScope s__law_fraction) := ⟨rfl, rfl, rfl, by decide +kernel, rfl, by decide +kernel, by decide +kernel⟩
set_option maxHeartbeats 4000000 in
theorem ok__law_fraction (T : Txt mg) (C__law_gcd : Cal P w K mg base "_law_gcd" 1 2 g__law_gcd) (B : Def K mg "_law_fraction" s__law_fraction ["_law_top", "_law_bottom"]) : Cal P w K mg base "_law_fraction" 2 2 g__law_fraction := by
  have nd : (N__law_fraction).Nodup := sc__law_fraction.nd
  obtain ⟨f__law_gcd, fd__law_gcd, ps__law_gcd, F_of__law_gcd, b__law_gcd, m__law_gcd, k__law_gcd⟩ := C__law_gcd.ex
  exact B.cal (N := N__law_fraction) (F := F__law_fraction) sc__law_fraction rfl fun f cdv A outer s H E hr => ⟨_,
      (dss_cons (ds_if (dt_cmp op_lt q_lt (de_var 1) de_int (nomark _)) (dss_cons (ds_set 0 nd (de_neg (de_var 0)))
       (dss_one (ds_set 1 nd (de_neg (de_var 1)))))
       dss_nil)
       (dss_cons (ds_set 2 nd (de_call F_of__law_gcd (hr.mono (by decide)) rfl m__law_gcd k__law_gcd b__law_gcd (dr_d (de_var 0) (dr_d (de_var 1) dr_nil))))
       (dss_one (ds_ret (de_tup (da_cons (de_div (de_var 0) (de_var 2)) (da_cons (de_div (de_var 1) (de_var 2)) da_nil)))))))⟩
theorem sc__law_row : FnScope N__law_row ["_law_bag_here", "_law_width", "_law_most"] (defScope s__law_row) := ⟨rfl, rfl, rfl, by decide +kernel, rfl, by decide +kernel, by decide +kernel⟩
set_option maxHeartbeats 4000000 in
theorem ok__law_row (T : Txt mg) (C__law_draw : Cal P w K mg base "_law_draw" 1 2 g__law_draw) (B : Def K mg "_law_row" s__law_row ["_law_bag_here", "_law_width", "_law_most"]) : Cal P w K mg base "_law_row" 2 3 g__law_row := by
  have nd : (N__law_row).Nodup := sc__law_row.nd
  obtain ⟨f__law_draw, fd__law_draw, ps__law_draw, F_of__law_draw, b__law_draw, m__law_draw, k__law_draw⟩ := C__law_draw.ex
  exact B.cal (N := N__law_row) (F := F__law_row) sc__law_row rfl fun f cdv A outer s H E hr => ⟨_,
      (dss_one (ds_ret (de_callTy call_tuple_of q_tuple rfl T.b_tuple PyProof.Rows.boot_tuple (da_cons (de_give (dn_lc rfl nd (di_range1 rfl T.b_range (da_cons (de_var 1) da_nil)) (blkOk_by (own := [("_law_j", 3)]) (N := N__law_row) (sc := defScope s__law_row) (by decide +kernel)) (fun _ _ _ _ _ => ⟨_, (dg_name 3 nd)⟩) (fun _ _ _ _ _ => ⟨_, dts_nil⟩) (fun _ _ _ _ _ => ⟨_, (de_sub (de_call F_of__law_draw (hr.mono (by decide)) rfl m__law_draw k__law_draw b__law_draw (dr_r 0 (dr_d (de_add (de_mul de_int (de_var 2)) de_int) dr_nil))) (de_var 2))⟩))) da_nil))))⟩
theorem sc__law_many : FnScope N__law_many ["_law_bag_here", "_law_row_here"] (defScope s__law_many) := ⟨rfl, rfl, rfl, by decide +kernel, rfl, by decide +kernel, by decide +kernel⟩
set_option maxHeartbeats 4000000 in
theorem ok__law_many (T : Txt mg) (C__law_draw : Cal P w K mg base "_law_draw" 1 2 g__law_draw) (B : Def K mg "_law_many" s__law_many ["_law_bag_here", "_law_row_here"]) : Cal P w K mg base "_law_many" 2 2 g__law_many := by
  have nd : (N__law_many).Nodup := sc__law_many.nd
  obtain ⟨f__law_draw, fd__law_draw, ps__law_draw, F_of__law_draw, b__law_draw, m__law_draw, k__law_draw⟩ := C__law_draw.ex
  exact B.cal (N := N__law_many) (F := F__law_many) sc__law_many rfl fun f cdv A outer s H E hr => ⟨_,
      (dss_cons (ds_set 2 nd (de_sub_ix (de_give (dn_lst (da_cons (de_neg de_int) (da_cons de_int (da_cons (de_neg de_int) (da_cons de_int (da_cons (de_neg de_int) (da_cons de_int da_nil)))))))) (de_call F_of__law_draw (hr.mono (by decide)) rfl m__law_draw k__law_draw b__law_draw (dr_r 0 (dr_d de_int dr_nil)))))
       (dss_cons (ds_if (dt_cmp op_gt q_gt (de_mul (de_callB (cr_max rfl) q_max rfl T.b_max PyProof.Rows.boot_max (da_cons (de_give (dn_cat (dn_lst (da_cons de_int da_nil)) (dn_lc rfl nd (di_seq (de_var 1)) (blkOk_by (own := [("_law_x", 3)]) (N := N__law_many) (sc := defScope s__law_many) (by decide +kernel)) (fun _ _ _ _ _ => ⟨_, (dg_name 3 nd)⟩) (fun _ _ _ _ _ => ⟨_, dts_nil⟩) (fun _ _ _ _ _ => ⟨_, (de_callB call_abs q_abs rfl T.b_abs PyProof.Rows.boot_abs (da_cons (de_var 3) da_nil))⟩)))) da_nil)) (de_callB call_abs q_abs rfl T.b_abs PyProof.Rows.boot_abs (da_cons (de_var 2) da_nil))) de_int (nomark _)) (dss_one (ds_set 2 nd (de_div (de_var 2) (de_callB call_abs q_abs rfl T.b_abs PyProof.Rows.boot_abs (da_cons (de_var 2) da_nil)))))
       dss_nil)
       (dss_one (ds_ret (de_callTy call_tuple_of q_tuple rfl T.b_tuple PyProof.Rows.boot_tuple (da_cons (de_give (dn_lc rfl nd (di_seq (de_var 1)) (blkOk_by (own := [("_law_x", 3)]) (N := N__law_many) (sc := defScope s__law_many) (by decide +kernel)) (fun _ _ _ _ _ => ⟨_, (dg_name 3 nd)⟩) (fun _ _ _ _ _ => ⟨_, dts_nil⟩) (fun _ _ _ _ _ => ⟨_, (de_mul (de_var 2) (de_var 3))⟩))) da_nil))))))⟩
theorem sc__law_rows : FnScope N__law_rows ["_law_bag_here", "_law_width", "_law_many_here", "_law_most"] (defScope s__law_rows) := ⟨rfl, rfl, rfl, by decide +kernel, rfl, by decide +kernel, by decide +kernel⟩
set_option maxHeartbeats 4000000 in
theorem ok__law_rows (T : Txt mg) (C__law_draw : Cal P w K mg base "_law_draw" 1 2 g__law_draw) (C__law_many : Cal P w K mg base "_law_many" 2 2 g__law_many) (C__law_row : Cal P w K mg base "_law_row" 2 3 g__law_row) (B : Def K mg "_law_rows" s__law_rows ["_law_bag_here", "_law_width", "_law_many_here", "_law_most"]) : Cal P w K mg base "_law_rows" 3 4 g__law_rows := by
  have nd : (N__law_rows).Nodup := sc__law_rows.nd
  obtain ⟨f__law_draw, fd__law_draw, ps__law_draw, F_of__law_draw, b__law_draw, m__law_draw, k__law_draw⟩ := C__law_draw.ex
  obtain ⟨f__law_many, fd__law_many, ps__law_many, F_of__law_many, b__law_many, m__law_many, k__law_many⟩ := C__law_many.ex
  obtain ⟨f__law_row, fd__law_row, ps__law_row, F_of__law_row, b__law_row, m__law_row, k__law_row⟩ := C__law_row.ex
  exact B.cal (N := N__law_rows) (F := F__law_rows) sc__law_rows rfl fun f cdv A outer s H E hr => ⟨_,
      (dss_cons (ds_setN 4 nd (dn_lst da_nil))
       (dss_cons (ds_for PassesOwn.never rfl (di_range1 rfl T.b_range (da_cons (de_var 2) da_nil)) (dg_name 5 nd)
       (dss_cons (ds_set 6 nd (de_call F_of__law_draw (hr.mono (by decide)) rfl m__law_draw k__law_draw b__law_draw (dr_r 0 (dr_d de_int dr_nil))))
       (dss_one (ds_if (dt_w (dw_and (dt_cmp (op_eqD hr.units) q_eq (de_var 6) de_int (nomark _)) (dw_and1 (dt_truV 4)))) (dss_one (ds_append 4 (de_call F_of__law_many (hr.mono (by decide)) rfl m__law_many k__law_many b__law_many (dr_r 0 (dr_d (de_ixV 4 (de_call F_of__law_draw (hr.mono (by decide)) rfl m__law_draw k__law_draw b__law_draw (dr_r 0 (dr_d (de_lenV 4 rfl T.b_len PySem.boot_len) dr_nil)))) dr_nil)))))
       (dss_one (ds_if (dt_cmp (op_eqD hr.units) q_eq (de_var 6) de_int (nomark _)) (dss_one (ds_append 4 (de_call F_of__law_row (hr.mono (by decide)) rfl m__law_row k__law_row b__law_row (dr_r 0 (dr_d (de_var 1) (dr_d de_int dr_nil))))))
       (dss_one (ds_append 4 (de_call F_of__law_row (hr.mono (by decide)) rfl m__law_row k__law_row b__law_row (dr_r 0 (dr_d (de_var 1) (dr_d (de_var 3) dr_nil))))))))))))
       (dss_one (ds_frz 4 (ds_ret (de_callTy call_tuple_of q_tuple rfl T.b_tuple PyProof.Rows.boot_tuple (da_cons (de_var 4) da_nil)))))))⟩
theorem sc__law_aim : FnScope N__law_aim ["_law_bag_here", "_law_rows_here", "_law_width", "_law_most"] (defScope s__law_aim) := ⟨rfl, rfl, rfl, by decide +kernel, rfl, by decide +kernel, by decide +kernel⟩
set_option maxHeartbeats 4000000 in
theorem ok__law_aim (T : Txt mg) (C__law_draw : Cal P w K mg base "_law_draw" 1 2 g__law_draw) (C__law_row : Cal P w K mg base "_law_row" 2 3 g__law_row) (B : Def K mg "_law_aim" s__law_aim ["_law_bag_here", "_law_rows_here", "_law_width", "_law_most"]) : Cal P w K mg base "_law_aim" 3 4 g__law_aim := by
  have nd : (N__law_aim).Nodup := sc__law_aim.nd
  obtain ⟨f__law_draw, fd__law_draw, ps__law_draw, F_of__law_draw, b__law_draw, m__law_draw, k__law_draw⟩ := C__law_draw.ex
  obtain ⟨f__law_row, fd__law_row, ps__law_row, F_of__law_row, b__law_row, m__law_row, k__law_row⟩ := C__law_row.ex
  exact B.cal (N := N__law_aim) (F := F__law_aim) sc__law_aim rfl fun f cdv A outer s H E hr => ⟨_,
      (dss_cons (ds_set 4 nd (de_call F_of__law_draw (hr.mono (by decide)) rfl m__law_draw k__law_draw b__law_draw (dr_r 0 (dr_d de_int dr_nil))))
       (dss_cons (ds_if (dt_cmp (op_eqD hr.units) q_eq (de_var 4) de_int (nomark _)) (dss_one (ds_ret (de_callTy call_tuple_of q_tuple rfl T.b_tuple PyProof.Rows.boot_tuple (da_cons (de_give (dn_lc rfl nd (di_range1 rfl T.b_range (da_cons (de_var 2) da_nil)) (blkOk_by (own := [("_law_j", 9)]) (N := N__law_aim) (sc := defScope s__law_aim) (by decide +kernel)) (fun _ _ _ _ _ => ⟨_, (dg_name 9 nd)⟩) (fun _ _ _ _ _ => ⟨_, dts_nil⟩) (fun _ _ _ _ _ => ⟨_, de_int⟩))) da_nil))))
       dss_nil)
       (dss_cons (ds_set 5 nd (de_give (dn_lc rfl nd (di_range1 rfl T.b_range (da_cons (de_var 2) da_nil)) (blkOk_by (own := [("_law_j", 9)]) (N := N__law_aim) (sc := defScope s__law_aim) (by decide +kernel)) (fun _ _ _ _ _ => ⟨_, (dg_name 9 nd)⟩) (fun _ _ _ _ _ => ⟨_, dts_nil⟩) (fun _ _ _ _ _ => ⟨_, de_int⟩))))
       (dss_cons (ds_for PassesOwn.never rfl (di_range1 rfl T.b_range (da_cons de_int da_nil)) (dg_name 6 nd)
       (dss_one (ds_if (dt_w (dw_and (dt_cmp op_gt q_gt (de_var 4) de_int (nomark _)) (dw_and1 (dt_truV 1)))) (dss_cons (ds_set 7 nd (de_ixV 1 (de_call F_of__law_draw (hr.mono (by decide)) rfl m__law_draw k__law_draw b__law_draw (dr_r 0 (dr_d (de_lenV 1 rfl T.b_len PySem.boot_len) dr_nil)))))
       (dss_cons (ds_set 8 nd (de_call F_of__law_draw (hr.mono (by decide)) rfl m__law_draw k__law_draw b__law_draw (dr_r 0 (dr_d de_int dr_nil))))
       (dss_one (ds_set 5 nd (de_give (dn_lc rfl nd (di_range1 rfl T.b_range (da_cons (de_var 2) da_nil)) (blkOk_by (own := [("_law_j", 9)]) (N := N__law_aim) (sc := defScope s__law_aim) (by decide +kernel)) (fun _ _ _ _ _ => ⟨_, (dg_name 9 nd)⟩) (fun _ _ _ _ _ => ⟨_, dts_nil⟩) (fun _ _ _ _ _ => ⟨_, (de_add (de_ixV 5 (de_var 9)) (de_mul (de_var 8) (de_ixV 7 (de_var 9))))⟩)))))))
       dss_nil)))
       (dss_cons (ds_if (dt_w (dw_or (dt_cmp (op_eqD hr.units) q_eq (de_var 4) de_int (nomark _)) (dw_or (dt_not (dt_truV 1)) (dw_or1 (dt_cmp op_gt q_gt (de_callB (cr_max rfl) q_max rfl T.b_max PyProof.Rows.boot_max (da_cons (de_give (dn_cat (dn_lst (da_cons de_int da_nil)) (dn_lc rfl nd (di_seq (de_var 5)) (blkOk_by (own := [("_law_x", 10)]) (N := N__law_aim) (sc := defScope s__law_aim) (by decide +kernel)) (fun _ _ _ _ _ => ⟨_, (dg_name 10 nd)⟩) (fun _ _ _ _ _ => ⟨_, dts_nil⟩) (fun _ _ _ _ _ => ⟨_, (de_callB call_abs q_abs rfl T.b_abs PyProof.Rows.boot_abs (da_cons (de_var 10) da_nil))⟩)))) da_nil)) de_int (nomark _)))))) (dss_one (ds_ret (de_call F_of__law_row (hr.mono (by decide)) rfl m__law_row k__law_row b__law_row (dr_r 0 (dr_d (de_var 2) (dr_d (de_var 3) dr_nil))))))
       dss_nil)
       (dss_one (ds_ret (de_callTy call_tuple_of q_tuple rfl T.b_tuple PyProof.Rows.boot_tuple (da_cons (de_var 5) da_nil)))))))))⟩
theorem sc__law_sets : FnScope N__law_sets ["_law_many_here", "_law_size"] (defScope s__law_sets) := ⟨rfl, rfl, rfl, by decide +kernel, rfl, by decide +kernel, by decide +kernel⟩
set_option maxHeartbeats 4000000 in
theorem ok__law_sets (T : Txt mg)  (B : Def K mg "_law_sets" s__law_sets ["_law_many_here", "_law_size"]) : Cal P w K mg base "_law_sets" 1 2 g__law_sets := by
  have nd : (N__law_sets).Nodup := sc__law_sets.nd
  exact B.cal (N := N__law_sets) (F := F__law_sets) sc__law_sets rfl fun f cdv A outer s H E hr => ⟨_,
      (dss_cons (ds_set 2 nd (de_give (dn_lst (da_cons (de_tup da_nil) da_nil))))
       (dss_cons (ds_for PassesOwn.never rfl (di_range1 rfl T.b_range (da_cons (de_var 1) da_nil)) (dg_name 3 nd)
       (dss_cons (ds_setN 4 nd (dn_lst da_nil))
       (dss_cons (ds_for PassesOwn.never rfl (di_seq (de_var 2)) (dg_name 5 nd)
       (dss_one (ds_for PassesOwn.never rfl (di_range2 rfl T.b_range (da_cons (de_if (dt_truV 5) (de_add (de_ixV 5 (de_neg de_int)) de_int) de_int) (da_cons (de_var 0) da_nil))) (dg_name 6 nd)
       (dss_one (ds_append 4 (de_add (de_var 5) (de_tup (da_cons (de_var 6) da_nil))))))))
       (dss_one (ds_frz 4 (ds_set 2 nd (de_var 4)))))))
       (dss_one (ds_ret (de_var 2)))))⟩
theorem sc__law_weights : FnScope N__law_weights ["_law_rows_here", "_law_aim_here"] (defScope s__law_weights) := ⟨rfl, rfl, rfl, by decide +kernel, rfl, by decide +kernel, by decide +kernel⟩
set_option maxHeartbeats 4000000 in
theorem ok__law_weights (T : Txt mg) (C__law_fraction : Cal P w K mg base "_law_fraction" 2 2 g__law_fraction) (B : Def K mg "_law_weights" s__law_weights ["_law_rows_here", "_law_aim_here"]) : Cal P w K mg base "_law_weights" 3 2 g__law_weights := by
  have nd : (N__law_weights).Nodup := sc__law_weights.nd
  obtain ⟨f__law_fraction, fd__law_fraction, ps__law_fraction, F_of__law_fraction, b__law_fraction, m__law_fraction, k__law_fraction⟩ := C__law_fraction.ex
  exact B.cal (N := N__law_weights) (F := F__law_weights) sc__law_weights rfl fun f cdv A outer s H E hr => ⟨_,
      (dss_cons (ds_setN 3 nd (dn_lc rfl nd (di_range1 rfl T.b_range (da_cons (de_lenV 1 rfl T.b_len PySem.boot_len) da_nil)) (blkOk_by (own := [("_law_j", 2)]) (N := N__law_weights) (sc := defScope s__law_weights) (by decide +kernel)) (fun _ _ _ _ _ => ⟨_, (dg_name 2 nd)⟩) (fun _ _ _ _ _ => ⟨_, dts_nil⟩) (fun _ _ _ _ _ => ⟨_, (de_give (dn_cat (dn_lc rfl nd (di_seq (de_var 0)) (blkOk_by (own := [("_law_row_here", 8)]) (by kernel_rfl)) (fun _ _ _ _ _ => ⟨_, (dg_name 8 nd)⟩) (fun _ _ _ _ _ => ⟨_, dts_nil⟩) (fun _ _ _ _ _ => ⟨_, (de_ixV 8 (de_var 2))⟩)) (dn_lst (da_cons (de_ixV 1 (de_var 2)) da_nil))))⟩)))
       (dss_cons (ds_for PassesOwn.never rfl (di_range1 rfl T.b_range (da_cons (de_lenV 0 rfl T.b_len PySem.boot_len) da_nil)) (dg_name 4 nd)
       (dss_cons (ds_setLc 5 rfl nd (di_range2 rfl T.b_range (da_cons (de_var 4) (da_cons (de_lenV 3 rfl T.b_len PySem.boot_len) da_nil))) (blkOk_by (own := [("_law_j", 2)]) (N := N__law_weights) (sc := defScope s__law_weights) (by decide +kernel)) (fun _ _ _ _ _ => ⟨_, (dg_name 2 nd)⟩) (fun _ _ _ _ _ => ⟨_, (dts_one (dt_cmp (op_neD hr.units) q_ne (de_sub_ix (de_ixV 3 (de_var 2)) (de_var 4)) de_int (nomark _)))⟩) (fun _ _ _ _ _ => ⟨_, (de_var 2)⟩) (sw_true rfl rfl rfl (by decide +kernel)))
       (dss_cons (ds_if (dt_not (dt_truV 5)) (dss_one (ds_ret de_non))
       dss_nil)
       (dss_cons (ds_set 6 nd (de_ixV 3 (de_ixV 5 de_int)))
       (dss_cons (ds_setIx 3 (de_ixV 3 (de_var 4)) (de_ixV 5 de_int))
       (dss_cons (ds_setIx 3 (de_var 6) (de_var 4))
       (dss_one (ds_for PassesOwn.never rfl (di_range1 rfl T.b_range (da_cons (de_lenV 3 rfl T.b_len PySem.boot_len) da_nil)) (dg_name 2 nd)
       (dss_one (ds_if (dt_cmp (op_neD hr.units) q_ne (de_var 2) (de_var 4) (nomark _)) (dss_cons (ds_set 7 nd (de_ixV 3 (de_var 2)))
       (dss_one (ds_setIx 3 (de_give (dn_lc rfl nd (di_range1 rfl T.b_range (da_cons (de_lenV 6 rfl T.b_len PySem.boot_len) da_nil)) (blkOk_by (own := [("_law_i", 9)]) (N := N__law_weights) (sc := defScope s__law_weights) (by decide +kernel)) (fun _ _ _ _ _ => ⟨_, (dg_name 9 nd)⟩) (fun _ _ _ _ _ => ⟨_, dts_nil⟩) (fun _ _ _ _ _ => ⟨_, (de_sub (de_mul (de_ixV 6 (de_var 4)) (de_ixV 7 (de_var 9))) (de_mul (de_ixV 7 (de_var 4)) (de_ixV 6 (de_var 9))))⟩))) (de_var 2))))
       dss_nil))))))))))
       (dss_cons (ds_for PassesOwn.never rfl (di_range2 rfl T.b_range (da_cons (de_lenV 0 rfl T.b_len PySem.boot_len) (da_cons (de_lenV 3 rfl T.b_len PySem.boot_len) da_nil))) (dg_name 2 nd)
       (dss_one (ds_if (dt_cmp (op_neD hr.units) q_ne (de_sub_ix (de_ixV 3 (de_var 2)) (de_lenV 0 rfl T.b_len PySem.boot_len)) de_int (nomark _)) (dss_one (ds_ret de_non))
       dss_nil)))
       (dss_one (ds_ret (de_give (dn_lc rfl nd (di_range1 rfl T.b_range (da_cons (de_lenV 0 rfl T.b_len PySem.boot_len) da_nil)) (blkOk_by (own := [("_law_k", 4)]) (N := N__law_weights) (sc := defScope s__law_weights) (by decide +kernel)) (fun _ _ _ _ _ => ⟨_, (dg_name 4 nd)⟩) (fun _ _ _ _ _ => ⟨_, dts_nil⟩) (fun _ _ _ _ _ => ⟨_, (de_call F_of__law_fraction (hr.mono (by decide)) rfl m__law_fraction k__law_fraction b__law_fraction (dr_d (de_sub_ix (de_ixV 3 (de_var 4)) (de_lenV 0 rfl T.b_len PySem.boot_len)) (dr_d (de_sub_ix (de_ixV 3 (de_var 4)) (de_var 4)) dr_nil)))⟩))))))))⟩
theorem sc__law_all_ways : FnScope N__law_all_ways ["_law_rows_here", "_law_aim_here"] (defScope s__law_all_ways) := ⟨rfl, rfl, rfl, by decide +kernel, rfl, by decide +kernel, by decide +kernel⟩
set_option maxHeartbeats 4000000 in
theorem ok__law_all_ways (T : Txt mg) (C__law_sets : Cal P w K mg base "_law_sets" 1 2 g__law_sets) (C__law_weights : Cal P w K mg base "_law_weights" 3 2 g__law_weights) (B : Def K mg "_law_all_ways" s__law_all_ways ["_law_rows_here", "_law_aim_here"]) : Cal P w K mg base "_law_all_ways" 4 2 g__law_all_ways := by
  have nd : (N__law_all_ways).Nodup := sc__law_all_ways.nd
  obtain ⟨f__law_sets, fd__law_sets, ps__law_sets, F_of__law_sets, b__law_sets, m__law_sets, k__law_sets⟩ := C__law_sets.ex
  obtain ⟨f__law_weights, fd__law_weights, ps__law_weights, F_of__law_weights, b__law_weights, m__law_weights, k__law_weights⟩ := C__law_weights.ex
  exact B.cal (N := N__law_all_ways) (F := F__law_all_ways) sc__law_all_ways rfl fun f cdv A outer s H E hr => ⟨_,
      (dss_cons (ds_setN 2 nd (dn_lst da_nil))
       (dss_cons (ds_for PassesOwn.never rfl (di_range1 rfl T.b_range (da_cons (de_add (de_lenV 1 rfl T.b_len PySem.boot_len) de_int) da_nil)) (dg_name 3 nd)
       (dss_one (ds_for PassesOwn.never rfl (di_seq (de_call F_of__law_sets (hr.mono (by decide)) rfl m__law_sets k__law_sets b__law_sets (dr_d (de_lenV 0 rfl T.b_len PySem.boot_len) (dr_d (de_var 3) dr_nil)))) (dg_name 4 nd)
       (dss_cons (ds_set 5 nd (de_call F_of__law_weights (hr.mono (by decide)) rfl m__law_weights k__law_weights b__law_weights (dr_d (de_give (dn_lc rfl nd (di_seq (de_var 4)) (blkOk_by (own := [("_law_at", 6)]) (N := N__law_all_ways) (sc := defScope s__law_all_ways) (by decide +kernel)) (fun _ _ _ _ _ => ⟨_, (dg_name 6 nd)⟩) (fun _ _ _ _ _ => ⟨_, dts_nil⟩) (fun _ _ _ _ _ => ⟨_, (de_ixV 0 (de_var 6))⟩))) (dr_d (de_var 1) dr_nil))))
       (dss_one (ds_if (dt_w (dw_and (dt_cmp op_notN q_notN (de_var 5) de_non (nomark _)) (dw_and1 (dt_tru (de_callB (cr_all rfl) q_all rfl T.b_all PyProof.Rows.boot_all (da_cons (de_give (dn_lc rfl nd (di_seq (de_var 5)) (blkOk_by (own := [("_law_one", 7)]) (N := N__law_all_ways) (sc := defScope s__law_all_ways) (by decide +kernel)) (fun _ _ _ _ _ => ⟨_, (dg_name 7 nd)⟩) (fun _ _ _ _ _ => ⟨_, dts_nil⟩) (fun _ _ _ _ _ => ⟨_, (de_cmp op_gt q_gt (de_ixV 7 de_int) de_int (nomark _))⟩))) da_nil)))))) (dss_one (ds_append 2 (de_callTy call_tuple_of q_tuple rfl T.b_tuple PyProof.Rows.boot_tuple (da_cons (de_give (dn_lc rfl nd (di_range1 rfl T.b_range (da_cons (de_var 3) da_nil)) (blkOk_by (own := [("_law_k", 8)]) (N := N__law_all_ways) (sc := defScope s__law_all_ways) (by decide +kernel)) (fun _ _ _ _ _ => ⟨_, (dg_name 8 nd)⟩) (fun _ _ _ _ _ => ⟨_, dts_nil⟩) (fun _ _ _ _ _ => ⟨_, (de_tup (da_cons (de_ixV 4 (de_var 8)) (da_cons (de_ixV 5 (de_var 8)) da_nil)))⟩))) da_nil))))
       dss_nil))))))
       (dss_one (ds_frz 2 (ds_ret (de_var 2))))))⟩
theorem sc_law : FnScope N_law ["_law_script"] (defScope s_law) := ⟨rfl, rfl, rfl, by decide +kernel, rfl, by decide +kernel, by decide +kernel⟩
set_option maxHeartbeats 4000000 in
theorem ok_law (T : Txt mg) (C__law_bag : CalN P w K mg base "_law_bag" 1 1 g__law_bag) (C__law_draw : Cal P w K mg base "_law_draw" 1 2 g__law_draw) (C__law_rows : Cal P w K mg base "_law_rows" 3 4 g__law_rows) (C__law_aim : Cal P w K mg base "_law_aim" 3 4 g__law_aim) (C__law_same : Cal P w K mg base "_law_same" 6 2 (g__law_same 6)) (C_ways : CalG P w K mg base "ways" 5 2 g_ways) (C__law_all_ways : Cal P w K mg base "_law_all_ways" 4 2 g__law_all_ways) {f : Addr} {oc : Value} {od : Option Addr} {dV kV doc pm : Value} {an : Option Addr} {cdv ct : Value} {osl : Array (Option Value)} (lk : K.lookup f = some ⟨oc, od, .func (PySem.W.fnOf "law" "law" (defArgs s_law) (defBody s_law) (defScope s_law) dV kV doc pm an cdv ct), osl⟩) (hcd : PySem.W.codeIn K cdv "law" = true) :
    FnOk P w K mg base CX0 9 f (PySem.W.fnOf "law" "law" (defArgs s_law) (defBody s_law) (defScope s_law) dV kV doc pm an cdv ct) ["_law_script"] (spD K 1 g_law) := by
  have nd : (N_law).Nodup := sc_law.nd
  obtain ⟨f__law_bag, fd__law_bag, ps__law_bag, F_of__law_bag, b__law_bag, m__law_bag, k__law_bag⟩ := C__law_bag.ex
  obtain ⟨f__law_draw, fd__law_draw, ps__law_draw, F_of__law_draw, b__law_draw, m__law_draw, k__law_draw⟩ := C__law_draw.ex
  obtain ⟨f__law_rows, fd__law_rows, ps__law_rows, F_of__law_rows, b__law_rows, m__law_rows, k__law_rows⟩ := C__law_rows.ex
  obtain ⟨f__law_aim, fd__law_aim, ps__law_aim, F_of__law_aim, b__law_aim, m__law_aim, k__law_aim⟩ := C__law_aim.ex
  obtain ⟨f__law_same, fd__law_same, ps__law_same, F_of__law_same, b__law_same, m__law_same, k__law_same⟩ := C__law_same.ex
  obtain ⟨f_ways, fd_ways, ps_ways, F_of_ways, b_ways, m_ways, k_ways⟩ := C_ways.ex
  obtain ⟨f__law_all_ways, fd__law_all_ways, ps__law_all_ways, F_of__law_all_ways, b__law_all_ways, m__law_all_ways, k__law_all_ways⟩ := C__law_all_ways.ex
  exact calAt (N := N_law) (F := F_law) lk hcd sc_law rfl fun f cdv A outer s H E hr => ⟨_,
      (dss_cons (ds_setN 1 nd (dn_callN F_of__law_bag (hr.mono (by decide)) rfl m__law_bag k__law_bag b__law_bag (da_cons (de_var 0) da_nil)))
       (dss_cons (ds_set 2 nd (de_call F_of__law_draw (hr.mono (by decide)) rfl m__law_draw k__law_draw b__law_draw (dr_r 1 (dr_d de_int dr_nil))))
       (dss_cons (ds_set 3 nd (de_sub_ix (de_give (dn_lst (da_cons de_int (da_cons de_int (da_cons de_int (da_cons de_int (da_cons de_int (da_cons de_int (da_cons de_int (da_cons de_int (da_cons de_int (da_cons de_int (da_cons de_int (da_cons de_int da_nil)))))))))))))) (de_var 2)))
       (dss_cons (ds_set 4 nd (de_sub_ix (de_give (dn_lst (da_cons de_int (da_cons de_int (da_cons de_int (da_cons de_int (da_cons de_int (da_cons de_int da_nil)))))))) (de_var 3)))
       (dss_cons (ds_if (dt_cmp (op_eqD hr.units) q_eq (de_var 2) de_int (nomark _)) (dss_one (ds_set 4 nd de_int))
       dss_nil)
       (dss_cons (ds_set 5 nd (de_sub_ix (de_give (dn_lst (da_cons de_int (da_cons de_int (da_cons de_int (da_cons de_int (da_cons de_int (da_cons de_int da_nil)))))))) (de_call F_of__law_draw (hr.mono (by decide)) rfl m__law_draw k__law_draw b__law_draw (dr_r 1 (dr_d de_int dr_nil)))))
       (dss_cons (ds_set 6 nd (de_call F_of__law_rows (hr.mono (by decide)) rfl m__law_rows k__law_rows b__law_rows (dr_r 1 (dr_d (de_var 3) (dr_d (de_call F_of__law_draw (hr.mono (by decide)) rfl m__law_draw k__law_draw b__law_draw (dr_r 1 (dr_d (de_add (de_var 4) de_int) dr_nil))) (dr_d (de_var 5) dr_nil))))))
       (dss_cons (ds_set 7 nd (de_call F_of__law_aim (hr.mono (by decide)) rfl m__law_aim k__law_aim b__law_aim (dr_r 1 (dr_d (de_var 6) (dr_d (de_var 3) (dr_d (de_var 5) dr_nil))))))
       (dss_one (ds_ret (de_call F_of__law_same (hr.mono (by decide)) rfl m__law_same k__law_same b__law_same (dr_d (de_give (dn_listG F_of_ways (hr.mono (by decide)) rfl m_ways k_ways b_ways rfl T.b_list PyProof.Rows.boot_list (da_cons (de_var 6) (da_cons (de_var 7) da_nil)))) (dr_d (de_call F_of__law_all_ways (hr.mono (by decide)) rfl m__law_all_ways k__law_all_ways b__law_all_ways (dr_d (de_var 6) (dr_d (de_var 7) dr_nil))) dr_nil)))))))))))))⟩
end
theorem all_mk {l : PySem.W.OpenLaw} {w : World} {K : PySem.W.Frag} {h : Heap} {mg : Str → Option Value} {fa : Addr} (X : K.In h) (G : h.Ns mainGlobals mg) (hfa : mg "law" = some (.ref fa))
    {f_fraction : Addr} {od_fraction an_fraction : Option Addr} {sl_fraction : Array (Option Value)} {oc_fraction kV_fraction dc_fraction pm_fraction cd_fraction ct_fraction : Value}
    {T_fraction : Addr} (a_fraction : PySem.W.nsIn K mainGlobals "fraction" = some (some (.ref f_fraction))) (l_fraction : K.lookup f_fraction = some ⟨oc_fraction, od_fraction, .func (PySem.W.fnOf "fraction" "fraction" (defArgs s_fraction) (defBody s_fraction) (defScope s_fraction) (.ref T_fraction) kV_fraction dc_fraction pm_fraction an_fraction cd_fraction ct_fraction), sl_fraction⟩) (c_fraction : PySem.W.codeIn K cd_fraction "fraction" = true) (k_fraction : PySem.W.keepIn K (.ref f_fraction) = true)
    {odT_fraction : Option Addr} {slT_fraction : Array (Option Value)} {ocT_fraction : Value} {mT_fraction : Nat} {tk_fraction_0 : Tok} (t_fraction : K.lookup T_fraction = some ⟨ocT_fraction, odT_fraction, .seq #[.int 1 tk_fraction_0] mT_fraction, slT_fraction⟩)
    {f_primitive : Addr} {od_primitive an_primitive : Option Addr} {sl_primitive : Array (Option Value)} {oc_primitive kV_primitive dc_primitive pm_primitive cd_primitive ct_primitive : Value}
    (a_primitive : PySem.W.nsIn K mainGlobals "primitive" = some (some (.ref f_primitive))) (l_primitive : K.lookup f_primitive = some ⟨oc_primitive, od_primitive, .func (PySem.W.fnOf "primitive" "primitive" (defArgs s_primitive) (defBody s_primitive) (defScope s_primitive) .none kV_primitive dc_primitive pm_primitive an_primitive cd_primitive ct_primitive), sl_primitive⟩) (c_primitive : PySem.W.codeIn K cd_primitive "primitive" = true) (k_primitive : PySem.W.keepIn K (.ref f_primitive) = true)
    {f__has_at_most : Addr} {od__has_at_most an__has_at_most : Option Addr} {sl__has_at_most : Array (Option Value)} {oc__has_at_most kV__has_at_most dc__has_at_most pm__has_at_most cd__has_at_most ct__has_at_most : Value}
    (a__has_at_most : PySem.W.nsIn K mainGlobals "_has_at_most" = some (some (.ref f__has_at_most))) (l__has_at_most : K.lookup f__has_at_most = some ⟨oc__has_at_most, od__has_at_most, .func (PySem.W.fnOf "_has_at_most" "_has_at_most" (defArgs s__has_at_most) (defBody s__has_at_most) (defScope s__has_at_most) .none kV__has_at_most dc__has_at_most pm__has_at_most an__has_at_most cd__has_at_most ct__has_at_most), sl__has_at_most⟩) (c__has_at_most : PySem.W.codeIn K cd__has_at_most "_has_at_most" = true) (k__has_at_most : PySem.W.keepIn K (.ref f__has_at_most) = true)
    {f__are_neighbours : Addr} {od__are_neighbours an__are_neighbours : Option Addr} {sl__are_neighbours : Array (Option Value)} {oc__are_neighbours kV__are_neighbours dc__are_neighbours pm__are_neighbours cd__are_neighbours ct__are_neighbours : Value}
    (a__are_neighbours : PySem.W.nsIn K mainGlobals "_are_neighbours" = some (some (.ref f__are_neighbours))) (l__are_neighbours : K.lookup f__are_neighbours = some ⟨oc__are_neighbours, od__are_neighbours, .func (PySem.W.fnOf "_are_neighbours" "_are_neighbours" (defArgs s__are_neighbours) (defBody s__are_neighbours) (defScope s__are_neighbours) .none kV__are_neighbours dc__are_neighbours pm__are_neighbours an__are_neighbours cd__are_neighbours ct__are_neighbours), sl__are_neighbours⟩) (c__are_neighbours : PySem.W.codeIn K cd__are_neighbours "_are_neighbours" = true) (k__are_neighbours : PySem.W.keepIn K (.ref f__are_neighbours) = true)
    {f__merged : Addr} {od__merged an__merged : Option Addr} {sl__merged : Array (Option Value)} {oc__merged kV__merged dc__merged pm__merged cd__merged ct__merged : Value}
    (a__merged : PySem.W.nsIn K mainGlobals "_merged" = some (some (.ref f__merged))) (l__merged : K.lookup f__merged = some ⟨oc__merged, od__merged, .func (PySem.W.fnOf "_merged" "_merged" (defArgs s__merged) (defBody s__merged) (defScope s__merged) .none kV__merged dc__merged pm__merged an__merged cd__merged ct__merged), sl__merged⟩) (c__merged : PySem.W.codeIn K cd__merged "_merged" = true) (k__merged : PySem.W.keepIn K (.ref f__merged) = true)
    {f__balanced_at : Addr} {od__balanced_at an__balanced_at : Option Addr} {sl__balanced_at : Array (Option Value)} {oc__balanced_at kV__balanced_at dc__balanced_at pm__balanced_at cd__balanced_at ct__balanced_at : Value}
    (a__balanced_at : PySem.W.nsIn K mainGlobals "_balanced_at" = some (some (.ref f__balanced_at))) (l__balanced_at : K.lookup f__balanced_at = some ⟨oc__balanced_at, od__balanced_at, .func (PySem.W.fnOf "_balanced_at" "_balanced_at" (defArgs s__balanced_at) (defBody s__balanced_at) (defScope s__balanced_at) .none kV__balanced_at dc__balanced_at pm__balanced_at an__balanced_at cd__balanced_at ct__balanced_at), sl__balanced_at⟩) (c__balanced_at : PySem.W.codeIn K cd__balanced_at "_balanced_at" = true) (k__balanced_at : PySem.W.keepIn K (.ref f__balanced_at) = true)
    {f__balances : Addr} {od__balances an__balances : Option Addr} {sl__balances : Array (Option Value)} {oc__balances kV__balances dc__balances pm__balances cd__balances ct__balances : Value}
    (a__balances : PySem.W.nsIn K mainGlobals "_balances" = some (some (.ref f__balances))) (l__balances : K.lookup f__balances = some ⟨oc__balances, od__balances, .func (PySem.W.fnOf "_balances" "_balances" (defArgs s__balances) (defBody s__balances) (defScope s__balances) .none kV__balances dc__balances pm__balances an__balances cd__balances ct__balances), sl__balances⟩) (c__balances : PySem.W.codeIn K cd__balances "_balances" = true) (k__balances : PySem.W.keepIn K (.ref f__balances) = true)
    {f__sort_key : Addr} {od__sort_key an__sort_key : Option Addr} {sl__sort_key : Array (Option Value)} {oc__sort_key kV__sort_key dc__sort_key pm__sort_key cd__sort_key ct__sort_key : Value}
    (a__sort_key : PySem.W.nsIn K mainGlobals "_sort_key" = some (some (.ref f__sort_key))) (l__sort_key : K.lookup f__sort_key = some ⟨oc__sort_key, od__sort_key, .func (PySem.W.fnOf "_sort_key" "_sort_key" (defArgs s__sort_key) (defBody s__sort_key) (defScope s__sort_key) .none kV__sort_key dc__sort_key pm__sort_key an__sort_key cd__sort_key ct__sort_key), sl__sort_key⟩) (c__sort_key : PySem.W.codeIn K cd__sort_key "_sort_key" = true) (k__sort_key : PySem.W.keepIn K (.ref f__sort_key) = true)
    {f__negated : Addr} {od__negated an__negated : Option Addr} {sl__negated : Array (Option Value)} {oc__negated kV__negated dc__negated pm__negated cd__negated ct__negated : Value}
    (a__negated : PySem.W.nsIn K mainGlobals "_negated" = some (some (.ref f__negated))) (l__negated : K.lookup f__negated = some ⟨oc__negated, od__negated, .func (PySem.W.fnOf "_negated" "_negated" (defArgs s__negated) (defBody s__negated) (defScope s__negated) .none kV__negated dc__negated pm__negated an__negated cd__negated ct__negated), sl__negated⟩) (c__negated : PySem.W.codeIn K cd__negated "_negated" = true) (k__negated : PySem.W.keepIn K (.ref f__negated) = true)
    {f__weights_of : Addr} {od__weights_of an__weights_of : Option Addr} {sl__weights_of : Array (Option Value)} {oc__weights_of kV__weights_of dc__weights_of pm__weights_of cd__weights_of ct__weights_of : Value}
    (a__weights_of : PySem.W.nsIn K mainGlobals "_weights_of" = some (some (.ref f__weights_of))) (l__weights_of : K.lookup f__weights_of = some ⟨oc__weights_of, od__weights_of, .func (PySem.W.fnOf "_weights_of" "_weights_of" (defArgs s__weights_of) (defBody s__weights_of) (defScope s__weights_of) .none kV__weights_of dc__weights_of pm__weights_of an__weights_of cd__weights_of ct__weights_of), sl__weights_of⟩) (c__weights_of : PySem.W.codeIn K cd__weights_of "_weights_of" = true) (k__weights_of : PySem.W.keepIn K (.ref f__weights_of) = true)
    {f_ways : Addr} {od_ways an_ways : Option Addr} {sl_ways : Array (Option Value)} {oc_ways kV_ways dc_ways pm_ways cd_ways ct_ways : Value}
    (a_ways : PySem.W.nsIn K mainGlobals "ways" = some (some (.ref f_ways))) (l_ways : K.lookup f_ways = some ⟨oc_ways, od_ways, .func (PySem.W.fnOf "ways" "ways" (defArgs s_ways) (defBody s_ways) (defScope s_ways) .none kV_ways dc_ways pm_ways an_ways cd_ways ct_ways), sl_ways⟩) (c_ways : PySem.W.codeIn K cd_ways "ways" = true) (k_ways : PySem.W.keepIn K (.ref f_ways) = true)
    {f__law_bag : Addr} {od__law_bag an__law_bag : Option Addr} {sl__law_bag : Array (Option Value)} {oc__law_bag kV__law_bag dc__law_bag pm__law_bag cd__law_bag ct__law_bag : Value}
    (a__law_bag : PySem.W.nsIn K mainGlobals "_law_bag" = some (some (.ref f__law_bag))) (l__law_bag : K.lookup f__law_bag = some ⟨oc__law_bag, od__law_bag, .func (PySem.W.fnOf "_law_bag" "_law_bag" (defArgs s__law_bag) (defBody s__law_bag) (defScope s__law_bag) .none kV__law_bag dc__law_bag pm__law_bag an__law_bag cd__law_bag ct__law_bag), sl__law_bag⟩) (c__law_bag : PySem.W.codeIn K cd__law_bag "_law_bag" = true) (k__law_bag : PySem.W.keepIn K (.ref f__law_bag) = true)
    {f__law_draw : Addr} {od__law_draw an__law_draw : Option Addr} {sl__law_draw : Array (Option Value)} {oc__law_draw kV__law_draw dc__law_draw pm__law_draw cd__law_draw ct__law_draw : Value}
    (a__law_draw : PySem.W.nsIn K mainGlobals "_law_draw" = some (some (.ref f__law_draw))) (l__law_draw : K.lookup f__law_draw = some ⟨oc__law_draw, od__law_draw, .func (PySem.W.fnOf "_law_draw" "_law_draw" (defArgs s__law_draw) (defBody s__law_draw) (defScope s__law_draw) .none kV__law_draw dc__law_draw pm__law_draw an__law_draw cd__law_draw ct__law_draw), sl__law_draw⟩) (c__law_draw : PySem.W.codeIn K cd__law_draw "_law_draw" = true) (k__law_draw : PySem.W.keepIn K (.ref f__law_draw) = true)
    {f__law_same : Addr} {od__law_same an__law_same : Option Addr} {sl__law_same : Array (Option Value)} {oc__law_same kV__law_same dc__law_same pm__law_same cd__law_same ct__law_same : Value}
    (a__law_same : PySem.W.nsIn K mainGlobals "_law_same" = some (some (.ref f__law_same))) (l__law_same : K.lookup f__law_same = some ⟨oc__law_same, od__law_same, .func (PySem.W.fnOf "_law_same" "_law_same" (defArgs s__law_same) (defBody s__law_same) (defScope s__law_same) .none kV__law_same dc__law_same pm__law_same an__law_same cd__law_same ct__law_same), sl__law_same⟩) (c__law_same : PySem.W.codeIn K cd__law_same "_law_same" = true) (k__law_same : PySem.W.keepIn K (.ref f__law_same) = true)
    {f__law_gcd : Addr} {od__law_gcd an__law_gcd : Option Addr} {sl__law_gcd : Array (Option Value)} {oc__law_gcd kV__law_gcd dc__law_gcd pm__law_gcd cd__law_gcd ct__law_gcd : Value}
    (a__law_gcd : PySem.W.nsIn K mainGlobals "_law_gcd" = some (some (.ref f__law_gcd))) (l__law_gcd : K.lookup f__law_gcd = some ⟨oc__law_gcd, od__law_gcd, .func (PySem.W.fnOf "_law_gcd" "_law_gcd" (defArgs s__law_gcd) (defBody s__law_gcd) (defScope s__law_gcd) .none kV__law_gcd dc__law_gcd pm__law_gcd an__law_gcd cd__law_gcd ct__law_gcd), sl__law_gcd⟩) (c__law_gcd : PySem.W.codeIn K cd__law_gcd "_law_gcd" = true) (k__law_gcd : PySem.W.keepIn K (.ref f__law_gcd) = true)
    {f__law_fraction : Addr} {od__law_fraction an__law_fraction : Option Addr} {sl__law_fraction : Array (Option Value)} {oc__law_fraction kV__law_fraction dc__law_fraction pm__law_fraction cd__law_fraction ct__law_fraction : Value}
    (a__law_fraction : PySem.W.nsIn K mainGlobals "_law_fraction" = some (some (.ref f__law_fraction))) (l__law_fraction : K.lookup f__law_fraction = some ⟨oc__law_fraction, od__law_fraction, .func (PySem.W.fnOf "_law_fraction" "_law_fraction" (defArgs s__law_fraction) (defBody s__law_fraction) (defScope s__law_fraction) .none kV__law_fraction dc__law_fraction pm__law_fraction an__law_fraction cd__law_fraction ct__law_fraction), sl__law_fraction⟩) (c__law_fraction : PySem.W.codeIn K cd__law_fraction "_law_fraction" = true) (k__law_fraction : PySem.W.keepIn K (.ref f__law_fraction) = true)
    {f__law_row : Addr} {od__law_row an__law_row : Option Addr} {sl__law_row : Array (Option Value)} {oc__law_row kV__law_row dc__law_row pm__law_row cd__law_row ct__law_row : Value}
    (a__law_row : PySem.W.nsIn K mainGlobals "_law_row" = some (some (.ref f__law_row))) (l__law_row : K.lookup f__law_row = some ⟨oc__law_row, od__law_row, .func (PySem.W.fnOf "_law_row" "_law_row" (defArgs s__law_row) (defBody s__law_row) (defScope s__law_row) .none kV__law_row dc__law_row pm__law_row an__law_row cd__law_row ct__law_row), sl__law_row⟩) (c__law_row : PySem.W.codeIn K cd__law_row "_law_row" = true) (k__law_row : PySem.W.keepIn K (.ref f__law_row) = true)
    {f__law_many : Addr} {od__law_many an__law_many : Option Addr} {sl__law_many : Array (Option Value)} {oc__law_many kV__law_many dc__law_many pm__law_many cd__law_many ct__law_many : Value}
    (a__law_many : PySem.W.nsIn K mainGlobals "_law_many" = some (some (.ref f__law_many))) (l__law_many : K.lookup f__law_many = some ⟨oc__law_many, od__law_many, .func (PySem.W.fnOf "_law_many" "_law_many" (defArgs s__law_many) (defBody s__law_many) (defScope s__law_many) .none kV__law_many dc__law_many pm__law_many an__law_many cd__law_many ct__law_many), sl__law_many⟩) (c__law_many : PySem.W.codeIn K cd__law_many "_law_many" = true) (k__law_many : PySem.W.keepIn K (.ref f__law_many) = true)
    {f__law_rows : Addr} {od__law_rows an__law_rows : Option Addr} {sl__law_rows : Array (Option Value)} {oc__law_rows kV__law_rows dc__law_rows pm__law_rows cd__law_rows ct__law_rows : Value}
    (a__law_rows : PySem.W.nsIn K mainGlobals "_law_rows" = some (some (.ref f__law_rows))) (l__law_rows : K.lookup f__law_rows = some ⟨oc__law_rows, od__law_rows, .func (PySem.W.fnOf "_law_rows" "_law_rows" (defArgs s__law_rows) (defBody s__law_rows) (defScope s__law_rows) .none kV__law_rows dc__law_rows pm__law_rows an__law_rows cd__law_rows ct__law_rows), sl__law_rows⟩) (c__law_rows : PySem.W.codeIn K cd__law_rows "_law_rows" = true) (k__law_rows : PySem.W.keepIn K (.ref f__law_rows) = true)
    {f__law_aim : Addr} {od__law_aim an__law_aim : Option Addr} {sl__law_aim : Array (Option Value)} {oc__law_aim kV__law_aim dc__law_aim pm__law_aim cd__law_aim ct__law_aim : Value}
    (a__law_aim : PySem.W.nsIn K mainGlobals "_law_aim" = some (some (.ref f__law_aim))) (l__law_aim : K.lookup f__law_aim = some ⟨oc__law_aim, od__law_aim, .func (PySem.W.fnOf "_law_aim" "_law_aim" (defArgs s__law_aim) (defBody s__law_aim) (defScope s__law_aim) .none kV__law_aim dc__law_aim pm__law_aim an__law_aim cd__law_aim ct__law_aim), sl__law_aim⟩) (c__law_aim : PySem.W.codeIn K cd__law_aim "_law_aim" = true) (k__law_aim : PySem.W.keepIn K (.ref f__law_aim) = true)
    {f__law_sets : Addr} {od__law_sets an__law_sets : Option Addr} {sl__law_sets : Array (Option Value)} {oc__law_sets kV__law_sets dc__law_sets pm__law_sets cd__law_sets ct__law_sets : Value}
    (a__law_sets : PySem.W.nsIn K mainGlobals "_law_sets" = some (some (.ref f__law_sets))) (l__law_sets : K.lookup f__law_sets = some ⟨oc__law_sets, od__law_sets, .func (PySem.W.fnOf "_law_sets" "_law_sets" (defArgs s__law_sets) (defBody s__law_sets) (defScope s__law_sets) .none kV__law_sets dc__law_sets pm__law_sets an__law_sets cd__law_sets ct__law_sets), sl__law_sets⟩) (c__law_sets : PySem.W.codeIn K cd__law_sets "_law_sets" = true) (k__law_sets : PySem.W.keepIn K (.ref f__law_sets) = true)
    {f__law_weights : Addr} {od__law_weights an__law_weights : Option Addr} {sl__law_weights : Array (Option Value)} {oc__law_weights kV__law_weights dc__law_weights pm__law_weights cd__law_weights ct__law_weights : Value}
    (a__law_weights : PySem.W.nsIn K mainGlobals "_law_weights" = some (some (.ref f__law_weights))) (l__law_weights : K.lookup f__law_weights = some ⟨oc__law_weights, od__law_weights, .func (PySem.W.fnOf "_law_weights" "_law_weights" (defArgs s__law_weights) (defBody s__law_weights) (defScope s__law_weights) .none kV__law_weights dc__law_weights pm__law_weights an__law_weights cd__law_weights ct__law_weights), sl__law_weights⟩) (c__law_weights : PySem.W.codeIn K cd__law_weights "_law_weights" = true) (k__law_weights : PySem.W.keepIn K (.ref f__law_weights) = true)
    {f__law_all_ways : Addr} {od__law_all_ways an__law_all_ways : Option Addr} {sl__law_all_ways : Array (Option Value)} {oc__law_all_ways kV__law_all_ways dc__law_all_ways pm__law_all_ways cd__law_all_ways ct__law_all_ways : Value}
    (a__law_all_ways : PySem.W.nsIn K mainGlobals "_law_all_ways" = some (some (.ref f__law_all_ways))) (l__law_all_ways : K.lookup f__law_all_ways = some ⟨oc__law_all_ways, od__law_all_ways, .func (PySem.W.fnOf "_law_all_ways" "_law_all_ways" (defArgs s__law_all_ways) (defBody s__law_all_ways) (defScope s__law_all_ways) .none kV__law_all_ways dc__law_all_ways pm__law_all_ways an__law_all_ways cd__law_all_ways ct__law_all_ways), sl__law_all_ways⟩) (c__law_all_ways : PySem.W.codeIn K cd__law_all_ways "_law_all_ways" = true) (k__law_all_ways : PySem.W.keepIn K (.ref f__law_all_ways) = true)
    {f_law : Addr} {od_law an_law : Option Addr} {sl_law : Array (Option Value)} {oc_law kV_law dc_law pm_law cd_law ct_law : Value}
    (a_law : PySem.W.nsIn K mainGlobals "law" = some (some (.ref f_law))) (l_law : K.lookup f_law = some ⟨oc_law, od_law, .func (PySem.W.fnOf "law" "law" (defArgs s_law) (defBody s_law) (defScope s_law) .none kV_law dc_law pm_law an_law cd_law ct_law), sl_law⟩) (c_law : PySem.W.codeIn K cd_law "law" = true) (k_law : PySem.W.keepIn K (.ref f_law) = true)
    (z_gcd : PySem.W.nsIn K mainGlobals "gcd" = some (some (.builtin "math.gcd")))
    (z_tuple : PySem.W.nsIn K mainGlobals "tuple" = some none)
    (z_range : PySem.W.nsIn K mainGlobals "range" = some none)
    (z_zip : PySem.W.nsIn K mainGlobals "zip" = some none)
    (z_enumerate : PySem.W.nsIn K mainGlobals "enumerate" = some none)
    (z_len : PySem.W.nsIn K mainGlobals "len" = some none)
    (z_sorted : PySem.W.nsIn K mainGlobals "sorted" = some none)
    (z_list : PySem.W.nsIn K mainGlobals "list" = some none)
    (z_int : PySem.W.nsIn K mainGlobals "int" = some none)
    (z_isinstance : PySem.W.nsIn K mainGlobals "isinstance" = some none)
    (z_str : PySem.W.nsIn K mainGlobals "str" = some none)
    (z_bool : PySem.W.nsIn K mainGlobals "bool" = some none)
    (z_abs : PySem.W.nsIn K mainGlobals "abs" = some none)
    (z_max : PySem.W.nsIn K mainGlobals "max" = some none)
    (z_all : PySem.W.nsIn K mainGlobals "all" = some none)
    : ∃ fd : FuncData, (∀ (s : Shared) (v : Value), BindsTo s fd ⟨[v], []⟩ [("_law_script", v)]) ∧ ∀ base : Heap, K.In base → base.Ns mainGlobals mg → FnOk l.prog w K mg base CX0 9 fa fd ["_law_script"] (spD K 1 g_law) := by
  have e := hfa.symm.trans (PySem.W.mg_of X G a_law)
  cases e
  have T : Txt mg := ⟨PySem.W.mg_of X G z_gcd, PySem.W.mg_none_of X G z_tuple, PySem.W.mg_none_of X G z_range, PySem.W.mg_none_of X G z_zip, PySem.W.mg_none_of X G z_enumerate, PySem.W.mg_none_of X G z_len, PySem.W.mg_none_of X G z_sorted, PySem.W.mg_none_of X G z_list, PySem.W.mg_none_of X G z_int, PySem.W.mg_none_of X G z_isinstance, PySem.W.mg_none_of X G z_str, PySem.W.mg_none_of X G z_bool, PySem.W.mg_none_of X G z_abs, PySem.W.mg_none_of X G z_max, PySem.W.mg_none_of X G z_all⟩
  refine ⟨PySem.W.fnOf "law" "law" (defArgs s_law) (defBody s_law) (defScope s_law) .none kV_law dc_law pm_law an_law cd_law ct_law, fun s v => .of_eq rfl, fun base _ _ => ?_⟩
  have D_fraction : Def K mg "fraction" s_fraction ["top", "bottom"] := ⟨_, _, _, _, _, _, _, _, _, _, _, l_fraction, c_fraction, k_fraction, PySem.W.mg_of X G a_fraction, binds_dflt (its := [.int 1 tk_fraction_0]) t_fraction fun us hl => match us, hl with | [_, _], _ => ⟨_, rfl, rfl⟩⟩
  have D_primitive : Def K mg "primitive" s_primitive ["row"] := ⟨_, _, _, _, _, _, _, _, _, _, _, l_primitive, c_primitive, k_primitive, PySem.W.mg_of X G a_primitive, .all fun us hl => match us, hl with | [_], _ => rfl⟩
  have D__has_at_most : Def K mg "_has_at_most" s__has_at_most ["bits", "most"] := ⟨_, _, _, _, _, _, _, _, _, _, _, l__has_at_most, c__has_at_most, k__has_at_most, PySem.W.mg_of X G a__has_at_most, .all fun us hl => match us, hl with | [_, _], _ => rfl⟩
  have D__are_neighbours : Def K mg "_are_neighbours" s__are_neighbours ["found", "first", "second"] := ⟨_, _, _, _, _, _, _, _, _, _, _, l__are_neighbours, c__are_neighbours, k__are_neighbours, PySem.W.mg_of X G a__are_neighbours, .all fun us hl => match us, hl with | [_, _, _], _ => rfl⟩
  have D__merged : Def K mg "_merged" s__merged ["first", "second", "column"] := ⟨_, _, _, _, _, _, _, _, _, _, _, l__merged, c__merged, k__merged, PySem.W.mg_of X G a__merged, .all fun us hl => match us, hl with | [_, _, _], _ => rfl⟩
  have D__balanced_at : Def K mg "_balanced_at" s__balanced_at ["found", "column"] := ⟨_, _, _, _, _, _, _, _, _, _, _, l__balanced_at, c__balanced_at, k__balanced_at, PySem.W.mg_of X G a__balanced_at, .all fun us hl => match us, hl with | [_, _], _ => rfl⟩
  have D__balances : Def K mg "_balances" s__balances ["vectors", "size"] := ⟨_, _, _, _, _, _, _, _, _, _, _, l__balances, c__balances, k__balances, PySem.W.mg_of X G a__balances, .all fun us hl => match us, hl with | [_, _], _ => rfl⟩
  have D__sort_key : Def K mg "_sort_key" s__sort_key ["weights"] := ⟨_, _, _, _, _, _, _, _, _, _, _, l__sort_key, c__sort_key, k__sort_key, PySem.W.mg_of X G a__sort_key, .all fun us hl => match us, hl with | [_], _ => rfl⟩
  have D__negated : Def K mg "_negated" s__negated ["row"] := ⟨_, _, _, _, _, _, _, _, _, _, _, l__negated, c__negated, k__negated, PySem.W.mg_of X G a__negated, .all fun us hl => match us, hl with | [_], _ => rfl⟩
  have D__weights_of : Def K mg "_weights_of" s__weights_of ["balance", "share"] := ⟨_, _, _, _, _, _, _, _, _, _, _, l__weights_of, c__weights_of, k__weights_of, PySem.W.mg_of X G a__weights_of, .all fun us hl => match us, hl with | [_, _], _ => rfl⟩
  have D_ways : Def K mg "ways" s_ways ["rows", "aim"] := ⟨_, _, _, _, _, _, _, _, _, _, _, l_ways, c_ways, k_ways, PySem.W.mg_of X G a_ways, .all fun us hl => match us, hl with | [_, _], _ => rfl⟩
  have D__law_bag : Def K mg "_law_bag" s__law_bag ["_law_script"] := ⟨_, _, _, _, _, _, _, _, _, _, _, l__law_bag, c__law_bag, k__law_bag, PySem.W.mg_of X G a__law_bag, .all fun us hl => match us, hl with | [_], _ => rfl⟩
  have D__law_draw : Def K mg "_law_draw" s__law_draw ["_law_bag_here", "_law_size"] := ⟨_, _, _, _, _, _, _, _, _, _, _, l__law_draw, c__law_draw, k__law_draw, PySem.W.mg_of X G a__law_draw, .all fun us hl => match us, hl with | [_, _], _ => rfl⟩
  have D__law_same : Def K mg "_law_same" s__law_same ["_law_value", "_law_due"] := ⟨_, _, _, _, _, _, _, _, _, _, _, l__law_same, c__law_same, k__law_same, PySem.W.mg_of X G a__law_same, .all fun us hl => match us, hl with | [_, _], _ => rfl⟩
  have D__law_gcd : Def K mg "_law_gcd" s__law_gcd ["_law_first", "_law_second"] := ⟨_, _, _, _, _, _, _, _, _, _, _, l__law_gcd, c__law_gcd, k__law_gcd, PySem.W.mg_of X G a__law_gcd, .all fun us hl => match us, hl with | [_, _], _ => rfl⟩
  have D__law_fraction : Def K mg "_law_fraction" s__law_fraction ["_law_top", "_law_bottom"] := ⟨_, _, _, _, _, _, _, _, _, _, _, l__law_fraction, c__law_fraction, k__law_fraction, PySem.W.mg_of X G a__law_fraction, .all fun us hl => match us, hl with | [_, _], _ => rfl⟩
  have D__law_row : Def K mg "_law_row" s__law_row ["_law_bag_here", "_law_width", "_law_most"] := ⟨_, _, _, _, _, _, _, _, _, _, _, l__law_row, c__law_row, k__law_row, PySem.W.mg_of X G a__law_row, .all fun us hl => match us, hl with | [_, _, _], _ => rfl⟩
  have D__law_many : Def K mg "_law_many" s__law_many ["_law_bag_here", "_law_row_here"] := ⟨_, _, _, _, _, _, _, _, _, _, _, l__law_many, c__law_many, k__law_many, PySem.W.mg_of X G a__law_many, .all fun us hl => match us, hl with | [_, _], _ => rfl⟩
  have D__law_rows : Def K mg "_law_rows" s__law_rows ["_law_bag_here", "_law_width", "_law_many_here", "_law_most"] := ⟨_, _, _, _, _, _, _, _, _, _, _, l__law_rows, c__law_rows, k__law_rows, PySem.W.mg_of X G a__law_rows, .all fun us hl => match us, hl with | [_, _, _, _], _ => rfl⟩
  have D__law_aim : Def K mg "_law_aim" s__law_aim ["_law_bag_here", "_law_rows_here", "_law_width", "_law_most"] := ⟨_, _, _, _, _, _, _, _, _, _, _, l__law_aim, c__law_aim, k__law_aim, PySem.W.mg_of X G a__law_aim, .all fun us hl => match us, hl with | [_, _, _, _], _ => rfl⟩
  have D__law_sets : Def K mg "_law_sets" s__law_sets ["_law_many_here", "_law_size"] := ⟨_, _, _, _, _, _, _, _, _, _, _, l__law_sets, c__law_sets, k__law_sets, PySem.W.mg_of X G a__law_sets, .all fun us hl => match us, hl with | [_, _], _ => rfl⟩
  have D__law_weights : Def K mg "_law_weights" s__law_weights ["_law_rows_here", "_law_aim_here"] := ⟨_, _, _, _, _, _, _, _, _, _, _, l__law_weights, c__law_weights, k__law_weights, PySem.W.mg_of X G a__law_weights, .all fun us hl => match us, hl with | [_, _], _ => rfl⟩
  have D__law_all_ways : Def K mg "_law_all_ways" s__law_all_ways ["_law_rows_here", "_law_aim_here"] := ⟨_, _, _, _, _, _, _, _, _, _, _, l__law_all_ways, c__law_all_ways, k__law_all_ways, PySem.W.mg_of X G a__law_all_ways, .all fun us hl => match us, hl with | [_, _], _ => rfl⟩
  have C_fraction := ok_fraction (P := l.prog) (w := w) (base := base) T  D_fraction
  have C_primitive := ok_primitive (P := l.prog) (w := w) (base := base) T  D_primitive
  have C__has_at_most := ok__has_at_most (P := l.prog) (w := w) (base := base) T  D__has_at_most
  have C__are_neighbours := ok__are_neighbours (P := l.prog) (w := w) (base := base) T  D__are_neighbours
  have C__merged := ok__merged (P := l.prog) (w := w) (base := base) T C_primitive D__merged
  have C__balanced_at := ok__balanced_at (P := l.prog) (w := w) (base := base) T C__has_at_most C__are_neighbours C__merged D__balanced_at
  have C__balances := ok__balances (P := l.prog) (w := w) (base := base) T C__balanced_at D__balances
  have C__sort_key := ok__sort_key (P := l.prog) (w := w) (base := base) T  D__sort_key
  have C__negated := ok__negated (P := l.prog) (w := w) (base := base) T  D__negated
  have C__weights_of := ok__weights_of (P := l.prog) (w := w) (base := base) T C_fraction D__weights_of
  have C_ways := ok_ways (P := l.prog) (w := w) (base := base) T C__balances C__negated C__weights_of C__sort_key D_ways
  have C__law_bag := ok__law_bag (P := l.prog) (w := w) (base := base) T  D__law_bag
  have C__law_draw := ok__law_draw (P := l.prog) (w := w) (base := base) T  D__law_draw
  have C__law_same := ok__law_same (P := l.prog) (w := w) (base := base) T  D__law_same
  have C__law_gcd := ok__law_gcd (P := l.prog) (w := w) (base := base) T  D__law_gcd
  have C__law_fraction := ok__law_fraction (P := l.prog) (w := w) (base := base) T C__law_gcd D__law_fraction
  have C__law_row := ok__law_row (P := l.prog) (w := w) (base := base) T C__law_draw D__law_row
  have C__law_many := ok__law_many (P := l.prog) (w := w) (base := base) T C__law_draw D__law_many
  have C__law_rows := ok__law_rows (P := l.prog) (w := w) (base := base) T C__law_draw C__law_many C__law_row D__law_rows
  have C__law_aim := ok__law_aim (P := l.prog) (w := w) (base := base) T C__law_draw C__law_row D__law_aim
  have C__law_sets := ok__law_sets (P := l.prog) (w := w) (base := base) T  D__law_sets
  have C__law_weights := ok__law_weights (P := l.prog) (w := w) (base := base) T C__law_fraction D__law_weights
  have C__law_all_ways := ok__law_all_ways (P := l.prog) (w := w) (base := base) T C__law_sets C__law_weights D__law_all_ways
  exact ok_law T C__law_bag C__law_draw C__law_rows C__law_aim (C__law_same 6) C_ways C__law_all_ways l_law c_law
theorem walk {l : PySem.W.OpenLaw} {q : Program} {loose : List Str} {XP : (Str → Option Value) → Heap → Prop} {YP : World → Heap → Prop} {d : DefRec} {K : Params → PySem.W.Frag} (hn : l.most = some 63) (hdf : d.params.defaults = [])
    (hY : ∀ (w : World) (h : Heap), YP w h → (K w.params).In h) (true_ : ∀ ns : List Int, ns.length ≤ 63 → ∃ outs, g_law [.dat (.lst (ns.map .int))] = some (.bl true, outs))
    (F : ∀ (w : World) (mg : Str → Option Value) (fa : Addr) (h : Heap), (K w.params).In h → h.Ns mainGlobals mg → mg d.name = some (.ref fa) →
      ∃ fd : FuncData, (∀ (s : Shared) (u : Value), BindsTo s fd ⟨[u], []⟩ [("_law_script", u)]) ∧ ∀ base : Heap, (K w.params).In base → base.Ns mainGlobals mg → FnOk l.prog w (K w.params) mg base CX0 9 fa fd ["_law_script"] (spD (K w.params) 1 g_law)) :
    PySem.W.WalkO q loose XP YP l.row.toRowW d [] (fun f vs => PySem.call f vs) :=
  L2.walk_of (n := 63) (k := 9) (x := "_law_script") (CX := fun _ => CX0) (sp := fun w => spD (K w.params) 1 g_law) hn (by decide) hdf ⟨rfl, by decide, by decide⟩ hY F (fun _ _ a ns hl _ hS => endD hS (true_ ns hl)) fun _ _ _ _ _ z => z
end W20
end

section
set_option Elab.async false
set_option linter.all false
set_option maxRecDepth 100000
namespace W20
open L2 DL

def Bd (B : Nat) (ns : List Int) : Prop := ∀ e, e ∈ ns → e.natAbs < 2 ^ B
def gcdI (a b : Int) : Int := ((Nat.gcd a.natAbs b.natAbs : Nat) : Int)
def primStep (ns : List Int) (d e : Int) : Sum D Int := if gcdI d e = 1 then .inl (tupI ns) else .inr (gcdI d e)
def prim (ns : List Int) : List Int := match goL (primStep ns) ns 0 with
  | .inl _ => ns
  | .inr d => if d = 0 then ns else ns.map fun e => e.fdiv d
theorem gcdI_dvd_l (a b : Int) : gcdI a b ∣ a := by
  unfold gcdI
  exact Int.ofNat_dvd_left.mpr (Nat.gcd_dvd_left _ _)
theorem gcdI_dvd_r (a b : Int) : gcdI a b ∣ b := by
  unfold gcdI
  exact Int.ofNat_dvd_left.mpr (Nat.gcd_dvd_right _ _)
theorem gcdI_nn (a b : Int) : 0 ≤ gcdI a b := by unfold gcdI; omega
theorem goL_dvd {ns : List Int} : ∀ (l : List Int) (d d' : Int), goL (primStep ns) l d = .inr d' → (d' ∣ d ∧ ∀ e, e ∈ l → d' ∣ e) ∧ (0 ≤ d → 0 ≤ d')
  | [], d, d', h => by
    simp only [goL] at h; cases h
    exact ⟨⟨Int.dvd_refl d, fun e he => by simp at he⟩, fun h => h⟩
  | a :: l, d, d', h => by
    simp only [goL, primStep] at h
    split at h
    · rename_i e; split at e <;> cases e; cases h
    · rename_i e
      split at e
      · cases e
      · cases e
        obtain ⟨⟨h1, h2⟩, h3⟩ := goL_dvd l _ d' h
        exact ⟨⟨Int.dvd_trans h1 (gcdI_dvd_l _ _), fun e he => (List.mem_cons.mp he).elim (fun q => by rw [q]; exact Int.dvd_trans h1 (gcdI_dvd_r _ _)) (h2 e)⟩, fun _ => h3 (gcdI_nn _ _)⟩
theorem goL_inl {ns : List Int} : ∀ (l : List Int) (d : Int) (x : D), goL (primStep ns) l d = .inl x → x = tupI ns
  | [], d, x, h => by simp only [goL] at h; cases h
  | a :: l, d, x, h => by
    simp only [goL, primStep] at h
    split at h
    · rename_i e; split at e
      · cases e; cases h; rfl
      · cases e
    · rename_i e
      split at e
      · cases e
      · cases e; exact goL_inl l _ x h
theorem gcdI_bd {a b : Int} {B : Nat} (ha : a.natAbs < 2 ^ B) (hb : b.natAbs < 2 ^ B) : (gcdI a b).natAbs < 2 ^ B := by
  unfold gcdI
  have e : ((Nat.gcd a.natAbs b.natAbs : Nat) : Int).natAbs = Nat.gcd a.natAbs b.natAbs := by omega
  rw [e]
  by_cases c : a.natAbs = 0
  · rw [c, Nat.gcd_zero_left]; exact hb
  · exact Nat.lt_of_le_of_lt (Nat.gcd_le_left _ (by omega)) ha
theorem goL_bd {ns : List Int} {B : Nat} : ∀ (l : List Int) (d d' : Int), Bd B l → d.natAbs < 2 ^ B → goL (primStep ns) l d = .inr d' → d'.natAbs < 2 ^ B
  | [], d, d', _, hd, h => by simp only [goL] at h; cases h; exact hd
  | a :: l, d, d', hb, hd, h => by
    simp only [goL, primStep] at h
    split at h
    · rename_i e; split at e <;> cases e; cases h
    · rename_i e
      split at e
      · cases e
      · cases e
        exact goL_bd l _ d' (fun e he => hb e (List.mem_cons_of_mem _ he)) (gcdI_bd hd (hb a List.mem_cons_self)) h
theorem ev_prim {ns : List Int} {B : Nat} (hB : B ≤ 9000) (hb : Bd B ns) (hl : lenOk ns.length = true) : g_primitive [.dat (tupI ns)] = some (tupI (prim ns), [.dat (tupI ns)]) := by
  refine body_rt (ds := [tupI ns]) ?_
  show Rt F_primitive [.dat (tupI ns), .un, .un] _
  unfold F_primitive
  refine rt_seq (ρ1 := [.dat (tupI ns), .dat (.int 0), .un]) (by simp [Nx]) ?_
  obtain ⟨h1, h2⟩ := loopF_go (enc := D.int) (I := fun d ρ => ∃ s2, IsD s2 ∧ ρ = [.dat (tupI ns), .dat (.int d), s2]) (step := primStep ns) (T := fPut0 2)
    (F := (fSeq (fSet 1 (fN gGcd (fCons (fVar 1) (fCons (fVar 2) fNil)))) (fIfS (fTB (fBin gEq (fVar 1) (fC (.int 1)))) (fRet (fN gTuple (fCons (fVar 0) fNil))) fSkip))) ns 0 [.dat (tupI ns), .dat (.int 0), .un] ⟨.un, isD_un, rfl⟩ (fun a ha d ρ ⟨s2, i2, e⟩ => by
      subst e
      refine ⟨[.dat (tupI ns), .dat (.int d), .dat (.int a)], ?_, fun x hx => ?_, fun x hx => ?_⟩
      · rcases i2 with rfl | ⟨_, rfl⟩ <;> simp
      · unfold primStep at hx
        split at hx
        · rename_i e; cases hx
          unfold gcdI at e
          exact ⟨_, by simp [e]; rfl⟩
        · cases hx
      · unfold primStep at hx
        split at hx
        · cases hx
        · rename_i e; cases hx
          unfold gcdI at e
          exact ⟨.nx, [.dat (tupI ns), .dat (.int (gcdI d a)), .dat (.int a)], .inl rfl, by simp [e, gcdI], _, isD_dat, rfl⟩)
  cases e : goL (primStep ns) ns 0 with
  | inl x =>
    obtain ⟨ρ', q⟩ := h1 x e
    have hp : prim ns = ns := by unfold prim; rw [e]
    have ex := goL_inl ns 0 x e
    subst ex
    rw [hp]
    exact rt_seq1 (rt_for (ρ1 := [.dat (tupI ns), .dat (.int 0), .un]) (by simp) ⟨ρ', q⟩)
  | inr d =>
    obtain ⟨ρ', q, s2, i2, er⟩ := h2 d e
    subst er
    have hp : prim ns = if d = 0 then ns else ns.map fun e => e.fdiv d := by unfold prim; rw [e]
    refine rt_seq (nx_for (ρ1 := [.dat (tupI ns), .dat (.int 0), .un]) (by simp) q) ?_
    obtain ⟨⟨_, hd⟩, hn⟩ := goL_dvd ns 0 d e
    by_cases c : d = 0
    · subst c
      rw [if_pos rfl] at hp
      rw [hp]
      exact rt_seq1 (rt_if (b := true) (by simp; rfl) (fun _ => rt_ret ⟨_, by simp; rfl⟩) fun h => by cases h)
    · rw [if_neg c] at hp
      rw [hp]
      refine rt_seq (ρ1 := [.dat (tupI ns), .dat (.int d), s2]) (by simp [Nx, c]) ?_
      have pd : 0 < d := by have := hn (Int.le_refl 0); omega
      refine rt_ret ⟨[.dat (tupI ns), .dat (.int d), s2], ?_⟩
      have hw : wipOk [2] [.dat (tupI ns), .dat (.int d), s2] = true := by rcases i2 with rfl | ⟨_, rfl⟩ <;> rfl
      have hc := fComp_map (enc := D.int) (fv := fun e => D.int (e.fdiv d)) (fi := iOf (fVar 0)) (T := fPut0 2) (fe := fBin gDiv (fVar 2) (fVar 1)) (vs := [2]) (ρ := [.dat (tupI ns), .dat (.int d), s2]) (ρ0 := [.dat (tupI ns), .dat (.int d), s2]) ns (by simp) hl hw (fun a ha => by
        refine ⟨[.dat (tupI ns), .dat (.int d), .dat (.int a)], by simp [wipeE], [.dat (tupI ns), .dat (.int d), .dat (.int a)], ?_, rfl, rfl⟩
        have : divOk a d = true := divOk_of pd (goL_bd ns 0 d hb (Nat.pow_pos (by omega)) e) hB
        simp [this])
      simp [-fComp_ap, hc, List.map_map]

/-! ### sets of rows as bits -/
theorem bitOr_nat (a b : Nat) : PySem.Builtin.bitOr (a : Int) (b : Int) = ((a ||| b : Nat) : Int) := by
  unfold PySem.Builtin.bitOr PySem.Builtin.bitAnd PySem.Builtin.bitNot
  have h1 : decide ((0 : Int) ≤ -(a : Int) - 1) = false := decide_eq_false (by omega)
  have h2 : decide ((0 : Int) ≤ -(b : Int) - 1) = false := decide_eq_false (by omega)
  rw [h1, h2]
  have e1 : (-(-(a : Int) - 1) - 1).toNat = a := by omega
  have e2 : (-(-(b : Int) - 1) - 1).toNat = b := by omega
  simp only [e1, e2]
  omega
theorem bitAnd_nat (a b : Nat) : PySem.Builtin.bitAnd (a : Int) (b : Int) = ((a &&& b : Nat) : Int) := by
  unfold PySem.Builtin.bitAnd
  have h1 : decide ((0 : Int) ≤ (a : Int)) = true := decide_eq_true (by omega)
  have h2 : decide ((0 : Int) ≤ (b : Int)) = true := decide_eq_true (by omega)
  rw [h1, h2]
  simp
def hmGo : Nat → Nat → Bool
  | 0, _ => false
  | k + 1, b => if b &&& (b - 1) = 0 then true else hmGo k (b &&& (b - 1))
def hmStep (b : Nat) (_ : Nat) : Sum D Nat := if b &&& (b - 1) = 0 then .inl (.bl true) else .inr (b &&& (b - 1))
theorem hm_go : ∀ (l : List Nat) (b : Nat), (∀ d, goL hmStep l b = .inl d → d = .bl true ∧ hmGo l.length b = true) ∧ ∀ b', goL hmStep l b = .inr b' → hmGo l.length b = false
  | [], b => by
    refine ⟨fun d h => ?_, fun b' h => ?_⟩
    · simp only [goL] at h; cases h
    · rfl
  | a :: l, b => by
    by_cases c : b &&& (b - 1) = 0
    · refine ⟨fun d h => ?_, fun b' h => ?_⟩
      · simp only [goL, hmStep, c, if_true] at h
        cases h
        exact ⟨rfl, by simp [hmGo, c]⟩
      · simp only [goL, hmStep, c, if_true] at h
        cases h
    · have ih := hm_go l (b &&& (b - 1))
      refine ⟨fun d h => ?_, fun b' h => ?_⟩
      · simp only [goL, hmStep, c, if_false] at h
        obtain ⟨h1, h2⟩ := ih.1 d h
        exact ⟨h1, by simp [hmGo, c, h2]⟩
      · simp only [goL, hmStep, c, if_false] at h
        have := ih.2 b' h
        simp [hmGo, c, this]
theorem ev_hm {b k : Nat} (h0 : 0 < b) (hk : k < 1000) : g__has_at_most [.dat (.int b), .dat (.int k)] = some (.bl (hmGo k b), [.dat (.int b), .dat (.int k)]) := by
  refine body_rt (ds := [.int b, .int k]) ?_
  show Rt F__has_at_most [.dat (.int b), .dat (.int k), .un] _
  unfold F__has_at_most
  obtain ⟨h1, h2⟩ := loopF_go (enc := fun j : Nat => D.int (0 + (j : Nat))) (I := fun b' ρ => 0 < b' ∧ ∃ s2, IsD s2 ∧ ρ = [.dat (.int (b' : Nat)), .dat (.int k), s2]) (step := hmStep) (T := fPut0 2)
    (F := (fSeq (fSet 0 (fBin gBand (fVar 0) (fBin gMinus (fVar 0) (fC (.int 1))))) (fIfS (fTB (fBin gEq (fVar 0) (fC (.int 0)))) (fRet (fC (.bl true))) fSkip))) (List.range k) b [.dat (.int b), .dat (.int k), .un] ⟨h0, .un, isD_un, rfl⟩ (fun a ha b' ρ ⟨p, s2, i2, e⟩ => by
      subst e
      have eb : PySem.Builtin.bitAnd (b' : Int) ((b' : Int) - 1) = ((b' &&& (b' - 1) : Nat) : Int) := by
        rw [show ((b' : Int) - 1) = ((b' - 1 : Nat) : Int) by omega, bitAnd_nat]
      refine ⟨[.dat (.int b'), .dat (.int k), .dat (.int (0 + (a : Nat)))], ?_, fun x hx => ?_, fun x hx => ?_⟩
      · rcases i2 with rfl | ⟨_, rfl⟩ <;> simp
      · unfold hmStep at hx
        split at hx
        · rename_i e; cases hx
          refine ⟨[.dat (.int 0), .dat (.int k), .dat (.int (0 + (a : Nat)))], ?_⟩
          simp [eb, e]
        · cases hx
      · unfold hmStep at hx
        split at hx
        · cases hx
        · rename_i e; cases hx
          refine ⟨.nx, [.dat (.int ((b' &&& (b' - 1) : Nat) : Int)), .dat (.int k), .dat (.int (0 + (a : Nat)))], .inl rfl, ?_, by omega, _, isD_dat, rfl⟩
          have e' : ¬ (((b' &&& (b' - 1) : Nat) : Int) = 0) := by omega
          simp [eb, e])
  have hi : iRange1 (fCons (fVar 1) fNil) [.dat (.int b), .dat (.int k), .un] = some ((List.range k).map (fun j : Nat => D.int (0 + (j : Nat))), [.dat (.int b), .dat (.int k), .un]) := by
    simp [intsFrom]; omega
  have hg := hm_go (List.range k) b
  rw [List.length_range] at hg
  cases e : goL hmStep (List.range k) b with
  | inl d =>
    obtain ⟨ρ', q⟩ := h1 d e
    obtain ⟨rfl, g⟩ := hg.1 d e
    rw [g]
    exact rt_seq1 (rt_for hi ⟨ρ', q⟩)
  | inr b' =>
    obtain ⟨ρ', q, _⟩ := h2 b' e
    rw [hg.2 b' e]
    exact rt_seq (nx_for hi q) (rt_ret ⟨_, rfl⟩)

/-! ### pairs (bits, entries) -/
abbrev Ent := Nat × List Int
def encE (p : Ent) : D := .tup [.int (p.1 : Nat), tupI p.2]
def nbOk (a b : Nat) (p : Ent) : Bool := !(decide (p.1 ||| (a ||| b) = a ||| b) && (!decide (p.1 = a) && !decide (p.1 = b)))
def nb (found : List Ent) (a b : Nat) : Bool := found.all (nbOk a b)
def nbStep (a b : Nat) (_ : Unit) (p : Ent) : Sum D Unit := if nbOk a b p = true then .inr () else .inl (.bl false)
theorem nb_go {a b : Nat} : ∀ (l : List Ent), (∀ d, goL (nbStep a b) l () = .inl d → d = .bl false ∧ nb l a b = false) ∧ (goL (nbStep a b) l () = .inr () → nb l a b = true)
  | [] => by
    refine ⟨fun d h => ?_, fun h => rfl⟩
    simp only [goL] at h; cases h
  | p :: l => by
    have ih := nb_go (a := a) (b := b) l
    cases c : nbOk a b p with
    | true =>
      refine ⟨fun d h => ?_, fun h => ?_⟩
      · simp only [goL, nbStep, c, if_true] at h
        obtain ⟨h1, h2⟩ := ih.1 d h
        exact ⟨h1, by unfold nb at h2 ⊢; simp [c, h2]⟩
      · simp only [goL, nbStep, c, if_true] at h
        have := ih.2 h
        unfold nb at this ⊢; simp [c, this]
    | false =>
      refine ⟨fun d h => ?_, fun h => ?_⟩
      · simp [goL, nbStep, c] at h
        subst h
        exact ⟨rfl, by unfold nb; simp [c]⟩
      · simp [goL, nbStep, c] at h
theorem ev_nb {found : List Ent} {a b : Nat} : g__are_neighbours [.dat (.lst (found.map encE)), .dat (.int (a : Nat)), .dat (.int (b : Nat))] = some (.bl (nb found a b), [.dat (.lst (found.map encE)), .dat (.int (a : Nat)), .dat (.int (b : Nat))]) := by
  refine body_rt (ds := [.lst (found.map encE), .int (a : Nat), .int (b : Nat)]) ?_
  show Rt F__are_neighbours [.dat (.lst (found.map encE)), .dat (.int (a : Nat)), .dat (.int (b : Nat)), .un, .un, .un] _
  unfold F__are_neighbours
  refine rt_seq (ρ1 := [.dat (.lst (found.map encE)), .dat (.int (a : Nat)), .dat (.int (b : Nat)), .dat (.int ((a ||| b : Nat) : Int)), .un, .un]) (by simp [Nx, bitOr_nat]) ?_
  obtain ⟨h1, h2⟩ := loopF_go (enc := encE) (I := fun (_ : Unit) ρ => ∃ s4 s5, IsD s4 ∧ IsD s5 ∧ ρ = [.dat (.lst (found.map encE)), .dat (.int (a : Nat)), .dat (.int (b : Nat)), .dat (.int ((a ||| b : Nat) : Int)), s4, s5]) (step := nbStep a b) (T := gTupF 2 (gsCons (fPut0 4) (gsCons (fPut0 5) gsNil)))
    (F := (fIfS (fAnd (fTB (fBin gEq (fBin gBor (fVar 4) (fVar 3)) (fVar 3))) (fAnd (fTB (fBin gNe (fVar 4) (fVar 1))) (fTB (fBin gNe (fVar 4) (fVar 2))))) (fRet (fC (.bl false))) fSkip)) found () [.dat (.lst (found.map encE)), .dat (.int (a : Nat)), .dat (.int (b : Nat)), .dat (.int ((a ||| b : Nat) : Int)), .un, .un] ⟨.un, .un, isD_un, isD_un, rfl⟩ (fun p hp _ ρ ⟨s4, s5, i4, i5, e⟩ => by
      subst e
      have ev : fAnd (fTB (fBin gEq (fBin gBor (fVar 4) (fVar 3)) (fVar 3))) (fAnd (fTB (fBin gNe (fVar 4) (fVar 1))) (fTB (fBin gNe (fVar 4) (fVar 2)))) [.dat (.lst (found.map encE)), .dat (.int (a : Nat)), .dat (.int (b : Nat)), .dat (.int ((a ||| b : Nat) : Int)), .dat (.int (p.1 : Nat)), .dat (tupI p.2)]
          = some (!(nbOk a b p), [.dat (.lst (found.map encE)), .dat (.int (a : Nat)), .dat (.int (b : Nat)), .dat (.int ((a ||| b : Nat) : Int)), .dat (.int (p.1 : Nat)), .dat (tupI p.2)]) := by
        have q1 : ((((p.1 ||| (a ||| b) : Nat) : Int)) = ((a ||| b : Nat) : Int)) ↔ p.1 ||| (a ||| b) = a ||| b := by omega
        have q2 : ((p.1 : Int) = (a : Int)) ↔ p.1 = a := by omega
        have q3 : ((p.1 : Int) = (b : Int)) ↔ p.1 = b := by omega
        by_cases c1 : p.1 ||| (a ||| b) = a ||| b
        · by_cases c2 : p.1 = a
          · simp [nbOk, bitOr_nat, q1, q2, q3, c1, c2]
          · by_cases c3 : p.1 = b
            · simp [nbOk, bitOr_nat, q1, q2, q3, c1, c2, c3]
            · simp [nbOk, bitOr_nat, q1, q2, q3, c1, c2, c3]
        · simp [nbOk, bitOr_nat, q1, q2, q3, c1]
      refine ⟨[.dat (.lst (found.map encE)), .dat (.int (a : Nat)), .dat (.int (b : Nat)), .dat (.int ((a ||| b : Nat) : Int)), .dat (.int (p.1 : Nat)), .dat (tupI p.2)], ?_, fun x hx => ?_, fun x hx => ?_⟩
      · rcases i4 with rfl | ⟨_, rfl⟩ <;> rcases i5 with rfl | ⟨_, rfl⟩ <;> simp [encE]
      · unfold nbStep at hx
        split at hx
        · cases hx
        · rename_i e; cases hx
          refine ⟨[.dat (.lst (found.map encE)), .dat (.int (a : Nat)), .dat (.int (b : Nat)), .dat (.int ((a ||| b : Nat) : Int)), .dat (.int (p.1 : Nat)), .dat (tupI p.2)], ?_⟩
          rw [fIfS_ap, ev]
          simp [e]
      · unfold nbStep at hx
        split at hx
        · rename_i e; cases hx
          refine ⟨.nx, [.dat (.lst (found.map encE)), .dat (.int (a : Nat)), .dat (.int (b : Nat)), .dat (.int ((a ||| b : Nat) : Int)), .dat (.int (p.1 : Nat)), .dat (tupI p.2)], .inl rfl, ?_, _, _, isD_dat, isD_dat, rfl⟩
          rw [fIfS_ap, ev]
          simp [e]
        · cases hx)
  have hi : iOf (fVar 0) [.dat (.lst (found.map encE)), .dat (.int (a : Nat)), .dat (.int (b : Nat)), .dat (.int ((a ||| b : Nat) : Int)), .un, .un] = some (found.map encE, [.dat (.lst (found.map encE)), .dat (.int (a : Nat)), .dat (.int (b : Nat)), .dat (.int ((a ||| b : Nat) : Int)), .un, .un]) := by
    simp
  have hg := nb_go (a := a) (b := b) found
  cases e : goL (nbStep a b) found () with
  | inl d =>
    obtain ⟨ρ', q⟩ := h1 d e
    obtain ⟨rfl, g⟩ := hg.1 d e
    rw [g]
    exact rt_seq1 (rt_for hi ⟨ρ', q⟩)
  | inr b' =>
    obtain ⟨ρ', q, _⟩ := h2 b' e
    rw [hg.2 e]
    exact rt_seq (nx_for hi q) (rt_ret ⟨_, rfl⟩)
end W20
end

section
set_option Elab.async false
set_option linter.all false
set_option maxRecDepth 100000
namespace W20
open L2 DL

theorem Bd.mono {B C : Nat} {ns : List Int} (h : Bd B ns) (hc : B ≤ C) : Bd C ns := fun e he => Nat.lt_of_lt_of_le (h e he) (Nat.pow_le_pow_right (by omega) hc)
theorem Bd.get {B : Nat} {ns : List Int} (h : Bd B ns) (c : Nat) : (ns.getD c 0).natAbs < 2 ^ B := by
  by_cases hc : c < ns.length
  · have : ns.getD c 0 = ns[c] := by simp [hc]
    rw [this]; exact h _ (List.getElem_mem hc)
  · have : ns.getD c 0 = 0 := by simp [Nat.le_of_not_lt hc]
    rw [this]; exact Nat.pow_pos (by omega)
theorem abs_add {a b : Int} {B : Nat} (ha : a.natAbs < 2 ^ B) (hb : b.natAbs < 2 ^ B) : (a + b).natAbs < 2 ^ (B + 1) := by
  rw [Nat.pow_succ]; omega
theorem abs_mul {a b : Int} {B C : Nat} (ha : a.natAbs < 2 ^ B) (hb : b.natAbs < 2 ^ C) : (a * b).natAbs < 2 ^ (B + C) := by
  rw [Int.natAbs_mul, Nat.pow_add]
  exact Nat.mul_lt_mul'' ha hb
/-! ### the row at which two rays meet the equation -/
def mixL (a b : List Int) (c : Nat) : List Int := (a.zip b).map fun p => (-(b.getD c 0)) * p.1 + (a.getD c 0) * p.2
def mrg (a b : List Int) (c : Nat) : List Int := prim (mixL a b c)
theorem mixL_bd {a b : List Int} {c B : Nat} (ha : Bd B a) (hb : Bd B b) : Bd (2 * B + 1) (mixL a b c) := by
  intro e he
  unfold mixL at he
  obtain ⟨p, hp, rfl⟩ := List.mem_map.mp he
  have h1 := List.of_mem_zip hp
  have : 2 * B + 1 = (B + B) + 1 := by omega
  rw [this]
  exact abs_add (abs_mul (by rw [Int.natAbs_neg]; exact hb.get c) (ha _ h1.1)) (abs_mul (ha.get c) (hb _ h1.2))
theorem ev_merged {a b : List Int} {c B : Nat} (hB : 2 * B + 1 ≤ 9000) (ha : Bd B a) (hb : Bd B b) (hl : a.length = b.length) (hz : lenOk a.length = true) (hc : c < a.length) :
    g__merged [.dat (tupI a), .dat (tupI b), .dat (.int (c : Nat))] = some (tupI (mrg a b c), [.dat (tupI a), .dat (tupI b), .dat (.int (c : Nat))]) := by
  refine body_rt (ds := [tupI a, tupI b, .int (c : Nat)]) ?_
  show Rt F__merged [.dat (tupI a), .dat (tupI b), .dat (.int (c : Nat)), .un, .un, .un, .un] _
  unfold F__merged
  refine rt_seq (ρ1 := [.dat (tupI a), .dat (tupI b), .dat (.int (c : Nat)), .dat (.int (a.getD c 0)), .un, .un, .un]) (by simp [Nx, atI_int hc]) ?_
  refine rt_seq (ρ1 := [.dat (tupI a), .dat (tupI b), .dat (.int (c : Nat)), .dat (.int (a.getD c 0)), .dat (.int (-(b.getD c 0))), .un, .un]) (by simp [Nx, atI_int (show c < b.length by omega)]) ?_
  refine rt_ret ⟨[.dat (tupI a), .dat (tupI b), .dat (.int (c : Nat)), .dat (.int (a.getD c 0)), .dat (.int (-(b.getD c 0))), .un, .un], ?_⟩
  have hc := fComp_map (enc := fun p : Int × Int => D.tup [.int p.1, .int p.2]) (fv := fun p : Int × Int => D.int ((-(b.getD c 0)) * p.1 + (a.getD c 0) * p.2)) (fi := iZipF (fCons (fVar 0) (fCons (fVar 1) fNil)))
    (T := gTupF 2 (gsCons (fPut0 5) (gsCons (fPut0 6) gsNil))) (fe := fBin gAdd (fBin gMul (fVar 4) (fVar 5)) (fBin gMul (fVar 3) (fVar 6))) (vs := [5, 6])
    (ρ := [.dat (tupI a), .dat (tupI b), .dat (.int (c : Nat)), .dat (.int (a.getD c 0)), .dat (.int (-(b.getD c 0))), .un, .un]) (ρ0 := [.dat (tupI a), .dat (tupI b), .dat (.int (c : Nat)), .dat (.int (a.getD c 0)), .dat (.int (-(b.getD c 0))), .un, .un]) (a.zip b)
    (by simp [zipD, List.zip_map]) (by rw [List.length_zip, ← hl, Nat.min_self]; exact hz) rfl (fun p hp => by
      have h1 := List.of_mem_zip hp
      have m1 : mulOk (-(b.getD c 0)) p.1 = true := mulOk_of (by rw [Int.natAbs_neg]; exact hb.get c) (ha _ h1.1) (by omega)
      have m2 : mulOk (a.getD c 0) p.2 = true := mulOk_of (ha.get c) (hb _ h1.2) (by omega)
      refine ⟨[.dat (tupI a), .dat (tupI b), .dat (.int (c : Nat)), .dat (.int (a.getD c 0)), .dat (.int (-(b.getD c 0))), .dat (.int p.1), .dat (.int p.2)], by simp [wipeE], [.dat (tupI a), .dat (tupI b), .dat (.int (c : Nat)), .dat (.int (a.getD c 0)), .dat (.int (-(b.getD c 0))), .dat (.int p.1), .dat (.int p.2)], ?_, rfl, rfl⟩
      simp only [fBin_ap, fVar_ap, Option.bind_some, List.getElem?_cons_succ, List.getElem?_cons_zero, gMul_i, m1, m2, if_true, gAdd_i])
  refine call_ev (ds := [tupI (mixL a b c)]) ?_ rfl (ev_prim hB (mixL_bd ha hb) (by unfold mixL; rw [List.length_map, List.length_zip, ← hl, Nat.min_self]; exact hz))
  simp only [frD_ap, fN_ap, fCons_ap, fGive_ap, hc, fNil_ap, frNil_ap, Option.bind_some, toD_lst, gTuple_l, List.map_cons, List.map_nil]
  simp [mixL, List.map_map, Function.comp_def]

/-! ### one more equation -/
def zeros (c : Nat) (found : List Ent) : List Ent := found.filter fun p => decide (p.2.getD c 0 = 0)
def rises (c : Nat) (found : List Ent) : List Ent := found.filter fun p => decide (0 < p.2.getD c 0)
def falls (c : Nat) (found : List Ent) : List Ent := found.filter fun p => decide (p.2.getD c 0 < 0)
def pairE (c : Nat) (found : List Ent) (r f : Ent) : Option Ent := if (hmGo (c + 2) (r.1 ||| f.1) && nb found r.1 f.1) = true then some (r.1 ||| f.1, mrg r.2 f.2 c) else none
def balAt (c : Nat) (found : List Ent) : List Ent := zeros c found ++ (rises c found).flatMap fun r => (falls c found).filterMap fun f => pairE c found r f
structure Stg (L B : Nat) (found : List Ent) : Prop where
  len : ∀ p, p ∈ found → p.2.length = L
  bd : ∀ p, p ∈ found → Bd B p.2
  pos : ∀ p, p ∈ found → 0 < p.1
  sz : found.length < 16000000
theorem ev_balAt {L B c : Nat} {found : List Ent} (S : Stg L B found) (hL : L < 16000000) (hB : 2 * B + 1 ≤ 9000) (hc : c < L) (hc2 : c < 900) (hsz : (balAt c found).length < 16000000) :
    g__balanced_at [.dat (.lst (found.map encE)), .dat (.int (c : Nat))] = some (.lst ((balAt c found).map encE), [.dat (.lst (found.map encE)), .dat (.int (c : Nat))]) := by
  refine body_rt (ds := [.lst (found.map encE), .int (c : Nat)]) ?_
  show Rt F__balanced_at [.dat (.lst (found.map encE)), .dat (.int (c : Nat)), .un, .un, .un, .un, .un, .un, .un] _
  unfold F__balanced_at
  have hz : lenOk found.length = true := lenOk_of S.sz
  have at1 : ∀ p, p ∈ found → atI (p.2.map D.int) (c : Int) = some (.int (p.2.getD c 0)) := fun p hp => atI_int (by rw [S.len p hp]; exact hc)
  have cmp : ∀ (s2 s3 s4 : Slot) (ft : FT) (pr : Ent → Bool), (∀ p, p ∈ found → ft [.dat (.lst (found.map encE)), .dat (.int (c : Nat)), s2, s3, s4, .un, .un, .un, .dat (encE p)] = some (pr p, [.dat (.lst (found.map encE)), .dat (.int (c : Nat)), s2, s3, s4, .un, .un, .un, .dat (encE p)])) →
      fComp (iOf (fVar 0)) (fPut0 8) ft (fVar 8) [8] [.dat (.lst (found.map encE)), .dat (.int (c : Nat)), s2, s3, s4, .un, .un, .un, .un] = some (.lst ((found.filter pr).map encE), [.dat (.lst (found.map encE)), .dat (.int (c : Nat)), s2, s3, s4, .un, .un, .un, .un]) := fun s2 s3 s4 ft pr hft => by
    refine fComp_eval (enc := encE) found (by simp) hz rfl fun p hp => ?_
    exact ⟨[.dat (.lst (found.map encE)), .dat (.int (c : Nat)), s2, s3, s4, .un, .un, .un, .dat (encE p)], by simp [wipeE], _, hft p hp, fun _ => ⟨[.dat (.lst (found.map encE)), .dat (.int (c : Nat)), s2, s3, s4, .un, .un, .un, .dat (encE p)], by simp, rfl, rfl⟩, fun _ => ⟨rfl, rfl⟩⟩
  have ix1 : ∀ p : Ent, gIx (encE p) (.int 1) = some (tupI p.2) := fun p => by simp [encE, atI, ixN]
  have ix0 : ∀ p : Ent, gIx (encE p) (.int 0) = some (.int (p.1 : Nat)) := fun p => by simp [encE, atI, ixN]
  have c1 := cmp .un .un .un (fTB (fBin gEq (fBin gIx (fIxV 8 (fC (.int 1))) (fVar 1)) (fC (.int 0)))) (fun p => decide (p.2.getD c 0 = 0)) fun p hp => by
    simp [ix1, at1 p hp]
  refine rt_seq (ρ1 := [.dat (.lst (found.map encE)), .dat (.int (c : Nat)), .own (.lst ((zeros c found).map encE)), .un, .un, .un, .un, .un, .un]) (by
    unfold Nx
    rw [fSetN_ap]
    simp only [frz_ap, List.getElem?_cons_succ, List.getElem?_cons_zero, Option.bind_some, c1, fOwn_ap, List.set_cons_succ, List.set_cons_zero]
    rfl) ?_
  have c2 := cmp (.own (.lst ((zeros c found).map encE))) .un .un (fTB (fBin gGt (fBin gIx (fIxV 8 (fC (.int 1))) (fVar 1)) (fC (.int 0)))) (fun p => decide (0 < p.2.getD c 0)) fun p hp => by
    simp [ix1, at1 p hp]
  refine rt_seq (ρ1 := [.dat (.lst (found.map encE)), .dat (.int (c : Nat)), .own (.lst ((zeros c found).map encE)), .dat (.lst ((rises c found).map encE)), .un, .un, .un, .un, .un]) (by
    refine nx_set (d0 := .lst ((rises c found).map encE)) (by rw [fGive_ap, c2]; rfl) rfl) ?_
  have c3 := cmp (.own (.lst ((zeros c found).map encE))) (.dat (.lst ((rises c found).map encE))) .un (fTB (fBin gLt (fBin gIx (fIxV 8 (fC (.int 1))) (fVar 1)) (fC (.int 0)))) (fun p => decide (p.2.getD c 0 < 0)) fun p hp => by
    simp [ix1, at1 p hp]
  refine rt_seq (ρ1 := [.dat (.lst (found.map encE)), .dat (.int (c : Nat)), .own (.lst ((zeros c found).map encE)), .dat (.lst ((rises c found).map encE)), .dat (.lst ((falls c found).map encE)), .un, .un, .un, .un]) (by
    refine nx_set (d0 := .lst ((falls c found).map encE)) (by rw [fGive_ap, c3]; rfl) rfl) ?_
  have rin : ∀ r, r ∈ rises c found → r ∈ found := fun r h => (List.mem_filter.mp h).1
  have fin : ∀ f, f ∈ falls c found → f ∈ found := fun r h => (List.mem_filter.mp h).1
  -- the pairs
  have one : ∀ (r f : Ent) (acc : List Ent) (s7 : Slot), r ∈ found → f ∈ found → IsD s7 → acc.length < 16000000 →
      (fSeq (fSet 7 (fBin gBor (fIxV 5 (fC (.int 0))) (fIxV 6 (fC (.int 0)))))
 (fIfS (fAnd (fTru (fCall 2 g__has_at_most (frD (fVar 7) (frD (fBin gAdd (fVar 1) (fC (.int 2))) frNil)))) (fTru (fCall 3 g__are_neighbours (frD (fVar 0) (frD (fIxV 5 (fC (.int 0))) (frD (fIxV 6 (fC (.int 0))) frNil)))))) (fApp 2 (fTup (fCons (fVar 7) (fCons (fCall 3 g__merged (frD (fIxV 5 (fC (.int 1))) (frD (fIxV 6 (fC (.int 1))) (frD (fVar 1) frNil)))) fNil))))
 fSkip)) [.dat (.lst (found.map encE)), .dat (.int (c : Nat)), .own (.lst (acc.map encE)), .dat (.lst ((rises c found).map encE)), .dat (.lst ((falls c found).map encE)), .dat (encE r), .dat (encE f), s7, .un]
      = some (.nx, [.dat (.lst (found.map encE)), .dat (.int (c : Nat)), .own (.lst ((acc ++ (pairE c found r f).toList).map encE)), .dat (.lst ((rises c found).map encE)), .dat (.lst ((falls c found).map encE)), .dat (encE r), .dat (encE f), .dat (.int ((r.1 ||| f.1 : Nat) : Int)), .un]) := fun r f acc s7 hr hf i7 hacc => by
    refine nx_seq (ρ1 := [.dat (.lst (found.map encE)), .dat (.int (c : Nat)), .own (.lst (acc.map encE)), .dat (.lst ((rises c found).map encE)), .dat (.lst ((falls c found).map encE)), .dat (encE r), .dat (encE f), .dat (.int ((r.1 ||| f.1 : Nat) : Int)), .un]) ?_ ?_
    · refine nx_set (d0 := .int ((r.1 ||| f.1 : Nat) : Int)) (ρ1 := [.dat (.lst (found.map encE)), .dat (.int (c : Nat)), .own (.lst (acc.map encE)), .dat (.lst ((rises c found).map encE)), .dat (.lst ((falls c found).map encE)), .dat (encE r), .dat (encE f), s7, .un]) (by simp [ix0, bitOr_nat]) (by rcases i7 with rfl | ⟨_, rfl⟩ <;> simp)
    · generalize hρ : ([.dat (.lst (found.map encE)), .dat (.int (c : Nat)), .own (.lst (acc.map encE)), .dat (.lst ((rises c found).map encE)), .dat (.lst ((falls c found).map encE)), .dat (encE r), .dat (encE f), .dat (.int ((r.1 ||| f.1 : Nat) : Int)), .un] : List Slot) = ρ
      have p0 : 0 < r.1 ||| f.1 := by
        have h1 := S.pos r hr
        have h2 := @Nat.left_le_or r.1 f.1
        omega
      have e1 : fCall 2 g__has_at_most (frD (fVar 7) (frD (fBin gAdd (fVar 1) (fC (.int 2))) frNil)) ρ = some (.bl (hmGo (c + 2) (r.1 ||| f.1)), ρ) := by
        refine call_ev (ds := [.int ((r.1 ||| f.1 : Nat) : Int), .int ((c + 2 : Nat) : Int)]) (by subst hρ; simp) rfl (ev_hm p0 (by omega))
      have e2 : fCall 3 g__are_neighbours (frD (fVar 0) (frD (fIxV 5 (fC (.int 0))) (frD (fIxV 6 (fC (.int 0))) frNil))) ρ = some (.bl (nb found r.1 f.1), ρ) := by
        refine call_ev (ds := [.lst (found.map encE), .int (r.1 : Nat), .int (f.1 : Nat)]) (by subst hρ; simp [ix0]) rfl ev_nb
      have e3 : fCall 3 g__merged (frD (fIxV 5 (fC (.int 1))) (frD (fIxV 6 (fC (.int 1))) (frD (fVar 1) frNil))) ρ = some (tupI (mrg r.2 f.2 c), ρ) := by
        refine call_ev (ds := [tupI r.2, tupI f.2, .int (c : Nat)]) (by subst hρ; simp [ix1]) rfl (ev_merged hB (S.bd r hr) (S.bd f hf) (by rw [S.len r hr, S.len f hf]) (lenOk_of (by rw [S.len r hr]; exact hL)) (by rw [S.len r hr]; exact hc))
      have e4 : fAnd (fTru (fCall 2 g__has_at_most (frD (fVar 7) (frD (fBin gAdd (fVar 1) (fC (.int 2))) frNil)))) (fTru (fCall 3 g__are_neighbours (frD (fVar 0) (frD (fIxV 5 (fC (.int 0))) (frD (fIxV 6 (fC (.int 0))) frNil))))) ρ = some (hmGo (c + 2) (r.1 ||| f.1) && nb found r.1 f.1, ρ) := by
        rw [fAnd_ap, fTru_ap, e1]
        simp only [Option.bind_some, gTru_b]
        cases hmGo (c + 2) (r.1 ||| f.1) with
        | false => rfl
        | true => simp only [if_true]; rw [fTru_ap, e2]; rfl
      unfold Nx
      rw [fIfS_ap, e4]
      simp only [Option.bind_some]
      unfold pairE
      cases q : (hmGo (c + 2) (r.1 ||| f.1) && nb found r.1 f.1) with
      | false => simp only [Bool.false_eq_true, if_false, Option.toList_none, List.append_nil, fSkip_ap]; subst hρ; rfl
      | true =>
        simp only [if_true]
        have e5 : fTup (fCons (fVar 7) (fCons (fCall 3 g__merged (frD (fIxV 5 (fC (.int 1))) (frD (fIxV 6 (fC (.int 1))) (frD (fVar 1) frNil)))) fNil)) ρ = some (encE (r.1 ||| f.1, mrg r.2 f.2 c), ρ) := by
          have e6 : fVar 7 ρ = some (.int ((r.1 ||| f.1 : Nat) : Int), ρ) := by subst hρ; rfl
          rw [fTup_ap, fCons_ap, e6]
          simp only [Option.bind_some]
          rw [fCons_ap, e3]
          simp [lenOk, encE]
        rw [fApp_ap]
        simp only [e5]
        subst hρ
        simp [lenOk_of hacc, encE]
  have fm1 : ∀ (r f : Ent), [f].filterMap (fun f => pairE c found r f) = (pairE c found r f).toList := fun r f => by
    cases q : pairE c found r f <;> simp [q]
  have sub1 : ∀ done r rest, done ++ r :: rest = rises c found → ∀ df f rf, df ++ f :: rf = falls c found →
      (zeros c found ++ done.flatMap (fun r => (falls c found).filterMap fun f => pairE c found r f) ++ df.filterMap fun f => pairE c found r f).length < 16000000 := fun done r rest e df f rf ef => by
    refine Nat.lt_of_le_of_lt ?_ hsz
    unfold balAt
    rw [← e, List.flatMap_append, List.flatMap_cons]
    have : (falls c found).filterMap (fun f => pairE c found r f) = df.filterMap (fun f => pairE c found r f) ++ (f :: rf).filterMap fun f => pairE c found r f := by
      rw [← List.filterMap_append, ef]
    rw [this]
    simp only [List.length_append]
    omega
  obtain ⟨ρ', q, s5, s6, s7, i5, i6, i7, er⟩ := loopF_pre (enc := encE) (T := fPut0 5) (F := (fFor (iOf (fVar 4)) (fPut0 6)
 (fSeq (fSet 7 (fBin gBor (fIxV 5 (fC (.int 0))) (fIxV 6 (fC (.int 0)))))
 (fIfS (fAnd (fTru (fCall 2 g__has_at_most (frD (fVar 7) (frD (fBin gAdd (fVar 1) (fC (.int 2))) frNil)))) (fTru (fCall 3 g__are_neighbours (frD (fVar 0) (frD (fIxV 5 (fC (.int 0))) (frD (fIxV 6 (fC (.int 0))) frNil)))))) (fApp 2 (fTup (fCons (fVar 7) (fCons (fCall 3 g__merged (frD (fIxV 5 (fC (.int 1))) (frD (fIxV 6 (fC (.int 1))) (frD (fVar 1) frNil)))) fNil))))
 fSkip)))) (I := fun done ρ => ∃ s5 s6 s7, IsD s5 ∧ IsD s6 ∧ IsD s7 ∧ ρ = [.dat (.lst (found.map encE)), .dat (.int (c : Nat)), .own (.lst ((zeros c found ++ done.flatMap (fun r => (falls c found).filterMap fun f => pairE c found r f)).map encE)), .dat (.lst ((rises c found).map encE)), .dat (.lst ((falls c found).map encE)), s5, s6, s7, .un])
    (rises c found) (rises c found) [] [.dat (.lst (found.map encE)), .dat (.int (c : Nat)), .own (.lst ((zeros c found).map encE)), .dat (.lst ((rises c found).map encE)), .dat (.lst ((falls c found).map encE)), .un, .un, .un, .un] rfl ⟨.un, .un, .un, isD_un, isD_un, isD_un, by simp⟩ (fun done r rest e ρ ⟨s5, s6, s7, i5, i6, i7, er⟩ => by
      subst er
      have hr : r ∈ found := rin r (by rw [← e]; simp)
      refine ⟨[.dat (.lst (found.map encE)), .dat (.int (c : Nat)), .own (.lst ((zeros c found ++ done.flatMap (fun r => (falls c found).filterMap fun f => pairE c found r f)).map encE)), .dat (.lst ((rises c found).map encE)), .dat (.lst ((falls c found).map encE)), .dat (encE r), s6, s7, .un], by rcases i5 with rfl | ⟨_, rfl⟩ <;> simp, ?_⟩
      obtain ⟨ρ2, q2, t6, t7, j6, j7, er2⟩ := loopF_pre (enc := encE) (T := fPut0 6) (F := (fSeq (fSet 7 (fBin gBor (fIxV 5 (fC (.int 0))) (fIxV 6 (fC (.int 0)))))
 (fIfS (fAnd (fTru (fCall 2 g__has_at_most (frD (fVar 7) (frD (fBin gAdd (fVar 1) (fC (.int 2))) frNil)))) (fTru (fCall 3 g__are_neighbours (frD (fVar 0) (frD (fIxV 5 (fC (.int 0))) (frD (fIxV 6 (fC (.int 0))) frNil)))))) (fApp 2 (fTup (fCons (fVar 7) (fCons (fCall 3 g__merged (frD (fIxV 5 (fC (.int 1))) (frD (fIxV 6 (fC (.int 1))) (frD (fVar 1) frNil)))) fNil))))
 fSkip))) (I := fun df ρ => ∃ s6 s7, IsD s6 ∧ IsD s7 ∧ ρ = [.dat (.lst (found.map encE)), .dat (.int (c : Nat)), .own (.lst ((zeros c found ++ done.flatMap (fun r => (falls c found).filterMap fun f => pairE c found r f) ++ df.filterMap fun f => pairE c found r f).map encE)), .dat (.lst ((rises c found).map encE)), .dat (.lst ((falls c found).map encE)), .dat (encE r), s6, s7, .un])
        (falls c found) (falls c found) [] [.dat (.lst (found.map encE)), .dat (.int (c : Nat)), .own (.lst ((zeros c found ++ done.flatMap (fun r => (falls c found).filterMap fun f => pairE c found r f)).map encE)), .dat (.lst ((rises c found).map encE)), .dat (.lst ((falls c found).map encE)), .dat (encE r), s6, s7, .un] rfl ⟨s6, s7, i6, i7, by simp⟩ (fun df f rf ef ρ ⟨s6, s7, i6, i7, er⟩ => by
          subst er
          have hf : f ∈ found := fin f (by rw [← ef]; simp)
          refine ⟨[.dat (.lst (found.map encE)), .dat (.int (c : Nat)), .own (.lst ((zeros c found ++ done.flatMap (fun r => (falls c found).filterMap fun f => pairE c found r f) ++ df.filterMap fun f => pairE c found r f).map encE)), .dat (.lst ((rises c found).map encE)), .dat (.lst ((falls c found).map encE)), .dat (encE r), .dat (encE f), s7, .un], by rcases i6 with rfl | ⟨_, rfl⟩ <;> simp, _, one r f _ s7 hr hf i7 (sub1 done r rest e df f rf ef), .dat (encE f), .dat (.int ((r.1 ||| f.1 : Nat) : Int)), isD_dat, isD_dat, ?_⟩
          rw [List.filterMap_append, fm1, List.append_assoc])
      subst er2
      refine ⟨_, by rw [fFor_ap]; simp only [iOf_ap, fVar_ap, List.getElem?_cons_succ, List.getElem?_cons_zero, Option.bind_some]; exact q2, .dat (encE r), t6, t7, isD_dat, j6, j7, ?_⟩
      rw [List.flatMap_append, List.flatMap_cons, List.flatMap_nil, List.append_nil, List.append_assoc])
  subst er
  refine rt_seq (nx_for (ρ1 := [.dat (.lst (found.map encE)), .dat (.int (c : Nat)), .own (.lst ((zeros c found).map encE)), .dat (.lst ((rises c found).map encE)), .dat (.lst ((falls c found).map encE)), .un, .un, .un, .un]) (by simp) q) ?_
  exact ⟨_, by rw [fFrz_ap]; simp only [frz_ap, List.getElem?_cons_succ, List.getElem?_cons_zero, Option.bind_some]; rfl⟩
end W20
end

section
set_option Elab.async false
set_option linter.all false
set_option maxRecDepth 100000
namespace W20
open L2 DL

def unitR (i m : Nat) : List Int := (List.range m).map fun j => if j = i then 1 else 0
def initE (vs : List (List Int)) : List Ent := vs.zipIdx.map fun p => (2 ^ p.2, p.1 ++ unitR p.2 vs.length)
def bal : Nat → List Ent → List Ent
  | 0, f => f
  | k + 1, f => balAt k (bal k f)
def balances (vs : List (List Int)) (n : Nat) : List (List Int) := (bal n (initE vs)).map fun p => p.2.drop n
theorem enumD_zip {A : Type} {f : A → D} : ∀ (l : List A) (n : Nat), enumD n (l.map f) = (l.zipIdx n).map fun p => D.tup [.int (p.2 : Nat), f p.1]
  | [], n => rfl
  | a :: l, n => by
    simp only [List.map_cons, enumD, List.zipIdx_cons]
    rw [enumD_zip l (n + 1)]
theorem zipIdx_at {A : Type} {l : List A} {p : A × Nat} (h : p ∈ l.zipIdx) : p.2 < l.length ∧ l[p.2]? = some p.1 := by
  obtain ⟨a, i⟩ := p
  have := List.mem_zipIdx h
  simp only at this ⊢
  refine ⟨by omega, ?_⟩
  have h2 : i < l.length := by omega
  rw [List.getElem?_eq_getElem h2]
  simp [this.2.2]
theorem cut_drop {ns : List Int} {n : Nat} (h : n ≤ ns.length) : cutD (ns.map D.int) (some (n : Int)) none = (ns.drop n).map D.int := by
  unfold cutD
  rw [HT.sIx_nat, HT.sIx_none, List.length_map, Nat.min_eq_left h, ← List.map_drop, List.take_of_length_le (by simp)]
theorem ev_balances {vs : List (List Int)} {n : Nat} {B : Nat → Nat} (hv : ∀ v, v ∈ vs → v.length = n) (hn : n < 900) (hm : vs.length < 900) (hB : ∀ k, k < n → 2 * B k + 1 ≤ 9000) (hS : ∀ k, k ≤ n → Stg (n + vs.length) (B k) (bal k (initE vs))) :
    g__balances [.dat (.tup (vs.map tupI)), .dat (.int (n : Nat))] = some (.lst ((balances vs n).map tupI), [.dat (.tup (vs.map tupI)), .dat (.int (n : Nat))]) := by
  refine body_rt (ds := [.tup (vs.map tupI), .int (n : Nat)]) ?_
  show Rt F__balances [.dat (.tup (vs.map tupI)), .dat (.int (n : Nat)), .un, .un, .un, .un, .un, .un, .un, .un] _
  unfold F__balances
  refine rt_seq (ρ1 := [.dat (.tup (vs.map tupI)), .dat (.int (n : Nat)), .own (.lst []), .un, .un, .un, .un, .un, .un, .un]) rfl ?_
  obtain ⟨ρ', q, s3, s4, s5, i3, i4, i5, er⟩ := loopF_pre (enc := fun p : List Int × Nat => D.tup [.int (p.2 : Nat), tupI p.1]) (T := gTupF 2 (gsCons (fPut0 3) (gsCons (fPut0 4) gsNil)))
    (F := (fSeq (fSet 5 (fN gTuple (fCons (fGive (fComp (iRange1 (fCons (fLenV 0) fNil)) (fPut0 9) fYes (fIf (fTB (fBin gEq (fVar 9) (fVar 3))) (fC (.int 1)) (fC (.int 0))) [9])) fNil)))
 (fApp 2 (fTup (fCons (fBin gShl (fC (.int 1)) (fVar 3)) (fCons (fBin gAdd (fVar 4) (fVar 5)) fNil))))))
    (I := fun done ρ => ∃ s3 s4 s5, IsD s3 ∧ IsD s4 ∧ IsD s5 ∧ ρ = [.dat (.tup (vs.map tupI)), .dat (.int (n : Nat)), .own (.lst ((done.map fun p : List Int × Nat => ((2 ^ p.2, p.1 ++ unitR p.2 vs.length) : Ent)).map encE)), s3, s4, s5, .un, .un, .un, .un])
    vs.zipIdx vs.zipIdx [] [.dat (.tup (vs.map tupI)), .dat (.int (n : Nat)), .own (.lst []), .un, .un, .un, .un, .un, .un, .un] rfl ⟨.un, .un, .un, isD_un, isD_un, isD_un, rfl⟩ (fun done p rest e ρ ⟨s3, s4, s5, i3, i4, i5, er⟩ => by
      subst er
      have hp : p ∈ vs.zipIdx := by rw [← e]; simp
      obtain ⟨h1, h2⟩ := zipIdx_at hp
      have hl : p.1.length = n := hv _ (List.mem_of_getElem? h2)
      have hd : done.length < vs.length := by
        have := congrArg List.length e
        simp at this; omega
      generalize hacc : ((done.map fun p : List Int × Nat => ((2 ^ p.2, p.1 ++ unitR p.2 vs.length) : Ent)).map encE) = acc
      have hal : acc.length < 16000000 := by rw [← hacc]; simp; omega
      refine ⟨[.dat (.tup (vs.map tupI)), .dat (.int (n : Nat)), .own (.lst acc), .dat (.int (p.2 : Nat)), .dat (tupI p.1), s5, .un, .un, .un, .un], by rcases i3 with rfl | ⟨_, rfl⟩ <;> rcases i4 with rfl | ⟨_, rfl⟩ <;> simp,
        [.dat (.tup (vs.map tupI)), .dat (.int (n : Nat)), .own (.lst (acc ++ [encE (2 ^ p.2, p.1 ++ unitR p.2 vs.length)])), .dat (.int (p.2 : Nat)), .dat (tupI p.1), .dat (tupI (unitR p.2 vs.length)), .un, .un, .un, .un], ?_, .dat (.int (p.2 : Nat)), .dat (tupI p.1), .dat (tupI (unitR p.2 vs.length)), isD_dat, isD_dat, isD_dat, ?_⟩
      · refine nx_seq (ρ1 := [.dat (.tup (vs.map tupI)), .dat (.int (n : Nat)), .own (.lst acc), .dat (.int (p.2 : Nat)), .dat (tupI p.1), .dat (tupI (unitR p.2 vs.length)), .un, .un, .un, .un]) ?_ ?_
        · have hc := fComp_map (enc := fun j : Nat => D.int (0 + (j : Nat))) (fv := fun j : Nat => D.int (if j = p.2 then 1 else 0)) (fi := iRange1 (fCons (fLenV 0) fNil)) (T := fPut0 9) (fe := fIf (fTB (fBin gEq (fVar 9) (fVar 3))) (fC (.int 1)) (fC (.int 0))) (vs := [9])
            (ρ := [.dat (.tup (vs.map tupI)), .dat (.int (n : Nat)), .own (.lst acc), .dat (.int (p.2 : Nat)), .dat (tupI p.1), s5, .un, .un, .un, .un]) (ρ0 := [.dat (.tup (vs.map tupI)), .dat (.int (n : Nat)), .own (.lst acc), .dat (.int (p.2 : Nat)), .dat (tupI p.1), s5, .un, .un, .un, .un]) (List.range vs.length)
            (by simp [intsFrom]; omega) (lenOk_of (by simp; omega)) rfl (fun j hj => by
              refine ⟨[.dat (.tup (vs.map tupI)), .dat (.int (n : Nat)), .own (.lst acc), .dat (.int (p.2 : Nat)), .dat (tupI p.1), s5, .un, .un, .un, .dat (.int (0 + (j : Nat)))], by simp [wipeE], [.dat (.tup (vs.map tupI)), .dat (.int (n : Nat)), .own (.lst acc), .dat (.int (p.2 : Nat)), .dat (tupI p.1), s5, .un, .un, .un, .dat (.int (0 + (j : Nat)))], ?_, rfl, rfl⟩
              by_cases c : j = p.2
              · subst c; simp
              · have c' : ¬ ((j : Int) = (p.2 : Int)) := by omega
                simp [c, c'])
          refine nx_set (d0 := tupI (unitR p.2 vs.length)) (ρ1 := [.dat (.tup (vs.map tupI)), .dat (.int (n : Nat)), .own (.lst acc), .dat (.int (p.2 : Nat)), .dat (tupI p.1), s5, .un, .un, .un, .un]) ?_ (by rcases i5 with rfl | ⟨_, rfl⟩ <;> simp)
          simp only [fN_ap, fCons_ap, fGive_ap, hc, fNil_ap, Option.bind_some, toD_lst, gTuple_l]
          simp [unitR, List.map_map, Function.comp_def]
        · have hpw : powOk 1 (p.2 : Int) = true := by
            unfold powOk
            exact decide_eq_true ⟨by omega, by omega, by decide⟩
          have e5 : fTup (fCons (fBin gShl (fC (.int 1)) (fVar 3)) (fCons (fBin gAdd (fVar 4) (fVar 5)) fNil)) [.dat (.tup (vs.map tupI)), .dat (.int (n : Nat)), .own (.lst acc), .dat (.int (p.2 : Nat)), .dat (tupI p.1), .dat (tupI (unitR p.2 vs.length)), .un, .un, .un, .un]
              = some (encE (2 ^ p.2, p.1 ++ unitR p.2 vs.length), [.dat (.tup (vs.map tupI)), .dat (.int (n : Nat)), .own (.lst acc), .dat (.int (p.2 : Nat)), .dat (tupI p.1), .dat (tupI (unitR p.2 vs.length)), .un, .un, .un, .un]) := by
            have hlo : lenOk (p.1.length + (unitR p.2 vs.length).length) = true := lenOk_of (by simp [unitR]; omega)
            have l2 : lenOk 2 = true := rfl
            simp [hpw, hlo, l2, encE]
          unfold Nx
          rw [fApp_ap]
          simp only [e5]
          simp [lenOk_of hal]
      · subst hacc
        simp)
  subst er
  refine rt_seq (nx_for (ρ1 := [.dat (.tup (vs.map tupI)), .dat (.int (n : Nat)), .own (.lst []), .un, .un, .un, .un, .un, .un, .un]) (by simp; exact enumD_zip vs 0) q) ?_
  have e0 : ((vs.zipIdx.map fun p : List Int × Nat => ((2 ^ p.2, p.1 ++ unitR p.2 vs.length) : Ent)).map encE) = (bal 0 (initE vs)).map encE := rfl
  rw [e0]
  obtain ⟨ρ', q, s2, s6, i6, h2, er⟩ := loopF_pre (enc := fun j : Nat => D.int (0 + (j : Nat))) (T := fPut0 6) (F := (fFrz 2 (fSet 2 (fCall 2 g__balanced_at (frD (fVar 2) (frD (fVar 6) frNil))))))
    (I := fun done ρ => ∃ s2 s6, IsD s6 ∧ (s2 = .own (.lst ((bal done.length (initE vs)).map encE)) ∨ s2 = .dat (.lst ((bal done.length (initE vs)).map encE))) ∧ ρ = [.dat (.tup (vs.map tupI)), .dat (.int (n : Nat)), s2, s3, s4, s5, s6, .un, .un, .un])
    (List.range n) (List.range n) [] [.dat (.tup (vs.map tupI)), .dat (.int (n : Nat)), .own (.lst ((bal 0 (initE vs)).map encE)), s3, s4, s5, .un, .un, .un, .un] rfl ⟨_, .un, isD_un, .inl rfl, rfl⟩ (fun done j rest e ρ ⟨s2, s6, i6, h2, er⟩ => by
      subst er
      have hd : done.length = j ∧ j < n := by
        have h1 : (done ++ j :: rest)[done.length]? = some j := by simp
        rw [e] at h1
        have h2 : done.length < n := by
          have := congrArg List.length e
          simp at this; omega
        simp [h2] at h1
        omega
      obtain ⟨hd, hj⟩ := hd
      rw [hd] at h2
      have hST := hS j (by omega)
      have hST' := hS (j + 1) (by omega)
      refine ⟨[.dat (.tup (vs.map tupI)), .dat (.int (n : Nat)), s2, s3, s4, s5, .dat (.int (j : Nat)), .un, .un, .un], by rcases i6 with rfl | ⟨_, rfl⟩ <;> simp,
        [.dat (.tup (vs.map tupI)), .dat (.int (n : Nat)), .dat (.lst ((bal (j + 1) (initE vs)).map encE)), s3, s4, s5, .dat (.int (j : Nat)), .un, .un, .un], ?_, _, .dat (.int (j : Nat)), isD_dat, .inr (by rw [List.length_append, hd]; rfl), rfl⟩
      have hf : frz 2 [.dat (.tup (vs.map tupI)), .dat (.int (n : Nat)), s2, s3, s4, s5, .dat (.int (j : Nat)), .un, .un, .un] = some [.dat (.tup (vs.map tupI)), .dat (.int (n : Nat)), .dat (.lst ((bal j (initE vs)).map encE)), s3, s4, s5, .dat (.int (j : Nat)), .un, .un, .un] := by
        rcases h2 with rfl | rfl <;> rfl
      rw [fFrz_ap, hf]
      simp only [Option.bind_some]
      refine nx_set (d0 := .lst ((bal (j + 1) (initE vs)).map encE)) (ρ1 := [.dat (.tup (vs.map tupI)), .dat (.int (n : Nat)), .dat (.lst ((bal j (initE vs)).map encE)), s3, s4, s5, .dat (.int (j : Nat)), .un, .un, .un]) ?_ (by simp)
      exact call_ev (ds := [.lst ((bal j (initE vs)).map encE), .int (j : Nat)]) (by simp) rfl (ev_balAt hST (by omega) (hB j hj) (by omega) (by omega) hST'.sz))
  subst er
  refine rt_seq (nx_for (ρ1 := [.dat (.tup (vs.map tupI)), .dat (.int (n : Nat)), .own (.lst ((bal 0 (initE vs)).map encE)), s3, s4, s5, .un, .un, .un, .un]) (by simp [intsFrom]; omega) q) ?_
  rw [List.length_range] at h2
  have hST := hS n (Nat.le_refl n)
  have hf : frz 2 [.dat (.tup (vs.map tupI)), .dat (.int (n : Nat)), s2, s3, s4, s5, s6, .un, .un, .un] = some [.dat (.tup (vs.map tupI)), .dat (.int (n : Nat)), .dat (.lst ((bal n (initE vs)).map encE)), s3, s4, s5, s6, .un, .un, .un] := by
    rcases h2 with rfl | rfl <;> rfl
  unfold Rt
  rw [fFrz_ap, hf]
  simp only [Option.bind_some]
  refine rt_ret ⟨[.dat (.tup (vs.map tupI)), .dat (.int (n : Nat)), .dat (.lst ((bal n (initE vs)).map encE)), s3, s4, s5, s6, .un, .un, .un], ?_⟩
  have hc := fComp_map (enc := encE) (fv := fun p : Ent => tupI (p.2.drop n)) (fi := iOf (fVar 2)) (T := gTupF 2 (gsCons (fPut0 7) (gsCons (fPut0 8) gsNil))) (fe := fSlice (fVar 8) (fPart (fVar 1)) fNoP) (vs := [7, 8])
    (ρ := [.dat (.tup (vs.map tupI)), .dat (.int (n : Nat)), .dat (.lst ((bal n (initE vs)).map encE)), s3, s4, s5, s6, .un, .un, .un]) (ρ0 := [.dat (.tup (vs.map tupI)), .dat (.int (n : Nat)), .dat (.lst ((bal n (initE vs)).map encE)), s3, s4, s5, s6, .un, .un, .un]) (bal n (initE vs))
    (by simp) (lenOk_of hST.sz) rfl (fun p hp => by
      refine ⟨[.dat (.tup (vs.map tupI)), .dat (.int (n : Nat)), .dat (.lst ((bal n (initE vs)).map encE)), s3, s4, s5, s6, .dat (.int (p.1 : Nat)), .dat (tupI p.2), .un], by simp [wipeE, encE], [.dat (.tup (vs.map tupI)), .dat (.int (n : Nat)), .dat (.lst ((bal n (initE vs)).map encE)), s3, s4, s5, s6, .dat (.int (p.1 : Nat)), .dat (tupI p.2), .un], ?_, rfl, rfl⟩
      have := hST.len p hp
      simp [cut_drop (show n ≤ p.2.length by omega)])
  rw [fGive_ap, hc]
  simp [balances, List.map_map, Function.comp_def]
end W20
end

section
set_option Elab.async false
set_option linter.all false
set_option maxRecDepth 100000
namespace W20
open L2 DL

theorem dInts_map : ∀ ns : List Int, dInts (ns.map D.int) = some ns
  | [] => rfl
  | n :: ns => by
    show (dInts (ns.map D.int)).map (n :: ·) = some (n :: ns)
    rw [dInts_map ns]; rfl
def red (a b : Int) : Int × Int := (a.fdiv (gcdI a b), b.fdiv (gcdI a b))
abbrev encF (p : Int × Int) : D := .tup [.int p.1, .int p.2]
abbrev encP (p : Nat × (Int × Int)) : D := .tup [.int (p.1 : Nat), encF p.2]
theorem gcdI_pos {a b : Int} (h : 0 < b) : 0 < gcdI a b := by
  unfold gcdI
  have := Nat.gcd_pos_of_pos_right a.natAbs (show 0 < b.natAbs by omega)
  omega
theorem ev_fraction {a b : Int} {B : Nat} (hb : 0 < b) (ha : a.natAbs < 2 ^ B) (hb2 : b.natAbs < 2 ^ B) (hB : B ≤ 9000) : g_fraction [.dat (.int a), .dat (.int b)] = some (encF (red a b), [.dat (.int a), .dat (.int b)]) := by
  refine body_rt (ds := [.int a, .int b]) ?_
  show Rt F_fraction [.dat (.int a), .dat (.int b), .un] _
  unfold F_fraction
  have b0 : ¬ b = 0 := by omega
  have bn : ¬ b < 0 := by omega
  refine rt_seq (ρ1 := [.dat (.int a), .dat (.int b), .un]) (by simp [Nx, b0]) ?_
  refine rt_seq (ρ1 := [.dat (.int a), .dat (.int b), .dat (.int (gcdI a b))]) (by simp [Nx, gcdI]) ?_
  refine rt_seq (ρ1 := [.dat (.int a), .dat (.int b), .dat (.int (gcdI a b))]) (by simp [Nx, bn]) ?_
  have h1 : ∀ x, divOk x (gcdI a b) = true := fun x => divOk_of (gcdI_pos hb) (gcdI_bd ha hb2) hB
  exact rt_ret ⟨[.dat (.int a), .dat (.int b), .dat (.int (gcdI a b))], by simp [h1, lenOk, red]⟩
theorem ev_negated {ns : List Int} (hl : lenOk ns.length = true) : g__negated [.dat (tupI ns)] = some (tupI (ns.map fun x => -x), [.dat (tupI ns)]) := by
  refine body_rt (ds := [tupI ns]) ?_
  show Rt F__negated [.dat (tupI ns), .un] _
  unfold F__negated
  refine rt_ret ⟨[.dat (tupI ns), .un], ?_⟩
  have hc := fComp_map (enc := D.int) (fv := fun x => D.int (-x)) (fi := iOf (fVar 0)) (T := fPut0 1) (fe := fUn gNeg (fVar 1)) (vs := [1]) (ρ := [.dat (tupI ns), .un]) (ρ0 := [.dat (tupI ns), .un]) ns (by simp) hl rfl (fun a ha =>
    ⟨[.dat (tupI ns), .dat (.int a)], by simp [wipeE], [.dat (tupI ns), .dat (.int a)], by simp, rfl, rfl⟩)
  rw [fN_ap, fCons_ap, fGive_ap, hc]
  simp [List.map_map, Function.comp_def]
def wts (y : List Int) (share : Int) : List (Nat × (Int × Int)) := (y.zipIdx.filter fun p => decide (0 < p.1)).map fun p => (p.2, red p.1 share)
theorem ev_weights {y : List Int} {share : Int} {B : Nat} (hB : B ≤ 9000) (hy : Bd B y) (hs : 0 < share) (hs2 : share.natAbs < 2 ^ B) (hl : lenOk y.length = true) : g__weights_of [.dat (tupI y), .dat (.int share)] = some (.tup ((wts y share).map encP), [.dat (tupI y), .dat (.int share)]) := by
  refine body_rt (ds := [tupI y, .int share]) ?_
  show Rt F__weights_of [.dat (tupI y), .dat (.int share), .un, .un] _
  unfold F__weights_of
  refine rt_ret ⟨[.dat (tupI y), .dat (.int share), .un, .un], ?_⟩
  have hc := fComp_eval (enc := fun p : Int × Nat => D.tup [.int (p.2 : Nat), .int p.1]) (p := fun p : Int × Nat => decide (0 < p.1)) (fv := fun p : Int × Nat => encP (p.2, red p.1 share)) (fi := iEnumF (fCons (fVar 0) fNil)) (T := gTupF 2 (gsCons (fPut0 2) (gsCons (fPut0 3) gsNil)))
    (ft := fTB (fBin gGt (fVar 3) (fC (.int 0)))) (fe := fTup (fCons (fVar 2) (fCons (fCall 2 g_fraction (frD (fVar 3) (frD (fVar 1) frNil))) fNil))) (vs := [2, 3]) (ρ := [.dat (tupI y), .dat (.int share), .un, .un]) (ρ0 := [.dat (tupI y), .dat (.int share), .un, .un]) y.zipIdx
    (by simp; exact enumD_zip y 0) (by simpa using hl) rfl (fun p hp => by
      refine ⟨[.dat (tupI y), .dat (.int share), .dat (.int (p.2 : Nat)), .dat (.int p.1)], by simp [wipeE], [.dat (tupI y), .dat (.int share), .dat (.int (p.2 : Nat)), .dat (.int p.1)], by simp, fun h => ⟨[.dat (tupI y), .dat (.int share), .dat (.int (p.2 : Nat)), .dat (.int p.1)], ?_, rfl, rfl⟩, fun _ => ⟨rfl, rfl⟩⟩
      have h1 := (zipIdx_at hp).2
      have ec : fCall 2 g_fraction (frD (fVar 3) (frD (fVar 1) frNil)) [.dat (tupI y), .dat (.int share), .dat (.int (p.2 : Nat)), .dat (.int p.1)] = some (encF (red p.1 share), [.dat (tupI y), .dat (.int share), .dat (.int (p.2 : Nat)), .dat (.int p.1)]) :=
        call_ev (ds := [.int p.1, .int share]) (by simp) rfl (ev_fraction hs (hy _ (List.mem_of_getElem? h1)) hs2 hB)
      rw [fTup_ap, fCons_ap, fVar_ap]
      simp only [List.getElem?_cons_succ, List.getElem?_cons_zero, Option.bind_some]
      rw [fCons_ap, ec]
      simp [lenOk])
  rw [fN_ap, fCons_ap, fGive_ap, hc]
  simp [wts, List.map_map, Function.comp_def]
abbrev encW (w : List (Nat × (Int × Int))) : D := .tup (w.map encP)
def keyW (w : List (Nat × (Int × Int))) : SK := ((w.length : Int), w.map fun p => (p.1 : Int))
theorem ev_key {w : List (Nat × (Int × Int))} (hl : lenOk w.length = true) : ∃ d, g__sort_key [.dat (encW w)] = some (d, [.dat (encW w)]) ∧ keyD d = some (keyW w) := by
  refine ⟨.tup [.int (w.length : Nat), .tup ((w.map fun p => (p.1 : Int)).map D.int)], ?_, ?_⟩
  · refine body_rt (ds := [encW w]) ?_
    show Rt F__sort_key [.dat (encW w), .un, .un] _
    unfold F__sort_key
    refine rt_ret ⟨[.dat (encW w), .un, .un], ?_⟩
    have hc := fComp_map (enc := encP) (fv := fun p : Nat × (Int × Int) => D.int (p.1 : Nat)) (fi := iOf (fVar 0)) (T := gTupF 2 (gsCons (fPut0 1) (gsCons (fPut0 2) gsNil))) (fe := fVar 1) (vs := [1, 2]) (ρ := [.dat (encW w), .un, .un]) (ρ0 := [.dat (encW w), .un, .un]) w (by simp) hl rfl (fun p hp =>
      ⟨[.dat (encW w), .dat (.int (p.1 : Nat)), .dat (encF p.2)], by simp [wipeE], [.dat (encW w), .dat (.int (p.1 : Nat)), .dat (encF p.2)], by simp, rfl, rfl⟩)
    rw [fTup_ap, fCons_ap, fLenV_ap]
    simp only [List.getElem?_cons_zero, gLen_t, Option.bind_some]
    rw [fCons_ap, fN_ap, fCons_ap, fGive_ap, hc]
    simp [lenOk, List.map_map, Function.comp_def]
  · show (dInts _).bind _ = _
    rw [dInts_map]; rfl
theorem keysOf_ev : ∀ {ws : List (List (Nat × (Int × Int)))}, (∀ w, w ∈ ws → lenOk w.length = true) → keysOf g__sort_key (ws.map encW) = some (ws.map fun w => (keyW w, encW w))
  | [], _ => rfl
  | w :: ws, h => by
    obtain ⟨d, h1, h2⟩ := ev_key (h w List.mem_cons_self)
    have ih := keysOf_ev fun w hw => h w (List.mem_cons_of_mem _ hw)
    simp only [List.map_cons, keysOf, h1, h2, ih, Option.bind_some]
/-! ### ways -/
def neg (ns : List Int) : List Int := ns.map fun x => -x
def waysW (rows : List (List Int)) (aim : List Int) : List (List (Nat × (Int × Int))) :=
  (balances (rows ++ [neg aim]) aim.length).filterMap fun y => if 0 < y.getD rows.length 0 then some (wts (y.take rows.length) (y.getD rows.length 0)) else none
theorem atI_last {ns : List Int} {M : Nat} (h : ns.length = M + 1) : atI (ns.map D.int) (-1) = some (.int (ns.getD M 0)) := by
  have hM : M < ns.length := by omega
  unfold atI ixN
  rw [List.length_map, h]
  have e : (-1 + ((M + 1 : Nat) : Int)).toNat = M := by omega
  simp only [show ¬ (0 : Int) ≤ -1 by omega, if_false, e]
  rw [if_pos (by omega)]
  simp [hM]
theorem cut_last {ns : List Int} {M : Nat} (h : ns.length = M + 1) : cutD (ns.map D.int) none (some (-1)) = (ns.take M).map D.int := by
  unfold cutD
  have e : HT.sIx (M + 1) (M + 1) (some (-1)) = M := by
    unfold HT.sIx; simp; omega
  rw [HT.sIx_none, List.length_map, h, e]
  simp [List.map_take]

def WaysOk (rows : List (List Int)) (aim : List Int) (B : Nat) : Prop := (∀ y, y ∈ balances (rows ++ [neg aim]) aim.length → y.length = rows.length + 1 ∧ Bd B y) ∧ B ≤ 9000 ∧ (balances (rows ++ [neg aim]) aim.length).length < 16000000
theorem loopY_id {l : List D} {s0 s1 s2 s3 s4 : Slot} : ∀ {s5 : Slot}, IsD s5 → ∃ s5', IsD s5' ∧ loopY (fPut0 5) (ySeq (yYield (fVar 5)) yNil) l [s0, s1, s2, s3, s4, s5] = some (l, [s0, s1, s2, s3, s4, s5']) := by
  induction l with
  | nil => intro s5 h; exact ⟨s5, h, rfl⟩
  | cons d l ih =>
    intro s5 h
    obtain ⟨s5', h', q⟩ := ih (s5 := .dat d) isD_dat
    refine ⟨s5', h', ?_⟩
    have e1 : fPut0 5 d [s0, s1, s2, s3, s4, s5] = some [s0, s1, s2, s3, s4, .dat d] := by rcases h with rfl | ⟨_, rfl⟩ <;> simp
    have e2 : ySeq (yYield (fVar 5)) yNil [s0, s1, s2, s3, s4, .dat d] = some ([d], [s0, s1, s2, s3, s4, .dat d]) := rfl
    simp only [loopY, e1, e2, q, Option.bind_some]
    rfl
theorem ev_ways {rows : List (List Int)} {aim : List Int} {Bf : Nat → Nat} {B : Nat} (hr : ∀ r, r ∈ rows → r.length = aim.length) (hn : aim.length < 900) (hm : rows.length < 800) (hB : ∀ k, k < aim.length → 2 * Bf k + 1 ≤ 9000)
    (hS : ∀ k, k ≤ aim.length → Stg (aim.length + (rows ++ [neg aim]).length) (Bf k) (bal k (initE (rows ++ [neg aim])))) (hW : WaysOk rows aim B) (hnd : ((waysW rows aim).map keyW).Nodup) :
    g_ways [.dat (.tup (rows.map tupI)), .dat (tupI aim)] = some ((sortK ((waysW rows aim).map fun w => (keyW w, encW w))).map (·.2)) := by
  obtain ⟨hy, hB9, hbl⟩ := hW
  unfold g_ways bodyY
  show (F_ways [.dat (.tup (rows.map tupI)), .dat (tupI aim), .un, .un, .un, .un]).bind _ = _
  have h0 : (fSetN 2 (fLst fNil)) [.dat (.tup (rows.map tupI)), .dat (tupI aim), .un, .un, .un, .un] = some (.nx, [.dat (.tup (rows.map tupI)), .dat (tupI aim), .own (.lst []), .un, .un, .un]) := rfl
  have hl1 : lenOk aim.length = true := lenOk_of (by omega)
  have e1 : fCall 1 g__negated (frD (fVar 1) frNil) [.dat (.tup (rows.map tupI)), .dat (tupI aim), .own (.lst []), .un, .un, .un] = some (tupI (neg aim), [.dat (.tup (rows.map tupI)), .dat (tupI aim), .own (.lst []), .un, .un, .un]) :=
    call_ev (ds := [tupI aim]) (by simp) rfl (ev_negated hl1)
  have hvl : (rows ++ [neg aim]).length < 900 := by simp; omega
  have e2 : fCall 2 g__balances (frD (fBin gAdd (fVar 0) (fTup (fCons (fCall 1 g__negated (frD (fVar 1) frNil)) fNil))) (frD (fLenV 1) frNil)) [.dat (.tup (rows.map tupI)), .dat (tupI aim), .own (.lst []), .un, .un, .un]
      = some (.lst ((balances (rows ++ [neg aim]) aim.length).map tupI), [.dat (.tup (rows.map tupI)), .dat (tupI aim), .own (.lst []), .un, .un, .un]) := by
    refine call_ev (ds := [.tup ((rows ++ [neg aim]).map tupI), .int (aim.length : Nat)]) ?_ rfl (ev_balances (fun v hv => ?_) hn hvl hB hS)
    · have l1 : lenOk 1 = true := rfl
      have l2 : lenOk (rows.length + 1) = true := lenOk_of (by omega)
      rw [frD_ap, fBin_ap, fVar_ap]
      simp only [List.getElem?_cons_zero, Option.bind_some]
      rw [fTup_ap, fCons_ap, e1]
      simp [l1, l2]
    · rcases List.mem_append.mp hv with h | h
      · exact hr v h
      · simp at h; subst h; simp [neg]
  obtain ⟨ρ', q, s3, s4, i3, i4, er⟩ := loopF_pre (enc := tupI) (T := fPut0 3) (F := (fSeq (fSet 4 (fIxV 3 (fUn gNeg (fC (.int 1)))))
 (fIfS (fTB (fBin gGt (fVar 4) (fC (.int 0)))) (fApp 2 (fCall 2 g__weights_of (frD (fSlice (fVar 3) fNoP (fPart (fUn gNeg (fC (.int 1))))) (frD (fVar 4) frNil))))
 fSkip))) (I := fun done ρ => ∃ s3 s4, IsD s3 ∧ IsD s4 ∧ ρ = [.dat (.tup (rows.map tupI)), .dat (tupI aim), .own (.lst ((done.filterMap fun y => if 0 < y.getD rows.length 0 then some (wts (y.take rows.length) (y.getD rows.length 0)) else none).map encW)), s3, s4, .un])
    (balances (rows ++ [neg aim]) aim.length) (balances (rows ++ [neg aim]) aim.length) [] [.dat (.tup (rows.map tupI)), .dat (tupI aim), .own (.lst []), .un, .un, .un] rfl ⟨.un, .un, isD_un, isD_un, rfl⟩ (fun done y rest e ρ ⟨s3, s4, i3, i4, er⟩ => by
      subst er
      have hym : y ∈ balances (rows ++ [neg aim]) aim.length := by rw [← e]; simp
      obtain ⟨hyl, hyb⟩ := hy y hym
      have hdl : done.length < 16000000 := by
        have := congrArg List.length e
        simp at this; omega
      generalize hacc : (done.filterMap fun y => if 0 < y.getD rows.length 0 then some (wts (y.take rows.length) (y.getD rows.length 0)) else none).map encW = acc
      have hal : acc.length < 16000000 := by
        rw [← hacc, List.length_map]
        exact Nat.lt_of_le_of_lt (List.length_filterMap_le _ _) hdl
      refine ⟨[.dat (.tup (rows.map tupI)), .dat (tupI aim), .own (.lst acc), .dat (tupI y), s4, .un], by rcases i3 with rfl | ⟨_, rfl⟩ <;> simp,
        [.dat (.tup (rows.map tupI)), .dat (tupI aim), .own (.lst (if 0 < y.getD rows.length 0 then acc ++ [encW (wts (y.take rows.length) (y.getD rows.length 0))] else acc)), .dat (tupI y), .dat (.int (y.getD rows.length 0)), .un], ?_, .dat (tupI y), .dat (.int (y.getD rows.length 0)), isD_dat, isD_dat, ?_⟩
      · have a1 := atI_last hyl
        refine nx_seq (ρ1 := [.dat (.tup (rows.map tupI)), .dat (tupI aim), .own (.lst acc), .dat (tupI y), .dat (.int (y.getD rows.length 0)), .un]) ?_ ?_
        · refine nx_set (d0 := .int (y.getD rows.length 0)) (ρ1 := [.dat (.tup (rows.map tupI)), .dat (tupI aim), .own (.lst acc), .dat (tupI y), s4, .un]) (by simp [a1]) (by rcases i4 with rfl | ⟨_, rfl⟩ <;> simp)
        · refine nx_if (b := decide (0 < y.getD rows.length 0)) (ρ1 := [.dat (.tup (rows.map tupI)), .dat (tupI aim), .own (.lst acc), .dat (tupI y), .dat (.int (y.getD rows.length 0)), .un]) (by simp) (fun hb => ?_) fun hb => ?_
          · have hb := of_decide_eq_true hb
            have ec : fCall 2 g__weights_of (frD (fSlice (fVar 3) fNoP (fPart (fUn gNeg (fC (.int 1))))) (frD (fVar 4) frNil)) [.dat (.tup (rows.map tupI)), .dat (tupI aim), .own (.lst acc), .dat (tupI y), .dat (.int (y.getD rows.length 0)), .un]
                = some (encW (wts (y.take rows.length) (y.getD rows.length 0)), [.dat (.tup (rows.map tupI)), .dat (tupI aim), .own (.lst acc), .dat (tupI y), .dat (.int (y.getD rows.length 0)), .un]) :=
              call_ev (ds := [tupI (y.take rows.length), .int (y.getD rows.length 0)]) (by simp [cut_last hyl]) rfl
                (ev_weights hB9 (fun e he => hyb e (List.mem_of_mem_take he)) hb (hyb.get _) (lenOk_of (by simp; omega)))
            unfold Nx
            rw [fApp_ap]
            simp only [ec]
            rw [if_pos hb]
            simp [lenOk_of hal]
          · have hb : ¬ 0 < y.getD rows.length 0 := of_decide_eq_false hb
            simp only [hb, if_false]; rfl
      · subst hacc
        by_cases c : 0 < y.getD rows.length 0
        · simp only [c, if_true, List.filterMap_append, List.filterMap_cons, List.filterMap_nil, List.map_append, List.map_cons, List.map_nil]
        · simp only [c, if_false, List.filterMap_append, List.filterMap_cons, List.filterMap_nil, List.map_append, List.map_nil, List.append_nil])
  subst er
  have ew : ((balances (rows ++ [neg aim]) aim.length).filterMap fun y => if 0 < y.getD rows.length 0 then some (wts (y.take rows.length) (y.getD rows.length 0)) else none) = waysW rows aim := rfl
  rw [ew] at q
  have hwl : ∀ w, w ∈ waysW rows aim → lenOk w.length = true := fun w hw => by
    unfold waysW at hw
    obtain ⟨y, hym, h⟩ := List.mem_filterMap.mp hw
    split at h
    · cases h
      refine lenOk_of ?_
      unfold wts
      rw [List.length_map]
      refine Nat.lt_of_le_of_lt (List.length_filter_le _ _) ?_
      simp; omega
    · cases h
  have hs : fSortK g__sort_key (fVar 2) [.dat (.tup (rows.map tupI)), .dat (tupI aim), .dat (.lst ((waysW rows aim).map encW)), s3, s4, .un] = some (.lst ((sortK ((waysW rows aim).map fun w => (keyW w, encW w))).map (·.2)), [.dat (.tup (rows.map tupI)), .dat (tupI aim), .dat (.lst ((waysW rows aim).map encW)), s3, s4, .un]) := by
    unfold fSortK
    rw [fVar_ap]
    simp only [List.getElem?_cons_succ, List.getElem?_cons_zero, Option.bind_some]
    rw [keysOf_ev hwl]
    simp only [Option.bind_some, List.map_map]
    rw [if_pos (by simpa [Function.comp_def] using hnd)]
  obtain ⟨s5', _, qy⟩ := loopY_id (l := (sortK ((waysW rows aim).map fun w => (keyW w, encW w))).map (·.2)) (s0 := .dat (.tup (rows.map tupI))) (s1 := .dat (tupI aim)) (s2 := .dat (.lst ((waysW rows aim).map encW))) (s3 := s3) (s4 := s4) isD_un
  have hf : frz 2 [.dat (.tup (rows.map tupI)), .dat (tupI aim), .own (.lst ((waysW rows aim).map encW)), s3, s4, .un] = some [.dat (.tup (rows.map tupI)), .dat (tupI aim), .dat (.lst ((waysW rows aim).map encW)), s3, s4, .un] := rfl
  have hF : F_ways [.dat (.tup (rows.map tupI)), .dat (tupI aim), .un, .un, .un, .un] = some ((sortK ((waysW rows aim).map fun w => (keyW w, encW w))).map (·.2), [.dat (.tup (rows.map tupI)), .dat (tupI aim), .dat (.lst ((waysW rows aim).map encW)), s3, s4, s5']) := by
    unfold F_ways
    have y1 : yPlain (fSetN 2 (fLst fNil)) [.dat (.tup (rows.map tupI)), .dat (tupI aim), .un, .un, .un, .un] = some ([], [.dat (.tup (rows.map tupI)), .dat (tupI aim), .own (.lst []), .un, .un, .un]) := by unfold yPlain; rw [h0]; rfl
    unfold ySeq
    rw [y1]
    simp only [Option.bind_some]
    have y2 : ∀ F, loopF (fPut0 3) F ((balances (rows ++ [neg aim]) aim.length).map tupI) [.dat (.tup (rows.map tupI)), .dat (tupI aim), .own (.lst []), .un, .un, .un] = some (.nx, [.dat (.tup (rows.map tupI)), .dat (tupI aim), .own (.lst ((waysW rows aim).map encW)), s3, s4, .un]) →
        yPlain (fFor (iOf (fCall 2 g__balances (frD (fBin gAdd (fVar 0) (fTup (fCons (fCall 1 g__negated (frD (fVar 1) frNil)) fNil))) (frD (fLenV 1) frNil)))) (fPut0 3) F) [.dat (.tup (rows.map tupI)), .dat (tupI aim), .own (.lst []), .un, .un, .un] = some ([], [.dat (.tup (rows.map tupI)), .dat (tupI aim), .own (.lst ((waysW rows aim).map encW)), s3, s4, .un]) := fun F hF => by
      unfold yPlain
      rw [fFor_ap, iOf_ap, e2]
      simp only [Option.bind_some]
      rw [hF]; rfl
    rw [y2 _ q]
    simp only [Option.bind_some]
    unfold yFrz
    rw [hf]
    simp only [Option.bind_some]
    unfold yFor
    rw [iOf_ap, fGive_ap, hs]
    simp only [Option.bind_some, toD_lst]
    have : (fun ρ => (yYield (fVar 5) ρ).bind fun x => (yNil x.2).bind fun y => some (x.1 ++ y.1, y.2)) = ySeq (yYield (fVar 5)) yNil := rfl
    rw [this, qy]
    simp [yNil]
  rw [hF]
  rfl
end W20
end

section
set_option Elab.async false
set_option linter.all false
set_option maxRecDepth 100000
namespace W20
open L2 DL
/-- the bag of the script's numbers -/
def bagD (cells : List Int) (at_ : Nat) (big cnt mix : Int) : List D := [lstI cells, .int (at_ : Nat), .int big, .int cnt, .int mix]
def BagOk (b : List D) : Prop := ∃ cells at_ big cnt mix, b = bagD cells at_ big cnt mix ∧ cells.length ≤ 63 ∧ at_ ≤ cells.length ∧ 0 ≤ big
theorem mulOk_r {a b : Int} (h1 : -(2 ^ 64) < b) (h2 : b < 2 ^ 64) : mulOk a b = true := by
  unfold mulOk
  rw [Bool.or_eq_true, Bool.or_eq_true, decide_eq_true_eq, decide_eq_true_eq]
  exact .inl (.inr ⟨h1, h2⟩)
theorem mulOk_l {a b : Int} (h1 : -(2 ^ 64) < a) (h2 : a < 2 ^ 64) : mulOk a b = true := by
  unfold mulOk
  rw [Bool.or_eq_true, Bool.or_eq_true, decide_eq_true_eq, decide_eq_true_eq]
  exact .inl (.inl ⟨h1, h2⟩)
theorem Rt.io {F : FS} {b b' : List D} {ds : List D} {d : D} {n : Nat} {ρ' : Ev} (h : F (.io (.lst b) :: ds.map Slot.dat ++ List.replicate (n - (ds.length + 1)) .un) = some (.rt d, .io (.lst b') :: ρ')) :
    bodyG n F (.io (.lst b) :: ds.map Slot.dat) = some (d, .io (.lst b') :: ds.map Slot.dat) := by
  unfold bodyG
  rw [List.length_cons, List.length_map, h]
  simp [outsOf, outsOf_dats]
theorem ev_draw {b : List D} {size : Int} (hb : BagOk b) (h0 : 0 < size) (h1 : size < 100000) : ∃ d b', BagOk b' ∧ 0 ≤ d ∧ d < size ∧ g__law_draw [.io (.lst b), .dat (.int size)] = some (.int d, [.io (.lst b'), .dat (.int size)]) := by
  obtain ⟨cells, at_, big, cnt, mix, rfl, hl, ha, hbig⟩ := hb
  have m1 : mulOk (cnt + 1) 7919 = true := mulOk_r (by decide) (by decide)
  have m2 : mulOk mix 48271 = true := mulOk_r (by decide) (by decide)
  have m3 : ∀ x, mulOk x 69621 = true := fun x => mulOk_r (by decide) (by decide)
  have m4 : ∀ x, mulOk x 40692 = true := fun x => mulOk_r (by decide) (by decide)
  have dv : ∀ x, divOk x size = true := fun x => by
    unfold divOk
    rw [Bool.or_eq_true, decide_eq_true_eq]
    exact .inl ⟨by omega, by omega⟩
  have md : ∀ x, modOk x size = true := fun x => by unfold modOk; exact decide_eq_true (by omega)
  have md1 : ∀ x, modOk x 2147483647 = true := fun x => rfl
  have md2 : ∀ x, modOk x 2147483563 = true := fun x => rfl
  have dv8 : ∀ x, divOk x 8 = true := fun x => rfl
  have mm : ∀ x : Int, mulOk (x.fmod 2147483647) (x.fmod 2147483647) = true := fun x => by
    have h1 := Int.fmod_nonneg_of_pos x (show (0 : Int) < 2147483647 by omega)
    have h2 := Int.fmod_lt_of_pos x (show (0 : Int) < 2147483647 by omega)
    exact mulOk_l (by omega) (by omega)
  have pw : powOk 10 18 = true := rfl
  -- behind the script's number
  have tail_ : ∀ (F G H4 H5 H6 : FS) (at2 : Nat) (big2 c2 : Int), at2 ≤ cells.length → 0 ≤ big2 →
      ∃ d b' ρ', BagOk b' ∧ 0 ≤ d ∧ d < size ∧ (fSeq (fIfS (fTB (fBin gGt (fIxV 0 (fC (.int 2))) (fC (.int 0)))) (fSeq (fSet 3 (fBin gMod (fN gInt (fCons (fIxV 0 (fC (.int 2))) fNil)) (fVar 1)))
 (fSeq (fSetIx 0 (fC (.int 2)) (fBin gDiv (fN gInt (fCons (fIxV 0 (fC (.int 2))) fNil)) (fVar 1)))
 (fRet (fVar 3))))
 fSkip)
 (fSeq (fSetIx 0 (fC (.int 4)) (fBin gMod (fN gInt (fCons (fBin gAdd (fBin gAdd (fBin gMul (fIxV 0 (fC (.int 4))) (fC (.int 48271))) (fBin gMul (fVar 2) (fC (.int 69621)))) (fC (.int 11))) fNil)) (fC (.int 2147483647))))
 (fSeq (fSet 4 (fBin gMod (fN gInt (fCons (fBin gAdd (fBin gMul (fIxV 0 (fC (.int 4))) (fIxV 0 (fC (.int 4)))) (fBin gMul (fIxV 0 (fC (.int 3))) (fC (.int 40692)))) fNil)) (fC (.int 2147483563))))
 (fRet (fBin gMod (fN gInt (fCons (fBin gDiv (fVar 4) (fC (.int 8))) fNil)) (fVar 1)))))) [.io (.lst (bagD cells at2 big2 (cnt + 1) mix)), .dat (.int size), .dat (.int c2), .un, .un] = some (.rt (.int d), .io (.lst b') :: ρ') := fun _ _ _ _ _ at2 big2 c2 ha2 hb2 => by
    by_cases c : 0 < big2
    · refine ⟨big2.fmod size, bagD cells at2 (big2.fdiv size) (cnt + 1) mix, [.dat (.int size), .dat (.int c2), .dat (.int (big2.fmod size)), .un], ⟨cells, at2, _, _, _, rfl, hl, ha2, Int.fdiv_nonneg (by omega) (by omega)⟩, Int.fmod_nonneg_of_pos _ h0, Int.fmod_lt_of_pos _ h0, ?_⟩
      simp [bagD, atI, ixN, c, md, dv]
    · refine ⟨(((((mix * 48271 + c2 * 69621 + 11).fmod 2147483647) * ((mix * 48271 + c2 * 69621 + 11).fmod 2147483647) + (cnt + 1) * 40692).fmod 2147483563).fdiv 8).fmod size, bagD cells at2 big2 (cnt + 1) ((mix * 48271 + c2 * 69621 + 11).fmod 2147483647),
        [.dat (.int size), .dat (.int c2), .un, .dat (.int ((((mix * 48271 + c2 * 69621 + 11).fmod 2147483647) * ((mix * 48271 + c2 * 69621 + 11).fmod 2147483647) + (cnt + 1) * 40692).fmod 2147483563))], ⟨cells, at2, _, _, _, rfl, hl, ha2, hb2⟩, Int.fmod_nonneg_of_pos _ h0, Int.fmod_lt_of_pos _ h0, ?_⟩
      simp [bagD, atI, ixN, c, md, dv, md1, md2, dv8, mm, m2, m3, m4]
  have e1 : (fSetIx 0 (fC (.int 3)) (fBin gAdd (fIxV 0 (fC (.int 3))) (fC (.int 1)))) [.io (.lst (bagD cells at_ big cnt mix)), .dat (.int size), .un, .un, .un] = some (.nx, [.io (.lst (bagD cells at_ big (cnt + 1) mix)), .dat (.int size), .un, .un, .un]) := by simp [bagD, atI, ixN]
  have e2 : (fSet 2 (fBin gMul (fIxV 0 (fC (.int 3))) (fC (.int 7919)))) [.io (.lst (bagD cells at_ big (cnt + 1) mix)), .dat (.int size), .un, .un, .un] = some (.nx, [.io (.lst (bagD cells at_ big (cnt + 1) mix)), .dat (.int size), .dat (.int ((cnt + 1) * 7919)), .un, .un]) := by simp [bagD, atI, ixN, m1]
  have e3 : ∃ at2 big2 c2, at2 ≤ cells.length ∧ 0 ≤ big2 ∧ (fIfS (fAnd (fTB (fBin gEq (fIxV 0 (fC (.int 2))) (fC (.int 0)))) (fTB (fBin gLt (fIxV 0 (fC (.int 1))) (fN gLen (fCons (fIxV 0 (fC (.int 0))) fNil))))) (fSeq (fSet 2 (fBin gIx (fIxV 0 (fC (.int 0))) (fIxV 0 (fC (.int 1)))))
 (fSeq (fSetIx 0 (fC (.int 1)) (fBin gAdd (fIxV 0 (fC (.int 1))) (fC (.int 1))))
 (fIfS (fTB (fBin gGe (fVar 2) (fBin gPow (fC (.int 10)) (fC (.int 18))))) (fSetIx 0 (fC (.int 2)) (fVar 2))
 fSkip)))
 fSkip) [.io (.lst (bagD cells at_ big (cnt + 1) mix)), .dat (.int size), .dat (.int ((cnt + 1) * 7919)), .un, .un] = some (.nx, [.io (.lst (bagD cells at2 big2 (cnt + 1) mix)), .dat (.int size), .dat (.int c2), .un, .un]) := by
    by_cases c1 : big = 0
    · subst c1
      by_cases c2 : at_ < cells.length
      · have hat : (List.map D.int cells)[at_]? = some (.int (cells.getD at_ 0)) := by simp [c2]
        have hp : (10 : Int) ^ 18 = 1000000000000000000 := by decide
        by_cases c3 : (1000000000000000000 : Int) ≤ cells.getD at_ 0
        · refine ⟨at_ + 1, cells.getD at_ 0, cells.getD at_ 0, by omega, by omega, ?_⟩
          have c3' : (1000000000000000000 : Int) ≤ cells[at_] := by simpa [c2] using c3
          simp [bagD, atI, ixN, c2, c3', pw, hp]
          try (intro h; omega)
        · refine ⟨at_ + 1, 0, cells.getD at_ 0, by omega, by omega, ?_⟩
          have c3' : ¬ (1000000000000000000 : Int) ≤ cells[at_] := by simpa [c2] using c3
          simp [bagD, atI, ixN, c2, c3', pw, hp]
          try (intro h; omega)
      · refine ⟨at_, 0, (cnt + 1) * 7919, ha, by omega, ?_⟩
        have c2' : cells.length ≤ at_ := by omega
        simp [bagD, atI, ixN, c2, c2']
    · refine ⟨at_, big, (cnt + 1) * 7919, ha, hbig, ?_⟩
      simp [bagD, atI, ixN, c1]
  obtain ⟨at2, big2, c2, h2, h3, e3⟩ := e3
  obtain ⟨d, b', ρ', hb', d0, d1, e4⟩ := tail_ fSkip fSkip fSkip fSkip fSkip at2 big2 c2 h2 h3
  refine ⟨d, b', hb', d0, d1, ?_⟩
  refine Rt.io (ds := [.int size]) (n := 5) (ρ' := ρ') ?_
  show F__law_draw [.io (.lst (bagD cells at_ big cnt mix)), .dat (.int size), .un, .un, .un] = _
  unfold F__law_draw
  rw [fSeq_ap, e1]
  simp only [Option.bind_some]
  rw [fSeq_ap, e2]
  simp only [Option.bind_some]
  rw [fSeq_ap, e3]
  simp only [Option.bind_some]
  exact e4
end W20
end

section
set_option Elab.async false
set_option linter.all false
set_option maxRecDepth 100000
namespace W20
open L2 DL
/-- a call that changes the thing in slot i -/
theorem call_r {n i : Nat} {g : FG} {ds : List D} {fr : FR} {ρ ρ1 : Ev} {t : Slot} {u u' : Own} {d : D} (ht : ρ1[i]? = some t) (hu : t.mu = some u) (hf : fr ρ = some (.r i :: ds.map Ar.d, ρ1)) (hn : ds.length + 1 = n)
    (hg : g (.io u :: ds.map Slot.dat) = some (d, .io u' :: ds.map Slot.dat)) : fCall n g fr ρ = some (d, ρ1.set i (t.put u')) := by
  have h1 : ∀ ds : List D, refsOf (ds.map Ar.d) = [] := fun ds => by
    induction ds with
    | nil => rfl
    | cons d ds ih => simpa [refsOf] using ih
  have h2 : ∀ ds : List D, argS ρ1 (ds.map Ar.d) = some (ds.map Slot.dat) := fun ds => by
    induction ds with
    | nil => rfl
    | cons d ds ih => simp [argS, ih]
  have h3 : ∀ (ds : List D) (ss : List Slot) (ρ : Ev), ss.length = ds.length → putB ρ (ds.map Ar.d) ss = ρ := fun ds => by
    induction ds with
    | nil => intro ss ρ h; cases ss <;> simp [putB]
    | cons d ds ih =>
      intro ss ρ h
      cases ss with
      | nil => simp at h
      | cons s ss => simp [putB]; exact ih ss ρ (by simpa using h)
  rw [fCall_ap, hf]
  have a1 : argS ρ1 (.r i :: ds.map Ar.d) = some (.io u :: ds.map Slot.dat) := by simp [argS, ht, hu, h2]
  have a2 : refsOf (.r i :: ds.map Ar.d) = [i] := by simp [refsOf, h1]
  simp only [Option.bind_some, a1, a2, List.length_cons, List.length_map, hn, hg]
  rw [if_pos ⟨by simp [nodupB], trivial⟩]
  simp only [putB, ht, mu_io]
  rw [h3 _ _ _ (by simp)]
def Row (w : Nat) (ns : List Int) : Prop := ns.length = w ∧ ∀ x, x ∈ ns → -1000 ≤ x ∧ x ≤ 1000
theorem ev_row {b : List D} {w : Nat} {most : Int} (hb : BagOk b) (hw : w < 100) (h1 : 1 ≤ most) (h2 : most ≤ 1000) :
    ∃ ns b', BagOk b' ∧ Row w ns ∧ g__law_row [.io (.lst b), .dat (.int (w : Nat)), .dat (.int most)] = some (tupI ns, [.io (.lst b'), .dat (.int (w : Nat)), .dat (.int most)]) := by
  have mo : mulOk 2 most = true := mulOk_l (by decide) (by decide)
  have loop : ∀ (l : List D) (b : List D), BagOk b → ∃ ns b', BagOk b' ∧ Row l.length ns ∧ compGo (fPut0 3) fYes (fBin gMinus (fCall 2 g__law_draw (frR 0 (frD (fBin gAdd (fBin gMul (fC (.int 2)) (fVar 2)) (fC (.int 1))) frNil))) (fVar 2)) [3] l [.io (.lst b), .dat (.int (w : Nat)), .dat (.int most), .un]
      = some (ns.map D.int, [.io (.lst b'), .dat (.int (w : Nat)), .dat (.int most), .un]) := fun l => by
    induction l with
    | nil => intro b hb; exact ⟨[], b, hb, ⟨rfl, fun x hx => by simp at hx⟩, rfl⟩
    | cons x l ih =>
      intro b hb
      obtain ⟨d, b1, hb1, d0, d1, e⟩ := ev_draw (b := b) (size := 2 * most + 1) hb (by omega) (by omega)
      obtain ⟨ns, b2, hb2, ⟨hl, hn⟩, e2⟩ := ih b1 hb1
      refine ⟨(d - most) :: ns, b2, hb2, ⟨by simp [hl], fun y hy => ?_⟩, ?_⟩
      · rcases List.mem_cons.mp hy with rfl | hy
        · omega
        · exact hn y hy
      · have ec : fCall 2 g__law_draw (frR 0 (frD (fBin gAdd (fBin gMul (fC (.int 2)) (fVar 2)) (fC (.int 1))) frNil)) [.io (.lst b), .dat (.int (w : Nat)), .dat (.int most), .dat x] = some (.int d, [.io (.lst b1), .dat (.int (w : Nat)), .dat (.int most), .dat x]) :=
          call_r (i := 0) (ρ1 := [.io (.lst b), .dat (.int (w : Nat)), .dat (.int most), .dat x]) (t := .io (.lst b)) (u := .lst b) (u' := .lst b1) (ds := [.int (2 * most + 1)]) rfl rfl (by simp [mo]) rfl e
        have e3 : fPut0 3 x [.io (.lst b), .dat (.int (w : Nat)), .dat (.int most), .un] = some [.io (.lst b), .dat (.int (w : Nat)), .dat (.int most), .dat x] := rfl
        have e4 : (fBin gMinus (fCall 2 g__law_draw (frR 0 (frD (fBin gAdd (fBin gMul (fC (.int 2)) (fVar 2)) (fC (.int 1))) frNil))) (fVar 2)) [.io (.lst b), .dat (.int (w : Nat)), .dat (.int most), .dat x] = some (.int (d - most), [.io (.lst b1), .dat (.int (w : Nat)), .dat (.int most), .dat x]) := by
          rw [fBin_ap, ec]; rfl
        have e5 : wipOk [3] [.io (.lst b1), .dat (.int (w : Nat)), .dat (.int most), .dat x] = true := rfl
        have e6 : wipeE [3] [.io (.lst b1), .dat (.int (w : Nat)), .dat (.int most), .dat x] = [.io (.lst b1), .dat (.int (w : Nat)), .dat (.int most), .un] := rfl
        simp only [compGo, e3, fYes_ap, Option.bind_some, if_true, e4, e5, e6, e2, List.map_cons]
  obtain ⟨ns, b', hb', hr, e⟩ := loop (intsFrom 0 w) b hb
  rw [show (intsFrom 0 w).length = w by simp [intsFrom]] at hr
  refine ⟨ns, b', hb', hr, ?_⟩
  refine Rt.io (ds := [.int (w : Nat), .int most]) (n := 4) (ρ' := [.dat (.int (w : Nat)), .dat (.int most), .un]) ?_
  show F__law_row [.io (.lst b), .dat (.int (w : Nat)), .dat (.int most), .un] = _
  unfold F__law_row
  have hi : iRange1 (fCons (fVar 1) fNil) [.io (.lst b), .dat (.int (w : Nat)), .dat (.int most), .un] = some (intsFrom 0 w, [.io (.lst b), .dat (.int (w : Nat)), .dat (.int most), .un]) := by
    simp; omega
  have hc : fComp (iRange1 (fCons (fVar 1) fNil)) (fPut0 3) fYes (fBin gMinus (fCall 2 g__law_draw (frR 0 (frD (fBin gAdd (fBin gMul (fC (.int 2)) (fVar 2)) (fC (.int 1))) frNil))) (fVar 2)) [3] [.io (.lst b), .dat (.int (w : Nat)), .dat (.int most), .un]
      = some (.lst (ns.map D.int), [.io (.lst b'), .dat (.int (w : Nat)), .dat (.int most), .un]) := by
    rw [fComp_ap, hi]
    have e5 : wipOk [3] [.io (.lst b), .dat (.int (w : Nat)), .dat (.int most), .un] = true := rfl
    have e6 : wipeE [3] [.io (.lst b), .dat (.int (w : Nat)), .dat (.int most), .un] = [.io (.lst b), .dat (.int (w : Nat)), .dat (.int most), .un] := rfl
    have e7 : lenOk (intsFrom 0 w).length = true := lenOk_of (by simp [intsFrom]; omega)
    simp only [Option.bind_some, e5, e6, e7, and_self, if_true, e]
    rfl
  rw [fRet_ap, fN_ap, fCons_ap, fGive_ap, hc]
  simp
/-- max([0] + [abs(x) ..]) -/
theorem max_abs {ns : List Int} : ∃ M : Int, gMax [.lst (.int 0 :: ns.map fun x => D.int (if x < 0 then -x else x))] = some (.int M) ∧ 0 ≤ M ∧ ∀ x, x ∈ ns → -M ≤ x ∧ x ≤ M := by
  refine ⟨maxI (0 :: ns.map fun x => if x < 0 then -x else x), ?_, ?_, fun x hx => ?_⟩
  · have : (D.int 0 :: ns.map fun x => D.int (if x < 0 then -x else x)) = (0 :: ns.map fun x => if x < 0 then -x else x).map D.int := by simp [List.map_map, Function.comp_def]
    show (dInts (D.int 0 :: ns.map fun x => D.int (if x < 0 then -x else x))).map _ = _
    rw [this, dInts_map]; rfl
  · exact (maxI_mem (by simp)).2 0 (by simp)
  · have := (maxI_mem (l := 0 :: ns.map fun x => if x < 0 then -x else x) (by simp)).2 (if x < 0 then -x else x) (by
      refine List.mem_cons_of_mem _ (List.mem_map.mpr ⟨x, hx, rfl⟩))
    split at this <;> omega
end W20
end

section
set_option Elab.async false
set_option linter.all false
set_option maxRecDepth 100000
namespace W20
open L2 DL
theorem six {d : Int} (h0 : 0 ≤ d) (h1 : d < 6) : ∃ f : Int, gIx (.lst [.int (-1), .int 1, .int (-2), .int 2, .int (-3), .int 3]) (.int d) = some (.int f) ∧ f ≠ 0 ∧ -3 ≤ f ∧ f ≤ 3 := by
  have : d = 0 ∨ d = 1 ∨ d = 2 ∨ d = 3 ∨ d = 4 ∨ d = 5 := by omega
  rcases this with rfl | rfl | rfl | rfl | rfl | rfl
  · exact ⟨-1, rfl, by omega, by omega, by omega⟩
  · exact ⟨1, rfl, by omega, by omega, by omega⟩
  · exact ⟨-2, rfl, by omega, by omega, by omega⟩
  · exact ⟨2, rfl, by omega, by omega, by omega⟩
  · exact ⟨-3, rfl, by omega, by omega, by omega⟩
  · exact ⟨3, rfl, by omega, by omega, by omega⟩
theorem ev_many {b : List D} {w : Nat} {ns : List Int} (hb : BagOk b) (hw : w < 100) (hr : Row w ns) :
    ∃ ns' b', BagOk b' ∧ Row w ns' ∧ g__law_many [.io (.lst b), .dat (tupI ns)] = some (tupI ns', [.io (.lst b'), .dat (tupI ns)]) := by
  obtain ⟨hl, hn⟩ := hr
  have hz : lenOk ns.length = true := lenOk_of (by omega)
  obtain ⟨d, b1, hb1, d0, d1, e⟩ := ev_draw (b := b) (size := 6) hb (by omega) (by omega)
  obtain ⟨f, ef, f0, f1, f2⟩ := six d0 d1
  obtain ⟨M, eM, M0, hM⟩ := max_abs (ns := ns)
  -- the factor in the end
  have step1 : (fSet 2 (fBin gIx (fGive (fLst (fCons (fUn gNeg (fC (.int 1))) (fCons (fC (.int 1)) (fCons (fUn gNeg (fC (.int 2))) (fCons (fC (.int 2)) (fCons (fUn gNeg (fC (.int 3))) (fCons (fC (.int 3)) fNil)))))))) (fCall 2 g__law_draw (frR 0 (frD (fC (.int 6)) frNil))))) [.io (.lst b), .dat (tupI ns), .un, .un]
      = some (.nx, [.io (.lst b1), .dat (tupI ns), .dat (.int f), .un]) := by
    have ec : fCall 2 g__law_draw (frR 0 (frD (fC (.int 6)) frNil)) [.io (.lst b), .dat (tupI ns), .un, .un] = some (.int d, [.io (.lst b1), .dat (tupI ns), .un, .un]) :=
      call_r (i := 0) (ρ1 := [.io (.lst b), .dat (tupI ns), .un, .un]) (t := .io (.lst b)) (u := .lst b) (u' := .lst b1) (ds := [.int 6]) rfl rfl rfl rfl e
    refine nx_set (d0 := .int f) (ρ1 := [.io (.lst b1), .dat (tupI ns), .un, .un]) ?_ rfl
    have e1 : fGive (fLst (fCons (fUn gNeg (fC (.int 1))) (fCons (fC (.int 1)) (fCons (fUn gNeg (fC (.int 2))) (fCons (fC (.int 2)) (fCons (fUn gNeg (fC (.int 3))) (fCons (fC (.int 3)) fNil))))))) [.io (.lst b), .dat (tupI ns), .un, .un] = some (.lst [.int (-1), .int 1, .int (-2), .int 2, .int (-3), .int 3], [.io (.lst b), .dat (tupI ns), .un, .un]) := rfl
    rw [fBin_ap, e1]
    simp only [Option.bind_some, ec, ef]
  have hcA := fComp_map (enc := D.int) (fv := fun x => D.int (if x < 0 then -x else x)) (fi := iOf (fVar 1)) (T := fPut0 3) (fe := fN gAbs (fCons (fVar 3) fNil)) (vs := [3]) (ρ := [.io (.lst b1), .dat (tupI ns), .dat (.int f), .un]) (ρ0 := [.io (.lst b1), .dat (tupI ns), .dat (.int f), .un]) ns (by simp) hz rfl (fun a ha =>
    ⟨[.io (.lst b1), .dat (tupI ns), .dat (.int f), .dat (.int a)], by simp [wipeE], [.io (.lst b1), .dat (tupI ns), .dat (.int f), .dat (.int a)], by simp, rfl, rfl⟩)
  have tst : (fTB (fBin gGt (fBin gMul (fN gMax (fCons (fGive (fCatN (fLst (fCons (fC (.int 0)) fNil)) (fComp (iOf (fVar 1)) (fPut0 3) fYes (fN gAbs (fCons (fVar 3) fNil)) [3]))) fNil)) (fN gAbs (fCons (fVar 2) fNil))) (fC (.int 1000)))) [.io (.lst b1), .dat (tupI ns), .dat (.int f), .un]
      = some (decide (1000 < M * (if f < 0 then -f else f)), [.io (.lst b1), .dat (tupI ns), .dat (.int f), .un]) := by
    have l1 : lenOk 1 = true := rfl
    have l2 : lenOk (1 + ns.length) = true := lenOk_of (by omega)
    have e1 : fGive (fCatN (fLst (fCons (fC (.int 0)) fNil)) (fComp (iOf (fVar 1)) (fPut0 3) fYes (fN gAbs (fCons (fVar 3) fNil)) [3])) [.io (.lst b1), .dat (tupI ns), .dat (.int f), .un] = some (.lst (.int 0 :: ns.map fun x => D.int (if x < 0 then -x else x)), [.io (.lst b1), .dat (tupI ns), .dat (.int f), .un]) := by
      have e0 : fLst (fCons (fC (.int 0)) fNil) [.io (.lst b1), .dat (tupI ns), .dat (.int f), .un] = some (.lst [.int 0], [.io (.lst b1), .dat (tupI ns), .dat (.int f), .un]) := rfl
      rw [fGive_ap, fCatN_ap, e0]
      simp only [Option.bind_some, hcA]
      simp [l2]
    have mo : mulOk M (if f < 0 then -f else f) = true := mulOk_r (by split <;> omega) (by split <;> omega)
    have e2 : fBin gMul (fN gMax (fCons (fGive (fCatN (fLst (fCons (fC (.int 0)) fNil)) (fComp (iOf (fVar 1)) (fPut0 3) fYes (fN gAbs (fCons (fVar 3) fNil)) [3]))) fNil)) (fN gAbs (fCons (fVar 2) fNil)) [.io (.lst b1), .dat (tupI ns), .dat (.int f), .un] = some (.int (M * (if f < 0 then -f else f)), [.io (.lst b1), .dat (tupI ns), .dat (.int f), .un]) := by
      rw [fBin_ap, fN_ap, fCons_ap, e1]
      simp only [Option.bind_some, fNil_ap, eM, fN_ap, fCons_ap, fVar_ap, List.getElem?_cons_succ, List.getElem?_cons_zero, gAbs_i, gMul_i, mo, if_true]
    rw [fTB_ap, fBin_ap, e2]
    rfl
  have step2 : ∃ f' : Int, (∀ x, x ∈ ns → -1000 ≤ f' * x ∧ f' * x ≤ 1000) ∧ -3 ≤ f' ∧ f' ≤ 3 ∧ (fIfS (fTB (fBin gGt (fBin gMul (fN gMax (fCons (fGive (fCatN (fLst (fCons (fC (.int 0)) fNil)) (fComp (iOf (fVar 1)) (fPut0 3) fYes (fN gAbs (fCons (fVar 3) fNil)) [3]))) fNil)) (fN gAbs (fCons (fVar 2) fNil))) (fC (.int 1000)))) (fSet 2 (fBin gDiv (fVar 2) (fN gAbs (fCons (fVar 2) fNil))))
 fSkip) [.io (.lst b1), .dat (tupI ns), .dat (.int f), .un] = some (.nx, [.io (.lst b1), .dat (tupI ns), .dat (.int f'), .un]) := by
    have fs : f = 1 ∨ f = 2 ∨ f = 3 ∨ f = -1 ∨ f = -2 ∨ f = -3 := by omega
    by_cases c : 1000 < M * (if f < 0 then -f else f)
    · refine ⟨if f < 0 then -1 else 1, fun x hx => ?_, by split <;> omega, by split <;> omega, ?_⟩
      · have := hn x hx
        split <;> omega
      · rw [fIfS_ap, tst]
        simp only [Option.bind_some, decide_eq_true c, if_true]
        have dv : divOk f (if f < 0 then -f else f) = true := by
          rcases fs with rfl | rfl | rfl | rfl | rfl | rfl <;> rfl
        have e2 : f.fdiv (if f < 0 then -f else f) = if f < 0 then -1 else 1 := by
          rcases fs with rfl | rfl | rfl | rfl | rfl | rfl <;> rfl
        refine nx_set (d0 := .int (if f < 0 then -1 else 1)) (ρ1 := [.io (.lst b1), .dat (tupI ns), .dat (.int f), .un]) ?_ rfl
        rw [fBin_ap]
        simp only [fN_ap, fCons_ap, fNil_ap, fVar_ap, List.getElem?_cons_succ, List.getElem?_cons_zero, Option.bind_some, gAbs_i, gDiv_i, dv, if_true, e2]
    · refine ⟨f, fun x hx => ?_, f1, f2, ?_⟩
      · have := hM x hx
        have c' : M * (if f < 0 then -f else f) ≤ 1000 := by omega
        rcases fs with rfl | rfl | rfl | rfl | rfl | rfl <;> simp at c' <;> omega
      · rw [fIfS_ap, tst]
        simp only [Option.bind_some, decide_eq_false c]
        rfl
  obtain ⟨f', hf', g1, g2, step2⟩ := step2
  refine ⟨ns.map fun x => f' * x, b1, hb1, ⟨by simp [hl], fun y hy => ?_⟩, ?_⟩
  · obtain ⟨x, hx, rfl⟩ := List.mem_map.mp hy
    exact hf' x hx
  · refine Rt.io (ds := [tupI ns]) (n := 4) (ρ' := [.dat (tupI ns), .dat (.int f'), .un]) ?_
    show F__law_many [.io (.lst b), .dat (tupI ns), .un, .un] = _
    unfold F__law_many
    rw [fSeq_ap, step1]
    simp only [Option.bind_some]
    rw [fSeq_ap, step2]
    simp only [Option.bind_some]
    have hcB := fComp_map (enc := D.int) (fv := fun x => D.int (f' * x)) (fi := iOf (fVar 1)) (T := fPut0 3) (fe := fBin gMul (fVar 2) (fVar 3)) (vs := [3]) (ρ := [.io (.lst b1), .dat (tupI ns), .dat (.int f'), .un]) (ρ0 := [.io (.lst b1), .dat (tupI ns), .dat (.int f'), .un]) ns (by simp) hz rfl (fun a ha => by
      have mo : mulOk f' a = true := mulOk_l (by omega) (by omega)
      exact ⟨[.io (.lst b1), .dat (tupI ns), .dat (.int f'), .dat (.int a)], by simp [wipeE], [.io (.lst b1), .dat (tupI ns), .dat (.int f'), .dat (.int a)], by simp [mo], rfl, rfl⟩)
    rw [fRet_ap, fN_ap, fCons_ap, fGive_ap, hcB]
    simp [List.map_map, Function.comp_def]
end W20
end

section
set_option Elab.async false
set_option linter.all false
set_option maxRecDepth 100000
namespace W20
open L2 DL
theorem rows_at {R : List (List Int)} {d : Int} (h0 : 0 ≤ d) (h1 : d < R.length) : ∃ r, r ∈ R ∧ atI (R.map tupI) d = some (tupI r) := by
  obtain ⟨j, rfl⟩ : ∃ j : Nat, d = j := ⟨d.toNat, by omega⟩
  have hj : j < R.length := by omega
  refine ⟨R[j], List.getElem_mem hj, ?_⟩
  unfold atI
  rw [List.length_map, ixN_nat hj]
  simp [hj]
abbrev SR (b : List D) (w many : Nat) (most : Int) (R : List (List Int)) (s5 s6 : Slot) : Ev := [.io (.lst b), .dat (.int (w : Nat)), .dat (.int (many : Nat)), .dat (.int most), .own (.lst (R.map tupI)), s5, s6]
section
variable {b : List D} {w many : Nat} {most : Int} {R : List (List Int)}
theorem sr_app {fe : FE} {b1 b2 : List D} {r : List Int} {s5 s6 : Slot} (h : fe (SR b1 w many most R s5 s6) = some (tupI r, SR b2 w many most R s5 s6)) (hl : R.length < 100) : Nx (fApp 4 fe) (SR b1 w many most R s5 s6) (SR b2 w many most (R ++ [r]) s5 s6) := by
  refine nx_app (t0 := .own (.lst (R.map tupI))) (t := .own (.lst (R.map tupI))) (l0 := R.map tupI) (ds := R.map tupI) (by simp) rfl h (by simp) rfl (lenOk_of (by simp; omega)) ?_
  simp
theorem sr_row {fm : FE} {m : Int} {s5 s6 : Slot} (hb : BagOk b) (hw : w < 100) (m1 : 1 ≤ m) (m2 : m ≤ 1000) (hR : R.length < 100) (hm : ∀ b, fm (SR b w many most R s5 s6) = some (.int m, SR b w many most R s5 s6)) :
    ∃ r b2, Row w r ∧ BagOk b2 ∧ Nx (fApp 4 (fCall 3 g__law_row (frR 0 (frD (fVar 1) (frD fm frNil))))) (SR b w many most R s5 s6) (SR b2 w many most (R ++ [r]) s5 s6) := by
  obtain ⟨r, b2, hb2, hr, er⟩ := ev_row (b := b) (w := w) hb hw m1 m2
  refine ⟨r, b2, hr, hb2, sr_app ?_ hR⟩
  refine call_r (i := 0) (ρ1 := SR b w many most R s5 s6) (t := .io (.lst b)) (u := .lst b) (u' := .lst b2) (ds := [.int (w : Nat), .int m]) rfl rfl ?_ rfl er
  rw [frR_ap]
  simp [hm b]
theorem sr_many {s5 : Slot} (hb : BagOk b) (hw : w < 100) (hR : R.length < 100) (hne : R ≠ []) (hr : ∀ r, r ∈ R → Row w r) :
    ∃ r b2, Row w r ∧ BagOk b2 ∧ Nx (fApp 4 (fCall 2 g__law_many (frR 0 (frD (fIxV 4 (fCall 2 g__law_draw (frR 0 (frD (fLenV 4) frNil)))) frNil)))) (SR b w many most R s5 (.dat (.int 0))) (SR b2 w many most (R ++ [r]) s5 (.dat (.int 0))) := by
  have hRp : 0 < R.length := List.length_pos_iff.mpr hne
  obtain ⟨t, b2, hb2, t0, t1, e2⟩ := ev_draw (b := b) (size := (R.length : Nat)) hb (by omega) (by omega)
  obtain ⟨r, hr', ea⟩ := rows_at (R := R) t0 t1
  obtain ⟨r2, b3, hb3, hr2, e3⟩ := ev_many (b := b2) (w := w) hb2 hw (hr r hr')
  refine ⟨r2, b3, hr2, hb3, sr_app ?_ hR⟩
  have ec : fCall 2 g__law_draw (frR 0 (frD (fLenV 4) frNil)) (SR b w many most R s5 (.dat (.int 0))) = some (.int t, SR b2 w many most R s5 (.dat (.int 0))) :=
    call_r (i := 0) (ρ1 := SR b w many most R s5 (.dat (.int 0))) (t := .io (.lst b)) (u := .lst b) (u' := .lst b2) (ds := [.int (R.length : Nat)]) rfl rfl (by simp) rfl e2
  refine call_r (i := 0) (ρ1 := SR b2 w many most R s5 (.dat (.int 0))) (t := .io (.lst b2)) (u := .lst b2) (u' := .lst b3) (ds := [tupI r]) rfl rfl ?_ rfl e3
  rw [frR_ap]
  simp only [List.getElem?_cons_zero, frD_ap]
  rw [fIxV_ap]
  simp only [List.getElem?_cons_succ, List.getElem?_cons_zero, ec, Option.bind_some, mu_own, ea, frNil_ap]
  rfl
theorem sr_turn {j : Int} {s5 s6 : Slot} (hb : BagOk b) (hw : w < 100) (hR : R.length < 100) (hr : ∀ r, r ∈ R → Row w r) (h1 : 1 ≤ most) (h2 : most ≤ 1000) (i6 : IsD s6) :
    ∃ r b2 d, Row w r ∧ BagOk b2 ∧ Nx (fSeq (fSet 6 (fCall 2 g__law_draw (frR 0 (frD (fC (.int 5)) frNil))))
 (fIfS (fAnd (fTB (fBin gEq (fVar 6) (fC (.int 0)))) (fTruV 4)) (fApp 4 (fCall 2 g__law_many (frR 0 (frD (fIxV 4 (fCall 2 g__law_draw (frR 0 (frD (fLenV 4) frNil)))) frNil))))
 (fIfS (fTB (fBin gEq (fVar 6) (fC (.int 1)))) (fApp 4 (fCall 3 g__law_row (frR 0 (frD (fVar 1) (frD (fC (.int 1)) frNil)))))
 (fApp 4 (fCall 3 g__law_row (frR 0 (frD (fVar 1) (frD (fVar 3) frNil)))))))) (SR b w many most R s5 s6) (SR b2 w many most (R ++ [r]) s5 (.dat (.int d))) := by
  obtain ⟨d, b1, hb1, d0, d1, e1⟩ := ev_draw (b := b) (size := 5) hb (by omega) (by omega)
  have ed : Nx (fSet 6 (fCall 2 g__law_draw (frR 0 (frD (fC (.int 5)) frNil)))) (SR b w many most R s5 s6) (SR b1 w many most R s5 (.dat (.int d))) := by
    refine nx_set (d0 := .int d) (ρ1 := SR b1 w many most R s5 s6) ?_ (by rcases i6 with rfl | ⟨_, rfl⟩ <;> simp)
    exact call_r (i := 0) (ρ1 := SR b w many most R s5 s6) (t := .io (.lst b)) (u := .lst b) (u' := .lst b1) (ds := [.int 5]) rfl rfl rfl rfl e1
  by_cases c0 : d = 0 ∧ R ≠ []
  · obtain ⟨rfl, hne⟩ := c0
    obtain ⟨r, b2, hr2, hb2, e⟩ := sr_many (b := b1) (w := w) (many := many) (most := most) (s5 := s5) hb1 hw hR hne hr
    exact ⟨r, b2, 0, hr2, hb2, nx_seq ed (nx_if (b := true) (ρ1 := SR b1 w many most R s5 (.dat (.int 0))) (by simp [hne]) (fun _ => e) fun h => by cases h)⟩
  · have ht : fAnd (fTB (fBin gEq (fVar 6) (fC (.int 0)))) (fTruV 4) (SR b1 w many most R s5 (.dat (.int d))) = some (false, SR b1 w many most R s5 (.dat (.int d))) := by
      by_cases c1 : d = 0
      · subst c1
        have : R = [] := by
          by_cases q : R = []
          · exact q
          · exact absurd ⟨rfl, q⟩ c0
        subst this; simp
      · simp [c1]
    by_cases c1 : d = 1
    · subst c1
      obtain ⟨r, b2, hr2, hb2, e⟩ := sr_row (b := b1) (w := w) (many := many) (most := most) (R := R) (s5 := s5) (s6 := .dat (.int 1)) (fm := fC (.int 1)) hb1 hw (by omega) (by omega) hR (fun _ => rfl)
      exact ⟨r, b2, 1, hr2, hb2, nx_seq ed (nx_if (b := false) ht (fun h => by cases h) fun _ => nx_if (b := true) (ρ1 := SR b1 w many most R s5 (.dat (.int 1))) (by simp) (fun _ => e) fun h => by cases h)⟩
    · obtain ⟨r, b2, hr2, hb2, e⟩ := sr_row (b := b1) (w := w) (many := many) (most := most) (R := R) (s5 := s5) (s6 := .dat (.int d)) (fm := fVar 3) hb1 hw h1 h2 hR (fun _ => rfl)
      exact ⟨r, b2, d, hr2, hb2, nx_seq ed (nx_if (b := false) ht (fun h => by cases h) fun _ => nx_if (b := false) (ρ1 := SR b1 w many most R s5 (.dat (.int d))) (by simp [c1]) (fun h => by cases h) fun _ => e)⟩
end
theorem ev_rows {b : List D} {w many : Nat} {most : Int} (hb : BagOk b) (hw : w < 100) (hm : many < 100) (h1 : 1 ≤ most) (h2 : most ≤ 1000) :
    ∃ (R : List (List Int)) (b' : List D), BagOk b' ∧ R.length = many ∧ (∀ r, r ∈ R → Row w r) ∧ g__law_rows [.io (.lst b), .dat (.int (w : Nat)), .dat (.int (many : Nat)), .dat (.int most)] = some (.tup (R.map tupI), [.io (.lst b'), .dat (.int (w : Nat)), .dat (.int (many : Nat)), .dat (.int most)]) := by
  obtain ⟨ρ', q, b', R, s5, s6, hb', hR, hRr, i5, i6, er⟩ := loopF_pre (enc := fun j : Nat => D.int (0 + (j : Nat))) (T := fPut0 5) (F := (fSeq (fSet 6 (fCall 2 g__law_draw (frR 0 (frD (fC (.int 5)) frNil))))
 (fIfS (fAnd (fTB (fBin gEq (fVar 6) (fC (.int 0)))) (fTruV 4)) (fApp 4 (fCall 2 g__law_many (frR 0 (frD (fIxV 4 (fCall 2 g__law_draw (frR 0 (frD (fLenV 4) frNil)))) frNil))))
 (fIfS (fTB (fBin gEq (fVar 6) (fC (.int 1)))) (fApp 4 (fCall 3 g__law_row (frR 0 (frD (fVar 1) (frD (fC (.int 1)) frNil)))))
 (fApp 4 (fCall 3 g__law_row (frR 0 (frD (fVar 1) (frD (fVar 3) frNil)))))))))
    (I := fun done ρ => ∃ (b : List D) (R : List (List Int)) (s5 s6 : Slot), BagOk b ∧ R.length = done.length ∧ (∀ r, r ∈ R → Row w r) ∧ IsD s5 ∧ IsD s6 ∧ ρ = SR b w many most R s5 s6)
    (List.range many) (List.range many) [] (SR b w many most [] .un .un) rfl ⟨b, [], .un, .un, hb, rfl, fun r hr => by simp at hr, isD_un, isD_un, rfl⟩ (fun done j rest e ρ ⟨b, R, s5, s6, hb, hR, hRr, i5, i6, er⟩ => by
      subst er
      have hRl : R.length < 100 := by
        have := congrArg List.length e
        simp at this; omega
      obtain ⟨r, b2, d, hr2, hb2, e2⟩ := sr_turn (b := b) (w := w) (many := many) (most := most) (R := R) (s5 := .dat (.int (0 + (j : Nat)))) (s6 := s6) (j := 0) hb hw hRl hRr h1 h2 i6
      exact ⟨SR b w many most R (.dat (.int (0 + (j : Nat)))) s6, by rcases i5 with rfl | ⟨_, rfl⟩ <;> simp, _, e2, b2, R ++ [r], .dat (.int (0 + (j : Nat))), .dat (.int d), hb2, by simp [hR], fun x hx => (List.mem_append.mp hx).elim (hRr x) fun h => by simp at h; subst h; exact hr2, isD_dat, isD_dat, rfl⟩)
  subst er
  refine ⟨R, b', hb', by simpa using hR, hRr, ?_⟩
  refine io_body (F := F__law_rows) (n := 7) (ds := [.int (w : Nat), .int (many : Nat), .int most]) (ρ0 := [.io (.lst b), .dat (.int (w : Nat)), .dat (.int (many : Nat)), .dat (.int most), .un, .un, .un]) (ρ' := [.dat (.int (w : Nat)), .dat (.int (many : Nat)), .dat (.int most), .dat (.lst (R.map tupI)), s5, s6]) rfl ?_
  unfold F__law_rows
  refine rtE_seq (ρ1 := SR b w many most [] .un .un) (by unfold Nx; rfl) ?_
  refine rtE_seq (nx_for (ρ1 := SR b w many most [] .un .un) (by simp [intsFrom]; omega) q) ?_
  refine rtE_frz (ρ1 := [.io (.lst b'), .dat (.int (w : Nat)), .dat (.int (many : Nat)), .dat (.int most), .dat (.lst (R.map tupI)), s5, s6]) rfl ?_
  exact rtE_ret (by simp)
end W20
end

section
set_option Elab.async false
set_option linter.all false
set_option maxRecDepth 100000
namespace W20
open L2 DL
abbrev SA (b : List D) (R : List (List Int)) (w : Nat) (most way : Int) (s5 s6 s7 s8 : Slot) : Ev := [.io (.lst b), .dat (.tup (R.map tupI)), .dat (.int (w : Nat)), .dat (.int most), .dat (.int way), s5, s6, s7, s8, .un, .un]
def zeroL (w : Nat) : List Int := (List.range w).map fun _ => 0
theorem zeroL_row {w : Nat} : Row w (zeroL w) := ⟨by simp [zeroL], fun x hx => by
  unfold zeroL at hx
  obtain ⟨_, _, rfl⟩ := List.mem_map.mp hx
  omega⟩
section
variable {b : List D} {w : Nat} {most way : Int} {R : List (List Int)}
theorem sa_zero {s5 s6 s7 s8 : Slot} (hw : w < 100) : fComp (iRange1 (fCons (fVar 2) fNil)) (fPut0 9) fYes (fC (.int 0)) [9] (SA b R w most way s5 s6 s7 s8) = some (.lst ((zeroL w).map D.int), SA b R w most way s5 s6 s7 s8) := by
  have := fComp_map (enc := fun j : Nat => D.int (0 + (j : Nat))) (fv := fun _ : Nat => D.int 0) (fi := iRange1 (fCons (fVar 2) fNil)) (T := fPut0 9) (fe := fC (.int 0)) (vs := [9]) (ρ := SA b R w most way s5 s6 s7 s8) (ρ0 := SA b R w most way s5 s6 s7 s8) (List.range w) (by simp [intsFrom]; omega) (lenOk_of (by simp; omega)) rfl (fun j hj =>
    ⟨[.io (.lst b), .dat (.tup (R.map tupI)), .dat (.int (w : Nat)), .dat (.int most), .dat (.int way), s5, s6, s7, s8, .dat (.int (0 + (j : Nat))), .un], by simp [wipeE], [.io (.lst b), .dat (.tup (R.map tupI)), .dat (.int (w : Nat)), .dat (.int most), .dat (.int way), s5, s6, s7, s8, .dat (.int (0 + (j : Nat))), .un], rfl, rfl, rfl⟩)
  rw [this]
  simp [zeroL, List.map_map, Function.comp_def]
/-- one row more or less -/
theorem sa_turn {A : List Int} {s6 s7 s8 : Slot} (hb : BagOk b) (hw : w < 100) (hA : A.length = w) (hR : R.length < 100) (hr : ∀ r, r ∈ R → Row w r) (i7 : IsD s7) (i8 : IsD s8) :
    ∃ (b2 : List D) (A2 : List Int) (t7 t8 : Slot), BagOk b2 ∧ A2.length = w ∧ IsD t7 ∧ IsD t8 ∧ Nx (fIfS (fAnd (fTB (fBin gGt (fVar 4) (fC (.int 1)))) (fTruV 1)) (fSeq (fSet 7 (fIxV 1 (fCall 2 g__law_draw (frR 0 (frD (fLenV 1) frNil)))))
 (fSeq (fSet 8 (fCall 2 g__law_draw (frR 0 (frD (fC (.int 4)) frNil))))
 (fSet 5 (fGive (fComp (iRange1 (fCons (fVar 2) fNil)) (fPut0 9) fYes (fBin gAdd (fIxV 5 (fVar 9)) (fBin gMul (fVar 8) (fIxV 7 (fVar 9)))) [9])))))
 fSkip) (SA b R w most way (.dat (lstI A)) s6 s7 s8) (SA b2 R w most way (.dat (lstI A2)) s6 t7 t8) := by
  by_cases c : 1 < way ∧ R ≠ []
  · obtain ⟨c1, hne⟩ := c
    have hRp : 0 < R.length := List.length_pos_iff.mpr hne
    obtain ⟨t, b1, hb1, t0, t1, e1⟩ := ev_draw (b := b) (size := (R.length : Nat)) hb (by omega) (by omega)
    obtain ⟨r, hr', ea⟩ := rows_at (R := R) t0 t1
    obtain ⟨hrl, hrb⟩ := hr r hr'
    obtain ⟨u, b2, hb2, u0, u1, e2⟩ := ev_draw (b := b1) (size := 4) hb1 (by omega) (by omega)
    refine ⟨b2, (List.range w).map (fun j => A.getD j 0 + u * r.getD j 0), .dat (tupI r), .dat (.int u), hb2, by simp, isD_dat, isD_dat, ?_⟩
    refine nx_if (b := true) (ρ1 := SA b R w most way (.dat (lstI A)) s6 s7 s8) ?_ (fun _ => ?_) fun h => by cases h
    · have hRe : (R.map tupI).isEmpty = false := by cases R with
        | nil => exact absurd rfl hne
        | cons _ _ => rfl
      simp [c1, hne]
    · have ec : fCall 2 g__law_draw (frR 0 (frD (fLenV 1) frNil)) (SA b R w most way (.dat (lstI A)) s6 s7 s8) = some (.int t, SA b1 R w most way (.dat (lstI A)) s6 s7 s8) :=
        call_r (i := 0) (ρ1 := SA b R w most way (.dat (lstI A)) s6 s7 s8) (t := .io (.lst b)) (u := .lst b) (u' := .lst b1) (ds := [.int (R.length : Nat)]) rfl rfl (by simp) rfl e1
      refine nx_seq (ρ1 := SA b1 R w most way (.dat (lstI A)) s6 (.dat (tupI r)) s8) ?_ (nx_seq (ρ1 := SA b2 R w most way (.dat (lstI A)) s6 (.dat (tupI r)) (.dat (.int u))) ?_ ?_)
      · refine nx_set (d0 := tupI r) (ρ1 := SA b1 R w most way (.dat (lstI A)) s6 s7 s8) ?_ (by rcases i7 with rfl | ⟨_, rfl⟩ <;> simp)
        rw [fIxV_ap]
        simp only [List.getElem?_cons_succ, List.getElem?_cons_zero, ec, Option.bind_some, gIx_t, ea]
      · refine nx_set (d0 := .int u) (ρ1 := SA b2 R w most way (.dat (lstI A)) s6 (.dat (tupI r)) s8) ?_ (by rcases i8 with rfl | ⟨_, rfl⟩ <;> simp)
        exact call_r (i := 0) (ρ1 := SA b1 R w most way (.dat (lstI A)) s6 (.dat (tupI r)) s8) (t := .io (.lst b1)) (u := .lst b1) (u' := .lst b2) (ds := [.int 4]) rfl rfl rfl rfl e2
      · have hc := fComp_map (enc := fun j : Nat => D.int (0 + (j : Nat))) (fv := fun j : Nat => D.int (A.getD j 0 + u * r.getD j 0)) (fi := iRange1 (fCons (fVar 2) fNil)) (T := fPut0 9) (fe := fBin gAdd (fIxV 5 (fVar 9)) (fBin gMul (fVar 8) (fIxV 7 (fVar 9)))) (vs := [9])
          (ρ := SA b2 R w most way (.dat (lstI A)) s6 (.dat (tupI r)) (.dat (.int u))) (ρ0 := SA b2 R w most way (.dat (lstI A)) s6 (.dat (tupI r)) (.dat (.int u))) (List.range w) (by simp [intsFrom]; omega) (lenOk_of (by simp; omega)) rfl (fun j hj => by
            have hj : j < w := by simpa using hj
            have a1 := atI_int (ns := A) (c := j) (by omega)
            have a2 := atI_int (ns := r) (c := j) (by omega)
            have mo : mulOk u (r.getD j 0) = true := mulOk_l (by omega) (by omega)
            have ez : (0 : Int) + (j : Int) = (j : Int) := by omega
            refine ⟨[.io (.lst b2), .dat (.tup (R.map tupI)), .dat (.int (w : Nat)), .dat (.int most), .dat (.int way), .dat (lstI A), s6, .dat (tupI r), .dat (.int u), .dat (.int (0 + (j : Nat))), .un], by simp [wipeE], [.io (.lst b2), .dat (.tup (R.map tupI)), .dat (.int (w : Nat)), .dat (.int most), .dat (.int way), .dat (lstI A), s6, .dat (tupI r), .dat (.int u), .dat (.int (0 + (j : Nat))), .un], ?_, rfl, rfl⟩
            simp only [fBin_ap, fIxV_ap, fVar_ap, List.getElem?_cons_succ, List.getElem?_cons_zero, Option.bind_some, gIx_l, gIx_t, ez, a1, a2, gMul_i, mo, if_true, gAdd_i])
        refine nx_set (d0 := lstI ((List.range w).map (fun j => A.getD j 0 + u * r.getD j 0))) (ρ1 := SA b2 R w most way (.dat (lstI A)) s6 (.dat (tupI r)) (.dat (.int u))) ?_ rfl
        rw [fGive_ap, hc]
        simp [List.map_map, Function.comp_def]
  · refine ⟨b, A, s7, s8, hb, hA, i7, i8, nx_if (b := false) (ρ1 := SA b R w most way (.dat (lstI A)) s6 s7 s8) ?_ (fun h => by cases h) fun _ => rfl⟩
    by_cases c1 : 1 < way
    · have : R = [] := by
        by_cases q : R = []
        · exact q
        · exact absurd ⟨c1, q⟩ c
      subst this; simp [c1]
    · simp [c1]
end
theorem ev_aim {b : List D} {w : Nat} {most : Int} {R : List (List Int)} (hb : BagOk b) (hw : w < 100) (hR : R.length < 100) (hr : ∀ r, r ∈ R → Row w r) (h1 : 1 ≤ most) (h2 : most ≤ 1000) :
    ∃ (A : List Int) (b' : List D), BagOk b' ∧ Row w A ∧ g__law_aim [.io (.lst b), .dat (.tup (R.map tupI)), .dat (.int (w : Nat)), .dat (.int most)] = some (tupI A, [.io (.lst b'), .dat (.tup (R.map tupI)), .dat (.int (w : Nat)), .dat (.int most)]) := by
  obtain ⟨way, b1, hb1, y0, y1, e1⟩ := ev_draw (b := b) (size := 4) hb (by omega) (by omega)
  have ew : Nx (fSet 4 (fCall 2 g__law_draw (frR 0 (frD (fC (.int 4)) frNil)))) [.io (.lst b), .dat (.tup (R.map tupI)), .dat (.int (w : Nat)), .dat (.int most), .un, .un, .un, .un, .un, .un, .un] (SA b1 R w most way .un .un .un .un) := by
    refine nx_set (d0 := .int way) (ρ1 := [.io (.lst b1), .dat (.tup (R.map tupI)), .dat (.int (w : Nat)), .dat (.int most), .un, .un, .un, .un, .un, .un, .un]) ?_ rfl
    exact call_r (i := 0) (ρ1 := [.io (.lst b), .dat (.tup (R.map tupI)), .dat (.int (w : Nat)), .dat (.int most), .un, .un, .un, .un, .un, .un, .un]) (t := .io (.lst b)) (u := .lst b) (u' := .lst b1) (ds := [.int 4]) rfl rfl rfl rfl e1
  have fin : ∀ (A : List Int) (b' : List D) (ρ' : Ev), BagOk b' → Row w A → RtE F__law_aim [.io (.lst b), .dat (.tup (R.map tupI)), .dat (.int (w : Nat)), .dat (.int most), .un, .un, .un, .un, .un, .un, .un] (tupI A) (.io (.lst b') :: ρ') →
      ∃ (A : List Int) (b' : List D), BagOk b' ∧ Row w A ∧ g__law_aim [.io (.lst b), .dat (.tup (R.map tupI)), .dat (.int (w : Nat)), .dat (.int most)] = some (tupI A, [.io (.lst b'), .dat (.tup (R.map tupI)), .dat (.int (w : Nat)), .dat (.int most)]) := fun A b' ρ' hb' hA h =>
    ⟨A, b', hb', hA, io_body (F := F__law_aim) (n := 11) (ds := [.tup (R.map tupI), .int (w : Nat), .int most]) (ρ0 := [.io (.lst b), .dat (.tup (R.map tupI)), .dat (.int (w : Nat)), .dat (.int most), .un, .un, .un, .un, .un, .un, .un]) (ρ' := ρ') rfl h⟩
  by_cases c0 : way = 0
  · subst c0
    refine fin (zeroL w) b1 _ hb1 zeroL_row (rtE_seq ew (rtE_seq1 (rtE_if (b := true) (ρ1 := SA b1 R w most 0 .un .un .un .un) (by simp) (fun _ => rtE_ret (ρ' := SA b1 R w most 0 .un .un .un .un) ?_) fun h => by cases h)))
    rw [fN_ap, fCons_ap, fGive_ap, sa_zero hw]
    simp
  · obtain ⟨ρ', q, b', A, s6, s7, s8, hb', hA, i6, i7, i8, er⟩ := loopF_pre (enc := fun j : Nat => D.int (0 + (j : Nat))) (T := fPut0 6) (F := (fIfS (fAnd (fTB (fBin gGt (fVar 4) (fC (.int 1)))) (fTruV 1)) (fSeq (fSet 7 (fIxV 1 (fCall 2 g__law_draw (frR 0 (frD (fLenV 1) frNil)))))
 (fSeq (fSet 8 (fCall 2 g__law_draw (frR 0 (frD (fC (.int 4)) frNil))))
 (fSet 5 (fGive (fComp (iRange1 (fCons (fVar 2) fNil)) (fPut0 9) fYes (fBin gAdd (fIxV 5 (fVar 9)) (fBin gMul (fVar 8) (fIxV 7 (fVar 9)))) [9])))))
 fSkip)) (I := fun done ρ => ∃ (b : List D) (A : List Int) (s6 s7 s8 : Slot), BagOk b ∧ A.length = w ∧ IsD s6 ∧ IsD s7 ∧ IsD s8 ∧ ρ = SA b R w most way (.dat (lstI A)) s6 s7 s8)
      (List.range 3) (List.range 3) [] (SA b1 R w most way (.dat (lstI (zeroL w))) .un .un .un) rfl ⟨b1, zeroL w, .un, .un, .un, hb1, zeroL_row.1, isD_un, isD_un, isD_un, rfl⟩ (fun done j rest e ρ ⟨b, A, s6, s7, s8, hb, hA, i6, i7, i8, er⟩ => by
        subst er
        obtain ⟨b2, A2, t7, t8, hb2, hA2, j7, j8, e2⟩ := sa_turn (b := b) (w := w) (most := most) (way := way) (R := R) (A := A) (s6 := .dat (.int (0 + (j : Nat)))) (s7 := s7) (s8 := s8) hb hw hA hR hr i7 i8
        exact ⟨SA b R w most way (.dat (lstI A)) (.dat (.int (0 + (j : Nat)))) s7 s8, by rcases i6 with rfl | ⟨_, rfl⟩ <;> simp, _, e2, b2, A2, .dat (.int (0 + (j : Nat))), t7, t8, hb2, hA2, isD_dat, j7, j8, rfl⟩)
    subst er
    have e0 : Nx (fIfS (fTB (fBin gEq (fVar 4) (fC (.int 0)))) (fRet (fN gTuple (fCons (fGive (fComp (iRange1 (fCons (fVar 2) fNil)) (fPut0 9) fYes (fC (.int 0)) [9])) fNil)))
 fSkip) (SA b1 R w most way .un .un .un .un) (SA b1 R w most way .un .un .un .un) := nx_if (b := false) (ρ1 := SA b1 R w most way .un .un .un .un) (by simp [c0]) (fun h => by cases h) fun _ => rfl
    have e2 : Nx (fSet 5 (fGive (fComp (iRange1 (fCons (fVar 2) fNil)) (fPut0 9) fYes (fC (.int 0)) [9]))) (SA b1 R w most way .un .un .un .un) (SA b1 R w most way (.dat (lstI (zeroL w))) .un .un .un) := by
      refine nx_set (d0 := lstI (zeroL w)) (ρ1 := SA b1 R w most way .un .un .un .un) ?_ rfl
      rw [fGive_ap, sa_zero hw]; rfl
    have e3 := nx_for (F := (fIfS (fAnd (fTB (fBin gGt (fVar 4) (fC (.int 1)))) (fTruV 1)) (fSeq (fSet 7 (fIxV 1 (fCall 2 g__law_draw (frR 0 (frD (fLenV 1) frNil)))))
 (fSeq (fSet 8 (fCall 2 g__law_draw (frR 0 (frD (fC (.int 4)) frNil))))
 (fSet 5 (fGive (fComp (iRange1 (fCons (fVar 2) fNil)) (fPut0 9) fYes (fBin gAdd (fIxV 5 (fVar 9)) (fBin gMul (fVar 8) (fIxV 7 (fVar 9)))) [9])))))
 fSkip)) (T := fPut0 6) (fi := iRange1 (fCons (fC (.int 3)) fNil)) (ρ := SA b1 R w most way (.dat (lstI (zeroL w))) .un .un .un) (ρ1 := SA b1 R w most way (.dat (lstI (zeroL w))) .un .un .un) (by simp [intsFrom]) q
    -- the last test
    obtain ⟨M, eM, M0, hM⟩ := max_abs (ns := A)
    have hcA := fComp_map (enc := D.int) (fv := fun x => D.int (if x < 0 then -x else x)) (fi := iOf (fVar 5)) (T := fPut0 10) (fe := fN gAbs (fCons (fVar 10) fNil)) (vs := [10]) (ρ := SA b' R w most way (.dat (lstI A)) s6 s7 s8) (ρ0 := SA b' R w most way (.dat (lstI A)) s6 s7 s8) A (by simp) (lenOk_of (by omega)) rfl (fun a ha =>
      ⟨[.io (.lst b'), .dat (.tup (R.map tupI)), .dat (.int (w : Nat)), .dat (.int most), .dat (.int way), .dat (lstI A), s6, s7, s8, .un, .dat (.int a)], by simp [wipeE], [.io (.lst b'), .dat (.tup (R.map tupI)), .dat (.int (w : Nat)), .dat (.int most), .dat (.int way), .dat (lstI A), s6, s7, s8, .un, .dat (.int a)], by simp, rfl, rfl⟩)
    have tst : ∃ t : Bool, (t = false → M ≤ 1000) ∧ (fOr (fTB (fBin gEq (fVar 4) (fC (.int 1)))) (fOr (fNot (fTruV 1)) (fTB (fBin gGt (fN gMax (fCons (fGive (fCatN (fLst (fCons (fC (.int 0)) fNil)) (fComp (iOf (fVar 5)) (fPut0 10) fYes (fN gAbs (fCons (fVar 10) fNil)) [10]))) fNil)) (fC (.int 1000)))))) (SA b' R w most way (.dat (lstI A)) s6 s7 s8) = some (t, SA b' R w most way (.dat (lstI A)) s6 s7 s8) := by
      have l2 : lenOk (1 + A.length) = true := lenOk_of (by omega)
      have l1 : fLst (fCons (fC (.int 0)) fNil) (SA b' R w most way (.dat (lstI A)) s6 s7 s8) = some (.lst [.int 0], SA b' R w most way (.dat (lstI A)) s6 s7 s8) := rfl
      have g1 : fGive (fCatN (fLst (fCons (fC (.int 0)) fNil)) (fComp (iOf (fVar 5)) (fPut0 10) fYes (fN gAbs (fCons (fVar 10) fNil)) [10])) (SA b' R w most way (.dat (lstI A)) s6 s7 s8) = some (.lst (.int 0 :: A.map fun x => D.int (if x < 0 then -x else x)), SA b' R w most way (.dat (lstI A)) s6 s7 s8) := by
        rw [fGive_ap, fCatN_ap, l1]
        simp only [Option.bind_some, hcA]
        simp [l2]
      have g2 : fTB (fBin gGt (fN gMax (fCons (fGive (fCatN (fLst (fCons (fC (.int 0)) fNil)) (fComp (iOf (fVar 5)) (fPut0 10) fYes (fN gAbs (fCons (fVar 10) fNil)) [10]))) fNil)) (fC (.int 1000))) (SA b' R w most way (.dat (lstI A)) s6 s7 s8) = some (decide (1000 < M), SA b' R w most way (.dat (lstI A)) s6 s7 s8) := by
        rw [fTB_ap, fBin_ap, fN_ap, fCons_ap, g1]
        simp only [Option.bind_some, fNil_ap, eM, fC_ap, gGt_i]
      have g0 : fTB (fBin gEq (fVar 4) (fC (.int 1))) (SA b' R w most way (.dat (lstI A)) s6 s7 s8) = some (decide (way = 1), SA b' R w most way (.dat (lstI A)) s6 s7 s8) := by simp
      have g3 : fNot (fTruV 1) (SA b' R w most way (.dat (lstI A)) s6 s7 s8) = some ((R.map tupI).isEmpty, SA b' R w most way (.dat (lstI A)) s6 s7 s8) := by simp
      by_cases c1 : way = 1
      · refine ⟨true, (fun h => by cases h), ?_⟩
        rw [fOr_ap, g0]
        simp [c1]
      · cases c2 : (R.map tupI).isEmpty with
        | true =>
          refine ⟨true, (fun h => by cases h), ?_⟩
          rw [fOr_ap, g0]
          simp only [Option.bind_some, decide_eq_false c1, Bool.false_eq_true, if_false]
          rw [fOr_ap, g3, c2]
          rfl
        | false =>
          refine ⟨decide (1000 < M), (fun h => by have := of_decide_eq_false h; omega), ?_⟩
          rw [fOr_ap, g0]
          simp only [Option.bind_some, decide_eq_false c1, Bool.false_eq_true, if_false]
          rw [fOr_ap, g3, c2]
          simp only [Option.bind_some, Bool.false_eq_true, if_false]
          exact g2
    obtain ⟨t, ht, et⟩ := tst
    cases t with
    | true =>
      obtain ⟨r, b2, hb2, hr2, er2⟩ := ev_row (b := b') (w := w) hb' hw h1 h2
      refine fin r b2 _ hb2 hr2 (rtE_seq ew (rtE_seq e0 (rtE_seq e2 (rtE_seq e3 (rtE_seq1 (rtE_if (b := true) et (fun _ => rtE_ret (ρ' := SA b2 R w most way (.dat (lstI A)) s6 s7 s8) ?_) fun h => by cases h))))))
      exact call_r (i := 0) (ρ1 := SA b' R w most way (.dat (lstI A)) s6 s7 s8) (t := .io (.lst b')) (u := .lst b') (u' := .lst b2) (ds := [.int (w : Nat), .int most]) rfl rfl (by simp) rfl er2
    | false =>
      refine fin A b' _ hb' ⟨hA, fun x hx => ?_⟩ (rtE_seq ew (rtE_seq e0 (rtE_seq e2 (rtE_seq e3 (rtE_seq (ρ1 := SA b' R w most way (.dat (lstI A)) s6 s7 s8) (nx_if (b := false) et (fun h => by cases h) fun _ => rfl) (rtE_ret (ρ' := SA b' R w most way (.dat (lstI A)) s6 s7 s8) (by simp)))))))
      have := hM x hx
      have := ht rfl
      omega
end W20
end

section
set_option Elab.async false
set_option linter.all false
set_option maxRecDepth 100000
namespace W20
open L2 DL
def startN (one : List Nat) : Nat := match one.getLast? with
  | some x => x + 1
  | none => 0
def rangeN (lo hi : Nat) : List Nat := (List.range (hi - lo)).map (lo + ·)
def nextN (m : Nat) (one : List Nat) : List (List Nat) := (rangeN (startN one) m).map fun a => one ++ [a]
def sets (m : Nat) : Nat → List (List Nat)
  | 0 => [[]]
  | k + 1 => (sets m k).flatMap (nextN m)
abbrev tupN (one : List Nat) : D := .tup (one.map fun a => D.int (a : Nat))
theorem sets_len {m k : Nat} : (sets m k).length ≤ m ^ k := by
  induction k with
  | zero => simp [sets]
  | succ k ih =>
    unfold sets
    have : ∀ l : List (List Nat), (l.flatMap (nextN m)).length ≤ l.length * m := fun l => by
      induction l with
      | nil => simp
      | cons a l ih =>
        rw [List.flatMap_cons, List.length_append, List.length_cons, Nat.succ_mul]
        have : (nextN m a).length ≤ m := by simp [nextN, rangeN]
        omega
    refine Nat.le_trans (this _) ?_
    rw [Nat.pow_succ]
    exact Nat.mul_le_mul_right m ih
theorem sets_at {m : Nat} : ∀ {k : Nat} {one : List Nat}, one ∈ sets m k → one.length = k ∧ ∀ a, a ∈ one → a < m
  | 0, one, h => by
    simp [sets] at h; subst h
    exact ⟨rfl, fun a ha => by simp at ha⟩
  | k + 1, one, h => by
    unfold sets at h
    obtain ⟨o, ho, h⟩ := List.mem_flatMap.mp h
    obtain ⟨h1, h2⟩ := sets_at ho
    unfold nextN rangeN at h
    obtain ⟨a, ha, rfl⟩ := List.mem_map.mp h
    obtain ⟨t, ht, rfl⟩ := List.mem_map.mp ha
    have ht : t < m - startN o := by simpa using ht
    refine ⟨by simp [h1], fun x hx => ?_⟩
    rcases List.mem_append.mp hx with hx | hx
    · exact h2 x hx
    · simp at hx; omega
theorem atI_lastN {one : List Nat} {x : Nat} (h : one.getLast? = some x) : atI (one.map fun a => D.int (a : Nat)) (-1) = some (.int (x : Nat)) := by
  have hne : one ≠ [] := fun e => by subst e; simp at h
  have hl : 0 < one.length := List.length_pos_iff.mpr hne
  unfold atI ixN
  rw [List.length_map]
  have e : (-1 + (one.length : Int)).toNat = one.length - 1 := by omega
  simp only [show ¬ (0 : Int) ≤ -1 by omega, if_false, e]
  rw [if_pos (by omega)]
  rw [List.getLast?_eq_getElem?] at h
  simp [h]
abbrev SS (m k : Nat) (found : List (List Nat)) (s3 s4 s5 s6 : Slot) : Ev := [.dat (.int (m : Nat)), .dat (.int (k : Nat)), .dat (.lst (found.map tupN)), s3, s4, s5, s6]
section
variable {m k : Nat} {found : List (List Nat)}
theorem ss_in {s3 : Slot} {acc : List (List Nat)} {one : List Nat} {s6 : Slot} (hm : m < 1000) (h1 : one.length < 1000) (h2 : ∀ a, a ∈ one → a < m) (hl : (acc ++ nextN m one).length < 16000000) (i6 : IsD s6) :
    ∃ t6, IsD t6 ∧ Nx (fFor (iRange2 (fCons (fIf (fTruV 5) (fBin gAdd (fIxV 5 (fUn gNeg (fC (.int 1)))) (fC (.int 1))) (fC (.int 0))) (fCons (fVar 0) fNil))) (fPut0 6)
 (fApp 4 (fBin gAdd (fVar 5) (fTup (fCons (fVar 6) fNil))))) (SS m k found s3 (.own (.lst (acc.map tupN))) (.dat (tupN one)) s6) (SS m k found s3 (.own (.lst ((acc ++ nextN m one).map tupN))) (.dat (tupN one)) t6) := by
  have hs : startN one ≤ 1000 := by
    unfold startN
    split
    · rename_i x e
      have := h2 x (List.mem_of_getLast? e)
      omega
    · omega
  have e1 : fIf (fTruV 5) (fBin gAdd (fIxV 5 (fUn gNeg (fC (.int 1)))) (fC (.int 1))) (fC (.int 0)) (SS m k found s3 (.own (.lst (acc.map tupN))) (.dat (tupN one)) s6) = some (.int (startN one : Nat), SS m k found s3 (.own (.lst (acc.map tupN))) (.dat (tupN one)) s6) := by
    cases e : one.getLast? with
    | none =>
      have : one = [] := by simpa using e
      subst this; rfl
    | some x =>
      have a1 := atI_lastN e
      have hs : startN one = x + 1 := by unfold startN; rw [e]
      have hne : one.isEmpty = false := by cases one with
        | nil => simp at e
        | cons _ _ => rfl
      rw [fIf_ap, fTruV_ap]
      simp only [List.getElem?_cons_succ, List.getElem?_cons_zero, gTru_t, Option.bind_some, List.isEmpty_map, hne, Bool.not_false, if_true, fBin_ap, fIxV_ap, fUn_ap, fC_ap, gNeg_i, gIx_t, a1, gAdd_i, hs]
      rfl
  obtain ⟨ρ', q, t6, j6, er⟩ := loopF_pre (enc := fun j : Nat => D.int ((startN one : Nat) + (j : Nat))) (T := fPut0 6) (F := fApp 4 (fBin gAdd (fVar 5) (fTup (fCons (fVar 6) fNil))))
    (I := fun done ρ => ∃ s6, IsD s6 ∧ ρ = SS m k found s3 (.own (.lst ((acc ++ done.map fun j => one ++ [startN one + j]).map tupN))) (.dat (tupN one)) s6)
    (List.range (m - startN one)) (List.range (m - startN one)) [] (SS m k found s3 (.own (.lst (acc.map tupN))) (.dat (tupN one)) s6) rfl ⟨s6, i6, by simp⟩ (fun done j rest e ρ ⟨s6, i6, er⟩ => by
      subst er
      refine ⟨SS m k found s3 (.own (.lst ((acc ++ done.map fun j => one ++ [startN one + j]).map tupN))) (.dat (tupN one)) (.dat (.int ((startN one : Nat) + (j : Nat)))), by rcases i6 with rfl | ⟨_, rfl⟩ <;> simp, _, ?_, .dat (.int ((startN one : Nat) + (j : Nat))), isD_dat, rfl⟩
      have hd : done.length < m - startN one := by
        have := congrArg List.length e
        simp at this; omega
      have l1 : lenOk 1 = true := rfl
      have l2 : lenOk (one.length + 1) = true := lenOk_of (by omega)
      refine nx_app (t0 := .own (.lst ((acc ++ done.map fun j => one ++ [startN one + j]).map tupN))) (t := .own (.lst ((acc ++ done.map fun j => one ++ [startN one + j]).map tupN))) (d := tupN (one ++ [startN one + j]))
        (ρ1 := SS m k found s3 (.own (.lst ((acc ++ done.map fun j => one ++ [startN one + j]).map tupN))) (.dat (tupN one)) (.dat (.int ((startN one : Nat) + (j : Nat))))) rfl rfl ?_ rfl rfl (lenOk_of ?_) (by simp)
      · simp [l1, l2]
      · have : (acc ++ nextN m one).length = acc.length + (m - startN one) := by simp [nextN, rangeN]
        simp; omega)
  subst er
  refine ⟨t6, j6, ?_⟩
  have en : (acc ++ (List.range (m - startN one)).map fun j => one ++ [startN one + j]) = acc ++ nextN m one := by simp [nextN, rangeN, List.map_map, Function.comp_def]
  rw [en] at q
  refine nx_for (ρ1 := SS m k found s3 (.own (.lst (acc.map tupN))) (.dat (tupN one)) s6) ?_ q
  rw [iRange2_ap, fCons_ap, e1]
  simp only [Option.bind_some, fCons_ap, fVar_ap, List.getElem?_cons_zero, fNil_ap]
  rw [if_pos (by omega)]
  have : ((m : Int) - (startN one : Int)).toNat = m - startN one := by omega
  rw [this]
  rfl
theorem ss_turn {s3 s4 s5 s6 : Slot} (hm : m < 1000) (hf : ∀ one, one ∈ found → one.length < 1000 ∧ ∀ a, a ∈ one → a < m) (hl : (found.flatMap (nextN m)).length < 16000000) (i4 : IsD s4) (i5 : IsD s5) (i6 : IsD s6) :
    ∃ t4 t5 t6, IsD t4 ∧ IsD t5 ∧ IsD t6 ∧ Nx (fSeq (fSetN 4 (fLst fNil))
 (fSeq (fFor (iOf (fVar 2)) (fPut0 5)
 (fFor (iRange2 (fCons (fIf (fTruV 5) (fBin gAdd (fIxV 5 (fUn gNeg (fC (.int 1)))) (fC (.int 1))) (fC (.int 0))) (fCons (fVar 0) fNil))) (fPut0 6)
 (fApp 4 (fBin gAdd (fVar 5) (fTup (fCons (fVar 6) fNil))))))
 (fFrz 4 (fSet 2 (fVar 4))))) (SS m k found s3 s4 s5 s6) (SS m k (found.flatMap (nextN m)) s3 t4 t5 t6) := by
  obtain ⟨ρ', q, t5, t6, j5, j6, er⟩ := loopF_pre (enc := tupN) (T := fPut0 5) (F := (fFor (iRange2 (fCons (fIf (fTruV 5) (fBin gAdd (fIxV 5 (fUn gNeg (fC (.int 1)))) (fC (.int 1))) (fC (.int 0))) (fCons (fVar 0) fNil))) (fPut0 6)
 (fApp 4 (fBin gAdd (fVar 5) (fTup (fCons (fVar 6) fNil)))))) (I := fun done ρ => ∃ s5 s6, IsD s5 ∧ IsD s6 ∧ ρ = SS m k found s3 (.own (.lst ((done.flatMap (nextN m)).map tupN))) s5 s6)
    found found [] (SS m k found s3 (.own (.lst [])) s5 s6) rfl ⟨s5, s6, i5, i6, rfl⟩ (fun done one rest e ρ ⟨s5, s6, i5, i6, er⟩ => by
      subst er
      have hone : one ∈ found := by rw [← e]; simp
      obtain ⟨h1, h2⟩ := hf one hone
      have hl2 : (done.flatMap (nextN m) ++ nextN m one).length < 16000000 := by
        refine Nat.lt_of_le_of_lt ?_ hl
        rw [← e, List.flatMap_append, List.flatMap_cons]
        simp only [List.length_append]
        omega
      obtain ⟨t6, j6, e2⟩ := ss_in (k := k) (found := found) (s3 := s3) (acc := done.flatMap (nextN m)) (one := one) (s6 := s6) hm h1 h2 hl2 i6
      refine ⟨SS m k found s3 (.own (.lst ((done.flatMap (nextN m)).map tupN))) (.dat (tupN one)) s6, by rcases i5 with rfl | ⟨_, rfl⟩ <;> simp, _, e2, .dat (tupN one), t6, isD_dat, j6, ?_⟩
      rw [List.flatMap_append, List.flatMap_cons, List.flatMap_nil, List.append_nil])
  subst er
  refine ⟨.dat (.lst ((found.flatMap (nextN m)).map tupN)), t5, t6, isD_dat, j5, j6, ?_⟩
  refine nx_seq (ρ1 := SS m k found s3 (.own (.lst [])) s5 s6) (by rcases i4 with rfl | ⟨_, rfl⟩ <;> (unfold Nx; rfl)) ?_
  refine nx_seq (nx_for (ρ1 := SS m k found s3 (.own (.lst [])) s5 s6) (by simp) q) ?_
  refine nx_frz (ρ1 := SS m k found s3 (.dat (.lst ((found.flatMap (nextN m)).map tupN))) t5 t6) rfl ?_
  exact nx_set (d0 := .lst ((found.flatMap (nextN m)).map tupN)) rfl rfl
end
theorem ev_sets {m k : Nat} (hm : m < 1000) (hk : k < 1000) (hl : ∀ j, j ≤ k → (sets m j).length < 16000000) : g__law_sets [.dat (.int (m : Nat)), .dat (.int (k : Nat))] = some (.lst ((sets m k).map tupN), [.dat (.int (m : Nat)), .dat (.int (k : Nat))]) := by
  refine body_rt (ds := [.int (m : Nat), .int (k : Nat)]) ?_
  show Rt F__law_sets [.dat (.int (m : Nat)), .dat (.int (k : Nat)), .un, .un, .un, .un, .un] _
  unfold F__law_sets
  refine rt_seq (ρ1 := SS m k [[]] .un .un .un .un) (by unfold Nx; rfl) ?_
  obtain ⟨ρ', q, s3, s4, s5, s6, i3, i4, i5, i6, er⟩ := loopF_pre (enc := fun j : Nat => D.int (0 + (j : Nat))) (T := fPut0 3) (F := (fSeq (fSetN 4 (fLst fNil))
 (fSeq (fFor (iOf (fVar 2)) (fPut0 5)
 (fFor (iRange2 (fCons (fIf (fTruV 5) (fBin gAdd (fIxV 5 (fUn gNeg (fC (.int 1)))) (fC (.int 1))) (fC (.int 0))) (fCons (fVar 0) fNil))) (fPut0 6)
 (fApp 4 (fBin gAdd (fVar 5) (fTup (fCons (fVar 6) fNil))))))
 (fFrz 4 (fSet 2 (fVar 4)))))) (I := fun done ρ => ∃ s3 s4 s5 s6, IsD s3 ∧ IsD s4 ∧ IsD s5 ∧ IsD s6 ∧ ρ = SS m k (sets m done.length) s3 s4 s5 s6)
    (List.range k) (List.range k) [] (SS m k [[]] .un .un .un .un) rfl ⟨.un, .un, .un, .un, isD_un, isD_un, isD_un, isD_un, rfl⟩ (fun done j rest e ρ ⟨s3, s4, s5, s6, i3, i4, i5, i6, er⟩ => by
      subst er
      have hd : done.length < k := by
        have := congrArg List.length e
        simp at this; omega
      obtain ⟨t4, t5, t6, j4, j5, j6, e2⟩ := ss_turn (k := k) (found := sets m done.length) (s3 := .dat (.int (0 + (j : Nat)))) (s4 := s4) (s5 := s5) (s6 := s6) hm (fun one h => by
        obtain ⟨h1, h2⟩ := sets_at h
        exact ⟨by omega, h2⟩) (hl (done.length + 1) (by omega)) i4 i5 i6
      exact ⟨SS m k (sets m done.length) (.dat (.int (0 + (j : Nat)))) s4 s5 s6, by rcases i3 with rfl | ⟨_, rfl⟩ <;> simp, _, e2, .dat (.int (0 + (j : Nat))), t4, t5, t6, isD_dat, j4, j5, j6, by rw [List.length_append]; rfl⟩)
  subst er
  rw [List.length_range] at q
  exact rt_seq (nx_for (ρ1 := SS m k [[]] .un .un .un .un) (by simp [intsFrom]; omega) q) (rt_ret ⟨_, rfl⟩)
end W20
end

section
set_option Elab.async false
set_option linter.all false
set_option maxRecDepth 100000
namespace W20
open L2 DL
/-! ### the law's greatest common divisor -/
def eucStep (p : Nat × Nat) (_ : Nat) : Sum D (Nat × Nat) := if p.2 = 0 then .inl (.int (p.1 : Nat)) else .inr (p.2, p.1 % p.2)
theorem half {a b : Nat} (hb : 0 < b) : b % (a % b) < b / 2 + 1 ∨ a % b = 0 := by
  by_cases c : a % b = 0
  · exact .inr c
  · left
    have h1 := Nat.mod_lt a hb
    have h2 := Nat.mod_lt b (show 0 < a % b by omega)
    by_cases d : a % b ≤ b / 2
    · omega
    · have : b % (a % b) = b - a % b := by
        rw [Nat.mod_eq_sub_mod (by omega), Nat.mod_eq_of_lt (by omega)]
      omega
theorem euc_go : ∀ (n : Nat) (l : List Nat) (a b : Nat), b < 2 ^ n → 2 * n + 1 ≤ l.length → goL eucStep l (a, b) = .inl (.int (Nat.gcd a b : Nat))
  | n, [], a, b, _, hl => by simp at hl
  | 0, x :: l, a, b, hb, hl => by
    have : b = 0 := by simpa using hb
    subst this
    simp [goL, eucStep]
  | n + 1, [x], a, b, hb, hl => by simp at hl
  | n + 1, x :: y :: l, a, b, hb, hl => by
    have hg : Nat.gcd a b = Nat.gcd b (a % b) := by rw [Nat.gcd_comm, Nat.gcd_rec, Nat.gcd_comm]
    by_cases c : b = 0
    · subst c; simp [goL, eucStep]
    · have hb0 : 0 < b := by omega
      simp only [goL, eucStep, c, if_false]
      by_cases c2 : a % b = 0
      · simp only [c2, if_true]
        rw [hg, c2, Nat.gcd_zero_right]
      · simp only [c2, if_false]
        have hg2 : Nat.gcd b (a % b) = Nat.gcd (a % b) (b % (a % b)) := by rw [Nat.gcd_comm, Nat.gcd_rec, Nat.gcd_comm]
        rw [hg, hg2]
        refine euc_go n l (a % b) (b % (a % b)) ?_ (by simp at hl; omega)
        rcases half (a := a) hb0 with h | h
        · have h3 : b % (a % b) < a % b := Nat.mod_lt _ (by omega)
          have h4 := Nat.mod_lt a hb0
          have h5 : 2 ^ (n + 1) = 2 * 2 ^ n := by rw [Nat.pow_succ]; omega
          omega
        · exact absurd h c2
theorem ev_gcd {a b : Int} {B : Nat} (hb : b.natAbs < 2 ^ B) (hB : B ≤ 1400) : g__law_gcd [.dat (.int a), .dat (.int b)] = some (.int (gcdI a b), [.dat (.int a), .dat (.int b)]) := by
  refine body_rt (ds := [.int a, .int b]) ?_
  show Rt F__law_gcd [.dat (.int a), .dat (.int b), .un, .un] _
  unfold F__law_gcd
  have ea : ∀ x : Int, (if x < 0 then -x else x) = (x.natAbs : Int) := fun x => by split <;> omega
  refine rt_seq (ρ1 := [.dat (.int (a.natAbs : Nat)), .dat (.int b), .un, .un]) (by simp [Nx, ea]) ?_
  refine rt_seq (ρ1 := [.dat (.int (a.natAbs : Nat)), .dat (.int (b.natAbs : Nat)), .un, .un]) (by simp [Nx, ea]) ?_
  obtain ⟨h1, _⟩ := loopF_go (enc := fun j : Nat => D.int (0 + (j : Nat))) (I := fun (p : Nat × Nat) ρ => ∃ s2 s3, IsD s2 ∧ IsD s3 ∧ ρ = [.dat (.int (p.1 : Nat)), .dat (.int (p.2 : Nat)), s2, s3]) (step := eucStep) (T := fPut0 2)
    (F := (fSeq (fIfS (fTB (fBin gEq (fVar 1) (fC (.int 0)))) (fRet (fVar 0))
 fSkip)
 (fSeq (fSet 3 (fBin gMod (fN gInt (fCons (fVar 0) fNil)) (fVar 1)))
 (fSeq (fSet 0 (fVar 1))
 (fSet 1 (fVar 3)))))) (List.range 3000) (a.natAbs, b.natAbs) [.dat (.int (a.natAbs : Nat)), .dat (.int (b.natAbs : Nat)), .un, .un] ⟨.un, .un, isD_un, isD_un, rfl⟩ (fun j hj p ρ ⟨s2, s3, i2, i3, e⟩ => by
      subst e
      obtain ⟨x, y⟩ := p
      refine ⟨[.dat (.int (x : Nat)), .dat (.int (y : Nat)), .dat (.int (0 + (j : Nat))), s3], by rcases i2 with rfl | ⟨_, rfl⟩ <;> simp, fun d hd => ?_, fun s' hs => ?_⟩
      · unfold eucStep at hd
        split at hd
        · rename_i c; cases hd
          have c : y = 0 := c
          subst c
          exact ⟨[.dat (.int (x : Nat)), .dat (.int (0 : Nat)), .dat (.int (0 + (j : Nat))), s3], by simp⟩
        · cases hd
      · unfold eucStep at hs
        split at hs
        · cases hs
        · rename_i c; cases hs
          have c : ¬ y = 0 := c
          have c' : ¬ (y : Int) = 0 := by omega
          have mo : modOk (x : Int) (y : Int) = true := decide_eq_true c'
          have ef : (x : Int).fmod (y : Int) = ((x % y : Nat) : Int) := by
            rw [Int.fmod_eq_emod_of_nonneg _ (by omega)]; rfl
          refine ⟨.nx, [.dat (.int (y : Nat)), .dat (.int ((x % y : Nat) : Int)), .dat (.int (0 + (j : Nat))), .dat (.int ((x % y : Nat) : Int))], .inl rfl, ?_, _, _, isD_dat, isD_dat, rfl⟩
          refine nx_seq (ρ1 := [.dat (.int (x : Nat)), .dat (.int (y : Nat)), .dat (.int (0 + (j : Nat))), s3]) (by unfold Nx; simp [c]) (nx_seq (ρ1 := [.dat (.int (x : Nat)), .dat (.int (y : Nat)), .dat (.int (0 + (j : Nat))), .dat (.int ((x % y : Nat) : Int))]) ?_ (nx_seq (ρ1 := [.dat (.int (y : Nat)), .dat (.int (y : Nat)), .dat (.int (0 + (j : Nat))), .dat (.int ((x % y : Nat) : Int))]) (by unfold Nx; simp) (by unfold Nx; simp)))
          refine nx_set (d0 := .int ((x % y : Nat) : Int)) (ρ1 := [.dat (.int (x : Nat)), .dat (.int (y : Nat)), .dat (.int (0 + (j : Nat))), s3]) ?_ (by rcases i3 with rfl | ⟨_, rfl⟩ <;> simp)
          rw [fBin_ap, fN_ap, fCons_ap, fVar_ap]
          simp only [List.getElem?_cons_zero, Option.bind_some, fNil_ap, gInt_i, fVar_ap, List.getElem?_cons_succ, gMod_i, mo, if_true, ef])
  obtain ⟨ρ', q⟩ := h1 _ (euc_go B (List.range 3000) a.natAbs b.natAbs hb (by simp; omega))
  exact rt_seq1 (rt_for (ρ1 := [.dat (.int (a.natAbs : Nat)), .dat (.int (b.natAbs : Nat)), .un, .un]) (by simp [intsFrom]) ⟨ρ', q⟩)
def redS (a b : Int) : Int × Int := if b < 0 then red (-a) (-b) else red a b
theorem ev_lfraction {a b : Int} {B : Nat} (ha : a.natAbs < 2 ^ B) (hb : b.natAbs < 2 ^ B) (hB : B ≤ 1400) (h0 : b ≠ 0) : g__law_fraction [.dat (.int a), .dat (.int b)] = some (encF (redS a b), [.dat (.int a), .dat (.int b)]) := by
  refine body_rt (ds := [.int a, .int b]) ?_
  show Rt F__law_fraction [.dat (.int a), .dat (.int b), .un] _
  unfold F__law_fraction
  have main : ∀ (a b : Int), a.natAbs < 2 ^ B → b.natAbs < 2 ^ B → 0 < b → Rt (fSeq (fSet 2 (fCall 2 g__law_gcd (frD (fVar 0) (frD (fVar 1) frNil))))
 (fRet (fTup (fCons (fBin gDiv (fVar 0) (fVar 2)) (fCons (fBin gDiv (fVar 1) (fVar 2)) fNil))))) [.dat (.int a), .dat (.int b), .un] (encF (red a b)) := fun a b ha hb h => by
    refine rt_seq (ρ1 := [.dat (.int a), .dat (.int b), .dat (.int (gcdI a b))]) ?_ ?_
    · refine nx_set (d0 := .int (gcdI a b)) (ρ1 := [.dat (.int a), .dat (.int b), .un]) (call_ev (ds := [.int a, .int b]) (by simp) rfl (ev_gcd hb hB)) rfl
    · have h1 : ∀ x, divOk x (gcdI a b) = true := fun x => divOk_of (gcdI_pos h) (gcdI_bd ha hb) (by omega)
      exact rt_ret ⟨[.dat (.int a), .dat (.int b), .dat (.int (gcdI a b))], by simp [h1, lenOk, red]⟩
  unfold redS
  by_cases c : b < 0
  · rw [if_pos c]
    refine rt_seq (ρ1 := [.dat (.int (-a)), .dat (.int (-b)), .un]) ?_ (main (-a) (-b) (by omega) (by omega) (by omega))
    exact nx_if (b := true) (ρ1 := [.dat (.int a), .dat (.int b), .un]) (by simp [c]) (fun _ => nx_seq (ρ1 := [.dat (.int (-a)), .dat (.int b), .un]) rfl rfl) fun h => by cases h
  · rw [if_neg c]
    refine rt_seq (ρ1 := [.dat (.int a), .dat (.int b), .un]) ?_ (main a b ha hb (by omega))
    exact nx_if (b := false) (ρ1 := [.dat (.int a), .dat (.int b), .un]) (by simp [c]) (fun h => by cases h) fun _ => rfl
end W20
end

section
set_option Elab.async false
set_option linter.all false
set_option maxRecDepth 100000
namespace DL
open L2
theorem loopF_preR {A : Type} {enc : A → D} {I : List A → Ev → Prop} {Rr : D → Prop} {T : D → Ev → Option Ev} {F : FS} (as : List A) : ∀ (rest done : List A) (ρ : Ev), done ++ rest = as → I done ρ →
    (∀ done a rest, done ++ a :: rest = as → ∀ ρ, I done ρ → ∃ ρ1, T (enc a) ρ = some ρ1 ∧ ((∃ ρ2, F ρ1 = some (.nx, ρ2) ∧ I (done ++ [a]) ρ2) ∨ ∃ d ρ2, F ρ1 = some (.rt d, ρ2) ∧ Rr d)) →
    (∃ ρ', loopF T F (rest.map enc) ρ = some (.nx, ρ') ∧ I as ρ') ∨ ∃ d ρ', loopF T F (rest.map enc) ρ = some (.rt d, ρ') ∧ Rr d
  | [], done, ρ, e, hI, h => by
    rw [List.append_nil] at e; subst e
    exact .inl ⟨ρ, rfl, hI⟩
  | a :: rest, done, ρ, e, hI, h => by
    obtain ⟨ρ1, h1, h2⟩ := h done a rest e ρ hI
    rcases h2 with ⟨ρ2, h2, h3⟩ | ⟨d, ρ2, h2, h3⟩
    · rcases loopF_preR as rest (done ++ [a]) ρ2 (by rw [← e]; simp) h3 h with ⟨ρ', q, qi⟩ | ⟨d, ρ', q, qi⟩
      · exact .inl ⟨ρ', by simp [loopF, h1, h2, q], qi⟩
      · exact .inr ⟨d, ρ', by simp [loopF, h1, h2, q], qi⟩
    · exact .inr ⟨d, ρ2, by simp [loopF, h1, h2], h3⟩
end DL
namespace W20
open L2 DL
def mat0 (rs : List (List Int)) (aim : List Int) : List (List Int) := (List.range aim.length).map fun j => (rs.map fun r => r.getD j 0) ++ [aim.getD j 0]
abbrev ent (L : List (List Int)) (j c : Nat) : Int := (L.getD j []).getD c 0
def spots (L : List (List Int)) (k : Nat) : List Nat := (rangeN k L.length).filter fun j => decide (ent L j k ≠ 0)
def comb (line other : List Int) (k : Nat) : List Int := (List.range line.length).map fun i => line.getD k 0 * other.getD i 0 - other.getD k 0 * line.getD i 0
def swapL (L : List (List Int)) (p k : Nat) : List (List Int) := (L.set p (L.getD k [])).set k (L.getD p [])
def elimTo (line : List Int) (L : List (List Int)) (k d : Nat) : List (List Int) := (List.range L.length).map fun j => if j < d ∧ j ≠ k then comb line (L.getD j []) k else L.getD j []
def elimL (L : List (List Int)) (p k : Nat) : List (List Int) := elimTo (L.getD p []) (swapL L p k) k L.length
def gs (L0 : List (List Int)) : Nat → Option (List (List Int))
  | 0 => some L0
  | k + 1 => (gs L0 k).bind fun L => match spots L k with
    | [] => none
    | p :: _ => some (elimL L p k)
def weightsL (rs : List (List Int)) (aim : List Int) : Option (List (Int × Int)) := (gs (mat0 rs aim) rs.length).bind fun L =>
  if (rangeN rs.length L.length).all (fun j => decide (ent L j rs.length = 0)) = true then some ((List.range rs.length).map fun k => redS (ent L k rs.length) (ent L k k)) else none
/-- the shape of the lines -/
structure Shp (n w B : Nat) (L : List (List Int)) : Prop where
  len : L.length = n
  row : ∀ l, l ∈ L → l.length = w ∧ Bd B l
theorem Shp.at {n w B : Nat} {L : List (List Int)} (h : Shp n w B L) {j : Nat} (hj : j < n) : (L.getD j []).length = w ∧ Bd B (L.getD j []) := by
  have hj' : j < L.length := by rw [h.len]; exact hj
  have : L.getD j [] = L[j] := by simp [hj']
  rw [this]
  exact h.row _ (List.getElem_mem hj')
theorem Shp.lat {n w B : Nat} {L : List (List Int)} (h : Shp n w B L) {j : Nat} (hj : j < n) : atI (L.map lstI) (j : Int) = some (lstI (L.getD j [])) := by
  have hj' : j < L.length := by rw [h.len]; exact hj
  unfold atI
  rw [List.length_map, ixN_nat hj']
  simp [hj']
theorem comb_bd {line other : List Int} {k B : Nat} (h1 : Bd B line) (h2 : Bd B other) : Bd (2 * B + 1) (comb line other k) := by
  intro e he
  unfold comb at he
  obtain ⟨i, _, rfl⟩ := List.mem_map.mp he
  have : 2 * B + 1 = (B + B) + 1 := by omega
  rw [this, Int.sub_eq_add_neg]
  exact abs_add (abs_mul (h1.get k) (h2.get i)) (by rw [Int.natAbs_neg]; exact abs_mul (h2.get k) (h1.get i))
theorem Shp.swap {n w B p k : Nat} {L : List (List Int)} (h : Shp n w B L) (hp : p < n) (hk : k < n) : Shp n w B (swapL L p k) := by
  refine ⟨by simp [swapL, h.len], fun l hl => ?_⟩
  unfold swapL at hl
  rcases List.mem_or_eq_of_mem_set hl with hl | hl
  · rcases List.mem_or_eq_of_mem_set hl with hl | hl
    · exact h.row l hl
    · rw [hl]; exact h.at hk
  · rw [hl]; exact h.at hp
theorem Shp.elimTo {n w B k d : Nat} {line : List Int} {L : List (List Int)} (h : Shp n w B L) (hl : line.length = w) (hb : Bd B line) : Shp n w (2 * B + 1) (elimTo line L k d) := by
  refine ⟨by simp [W20.elimTo, h.len], fun l hm => ?_⟩
  unfold W20.elimTo at hm
  obtain ⟨j, hj, rfl⟩ := List.mem_map.mp hm
  have hj : j < n := by rw [← h.len]; simpa using hj
  split
  · exact ⟨by simp [comb, hl], comb_bd hb (h.at hj).2⟩
  · exact ⟨(h.at hj).1, (h.at hj).2.mono (by omega)⟩
theorem spots_mem {L : List (List Int)} {k p : Nat} (h : p ∈ spots L k) : k ≤ p ∧ p < L.length ∧ ent L p k ≠ 0 := by
  unfold spots at h
  obtain ⟨h1, h2⟩ := List.mem_filter.mp h
  unfold rangeN at h1
  obtain ⟨t, ht, rfl⟩ := List.mem_map.mp h1
  have : t < L.length - k := by simpa using ht
  exact ⟨by omega, by omega, of_decide_eq_true h2⟩
def bG (b0 : Nat) : Nat → Nat
  | 0 => b0
  | k + 1 => 2 * bG b0 k + 1
theorem Shp.gs {n w B : Nat} {L0 : List (List Int)} (h : Shp n w B L0) : ∀ {k : Nat} {L : List (List Int)}, W20.gs L0 k = some L → Shp n w (bG B k) L ∧ k ≤ n
  | 0, L, e => by cases e; exact ⟨h, Nat.zero_le _⟩
  | k + 1, L, e => by
    obtain ⟨L', e1, e⟩ := bind_ok (show (W20.gs L0 k).bind (fun L => match spots L k with
      | [] => none
      | p :: _ => some (elimL L p k)) = some L from e)
    obtain ⟨S, _⟩ := h.gs e1
    split at e
    · cases e
    · rename_i p _ hs
      cases e
      obtain ⟨p1, p2, _⟩ := spots_mem (L := L') (k := k) (p := p) (by rw [hs]; simp)
      rw [S.len] at p2
      exact ⟨(S.swap p2 (by omega)).elimTo (S.at p2).1 (S.at p2).2, by omega⟩

abbrev SW (rs : List (List Int)) (aim : List Int) (s2 : Slot) (L : List (List Int)) (s4 s5 s6 s7 : Slot) : Ev := [.dat (.lst (rs.map tupI)), .dat (tupI aim), s2, .own (.lst (L.map lstI)), s4, s5, s6, s7, .un, .un]
section
variable {rs : List (List Int)} {aim : List Int} {L : List (List Int)} {n w B : Nat}
/-- lines[j] = row -/
theorem sw_set {s2 s4 s5 s6 s7 : Slot} {fe fb : FE} {row : List Int} {j : Nat} (hj : j < L.length) (h1 : fe (SW rs aim s2 L s4 s5 s6 s7) = some (lstI row, SW rs aim s2 L s4 s5 s6 s7)) (h2 : fb (SW rs aim s2 L s4 s5 s6 s7) = some (.int (j : Nat), SW rs aim s2 L s4 s5 s6 s7)) :
    Nx (fSetIx 3 fb fe) (SW rs aim s2 L s4 s5 s6 s7) (SW rs aim s2 (L.set j row) s4 s5 s6 s7) := by
  unfold Nx
  rw [fSetIx_ap, h1]
  simp only [Option.bind_some, List.getElem?_cons_succ, List.getElem?_cons_zero, mu_own, h2, wrOwn_ap, cSet_l, List.length_map, ixN_nat hj, put_own]
  simp [List.map_set]
theorem sw_comb {s2 s4 s5 : Slot} {line other : List Int} {k : Nat} (hB : 2 * B + 1 ≤ 9000) (hl : line.length = w) (ho : other.length = w) (b1 : Bd B line) (b2 : Bd B other) (hk : k < w) (hw : w < 1000) (h4 : s4 = .dat (.int (k : Nat))) :
    fComp (iRange1 (fCons (fLenV 6) fNil)) (fPut0 9) fYes (fBin gMinus (fBin gMul (fIxV 6 (fVar 4)) (fIxV 7 (fVar 9))) (fBin gMul (fIxV 7 (fVar 4)) (fIxV 6 (fVar 9)))) [9] (SW rs aim s2 L s4 s5 (.dat (lstI line)) (.dat (lstI other)))
      = some (.lst ((comb line other k).map D.int), SW rs aim s2 L s4 s5 (.dat (lstI line)) (.dat (lstI other))) := by
  subst h4
  have := fComp_map (enc := fun j : Nat => D.int (0 + (j : Nat))) (fv := fun i : Nat => D.int (line.getD k 0 * other.getD i 0 - other.getD k 0 * line.getD i 0)) (fi := iRange1 (fCons (fLenV 6) fNil)) (T := fPut0 9) (fe := fBin gMinus (fBin gMul (fIxV 6 (fVar 4)) (fIxV 7 (fVar 9))) (fBin gMul (fIxV 7 (fVar 4)) (fIxV 6 (fVar 9)))) (vs := [9])
    (ρ := SW rs aim s2 L (.dat (.int (k : Nat))) s5 (.dat (lstI line)) (.dat (lstI other))) (ρ0 := SW rs aim s2 L (.dat (.int (k : Nat))) s5 (.dat (lstI line)) (.dat (lstI other))) (List.range line.length) (by simp [intsFrom]; omega) (lenOk_of (by simp; omega)) rfl (fun i hi => by
      have hi : i < w := by rw [← hl]; simpa using hi
      have a1 := atI_int (ns := line) (c := k) (by omega)
      have a2 := atI_int (ns := other) (c := i) (by omega)
      have a3 := atI_int (ns := other) (c := k) (by omega)
      have a4 := atI_int (ns := line) (c := i) (by omega)
      have m1 : mulOk (line.getD k 0) (other.getD i 0) = true := mulOk_of (b1.get k) (b2.get i) (by omega)
      have m2 : mulOk (other.getD k 0) (line.getD i 0) = true := mulOk_of (b2.get k) (b1.get i) (by omega)
      have ez : (0 : Int) + (i : Int) = (i : Int) := by omega
      refine ⟨[.dat (.lst (rs.map tupI)), .dat (tupI aim), s2, .own (.lst (L.map lstI)), .dat (.int (k : Nat)), s5, .dat (lstI line), .dat (lstI other), .un, .dat (.int (0 + (i : Nat)))], by simp [wipeE], [.dat (.lst (rs.map tupI)), .dat (tupI aim), s2, .own (.lst (L.map lstI)), .dat (.int (k : Nat)), s5, .dat (lstI line), .dat (lstI other), .un, .dat (.int (0 + (i : Nat)))], ?_, rfl, rfl⟩
      simp only [fBin_ap, fIxV_ap, fVar_ap, List.getElem?_cons_succ, List.getElem?_cons_zero, Option.bind_some, gIx_l, ez, a1, a2, a3, a4, gMul_i, m1, m2, if_true, gMinus_i])
  rw [this]
  simp [comb, List.map_map, Function.comp_def]
theorem elimTo_set {line : List Int} {L1 : List (List Int)} {k d : Nat} (hd : d < L1.length) : (elimTo line L1 k d).set d (if d ≠ k then comb line (L1.getD d []) k else L1.getD d []) = elimTo line L1 k (d + 1) := by
  apply List.ext_getElem
  · simp [elimTo]
  · intro i h1 h2
    simp only [elimTo, List.getElem_set, List.getElem_map, List.getElem_range]
    by_cases e : d = i
    · subst e
      by_cases c : d = k
      · simp [c]
      · simp [c]
    · simp only [e, if_false]
      by_cases c : i = k
      · simp [c]
      · have : i < d + 1 ↔ i < d := by omega
        simp [c, this]
theorem elimTo_get {line : List Int} {L1 : List (List Int)} {k d : Nat} : (elimTo line L1 k d).getD d [] = L1.getD d [] := by
  unfold elimTo
  by_cases h : d < L1.length
  · simp [h]
  · simp [h]
theorem elimTo_zero {line : List Int} {L1 : List (List Int)} {k : Nat} : elimTo line L1 k 0 = L1 := by
  apply List.ext_getElem
  · simp [elimTo]
  · intro i h1 h2
    simp [elimTo, h2]
/-- the inner loop -/
theorem sw_elim {s2 s5 s7 : Slot} {line : List Int} {L1 : List (List Int)} {k : Nat} (S : Shp n w B L1) (hB : 2 * B + 1 ≤ 9000) (hl : line.length = w) (b1 : Bd B line) (hk : k < w) (hw : w < 1000) (hn : n < 1000) (i2 : IsD s2) (i7 : IsD s7) :
    ∃ t2 t7, IsD t2 ∧ IsD t7 ∧ Nx (fFor (iRange1 (fCons (fLenV 3) fNil)) (fPut0 2)
 (fIfS (fTB (fBin gNe (fVar 2) (fVar 4))) (fSeq (fSet 7 (fIxV 3 (fVar 2)))
 (fSetIx 3 (fVar 2) (fGive (fComp (iRange1 (fCons (fLenV 6) fNil)) (fPut0 9) fYes (fBin gMinus (fBin gMul (fIxV 6 (fVar 4)) (fIxV 7 (fVar 9))) (fBin gMul (fIxV 7 (fVar 4)) (fIxV 6 (fVar 9)))) [9]))))
 fSkip)) (SW rs aim s2 L1 (.dat (.int (k : Nat))) s5 (.dat (lstI line)) s7) (SW rs aim t2 (elimTo line L1 k L1.length) (.dat (.int (k : Nat))) s5 (.dat (lstI line)) t7) := by
  obtain ⟨ρ', q, t2, t7, j2, j7, er⟩ := loopF_pre (enc := fun j : Nat => D.int (0 + (j : Nat))) (T := fPut0 2) (F := (fIfS (fTB (fBin gNe (fVar 2) (fVar 4))) (fSeq (fSet 7 (fIxV 3 (fVar 2)))
 (fSetIx 3 (fVar 2) (fGive (fComp (iRange1 (fCons (fLenV 6) fNil)) (fPut0 9) fYes (fBin gMinus (fBin gMul (fIxV 6 (fVar 4)) (fIxV 7 (fVar 9))) (fBin gMul (fIxV 7 (fVar 4)) (fIxV 6 (fVar 9)))) [9]))))
 fSkip)) (I := fun done ρ => ∃ s2 s7, IsD s2 ∧ IsD s7 ∧ ρ = SW rs aim s2 (elimTo line L1 k done.length) (.dat (.int (k : Nat))) s5 (.dat (lstI line)) s7)
    (List.range L1.length) (List.range L1.length) [] (SW rs aim s2 L1 (.dat (.int (k : Nat))) s5 (.dat (lstI line)) s7) rfl ⟨s2, s7, i2, i7, by rw [List.length_nil, elimTo_zero]⟩ (fun done j rest e ρ ⟨s2, s7, i2, i7, er⟩ => by
      subst er
      have hd : done.length = j ∧ j < L1.length := by
        have h1 : (done ++ j :: rest)[done.length]? = some j := by simp
        rw [e] at h1
        have h2 : done.length < L1.length := by
          have := congrArg List.length e
          simp at this; omega
        simp [h2] at h1
        omega
      obtain ⟨hd, hj⟩ := hd
      rw [hd, List.length_append, hd, List.length_singleton]
      have hjn : j < n := by rw [← S.len]; exact hj
      have SE := S.elimTo (k := k) (d := j) hl b1
      have ez : (0 : Int) + (j : Int) = (j : Int) := by omega
      rw [ez]
      have hset := elimTo_set (line := line) (k := k) hj
      refine ⟨SW rs aim (.dat (.int (j : Nat))) (elimTo line L1 k j) (.dat (.int (k : Nat))) s5 (.dat (lstI line)) s7, by rcases i2 with rfl | ⟨_, rfl⟩ <;> simp, ?_⟩
      by_cases c : j = k
      · have : elimTo line L1 k j = elimTo line L1 k (j + 1) := by
          rw [← hset]
          simp only [c, ne_eq, not_true_eq_false, if_false]
          rw [← c]
          have h3 : j < (elimTo line L1 k j).length := by simp [elimTo]; exact hj
          have h4 := elimTo_get (line := line) (L1 := L1) (k := j) (d := j)
          rw [← h4]
          subst c
          apply List.ext_getElem
          · simp
          · intro i h1 h2
            by_cases e : j = i
            · subst e; simp [List.getElem_set, h3]
            · simp [List.getElem_set, e]
        refine ⟨SW rs aim (.dat (.int (j : Nat))) (elimTo line L1 k j) (.dat (.int (k : Nat))) s5 (.dat (lstI line)) s7, nx_if (b := false) (ρ1 := SW rs aim (.dat (.int (j : Nat))) (elimTo line L1 k j) (.dat (.int (k : Nat))) s5 (.dat (lstI line)) s7) (by simp [c]) (fun h => by cases h) fun _ => rfl, .dat (.int (j : Nat)), s7, isD_dat, i7, by rw [← this]⟩
      · have c' : ¬ ((j : Int) = (k : Int)) := by omega
        have a0 := SE.lat hjn
        rw [elimTo_get] at a0
        refine ⟨SW rs aim (.dat (.int (j : Nat))) (elimTo line L1 k (j + 1)) (.dat (.int (k : Nat))) s5 (.dat (lstI line)) (.dat (lstI (L1.getD j []))), nx_if (b := true) (ρ1 := SW rs aim (.dat (.int (j : Nat))) (elimTo line L1 k j) (.dat (.int (k : Nat))) s5 (.dat (lstI line)) s7) (by simp [c']) (fun _ => ?_) (fun h => by cases h), .dat (.int (j : Nat)), .dat (lstI (L1.getD j [])), isD_dat, isD_dat, rfl⟩
        refine nx_seq (ρ1 := SW rs aim (.dat (.int (j : Nat))) (elimTo line L1 k j) (.dat (.int (k : Nat))) s5 (.dat (lstI line)) (.dat (lstI (L1.getD j [])))) ?_ ?_
        · refine nx_set (d0 := lstI (L1.getD j [])) (ρ1 := SW rs aim (.dat (.int (j : Nat))) (elimTo line L1 k j) (.dat (.int (k : Nat))) s5 (.dat (lstI line)) s7) ?_ (by rcases i7 with rfl | ⟨_, rfl⟩ <;> simp)
          rw [fIxV_ap]
          simp only [List.getElem?_cons_succ, List.getElem?_cons_zero, fVar_ap, Option.bind_some, mu_own, a0]
        · rw [← hset, if_pos c]
          refine sw_set (by simp [elimTo]; exact hj) ?_ (by simp)
          rw [fGive_ap, sw_comb hB hl (S.at hjn).1 b1 (S.at hjn).2 hk hw rfl]
          rfl)
  subst er
  rw [List.length_range] at q
  exact ⟨t2, t7, j2, j7, nx_for (ρ1 := SW rs aim s2 L1 (.dat (.int (k : Nat))) s5 (.dat (lstI line)) s7) (by simp [intsFrom]; have := S.len; omega) q⟩
end
end W20
end

section
set_option Elab.async false
set_option linter.all false
set_option maxRecDepth 100000
namespace W20
open L2 DL
section
variable {rs : List (List Int)} {aim : List Int} {n B : Nat}
theorem gs_none {L0 : List (List Int)} {k : Nat} (h : gs L0 k = none) : ∀ j, gs L0 (k + j) = none
  | 0 => h
  | j + 1 => by
    show (gs L0 (k + j)).bind _ = none
    rw [gs_none h j]; rfl
theorem mat0_shp (hr : ∀ r, r ∈ rs → Bd B r) (ha : Bd B aim) : Shp aim.length (rs.length + 1) B (mat0 rs aim) := by
  refine ⟨by simp [mat0], fun l hl => ?_⟩
  unfold mat0 at hl
  obtain ⟨j, hj, rfl⟩ := List.mem_map.mp hl
  refine ⟨by simp, fun e he => ?_⟩
  rcases List.mem_append.mp he with he | he
  · obtain ⟨r, hr', rfl⟩ := List.mem_map.mp he
    exact (hr r hr').get j
  · simp at he; subst he
    have := ha.get j
    simpa using this
theorem nx_setN {f : FO} {i : Nat} {u : Own} {ρ ρ0 ρ1 ρ2 : Ev} (h0 : frz i ρ = some ρ0) (h1 : f ρ0 = some (u, ρ1)) (h2 : fOwn i u ρ1 = some ρ2) : Nx (fSetN i f) ρ ρ2 := by
  unfold Nx fSetN
  rw [h0]; simp only [Option.bind_some, h1, h2]
def encO : Option (List (Int × Int)) → D
  | none => .non
  | some w => .lst (w.map encF)
theorem sw_turn {L : List (List Int)} {k : Nat} {s2 s5 s6 s7 : Slot} (S0 : Shp aim.length (rs.length + 1) B (mat0 rs aim)) (hn : aim.length < 900) (hm : rs.length < 900) (hB : ∀ k, k ≤ rs.length → k ≤ aim.length → 2 * bG B k + 1 ≤ 1400)
    (hk : k < rs.length) (hg : gs (mat0 rs aim) k = some L) (i2 : IsD s2) (i5 : IsD s5) (i6 : IsD s6) (i7 : IsD s7) :
    (∃ ρ2, Nx (fSeq (fSet 5 (fGive (fComp (iRange2 (fCons (fVar 4) (fCons (fLenV 3) fNil))) (fPut0 2) (fTB (fBin gNe (fBin gIx (fIxV 3 (fVar 2)) (fVar 4)) (fC (.int 0)))) (fVar 2) [2])))
 (fSeq (fIfS (fNot (fTruV 5)) (fRet (fC .non))
 fSkip)
 (fSeq (fSet 6 (fIxV 3 (fIxV 5 (fC (.int 0)))))
 (fSeq (fSetIx 3 (fIxV 5 (fC (.int 0))) (fIxV 3 (fVar 4)))
 (fSeq (fSetIx 3 (fVar 4) (fVar 6))
 (fFor (iRange1 (fCons (fLenV 3) fNil)) (fPut0 2)
 (fIfS (fTB (fBin gNe (fVar 2) (fVar 4))) (fSeq (fSet 7 (fIxV 3 (fVar 2)))
 (fSetIx 3 (fVar 2) (fGive (fComp (iRange1 (fCons (fLenV 6) fNil)) (fPut0 9) fYes (fBin gMinus (fBin gMul (fIxV 6 (fVar 4)) (fIxV 7 (fVar 9))) (fBin gMul (fIxV 7 (fVar 4)) (fIxV 6 (fVar 9)))) [9]))))
 fSkip))))))) (SW rs aim s2 L (.dat (.int (k : Nat))) s5 s6 s7) ρ2 ∧ ∃ L' s2 s5 s6 s7, gs (mat0 rs aim) (k + 1) = some L' ∧ IsD s2 ∧ IsD s5 ∧ IsD s6 ∧ IsD s7 ∧ ρ2 = SW rs aim s2 L' (.dat (.int (k : Nat))) s5 s6 s7) ∨
    ∃ ρ2, RtE (fSeq (fSet 5 (fGive (fComp (iRange2 (fCons (fVar 4) (fCons (fLenV 3) fNil))) (fPut0 2) (fTB (fBin gNe (fBin gIx (fIxV 3 (fVar 2)) (fVar 4)) (fC (.int 0)))) (fVar 2) [2])))
 (fSeq (fIfS (fNot (fTruV 5)) (fRet (fC .non))
 fSkip)
 (fSeq (fSet 6 (fIxV 3 (fIxV 5 (fC (.int 0)))))
 (fSeq (fSetIx 3 (fIxV 5 (fC (.int 0))) (fIxV 3 (fVar 4)))
 (fSeq (fSetIx 3 (fVar 4) (fVar 6))
 (fFor (iRange1 (fCons (fLenV 3) fNil)) (fPut0 2)
 (fIfS (fTB (fBin gNe (fVar 2) (fVar 4))) (fSeq (fSet 7 (fIxV 3 (fVar 2)))
 (fSetIx 3 (fVar 2) (fGive (fComp (iRange1 (fCons (fLenV 6) fNil)) (fPut0 9) fYes (fBin gMinus (fBin gMul (fIxV 6 (fVar 4)) (fIxV 7 (fVar 9))) (fBin gMul (fIxV 7 (fVar 4)) (fIxV 6 (fVar 9)))) [9]))))
 fSkip))))))) (SW rs aim s2 L (.dat (.int (k : Nat))) s5 s6 s7) .non ρ2 ∧ gs (mat0 rs aim) rs.length = none := by
  obtain ⟨S, hkn⟩ := S0.gs hg
  have hLl := S.len
  have hb := hB k (by omega) hkn
  have hw2 : wipOk [2] (SW rs aim s2 L (.dat (.int (k : Nat))) s5 s6 s7) = true := by rcases i2 with rfl | ⟨_, rfl⟩ <;> rfl
  have hsp := fComp_eval (enc := fun j : Nat => D.int ((k : Nat) + (j : Nat))) (p := fun j : Nat => decide (ent L (k + j) k ≠ 0)) (fv := fun j : Nat => D.int ((k : Nat) + (j : Nat))) (fi := iRange2 (fCons (fVar 4) (fCons (fLenV 3) fNil))) (T := fPut0 2) (ft := fTB (fBin gNe (fBin gIx (fIxV 3 (fVar 2)) (fVar 4)) (fC (.int 0)))) (fe := fVar 2) (vs := [2])
    (ρ := SW rs aim s2 L (.dat (.int (k : Nat))) s5 s6 s7) (ρ0 := SW rs aim s2 L (.dat (.int (k : Nat))) s5 s6 s7) (List.range (L.length - k)) (by
      have : ((L.length : Int) - (k : Int)).toNat = L.length - k := by omega
      simp [intsFrom, this]; omega) (lenOk_of (by simp; omega)) hw2 (fun j hj => by
      have hj : k + j < aim.length := by have : j < L.length - k := by simpa using hj
                                         omega
      have a1 := S.lat hj
      have a2 := atI_int (ns := L.getD (k + j) []) (c := k) (by rw [(S.at hj).1]; omega)
      have ec : ((k : Int) + (j : Int)) = ((k + j : Nat) : Int) := by omega
      rw [ec]
      refine ⟨SW rs aim (.dat (.int ((k + j : Nat) : Int))) L (.dat (.int (k : Nat))) s5 s6 s7, by simp [wipeE], SW rs aim (.dat (.int ((k + j : Nat) : Int))) L (.dat (.int (k : Nat))) s5 s6 s7, ?_, fun _ => ⟨SW rs aim (.dat (.int ((k + j : Nat) : Int))) L (.dat (.int (k : Nat))) s5 s6 s7, by simp, rfl, by simp [wipeE]⟩, fun _ => ⟨rfl, by simp [wipeE]⟩⟩
      rw [fTB_ap, fBin_ap, fBin_ap, fIxV_ap]
      simp only [List.getElem?_cons_succ, List.getElem?_cons_zero, fVar_ap, Option.bind_some, mu_own, a1, gIx_l, a2, fC_ap, gNe_i]
      by_cases c : ent L (k + j) k = 0
      · simp [c]
      · simp [c])
  have hsp' : (((List.range (L.length - k)).filter fun j : Nat => decide (ent L (k + j) k ≠ 0)).map fun j : Nat => D.int ((k : Nat) + (j : Nat))) = (spots L k).map fun j : Nat => D.int (j : Nat) := by
    unfold spots rangeN
    rw [List.filter_map, List.map_map]
    simp [Function.comp_def]
  rw [hsp'] at hsp
  have e5 : Nx (fSet 5 (fGive (fComp (iRange2 (fCons (fVar 4) (fCons (fLenV 3) fNil))) (fPut0 2) (fTB (fBin gNe (fBin gIx (fIxV 3 (fVar 2)) (fVar 4)) (fC (.int 0)))) (fVar 2) [2]))) (SW rs aim s2 L (.dat (.int (k : Nat))) s5 s6 s7) (SW rs aim s2 L (.dat (.int (k : Nat))) (.dat (.lst ((spots L k).map fun j : Nat => D.int (j : Nat)))) s6 s7) :=
    nx_set (d0 := .lst ((spots L k).map fun j : Nat => D.int (j : Nat))) (ρ1 := SW rs aim s2 L (.dat (.int (k : Nat))) s5 s6 s7) (by rw [fGive_ap, hsp]; rfl) (by rcases i5 with rfl | ⟨_, rfl⟩ <;> simp)
  cases hs : spots L k with
  | nil =>
    right
    rw [hs] at e5
    refine ⟨SW rs aim s2 L (.dat (.int (k : Nat))) (.dat (.lst [])) s6 s7, ?_, ?_⟩
    · exact rtE_seq e5 (rtE_seq1 (rtE_if (b := true) (ρ1 := SW rs aim s2 L (.dat (.int (k : Nat))) (.dat (.lst [])) s6 s7) rfl (fun _ => rtE_ret rfl) (fun h => by cases h)))
    · have h1 : gs (mat0 rs aim) (k + 1) = none := by
        show (gs (mat0 rs aim) k).bind _ = none
        rw [hg]; simp only [Option.bind_some]; rw [hs]
      have := gs_none h1 (rs.length - (k + 1))
      rwa [show k + 1 + (rs.length - (k + 1)) = rs.length by omega] at this
  | cons p ps =>
    left
    obtain ⟨p1, p2, p3⟩ := spots_mem (L := L) (k := k) (p := p) (by rw [hs]; simp)
    rw [hs] at e5
    have hpn : p < aim.length := by omega
    have hkn' : k < aim.length := by omega
    obtain ⟨lp, bp⟩ := S.at hpn
    have a5 : ∀ (M : List (List Int)) (x6 : Slot), fIxV 5 (fC (.int 0)) (SW rs aim s2 M (.dat (.int (k : Nat))) (.dat (.lst ((p :: ps).map fun j : Nat => D.int (j : Nat)))) x6 s7) = some (.int (p : Nat), SW rs aim s2 M (.dat (.int (k : Nat))) (.dat (.lst ((p :: ps).map fun j : Nat => D.int (j : Nat)))) x6 s7) := fun M x6 => by simp [atI, ixN]
    have aL := S.lat hpn
    have aK := S.lat hkn'
    have e6 : Nx (fSet 6 (fIxV 3 (fIxV 5 (fC (.int 0))))) (SW rs aim s2 L (.dat (.int (k : Nat))) (.dat (.lst ((p :: ps).map fun j : Nat => D.int (j : Nat)))) s6 s7) (SW rs aim s2 L (.dat (.int (k : Nat))) (.dat (.lst ((p :: ps).map fun j : Nat => D.int (j : Nat)))) (.dat (lstI (L.getD p []))) s7) := by
      refine nx_set (d0 := lstI (L.getD p [])) (ρ1 := SW rs aim s2 L (.dat (.int (k : Nat))) (.dat (.lst ((p :: ps).map fun j : Nat => D.int (j : Nat)))) s6 s7) ?_ (by rcases i6 with rfl | ⟨_, rfl⟩ <;> simp)
      rw [fIxV_ap]
      simp only [List.getElem?_cons_succ, List.getElem?_cons_zero, a5, Option.bind_some, mu_own, aL]
    have e7 := sw_set (rs := rs) (aim := aim) (s2 := s2) (L := L) (s4 := .dat (.int (k : Nat))) (s5 := .dat (.lst ((p :: ps).map fun j : Nat => D.int (j : Nat)))) (s6 := .dat (lstI (L.getD p []))) (s7 := s7) (fe := fIxV 3 (fVar 4)) (fb := fIxV 5 (fC (.int 0))) (row := L.getD k []) (j := p) p2 (by
      rw [fIxV_ap]
      simp only [List.getElem?_cons_succ, List.getElem?_cons_zero, fVar_ap, Option.bind_some, mu_own, aK]) (a5 L _)
    have e8 := sw_set (rs := rs) (aim := aim) (s2 := s2) (L := L.set p (L.getD k [])) (s4 := .dat (.int (k : Nat))) (s5 := .dat (.lst ((p :: ps).map fun j : Nat => D.int (j : Nat)))) (s6 := .dat (lstI (L.getD p []))) (s7 := s7) (fe := fVar 6) (fb := fVar 4) (row := L.getD p []) (j := k) (by simp; omega) rfl rfl
    have SS := S.swap hpn hkn'
    obtain ⟨t2, t7, j2, j7, e9⟩ := sw_elim (rs := rs) (aim := aim) (s2 := s2) (s5 := .dat (.lst ((p :: ps).map fun j : Nat => D.int (j : Nat)))) (s7 := s7) (line := L.getD p []) (L1 := swapL L p k) (k := k) SS (by omega) lp bp (by omega) (by omega) (by omega) i2 i7
    have hsl : (swapL L p k).length = L.length := by simp [swapL]
    rw [hsl] at e9
    refine ⟨SW rs aim t2 (elimL L p k) (.dat (.int (k : Nat))) (.dat (.lst ((p :: ps).map fun j : Nat => D.int (j : Nat)))) (.dat (lstI (L.getD p []))) t7, ?_, elimL L p k, t2, .dat (.lst ((p :: ps).map fun j : Nat => D.int (j : Nat))), .dat (lstI (L.getD p [])), t7, ?_, j2, isD_dat, isD_dat, j7, rfl⟩
    · refine nx_seq e5 (nx_seq (ρ1 := SW rs aim s2 L (.dat (.int (k : Nat))) (.dat (.lst ((p :: ps).map fun j : Nat => D.int (j : Nat)))) s6 s7) ?_ (nx_seq e6 (nx_seq e7 (nx_seq e8 e9))))
      exact nx_if (b := false) (ρ1 := SW rs aim s2 L (.dat (.int (k : Nat))) (.dat (.lst ((p :: ps).map fun j : Nat => D.int (j : Nat)))) s6 s7) rfl (fun h => by cases h) fun _ => rfl
    · show (gs (mat0 rs aim) k).bind _ = _
      rw [hg]; simp only [Option.bind_some]; rw [hs]
theorem lw_end {L : List (List Int)} {s2 s4 s5 s6 s7 : Slot} (S : Shp aim.length (rs.length + 1) (bG B rs.length) L) (hle : rs.length ≤ aim.length) (hn : aim.length < 900) (hm : rs.length < 900) (hB : 2 * bG B rs.length + 1 ≤ 1400) (hg : gs (mat0 rs aim) rs.length = some L) (hpiv : ∀ k, k < rs.length → ent L k k ≠ 0) (i2 : IsD s2) (i4 : IsD s4) :
    Rt (fSeq (fFor (iRange2 (fCons (fLenV 0) (fCons (fLenV 3) fNil))) (fPut0 2)
 (fIfS (fTB (fBin gNe (fBin gIx (fIxV 3 (fVar 2)) (fLenV 0)) (fC (.int 0)))) (fRet (fC .non))
 fSkip))
 (fRet (fGive (fComp (iRange1 (fCons (fLenV 0) fNil)) (fPut0 4) fYes (fCall 2 g__law_fraction (frD (fBin gIx (fIxV 3 (fVar 4)) (fLenV 0)) (frD (fBin gIx (fIxV 3 (fVar 4)) (fVar 4)) frNil))) [4])))) (SW rs aim s2 L s4 s5 s6 s7) (encO (weightsL rs aim)) := by
  have hLl := S.len
  have hloop := loopF_preR (enc := fun j : Nat => D.int ((rs.length : Nat) + (j : Nat))) (T := fPut0 2) (F := (fIfS (fTB (fBin gNe (fBin gIx (fIxV 3 (fVar 2)) (fLenV 0)) (fC (.int 0)))) (fRet (fC .non))
 fSkip)) (I := fun done ρ => (∃ s2, IsD s2 ∧ ρ = SW rs aim s2 L s4 s5 s6 s7) ∧ ∀ j, j ∈ done → ent L (rs.length + j) rs.length = 0) (Rr := fun d => d = .non ∧ ∃ j, j < L.length - rs.length ∧ ent L (rs.length + j) rs.length ≠ 0)
    (List.range (L.length - rs.length)) (List.range (L.length - rs.length)) [] (SW rs aim s2 L s4 s5 s6 s7) rfl ⟨⟨s2, i2, rfl⟩, fun j hj => by simp at hj⟩ (fun done j rest e ρ ⟨⟨s2, i2, er⟩, hz⟩ => by
      subst er
      have hj : j < L.length - rs.length := by
        have : j ∈ List.range (L.length - rs.length) := by rw [← e]; simp
        simpa using this
      have hj2 : rs.length + j < aim.length := by omega
      have a1 := S.lat hj2
      have a2 := atI_int (ns := L.getD (rs.length + j) []) (c := rs.length) (by rw [(S.at hj2).1]; omega)
      have ec : ((rs.length : Int) + (j : Int)) = ((rs.length + j : Nat) : Int) := by omega
      have ht : fTB (fBin gNe (fBin gIx (fIxV 3 (fVar 2)) (fLenV 0)) (fC (.int 0))) (SW rs aim (.dat (.int ((rs.length + j : Nat) : Int))) L s4 s5 s6 s7) = some (!decide (ent L (rs.length + j) rs.length = 0), SW rs aim (.dat (.int ((rs.length + j : Nat) : Int))) L s4 s5 s6 s7) := by
        rw [fTB_ap, fBin_ap, fBin_ap, fIxV_ap]
        simp only [List.getElem?_cons_succ, List.getElem?_cons_zero, fVar_ap, Option.bind_some, mu_own, a1, fLenV_ap, gLen_l, List.length_map, gIx_l, a2, fC_ap, gNe_i]
      refine ⟨SW rs aim (.dat (.int ((rs.length + j : Nat) : Int))) L s4 s5 s6 s7, by rw [ec]; rcases i2 with rfl | ⟨_, rfl⟩ <;> simp, ?_⟩
      by_cases c : ent L (rs.length + j) rs.length = 0
      · left
        have ht' := ht
        rw [decide_eq_true c] at ht'
        refine ⟨SW rs aim (.dat (.int ((rs.length + j : Nat) : Int))) L s4 s5 s6 s7, nx_if (b := false) ht' (fun h => by cases h) (fun _ => rfl), ⟨_, isD_dat, rfl⟩, fun x hx => ?_⟩
        rcases List.mem_append.mp hx with hx | hx
        · exact hz x hx
        · simp at hx; subst hx; exact c
      · right
        have ht' := ht
        rw [decide_eq_false c] at ht'
        exact ⟨.non, SW rs aim (.dat (.int ((rs.length + j : Nat) : Int))) L s4 s5 s6 s7, rtE_if (b := true) ht' (fun _ => rtE_ret rfl) (fun h => by cases h), rfl, j, hj, c⟩)
  have hi : iRange2 (fCons (fLenV 0) (fCons (fLenV 3) fNil)) (SW rs aim s2 L s4 s5 s6 s7) = some ((List.range (L.length - rs.length)).map fun j : Nat => D.int ((rs.length : Nat) + (j : Nat)), SW rs aim s2 L s4 s5 s6 s7) := by
    have : ((L.length : Int) - (rs.length : Int)).toNat = L.length - rs.length := by omega
    simp [intsFrom, this]; omega
  have hall : ((rangeN rs.length L.length).all fun j => decide (ent L j rs.length = 0)) = true ↔ ∀ j, j < L.length - rs.length → ent L (rs.length + j) rs.length = 0 := by
    rw [List.all_eq_true]
    constructor
    · intro h j hj
      exact of_decide_eq_true (h (rs.length + j) (List.mem_map.mpr ⟨j, by simpa using hj, rfl⟩))
    · intro h x hx
      obtain ⟨t, ht, rfl⟩ := List.mem_map.mp hx
      exact decide_eq_true (h t (by simpa using ht))
  rcases hloop with ⟨ρ', q, ⟨t2, j2, er⟩, hz⟩ | ⟨d, ρ', q, rfl, j, hj, hne⟩
  · subst er
    have hw : weightsL rs aim = some ((List.range rs.length).map fun k => redS (ent L k rs.length) (ent L k k)) := by
      unfold weightsL
      rw [hg]
      simp only [Option.bind_some]
      rw [if_pos (hall.mpr fun j hj => hz j (by simpa using hj))]
    have hd : encO (weightsL rs aim) = .lst ((List.range rs.length).map fun k => encF (redS (ent L k rs.length) (ent L k k))) := by
      rw [hw]; show D.lst _ = _; rw [List.map_map]; rfl
    rw [hd]
    refine rt_seq (nx_for hi q) (rt_ret ⟨SW rs aim t2 L s4 s5 s6 s7, ?_⟩)
    have hw4 : wipOk [4] (SW rs aim t2 L s4 s5 s6 s7) = true := by rcases i4 with rfl | ⟨_, rfl⟩ <;> rfl
    have hc := fComp_map (enc := fun j : Nat => D.int (0 + (j : Nat))) (fv := fun k : Nat => encF (redS (ent L k rs.length) (ent L k k))) (fi := iRange1 (fCons (fLenV 0) fNil)) (T := fPut0 4) (fe := fCall 2 g__law_fraction (frD (fBin gIx (fIxV 3 (fVar 4)) (fLenV 0)) (frD (fBin gIx (fIxV 3 (fVar 4)) (fVar 4)) frNil))) (vs := [4])
      (ρ := SW rs aim t2 L s4 s5 s6 s7) (ρ0 := SW rs aim t2 L s4 s5 s6 s7) (List.range rs.length) (by simp [intsFrom]; omega) (lenOk_of (by simp; omega)) hw4 (fun k hk => by
        have hk : k < rs.length := by simpa using hk
        have hk2 : k < aim.length := by omega
        have ez : (0 : Int) + (k : Int) = (k : Int) := by omega
        have a1 := S.lat hk2
        have a2 := atI_int (ns := L.getD k []) (c := rs.length) (by rw [(S.at hk2).1]; omega)
        have a3 := atI_int (ns := L.getD k []) (c := k) (by rw [(S.at hk2).1]; omega)
        have hT : fPut0 4 (.int (0 + (k : Nat))) (wipeE [4] (SW rs aim t2 L s4 s5 s6 s7)) = some (SW rs aim t2 L (.dat (.int (k : Nat))) s5 s6 s7) := by rw [ez]; simp [wipeE]
        refine ⟨_, hT, SW rs aim t2 L (.dat (.int (k : Nat))) s5 s6 s7, ?_, rfl, by simp [wipeE]⟩
        refine call_ev (ds := [.int (ent L k rs.length), .int (ent L k k)]) ?_ rfl (ev_lfraction ((S.at hk2).2.get _) ((S.at hk2).2.get _) (by omega) (hpiv k hk))
        rw [frD_ap, fBin_ap, fIxV_ap]
        simp only [List.getElem?_cons_succ, List.getElem?_cons_zero, fVar_ap, Option.bind_some, mu_own, a1, fLenV_ap, gLen_l, List.length_map, gIx_l, a2]
        rw [frD_ap, fBin_ap, fIxV_ap]
        simp only [List.getElem?_cons_succ, List.getElem?_cons_zero, fVar_ap, Option.bind_some, mu_own, a1, gIx_l, a3, frNil_ap]
        rfl)
    rw [fGive_ap, hc]
    rfl
  · have hw : weightsL rs aim = none := by
      unfold weightsL
      rw [hg]
      simp only [Option.bind_some]
      rw [if_neg fun h => hne (hall.mp h j hj)]
    have hd : encO (weightsL rs aim) = .non := by rw [hw]; rfl
    rw [hd]
    exact rt_seq1 (rt_for hi ⟨ρ', q⟩)
theorem ev_lweights (hr : ∀ r, r ∈ rs → r.length = aim.length ∧ Bd B r) (ha : Bd B aim) (hn : aim.length < 900) (hm : rs.length < 900) (hB : ∀ k, k ≤ rs.length → k ≤ aim.length → 2 * bG B k + 1 ≤ 1400)
    (hpiv : ∀ L, gs (mat0 rs aim) rs.length = some L → ∀ k, k < rs.length → ent L k k ≠ 0) :
    g__law_weights [.dat (.lst (rs.map tupI)), .dat (tupI aim)] = some (encO (weightsL rs aim), [.dat (.lst (rs.map tupI)), .dat (tupI aim)]) := by
  refine body_rt (ds := [.lst (rs.map tupI), tupI aim]) ?_
  show Rt F__law_weights [.dat (.lst (rs.map tupI)), .dat (tupI aim), .un, .un, .un, .un, .un, .un, .un, .un] _
  unfold F__law_weights
  have S0 := mat0_shp (aim := aim) (fun r h => (hr r h).2) ha
  -- the lines
  have e0 : Nx (fSetN 3 (fComp (iRange1 (fCons (fLenV 1) fNil)) (fPut0 2) fYes (fGive (fCatN (fComp (iOf (fVar 0)) (fPut0 8) fYes (fIxV 8 (fVar 2)) [8]) (fLst (fCons (fIxV 1 (fVar 2)) fNil)))) [2])) [.dat (.lst (rs.map tupI)), .dat (tupI aim), .un, .un, .un, .un, .un, .un, .un, .un] (SW rs aim .un (mat0 rs aim) .un .un .un .un) := by
    have hc := fComp_map (enc := fun j : Nat => D.int (0 + (j : Nat))) (fv := fun j : Nat => lstI ((rs.map fun r => r.getD j 0) ++ [aim.getD j 0])) (fi := iRange1 (fCons (fLenV 1) fNil)) (T := fPut0 2) (fe := fGive (fCatN (fComp (iOf (fVar 0)) (fPut0 8) fYes (fIxV 8 (fVar 2)) [8]) (fLst (fCons (fIxV 1 (fVar 2)) fNil)))) (vs := [2])
      (ρ := [.dat (.lst (rs.map tupI)), .dat (tupI aim), .un, .un, .un, .un, .un, .un, .un, .un]) (ρ0 := [.dat (.lst (rs.map tupI)), .dat (tupI aim), .un, .un, .un, .un, .un, .un, .un, .un]) (List.range aim.length) (by simp [intsFrom]; omega) (lenOk_of (by simp; omega)) rfl (fun j hj => by
        have hj : j < aim.length := by simpa using hj
        have ez : (0 : Int) + (j : Int) = (j : Int) := by omega
        refine ⟨[.dat (.lst (rs.map tupI)), .dat (tupI aim), .dat (.int (0 + (j : Nat))), .un, .un, .un, .un, .un, .un, .un], by simp [wipeE], [.dat (.lst (rs.map tupI)), .dat (tupI aim), .dat (.int (0 + (j : Nat))), .un, .un, .un, .un, .un, .un, .un], ?_, rfl, rfl⟩
        have hc2 := fComp_map (enc := tupI) (fv := fun r : List Int => D.int (r.getD j 0)) (fi := iOf (fVar 0)) (T := fPut0 8) (fe := fIxV 8 (fVar 2)) (vs := [8]) (ρ := [.dat (.lst (rs.map tupI)), .dat (tupI aim), .dat (.int (0 + (j : Nat))), .un, .un, .un, .un, .un, .un, .un]) (ρ0 := [.dat (.lst (rs.map tupI)), .dat (tupI aim), .dat (.int (0 + (j : Nat))), .un, .un, .un, .un, .un, .un, .un]) rs (by simp) (lenOk_of (by omega)) rfl (fun r hrm => by
          have a1 := atI_int (ns := r) (c := j) (by rw [(hr r hrm).1]; exact hj)
          refine ⟨[.dat (.lst (rs.map tupI)), .dat (tupI aim), .dat (.int (0 + (j : Nat))), .un, .un, .un, .un, .un, .dat (tupI r), .un], by simp [wipeE], [.dat (.lst (rs.map tupI)), .dat (tupI aim), .dat (.int (0 + (j : Nat))), .un, .un, .un, .un, .un, .dat (tupI r), .un], ?_, rfl, rfl⟩
          rw [fIxV_ap]
          simp only [List.getElem?_cons_succ, List.getElem?_cons_zero, fVar_ap, Option.bind_some, gIx_t, ez, a1])
        have a2 := atI_int (ns := aim) (c := j) hj
        have e1 : fLst (fCons (fIxV 1 (fVar 2)) fNil) [.dat (.lst (rs.map tupI)), .dat (tupI aim), .dat (.int (0 + (j : Nat))), .un, .un, .un, .un, .un, .un, .un] = some (.lst [.int (aim.getD j 0)], [.dat (.lst (rs.map tupI)), .dat (tupI aim), .dat (.int (0 + (j : Nat))), .un, .un, .un, .un, .un, .un, .un]) := by
          rw [fLst_ap, fCons_ap, fIxV_ap]
          simp only [List.getElem?_cons_succ, List.getElem?_cons_zero, fVar_ap, Option.bind_some, gIx_t, ez, a2, fNil_ap]
          rfl
        have l2 : lenOk (rs.length + 1) = true := lenOk_of (by omega)
        rw [fGive_ap, fCatN_ap, hc2]
        simp only [Option.bind_some, e1]
        simp [l2, Function.comp_def])
    have hc' : fComp (iRange1 (fCons (fLenV 1) fNil)) (fPut0 2) fYes (fGive (fCatN (fComp (iOf (fVar 0)) (fPut0 8) fYes (fIxV 8 (fVar 2)) [8]) (fLst (fCons (fIxV 1 (fVar 2)) fNil)))) [2] [.dat (.lst (rs.map tupI)), .dat (tupI aim), .un, .un, .un, .un, .un, .un, .un, .un] = some (.lst ((mat0 rs aim).map lstI), [.dat (.lst (rs.map tupI)), .dat (tupI aim), .un, .un, .un, .un, .un, .un, .un, .un]) := by
      rw [hc]; unfold mat0; rw [List.map_map]; rfl
    exact nx_setN rfl hc' rfl
  refine rt_seq e0 ?_
  -- the columns
  have hloop := loopF_preR (enc := fun j : Nat => D.int (0 + (j : Nat))) (T := fPut0 4) (F := (fSeq (fSet 5 (fGive (fComp (iRange2 (fCons (fVar 4) (fCons (fLenV 3) fNil))) (fPut0 2) (fTB (fBin gNe (fBin gIx (fIxV 3 (fVar 2)) (fVar 4)) (fC (.int 0)))) (fVar 2) [2])))
 (fSeq (fIfS (fNot (fTruV 5)) (fRet (fC .non))
 fSkip)
 (fSeq (fSet 6 (fIxV 3 (fIxV 5 (fC (.int 0)))))
 (fSeq (fSetIx 3 (fIxV 5 (fC (.int 0))) (fIxV 3 (fVar 4)))
 (fSeq (fSetIx 3 (fVar 4) (fVar 6))
 (fFor (iRange1 (fCons (fLenV 3) fNil)) (fPut0 2)
 (fIfS (fTB (fBin gNe (fVar 2) (fVar 4))) (fSeq (fSet 7 (fIxV 3 (fVar 2)))
 (fSetIx 3 (fVar 2) (fGive (fComp (iRange1 (fCons (fLenV 6) fNil)) (fPut0 9) fYes (fBin gMinus (fBin gMul (fIxV 6 (fVar 4)) (fIxV 7 (fVar 9))) (fBin gMul (fIxV 7 (fVar 4)) (fIxV 6 (fVar 9)))) [9]))))
 fSkip))))))))
    (I := fun done ρ => ∃ L s2 s4 s5 s6 s7, gs (mat0 rs aim) done.length = some L ∧ IsD s2 ∧ IsD s4 ∧ IsD s5 ∧ IsD s6 ∧ IsD s7 ∧ ρ = SW rs aim s2 L s4 s5 s6 s7) (Rr := fun d => d = .non ∧ gs (mat0 rs aim) rs.length = none)
    (List.range rs.length) (List.range rs.length) [] (SW rs aim .un (mat0 rs aim) .un .un .un .un) rfl ⟨mat0 rs aim, .un, .un, .un, .un, .un, rfl, isD_un, isD_un, isD_un, isD_un, isD_un, rfl⟩ (fun done k rest e ρ ⟨L, s2, s4, s5, s6, s7, hg, i2, i4, i5, i6, i7, er⟩ => by
      subst er
      have hd : done.length = k ∧ k < rs.length := by
        have h1 : (done ++ k :: rest)[done.length]? = some k := by simp
        rw [e] at h1
        have h2 : done.length < rs.length := by
          have := congrArg List.length e
          simp at this; omega
        simp [h2] at h1
        omega
      obtain ⟨hd, hk⟩ := hd
      rw [hd] at hg
      have hT : fPut0 4 (.int (0 + (k : Nat))) (SW rs aim s2 L s4 s5 s6 s7) = some (SW rs aim s2 L (.dat (.int (k : Nat))) s5 s6 s7) := by
        have ez : (0 : Int) + (k : Int) = (k : Int) := by omega
        rw [ez]
        rcases i4 with rfl | ⟨_, rfl⟩ <;> simp
      refine ⟨_, hT, ?_⟩
      rcases sw_turn S0 hn hm hB hk hg i2 i5 i6 i7 with ⟨ρ2, h1, L', t2, t5, t6, t7, h2, j2, j5, j6, j7, er⟩ | ⟨ρ2, h1, h2⟩
      · exact .inl ⟨ρ2, h1, L', t2, .dat (.int (k : Nat)), t5, t6, t7, by rw [List.length_append, hd]; exact h2, j2, isD_dat, j5, j6, j7, er⟩
      · exact .inr ⟨.non, ρ2, h1, rfl, h2⟩)
  have hi : iRange1 (fCons (fLenV 0) fNil) (SW rs aim .un (mat0 rs aim) .un .un .un .un) = some ((List.range rs.length).map fun j : Nat => D.int (0 + (j : Nat)), SW rs aim .un (mat0 rs aim) .un .un .un .un) := by
    simp [intsFrom]; omega
  rcases hloop with ⟨ρ', q, L, s2, s4, s5, s6, s7, hg, i2, i4, i5, i6, i7, er⟩ | ⟨d, ρ', q, rfl, hgn⟩
  · subst er
    rw [List.length_range] at hg
    refine rt_seq (nx_for hi q) ?_
    exact lw_end (rs := rs) (aim := aim) (B := B) (S0.gs hg).1 (S0.gs hg).2 hn hm (hB _ (Nat.le_refl _) (S0.gs hg).2) hg (hpiv L hg) i2 i4
  · have hwn : weightsL rs aim = none := by unfold weightsL; rw [hgn]; rfl
    have hd : encO (weightsL rs aim) = .non := by rw [hwn]; rfl
    rw [hd]
    exact rt_seq1 (rt_for hi ⟨ρ', q⟩)
end
end W20
end

section
set_option Elab.async false
set_option linter.all false
set_option maxRecDepth 100000
namespace W20
open L2 DL
theorem isi1 {ds : List D} : gIsi [.tup ds, .ty "tuple"] = some (.bl true) := by unfold gIsi tyName; first | rfl | (simp only [Option.bind_some]; decide +kernel)
theorem isi2 {ds : List D} : gIsi [.lst ds, .ty "tuple"] = some (.bl false) := by unfold gIsi tyName; first | rfl | (simp only [Option.bind_some]; decide +kernel)
theorem isi3 {ds : List D} : gIsi [.lst ds, .ty "list"] = some (.bl true) := by unfold gIsi tyName; first | rfl | (simp only [Option.bind_some]; decide +kernel)
theorem isi4 {i : Int} : gIsi [.int i, .ty "tuple"] = some (.bl false) := by unfold gIsi tyName; first | rfl | (simp only [Option.bind_some]; decide +kernel)
theorem isi5 {i : Int} : gIsi [.int i, .ty "list"] = some (.bl false) := by unfold gIsi tyName; first | rfl | (simp only [Option.bind_some]; decide +kernel)
theorem isi6 {i : Int} : gIsi [.int i, .ty "str"] = some (.bl false) := by unfold gIsi tyName; first | rfl | (simp only [Option.bind_some]; decide +kernel)
theorem isi7 {i : Int} : gIsi [.int i, .ty "int"] = some (.bl true) := by unfold gIsi tyName; first | rfl | (simp only [Option.bind_some]; decide +kernel)
theorem isi8 {i : Int} : gIsi [.int i, .ty "bool"] = some (.bl false) := by unfold gIsi tyName; first | rfl | (simp only [Option.bind_some]; decide +kernel)
theorem ne_bb (b : Bool) : gNe (.bl b) (.bl b) = some (.bl false) := by cases b <;> (first | rfl | decide +kernel)
/-- data of ints, tuples, lists, n deep -/
def nice : Nat → D → Prop
  | 0, _ => False
  | _ + 1, .int _ => True
  | n + 1, .tup ds => ds.length < 4000000000000000000 ∧ ∀ d, d ∈ ds → nice n d
  | n + 1, .lst ds => ds.length < 4000000000000000000 ∧ ∀ d, d ∈ ds → nice n d
  | _ + 1, _ => False
theorem same_seq {n : Nat} {ds : List D} {x : D} {b : Bool} (a1 : gIsi [x, .ty "tuple"] = some (.bl b)) (a2 : b = false → gIsi [x, .ty "list"] = some (.bl true)) (a3 : gLen [x] = some (.int ds.length)) (a4 : ∀ i : Int, gIx x (.int i) = atI ds i)
    (hl : ds.length < 4000000000000000000) (ih : ∀ d, d ∈ ds → g__law_same n [.dat d, .dat d] = some (.bl true, [.dat d, .dat d])) : g__law_same (n + 1) [.dat x, .dat x] = some (.bl true, [.dat x, .dat x]) := by
  refine body_rt (ds := [x, x]) ?_
  show Rt (F__law_same (g__law_same n)) [.dat x, .dat x, .un] _
  unfold F__law_same
  have v1 : fN gIsi (fCons (fVar 1) (fCons (fC (.ty "tuple")) fNil)) [.dat x, .dat x, .un] = some (.bl b, [.dat x, .dat x, .un]) := by
    rw [fN_ap, fCons_ap]; simp [a1]
  have v0 : fN gIsi (fCons (fVar 0) (fCons (fC (.ty "tuple")) fNil)) [.dat x, .dat x, .un] = some (.bl b, [.dat x, .dat x, .un]) := by
    rw [fN_ap, fCons_ap]; simp [a1]
  have w1 : b = false → fN gIsi (fCons (fVar 1) (fCons (fC (.ty "list")) fNil)) [.dat x, .dat x, .un] = some (.bl true, [.dat x, .dat x, .un]) := fun h => by
    rw [fN_ap, fCons_ap]; simp [a2 h]
  have w0 : b = false → fN gIsi (fCons (fVar 0) (fCons (fC (.ty "list")) fNil)) [.dat x, .dat x, .un] = some (.bl true, [.dat x, .dat x, .un]) := fun h => by
    rw [fN_ap, fCons_ap]; simp [a2 h]
  have c1 : fOr (fTru (fN gIsi (fCons (fVar 1) (fCons (fC (.ty "tuple")) fNil)))) (fTru (fN gIsi (fCons (fVar 1) (fCons (fC (.ty "list")) fNil)))) [.dat x, .dat x, .un] = some (true, [.dat x, .dat x, .un]) := by
    rw [fOr_ap, fTru_ap, v1]
    cases b with
    | true => simp
    | false => simp only [Option.bind_some, gTru_b, Bool.false_eq_true, if_false]; rw [fTru_ap, w1 rfl]; rfl
  have c2 : fAnd (fNot (fTru (fN gIsi (fCons (fVar 0) (fCons (fC (.ty "tuple")) fNil))))) (fNot (fTru (fN gIsi (fCons (fVar 0) (fCons (fC (.ty "list")) fNil))))) [.dat x, .dat x, .un] = some (false, [.dat x, .dat x, .un]) := by
    rw [fAnd_ap, fNot_ap, fTru_ap, v0]
    cases b with
    | true => simp
    | false => simp only [Option.bind_some, gTru_b, Bool.not_false, if_true]; rw [fNot_ap, fTru_ap, w0 rfl]; rfl
  have len0 : fLenV 0 [.dat x, .dat x, .un] = some (.int ds.length, [.dat x, .dat x, .un]) := by rw [fLenV_ap]; simp [a3]
  have len1 : fLenV 1 [.dat x, .dat x, .un] = some (.int ds.length, [.dat x, .dat x, .un]) := by rw [fLenV_ap]; simp [a3]
  have c3 : fOr (fTB (fBin gNe (fN gIsi (fCons (fVar 0) (fCons (fC (.ty "tuple")) fNil))) (fN gIsi (fCons (fVar 1) (fCons (fC (.ty "tuple")) fNil))))) (fTB (fBin gNe (fLenV 0) (fLenV 1))) [.dat x, .dat x, .un] = some (false, [.dat x, .dat x, .un]) := by
    have n1 : fBin gNe (fN gIsi (fCons (fVar 0) (fCons (fC (.ty "tuple")) fNil))) (fN gIsi (fCons (fVar 1) (fCons (fC (.ty "tuple")) fNil))) [.dat x, .dat x, .un] = some (.bl false, [.dat x, .dat x, .un]) := by
      rw [fBin_ap, v0]; simp only [Option.bind_some, v1, ne_bb]
    have n2 : fBin gNe (fLenV 0) (fLenV 1) [.dat x, .dat x, .un] = some (.bl false, [.dat x, .dat x, .un]) := by
      rw [fBin_ap, len0]; simp only [Option.bind_some, len1, gNe_i]; simp
    rw [fOr_ap, fTB_ap, n1]
    simp only [Option.bind_some, Bool.false_eq_true, if_false]
    rw [fTB_ap, n2]
  refine rt_seq1 (rt_if (b := true) c1 (fun _ => ?_) (fun h => by cases h))
  refine rt_seq (nx_if (b := false) c2 (fun h => by cases h) (fun _ => rfl)) ?_
  refine rt_seq (nx_if (b := false) c3 (fun h => by cases h) (fun _ => rfl)) ?_
  obtain ⟨ρ', q, s2, i2, er⟩ := loopF_pre (enc := fun j : Nat => D.int (0 + (j : Nat))) (T := fPut0 2) (F := (fIfS (fNot (fTru (fCall 2 (g__law_same n) (frD (fIxV 0 (fVar 2)) (frD (fIxV 1 (fVar 2)) frNil))))) (fRet (fC (.bl false)))
 fSkip)) (I := fun done ρ => ∃ s2, IsD s2 ∧ ρ = [.dat x, .dat x, s2]) (List.range ds.length) (List.range ds.length) [] [.dat x, .dat x, .un] rfl ⟨.un, isD_un, rfl⟩ (fun done j rest e ρ ⟨s2, i2, er⟩ => by
      subst er
      have hj : j < ds.length := by
        have : j ∈ List.range ds.length := by rw [← e]; simp
        simpa using this
      have ez : (0 : Int) + (j : Int) = (j : Int) := by omega
      have ea : atI ds (j : Int) = some ds[j] := by unfold atI; rw [ixN_nat hj]; simp [hj]
      have e1 : fCall 2 (g__law_same n) (frD (fIxV 0 (fVar 2)) (frD (fIxV 1 (fVar 2)) frNil)) [.dat x, .dat x, .dat (.int (j : Nat))] = some (.bl true, [.dat x, .dat x, .dat (.int (j : Nat))]) := by
        refine call_ev (ds := [ds[j], ds[j]]) ?_ rfl (ih _ (List.getElem_mem hj))
        simp [a4, ea]
      refine ⟨[.dat x, .dat x, .dat (.int (j : Nat))], by rw [ez]; rcases i2 with rfl | ⟨_, rfl⟩ <;> simp, [.dat x, .dat x, .dat (.int (j : Nat))], nx_if (b := false) (ρ1 := [.dat x, .dat x, .dat (.int (j : Nat))]) ?_ (fun h => by cases h) (fun _ => rfl), .dat (.int (j : Nat)), isD_dat, rfl⟩
      rw [fNot_ap, fTru_ap, e1]; rfl)
  refine rt_seq (nx_for (ρ1 := [.dat x, .dat x, .un]) ?_ q) (rt_ret ⟨_, rfl⟩)
  rw [iRange1_ap, fCons_ap, len1]
  simp [intsFrom]; omega
theorem same_int {n : Nat} {i : Int} : g__law_same (n + 1) [.dat (.int i), .dat (.int i)] = some (.bl true, [.dat (.int i), .dat (.int i)]) := by
  refine body_rt (ds := [.int i, .int i]) ?_
  show Rt (F__law_same (g__law_same n)) [.dat (.int i), .dat (.int i), .un] _
  unfold F__law_same
  have q : ∀ (k : Nat) (t : String) (b : Bool), k < 2 → gIsi [.int i, .ty t] = some (.bl b) → fN gIsi (fCons (fVar k) (fCons (fC (.ty t)) fNil)) [.dat (.int i), .dat (.int i), .un] = some (.bl b, [.dat (.int i), .dat (.int i), .un]) := fun k t b hk h => by
    have : k = 0 ∨ k = 1 := by omega
    rcases this with rfl | rfl
    · rw [fN_ap, fCons_ap]; simp [h]
    · rw [fN_ap, fCons_ap]; simp [h]
  refine rt_seq (ρ1 := [.dat (.int i), .dat (.int i), .un]) (nx_if (b := false) (ρ1 := [.dat (.int i), .dat (.int i), .un]) ?_ (fun h => by cases h) (fun _ => rfl)) ?_
  · rw [fOr_ap, fTru_ap, q 1 _ _ (by omega) isi4]
    simp only [Option.bind_some, gTru_b, Bool.false_eq_true, if_false]
    rw [fTru_ap, q 1 _ _ (by omega) isi5]; rfl
  refine rt_seq (ρ1 := [.dat (.int i), .dat (.int i), .un]) (nx_if (b := false) (ρ1 := [.dat (.int i), .dat (.int i), .un]) (by simp) (fun h => by cases h) (fun _ => rfl)) ?_
  refine rt_seq (ρ1 := [.dat (.int i), .dat (.int i), .un]) (nx_if (b := false) (ρ1 := [.dat (.int i), .dat (.int i), .un]) ?_ (fun h => by cases h) (fun _ => rfl)) ?_
  · rw [fTru_ap, q 1 _ _ (by omega) isi6]; rfl
  refine rt_ret ⟨[.dat (.int i), .dat (.int i), .un], ?_⟩
  rw [fAndV_ap, fTB_ap, q 0 _ _ (by omega) isi7]
  simp only [Option.bind_some, if_true]
  rw [fAndV_ap, fTB_ap, fNotV_ap, fTB_ap, q 0 _ _ (by omega) isi8]
  simp
theorem ev_same : ∀ {n : Nat} {d : D}, nice n d → g__law_same n [.dat d, .dat d] = some (.bl true, [.dat d, .dat d])
  | 0, d, h => by unfold nice at h; exact h.elim
  | n + 1, .int i, _ => same_int
  | n + 1, .tup ds, h => by
    unfold nice at h
    exact same_seq (b := true) isi1 (fun h => by cases h) rfl (fun _ => rfl) h.1 fun d hd => ev_same (h.2 d hd)
  | n + 1, .lst ds, h => by
    unfold nice at h
    exact same_seq (b := false) isi2 (fun _ => isi3) rfl (fun _ => rfl) h.1 fun d hd => ev_same (h.2 d hd)
  | n + 1, .non, h | n + 1, .bl _, h | n + 1, .str _, h | n + 1, .cls _, h | n + 1, .ty _, h | n + 1, .ins _ _, h | n + 1, .dK _, h | n + 1, .dT _, h => by unfold nice at h; exact h.elim
end W20
end

section
set_option Elab.async false
set_option linter.all false
set_option maxRecDepth 100000
namespace W20
open L2 DL
def dueW (rows : List (List Int)) (aim : List Int) (size : Nat) (ch : List Nat) : Option (List (Nat × (Int × Int))) := match weightsL (ch.map fun a => rows.getD a []) aim with
  | some w => if w.all (fun p => decide (0 < p.1)) = true then some ((List.range size).map fun k => (ch.getD k 0, w.getD k (0, 0))) else none
  | none => none
def dueOf (rows : List (List Int)) (aim : List Int) (size : Nat) : List (List (Nat × (Int × Int))) := (sets rows.length size).filterMap (dueW rows aim size)
def allWays (rows : List (List Int)) (aim : List Int) : List (List (Nat × (Int × Int))) := (List.range (aim.length + 1)).flatMap (dueOf rows aim)
abbrev SD (rows : List (List Int)) (aim : List Int) (acc : List (List (Nat × (Int × Int)))) (s3 s4 s5 : Slot) : Ev := [.dat (.tup (rows.map tupI)), .dat (tupI aim), .own (.lst (acc.map encW)), s3, s4, s5, .un, .un, .un]
theorem weightsL_len {rs : List (List Int)} {aim : List Int} {w : List (Int × Int)} (h : weightsL rs aim = some w) : w.length = rs.length := by
  unfold weightsL at h
  obtain ⟨L, _, h⟩ := bind_ok h
  split at h
  · cases h; simp
  · cases h
theorem dBls_map : ∀ bs : List Bool, dBls (bs.map D.bl) = some bs
  | [] => rfl
  | b :: bs => by
    show (dBls (bs.map D.bl)).map (b :: ·) = some (b :: bs)
    rw [dBls_map bs]; rfl
section
variable {rows : List (List Int)} {aim : List Int} {size : Nat}
theorem sd_turn {acc : List (List (Nat × (Int × Int)))} {ch : List Nat} {s5 : Slot} (hs : size < 1000) (hm : rows.length < 1000) (hl : ch.length = size) (hch : ∀ a, a ∈ ch → a < rows.length)
    (hw : g__law_weights [.dat (.lst ((ch.map fun a => rows.getD a []).map tupI)), .dat (tupI aim)] = some (encO (weightsL (ch.map fun a => rows.getD a []) aim), [.dat (.lst ((ch.map fun a => rows.getD a []).map tupI)), .dat (tupI aim)]))
    (hacc : acc.length < 16000000) (i5 : IsD s5) :
    ∃ t5, IsD t5 ∧ Nx (fSeq (fSet 5 (fCall 2 g__law_weights (frD (fGive (fComp (iOf (fVar 4)) (fPut0 6) fYes (fIxV 0 (fVar 6)) [6])) (frD (fVar 1) frNil))))
 (fIfS (fAnd (fTB (fBin gNotN (fVar 5) (fC .non))) (fTru (fN gAll (fCons (fGive (fComp (iOf (fVar 5)) (fPut0 7) fYes (fBin gGt (fIxV 7 (fC (.int 0))) (fC (.int 0))) [7])) fNil)))) (fApp 2 (fN gTuple (fCons (fGive (fComp (iRange1 (fCons (fVar 3) fNil)) (fPut0 8) fYes (fTup (fCons (fIxV 4 (fVar 8)) (fCons (fIxV 5 (fVar 8)) fNil))) [8])) fNil)))
 fSkip)) (SD rows aim acc (.dat (.int (size : Nat))) (.dat (tupN ch)) s5) (SD rows aim (acc ++ (dueW rows aim size ch).toList) (.dat (.int (size : Nat))) (.dat (tupN ch)) t5) := by
  have hc := fComp_map (enc := fun a : Nat => D.int (a : Nat)) (fv := fun a : Nat => tupI (rows.getD a [])) (fi := iOf (fVar 4)) (T := fPut0 6) (fe := fIxV 0 (fVar 6)) (vs := [6]) (ρ := SD rows aim acc (.dat (.int (size : Nat))) (.dat (tupN ch)) s5) (ρ0 := SD rows aim acc (.dat (.int (size : Nat))) (.dat (tupN ch)) s5) ch (by simp) (lenOk_of (by omega)) rfl (fun a ha => by
    have h1 := hch a ha
    have ea : atI (rows.map tupI) (a : Int) = some (tupI (rows.getD a [])) := by
      unfold atI
      rw [List.length_map, ixN_nat h1]
      simp [h1]
    refine ⟨[.dat (.tup (rows.map tupI)), .dat (tupI aim), .own (.lst (acc.map encW)), .dat (.int (size : Nat)), .dat (tupN ch), s5, .dat (.int (a : Nat)), .un, .un], by simp [wipeE], [.dat (.tup (rows.map tupI)), .dat (tupI aim), .own (.lst (acc.map encW)), .dat (.int (size : Nat)), .dat (tupN ch), s5, .dat (.int (a : Nat)), .un, .un], ?_, rfl, rfl⟩
    rw [fIxV_ap]
    simp only [List.getElem?_cons_succ, List.getElem?_cons_zero, fVar_ap, Option.bind_some, gIx_t, ea])
  have e5 : Nx (fSet 5 (fCall 2 g__law_weights (frD (fGive (fComp (iOf (fVar 4)) (fPut0 6) fYes (fIxV 0 (fVar 6)) [6])) (frD (fVar 1) frNil)))) (SD rows aim acc (.dat (.int (size : Nat))) (.dat (tupN ch)) s5) (SD rows aim acc (.dat (.int (size : Nat))) (.dat (tupN ch)) (.dat (encO (weightsL (ch.map fun a => rows.getD a []) aim)))) := by
    refine nx_set (d0 := encO (weightsL (ch.map fun a => rows.getD a []) aim)) (ρ1 := SD rows aim acc (.dat (.int (size : Nat))) (.dat (tupN ch)) s5) (call_ev (ds := [.lst ((ch.map fun a => rows.getD a []).map tupI), tupI aim]) ?_ rfl hw) (by rcases i5 with rfl | ⟨_, rfl⟩ <;> simp)
    rw [frD_ap, fGive_ap, hc]
    simp [List.map_map, Function.comp_def]
  refine ⟨.dat (encO (weightsL (ch.map fun a => rows.getD a []) aim)), isD_dat, nx_seq e5 ?_⟩
  cases hW : weightsL (ch.map fun a => rows.getD a []) aim with
  | none =>
    have hd : dueW rows aim size ch = none := by unfold dueW; rw [hW]
    have hacc2 : acc ++ (dueW rows aim size ch).toList = acc := by rw [hd]; simp
    have ht : fAnd (fTB (fBin gNotN (fVar 5) (fC .non))) (fTru (fN gAll (fCons (fGive (fComp (iOf (fVar 5)) (fPut0 7) fYes (fBin gGt (fIxV 7 (fC (.int 0))) (fC (.int 0))) [7])) fNil))) (SD rows aim acc (.dat (.int (size : Nat))) (.dat (tupN ch)) (.dat (encO none))) = some (false, SD rows aim acc (.dat (.int (size : Nat))) (.dat (tupN ch)) (.dat (encO none))) := rfl
    have := nx_if (b := false) (F := (fApp 2 (fN gTuple (fCons (fGive (fComp (iRange1 (fCons (fVar 3) fNil)) (fPut0 8) fYes (fTup (fCons (fIxV 4 (fVar 8)) (fCons (fIxV 5 (fVar 8)) fNil))) [8])) fNil)))) (G := fSkip) (ρ2 := SD rows aim acc (.dat (.int (size : Nat))) (.dat (tupN ch)) (.dat (encO none))) ht (fun h => by cases h) (fun _ => rfl)
    exact hacc2.symm ▸ this
  | some w =>
    have hwl : w.length = size := by rw [weightsL_len hW, List.length_map, hl]
    have hc7 := fComp_map (enc := encF) (fv := fun p : Int × Int => D.bl (decide (0 < p.1))) (fi := iOf (fVar 5)) (T := fPut0 7) (fe := fBin gGt (fIxV 7 (fC (.int 0))) (fC (.int 0))) (vs := [7]) (ρ := SD rows aim acc (.dat (.int (size : Nat))) (.dat (tupN ch)) (.dat (encO (some w)))) (ρ0 := SD rows aim acc (.dat (.int (size : Nat))) (.dat (tupN ch)) (.dat (encO (some w)))) w (by simp [encO]) (lenOk_of (by omega)) rfl (fun p hp => by
      refine ⟨[.dat (.tup (rows.map tupI)), .dat (tupI aim), .own (.lst (acc.map encW)), .dat (.int (size : Nat)), .dat (tupN ch), .dat (encO (some w)), .un, .dat (encF p), .un], by simp [wipeE], [.dat (.tup (rows.map tupI)), .dat (tupI aim), .own (.lst (acc.map encW)), .dat (.int (size : Nat)), .dat (tupN ch), .dat (encO (some w)), .un, .dat (encF p), .un], ?_, rfl, rfl⟩
      simp [atI, ixN])
    have ht : fAnd (fTB (fBin gNotN (fVar 5) (fC .non))) (fTru (fN gAll (fCons (fGive (fComp (iOf (fVar 5)) (fPut0 7) fYes (fBin gGt (fIxV 7 (fC (.int 0))) (fC (.int 0))) [7])) fNil))) (SD rows aim acc (.dat (.int (size : Nat))) (.dat (tupN ch)) (.dat (encO (some w)))) = some (w.all (fun p => decide (0 < p.1)), SD rows aim acc (.dat (.int (size : Nat))) (.dat (tupN ch)) (.dat (encO (some w)))) := by
      refine r_and (b := true) (ρ1 := SD rows aim acc (.dat (.int (size : Nat))) (.dat (tupN ch)) (.dat (encO (some w)))) rfl (fun _ => ?_) (fun h => by cases h)
      rw [fTru_ap, fN_ap, fCons_ap, fGive_ap, hc7]
      have hb : gAll [.lst (w.map fun p : Int × Int => D.bl (decide (0 < p.1)))] = some (.bl (w.all fun p => decide (0 < p.1))) := by
        have e : (w.map fun p : Int × Int => D.bl (decide (0 < p.1))) = (w.map fun p : Int × Int => decide (0 < p.1)).map D.bl := by rw [List.map_map]; rfl
        show (dBls (w.map fun p : Int × Int => D.bl (decide (0 < p.1)))).map _ = _
        rw [e, dBls_map]
        simp [List.all_map, Function.comp_def]
      simp only [Option.bind_some, toD_lst, fNil_ap, hb, gTru_b]
    refine nx_if (b := w.all fun p => decide (0 < p.1)) ht (fun hb => ?_) (fun hb => ?_)
    · have hd : dueW rows aim size ch = some ((List.range size).map fun k => (ch.getD k 0, w.getD k (0, 0))) := by unfold dueW; rw [hW]; simp only [hb, if_true]
      have hc8 := fComp_map (enc := fun j : Nat => D.int (0 + (j : Nat))) (fv := fun k : Nat => encP (ch.getD k 0, w.getD k (0, 0))) (fi := iRange1 (fCons (fVar 3) fNil)) (T := fPut0 8) (fe := fTup (fCons (fIxV 4 (fVar 8)) (fCons (fIxV 5 (fVar 8)) fNil))) (vs := [8]) (ρ := SD rows aim acc (.dat (.int (size : Nat))) (.dat (tupN ch)) (.dat (encO (some w)))) (ρ0 := SD rows aim acc (.dat (.int (size : Nat))) (.dat (tupN ch)) (.dat (encO (some w)))) (List.range size) (by simp [intsFrom]; omega) (lenOk_of (by simp; omega)) rfl (fun k hk => by
        have hk : k < size := by simpa using hk
        have ez : (0 : Int) + (k : Int) = (k : Int) := by omega
        have b1 : atI (ch.map fun a => D.int (a : Nat)) (k : Int) = some (.int (ch.getD k 0 : Nat)) := by
          unfold atI; rw [List.length_map, ixN_nat (by omega)]
          have : k < ch.length := by omega
          simp [this]
        have b2 : atI (w.map encF) (k : Int) = some (encF (w.getD k (0, 0))) := by
          unfold atI; rw [List.length_map, ixN_nat (by omega)]
          have : k < w.length := by omega
          simp [this]
        refine ⟨[.dat (.tup (rows.map tupI)), .dat (tupI aim), .own (.lst (acc.map encW)), .dat (.int (size : Nat)), .dat (tupN ch), .dat (encO (some w)), .un, .un, .dat (.int (k : Nat))], by rw [ez]; simp [wipeE], [.dat (.tup (rows.map tupI)), .dat (tupI aim), .own (.lst (acc.map encW)), .dat (.int (size : Nat)), .dat (tupN ch), .dat (encO (some w)), .un, .un, .dat (.int (k : Nat))], ?_, rfl, by simp [wipeE]⟩
        rw [fTup_ap, fCons_ap, fIxV_ap]
        simp only [List.getElem?_cons_succ, List.getElem?_cons_zero, fVar_ap, Option.bind_some, gIx_t, b1]
        rw [fCons_ap, fIxV_ap]
        simp only [List.getElem?_cons_succ, List.getElem?_cons_zero, fVar_ap, Option.bind_some, encO, gIx_l, b2, fNil_ap]
        rfl)
      refine nx_app (t0 := .own (.lst (acc.map encW))) (t := .own (.lst (acc.map encW))) (l0 := acc.map encW) (ds := acc.map encW) (d := encW ((List.range size).map fun k => (ch.getD k 0, w.getD k (0, 0)))) (ρ1 := SD rows aim acc (.dat (.int (size : Nat))) (.dat (tupN ch)) (.dat (encO (some w)))) rfl rfl ?_ rfl rfl (lenOk_of (by rw [List.length_map]; exact hacc)) ?_
      · rw [fN_ap, fCons_ap, fGive_ap, hc8]
        simp only [Option.bind_some, toD_lst, fNil_ap, gTuple_l]
        simp [List.map_map, Function.comp_def]
      · rw [hd]; simp
    · have hd : dueW rows aim size ch = none := by unfold dueW; rw [hW]; simp only [hb, Bool.false_eq_true, if_false]
      have hacc2 : acc ++ (dueW rows aim size ch).toList = acc := by rw [hd]; simp
      have : Nx fSkip (SD rows aim acc (.dat (.int (size : Nat))) (.dat (tupN ch)) (.dat (encO (some w)))) (SD rows aim acc (.dat (.int (size : Nat))) (.dat (tupN ch)) (.dat (encO (some w)))) := rfl
      exact hacc2.symm ▸ this
end
theorem ev_all {rows : List (List Int)} {aim : List Int} (hn : aim.length < 900) (hm : rows.length < 1000) (hsz : ∀ j, j ≤ aim.length → (sets rows.length j).length < 16000000)
    (hw : ∀ size, size ≤ aim.length → ∀ ch, ch ∈ sets rows.length size → g__law_weights [.dat (.lst ((ch.map fun a => rows.getD a []).map tupI)), .dat (tupI aim)] = some (encO (weightsL (ch.map fun a => rows.getD a []) aim), [.dat (.lst ((ch.map fun a => rows.getD a []).map tupI)), .dat (tupI aim)]))
    (hl : (allWays rows aim).length < 16000000) :
    g__law_all_ways [.dat (.tup (rows.map tupI)), .dat (tupI aim)] = some (.lst ((allWays rows aim).map encW), [.dat (.tup (rows.map tupI)), .dat (tupI aim)]) := by
  refine body_rt (ds := [.tup (rows.map tupI), tupI aim]) ?_
  show Rt F__law_all_ways [.dat (.tup (rows.map tupI)), .dat (tupI aim), .un, .un, .un, .un, .un, .un, .un] _
  unfold F__law_all_ways
  refine rt_seq (ρ1 := SD rows aim [] .un .un .un) (nx_setN rfl rfl rfl) ?_
  have fm1 : ∀ (size : Nat) (ch : List Nat), [ch].filterMap (dueW rows aim size) = (dueW rows aim size ch).toList := fun size ch => by
    cases q : dueW rows aim size ch <;> simp [q]
  obtain ⟨ρ', q, s3, s4, s5, i3, i4, i5, er⟩ := loopF_pre (enc := fun j : Nat => D.int (0 + (j : Nat))) (T := fPut0 3) (F := (fFor (iOf (fCall 2 g__law_sets (frD (fLenV 0) (frD (fVar 3) frNil)))) (fPut0 4)
 (fSeq (fSet 5 (fCall 2 g__law_weights (frD (fGive (fComp (iOf (fVar 4)) (fPut0 6) fYes (fIxV 0 (fVar 6)) [6])) (frD (fVar 1) frNil))))
 (fIfS (fAnd (fTB (fBin gNotN (fVar 5) (fC .non))) (fTru (fN gAll (fCons (fGive (fComp (iOf (fVar 5)) (fPut0 7) fYes (fBin gGt (fIxV 7 (fC (.int 0))) (fC (.int 0))) [7])) fNil)))) (fApp 2 (fN gTuple (fCons (fGive (fComp (iRange1 (fCons (fVar 3) fNil)) (fPut0 8) fYes (fTup (fCons (fIxV 4 (fVar 8)) (fCons (fIxV 5 (fVar 8)) fNil))) [8])) fNil)))
 fSkip)))) (I := fun done ρ => ∃ s3 s4 s5, IsD s3 ∧ IsD s4 ∧ IsD s5 ∧ ρ = SD rows aim (done.flatMap (dueOf rows aim)) s3 s4 s5)
    (List.range (aim.length + 1)) (List.range (aim.length + 1)) [] (SD rows aim [] .un .un .un) rfl ⟨.un, .un, .un, isD_un, isD_un, isD_un, rfl⟩ (fun done size rest e ρ ⟨s3, s4, s5, i3, i4, i5, er⟩ => by
      subst er
      have hs : size ≤ aim.length := by
        have : size ∈ List.range (aim.length + 1) := by rw [← e]; simp
        have := List.mem_range.mp this
        omega
      have hT : fPut0 3 (.int (0 + (size : Nat))) (SD rows aim (done.flatMap (dueOf rows aim)) s3 s4 s5) = some (SD rows aim (done.flatMap (dueOf rows aim)) (.dat (.int (size : Nat))) s4 s5) := by
        have ez : (0 : Int) + (size : Int) = (size : Int) := by omega
        rw [ez]
        rcases i3 with rfl | ⟨_, rfl⟩ <;> simp
      refine ⟨_, hT, ?_⟩
      obtain ⟨ρ2, q2, t4, t5, j4, j5, er2⟩ := loopF_pre (enc := tupN) (T := fPut0 4) (F := (fSeq (fSet 5 (fCall 2 g__law_weights (frD (fGive (fComp (iOf (fVar 4)) (fPut0 6) fYes (fIxV 0 (fVar 6)) [6])) (frD (fVar 1) frNil))))
 (fIfS (fAnd (fTB (fBin gNotN (fVar 5) (fC .non))) (fTru (fN gAll (fCons (fGive (fComp (iOf (fVar 5)) (fPut0 7) fYes (fBin gGt (fIxV 7 (fC (.int 0))) (fC (.int 0))) [7])) fNil)))) (fApp 2 (fN gTuple (fCons (fGive (fComp (iRange1 (fCons (fVar 3) fNil)) (fPut0 8) fYes (fTup (fCons (fIxV 4 (fVar 8)) (fCons (fIxV 5 (fVar 8)) fNil))) [8])) fNil)))
 fSkip))) (I := fun d2 ρ => ∃ s4 s5, IsD s4 ∧ IsD s5 ∧ ρ = SD rows aim (done.flatMap (dueOf rows aim) ++ d2.filterMap (dueW rows aim size)) (.dat (.int (size : Nat))) s4 s5)
        (sets rows.length size) (sets rows.length size) [] (SD rows aim (done.flatMap (dueOf rows aim)) (.dat (.int (size : Nat))) s4 s5) rfl ⟨s4, s5, i4, i5, by simp⟩ (fun d2 ch r2 e2 ρ ⟨s4, s5, i4, i5, er⟩ => by
          subst er
          have hch : ch ∈ sets rows.length size := by rw [← e2]; simp
          obtain ⟨c1, c2⟩ := sets_at hch
          have hacc : (done.flatMap (dueOf rows aim) ++ d2.filterMap (dueW rows aim size)).length < 16000000 := by
            refine Nat.lt_of_le_of_lt ?_ hl
            unfold allWays
            rw [← e, List.flatMap_append, List.flatMap_cons]
            have : dueOf rows aim size = d2.filterMap (dueW rows aim size) ++ (ch :: r2).filterMap (dueW rows aim size) := by
              unfold dueOf; rw [← e2, List.filterMap_append]
            rw [this]
            simp only [List.length_append]
            omega
          obtain ⟨t5, j5, e3⟩ := sd_turn (rows := rows) (aim := aim) (size := size) (acc := done.flatMap (dueOf rows aim) ++ d2.filterMap (dueW rows aim size)) (ch := ch) (s5 := s5) (by omega) hm c1 c2 (hw size hs ch hch) hacc i5
          refine ⟨SD rows aim (done.flatMap (dueOf rows aim) ++ d2.filterMap (dueW rows aim size)) (.dat (.int (size : Nat))) (.dat (tupN ch)) s5, by rcases i4 with rfl | ⟨_, rfl⟩ <;> simp, _, e3, .dat (tupN ch), t5, isD_dat, j5, ?_⟩
          rw [List.filterMap_append, fm1, List.append_assoc])
      subst er2
      have ec : fCall 2 g__law_sets (frD (fLenV 0) (frD (fVar 3) frNil)) (SD rows aim (done.flatMap (dueOf rows aim)) (.dat (.int (size : Nat))) s4 s5) = some (.lst ((sets rows.length size).map tupN), SD rows aim (done.flatMap (dueOf rows aim)) (.dat (.int (size : Nat))) s4 s5) :=
        call_ev (ds := [.int (rows.length : Nat), .int (size : Nat)]) (by simp) rfl (ev_sets hm (by omega) fun j hj => hsz j (by omega))
      refine ⟨_, nx_for (ρ1 := SD rows aim (done.flatMap (dueOf rows aim)) (.dat (.int (size : Nat))) s4 s5) (by rw [iOf_ap, ec]) q2, .dat (.int (size : Nat)), t4, t5, isD_dat, j4, j5, ?_⟩
      rw [List.flatMap_append, List.flatMap_cons, List.flatMap_nil, List.append_nil]
      rfl)
  subst er
  refine rt_seq (nx_for (ρ1 := SD rows aim [] .un .un .un) (by simp [intsFrom]; omega) q) ?_
  have hf : frz 2 (SD rows aim (allWays rows aim) s3 s4 s5) = some [.dat (.tup (rows.map tupI)), .dat (tupI aim), .dat (.lst ((allWays rows aim).map encW)), s3, s4, s5, .un, .un, .un] := rfl
  unfold Rt
  exact ⟨_, rtE_frz hf (rtE_ret rfl)⟩
end W20
end

section
set_option linter.all false
/-! MA: cones of nonnegative whole solutions, their least supports. -/
namespace MA

/-- the sum of the first m values -/
def sm : Nat → (Nat → Int) → Int
  | 0, _ => 0
  | m + 1, f => sm m f + f m
theorem sm_congr {f g : Nat → Int} : ∀ {m : Nat}, (∀ i, i < m → f i = g i) → sm m f = sm m g
  | 0, _ => rfl
  | m + 1, h => by
    unfold sm
    rw [sm_congr fun i hi => h i (by omega), h m (by omega)]
theorem sm_add (f g : Nat → Int) : ∀ m, sm m (fun i => f i + g i) = sm m f + sm m g
  | 0 => rfl
  | m + 1 => by unfold sm; rw [sm_add f g m]; show sm m f + sm m g + (f m + g m) = _; omega
theorem sm_mul (a : Int) (f : Nat → Int) : ∀ m, sm m (fun i => a * f i) = a * sm m f
  | 0 => by unfold sm; simp
  | m + 1 => by unfold sm; rw [sm_mul a f m, Int.mul_add]
theorem sm_zero : ∀ m, sm m (fun _ => 0) = 0
  | 0 => rfl
  | m + 1 => by unfold sm; rw [sm_zero m]; rfl

section
variable (m : Nat) (v : Nat → Nat → Int)
/-- entry c of the sum of the rows v i with the weights y i -/
def dt (y : Nat → Int) (c : Nat) : Int := sm m fun i => y i * v i c
theorem dt_congr {y z : Nat → Int} (h : ∀ i, i < m → y i = z i) (c : Nat) : dt m v y c = dt m v z c := sm_congr fun i hi => by rw [h i hi]
theorem dt_lin (a b : Int) (y z : Nat → Int) (c : Nat) : dt m v (fun i => a * y i + b * z i) c = a * dt m v y c + b * dt m v z c := by
  unfold dt
  rw [← sm_mul, ← sm_mul, ← sm_add]
  exact sm_congr fun i _ => by grind
theorem dt_smul (a : Int) (y : Nat → Int) (c : Nat) : dt m v (fun i => a * y i) c = a * dt m v y c := by
  unfold dt
  rw [← sm_mul]
  exact sm_congr fun i _ => by grind

structure InC (k : Nat) (y : Nat → Int) : Prop where
  nn : ∀ i, i < m → 0 ≤ y i
  eq : ∀ c, c < k → dt m v y c = 0
def Nz (y : Nat → Int) : Prop := ∃ i, i < m ∧ y i ≠ 0
def Sub (y z : Nat → Int) : Prop := ∀ i, i < m → y i ≠ 0 → z i ≠ 0
structure Mn (k : Nat) (y : Nat → Int) : Prop where
  c : InC m v k y
  nz : Nz m y
  mn : ∀ z, InC m v k z → Nz m z → Sub m z y → Sub m y z
/-- how many are not zero -/
def cnt : Nat → (Nat → Int) → Nat
  | 0, _ => 0
  | m + 1, y => cnt m y + if y m ≠ 0 then 1 else 0
end
section
variable {m : Nat} {v : Nat → Nat → Int} {k : Nat} {y z w : Nat → Int}
theorem Sub.refl : Sub m y y := fun _ _ h => h
theorem Sub.trans (a : Sub m y z) (b : Sub m z w) : Sub m y w := fun i hi h => b i hi (a i hi h)
theorem cnt_le : ∀ {m : Nat}, Sub m y z → cnt m y ≤ cnt m z
  | 0, _ => Nat.le_refl _
  | m + 1, h => by
    have ih := cnt_le (m := m) fun i hi => h i (by omega)
    have h1 := h m (by omega)
    unfold cnt
    by_cases e : y m = 0
    · simp [e]; omega
    · simp [e, h1 e]; omega
theorem cnt_lt : ∀ {m : Nat}, Sub m y z → (∃ i, i < m ∧ z i ≠ 0 ∧ y i = 0) → cnt m y < cnt m z
  | 0, _, ⟨i, hi, _⟩ => by omega
  | m + 1, h, ⟨i, hi, h1, h2⟩ => by
    have ih := cnt_le (m := m) (y := y) (z := z) fun i hi => h i (by omega)
    unfold cnt
    by_cases e : i = m
    · subst e
      simp [h1, h2]; omega
    · have := cnt_lt (m := m) (fun i hi => h i (by omega)) ⟨i, by omega, h1, h2⟩
      have h1 := h m (by omega)
      by_cases e : y m = 0
      · simp [e]; omega
      · simp [e, h1 e]; omega
theorem InC.comb (a b : Int) (ha : InC m v k y) (hb : InC m v k z) (h : ∀ i, i < m → 0 ≤ a * y i + b * z i) : InC m v k fun i => a * y i + b * z i :=
  ⟨h, fun c hc => by rw [dt_lin, ha.eq c hc, hb.eq c hc]; simp⟩
theorem InC.down {j : Nat} (h : InC m v k y) (hj : j ≤ k) : InC m v j y := ⟨h.nn, fun c hc => h.eq c (by omega)⟩
/-- the least ratio z i / f i -/
theorem argmin : ∀ {m : Nat} {f z : Nat → Int}, (∀ i, i < m → 0 ≤ f i) → Nz m f → ∃ j, j < m ∧ f j ≠ 0 ∧ ∀ i, i < m → f i ≠ 0 → z j * f i ≤ z i * f j
  | 0, f, z, _, ⟨i, hi, _⟩ => by omega
  | m + 1, f, z, hn, hz => by
    by_cases e : Nz m f
    · obtain ⟨j, hj, hf, h⟩ := argmin (m := m) (f := f) (z := z) (fun i hi => hn i (by omega)) e
      by_cases c : f m ≠ 0 ∧ z m * f j < z j * f m
      · refine ⟨m, by omega, c.1, fun i hi hfi => ?_⟩
        by_cases e2 : i = m
        · subst e2; exact Int.le_refl _
        · have h1 := h i (by omega) hfi
          have p1 : 0 < f j := by have := hn j (by omega); omega
          have p2 : 0 < f m := by have := hn m (by omega); have := c.1; omega
          have p3 : 0 < f i := by have := hn i (by omega); omega
          -- z m * f i * f j ≤ z j * f m * f i ≤ z i * f j * f m
          have q1 : z m * f j * f i ≤ z j * f m * f i := Int.mul_le_mul_of_nonneg_right (Int.le_of_lt c.2) (Int.le_of_lt p3)
          have q2 : z j * f i * f m ≤ z i * f j * f m := Int.mul_le_mul_of_nonneg_right h1 (Int.le_of_lt p2)
          have q3 : (z m * f i) * f j ≤ (z i * f m) * f j := by grind
          exact Int.le_of_mul_le_mul_right q3 p1
      · refine ⟨j, by omega, hf, fun i hi hfi => ?_⟩
        by_cases e2 : i = m
        · subst e2
          have : ¬ z i * f j < z j * f i := fun h => c ⟨hfi, h⟩
          omega
        · exact h i (by omega) hfi
    · obtain ⟨j, hj, hf⟩ := hz
      have ej : j = m := by
        by_cases e2 : j = m
        · exact e2
        · exact absurd ⟨j, by omega, hf⟩ e
      subst ej
      refine ⟨j, by omega, hf, fun i hi hfi => ?_⟩
      by_cases e2 : i = j
      · subst e2; exact Int.le_refl _
      · exact absurd ⟨i, by omega, hfi⟩ e
/-- z less the greatest multiple of f that fits -/
theorem peel {f : Nat → Int} (hf : InC m v k f) (nf : Nz m f) (hz : InC m v k z) (s : Sub m f z) :
    ∃ a b : Int, 0 < a ∧ 0 < b ∧ InC m v k (fun i => a * z i + (-b) * f i) ∧ Sub m (fun i => a * z i + (-b) * f i) z ∧ ∃ j, j < m ∧ f j ≠ 0 ∧ a * z j + (-b) * f j = 0 := by
  obtain ⟨j, hj, fj, h⟩ := argmin (z := z) hf.nn nf
  have zj := s j hj fj
  have pf : 0 < f j := by have := hf.nn j hj; omega
  have pz : 0 < z j := by have := hz.nn j hj; omega
  refine ⟨f j, z j, pf, pz, InC.comb _ _ hz hf fun i hi => ?_, fun i hi h0 e => ?_, j, hj, fj, by grind⟩
  · by_cases e : f i = 0
    · rw [e]
      have := Int.mul_nonneg (Int.le_of_lt pf) (hz.nn i hi)
      omega
    · have := h i hi e
      have e1 : f j * z i = z i * f j := Int.mul_comm _ _
      have e2 : -z j * f i = -(z j * f i) := Int.neg_mul _ _
      omega
  · apply h0
    have e1 : f i = 0 := by
      by_cases c : f i = 0
      · exact c
      · exact absurd e (s i hi c)
    show f j * z i + -z j * f i = 0
    rw [e, e1]; simp
/-- least supports: all of the cone within one lies on one ray -/
theorem Mn.ray (h : Mn m v k y) (hz : InC m v k z) (nz : Nz m z) (s : Sub m z y) : ∃ a b : Int, 0 < a ∧ 0 < b ∧ ∀ i, i < m → a * z i = b * y i := by
  obtain ⟨a, b, pa, pb, hc, hs, j, hj, fj, e⟩ := peel hz nz h.c s
  refine ⟨b, a, pb, pa, fun i hi => ?_⟩
  by_cases hw : Nz m (fun i => a * y i + (-b) * z i)
  · have := h.mn _ hc hw hs j hj (s j hj fj)
    exact absurd e this
  · have e2 : a * y i + (-b) * z i = 0 := by
      by_cases c : a * y i + (-b) * z i = 0
      · exact c
      · exact absurd ⟨i, hi, c⟩ hw
    grind
theorem exists_mn (hz : InC m v k z) (nz : Nz m z) : ∃ e, Mn m v k e ∧ Sub m e z := by
  generalize hn : cnt m z = n
  induction n using Nat.strongRecOn generalizing z with
  | ind n ih =>
    by_cases c : ∃ w, InC m v k w ∧ Nz m w ∧ Sub m w z ∧ ¬ Sub m z w
    · obtain ⟨w, h1, h2, h3, h4⟩ := c
      have h5 : ∃ i, i < m ∧ z i ≠ 0 ∧ w i = 0 := by
        apply Classical.byContradiction
        intro q
        exact h4 fun i hi hzi e => q ⟨i, hi, hzi, e⟩
      obtain ⟨e, e1, e2⟩ := ih (cnt m w) (by rw [← hn]; exact cnt_lt h3 h5) h1 h2 rfl
      exact ⟨e, e1, e2.trans h3⟩
    · refine ⟨z, ⟨hz, nz, fun w h1 h2 h3 => ?_⟩, Sub.refl⟩
      apply Classical.byContradiction
      intro q
      exact c ⟨w, h1, h2, h3, q⟩
/-- a stock of least supports that has all of them -/
structure Stock (m : Nat) (v : Nat → Nat → Int) (k : Nat) (Fd : (Nat → Int) → Prop) : Prop where
  mn : ∀ f, Fd f → Mn m v k f
  all : ∀ e, Mn m v k e → ∃ f, Fd f ∧ Sub m f e ∧ Sub m e f
/-- what holds for the stock within U and is kept by adding holds for all of the cone within U -/
theorem Stock.ind {Fd : (Nat → Int) → Prop} (S : Stock m v k Fd) (U : Nat → Int) (P : (Nat → Int) → Prop)
    (h1 : ∀ z f a b, Fd f → Sub m f U → (0 : Int) < a → (0 : Int) < b → (∀ i, i < m → a * z i = b * f i) → P z)
    (h2 : ∀ z w f a b, Fd f → Sub m f U → P w → (0 : Int) < a → (0 : Int) < b → (∀ i, i < m → a * z i = w i + b * f i) → P z) :
    ∀ z, InC m v k z → Nz m z → Sub m z U → P z := by
  intro z hz nz s
  generalize hn : cnt m z = n
  induction n using Nat.strongRecOn generalizing z with
  | ind n ih =>
    obtain ⟨e, e1, e2⟩ := exists_mn hz nz
    obtain ⟨f, f1, f2, f3⟩ := S.all e e1
    have M := S.mn f f1
    have fz := f2.trans e2
    obtain ⟨a, b, pa, pb, hc, hs, j, hj, fj, ej⟩ := peel M.c M.nz hz fz
    by_cases hw : Nz m (fun i => a * z i + (-b) * f i)
    · have := ih (cnt m fun i => a * z i + (-b) * f i) (by rw [← hn]; exact cnt_lt hs ⟨j, hj, fz j hj fj, ej⟩) _ hc hw (hs.trans s) rfl
      exact h2 z _ f a b f1 (fz.trans s) this pa pb fun i hi => by grind
    · refine h1 z f a b f1 (fz.trans s) pa pb fun i hi => ?_
      have e2 : a * z i + (-b) * f i = 0 := by
        by_cases c : a * z i + (-b) * f i = 0
        · exact c
        · exact absurd ⟨i, hi, c⟩ hw
      grind
end
end MA
end

section
set_option linter.all false
/-! MB: one more equation. -/
namespace MA
theorem mul_ne {a b : Int} (h : a ≠ 0) (h' : b ≠ 0) : a * b ≠ 0 := Int.mul_ne_zero h h'
theorem pos_of_mul {a b : Int} (h : 0 < a) (h' : 0 ≤ a * b) : 0 ≤ b := by
  apply Classical.byContradiction
  intro c
  have := Int.mul_neg_of_pos_of_neg h (show b < 0 by omega)
  omega
theorem zero_of_mul {a b : Int} (h : 0 < a) (h' : a * b = 0) : b = 0 := by
  rcases Int.mul_eq_zero.mp h' with e | e
  · omega
  · exact e
theorem sm_one {m p : Nat} (hp : p < m) (a : Int) (f : Nat → Int) : sm m (fun i => (if i = p then a else 0) * f i) = a * f p := by
  induction m with
  | zero => omega
  | succ m ih =>
    unfold sm
    by_cases e : p = m
    · subst e
      rw [sm_congr (g := fun _ => 0) fun i hi => by rw [if_neg (by omega)]; simp, sm_zero]
      simp
    · rw [ih (by omega)]
      dsimp only
      rw [if_neg (by omega)]; simp
section
variable {m : Nat} {k : Nat}
theorem cnt_pos : ∀ {m : Nat} {u : Nat → Int}, 0 < cnt m u → Nz m u
  | 0, u, h => by unfold cnt at h; omega
  | m + 1, u, h => by
    by_cases e : u m = 0
    · unfold cnt at h
      simp [e] at h
      obtain ⟨i, hi, h⟩ := cnt_pos h
      exact ⟨i, by omega, h⟩
    · exact ⟨m, by omega, e⟩
theorem cnt_drop : ∀ {m p : Nat} {u : Nat → Int}, p < m → u p ≠ 0 → cnt m (fun i => if i = p then 0 else u i) + 1 = cnt m u
  | 0, p, u, h, _ => by omega
  | m + 1, p, u, h, hp => by
    unfold cnt
    by_cases e : p = m
    · subst e
      have h1 : cnt p (fun i => if i = p then 0 else u i) = cnt p u := by
        have : ∀ n, n ≤ p → cnt n (fun i => if i = p then 0 else u i) = cnt n u := by
          intro n
          induction n with
          | zero => intro _; rfl
          | succ n ih => intro hn; unfold cnt; rw [ih (by omega)]; have hne : n ≠ p := (by omega); simp [hne]
        exact this p (Nat.le_refl _)
      rw [h1]; simp [hp]
    · have ih := cnt_drop (m := m) (p := p) (u := u) (by omega) hp
      have e2 : ¬ m = p := by omega
      simp only [e2, if_false]
      omega
/-- more unknowns than equations -/
theorem kernel : ∀ (k : Nat) (v : Nat → Nat → Int) (u : Nat → Int), k < cnt m u → ∃ z, Nz m z ∧ Sub m z u ∧ ∀ c, c < k → dt m v z c = 0
  | 0, v, u, h => ⟨u, cnt_pos h, Sub.refl, fun c hc => by omega⟩
  | k + 1, v, u, h => by
    by_cases c : ∃ p, p < m ∧ u p ≠ 0 ∧ v p k ≠ 0
    · obtain ⟨p, hp, up, vp⟩ := c
      have hd := cnt_drop hp up
      obtain ⟨z, z1, z2, z3⟩ := kernel k (fun i c => v p k * v i c - v i k * v p c) (fun i => if i = p then 0 else u i) (by omega)
      have zp : z p = 0 := by
        by_cases e : z p = 0
        · exact e
        · exact absurd (z2 p hp e) (by simp)
      have key : ∀ c, dt m v (fun i => v p k * z i + (if i = p then -(dt m v z k) else 0)) c = v p k * dt m v z c - dt m v z k * v p c := fun c => by
        unfold dt
        rw [sm_congr (g := fun i => v p k * (z i * v i c) + (if i = p then -(sm m fun i => z i * v i k) else 0) * v i c) fun i hi => by grind]
        rw [sm_add, sm_mul, sm_one hp]
        grind
      have el : ∀ c, dt m (fun i c => v p k * v i c - v i k * v p c) z c = v p k * dt m v z c - dt m v z k * v p c := fun c => by
        unfold dt
        rw [sm_congr (g := fun i => v p k * (z i * v i c) + (-(v p c)) * (z i * v i k)) fun i hi => by grind]
        rw [sm_add, sm_mul, sm_mul]
        grind
      refine ⟨fun i => v p k * z i + (if i = p then -(dt m v z k) else 0), ?_, fun i hi hz => ?_, fun c hc => ?_⟩
      · obtain ⟨i, hi, h⟩ := z1
        have ne : i ≠ p := fun e => h (by rw [e]; exact zp)
        refine ⟨i, hi, ?_⟩
        dsimp only
        rw [if_neg ne]
        have := mul_ne vp h
        omega
      · by_cases e : i = p
        · rw [e]; exact up
        · dsimp only at hz
          rw [if_neg e] at hz
          have := z2 i hi (fun q => hz (by rw [q]; simp))
          simpa [e] using this
      · rw [key]
        by_cases e : c = k
        · subst e; grind
        · rw [← el]; exact z3 c (by omega)
    · obtain ⟨z, z1, z2, z3⟩ := kernel k v u (by omega)
      refine ⟨z, z1, z2, fun c' hc => ?_⟩
      by_cases e : c' = k
      · subst e
        unfold dt
        rw [sm_congr (g := fun _ => 0) fun i hi => ?_, sm_zero]
        by_cases q : z i = 0
        · rw [q]; simp
        · have h1 := z2 i hi q
          have : v i c' = 0 := by
            by_cases q2 : v i c' = 0
            · exact q2
            · exact absurd ⟨i, hi, h1, q2⟩ c
          rw [this]; simp
      · exact z3 c' (by omega)
end
section
variable {m : Nat} {v : Nat → Nat → Int} {k : Nat} {y z w : Nat → Int}
/-- a least support is small -/
theorem Mn.small (h : Mn m v k y) : cnt m y ≤ k + 1 := by
  apply Classical.byContradiction
  intro c
  obtain ⟨p, hp, yp⟩ := h.nz
  have hd := cnt_drop hp yp
  obtain ⟨z0, n0, s0, e0⟩ := kernel (m := m) k v (fun i => if i = p then 0 else y i) (by omega)
  -- with a positive entry
  obtain ⟨z, n1, s1, e1, pos⟩ : ∃ z, Nz m z ∧ Sub m z (fun i => if i = p then 0 else y i) ∧ (∀ c, c < k → dt m v z c = 0) ∧ ∃ i, i < m ∧ 0 < z i := by
    obtain ⟨i, hi, hz⟩ := n0
    by_cases q : 0 < z0 i
    · exact ⟨z0, ⟨i, hi, hz⟩, s0, e0, i, hi, q⟩
    · refine ⟨fun i => (-1) * z0 i, ⟨i, hi, by dsimp only; omega⟩, fun j hj hn => s0 j hj (by intro q; apply hn; dsimp only; rw [q]; rfl), fun c hc => by rw [dt_smul, e0 c hc]; rfl, i, hi, by dsimp only; omega⟩
  have zp : z p = 0 := by
    by_cases e : z p = 0
    · exact e
    · exact absurd (s1 p hp e) (by simp)
  have sy : Sub m z y := fun i hi hz => by
    have := s1 i hi hz
    by_cases e : i = p
    · rw [e]; exact yp
    · simpa [e] using this
  obtain ⟨j, hj, fj, hm⟩ := argmin (m := m) (f := fun i => if 0 < z i then z i else 0) (z := y) (fun i hi => by split <;> omega) (by
    obtain ⟨i, hi, q⟩ := pos
    exact ⟨i, hi, by dsimp only; rw [if_pos q]; omega⟩)
  have zj : 0 < z j := by
    by_cases q : 0 < z j
    · exact q
    · rw [if_neg q] at fj; exact absurd rfl fj
  simp only [if_pos zj] at hm
  have yj : 0 < y j := by
    have := h.c.nn j hj
    have := sy j hj (by omega)
    omega
  have nn : ∀ i, i < m → 0 ≤ z j * y i + (-(y j)) * z i := fun i hi => by
    by_cases q : 0 < z i
    · have := hm i hi (by rw [if_pos q]; omega)
      rw [if_pos q] at this
      have e1 : z j * y i = y i * z j := Int.mul_comm _ _
      have e2 : -(y j) * z i = -(y j * z i) := Int.neg_mul _ _
      omega
    · have h1 := Int.mul_nonneg (Int.le_of_lt zj) (h.c.nn i hi)
      have h2 := Int.mul_nonneg (Int.le_of_lt yj) (show 0 ≤ -(z i) by omega)
      have e2 : -(y j) * z i = y j * -(z i) := by grind
      omega
  have hc : InC m v k fun i => z j * y i + (-(y j)) * z i := ⟨nn, fun c hc => by rw [dt_lin, h.c.eq c hc, e1 c hc]; simp⟩
  have hs : Sub m (fun i => z j * y i + (-(y j)) * z i) y := fun i hi h0 e => h0 (by
    have : z i = 0 := by
      by_cases q : z i = 0
      · exact q
      · exact absurd e (sy i hi q)
    dsimp only
    rw [e, this]; simp)
  have := h.mn _ hc ⟨p, hp, by dsimp only; rw [zp]; have := mul_ne (show z j ≠ 0 by omega) yp; simp; omega⟩ hs j hj (by omega)
  exact this (by grind)

/-! ### the step -/
def Same (m : Nat) (y z : Nat → Int) : Prop := Sub m y z ∧ Sub m z y
theorem Same.symm (h : Same m y z) : Same m z y := ⟨h.2, h.1⟩
theorem Same.trans (h : Same m y z) (h' : Same m z w) : Same m y w := ⟨h.1.trans h'.1, h'.2.trans h.2⟩
def Nb (m : Nat) (Fd : (Nat → Int) → Prop) (r f : Nat → Int) : Prop := ∀ g, Fd g → (∀ i, i < m → g i ≠ 0 → r i ≠ 0 ∨ f i ≠ 0) → Same m g r ∨ Same m g f
/-- z lies on the ray of r and f at which the equation k holds -/
def Mix (m : Nat) (v : Nat → Nat → Int) (k : Nat) (r f z : Nat → Int) : Prop := ∃ g : Int, 0 < g ∧ ∀ i, i < m → g * z i = (-(dt m v f k)) * r i + dt m v r k * f i
variable {r f : Nat → Int} {Fd : (Nat → Int) → Prop}
theorem mix_pos (hr : InC m v k r) (hf : InC m v k f) (pr : 0 < dt m v r k) (nf : dt m v f k < 0) {i : Nat} (hi : i < m) : 0 ≤ (-(dt m v f k)) * r i ∧ 0 ≤ dt m v r k * f i ∧ (r i ≠ 0 → 0 < (-(dt m v f k)) * r i) ∧ (f i ≠ 0 → 0 < dt m v r k * f i) := by
  have h1 := hr.nn i hi
  have h2 := hf.nn i hi
  exact ⟨Int.mul_nonneg (by omega) h1, Int.mul_nonneg (by omega) h2, fun h => Int.mul_pos (by omega) (by omega), fun h => Int.mul_pos (by omega) (by omega)⟩
theorem Mix.supp (hr : InC m v k r) (hf : InC m v k f) (pr : 0 < dt m v r k) (nf : dt m v f k < 0) (x : Mix m v k r f z) {i : Nat} (hi : i < m) : z i ≠ 0 ↔ r i ≠ 0 ∨ f i ≠ 0 := by
  obtain ⟨g, pg, h⟩ := x
  obtain ⟨h1, h2, h3, h4⟩ := mix_pos hr hf pr nf hi
  have e := h i hi
  constructor
  · intro hz
    apply Classical.byContradiction
    intro c
    have er : r i = 0 := by
      by_cases q : r i = 0
      · exact q
      · exact absurd (.inl q) c
    have ef : f i = 0 := by
      by_cases q : f i = 0
      · exact q
      · exact absurd (.inr q) c
    rw [er, ef] at e
    exact hz (zero_of_mul pg (by omega))
  · intro hc hz
    rw [hz] at e
    rcases hc with q | q
    · have := h3 q; omega
    · have := h4 q; omega
theorem Mix.inC (hr : InC m v k r) (hf : InC m v k f) (pr : 0 < dt m v r k) (nf : dt m v f k < 0) (x : Mix m v k r f z) : InC m v (k + 1) z := by
  obtain ⟨g, pg, h⟩ := x
  refine ⟨fun i hi => ?_, fun c hc => ?_⟩
  · obtain ⟨h1, h2, _, _⟩ := mix_pos hr hf pr nf hi
    exact pos_of_mul pg (by rw [h i hi]; omega)
  · apply zero_of_mul pg
    rw [← dt_smul, dt_congr m v h, dt_lin]
    by_cases e : c = k
    · subst e; grind
    · rw [hr.eq c (by omega), hf.eq c (by omega)]; simp
theorem Mix.self (m : Nat) (v : Nat → Nat → Int) (k : Nat) (r f : Nat → Int) : Mix m v k r f fun i => (-(dt m v f k)) * r i + dt m v r k * f i := ⟨1, by omega, fun i hi => by grind⟩
theorem step_mn (S : Stock m v k Fd) (hr : Fd r) (hf : Fd f) (pr : 0 < dt m v r k) (nf : dt m v f k < 0) (nb : Nb m Fd r f) (x : Mix m v k r f z) : Mn m v (k + 1) z := by
  have Mr := S.mn r hr
  have Mf := S.mn f hf
  have hC := x.inC Mr.c Mf.c pr nf
  refine ⟨hC, ?_, fun w hw nw sw => ?_⟩
  · obtain ⟨i, hi, h⟩ := Mr.nz
    exact ⟨i, hi, (x.supp Mr.c Mf.c pr nf hi).mpr (.inl h)⟩
  · have P := S.ind z (fun w => ∃ a b c : Int, 0 < a ∧ 0 ≤ b ∧ 0 ≤ c ∧ ∀ i, i < m → a * w i = b * r i + c * f i) (fun w e a b he se pa pb hh => by
        rcases nb e he (fun i hi h => (x.supp Mr.c Mf.c pr nf hi).mp (se i hi h)) with q | q
        · obtain ⟨a', b', pa', pb', h'⟩ := Mr.ray (S.mn e he).c (S.mn e he).nz q.1
          refine ⟨a * a', b * b', 0, Int.mul_pos pa pa', Int.le_of_lt (Int.mul_pos pb pb'), Int.le_refl _, fun i hi => ?_⟩
          have := hh i hi
          have := h' i hi
          grind
        · obtain ⟨a', b', pa', pb', h'⟩ := Mf.ray (S.mn e he).c (S.mn e he).nz q.1
          refine ⟨a * a', 0, b * b', Int.mul_pos pa pa', Int.le_refl _, Int.le_of_lt (Int.mul_pos pb pb'), fun i hi => ?_⟩
          have := hh i hi
          have := h' i hi
          grind) (fun w w' e a b he se ⟨a1, b1, c1, pa1, pb1, pc1, h1⟩ pa pb hh => by
        rcases nb e he (fun i hi h => (x.supp Mr.c Mf.c pr nf hi).mp (se i hi h)) with q | q
        · obtain ⟨a', b', pa', pb', h'⟩ := Mr.ray (S.mn e he).c (S.mn e he).nz q.1
          refine ⟨a * a1 * a', b1 * a' + b * a1 * b', c1 * a', Int.mul_pos (Int.mul_pos pa pa1) pa', ?_, Int.mul_nonneg pc1 (Int.le_of_lt pa'), fun i hi => ?_⟩
          · have h1 := Int.mul_nonneg pb1 (Int.le_of_lt pa')
            have h2 := Int.mul_pos (Int.mul_pos pb pa1) pb'
            omega
          · have := hh i hi
            have := h' i hi
            have := h1 i hi
            grind
        · obtain ⟨a', b', pa', pb', h'⟩ := Mf.ray (S.mn e he).c (S.mn e he).nz q.1
          refine ⟨a * a1 * a', b1 * a', c1 * a' + b * a1 * b', Int.mul_pos (Int.mul_pos pa pa1) pa', Int.mul_nonneg pb1 (Int.le_of_lt pa'), ?_, fun i hi => ?_⟩
          · have h1 := Int.mul_nonneg pc1 (Int.le_of_lt pa')
            have h2 := Int.mul_pos (Int.mul_pos pb pa1) pb'
            omega
          · have := hh i hi
            have := h' i hi
            have := h1 i hi
            grind) w (hw.down (Nat.le_succ k)) nw sw
    obtain ⟨a, b, c, pa, pb, pc, h⟩ := P
    have hd : a * dt m v w k = b * dt m v r k + c * dt m v f k := by
      rw [← dt_smul, dt_congr m v h, dt_lin]
    rw [hw.eq k (Nat.lt_succ_self k)] at hd
    have hb : 0 < b := by
      apply Classical.byContradiction
      intro q
      have e : b = 0 := by omega
      subst e
      have e2 : c = 0 := by
        apply Classical.byContradiction
        intro q2
        have := Int.mul_neg_of_pos_of_neg (show 0 < c by omega) nf
        omega
      subst e2
      obtain ⟨i, hi, hwi⟩ := nw
      have := h i hi
      have e3 : a * w i = 0 := by omega
      exact hwi (zero_of_mul pa e3)
    have hc : 0 < c := by
      apply Classical.byContradiction
      intro q
      have e : c = 0 := by omega
      subst e
      have := Int.mul_pos hb pr
      omega
    intro i hi hz ew
    have e := h i hi
    rw [ew] at e
    have n1 := Mr.c.nn i hi
    have n2 := Mf.c.nn i hi
    rcases (x.supp Mr.c Mf.c pr nf hi).mp hz with q | q
    · have := Int.mul_pos hb (show 0 < r i by omega)
      have := Int.mul_nonneg pc n2
      omega
    · have := Int.mul_pos hc (show 0 < f i by omega)
      have := Int.mul_nonneg pb n1
      omega

/-- two mixes on one ray: the three lie together -/
theorem ray3 {α β γ δ : Int} {g r f : Nat → Int} (Mg : Mn m v k g) (Mr : Mn m v k r) (Mf : Mn m v k f) (pa : 0 < α) (pb : 0 < β) (pc : 0 < γ) (pd : 0 < δ) (h : ∀ i, i < m → α * g i + β * f i = γ * r i + δ * f i) : Same m g r := by
  have ng := Mg.c.nn
  have nr := Mr.c.nn
  have nf := Mf.c.nn
  by_cases c : β ≤ δ
  · -- α g = γ r + (δ - β) f
    have s : Sub m r g := fun i hi hr e => by
      have := h i hi
      have h1 := Int.mul_pos pc (show 0 < r i by have := nr i hi; omega)
      have h2 := Int.mul_nonneg (show 0 ≤ δ - β by omega) (nf i hi)
      have h3 : (δ - β) * f i = δ * f i - β * f i := Int.sub_mul _ _ _
      rw [e] at this
      omega
    exact ⟨Mg.mn r Mr.c Mr.nz s, s⟩
  · have s : Sub m g r := fun i hi hg e => by
      have := h i hi
      have h1 := Int.mul_pos pa (show 0 < g i by have := ng i hi; omega)
      have h2 := Int.mul_nonneg (show 0 ≤ β - δ by omega) (nf i hi)
      have h3 : (β - δ) * f i = β * f i - δ * f i := Int.sub_mul _ _ _
      rw [e] at this
      omega
    exact ⟨s, Mr.mn g Mg.c Mg.nz s⟩
theorem step_all (S : Stock m v k Fd) {e : Nat → Int} (he : Mn m v (k + 1) e) : (∃ f, Fd f ∧ dt m v f k = 0 ∧ Same m f e) ∨
    ∃ r f, Fd r ∧ Fd f ∧ 0 < dt m v r k ∧ dt m v f k < 0 ∧ Nb m Fd r f ∧ ∀ i, i < m → (e i ≠ 0 ↔ r i ≠ 0 ∨ f i ≠ 0) := by
  by_cases A : ∃ f, Fd f ∧ Sub m f e ∧ dt m v f k = 0
  · obtain ⟨f, h1, h2, h3⟩ := A
    have M := S.mn f h1
    exact .inl ⟨f, h1, h3, h2, he.mn f ⟨M.c.nn, fun c hc => by
      by_cases q : c = k
      · rw [q]; exact h3
      · exact M.c.eq c (by omega)⟩ M.nz h2⟩
  · have nA : ∀ f, Fd f → Sub m f e → dt m v f k ≠ 0 := fun f h1 h2 h3 => A ⟨f, h1, h2, h3⟩
    have ek := he.c.eq k (Nat.lt_succ_self k)
    have hR : ∃ r, Fd r ∧ Sub m r e ∧ 0 < dt m v r k := by
      apply Classical.byContradiction
      intro q
      have := S.ind e (fun z => dt m v z k < 0) (fun z f a b hf sf pa pb hh => by
        have h1 : dt m v f k < 0 := by
          have := nA f hf sf
          have : ¬ 0 < dt m v f k := fun c => q ⟨f, hf, sf, c⟩
          omega
        have h2 : a * dt m v z k = b * dt m v f k := by rw [← dt_smul, ← dt_smul]; exact dt_congr m v hh k
        have h3 := Int.mul_neg_of_pos_of_neg pb h1
        apply Classical.byContradiction
        intro c
        have := Int.mul_nonneg (Int.le_of_lt pa) (show 0 ≤ dt m v z k by omega)
        omega) (fun z w f a b hf sf pw pa pb hh => by
        have h1 : dt m v f k < 0 := by
          have := nA f hf sf
          have : ¬ 0 < dt m v f k := fun c => q ⟨f, hf, sf, c⟩
          omega
        have h2 : a * dt m v z k = 1 * dt m v w k + b * dt m v f k := by rw [← dt_smul, ← dt_lin]; exact dt_congr m v (fun i hi => by rw [hh i hi]; simp) k
        have h3 := Int.mul_neg_of_pos_of_neg pb h1
        apply Classical.byContradiction
        intro c
        have := Int.mul_nonneg (Int.le_of_lt pa) (show 0 ≤ dt m v z k by omega)
        omega) e (he.c.down (Nat.le_succ k)) he.nz Sub.refl
      omega
    have hF : ∃ f, Fd f ∧ Sub m f e ∧ dt m v f k < 0 := by
      apply Classical.byContradiction
      intro q
      have := S.ind e (fun z => 0 < dt m v z k) (fun z f a b hf sf pa pb hh => by
        have h1 : 0 < dt m v f k := by
          have := nA f hf sf
          have : ¬ dt m v f k < 0 := fun c => q ⟨f, hf, sf, c⟩
          omega
        have h2 : a * dt m v z k = b * dt m v f k := by rw [← dt_smul, ← dt_smul]; exact dt_congr m v hh k
        have h3 := Int.mul_pos pb h1
        apply Classical.byContradiction
        intro c
        have := Int.mul_nonneg (Int.le_of_lt pa) (show 0 ≤ -(dt m v z k) by omega)
        have e2 : a * -(dt m v z k) = -(a * dt m v z k) := Int.mul_neg _ _
        omega) (fun z w f a b hf sf pw pa pb hh => by
        have h1 : 0 < dt m v f k := by
          have := nA f hf sf
          have : ¬ dt m v f k < 0 := fun c => q ⟨f, hf, sf, c⟩
          omega
        have h2 : a * dt m v z k = 1 * dt m v w k + b * dt m v f k := by rw [← dt_smul, ← dt_lin]; exact dt_congr m v (fun i hi => by rw [hh i hi]; simp) k
        have h3 := Int.mul_pos pb h1
        apply Classical.byContradiction
        intro c
        have := Int.mul_nonneg (Int.le_of_lt pa) (show 0 ≤ -(dt m v z k) by omega)
        have e2 : a * -(dt m v z k) = -(a * dt m v z k) := Int.mul_neg _ _
        omega) e (he.c.down (Nat.le_succ k)) he.nz Sub.refl
      omega
    obtain ⟨r, hr, sr, pr⟩ := hR
    obtain ⟨f, hf, sf, nf⟩ := hF
    have Mr := S.mn r hr
    have Mf := S.mn f hf
    have X := Mix.self m v k r f
    -- a mix within e spans e
    have span : ∀ r' f', Fd r' → Fd f' → Sub m r' e → Sub m f' e → 0 < dt m v r' k → dt m v f' k < 0 → ∃ a b : Int, 0 < a ∧ 0 < b ∧ ∀ i, i < m → a * ((-(dt m v f' k)) * r' i + dt m v r' k * f' i) = b * e i := fun r' f' h1 h2 h3 h4 h5 h6 => by
      have Mr' := S.mn r' h1
      have Mf' := S.mn f' h2
      have X' := Mix.self m v k r' f'
      refine he.ray (X'.inC Mr'.c Mf'.c h5 h6) ?_ fun i hi hz => ?_
      · obtain ⟨i, hi, h⟩ := Mr'.nz
        exact ⟨i, hi, (X'.supp Mr'.c Mf'.c h5 h6 hi).mpr (.inl h)⟩
      · rcases (X'.supp Mr'.c Mf'.c h5 h6 hi).mp hz with q | q
        · exact h3 i hi q
        · exact h4 i hi q
    obtain ⟨a, b, pa, pb, hab⟩ := span r f hr hf sr sf pr nf
    have un : ∀ i, i < m → (e i ≠ 0 ↔ r i ≠ 0 ∨ f i ≠ 0) := fun i hi => by
      refine ⟨fun h => (X.supp Mr.c Mf.c pr nf hi).mp fun q => ?_, fun h => h.elim (sr i hi) (sf i hi)⟩
      have := hab i hi
      rw [q] at this
      exact h (zero_of_mul pb (by omega))
    refine .inr ⟨r, f, hr, hf, pr, nf, fun g hg sg => ?_, un⟩
    have se : Sub m g e := fun i hi h => (un i hi).mpr (sg i hi h)
    have Mg := S.mn g hg
    have ng := nA g hg se
    by_cases c : 0 < dt m v g k
    · left
      obtain ⟨a', b', pa', pb', hab'⟩ := span g f hg hf se sf c nf
      refine ray3 Mg Mr Mf (α := b * a' * (-(dt m v f k))) (β := b * a' * dt m v g k) (γ := b' * a * (-(dt m v f k))) (δ := b' * a * dt m v r k)
        (Int.mul_pos (Int.mul_pos pb pa') (by omega)) (Int.mul_pos (Int.mul_pos pb pa') c) (Int.mul_pos (Int.mul_pos pb' pa) (by omega)) (Int.mul_pos (Int.mul_pos pb' pa) pr) fun i hi => ?_
      have h1 := hab i hi
      have h2 := hab' i hi
      grind
    · right
      have c' : dt m v g k < 0 := by omega
      obtain ⟨a', b', pa', pb', hab'⟩ := span r g hr hg sr se pr c'
      refine ray3 Mg Mf Mr (α := b * a' * dt m v r k) (β := b * a' * (-(dt m v g k))) (γ := b' * a * dt m v r k) (δ := b' * a * (-(dt m v f k)))
        (Int.mul_pos (Int.mul_pos pb pa') pr) (Int.mul_pos (Int.mul_pos pb pa') (by omega)) (Int.mul_pos (Int.mul_pos pb' pa) pr) (Int.mul_pos (Int.mul_pos pb' pa) (by omega)) fun i hi => ?_
      have h1 := hab i hi
      have h2 := hab' i hi
      grind
end
end MA
end

section
set_option linter.all false
/-! MC: what balances holds. -/
namespace W20
open MA DL

/-! ### bits -/
theorem low_bit : ∀ (b : Nat), 0 < b → ∃ i, b.testBit i = true ∧ ∀ j, (b &&& (b - 1)).testBit j = (b.testBit j && decide (j ≠ i)) := by
  intro b
  induction b using Nat.strongRecOn with
  | ind b ih =>
    intro hb
    by_cases o : b % 2 = 1
    · refine ⟨0, by simp [Nat.testBit_zero, o], fun j => ?_⟩
      rw [Nat.testBit_and]
      cases j with
      | zero =>
        have : (b - 1) % 2 = 0 := by omega
        simp [Nat.testBit_zero, this]
      | succ j =>
        have : (b - 1) / 2 = b / 2 := by omega
        simp [Nat.testBit_succ, this]
    · obtain ⟨i, h1, h2⟩ := ih (b / 2) (by omega) (by omega)
      refine ⟨i + 1, by rw [Nat.testBit_succ]; exact h1, fun j => ?_⟩
      rw [Nat.testBit_and]
      cases j with
      | zero =>
        have : b % 2 = 0 := by omega
        simp [Nat.testBit_zero, this]
      | succ j =>
        have e : (b - 1) / 2 = b / 2 - 1 := by omega
        have h3 := h2 j
        rw [Nat.testBit_and] at h3
        simp only [Nat.testBit_succ, e, h3]
        simp
def Msk (m : Nat) (b : Nat) (y : Nat → Int) : Prop := ∀ i, b.testBit i = decide (i < m ∧ y i ≠ 0)
theorem hm_of : ∀ (t b m : Nat) (y : Nat → Int), Msk m b y → 0 < b → cnt m y ≤ t → hmGo t b = true
  | 0, b, m, y, hm, hb, hc => by
    exfalso
    obtain ⟨i, h1, _⟩ := low_bit b hb
    have := hm i
    rw [h1] at this
    have := of_decide_eq_true this.symm
    have h2 := cnt_drop this.1 this.2
    omega
  | t + 1, b, m, y, hm, hb, hc => by
    obtain ⟨i, h1, h2⟩ := low_bit b hb
    have hi := hm i
    rw [h1] at hi
    have hi := of_decide_eq_true hi.symm
    have hd := cnt_drop hi.1 hi.2
    unfold hmGo
    by_cases c : b &&& (b - 1) = 0
    · rw [if_pos c]
    · rw [if_neg c]
      refine hm_of t _ m (fun j => if j = i then 0 else y j) (fun j => ?_) (by omega) (by omega)
      rw [h2 j, hm j]
      by_cases e : j = i
      · simp [e]
      · simp [e]
theorem Msk.pos {m b : Nat} {y : Nat → Int} (h : Msk m b y) (nz : Nz m y) : 0 < b := by
  obtain ⟨i, hi, hy⟩ := nz
  have := h i
  rw [decide_eq_true ⟨hi, hy⟩] at this
  apply Nat.pos_of_ne_zero
  intro e
  rw [e] at this
  simp at this
theorem Msk.lt {m b : Nat} {y : Nat → Int} (h : Msk m b y) : b < 2 ^ m := by
  apply Nat.lt_pow_two_of_testBit
  intro i hi
  rw [h i]
  exact decide_eq_false fun q => by omega
theorem Msk.eq_iff {m a b : Nat} {y z : Nat → Int} (ha : Msk m a y) (hb : Msk m b z) : a = b ↔ Same m y z := by
  constructor
  · intro e
    subst e
    have : ∀ i, i < m → (y i ≠ 0 ↔ z i ≠ 0) := fun i hi => by
      have h1 := ha i
      rw [hb i] at h1
      have h2 : (i < m ∧ z i ≠ 0) ↔ (i < m ∧ y i ≠ 0) := by rwa [decide_eq_decide] at h1
      exact ⟨fun q => (h2.mpr ⟨hi, q⟩).2, fun q => (h2.mp ⟨hi, q⟩).2⟩
    exact ⟨fun i hi h => (this i hi).mp h, fun i hi h => (this i hi).mpr h⟩
  · intro s
    apply Nat.eq_of_testBit_eq
    intro i
    rw [ha i, hb i]
    by_cases hi : i < m
    · have : y i ≠ 0 ↔ z i ≠ 0 := ⟨s.1 i hi, s.2 i hi⟩
      simp only [hi, true_and, this]
    · simp [hi]
theorem Msk.sub_iff {m a u : Nat} {y w : Nat → Int} (ha : Msk m a y) (hu : Msk m u w) : a ||| u = u ↔ Sub m y w := by
  constructor
  · intro e i hi hy
    have h1 : (a ||| u).testBit i = true := by rw [Nat.testBit_or, ha i, decide_eq_true ⟨hi, hy⟩]; rfl
    rw [e, hu i] at h1
    exact (of_decide_eq_true h1).2
  · intro s
    apply Nat.eq_of_testBit_eq
    intro i
    rw [Nat.testBit_or, ha i, hu i]
    by_cases hi : i < m
    · by_cases hy : y i = 0
      · simp [hy]
      · simp [hi, hy, s i hi hy]
    · simp [hi]
theorem Msk.or {m a b : Nat} {y z w : Nat → Int} (ha : Msk m a y) (hb : Msk m b z) (h : ∀ i, i < m → (w i ≠ 0 ↔ y i ≠ 0 ∨ z i ≠ 0)) : Msk m (a ||| b) w := fun i => by
  rw [Nat.testBit_or, ha i, hb i]
  by_cases hi : i < m
  · have := h i hi
    by_cases h1 : y i = 0 <;> by_cases h2 : z i = 0 <;> simp_all
  · simp [hi]
/-! ### primitive rows -/
theorem prim_spec (ns : List Int) : ∃ g : Int, 0 < g ∧ (prim ns).length = ns.length ∧ ∀ i, ns.getD i 0 = g * (prim ns).getD i 0 := by
  unfold prim
  cases e : goL (primStep ns) ns 0 with
  | inl x => exact ⟨1, by omega, rfl, fun i => by simp⟩
  | inr d =>
    obtain ⟨⟨_, h1⟩, h2⟩ := goL_dvd ns 0 d e
    have h2 := h2 (Int.le_refl 0)
    by_cases c : d = 0
    · dsimp only; rw [if_pos c]
      exact ⟨1, by omega, rfl, fun i => by simp⟩
    · dsimp only; rw [if_neg c]
      refine ⟨d, by omega, by simp, fun i => ?_⟩
      by_cases hi : i < ns.length
      · have h3 := h1 ns[i] (List.getElem_mem hi)
        simp only [List.getD_eq_getElem?_getD, List.getElem?_map, List.getElem?_eq_getElem hi, Option.map_some, Option.getD_some]
        rw [Int.mul_fdiv_cancel' h3]
      · simp [Nat.le_of_not_lt hi]
theorem prim_bd {B : Nat} {ns : List Int} (h : Bd B ns) : Bd B (prim ns) := by
  obtain ⟨g, pg, hl, hs⟩ := prim_spec ns
  intro e he
  obtain ⟨i, hi, rfl⟩ := List.getElem_of_mem he
  have h1 := hs i
  have h2 : (prim ns).getD i 0 = (prim ns)[i] := by simp [hi]
  rw [h2] at h1
  have h3 := h.get i
  rw [h1, Int.natAbs_mul] at h3
  refine Nat.lt_of_le_of_lt ?_ h3
  exact Nat.le_mul_of_pos_left _ (by omega)
theorem mixL_get {a b : List Int} {c i : Nat} (hl : a.length = b.length) : (mixL a b c).getD i 0 = (-(b.getD c 0)) * a.getD i 0 + (a.getD c 0) * b.getD i 0 := by
  unfold mixL
  by_cases hi : i < a.length
  · have hb : i < b.length := by omega
    have hz : i < (a.zip b).length := by simp [hl]; omega
    have e : (a.zip b)[i]? = some (a[i], b[i]) := by rw [List.getElem?_eq_getElem hz]; simp
    simp [List.getD_eq_getElem?_getD, List.getElem?_map, hi, hb, e]
  · have hb : ¬ i < b.length := by omega
    have hz : (a.zip b)[i]? = none := by simp; omega
    simp [List.getD_eq_getElem?_getD, List.getElem?_map, hz, Nat.le_of_not_lt hi, Nat.le_of_not_lt hb]
theorem mixL_len {a b : List Int} {c : Nat} (hl : a.length = b.length) : (mixL a b c).length = a.length := by simp [mixL, hl]
theorem nodup_lt : ∀ {N : Nat} {l : List Nat}, l.Nodup → (∀ x, x ∈ l → x < N) → l.length ≤ N
  | 0, l, _, h => by
    cases l with
    | nil => simp
    | cons x l => exact absurd (h x List.mem_cons_self) (by omega)
  | N + 1, l, nd, h => by
    have h1 := nodup_lt (N := N) (nd.erase N) fun x hx => by
      have h2 := h x (List.mem_of_mem_erase hx)
      have h3 : x ≠ N := fun e => by subst e; exact nd.not_mem_erase hx
      omega
    by_cases c : N ∈ l
    · rw [List.length_erase_of_mem c] at h1; omega
    · rw [List.erase_of_not_mem c] at h1; omega

/-! ### the stages -/
section
variable (vs : List (List Int)) (n : Nat)
def vE (i c : Nat) : Int := (vs.getD i []).getD c 0
/-- the weights of an entry -/
def yv (p : Ent) (i : Nat) : Int := p.2.getD (n + i) 0
structure Good (k B : Nat) (found : List Ent) : Prop where
  len : ∀ p, p ∈ found → p.2.length = n + vs.length
  bd : ∀ p, p ∈ found → Bd B p.2
  dot : ∀ p, p ∈ found → ∀ c, c < n → p.2.getD c 0 = dt vs.length (vE vs) (yv n p) c
  msk : ∀ p, p ∈ found → Msk vs.length p.1 (yv n p)
  stk : Stock vs.length (vE vs) k fun y => ∃ p, p ∈ found ∧ y = yv n p
  nd : found.Pairwise fun p q => p.1 ≠ q.1
end
section
variable {vs : List (List Int)} {n k B : Nat} {found : List Ent}
theorem Good.mn (G : Good vs n k B found) {p : Ent} (h : p ∈ found) : Mn vs.length (vE vs) k (yv n p) := G.stk.mn _ ⟨p, h, rfl⟩
theorem pw_eq : ∀ {l : List Ent}, l.Pairwise (fun p q => p.1 ≠ q.1) → ∀ {p q : Ent}, p ∈ l → q ∈ l → p.1 = q.1 → p = q
  | [], _, p, q, hp, _, _ => by simp at hp
  | x :: l, h, p, q, hp, hq, e => by
    obtain ⟨h1, h2⟩ := List.pairwise_cons.mp h
    rcases List.mem_cons.mp hp with ep | hp' <;> rcases List.mem_cons.mp hq with eq | hq'
    · rw [ep, eq]
    · subst ep; exact absurd e (h1 q hq')
    · subst eq; exact absurd e.symm (h1 p hp')
    · exact pw_eq h2 hp' hq' e
theorem Good.inj (G : Good vs n k B found) {p q : Ent} (hp : p ∈ found) (hq : q ∈ found) (e : p.1 = q.1) : p = q := pw_eq G.nd hp hq e
theorem Good.sz (G : Good vs n k B found) : found.length ≤ 2 ^ vs.length := by
  have h1 : (found.map (·.1)).Nodup := List.pairwise_map.mpr G.nd
  have h2 := nodup_lt (N := 2 ^ vs.length) h1 fun x hx => by
    obtain ⟨p, hp, rfl⟩ := List.mem_map.mp hx
    exact (G.msk p hp).lt
  simpa using h2
theorem Good.stg (G : Good vs n k B found) (h : vs.length ≤ 23) : Stg (n + vs.length) B found :=
  ⟨G.len, G.bd, fun p hp => (G.msk p hp).pos (G.mn hp).nz, by
    have h1 := G.sz
    have h2 : 2 ^ vs.length ≤ 2 ^ 23 := Nat.pow_le_pow_right (by omega) h
    have h3 : (2 : Nat) ^ 23 = 8388608 := by decide
    omega⟩
theorem nb_iff (G : Good vs n k B found) {r f : Ent} (hr : r ∈ found) (hf : f ∈ found) : nb found r.1 f.1 = true ↔ Nb vs.length (fun y => ∃ p, p ∈ found ∧ y = yv n p) (yv n r) (yv n f) := by
  have key : ∀ p, p ∈ found → (p.1 ||| (r.1 ||| f.1) = r.1 ||| f.1 ↔ ∀ i, i < vs.length → yv n p i ≠ 0 → yv n r i ≠ 0 ∨ yv n f i ≠ 0) := fun p hp => by
    have hu : Msk vs.length (r.1 ||| f.1) (fun i => if yv n r i ≠ 0 ∨ yv n f i ≠ 0 then 1 else 0) := Msk.or (G.msk r hr) (G.msk f hf) fun i hi => by
      by_cases c : yv n r i ≠ 0 ∨ yv n f i ≠ 0
      · simp [c]
      · simp [c]
    rw [(G.msk p hp).sub_iff hu]
    constructor
    · intro s i hi h
      have := s i hi h
      by_cases c : yv n r i ≠ 0 ∨ yv n f i ≠ 0
      · exact c
      · dsimp only at this; rw [if_neg c] at this; exact absurd rfl this
    · intro s i hi h
      dsimp only; rw [if_pos (s i hi h)]; decide
  unfold nb nbOk
  rw [List.all_eq_true]
  constructor
  · rintro h g ⟨p, hp, rfl⟩ hs
    have h1 := h p hp
    rw [decide_eq_true ((key p hp).mpr hs)] at h1
    by_cases e1 : p.1 = r.1
    · exact .inl (((G.msk p hp).eq_iff (G.msk r hr)).mp e1)
    · by_cases e2 : p.1 = f.1
      · exact .inr (((G.msk p hp).eq_iff (G.msk f hf)).mp e2)
      · simp [e1, e2] at h1
  · intro h p hp
    by_cases c : p.1 ||| (r.1 ||| f.1) = r.1 ||| f.1
    · rcases h _ ⟨p, hp, rfl⟩ ((key p hp).mp c) with q | q
      · simp [((G.msk p hp).eq_iff (G.msk r hr)).mpr q]
      · simp [((G.msk p hp).eq_iff (G.msk f hf)).mpr q]
    · simp [c]
/-- the merged entry -/
theorem mrg_facts (G : Good vs n k B found) (hk : k < n) {r f : Ent} (hr : r ∈ found) (hf : f ∈ found) (pr : 0 < r.2.getD k 0) (nf : f.2.getD k 0 < 0) :
    (mrg r.2 f.2 k).length = n + vs.length ∧ Bd (2 * B + 1) (mrg r.2 f.2 k) ∧ Mix vs.length (vE vs) k (yv n r) (yv n f) (yv n (r.1 ||| f.1, mrg r.2 f.2 k)) ∧
    (∀ c, c < n → (mrg r.2 f.2 k).getD c 0 = dt vs.length (vE vs) (yv n (r.1 ||| f.1, mrg r.2 f.2 k)) c) ∧ Msk vs.length (r.1 ||| f.1) (yv n (r.1 ||| f.1, mrg r.2 f.2 k)) := by
  have hl : r.2.length = f.2.length := by rw [G.len r hr, G.len f hf]
  obtain ⟨g, pg, h1, h2⟩ := prim_spec (mixL r.2 f.2 k)
  have e1 := G.dot r hr k hk
  have e2 := G.dot f hf k hk
  have hx : Mix vs.length (vE vs) k (yv n r) (yv n f) (yv n (r.1 ||| f.1, mrg r.2 f.2 k)) := by
    refine ⟨g, pg, fun i hi => ?_⟩
    have := h2 (n + i)
    rw [mixL_get hl] at this
    rw [← e1, ← e2]
    exact this.symm
  refine ⟨by unfold mrg; rw [h1, mixL_len hl, G.len r hr], prim_bd (mixL_bd (G.bd r hr) (G.bd f hf)), hx, fun c hc => ?_, ?_⟩
  · have e3 := h2 c
    rw [mixL_get hl] at e3
    have e4 : g * dt vs.length (vE vs) (yv n (r.1 ||| f.1, mrg r.2 f.2 k)) c = g * (mrg r.2 f.2 k).getD c 0 := by
      obtain ⟨g', pg', hx'⟩ := hx
      have e5 : ∀ i, i < vs.length → g * yv n (r.1 ||| f.1, mrg r.2 f.2 k) i = (-(f.2.getD k 0)) * yv n r i + r.2.getD k 0 * yv n f i := fun i hi => by
        have := h2 (n + i)
        rw [mixL_get hl] at this
        exact this.symm
      rw [← dt_smul, dt_congr _ _ e5, dt_lin, ← G.dot r hr c hc, ← G.dot f hf c hc, e3]
      rfl
    exact (Int.eq_of_mul_eq_mul_left (by omega) e4).symm
  · refine Msk.or (G.msk r hr) (G.msk f hf) fun i hi => ?_
    exact hx.supp (G.mn hr).c (G.mn hf).c (by rw [← e1]; exact pr) (by rw [← e2]; exact nf) hi
theorem pair_mem {p : Ent} (h : p ∈ balAt k found) : (p ∈ zeros k found) ∨ ∃ r f, r ∈ rises k found ∧ f ∈ falls k found ∧ pairE k found r f = some p := by
  unfold balAt at h
  rcases List.mem_append.mp h with h | h
  · exact .inl h
  · obtain ⟨r, hr, h⟩ := List.mem_flatMap.mp h
    obtain ⟨f, hf, h⟩ := List.mem_filterMap.mp h
    exact .inr ⟨r, f, hr, hf, h⟩
theorem pair_some {r f p : Ent} (h : pairE k found r f = some p) : p = (r.1 ||| f.1, mrg r.2 f.2 k) ∧ hmGo (k + 2) (r.1 ||| f.1) = true ∧ nb found r.1 f.1 = true := by
  unfold pairE at h
  split at h
  · rename_i c
    cases h
    rw [Bool.and_eq_true] at c
    exact ⟨rfl, c.1, c.2⟩
  · cases h
theorem mem_rises {p : Ent} (h : p ∈ rises k found) : p ∈ found ∧ 0 < p.2.getD k 0 := by
  obtain ⟨h1, h2⟩ := List.mem_filter.mp h
  exact ⟨h1, of_decide_eq_true h2⟩
theorem mem_falls {p : Ent} (h : p ∈ falls k found) : p ∈ found ∧ p.2.getD k 0 < 0 := by
  obtain ⟨h1, h2⟩ := List.mem_filter.mp h
  exact ⟨h1, of_decide_eq_true h2⟩
theorem mem_zeros {p : Ent} (h : p ∈ zeros k found) : p ∈ found ∧ p.2.getD k 0 = 0 := by
  obtain ⟨h1, h2⟩ := List.mem_filter.mp h
  exact ⟨h1, of_decide_eq_true h2⟩
/-- THE STEP -/
theorem Good.step (G : Good vs n k B found) (hk : k < n) : Good vs n (k + 1) (2 * B + 1) (balAt k found) := by
  have cases_ : ∀ p, p ∈ balAt k found → (p ∈ found ∧ p.2.getD k 0 = 0) ∨ ∃ r f, r ∈ found ∧ f ∈ found ∧ 0 < r.2.getD k 0 ∧ f.2.getD k 0 < 0 ∧ p = (r.1 ||| f.1, mrg r.2 f.2 k) ∧ nb found r.1 f.1 = true := fun p hp => by
    rcases pair_mem hp with h | ⟨r, f, hr, hf, h⟩
    · exact .inl (mem_zeros h)
    · obtain ⟨e, _, h2⟩ := pair_some h
      exact .inr ⟨r, f, (mem_rises hr).1, (mem_falls hf).1, (mem_rises hr).2, (mem_falls hf).2, e, h2⟩
  have dk : ∀ p, p ∈ found → p.2.getD k 0 = dt vs.length (vE vs) (yv n p) k := fun p hp => G.dot p hp k hk
  -- a set that lies in a tested pair is one of the pair
  have inU : ∀ r f g, r ∈ found → f ∈ found → g ∈ found → nb found r.1 f.1 = true → g.1 ||| (r.1 ||| f.1) = r.1 ||| f.1 → g = r ∨ g = f := fun r f g hr hf hg h e => by
    unfold nb nbOk at h
    have := List.all_eq_true.mp h g hg
    rw [decide_eq_true e] at this
    by_cases e1 : g.1 = r.1
    · exact .inl (G.inj hg hr e1)
    · by_cases e2 : g.1 = f.1
      · exact .inr (G.inj hg hf e2)
      · simp [e1, e2] at this
  refine ⟨fun p hp => ?_, fun p hp => ?_, fun p hp => ?_, fun p hp => ?_, ⟨?_, fun e he => ?_⟩, ?_⟩
  · rcases cases_ p hp with ⟨h, _⟩ | ⟨r, f, hr, hf, pr, nf, rfl, _⟩
    · exact G.len p h
    · exact (mrg_facts G hk hr hf pr nf).1
  · rcases cases_ p hp with ⟨h, _⟩ | ⟨r, f, hr, hf, pr, nf, rfl, _⟩
    · exact (G.bd p h).mono (by omega)
    · exact (mrg_facts G hk hr hf pr nf).2.1
  · rcases cases_ p hp with ⟨h, _⟩ | ⟨r, f, hr, hf, pr, nf, rfl, _⟩
    · exact G.dot p h
    · exact (mrg_facts G hk hr hf pr nf).2.2.2.1
  · rcases cases_ p hp with ⟨h, _⟩ | ⟨r, f, hr, hf, pr, nf, rfl, _⟩
    · exact G.msk p h
    · exact (mrg_facts G hk hr hf pr nf).2.2.2.2
  · rintro y ⟨p, hp, rfl⟩
    rcases cases_ p hp with ⟨h, h0⟩ | ⟨r, f, hr, hf, pr, nf, rfl, hn⟩
    · have M := G.mn h
      refine ⟨⟨M.c.nn, fun c hc => ?_⟩, M.nz, fun z hz nz s => M.mn z (hz.down (Nat.le_succ k)) nz s⟩
      by_cases e : c = k
      · rw [e, ← dk p h]; exact h0
      · exact M.c.eq c (by omega)
    · exact step_mn G.stk ⟨r, hr, rfl⟩ ⟨f, hf, rfl⟩ (by rw [← dk r hr]; exact pr) (by rw [← dk f hf]; exact nf) ((nb_iff G hr hf).mp hn) (mrg_facts G hk hr hf pr nf).2.2.1
  · rcases step_all G.stk he with ⟨y, ⟨p, hp, rfl⟩, h0, hs⟩ | ⟨y, z, ⟨r, hr, rfl⟩, ⟨f, hf, rfl⟩, pr, nf, hn, hs⟩
    · refine ⟨_, ⟨p, ?_, rfl⟩, hs.1, hs.2⟩
      unfold balAt
      exact List.mem_append_left _ (List.mem_filter.mpr ⟨hp, decide_eq_true (by rw [dk p hp]; exact h0)⟩)
    · have pr' : 0 < r.2.getD k 0 := by rw [dk r hr]; exact pr
      have nf' : f.2.getD k 0 < 0 := by rw [dk f hf]; exact nf
      have F := mrg_facts G hk hr hf pr' nf'
      have sm : Same vs.length (yv n (r.1 ||| f.1, mrg r.2 f.2 k)) e := by
        have h1 := fun i hi => F.2.2.1.supp (G.mn hr).c (G.mn hf).c pr nf (i := i) hi
        exact ⟨fun i hi h => (hs i hi).mpr ((h1 i hi).mp h), fun i hi h => (h1 i hi).mpr ((hs i hi).mp h)⟩
      have hm : hmGo (k + 2) (r.1 ||| f.1) = true := by
        refine hm_of (k + 2) _ vs.length _ F.2.2.2.2 (F.2.2.2.2.pos ?_) ?_
        · obtain ⟨i, hi, h⟩ := he.nz
          exact ⟨i, hi, sm.2 i hi h⟩
        · exact Nat.le_trans (cnt_le sm.1) he.small
      refine ⟨_, ⟨(r.1 ||| f.1, mrg r.2 f.2 k), ?_, rfl⟩, sm.1, sm.2⟩
      unfold balAt
      refine List.mem_append_right _ (List.mem_flatMap.mpr ⟨r, List.mem_filter.mpr ⟨hr, decide_eq_true pr'⟩, List.mem_filterMap.mpr ⟨f, List.mem_filter.mpr ⟨hf, decide_eq_true nf'⟩, ?_⟩⟩)
      unfold pairE
      rw [hm, (nb_iff G hr hf).mpr hn]
      rfl
  · unfold balAt
    rw [List.pairwise_append]
    refine ⟨G.nd.filter _, ?_, fun a ha b hb => ?_⟩
    · rw [List.pairwise_flatMap]
      refine ⟨fun r hr => ?_, ?_⟩
      · rw [List.pairwise_filterMap]
        refine (G.nd.filter _).imp_of_mem fun {f f'} hf hf' hne p hp q hq e => ?_
        obtain ⟨rfl, _, hn⟩ := pair_some hp
        obtain ⟨rfl, _, hn'⟩ := pair_some hq
        obtain ⟨r1, r2⟩ := mem_rises hr
        obtain ⟨f1, f2⟩ := mem_falls hf
        obtain ⟨g1, g2⟩ := mem_falls hf'
        have e' : r.1 ||| f.1 = r.1 ||| f'.1 := e
        have : f'.1 ||| (r.1 ||| f.1) = r.1 ||| f.1 := by
          rw [e']
          apply Nat.eq_of_testBit_eq
          intro i
          simp only [Nat.testBit_or]
          cases f'.1.testBit i <;> cases r.1.testBit i <;> rfl
        rcases inU r f f' r1 f1 g1 hn this with q | q
        · subst q; omega
        · subst q; exact hne rfl
      · refine (G.nd.filter _).imp_of_mem fun {r r'} hr hr' hne p hp q hq e => ?_
        obtain ⟨f, hf, hp⟩ := List.mem_filterMap.mp hp
        obtain ⟨f', hf', hq⟩ := List.mem_filterMap.mp hq
        obtain ⟨rfl, _, hn⟩ := pair_some hp
        obtain ⟨rfl, _, hn'⟩ := pair_some hq
        obtain ⟨r1, r2⟩ := mem_rises hr
        obtain ⟨s1, s2⟩ := mem_rises hr'
        obtain ⟨f1, f2⟩ := mem_falls hf
        have e' : r.1 ||| f.1 = r'.1 ||| f'.1 := e
        have : r'.1 ||| (r.1 ||| f.1) = r.1 ||| f.1 := by
          rw [e']
          apply Nat.eq_of_testBit_eq
          intro i
          simp only [Nat.testBit_or]
          cases f'.1.testBit i <;> cases r'.1.testBit i <;> rfl
        rcases inU r f r' r1 f1 s1 hn this with q | q
        · subst q; exact hne rfl
        · subst q; omega
    · obtain ⟨z1, z2⟩ := mem_zeros ha
      obtain ⟨r, hr, hb⟩ := List.mem_flatMap.mp hb
      obtain ⟨f, hf, hb⟩ := List.mem_filterMap.mp hb
      obtain ⟨rfl, _, hn⟩ := pair_some hb
      obtain ⟨r1, r2⟩ := mem_rises hr
      obtain ⟨f1, f2⟩ := mem_falls hf
      intro e
      have e' : a.1 = r.1 ||| f.1 := e
      have : a.1 ||| (r.1 ||| f.1) = r.1 ||| f.1 := by rw [← e', Nat.or_self]
      rcases inU r f a r1 f1 z1 hn this with q | q
      · subst q; omega
      · subst q; omega
end
end W20
end

section
set_option linter.all false
/-! MD: all stages. -/
namespace W20
open MA DL
section
variable {vs : List (List Int)} {n : Nat}
theorem unitR_get {i m j : Nat} : (unitR i m).getD j 0 = if j = i ∧ j < m then 1 else 0 := by
  unfold unitR
  by_cases h : j < m
  · by_cases e : j = i
    · simp [List.getD_eq_getElem?_getD, List.getElem?_map, h, e]
      subst e; simp [h]
    · simp [List.getD_eq_getElem?_getD, List.getElem?_map, h, e]
  · simp [List.getD_eq_getElem?_getD, List.getElem?_map, h]
theorem init_mem {p : Ent} (h : p ∈ initE vs) : ∃ i, i < vs.length ∧ p = (2 ^ i, vs.getD i [] ++ unitR i vs.length) := by
  unfold initE at h
  obtain ⟨q, hq, rfl⟩ := List.mem_map.mp h
  obtain ⟨h1, h2⟩ := zipIdx_at hq
  refine ⟨q.2, h1, ?_⟩
  have : vs.getD q.2 [] = q.1 := by simp [List.getD_eq_getElem?_getD, h2]
  rw [this]
theorem mem_init {i : Nat} (h : i < vs.length) : ((2 ^ i, vs.getD i [] ++ unitR i vs.length) : Ent) ∈ initE vs := by
  unfold initE
  refine List.mem_map.mpr ⟨(vs.getD i [], i), ?_, rfl⟩
  rw [List.mem_iff_getElem?]
  refine ⟨i, ?_⟩
  simp [h]
theorem good0 {B : Nat} (hv : ∀ v, v ∈ vs → v.length = n) (hb : ∀ v, v ∈ vs → Bd B v) (hB : 1 ≤ B) : Good vs n 0 B (initE vs) := by
  have vl : ∀ i, i < vs.length → (vs.getD i []).length = n ∧ Bd B (vs.getD i []) := fun i hi => by
    have : vs.getD i [] = vs[i] := by simp [hi]
    rw [this]
    exact ⟨hv _ (List.getElem_mem hi), hb _ (List.getElem_mem hi)⟩
  have yu : ∀ i, i < vs.length → ∀ j, yv n ((2 ^ i, vs.getD i [] ++ unitR i vs.length) : Ent) j = if j = i ∧ j < vs.length then 1 else 0 := fun i hi j => by
    unfold yv
    rw [← unitR_get (i := i) (m := vs.length), List.getD_eq_getElem?_getD, List.getElem?_append_right (by rw [(vl i hi).1]; omega), (vl i hi).1]
    rw [show n + j - n = j by omega, ← List.getD_eq_getElem?_getD]
  have ul : ∀ i, (unitR i vs.length).length = vs.length := fun i => by simp [unitR]
  refine ⟨fun p hp => ?_, fun p hp => ?_, fun p hp c hc => ?_, fun p hp => ?_, ⟨?_, fun e he => ?_⟩, ?_⟩
  · obtain ⟨i, hi, rfl⟩ := init_mem hp
    simp only [List.length_append, (vl i hi).1, ul]
  · obtain ⟨i, hi, rfl⟩ := init_mem hp
    intro e he
    rcases List.mem_append.mp he with he | he
    · exact (vl i hi).2 e he
    · unfold unitR at he
      obtain ⟨j, _, rfl⟩ := List.mem_map.mp he
      have : 1 < 2 ^ B := Nat.one_lt_two_pow (by omega)
      split <;> simp <;> omega
  · obtain ⟨i, hi, rfl⟩ := init_mem hp
    have e1 : dt vs.length (vE vs) (yv n ((2 ^ i, vs.getD i [] ++ unitR i vs.length) : Ent)) c = sm vs.length fun j => (if j = i then 1 else 0) * vE vs j c := by
      unfold dt
      exact sm_congr fun j hj => by rw [yu i hi j]; simp [hj]
    rw [e1, sm_one hi]
    unfold vE
    simp only [Int.one_mul]
    rw [List.getD_eq_getElem?_getD, List.getElem?_append_left (by rw [(vl i hi).1]; exact hc), ← List.getD_eq_getElem?_getD]
  · obtain ⟨i, hi, rfl⟩ := init_mem hp
    intro j
    rw [yu i hi j, Nat.testBit_two_pow]
    by_cases e : j = i
    · subst e; simp [hi]
    · have : ¬ i = j := fun q => e q.symm
      simp [e, this]
  · rintro y ⟨p, hp, rfl⟩
    obtain ⟨i, hi, rfl⟩ := init_mem hp
    refine ⟨⟨fun j hj => by rw [yu i hi j]; split <;> omega, fun c hc => by omega⟩, ⟨i, hi, by rw [yu i hi i]; simp [hi]⟩, fun z hz nz s j hj hy => ?_⟩
    have ej : j = i := by
      by_cases e : j = i
      · exact e
      · rw [yu i hi j] at hy
        simp [e] at hy
    subst ej
    obtain ⟨t, ht, hzt⟩ := nz
    have := s t ht hzt
    rw [yu j hi t] at this
    by_cases e : t = j
    · rw [← e]; exact hzt
    · simp [e] at this
  · obtain ⟨i, hi, h⟩ := he.nz
    refine ⟨_, ⟨_, mem_init hi, rfl⟩, ?_⟩
    have s1 : MA.Sub vs.length (yv n ((2 ^ i, vs.getD i [] ++ unitR i vs.length) : Ent)) e := fun j hj hy => by
      rw [yu i hi j] at hy
      by_cases q : j = i
      · subst q; exact h
      · simp [q] at hy
    refine ⟨s1, he.mn _ ⟨fun j hj => by rw [yu i hi j]; split <;> omega, fun c hc => by omega⟩ ⟨i, hi, by rw [yu i hi i]; simp [hi]⟩ s1⟩
  · unfold initE
    rw [List.pairwise_map, List.pairwise_iff_getElem]
    intro i j hi hj hij e
    simp only [List.getElem_zipIdx, Nat.zero_add] at e
    have := Nat.pow_lt_pow_right (a := 2) (by omega) hij
    omega
def bB (b0 : Nat) : Nat → Nat
  | 0 => b0
  | k + 1 => 2 * bB b0 k + 1
theorem good_all {B : Nat} (hv : ∀ v, v ∈ vs → v.length = n) (hb : ∀ v, v ∈ vs → Bd B v) (hB : 1 ≤ B) : ∀ k, k ≤ n → Good vs n k (bB B k) (bal k (initE vs))
  | 0, _ => good0 hv hb hB
  | k + 1, h => (good_all hv hb hB k (by omega)).step (by omega)
end
end W20
end

section
set_option linter.all false
/-! ME: the law's elimination. -/
namespace W20
open MA DL
/-- row j of the lines on x -/
def dl (L : List (List Int)) (w : Nat) (x : Nat → Int) (j : Nat) : Int := sm w fun c => ent L j c * x c
def Ker (L : List (List Int)) (n w : Nat) (x : Nat → Int) : Prop := ∀ j, j < n → dl L w x j = 0
structure GI (n w k : Nat) (L : List (List Int)) : Prop where
  len : L.length = n
  row : ∀ j, j < n → (L.getD j []).length = w
  le : k ≤ n
  piv : ∀ c, c < k → ent L c c ≠ 0
  zer : ∀ c, c < k → ∀ j, j < n → j ≠ c → ent L j c = 0
section
variable {n w k p : Nat} {L : List (List Int)}
theorem swap_get (hl : L.length = n) (hp : p < n) (hk : k < n) {j : Nat} (hj : j < n) : (swapL L p k).getD j [] = if j = k then L.getD p [] else if j = p then L.getD k [] else L.getD j [] := by
  unfold swapL
  have h1 : j < L.length := by omega
  simp only [List.getD_eq_getElem?_getD, List.getElem?_set, List.length_set]
  by_cases c1 : k = j
  · subst c1; simp [h1]
  · by_cases c2 : p = j
    · subst c2
      have : ¬ p = k := fun e => c1 e.symm
      simp [c1, this, h1]
    · have e1 : ¬ j = k := fun e => c1 e.symm
      have e2 : ¬ j = p := fun e => c2 e.symm
      simp [c1, c2, e1, e2]
theorem elim_get (hl : L.length = n) {line : List Int} {d j : Nat} (hj : j < n) : (elimTo line L k d).getD j [] = if j < d ∧ j ≠ k then comb line (L.getD j []) k else L.getD j [] := by
  unfold elimTo
  have h1 : j < L.length := by omega
  simp [List.getD_eq_getElem?_getD, h1]
theorem comb_get {line other : List Int} {c : Nat} (hc : c < line.length) : (comb line other k).getD c 0 = line.getD k 0 * other.getD c 0 - other.getD k 0 * line.getD c 0 := by
  unfold comb
  simp [List.getD_eq_getElem?_getD, hc]
/-- the entries behind one step -/
theorem elim_ent (G : GI n w k L) (hp : p < n) (hk : k < n) {j c : Nat} (hj : j < n) (hc : c < w) :
    ent (elimL L p k) j c = if j = k then ent L p c else if j = p then ent L p k * ent L k c - ent L k k * ent L p c else ent L p k * ent L j c - ent L j k * ent L p c := by
  have hl := G.len
  have hsl : (swapL L p k).length = n := by simp [swapL, hl]
  unfold elimL
  rw [hl]
  show ((elimTo (L.getD p []) (swapL L p k) k n).getD j []).getD c 0 = _
  rw [elim_get hsl hj, swap_get hl hp hk hj]
  have hw : c < (L.getD p []).length := by rw [G.row p hp]; exact hc
  by_cases c1 : j = k
  · subst c1
    rw [if_neg (by simp), if_pos rfl, if_pos rfl]
  · rw [if_pos ⟨hj, c1⟩, if_neg c1, if_neg c1, comb_get hw]
    by_cases c2 : j = p
    · rw [if_pos c2, if_pos c2]
    · rw [if_neg c2, if_neg c2]
theorem elim_row (G : GI n w k L) (hp : p < n) (hk : k < n) {j : Nat} (hj : j < n) : ((elimL L p k).getD j []).length = w := by
  have hl := G.len
  have hsl : (swapL L p k).length = n := by simp [swapL, hl]
  unfold elimL
  rw [hl, elim_get hsl hj, swap_get hl hp hk hj]
  split
  · simp [comb]; exact G.row p hp
  · split
    · exact G.row p hp
    · split
      · exact G.row k hk
      · exact G.row j hj
theorem GI.step (G : GI n w k L) (hkp : k ≤ p) (hp : p < n) (hw : k < w) (h0 : ent L p k ≠ 0) : GI n w (k + 1) (elimL L p k) := by
  have hk : k < n := by omega
  refine ⟨by simp [elimL, elimTo, swapL, G.len], fun j hj => elim_row G hp hk hj, by omega, fun c hc => ?_, fun c hc j hj hjc => ?_⟩
  · rw [elim_ent G hp hk (show c < n by omega) (show c < w by omega)]
    by_cases c1 : c = k
    · subst c1; rw [if_pos rfl]; exact h0
    · have hck : c < k := by omega
      have z : ent L p c = 0 := G.zer c hck p hp (by omega)
      rw [if_neg c1, if_neg (by omega), z]
      have := mul_ne h0 (G.piv c hck)
      simpa using this
  · rw [elim_ent G hp hk hj (show c < w by omega)]
    by_cases c1 : c = k
    · subst c1
      rw [if_neg hjc]
      split <;> grind
    · have hck : c < k := by omega
      have z : ent L p c = 0 := G.zer c hck p hp (by omega)
      by_cases c2 : j = k
      · rw [if_pos c2]; exact z
      · rw [if_neg c2]
        have zk : ent L k c = 0 := G.zer c hck k hk (by omega)
        have zj : ent L j c = 0 := G.zer c hck j hj hjc
        split
        · rw [z, zk]; simp
        · rw [z, zj]; simp
theorem dl_elim (G : GI n w k L) (hp : p < n) (hk : k < n) {j : Nat} (hj : j < n) (x : Nat → Int) :
    dl (elimL L p k) w x j = if j = k then dl L w x p else if j = p then ent L p k * dl L w x k - ent L k k * dl L w x p else ent L p k * dl L w x j - ent L j k * dl L w x p := by
  have lin : ∀ (a b : Int) (i q : Nat), sm w (fun c => (a * ent L i c - b * ent L q c) * x c) = a * dl L w x i - b * dl L w x q := fun a b i q => by
    unfold dl
    rw [sm_congr (g := fun c => a * (ent L i c * x c) + (-b) * (ent L q c * x c)) fun c _ => by grind]
    rw [sm_add, sm_mul, sm_mul]
    grind
  unfold dl
  by_cases c1 : j = k
  · rw [if_pos c1]
    exact sm_congr fun c hc => by rw [elim_ent G hp hk hj hc, if_pos c1]
  · rw [if_neg c1]
    by_cases c2 : j = p
    · rw [if_pos c2]
      have := lin (ent L p k) (ent L k k) k p
      unfold dl at this
      rw [← this]
      exact sm_congr fun c hc => by rw [elim_ent G hp hk hj hc, if_neg c1, if_pos c2]
    · rw [if_neg c2]
      have := lin (ent L p k) (ent L j k) j p
      unfold dl at this
      rw [← this]
      exact sm_congr fun c hc => by rw [elim_ent G hp hk hj hc, if_neg c1, if_neg c2]
theorem ker_step (G : GI n w k L) (hkp : k ≤ p) (hp : p < n) (h0 : ent L p k ≠ 0) (x : Nat → Int) : Ker (elimL L p k) n w x ↔ Ker L n w x := by
  have hk : k < n := by omega
  constructor
  · intro h
    have hpz : dl L w x p = 0 := by
      have := h k hk
      rw [dl_elim G hp hk hk, if_pos rfl] at this
      exact this
    have nz : ∀ y : Int, ent L p k * y = 0 → y = 0 := fun y e => (Int.mul_eq_zero.mp e).resolve_left h0
    intro j hj
    by_cases c2 : j = p
    · rw [c2]; exact hpz
    · by_cases c1 : j = k
      · have := h p hp
        rw [dl_elim G hp hk hp, if_neg (by omega), if_pos rfl, hpz] at this
        rw [c1]
        exact nz _ (by simpa using this)
      · have := h j hj
        rw [dl_elim G hp hk hj, if_neg c1, if_neg c2, hpz] at this
        exact nz _ (by simpa using this)
  · intro h j hj
    rw [dl_elim G hp hk hj]
    split
    · exact h p hp
    · split
      · rw [h p hp, h k hk]; simp
      · rw [h p hp, h j hj]; simp
theorem gs_ok {L0 : List (List Int)} (G0 : GI n w 0 L0) : ∀ {k : Nat} {L : List (List Int)}, k < w → gs L0 k = some L → GI n w k L ∧ ∀ x, Ker L n w x ↔ Ker L0 n w x
  | 0, L, _, e => by cases e; exact ⟨G0, fun _ => Iff.rfl⟩
  | k + 1, L, hw, e => by
    obtain ⟨L', e1, e⟩ := bind_ok (show (gs L0 k).bind (fun L => match spots L k with
      | [] => none
      | p :: _ => some (elimL L p k)) = some L from e)
    obtain ⟨G, hK⟩ := gs_ok G0 (by omega) e1
    split at e
    · cases e
    · rename_i p _ hs
      cases e
      obtain ⟨p1, p2, p3⟩ := spots_mem (L := L') (k := k) (p := p) (by rw [hs]; simp)
      rw [G.len] at p2
      exact ⟨G.step p1 p2 (by omega) p3, fun x => (ker_step G p1 p2 p3 x).trans (hK x)⟩
end
end W20
end

section
set_option linter.all false
/-! MF: what the law's weights say. -/
namespace W20
open MA DL
theorem cnt_ind {k : Nat} : ∀ {m : Nat}, k < m → cnt m (fun i => if i ≤ k then 1 else 0) = k + 1
  | 0, h => by omega
  | m + 1, h => by
    unfold cnt
    by_cases c : k = m
    · subst c
      have : ∀ n, n ≤ k → cnt n (fun i => if i ≤ k then (1 : Int) else 0) = n := by
        intro n
        induction n with
        | zero => intro _; rfl
        | succ n ih =>
          intro hn
          unfold cnt
          rw [ih (by omega)]
          have : n ≤ k := by omega
          simp [this]
      rw [this k (Nat.le_refl _)]
      simp
    · rw [cnt_ind (by omega)]
      have : ¬ m ≤ k := by omega
      simp [this]
section
variable {n w k : Nat} {L L0 : List (List Int)}
theorem spots_nil (G : GI n w k L) (h : spots L k = []) : ∀ j, k ≤ j → j < n → ent L j k = 0 := fun j hk hj => by
  apply Classical.byContradiction
  intro c
  have : j ∈ spots L k := by
    unfold spots rangeN
    refine List.mem_filter.mpr ⟨List.mem_map.mpr ⟨j - k, by rw [G.len]; simp; omega, by omega⟩, decide_eq_true c⟩
  rw [h] at this
  simp at this
theorem fail_x (G : GI n w k L) (hw : k < w) (h : spots L k = []) : ∃ x, (∃ c, c ≤ k ∧ x c ≠ 0) ∧ (∀ c, c < w → k < c → x c = 0) ∧ Ker L n w x := by
  obtain ⟨z, z1, z2, z3⟩ := kernel (m := w) k (fun i c => ent L c i) (fun i => if i ≤ k then 1 else 0) (by rw [cnt_ind hw]; omega)
  have up : ∀ c, c < w → k < c → z c = 0 := fun c hc hk => by
    apply Classical.byContradiction
    intro q
    have := z2 c hc q
    simp at this
    omega
  refine ⟨z, ?_, up, fun j hj => ?_⟩
  · obtain ⟨i, hi, h⟩ := z1
    refine ⟨i, ?_, h⟩
    apply Classical.byContradiction
    intro q
    exact h (up i hi (by omega))
  · by_cases c : j < k
    · have := z3 j c
      unfold dt at this
      unfold dl
      rw [← this]
      exact sm_congr fun c _ => Int.mul_comm _ _
    · unfold dl
      rw [sm_congr (g := fun _ => 0) fun c hc => ?_, sm_zero]
      by_cases c1 : c < k
      · rw [G.zer c c1 j hj (by omega)]; simp
      · by_cases c2 : c = k
        · subst c2; rw [spots_nil G h j (by omega) hj]; simp
        · rw [up c hc (by omega)]; simp
theorem gs_fail (G0 : GI n w 0 L0) : ∀ {s : Nat}, s < w → gs L0 s = none → ∃ x, (∃ c, c < s ∧ x c ≠ 0) ∧ (∀ c, c < w → s ≤ c → x c = 0) ∧ Ker L0 n w x
  | 0, _, h => by cases h
  | k + 1, hw, h => by
    cases e : gs L0 k with
    | none =>
      obtain ⟨x, ⟨c, hc, hx⟩, h2, h3⟩ := gs_fail G0 (by omega) e
      exact ⟨x, ⟨c, by omega, hx⟩, fun c hc hs => h2 c hc (by omega), h3⟩
    | some L =>
      have h' : (gs L0 k).bind (fun L => match spots L k with
        | [] => none
        | p :: _ => some (elimL L p k)) = none := h
      rw [e] at h'
      simp only [Option.bind_some] at h'
      obtain ⟨G, hK⟩ := gs_ok G0 (by omega) e
      cases hs : spots L k with
      | nil =>
        obtain ⟨x, ⟨c, hc, hx⟩, h2, h3⟩ := fail_x G (by omega) hs
        exact ⟨x, ⟨c, by omega, hx⟩, fun c hc hs => h2 c hc (by omega), (hK x).mp h3⟩
      | cons p ps =>
        rw [hs] at h'
        cases h'
/-- one line of the end -/
theorem sm_two {s : Nat} {f : Nat → Int} {k : Nat} (hk : k < s) (h : ∀ c, c < s → c ≠ k → f c = 0) : sm (s + 1) f = f k + f s := by
  unfold sm
  congr 1
  have : ∀ m, m ≤ s → sm m f = if k < m then f k else 0 := by
    intro m
    induction m with
    | zero => intro _; rfl
    | succ m ih =>
      intro hm
      unfold sm
      rw [ih (by omega)]
      by_cases c : m = k
      · subst c; simp
      · rw [h m (by omega) c]
        by_cases c2 : k < m
        · have : k < m + 1 := by omega
          simp [c2, this]
        · have : ¬ k < m + 1 := by omega
          simp [c2, this]
  rw [this s (Nat.le_refl _), if_pos hk]
theorem sm_last {s : Nat} {f : Nat → Int} (h : ∀ c, c < s → f c = 0) : sm (s + 1) f = f s := by
  unfold sm
  rw [sm_congr (g := fun _ => 0) h, sm_zero]; simp
theorem ker_end {s : Nat} (G : GI n (s + 1) s L) (x : Nat → Int) : Ker L n (s + 1) x ↔ (∀ k, k < s → ent L k k * x k + ent L k s * x s = 0) ∧ ∀ j, s ≤ j → j < n → ent L j s * x s = 0 := by
  have h1 : ∀ k, k < s → dl L (s + 1) x k = ent L k k * x k + ent L k s * x s := fun k hk => by
    unfold dl
    exact sm_two hk fun c hc hne => by rw [G.zer c hc k (by have := G.le; omega) (by omega)]; simp
  have h2 : ∀ j, s ≤ j → j < n → dl L (s + 1) x j = ent L j s * x s := fun j hs hj => by
    unfold dl
    exact sm_last fun c hc => by rw [G.zer c hc j hj (by omega)]; simp
  constructor
  · intro h
    refine ⟨fun k hk => ?_, fun j hs hj => ?_⟩
    · rw [← h1 k hk]; exact h k (by have := G.le; omega)
    · rw [← h2 j hs hj]; exact h j hj
  · rintro ⟨a, b⟩ j hj
    by_cases c : j < s
    · rw [h1 j c]; exact a j c
    · rw [h2 j (by omega) hj]; exact b j (by omega) hj
end
section
variable {rs : List (List Int)} {aim : List Int}
theorem gi0 : GI aim.length (rs.length + 1) 0 (mat0 rs aim) := by
  refine ⟨by simp [mat0], fun j hj => ?_, Nat.zero_le _, fun c hc => by omega, fun c hc => by omega⟩
  unfold mat0
  simp [List.getD_eq_getElem?_getD, hj]
theorem weights_some {w : List (Int × Int)} (h : weightsL rs aim = some w) : ∃ d t : Nat → Int, (∀ k, k < rs.length → d k ≠ 0 ∧ w.getD k (0, 0) = redS (t k) (d k)) ∧
    ∀ x, Ker (mat0 rs aim) aim.length (rs.length + 1) x ↔ ∀ k, k < rs.length → d k * x k + t k * x rs.length = 0 := by
  unfold weightsL at h
  obtain ⟨L, hg, h⟩ := bind_ok h
  split at h
  · rename_i hall
    cases h
    obtain ⟨G, hK⟩ := gs_ok gi0 (by omega) hg
    refine ⟨fun k => ent L k k, fun k => ent L k rs.length, fun k hk => ⟨G.piv k hk, by simp [List.getD_eq_getElem?_getD, hk]⟩, fun x => ?_⟩
    rw [← hK x, ker_end G x]
    constructor
    · intro h; exact h.1
    · intro h
      refine ⟨h, fun j hs hj => ?_⟩
      rw [List.all_eq_true] at hall
      have := hall j (List.mem_map.mpr ⟨j - rs.length, by rw [G.len]; simp; omega, by omega⟩)
      rw [of_decide_eq_true this]; simp
  · cases h
theorem weights_none (h : weightsL rs aim = none) : (∃ x, (∃ c, c < rs.length ∧ x c ≠ 0) ∧ x rs.length = 0 ∧ Ker (mat0 rs aim) aim.length (rs.length + 1) x) ∨
    ∀ x, Ker (mat0 rs aim) aim.length (rs.length + 1) x → x rs.length = 0 := by
  unfold weightsL at h
  cases hg : gs (mat0 rs aim) rs.length with
  | none =>
    obtain ⟨x, h1, h2, h3⟩ := gs_fail gi0 (by omega) hg
    exact .inl ⟨x, h1, h2 rs.length (by omega) (Nat.le_refl _), h3⟩
  | some L =>
    rw [hg] at h
    simp only [Option.bind_some] at h
    split at h
    · cases h
    · rename_i hall
      right
      intro x hx
      obtain ⟨G, hK⟩ := gs_ok gi0 (by omega) hg
      have hx' := (hK x).mpr hx
      rw [ker_end G x] at hx'
      apply Classical.byContradiction
      intro q
      apply hall
      rw [List.all_eq_true]
      intro j hj
      obtain ⟨t, ht, rfl⟩ := List.mem_map.mp hj
      have ht : t < aim.length - rs.length := by rw [G.len] at ht; simpa using ht
      have := hx'.2 (rs.length + t) (by omega) (by omega)
      exact decide_eq_true ((Int.mul_eq_zero.mp this).resolve_right q)
end
end W20
end

section
set_option linter.all false
/-! MG: least supports and the law's sets. -/
namespace MA
section
variable {m : Nat} {v : Nat → Nat → Int} {k : Nat} {y : Nat → Int}
/-- within a least support there is no other solution, of any signs, that leaves a place out -/
theorem Mn.no_other (h : Mn m v k y) {z0 : Nat → Int} (n0 : Nz m z0) (s0 : Sub m z0 y) (e0 : ∀ c, c < k → dt m v z0 c = 0) {p : Nat} (hp : p < m) (yp : y p ≠ 0) (zp0 : z0 p = 0) : False := by
  obtain ⟨z, n1, sy, e1, pos, zp⟩ : ∃ z, Nz m z ∧ Sub m z y ∧ (∀ c, c < k → dt m v z c = 0) ∧ (∃ i, i < m ∧ 0 < z i) ∧ z p = 0 := by
    obtain ⟨i, hi, hz⟩ := n0
    by_cases q : 0 < z0 i
    · exact ⟨z0, ⟨i, hi, hz⟩, s0, e0, ⟨i, hi, q⟩, zp0⟩
    · refine ⟨fun i => (-1) * z0 i, ⟨i, hi, by dsimp only; omega⟩, fun j hj hn => s0 j hj (by intro q; apply hn; dsimp only; rw [q]; rfl), fun c hc => by rw [dt_smul, e0 c hc]; rfl, ⟨i, hi, by dsimp only; omega⟩, by dsimp only; rw [zp0]; rfl⟩
  obtain ⟨j, hj, fj, hm⟩ := argmin (m := m) (f := fun i => if 0 < z i then z i else 0) (z := y) (fun i hi => by split <;> omega) (by
    obtain ⟨i, hi, q⟩ := pos
    exact ⟨i, hi, by dsimp only; rw [if_pos q]; omega⟩)
  have zj : 0 < z j := by
    by_cases q : 0 < z j
    · exact q
    · rw [if_neg q] at fj; exact absurd rfl fj
  simp only [if_pos zj] at hm
  have yj : 0 < y j := by
    have := h.c.nn j hj
    have := sy j hj (by omega)
    omega
  have nn : ∀ i, i < m → 0 ≤ z j * y i + (-(y j)) * z i := fun i hi => by
    by_cases q : 0 < z i
    · have := hm i hi (by rw [if_pos q]; omega)
      rw [if_pos q] at this
      have e1 : z j * y i = y i * z j := Int.mul_comm _ _
      have e2 : -(y j) * z i = -(y j * z i) := Int.neg_mul _ _
      omega
    · have h1 := Int.mul_nonneg (Int.le_of_lt zj) (h.c.nn i hi)
      have h2 := Int.mul_nonneg (Int.le_of_lt yj) (show 0 ≤ -(z i) by omega)
      have e2 : -(y j) * z i = y j * -(z i) := by grind
      omega
  have hc : InC m v k fun i => z j * y i + (-(y j)) * z i := ⟨nn, fun c hc => by rw [dt_lin, h.c.eq c hc, e1 c hc]; simp⟩
  have hs : Sub m (fun i => z j * y i + (-(y j)) * z i) y := fun i hi h0 e => h0 (by
    have : z i = 0 := by
      by_cases q : z i = 0
      · exact q
      · exact absurd e (sy i hi q)
    dsimp only
    rw [e, this]; simp)
  have := h.mn _ hc ⟨p, hp, by dsimp only; rw [zp]; have := mul_ne (show z j ≠ 0 by omega) yp; simp; omega⟩ hs j hj (by omega)
  exact this (by grind)
end
end MA
namespace W20
open MA DL
/-- strictly rising -/
def Inc (l : List Nat) : Prop := l.Pairwise (· < ·)
theorem rangeN_mem {lo hi a : Nat} : a ∈ rangeN lo hi ↔ lo ≤ a ∧ a < hi := by
  unfold rangeN
  constructor
  · intro h
    obtain ⟨t, ht, rfl⟩ := List.mem_map.mp h
    have : t < hi - lo := by simpa using ht
    omega
  · intro h
    exact List.mem_map.mpr ⟨a - lo, by simp; omega, by omega⟩
theorem start_le {one : List Nat} (h : Inc one) : ∀ a, a ∈ one → a < startN one := fun a ha => by
  unfold startN
  cases e : one.getLast? with
  | none =>
    have : one = [] := by simpa using e
    subst this; simp at ha
  | some x =>
    obtain ⟨l, rfl⟩ : ∃ l, one = l ++ [x] := by
      have hne : one ≠ [] := fun q => by subst q; simp at e
      refine ⟨one.dropLast, ?_⟩
      have h1 := List.dropLast_concat_getLast hne
      have h2 : one.getLast hne = x := by
        rw [List.getLast?_eq_some_getLast hne] at e
        exact Option.some.inj e
      rw [h2] at h1
      exact h1.symm
    rcases List.mem_append.mp ha with h1 | h1
    · have := (List.pairwise_append.mp h).2.2 a h1 x (by simp)
      show a < x + 1
      omega
    · simp at h1; subst h1; show a < a + 1; omega
theorem start_min {one : List Nat} {a : Nat} (h : ∀ x, x ∈ one → x < a) : startN one ≤ a := by
  unfold startN
  cases e : one.getLast? with
  | none => exact Nat.zero_le _
  | some x =>
    have := h x (List.mem_of_getLast? e)
    show x + 1 ≤ a
    omega
theorem sets_iff {m : Nat} : ∀ {k : Nat} {ch : List Nat}, ch ∈ sets m k ↔ ch.length = k ∧ Inc ch ∧ ∀ a, a ∈ ch → a < m
  | 0, ch => by
    simp only [sets, List.mem_singleton]
    constructor
    · rintro rfl; exact ⟨rfl, List.Pairwise.nil, fun a ha => by simp at ha⟩
    · rintro ⟨h, _⟩; exact List.length_eq_zero_iff.mp h
  | k + 1, ch => by
    constructor
    · intro h
      refine ⟨(sets_at h).1, ?_, (sets_at h).2⟩
      unfold sets at h
      obtain ⟨o, ho, h⟩ := List.mem_flatMap.mp h
      obtain ⟨h1, h2, h3⟩ := sets_iff.mp ho
      unfold nextN at h
      obtain ⟨a, ha, rfl⟩ := List.mem_map.mp h
      obtain ⟨a1, a2⟩ := rangeN_mem.mp ha
      refine List.pairwise_append.mpr ⟨h2, List.pairwise_singleton _ _, fun x hx y hy => ?_⟩
      have : y = a := by simpa using hy
      have := start_le h2 x hx
      omega
    · rintro ⟨h1, h2, h3⟩
      have hne : ch ≠ [] := fun e => by subst e; simp at h1
      have e := List.dropLast_concat_getLast hne
      generalize hx : ch.getLast hne = x at e
      generalize ho : ch.dropLast = o at e
      subst e
      have hi := List.pairwise_append.mp h2
      unfold sets
      refine List.mem_flatMap.mpr ⟨o, sets_iff.mpr ⟨by simpa using h1, hi.1, fun a ha => h3 a (List.mem_append_left _ ha)⟩, ?_⟩
      unfold nextN
      refine List.mem_map.mpr ⟨x, rangeN_mem.mpr ⟨start_min fun a ha => hi.2.2 a ha x (by simp), h3 x (by simp)⟩, rfl⟩
end W20
end

section
set_option linter.all false
/-! MH: the law's list is in order. -/
namespace W20
open MA DL
abbrev encN (a : List Nat) : List Int := a.map fun i : Nat => (i : Int)
theorem lex_app : ∀ {a b : List Int} (x y : List Int), a.length = b.length → HT.lexLt a b = true → HT.lexLt (a ++ x) (b ++ y) = true
  | [], [], x, y, _, h => by cases h
  | [], _ :: _, x, y, hl, h => by simp at hl
  | _ :: _, [], x, y, hl, h => by simp at hl
  | a :: as, b :: bs, x, y, hl, h => by
    rw [HT.lexLt_cons] at h
    show HT.lexLt (a :: (as ++ x)) (b :: (bs ++ y)) = true
    rw [HT.lexLt_cons]
    by_cases e : a = b
    · rw [if_pos e] at h ⊢; exact lex_app x y (by simpa using hl) h
    · rw [if_neg e] at h ⊢; exact h
theorem lex_pre : ∀ (a : List Int) {x y : List Int}, HT.lexLt x y = true → HT.lexLt (a ++ x) (a ++ y) = true
  | [], x, y, h => h
  | a :: as, x, y, h => by
    show HT.lexLt (a :: (as ++ x)) (a :: (as ++ y)) = true
    rw [HT.lexLt_cons, if_pos rfl]
    exact lex_pre as h
theorem sets_sorted {m : Nat} : ∀ k, (sets m k).Pairwise fun a b => HT.lexLt (encN a) (encN b) = true
  | 0 => by simp [sets]
  | k + 1 => by
    unfold sets
    rw [List.pairwise_flatMap]
    refine ⟨fun o ho => ?_, ?_⟩
    · unfold nextN rangeN
      rw [List.pairwise_map, List.pairwise_map]
      refine List.pairwise_lt_range.imp fun {a b} h => ?_
      rw [show encN (o ++ [startN o + a]) = encN o ++ [((startN o + a : Nat) : Int)] by simp, show encN (o ++ [startN o + b]) = encN o ++ [((startN o + b : Nat) : Int)] by simp]
      refine lex_pre _ ?_
      rw [HT.lexLt_cons, if_neg (by omega)]
      exact decide_eq_true (by omega)
    · refine (sets_sorted k).imp_of_mem fun {o o'} ho ho' h x hx y hy => ?_
      unfold nextN at hx hy
      obtain ⟨a, _, rfl⟩ := List.mem_map.mp hx
      obtain ⟨b, _, rfl⟩ := List.mem_map.mp hy
      rw [show encN (o ++ [a]) = encN o ++ [(a : Int)] by simp, show encN (o' ++ [b]) = encN o' ++ [(b : Int)] by simp]
      exact lex_app _ _ (by simp [(sets_at ho).1, (sets_at ho').1]) h
section
variable {rows : List (List Int)} {aim : List Int}
theorem map_getD {A : Type} {l : List A} {d : A} : (List.range l.length).map (fun k => l.getD k d) = l := by
  apply List.ext_getElem
  · simp
  · intro i h1 h2
    simp [h2]
theorem due_key {size : Nat} {ch : List Nat} {q : List (Nat × (Int × Int))} (hl : ch.length = size) (h : dueW rows aim size ch = some q) : keyW q = ((size : Int), encN ch) := by
  unfold dueW at h
  split at h
  · rename_i w _
    split at h
    · cases h
      unfold keyW
      rw [List.map_map]
      have : (List.range size).map ((fun p : Nat × (Int × Int) => (p.1 : Int)) ∘ fun k => (ch.getD k 0, w.getD k (0, 0))) = encN ch := by
        subst hl
        have e := congrArg (List.map fun i : Nat => (i : Int)) (map_getD (l := ch) (d := 0))
        rw [List.map_map] at e
        exact e
      rw [this]
      simp
    · cases h
  · cases h
theorem all_sorted : (allWays rows aim).Pairwise fun p q => kLt (keyW p) (keyW q) = true := by
  unfold allWays
  rw [List.pairwise_flatMap]
  refine ⟨fun size _ => ?_, ?_⟩
  · unfold dueOf
    rw [List.pairwise_filterMap]
    refine (sets_sorted size).imp_of_mem fun {a b} ha hb h p hp q hq => ?_
    rw [due_key (sets_at ha).1 hp, due_key (sets_at hb).1 hq]
    unfold kLt
    rw [if_pos rfl]; exact h
  · refine List.pairwise_lt_range.imp fun {s t} h p hp q hq => ?_
    unfold dueOf at hp hq
    obtain ⟨a, ha, hp⟩ := List.mem_filterMap.mp hp
    obtain ⟨b, hb, hq⟩ := List.mem_filterMap.mp hq
    rw [due_key (sets_at ha).1 hp, due_key (sets_at hb).1 hq]
    unfold kLt
    rw [if_neg (by simp; omega)]
    exact decide_eq_true (by simp; omega)
theorem all_mem {q : List (Nat × (Int × Int))} : q ∈ allWays rows aim ↔ ∃ ch : List Nat, ch.length ≤ aim.length ∧ Inc ch ∧ (∀ a, a ∈ ch → a < rows.length) ∧ dueW rows aim ch.length ch = some q := by
  unfold allWays dueOf
  rw [List.mem_flatMap]
  constructor
  · rintro ⟨size, hs, h⟩
    obtain ⟨ch, hch, h⟩ := List.mem_filterMap.mp h
    obtain ⟨h1, h2, h3⟩ := sets_iff.mp hch
    subst h1
    exact ⟨ch, by have := List.mem_range.mp hs; omega, h2, h3, h⟩
  · rintro ⟨ch, h1, h2, h3, h4⟩
    exact ⟨ch.length, List.mem_range.mpr (by omega), List.mem_filterMap.mpr ⟨ch, sets_iff.mpr ⟨rfl, h2, h3⟩, h4⟩⟩
end
/-! ### lists with the same members, each once -/
theorem perm_of {A : Type} : ∀ {l m : List A}, l.Nodup → m.Nodup → (∀ x, x ∈ l ↔ x ∈ m) → l.Perm m
  | [], m, _, _, h => by
    cases m with
    | nil => exact .refl _
    | cons x m => exact absurd ((h x).mpr List.mem_cons_self) (by simp)
  | a :: l, m, nl, nm, h => by
    obtain ⟨m1, m2, rfl⟩ := List.append_of_mem ((h a).mp List.mem_cons_self)
    have nm' : (a :: (m1 ++ m2)).Nodup := List.perm_middle.nodup_iff.mp nm
    have p := perm_of (List.nodup_cons.mp nl).2 (List.nodup_cons.mp nm').2 fun x => by
      constructor
      · intro hx
        have := (h x).mp (List.mem_cons_of_mem _ hx)
        have hne : x ≠ a := fun e => (List.nodup_cons.mp nl).1 (e ▸ hx)
        simp at this ⊢
        rcases this with q | q | q
        · exact .inl q
        · exact absurd q hne
        · exact .inr q
      · intro hx
        have h1 : x ∈ m1 ++ a :: m2 := by
          rcases List.mem_append.mp hx with q | q
          · exact List.mem_append_left _ q
          · exact List.mem_append_right _ (List.mem_cons_of_mem _ q)
        have := (h x).mpr h1
        have hne : x ≠ a := fun e => (List.nodup_cons.mp nm').1 (e ▸ hx)
        rcases List.mem_cons.mp this with q | q
        · exact absurd q hne
        · exact q
    exact (p.cons a).trans List.perm_middle.symm
end W20
end

section
set_option linter.all false
/-! MI: weights on a set as weights on all rows. -/
namespace W20
open MA DL
theorem sm_comm (g : Nat → Nat → Int) (s : Nat) : ∀ m, sm m (fun i => sm s fun k => g i k) = sm s fun k => sm m fun i => g i k
  | 0 => by
    show 0 = sm s fun k => 0
    rw [sm_zero]
  | m + 1 => by
    show sm m (fun i => sm s fun k => g i k) + sm s (fun k => g m k) = sm s fun k => sm m (fun i => g i k) + g m k
    rw [sm_comm g s m, sm_add]
/-- weights x on the places of ch -/
def zr (ch : List Nat) (x : Nat → Int) (i : Nat) : Int := sm ch.length fun k => if ch.getD k 0 = i then x k else 0
theorem zr_sum {ch : List Nat} {x f : Nat → Int} {M : Nat} (h : ∀ a, a ∈ ch → a < M) : sm M (fun i => zr ch x i * f i) = sm ch.length fun k => x k * f (ch.getD k 0) := by
  unfold zr
  rw [sm_congr (g := fun i => sm ch.length fun k => (if ch.getD k 0 = i then x k else 0) * f i) fun i hi => by
    rw [Int.mul_comm, ← sm_mul]
    exact sm_congr fun k _ => Int.mul_comm _ _]
  rw [sm_comm]
  refine sm_congr fun k hk => ?_
  have hm : ch.getD k 0 < M := by
    have : ch.getD k 0 = ch[k] := by simp [hk]
    rw [this]; exact h _ (List.getElem_mem hk)
  rw [← sm_one hm (x k) f]
  refine sm_congr fun i _ => ?_
  by_cases c : ch.getD k 0 = i
  · rw [if_pos c, if_pos c.symm]
  · rw [if_neg c, if_neg fun e => c e.symm]
theorem inc_inj {ch : List Nat} (h : Inc ch) {j k : Nat} (hj : j < ch.length) (hk : k < ch.length) (e : ch.getD j 0 = ch.getD k 0) : j = k := by
  have e1 : ch.getD j 0 = ch[j] := by simp [hj]
  have e2 : ch.getD k 0 = ch[k] := by simp [hk]
  rw [e1, e2] at e
  have h := List.pairwise_iff_getElem.mp h
  rcases Nat.lt_trichotomy j k with q | q | q
  · have := h j k hj hk q; omega
  · exact q
  · have := h k j hk hj q; omega
theorem zr_at {ch : List Nat} {x : Nat → Int} (h : Inc ch) {k : Nat} (hk : k < ch.length) : zr ch x (ch.getD k 0) = x k := by
  unfold zr
  rw [sm_congr (g := fun j => (if j = k then x k else 0) * 1) fun j hj => ?_, sm_one hk]
  · simp
  · by_cases c : j = k
    · subst c; simp
    · rw [if_neg fun e => c (inc_inj h hj hk e), if_neg c]; rfl
theorem zr_out {ch : List Nat} {x : Nat → Int} {i : Nat} (h : i ∉ ch) : zr ch x i = 0 := by
  unfold zr
  rw [sm_congr (g := fun _ => 0) fun k hk => ?_, sm_zero]
  rw [if_neg]
  intro e
  have : ch.getD k 0 = ch[k] := by simp [hk]
  rw [this] at e
  exact h (e ▸ List.getElem_mem hk)
section
variable {R : List (List Int)} {A : List Int}
theorem vE_row {i c : Nat} (hi : i < R.length) : vE (R ++ [neg A]) i c = (R.getD i []).getD c 0 := by
  unfold vE
  simp [List.getD_eq_getElem?_getD, List.getElem?_append_left hi]
theorem vE_aim {c : Nat} : vE (R ++ [neg A]) R.length c = -(A.getD c 0) := by
  unfold vE neg
  simp [List.getD_eq_getElem?_getD]
  cases A[c]? <;> simp
/-- all rows and the aim's negative -/
theorem dt_vs {y : Nat → Int} {c : Nat} : dt (R ++ [neg A]).length (vE (R ++ [neg A])) y c = sm R.length (fun i => y i * (R.getD i []).getD c 0) - y R.length * A.getD c 0 := by
  unfold dt
  rw [List.length_append, List.length_singleton]
  show sm R.length (fun i => y i * vE (R ++ [neg A]) i c) + y R.length * vE (R ++ [neg A]) R.length c = _
  rw [vE_aim, sm_congr (g := fun i => y i * (R.getD i []).getD c 0) fun i hi => by rw [vE_row hi]]
  grind
theorem ker_iff {ch : List Nat} {x : Nat → Int} : Ker (mat0 (ch.map fun a => R.getD a []) A) A.length (ch.length + 1) x ↔ ∀ c, c < A.length → sm ch.length (fun k => x k * (R.getD (ch.getD k 0) []).getD c 0) + x ch.length * A.getD c 0 = 0 := by
  have key : ∀ c, c < A.length → dl (mat0 (ch.map fun a => R.getD a []) A) (ch.length + 1) x c = sm ch.length (fun k => x k * (R.getD (ch.getD k 0) []).getD c 0) + x ch.length * A.getD c 0 := fun c hc => by
    unfold dl
    show sm ch.length (fun k => ent (mat0 (ch.map fun a => R.getD a []) A) c k * x k) + ent (mat0 (ch.map fun a => R.getD a []) A) c ch.length * x ch.length = _
    have e0 : (mat0 (ch.map fun a => R.getD a []) A).getD c [] = (ch.map fun a => (R.getD a []).getD c 0) ++ [A.getD c 0] := by
      unfold mat0
      simp [List.getD_eq_getElem?_getD, hc, List.map_map, Function.comp_def]
    have e1 : ∀ k, k < ch.length → ent (mat0 (ch.map fun a => R.getD a []) A) c k = (R.getD (ch.getD k 0) []).getD c 0 := fun k hk => by
      show ((mat0 (ch.map fun a => R.getD a []) A).getD c []).getD k 0 = _
      rw [e0]
      simp [List.getD_eq_getElem?_getD, List.getElem?_append_left, hk]
    have e2 : ent (mat0 (ch.map fun a => R.getD a []) A) c ch.length = A.getD c 0 := by
      show ((mat0 (ch.map fun a => R.getD a []) A).getD c []).getD ch.length 0 = _
      rw [e0]
      simp [List.getD_eq_getElem?_getD]
    rw [e2, sm_congr (g := fun k => x k * (R.getD (ch.getD k 0) []).getD c 0) fun k hk => by rw [e1 k hk]; exact Int.mul_comm _ _]
    rw [Int.mul_comm (A.getD c 0)]
  unfold Ker
  exact ⟨fun h c hc => by rw [← key c hc]; exact h c hc, fun h c hc => by rw [key c hc]; exact h c hc⟩
/-- weights on a set with the aim's share, as weights on all -/
def zM (M : Nat) (ch : List Nat) (x : Nat → Int) (i : Nat) : Int := if i = M then -(x ch.length) else zr ch x i
theorem zM_dt {ch : List Nat} {x : Nat → Int} (h : ∀ a, a ∈ ch → a < R.length) {c : Nat} : dt (R ++ [neg A]).length (vE (R ++ [neg A])) (zM R.length ch x) c = sm ch.length (fun k => x k * (R.getD (ch.getD k 0) []).getD c 0) + x ch.length * A.getD c 0 := by
  rw [dt_vs, sm_congr (g := fun i => zr ch x i * (R.getD i []).getD c 0) fun i hi => by unfold zM; rw [if_neg (by omega)]]
  rw [zr_sum (f := fun i => (R.getD i []).getD c 0) h]
  have : zM R.length ch x R.length = -(x ch.length) := by unfold zM; rw [if_pos rfl]
  rw [this]
  grind
end
end W20
end

section
set_option linter.all false
/-! MJ: each least support with a share is a way of the law. -/
namespace W20
open MA DL
theorem red_form {a b : Int} (hb : 0 < b) : ∃ g : Int, 0 < g ∧ a = g * (red a b).1 ∧ b = g * (red a b).2 ∧ Int.gcd (red a b).1 (red a b).2 = 1 := by
  have h0 : 0 < gcdI a b := gcdI_pos hb
  have h1 : (red a b).1 = a / gcdI a b := by unfold red; exact Int.fdiv_eq_ediv_of_nonneg _ (by omega)
  have h2 : (red a b).2 = b / gcdI a b := by unfold red; exact Int.fdiv_eq_ediv_of_nonneg _ (by omega)
  have hg : 0 < Int.gcd a b := by unfold gcdI at h0; unfold Int.gcd; omega
  refine ⟨gcdI a b, h0, ?_, ?_, ?_⟩
  · rw [h1]; exact (Int.mul_ediv_cancel' (gcdI_dvd_l a b)).symm
  · rw [h2]; exact (Int.mul_ediv_cancel' (gcdI_dvd_r a b)).symm
  · rw [h1, h2]
    exact Int.gcd_ediv_gcd_ediv_gcd hg
theorem dvd_cop {k m n : Int} (h : Int.gcd m k = 1) (hd : k ∣ m * n) : k ∣ n := by
  have h1 : k.natAbs ∣ m.natAbs * n.natAbs := by rw [← Int.natAbs_mul]; exact Int.natAbs_dvd_natAbs.mpr hd
  have h2 : Nat.Coprime k.natAbs m.natAbs := by
    show Nat.gcd _ _ = 1
    rw [Nat.gcd_comm]; exact h
  exact Int.natAbs_dvd_natAbs.mp (Nat.Coprime.dvd_of_dvd_mul_left h2 h1)
theorem red_cross {a b c d : Int} (hb : 0 < b) (hd : 0 < d) (h : a * d = c * b) : red a b = red c d := by
  obtain ⟨g, g0, ga, gb, gc⟩ := red_form (a := a) hb
  obtain ⟨k, k0, kc, kd, kk⟩ := red_form (a := c) hd
  generalize red a b = p at *
  generalize red c d = q at *
  obtain ⟨a', b'⟩ := p
  obtain ⟨c', d'⟩ := q
  simp only at *
  have e : a' * d' = c' * b' := by
    have h5 : (g * k) * (a' * d') = (g * k) * (c' * b') := by rw [ga, gb, kc, kd] at h; grind
    exact Int.eq_of_mul_eq_mul_left (by have := Int.mul_pos g0 k0; omega) h5
  have b0 : 0 < b' := by
    apply Classical.byContradiction
    intro q
    have := Int.mul_nonneg (show 0 ≤ g by omega) (show 0 ≤ -b' by omega)
    rw [Int.mul_neg] at this; omega
  have d0 : 0 < d' := by
    apply Classical.byContradiction
    intro q
    have := Int.mul_nonneg (show 0 ≤ k by omega) (show 0 ≤ -d' by omega)
    rw [Int.mul_neg] at this; omega
  have u1 : b' ∣ d' := dvd_cop gc ⟨c', by grind⟩
  have u2 : d' ∣ b' := dvd_cop kk ⟨a', by grind⟩
  have v : b' = d' := Int.le_antisymm (Int.le_of_dvd d0 u1) (Int.le_of_dvd b0 u2)
  subst v
  have : a' = c' := Int.eq_of_mul_eq_mul_right (by omega) e
  rw [this]
theorem red_pos {a b : Int} (ha : 0 < a) (hb : 0 < b) : 0 < (red a b).1 := by
  obtain ⟨g, g0, ga, gb, gc⟩ := red_form (a := a) hb
  apply Classical.byContradiction
  intro q
  have := Int.mul_nonneg (show 0 ≤ g by omega) (show 0 ≤ -(red a b).1 by omega)
  rw [Int.mul_neg] at this; omega
theorem zipIdx_range (l : List Int) : l.zipIdx = (List.range l.length).map fun i => (l.getD i 0, i) := by
  apply List.ext_getElem
  · simp
  · intro i h1 h2
    have : i < l.length := by simpa using h1
    simp [this]
theorem wts_eq (l : List Int) (s : Int) : wts l s = ((List.range l.length).filter fun i => decide (0 < l.getD i 0)).map fun i => (i, red (l.getD i 0) s) := by
  unfold wts
  rw [zipIdx_range, List.filter_map, List.map_map]
  rfl
def suppN (M n : Nat) (p : Ent) : List Nat := (List.range M).filter fun i => decide (0 < yv n p i)
theorem suppN_inc {M n : Nat} {p : Ent} : Inc (suppN M n p) := List.pairwise_lt_range.filter _
theorem suppN_mem {M n i : Nat} {p : Ent} : i ∈ suppN M n p ↔ i < M ∧ 0 < yv n p i := by
  unfold suppN
  rw [List.mem_filter, List.mem_range]
  simp
theorem cnt_filter {y : Nat → Int} : ∀ m, (∀ i, i < m → 0 ≤ y i) → ((List.range m).filter fun i => decide (0 < y i)).length = cnt m y
  | 0, _ => rfl
  | m + 1, h => by
    rw [List.range_succ, List.filter_append, List.length_append, cnt_filter m fun i hi => h i (by omega)]
    have := h m (by omega)
    show _ = cnt m y + if y m ≠ 0 then 1 else 0
    by_cases c : y m = 0
    · simp [c]
    · have : 0 < y m := by omega
      simp [c, this]
section
variable {R : List (List Int)} {A : List Int} {B : Nat} {found : List Ent}
theorem supp_len (G : Good (R ++ [neg A]) A.length A.length B found) {p : Ent} (hp : p ∈ found) (hs : 0 < yv A.length p R.length) : (suppN R.length A.length p).length ≤ A.length := by
  have M := G.mn hp
  have h1 := M.small
  have hl : (R ++ [neg A]).length = R.length + 1 := by simp
  unfold suppN
  rw [cnt_filter R.length fun i hi => M.c.nn i (by omega)]
  rw [hl] at h1
  unfold cnt at h1
  have : yv A.length p R.length ≠ 0 := by omega
  simp [this] at h1
  omega
theorem forward (G : Good (R ++ [neg A]) A.length A.length B found) {p : Ent} (hp : p ∈ found) (hs : 0 < yv A.length p R.length) :
    dueW R A (suppN R.length A.length p).length (suppN R.length A.length p) = some ((suppN R.length A.length p).map fun i => (i, red (yv A.length p i) (yv A.length p R.length))) := by
  generalize hch : suppN R.length A.length p = ch
  have hinc : Inc ch := hch ▸ suppN_inc
  have hmem : ∀ i, i ∈ ch ↔ i < R.length ∧ 0 < yv A.length p i := fun i => by rw [← hch]; exact suppN_mem
  have hlt : ∀ a, a ∈ ch → a < R.length := fun a ha => ((hmem a).mp ha).1
  have M := G.mn hp
  have hl : (R ++ [neg A]).length = R.length + 1 := by simp
  -- y as weights on ch
  have hat : ∀ k, k < ch.length → ch.getD k 0 ∈ ch := fun k hk => by
    have : ch.getD k 0 = ch[k] := by simp [hk]
    rw [this]; exact List.getElem_mem hk
  have hx : Ker (mat0 (ch.map fun a => R.getD a []) A) A.length (ch.length + 1) (fun k => if k < ch.length then yv A.length p (ch.getD k 0) else -(yv A.length p R.length)) := by
    rw [ker_iff]
    intro c hc
    have h0 := M.c.eq c hc
    rw [dt_vs] at h0
    have h1 : sm R.length (fun i => yv A.length p i * (R.getD i []).getD c 0) = sm R.length fun i => zr ch (fun k => yv A.length p (ch.getD k 0)) i * (R.getD i []).getD c 0 := by
      refine sm_congr fun i hi => ?_
      congr 1
      by_cases q : i ∈ ch
      · obtain ⟨k, hk, rfl⟩ := List.getElem_of_mem q
        have : ch[k] = ch.getD k 0 := by simp [hk]
        rw [this, zr_at hinc hk]
      · rw [zr_out q]
        have h2 := M.c.nn i (by omega)
        have : ¬ 0 < yv A.length p i := fun h => q ((hmem i).mpr ⟨hi, h⟩)
        omega
    rw [h1, zr_sum (f := fun i => (R.getD i []).getD c 0) hlt] at h0
    rw [sm_congr (g := fun k => yv A.length p (ch.getD k 0) * (R.getD (ch.getD k 0) []).getD c 0) fun k hk => by rw [if_pos hk]]
    rw [if_neg (Nat.lt_irrefl _)]
    grind
  cases hW : weightsL (ch.map fun a => R.getD a []) A with
  | none =>
    exfalso
    have hlen : (ch.map fun a => R.getD a []).length = ch.length := by simp
    rcases weights_none hW with ⟨x, ⟨c, hc, hxc⟩, hx0, hk⟩ | h
    · rw [hlen] at hc hx0 hk
      rw [ker_iff] at hk
      refine M.no_other (z0 := zM R.length ch x) ⟨ch.getD c 0, by have := hlt _ (hat c hc); omega, ?_⟩ (fun i hi hz => ?_) (fun c hc => ?_) (p := R.length) (by omega) (by omega) ?_
      · unfold zM
        rw [if_neg (by have := hlt _ (hat c hc); omega), zr_at hinc hc]; exact hxc
      · by_cases e : i = R.length
        · rw [e]; omega
        · have : i ∈ ch := by
            apply Classical.byContradiction
            intro q
            apply hz
            unfold zM
            rw [if_neg e, zr_out q]
          have := ((hmem i).mp this).2
          omega
      · rw [zM_dt hlt]; exact hk c hc
      · unfold zM; rw [if_pos rfl, hx0]; rfl
    · rw [hlen] at h
      have := h _ hx
      rw [if_neg (Nat.lt_irrefl _)] at this
      omega
  | some w =>
    have hlen : (ch.map fun a => R.getD a []).length = ch.length := by simp
    obtain ⟨d, t, h1, h2⟩ := weights_some hW
    rw [hlen] at h1 h2
    have hwl : w.length = ch.length := by rw [weightsL_len hW, hlen]
    have hk := (h2 _).mp hx
    rw [if_neg (Nat.lt_irrefl _)] at hk
    have hwk : ∀ k, k < ch.length → w.getD k (0, 0) = red (yv A.length p (ch.getD k 0)) (yv A.length p R.length) := fun k hk' => by
      have e := hk k hk'
      rw [if_pos hk'] at e
      rw [(h1 k hk').2]
      unfold redS
      by_cases c : d k < 0
      · rw [if_pos c]
        exact red_cross (by omega) hs (by grind)
      · rw [if_neg c]
        have := (h1 k hk').1
        exact red_cross (by omega) hs (by grind)
    have hpos : w.all (fun q => decide (0 < q.1)) = true := by
      rw [List.all_eq_true]
      intro q hq
      obtain ⟨k, hk', rfl⟩ := List.getElem_of_mem hq
      have e : w[k] = w.getD k (0, 0) := by simp [hk']
      rw [e, hwk k (by omega)]
      have h3 := ((hmem _).mp (hat k (by omega))).2
      exact decide_eq_true (red_pos h3 hs)
    unfold dueW
    rw [hW]
    simp only [hpos, if_true]
    congr 1
    apply List.ext_getElem
    · simp
    · intro i h3 h4
      have hi : i < ch.length := by simpa using h3
      have := hwk i hi
      simp only [List.getElem_map, List.getElem_range]
      rw [this]
      simp [hi]
end
end W20
end

section
set_option linter.all false
/-! MK: each way of the law is a least support with a share. -/
namespace W20
open MA DL
theorem prod_ex (f : Nat → Int) : ∀ n, (∀ k, k < n → 0 < f k) → ∃ (P : Int) (e : Nat → Int), 0 < P ∧ ∀ k, k < n → 0 < e k ∧ f k * e k = P
  | 0, _ => ⟨1, fun _ => 1, by omega, fun k hk => by omega⟩
  | n + 1, h => by
    obtain ⟨P, e, hP, he⟩ := prod_ex f n fun k hk => h k (by omega)
    have hn := h n (by omega)
    refine ⟨P * f n, fun k => if k = n then P else e k * f n, Int.mul_pos hP hn, fun k hk => ?_⟩
    by_cases c : k = n
    · subst c
      simp only [if_true]
      exact ⟨hP, Int.mul_comm _ _⟩
    · simp only [if_neg c]
      obtain ⟨h1, h2⟩ := he k (by omega)
      exact ⟨Int.mul_pos h1 hn, by rw [← h2]; grind⟩
theorem red_pos_inv {a b : Int} (hb : 0 < b) (h : 0 < (red a b).1) : 0 < a := by
  obtain ⟨g, g0, ga, gb, gc⟩ := red_form (a := a) hb
  rw [ga]; exact Int.mul_pos g0 h
section
variable {R : List (List Int)} {A : List Int}
theorem ker_of {ch : List Nat} (hinc : Inc ch) (hlt : ∀ a, a ∈ ch → a < R.length) {z : Nat → Int} (hz : ∀ c, c < A.length → dt (R ++ [neg A]).length (vE (R ++ [neg A])) z c = 0) (hout : ∀ i, i < R.length → i ∉ ch → z i = 0) :
    Ker (mat0 (ch.map fun a => R.getD a []) A) A.length (ch.length + 1) (fun k => if k < ch.length then z (ch.getD k 0) else -(z R.length)) := by
  rw [ker_iff]
  intro c hc
  have h0 := hz c hc
  rw [dt_vs] at h0
  have h1 : sm R.length (fun i => z i * (R.getD i []).getD c 0) = sm R.length fun i => zr ch (fun k => z (ch.getD k 0)) i * (R.getD i []).getD c 0 := by
    refine sm_congr fun i hi => ?_
    congr 1
    by_cases q : i ∈ ch
    · obtain ⟨k, hk, rfl⟩ := List.getElem_of_mem q
      have : ch[k] = ch.getD k 0 := by simp [hk]
      rw [this, zr_at hinc hk]
    · rw [zr_out q, hout i hi q]
  rw [h1, zr_sum (f := fun i => (R.getD i []).getD c 0) hlt] at h0
  rw [sm_congr (g := fun k => z (ch.getD k 0) * (R.getD (ch.getD k 0) []).getD c 0) fun k hk => by rw [if_pos hk]]
  rw [if_neg (Nat.lt_irrefl _)]
  grind
theorem back_mn {ch : List Nat} (hinc : Inc ch) (hlt : ∀ a, a ∈ ch → a < R.length) {w : List (Int × Int)} (hW : weightsL (ch.map fun a => R.getD a []) A = some w) (hpos : ∀ q, q ∈ w → 0 < q.1) :
    ∃ z, Mn (R ++ [neg A]).length (vE (R ++ [neg A])) A.length z ∧ 0 < z R.length ∧ ∀ i, i < R.length → (z i ≠ 0 ↔ i ∈ ch) := by
  have hlen : (ch.map fun a => R.getD a []).length = ch.length := by simp
  have hl : (R ++ [neg A]).length = R.length + 1 := by simp
  obtain ⟨d, t, h1, h2⟩ := weights_some hW
  rw [hlen] at h1 h2
  have hwl : w.length = ch.length := by rw [weightsL_len hW, hlen]
  have hf : ∀ k, k < ch.length → 0 < (if d k < 0 then -d k else d k) ∧ 0 < (if d k < 0 then -t k else t k) := fun k hk => by
    obtain ⟨h3, h4⟩ := h1 k hk
    have h5 : 0 < (w.getD k (0, 0)).1 := by
      have : w.getD k (0, 0) = w[k]'(by omega) := by simp [hwl, hk]
      rw [this]; exact hpos _ (List.getElem_mem _)
    rw [h4] at h5
    unfold redS at h5
    by_cases c : d k < 0
    · rw [if_pos c] at h5
      rw [if_pos c, if_pos c]
      exact ⟨by omega, red_pos_inv (by omega) h5⟩
    · rw [if_neg c] at h5
      rw [if_neg c, if_neg c]
      exact ⟨by omega, red_pos_inv (by omega) h5⟩
  obtain ⟨P, e, hP, he⟩ := prod_ex (fun k => if d k < 0 then -d k else d k) ch.length fun k hk => (hf k hk).1
  generalize hxd : (fun k => if k < ch.length then (if d k < 0 then -t k else t k) * e k else -P) = x
  have hxk : ∀ k, k < ch.length → x k = (if d k < 0 then -t k else t k) * e k := fun k hk => by rw [← hxd]; simp [hk]
  have hxl : x ch.length = -P := by rw [← hxd]; simp
  have hker : Ker (mat0 (ch.map fun a => R.getD a []) A) A.length (ch.length + 1) x := by
    rw [h2]
    intro k hk
    rw [hxk k hk, hxl]
    have := (he k hk).2
    by_cases c : d k < 0
    · rw [if_pos c] at this ⊢; rw [← this]; grind
    · rw [if_neg c] at this ⊢; rw [← this]; grind
  have zM_l : zM R.length ch x R.length = P := by unfold zM; rw [if_pos rfl, hxl]; omega
  have zM_in : ∀ k, k < ch.length → zM R.length ch x (ch.getD k 0) = x k ∧ 0 < x k := fun k hk => by
    have hm : ch.getD k 0 ∈ ch := by
      have : ch.getD k 0 = ch[k] := by simp [hk]
      rw [this]; exact List.getElem_mem hk
    refine ⟨?_, ?_⟩
    · unfold zM
      rw [if_neg (by have := hlt _ hm; omega), zr_at hinc hk]
    · rw [hxk k hk]; exact Int.mul_pos (hf k hk).2 (he k hk).1
  have zM_out : ∀ i, i < R.length → i ∉ ch → zM R.length ch x i = 0 := fun i hi q => by
    unfold zM
    rw [if_neg (by omega), zr_out q]
  have idx : ∀ i, i ∈ ch → ∃ k, k < ch.length ∧ ch.getD k 0 = i := fun i q => by
    obtain ⟨k, hk, rfl⟩ := List.getElem_of_mem q
    exact ⟨k, hk, by simp [hk]⟩
  refine ⟨zM R.length ch x, ⟨⟨fun i hi => ?_, fun c hc => ?_⟩, ⟨R.length, by omega, by omega⟩, fun z' hz nz hs i hi hne => ?_⟩, by omega, fun i hi => ⟨fun h => ?_, fun h => ?_⟩⟩
  · by_cases c : i = R.length
    · rw [c]; omega
    · by_cases q : i ∈ ch
      · obtain ⟨k, hk, rfl⟩ := idx i q
        have := zM_in k hk
        omega
      · rw [zM_out i (by omega) q]; exact Int.le_refl 0
  · rw [zM_dt hlt]; exact (ker_iff.mp hker) c hc
  · have hk' := (h2 _).mp (ker_of hinc hlt hz.eq fun i hi q => by
      apply Classical.byContradiction
      intro h
      exact hs i (by omega) h (zM_out i hi q))
    rw [if_neg (Nat.lt_irrefl _)] at hk'
    have key : ∀ k, k < ch.length → (if d k < 0 then -d k else d k) * z' (ch.getD k 0) = (if d k < 0 then -t k else t k) * z' R.length := fun k hk => by
      have := hk' k hk
      rw [if_pos hk] at this
      by_cases c : d k < 0
      · rw [if_pos c, if_pos c]; grind
      · rw [if_neg c, if_neg c]; grind
    have zl : z' R.length ≠ 0 := by
      intro e0
      obtain ⟨j, hj, nj⟩ := nz
      by_cases c : j = R.length
      · exact nj (c ▸ e0)
      · by_cases q : j ∈ ch
        · obtain ⟨k, hk, rfl⟩ := idx j q
          have := key k hk
          rw [e0, Int.mul_zero] at this
          exact nj (zero_of_mul (hf k hk).1 this)
        · exact hs j hj nj (zM_out j (by omega) q)
    by_cases c : i = R.length
    · rw [c]; exact zl
    · by_cases q : i ∈ ch
      · obtain ⟨k, hk, rfl⟩ := idx i q
        intro e0
        have := key k hk
        rw [e0, Int.mul_zero] at this
        exact zl (zero_of_mul (hf k hk).2 this.symm)
      · exact absurd (zM_out i (by omega) q) hne
  · apply Classical.byContradiction
    intro q
    exact h (zM_out i hi q)
  · obtain ⟨k, hk, rfl⟩ := idx i h
    have := zM_in k hk
    omega
end
end W20
end

section
set_option linter.all false
/-! ML: the walk's ways, sorted, are the law's. -/
namespace W20
open MA DL
theorem inc_ext : ∀ {l m : List Nat}, Inc l → Inc m → (∀ x, x ∈ l ↔ x ∈ m) → l = m
  | [], [], _, _, _ => rfl
  | [], y :: m, _, _, h => absurd ((h y).mpr List.mem_cons_self) (by simp)
  | x :: l, [], _, _, h => absurd ((h x).mp List.mem_cons_self) (by simp)
  | x :: l, y :: m, hl, hm, h => by
    obtain ⟨l1, l2⟩ := List.pairwise_cons.mp hl
    obtain ⟨m1, m2⟩ := List.pairwise_cons.mp hm
    have e : x = y := by
      rcases List.mem_cons.mp ((h x).mp List.mem_cons_self) with q | q
      · exact q
      · rcases List.mem_cons.mp ((h y).mpr List.mem_cons_self) with r | r
        · exact r.symm
        · have := m1 x q; have := l1 y r; omega
    subst e
    rw [inc_ext l2 m2 fun z => ⟨fun q => ?_, fun q => ?_⟩]
    · rcases List.mem_cons.mp ((h z).mp (List.mem_cons_of_mem _ q)) with r | r
      · have := l1 z q; omega
      · exact r
    · rcases List.mem_cons.mp ((h z).mpr (List.mem_cons_of_mem _ q)) with r | r
      · have := m1 z q; omega
      · exact r
theorem fm_congr {α β : Type} {f g : α → Option β} : ∀ {l : List α}, (∀ x, x ∈ l → f x = g x) → l.filterMap f = l.filterMap g
  | [], _ => rfl
  | a :: l, h => by
    rw [List.filterMap_cons, List.filterMap_cons, h a List.mem_cons_self, fm_congr fun x hx => h x (List.mem_cons_of_mem _ hx)]
def wayOf (M n : Nat) (p : Ent) : List (Nat × (Int × Int)) := (suppN M n p).map fun i => (i, red (yv n p i) (yv n p M))
section
variable {R : List (List Int)} {A : List Int} {B : Nat}
theorem waysW_eq (G : Good (R ++ [neg A]) A.length A.length B (bal A.length (initE (R ++ [neg A])))) :
    waysW R A = (bal A.length (initE (R ++ [neg A]))).filterMap fun p => if 0 < yv A.length p R.length then some (wayOf R.length A.length p) else none := by
  unfold waysW balances
  rw [List.filterMap_map]
  refine fm_congr fun p hp => ?_
  have hl := G.len p hp
  have hl2 : (R ++ [neg A]).length = R.length + 1 := by simp
  rw [hl2] at hl
  have e0 : ∀ i, (p.2.drop A.length).getD i 0 = yv A.length p i := fun i => by
    unfold yv
    simp [List.getD_eq_getElem?_getD]
  have e1 : ((p.2.drop A.length).take R.length).length = R.length := by simp; omega
  have e2 : ∀ i, i < R.length → ((p.2.drop A.length).take R.length).getD i 0 = yv A.length p i := fun i hi => by
    rw [← e0]
    simp [List.getD_eq_getElem?_getD, hi]
  show (if 0 < (p.2.drop A.length).getD R.length 0 then some (wts ((p.2.drop A.length).take R.length) ((p.2.drop A.length).getD R.length 0)) else none) = _
  rw [e0]
  by_cases c : 0 < yv A.length p R.length
  · rw [if_pos c, if_pos c, wts_eq, e1]
    unfold wayOf suppN
    congr 1
    rw [List.filter_congr (q := fun i => decide (0 < yv A.length p i)) fun i hi => by rw [e2 i (List.mem_range.mp hi)]]
    refine List.map_congr_left fun i hi => ?_
    rw [e2 i (List.mem_range.mp (List.mem_filter.mp hi).1)]
  · rw [if_neg c, if_neg c]
theorem waysW_mem (G : Good (R ++ [neg A]) A.length A.length B (bal A.length (initE (R ++ [neg A])))) {q : List (Nat × (Int × Int))} :
    q ∈ waysW R A ↔ ∃ p, p ∈ bal A.length (initE (R ++ [neg A])) ∧ 0 < yv A.length p R.length ∧ q = wayOf R.length A.length p := by
  rw [waysW_eq G, List.mem_filterMap]
  constructor
  · rintro ⟨p, hp, h⟩
    split at h
    · rename_i c; cases h; exact ⟨p, hp, c, rfl⟩
    · cases h
  · rintro ⟨p, hp, c, rfl⟩
    exact ⟨p, hp, if_pos c⟩
theorem way_key (G : Good (R ++ [neg A]) A.length A.length B (bal A.length (initE (R ++ [neg A])))) {p : Ent} (hp : p ∈ bal A.length (initE (R ++ [neg A]))) (c : 0 < yv A.length p R.length) :
    keyW (wayOf R.length A.length p) = (((suppN R.length A.length p).length : Int), encN (suppN R.length A.length p)) :=
  due_key rfl (forward G hp c)
theorem keys_nd (G : Good (R ++ [neg A]) A.length A.length B (bal A.length (initE (R ++ [neg A])))) : ((waysW R A).map keyW).Nodup := by
  unfold List.Nodup
  rw [waysW_eq G, List.pairwise_map, List.pairwise_filterMap]
  refine G.nd.imp_of_mem fun {p q} hp hq hne b hb b' hb' => ?_
  split at hb
  · rename_i c
    split at hb'
    · rename_i c'
      cases hb; cases hb'
      rw [way_key G hp c, way_key G hq c']
      intro e
      have e := (Prod.mk.inj e).2
      have e : suppN R.length A.length p = suppN R.length A.length q := (List.map_inj_right (f := fun i : Nat => (i : Int)) (by intro x y h; exact Int.ofNat_inj.mp h)).mp e
      apply hne
      have hl2 : (R ++ [neg A]).length = R.length + 1 := by simp
      have key : ∀ i, i < (R ++ [neg A]).length → (yv A.length p i ≠ 0 ↔ yv A.length q i ≠ 0) := fun i hi => by
        by_cases d : i = R.length
        · rw [d]; omega
        · have h1 := (G.mn hp).c.nn i hi
          have h2 := (G.mn hq).c.nn i hi
          have m1 := suppN_mem (M := R.length) (n := A.length) (p := p) (i := i)
          have m2 := suppN_mem (M := R.length) (n := A.length) (p := q) (i := i)
          rw [e] at m1
          have := m1.symm.trans m2
          omega
      exact ((G.msk p hp).eq_iff (G.msk q hq)).mpr ⟨fun i hi h => (key i hi).mp h, fun i hi h => (key i hi).mpr h⟩
    · cases hb'
  · cases hb
theorem same_mem (G : Good (R ++ [neg A]) A.length A.length B (bal A.length (initE (R ++ [neg A])))) {q : List (Nat × (Int × Int))} : q ∈ waysW R A ↔ q ∈ allWays R A := by
  rw [waysW_mem G, all_mem]
  constructor
  · rintro ⟨p, hp, c, rfl⟩
    exact ⟨suppN R.length A.length p, supp_len G hp c, suppN_inc, fun a ha => (suppN_mem.mp ha).1, forward G hp c⟩
  · rintro ⟨ch, hl, hinc, hlt, hd⟩
    have hd0 := hd
    unfold dueW at hd
    split at hd
    · rename_i w hW
      split at hd
      · rename_i hall
        obtain ⟨z, hM, hz, hs⟩ := back_mn hinc hlt hW fun q hq => of_decide_eq_true (List.all_eq_true.mp hall q hq)
        obtain ⟨f, ⟨p, hp, rfl⟩, s1, s2⟩ := G.stk.all z hM
        have hl2 : (R ++ [neg A]).length = R.length + 1 := by simp
        have c : 0 < yv A.length p R.length := by
          have h1 := (G.mn hp).c.nn R.length (by omega)
          have h2 := s2 R.length (by omega) (by omega)
          omega
        have e : suppN R.length A.length p = ch := inc_ext suppN_inc hinc fun i => by
          rw [suppN_mem]
          constructor
          · rintro ⟨hi, h⟩
            exact (hs i hi).mp (s1 i (by omega) (by omega))
          · intro h
            have hi := hlt i h
            have h1 := (G.mn hp).c.nn i (by omega)
            have h2 := s2 i (by omega) ((hs i hi).mpr h)
            exact ⟨hi, by omega⟩
        have hf := forward G hp c
        rw [e, hd0] at hf
        refine ⟨p, hp, c, ?_⟩
        unfold wayOf
        rw [e]
        exact Option.some.inj hf
      · cases hd
    · cases hd
theorem ways_same (G : Good (R ++ [neg A]) A.length A.length B (bal A.length (initE (R ++ [neg A])))) :
    (sortK ((waysW R A).map fun w => (keyW w, encW w))).map (·.2) = (allWays R A).map encW := by
  have hk := keys_nd G
  have n1 : (waysW R A).Nodup := List.Pairwise.of_map keyW (fun a b h e => h (by rw [e])) hk
  have n2 : (allWays R A).Nodup := all_sorted.imp fun {a b} h e => by subst e; rw [kLt_irr] at h; cases h
  have P := perm_of n1 n2 fun x => same_mem G
  have e := sort_uniq (l := sortK ((waysW R A).map fun w => (keyW w, encW w))) (m := (allWays R A).map fun w => (keyW w, encW w))
    ((sortK_perm _).trans (P.map _))
    (((sortK_perm _).map _).nodup_iff.mpr (by rw [List.map_map]; exact hk))
    (sortK_sorted _)
    (by
      rw [List.pairwise_map]
      refine all_sorted.imp fun {a b} h => ?_
      unfold kLe
      rw [kLt_asym _ _ h]; rfl)
  rw [e, List.map_map]
  rfl
end
end W20
end

section
set_option linter.all false
/-! MN: walk and law agree on drawn rows: bounds. -/
namespace W20
open MA DL
section
variable {R : List (List Int)} {A : List Int} {B w : Nat}
theorem row_bd {ns : List Int} (h : Row w ns) : Bd 10 ns := fun e he => by
  have := h.2 e he
  have : e.natAbs ≤ 1000 := by omega
  exact Nat.lt_of_le_of_lt this (by decide)
theorem all_len (G : Good (R ++ [neg A]) A.length A.length B (bal A.length (initE (R ++ [neg A])))) : (allWays R A).length ≤ (bal A.length (initE (R ++ [neg A]))).length := by
  have hk := keys_nd G
  have n1 : (waysW R A).Nodup := List.Pairwise.of_map keyW (fun a b h e => h (by rw [e])) hk
  have n2 : (allWays R A).Nodup := all_sorted.imp fun {a b} h e => by subst e; rw [kLt_irr] at h; cases h
  rw [← (perm_of n1 n2 fun x => same_mem G).length_eq, waysW_eq G]
  exact List.length_filterMap_le _ _
theorem bB_le {k : Nat} (h : k ≤ 5) : bB 10 k ≤ 351 ∧ bG 10 k ≤ 351 := by
  match k, h with
  | 0, _ => decide
  | 1, _ => decide
  | 2, _ => decide
  | 3, _ => decide
  | 4, _ => decide
  | 5, _ => decide
theorem way_len {q : List (Nat × (Int × Int))} (h : q ∈ allWays R A) : q.length ≤ A.length := by
  obtain ⟨ch, h1, h2, h3, h4⟩ := all_mem.mp h
  have := due_key rfl h4
  have := (Prod.mk.inj this).1
  have : (q.length : Int) = (ch.length : Int) := this
  omega
theorem final (hR : R.length ≤ 20) (hr : ∀ r, r ∈ R → Row w r) (hA : Row w A) (hw : w ≤ 5) :
    g_ways [.dat (.tup (R.map tupI)), .dat (tupI A)] = some ((allWays R A).map encW) ∧
    g__law_all_ways [.dat (.tup (R.map tupI)), .dat (tupI A)] = some (.lst ((allWays R A).map encW), [.dat (.tup (R.map tupI)), .dat (tupI A)]) ∧
    (allWays R A).length < 16000000 ∧ nice 6 (.lst ((allWays R A).map encW)) := by
  have hn : A.length ≤ 5 := by rw [hA.1]; exact hw
  have hrl : ∀ r, r ∈ R → r.length = A.length := fun r h => by rw [(hr r h).1, hA.1]
  have hl2 : (R ++ [neg A]).length = R.length + 1 := by simp
  have hv : ∀ v, v ∈ R ++ [neg A] → v.length = A.length ∧ Bd 10 v := fun v h => by
    rcases List.mem_append.mp h with h | h
    · exact ⟨hrl v h, row_bd (hr v h)⟩
    · rw [List.mem_singleton.mp h]
      refine ⟨by simp [neg], fun e he => ?_⟩
      obtain ⟨x, hx, rfl⟩ := List.mem_map.mp he
      have := row_bd hA x hx
      rw [Int.natAbs_neg]; exact this
  have GA : ∀ k, k ≤ A.length → Good (R ++ [neg A]) A.length k (bB 10 k) (bal k (initE (R ++ [neg A]))) := fun k hk => good_all (fun v h => (hv v h).1) (fun v h => (hv v h).2) (by decide) k hk
  have G := GA A.length (Nat.le_refl _)
  have hsz : (bal A.length (initE (R ++ [neg A]))).length ≤ 2 ^ 21 := Nat.le_trans G.sz (Nat.pow_le_pow_right (by decide) (by omega))
  have hal : (allWays R A).length < 16000000 := Nat.lt_of_le_of_lt (all_len G) (Nat.lt_of_le_of_lt hsz (by decide))
  refine ⟨?_, ?_, hal, ?_⟩
  · rw [← ways_same G]
    refine ev_ways (Bf := bB 10) (B := 351) hrl (by omega) (by omega) (fun k hk => by have := (bB_le (k := k) (by omega)).1; omega) (fun k hk => (GA k hk).stg (by omega)) ⟨fun y hy => ?_, by decide, ?_⟩ (keys_nd G)
    · unfold balances at hy
      obtain ⟨p, hp, rfl⟩ := List.mem_map.mp hy
      have h1 := G.len p hp
      refine ⟨by simp; omega, fun e he => ?_⟩
      exact Nat.lt_of_lt_of_le (G.bd p hp e (List.mem_of_mem_drop he)) (Nat.pow_le_pow_right (by decide) (bB_le hn).1)
    · unfold balances
      rw [List.length_map]
      exact Nat.lt_of_le_of_lt hsz (by decide)
  · refine ev_all (by omega) (by omega) (fun j hj => ?_) (fun size hs ch hch => ?_) hal
    · refine Nat.lt_of_le_of_lt sets_len (Nat.lt_of_le_of_lt (Nat.pow_le_pow_left hR j) (Nat.lt_of_le_of_lt (Nat.pow_le_pow_right (by decide) (show j ≤ 5 by omega)) (by decide)))
    · obtain ⟨h1, h2, h3⟩ := sets_iff.mp hch
      have hlen : (ch.map fun a => R.getD a []).length = ch.length := by simp
      refine ev_lweights (B := 10) (fun r h => ?_) (row_bd hA) (by omega) (by rw [hlen]; omega) (fun k _ hk => by have := (bB_le (k := k) (by omega)).2; omega) fun L hg => (gs_ok gi0 (by omega) hg).1.piv
      obtain ⟨a, ha, rfl⟩ := List.mem_map.mp h
      have ha := h3 a ha
      have e : R.getD a [] = R[a] := by simp [ha]
      rw [e]
      exact ⟨hrl _ (List.getElem_mem ha), row_bd (hr _ (List.getElem_mem ha))⟩
  · unfold nice
    refine ⟨by rw [List.length_map]; omega, fun d hd => ?_⟩
    obtain ⟨q, hq, rfl⟩ := List.mem_map.mp hd
    unfold nice
    have := way_len hq
    refine ⟨by rw [List.length_map]; omega, fun d hd => ?_⟩
    obtain ⟨p, hp, rfl⟩ := List.mem_map.mp hd
    simp [nice]
end
end W20
end

section
set_option linter.all false
/-! MO: the law of k20. -/
namespace W20
open MA DL
theorem t_width {d : Int} (h0 : 0 ≤ d) (h1 : d < 12) : ∃ f : Nat, gIx (.lst [.int 2, .int 2, .int 2, .int 2, .int 3, .int 3, .int 3, .int 1, .int 1, .int 4, .int 5, .int 0]) (.int d) = some (.int (f : Nat)) ∧ f ≤ 5 := by
  have : d = 0 ∨ d = 1 ∨ d = 2 ∨ d = 3 ∨ d = 4 ∨ d = 5 ∨ d = 6 ∨ d = 7 ∨ d = 8 ∨ d = 9 ∨ d = 10 ∨ d = 11 := by omega
  rcases this with rfl | rfl | rfl | rfl | rfl | rfl | rfl | rfl | rfl | rfl | rfl | rfl
  · exact ⟨2, rfl, by omega⟩
  · exact ⟨2, rfl, by omega⟩
  · exact ⟨2, rfl, by omega⟩
  · exact ⟨2, rfl, by omega⟩
  · exact ⟨3, rfl, by omega⟩
  · exact ⟨3, rfl, by omega⟩
  · exact ⟨3, rfl, by omega⟩
  · exact ⟨1, rfl, by omega⟩
  · exact ⟨1, rfl, by omega⟩
  · exact ⟨4, rfl, by omega⟩
  · exact ⟨5, rfl, by omega⟩
  · exact ⟨0, rfl, by omega⟩
theorem t_cap {w : Nat} (h : w ≤ 5) : ∃ c : Int, gIx (.lst [.int 4, .int 12, .int 10, .int 8, .int 6, .int 6]) (.int (w : Nat)) = some (.int c) ∧ 0 ≤ c ∧ c ≤ 20 := by
  match w, h with
  | 0, _ => exact ⟨4, rfl, by omega, by omega⟩
  | 1, _ => exact ⟨12, rfl, by omega, by omega⟩
  | 2, _ => exact ⟨10, rfl, by omega, by omega⟩
  | 3, _ => exact ⟨8, rfl, by omega, by omega⟩
  | 4, _ => exact ⟨6, rfl, by omega, by omega⟩
  | 5, _ => exact ⟨6, rfl, by omega, by omega⟩
theorem t_most {d : Int} (h0 : 0 ≤ d) (h1 : d < 6) : ∃ f : Int, gIx (.lst [.int 1, .int 2, .int 3, .int 9, .int 300, .int 1000]) (.int d) = some (.int f) ∧ 1 ≤ f ∧ f ≤ 1000 := by
  have : d = 0 ∨ d = 1 ∨ d = 2 ∨ d = 3 ∨ d = 4 ∨ d = 5 := by omega
  rcases this with rfl | rfl | rfl | rfl | rfl | rfl
  · exact ⟨1, rfl, by omega, by omega⟩
  · exact ⟨2, rfl, by omega, by omega⟩
  · exact ⟨3, rfl, by omega, by omega⟩
  · exact ⟨9, rfl, by omega, by omega⟩
  · exact ⟨300, rfl, by omega, by omega⟩
  · exact ⟨1000, rfl, by omega, by omega⟩
theorem ev_bag {ns : List Int} (h : ns.length ≤ 63) : ∃ b, BagOk b ∧ g__law_bag [.dat (.lst (ns.map .int))] = some (.lst b) := by
  refine ⟨bagD (ns.take 63) 0 0 0 1, ⟨ns.take 63, 0, 0, 0, 1, rfl, by simp; omega, by omega, by omega⟩, ?_⟩
  have e : HT.sIx (ns.map D.int).length 0 none = 0 := rfl
  have ec : gCut (.lst (ns.map D.int)) none (some 63) = some (.lst ((ns.take 63).map D.int)) := by
    show some (D.lst (cutD (ns.map D.int) none (some 63))) = _
    congr 2
    unfold cutD
    simp [HT.sIx, List.map_take]
    try omega
  have ec' : cutD (ns.map D.int) none (some 63) = (ns.map D.int).take 63 := by
    have := D.lst.inj (Option.some.inj (show some (D.lst (cutD (ns.map D.int) none (some 63))) = _ from ec))
    rw [this, List.map_take]
  unfold g__law_bag bodyN F__law_bag
  have e1 : fSlice (fVar 0) fNoP (fPart (fC (.int 63))) [.dat (.lst (ns.map .int))] = some (.lst ((ns.take 63).map D.int), [.dat (.lst (ns.map .int))]) := by
    show (gCut (.lst (ns.map D.int)) none (some 63)).bind (fun d => some (d, [Slot.dat (.lst (ns.map .int))])) = _
    rw [ec]; rfl
  have e2 : fGive (fListOf (fCons (fSlice (fVar 0) fNoP (fPart (fC (.int 63)))) fNil)) [.dat (.lst (ns.map .int))] = some (.lst ((ns.take 63).map D.int), [.dat (.lst (ns.map .int))]) := by
    unfold fGive fListOf
    simp [ec', gCut, Own.toD, List.map_take, fSlice, fNoP, fPart, fCons, fNil]
  simp [ec', gCut, fGive, fListOf, fLst, Own.toD, lenOk, bagD, List.map_take, fSlice, fNoP, fPart, fCons, fNil]
abbrev SL (s : D) (b : List D) (s2 s3 s4 s5 s6 s7 : Slot) : Ev := [.dat s, .own (.lst b), s2, s3, s4, s5, s6, s7]
theorem g1_of {R : List (List Int)} {A : List Int} {L : List D} {s0 s1 s2 s3 s4 s5 : Slot} (f1 : g_ways [.dat (.tup (R.map tupI)), .dat (tupI A)] = some L) (f3 : L.length < 16000000) :
    fGive (fListG 2 g_ways (fCons (fVar 6) (fCons (fVar 7) fNil))) [s0, s1, s2, s3, s4, s5, .dat (.tup (R.map tupI)), .dat (tupI A)] = some (.lst L, [s0, s1, s2, s3, s4, s5, .dat (.tup (R.map tupI)), .dat (tupI A)]) := by
  have h : fListG 2 g_ways (fCons (fVar 6) (fCons (fVar 7) fNil)) [s0, s1, s2, s3, s4, s5, .dat (.tup (R.map tupI)), .dat (tupI A)] = some (.lst L, [s0, s1, s2, s3, s4, s5, .dat (.tup (R.map tupI)), .dat (tupI A)]) := by
    show ((g_ways [.dat (.tup (R.map tupI)), .dat (tupI A)]).bind fun ds => if lenOk ds.length = true then some (Own.lst ds, [s0, s1, s2, s3, s4, s5, .dat (.tup (R.map tupI)), .dat (tupI A)]) else none) = _
    rw [f1]
    show (if lenOk L.length = true then some (Own.lst L, [s0, s1, s2, s3, s4, s5, .dat (.tup (R.map tupI)), .dat (tupI A)]) else none) = _
    rw [if_pos (lenOk_of f3)]
  unfold fGive
  rw [h]; rfl
theorem g2_of {R : List (List Int)} {A : List Int} {d : D} {s0 s1 s2 s3 s4 s5 : Slot} (f2 : g__law_all_ways [.dat (.tup (R.map tupI)), .dat (tupI A)] = some (d, [.dat (.tup (R.map tupI)), .dat (tupI A)])) :
    fCall 2 g__law_all_ways (frD (fVar 6) (frD (fVar 7) frNil)) [s0, s1, s2, s3, s4, s5, .dat (.tup (R.map tupI)), .dat (tupI A)] = some (d, [s0, s1, s2, s3, s4, s5, .dat (.tup (R.map tupI)), .dat (tupI A)]) :=
  call_ev (ds := [.tup (R.map tupI), tupI A]) rfl rfl f2
theorem fin_of {f g : FE} {d : D} {Z : Ev} {n : Nat} (h1 : f Z = some (d, Z)) (h2 : g Z = some (d, Z)) (h : nice n d) : Rt (fRet (fCall 2 (g__law_same n) (frD f (frD g frNil)))) Z (.bl true) := by
  refine rt_ret ⟨Z, call_ev (ds := [d, d]) ?_ rfl (ev_same h)⟩
  rw [frD_ap, h1]
  simp only [Option.bind_some]
  rw [frD_ap, h2]
  rfl
theorem law_true : ∀ ns : List Int, ns.length ≤ 63 → ∃ outs, g_law [.dat (.lst (ns.map .int))] = some (.bl true, outs) := by
  intro ns hns
  generalize hs : D.lst (ns.map .int) = s
  obtain ⟨b, hb, eb⟩ := ev_bag hns
  rw [hs] at eb
  refine ⟨_, body_rt (ds := [s]) ?_⟩
  show Rt F_law [.dat s, .un, .un, .un, .un, .un, .un, .un] _
  unfold F_law
  have e0 : fCallN 1 g__law_bag (fCons (fVar 0) fNil) [.dat s, .un, .un, .un, .un, .un, .un, .un] = some (.lst b, [.dat s, .un, .un, .un, .un, .un, .un, .un]) := by
    show (g__law_bag [.dat s]).bind (fun u => some (u, _)) = _
    rw [eb]; rfl
  refine rt_seq (ρ1 := SL s b .un .un .un .un .un .un) (nx_setN rfl e0 rfl) ?_
  obtain ⟨sh, b1, hb1, s0, s1, e1⟩ := ev_draw (b := b) (size := 12) hb (by omega) (by omega)
  refine rt_seq (ρ1 := SL s b1 (.dat (.int sh)) .un .un .un .un .un) (nx_set (d0 := .int sh) (ρ1 := SL s b1 .un .un .un .un .un .un) (call_r (i := 1) (ρ1 := SL s b .un .un .un .un .un .un) (t := .own (.lst b)) (u := .lst b) (u' := .lst b1) (ds := [.int 12]) rfl rfl rfl rfl e1) rfl) ?_
  obtain ⟨w, ew, hw⟩ := t_width s0 s1
  refine rt_seq (ρ1 := SL s b1 (.dat (.int sh)) (.dat (.int (w : Nat))) .un .un .un .un) (nx_set (d0 := .int (w : Nat)) (ρ1 := SL s b1 (.dat (.int sh)) .un .un .un .un .un) (by
    show (gIx (.lst [.int 2, .int 2, .int 2, .int 2, .int 3, .int 3, .int 3, .int 1, .int 1, .int 4, .int 5, .int 0]) (.int sh)).bind (fun d => some (d, _)) = _
    rw [ew]; rfl) rfl) ?_
  obtain ⟨c, ec, c0, c1⟩ := t_cap hw
  refine rt_seq (ρ1 := SL s b1 (.dat (.int sh)) (.dat (.int (w : Nat))) (.dat (.int c)) .un .un .un) (nx_set (d0 := .int c) (ρ1 := SL s b1 (.dat (.int sh)) (.dat (.int (w : Nat))) .un .un .un .un) (by
    show (gIx (.lst [.int 4, .int 12, .int 10, .int 8, .int 6, .int 6]) (.int (w : Nat))).bind (fun d => some (d, _)) = _
    rw [ec]; rfl) rfl) ?_
  obtain ⟨k, k0, k1, ek⟩ : ∃ k : Int, 0 ≤ k ∧ k ≤ 20 ∧ Nx (fIfS (fTB (fBin gEq (fVar 2) (fC (.int 0)))) (fSet 4 (fC (.int 20))) fSkip) (SL s b1 (.dat (.int sh)) (.dat (.int (w : Nat))) (.dat (.int c)) .un .un .un) (SL s b1 (.dat (.int sh)) (.dat (.int (w : Nat))) (.dat (.int k)) .un .un .un) := by
    by_cases q : sh = 0
    · exact ⟨20, by omega, by omega, nx_if (b := true) (ρ1 := SL s b1 (.dat (.int sh)) (.dat (.int (w : Nat))) (.dat (.int c)) .un .un .un) (by simp [q]) (fun _ => rfl) (fun h => by cases h)⟩
    · exact ⟨c, c0, c1, nx_if (b := false) (ρ1 := SL s b1 (.dat (.int sh)) (.dat (.int (w : Nat))) (.dat (.int c)) .un .un .un) (by simp [q]) (fun h => by cases h) (fun _ => rfl)⟩
  refine rt_seq ek ?_
  obtain ⟨m, b2, hb2, m0, m1, e2⟩ := ev_draw (b := b1) (size := 6) hb1 (by omega) (by omega)
  obtain ⟨mo, em, mo0, mo1⟩ := t_most m0 m1
  have ec2 : fCall 2 g__law_draw (frR 1 (frD (fC (.int 6)) frNil)) (SL s b1 (.dat (.int sh)) (.dat (.int (w : Nat))) (.dat (.int k)) .un .un .un) = some (.int m, SL s b2 (.dat (.int sh)) (.dat (.int (w : Nat))) (.dat (.int k)) .un .un .un) :=
    call_r (i := 1) (ρ1 := SL s b1 (.dat (.int sh)) (.dat (.int (w : Nat))) (.dat (.int k)) .un .un .un) (t := .own (.lst b1)) (u := .lst b1) (u' := .lst b2) (ds := [.int 6]) rfl rfl rfl rfl e2
  refine rt_seq (ρ1 := SL s b2 (.dat (.int sh)) (.dat (.int (w : Nat))) (.dat (.int k)) (.dat (.int mo)) .un .un) (nx_set (d0 := .int mo) (ρ1 := SL s b2 (.dat (.int sh)) (.dat (.int (w : Nat))) (.dat (.int k)) .un .un .un) (by
    show (fCall 2 g__law_draw (frR 1 (frD (fC (.int 6)) frNil)) (SL s b1 (.dat (.int sh)) (.dat (.int (w : Nat))) (.dat (.int k)) .un .un .un)).bind (fun y => (gIx (.lst [.int 1, .int 2, .int 3, .int 9, .int 300, .int 1000]) y.1).bind fun d => some (d, y.2)) = _
    rw [ec2]; simp only [Option.bind_some, em]) rfl) ?_
  obtain ⟨j, b3, hb3, j0, j1, e3⟩ := ev_draw (b := b2) (size := k + 1) hb2 (by omega) (by omega)
  have ec3 : fCall 2 g__law_draw (frR 1 (frD (fBin gAdd (fVar 4) (fC (.int 1))) frNil)) (SL s b2 (.dat (.int sh)) (.dat (.int (w : Nat))) (.dat (.int k)) (.dat (.int mo)) .un .un) = some (.int j, SL s b3 (.dat (.int sh)) (.dat (.int (w : Nat))) (.dat (.int k)) (.dat (.int mo)) .un .un) :=
    call_r (i := 1) (ρ1 := SL s b2 (.dat (.int sh)) (.dat (.int (w : Nat))) (.dat (.int k)) (.dat (.int mo)) .un .un) (t := .own (.lst b2)) (u := .lst b2) (u' := .lst b3) (ds := [.int (k + 1)]) rfl rfl rfl rfl e3
  obtain ⟨jn, rfl⟩ : ∃ jn : Nat, j = (jn : Nat) := ⟨j.toNat, by omega⟩
  have ef0 : frD (fCall 2 g__law_draw (frR 1 (frD (fBin gAdd (fVar 4) (fC (.int 1))) frNil))) (frD (fVar 5) frNil) (SL s b2 (.dat (.int sh)) (.dat (.int (w : Nat))) (.dat (.int k)) (.dat (.int mo)) .un .un) = some ([Ar.d (.int (jn : Nat)), Ar.d (.int mo)], (SL s b3 (.dat (.int sh)) (.dat (.int (w : Nat))) (.dat (.int k)) (.dat (.int mo)) .un .un)) := by rw [frD_ap, ec3]; rfl
  have ef1 : frD (fVar 3) (frD (fCall 2 g__law_draw (frR 1 (frD (fBin gAdd (fVar 4) (fC (.int 1))) frNil))) (frD (fVar 5) frNil)) (SL s b2 (.dat (.int sh)) (.dat (.int (w : Nat))) (.dat (.int k)) (.dat (.int mo)) .un .un) = some ([Ar.d (.int (w : Nat)), Ar.d (.int (jn : Nat)), Ar.d (.int mo)], (SL s b3 (.dat (.int sh)) (.dat (.int (w : Nat))) (.dat (.int k)) (.dat (.int mo)) .un .un)) := by
    show (frD (fCall 2 g__law_draw (frR 1 (frD (fBin gAdd (fVar 4) (fC (.int 1))) frNil))) (frD (fVar 5) frNil) (SL s b2 (.dat (.int sh)) (.dat (.int (w : Nat))) (.dat (.int k)) (.dat (.int mo)) .un .un)).bind (fun y => some (Ar.d (.int (w : Nat)) :: y.1, y.2)) = _
    rw [ef0]; rfl
  have ef : frR 1 (frD (fVar 3) (frD (fCall 2 g__law_draw (frR 1 (frD (fBin gAdd (fVar 4) (fC (.int 1))) frNil))) (frD (fVar 5) frNil))) (SL s b2 (.dat (.int sh)) (.dat (.int (w : Nat))) (.dat (.int k)) (.dat (.int mo)) .un .un) = some ([Ar.r 1, Ar.d (.int (w : Nat)), Ar.d (.int (jn : Nat)), Ar.d (.int mo)], (SL s b3 (.dat (.int sh)) (.dat (.int (w : Nat))) (.dat (.int k)) (.dat (.int mo)) .un .un)) := by
    show (frD (fVar 3) (frD (fCall 2 g__law_draw (frR 1 (frD (fBin gAdd (fVar 4) (fC (.int 1))) frNil))) (frD (fVar 5) frNil)) (SL s b2 (.dat (.int sh)) (.dat (.int (w : Nat))) (.dat (.int k)) (.dat (.int mo)) .un .un)).bind (fun y => some (Ar.r 1 :: y.1, y.2)) = _
    rw [ef1]; rfl
  obtain ⟨R, b4, hb4, hR, hr, e4⟩ := ev_rows (b := b3) (w := w) (many := jn) (most := mo) hb3 (by omega) (by omega) mo0 mo1
  refine rt_seq (ρ1 := SL s b4 (.dat (.int sh)) (.dat (.int (w : Nat))) (.dat (.int k)) (.dat (.int mo)) (.dat (.tup (R.map tupI))) .un) (nx_set (d0 := .tup (R.map tupI)) (ρ1 := SL s b4 (.dat (.int sh)) (.dat (.int (w : Nat))) (.dat (.int k)) (.dat (.int mo)) .un .un)
    (call_r (i := 1) (ρ1 := SL s b3 (.dat (.int sh)) (.dat (.int (w : Nat))) (.dat (.int k)) (.dat (.int mo)) .un .un) (t := .own (.lst b3)) (u := .lst b3) (u' := .lst b4) (ds := [.int (w : Nat), .int (jn : Nat), .int mo]) rfl rfl (by
      exact ef) rfl e4) rfl) ?_
  obtain ⟨A, b5, hb5, hA, e5⟩ := ev_aim (b := b4) (w := w) (most := mo) (R := R) hb4 (by omega) (by omega) hr mo0 mo1
  refine rt_seq (ρ1 := SL s b5 (.dat (.int sh)) (.dat (.int (w : Nat))) (.dat (.int k)) (.dat (.int mo)) (.dat (.tup (R.map tupI))) (.dat (tupI A))) (nx_set (d0 := tupI A) (ρ1 := SL s b5 (.dat (.int sh)) (.dat (.int (w : Nat))) (.dat (.int k)) (.dat (.int mo)) (.dat (.tup (R.map tupI))) .un)
    (call_r (i := 1) (ρ1 := SL s b4 (.dat (.int sh)) (.dat (.int (w : Nat))) (.dat (.int k)) (.dat (.int mo)) (.dat (.tup (R.map tupI))) .un) (t := .own (.lst b4)) (u := .lst b4) (u' := .lst b5) (ds := [.tup (R.map tupI), .int (w : Nat), .int mo]) rfl rfl rfl rfl e5) rfl) ?_
  obtain ⟨f1, f2, f3, f4⟩ := final (R := R) (A := A) (w := w) (by omega) hr hA hw
  exact fin_of (g1_of f1 (by rw [List.length_map]; exact f3)) (g2_of f2) f4
end W20
end

open PySem PySem.W PyProof.Rows
set_option maxRecDepth 100000 in
set_option maxHeartbeats 0 in
theorem PySem.Challenge.cw_leaprungs_k20_whole_ways_for_an_aim_holds : PySem.Challenge.rw_leaprungs_k20_whole_ways_for_an_aim.Holds := by
  w_on; o_law; k_head; (case hw => w_witness2)
  k_fill
  refine W20.walk (l := PySem.Challenge.rw_leaprungs_k20_whole_ways_for_an_aim) rfl rfl (fun w h Y => PySem.W.kIn_of Y) W20.law_true ?F
  case F =>
    intro w mg fa h KX G hmg
    refine' W20.all_mk KX G hmg ?a_fraction ?l_fraction ?c_fraction ?k_fraction ?t_fraction ?a_primitive ?l_primitive ?c_primitive ?k_primitive ?a__has_at_most ?l__has_at_most ?c__has_at_most ?k__has_at_most ?a__are_neighbours ?l__are_neighbours ?c__are_neighbours ?k__are_neighbours ?a__merged ?l__merged ?c__merged ?k__merged ?a__balanced_at ?l__balanced_at ?c__balanced_at ?k__balanced_at ?a__balances ?l__balances ?c__balances ?k__balances ?a__sort_key ?l__sort_key ?c__sort_key ?k__sort_key ?a__negated ?l__negated ?c__negated ?k__negated ?a__weights_of ?l__weights_of ?c__weights_of ?k__weights_of ?a_ways ?l_ways ?c_ways ?k_ways ?a__law_bag ?l__law_bag ?c__law_bag ?k__law_bag ?a__law_draw ?l__law_draw ?c__law_draw ?k__law_draw ?a__law_same ?l__law_same ?c__law_same ?k__law_same ?a__law_gcd ?l__law_gcd ?c__law_gcd ?k__law_gcd ?a__law_fraction ?l__law_fraction ?c__law_fraction ?k__law_fraction ?a__law_row ?l__law_row ?c__law_row ?k__law_row ?a__law_many ?l__law_many ?c__law_many ?k__law_many ?a__law_rows ?l__law_rows ?c__law_rows ?k__law_rows ?a__law_aim ?l__law_aim ?c__law_aim ?k__law_aim ?a__law_sets ?l__law_sets ?c__law_sets ?k__law_sets ?a__law_weights ?l__law_weights ?c__law_weights ?k__law_weights ?a__law_all_ways ?l__law_all_ways ?c__law_all_ways ?k__law_all_ways ?a_law ?l_law ?c_law ?k_law ?z_gcd ?z_tuple ?z_range ?z_zip ?z_enumerate ?z_len ?z_sorted ?z_list ?z_int ?z_isinstance ?z_str ?z_bool ?z_abs ?z_max ?z_all
    (case a_fraction => k_is)
    (case l_fraction => k_is)
    (case c_fraction => k_is)
    (case k_fraction => k_is)
    (case t_fraction => k_is)
    (case a_primitive => k_is)
    (case l_primitive => k_is)
    (case c_primitive => k_is)
    (case k_primitive => k_is)
    (case a__has_at_most => k_is)
    (case l__has_at_most => k_is)
    (case c__has_at_most => k_is)
    (case k__has_at_most => k_is)
    (case a__are_neighbours => k_is)
    (case l__are_neighbours => k_is)
    (case c__are_neighbours => k_is)
    (case k__are_neighbours => k_is)
    (case a__merged => k_is)
    (case l__merged => k_is)
    (case c__merged => k_is)
    (case k__merged => k_is)
    (case a__balanced_at => k_is)
    (case l__balanced_at => k_is)
    (case c__balanced_at => k_is)
    (case k__balanced_at => k_is)
    (case a__balances => k_is)
    (case l__balances => k_is)
    (case c__balances => k_is)
    (case k__balances => k_is)
    (case a__sort_key => k_is)
    (case l__sort_key => k_is)
    (case c__sort_key => k_is)
    (case k__sort_key => k_is)
    (case a__negated => k_is)
    (case l__negated => k_is)
    (case c__negated => k_is)
    (case k__negated => k_is)
    (case a__weights_of => k_is)
    (case l__weights_of => k_is)
    (case c__weights_of => k_is)
    (case k__weights_of => k_is)
    (case a_ways => k_is)
    (case l_ways => k_is)
    (case c_ways => k_is)
    (case k_ways => k_is)
    (case a__law_bag => k_is)
    (case l__law_bag => k_is)
    (case c__law_bag => k_is)
    (case k__law_bag => k_is)
    (case a__law_draw => k_is)
    (case l__law_draw => k_is)
    (case c__law_draw => k_is)
    (case k__law_draw => k_is)
    (case a__law_same => k_is)
    (case l__law_same => k_is)
    (case c__law_same => k_is)
    (case k__law_same => k_is)
    (case a__law_gcd => k_is)
    (case l__law_gcd => k_is)
    (case c__law_gcd => k_is)
    (case k__law_gcd => k_is)
    (case a__law_fraction => k_is)
    (case l__law_fraction => k_is)
    (case c__law_fraction => k_is)
    (case k__law_fraction => k_is)
    (case a__law_row => k_is)
    (case l__law_row => k_is)
    (case c__law_row => k_is)
    (case k__law_row => k_is)
    (case a__law_many => k_is)
    (case l__law_many => k_is)
    (case c__law_many => k_is)
    (case k__law_many => k_is)
    (case a__law_rows => k_is)
    (case l__law_rows => k_is)
    (case c__law_rows => k_is)
    (case k__law_rows => k_is)
    (case a__law_aim => k_is)
    (case l__law_aim => k_is)
    (case c__law_aim => k_is)
    (case k__law_aim => k_is)
    (case a__law_sets => k_is)
    (case l__law_sets => k_is)
    (case c__law_sets => k_is)
    (case k__law_sets => k_is)
    (case a__law_weights => k_is)
    (case l__law_weights => k_is)
    (case c__law_weights => k_is)
    (case k__law_weights => k_is)
    (case a__law_all_ways => k_is)
    (case l__law_all_ways => k_is)
    (case c__law_all_ways => k_is)
    (case k__law_all_ways => k_is)
    (case a_law => k_is)
    (case l_law => k_is)
    (case c_law => k_is)
    (case k_law => k_is)
    (case z_gcd => k_is)
    (case z_tuple => k_is)
    (case z_range => k_is)
    (case z_zip => k_is)
    (case z_enumerate => k_is)
    (case z_len => k_is)
    (case z_sorted => k_is)
    (case z_list => k_is)
    (case z_int => k_is)
    (case z_isinstance => k_is)
    (case z_str => k_is)
    (case z_bool => k_is)
    (case z_abs => k_is)
    (case z_max => k_is)
    (case z_all => k_is)
