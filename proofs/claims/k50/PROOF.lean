import PyProof.Rows.All
import Wide.All
import OpenK.AllK
import Wide.FinOn
import HandS.ForExc
import HandS.Comp
import HandS.Dict
import HandS.Iter
import HandS.Gcd
import HandS.Wide
import HandS.WideBits
import HandS.ExcCtx
import HandS.SuiteRaise
import HandS.RaiseFrom
import HandS.Deep
import HandS.Rev
import PyProof.ReprRoads
import PyProof.Rows.Digits
import HandS.List
import HandS.IsInst
import HandS.Style
import HandS.SortInts
import HandS.Flt
import HandS.More
import HandS.Exc
import HandS.TryOnly
import HandS.TryMany
import HandS.ExcIs
import HandS.ExcOwn
import HandS.Defaults
import HandS.Ends
import HandS.HeadHook2
import HandS.Head2
import HandS.Head3
import PySem.Challenge.RW_lastcoffer_k50_tables_checked
import KE.KStateDown
set_option Elab.async false
set_option linter.all false
set_option maxRecDepth 100000
set_option maxHeartbeats 4000000
/-! Dee, part 1: slots that hold data, the heap's shared part, what evaluation may do to it. -/
namespace Dee
open PySem PySem.Spec PyProof.Rows L2

abbrev D := PyData
/-- a value, a raised class, or nothing told -/
abbrev R := Except (Option Nat) D
abbrev Rs := Except (Option Nat) (List D)

/-- what a name holds -/
inductive Sl where
  | non
  | sh (d : D)
  | own (ds : List D)
  | dk (kvs : List (Key × D))
  | dt (kvs : List (List Key × D))
  | exc (c : Nat)
  | scr (ns : List Int)

theorem same_refl (H : Hp) : Same H H := fun _ _ h => h
theorem same_upd {H : Hp} {p : Addr} {o : HO} (h : H p = none) : Same H (upd H p o) := fun b x e => by
  rw [upd_ne (ne_of_none e h)]
  exact e
theorem same_fresh {H H' : Hp} (e : Same H H') {p : Addr} (h : H' p = none) : H p = none := by
  cases q : H p with
  | none => rfl
  | some o =>
    have z := e p o q
    rw [h] at z
    cases z
theorem same_upds {H0 H : Hp} {p : Addr} {o : HO} (s : Same H0 H) : Same (upd H0 p o) (upd H p o) := fun b x e => by
  by_cases hb : b = p
  · subst hb
    rw [upd_same] at e ⊢
    exact e
  · rw [upd_ne hb] at e ⊢
    exact s b x e
/-- a store beside the shared part -/
theorem same_out {H0 H : Hp} {p : Addr} {o : HO} (s : Same H0 H) (h : H0 p = none) : Same H0 (upd H p o) := fun b x e => by
  rw [upd_ne (ne_of_none e h)]
  exact s b x e

theorem rd_mono {H H' : Hp} {a : Addr} {u : HO} (e : Same H H') (h : Rd H a u) : Rd H' a u := by
  rcases h with h | ⟨o, h⟩
  · exact .inl (e _ _ h)
  · exact .inr ⟨o, e _ _ h⟩
theorem sql_mono {K : PySem.W.Frag} {H H' : Hp} {a : Addr} {xs : List V} (e : Same H H') (h : SqL K H a xs) : SqL K H' a xs := by
  rcases h with h | h
  · exact .inl (rd_mono e h)
  · exact .inr h
theorem sqt_mono {K : PySem.W.Frag} {H H' : Hp} {a : Addr} {xs : List V} (e : Same H H') (h : SqT K H a xs) : SqT K H' a xs := by
  rcases h with h | h
  · exact .inl (rd_mono e h)
  · exact .inr h
mutual
theorem dp_mono {K : PySem.W.Frag} {H H' : Hp} (e : Same H H') : ∀ (d : D) (v : V), Dp K H v d → Dp K H' v d
  | .none, _, h => by cases h; exact .non
  | .bool b, _, h => by cases h; exact .bl b
  | .int i, _, h => by cases h; exact .int i
  | .str x, _, h => by cases h; exact .str x
  | .list ds, _, h => by
    cases h with
    | lst hs ha => exact .lst (sql_mono e hs) (dpa_mono e ds _ ha)
  | .tuple ds, _, h => by
    cases h with
    | tup hs ha => exact .tup (sqt_mono e hs) (dpa_mono e ds _ ha)
  | .dict _, _, h => by cases h
theorem dpa_mono {K : PySem.W.Frag} {H H' : Hp} (e : Same H H') : ∀ (ds : List D) (vs : List V), DpAll K H vs ds → DpAll K H' vs ds
  | [], _, h => by cases h; exact .nil
  | d :: ds, _, h => by
    cases h with
    | cons h1 h2 => exact .cons (dp_mono e d _ h1) (dpa_mono e ds _ h2)
end
end Dee
namespace L2
open PySem PySem.Spec PyProof.Rows Dee
theorem Dp.mono {K : PySem.W.Frag} {H H' : Hp} {v : V} {d : D} (h : Dp K H v d) (e : Same H H') : Dp K H' v d := dp_mono e d v h
theorem DpAll.mono {K : PySem.W.Frag} {H H' : Hp} {vs : List V} {ds : List D} (h : DpAll K H vs ds) (e : Same H H') : DpAll K H' vs ds := dpa_mono e ds vs h
theorem DpAll.len {K : PySem.W.Frag} {H : Hp} : ∀ {vs : List V} {ds : List D}, DpAll K H vs ds → vs.length = ds.length
  | [], [], _ => rfl
  | v :: vs, d :: ds, h => by
    cases h with
    | cons _ h2 => rw [List.length_cons, List.length_cons, DpAll.len h2]
  | [], _ :: _, h => by cases h
  | _ :: _, [], h => by cases h
theorem DpAll.at {K : PySem.W.Frag} {H : Hp} : ∀ {vs : List V} {ds : List D} {i : Nat} {d : D}, DpAll K H vs ds → ds[i]? = some d → ∃ v, vs[i]? = some v ∧ Dp K H v d
  | [], [], _, _, _, e => by simp at e
  | v :: vs, x :: ds, 0, d, h, e => by
    cases h with
    | cons h1 _ =>
      have z : x = d := by simpa using e
      subst z
      exact ⟨v, rfl, h1⟩
  | v :: vs, x :: ds, i + 1, d, h, e => by
    cases h with
    | cons _ h2 =>
      obtain ⟨w, e1, h1⟩ := DpAll.at (i := i) h2 (by simpa using e)
      exact ⟨w, by simpa using e1, h1⟩
  | [], _ :: _, _, _, h, _ => by cases h
  | _ :: _, [], _, _, h, _ => by cases h
theorem DpAll.app {K : PySem.W.Frag} {H : Hp} : ∀ {vs : List V} {ds : List D} {ws : List V} {es : List D}, DpAll K H vs ds → DpAll K H ws es → DpAll K H (vs ++ ws) (ds ++ es)
  | [], [], _, _, _, h => h
  | v :: vs, d :: ds, _, _, h, h' => by
    cases h with
    | cons h1 h2 => exact .cons h1 (DpAll.app h2 h')
  | [], _ :: _, _, _, h, _ => by cases h
  | _ :: _, [], _, _, h, _ => by cases h
theorem DpAll.setAt {K : PySem.W.Frag} {H : Hp} {v : V} {d : D} (h1 : Dp K H v d) : ∀ {vs : List V} {ds : List D} (i : Nat), DpAll K H vs ds → DpAll K H (vs.set i v) (ds.set i d)
  | [], [], _, h => h
  | _ :: _, _ :: _, 0, h => by
    cases h with
    | cons _ h2 => exact .cons h1 h2
  | _ :: _, _ :: _, i + 1, h => by
    cases h with
    | cons h3 h2 => exact .cons h3 (DpAll.setAt h1 i h2)
  | [], _ :: _, _, h => by cases h
  | _ :: _, [], _, h => by cases h
theorem DpAll.ofDrop {K : PySem.W.Frag} {H : Hp} : ∀ {vs : List V} {ds : List D} (n : Nat), DpAll K H vs ds → DpAll K H (vs.drop n) (ds.drop n)
  | _, _, 0, h => h
  | [], [], _ + 1, h => h
  | _ :: _, _ :: _, n + 1, h => by
    cases h with
    | cons _ h2 => exact DpAll.ofDrop n h2
  | [], _ :: _, _, h => by cases h
  | _ :: _, [], _, h => by cases h
theorem DpAll.ofTake {K : PySem.W.Frag} {H : Hp} : ∀ {vs : List V} {ds : List D} (n : Nat), DpAll K H vs ds → DpAll K H (vs.take n) (ds.take n)
  | _, _, 0, _ => .nil
  | [], [], _ + 1, h => h
  | _ :: _, _ :: _, n + 1, h => by
    cases h with
    | cons h1 h2 => exact .cons h1 (DpAll.ofTake n h2)
  | [], _ :: _, _, h => by cases h
  | _ :: _, [], _, h => by cases h
theorem DpAll.rev {K : PySem.W.Frag} {H : Hp} : ∀ {vs : List V} {ds : List D}, DpAll K H vs ds → DpAll K H vs.reverse ds.reverse
  | [], [], h => h
  | v :: vs, d :: ds, h => by
    cases h with
    | cons h1 h2 =>
      rw [List.reverse_cons, List.reverse_cons]
      exact (DpAll.rev h2).app (.cons h1 .nil)
  | [], _ :: _, h => by cases h
  | _ :: _, [], h => by cases h

end L2
namespace Dee
open PySem PySem.Spec PyProof.Rows L2
/-! ### what evaluation does: new objects alone; the shared part grows by new ones -/
structure Adv (H0 H H0' H' : Hp) : Prop where
  sub : Same H0 H0'
  all : Same H H'
  inn : Same H0' H'
  old : ∀ a o, H a = some o → H0' a = H0 a
theorem Adv.refl {H0 H : Hp} (s : Same H0 H) : Adv H0 H H0 H := ⟨same_refl _, same_refl _, s, fun _ _ _ => rfl⟩
theorem Adv.trans {A B A' B' A'' B'' : Hp} (a : Adv A B A' B') (b : Adv A' B' A'' B'') : Adv A B A'' B'' :=
  ⟨a.sub.trans b.sub, a.all.trans b.all, b.inn, fun x o h => (b.old x o (a.all x o h)).trans (a.old x o h)⟩
/-- a new object, shared at once -/
theorem Adv.new {H0 H : Hp} {p : Addr} {o : HO} (s : Same H0 H) (h : H p = none) : Adv H0 H (upd H0 p o) (upd H p o) :=
  ⟨same_upd (same_fresh s h), same_upd h, same_upds s, fun a u e => upd_ne (ne_of_none e h)⟩
/-- a new object beside the shared part -/
theorem Adv.beside {H0 H H0' H' : Hp} {p : Addr} {o : HO} (a : Adv H0 H H0' H') (h : H p = none) (h0 : H0' p = none) : Adv H0 H H0' (upd H' p o) :=
  ⟨a.sub, fun b u e => by rw [upd_ne (ne_of_none e h)]; exact a.all b u e, same_out a.inn h0, a.old⟩
/-- .. comes into it -/
theorem Adv.freeze {H0 H H0' H' : Hp} {p : Addr} {o : HO} (a : Adv H0 H H0' H') (h : H p = none) (h' : H' p = some o) : Adv H0 H (upd H0' p o) H' :=
  ⟨fun b u e => by
      by_cases hb : b = p
      · subst hb
        have z := a.sub _ _ e
        have z2 := a.inn _ _ z
        rw [h'] at z2
        rw [upd_same]
        exact z2
      · rw [upd_ne hb]
        exact a.sub b u e,
    a.all, fun b u e => by
      by_cases hb : b = p
      · subst hb
        rw [upd_same] at e
        rw [h']
        exact e
      · rw [upd_ne hb] at e
        exact a.inn b u e,
    fun b u e => by
      rw [upd_ne (ne_of_none e h)]
      exact a.old b u e⟩

/-! ### the state of a body: its names over a heap whose shared part is H0 -/
def keyD : Key → D
  | .inl i => .int i
  | .inr x => .str x
inductive KvRel (K : PySem.W.Frag) (H : Hp) {κ : Type} : List (κ × V) → List (κ × D) → Prop
  | nil : KvRel K H [] []
  | cons {k : κ} {v : V} {d : D} {vs : List (κ × V)} {ds : List (κ × D)} : Dp K H v d → KvRel K H vs ds → KvRel K H ((k, v) :: vs) ((k, d) :: ds)
theorem KvRel.mono {K : PySem.W.Frag} {H H' : Hp} {κ : Type} (e : Same H H') : ∀ {vs : List (κ × V)} {ds : List (κ × D)}, KvRel K H vs ds → KvRel K H' vs ds
  | _, _, .nil => .nil
  | _, _, .cons h t => .cons (h.mono e) (KvRel.mono e t)

def SlOk (K : PySem.W.Frag) (xa : Addr → Nat → Prop) (He H0 H : Hp) : Sl → Option V → Prop
  | .non, _ => True
  | .sh d, o => ∃ v, o = some v ∧ Dp K H0 v d
  | .own ds, o => ∃ a vs, o = some (.ref a) ∧ He a = none ∧ H0 a = none ∧ H a = some (.lst vs) ∧ DpAll K H0 vs ds
  | .dk kvs, o => ∃ a vs, o = some (.ref a) ∧ He a = none ∧ H0 a = none ∧ H a = some (.dK vs) ∧ KvRel K H0 vs kvs
  | .dt kvs, o => ∃ a vs, o = some (.ref a) ∧ He a = none ∧ H0 a = none ∧ H a = some (.dT vs) ∧ KvRel K H0 vs kvs
  | .exc c, o => ∃ a, o = some (.ref a) ∧ xa a c
  | .scr _, _ => True
def Sl.owns : Sl → Bool
  | .own _ => true
  | .dk _ => true
  | .dt _ => true
  | _ => false
/-- the slot i owns the object at a -/
def Owns (Γ : List Sl) (σ : L2.St) (i : Nat) (a : Addr) : Prop := (∃ s, Γ[i]? = some s ∧ s.owns = true) ∧ σ[i]? = some (some (.ref a))

/-- K, the classes' addresses, the heap at the entry and the part of it that was shared then -/
structure Fm where
  K : PySem.W.Frag
  cl : Nat → Addr
  He : Hp
  Hs : Hp
  xa : Addr → Nat → Prop := fun _ _ => False

structure St (p : Fm) (Γ : List Sl) (H0 : Hp) (σ : L2.St) (H : Hp) : Prop where
  ent : Same p.He H
  sub : Same H0 H
  new : Same p.Hs H0
  old : ∀ a o, p.He a = some o → H0 a = p.Hs a
  len : Γ.length = σ.length
  sl : ∀ (i : Nat) (s : Sl), Γ[i]? = some s → ∃ o, σ[i]? = some o ∧ SlOk p.K p.xa p.He H0 H s o
  ap : ∀ (i j : Nat) (a : Addr), i ≠ j → Owns Γ σ i a → Owns Γ σ j a → False

section
variable {p : Fm} {Γ : List Sl} {H0 H H0' H' : Hp} {σ : L2.St}
theorem SlOk.adv {K : PySem.W.Frag} {xa : Addr → Nat → Prop} {He : Hp} (a : Adv H0 H H0' H') (he : Same He H) {s : Sl} {o : Option V} (h : SlOk K xa He H0 H s o) : SlOk K xa He H0' H' s o := by
  cases s with
  | non => trivial
  | sh d =>
    obtain ⟨v, e, q⟩ := h
    exact ⟨v, e, q.mono a.sub⟩
  | own ds =>
    obtain ⟨x, vs, e, n, n0, q, r⟩ := h
    exact ⟨x, vs, e, n, (a.old x _ q).trans n0, a.all _ _ q, r.mono a.sub⟩
  | dk kvs =>
    obtain ⟨x, vs, e, n, n0, q, r⟩ := h
    exact ⟨x, vs, e, n, (a.old x _ q).trans n0, a.all _ _ q, r.mono a.sub⟩
  | dt kvs =>
    obtain ⟨x, vs, e, n, n0, q, r⟩ := h
    exact ⟨x, vs, e, n, (a.old x _ q).trans n0, a.all _ _ q, r.mono a.sub⟩
  | exc c => exact h
  | scr ns => trivial
theorem St.adv (x : St p Γ H0 σ H) (a : Adv H0 H H0' H') : St p Γ H0' σ H' where
  ent := x.ent.trans a.all
  sub := a.inn
  new := x.new.trans a.sub
  old := fun b o h => (a.old b o (x.ent b o h)).trans (x.old b o h)
  len := x.len
  sl := fun i s h => by
    obtain ⟨o, e, q⟩ := x.sl i s h
    exact ⟨o, e, q.adv a x.ent⟩
  ap := x.ap
theorem St.bare (x : St p Γ H0 σ H) : St p [] H0 [] H where
  ent := x.ent
  sub := x.sub
  new := x.new
  old := x.old
  len := rfl
  sl := fun i s h => by simp at h
  ap := fun i j a _ h => by
    obtain ⟨⟨s, e, _⟩, _⟩ := h
    simp at e
/-- a name gets a shared value -/
theorem St.put (x : St p Γ H0 σ H) {i : Nat} {v : V} {d : D} (h : Dp p.K H0 v d) (hi : i < Γ.length) : St p (Γ.set i (.sh d)) H0 (σ.set i (some v)) H where
  ent := x.ent
  sub := x.sub
  new := x.new
  old := x.old
  len := by rw [List.length_set, List.length_set, x.len]
  sl := fun j s e => by
    by_cases hj : i = j
    · subst hj
      rw [List.getElem?_set_self hi] at e
      cases e
      exact ⟨some v, List.getElem?_set_self (by rw [← x.len]; exact hi), v, rfl, h⟩
    · rw [List.getElem?_set_ne hj] at e
      rw [List.getElem?_set_ne hj]
      exact x.sl j s e
  ap := fun j k a hjk h1 h2 => by
    have key : ∀ j, Owns (Γ.set i (.sh d)) (σ.set i (some v)) j a → Owns Γ σ j a := fun j ⟨⟨s, e, o⟩, q⟩ => by
      by_cases hj : i = j
      · subst hj
        rw [List.getElem?_set_self hi] at e
        cases e
        cases o
      · rw [List.getElem?_set_ne hj] at e q
        exact ⟨⟨s, e, o⟩, q⟩
    exact x.ap j k a hjk (key j h1) (key k h2)
/-- a name is forgotten -/
theorem St.drop (x : St p Γ H0 σ H) (i : Nat) (o : Option V) : St p (Γ.set i .non) H0 (σ.set i o) H where
  ent := x.ent
  sub := x.sub
  new := x.new
  old := x.old
  len := by rw [List.length_set, List.length_set, x.len]
  sl := fun j s e => by
    by_cases hj : i = j
    · subst hj
      by_cases hi : i < Γ.length
      · rw [List.getElem?_set_self hi] at e
        cases e
        exact ⟨o, List.getElem?_set_self (by rw [← x.len]; exact hi), trivial⟩
      · rw [List.getElem?_eq_none (by simpa using hi)] at e
        cases e
    · rw [List.getElem?_set_ne hj] at e
      rw [List.getElem?_set_ne hj]
      exact x.sl j s e
  ap := fun j k a hjk h1 h2 => by
    have key : ∀ j, Owns (Γ.set i .non) (σ.set i o) j a → Owns Γ σ j a := fun j ⟨⟨s, e, w⟩, q⟩ => by
      by_cases hj : i = j
      · subst hj
        by_cases hi : i < Γ.length
        · rw [List.getElem?_set_self hi] at e
          cases e
          cases w
        · rw [List.getElem?_eq_none (by simpa using hi)] at e
          cases e
      · rw [List.getElem?_set_ne hj] at e q
        exact ⟨⟨s, e, w⟩, q⟩
    exact x.ap j k a hjk (key j h1) (key k h2)
/-- a name of which nothing is asked any more -/
theorem St.weak (x : St p Γ H0 σ H) (i : Nat) : St p (Γ.set i .non) H0 σ H where
  ent := x.ent
  sub := x.sub
  new := x.new
  old := x.old
  len := by rw [List.length_set, x.len]
  sl := fun j s e => by
    by_cases hj : i = j
    · subst hj
      by_cases hi : i < Γ.length
      · rw [List.getElem?_set_self hi] at e
        cases e
        obtain ⟨o, eo⟩ : ∃ o, σ[i]? = some o := ⟨σ[i]'(by rw [← x.len]; exact hi), List.getElem?_eq_getElem _⟩
        exact ⟨o, eo, trivial⟩
      · rw [List.getElem?_eq_none (by simpa using hi)] at e
        cases e
    · rw [List.getElem?_set_ne hj] at e
      exact x.sl j s e
  ap := fun j k a hjk h1 h2 => by
    have key : ∀ j, Owns (Γ.set i .non) σ j a → Owns Γ σ j a := fun j ⟨⟨s, e, w⟩, q⟩ => by
      by_cases hj : i = j
      · subst hj
        by_cases hi : i < Γ.length
        · rw [List.getElem?_set_self hi] at e
          cases e
          cases w
        · rw [List.getElem?_eq_none (by simpa using hi)] at e
          cases e
      · rw [List.getElem?_set_ne hj] at e
        exact ⟨⟨s, e, w⟩, q⟩
    exact x.ap j k a hjk (key j h1) (key k h2)
/-- a new object beside the shared part comes to a name -/
theorem St.putNew (x : St p Γ H0 σ H) {i : Nat} {a : Addr} {s : Sl} (hi : i < Γ.length) (na : ∀ j, ¬ Owns Γ σ j a) (h : SlOk p.K p.xa p.He H0 H s (some (.ref a))) : St p (Γ.set i s) H0 (σ.set i (some (.ref a))) H where
  ent := x.ent
  sub := x.sub
  new := x.new
  old := x.old
  len := by rw [List.length_set, List.length_set, x.len]
  sl := fun j s' e => by
    by_cases hj : i = j
    · subst hj
      rw [List.getElem?_set_self hi] at e
      cases e
      exact ⟨some (.ref a), List.getElem?_set_self (by rw [← x.len]; exact hi), h⟩
    · rw [List.getElem?_set_ne hj] at e
      rw [List.getElem?_set_ne hj]
      exact x.sl j s' e
  ap := fun j k b hjk h1 h2 => by
    have key : ∀ j, i ≠ j → Owns (Γ.set i s) (σ.set i (some (.ref a))) j b → Owns Γ σ j b := fun j hj ⟨⟨s', e, w⟩, q⟩ => by
      rw [List.getElem?_set_ne hj] at e q
      exact ⟨⟨s', e, w⟩, q⟩
    have same : ∀ j, i = j → Owns (Γ.set i s) (σ.set i (some (.ref a))) j b → a = b := fun j hj ⟨_, q⟩ => by
      subst hj
      rw [List.getElem?_set_self (by rw [← x.len]; exact hi)] at q
      cases q
      rfl
    by_cases hj : i = j
    · by_cases hk : i = k
      · exact hjk (hj.symm.trans hk)
      · have e := same j hj h1
        subst e
        exact na k (key k hk h2)
    · by_cases hk : i = k
      · have e := same k hk h2
        subst e
        exact na j (key j hj h1)
      · exact x.ap j k b hjk (key j hj h1) (key k hk h2)
/-- what a name owns stands in the heap -/
theorem St.there (x : St p Γ H0 σ H) {i : Nat} {a : Addr} (h : Owns Γ σ i a) : ∃ o, H a = some o := by
  obtain ⟨⟨s, e, w⟩, q⟩ := h
  obtain ⟨o, eo, z⟩ := x.sl i s e
  rw [q] at eo
  cases eo
  cases s with
  | own ds =>
    obtain ⟨b, vs, eb, _, _, z, _⟩ := z
    cases eb
    exact ⟨_, z⟩
  | dk kvs =>
    obtain ⟨b, vs, eb, _, _, z, _⟩ := z
    cases eb
    exact ⟨_, z⟩
  | dt kvs =>
    obtain ⟨b, vs, eb, _, _, z, _⟩ := z
    cases eb
    exact ⟨_, z⟩
  | non => cases w
  | sh d => cases w
  | exc c => cases w
  | scr ns => cases w
theorem St.noOwn (x : St p Γ H0 σ H) {a : Addr} (h : H a = none) : ∀ j, ¬ Owns Γ σ j a := fun j q => by
  obtain ⟨o, e⟩ := x.there q
  rw [h] at e
  cases e
/-- the object that a name owns is changed -/
theorem St.store (x : St p Γ H0 σ H) {i : Nat} {a : Addr} {s : Sl} {u : HO} (ho : Owns Γ σ i a) (hs : s.owns = true) (he : p.He a = none) (h0 : H0 a = none)
    (h : SlOk p.K p.xa p.He H0 (upd H a u) s (some (.ref a))) : St p (Γ.set i s) H0 σ (upd H a u) where
  ent := same_out x.ent he
  sub := same_out x.sub h0
  new := x.new
  old := x.old
  len := by rw [List.length_set, x.len]
  sl := fun j s' e => by
    obtain ⟨⟨s0, e0, w0⟩, q0⟩ := id ho
    have hi : i < Γ.length := (List.getElem?_eq_some_iff.mp e0).1
    by_cases hj : i = j
    · subst hj
      rw [List.getElem?_set_self hi] at e
      cases e
      exact ⟨_, q0, h⟩
    · rw [List.getElem?_set_ne hj] at e
      obtain ⟨o, eo, z⟩ := x.sl j s' e
      refine ⟨o, eo, ?_⟩
      have ne : ∀ b, o = some (.ref b) → s'.owns = true → b ≠ a := fun b eb w hb => by
        subst hb
        subst eb
        exact x.ap i j b hj ho ⟨⟨s', e, w⟩, eo⟩
      cases s' with
      | non => trivial
      | sh d => exact z
      | own ds =>
        obtain ⟨b, vs, eb, n, n0, z, r⟩ := z
        exact ⟨b, vs, eb, n, n0, by rw [upd_ne (ne b eb rfl)]; exact z, r⟩
      | dk kvs =>
        obtain ⟨b, vs, eb, n, n0, z, r⟩ := z
        exact ⟨b, vs, eb, n, n0, by rw [upd_ne (ne b eb rfl)]; exact z, r⟩
      | dt kvs =>
        obtain ⟨b, vs, eb, n, n0, z, r⟩ := z
        exact ⟨b, vs, eb, n, n0, by rw [upd_ne (ne b eb rfl)]; exact z, r⟩
      | exc c => exact z
      | scr ns => trivial
  ap := fun j k b hjk h1 h2 => by
    have key : ∀ j, Owns (Γ.set i s) σ j b → Owns Γ σ j b := fun j ⟨⟨s', e, w⟩, q⟩ => by
      by_cases hj : i = j
      · subst hj
        obtain ⟨hh, q0⟩ := ho
        exact ⟨hh, q⟩
      · rw [List.getElem?_set_ne hj] at e
        exact ⟨⟨s', e, w⟩, q⟩
    exact x.ap j k b hjk (key j h1) (key k h2)
/-- an object that no name holds is changed -/
theorem St.away (x : St p Γ H0 σ H) {a : Addr} {u : HO} (h0 : H0 a = none) (he : p.He a = none) (no : ∀ j, ¬ Owns Γ σ j a) : St p Γ H0 σ (upd H a u) where
  ent := same_out x.ent he
  sub := same_out x.sub h0
  new := x.new
  old := x.old
  len := x.len
  sl := fun j s' e => by
    obtain ⟨o, eo, z⟩ := x.sl j s' e
    refine ⟨o, eo, ?_⟩
    have ne : ∀ b, o = some (.ref b) → s'.owns = true → b ≠ a := fun b eb w hb => by
      subst hb
      subst eb
      exact no j ⟨⟨s', e, w⟩, eo⟩
    cases s' with
    | non => trivial
    | sh d => exact z
    | own ds =>
      obtain ⟨b, vs, eb, n, n0, z, r⟩ := z
      exact ⟨b, vs, eb, n, n0, by rw [upd_ne (ne b eb rfl)]; exact z, r⟩
    | dk kvs =>
      obtain ⟨b, vs, eb, n, n0, z, r⟩ := z
      exact ⟨b, vs, eb, n, n0, by rw [upd_ne (ne b eb rfl)]; exact z, r⟩
    | dt kvs =>
      obtain ⟨b, vs, eb, n, n0, z, r⟩ := z
      exact ⟨b, vs, eb, n, n0, by rw [upd_ne (ne b eb rfl)]; exact z, r⟩
    | exc c => exact z
    | scr ns => trivial
  ap := x.ap
/-- an owned list becomes shared -/
theorem St.frz (x : St p Γ H0 σ H) {i : Nat} {ds : List D} (h : Γ[i]? = some (.own ds)) : ∃ H0', Same H0 H0' ∧ St p (Γ.set i (.sh (.list ds))) H0' σ H := by
  obtain ⟨o, eo, a, vs, rfl, he, h0, ha, r⟩ := x.sl i _ h
  have hi : i < Γ.length := (List.getElem?_eq_some_iff.mp h).1
  have ow : Owns Γ σ i a := ⟨⟨_, h, rfl⟩, eo⟩
  have s0 : Same H0 (upd H0 a (.lst vs)) := same_upd h0
  refine ⟨upd H0 a (.lst vs), s0, ⟨x.ent, fun b u e => ?_, x.new.trans s0, fun b u e => ?_, by rw [List.length_set, x.len], fun j s e => ?_, fun j k b hjk h1 h2 => ?_⟩⟩
  · by_cases hb : b = a
    · subst hb
      rw [upd_same] at e
      rw [ha]
      exact e
    · rw [upd_ne hb] at e
      exact x.sub b u e
  · rw [upd_ne (ne_of_none e he)]
    exact x.old b u e
  · by_cases hj : i = j
    · subst hj
      rw [List.getElem?_set_self hi] at e
      cases e
      exact ⟨_, eo, _, rfl, .lst (SqL.of upd_same) (r.mono s0)⟩
    · rw [List.getElem?_set_ne hj] at e
      obtain ⟨o, eo', z⟩ := x.sl j s e
      refine ⟨o, eo', ?_⟩
      have ne : ∀ b, o = some (.ref b) → s.owns = true → b ≠ a := fun b eb w hb => by
        subst hb
        subst eb
        exact x.ap i j b hj ow ⟨⟨s, e, w⟩, eo'⟩
      cases s with
      | non => trivial
      | sh d =>
        obtain ⟨v, ev, z⟩ := z
        exact ⟨v, ev, z.mono s0⟩
      | own ds =>
        obtain ⟨b, ws, eb, n, n0, z, r⟩ := z
        exact ⟨b, ws, eb, n, by rw [upd_ne (ne b eb rfl)]; exact n0, z, r.mono s0⟩
      | dk kvs =>
        obtain ⟨b, ws, eb, n, n0, z, r⟩ := z
        exact ⟨b, ws, eb, n, by rw [upd_ne (ne b eb rfl)]; exact n0, z, r.mono s0⟩
      | dt kvs =>
        obtain ⟨b, ws, eb, n, n0, z, r⟩ := z
        exact ⟨b, ws, eb, n, by rw [upd_ne (ne b eb rfl)]; exact n0, z, r.mono s0⟩
      | exc c => exact z
      | scr ns => trivial
  · have key : ∀ j, Owns (Γ.set i (.sh (.list ds))) σ j b → Owns Γ σ j b := fun j ⟨⟨s, e, w⟩, q⟩ => by
      by_cases hj : i = j
      · subst hj
        rw [List.getElem?_set_self hi] at e
        cases e
        cases w
      · rw [List.getElem?_set_ne hj] at e
        exact ⟨⟨s, e, w⟩, q⟩
    exact x.ap j k b hjk (key j h1) (key k h2)
end
end Dee

set_option maxRecDepth 100000
set_option maxHeartbeats 4000000
/-! Dee, part 2: operators on data. -/
namespace Dee
open PySem PySem.Spec PyProof.Rows L2

inductive Bin where | add | sub | mul | fdiv | mod | pow | band | shl
  deriving DecidableEq
inductive Cm where | eq | ne | lt | le | gt | ge | isn | notn | inn | nin
  deriving DecidableEq
def Bin.op : Bin → Operator
  | .add => .Add | .sub => .Sub | .mul => .Mult | .fdiv => .FloorDiv | .mod => .Mod | .pow => .Pow | .band => .BitAnd | .shl => .LShift
def Cm.op : Cm → CmpOp
  | .eq => .Eq | .ne => .NotEq | .lt => .Lt | .le => .LtE | .gt => .Gt | .ge => .GtE | .isn => .Is | .notn => .IsNot | .inn => .In | .nin => .NotIn

/-- nothing is told -/
abbrev unk {α : Type} : Except (Option Nat) α := .error none
def most : Nat := 1000000
def bits (i : Int) : Nat := Builtin.Int.intBits i
def mulOk (i j : Int) : Bool := decide (bits i + bits j ≤ 134217728)

def binD : Bin → D → D → R
  | .add, .int i, .int j => .ok (.int (i + j))
  | .add, .list xs, .list ys => if xs.length + ys.length ≤ most then .ok (.list (xs ++ ys)) else unk
  | .add, .str x, .str y => if x.length + y.length ≤ most then .ok (.str (x ++ y)) else unk
  | .sub, .int i, .int j => .ok (.int (i - j))
  | .mul, .int i, .int j => if mulOk i j then .ok (.int (i * j)) else unk
  | .mul, .list xs, .int k => if 0 ≤ k ∧ k ≤ 100000 ∧ xs.length * k.toNat ≤ most then .ok (.list (List.replicate k.toNat xs).flatten) else unk
  | .fdiv, .int i, .int j => if 0 < j then (if j.natAbs.log2 < 9000 then .ok (.int (i / j)) else unk) else if j < 0 ∧ j.natAbs.log2 < 9000 then .ok (.int (i.fdiv j)) else unk
  | .mod, .int i, .int j => if 0 < j then .ok (.int (i % j)) else if j < 0 then .ok (.int (i.fmod j)) else unk
  | .pow, .int i, .int j => if 0 ≤ j ∧ j ≤ 1000000 ∧ i.natAbs < 2 ^ 64 then .ok (.int (i ^ j.toNat)) else unk
  | .band, .int i, .int j => .ok (.int (Builtin.bitAnd i j))
  | .shl, .int i, .int j => if 0 ≤ j ∧ j ≤ 1000000 ∧ i.natAbs < 2 ^ 64 then .ok (.int (i * 2 ^ j.toNat)) else unk
  | _, _, _ => unk

def isNo : D → Bool
  | .none => true
  | _ => false
def eqD (d e : D) : Except (Option Nat) Bool := match d, e with
  | .int i, .int j => .ok (decide (i = j))
  | .str x, .str y => .ok (decide (x = y))
  | .bool x, .bool y => .ok (decide (x = y))
  | d, e => if SeqAt.shaped d = true ∧ SeqAt.shaped e = true then .ok (PyData.eqv d e) else unk
def intB (p : Int → Int → Bool) : D → D → Except (Option Nat) Bool
  | .int i, .int j => .ok (p i j)
  | _, _ => unk
def inB (d : D) : D → Except (Option Nat) Bool
  | .list ds => if SeqAt.shaped d = true ∧ SeqAt.shaped (.list ds) = true then .ok (ds.any fun z => PyData.eqv z d) else unk
  | _ => unk
def isB (d : D) : D → Except (Option Nat) Bool
  | .none => .ok (isNo d)
  | _ => unk
def cmpB : Cm → D → D → Except (Option Nat) Bool
  | .eq => eqD
  | .ne => fun d e => (eqD d e).map (!·)
  | .lt => intB fun i j => decide (i < j)
  | .le => intB fun i j => decide (i ≤ j)
  | .gt => intB fun i j => decide (j < i)
  | .ge => intB fun i j => decide (j ≤ i)
  | .isn => isB
  | .notn => fun d e => (isB d e).map (!·)
  | .inn => inB
  | .nin => fun d e => (inB d e).map (!·)
def cmpD (o : Cm) (d e : D) : R := (cmpB o d e).map .bool

/-- an operation on data -/
def rD (K : PySem.W.Frag) (g : D → D → R) : R2 := fun x y H Q => ∃ H0 d e z, Same H0 H ∧ Dp K H0 x d ∧ Dp K H0 y e ∧ g d e = .ok z ∧ ∀ v H0' H', Adv H0 H H0' H' → Dp K H0' v z → Q v H'

section
variable {X : Cx}
/-- the same value, no object made -/
theorem stay {K : PySem.W.Frag} {H0 H : Hp} {Q : VK} {z : D} {v : V} (s : Same H0 H) (q : ∀ v H0' H', Adv H0 H H0' H' → Dp K H0' v z → Q v H') (h : Dp K H0 v z) : Q v H := q v H0 H (Adv.refl s) h
/-- a new list -/
theorem laid {K : PySem.W.Frag} {H0 H : Hp} {Q : VK} {ds : List D} {vs : List V} {a : Addr} (s : Same H0 H) (q : ∀ v H0' H', Adv H0 H H0' H' → Dp K H0' v (.list ds) → Q v H') (n : H a = none) (h : DpAll K H0 vs ds) : Q (.ref a) (upd H a (.lst vs)) :=
  q _ _ _ (Adv.new s n) (.lst (SqL.of upd_same) (h.mono (same_upd (same_fresh s n))))


theorem cat_sq {pins : List (Addr × Obj)} {σ : L2.St} {H : Hp} {s : Shared} {a b : Addr} {xs ys : List V} {Q : VK} (I : Inv X pins σ H s) (ha : SqL X.K H a xs) (hb : SqL X.K H b ys) (hz : xs.length + ys.length ≤ sizeLine)
    (q : ∀ p, H p = none → Q (.ref p) (upd H p (.lst (xs ++ ys)))) : wpAny (model X.prog X.w) X.A (binaryOp .Add (.ref a) (.ref b)) (EP X pins σ Q) X.xe s := by
  obtain ⟨us, r1, ⟨⟨c1, d1, t1, l1⟩, n1, g1, k1, _, e1⟩, _⟩ := I.list ha
  obtain ⟨ws, r2, ⟨⟨c2, d2, t2, l2⟩, n2, g2, k2, _, e2⟩, _⟩ := I.list hb
  simp only at k1 e1 k2 e2
  subst k1 e1 k2 e2
  have z1 := r1.length
  have z2 := r2.length
  have ea : us.toArray ++ ws.toArray = (us ++ ws).toArray := by simp
  refine concat_meets ⟨_, g1, rfl⟩ ⟨_, g2, rfl⟩ noFill_list_add seq_list_add PySem.F.slot_list_add PySem.F.entry_list_add (PySem.F.args_list_add_2 _ _)
    (list_addW a b us.toArray ws.toArray n1 n2 d1 d2 l1 l2 (by rw [List.size_toArray, List.size_toArray]; omega)) ⟨g1, g2, ?_⟩
  rw [ea]
  exact ⟨V.ref _, _, I.lnew (t' := s.toks) (Vals.append r1 r2) (by rw [List.length_append]; omega), rfl, q _ I.fresh⟩
theorem rep_sq {pins : List (Addr × Obj)} {σ : L2.St} {H : Hp} {s : Shared} {a : Addr} {xs : List V} {k : Int} {u : Tok} {Q : VK} (I : Inv X pins σ H s) (ha : SqL X.K H a xs) (h0 : 0 ≤ k) (h1 : k ≤ 100000) (hz : xs.length * k.toNat ≤ most)
    (q : ∀ p, H p = none → Q (.ref p) (upd H p (.lst (List.replicate k.toNat xs).flatten))) : wpAny (model X.prog X.w) X.A (binaryOp .Mult (.ref a) (.int k u)) (EP X pins σ Q) X.xe s := by
  obtain ⟨us, r1, ⟨⟨c1, d1, t1, l1⟩, n1, g1, k1, _, e1⟩, _⟩ := I.list ha
  simp only at k1 e1
  subst k1 e1
  have z1 := r1.length
  have hsz : us.toArray.size * k.toNat ≤ 1000000 := by rw [List.size_toArray, ← z1]; exact hz
  have hs2 : us.length * k.toNat ≤ 1000000 := by rw [← z1]; exact hz
  refine wpAny_binaryOp_repeat_ref (T := "list") (U := "int") (by decide) ⟨_, g1, rfl⟩ (fun s' => typeIs_int s' k u) noFill_list_mul PySem.F.fills_int_mul PySem.F.slot_int_rmul repeat_list PySem.F.slot_int_index.lookup
    (call_meets PySem.F.slot_int_rmul (typeIs_int s k u) PySem.F.entry_int_rmul (PySem.F.args_int_rmul_2 _ _) (lm_int_rmul_list_any k u a us.toArray n1 d1 l1)
      ⟨g1, rfl, ⟨_, g1, rfl⟩, call_meets PySem.F.slot_list_mul ⟨_, g1, rfl⟩ PySem.F.entry_list_mul (PySem.F.args_list_mul_2 _ _)
        (lm_list_mul_any a us.toArray n1 d1 l1 k u (by simp [Builtin.List.listFitsIndex]; omega) (by omega) (by simp [Builtin.List.listTooLong, sizeLine]; omega)) ⟨g1, ?_⟩⟩)
  rw [listMul_foldl_if]
  refine ⟨V.ref _, _, I.lnew (t' := s.toks) (r1.rep k.toNat) ?_, rfl, q _ I.fresh⟩
  rw [lm_len_rep_flat, Nat.mul_comm]
  exact Nat.le_trans hz (by decide)
theorem most_line : most ≤ sizeLine := by decide

/-- an operator's rule on two ints, a new int -/
theorem of_int {f : Value → Value → Sem Value} {C : Int → Int → Prop} {g : Int → Int → V} (ho : OpR X f (rI C g)) {pins : List (Addr × Obj)} {s : Shared} {σ : L2.St} {H : Hp} {i j : Int} {v u : Value} {Q : VK} (I : Inv X pins σ H s)
    (r1 : RelV (.int i) v) (r2 : RelV (.int j) u) (c : C i j) (q : Q (g i j) H) : wpAny (model X.prog X.w) X.A (f v u) (EP X pins σ Q) X.xe s := ho pins s σ H _ _ v u Q I r1 r2 ⟨i, j, rfl, rfl, c, q⟩
theorem of_int0 {f : Value → Value → Sem Value} {g : Int → Int → V} (ho : OpR X f (rI0 g)) {pins : List (Addr × Obj)} {s : Shared} {σ : L2.St} {H : Hp} {i j : Int} {v u : Value} {Q : VK} (I : Inv X pins σ H s)
    (r1 : RelV (.int i) v) (r2 : RelV (.int j) u) (q : Q (g i j) H) : wpAny (model X.prog X.w) X.A (f v u) (EP X pins σ Q) X.xe s := ho pins s σ H _ _ v u Q I r1 r2 ⟨i, j, rfl, rfl, q⟩

/-- // by any divisor of less than 9000 bits -/
theorem op_fdivA : OpR X (binaryOp .FloorDiv) (rI (fun _ j => j ≠ 0 ∧ j.natAbs.log2 < 9000) fun i j => .int (i.fdiv j)) := opI fun _ _ _ _ _ _ _ hc q => floordiv_int hc.1 q (.inl (PyProof.noPylong_of_log2 hc.2))

theorem op_binD (o : Bin) : OpR X (binaryOp o.op) (rD X.K (binD o)) := by
  intro pins s σ H x y v u Q I rx ry h
  obtain ⟨H0, d, e, z, sub, hd, he, hz, q⟩ := h
  unfold binD at hz
  split at hz
  · cases hz; cases hd; cases he
    exact of_int0 op_add I rx ry (stay sub q (.int _))
  · split at hz
    · rename_i hl
      cases hz
      cases hd with
      | lst h1 h2 =>
        cases he with
        | lst h3 h4 =>
          cases rx; cases ry
          have l1 := h2.len
          have l2 := h4.len
          exact cat_sq I (sql_mono sub h1) (sql_mono sub h3) (by rw [l1, l2]; exact Nat.le_trans hl most_line) fun p hp => laid sub q hp (h2.app h4)
    · cases hz
  · split at hz
    · rename_i hl
      cases hz; cases hd; cases he
      exact op_add_str pins s σ H _ _ v u Q I rx ry ⟨_, _, rfl, rfl, Nat.le_trans hl most_line, stay sub q (.str _)⟩
    · cases hz
  · cases hz; cases hd; cases he
    exact of_int0 op_sub I rx ry (stay sub q (.int _))
  · split at hz
    · rename_i hl
      cases hz; cases hd; cases he
      refine of_int op_mulX I rx ry ?_ (stay sub q (.int _))
      have hl' := of_decide_eq_true hl
      unfold bits at hl'
      show (_ : Int) + _ ≤ _
      omega
    · cases hz
  · split at hz
    · rename_i hl
      cases hz
      cases he
      cases hd with
      | lst h1 h2 =>
        cases rx
        obtain ⟨t, rfl⟩ := ry
        have l1 := h2.len
        refine rep_sq I (sql_mono sub h1) hl.1 hl.2.1 (by rw [l1]; exact hl.2.2) fun p hp => laid sub q hp ?_
        generalize (Int.toNat _) = n
        induction n with
        | zero => exact .nil
        | succ n ih =>
          rw [List.replicate_succ, List.replicate_succ, List.flatten_cons, List.flatten_cons]
          exact h2.app ih
    · cases hz
  · split at hz
    · split at hz
      · rename_i h0 hl
        cases hz; cases hd; cases he
        exact of_int op_fdivW I rx ry ⟨h0, hl⟩ (stay sub q (.int _))
      · cases hz
    · split at hz
      · rename_i h0 hl
        cases hz; cases hd; cases he
        exact of_int op_fdivA I rx ry ⟨by omega, hl.2⟩ (stay sub q (.int _))
      · cases hz
  · split at hz
    · rename_i h0
      cases hz; cases hd; cases he
      exact of_int op_mod I rx ry h0 (stay sub q (.int _))
    · split at hz
      · rename_i h0 h1
        cases hz; cases hd; cases he
        exact of_int op_modN I rx ry (by omega) (stay sub q (.int _))
      · cases hz
  · split at hz
    · rename_i hl
      cases hz; cases hd; cases he
      exact of_int op_pow I rx ry hl (stay sub q (.int _))
    · cases hz
  · cases hz; cases hd; cases he
    exact of_int0 op_and I rx ry (stay sub q (.int _))
  · split at hz
    · rename_i hl
      cases hz; cases hd; cases he
      exact of_int op_shl I rx ry hl (stay sub q (.int _))
    · cases hz
  · cases hz

theorem isNo_of {K : PySem.W.Frag} {H : Hp} {x : V} {d : D} (h : Dp K H x d) : decide (x = .non) = isNo d := by
  cases h <;> rfl

theorem map_ok {α β : Type} {x : Except (Option Nat) α} {g : α → β} {z : β} (h : x.map g = .ok z) : ∃ y, x = .ok y ∧ g y = z := by
  cases x with
  | error e => cases h
  | ok y => exact ⟨y, rfl, by cases h; rfl⟩
theorem eqD_ok {d e : D} {b : Bool} (h : eqD d e = .ok b) : (∃ i j, d = .int i ∧ e = .int j ∧ b = decide (i = j)) ∨ (∃ i j, d = .str i ∧ e = .str j ∧ b = decide (i = j)) ∨ (∃ i j, d = .bool i ∧ e = .bool j ∧ b = decide (i = j)) ∨
    (SeqAt.shaped d = true ∧ SeqAt.shaped e = true ∧ b = PyData.eqv d e) := by
  unfold eqD at h
  split at h
  · cases h; exact .inl ⟨_, _, rfl, rfl, rfl⟩
  · cases h; exact .inr (.inl ⟨_, _, rfl, rfl, rfl⟩)
  · cases h; exact .inr (.inr (.inl ⟨_, _, rfl, rfl, rfl⟩))
  · split at h
    · rename_i hs
      cases h
      exact .inr (.inr (.inr ⟨hs.1, hs.2, rfl⟩))
    · cases h
theorem op_eqB (hu : X.A.units + 64 < cLine) : OpR X (compareOp .Eq) (rD X.K (cmpD .eq)) := by
  intro pins s σ H x y v u Q I rx ry h
  obtain ⟨H0, d, e, z, sub, hd, he, hz, q⟩ := h
  obtain ⟨b, hb, rfl⟩ := map_ok hz
  rcases eqD_ok hb with ⟨i, j, rfl, rfl, rfl⟩ | ⟨i, j, rfl, rfl, rfl⟩ | ⟨i, j, rfl, rfl, rfl⟩ | ⟨h1, h2, rfl⟩
  · cases hd; cases he
    refine op_eq pins s σ H _ _ v u Q I rx ry ⟨rfl, stay sub q ?_⟩
    rw [dec_int, Bool.beq_eq_decide_eq]
    exact .bl _
  · cases hd; cases he
    refine op_eq pins s σ H _ _ v u Q I rx ry ⟨rfl, stay sub q ?_⟩
    rw [dec_str, Bool.beq_eq_decide_eq]
    exact .bl _
  · cases hd; cases he
    refine op_eq pins s σ H _ _ v u Q I rx ry ⟨rfl, stay sub q ?_⟩
    rw [dec_bl, Bool.beq_eq_decide_eq]
    exact .bl _
  · exact op_eqD hu pins s σ H x y v u Q I rx ry ⟨_, _, hd.mono sub, he.mono sub, h1, h2, stay sub q (.bl _)⟩
theorem op_neB (hu : X.A.units + 64 < cLine) : OpR X (compareOp .NotEq) (rD X.K (cmpD .ne)) := by
  intro pins s σ H x y v u Q I rx ry h
  obtain ⟨H0, d, e, z, sub, hd, he, hz, q⟩ := h
  obtain ⟨c, hc, rfl⟩ := map_ok hz
  obtain ⟨b, hb, rfl⟩ := map_ok (show (eqD d e).map (!·) = .ok c from hc)
  rcases eqD_ok hb with ⟨i, j, rfl, rfl, rfl⟩ | ⟨i, j, rfl, rfl, rfl⟩ | ⟨i, j, rfl, rfl, rfl⟩ | ⟨h1, h2, rfl⟩
  · cases hd; cases he
    refine op_ne pins s σ H _ _ v u Q I rx ry ⟨rfl, stay sub q ?_⟩
    rw [dec_int, Bool.beq_eq_decide_eq]
    exact .bl _
  · cases hd; cases he
    refine op_ne pins s σ H _ _ v u Q I rx ry ⟨rfl, stay sub q ?_⟩
    rw [dec_str, Bool.beq_eq_decide_eq]
    exact .bl _
  · cases hd; cases he
    refine op_ne pins s σ H _ _ v u Q I rx ry ⟨rfl, stay sub q ?_⟩
    rw [dec_bl, Bool.beq_eq_decide_eq]
    exact .bl _
  · exact op_neD hu pins s σ H x y v u Q I rx ry ⟨_, _, hd.mono sub, he.mono sub, h1, h2, stay sub q (.bl _)⟩
theorem intB_ok {p : Int → Int → Bool} {d e : D} {b : Bool} (h : intB p d e = .ok b) : ∃ i j, d = .int i ∧ e = .int j ∧ b = p i j := by
  unfold intB at h
  split at h
  · cases h; exact ⟨_, _, rfl, rfl, rfl⟩
  · cases h
theorem op_intB {op : CmpOp} {p : Int → Int → Bool} {g : D → D → R} (hg : ∀ d e, g d e = (intB p d e).map .bool) (ho : OpR X (compareOp op) (rI0 fun i j => .bl (p i j))) : OpR X (compareOp op) (rD X.K g) := by
  intro pins s σ H x y v u Q I rx ry h
  obtain ⟨H0, d, e, z, sub, hd, he, hz, q⟩ := h
  rw [hg] at hz
  obtain ⟨b, hb, rfl⟩ := map_ok hz
  obtain ⟨i, j, rfl, rfl, rfl⟩ := intB_ok hb
  cases hd; cases he
  exact of_int0 ho I rx ry (stay sub q (.bl _))
theorem op_cmpD (hu : X.A.units + 65 < cLine) (o : Cm) : OpR X (compareOp o.op) (rD X.K (cmpD o)) := by
  cases o with
  | eq => exact op_eqB (by omega)
  | ne => exact op_neB (by omega)
  | lt => exact op_intB (fun _ _ => rfl) op_lt
  | le => exact op_intB (fun _ _ => rfl) op_le
  | gt => exact op_intB (fun _ _ => rfl) op_gt
  | ge => exact op_intB (fun _ _ => rfl) op_ge
  | isn =>
    intro pins s σ H x y v u Q I rx ry h
    obtain ⟨H0, d, e, z, sub, hd, he, hz, q⟩ := h
    obtain ⟨b, hb, rfl⟩ := map_ok hz
    have hb : isB d e = .ok b := hb
    cases e <;> try (cases hb; done)
    cases hb; cases he
    refine op_isN pins s σ H _ _ v u Q I rx ry ⟨rfl, ?_⟩
    rw [isNo_of hd]
    exact stay sub q (.bl _)
  | notn =>
    intro pins s σ H x y v u Q I rx ry h
    obtain ⟨H0, d, e, z, sub, hd, he, hz, q⟩ := h
    obtain ⟨c, hc, rfl⟩ := map_ok hz
    obtain ⟨b, hb, rfl⟩ := map_ok (show (isB d e).map (!·) = .ok c from hc)
    cases e <;> try (cases hb; done)
    cases hb; cases he
    refine op_notN pins s σ H _ _ v u Q I rx ry ⟨rfl, ?_⟩
    rw [isNo_of hd]
    exact stay sub q (.bl _)
  | inn =>
    intro pins s σ H x y v u Q I rx ry h
    obtain ⟨H0, d, e, z, sub, hd, he, hz, q⟩ := h
    obtain ⟨b, hb, rfl⟩ := map_ok hz
    have hb : inB d e = .ok b := hb
    unfold inB at hb
    split at hb
    · split at hb
      · rename_i hs
        cases hb
        exact op_inD hu pins s σ H x y v u Q I rx ry ⟨_, _, hd.mono sub, he.mono sub, hs.1, hs.2, stay sub q (.bl _)⟩
      · cases hb
    · cases hb
  | nin =>
    intro pins s σ H x y v u Q I rx ry h
    obtain ⟨H0, d, e, z, sub, hd, he, hz, q⟩ := h
    obtain ⟨c, hc, rfl⟩ := map_ok hz
    obtain ⟨b, hb, rfl⟩ := map_ok (show (inB d e).map (!·) = .ok c from hc)
    unfold inB at hb
    split at hb
    · split at hb
      · rename_i hs
        cases hb
        exact op_notInD hu pins s σ H x y v u Q I rx ry ⟨_, _, hd.mono sub, he.mono sub, hs.1, hs.2, stay sub q (.bl _)⟩
      · cases hb
    · cases hb
end
end Dee

set_option maxRecDepth 100000
set_option maxHeartbeats 4000000
/-! Dee, part 2b: list(reversed(a list)). -/
namespace Dee
open PySem PySem.Spec PyProof.Rows L2 RT
section
variable {prog : Program} {w : World} {A : Around} {E : Value → Shared → Prop} {s : Shared}
theorem fill_rev {R : PySem.Result → Shared → Prop} {it l S : Addr} {items : Array Value} {c₀ : Nat} (hh : A.handled = none) (hit : s.heap.IsRevIter it l ((items.size : Int) - 1)) (hl : s.heap.IsList l items) (hne : l ≠ it) (hSi : S ≠ it) (hSl : S ≠ l) (hn : items.size ≤ sizeLine)
    (hS₁ : s.heap.get? S = some { cls := .type "list", data := .seq #[] c₀ })
    (hR : ∀ (h' : Heap) (tk : Nat) (acc : Array Value) (c' : Nat), (∀ b o, b ≠ it → b ≠ S → s.heap.get? b = some o → h'.get? b = some o) → h'.get? S = some { cls := .type "list", dict := none, data := .seq acc c', slots := #[] } → ItemsOf (fun i v => items[items.size - 1 - i]? = some v) acc items.size → R (.ok (.ret .none)) { s with heap := h', toks := tk }) :
    wpAny (model prog w) A.in1 (Builtin.List.listExtendWith (.ref S) (.ref it) .none) (fun fin s' => match fin with | .done f => R (.ok f) s' | .again c' => c'.quiet = true ∧ codeAny (model prog w) A c' R s') (fun e s' => R (.error e) s') s := by
  have W := (Walks.listRev (prog := prog) (w := w) (A := A.in1) hh it l hne items).toS
  have hSf : S ∉ [it, l] := by simp only [List.mem_cons, List.not_mem_nil, or_false, not_or]; exact ⟨hSi, hSl⟩
  have hT : s.TypeIs (.ref it) "list_reverseiterator" := Heap.IsRevIter.typeIs (s := s) hit
  have h1 : Builtin.List.listSameRef (.ref S) (.ref it) = false := by simp [Builtin.List.listSameRef, hSi]
  unfold Builtin.List.listExtendWith
  refine wpAny_bind (wpAny_typeOf hT ?_)
  rw [if_neg (by rw [h1]; decide)]
  refine wpAny_bind (wpAny_pyIter_revIter (s := s) hit ?_)
  refine wpAny_bind (wpAny_holding ?_)
  unfold Builtin.List.listLengthHint
  refine wpAny_bind (wpAny_specialOf hT nolen_lri ?_)
  show wpAny _ A.in1 (specialOf (Value.ref it) (Str.ofString "__length_hint__") >>= _) _ _ _
  refine wpAny_bind (wpAny_specialOf hT hint_lri ?_)
  generalize hid : ("list_reverseiterator.__length_hint__" : String) = id0
  wp_delta
  rw [show splitId id0 = some ("list_reverseiterator", "__length_hint__") from by subst hid; decide +kernel]
  subst hid
  refine wpAny_bind (wpAny_isInstance (b := true) hT (by rw [isSubtype_type]; kernel_rfl) ?_)
  refine wpAny_pure ?_
  rw [if_neg (by decide)]
  have e0 : ((items.size : Nat) : Int) - 1 - ((0 : Nat) : Int) = (items.size : Int) - 1 := by omega
  refine wpAny_pure ⟨plainId_quiet F.plain_extend_loop _, codeAny_extend_loopS W hn _ hSf _ items.size 0 _ _ _ rfl (Nat.zero_le _) ⟨Nat.zero_le _, by rw [e0]; exact hit, hl⟩ hS₁ (ItemsOf.nil _) fun s' acc' c' hm hS' hacc => ?_⟩
  rw [Moved.eq_with hm]
  refine hR s'.heap s'.toks acc' c' (fun b o hb hb2 e => hm.heap b o (fun hmem => ?_) e) hS' hacc
  rcases List.mem_cons.mp hmem with e' | hmem
  · exact hb2 e'
  · exact hb (List.mem_singleton.mp hmem)
theorem init_rev {R : PySem.Result → Shared → Prop} {it l S : Addr} {items : Array Value} (hh : A.handled = none) (hit : s.heap.IsRevIter it l ((items.size : Int) - 1)) (hl : s.heap.IsList l items) (hne : l ≠ it) (hSi : S ≠ it) (hSl : S ≠ l) (hn : items.size ≤ sizeLine)
    (hS : s.heap.get? S = some { cls := .type "list", data := .seq #[] })
    (hR : ∀ (h' : Heap) (tk : Nat) (acc : Array Value) (c' : Nat), (∀ b o, b ≠ it → b ≠ S → s.heap.get? b = some o → h'.get? b = some o) → h'.get? S = some { cls := .type "list", dict := none, data := .seq acc c', slots := #[] } → ItemsOf (fun i v => items[items.size - 1 - i]? = some v) acc items.size → R (.ok (.ret .none)) { s with heap := h', toks := tk }) :
    wpAny (model prog w) A.in1 (Builtin.«list.__init__» ⟨[.ref S, .ref it], []⟩)
      (fun fin s' => match fin with | .done f => R (.ok f) s' | .again c' => c'.quiet = true ∧ codeAny (model prog w) A c' R s') (fun e s' => R (.error e) s') s := by
  show wpAny _ _ (do let old ← Builtin.List.listItems (.ref S); Builtin.List.listUpdate (.ref S) (fun _ => #[]); letGo old.toList.reverse; Builtin.List.listExtendWith (.ref S) (.ref it) .none) _ _ s
  refine wpAny_bind ?_
  unfold Builtin.List.listItems
  refine wpAny_bind (wpAny_seqItems hS rfl (wpAny_pure ?_))
  show wpAny _ _ (updateSeq S (fun _ => #[]) >>= fun _ => letGo (#[] : Array Value).toList.reverse >>= fun _ => Builtin.List.listExtendWith (.ref S) (.ref it) .none) _ _ s
  refine wpAny_bind (wpAny_updateSeq hS rfl ?_)
  have hS₂ := Heap.get?_update_self (Obj.mapSeq (fun _ => (#[] : Array Value))) hS rfl
  have oth : ∀ b o, b ≠ S → s.heap.get? b = some o → (s.heap.update S (Obj.mapSeq (fun _ => (#[] : Array Value)))).get? b = some o :=
    fun b o hb e => (Heap.get?_update_other _ _ (Ne.symm hb)).trans e
  refine wpAny_bind (wpAny_letGo ?_)
  obtain ⟨oi, hoi, ri⟩ := id hit
  refine fill_rev hh (hit.at fun o e => oth it o (Ne.symm hSi) e) ?_ hne hSi hSl hn hS₂ fun h' tk acc c' hk hS' hacc => hR h' tk acc c' (fun b o hb hb2 e => hk b o hb hb2 (oth b o hb2 e)) hS' hacc
  obtain ⟨ol, hol, r1, r2⟩ := id hl
  exact ⟨ol, oth l ol (Ne.symm hSl) hol, r1, r2⟩
theorem call_list_rev {it l : Addr} {items : Array Value} {Q : Value → Shared → Prop} (hh : A.handled = none) (hit : s.heap.IsRevIter it l ((items.size : Int) - 1)) (hl : s.heap.IsList l items) (hne : l ≠ it) (hn : items.size ≤ sizeLine)
    (hQ : ∀ (h' : Heap) (tk : Nat) (acc : Array Value) (c' : Nat), (∀ b o, b ≠ it → s.heap.get? b = some o → h'.get? b = some o) → h'.get? s.heap.objs.size = some { cls := .type "list", dict := none, data := .seq acc c', slots := #[] } → ItemsOf (fun i v => items[items.size - 1 - i]? = some v) acc items.size →
      Q (.ref s.heap.objs.size) { s with heap := h', toks := tk }) :
    wpAny (model prog w) A (call (.type "list") [.ref it]) Q E s := by
  refine callType_codes (Q₁ := fun obj s₁ => obj = .ref s.heap.objs.size ∧ s₁ = { s with heap := s.heap.push { cls := .type "list", data := .seq #[] } }) F.called_list (F.typeCall_list_1 _) F.entry_list_init
    (code_list_new _ ⟨rfl, rfl⟩) fun obj s₁ h₁ => ?_
  obtain ⟨rfl, rfl⟩ := h₁
  obtain ⟨oi, hoi, _⟩ := id hit
  obtain ⟨ol, hol, _⟩ := id hl
  have hSi : s.heap.objs.size ≠ it := Nat.ne_of_gt (Heap.lt_size hoi)
  have hSl : s.heap.objs.size ≠ l := Nat.ne_of_gt (Heap.lt_size hol)
  have hS : (s.heap.push { cls := .type "list", data := .seq #[] }).get? s.heap.objs.size = some { cls := .type "list", data := .seq #[] } := Heap.get?_push_size _ rfl
  refine ⟨⟨_, hS, rfl⟩, F.args_list_init_2 _ _, init_rev (A := A.in1) hh (hit.at fun o e => Heap.get?_push_of_some _ e) (hl.push _) hne hSi hSl hn hS fun h' tk acc c' hk hS' hacc => ?_⟩
  exact ⟨rfl, hQ h' tk acc c' (fun b o hb e => hk b o hb (Nat.ne_of_lt (Heap.lt_size e)) (Heap.get?_push_of_some _ e)) hS' hacc⟩
end
/-- a new list, the items of a list from its end -/
def tListRev (K : PySem.W.Frag) (te : TE) : TE := fun σ H Q => te σ H fun v H1 => ∃ (a : Addr) (xs : List V), v = .ref a ∧ SqL K H1 a xs ∧ ∀ q, H1 q = none → Q (.ref q) (upd H1 q (.lst xs.reverse))
theorem boot_listn : bootBuiltins "list" = some (.type "list") := by decide +kernel
section
variable {X : Cx}
theorem pe_listRev {e : Expr} {te : TE} {p p2 pos pos2 : Pos} (hc : X.calm = true) (hg : Gl X "list") (hm : X.mg "list" = none) (hg2 : Gl X "reversed") (hm2 : X.mg "reversed" = none) (he : PE X e te) (hs : starEach [e] X.env = (false, eval e X.env) :: starEach [] X.env) :
    PE X (.Call (.Name "list" p) [.Call (.Name "reversed" p2) [e] [] pos2] [] pos) (tListRev X.K te) := by
  have hs2 : starEach [.Call (.Name "reversed" p2) [e] [] pos2] X.env = (false, eval (.Call (.Name "reversed" p2) [e] [] pos2) X.env) :: starEach [] X.env := rfl
  refine ⟨fun pins s σ H Q I h => ?_⟩
  refine Call_ (ld_blt I hg hm boot_listn (PyProof.Rows.callWith_type1 (args_cons (Call_ (ld_blt I hg2 hm2 PyProof.Rows.boot_reversed (PyProof.Rows.callWith_type1 (args_cons (thn (he.run pins s σ H _ I h) fun u s1 ⟨v, H1, I1, r1, q1⟩ => args_nil ?_) hs) hs rfl))) hs2) hs2 rfl))
  obtain ⟨a, xs, ev, hq, q⟩ := q1
  subst ev
  obtain rfl : u = Value.ref a := r1
  obtain ⟨its, rv, p', hz⟩ := I1.list hq
  refine call_reversed_list p'.isList (args_nil ?_)
  have hl := p'.isList
  obtain ⟨ol, hol, _⟩ := id hl
  have hne : a ≠ s1.heap.objs.size := Nat.ne_of_lt (Heap.lt_size hol)
  have hn : its.toArray.size ≤ sizeLine := by rw [List.size_toArray, ← rv.length]; exact hz
  refine call_list_rev (s := { s1 with heap := s1.heap.push (revObj a ((its.toArray.size : Int) - 1)) }) (I1.ok.hd hc) ⟨_, Heap.get?_push_size _ rfl, rfl, rfl⟩ (hl.push _) hne hn fun h' tk acc c' hk hS hi => ?_
  have up : s1.heap.objs.size ≤ (s1.heap.push (revObj a ((its.toArray.size : Int) - 1))).objs.size := by
    unfold Heap.push
    simp
  have hk1 : ∀ b o, s1.heap.get? b = some o → h'.get? b = some o := fun b o e => hk b o (Nat.ne_of_lt (Heap.lt_size e)) (Heap.get?_push_of_some _ e)
  refine ⟨.ref _, _, I1.laid (t' := tk) hk1 up (show ObjOk X.prog X.w _ _ _ (.lst xs.reverse) from ⟨by rw [List.length_reverse]; exact hz, acc.toList, c', vals_rev rv hi, ?_⟩), rfl, q _ (I1.hok.fresh up)⟩
  rw [Array.toArray_toList]
  exact hS
end
/-! ### a, b = a list -/
section
variable {prog : Program} {w : World} {A : Around} {E : Value → Shared → Prop} {s : Shared}
theorem isl_ext {h h' : Heap} {l it : Addr} {items : Array Value} (x : h.IsList l items) (e : ∀ b o, b ≠ it → h.get? b = some o → h'.get? b = some o) (hne : l ≠ it) : h'.IsList l items := by
  obtain ⟨o, ho, r⟩ := x
  exact ⟨o, e _ _ hne ho, r⟩
theorem draw_list {it l : Addr} {items : Array Value} (hne : l ≠ it) : ∀ (n i : Nat) (s : Shared) (Q : List Value → Shared → Prop), s.heap.IsListIter it l i → s.heap.IsList l items → i + n ≤ items.size →
    (∀ h', Heap.IsListIter h' it l (i + n) → Heap.SameBut it s.heap h' → Q ((items.toList.drop i).take n) { s with heap := h' }) → wpAny (model prog w) A (draw (.ref it) n) Q E s
  | 0, i, s, Q, hit, _, _, hQ => by
    show wpAny _ _ (pure []) Q E s
    exact wpAny_pure (by simpa using hQ s.heap hit (Heap.SameBut.refl ..))
  | n + 1, i, s, Q, hit, ht, hle, hQ => by
    have hlt : i < items.size := by omega
    show wpAny _ _ (pyNext (.ref it) >>= _) Q E s
    refine wpAny_bind (wpAny_pyNext_list_item hit ht (x := items[i]) (by simp [hlt]) fun h₁ hit₁ hs₁ => ?_)
    refine wpAny_bind (wpAny_holding (draw_list hne n (i + 1) _ _ hit₁ (isl_ext ht hs₁.extBut hne) (by omega) fun h₂ hit₂ hs₂ => wpAny_pure ?_))
    have hd : items.toList.drop i = items[i] :: items.toList.drop (i + 1) := by simp [List.drop_eq_getElem_cons, hlt]
    have := hQ h₂ (by rw [show i + (n + 1) = i + 1 + n by omega]; exact hit₂) (hs₁.trans hs₂)
    rw [hd, List.take_succ_cons] at this
    exact this
theorem unpackItems_list {t : Addr} {items : Array Value} {Q : List Value → Shared → Prop} (hh : A.handled = none) (ht : s.heap.IsList t items)
    (hQ : ∀ h', Heap.ExtBut s.heap.objs.size s.heap h' → Q items.toList { s with heap := h' }) : wpAny (model prog w) A (unpackItems (.ref t) items.size none) Q E s := by
  have hlt : t ≠ s.heap.objs.size := by obtain ⟨o, ho, _⟩ := ht; exact Nat.ne_of_lt (Heap.lt_size ho)
  unfold unpackItems
  refine wpAny_bind ?_
  · unfold notIterableAtAll
    refine wpAny_bind (wpAny_specialOf ht.typeIs slot_list_iter.lookup ?_)
    refine wpAny_pure ?_
    simp only [Bool.false_eq_true, if_false]
    refine wpAny_bind (wpAny_holding (wpAny_pyIter_list ht ?_))
    refine wpAny_bind (wpAny_holding (draw_list hlt items.size 0 _ _ ⟨_, Heap.get?_push_size _ rfl, rfl, rfl⟩ (ht.push _) (by omega) fun h₁ hit₁ hs₁ => ?_))
    have hall : List.take items.size (List.drop 0 items.toList) = items.toList := by
      rw [List.drop_zero]; exact List.take_of_length_le (by simp)
    rw [hall]
    rw [if_neg (by simp)]
    have ht₁ : Heap.IsList h₁ t items := isl_ext (ht.push _) hs₁.extBut hlt
    refine wpAny_bind (wpAny_holding (wpAny_pyNext_list_end hh hit₁ ht₁ (by simp) fun h₂ he₂ => ?_))
    simp only [Option.isSome_none, Bool.false_eq_true, if_false]
    refine wpAny_pure (hQ h₂ fun b o hb e => he₂ b o hb (hs₁.extBut b o hb (Heap.get?_push_of_some _ e)))
theorem unpack_list {t : Addr} {items : Array Value} {targets : List (Bool × (Value → Sem Unit))} {Q : Unit → Shared → Prop} (hh : A.handled = none) (ht : s.heap.IsList t items)
    (hn : targets.length = items.size) (hstar : targets.findIdx? (·.1) = none)
    (h : ∀ h', Heap.ExtBut s.heap.objs.size s.heap h' → wpAny (model prog w) A (assignInOrder (targets.map (·.2)) items.toList) Q E { s with heap := h' }) :
    wpAny (model prog w) A (unpack (.ref t) targets) Q E s := by
  unfold unpack
  rw [hn, hstar]
  exact wpAny_bind (wpAny_holding (unpackItems_list hh ht h))
theorem assign_Tuple_list {env : Env} {elts : List Expr} {x1} {pos : Pos} {t : Addr} {items : Array Value} {Q : Unit → Shared → Prop} (hh : A.handled = none) (ht : s.heap.IsList t items)
    (hn : (assignEach elts env).length = items.size) (hstar : (assignEach elts env).findIdx? (·.1) = none)
    (h : ∀ h', Heap.ExtBut s.heap.objs.size s.heap h' → wpAny (model prog w) A (assignInOrder ((assignEach elts env).map (·.2)) items.toList) Q E { s with heap := h' }) :
    wpAny (model prog w) A (assign (.Tuple elts x1 pos) env (.ref t)) Q E s := by
  rw [assign_Tuple]
  exact wpAny_bind (wpAny_standAt (unpack_list hh ht hn hstar h))
end
section
variable {X : Cx}
/-- (a, b, ..) = a tuple or a list of that length -/
def gTupA (K : PySem.W.Frag) (n : Nat) (t : TGs) : TG := fun v σ H Q => ∃ a xs, v = .ref a ∧ (SqT K H a xs ∨ SqL K H a xs) ∧ xs.length = n ∧ t xs σ H Q
theorem pg_tupA {es : List Expr} {k : Nat} {t : TGs} {n : Nat} {pos : Pos} (hc : X.calm = true) (h : PGs X es t)
    (hn : (assignEach es X.env).length = n) (hst : (assignEach es X.env).findIdx? (·.1) = none) : PG X (.Tuple es k pos) (gTupA X.K n t) := by
  refine ⟨fun pins s σ H v u Q I r hw => ?_⟩
  obtain ⟨a, xs, e1, hq, hl, hw⟩ := hw
  rcases hq with hq | hq
  · exact (pg_tup hc h hn hst).run pins s σ H v u Q I r ⟨a, xs, e1, hq, hl, hw⟩
  · subst e1
    cases r
    obtain ⟨its, rv, ht, hz⟩ := I.list hq
    refine assign_Tuple_list (I.ok.hd hc) ht.isList (by simp [hn, ← hl, rv.length]) hst fun h' hx => ?_
    have I1 : Inv X pins σ H { s with heap := h' } := I.kept (t' := s.toks) fun b o e => hx b o (Nat.ne_of_lt (Heap.lt_size e)) e
    exact h.run pins _ σ H xs _ Q I1 (by simpa using rv) hw
end
end Dee

set_option maxRecDepth 100000
set_option maxHeartbeats 4000000
/-! Dee, part 3: what expressions promise; calls of the text's own functions. -/
namespace Dee
open PySem PySem.Spec PyProof.Rows L2

theorem _root_.L2.PE.imp {X : Cx} {e : Expr} {t t' : TE} (h : PE X e t) (i : ∀ σ H Q, t' σ H Q → t σ H Q) : PE X e t' := ⟨fun pins s σ H Q I q => h.run pins s σ H Q I (i σ H Q q)⟩
theorem _root_.L2.PT.imp {X : Cx} {e : Expr} {t t' : TT} (h : PT X e t) (i : ∀ σ H Q, t' σ H Q → t σ H Q) : PT X e t' := ⟨fun pins s σ H Q I q => h.run pins s σ H Q I (i σ H Q q)⟩
theorem _root_.L2.PW.imp {X : Cx} {e : Expr} {t t' : TT} (h : PW X e t) (i : ∀ σ H Q, t' σ H Q → t σ H Q) : PW X e t' := ⟨fun wh pins s σ H Q I q => h.run wh pins s σ H Q I (i σ H Q q)⟩
theorem _root_.L2.PA.imp {X : Cx} {es : List Expr} {t t' : TA} (h : PA X es t) (i : ∀ σ H Q, t' σ H Q → t σ H Q) : PA X es t' := ⟨fun pos pins s σ H Q I q => h.run pos pins s σ H Q I (i σ H Q q)⟩
theorem _root_.L2.PS.imp {X : Cx} {e : Stmt} {t t' : TS} (h : PS X e t) (i : ∀ D σ H, t' D σ H → t D σ H) : PS X e t' := ⟨fun pins s σ H D I q => h.run pins s σ H D I (i D σ H q)⟩
theorem _root_.L2.PSs.imp {X : Cx} {e : List Stmt} {t t' : TS} (h : PSs X e t) (i : ∀ D σ H, t' D σ H → t D σ H) : PSs X e t' := ⟨fun pins s σ H D I q => h.run pins s σ H D I (i D σ H q)⟩
theorem _root_.L2.PI.imp {X : Cx} {tg e : Expr} {t t' : TI} (h : PI X tg e t) (i : ∀ σ H R, t' σ H R → t σ H R) : PI X tg e t' := ⟨fun pins s σ H R I q => h.run pins s σ H R I (i σ H R q)⟩
theorem _root_.L2.PG.imp {X : Cx} {tg : Expr} {t t' : TG} (h : PG X tg t) (i : ∀ v σ H Q, t' v σ H Q → t v σ H Q) : PG X tg t' := ⟨fun pins s σ H v u Q I r q => h.run pins s σ H v u Q I r (i v σ H Q q)⟩
theorem _root_.L2.PSs.any {X : Cx} {e : List Stmt} {α : Type} {t : α → TS} (h : ∀ a, PSs X e (t a)) : PSs X e (fun D σ H => ∃ a, t a D σ H) := ⟨fun pins s σ H D I ⟨a, q⟩ => (h a).run pins s σ H D I q⟩
theorem _root_.L2.PE.any {X : Cx} {e : Expr} {α : Type} {t : α → TE} (h : ∀ a, PE X e (t a)) : PE X e (fun σ H Q => ∃ a, t a σ H Q) := ⟨fun pins s σ H Q I ⟨a, q⟩ => (h a).run pins s σ H Q I q⟩
theorem _root_.L2.PT.any {X : Cx} {e : Expr} {α : Type} {t : α → TT} (h : ∀ a, PT X e (t a)) : PT X e (fun σ H Q => ∃ a, t a σ H Q) := ⟨fun pins s σ H Q I ⟨a, q⟩ => (h a).run pins s σ H Q I q⟩
theorem _root_.L2.PTs.any {X : Cx} {es : List Expr} {α : Type} {t : α → TT} (h : ∀ a, PTs X es (t a)) : PTs X es (fun σ H Q => ∃ a, t a σ H Q) := ⟨fun pins s σ H Q I ⟨a, q⟩ => (h a).run pins s σ H Q I q⟩
theorem _root_.L2.PTs.imp {X : Cx} {es : List Expr} {t t' : TT} (h : PTs X es t) (i : ∀ σ H Q, t' σ H Q → t σ H Q) : PTs X es t' := ⟨fun pins s σ H Q I q => h.run pins s σ H Q I (i σ H Q q)⟩
theorem _root_.L2.PI.any {X : Cx} {tg e : Expr} {α : Type} {t : α → TI} (h : ∀ a, PI X tg e (t a)) : PI X tg e (fun σ H R => ∃ a, t a σ H R) := ⟨fun pins s σ H R I ⟨a, q⟩ => (h a).run pins s σ H R I q⟩

/-! ### the readings -/
section
variable (f : Fm) (W : WX) (Γ : List Sl)
def Va (r : R) (H0 : Hp) (σ : L2.St) (H : Hp) (Q : VK) : Prop := St f Γ H0 σ H ∧ match r with
  | .ok d => ∀ v H0' H', Adv H0 H H0' H' → Dp f.K H0' v d → Q v H'
  | .error (some c) => ∀ H0' H', Adv H0 H H0' H' → W (.ref (f.cl c)) none σ H'
  | .error none => False
def tV (r : R) : TE := fun σ H Q => ∃ H0, Va f W Γ r H0 σ H Q
def Vas (r : Rs) (H0 : Hp) (σ : L2.St) (H : Hp) (Q : List V → Hp → Prop) : Prop := St f Γ H0 σ H ∧ match r with
  | .ok ds => ∀ vs H0' H', Adv H0 H H0' H' → DpAll f.K H0' vs ds → Q vs H'
  | .error (some c) => ∀ H0' H', Adv H0 H H0' H' → W (.ref (f.cl c)) none σ H'
  | .error none => False
def tVs (r : Rs) : TA := fun σ H Q => ∃ H0, Vas f W Γ r H0 σ H Q
def Vb (r : R) (H0 : Hp) (σ : L2.St) (H : Hp) (Q : Bool → Hp → Prop) : Prop := St f Γ H0 σ H ∧ match r with
  | .ok (.bool b) => ∀ H0' H', Adv H0 H H0' H' → Q b H'
  | .error (some c) => ∀ H0' H', Adv H0 H H0' H' → W (.ref (f.cl c)) none σ H'
  | _ => False
def tB (r : R) : TT := fun σ H Q => ∃ H0, Vb f W Γ r H0 σ H Q
/-- a new list, beside the shared part -/
def Vf (r : Rs) (H0 : Hp) (σ : L2.St) (H : Hp) (Q : VK) : Prop := St f Γ H0 σ H ∧ match r with
  | .ok ds => ∀ a vs H0' H', Adv H0 H H0' H' → H a = none → H0' a = none → H' a = some (.lst vs) → DpAll f.K H0' vs ds → Q (.ref a) H'
  | .error (some c) => ∀ H0' H', Adv H0 H H0' H' → W (.ref (f.cl c)) none σ H'
  | .error none => False
def tF (r : Rs) : TE := fun σ H Q => ∃ H0, Vf f W Γ r H0 σ H Q
/-- a value; a list is a new one -/
def Vc (r : R) (H0 : Hp) (σ : L2.St) (H : Hp) (Q : VK) : Prop := St f Γ H0 σ H ∧ match r with
  | .ok (.list ds) => ∀ a vs H0' H', Adv H0 H H0' H' → H a = none → H0' a = none → H' a = some (.lst vs) → DpAll f.K H0' vs ds → Q (.ref a) H'
  | .ok d => ∀ v H0' H', Adv H0 H H0' H' → Dp f.K H0' v d → Q v H'
  | .error (some c) => ∀ H0' H', Adv H0 H H0' H' → W (.ref (f.cl c)) none σ H'
  | .error none => False
def tC2 (r : R) : TE := fun σ H Q => ∃ H0, Vc f W Γ r H0 σ H Q
end

section
variable {f : Fm} {W : WX} {Γ : List Sl} {H0 H : Hp} {σ : L2.St}
/-- one value, and what is reckoned from it -/
theorem Va.bind {Q : VK} {r : R} {g : D → R} (h : Va f W Γ (r.bind g) H0 σ H Q) {Q1 : VK} (k : ∀ d v H0' H', r = .ok d → Adv H0 H H0' H' → Dp f.K H0' v d → Va f W Γ (g d) H0' σ H' Q → Q1 v H') : Va f W Γ r H0 σ H Q1 := by
  obtain ⟨st, m⟩ := h
  refine ⟨st, ?_⟩
  cases r with
  | error e => cases e with
    | none => exact m
    | some c => exact m
  | ok d =>
    intro v H0' H' adv dp
    refine k d v H0' H' rfl adv dp ⟨st.adv adv, ?_⟩
    have m' : match g d with
      | .ok d => ∀ v H0' H', Adv H0 H H0' H' → Dp f.K H0' v d → Q v H'
      | .error (some c) => ∀ H0' H', Adv H0 H H0' H' → W (.ref (f.cl c)) none σ H'
      | .error none => False := m
    revert m'
    cases g d with
    | ok z => exact fun m v A B a h => m v A B (adv.trans a) h
    | error e => cases e with
      | none => exact fun m => m
      | some c => exact fun m A B a => m A B (adv.trans a)
theorem Va.bindS {Q : List V → Hp → Prop} {r : R} {g : D → Rs} (h : Vas f W Γ (r.bind g) H0 σ H Q) {Q1 : VK} (k : ∀ d v H0' H', r = .ok d → Adv H0 H H0' H' → Dp f.K H0' v d → Vas f W Γ (g d) H0' σ H' Q → Q1 v H') : Va f W Γ r H0 σ H Q1 := by
  obtain ⟨st, m⟩ := h
  refine ⟨st, ?_⟩
  cases r with
  | error e => cases e with
    | none => exact m
    | some c => exact m
  | ok d =>
    intro v H0' H' adv dp
    refine k d v H0' H' rfl adv dp ⟨st.adv adv, ?_⟩
    have m' : match g d with
      | .ok ds => ∀ vs H0' H', Adv H0 H H0' H' → DpAll f.K H0' vs ds → Q vs H'
      | .error (some c) => ∀ H0' H', Adv H0 H H0' H' → W (.ref (f.cl c)) none σ H'
      | .error none => False := m
    revert m'
    cases g d with
    | ok z => exact fun m v A B a h => m v A B (adv.trans a) h
    | error e => cases e with
      | none => exact fun m => m
      | some c => exact fun m A B a => m A B (adv.trans a)
theorem Va.bindF {Q : VK} {r : R} {g : D → Rs} (h : Vf f W Γ (r.bind g) H0 σ H Q) {Q1 : VK} (k : ∀ d v H0' H', r = .ok d → Adv H0 H H0' H' → Dp f.K H0' v d → Vf f W Γ (g d) H0' σ H' Q → Q1 v H') : Va f W Γ r H0 σ H Q1 := by
  obtain ⟨st, m⟩ := h
  refine ⟨st, ?_⟩
  cases r with
  | error e => cases e with
    | none => exact m
    | some c => exact m
  | ok d =>
    intro v H0' H' adv dp
    refine k d v H0' H' rfl adv dp ⟨st.adv adv, ?_⟩
    have m' : match g d with
      | .ok ds => ∀ a vs H0' H', Adv H0 H H0' H' → H a = none → H0' a = none → H' a = some (.lst vs) → DpAll f.K H0' vs ds → Q (.ref a) H'
      | .error (some c) => ∀ H0' H', Adv H0 H H0' H' → W (.ref (f.cl c)) none σ H'
      | .error none => False := m
    revert m'
    cases g d with
    | ok z => exact fun m a vs A B ad n n0 e h => m a vs A B (adv.trans ad) (same_fresh adv.all n) n0 e h
    | error e => cases e with
      | none => exact fun m => m
      | some c => exact fun m A B a => m A B (adv.trans a)
theorem Vas.bind {Q : VK} {r : Rs} {g : List D → R} (h : Va f W Γ (r.bind g) H0 σ H Q) {Q1 : List V → Hp → Prop} (k : ∀ ds vs H0' H', r = .ok ds → Adv H0 H H0' H' → DpAll f.K H0' vs ds → Va f W Γ (g ds) H0' σ H' Q → Q1 vs H') : Vas f W Γ r H0 σ H Q1 := by
  obtain ⟨st, m⟩ := h
  refine ⟨st, ?_⟩
  cases r with
  | error e => cases e with
    | none => exact m
    | some c => exact m
  | ok d =>
    intro v H0' H' adv dp
    refine k d v H0' H' rfl adv dp ⟨st.adv adv, ?_⟩
    have m' : match g d with
      | .ok d => ∀ v H0' H', Adv H0 H H0' H' → Dp f.K H0' v d → Q v H'
      | .error (some c) => ∀ H0' H', Adv H0 H H0' H' → W (.ref (f.cl c)) none σ H'
      | .error none => False := m
    revert m'
    cases g d with
    | ok z => exact fun m v A B a h => m v A B (adv.trans a) h
    | error e => cases e with
      | none => exact fun m => m
      | some c => exact fun m A B a => m A B (adv.trans a)
theorem Vas.bindS {Q : List V → Hp → Prop} {r : Rs} {g : List D → Rs} (h : Vas f W Γ (r.bind g) H0 σ H Q) {Q1 : List V → Hp → Prop} (k : ∀ ds vs H0' H', r = .ok ds → Adv H0 H H0' H' → DpAll f.K H0' vs ds → Vas f W Γ (g ds) H0' σ H' Q → Q1 vs H') : Vas f W Γ r H0 σ H Q1 := by
  obtain ⟨st, m⟩ := h
  refine ⟨st, ?_⟩
  cases r with
  | error e => cases e with
    | none => exact m
    | some c => exact m
  | ok d =>
    intro v H0' H' adv dp
    refine k d v H0' H' rfl adv dp ⟨st.adv adv, ?_⟩
    have m' : match g d with
      | .ok ds => ∀ vs H0' H', Adv H0 H H0' H' → DpAll f.K H0' vs ds → Q vs H'
      | .error (some c) => ∀ H0' H', Adv H0 H H0' H' → W (.ref (f.cl c)) none σ H'
      | .error none => False := m
    revert m'
    cases g d with
    | ok z => exact fun m v A B a h => m v A B (adv.trans a) h
    | error e => cases e with
      | none => exact fun m => m
      | some c => exact fun m A B a => m A B (adv.trans a)
theorem Vas.bindF {Q : VK} {r : Rs} {g : List D → Rs} (h : Vf f W Γ (r.bind g) H0 σ H Q) {Q1 : List V → Hp → Prop} (k : ∀ ds vs H0' H', r = .ok ds → Adv H0 H H0' H' → DpAll f.K H0' vs ds → Vf f W Γ (g ds) H0' σ H' Q → Q1 vs H') : Vas f W Γ r H0 σ H Q1 := by
  obtain ⟨st, m⟩ := h
  refine ⟨st, ?_⟩
  cases r with
  | error e => cases e with
    | none => exact m
    | some c => exact m
  | ok d =>
    intro v H0' H' adv dp
    refine k d v H0' H' rfl adv dp ⟨st.adv adv, ?_⟩
    have m' : match g d with
      | .ok ds => ∀ a vs H0' H', Adv H0 H H0' H' → H a = none → H0' a = none → H' a = some (.lst vs) → DpAll f.K H0' vs ds → Q (.ref a) H'
      | .error (some c) => ∀ H0' H', Adv H0 H H0' H' → W (.ref (f.cl c)) none σ H'
      | .error none => False := m
    revert m'
    cases g d with
    | ok z => exact fun m a vs A B ad n n0 e h => m a vs A B (adv.trans ad) (same_fresh adv.all n) n0 e h
    | error e => cases e with
      | none => exact fun m => m
      | some c => exact fun m A B a => m A B (adv.trans a)
theorem Vas.bindC {Q : VK} {r : Rs} {g : List D → R} (h : Vc f W Γ (r.bind g) H0 σ H Q) {Q1 : List V → Hp → Prop} (k : ∀ ds vs H0' H', r = .ok ds → Adv H0 H H0' H' → DpAll f.K H0' vs ds → Vc f W Γ (g ds) H0' σ H' Q → Q1 vs H') : Vas f W Γ r H0 σ H Q1 := by
  obtain ⟨st, m⟩ := h
  refine ⟨st, ?_⟩
  cases r with
  | error e => cases e with
    | none => exact m
    | some c => exact m
  | ok d =>
    intro v H0' H' adv dp
    refine k d v H0' H' rfl adv dp ⟨st.adv adv, ?_⟩
    have m' : match g d with
      | .ok (.list ds) => ∀ a vs H0' H', Adv H0 H H0' H' → H a = none → H0' a = none → H' a = some (.lst vs) → DpAll f.K H0' vs ds → Q (.ref a) H'
      | .ok d => ∀ v H0' H', Adv H0 H H0' H' → Dp f.K H0' v d → Q v H'
      | .error (some c) => ∀ H0' H', Adv H0 H H0' H' → W (.ref (f.cl c)) none σ H'
      | .error none => False := m
    revert m'
    cases g d with
    | ok z =>
      cases z with
      | list es => exact fun m a vs A B ad n n0 e h => m a vs A B (adv.trans ad) (same_fresh adv.all n) n0 e h
      | _ => exact fun m v A B a h => m v A B (adv.trans a) h
    | error e => cases e with
      | none => exact fun m => m
      | some c => exact fun m A B a => m A B (adv.trans a)
/-- a new list is a value -/
theorem Vf.of {Q : VK} {r : Rs} (h : Va f W Γ (r.map .list) H0 σ H Q) : Vf f W Γ r H0 σ H Q := by
  obtain ⟨st, m⟩ := h
  refine ⟨st, ?_⟩
  cases r with
  | error e => cases e with
    | none => exact m
    | some c => exact m
  | ok ds =>
    intro a vs H0' H' adv n n0 e dp
    have s0 : Same H0' (upd H0' a (.lst vs)) := same_upd n0
    exact m (.ref a) _ H' (adv.freeze n e) (.lst (SqL.of upd_same) (dp.mono s0))
theorem Va.ok {Q : VK} {d : D} (h : Va f W Γ (.ok d) H0 σ H Q) {v : V} (hd : Dp f.K H0 v d) : Q v H := h.2 v H0 H (Adv.refl h.1.sub) hd
theorem Vas.ok {Q : List V → Hp → Prop} {ds : List D} (h : Vas f W Γ (.ok ds) H0 σ H Q) {vs : List V} (hd : DpAll f.K H0 vs ds) : Q vs H := h.2 vs H0 H (Adv.refl h.1.sub) hd
/-- on, by an operation -/
theorem Va.go {Q : VK} {r : R} (h : Va f W Γ r H0 σ H Q) {g : D → D → R} {d e : D} {x y : V} (hd : Dp f.K H0 x d) (he : Dp f.K H0 y e) (hr : r = g d e) (no : ∀ c, g d e ≠ .error (some c)) : rD f.K g x y H Q := by
  subst hr
  obtain ⟨st, m⟩ := h
  cases q : g d e with
  | ok z =>
    rw [q] at m
    exact ⟨H0, d, e, z, st.sub, hd, he, q, fun v A B a h => m v A B a h⟩
  | error w => cases w with
    | none => rw [q] at m; exact m.elim
    | some c => exact absurd q (no c)
end

/-! ### the text's own functions -/
/-- a promise of data -/
def spD (K : PySem.W.Frag) (cl : Nat → Addr) (n : Nat) (g : List D → R) : Sp := fun vs H Q E => vs.length = n ∧ ∃ H0 ds, Same H0 H ∧ DpAll K H0 vs ds ∧ match g ds with
  | .ok d => ∀ v H0' H', Adv H0 H H0' H' → Dp K H0' v d → Q v H'
  | .error (some c) => ∀ H', Same H H' → E (.ref (cl c)) none H'
  | .error none => False

/-- a promise of data; a list is a new one -/
def spF (K : PySem.W.Frag) (cl : Nat → Addr) (n : Nat) (g : List D → R) : Sp := fun vs H Q E => vs.length = n ∧ ∃ H0 ds, Same H0 H ∧ DpAll K H0 vs ds ∧ match g ds with
  | .ok (.list es) => ∀ a ws H0' H', Adv H0 H H0' H' → H a = none → H0' a = none → H' a = some (.lst ws) → DpAll K H0' ws es → Q (.ref a) H'
  | .ok d => ∀ v H0' H', Adv H0 H H0' H' → Dp K H0' v d → Q v H'
  | .error (some c) => ∀ H', Same H H' → E (.ref (cl c)) none H'
  | .error none => False
theorem spF_of {K : PySem.W.Frag} {cl : Nat → Addr} {n : Nat} {g : List D → R} {vs : List V} {H : Hp} {Q : VK} {E : XK} (h : spD K cl n g vs H Q E) : spF K cl n g vs H Q E := by
  obtain ⟨hl, H0, ds, sm, dp, m⟩ := h
  refine ⟨hl, H0, ds, sm, dp, ?_⟩
  revert m
  cases g ds with
  | error e => cases e with
    | none => exact fun m => m
    | some c => exact fun m => m
  | ok d =>
    cases d with
    | list es =>
      intro m a ws H0' H' adv n n0 e dp
      have s0 : Same H0' (upd H0' a (.lst ws)) := same_upd n0
      exact m (.ref a) _ H' (adv.freeze n e) (.lst (SqL.of upd_same) (dp.mono s0))
    | _ => exact fun m => m

/-- how an error leaves: in any way (false), with no context (true) -/
def CXB : Bool → Program → World → List Env → Hp → Shared → XK → Value → Shared → Prop
  | false => L2.CX
  | true => L2N.CX
def TkB : Bool → Cx → WX → Prop
  | false => L2.Takes
  | true => L2N.Takes
theorem TkB.call {nb : Bool} {X : Cx} {W : WX} (t : TkB nb X W) {pins : List (Addr × Obj)} {σ : L2.St} {H : Hp} {s : Shared} {e : Value} {s2 : Shared} (I : Inv X pins σ H s)
    (q : CXB nb X.prog X.w X.stack H s (fun cls d H' => W cls d σ H') e s2) : X.xe e s2 := by
  cases nb with
  | false => exact t e s2 (L2.XE.of_call I (fun _ _ _ z => z) q)
  | true => exact t e s2 (L2N.XE.of_call I (fun _ _ _ z => z) q)
theorem takes0B {nb : Bool} {X : Cx} : TkB nb X (fun _ _ _ _ => False) := by
  cases nb with
  | false => exact takes0
  | true =>
    intro u s' h
    obtain ⟨_, _, _, _, _, _, _, _, _, _, _, _, _, _, _, _, w⟩ := h
    exact w.elim
/-- a def that keeps a promise, wherever nothing is being shown -/
structure FnG (nb : Bool) (P : Program) (w : World) (K : PySem.W.Frag) (mg : Str → Option Value) (base : Heap) (k : Nat) (a : Addr) (fd : FuncData) (ps : List Str) (sp : Sp) : Prop where
  len : ∀ vs H Q E, sp vs H Q E → vs.length = ps.length
  run : ∀ (A : Around) (outer : List Env) (s : Shared) (H : Hp) (args : Args) (us : List Value) (vs : List V) (Q : VK) (E : XK), Room k A → A.guards = some [] → Env0 P w K mg base A outer s H → BindsTo s fd args (ps.zip us) → Vals vs us →
    sp vs H Q E → codeAny (model P w) A (.call (.ref a) args) (CR (CXB nb P w) outer P w H s Q E) s

theorem FnG.imp {nb : Bool} {P : Program} {w : World} {K : PySem.W.Frag} {mg : Str → Option Value} {base : Heap} {k : Nat} {a : Addr} {fd : FuncData} {ps : List Str} {sp sp' : Sp} (F : FnG nb P w K mg base k a fd ps sp) (i : ∀ vs H Q E, sp' vs H Q E → sp vs H Q E) : FnG nb P w K mg base k a fd ps sp' :=
  ⟨fun vs H Q E h => F.len vs H Q E (i _ _ _ _ h), fun A outer s H args us vs Q E h1 h2 h3 h4 h5 h => F.run A outer s H args us vs Q E h1 h2 h3 h4 h5 (i _ _ _ _ h)⟩
section
variable {X : Cx} {k : Nat} {a : Addr} {fd : FuncData} {ps : List Str} {sp : Sp} {W : WX}
theorem run_g {pins : List (Addr × Obj)} {σ : L2.St} {H : Hp} {s : Shared} {Q : VK} {us : List Value} {vs : List V} {nb : Bool} (F : FnG nb X.prog X.w X.K X.mg X.base k a fd ps sp) (hr : Room k X.A) (hg : X.A.guards = some []) (hb : Binds X.K fd ps []) (tk : TkB nb X W)
    (I : Inv X pins σ H s) (r : Vals vs us) (h : sp vs H Q fun cls d H' => W cls d σ H') : wpAny (model X.prog X.w) X.A (call (.ref a) us) (EP X pins σ Q) X.xe s := by
  have n1 : us.length = ps.length := r.length.symm.trans (F.len _ _ _ _ h)
  have n2 := hb s us I.kIn (by simpa using n1)
  simp only [List.append_nil] at n2
  refine wpAny_call (codeAny_mono (F.run X.A X.stack s H ⟨us, []⟩ us vs Q _ hr hg I.env0 n2 r h) fun o s2 q => ?_)
  match o, q with
  | .error e, q => exact tk.call I q
  | .ok (.ret u), q => exact I.after q
  | .ok .next, q => exact q.elim
  | .ok .brk, q => exact q.elim
  | .ok .cont, q => exact q.elim
theorem pe_callG {x : Str} {p pos : Pos} {e : Expr} {es : List Expr} {t : TA} {nb : Bool} (F : FnG nb X.prog X.w X.K X.mg X.base k a fd ps sp) (hr : Room k X.A) (hgd : X.A.guards = some []) (hg : Gl X x) (hm : X.mg x = some (.ref a)) (hk : PySem.W.keepIn X.K (.ref a) = true)
    (hb : Binds X.K fd ps []) (tk : TkB nb X W) (ha : PA X (e :: es) t) (hdb : (x == ("__debug__" : Str)) = false) (he : starEach (e :: es) X.env = (false, eval e X.env) :: starEach es X.env) (hpl : (backTo pos (starEach es X.env)).any (·.1) = false) :
    PE X (.Call (.Name x p) (e :: es) [] pos) (fun σ H Q => t σ H fun vs H1 => sp vs H1 Q fun cls d H' => W cls d σ H') :=
  ⟨fun pins s σ H Q I h => wpAny_Call_Name_kw (ld_glob I hg hm (PySem.W.callWith_K (h₀ := X.base) I.ok.mod.kin hk (thn (ha.run pos pins s σ H _ I h) fun us s1 ⟨vs, H1, J, r, q⟩ => ⟨J.kIn, run_g F hr hgd hb tk J r q⟩) he hpl) hdb)⟩
end
end Dee

set_option maxRecDepth 100000
set_option maxHeartbeats 4000000
/-! Dee, part 4: a small language for the text (names by places), what it means on data, and the look that tells whether a piece of the text is such a term. -/
namespace Dee
open PySem PySem.Spec PyProof.Rows L2

inductive Tg where
  | nm (i : Nat)
  | tp (is : List Nat)
inductive Bl where
  | len | abs | max2 | min2 | max1 | max3 | sum | any | all | gcd | repr | int | str
  | list | sorted
  | isTup | isBool | isInt | isLst | isStr
  deriving DecidableEq
/-- what isinstance asks of data -/
inductive Ik where
  | tup | bool | int | list | str
def Ik.name : Ik → String
  | .tup => "tuple" | .bool => "bool" | .int => "int" | .list => "list" | .str => "str"
def Ik.is : Ik → D → Bool
  | .tup, .tuple _ => true
  | .bool, .bool _ => true
  | .int, .bool _ => true
  | .int, .int _ => true
  | .list, .list _ => true
  | .str, .str _ => true
  | _, _ => false
mutual
inductive CE where
  | var (i : Nat) | int (i : Int) | bl (b : Bool) | non | str (s : Str) | glob (g : Nat)
  | bin (o : Bin) (a b : CE) | neg (a : CE)
  | cmp (o : Cm) (a b : CE) | chn (o o' : Cm) (a b c : CE)
  | and (a b : CE) | or (a b : CE) | one (a : CE) | not (a : CE) | ife (c a b : CE)
  | tup (es : CEs) | lst (es : CEs) | idx (a b : CE)
  | sl (a : CE) (lo hi : CEs) | rev (a : CE) | lrev (a : CE)
  | call (f : Nat) (es : CEs) | blt (o : Bl) (es : CEs) | bits (a : CE)
  | lc (vs : List Nat) (tg : Tg) (it : CI) (cond : CEs) (elt : CE)
  | lc2 (vs vs1 : List Nat) (tg : Tg) (it : CI) (cond : CEs) (tg1 : Tg) (it1 : CI) (cond1 : CEs) (elt : CE)
  | oidx (i : Nat) (b : CE) | olen (i : Nat)
  | isx (i : Nat) (tup : Bool) (cs : List (Option Nat))
  | kget (i : Nat) (k d : CE) | kat (i : Nat) (k : CE) | kin (neg : Bool) (i : Nat) (k : CE) | ksort (i : Nat)
inductive CEs where
  | nil | cons (e : CE) (es : CEs)
inductive CI where
  | of (e : CE) | r1 (a : CE) | r2 (a b : CE) | r3 (a b c : CE) | en (e : CE) | zip (a b : CE) | rv (a : CE)
end

mutual
inductive CS where
  | pass
  | set (i : Nat) (e : CE)
  | setO (i : Nat) (e : CE)
  | setT (is : List Nat) (e : CE)
  | par (i j : Nat) (a b : CE)
  | aug (i : Nat) (o : Bin) (e : CE)
  | app (i : Nat) (e : CE)
  | six (i : Nat) (k e : CE)
  | newD (i : Nat) (t : Bool)
  | augS (i : Nat) (k e : CE)
  | newD1 (i : Nat) (k e : CE)
  | mvD (i j : Nat)
  | tryR (g i c d : Nat)
  | try2 (body : CSs) (c : Nat) (suite : CSs) (c2 : Nat) (suite2 : CSs)
  | apN (i j : Nat) (it : CI) (w e : CE) | stN (i j : Nat) (it : CI) (w kk e : CE)
  | dput (i : Nat) (k e : CE)
  | ret (e : CE) | retN
  | retF (e : CE) | retO (i : Nat) | retC (f : Nat) (es : CEs)
  | setC (i f : Nat) (es : CEs)
  | iffB (is : List Nat) (c : CE) (a b : CSs)
  | setB (is : List Nat) (i : Nat) (e : CE)
  | appC (f : Nat) (es : CEs) (e : CE)
  | iff (c : CE) (a b : CSs)
  | for (tg : Tg) (it : CI) (body : CSs)
  | whl (n : Nat) (c : CE) (body : CSs)
  | brk | cnt
  | raise (c : Nat)
  | try_ (body : CSs) (c : Nat) (x : Option Nat) (suite : CSs)
  | expr (e : CE)
inductive CSs where
  | nil | cons (s : CS) (ss : CSs) | frz (i : Nat) (ss : CSs)
end

/-! ### meaning -/
/-- the own functions by place, the module's constants by place -/
structure Evn where
  F : Nat → List D → R
  G : Nat → Option D
  sub : Nat → Nat → Bool
/-- is the class d below c (none: ValueError) -/
def isaX (sub : Nat → Nat → Bool) (d : Nat) : Option Nat → Bool
  | none => true
  | some c => sub d c

def slV : Option Sl → R
  | some (.sh d) => .ok d
  | _ => unk
def putAll : List Nat → List D → List Sl → Option (List Sl)
  | [], [], Γ => some Γ
  | i :: is, d :: ds, Γ => if i < Γ.length then putAll is ds (Γ.set i (.sh d)) else none
  | _, _, _ => none
def asg : Tg → D → List Sl → Option (List Sl)
  | .nm i, d, Γ => if i < Γ.length then some (Γ.set i (.sh d)) else none
  | .tp is, .tuple ds, Γ => putAll is ds Γ
  | .tp is, .list ds, Γ => putAll is ds Γ
  | .tp _, _, _ => none
def wipeG (Γ : List Sl) : List Nat → List Sl
  | [] => Γ
  | v :: vs => (wipeG Γ vs).set v .non

def atD (xs : List D) (i : Int) : R := match atI xs i with
  | some d => .ok d
  | none => unk
def idxD : D → D → R
  | .list xs, .int i => atD xs i
  | .tuple xs, .int i => atD xs i
  | .str z, .int i => if z.length ≤ most then (match atI z.cps.toList i with
    | some c => .ok (.str ⟨#[c]⟩)
    | none => unk) else unk
  | _, _ => unk
def cutD (xs : List D) (lo hi : Option Int) : List D := (xs.drop (HT.sIx xs.length 0 lo)).take (HT.sIx xs.length xs.length hi - HT.sIx xs.length 0 lo)
def asInt : D → Except (Option Nat) Int
  | .int i => .ok i
  | _ => unk
def asList : D → Rs
  | .list ds => .ok ds
  | _ => unk
def asInts : List D → Except (Option Nat) (List Int)
  | [] => .ok []
  | .int i :: r => (asInts r).map (i :: ·)
  | _ => unk
def asBools : List D → Except (Option Nat) (List Bool)
  | [] => .ok []
  | .bool i :: r => (asBools r).map (i :: ·)
  | _ => unk
def asBool : D → Except (Option Nat) Bool
  | .bool b => .ok b
  | _ => unk
/-- what str and repr may be asked of -/
def shows (d : D) : Bool := d.showable && !d.hasDict && decide (d.depth ≤ 60) && decide (d.shown.length ≤ sizeLine)
/-- a pair of long numbers, where no bound of digits was set -/
def bigQ : D → Bool
  | .tuple [.int a, .int b] => decide (a.natAbs.log2 < 12000) && (decide (b.natAbs.log2 < 12000) && decide ((PyData.shown (.tuple [.int a, .int b])).length ≤ sizeLine))
  | _ => false
def sortI (ns : List Int) : List Int := ns.mergeSort (fun a b => decide (a ≤ b))
def bltD : Bl → List D → R
  | .len, [.list ds] => .ok (.int ds.length)
  | .len, [.tuple ds] => .ok (.int ds.length)
  | .len, [.str x] => if x.length ≤ most then .ok (.int x.length) else unk
  | .abs, [.int i] => .ok (.int i.natAbs)
  | .max2, [.int i, .int j] => .ok (.int (max i j))
  | .min2, [.int i, .int j] => .ok (.int (min i j))
  | .max1, [.list ds] => (asInts ds).bind fun ns => match ns with
    | [] => unk
    | n :: r => .ok (.int (r.foldl max n))
  | .sum, [.list ds] => (asInts ds).map fun ns => .int ns.sum
  | .any, [.list ds] => (asBools ds).map fun bs => .bool (bs.any id)
  | .all, [.list ds] => (asBools ds).map fun bs => .bool (bs.all id)
  | .gcd, [.int i, .int j] => .ok (.int (Nat.gcd i.natAbs j.natAbs : Nat))
  | .repr, [d] => if (shows d || bigQ d) = true then .ok (.str (PyData.shown d)) else unk
  | .max3, [.int i, .int j, .int k] => .ok (.int (max (max i j) k))
  | .int, [.int i] => .ok (.int i)
  | .int, [.bool b] => .ok (.int (if b then 1 else 0))
  | .str, [.int i] => if i.natAbs.log2 < 1920 then .ok (.str (toString i)) else unk
  | .isTup, [d] => .ok (.bool (Ik.tup.is d))
  | .isBool, [d] => .ok (.bool (Ik.bool.is d))
  | .isInt, [d] => .ok (.bool (Ik.int.is d))
  | .isLst, [d] => .ok (.bool (Ik.list.is d))
  | .isStr, [d] => .ok (.bool (Ik.str.is d))
  | _, _ => unk
/-- those that make a list -/
def bltF : Bl → List D → Rs
  | .list, [.list ds] => .ok ds
  | .list, [.tuple ds] => .ok ds
  | .sorted, [.list ds] => (asInts ds).map fun ns => (sortI ns).map .int
  | _, _ => unk
/-- a comprehension's turns -/
def lcL (as : D → Option (List Sl)) (co : List Sl → R) (el : List Sl → R) : List D → Rs
  | [] => .ok []
  | d :: ds => match as d with
    | none => unk
    | some Γ => match co Γ with
      | .ok (.bool true) => (match el Γ with
        | .ok x => (match lcL as co el ds with
          | .ok xs => .ok (x :: xs)
          | .error _ => unk)
        | .error _ => unk)
      | .ok (.bool false) => lcL as co el ds
      | _ => unk
/-- .. of two clauses: el is the inner loop -/
def lcL2 (as : D → Option (List Sl)) (co : List Sl → R) (el : List Sl → Rs) : List D → Rs
  | [] => .ok []
  | d :: ds => match as d with
    | none => unk
    | some Γ => match co Γ with
      | .ok (.bool true) => (match el Γ with
        | .ok x => (match lcL2 as co el ds with
          | .ok xs => .ok (x ++ xs)
          | .error _ => unk)
        | .error _ => unk)
      | .ok (.bool false) => lcL2 as co el ds
      | _ => unk
/-- a list not too long -/
def capD (xs : List D) : Rs := if xs.length ≤ most then .ok xs else unk
/-- lo, lo + 1, .. -/
def rangeD (lo : Int) (n : Nat) : List D := (List.range n).map fun (i : Nat) => .int (lo + (i : Int))
def rangeC (lo c : Int) (n : Nat) : List D := (List.range n).map fun (i : Nat) => .int (lo + (i : Int) * c)
def small (i : Int) : Bool := decide (-(2 ^ 62) ≤ i) && decide (i < 2 ^ 62)
def enumD (n : Nat) : List D → List D
  | [] => []
  | d :: ds => .tuple [.int n, d] :: enumD (n + 1) ds
def zipD : List D → List D → List D
  | x :: xs, y :: ys => .tuple [x, y] :: zipD xs ys
  | _, _ => []
/-- of a step range, upward: how many -/
def stepN (i j c : Int) : Nat := if i < j then ((j - i - 1) / c + 1).toNat else 0

section
variable {κ : Type} [DecidableEq κ]
def lookD : List (κ × D) → κ → Option D
  | [], _ => none
  | (j, d) :: r, k => if j = k then some d else lookD r k
def putD (kvs : List (κ × D)) (k : κ) (d : D) : List (κ × D) :=
  if (kvs.any fun kv => decide (kv.1 = k)) = true then kvs.map (fun kv => if kv.1 = k then (kv.1, d) else kv) else kvs ++ [(k, d)]
end
def keyOf : D → Option Key
  | .int i => some (.inl i)
  | .str x => some (.inr x)
  | _ => none
def keysOf : List D → Option (List Key)
  | [] => some []
  | d :: r => match keyOf d, keysOf r with
    | some k, some ks => some (k :: ks)
    | _, _ => none
def asKey (d : D) : Except (Option Nat) Key := match keyOf d with
  | some k => .ok k
  | none => unk
def intKeys : List (Key × D) → Option (List Int)
  | [] => some []
  | (.inl i, _) :: r => (intKeys r).map (i :: ·)
  | (.inr _, _) :: _ => none

def keySort (kvs : List (Key × D)) : Rs := match intKeys kvs with
  | some ks => if ks.length < 64 then .ok ((sortI ks).map .int) else unk
  | none => unk
mutual
def ev (E : Evn) : CE → List Sl → R
  | .var i, Γ => slV Γ[i]?
  | .int i, _ => .ok (.int i)
  | .bl b, _ => .ok (.bool b)
  | .non, _ => .ok .none
  | .str s, _ => .ok (.str s)
  | .glob g, _ => (match E.G g with
    | some d => .ok d
    | none => unk)
  | .bin o a b, Γ => (ev E a Γ).bind fun x => (ev E b Γ).bind fun y => binD o x y
  | .neg a, Γ => (ev E a Γ).bind fun x => (asInt x).bind fun i => .ok (.int (-i))
  | .cmp o a b, Γ => (ev E a Γ).bind fun x => (ev E b Γ).bind fun y => cmpD o x y
  | .chn o o' a b c, Γ => (ev E a Γ).bind fun x => (ev E b Γ).bind fun y => (cmpB o x y).bind fun k => if k = true then (ev E c Γ).bind fun z => cmpD o' y z else .ok (.bool false)
  | .and a b, Γ => (ev E a Γ).bind fun x => (asBool x).bind fun k => if k = true then ev E b Γ else .ok (.bool false)
  | .or a b, Γ => (ev E a Γ).bind fun x => (asBool x).bind fun k => if k = true then .ok (.bool true) else ev E b Γ
  | .one a, Γ => ev E a Γ
  | .not a, Γ => (ev E a Γ).bind fun x => (asBool x).bind fun k => .ok (.bool (!k))
  | .ife c a b, Γ => (ev E c Γ).bind fun x => (asBool x).bind fun k => if k = true then ev E a Γ else ev E b Γ
  | .tup es, Γ => (evs E es Γ).bind fun ds => if ds.length ≤ most then .ok (.tuple ds) else unk
  | .lst es, Γ => ((evs E es Γ).bind fun ds => if ds.length ≤ most then .ok ds else unk).map .list
  | .idx a b, Γ => (ev E a Γ).bind fun x => (ev E b Γ).bind fun y => idxD x y
  | .sl a lo hi, Γ => ((ev E a Γ).bind fun x => (asList x).bind fun xs => (evO E lo Γ).bind fun l => (evO E hi Γ).bind fun h => .ok (cutD xs l h)).map .list
  | .rev a, Γ => ((ev E a Γ).bind fun x => (asList x).bind fun xs => .ok xs.reverse).map .list
  | .lrev a, Γ => ((ev E a Γ).bind fun x => (asList x).bind fun xs => .ok xs.reverse).map .list
  | .call f es, Γ => (evs E es Γ).bind fun ds => E.F f ds
  | .blt o es, Γ => (match o with
    | .list => ((evs E es Γ).bind fun ds => bltF .list ds).map .list
    | .sorted => ((evs E es Γ).bind fun ds => bltF .sorted ds).map .list
    | o => (evs E es Γ).bind fun ds => bltD o ds)
  | .bits a, Γ => (ev E a Γ).bind fun x => (asInt x).bind fun i => .ok (.int (bits i : Nat))
  | .lc vs tg it co el, Γ => ((evI E it Γ).bind fun ds => (lcL (fun d => asg tg d (wipeG Γ vs)) (fun Γ => evC E co Γ) (fun Γ => ev E el Γ) ds).bind capD).map .list
  | .lc2 vs vs1 tg it co tg1 it1 co1 el, Γ => ((evI E it Γ).bind fun ds => (lcL2 (fun d => asg tg d (wipeG Γ vs)) (fun Γ => evC E co Γ)
      (fun Γ => match evI E it1 Γ with
        | .ok es => lcL (fun d => asg tg1 d (wipeG Γ vs1)) (fun Γ => evC E co1 Γ) (fun Γ => ev E el Γ) es
        | .error _ => unk) ds).bind capD).map .list
  | .oidx i b, Γ => (match Γ[i]? with
    | some (.own ds) => (ev E b Γ).bind fun y => (asInt y).bind fun k => atD ds k
    | _ => unk)
  | .olen i, Γ => (match Γ[i]? with
    | some (.own ds) => .ok (.int ds.length)
    | _ => unk)
  | .isx i _ cs, Γ => (match Γ[i]? with
    | some (.exc d) => .ok (.bool (cs.any (isaX E.sub d)))
    | _ => unk)
  | .kget i k d, Γ => (match Γ[i]? with
    | some (.dk kvs) => (ev E k Γ).bind fun x => (ev E d Γ).bind fun z => (asKey x).bind fun q => .ok ((lookD kvs q).getD z)
    | _ => unk)
  | .kat i k, Γ => (match Γ[i]? with
    | some (.dk kvs) => (ev E k Γ).bind fun x => (asKey x).bind fun q => (match lookD kvs q with
      | some d => .ok d
      | none => unk)
    | _ => unk)
  | .kin neg i k, Γ => (match Γ[i]? with
    | some (.dk kvs) => (ev E k Γ).bind fun x => (asKey x).bind fun q => .ok (.bool (if neg then !(lookD kvs q).isSome else (lookD kvs q).isSome))
    | _ => unk)
  | .ksort i, Γ => ((match Γ[i]? with
    | some (.dk kvs) => keySort kvs
    | _ => unk)).map .list
def evs (E : Evn) : CEs → List Sl → Rs
  | .nil, _ => .ok []
  | .cons e es, Γ => (ev E e Γ).bind fun x => (evs E es Γ).bind fun xs => .ok (x :: xs)
/-- a part that may be left out -/
def evO (E : Evn) : CEs → List Sl → Except (Option Nat) (Option Int)
  | .nil, _ => .ok none
  | .cons e _, Γ => (ev E e Γ).bind fun x => (asInt x).bind fun i => .ok (some i)
/-- the tests of a clause -/
def evC (E : Evn) : CEs → List Sl → R
  | .nil, _ => .ok (.bool true)
  | .cons e _, Γ => ev E e Γ
def evI (E : Evn) : CI → List Sl → Rs
  | .of e, Γ => (ev E e Γ).bind fun x => (match x with
    | .list ds => .ok ds
    | .tuple ds => .ok ds
    | _ => unk)
  | .r1 a, Γ => (ev E a Γ).bind fun x => (asInt x).bind fun i => if small i = true then .ok (rangeD 0 i.toNat) else unk
  | .r2 a b, Γ => (ev E a Γ).bind fun x => (ev E b Γ).bind fun y => (asInt x).bind fun i => (asInt y).bind fun j => if small i = true ∧ small j = true then .ok (rangeD i (j - i).toNat) else unk
  | .r3 a b c, Γ => (ev E a Γ).bind fun x => (ev E b Γ).bind fun y => (ev E c Γ).bind fun z => (asInt x).bind fun i => (asInt y).bind fun j => (asInt z).bind fun k =>
      if small i = true ∧ small j = true ∧ 0 < k ∧ k < 1000000 then .ok (rangeC i k (stepN i j k)) else unk
  | .en e, Γ => (ev E e Γ).bind fun x => (asList x).bind fun xs => .ok (enumD 0 xs)
  | .zip a b, Γ => (ev E a Γ).bind fun x => (ev E b Γ).bind fun y => (asList x).bind fun xs => (asList y).bind fun ys => .ok (zipD xs ys)
  | .rv a, Γ => (ev E a Γ).bind fun x => (asList x).bind fun xs => .ok xs.reverse
end
def catF : D → D → Rs
  | .list xs, .list ys => if xs.length + ys.length ≤ most then .ok (xs ++ ys) else unk
  | _, _ => unk
def repF : D → D → Rs
  | .list xs, .int k => if 0 ≤ k ∧ k ≤ 100000 ∧ xs.length * k.toNat ≤ most then .ok (List.replicate k.toNat xs).flatten else unk
  | _, _ => unk
/-- the new list that some expressions make -/
def evF (E : Evn) : CE → List Sl → Rs
  | .lst es, Γ => (evs E es Γ).bind fun ds => if ds.length ≤ most then .ok ds else unk
  | .sl a lo hi, Γ => (ev E a Γ).bind fun x => (asList x).bind fun xs => (evO E lo Γ).bind fun l => (evO E hi Γ).bind fun h => .ok (cutD xs l h)
  | .rev a, Γ => (ev E a Γ).bind fun x => (asList x).bind fun xs => .ok xs.reverse
  | .lrev a, Γ => (ev E a Γ).bind fun x => (asList x).bind fun xs => .ok xs.reverse
  | .blt .list es, Γ => (evs E es Γ).bind fun ds => bltF .list ds
  | .blt .sorted es, Γ => (evs E es Γ).bind fun ds => bltF .sorted ds
  | .lc vs tg it co el, Γ => (evI E it Γ).bind fun ds => (lcL (fun d => asg tg d (wipeG Γ vs)) (fun Γ => evC E co Γ) (fun Γ => ev E el Γ) ds).bind capD
  | .lc2 vs vs1 tg it co tg1 it1 co1 el, Γ => (evI E it Γ).bind fun ds => (lcL2 (fun d => asg tg d (wipeG Γ vs)) (fun Γ => evC E co Γ)
      (fun Γ => match evI E it1 Γ with
        | .ok es => lcL (fun d => asg tg1 d (wipeG Γ vs1)) (fun Γ => evC E co1 Γ) (fun Γ => ev E el Γ) es
        | .error _ => unk) ds).bind capD
  | .ksort i, Γ => (match Γ[i]? with
    | some (.dk kvs) => keySort kvs
    | _ => unk)
  | .bin .add a b, Γ => (ev E a Γ).bind fun x => (ev E b Γ).bind fun y => catF x y
  | .bin .mul a b, Γ => (ev E a Γ).bind fun x => (ev E b Γ).bind fun y => repF x y
  | _, _ => unk

/-- how a statement ends -/
inductive Out where
  | nx (Γ : List Sl) | rt (d : D) | rf (ds : List D) | bk (Γ : List Sl) | ct (Γ : List Sl) | xc (c : Nat) (Γ : List Sl) | un
def ofR {α : Type} (r : Except (Option Nat) α) (Γ : List Sl) (k : α → Out) : Out := match r with
  | .ok d => k d
  | .error (some c) => .xc c Γ
  | .error none => .un
def setS (Γ : List Sl) (i : Nat) (s : Sl) : Out := if i < Γ.length then .nx (Γ.set i s) else .un
def forL (as : D → List Sl → Option (List Sl)) (bd : List Sl → Out) : List D → List Sl → Out
  | [], Γ => .nx Γ
  | d :: ds, Γ => match as d Γ with
    | none => .un
    | some Γ1 => match bd Γ1 with
      | .nx Γ2 => forL as bd ds Γ2
      | .ct Γ2 => forL as bd ds Γ2
      | .bk Γ2 => .nx Γ2
      | .rt d => .rt d
      | .rf ds => .rf ds
      | .xc c Γ2 => .xc c Γ2
      | .un => .un
def whL (c : List Sl → R) (bd : List Sl → Out) : Nat → List Sl → Out
  | 0, _ => .un
  | n + 1, Γ => match c Γ with
    | .ok (.bool true) => (match bd Γ with
      | .nx Γ2 => whL c bd n Γ2
      | .ct Γ2 => whL c bd n Γ2
      | .bk Γ2 => .nx Γ2
      | .rt d => .rt d
      | .rf ds => .rf ds
      | .xc c Γ2 => .xc c Γ2
      | .un => .un)
    | .ok (.bool false) => .nx Γ
    | .error (some c) => .xc c Γ
    | _ => .un
/-- the names of errors forgotten -/
def clr (Γ : List Sl) : List Sl := Γ.map fun
  | .exc _ => .non
  | s => s
/-- behind an except suite: nothing may have been raised in it -/
def unx : Option Nat → List Sl → List Sl
  | none, Γ => clr Γ
  | some i, Γ => (clr Γ).set i .non
def offX (x : Option Nat) : Out → Out
  | .nx Γ => .nx (unx x Γ)
  | .bk Γ => .bk (unx x Γ)
  | .ct Γ => .ct (unx x Γ)
  | .rt d => .rt d
  | .rf ds => .rf ds
  | _ => .un
/-- owned lists lent for a while -/
def frz1 (Γ : List Sl) (i : Nat) : List Sl := match Γ[i]? with
  | some (.own ds) => Γ.set i (.sh (.list ds))
  | _ => Γ
def frzs : List Nat → List Sl → List Sl
  | [], Γ => Γ
  | i :: is, Γ => frzs is (frz1 Γ i)
def scal : D → Bool
  | .none => true
  | .bool _ => true
  | .int _ => true
  | .str _ => true
  | _ => false
/-- a result that is a new list if it is one -/
def rtC : D → Out
  | .list ds => .rf ds
  | d => .rt d
def ownC : D → Sl
  | .list ds => .own ds
  | d => .sh d

/-- lists alone -/
def lls : List D → Option (List (List D))
  | [] => some []
  | .list xs :: r => (lls r).map (xs :: ·)
  | _ :: _ => none
/-- two statements at once: a list of copied lists, one of which is changed -/
def apD (Γ : List Sl) (i j : Nat) (r : Rs) (rw re : R) : Out := match r with
  | .ok ds => (match lls ds with
    | some dss => if dss.length ≤ most ∧ i < Γ.length ∧ j < Γ.length then (match rw with
      | .ok (.int n) => (match re with
        | .ok d => (match ixN dss.length n with
          | some k => (match dss[k]? with
            | some xs => if xs.length < most then .nx (Γ.set i (.own ((dss.set k (xs ++ [d])).map .list))) else .un
            | none => .un)
          | none => .un)
        | _ => .un)
      | _ => .un) else .un
    | none => .un)
  | _ => .un
def stD (Γ : List Sl) (i j : Nat) (r : Rs) (rw rk re : R) : Out := match r with
  | .ok ds => (match lls ds with
    | some dss => if dss.length ≤ most ∧ i < Γ.length ∧ j < Γ.length then (match re with
      | .ok d => (match rw with
        | .ok (.int n) => (match rk with
          | .ok (.int m) => (match ixN dss.length n with
            | some k => (match dss[k]? with
              | some xs => (match ixN xs.length m with
                | some q => .nx (Γ.set i (.own ((dss.set k (xs.set q d)).map .list)))
                | none => .un)
              | none => .un)
            | none => .un)
          | _ => .un)
        | _ => .un)
      | _ => .un) else .un
    | none => .un)
  | _ => .un
mutual
def ex (E : Evn) : CS → List Sl → Out
  | .pass, Γ => .nx Γ
  | .set i e, Γ => ofR (ev E e Γ) Γ fun d => setS Γ i (.sh d)
  | .setO i e, Γ => ofR (evF E e Γ) Γ fun ds => setS Γ i (.own ds)
  | .setT is e, Γ => ofR (ev E e Γ) Γ fun d => (match asg (.tp is) d Γ with
    | some Γ' => .nx Γ'
    | none => .un)
  | .par i j a b, Γ => ofR (ev E a Γ) Γ fun x => ofR (ev E b Γ) Γ fun y => if i ≠ j ∧ i < Γ.length ∧ j < Γ.length then .nx ((Γ.set i (.sh x)).set j (.sh y)) else .un
  | .aug i o e, Γ => ofR (slV Γ[i]?) Γ fun x => ofR (ev E e Γ) Γ fun y => ofR (binD o x y) Γ fun z => (match x, y with
    | .int _, .int _ => setS Γ i (.sh z)
    | _, _ => .un)
  | .app i e, Γ => (match Γ[i]? with
    | some (.own ds) => ofR (ev E e Γ) Γ fun d => if ds.length < most then .nx (Γ.set i (.own (ds ++ [d]))) else .un
    | _ => .un)
  | .six i k e, Γ => (match Γ[i]? with
    | some (.own ds) => ofR (ev E e Γ) Γ fun d => ofR (ev E k Γ) Γ fun x => ofR (asInt x) Γ fun n => (match ixN ds.length n with
      | some j => .nx (Γ.set i (.own (ds.set j d)))
      | none => .un)
    | _ => .un)
  | .augS i k e, Γ => (match Γ[i]? with
    | some (.own ds) => ofR (ev E k Γ) Γ fun x => ofR (asInt x) Γ fun n => ofR (atD ds n) Γ fun o => ofR (asInt o) Γ fun a => ofR (ev E e Γ) Γ fun y => ofR (asInt y) Γ fun b => (match ixN ds.length n with
      | some j => .nx (Γ.set i (.own (ds.set j (.int (a + b)))))
      | none => .un)
    | _ => .un)
  | .newD1 i k e, Γ => ofR (ev E k Γ) Γ fun x => ofR (asKey x) Γ fun q => ofR (ev E e Γ) Γ fun d => setS Γ i (.dk [(q, d)])
  | .mvD i j, Γ => (match Γ[j]? with
    | some (.dk kvs) => if i ≠ j ∧ i < Γ.length then .nx ((Γ.set j .non).set i (.dk kvs)) else .un
    | _ => .un)
  | .try2 bd c su c2 su2, Γ => (match exs E bd Γ with
    | .xc d Γ1 => if E.sub d d = true then (if E.sub d c = true then offX none (exs E su Γ1) else if E.sub d c2 = true then offX none (exs E su2 Γ1) else .xc d Γ1) else .un
    | o => o)
  | .tryR g i c d, Γ => ofR (slV Γ[i]?) Γ fun x => (match E.F g [x] with
    | .ok _ => .nx Γ
    | .error (some c') => if E.sub c' c' = true then (if E.sub c' c = true then .xc d Γ else .xc c' Γ) else .un
    | .error none => .un)
  | .newD i t, Γ => if t = true then .un else setS Γ i (.dk [])
  | .dput i k e, Γ => (match Γ[i]? with
    | some (.dk kvs) => ofR (ev E e Γ) Γ fun d => ofR (ev E k Γ) Γ fun x => ofR (asKey x) Γ fun q => if kvs.length < most then .nx (Γ.set i (.dk (putD kvs q d))) else .un
    | _ => .un)
  | .ret e, Γ => ofR (ev E e Γ) Γ fun d => .rt d
  | .retN, _ => .rt .none
  | .retF e, Γ => ofR (evF E e Γ) Γ fun ds => .rf ds
  | .retO i, Γ => (match Γ[i]? with
    | some (.own ds) => .rf ds
    | _ => .un)
  | .retC f es, Γ => ofR ((evs E es Γ).bind fun ds => E.F f ds) Γ rtC
  | .setC i f es, Γ => ofR ((evs E es Γ).bind fun ds => E.F f ds) Γ fun d => setS Γ i (ownC d)
  | .appC f es e, Γ => ofR ((evs E es Γ).bind fun ds => E.F f ds) Γ fun d => (match d with
    | .list ds => if ds.length < most then ofR (ev E e Γ) Γ (fun _ => .nx Γ) else .un
    | _ => .un)
  | .iff c a b, Γ => ofR (ev E c Γ) Γ fun d => (match d with
    | .bool true => exs E a Γ
    | .bool false => exs E b Γ
    | _ => .un)
  | .iffB is c a b, Γ => ofR (ev E c (frzs is Γ)) Γ fun d => (match d with
    | .bool true => exs E a Γ
    | .bool false => exs E b Γ
    | _ => .un)
  | .setB is i e, Γ => ofR (ev E e (frzs is Γ)) Γ fun d => if scal d = true then setS Γ i (.sh d) else .un
  | .for tg it bd, Γ => ofR (evI E it Γ) Γ fun ds => forL (fun d Γ => asg tg d Γ) (fun Γ => exs E bd Γ) ds Γ
  | .whl n c bd, Γ => whL (fun Γ => ev E c Γ) (fun Γ => exs E bd Γ) n Γ
  | .brk, Γ => .bk Γ
  | .cnt, Γ => .ct Γ
  | .raise c, Γ => .xc c Γ
  | .try_ bd c x su, Γ => (match exs E bd Γ with
    | .xc d Γ1 => if E.sub d d = true then (if E.sub d c = true then (match x with
        | none => offX none (exs E su Γ1)
        | some i => if i < Γ1.length then offX (some i) (exs E su (Γ1.set i (.exc d))) else .un)
      else .xc d Γ1) else .un
    | o => o)
  | .expr e, Γ => ofR (ev E e Γ) Γ fun _ => .nx Γ
  | .apN i j it w e, Γ => apD Γ i j (evI E it Γ) (ev E w (Γ.set i .non)) (ev E e (Γ.set i .non))
  | .stN i j it w kk e, Γ => stD Γ i j (evI E it Γ) (ev E w (Γ.set i .non)) (ev E kk (Γ.set i .non)) (ev E e (Γ.set i .non))
def exs (E : Evn) : CSs → List Sl → Out
  | .nil, Γ => .nx Γ
  | .cons s ss, Γ => (match ex E s Γ with
    | .nx Γ1 => exs E ss Γ1
    | .rt d => .rt d
    | .rf ds => .rf ds
    | .bk Γ => .bk Γ
    | .ct Γ => .ct Γ
    | .xc c Γ => .xc c Γ
    | .un => .un)
  | .frz i ss, Γ => (match Γ[i]? with
    | some (.own ds) => exs E ss (Γ.set i (.sh (.list ds)))
    | _ => exs E ss Γ)
end
end Dee

set_option maxRecDepth 100000
set_option maxHeartbeats 2000000
/-! Dee, between 4 and 5: repr of a pair of long numbers, where no bound of digits was set. -/
namespace Dee
open PySem PySem.Spec PyProof.Rows L2 PySem.Builtin.Int
section
variable {prog : Program} {w : World} {A : Around} {Eo : Value → Shared → Prop} {s : Shared} {a : Int} {t : Tok}
theorem long_lt (h : a.natAbs.log2 < 12000) : a.natAbs < 10 ^ 4300 := Nat.lt_of_lt_of_le (lt_of_log2 (Nat.lt_trans h (show 12000 < 12900 by decide))) pow_lo
theorem over_none {M : Model} {Q : Option Nat → Shared → Prop} (hn : s.heap.NoDigits) (h : a.natAbs.log2 < 12000) (q : Q none s) : wpAny M A (Builtin.overDigitLimit? a) Q Eo s :=
  overDigitLimit_any hn (fun _ => q) fun z => absurd (long_lt h) (Nat.not_lt.mpr z)
theorem long_obj {Q : Value → Shared → Prop} (hn : s.heap.NoDigits) (h : a.natAbs.log2 < 12000) (room : A.units < cLine) (q : Q (.str (toString a) s.toks) { s with toks := s.toks + 1 }) :
    wpAny (model prog w) A (pyReprObj (.int a t)) Q Eo s := by
  have fits := int_text_fits10 (long_lt h)
  refine wpAny_pyReprObj_slot room (typeIs_int s a t) F.slot_int_repr.toG ?_
  refine wpAny_call_entry F.slot_int_repr (typeIs_int s a t) F.entry_int_repr ?_ (F.args_int_repr_1 _)
  unfold Builtin.«int.__repr__»
  show wpAny _ _ (do let z ← Builtin.overDigitLimit? a; _) _ _ s
  exact wpAny_bind (over_none hn h (wpAny_bind (wpAny_mkStr (wpAny_pure ⟨_, rfl, _, _, rfl, q⟩) fits)))
theorem long_k {h0 : Heap} (hn : h0.NoDigits) (h : a.natAbs.log2 < 12000) : ReprK prog w [] h0 0 (.int a t) (toString a) := by
  intro lo fit B g Ez z Q _ _ room old q
  have e := pyReprUnder_leaf (b := lo) (v := .int a t) (by omega) (fun _ => nofun)
  rw [e]
  unfold pyRepr
  exact wpAny_bind (long_obj (hn.keeps old) h (by omega) (wpAny_pure (q z.heap _ fun _ _ y => y)))
/-- .. of the pair -/
theorem long_pair {r : Addr} {b : Int} {as : List Addr} {Q : Value → Shared → Prop} (hn : s.heap.NoDigits) (rd : Reads s.heap (.ref r) (.tuple [.int a, .int b]) as) (h1 : a.natAbs.log2 < 12000) (h2 : b.natAbs.log2 < 12000)
    (fits : (PyData.shown (.tuple [.int a, .int b])).length ≤ sizeLine) (hg : A.guards = some []) (room : A.units + 200 < cLine)
    (q : ∀ h' u tk, (∀ b o, s.heap.get? b = some o → h'.get? b = some o) → Q (.str (PyData.shown (.tuple [.int a, .int b])) u) { s with heap := h', toks := tk }) :
    wpAny (model prog w) A (call (.builtin "repr") [.ref r]) Q Eo s := by
  cases rd with
  | tuple g1 g2 g3 g4 =>
    rename_i o vs n
    have all : ReprAllK prog w [] s.heap 0 vs.toList [toString a, toString b] := by
      revert g4
      generalize vs.toList = l
      intro g4
      cases g4 with
      | cons r1 rs =>
        cases rs with
        | cons r2 rn =>
          cases rn
          obtain ⟨t1, rfl, _⟩ := reads_int_inv r1
          obtain ⟨t2, rfl, _⟩ := reads_int_inv r2
          exact .cons (long_k hn h1) (.cons (long_k hn h2) .nil)
    have e : PyData.shown (.tuple [.int a, .int b]) = tupleText [toString a, toString b] := by simp only [PyData.shown, PyData.shownAll]
    rw [e] at fits q
    exact call_repr_slot (by omega) ⟨o, g1, g2⟩ F.slot_tuple_repr (call_tuple_reprK g1 g2 g3 (by simp) all (A := A.in1) (g := []) hg (fun b _ => Clear.nil b) (by show A.units + 1 + 1 < cLine; omega) (fun _ _ y => y)
      (fun h' u tk hk => ⟨_, _, rfl, q h' u tk hk⟩) fits)
end
end Dee

set_option maxRecDepth 100000
set_option maxHeartbeats 4000000
/-! Dee, part 5: the look at a piece of the text, and the context in which its terms are sound. -/
namespace Dee
open PySem PySem.Spec PyProof.Rows L2

/-- what the top holds: functions, classes, constants by their places; built-in names that it leaves alone; math's gcd -/
structure Tab where
  fns : List Str
  cls : List Str
  con : List Str
  blt : List Str
  gcd : Bool
  frs : List Nat := []
  nb : Bool := false
  nfs : List Nat := []
/-- which defs may be called -/
def Tab.may (T : Tab) (f : Nat) : Bool := !T.nb || T.nfs.contains f
def isNm (N : List Str) (i : Nat) (x : Str) : Bool := decide (N[i]? = some x)
def visB (sc : Scope) (x : Str) : Bool := match sc.names.lookup x with
  | some .local => true
  | some .cell => true
  | some .free => true
  | _ => false
def locB (sc : Scope) (x : Str) : Bool := match sc.names.lookup x with
  | some .local => true
  | some .cell => true
  | _ => false
def glbB (sc : Scope) (x : Str) : Bool := decide (sc.names.lookup x = some .globalImplicit)
def nmOk (x : Str) : Bool := !(x == ("__debug__" : Str)) && !(x == ("__classdict__" : Str)) && !(x == ("__name__" : Str))
def notStar : Expr → Bool
  | .Starred _ _ => false
  | _ => true
def notSl : Expr → Bool
  | .Slice _ _ _ _ => false
  | _ => true
def notSet : Expr → Bool
  | .Set _ _ _ => false
  | _ => true
def notCall : Expr → Bool
  | .Call _ _ _ _ => false
  | _ => true
def notComp : Expr → Bool
  | .ListComp _ _ _ _ => false
  | .SetComp _ _ _ _ => false
  | .DictComp _ _ _ _ _ => false
  | _ => true
inductive BK where
  | fn (id : String) | ty (id : String) | gcd | isi (t : Ik)
def Bl.kind : Bl → BK
  | .len => .fn "len" | .abs => .fn "abs" | .max2 => .fn "max" | .min2 => .fn "min" | .max1 => .fn "max" | .max3 => .fn "max" | .sum => .fn "sum" | .any => .fn "any" | .all => .fn "all" | .gcd => .gcd | .repr => .fn "repr"
  | .int => .ty "int" | .str => .ty "str" | .list => .ty "list" | .sorted => .fn "sorted" | .isTup => .isi .tup | .isBool => .isi .bool | .isInt => .isi .int | .isLst => .isi .list | .isStr => .isi .str
def Bl.ar : Bl → Nat
  | .max2 => 2 | .min2 => 2 | .gcd => 2 | .max3 => 3 | _ => 1
/-- what asks that no exception is being handled -/
def Bl.calm : Bl → Bool
  | .max2 => true | .min2 => true | .max1 => true | .max3 => true | .sum => true | .any => true | .all => true | .sorted => true | _ => false
def ownOf (N : List Str) (vs : List Nat) : List (Str × Nat) := vs.map fun i => (N.getD i Str.empty, i)
/-- a target in a def (none), in a comprehension's block -/
def flB (fl : Option Scope) (sc : Scope) (x : Str) : Bool := match fl with
  | none => true
  | some s => (s.names.lookup x == some .cell) || decide (sc.names.lookup x = some .local)
def ckNm (N : List Str) (fl : Option Scope) (sc : Scope) (i : Nat) (e : Expr) : Bool := match e with
  | .Name x _ => isNm N i x && locB sc x && flB fl sc x && nmOk x
  | _ => false
def ckNms (N : List Str) (fl : Option Scope) (sc : Scope) : List Nat → List Expr → Bool
  | [], [] => true
  | i :: is, e :: es => ckNm N fl sc i e && ckNms N fl sc is es
  | _, _ => false
def ckTg (N : List Str) (fl : Option Scope) (sc : Scope) (cm : Bool) : Tg → Expr → Bool
  | .nm i, e => ckNm N fl sc i e
  | .tp is, .Tuple es _ _ => cm && ckNms N fl sc is es
  | .tp _, _ => false
def Tg.all : Tg → List Nat
  | .nm i => [i]
  | .tp is => is
def Tg.isTup : Tg → Bool
  | .nm _ => false
  | .tp _ => true

/-- a class by its name -/
def ckX (T : Tab) (sc : Scope) : Option Nat → Expr → Bool
  | none, .Name y _ => decide (y = Str.ofString "ValueError") && T.blt.contains y && glbB sc y
  | some c, .Name y _ => decide (T.cls[c]? = some y) && glbB sc y && nmOk y
  | _, _ => false
def ckXs (T : Tab) (sc : Scope) : List (Option Nat) → List Expr → Bool
  | [], [] => true
  | c :: cs, e :: es => ckX T sc c e && ckXs T sc cs es
  | _, _ => false
mutual
def ckE (T : Tab) (N : List Str) : CE → Scope → Bool → Expr → Bool
  | .var i, sc, cm, e => (match e with
    | .Name x _ => isNm N i x && visB sc x && nmOk x
    | _ => false)
  | .int i, sc, cm, e => (match e with
    | .Constant (.int j) _ _ => decide (i = j)
    | _ => false)
  | .bl b, sc, cm, e => (match e with
    | .Constant (.bool c) _ _ => decide (b = c)
    | _ => false)
  | .non, sc, cm, e => (match e with
    | .Constant .none _ _ => true
    | _ => false)
  | .str s, sc, cm, e => (match e with
    | .Constant (.str t) _ _ => decide (s = t)
    | _ => false)
  | .glob g, sc, cm, e => (match e with
    | .Name x _ => decide (T.con[g]? = some x) && glbB sc x && nmOk x
    | _ => false)
  | .bin o a b, sc, cm, e => (match e with
    | .BinOp l p r _ => decide (p = o.op) && ckE T N a sc cm l && ckE T N b sc cm r
    | _ => false)
  | .neg a, sc, cm, e => (match e with
    | .UnaryOp .USub x _ => ckE T N a sc cm x
    | _ => false)
  | .cmp o a b, sc, cm, e => (match e with
    | .Compare l [p] [r] _ => decide (p = o.op) && ckE T N a sc cm l && ckE T N b sc cm r && notSet r
    | _ => false)
  | .chn o o' a b c, sc, cm, e => (match e with
    | .Compare l [p, q] [m, r] _ => decide (p = o.op) && decide (q = o'.op) && ckE T N a sc cm l && ckE T N b sc cm m && ckE T N c sc cm r && notSet m && notSet r
    | _ => false)
  | .and a b, sc, cm, e => (match e with
    | .BoolOp .And (x :: y :: r) p => ckE T N a sc cm x && ckE T N b sc cm (.BoolOp .And (y :: r) p)
    | _ => false)
  | .or a b, sc, cm, e => (match e with
    | .BoolOp .Or (x :: y :: r) p => ckE T N a sc cm x && ckE T N b sc cm (.BoolOp .Or (y :: r) p)
    | _ => false)
  | .one a, sc, cm, e => (match e with
    | .BoolOp _ [x] _ => ckE T N a sc cm x
    | _ => false)
  | .not a, sc, cm, e => (match e with
    | .UnaryOp .Not x _ => ckE T N a sc cm x
    | _ => false)
  | .ife c a b, sc, cm, e => (match e with
    | .IfExp t x y _ => ckE T N c sc cm t && okT c && ckE T N a sc cm x && ckE T N b sc cm y
    | _ => false)
  | .tup es, sc, cm, e => (match e with
    | .Tuple xs _ _ => ckEs T N es sc cm xs
    | _ => false)
  | .lst es, sc, cm, e => (match e with
    | .List xs _ => ckEs T N es sc cm xs
    | _ => false)
  | .idx a b, sc, cm, e => (match e with
    | .Subscript v s _ => ckE T N a sc cm v && ckE T N b sc cm s && notSl s
    | _ => false)
  | .sl a lo hi, sc, cm, e => (match e with
    | .Subscript v (.Slice l h none _) _ => ckE T N a sc cm v && ckO T N lo sc cm l && ckO T N hi sc cm h
    | _ => false)
  | .rev a, sc, cm, e => (match e with
    | .Subscript v (.Slice none none (some (.UnaryOp .USub (.Constant (.int 1) _ _) _)) _) _ => ckE T N a sc cm v
    | _ => false)
  | .lrev a, sc, cm, e => (match e with
    | .Call (.Name l _) [.Call (.Name r _) [p] [] _] [] _ => cm && decide (l = Str.ofString "list") && decide (r = Str.ofString "reversed") && T.blt.contains l && T.blt.contains r && glbB sc l && glbB sc r && notStar p && ckE T N a sc cm p
    | _ => false)
  | .call f es, sc, cm, e => (match e with
    | .Call (.Name x _) (a :: r) [] _ => cm && T.may f && decide (T.fns[f]? = some x) && glbB sc x && nmOk x && ckEs T N es sc cm (a :: r)
    | _ => false)
  | .blt o es, sc, cm, e => (match e with
    | .Call (.Name x _) (a :: r) [] _ => glbB sc x && nmOk x && decide (r.length + 1 = o.ar ∨ (r.length = 1 ∧ o.ar = 1)) && (match o.kind with
      | .fn id => (!o.calm || cm) && decide (x = Str.ofString id) && T.blt.contains x && decide (r.length + 1 = o.ar) && ckEs T N es sc cm (a :: r)
      | .ty id => decide (x = Str.ofString id) && T.blt.contains x && decide (r.length + 1 = o.ar) && ckEs T N es sc cm (a :: r)
      | .gcd => decide (x = Str.ofString "gcd") && T.gcd && decide (r.length + 1 = o.ar) && ckEs T N es sc cm (a :: r)
      | .isi t => decide (x = Str.ofString "isinstance") && T.blt.contains x && (match r with
        | [.Name y _] => decide (y = Str.ofString t.name) && T.blt.contains y && glbB sc y && nmOk y && ckEs T N es sc cm [a]
        | _ => false))
    | _ => false)
  | .bits a, sc, cm, e => (match e with
    | .Call (.Attribute o m ap) [] [] p => decide (m = Str.ofString "bit_length") && (ap.endLine == p.line) && notCall o && ckE T N a sc cm o
    | _ => false)
  | .lc vs tg it co el, sc, cm, e => (match e with
    | .ListComp x [⟨t, i, ifs, 0⟩] s _ => cm && blkC N sc s (ownOf N vs) && ckTg N (some s) (relS s sc) cm tg t && tg.all.all (fun j => vs.contains j) && ckI T N it sc cm tg.isTup i && notSet i
      && ckC T N co (relS s sc) cm ifs && ckE T N el (relS s sc) cm x
    | _ => false)
  | .lc2 vs vs1 tg it co tg1 it1 co1 el, sc, cm, e => (match e with
    | .ListComp x [⟨t, i, ifs, 0⟩, ⟨t1, i1, ifs1, 0⟩] s _ => cm && blkC N sc s (ownOf N vs) && vs1.all (fun j => vs.contains j) && ckTg N (some s) (relS s sc) cm tg t && tg.all.all (fun j => vs.contains j) && ckI T N it sc cm tg.isTup i && notSet i
      && ckC T N co (relS s sc) cm ifs && ckTg N (some s) (relS s sc) cm tg1 t1 && tg1.all.all (fun j => vs1.contains j) && ckI T N it1 (relS s sc) cm tg1.isTup i1 && notSet i1 && ckC T N co1 (relS s sc) cm ifs1 && ckE T N el (relS s sc) cm x
    | _ => false)
  | .oidx i b, sc, cm, e => (match e with
    | .Subscript (.Name x _) s _ => isNm N i x && visB sc x && nmOk x && ckE T N b sc cm s && notSl s
    | _ => false)
  | .olen i, sc, cm, e => (match e with
    | .Call (.Name l _) [.Name x _] [] _ => decide (l = Str.ofString "len") && T.blt.contains l && glbB sc l && isNm N i x && visB sc x && nmOk x
    | _ => false)
  | .isx i tup cs, sc, cm, e => (match e with
    | .Call (.Name l _) [.Name x _, c] [] _ => decide (l = Str.ofString "isinstance") && T.blt.contains l && glbB sc l && isNm N i x && visB sc x && nmOk x && (match tup, cs, c with
      | false, [d], c => ckX T sc d c
      | true, cs, .Tuple es _ _ => decide (cs.length ≤ 16) && ckXs T sc cs es
      | _, _, _ => false)
    | _ => false)
  | .kget i k d, sc, cm, e => (match e with
    | .Call (.Attribute (.Name x _) m ap) [y, z] [] p => decide (m = Str.ofString "get") && (ap.endLine == p.line) && isNm N i x && visB sc x && nmOk x && notStar y && notStar z && ckE T N k sc cm y && ckE T N d sc cm z
    | _ => false)
  | .kat i k, sc, cm, e => (match e with
    | .Subscript (.Name x _) s _ => isNm N i x && visB sc x && nmOk x && ckE T N k sc cm s && notSl s
    | _ => false)
  | .kin neg i k, sc, cm, e => (match e with
    | .Compare l [p] [.Name x _] _ => decide (p = if neg then .NotIn else .In) && ckE T N k sc cm l && isNm N i x && visB sc x && nmOk x
    | _ => false)
  | .ksort i, sc, cm, e => (match e with
    | .Call (.Name l _) [.Name x _] [] _ => cm && decide (l = Str.ofString "sorted") && T.blt.contains l && glbB sc l && isNm N i x && visB sc x && nmOk x
    | _ => false)
def ckEs (T : Tab) (N : List Str) : CEs → Scope → Bool → List Expr → Bool
  | .nil, sc, cm, es => (match es with
    | [] => true
    | _ => false)
  | .cons c cs, sc, cm, es => (match es with
    | e :: es => notStar e && ckE T N c sc cm e && ckEs T N cs sc cm es
    | _ => false)
def ckO (T : Tab) (N : List Str) : CEs → Scope → Bool → Option Expr → Bool
  | .nil, sc, cm, e => (match e with
    | none => true
    | _ => false)
  | .cons c _, sc, cm, e => (match e with
    | some e => ckE T N c sc cm e
    | none => false)
def ckC (T : Tab) (N : List Str) : CEs → Scope → Bool → List Expr → Bool
  | .nil, sc, cm, es => (match es with
    | [] => true
    | _ => false)
  | .cons c _, sc, cm, es => (match es with
    | [e] => ckE T N c sc cm e && okT c
    | _ => false)
def ckI (T : Tab) (N : List Str) : CI → Scope → Bool → Bool → Expr → Bool
  | .of c, sc, cm, tp, e => ckE T N c sc cm e
  | .r1 a, sc, cm, tp, e => (match e with
    | .Call (.Name x _) [p] [] _ => decide (x = Str.ofString "range") && T.blt.contains x && glbB sc x && notStar p && ckE T N a sc cm p
    | _ => false)
  | .r2 a b, sc, cm, tp, e => (match e with
    | .Call (.Name x _) [p, q] [] _ => decide (x = Str.ofString "range") && T.blt.contains x && glbB sc x && notStar p && notStar q && ckE T N a sc cm p && ckE T N b sc cm q
    | _ => false)
  | .r3 a b c, sc, cm, tp, e => (match e with
    | .Call (.Name x _) [p, q, r] [] _ => decide (x = Str.ofString "range") && T.blt.contains x && glbB sc x && notStar p && notStar q && notStar r && ckE T N a sc cm p && ckE T N b sc cm q && ckE T N c sc cm r
    | _ => false)
  | .en a, sc, cm, tp, e => (match e with
    | .Call (.Name x _) [p] [] _ => tp && decide (x = Str.ofString "enumerate") && T.blt.contains x && glbB sc x && notStar p && ckE T N a sc cm p
    | _ => false)
  | .zip a b, sc, cm, tp, e => (match e with
    | .Call (.Name x _) [p, q] [] _ => tp && decide (x = Str.ofString "zip") && T.blt.contains x && glbB sc x && notStar p && notStar q && ckE T N a sc cm p && ckE T N b sc cm q
    | _ => false)
  | .rv a, sc, cm, tp, e => (match e with
    | .Call (.Name x _) [p] [] _ => decide (x = Str.ofString "reversed") && T.blt.contains x && glbB sc x && notStar p && ckE T N a sc cm p
    | _ => false)
/-- a term that may stand as a test -/
def okT : CE → Bool
  | .and a b => okT a && okT b
  | .or a b => okT a && okT b
  | .one a => okT a
  | .not a => okT a
  | .ife _ _ _ => false
  | .chn _ _ _ _ _ => true
  | _ => true
end

/-- an own exception class -/
structure ClsOk (X : Cx) (x : Str) (C : Addr) : Prop where
  g : X.mg x = some (.ref C)
  k : PySem.W.keepIn X.K (.ref C) = true
  ex : PySem.W.excIn X.K C [.type "ValueError", .type "Exception", .type "BaseException", .type "object"] "ValueError.__new__" = true
  r : Raises X (.ref C)
/-- isinstance of the error at a, of the class D -/
def rIx (X : Cx) (D a : Addr) : List V → Hp → VK → Prop := fun xs H Q => (∃ (c : V) (u : Value) (b : Bool), xs = [.ref a, c] ∧ ClsV c u ∧ PySem.W.kitOne X.K (.ref D) u = some b ∧ Q (.bl b) H) ∨
  ∃ (tp : Addr) (cs : List V) (us : List Value) (b : Bool), xs = [.ref a, .ref tp] ∧ H tp = some (.tup cs) ∧ Paired ClsV cs us ∧ PySem.W.kitAny X.K (.ref D) us = some b ∧ Q (.bl b) H
def IsE (X : Cx) (D a : Addr) : Prop := CallR X (.builtin "isinstance") (rIx X D a)
def clU (cl : Nat → Addr) : Option Nat → Value
  | none => .type "ValueError"
  | some c => .ref (cl c)

structure Sta (T : Tab) (E : Evn) (f : Fm) (W : WX) (k : Nat) (N : List Str) (sc : Scope) (fl : Option Scope) (cm : Bool) (X : Cx) : Prop where
  hK : X.K = f.K
  hN : X.N = N
  nd : N.Nodup
  hsc : X.env.scope = sc
  fn : ∀ x, (match fl with
    | none => true
    | some s => s.names.lookup x == some .cell) = true → X.fn x = true
  un : X.A.units + 200 < cLine
  gd : X.A.guards = some []
  dg : X.base.NoDigits
  hcm : cm = true → X.calm = true ∧ Room k X.A
  tk : TkB T.nb X W
  fns : ∀ (i : Nat) (x : Str), T.fns[i]? = some x → T.may i = true → ∃ a fd ps, X.mg x = some (.ref a) ∧ PySem.W.keepIn X.K (.ref a) = true ∧ Binds X.K fd ps [] ∧ FnG T.nb X.prog X.w X.K X.mg X.base k a fd ps (spD X.K f.cl ps.length (E.F i)) ∧ (T.frs.contains i = true → FnG T.nb X.prog X.w X.K X.mg X.base k a fd ps (spF X.K f.cl ps.length (E.F i))) ∧ ∀ ds, ds.length ≠ ps.length → E.F i ds = unk
  con : ∀ (i : Nat) (x : Str), T.con[i]? = some x → ∃ u v d, X.mg x = some u ∧ RelV v u ∧ E.G i = some d ∧ ∀ H, Dp X.K H v d
  blt : ∀ x, T.blt.contains x = true → X.mg x = none
  gcd : T.gcd = true → X.mg "gcd" = some (.builtin "math.gcd")
  xis : ∀ a c, f.xa a c → IsE X (f.cl c) a
  kit : ∀ (d : Nat) (o : Option Nat), (∃ x, T.cls[d]? = some x) → (∀ c, o = some c → ∃ x, T.cls[c]? = some x) → PySem.W.kitOne X.K (.ref (f.cl d)) (clU f.cl o) = some (isaX E.sub d o)
  cls : ∀ (c : Nat) (x : Str), T.cls[c]? = some x → ClsOk X x (f.cl c)
  xat : ∀ a c, f.xa a c → ∃ x, T.cls[c]? = some x
  xno : cm = true → ∀ a c, ¬ f.xa a c

section
variable {T : Tab} {E : Evn} {f : Fm} {W : WX} {k : Nat} {N : List Str} {sc : Scope} {fl : Option Scope} {cm : Bool} {X : Cx}
theorem Sta.blk (S : Sta T E f W k N sc fl true X) {s : Shared} {H : Hp} {scope : Scope} {C : Addr} {cl : List (Str × Addr)} {fp : List Addr} :
    Sta T E f (fun _ _ _ _ => False) k N (relS scope sc) (some scope) true (X.blk s H scope (compEnvC scope cl C X.env) fp) where
  hK := S.hK
  hN := S.hN
  nd := S.nd
  hsc := by
    have e := S.hsc
    show relS scope X.env.scope = _
    rw [e]
  fn := fun x h => h
  un := S.un
  gd := S.gd
  dg := S.dg
  hcm := S.hcm
  tk := takes0B
  fns := S.fns
  con := S.con
  blt := S.blt
  gcd := S.gcd
  xis := fun a c h => absurd h (S.xno rfl a c)
  kit := S.kit
  cls := fun c x h => ⟨(S.cls c x h).g, (S.cls c x h).k, (S.cls c x h).ex, (S.cls c x h).r⟩
  xat := S.xat
  xno := S.xno

/-! ### names -/
theorem vis_of {sc : Scope} {x : Str} (h : visB sc x = true) : Vis sc x := by
  unfold visB at h
  split at h
  · rename_i e; exact .inl e
  · rename_i e; exact .inr (.inl e)
  · rename_i e; exact .inr (.inr e)
  · cases h
theorem loc_of {sc : Scope} {x : Str} (h : locB sc x = true) : Loc sc x := by
  unfold locB at h
  split at h
  · rename_i e; exact .inl e
  · rename_i e; exact .inr e
  · cases h
theorem nm_of {x : Str} (h : nmOk x = true) : (x == ("__debug__" : Str)) = false ∧ (x == ("__classdict__" : Str)) = false ∧ x ≠ "__name__" := by
  unfold nmOk at h
  simp only [Bool.and_eq_true, Bool.not_eq_true'] at h
  exact ⟨h.1.1, h.1.2, fun e => by have z := h.2; rw [e] at z; simp at z⟩
theorem Sta.gl (S : Sta T E f W k N sc fl cm X) {x : Str} (h : glbB sc x = true) : Gl X x := by
  show X.env.scope.names.lookup x = _
  rw [S.hsc]
  exact of_decide_eq_true h
theorem star_cons {e : Expr} (h : notStar e = true) (es : List Expr) (env : Env) : starEach (e :: es) env = (false, eval e env) :: starEach es env := by
  cases e <;> first | rfl | cases h
theorem base_of {o : Expr} (h : notCall o = true) (m : Str) (env : Env) : attributeBase o m env (eval o env) = eval o env := by
  cases o <;> first | rfl | cases h
theorem fold_of {e : Expr} (h : notSet e = true) (env : Env) (x : Value) : foldedSetIterable e env x = pure x := by
  cases e <;> first | rfl | cases h
theorem mark_of {e : Expr} (h : notSet e = true) (op : CmpOp) : behindInMarks op e = false := by
  cases e <;> first | rfl | cases h
theorem plain_of {e : Expr} (h : notSl e = true) : PlainIx e := by
  intro o i
  cases e <;> first | rfl | cases h
theorem swaps_of {e : Expr} (h : notComp e = true) (t : Option Expr) (l : Nat) (env : Env) : swapsWith e t l env = pure false := by
  cases e <;> first | rfl | cases h
end
end Dee

set_option maxRecDepth 100000
set_option maxHeartbeats 4000000
/-! Dee, part 6: each form of an expression. -/
namespace Dee
open PySem PySem.Spec PyProof.Rows L2

section
variable {f : Fm} {W : WX} {Γ : List Sl} {X : Cx}

/-! ### names, constants -/
theorem d_var {i : Nat} {x : Str} {pos : Pos} (hN : X.N[i]? = some x) (hv : Vis X.env.scope x) (h1 : (x == ("__debug__" : Str)) = false) (h2 : (x == ("__classdict__" : Str)) = false) : PE X (.Name x pos) (tV f W Γ (slV Γ[i]?)) := by
  refine (L2.pe_var (i := i) hN hv h1 h2).imp fun σ H Q ⟨H0, h⟩ => ?_
  cases e : Γ[i]? with
  | none =>
    rw [e] at h
    exact h.2.elim
  | some s =>
    rw [e] at h
    cases s with
    | sh d =>
      obtain ⟨o, eo, v, ev, hv⟩ := h.1.sl i _ e
      subst ev
      exact ⟨v, eo, h.ok hv⟩
    | _ => exact h.2.elim
theorem d_const {e : Expr} {v : V} {d : D} (h : PE X e (tC v)) (hd : ∀ H, Dp f.K H v d) : PE X e (tV f W Γ (.ok d)) := h.imp fun σ H Q ⟨H0, h⟩ => h.ok (hd H0)

/-! ### operators -/
theorem binD_no (o : Bin) (x y : D) (c : Nat) : binD o x y ≠ .error (some c) := by
  intro h
  unfold binD at h
  repeat' (first | (cases h; done) | split at h)
theorem map_no {α β : Type} {x : Except (Option Nat) α} {g : α → β} {c : Nat} (h : x ≠ .error (some c)) : x.map g ≠ .error (some c) := by
  intro z
  cases x with
  | ok a => cases z
  | error e => cases e with
    | none => cases z
    | some d => exact h (by cases z; rfl)
theorem eqD_no (x y : D) (c : Nat) : eqD x y ≠ .error (some c) := by
  intro h
  unfold eqD at h
  repeat' (first | (cases h; done) | split at h)
theorem intB_no (p : Int → Int → Bool) (x y : D) (c : Nat) : intB p x y ≠ .error (some c) := by
  intro h
  unfold intB at h
  repeat' (first | (cases h; done) | split at h)
theorem inB_no (x y : D) (c : Nat) : inB x y ≠ .error (some c) := by
  intro h
  unfold inB at h
  repeat' (first | (cases h; done) | split at h)
theorem isB_no (x y : D) (c : Nat) : isB x y ≠ .error (some c) := by
  intro h
  unfold isB at h
  repeat' (first | (cases h; done) | split at h)
theorem cmpB_no (o : Cm) (x y : D) (c : Nat) : cmpB o x y ≠ .error (some c) := by
  cases o with
  | eq => exact eqD_no x y c
  | ne => exact map_no (eqD_no x y c)
  | lt => exact intB_no _ x y c
  | le => exact intB_no _ x y c
  | gt => exact intB_no _ x y c
  | ge => exact intB_no _ x y c
  | isn => exact isB_no x y c
  | notn => exact map_no (isB_no x y c)
  | inn => exact inB_no x y c
  | nin => exact map_no (inB_no x y c)
theorem cmpD_no (o : Cm) (x y : D) (c : Nat) : cmpD o x y ≠ .error (some c) := map_no (cmpB_no o x y c)
theorem bind_no {α β : Type} {x : Except (Option Nat) α} {g : α → Except (Option Nat) β} {c : Nat} (h : x ≠ .error (some c)) (hg : ∀ a, g a ≠ .error (some c)) : x.bind g ≠ .error (some c) := by
  intro z
  cases x with
  | ok a => exact hg a z
  | error e => cases e with
    | none => cases z
    | some d => exact h (by cases z; rfl)
theorem asInt_no (x : D) (c : Nat) : asInt x ≠ .error (some c) := by
  intro h
  unfold asInt at h
  split at h <;> cases h
theorem asBool_no (x : D) (c : Nat) : asBool x ≠ .error (some c) := by
  intro h
  unfold asBool at h
  split at h <;> cases h
theorem asList_no (x : D) (c : Nat) : asList x ≠ .error (some c) := by
  intro h
  unfold asList at h
  split at h <;> cases h
theorem atD_no (xs : List D) (i : Int) (c : Nat) : atD xs i ≠ .error (some c) := by
  intro h
  unfold atD at h
  split at h <;> cases h
theorem idxD_no (x y : D) (c : Nat) : idxD x y ≠ .error (some c) := by
  intro h
  unfold idxD at h
  split at h
  · exact atD_no _ _ _ h
  · exact atD_no _ _ _ h
  · repeat' (first | (cases h; done) | split at h)
  · cases h
/-- two operands and a rule on data -/
theorem d_two {e a b : Expr} {r2 : R2} {ra rb : R} {g : D → D → R} (he : PE X e (tOp r2 (tV f W Γ ra) (tV f W Γ rb))) (hr : ∀ x y H Q, rD f.K g x y H Q → r2 x y H Q) (no : ∀ x y c, g x y ≠ .error (some c)) :
    PE X e (tV f W Γ (ra.bind fun x => rb.bind fun y => g x y)) := by
  refine he.imp fun σ H Q ⟨H0, h⟩ => ⟨H0, h.bind fun x v1 H1 H2 e1 a1 d1 h2 => ⟨H1, h2.bind fun y v2 H3 H4 e2 a2 d2 h3 => ?_⟩⟩
  exact hr _ _ _ _ (h3.go (d1.mono a2.sub) d2 rfl (no _ _))
theorem d_bin {o : Bin} {a b : Expr} {ra rb : R} {pos : Pos} (hK : X.K = f.K) (ha : PE X a (tV f W Γ ra)) (hb : PE X b (tV f W Γ rb)) : PE X (.BinOp a o.op b pos) (tV f W Γ (ra.bind fun x => rb.bind fun y => binD o x y)) :=
  d_two (a := a) (b := b) (pe_op (op_binD o) ha hb) (fun x y H Q h => by rw [hK]; exact h) (binD_no o)
theorem d_cmp {o : Cm} {a b : Expr} {ra rb : R} {pos : Pos} (hK : X.K = f.K) (hu : X.A.units + 65 < cLine) (hm : behindInMarks o.op b = false) (ha : PE X a (tV f W Γ ra)) (hb : PE X b (tV f W Γ rb)) : PE X (.Compare a [o.op] [b] pos) (tV f W Γ (ra.bind fun x => rb.bind fun y => cmpD o x y)) :=
  d_two (a := a) (b := b) (pe_cmpR (op_cmpD hu o) ha hb hm) (fun x y H Q h => by rw [hK]; exact h) (cmpD_no o)
theorem bool_of {K : PySem.W.Frag} {H : Hp} {v : V} {b : Bool} (h : Dp K H v (.bool b)) : v = .bl b := by cases h; rfl
theorem int_of {K : PySem.W.Frag} {H : Hp} {v : V} {i : Int} (h : Dp K H v (.int i)) : v = .int i := by cases h; rfl
/-- a value as a test -/
theorem Va.test {r : R} {H0 H : Hp} {σ : L2.St} {Q : Bool → Hp → Prop} (h : Vb f W Γ r H0 σ H Q) {Q1 : VK} (k : ∀ b H', Q b H' → Q1 (.bl b) H') : Va f W Γ r H0 σ H Q1 := by
  obtain ⟨st, m⟩ := h
  refine ⟨st, ?_⟩
  cases r with
  | error e => cases e with
    | none => exact m
    | some c => exact m
  | ok d =>
    cases d with
    | bool b =>
      intro v H0' H' a dp
      rw [bool_of dp]
      exact k _ _ (m H0' H' a)
    | _ => exact m.elim
/-- on, behind a truth value -/
theorem Va.bool {H0 H : Hp} {σ : L2.St} {Q : VK} {d : D} {g : Bool → R} (h : Va f W Γ ((asBool d).bind g) H0 σ H Q) : ∃ b, d = .bool b ∧ Va f W Γ (g b) H0 σ H Q := by
  cases d with
  | bool b => exact ⟨b, rfl, h⟩
  | _ => exact h.2.elim
theorem Va.int {H0 H : Hp} {σ : L2.St} {Q : VK} {d : D} {g : Int → R} (h : Va f W Γ ((asInt d).bind g) H0 σ H Q) : ∃ b, d = .int b ∧ Va f W Γ (g b) H0 σ H Q := by
  cases d with
  | int b => exact ⟨b, rfl, h⟩
  | _ => exact h.2.elim
theorem d_neg {a : Expr} {ra : R} {pos : Pos} (ha : PE X a (tV f W Γ ra)) : PE X (.UnaryOp .USub a pos) (tV f W Γ (ra.bind fun x => (asInt x).bind fun i => .ok (.int (-i)))) := by
  refine (pe_un un_neg ha).imp fun σ H Q ⟨H0, h⟩ => ⟨H0, h.bind fun x v1 H1 H2 e1 a1 d1 h2 => ?_⟩
  obtain ⟨i, rfl, h3⟩ := h2.int
  exact ⟨i, int_of d1, h3.ok (.int _)⟩
theorem d_chn {o o' : Cm} {a b c : Expr} {ra rb rc : R} {pos : Pos} (hK : X.K = f.K) (hu : X.A.units + 65 < cLine) (hm : lastMarks [o.op, o'.op] [b, c] = false) (ha : PE X a (tV f W Γ ra)) (hb : PE X b (tV f W Γ rb)) (hc : PE X c (tV f W Γ rc)) :
    PE X (.Compare a [o.op, o'.op] [b, c] pos) (tV f W Γ (ra.bind fun x => rb.bind fun y => (cmpB o x y).bind fun k => if k = true then rc.bind fun z => cmpD o' y z else .ok (.bool false))) := by
  refine (pe_chain (op_cmpD hu o) (op_cmpD hu o') ha hb hc hm).imp fun σ H Q ⟨H0, h⟩ => ⟨H0, h.bind fun x v1 H1 H2 e1 a1 d1 h2 => ⟨H1, h2.bind fun y v2 H3 H4 e2 a2 d2 h3 => ?_⟩⟩
  rw [hK]
  cases q : cmpB o x y with
  | error e =>
    rw [q] at h3
    cases e with
    | none => exact h3.2.elim
    | some z => exact absurd q (cmpB_no o x y z)
  | ok k =>
    rw [q] at h3
    have h4 : Va f W Γ (if k = true then rc.bind fun z => cmpD o' y z else .ok (.bool false)) H3 σ H4 Q := h3
    refine ⟨H3, x, y, .bool k, h4.1.sub, d1.mono a2.sub, d2, by show (cmpB o x y).map PyData.bool = _; rw [q]; rfl, fun v H5 H6 a3 dv => ⟨k, bool_of dv, ?_⟩⟩
    have h5 : Va f W Γ (if k = true then rc.bind fun z => cmpD o' y z else .ok (.bool false)) H5 σ H6 Q := by
      refine ⟨h4.1.adv a3, ?_⟩
      have m := h4.2
      revert m
      cases (if k = true then rc.bind fun z => cmpD o' y z else .ok (.bool false) : R) with
      | ok d => exact fun m v A B a h => m v A B (a3.trans a) h
      | error e => cases e with
        | none => exact fun m => m
        | some c => exact fun m A B a => m A B (a3.trans a)
    cases k with
    | true =>
      rw [if_pos rfl] at h5 ⊢
      exact ⟨H5, h5.bind fun z v3 H7 H8 e3 a4 d3 h6 => h6.go ((d2.mono a3.sub).mono a4.sub) d3 rfl (cmpD_no o' _ _)⟩
    | false =>
      rw [if_neg Bool.false_ne_true] at h5 ⊢
      exact h5.ok (.bl _)

/-! ### and, or, not, if -/
theorem d_and {a b : Expr} {r : List Expr} {ra rb : R} {pos : Pos} (ha : PE X a (tV f W Γ ra)) (hb : PE X (.BoolOp .And (b :: r) pos) (tV f W Γ rb)) :
    PE X (.BoolOp .And (a :: b :: r) pos) (tV f W Γ (ra.bind fun x => (asBool x).bind fun k => if k = true then rb else .ok (.bool false))) := by
  refine (pe_and ha hb).imp fun σ H Q ⟨H0, h⟩ => ⟨H0, h.bind fun x v1 H1 H2 e1 a1 d1 h2 => ?_⟩
  obtain ⟨k, rfl, h3⟩ := h2.bool
  refine ⟨k, bool_of d1, ?_⟩
  cases k with
  | true => exact ⟨H1, h3⟩
  | false => exact h3.ok (.bl _)
theorem d_or {a b : Expr} {r : List Expr} {ra rb : R} {pos : Pos} (ha : PE X a (tV f W Γ ra)) (hb : PE X (.BoolOp .Or (b :: r) pos) (tV f W Γ rb)) :
    PE X (.BoolOp .Or (a :: b :: r) pos) (tV f W Γ (ra.bind fun x => (asBool x).bind fun k => if k = true then .ok (.bool true) else rb)) := by
  refine (pe_or ha hb).imp fun σ H Q ⟨H0, h⟩ => ⟨H0, h.bind fun x v1 H1 H2 e1 a1 d1 h2 => ?_⟩
  obtain ⟨k, rfl, h3⟩ := h2.bool
  refine ⟨k, bool_of d1, ?_⟩
  cases k with
  | true => exact h3.ok (.bl _)
  | false => exact ⟨H1, h3⟩
theorem d_not {a : Expr} {ra : R} {pos : Pos} (ha : PE X a (tV f W Γ ra)) : PE X (.UnaryOp .Not a pos) (tV f W Γ (ra.bind fun x => (asBool x).bind fun k => .ok (.bool (!k)))) := by
  refine (pe_not ha).imp fun σ H Q ⟨H0, h⟩ => ⟨H0, h.bind fun x v1 H1 H2 e1 a1 d1 h2 => ?_⟩
  obtain ⟨k, rfl, h3⟩ := h2.bool
  exact ⟨k, bool_of d1, h3.ok (.bl _)⟩
/-- a test, and what is reckoned behind it -/
theorem Vb.bind {r : R} {g : Bool → R} {H0 H : Hp} {σ : L2.St} {Q : VK} (h : Va f W Γ (r.bind fun x => (asBool x).bind g) H0 σ H Q) {Q1 : Bool → Hp → Prop} (k : ∀ b H0' H', Adv H0 H H0' H' → Va f W Γ (g b) H0' σ H' Q → Q1 b H') : Vb f W Γ r H0 σ H Q1 := by
  obtain ⟨st, m⟩ := h
  refine ⟨st, ?_⟩
  cases r with
  | error e => cases e with
    | none => exact m
    | some c => exact m
  | ok d =>
    cases d with
    | bool b =>
      intro H0' H' a
      refine k b H0' H' a ⟨st.adv a, ?_⟩
      have m' : match g b with
        | .ok d => ∀ v H0' H', Adv H0 H H0' H' → Dp f.K H0' v d → Q v H'
        | .error (some c) => ∀ H0' H', Adv H0 H H0' H' → W (.ref (f.cl c)) none σ H'
        | .error none => False := m
      revert m'
      cases g b with
      | ok z => exact fun m v A B a2 h => m v A B (a.trans a2) h
      | error e => cases e with
        | none => exact fun m => m
        | some c => exact fun m A B a2 => m A B (a.trans a2)
    | _ => exact m.elim
theorem Vb.bindB {r : R} {g : Bool → R} {H0 H : Hp} {σ : L2.St} {Q : Bool → Hp → Prop} (h : Vb f W Γ (r.bind fun x => (asBool x).bind g) H0 σ H Q) {Q1 : Bool → Hp → Prop} (k : ∀ b H0' H', Adv H0 H H0' H' → Vb f W Γ (g b) H0' σ H' Q → Q1 b H') : Vb f W Γ r H0 σ H Q1 := by
  obtain ⟨st, m⟩ := h
  refine ⟨st, ?_⟩
  cases r with
  | error e => cases e with
    | none => exact m
    | some c => exact m
  | ok d =>
    cases d with
    | bool b =>
      intro H0' H' a
      refine k b H0' H' a ⟨st.adv a, ?_⟩
      have m' : match g b with
        | .ok (.bool b) => ∀ H0' H', Adv H0 H H0' H' → Q b H'
        | .error (some c) => ∀ H0' H', Adv H0 H H0' H' → W (.ref (f.cl c)) none σ H'
        | _ => False := m
      revert m'
      cases g b with
      | ok z =>
        cases z with
        | bool q => exact fun m A B a2 => m A B (a.trans a2)
        | _ => exact fun m => m.elim
      | error e => cases e with
        | none => exact fun m => m
        | some c => exact fun m A B a2 => m A B (a.trans a2)
    | _ => exact m.elim
theorem Vb.ok {b : Bool} {H0 H : Hp} {σ : L2.St} {Q : Bool → Hp → Prop} (h : Vb f W Γ (.ok (.bool b)) H0 σ H Q) : Q b H := h.2 H0 H (Adv.refl h.1.sub)
theorem d_ife {c a b : Expr} {rc ra rb : R} {pos : Pos} (hc : PT X c (tB f W Γ rc)) (ha : PE X a (tV f W Γ ra)) (hb : PE X b (tV f W Γ rb)) :
    PE X (.IfExp c a b pos) (tV f W Γ (rc.bind fun x => (asBool x).bind fun k => if k = true then ra else rb)) := by
  refine (pe_ifExp hc ha hb).imp fun σ H Q ⟨H0, h⟩ => ⟨H0, Vb.bind h fun k H1 H2 a1 h2 => ?_⟩
  cases k with
  | true => exact ⟨H1, h2⟩
  | false => exact ⟨H1, h2⟩
theorem t_and {a b : Expr} {r : List Expr} {ra rb : R} {pos : Pos} (ha : PT X a (tB f W Γ ra)) (hb : PW X (.BoolOp .And (b :: r) pos) (tB f W Γ rb)) :
    PW X (.BoolOp .And (a :: b :: r) pos) (tB f W Γ (ra.bind fun x => (asBool x).bind fun k => if k = true then rb else .ok (.bool false))) := by
  refine (pw_and ha hb).imp fun σ H Q ⟨H0, h⟩ => ⟨H0, h.bindB fun k H1 H2 a1 h2 => ?_⟩
  cases k with
  | true => exact ⟨H1, h2⟩
  | false => exact h2.ok
theorem t_or {a b : Expr} {r : List Expr} {ra rb : R} {pos : Pos} (ha : PT X a (tB f W Γ ra)) (hb : PW X (.BoolOp .Or (b :: r) pos) (tB f W Γ rb)) :
    PW X (.BoolOp .Or (a :: b :: r) pos) (tB f W Γ (ra.bind fun x => (asBool x).bind fun k => if k = true then .ok (.bool true) else rb)) := by
  refine (pw_or ha hb).imp fun σ H Q ⟨H0, h⟩ => ⟨H0, h.bindB fun k H1 H2 a1 h2 => ?_⟩
  cases k with
  | true => exact h2.ok
  | false => exact ⟨H1, h2⟩
theorem t_not {a : Expr} {ra : R} {pos : Pos} (ha : PT X a (tB f W Γ ra)) : PT X (.UnaryOp .Not a pos) (tB f W Γ (ra.bind fun x => (asBool x).bind fun k => .ok (.bool (!k)))) :=
  (pt_not ha).imp fun σ H Q ⟨H0, h⟩ => ⟨H0, h.bindB fun k H1 H2 a1 h2 => h2.ok⟩
theorem t_cmp {o : Cm} {a b : Expr} {ra rb : R} {pos : Pos} (hK : X.K = f.K) (hu : X.A.units + 65 < cLine) (hm : behindInMarks o.op b = false) (ha : PE X a (tV f W Γ ra)) (hb : PE X b (tV f W Γ rb)) :
    PT X (.Compare a [o.op] [b] pos) (tB f W Γ (ra.bind fun x => rb.bind fun y => cmpD o x y)) := by
  refine (pt_cmpR (op_cmpD hu o) ha hb hm).imp fun σ H Q ⟨H0, h⟩ => ?_
  have h' : Va f W Γ (ra.bind fun x => rb.bind fun y => cmpD o x y) H0 σ H (fun v H' => ∃ k, v = .bl k ∧ Q k H') := Va.test h fun b H' q => ⟨b, rfl, q⟩
  refine ⟨H0, h'.bind fun x v1 H1 H2 e1 a1 d1 h2 => ⟨H1, h2.bind fun y v2 H3 H4 e2 a2 d2 h3 => ?_⟩⟩
  rw [hK]
  exact h3.go (d1.mono a2.sub) d2 rfl (cmpD_no o _ _)
/-- a value as a test -/
theorem t_val {e : Expr} {r : R} (h : PE X e (tV f W Γ r)) (he : ∀ whole, isTrue e X.env whole = (do let v ← whole; standAt e.pos; holding [v] (truthy v))) : PT X e (tB f W Γ r) :=
  (pt_val h he).imp fun σ H Q ⟨H0, q⟩ => ⟨H0, Va.test q fun b H' z => ⟨b, rfl, z⟩⟩
theorem t_chn {o o' : Cm} {a b c : Expr} {ra rb rc : R} {pos : Pos} (hK : X.K = f.K) (hu : X.A.units + 65 < cLine) (hm : lastMarks [o.op, o'.op] [b, c] = false) (ha : PE X a (tV f W Γ ra)) (hb : PE X b (tV f W Γ rb)) (hc : PE X c (tV f W Γ rc)) :
    PT X (.Compare a [o.op, o'.op] [b, c] pos) (tB f W Γ (ra.bind fun x => rb.bind fun y => (cmpB o x y).bind fun k => if k = true then rc.bind fun z => cmpD o' y z else .ok (.bool false))) := by
  refine (pt_chain (op_cmpD hu o) (op_cmpD hu o') ha hb hc hm).imp fun σ H Q ⟨H0, h⟩ => ?_
  have h' : Va f W Γ (ra.bind fun x => rb.bind fun y => (cmpB o x y).bind fun k => if k = true then rc.bind fun z => cmpD o' y z else .ok (.bool false)) H0 σ H (fun v H' => ∃ k, v = .bl k ∧ Q k H') := Va.test h fun b H' q => ⟨b, rfl, q⟩
  refine ⟨H0, h'.bind fun x v1 H1 H2 e1 a1 d1 h2 => ⟨H1, h2.bind fun y v2 H3 H4 e2 a2 d2 h3 => ?_⟩⟩
  rw [hK]
  cases q : cmpB o x y with
  | error e =>
    rw [q] at h3
    cases e with
    | none => exact h3.2.elim
    | some z => exact absurd q (cmpB_no o x y z)
  | ok k =>
    rw [q] at h3
    have h4 : Va f W Γ (if k = true then rc.bind fun z => cmpD o' y z else .ok (.bool false)) H3 σ H4 (fun v H' => ∃ k, v = .bl k ∧ Q k H') := h3
    refine ⟨H3, x, y, .bool k, h4.1.sub, d1.mono a2.sub, d2, by show (cmpB o x y).map PyData.bool = _; rw [q]; rfl, fun v H5 H6 a3 dv => ⟨k, bool_of dv, ?_⟩⟩
    have h5 : Va f W Γ (if k = true then rc.bind fun z => cmpD o' y z else .ok (.bool false)) H5 σ H6 (fun v H' => ∃ k, v = .bl k ∧ Q k H') := by
      refine ⟨h4.1.adv a3, ?_⟩
      have m := h4.2
      revert m
      cases (if k = true then rc.bind fun z => cmpD o' y z else .ok (.bool false) : R) with
      | ok d => exact fun m v A B a h => m v A B (a3.trans a) h
      | error e => cases e with
        | none => exact fun m => m
        | some c => exact fun m A B a => m A B (a3.trans a)
    cases k with
    | true =>
      rw [if_pos rfl] at h5 ⊢
      exact ⟨H5, h5.bind fun z v3 H7 H8 e3 a4 d3 h6 => h6.go ((d2.mono a3.sub).mono a4.sub) d3 rfl (cmpD_no o' _ _)⟩
    | false =>
      rw [if_neg Bool.false_ne_true] at h5 ⊢
      exact h5.ok (.bl _)
end
end Dee

set_option maxRecDepth 100000
set_option maxHeartbeats 4000000
/-! Dee, part 7: displays, subscripts, calls. -/
namespace Dee
open PySem PySem.Spec PyProof.Rows L2

section
variable {f : Fm} {W : WX} {Γ : List Sl} {X : Cx}

/-! ### lists of values -/
theorem ds_nil : PA X [] (tVs f W Γ (.ok [])) := pa_nil.imp fun σ H Q ⟨H0, h⟩ => h.ok .nil
theorem ds_cons {e : Expr} {es : List Expr} {r : R} {rs : Rs} (hs : notStar e = true) (he : PE X e (tV f W Γ r)) (h : PA X es (tVs f W Γ rs)) : PA X (e :: es) (tVs f W Γ (r.bind fun x => rs.bind fun xs => .ok (x :: xs))) :=
  (pa_cons he h (star_cons hs es X.env)).imp fun σ H Q ⟨H0, q⟩ => ⟨H0, Va.bindS q fun x v H1 H2 e1 a1 d1 q2 => ⟨H1, q2.bindS fun xs vs H3 H4 e2 a2 d2 q3 => q3.ok (.cons (d1.mono a2.sub) d2)⟩⟩
theorem cap_line {n : Nat} (h : n ≤ most) : n ≤ sizeLine := Nat.le_trans h most_line
theorem d_tup {es : List Expr} {k : Nat} {rs : Rs} {pos : Pos} (h : PA X es (tVs f W Γ rs)) : PE X (.Tuple es k pos) (tV f W Γ (rs.bind fun ds => if ds.length ≤ most then .ok (.tuple ds) else unk)) := by
  refine (pe_tup h).imp fun σ H Q ⟨H0, q⟩ => ⟨H0, Vas.bind q fun ds vs H1 H2 e1 a1 d1 q2 => ?_⟩
  by_cases hl : ds.length ≤ most
  · rw [if_pos hl] at q2
    refine ⟨by rw [d1.len]; exact cap_line hl, fun p hp => q2.2 _ _ _ (Adv.new q2.1.sub hp) (.tup (SqT.of upd_same) (d1.mono (same_upd (same_fresh q2.1.sub hp))))⟩
  · rw [if_neg hl] at q2
    exact q2.2.elim
/-- a new list, laid at a free place -/
theorem Vf.lay {H0 H : Hp} {σ : L2.St} {Q : VK} {ds : List D} (q : Vf f W Γ (.ok ds) H0 σ H Q) {vs : List V} (d : DpAll f.K H0 vs ds) {p : Addr} (hp : H p = none) : Q (.ref p) (upd H p (.lst vs)) :=
  q.2 p vs H0 _ ((Adv.refl q.1.sub).beside hp (same_fresh q.1.sub hp)) hp (same_fresh q.1.sub hp) upd_same d
theorem f_lst {es : List Expr} {rs : Rs} {pos : Pos} (h : PA X es (tVs f W Γ rs)) : PE X (.List es pos) (tF f W Γ (rs.bind fun ds => if ds.length ≤ most then .ok ds else unk)) := by
  refine (pe_lst h).imp fun σ H Q ⟨H0, q⟩ => ⟨H0, Vas.bindF q fun ds vs H1 H2 e1 a1 d1 q2 => ?_⟩
  by_cases hl : ds.length ≤ most
  · rw [if_pos hl] at q2
    exact ⟨by rw [d1.len]; exact cap_line hl, fun p hp => q2.lay d1 hp⟩
  · rw [if_neg hl] at q2
    exact q2.2.elim
/-- a new list is a value -/
theorem d_of {e : Expr} {r : Rs} (h : PE X e (tF f W Γ r)) : PE X e (tV f W Γ (r.map .list)) := h.imp fun σ H Q ⟨H0, q⟩ => ⟨H0, Vf.of q⟩
theorem Vf.list {H0 H : Hp} {σ : L2.St} {Q : VK} {d : D} {g : List D → Rs} (h : Vf f W Γ ((asList d).bind g) H0 σ H Q) : ∃ b, d = .list b ∧ Vf f W Γ (g b) H0 σ H Q := by
  cases d with
  | list b => exact ⟨b, rfl, h⟩
  | _ => exact h.2.elim

/-! ### subscripts -/
theorem at_dp {K : PySem.W.Frag} {H : Hp} {vs : List V} {ds : List D} (h : DpAll K H vs ds) {i : Int} {d : D} (e : atI ds i = some d) : ∃ v, atI vs i = some v ∧ Dp K H v d := by
  unfold atI at e ⊢
  rw [h.len]
  cases q : ixN ds.length i with
  | none => rw [q] at e; cases e
  | some j =>
    rw [q] at e
    obtain ⟨v, ev, hv⟩ := h.at (i := j) e
    exact ⟨v, ev, hv⟩
theorem ix_D : IxR X (rD X.K idxD) := by
  intro value slice pins s σ H x y v u Q I rx ry h hs
  obtain ⟨H0, d, e, z, sub, hd, he, hz, q⟩ := h
  unfold idxD at hz
  split at hz
  · cases hd with
    | lst h1 h2 =>
      cases he
      unfold atD at hz
      split at hz
      · rename_i ez
        cases hz
        obtain ⟨w, ew, hw⟩ := at_dp h2 ez
        exact ix_list value slice pins s σ H _ _ v u Q I rx ry ⟨_, _, _, w, rfl, rfl, sql_mono sub h1, ew, stay sub q hw⟩ hs
      · cases hz
  · cases hd with
    | tup h1 h2 =>
      cases he
      unfold atD at hz
      split at hz
      · rename_i ez
        cases hz
        obtain ⟨w, ew, hw⟩ := at_dp h2 ez
        exact ix_tup value slice pins s σ H _ _ v u Q I rx ry ⟨_, _, _, w, rfl, rfl, sqt_mono sub h1, ew, stay sub q hw⟩ hs
      · cases hz
  · split at hz
    · rename_i hl
      split at hz
      · rename_i ez
        cases hz; cases hd; cases he
        exact ix_str value slice pins s σ H _ _ v u Q I rx ry ⟨_, _, _, rfl, rfl, cap_line hl, ez, stay sub q (.str _)⟩ hs
      · cases hz
    · cases hz
  · cases hz
theorem d_idx {a b : Expr} {ra rb : R} {pos : Pos} (hK : X.K = f.K) (hs : notSl b = true) (ha : PE X a (tV f W Γ ra)) (hb : PE X b (tV f W Γ rb)) : PE X (.Subscript a b pos) (tV f W Γ (ra.bind fun x => rb.bind fun y => idxD x y)) :=
  d_two (a := a) (b := b) (pe_ix ix_D ha hb (plain_of hs)) (fun x y H Q h => by rw [hK]; exact h) idxD_no
theorem cut_dp {K : PySem.W.Frag} {H : Hp} {vs : List V} {ds : List D} (h : DpAll K H vs ds) (lo hi : Option Int) : DpAll K H (cutV vs lo hi) (cutD ds lo hi) := by
  unfold cutV cutD
  rw [h.len]
  exact (h.ofDrop _).ofTake _
/-- a slice's parts -/
def Vo (f : Fm) (W : WX) (Γ : List Sl) (r : Except (Option Nat) (Option Int)) (H0 : Hp) (σ : L2.St) (H : Hp) (Q : Option Int → Hp → Prop) : Prop := St f Γ H0 σ H ∧ match r with
  | .ok o => ∀ H0' H', Adv H0 H H0' H' → Q o H'
  | .error (some c) => ∀ H0' H', Adv H0 H H0' H' → W (.ref (f.cl c)) none σ H'
  | .error none => False
def tO (f : Fm) (W : WX) (Γ : List Sl) (r : Except (Option Nat) (Option Int)) : TO := fun σ H Q => ∃ H0, Vo f W Γ r H0 σ H Q
theorem Vo.bindF {r : Except (Option Nat) (Option Int)} {g : Option Int → Rs} {H0 H : Hp} {σ : L2.St} {Q : VK} (h : Vf f W Γ (r.bind g) H0 σ H Q) {Q1 : Option Int → Hp → Prop} (k : ∀ o H0' H', Adv H0 H H0' H' → Vf f W Γ (g o) H0' σ H' Q → Q1 o H') : Vo f W Γ r H0 σ H Q1 := by
  obtain ⟨st, m⟩ := h
  refine ⟨st, ?_⟩
  cases r with
  | error e => cases e with
    | none => exact m
    | some c => exact m
  | ok d =>
    intro H0' H' adv
    refine k d H0' H' adv ⟨st.adv adv, ?_⟩
    have m' : match g d with
      | .ok ds => ∀ a vs H0' H', Adv H0 H H0' H' → H a = none → H0' a = none → H' a = some (.lst vs) → DpAll f.K H0' vs ds → Q (.ref a) H'
      | .error (some c) => ∀ H0' H', Adv H0 H H0' H' → W (.ref (f.cl c)) none σ H'
      | .error none => False := m
    revert m'
    cases g d with
    | ok z => exact fun m a vs A B ad n n0 e h => m a vs A B (adv.trans ad) (same_fresh adv.all n) n0 e h
    | error e => cases e with
      | none => exact fun m => m
      | some c => exact fun m A B a => m A B (adv.trans a)
theorem po_imp {e : Option Expr} {t t' : TO} (h : PO X e t) (i : ∀ σ H Q, t' σ H Q → t σ H Q) : PO X e t' := ⟨fun pins s σ H Q I q => h.run pins s σ H Q I (i σ H Q q)⟩
theorem o_none : PO X none (tO f W Γ (.ok none)) := po_imp po_none fun σ H Q ⟨H0, q⟩ => q.2 H0 H (Adv.refl q.1.sub)
theorem o_some {e : Expr} {r : R} (h : PE X e (tV f W Γ r)) : PO X (some e) (tO f W Γ (r.bind fun x => (asInt x).bind fun i => .ok (some i))) := by
  refine po_imp (po_some h) fun σ H Q ⟨H0, q⟩ => ⟨H0, q.1, ?_⟩
  have m := q.2
  revert m
  cases r with
  | error e => cases e with
    | none => exact fun m => m
    | some c => exact fun m => m
  | ok d =>
    cases d with
    | int i => exact fun m v H0' H' a dp => ⟨i, int_of dp, m H0' H' a⟩
    | _ => exact fun m => m.elim
theorem f_sl {a : Expr} {lo hi : Option Expr} {ra : R} {rl rh : Except (Option Nat) (Option Int)} {pos p2 : Pos} (hK : X.K = f.K) (ha : PE X a (tV f W Γ ra)) (hl : PO X lo (tO f W Γ rl)) (hh : PO X hi (tO f W Γ rh)) :
    PE X (.Subscript a (.Slice lo hi none p2) pos) (tF f W Γ (ra.bind fun x => (asList x).bind fun xs => rl.bind fun l => rh.bind fun h => .ok (cutD xs l h))) := by
  refine (pe_slice sl_list ha hl hh).imp fun σ H Q ⟨H0, q⟩ => ⟨H0, Va.bindF q fun d v H1 H2 e1 a1 d1 q2 => ?_⟩
  obtain ⟨xs, rfl, q3⟩ := q2.list
  cases d1 with
  | lst h1 h2 =>
    refine ⟨H1, Vo.bindF q3 fun l H3 H4 a2 q4 => ⟨H3, Vo.bindF q4 fun h H5 H6 a3 q5 => ?_⟩⟩
    have z : Same H1 H6 := (a2.sub.trans a3.sub).trans a3.inn
    rw [hK]
    exact ⟨_, _, rfl, sql_mono z h1, fun p hp => q5.lay (cut_dp (h2.mono (a2.sub.trans a3.sub)) l h) hp⟩
theorem f_rev {a : Expr} {ra : R} {k : Nat} {p1 p2 p3 pos : Pos} (hK : X.K = f.K) (ha : PE X a (tV f W Γ ra)) :
    PE X (.Subscript a (.Slice none none (some (.UnaryOp .USub (.Constant (.int 1) k p1) p2)) p3) pos) (tF f W Γ (ra.bind fun x => (asList x).bind fun xs => .ok xs.reverse)) := by
  refine (pe_revL ha).imp fun σ H Q ⟨H0, q⟩ => ?_
  have q' : Va f W Γ ra H0 σ H (fun x H1 => ∃ (a : Addr) (xs : List V), x = .ref a ∧ SqL X.K H1 a xs ∧ ∀ p, H1 p = none → Q (.ref p) (upd H1 p (.lst xs.reverse))) := by
    refine Va.bindF q fun d v H1 H2 e1 a1 d1 q2 => ?_
    obtain ⟨xs, rfl, q3⟩ := q2.list
    cases d1 with
    | lst h1 h2 =>
      rw [hK]
      exact ⟨_, _, rfl, sql_mono a1.inn h1, fun p hp => q3.lay h2.rev hp⟩
  exact ⟨H0, q'⟩

theorem f_lrev {a : Expr} {ra : R} {p p2 pos pos2 : Pos} (hK : X.K = f.K) (hc : X.calm = true) (hg : Gl X "list") (hm : X.mg "list" = none) (hg2 : Gl X "reversed") (hm2 : X.mg "reversed" = none) (hs : starEach [a] X.env = (false, eval a X.env) :: starEach [] X.env) (ha : PE X a (tV f W Γ ra)) :
    PE X (.Call (.Name "list" p) [.Call (.Name "reversed" p2) [a] [] pos2] [] pos) (tF f W Γ (ra.bind fun x => (asList x).bind fun xs => .ok xs.reverse)) := by
  refine (pe_listRev hc hg hm hg2 hm2 ha hs).imp fun σ H Q ⟨H0, q⟩ => ?_
  have q' : Va f W Γ ra H0 σ H (fun x H1 => ∃ (a : Addr) (xs : List V), x = .ref a ∧ SqL X.K H1 a xs ∧ ∀ p, H1 p = none → Q (.ref p) (upd H1 p (.lst xs.reverse))) := by
    refine Va.bindF q fun d v H1 H2 e1 a1 d1 q2 => ?_
    obtain ⟨xs, rfl, q3⟩ := q2.list
    cases d1 with
    | lst h1 h2 =>
      rw [hK]
      exact ⟨_, _, rfl, sql_mono a1.inn h1, fun p hp => q3.lay h2.rev hp⟩
  exact ⟨H0, q'⟩

/-! ### + and * of lists: a new one -/
def r2F (K : PySem.W.Frag) (g : D → D → Rs) : R2 := fun x y H Q => ∃ H0 d e zs, Same H0 H ∧ Dp K H0 x d ∧ Dp K H0 y e ∧ g d e = .ok zs ∧ ∀ ws p, H p = none → DpAll K H0 ws zs → Q (.ref p) (upd H p (.lst ws))
theorem op_catF : OpR X (binaryOp .Add) (r2F X.K catF) := by
  intro pins s σ H x y v u Q I rx ry h
  obtain ⟨H0, d, e, z, sub, hd, he, hz, q⟩ := h
  unfold catF at hz
  split at hz
  · split at hz
    · rename_i hl
      cases hz
      cases hd with
      | lst h1 h2 =>
        cases he with
        | lst h3 h4 =>
          cases rx; cases ry
          have l1 := h2.len
          have l2 := h4.len
          exact cat_sq I (sql_mono sub h1) (sql_mono sub h3) (by rw [l1, l2]; exact Nat.le_trans hl most_line) fun p hp => q _ p hp (h2.app h4)
    · cases hz
  · cases hz
theorem op_repF : OpR X (binaryOp .Mult) (r2F X.K repF) := by
  intro pins s σ H x y v u Q I rx ry h
  obtain ⟨H0, d, e, z, sub, hd, he, hz, q⟩ := h
  unfold repF at hz
  split at hz
  · split at hz
    · rename_i hl
      cases hz
      cases he
      cases hd with
      | lst h1 h2 =>
        cases rx
        obtain ⟨t, rfl⟩ := ry
        have l1 := h2.len
        refine rep_sq I (sql_mono sub h1) hl.1 hl.2.1 (by rw [l1]; exact hl.2.2) fun p hp => q _ p hp ?_
        generalize (Int.toNat _) = n
        induction n with
        | zero => exact .nil
        | succ n ih =>
          rw [List.replicate_succ, List.replicate_succ, List.flatten_cons, List.flatten_cons]
          exact h2.app ih
    · cases hz
  · cases hz
theorem catF_no (d e : D) (c : Nat) : catF d e ≠ .error (some c) := by
  unfold catF
  split
  · split <;> exact nofun
  · exact nofun
theorem repF_no (d e : D) (c : Nat) : repF d e ≠ .error (some c) := by
  unfold repF
  split
  · split <;> exact nofun
  · exact nofun
theorem f_two {op : Operator} {a b : Expr} {ra rb : R} {pos : Pos} {g : D → D → Rs} (no : ∀ d e c, g d e ≠ .error (some c)) (ho : OpR X (binaryOp op) (r2F X.K g)) (hK : X.K = f.K) (ha : PE X a (tV f W Γ ra)) (hb : PE X b (tV f W Γ rb)) :
    PE X (.BinOp a op b pos) (tF f W Γ (ra.bind fun x => rb.bind fun y => g x y)) := by
  refine (pe_op ho ha hb).imp fun σ H Q ⟨H0, q⟩ => ⟨H0, Va.bindF q fun d v H1 H2 e1 a1 d1 q2 => ⟨H1, Va.bindF q2 fun e w H3 H4 e2 a2 d2 q3 => ?_⟩⟩
  rw [hK]
  cases z : g d e with
  | error c =>
    rw [z] at q3
    cases c with
    | none => exact q3.2.elim
    | some c => exact absurd z (no d e c)
  | ok zs =>
    rw [z] at q3
    exact ⟨H3, d, e, zs, q3.1.sub, d1.mono a2.sub, d2, z, fun ws p hp dp => q3.lay dp hp⟩

/-! ### calls -/
theorem d_call {T : Tab} {E : Evn} {k : Nat} {N : List Str} {sc : Scope} {fl : Option Scope} (S : Sta T E f W k N sc fl true X) {i : Nat} {x : Str} {p pos : Pos} {a : Expr} {r : List Expr} {rs : Rs} (hT : T.fns[i]? = some x) (hmay : T.may i = true) (hg : glbB sc x = true) (hn : nmOk x = true)
    (hst : ∀ e ∈ a :: r, notStar e = true) (ha : PA X (a :: r) (tVs f W Γ rs)) : PE X (.Call (.Name x p) (a :: r) [] pos) (tV f W Γ (rs.bind fun ds => E.F i ds)) := by
  obtain ⟨ad, fd, ps, hm, hk, hb, F, _, har⟩ := S.fns i x hT hmay
  have hpl : (backTo pos (starEach r X.env)).any (·.1) = false := by
    have : ∀ l : List Expr, (∀ e ∈ l, notStar e = true) → (backTo pos (starEach l X.env)).any (·.1) = false := by
      intro l
      induction l with
      | nil => intro _; rfl
      | cons e l ih =>
        intro h
        rw [star_cons (h e List.mem_cons_self)]
        show (false || (backTo pos (starEach l X.env)).any (·.1)) = false
        rw [ih fun e he => h e (List.mem_cons_of_mem _ he)]
        rfl
    exact this r fun e he => hst e (List.mem_cons_of_mem _ he)
  refine (pe_callG F (S.hcm rfl).2 S.gd (S.gl hg) hm hk hb S.tk ha (nm_of hn).1 (star_cons (hst a List.mem_cons_self) r X.env) hpl).imp fun σ H Q ⟨H0, q⟩ => ?_
  refine ⟨H0, Vas.bind q fun ds vs H1 H2 e1 a1 d1 q2 => ?_⟩
  have key : vs.length = ps.length → spD X.K f.cl ps.length (E.F i) vs H2 Q (fun cls d H' => W cls d σ H') := fun hl => by
    refine ⟨hl, H1, ds, a1.inn, by rw [S.hK]; exact d1, ?_⟩
    have m := q2.2
    revert m
    cases E.F i ds with
    | ok d => exact fun m v A B ad h => m v A B ad (by rw [← S.hK]; exact h)
    | error e => cases e with
      | none => exact fun m => m
      | some c =>
        intro m H' sm
        refine m H1 H' ⟨same_refl _, sm, a1.inn.trans sm, fun _ _ _ => rfl⟩
  by_cases hl : ds.length = ps.length
  · exact key (d1.len.trans hl)
  · have m := q2.2
    rw [har ds hl] at m
    exact m.elim
/-- a call whose list is a new one -/
theorem c_call {T : Tab} {E : Evn} {k : Nat} {N : List Str} {sc : Scope} {fl : Option Scope} (S : Sta T E f W k N sc fl true X) {i : Nat} {x : Str} {p pos : Pos} {a : Expr} {r : List Expr} {rs : Rs} (hT : T.fns[i]? = some x) (hmay : T.may i = true) (hF : T.frs.contains i = true) (hg : glbB sc x = true) (hn : nmOk x = true)
    (hst : ∀ e ∈ a :: r, notStar e = true) (ha : PA X (a :: r) (tVs f W Γ rs)) : PE X (.Call (.Name x p) (a :: r) [] pos) (tC2 f W Γ (rs.bind fun ds => E.F i ds)) := by
  obtain ⟨ad, fd, ps, hm, hk, hb, _, F0, har⟩ := S.fns i x hT hmay
  have F := F0 hF
  have hpl : (backTo pos (starEach r X.env)).any (·.1) = false := by
    have : ∀ l : List Expr, (∀ e ∈ l, notStar e = true) → (backTo pos (starEach l X.env)).any (·.1) = false := by
      intro l
      induction l with
      | nil => intro _; rfl
      | cons e l ih =>
        intro h
        rw [star_cons (h e List.mem_cons_self)]
        show (false || (backTo pos (starEach l X.env)).any (·.1)) = false
        rw [ih fun e he => h e (List.mem_cons_of_mem _ he)]
        rfl
    exact this r fun e he => hst e (List.mem_cons_of_mem _ he)
  refine (pe_callG F (S.hcm rfl).2 S.gd (S.gl hg) hm hk hb S.tk ha (nm_of hn).1 (star_cons (hst a List.mem_cons_self) r X.env) hpl).imp fun σ H Q ⟨H0, q⟩ => ?_
  refine ⟨H0, Vas.bindC q fun ds vs H1 H2 e1 a1 d1 q2 => ?_⟩
  have key : vs.length = ps.length → spF X.K f.cl ps.length (E.F i) vs H2 Q (fun cls d H' => W cls d σ H') := fun hl => by
    refine ⟨hl, H1, ds, a1.inn, by rw [S.hK]; exact d1, ?_⟩
    have m := q2.2
    revert m
    cases E.F i ds with
    | ok d =>
      cases d with
      | list es => exact fun m a ws A B ad n n0 e h => m a ws A B ad n n0 e (by rw [← S.hK]; exact h)
      | _ => exact fun m v A B ad h => m v A B ad (by rw [← S.hK]; exact h)
    | error e => cases e with
      | none => exact fun m => m
      | some c =>
        intro m H' sm
        refine m H1 H' ⟨same_refl _, sm, a1.inn.trans sm, fun _ _ _ => rfl⟩
  by_cases hl : ds.length = ps.length
  · exact key (d1.len.trans hl)
  · have m := q2.2
    rw [har ds hl] at m
    exact m.elim
end
end Dee

set_option maxRecDepth 100000
set_option maxHeartbeats 4000000
/-! Dee, part 8: what is walked; comprehensions. -/
namespace Dee
open PySem PySem.Spec PyProof.Rows L2

/-- what an iterator tells, as data -/
def ItOk (K : PySem.W.Frag) (J : It) (ds : List D) (H0 H : Hp) : Prop := ∀ H0' H', Same H0 H0' → Same H0' H' →
  (∀ (i : Nat) (d : D), ds[i]? = some d → J.go i H' ∧ ∀ x H'', J.yld i H' x H'' → ∃ H0'', Adv H0' H' H0'' H'' ∧ Dp K H0'' x d) ∧ ∀ i, ds.length ≤ i → J.stop i H'
def Vi (f : Fm) (W : WX) (Γ : List Sl) (r : Rs) (H0 : Hp) (σ : L2.St) (H : Hp) (Q : It → Hp → Prop) : Prop := St f Γ H0 σ H ∧ match r with
  | .ok ds => ∀ J H0' H', Adv H0 H H0' H' → ItOk f.K J ds H0' H' → Q J H'
  | .error (some c) => ∀ H0' H', Adv H0 H H0' H' → W (.ref (f.cl c)) none σ H'
  | .error none => False
def tI (f : Fm) (W : WX) (Γ : List Sl) (r : Rs) : TI := fun σ H R => ∃ H0, Vi f W Γ r H0 σ H R

theorem it_list {K : PySem.W.Frag} {H0 H : Hp} {a : Addr} {vs : List V} {ds : List D} (h : SqL K H0 a vs) (hd : DpAll K H0 vs ds) : ItOk K (Itl K a) ds H0 H := fun A0 A s1 s2 => ⟨fun i d e => by
    obtain ⟨v, ev, hv⟩ := hd.at e
    have q : SqL K A a vs := sql_mono (s1.trans s2) h
    refine ⟨⟨vs, v, q, ev⟩, fun x B y => ?_⟩
    obtain ⟨e1, y⟩ := y
    subst e1
    have e2 := (y vs q).symm.trans ev
    cases e2
    exact ⟨A0, Adv.refl s2, hv.mono s1⟩,
  fun i hi => ⟨vs, sql_mono (s1.trans s2) h, by rw [hd.len]; exact hi⟩⟩
theorem it_tup {K : PySem.W.Frag} {H0 H : Hp} {a : Addr} {vs : List V} {ds : List D} (h : SqT K H0 a vs) (hd : DpAll K H0 vs ds) : ItOk K (Itt K a) ds H0 H := fun A0 A s1 s2 => ⟨fun i d e => by
    obtain ⟨v, ev, hv⟩ := hd.at e
    have q : SqT K A a vs := sqt_mono (s1.trans s2) h
    refine ⟨⟨vs, v, q, ev⟩, fun x B y => ?_⟩
    obtain ⟨e1, y⟩ := y
    subst e1
    have e2 := (y vs q).symm.trans ev
    cases e2
    exact ⟨A0, Adv.refl s2, hv.mono s1⟩,
  fun i hi => ⟨vs, sqt_mono (s1.trans s2) h, by rw [hd.len]; exact hi⟩⟩
theorem it_range {K : PySem.W.Frag} {H0 H : Hp} {lo : Int} {n : Nat} : ItOk K (Itr lo n) (rangeD lo n) H0 H := fun A0 A s1 s2 => ⟨fun i d e => by
    unfold rangeD at e
    rw [List.getElem?_map] at e
    by_cases hi : i < n
    · rw [List.getElem?_range hi] at e
      cases e
      refine ⟨hi, fun x B y => ?_⟩
      obtain ⟨e1, e2⟩ := y
      subst e1 e2
      exact ⟨A0, Adv.refl s2, .int _⟩
    · rw [List.getElem?_eq_none (by simpa using hi)] at e
      exact (nomatch e),
  fun i hi => by
    have : (rangeD lo n).length = n := by unfold rangeD; rw [List.length_map, List.length_range]
    rw [this] at hi
    exact hi⟩
theorem it_rangeC {K : PySem.W.Frag} {H0 H : Hp} {lo c : Int} {n : Nat} : ItOk K (Itc lo c n) (rangeC lo c n) H0 H := fun A0 A s1 s2 => ⟨fun i d e => by
    unfold rangeC at e
    rw [List.getElem?_map] at e
    by_cases hi : i < n
    · rw [List.getElem?_range hi] at e
      cases e
      refine ⟨hi, fun x B y => ?_⟩
      obtain ⟨e1, e2⟩ := y
      subst e1 e2
      exact ⟨A0, Adv.refl s2, .int _⟩
    · rw [List.getElem?_eq_none (by simpa using hi)] at e
      exact (nomatch e),
  fun i hi => by
    have : (rangeC lo c n).length = n := by unfold rangeC; rw [List.length_map, List.length_range]
    rw [this] at hi
    exact hi⟩
theorem enum_get : ∀ (ds : List D) (k i : Nat) (d : D), (enumD k ds)[i]? = some d → ∃ z, ds[i]? = some z ∧ d = .tuple [.int ((k + i : Nat) : Int), z]
  | [], _, _, _, h => by simp [enumD] at h
  | x :: r, k, 0, d, h => by
    simp [enumD] at h
    exact ⟨x, rfl, h.symm⟩
  | x :: r, k, i + 1, d, h => by
    simp only [enumD, List.getElem?_cons_succ] at h
    obtain ⟨z, e1, e2⟩ := enum_get r (k + 1) i d h
    refine ⟨z, by simpa using e1, ?_⟩
    rw [e2]
    congr 4
    omega
theorem enum_len : ∀ (ds : List D) (k : Nat), (enumD k ds).length = ds.length
  | [], _ => rfl
  | _ :: r, k => by rw [enumD, List.length_cons, List.length_cons, enum_len r (k + 1)]
theorem it_enum {K : PySem.W.Frag} {H0 H : Hp} {a : Addr} {vs : List V} {ds : List D} (h : SqL K H0 a vs) (hd : DpAll K H0 vs ds) : ItOk K (Ite K a) (enumD 0 ds) H0 H := fun A0 A s1 s2 => ⟨fun i d e => by
    obtain ⟨z, ez, ed⟩ := enum_get ds 0 i d e
    subst ed
    obtain ⟨v, ev, hv⟩ := hd.at ez
    have q : SqL K A a vs := sql_mono (s1.trans s2) h
    refine ⟨⟨vs, v, q, ev⟩, fun x B y => ?_⟩
    obtain ⟨t, w, e1, nt, e2, y⟩ := y
    subst e1 e2
    have e3 := (y vs q).symm.trans ev
    cases e3
    have f0 := same_fresh s2 nt
    refine ⟨_, Adv.new s2 nt, .tup (SqT.of upd_same) (.cons ?_ (.cons ((hv.mono s1).mono (same_upd f0)) .nil))⟩
    rw [Nat.zero_add]
    exact .int _,
  fun i hi => ⟨vs, sql_mono (s1.trans s2) h, by rw [hd.len, ← enum_len ds 0]; exact hi⟩⟩
theorem zip_get : ∀ (xs ys : List D) (i : Nat) (d : D), (zipD xs ys)[i]? = some d → ∃ x y, xs[i]? = some x ∧ ys[i]? = some y ∧ d = .tuple [x, y]
  | [], _, _, _, h => by simp [zipD] at h
  | _ :: _, [], _, _, h => by simp [zipD] at h
  | x :: r, y :: t, 0, d, h => by
    simp [zipD] at h
    exact ⟨x, y, rfl, rfl, h.symm⟩
  | x :: r, y :: t, i + 1, d, h => by
    simp only [zipD, List.getElem?_cons_succ] at h
    obtain ⟨a, b, e1, e2, e3⟩ := zip_get r t i d h
    exact ⟨a, b, by simpa using e1, by simpa using e2, e3⟩
theorem zip_len : ∀ (xs ys : List D) (i : Nat), (zipD xs ys).length ≤ i → xs.length ≤ i ∨ ys.length ≤ i
  | [], _, _, _ => .inl (Nat.zero_le _)
  | _ :: _, [], _, _ => .inr (Nat.zero_le _)
  | x :: r, y :: t, 0, h => by simp [zipD] at h
  | x :: r, y :: t, i + 1, h => by
    simp only [zipD, List.length_cons] at h
    rcases zip_len r t i (by omega) with h | h
    · exact .inl (by rw [List.length_cons]; omega)
    · exact .inr (by rw [List.length_cons]; omega)
theorem it_zip {K : PySem.W.Frag} {H0 H : Hp} {a b : Addr} {vs ws : List V} {ds es : List D} (h : SqL K H0 a vs) (hd : DpAll K H0 vs ds) (h' : SqL K H0 b ws) (hd' : DpAll K H0 ws es) : ItOk K (Itz K a b) (zipD ds es) H0 H := fun A0 A s1 s2 => ⟨fun i d e => by
    obtain ⟨z, z', ez, ez', ed⟩ := zip_get ds es i d e
    subst ed
    obtain ⟨v, ev, hv⟩ := hd.at ez
    obtain ⟨v', ev', hv'⟩ := hd'.at ez'
    have q : SqL K A a vs := sql_mono (s1.trans s2) h
    have q' : SqL K A b ws := sql_mono (s1.trans s2) h'
    refine ⟨⟨vs, ws, v, v', q, q', ev, ev'⟩, fun x B y => ?_⟩
    obtain ⟨t, w, w', e1, nt, e2, y1, y2⟩ := y
    subst e1 e2
    have e3 := (y1 vs q).symm.trans ev
    cases e3
    have e4 := (y2 ws q').symm.trans ev'
    cases e4
    have f0 := same_fresh s2 nt
    exact ⟨_, Adv.new s2 nt, .tup (SqT.of upd_same) (.cons ((hv.mono s1).mono (same_upd f0)) (.cons ((hv'.mono s1).mono (same_upd f0)) .nil))⟩,
  fun i hi => by
    refine ⟨vs, ws, sql_mono (s1.trans s2) h, sql_mono (s1.trans s2) h', ?_⟩
    rw [hd.len, hd'.len]
    exact zip_len ds es i hi⟩
theorem it_rev {K : PySem.W.Frag} {H0 H : Hp} {a : Addr} {vs : List V} {ds : List D} (h : SqL K H0 a vs) (hd : DpAll K H0 vs ds) : ItOk K (Itv K a vs.length) ds.reverse H0 H := fun A0 A s1 s2 => ⟨fun i d e => by
    have hi : i < ds.length := by
      have := (List.getElem?_eq_some_iff.mp e).1
      simpa using this
    rw [List.getElem?_reverse hi] at e
    obtain ⟨v, ev, hv⟩ := hd.at e
    have q : SqL K A a vs := sql_mono (s1.trans s2) h
    have ev' : vs[vs.length - 1 - i]? = some v := by rw [hd.len]; exact ev
    refine ⟨⟨by rw [hd.len]; exact hi, vs, v, q, ev'⟩, fun x B y => ?_⟩
    obtain ⟨e1, y⟩ := y
    subst e1
    have e3 := (y vs q).symm.trans ev'
    cases e3
    exact ⟨A0, Adv.refl s2, hv.mono s1⟩,
  fun i hi => by
    show vs.length ≤ i
    rw [hd.len]
    simpa using hi⟩

section
variable {f : Fm} {W : WX} {Γ : List Sl} {X : Cx} {tg : Expr}
theorem pi_or {it : Expr} {t u : TI} (h : PI X tg it t) (h' : PI X tg it u) : PI X tg it (fun σ H R => t σ H R ∨ u σ H R) := ⟨fun pins s σ H R I q => q.elim (fun q => h.run pins s σ H R I q) fun q => h'.run pins s σ H R I q⟩
theorem i_of {e : Expr} {r : R} (hK : X.K = f.K) (he : PE X e (tV f W Γ r)) : PI X tg e (tI f W Γ (r.bind fun x => match x with
    | .list ds => .ok ds
    | .tuple ds => .ok ds
    | _ => unk)) := by
  refine (pi_or (pi_list he) (pi_tup he)).imp fun σ H R ⟨H0, q⟩ => ?_
  obtain ⟨st, m⟩ := q
  cases r with
  | error e => cases e with
    | none => exact m.elim
    | some c => exact .inl ⟨H0, st, m⟩
  | ok d =>
    cases d with
    | list ds =>
      refine .inl ⟨H0, st, fun v A0 A a dp => ?_⟩
      cases dp with
      | lst h1 h2 =>
        rw [hK]
        exact ⟨_, rfl, ⟨_, sql_mono a.inn h1⟩, m _ A0 A a (it_list h1 h2)⟩
    | tuple ds =>
      refine .inr ⟨H0, st, fun v A0 A a dp => ?_⟩
      cases dp with
      | tup h1 h2 =>
        rw [hK]
        exact ⟨_, rfl, ⟨_, sqt_mono a.inn h1⟩, m _ A0 A a (it_tup h1 h2)⟩
    | _ => exact m.elim
/-- the arguments of a range, an enumerate .. -/
theorem Va.bindI {Q : It → Hp → Prop} {r : R} {g : D → Rs} {H0 H : Hp} {σ : L2.St} (h : Vi f W Γ (r.bind g) H0 σ H Q) {Q1 : VK} (k : ∀ d v H0' H', Adv H0 H H0' H' → Dp f.K H0' v d → Vi f W Γ (g d) H0' σ H' Q → Q1 v H') : Va f W Γ r H0 σ H Q1 := by
  obtain ⟨st, m⟩ := h
  refine ⟨st, ?_⟩
  cases r with
  | error e => cases e with
    | none => exact m
    | some c => exact m
  | ok d =>
    intro v H0' H' adv dp
    refine k d v H0' H' adv dp ⟨st.adv adv, ?_⟩
    have m' : match g d with
      | .ok ds => ∀ J H0' H', Adv H0 H H0' H' → ItOk f.K J ds H0' H' → Q J H'
      | .error (some c) => ∀ H0' H', Adv H0 H H0' H' → W (.ref (f.cl c)) none σ H'
      | .error none => False := m
    revert m'
    cases g d with
    | ok z => exact fun m J A B a h => m J A B (adv.trans a) h
    | error e => cases e with
      | none => exact fun m => m
      | some c => exact fun m A B a => m A B (adv.trans a)
theorem Vi.int {H0 H : Hp} {σ : L2.St} {Q : It → Hp → Prop} {d : D} {g : Int → Rs} (h : Vi f W Γ ((asInt d).bind g) H0 σ H Q) : ∃ b, d = .int b ∧ Vi f W Γ (g b) H0 σ H Q := by
  cases d with
  | int b => exact ⟨b, rfl, h⟩
  | _ => exact h.2.elim
theorem Vi.list {H0 H : Hp} {σ : L2.St} {Q : It → Hp → Prop} {d : D} {g : List D → Rs} (h : Vi f W Γ ((asList d).bind g) H0 σ H Q) : ∃ b, d = .list b ∧ Vi f W Γ (g b) H0 σ H Q := by
  cases d with
  | list b => exact ⟨b, rfl, h⟩
  | _ => exact h.2.elim
theorem Vi.ok {H0 H : Hp} {σ : L2.St} {Q : It → Hp → Prop} {ds : List D} (h : Vi f W Γ (.ok ds) H0 σ H Q) {J : It} (j : ItOk f.K J ds H0 H) : Q J H := h.2 J H0 H (Adv.refl h.1.sub) j
theorem small_of {i : Int} (h : small i = true) : -(2 ^ 62) ≤ i ∧ i < 2 ^ 62 := by
  unfold small at h
  rw [Bool.and_eq_true] at h
  exact ⟨of_decide_eq_true h.1, of_decide_eq_true h.2⟩
theorem i_r1 {a : Expr} {ra : R} {p pos : Pos} (hg : Gl X "range") (hm : X.mg "range" = none) (hs : notStar a = true) (ha : PE X a (tV f W Γ ra)) :
    PI X tg (.Call (.Name "range" p) [a] [] pos) (tI f W Γ (ra.bind fun x => (asInt x).bind fun i => if small i = true then .ok (rangeD 0 i.toNat) else unk)) := by
  refine (pi_range1 hg hm (pa_cons ha pa_nil (star_cons hs [] X.env)) (star_cons hs [] X.env)).imp fun σ H R ⟨H0, q⟩ => ⟨H0, Va.bindI q fun x v A0 A a1 d1 q2 => ?_⟩
  obtain ⟨i, rfl, q3⟩ := q2.int
  by_cases hl : small i = true
  · rw [if_pos hl] at q3
    obtain ⟨l1, l2⟩ := small_of hl
    exact ⟨i, by rw [int_of d1], l1, l2, q3.ok it_range⟩
  · rw [if_neg hl] at q3
    exact q3.2.elim
theorem i_r2 {a b : Expr} {ra rb : R} {p pos : Pos} (hg : Gl X "range") (hm : X.mg "range" = none) (hs : notStar a = true) (hs2 : notStar b = true) (ha : PE X a (tV f W Γ ra)) (hb : PE X b (tV f W Γ rb)) :
    PI X tg (.Call (.Name "range" p) [a, b] [] pos) (tI f W Γ (ra.bind fun x => rb.bind fun y => (asInt x).bind fun i => (asInt y).bind fun j => if small i = true ∧ small j = true then .ok (rangeD i (j - i).toNat) else unk)) := by
  refine (pi_range2 hg hm (pa_cons ha (pa_cons hb pa_nil (star_cons hs2 [] X.env)) (star_cons hs [b] X.env)) ((star_cons hs [b] X.env).trans (by rw [star_cons hs2]; rfl)) (star_cons hs2 [] X.env)).imp fun σ H R ⟨H0, q⟩ =>
    ⟨H0, Va.bindI q fun x v A0 A a1 d1 q2 => ⟨A0, Va.bindI q2 fun y w B0 B a2 d2 q3 => ?_⟩⟩
  obtain ⟨i, rfl, q4⟩ := q3.int
  obtain ⟨j, rfl, q5⟩ := q4.int
  by_cases hl : small i = true ∧ small j = true
  · rw [if_pos hl] at q5
    obtain ⟨l1, l2⟩ := small_of hl.1
    obtain ⟨l3, l4⟩ := small_of hl.2
    exact ⟨i, j, by rw [int_of d1, int_of d2], ⟨l1, l2, l3, l4⟩, q5.ok it_range⟩
  · rw [if_neg hl] at q5
    exact q5.2.elim
theorem size_up {i j k : Int} (h : 0 < k) : Builtin.Range.rangeSize i j k = (stepN i j k : Int) := by
  unfold Builtin.Range.rangeSize stepN
  rw [if_pos h]
  by_cases hl : i < j
  · rw [if_pos hl, if_pos hl]
    have := Int.ediv_nonneg (show 0 ≤ j - i - 1 by omega) (Int.le_of_lt h)
    omega
  · rw [if_neg hl, if_neg hl]
    rfl
theorem small_up {i j k : Int} (h1 : -(2 ^ 62) ≤ i) (h2 : i < 2 ^ 62) (h3 : -(2 ^ 62) ≤ j) (h4 : j < 2 ^ 62) (h : 0 < k) (h' : k < 1000000) : Builtin.Range.small i j k = true := by
  have z : (0 : Int) ≤ stepN i j k ∧ (stepN i j k : Int) ≤ 2 ^ 63 - 1 := by
    unfold stepN
    by_cases hl : i < j
    · rw [if_pos hl]
      have a := Int.ediv_nonneg (show 0 ≤ j - i - 1 by omega) (Int.le_of_lt h)
      have b := Int.ediv_le_self k (show 0 ≤ j - i - 1 by omega)
      omega
    · rw [if_neg hl]
      omega
  unfold Builtin.Range.small
  rw [size_up h, if_pos h]
  simp only [Builtin.Range.rangeFitsLong, Bool.and_eq_true, Bool.or_eq_true, decide_eq_true_eq, beq_iff_eq]
  refine ⟨⟨⟨⟨?_, ?_⟩, ?_⟩, ?_⟩, .inr ?_⟩ <;> omega
theorem i_r3 {a b c : Expr} {ra rb rc : R} {p pos : Pos} (hg : Gl X "range") (hm : X.mg "range" = none) (hs : notStar a = true) (hs2 : notStar b = true) (hs3 : notStar c = true) (ha : PE X a (tV f W Γ ra)) (hb : PE X b (tV f W Γ rb)) (hc : PE X c (tV f W Γ rc)) :
    PI X tg (.Call (.Name "range" p) [a, b, c] [] pos) (tI f W Γ (ra.bind fun x => rb.bind fun y => rc.bind fun z => (asInt x).bind fun i => (asInt y).bind fun j => (asInt z).bind fun k =>
      if small i = true ∧ small j = true ∧ 0 < k ∧ k < 1000000 then .ok (rangeC i k (stepN i j k)) else unk)) := by
  refine (pi_range3 hg hm (pa_cons ha (pa_cons hb (pa_cons hc pa_nil (star_cons hs3 [] X.env)) (star_cons hs2 [c] X.env)) (star_cons hs [b, c] X.env)) (star_cons hs [b, c] X.env) (by rw [star_cons hs2, star_cons hs3]; rfl)).imp fun σ H R ⟨H0, q⟩ =>
    ⟨H0, Va.bindI q fun x v A0 A a1 d1 q2 => ⟨A0, Va.bindI q2 fun y w B0 B a2 d2 q3 => ⟨B0, Va.bindI q3 fun z u C0 C a3 d3 q4 => ?_⟩⟩⟩
  obtain ⟨i, rfl, q5⟩ := q4.int
  obtain ⟨j, rfl, q7⟩ := q5.int
  obtain ⟨k, rfl, q6⟩ := q7.int
  by_cases hl : small i = true ∧ small j = true ∧ 0 < k ∧ k < 1000000
  · rw [if_pos hl] at q6
    obtain ⟨l1, l2⟩ := small_of hl.1
    obtain ⟨l3, l4⟩ := small_of hl.2.1
    have k0 := hl.2.2.1
    have k1 := hl.2.2.2
    refine ⟨i, j, k, stepN i j k, by rw [int_of d1, int_of d2, int_of d3], ⟨by omega, by omega, ?_, ?_⟩, q6.ok it_rangeC⟩
    · exact small_up l1 l2 l3 l4 k0 k1
    · exact size_up k0
  · rw [if_neg hl] at q6
    exact q6.2.elim
theorem i_en {a : Expr} {ra : R} {p pos tpos : Pos} {elts : List Expr} {kk : Nat} (hK : X.K = f.K) (hg : Gl X "enumerate") (hm : X.mg "enumerate" = none) (hs : notStar a = true) (ha : PE X a (tV f W Γ ra)) :
    PI X (.Tuple elts kk tpos) (.Call (.Name "enumerate" p) [a] [] pos) (tI f W Γ (ra.bind fun x => (asList x).bind fun xs => .ok (enumD 0 xs))) := by
  refine (pi_enum hg hm (pa_cons ha pa_nil (star_cons hs [] X.env)) (star_cons hs [] X.env)).imp fun σ H R ⟨H0, q⟩ => ⟨H0, Va.bindI q fun x v A0 A a1 d1 q2 => ?_⟩
  obtain ⟨xs, rfl, q3⟩ := q2.list
  cases d1 with
  | lst h1 h2 =>
    rw [hK]
    exact ⟨_, _, rfl, sql_mono a1.inn h1, q3.ok (it_enum h1 h2)⟩
theorem i_zip {a b : Expr} {ra rb : R} {p pos tpos : Pos} {elts : List Expr} {kk : Nat} (hK : X.K = f.K) (hg : Gl X "zip") (hm : X.mg "zip" = none) (hs : notStar a = true) (hs2 : notStar b = true) (ha : PE X a (tV f W Γ ra)) (hb : PE X b (tV f W Γ rb)) :
    PI X (.Tuple elts kk tpos) (.Call (.Name "zip" p) [a, b] [] pos) (tI f W Γ (ra.bind fun x => rb.bind fun y => (asList x).bind fun xs => (asList y).bind fun ys => .ok (zipD xs ys))) := by
  refine (pi_zip hg hm (pa_cons ha (pa_cons hb pa_nil (star_cons hs2 [] X.env)) (star_cons hs [b] X.env)) (star_cons hs [b] X.env) (by rw [star_cons hs2]; rfl)).imp fun σ H R ⟨H0, q⟩ =>
    ⟨H0, Va.bindI q fun x v A0 A a1 d1 q2 => ⟨A0, Va.bindI q2 fun y w B0 B a2 d2 q3 => ?_⟩⟩
  obtain ⟨xs, rfl, q4⟩ := q3.list
  obtain ⟨ys, rfl, q5⟩ := q4.list
  cases d1 with
  | lst h1 h2 =>
    cases d2 with
    | lst h3 h4 =>
      rw [hK]
      exact ⟨_, _, _, _, rfl, sql_mono (a2.sub.trans a2.inn) h1, sql_mono a2.inn h3, q5.ok (it_zip (sql_mono a2.sub h1) (h2.mono a2.sub) h3 h4)⟩
theorem i_rv {a : Expr} {ra : R} {p pos : Pos} (hK : X.K = f.K) (hg : Gl X "reversed") (hm : X.mg "reversed" = none) (hs : notStar a = true) (ha : PE X a (tV f W Γ ra)) :
    PI X tg (.Call (.Name "reversed" p) [a] [] pos) (tI f W Γ (ra.bind fun x => (asList x).bind fun xs => .ok xs.reverse)) := by
  refine (pi_reversed hg hm (pa_cons ha pa_nil (star_cons hs [] X.env)) (star_cons hs [] X.env)).imp fun σ H R ⟨H0, q⟩ => ⟨H0, Va.bindI q fun x v A0 A a1 d1 q2 => ?_⟩
  obtain ⟨xs, rfl, q3⟩ := q2.list
  cases d1 with
  | lst h1 h2 =>
    rw [hK]
    exact ⟨_, _, rfl, sql_mono a1.inn h1, q3.ok (it_rev h1 h2)⟩

/-! ### targets -/
/-- a target gets data -/
def gT (f : Fm) (tg : Tg) : TG := fun v σ H Q => ∃ Γ H0 d Γ', St f Γ H0 σ H ∧ Dp f.K H0 v d ∧ asg tg d Γ = some Γ' ∧ ∀ σ', (∀ ws : List Nat, (∀ j ∈ tg.all, j ∈ ws) → wipe σ' ws = wipe σ ws) → (∀ j a, Owns Γ' σ' j a → Owns Γ σ j a) → St f Γ' H0 σ' H → Q σ' H
theorem owns_put {Γ : List Sl} {σ : L2.St} {i : Nat} {d : D} {o : Option V} {j : Nat} {a : Addr} (h : Owns (Γ.set i (.sh d)) (σ.set i o) j a) : Owns Γ σ j a := by
  obtain ⟨⟨s, e, w⟩, q⟩ := h
  by_cases hj : i = j
  · subst hj
    by_cases hi : i < Γ.length
    · rw [List.getElem?_set_self hi] at e
      cases e
      cases w
    · rw [List.getElem?_eq_none (by simpa using hi)] at e
      cases e
  · rw [List.getElem?_set_ne hj] at e q
    exact ⟨⟨s, e, w⟩, q⟩
theorem owns_non {Γ : List Sl} {σ : L2.St} {i : Nat} {o : Option V} {j : Nat} {a : Addr} (h : Owns (Γ.set i .non) (σ.set i o) j a) : Owns Γ σ j a := by
  obtain ⟨⟨s, e, w⟩, q⟩ := h
  by_cases hj : i = j
  · subst hj
    by_cases hi : i < Γ.length
    · rw [List.getElem?_set_self hi] at e
      cases e
      cases w
    · rw [List.getElem?_eq_none (by simpa using hi)] at e
      cases e
  · rw [List.getElem?_set_ne hj] at e q
    exact ⟨⟨s, e, w⟩, q⟩
theorem owns_wipe {Γ : List Sl} {σ : L2.St} {j : Nat} {a : Addr} : ∀ vs : List Nat, Owns (wipeG Γ vs) (wipe σ vs) j a → Owns Γ σ j a
  | [], h => h
  | _ :: vs, h => owns_wipe vs (owns_non h)
theorem wipe_set {σ : L2.St} {i : Nat} {o : Option V} : ∀ {ws : List Nat}, i ∈ ws → wipe (σ.set i o) ws = wipe σ ws
  | w :: ws, h => by
    unfold wipe
    by_cases e : i ∈ ws
    · rw [wipe_set e]
    · have e2 : i = w := by
        rcases List.mem_cons.mp h with q | q
        · exact q
        · exact absurd q e
      subst e2
      have : ∀ (ws : List Nat) (σ : L2.St), i ∉ ws → wipe (σ.set i o) ws = (wipe σ ws).set i o := by
        intro ws
        induction ws with
        | nil => intro σ _; rfl
        | cons x xs ih =>
          intro σ hx
          have h1 : i ≠ x := fun q => hx (by rw [q]; exact List.mem_cons_self)
          have h2 : i ∉ xs := fun q => hx (List.mem_cons_of_mem _ q)
          show (wipe (σ.set i o) xs).set x none = ((wipe σ xs).set x none).set i o
          rw [ih σ h2, List.set_comm _ _ h1]
      rw [this ws σ e, List.set_set]
theorem wipe_wipe (σ : L2.St) : ∀ vs ws : List Nat, (∀ v ∈ vs, v ∈ ws) → wipe (wipe σ vs) ws = wipe σ ws
  | [], _, _ => rfl
  | v :: vs, ws, h => by
    show wipe ((wipe σ vs).set v none) ws = _
    rw [wipe_set (h v List.mem_cons_self)]
    exact wipe_wipe σ vs ws fun x hx => h x (List.mem_cons_of_mem _ hx)
theorem St.wipes {Γ : List Sl} {H0 H : Hp} {σ : L2.St} (x : St f Γ H0 σ H) : ∀ vs : List Nat, St f (wipeG Γ vs) H0 (wipe σ vs) H
  | [] => x
  | v :: vs => (St.wipes x vs).drop v none
theorem len_wipeG (Γ : List Sl) : ∀ vs : List Nat, (wipeG Γ vs).length = Γ.length
  | [] => rfl
  | v :: vs => by unfold wipeG; rw [List.length_set, len_wipeG Γ vs]
theorem g_nm {fl : Option Scope} {T : Tab} {E : Evn} {k : Nat} {N : List Str} {sc : Scope} {cm : Bool} (S : Sta T E f W k N sc fl cm X) {i : Nat} {e : Expr} (h : ckNm N fl sc i e = true) : PG X e (gName i) := by
  unfold ckNm at h
  cases e <;> first | (cases h; done) | skip
  rename_i x p
  simp only [Bool.and_eq_true] at h
  obtain ⟨⟨⟨h1, h2⟩, h3⟩, h4⟩ := h
  refine pg_name (i := i) (by rw [S.hN]; exact S.nd) (by rw [S.hN]; exact of_decide_eq_true h1) (by rw [S.hsc]; exact loc_of h2) ?_
  cases fl with
  | none => exact .inl (S.fn x rfl)
  | some s =>
    unfold flB at h3
    rcases (Bool.or_eq_true _ _).mp h3 with h | h
    · exact .inl (S.fn x h)
    · exact .inr (by rw [S.hsc]; exact of_decide_eq_true h)
theorem gs_of {fl : Option Scope} {T : Tab} {E : Evn} {k : Nat} {N : List Str} {sc : Scope} {cm : Bool} (S : Sta T E f W k N sc fl cm X) : ∀ (is : List Nat) (es : List Expr), ckNms N fl sc is es = true →
    PGs X es (fun vs σ H Q => ∃ Γ H0 ds Γ', St f Γ H0 σ H ∧ DpAll f.K H0 vs ds ∧ putAll is ds Γ = some Γ' ∧ ∀ σ', (∀ ws : List Nat, (∀ j ∈ is, j ∈ ws) → wipe σ' ws = wipe σ ws) → (∀ j a, Owns Γ' σ' j a → Owns Γ σ j a) → St f Γ' H0 σ' H → Q σ' H) ∧
    (∀ env, (assignEach es env).length = is.length) ∧ ∀ env, (assignEach es env).findIdx? (·.1) = none
  | [], [], _ => ⟨⟨fun pins s σ H vs us Q I r h => pgs_nil.run pins s σ H vs us Q I r (by
      obtain ⟨Γ, H0, ds, Γ', st, dp, e, k⟩ := h
      cases ds with
      | nil =>
        cases dp
        cases e
        exact ⟨rfl, k σ (fun _ _ => rfl) (fun _ _ h => h) st⟩
      | cons _ _ => cases e)⟩, fun _ => rfl, fun _ => rfl⟩
  | i :: is, e :: es, h => by
    unfold ckNms at h
    rw [Bool.and_eq_true] at h
    obtain ⟨ih1, ih2, ih3⟩ := gs_of S is es h.2
    have h1 := g_nm S h.1
    have hE : ∀ env, assignEach (e :: es) env = (false, assign e env) :: assignEach es env := fun env => by
      have q := h.1
      unfold ckNm at q
      cases e <;> first | (cases q; done) | rfl
    refine ⟨⟨fun pins s σ H vs us Q I r q => ?_⟩, fun env => by rw [hE, List.length_cons, List.length_cons, ih2], fun env => ?_⟩
    · refine (pgs_cons h1 ih1 (by rw [hE]; rfl)).run pins s σ H vs us Q I r ?_
      obtain ⟨Γ, H0, ds, Γ', st, dp, e, k⟩ := q
      cases ds with
      | nil => cases e
      | cons d ds =>
        cases dp with
        | cons d1 d2 =>
          rename_i v vs
          unfold putAll at e
          by_cases hi : i < Γ.length
          · rw [if_pos hi] at e
            refine ⟨v, vs, rfl, Γ.set i (.sh d), H0, ds, Γ', st.put d1 hi, d2, e, fun σ' hw ho st' => k σ' (fun ws hws => ?_) (fun j a h => owns_put (ho j a h)) st'⟩
            rw [hw ws fun j hj => hws j (List.mem_cons_of_mem _ hj)]
            exact wipe_set (hws i List.mem_cons_self)
          · rw [if_neg hi] at e
            cases e
    · rw [hE]
      rw [List.findIdx?_cons]
      simp [ih3 env]
  | [], _ :: _, h => by cases h
  | _ :: _, [], h => by cases h
theorem g_of {fl : Option Scope} {T : Tab} {E : Evn} {k : Nat} {N : List Str} {sc : Scope} {cm : Bool} (S : Sta T E f W k N sc fl cm X) {t : Tg} {e : Expr} (h : ckTg N fl sc cm t e = true) : PG X e (gT f t) := by
  cases t with
  | nm i =>
    refine (g_nm S h).imp fun v σ H Q ⟨Γ, H0, d, Γ', st, dp, e, k⟩ => ?_
    unfold asg at e
    simp only at e
    by_cases hi : i < Γ.length
    · rw [if_pos hi] at e
      cases e
      exact k _ (fun ws hws => wipe_set (hws i List.mem_cons_self)) (fun j a h => owns_put h) (st.put dp hi)
    · rw [if_neg hi] at e
      cases e
  | tp is =>
    unfold ckTg at h
    cases e <;> first | (cases h; done) | skip
    rename_i es k p
    rw [Bool.and_eq_true] at h
    obtain ⟨h1, h2, h3⟩ := gs_of S is es h.2
    refine (pg_tupA (n := is.length) (S.hcm h.1).1 h1 (h2 X.env) (h3 X.env)).imp fun v σ H Q ⟨Γ, H0, d, Γ', st, dp, e, k⟩ => ?_
    have hl : ∀ (is : List Nat) (ds : List D) (Γ Γ' : List Sl), putAll is ds Γ = some Γ' → ds.length = is.length := by
      intro is
      induction is with
      | nil =>
        intro ds Γ Γ' e
        cases ds with
        | nil => rfl
        | cons _ _ => cases e
      | cons i is ih =>
        intro ds Γ Γ' e
        cases ds with
        | nil => cases e
        | cons d ds =>
          unfold putAll at e
          by_cases hi : i < Γ.length
          · rw [if_pos hi] at e
            rw [List.length_cons, List.length_cons, ih _ _ _ e]
          · rw [if_neg hi] at e
            cases e
    cases d with
    | tuple ds =>
      cases dp with
      | tup q1 q2 =>
        have e' : putAll is ds Γ = some Γ' := e
        rw [S.hK]
        exact ⟨_, _, rfl, .inl (sqt_mono st.sub q1), by rw [q2.len]; exact hl _ _ _ _ e', Γ, H0, ds, Γ', st, q2, e', k⟩
    | list ds =>
      cases dp with
      | lst q1 q2 =>
        have e' : putAll is ds Γ = some Γ' := e
        rw [S.hK]
        exact ⟨_, _, rfl, .inr (sql_mono st.sub q1), by rw [q2.len]; exact hl _ _ _ _ e', Γ, H0, ds, Γ', st, q2, e', k⟩
    | _ => cases e
end
end Dee

set_option maxRecDepth 100000
set_option maxHeartbeats 4000000
/-! Dee, part 9: comprehensions. -/
namespace Dee
open PySem PySem.Spec PyProof.Rows L2

abbrev WF : WX := fun _ _ _ _ => False
theorem lcL_cons {as : D → Option (List Sl)} {co el : List Sl → R} {d : D} {ds r : List D} (h : lcL as co el (d :: ds) = .ok r) : ∃ Γ, as d = some Γ ∧
    ((co Γ = .ok (.bool true) ∧ ∃ x xs, el Γ = .ok x ∧ lcL as co el ds = .ok xs ∧ r = x :: xs) ∨ (co Γ = .ok (.bool false) ∧ lcL as co el ds = .ok r)) := by
  unfold lcL at h
  split at h
  · cases h
  · rename_i Γ e
    refine ⟨Γ, e, ?_⟩
    split at h
    · rename_i ec
      split at h
      · rename_i x ex
        split at h
        · rename_i xs exs
          cases h
          exact .inl ⟨ec, x, xs, ex, exs, rfl⟩
        · cases h
      · cases h
    · rename_i ec
      exact .inr ⟨ec, h⟩
    · cases h
theorem lcL2_cons {as : D → Option (List Sl)} {co : List Sl → R} {el : List Sl → Rs} {d : D} {ds r : List D} (h : lcL2 as co el (d :: ds) = .ok r) : ∃ Γ, as d = some Γ ∧
    ((co Γ = .ok (.bool true) ∧ ∃ x xs, el Γ = .ok x ∧ lcL2 as co el ds = .ok xs ∧ r = x ++ xs) ∨ (co Γ = .ok (.bool false) ∧ lcL2 as co el ds = .ok r)) := by
  unfold lcL2 at h
  split at h
  · cases h
  · rename_i Γ e
    refine ⟨Γ, e, ?_⟩
    split at h
    · rename_i ec
      split at h
      · rename_i x ex
        split at h
        · rename_i xs exs
          cases h
          exact .inl ⟨ec, x, xs, ex, exs, rfl⟩
        · cases h
      · cases h
    · rename_i ec
      exact .inr ⟨ec, h⟩
    · cases h
theorem lcL_no (as : D → Option (List Sl)) (co el : List Sl → R) (c : Nat) : ∀ ds, lcL as co el ds ≠ .error (some c)
  | [] => nofun
  | d :: ds => by
    intro h
    unfold lcL at h
    split at h
    · cases h
    · split at h
      · split at h
        · split at h <;> cases h
        · cases h
      · exact lcL_no as co el c ds h
      · cases h
theorem lcL2_no (as : D → Option (List Sl)) (co : List Sl → R) (el : List Sl → Rs) (c : Nat) : ∀ ds, lcL2 as co el ds ≠ .error (some c)
  | [] => nofun
  | d :: ds => by
    intro h
    unfold lcL2 at h
    split at h
    · cases h
    · split at h
      · split at h
        · split at h <;> cases h
        · cases h
      · exact lcL2_no as co el c ds h
      · cases h
theorem Vi.bindF {f : Fm} {W : WX} {Γ : List Sl} {r : Rs} {g : List D → Rs} {H0 H : Hp} {σ : L2.St} {Q : VK} (h : Vf f W Γ (r.bind g) H0 σ H Q) {Q1 : It → Hp → Prop} (k : ∀ ds J H0' H', Adv H0 H H0' H' → ItOk f.K J ds H0' H' → Vf f W Γ (g ds) H0' σ H' Q → Q1 J H') : Vi f W Γ r H0 σ H Q1 := by
  obtain ⟨st, m⟩ := h
  refine ⟨st, ?_⟩
  cases r with
  | error e => cases e with
    | none => exact m
    | some c => exact m
  | ok d =>
    intro J H0' H' adv j
    refine k d J H0' H' adv j ⟨st.adv adv, ?_⟩
    have m' : match g d with
      | .ok ds => ∀ a vs H0' H', Adv H0 H H0' H' → H a = none → H0' a = none → H' a = some (.lst vs) → DpAll f.K H0' vs ds → Q (.ref a) H'
      | .error (some c) => ∀ H0' H', Adv H0 H H0' H' → W (.ref (f.cl c)) none σ H'
      | .error none => False := m
    revert m'
    cases g d with
    | ok z => exact fun m a vs A B ad n n0 e h => m a vs A B (adv.trans ad) (same_fresh adv.all n) n0 e h
    | error e => cases e with
      | none => exact fun m => m
      | some c => exact fun m A B a => m A B (adv.trans a)
/-- a list of which the cap is told -/
theorem Vf.capped {f : Fm} {W : WX} {Γ : List Sl} {r : Rs} {H0 H : Hp} {σ : L2.St} {Q : VK} (h : Vf f W Γ (r.bind capD) H0 σ H Q) (no : ∀ c, r ≠ .error (some c)) : ∃ all, r = .ok all ∧ all.length ≤ most ∧ Vf f W Γ (.ok all) H0 σ H Q := by
  cases r with
  | error e => cases e with
    | none => exact h.2.elim
    | some c => exact absurd rfl (no c)
  | ok all =>
    refine ⟨all, rfl, ?_⟩
    have h' : Vf f W Γ (capD all) H0 σ H Q := h
    unfold capD at h'
    by_cases hl : all.length ≤ most
    · rw [if_pos hl] at h'
      exact ⟨hl, h'⟩
    · rw [if_neg hl] at h'
      exact h'.2.elim

section
variable {f : Fm} {W : WX} {Γ : List Sl}
/-- while a comprehension's list stands at L: from (A0, A) to (B0, H), the list told so far -/
structure Lc (K : PySem.W.Frag) (A0 A : Hp) (L : Addr) (acc : List D) (B0 H : Hp) : Prop where
  adv : Adv A0 A B0 H
  no : B0 L = none
  at_ : ∃ vs, H L = some (.lst vs) ∧ DpAll K B0 vs acc
theorem Lc.go {K : PySem.W.Frag} {A0 A B0 H C0 C : Hp} {L : Addr} {acc : List D} (x : Lc K A0 A L acc B0 H) (a : Adv B0 H C0 C) : Lc K A0 A L acc C0 C := by
  obtain ⟨vs, e, d⟩ := x.at_
  exact ⟨x.adv.trans a, (a.old L _ e).trans x.no, vs, a.all _ _ e, d.mono a.sub⟩
theorem Lc.add {K : PySem.W.Frag} {A0 A B0 H : Hp} {L : Addr} {acc : List D} (x : Lc K A0 A L acc B0 H) (hA : A L = none) {y : V} {d : D} (h : Dp K B0 y d) :
    ∃ vs, H L = some (.lst vs) ∧ vs.length = acc.length ∧ Lc K A0 A L (acc ++ [d]) B0 (upd H L (.lst (vs ++ [y]))) := by
  obtain ⟨vs, e, q⟩ := x.at_
  exact ⟨vs, e, q.len, x.adv.beside hA x.no, x.no, vs ++ [y], upd_same, q.app (.cons h .nil)⟩
theorem Lc.start {K : PySem.W.Frag} {A0 A : Hp} {L : Addr} (s : Same A0 A) (hA : A L = none) : Lc K A0 A L [] A0 (upd A L (.lst [])) :=
  ⟨(Adv.refl s).beside hA (same_fresh s hA), same_fresh s hA, [], upd_same, .nil⟩

/-- the turns of a clause, by what is left to walk: P (the turn's number, the shared part, the heap), step as told -/
theorem walk_it {K : PySem.W.Frag} {J : It} {ds : List D} {A0 A : Hp} (j : ItOk K J ds A0 A) {Fin : Hp → Prop} {Bd : Nat → V → Hp → (Hp → Prop) → Prop} (P : Nat → Hp → Hp → Prop) {H1 : Hp} (h0 : ∃ B0, P 0 B0 H1)
    (hP : ∀ i B0 H, P i B0 H → Same A0 B0 ∧ Same B0 H) (turn : ∀ i d B0 H x H' C0, ds[i]? = some d → P i B0 H → Adv B0 H C0 H' → Dp K C0 x d → Bd i x H' fun H'' => ∃ B0', P (i + 1) B0' H'') (fin : ∀ B0 H, P ds.length B0 H → Fin H)
    (mono : ∀ i x H (Q Q' : Hp → Prop), (∀ H, Q H → Q' H) → Bd i x H Q → Bd i x H Q') :
    ∃ W : Nat → Nat → Hp → Prop, (∃ m, W 0 m H1) ∧ ∀ i m H, W i m H → (J.stop i H ∧ Fin H) ∨ (J.go i H ∧ ∃ Nx : Hp → Prop, (∀ H', Nx H' → ∃ m', m' < m ∧ W (i + 1) m' H') ∧ ∀ x H', J.yld i H x H' → Bd i x H' Nx) := by
  obtain ⟨B0, p0⟩ := h0
  refine ⟨fun i m H => m = ds.length - i ∧ i ≤ ds.length ∧ ∃ B0, P i B0 H, ⟨_, rfl, Nat.zero_le _, B0, p0⟩, ?_⟩
  rintro i m H ⟨rfl, hi, B0, p⟩
  obtain ⟨s1, s2⟩ := hP i B0 H p
  obtain ⟨j1, j2⟩ := j B0 H s1 s2
  by_cases hlt : i < ds.length
  · obtain ⟨g, y⟩ := j1 i ds[i] (List.getElem?_eq_getElem hlt)
    refine .inr ⟨g, fun H' => ∃ B0', P (i + 1) B0' H', fun H' ⟨B0', p'⟩ => ⟨ds.length - (i + 1), by omega, rfl, hlt, B0', p'⟩, fun x H' yx => ?_⟩
    obtain ⟨C0, a, dx⟩ := y x H' yx
    exact turn i _ B0 H x H' C0 (List.getElem?_eq_getElem hlt) p a dx
  · have e : i = ds.length := by omega
    subst e
    exact .inl ⟨j2 _ (Nat.le_refl _), fin B0 H p⟩

def tCo (f : Fm) (co : List Sl → R) : TT := fun σ H Q => ∃ Γ, Dee.tB f WF Γ (co Γ) σ H Q
def tEl (f : Fm) (el : List Sl → R) : TE := fun σ H Q => ∃ Γ, tV f WF Γ (el Γ) σ H Q

theorem drop_cons {ds : List D} {i : Nat} {d : D} (h : ds[i]? = some d) : ds.drop i = d :: ds.drop (i + 1) := by
  obtain ⟨hi, e⟩ := List.getElem?_eq_some_iff.mp h
  rw [List.drop_eq_getElem_cons hi, e]

theorem g_mono {tg : Tg} {vs : List Nat} {co el : List Sl → R} {σ : L2.St} {L : Addr} {x : V} {H' : Hp} {Q1 Q2 : Hp → Prop} (hq : ∀ H, Q1 H → Q2 H)
    (h : gT f tg x (wipe σ vs) H' fun σ2 H2 => wipe σ2 vs = wipe σ vs ∧ tCo f co σ2 H2 fun b H3 => if b = true then tEl f el σ2 H3 fun y H4 => ∃ acc, H4 L = some (.lst acc) ∧ acc.length < sizeLine ∧ Q1 (upd H4 L (.lst (acc ++ [y]))) else Q1 H3) :
    gT f tg x (wipe σ vs) H' fun σ2 H2 => wipe σ2 vs = wipe σ vs ∧ tCo f co σ2 H2 fun b H3 => if b = true then tEl f el σ2 H3 fun y H4 => ∃ acc, H4 L = some (.lst acc) ∧ acc.length < sizeLine ∧ Q2 (upd H4 L (.lst (acc ++ [y]))) else Q2 H3 := by
  obtain ⟨Γa, Ha, d, Γb, st, dx, ea, k⟩ := h
  refine ⟨Γa, Ha, d, Γb, st, dx, ea, fun σ' hw ho st' => ?_⟩
  obtain ⟨e, Γc, Hc, st2, m⟩ := k σ' hw ho st'
  refine ⟨e, Γc, Hc, st2, ?_⟩
  revert m
  cases co Γc with
  | error e => cases e with
    | none => exact fun m => m
    | some c => exact fun m => m
  | ok z =>
    cases z with
    | bool b =>
      intro m A0 A1 a
      have m1 := m A0 A1 a
      cases b with
      | true =>
        rw [if_pos rfl] at m1 ⊢
        obtain ⟨Γd, Hd, st3, m2⟩ := m1
        refine ⟨Γd, Hd, st3, ?_⟩
        revert m2
        cases el Γd with
        | error e => cases e with
          | none => exact fun m => m
          | some c => exact fun m => m
        | ok w => exact fun m v B C a d => let ⟨acc, e1, e2, q⟩ := m v B C a d; ⟨acc, e1, e2, hq _ q⟩
      | false =>
        rw [if_neg Bool.false_ne_true] at m1 ⊢
        exact hq _ m1
    | _ => exact fun m => m

theorem lc_read {tg : Tg} {vs : List Nat} {co el : List Sl → R} {r : Rs} {H0 H : Hp} {σ : L2.St} {Q : VK} (hsub : ∀ j ∈ tg.all, j ∈ vs)
    (h : Vf f W Γ (r.bind fun ds => (lcL (fun d => asg tg d (wipeG Γ vs)) co el ds).bind capD) H0 σ H Q) : tLc (tI f W Γ r) (gT f tg) (tCo f co) (tEl f el) vs σ H Q := by
  refine ⟨H0, Vi.bindF h fun ds J A0 A a0 j h2 L hL => ?_⟩
  obtain ⟨all, e0, hcap, h3⟩ := h2.capped fun c => lcL_no _ _ _ c _
  have st0 := h3.1
  refine walk_it j (fun i B0 H => ∃ acc rest, Lc f.K A0 A L acc B0 H ∧ lcL (fun d => asg tg d (wipeG Γ vs)) co el (ds.drop i) = .ok rest ∧ acc ++ rest = all) ⟨A0, [], all, Lc.start st0.sub hL, e0, rfl⟩
    (fun i B0 H ⟨acc, rest, lc, _⟩ => ⟨lc.adv.sub, lc.adv.inn⟩) ?_ ?_
    (Bd := fun i x H' Nx => gT f tg x (wipe σ vs) H' fun σ2 H2 => wipe σ2 vs = wipe σ vs ∧ tCo f co σ2 H2 fun b H3 => if b = true then tEl f el σ2 H3 fun y H4 => ∃ acc, H4 L = some (.lst acc) ∧ acc.length < sizeLine ∧ Nx (upd H4 L (.lst (acc ++ [y]))) else Nx H3) ?_
  · rintro i d B0 Hi x H' C0 hd ⟨acc, rest, lc, er, ea⟩ adv dx
    rw [drop_cons hd] at er
    obtain ⟨Γ1, eg, ec⟩ := lcL_cons er
    have lc1 := lc.go adv
    have st1 : St f (wipeG Γ vs) C0 (wipe σ vs) H' := (st0.adv lc1.adv).wipes vs
    refine ⟨wipeG Γ vs, C0, d, Γ1, st1, dx, eg, fun σ' hw ho st2 => ⟨?_, Γ1, C0, st2, ?_⟩⟩
    · rw [hw vs hsub, wipe_wipe σ vs vs fun _ h => h]
    · rcases ec with ⟨ec, z, zs, ez, ezs, rfl⟩ | ⟨ec, er'⟩
      · rw [ec]
        intro C1 H3 a2
        rw [if_pos rfl]
        refine ⟨Γ1, C1, st2.adv a2, ?_⟩
        rw [ez]
        intro v C2 H4 a3 dv
        obtain ⟨ws, e1, e2, lc3⟩ := ((lc1.go a2).go a3).add hL dv
        have hl : acc.length < most + 1 := by
          have := congrArg List.length ea
          rw [List.length_append, List.length_cons] at this
          omega
        refine ⟨ws, e1, by rw [e2]; exact Nat.lt_of_lt_of_le hl (by decide), C2, acc ++ [z], zs, lc3, ezs, ?_⟩
        rw [List.append_assoc]
        exact ea
      · rw [ec]
        intro C1 H3 a2
        rw [if_neg Bool.false_ne_true]
        exact ⟨C1, acc, rest, lc1.go a2, er', ea⟩
  · rintro B0 Hn ⟨acc, rest, lc, er, ea⟩
    rw [List.drop_length] at er
    cases er
    rw [List.append_nil] at ea
    subst ea
    obtain ⟨ws, e1, dw⟩ := lc.at_
    exact h3.2 L ws B0 Hn lc.adv hL lc.no e1 dw
  · exact fun i x H' Q1 Q2 hq h => g_mono hq h
/-! ### two clauses -/
/-- as Adv, but for what stands at L, beside the shared part -/
structure AdvX (L : Addr) (H0 H H0' H' : Hp) : Prop where
  sub : Same H0 H0'
  all : ∀ a o, a ≠ L → H a = some o → H' a = some o
  inn : Same H0' H'
  old : ∀ a o, a ≠ L → H a = some o → H0' a = H0 a
theorem AdvX.refl {L : Addr} {H0 H : Hp} (s : Same H0 H) : AdvX L H0 H H0 H := ⟨same_refl _, fun _ _ _ h => h, s, fun _ _ _ _ => rfl⟩
theorem AdvX.trans {L : Addr} {A B A' B' A'' B'' : Hp} (x : AdvX L A B A' B') (y : Adv A' B' A'' B'') : AdvX L A B A'' B'' :=
  ⟨x.sub.trans y.sub, fun a o n h => y.all a o (x.all a o n h), y.inn, fun a o n h => (y.old a o (x.all a o n h)).trans (x.old a o n h)⟩
theorem AdvX.put {L : Addr} {A B A' B' : Hp} {o : HO} (x : AdvX L A B A' B') (h : A' L = none) : AdvX L A B A' (upd B' L o) :=
  ⟨x.sub, fun a u n h => by rw [upd_ne n]; exact x.all a u n h, same_out x.inn h, x.old⟩
theorem St.advX {Γ : List Sl} {H0 H H0' H' : Hp} {σ : L2.St} {L : Addr} (x : St f Γ H0 σ H) (a : AdvX L H0 H H0' H') (he : f.He L = none) (no : ∀ j, ¬ Owns Γ σ j L) : St f Γ H0' σ H' where
  ent := fun b o h => a.all b o (ne_of_none h he) (x.ent b o h)
  sub := a.inn
  new := x.new.trans a.sub
  old := fun b o h => (a.old b o (ne_of_none h he) (x.ent b o h)).trans (x.old b o h)
  len := x.len
  sl := fun i s h => by
    obtain ⟨o, e, q⟩ := x.sl i s h
    refine ⟨o, e, ?_⟩
    have ne : ∀ b, o = some (.ref b) → s.owns = true → b ≠ L := fun b eb w hb => by
      subst hb
      subst eb
      exact no i ⟨⟨s, h, w⟩, e⟩
    cases s with
    | non => trivial
    | sh d =>
      obtain ⟨v, e, q⟩ := q
      exact ⟨v, e, q.mono a.sub⟩
    | own ds =>
      obtain ⟨y, vs, e, n, n0, q, r⟩ := q
      exact ⟨y, vs, e, n, (a.old y _ (ne y e rfl) q).trans n0, a.all _ _ (ne y e rfl) q, r.mono a.sub⟩
    | dk kvs =>
      obtain ⟨y, vs, e, n, n0, q, r⟩ := q
      exact ⟨y, vs, e, n, (a.old y _ (ne y e rfl) q).trans n0, a.all _ _ (ne y e rfl) q, r.mono a.sub⟩
    | dt kvs =>
      obtain ⟨y, vs, e, n, n0, q, r⟩ := q
      exact ⟨y, vs, e, n, (a.old y _ (ne y e rfl) q).trans n0, a.all _ _ (ne y e rfl) q, r.mono a.sub⟩
    | exc c => exact q
    | scr ns => trivial
  ap := x.ap

def tI1 (f : Fm) (it : List Sl → Rs) : TI := fun σ H R => ∃ Γ, tI f WF Γ (it Γ) σ H R
/-- the inner loop -/
theorem lc_inner {tg : Tg} {vs : List Nat} {co el : List Sl → R} {A0 A B0 B : Hp} {L : Addr} {acc0 es all : List D} {J : It} {σ : L2.St} {Γ1 : List Sl} {Nx : Hp → Prop} (hsub : ∀ j ∈ tg.all, j ∈ vs) (hA : A L = none) (he : f.He L = none) (no : ∀ j, ¬ Owns Γ1 σ j L)
    (lc0 : Lc f.K A0 A L acc0 B0 B) (st0 : St f Γ1 B0 σ B) (j : ItOk f.K J es B0 B) (e0 : lcL (fun d => asg tg d (wipeG Γ1 vs)) co el es = .ok all) (hcap : acc0.length + all.length ≤ most) (fin : ∀ C0 H, Lc f.K A0 A L (acc0 ++ all) C0 H → Nx H) :
    ∃ W : Nat → Nat → Hp → Prop, (∃ m, W 0 m B) ∧ ∀ i m H, W i m H → (J.stop i H ∧ Nx H) ∨ (J.go i H ∧ ∃ Nx1 : Hp → Prop, (∀ H', Nx1 H' → ∃ m', m' < m ∧ W (i + 1) m' H') ∧ ∀ x H', J.yld i H x H' →
      gT f tg x (wipe σ vs) H' fun σ2 H2 => wipe σ2 vs = wipe σ vs ∧ tCo f co σ2 H2 fun b H3 => if b = true then tEl f el σ2 H3 fun y H4 => ∃ acc, H4 L = some (.lst acc) ∧ acc.length < sizeLine ∧ Nx1 (upd H4 L (.lst (acc ++ [y]))) else Nx1 H3) := by
  refine walk_it j (fun i C0 H => ∃ acc rest, Lc f.K A0 A L acc C0 H ∧ AdvX L B0 B C0 H ∧ lcL (fun d => asg tg d (wipeG Γ1 vs)) co el (es.drop i) = .ok rest ∧ acc ++ rest = acc0 ++ all) ⟨B0, acc0, all, lc0, AdvX.refl st0.sub, e0, rfl⟩
    (fun i B0 H ⟨acc, rest, lc, ax, _⟩ => ⟨ax.sub, lc.adv.inn⟩) ?_ ?_
    (Bd := fun i x H' Nx => gT f tg x (wipe σ vs) H' fun σ2 H2 => wipe σ2 vs = wipe σ vs ∧ tCo f co σ2 H2 fun b H3 => if b = true then tEl f el σ2 H3 fun y H4 => ∃ acc, H4 L = some (.lst acc) ∧ acc.length < sizeLine ∧ Nx (upd H4 L (.lst (acc ++ [y]))) else Nx H3) ?_
  · rintro i d C0 Hi x H' D0 hd ⟨acc, rest, lc, ax, er, ea⟩ adv dx
    rw [drop_cons hd] at er
    obtain ⟨Γ2, eg, ec⟩ := lcL_cons er
    have lc1 := lc.go adv
    have st1 : St f (wipeG Γ1 vs) D0 (wipe σ vs) H' := ((st0.advX ax he no).adv adv).wipes vs
    refine ⟨wipeG Γ1 vs, D0, d, Γ2, st1, dx, eg, fun σ' hw ho st2 => ⟨?_, Γ2, D0, st2, ?_⟩⟩
    · rw [hw vs hsub, wipe_wipe σ vs vs fun _ h => h]
    · rcases ec with ⟨ec, z, zs, ez, ezs, rfl⟩ | ⟨ec, er'⟩
      · rw [ec]
        intro C1 H3 a2
        rw [if_pos rfl]
        refine ⟨Γ2, C1, st2.adv a2, ?_⟩
        rw [ez]
        intro v C2 H4 a3 dv
        have lc2 := (lc1.go a2).go a3
        obtain ⟨ws, e1, e2, lc3⟩ := lc2.add hA dv
        have hl : acc.length < most + 1 := by
          have := congrArg List.length ea
          rw [List.length_append, List.length_append, List.length_cons] at this
          omega
        refine ⟨ws, e1, by rw [e2]; exact Nat.lt_of_lt_of_le hl (by decide), C2, acc ++ [z], zs, lc3, (((ax.trans adv).trans a2).trans a3).put lc2.no, ezs, ?_⟩
        rw [List.append_assoc]
        exact ea
      · rw [ec]
        intro C1 H3 a2
        rw [if_neg Bool.false_ne_true]
        exact ⟨C1, acc, rest, lc1.go a2, (ax.trans adv).trans a2, er', ea⟩
  · rintro C0 Hn ⟨acc, rest, lc, ax, er, ea⟩
    rw [List.drop_length] at er
    cases er
    rw [List.append_nil] at ea
    subst ea
    exact fin C0 Hn lc
  · exact fun i x H' Q1 Q2 hq h => g_mono hq h

theorem lc2_read {tg tg1 : Tg} {vs vs1 : List Nat} {co co1 el : List Sl → R} {it1 : List Sl → Rs} {r : Rs} {H0 H : Hp} {σ : L2.St} {Q : VK} (hsub : ∀ j ∈ tg.all, j ∈ vs) (hsub1 : ∀ j ∈ tg1.all, j ∈ vs1)
    (h : Vf f W Γ (r.bind fun ds => (lcL2 (fun d => asg tg d (wipeG Γ vs)) co (fun Γ => match it1 Γ with
        | .ok es => lcL (fun d => asg tg1 d (wipeG Γ vs1)) co1 el es
        | .error _ => unk) ds).bind capD) H0 σ H Q) : tLc2 (tI f W Γ r) (gT f tg) (tCo f co) (tI1 f it1) (gT f tg1) (tCo f co1) (tEl f el) vs vs1 σ H Q := by
  refine ⟨H0, Vi.bindF h fun ds J A0 A a0 j h2 L hL => ?_⟩
  obtain ⟨all, e0, hcap, h3⟩ := h2.capped fun c => lcL2_no _ _ _ c _
  have st0 := h3.1
  have he : f.He L = none := same_fresh st0.ent hL
  refine walk_it j (fun i B0 H => ∃ acc rest, Lc f.K A0 A L acc B0 H ∧ lcL2 (fun d => asg tg d (wipeG Γ vs)) co (fun Γ => match it1 Γ with
        | .ok es => lcL (fun d => asg tg1 d (wipeG Γ vs1)) co1 el es
        | .error _ => unk) (ds.drop i) = .ok rest ∧ acc ++ rest = all) ⟨A0, [], all, Lc.start st0.sub hL, e0, rfl⟩
    (fun i B0 H ⟨acc, rest, lc, _⟩ => ⟨lc.adv.sub, lc.adv.inn⟩) ?_ ?_
    (Bd := fun i x H' Nx => gT f tg x (wipe σ vs) H' fun σ2 H2 => wipe σ2 vs = wipe σ vs ∧ tCo f co σ2 H2 fun b H3 => if b = true then tI1 f it1 σ2 H3 fun J1 H4 => ∃ W1 : Nat → Nat → Hp → Prop, (∃ m, W1 0 m H4) ∧ ∀ j k H, W1 j k H →
      (J1.stop j H ∧ Nx H) ∨ (J1.go j H ∧ ∃ Nx1 : Hp → Prop, (∀ H', Nx1 H' → ∃ k', k' < k ∧ W1 (j + 1) k' H') ∧ ∀ x H', J1.yld j H x H' → gT f tg1 x (wipe σ2 vs1) H' fun σ3 H5 => wipe σ3 vs1 = wipe σ2 vs1 ∧ tCo f co1 σ3 H5 fun b H6 =>
        if b = true then tEl f el σ3 H6 fun y H7 => ∃ acc, H7 L = some (.lst acc) ∧ acc.length < sizeLine ∧ Nx1 (upd H7 L (.lst (acc ++ [y]))) else Nx1 H6) else Nx H3) ?_
  · rintro i d B0 Hi x H' C0 hd ⟨acc, rest, lc, er, ea⟩ adv dx
    rw [drop_cons hd] at er
    obtain ⟨Γ1, eg, ec⟩ := lcL2_cons er
    have lc1 := lc.go adv
    have st1 : St f (wipeG Γ vs) C0 (wipe σ vs) H' := (st0.adv lc1.adv).wipes vs
    refine ⟨wipeG Γ vs, C0, d, Γ1, st1, dx, eg, fun σ' hw ho st2 => ⟨?_, Γ1, C0, st2, ?_⟩⟩
    · rw [hw vs hsub, wipe_wipe σ vs vs fun _ h => h]
    · have no : ∀ j, ¬ Owns Γ1 σ' j L := fun j q => st0.noOwn hL j (owns_wipe vs (ho j L q))
      rcases ec with ⟨ec, z, zs, ez, ezs, rfl⟩ | ⟨ec, er'⟩
      · rw [ec]
        intro C1 H3 a2
        rw [if_pos rfl]
        have ez' : (match it1 Γ1 with
          | .ok es => lcL (fun d => asg tg1 d (wipeG Γ1 vs1)) co1 el es
          | .error _ => unk) = .ok z := ez
        refine ⟨Γ1, C1, st2.adv a2, ?_⟩
        cases q1 : it1 Γ1 with
        | error e =>
          rw [q1] at ez'
          cases ez'
        | ok es =>
          rw [q1] at ez'
          intro J1 C2 H4 a3 j1
          have ez2 : lcL (fun d => asg tg1 d (wipeG Γ1 vs1)) co1 el es = .ok z := ez'
          refine lc_inner hsub1 hL he no ((lc1.go a2).go a3) ((st2.adv a2).adv a3) j1 ez2 ?_ fun D0 HD lc3 => ⟨D0, acc ++ z, zs, lc3, ezs, ?_⟩
          · have := congrArg List.length ea
            rw [List.length_append, List.length_append] at this
            omega
          · rw [List.append_assoc]
            exact ea
      · rw [ec]
        intro C1 H3 a2
        rw [if_neg Bool.false_ne_true]
        exact ⟨C1, acc, rest, lc1.go a2, er', ea⟩
  · rintro B0 Hn ⟨acc, rest, lc, er, ea⟩
    rw [List.drop_length] at er
    cases er
    rw [List.append_nil] at ea
    subst ea
    obtain ⟨ws, e1, dw⟩ := lc.at_
    exact h3.2 L ws B0 Hn lc.adv hL lc.no e1 dw
  · rintro i x H' Q1 Q2 hq ⟨Γa, Ha, d, Γb, st, dx, ea, k⟩
    refine ⟨Γa, Ha, d, Γb, st, dx, ea, fun σ' hw ho st' => ?_⟩
    obtain ⟨e, Γc, Hc, st2, m⟩ := k σ' hw ho st'
    refine ⟨e, Γc, Hc, st2, ?_⟩
    revert m
    cases co Γc with
    | error e => cases e with
      | none => exact fun m => m
      | some c => exact fun m => m
    | ok z =>
      cases z with
      | bool b =>
        intro m A0 A1 a
        have m1 := m A0 A1 a
        cases b with
        | true =>
          rw [if_pos rfl] at m1 ⊢
          obtain ⟨Γd, Hd, st3, m2⟩ := m1
          refine ⟨Γd, Hd, st3, ?_⟩
          revert m2
          cases it1 Γd with
          | error e => cases e with
            | none => exact fun m => m
            | some c => exact fun m => m
          | ok w =>
            intro m J B C a jj
            obtain ⟨W1, h1, h2⟩ := m J B C a jj
            exact ⟨W1, h1, fun j k H w => (h2 j k H w).imp (fun ⟨p, q⟩ => ⟨p, hq _ q⟩) fun q => q⟩
        | false =>
          rw [if_neg Bool.false_ne_true] at m1 ⊢
          exact hq _ m1
      | _ => exact fun m => m
end
end Dee

set_option maxRecDepth 100000
set_option maxHeartbeats 4000000
/-! Dee, part 10: built-in functions. -/
namespace Dee
open PySem PySem.Spec PyProof.Rows L2

/-- a call on data -/
def rDs (K : PySem.W.Frag) (g : List D → R) : List V → Hp → VK → Prop := fun vs H Q => ∃ H0 ds z, Same H0 H ∧ DpAll K H0 vs ds ∧ g ds = .ok z ∧ ∀ v H0' H', Adv H0 H H0' H' → Dp K H0' v z → Q v H'
def rDf (K : PySem.W.Frag) (g : List D → Rs) : List V → Hp → VK → Prop := fun vs H Q => ∃ H0 ds z, Same H0 H ∧ DpAll K H0 vs ds ∧ g ds = .ok z ∧ ∀ ws a, H a = none → DpAll K H0 ws z → Q (.ref a) (upd H a (.lst ws))

theorem dp1 {K : PySem.W.Frag} {H : Hp} {vs : List V} {d : D} (h : DpAll K H vs [d]) : ∃ v, vs = [v] ∧ Dp K H v d := by
  cases h with
  | cons h1 h2 =>
    cases h2
    exact ⟨_, rfl, h1⟩
theorem dp2 {K : PySem.W.Frag} {H : Hp} {vs : List V} {d e : D} (h : DpAll K H vs [d, e]) : ∃ v w, vs = [v, w] ∧ Dp K H v d ∧ Dp K H w e := by
  cases h with
  | cons h1 h2 =>
    obtain ⟨w, rfl, h3⟩ := dp1 h2
    exact ⟨_, _, rfl, h1, h3⟩
theorem asInts_ok : ∀ {ds : List D} {ns : List Int}, asInts ds = .ok ns → ds = ns.map .int
  | [], _, h => by
    cases h
    rfl
  | d :: ds, ns, h => by
    cases d <;> first | (cases h; done) | skip
    obtain ⟨r, e, rfl⟩ := map_ok (show (asInts ds).map _ = _ from h)
    rw [asInts_ok e]
    rfl
theorem asBools_ok : ∀ {ds : List D} {ns : List Bool}, asBools ds = .ok ns → ds = ns.map .bool
  | [], _, h => by
    cases h
    rfl
  | d :: ds, ns, h => by
    cases d <;> first | (cases h; done) | skip
    obtain ⟨r, e, rfl⟩ := map_ok (show (asBools ds).map _ = _ from h)
    rw [asBools_ok e]
    rfl
theorem dp_ints {K : PySem.W.Frag} {H : Hp} : ∀ {ns : List Int} {vs : List V}, DpAll K H vs (ns.map .int) → vs = ns.map .int
  | [], _, h => by
    cases h
    rfl
  | n :: ns, _, h => by
    cases h with
    | cons h1 h2 =>
      cases h1
      rw [dp_ints h2]
      rfl
theorem ints_dp {K : PySem.W.Frag} {H : Hp} : ∀ ns : List Int, DpAll K H (ns.map V.int) (ns.map .int)
  | [] => .nil
  | n :: ns => .cons (.int n) (ints_dp ns)
theorem dp_bools {K : PySem.W.Frag} {H : Hp} : ∀ {ns : List Bool} {vs : List V}, DpAll K H vs (ns.map .bool) → vs = ns.map .bl
  | [], _, h => by
    cases h
    rfl
  | n :: ns, _, h => by
    cases h with
    | cons h1 h2 =>
      cases h1
      rw [dp_bools h2]
      rfl
theorem bind_ok {α β : Type} {x : Except (Option Nat) α} {g : α → Except (Option Nat) β} {z : β} (h : x.bind g = .ok z) : ∃ y, x = .ok y ∧ g y = .ok z := by
  cases x with
  | error e => cases h
  | ok y => exact ⟨y, rfl, h⟩
theorem fold_max : ∀ (r : List Int) (n : Int), n ≤ r.foldl max n ∧ (∀ y ∈ r, y ≤ r.foldl max n) ∧ (r.foldl max n = n ∨ r.foldl max n ∈ r)
  | [], n => ⟨Int.le_refl _, fun _ h => absurd h List.not_mem_nil, .inl rfl⟩
  | x :: r, n => by
    obtain ⟨h1, h2, h3⟩ := fold_max r (max n x)
    refine ⟨?_, fun y hy => ?_, ?_⟩
    · exact Int.le_trans (Int.le_max_left n x) h1
    · rcases List.mem_cons.mp hy with e | hy
      · subst e
        exact Int.le_trans (Int.le_max_right n y) h1
      · exact h2 y hy
    · show r.foldl max (max n x) = n ∨ r.foldl max (max n x) ∈ x :: r
      rcases h3 with e | e
      · rw [e]
        by_cases hl : n ≤ x
        · right
          rw [Int.max_eq_right hl]
          exact List.mem_cons_self
        · left
          exact Int.max_eq_left (by omega)
      · exact .inr (List.mem_cons_of_mem _ e)

section
variable {X : Cx}
theorem cr_len : CallR X (.builtin "len") (rDs X.K (bltD .len)) := by
  intro pins s σ H xs us Q I r ⟨H0, ds, z, sub, hd, hz, q⟩
  rcases ds with _ | ⟨d, _ | ⟨e, t⟩⟩
  · cases hz
  · obtain ⟨v, rfl, h⟩ := dp1 hd
    cases d with
    | list es =>
      cases hz
      cases h with
      | lst h1 h2 => exact call_len_seq pins s σ H _ us Q I r ⟨_, _, rfl, .inl (sql_mono sub h1), stay sub q (by rw [h2.len]; exact .int _)⟩
    | tuple es =>
      cases hz
      cases h with
      | tup h1 h2 => exact call_len_seq pins s σ H _ us Q I r ⟨_, _, rfl, .inr (sqt_mono sub h1), stay sub q (by rw [h2.len]; exact .int _)⟩
    | str x =>
      unfold bltD at hz
      simp only at hz
      split at hz
      · rename_i hl
        cases hz; cases h
        exact call_len_str pins s σ H _ us Q I r ⟨_, rfl, cap_line hl, stay sub q (.int _)⟩
      · cases hz
    | _ => cases hz
  · cases d <;> cases hz
theorem cr_abs : CallR X (.builtin "abs") (rDs X.K (bltD .abs)) := by
  intro pins s σ H xs us Q I r ⟨H0, ds, z, sub, hd, hz, q⟩
  rcases ds with _ | ⟨d, _ | ⟨e, t⟩⟩
  · cases hz
  · obtain ⟨v, rfl, h⟩ := dp1 hd
    cases d with
    | int i =>
      cases hz; cases h
      refine call_abs pins s σ H _ us Q I r ⟨i, rfl, stay sub q ?_⟩
      have e : (if i < 0 then -i else i) = ((i.natAbs : Nat) : Int) := by split <;> omega
      rw [e]
      exact .int _
    | _ => cases hz
  · cases d <;> cases hz
theorem cr_max2 (hc : X.calm = true) : CallR X (.builtin "max") (rDs X.K (bltD .max2)) := by
  intro pins s σ H xs us Q I r ⟨H0, ds, z, sub, hd, hz, q⟩
  rcases ds with _ | ⟨d, _ | ⟨e, _ | ⟨e2, t⟩⟩⟩
  · cases hz
  · cases d <;> cases hz
  · obtain ⟨v, w, rfl, h1, h2⟩ := dp2 hd
    cases d <;> first | (cases hz; done) | skip
    cases e <;> first | (cases hz; done) | skip
    rename_i i j
    cases hz; cases h1; cases h2
    refine call_max2 hc pins s σ H _ us Q I r ⟨i, j, rfl, stay sub q ?_⟩
    have e : (if j > i then j else i) = max i j := by split <;> omega
    rw [e]
    exact .int _
  · cases d <;> first | (cases hz; done) | (cases e <;> cases hz)
theorem cr_min2 (hc : X.calm = true) : CallR X (.builtin "min") (rDs X.K (bltD .min2)) := by
  intro pins s σ H xs us Q I r ⟨H0, ds, z, sub, hd, hz, q⟩
  rcases ds with _ | ⟨d, _ | ⟨e, _ | ⟨e2, t⟩⟩⟩
  · cases hz
  · cases d <;> cases hz
  · obtain ⟨v, w, rfl, h1, h2⟩ := dp2 hd
    cases d <;> first | (cases hz; done) | skip
    cases e <;> first | (cases hz; done) | skip
    rename_i i j
    cases hz; cases h1; cases h2
    refine call_min2 hc pins s σ H _ us Q I r ⟨i, j, rfl, stay sub q ?_⟩
    have e : (if j < i then j else i) = min i j := by split <;> omega
    rw [e]
    exact .int _
  · cases d <;> first | (cases hz; done) | (cases e <;> cases hz)
theorem cr_max3 (hc : X.calm = true) : CallR X (.builtin "max") (rDs X.K (bltD .max3)) := by
  intro pins s σ H xs us Q I r ⟨H0, ds, z, sub, hd, hz, q⟩
  rcases ds with _ | ⟨d, _ | ⟨e, _ | ⟨g, _ | ⟨e2, t⟩⟩⟩⟩
  · cases hz
  · cases d <;> cases hz
  · cases d <;> first | (cases hz; done) | (cases e <;> cases hz)
  · cases hd with
    | cons h1 hd =>
      cases hd with
      | cons h2 hd =>
        cases hd with
        | cons h3 hd =>
          cases hd
          cases d <;> first | (cases hz; done) | skip
          cases e <;> first | (cases hz; done) | skip
          cases g <;> first | (cases hz; done) | skip
          rename_i i j k
          cases hz; cases h1; cases h2; cases h3
          refine call_max3Nu hc pins s σ H _ us Q I r ⟨.int i, .int j, .int k, .int (max (max i j) k), rfl, ?_, stay sub q (.int _)⟩
          by_cases h1 : i < j
          · by_cases h2 : j < k
            · rw [show max (max i j) k = k by omega]
              simp [nuMax3, nuMax2, nuLt, nuCB, h1, h2]
            · rw [show max (max i j) k = j by omega]
              simp [nuMax3, nuMax2, nuLt, nuCB, h1, h2]
          · by_cases h2 : i < k
            · rw [show max (max i j) k = k by omega]
              simp [nuMax3, nuMax2, nuLt, nuCB, h1, h2]
            · rw [show max (max i j) k = i by omega]
              simp [nuMax3, nuMax2, nuLt, nuCB, h1, h2]
  · cases d <;> first | (cases hz; done) | (cases e <;> first | (cases hz; done) | (cases g <;> cases hz))
theorem cr_max1 (hc : X.calm = true) : CallR X (.builtin "max") (rDs X.K (bltD .max1)) := by
  intro pins s σ H xs us Q I r ⟨H0, ds, z, sub, hd, hz, q⟩
  rcases ds with _ | ⟨d, _ | ⟨e, t⟩⟩
  · cases hz
  · obtain ⟨v, rfl, h⟩ := dp1 hd
    cases d with
    | list es =>
      obtain ⟨ns, e1, e2⟩ := bind_ok (show (asInts es).bind _ = _ from hz)
      have e3 := asInts_ok e1
      subst e3
      cases ns with
      | nil => cases e2
      | cons n t =>
        cases e2
        cases h with
        | lst h1 h2 =>
          have e4 := dp_ints h2
          subst e4
          refine L2.cr_max hc pins s σ H _ us Q I r ⟨_, n :: t, rfl, sql_mono sub h1, Nat.succ_pos _, fun m hm hle => ?_⟩
          obtain ⟨g1, g2, g3⟩ := fold_max t n
          have e5 : m = t.foldl max n := by
            have a1 : t.foldl max n ≤ m := by
              rcases g3 with g | g
              · rw [g]
                exact hle n List.mem_cons_self
              · exact hle _ (List.mem_cons_of_mem _ g)
            have a2 : m ≤ t.foldl max n := by
              rcases List.mem_cons.mp hm with g | g
              · rw [g]
                exact g1
              · exact g2 m g
            omega
          rw [e5]
          exact stay sub q (.int _)
    | _ => cases hz
  · cases d <;> cases hz
theorem cr_sumD (hc : X.calm = true) : CallR X (.builtin "sum") (rDs X.K (bltD .sum)) := by
  intro pins s σ H xs us Q I r ⟨H0, ds, z, sub, hd, hz, q⟩
  rcases ds with _ | ⟨d, _ | ⟨e, t⟩⟩
  · cases hz
  · obtain ⟨v, rfl, h⟩ := dp1 hd
    cases d with
    | list es =>
      obtain ⟨ns, e1, rfl⟩ := map_ok (show (asInts es).map _ = _ from hz)
      have e3 := asInts_ok e1
      subst e3
      cases h with
      | lst h1 h2 =>
        have e4 := dp_ints h2
        subst e4
        exact L2.cr_sum hc pins s σ H _ us Q I r ⟨_, ns, rfl, sql_mono sub h1, stay sub q (.int _)⟩
    | _ => cases hz
  · cases d <;> cases hz
theorem cr_anyD (hc : X.calm = true) : CallR X (.builtin "any") (rDs X.K (bltD .any)) := by
  intro pins s σ H xs us Q I r ⟨H0, ds, z, sub, hd, hz, q⟩
  rcases ds with _ | ⟨d, _ | ⟨e, t⟩⟩
  · cases hz
  · obtain ⟨v, rfl, h⟩ := dp1 hd
    cases d with
    | list es =>
      obtain ⟨ns, e1, rfl⟩ := map_ok (show (asBools es).map _ = _ from hz)
      have e3 := asBools_ok e1
      subst e3
      cases h with
      | lst h1 h2 =>
        have e4 := dp_bools h2
        subst e4
        exact L2.cr_any hc pins s σ H _ us Q I r ⟨_, ns, rfl, sql_mono sub h1, stay sub q (.bl _)⟩
    | _ => cases hz
  · cases d <;> cases hz
theorem cr_allD (hc : X.calm = true) : CallR X (.builtin "all") (rDs X.K (bltD .all)) := by
  intro pins s σ H xs us Q I r ⟨H0, ds, z, sub, hd, hz, q⟩
  rcases ds with _ | ⟨d, _ | ⟨e, t⟩⟩
  · cases hz
  · obtain ⟨v, rfl, h⟩ := dp1 hd
    cases d with
    | list es =>
      obtain ⟨ns, e1, rfl⟩ := map_ok (show (asBools es).map _ = _ from hz)
      have e3 := asBools_ok e1
      subst e3
      cases h with
      | lst h1 h2 =>
        have e4 := dp_bools h2
        subst e4
        exact L2.cr_all hc pins s σ H _ us Q I r ⟨_, ns, rfl, sql_mono sub h1, stay sub q (.bl _)⟩
    | _ => cases hz
  · cases d <;> cases hz
theorem cr_gcdD : CallR X (.builtin "math.gcd") (rDs X.K (bltD .gcd)) := by
  intro pins s σ H xs us Q I r ⟨H0, ds, z, sub, hd, hz, q⟩
  rcases ds with _ | ⟨d, _ | ⟨e, _ | ⟨e2, t⟩⟩⟩
  · cases hz
  · cases d <;> cases hz
  · obtain ⟨v, w, rfl, h1, h2⟩ := dp2 hd
    cases d <;> first | (cases hz; done) | skip
    cases e <;> first | (cases hz; done) | skip
    cases hz; cases h1; cases h2
    exact L2.cr_gcd pins s σ H _ us Q I r ⟨_, _, rfl, stay sub q (.int _)⟩
  · cases d <;> first | (cases hz; done) | (cases e <;> cases hz)
theorem cr_intD : CallR X (.type "int") (rDs X.K (bltD .int)) := by
  intro pins s σ H xs us Q I r ⟨H0, ds, z, sub, hd, hz, q⟩
  rcases ds with _ | ⟨d, _ | ⟨e, t⟩⟩
  · cases hz
  · obtain ⟨v, rfl, h⟩ := dp1 hd
    cases d with
    | int i =>
      cases hz; cases h
      exact call_int1 pins s σ H _ us Q I r (.inl ⟨i, rfl, stay sub q (.int _)⟩)
    | bool i =>
      cases hz; cases h
      exact call_int1 pins s σ H _ us Q I r (.inr ⟨i, rfl, stay sub q (.int _)⟩)
    | _ => cases hz
  · cases d <;> cases hz
theorem cr_strD : CallR X (.type "str") (rDs X.K (bltD .str)) := by
  intro pins s σ H xs us Q I r ⟨H0, ds, z, sub, hd, hz, q⟩
  rcases ds with _ | ⟨d, _ | ⟨e, t⟩⟩
  · cases hz
  · obtain ⟨v, rfl, h⟩ := dp1 hd
    cases d with
    | int i =>
      unfold bltD at hz
      simp only at hz
      split at hz
      · rename_i hl
        cases hz; cases h
        exact call_str_int pins s σ H _ us Q I r ⟨i, rfl, hl, stay sub q (.str _)⟩
      · cases hz
    | _ => cases hz
  · cases d <;> cases hz
/-- repr of a list, a tuple -/
theorem repr_ref {pins : List (Addr × Obj)} {σ : L2.St} {H : Hp} {s : Shared} {a : Addr} {d : D} {Q : VK} (hg : X.A.guards = some []) (hu : X.A.units + 200 < cLine) (I : Inv X pins σ H s) (h : Dp X.K H (.ref a) d) (hs : shows d = true) (q : Q (.str (PyData.shown d)) H) :
    wpAny (model X.prog X.w) X.A (call (.builtin "repr") [.ref a]) (EP X pins σ Q) X.xe s := by
  unfold shows at hs
  simp only [Bool.and_eq_true, Bool.not_eq_true', decide_eq_true_eq] at hs
  obtain ⟨⟨⟨h1, h2⟩, h3⟩, h4⟩ := hs
  obtain ⟨as, r⟩ := Dp.reads I d _ _ h rfl
  exact repr_of_reads' r h1 (PyData.noDict_hsm h2) hg (by omega) (fun _ _ e => e) (fun h' u tk hk => ⟨.str _, H, I.kept hk, ⟨u, rfl⟩, q⟩) h4
theorem repr_any {pins : List (Addr × Obj)} {σ : L2.St} {H : Hp} {s : Shared} {v : V} {u : Value} {d : D} {Q : VK} (hg : X.A.guards = some []) (hu : X.A.units + 200 < cLine) (I : Inv X pins σ H s) (h : Dp X.K H v d) (ru : RelV v u) (hs : shows d = true) (q : Q (.str (PyData.shown d)) H) :
    wpAny (model X.prog X.w) X.A (call (.builtin "repr") [u]) (EP X pins σ Q) X.xe s := by
  have hs' := hs
  unfold shows at hs
  simp only [Bool.and_eq_true, Bool.not_eq_true', decide_eq_true_eq] at hs
  obtain ⟨⟨⟨h1, h2⟩, h3⟩, h4⟩ := hs
  cases h with
  | non =>
    cases ru
    exact PySem.P.repr_of_none ⟨.str _, H, I.tok _, ⟨_, rfl⟩, q⟩
  | bl b =>
    cases ru
    refine PySem.P.repr_of_bool ⟨.str _, H, I.tok _, ⟨_, rfl⟩, ?_⟩
    cases b <;> exact q
  | int i =>
    obtain ⟨t, rfl⟩ := ru
    have h1 : i.natAbs.log2 < 1920 := by simpa [PyData.showable] using h1
    exact PySem.P.repr_of_int h1 ⟨.str _, H, I.tok _, ⟨_, rfl⟩, q⟩
  | str x =>
    obtain ⟨t, rfl⟩ := ru
    exact PySem.P.repr_of_str ⟨.str _, H, I.tok _, ⟨_, rfl⟩, q⟩ (by simpa only [PyData.shown] using h4)
  | lst h5 h6 =>
    cases ru
    exact repr_ref hg hu I (.lst h5 h6) hs' q
  | tup h5 h6 =>
    cases ru
    exact repr_ref hg hu I (.tup h5 h6) hs' q
theorem repr_big {pins : List (Addr × Obj)} {σ : L2.St} {H : Hp} {s : Shared} {v : V} {u : Value} {d : D} {Q : VK} (hn : X.base.NoDigits) (hg : X.A.guards = some []) (hu : X.A.units + 200 < cLine) (I : Inv X pins σ H s) (h : Dp X.K H v d) (ru : RelV v u) (hs : bigQ d = true) (q : Q (.str (PyData.shown d)) H) :
    wpAny (model X.prog X.w) X.A (call (.builtin "repr") [u]) (EP X pins σ Q) X.xe s := by
  unfold bigQ at hs
  split at hs
  · rename_i a b
    simp only [Bool.and_eq_true, decide_eq_true_eq] at hs
    obtain ⟨h1, h2, h3⟩ := hs
    obtain ⟨as, r⟩ := Dp.reads I _ _ _ h ru
    cases h with
    | tup h5 h6 =>
      cases ru
      exact long_pair (hn.keeps I.bk) r h1 h2 h3 hg hu fun h' u tk hk => ⟨.str _, H, I.kept hk, ⟨u, rfl⟩, q⟩
  · cases hs
theorem cr_reprD (hn : X.base.NoDigits) (hg : X.A.guards = some []) (hu : X.A.units + 200 < cLine) : CallR X (.builtin "repr") (rDs X.K (bltD .repr)) := by
  intro pins s σ H xs us Q I r ⟨H0, ds, z, sub, hd, hz, q⟩
  rcases ds with _ | ⟨d, _ | ⟨e, t⟩⟩
  · cases hz
  · obtain ⟨v, rfl, h⟩ := dp1 hd
    obtain ⟨u, rfl, ru⟩ := vals1 r
    have hz : (if (shows d || bigQ d) = true then (Except.ok (PyData.str (PyData.shown d)) : R) else unk) = .ok z := by
      revert hz
      cases d <;> exact id
    split at hz
    · rename_i hl
      cases hz
      rcases Bool.or_eq_true_iff.mp hl with hl | hl
      · exact repr_any hg hu I (h.mono sub) ru hl (stay sub q (.str _))
      · exact repr_big hn hg hu I (h.mono sub) ru hl (stay sub q (.str _))
    · cases hz
  · cases d <;> cases hz
theorem cr_listD : CallR X (.type "list") (rDf X.K (bltF .list)) := by
  intro pins s σ H xs us Q I r ⟨H0, ds, z, sub, hd, hz, q⟩
  rcases ds with _ | ⟨d, _ | ⟨e, t⟩⟩
  · cases hz
  · obtain ⟨v, rfl, h⟩ := dp1 hd
    cases d with
    | list es =>
      cases hz
      cases h with
      | lst h1 h2 => exact call_list_of pins s σ H _ us Q I r ⟨_, _, rfl, .inl (sql_mono sub h1), fun p hp => q _ p hp h2⟩
    | tuple es =>
      cases hz
      cases h with
      | tup h1 h2 => exact call_list_of pins s σ H _ us Q I r ⟨_, _, rfl, .inr (sqt_mono sub h1), fun p hp => q _ p hp h2⟩
    | _ => cases hz
  · cases d <;> cases hz
theorem sortI_perm (ns : List Int) : (sortI ns).Perm ns := List.mergeSort_perm ns _
theorem sortI_up (ns : List Int) : (sortI ns).Pairwise (· ≤ ·) := by
  have h := List.pairwise_mergeSort (le := fun a b : Int => decide (a ≤ b)) (fun a b c h1 h2 => by simp at *; omega) (fun a b => by simp; omega) ns
  exact h.imp fun h => by simpa using h
theorem sort_one {xs ys : List Int} (hp : xs.Perm ys) (h1 : xs.Pairwise (· ≤ ·)) (h2 : ys.Pairwise (· ≤ ·)) : xs = ys :=
  hp.eq_of_pairwise (le := (· ≤ ·)) (fun a b _ _ h h' => Int.le_antisymm h h') h1 h2
theorem cr_sortedD : CallR X (.builtin "sorted") (rDf X.K (bltF .sorted)) := by
  intro pins s σ H xs us Q I r ⟨H0, ds, z, sub, hd, hz, q⟩
  rcases ds with _ | ⟨d, _ | ⟨e, t⟩⟩
  · cases hz
  · obtain ⟨v, rfl, h⟩ := dp1 hd
    cases d with
    | list es =>
      obtain ⟨ns, e1, rfl⟩ := map_ok (show (asInts es).map _ = _ from hz)
      have e3 := asInts_ok e1
      subst e3
      cases h with
      | lst h1 h2 =>
        have e4 := dp_ints h2
        subst e4
        refine L2.cr_sortedI pins s σ H _ us Q I r ⟨_, ns, rfl, sql_mono sub h1, fun ns' p hp hu hn => ?_⟩
        have e5 : ns' = sortI ns := sort_one (hp.trans (sortI_perm ns).symm) hu (sortI_up ns)
        subst e5
        exact q _ p hn (ints_dp _)
    | _ => cases hz
  · cases d <;> cases hz
end
end Dee

set_option maxRecDepth 100000
set_option maxHeartbeats 4000000
/-! Dee, part 11: calls of built-ins, owned objects read; every expression. -/
namespace Dee
open PySem PySem.Spec PyProof.Rows L2

theorem asInts_no (c : Nat) : ∀ ds : List D, asInts ds ≠ .error (some c)
  | [] => nofun
  | d :: r => by
    intro z
    cases d <;> first | (cases z; done) | exact map_no (asInts_no c r) z
theorem asBools_no (c : Nat) : ∀ ds : List D, asBools ds ≠ .error (some c)
  | [] => nofun
  | d :: r => by
    intro z
    cases d <;> first | (cases z; done) | exact map_no (asBools_no c r) z
theorem bltD_no (o : Bl) (ds : List D) (c : Nat) : bltD o ds ≠ .error (some c) := by
  intro h
  unfold bltD at h
  split at h <;> first
    | (cases h; done)
    | (split at h <;> cases h; done)
    | exact map_no (asInts_no c _) h
    | exact map_no (asBools_no c _) h
    | exact bind_no (asInts_no c _) (fun a z => by split at z <;> cases z) h
theorem bltF_no (o : Bl) (ds : List D) (c : Nat) : bltF o ds ≠ .error (some c) := by
  intro h
  unfold bltF at h
  split at h
  · cases h
  · cases h
  · exact map_no (asInts_no c _) h
  · cases h

section
variable {f : Fm} {W : WX} {Γ : List Sl} {X : Cx}
theorem Va.goS {Q : VK} {g : List D → R} {ds : List D} {vs : List V} {H0 H : Hp} {σ : L2.St} (h : Va f W Γ (g ds) H0 σ H Q) (hd : DpAll f.K H0 vs ds) (no : ∀ c, g ds ≠ .error (some c)) : rDs f.K g vs H Q := by
  obtain ⟨st, m⟩ := h
  cases q : g ds with
  | ok z =>
    rw [q] at m
    exact ⟨H0, ds, z, st.sub, hd, q, fun v A B a h => m v A B a h⟩
  | error w => cases w with
    | none => rw [q] at m; exact m.elim
    | some c => exact absurd q (no c)
theorem Vf.goS {Q : VK} {g : List D → Rs} {ds : List D} {vs : List V} {H0 H : Hp} {σ : L2.St} (h : Vf f W Γ (g ds) H0 σ H Q) (hd : DpAll f.K H0 vs ds) (no : ∀ c, g ds ≠ .error (some c)) : rDf f.K g vs H Q := by
  cases q : g ds with
  | ok z =>
    rw [q] at h
    exact ⟨H0, ds, z, h.1.sub, hd, q, fun ws a n d => h.lay d n⟩
  | error w =>
    rw [q] at h
    cases w with
    | none => exact h.2.elim
    | some c => exact absurd q (no c)
theorem plain_args {pos : Pos} {env : Env} : ∀ {l : List Expr}, (∀ e ∈ l, notStar e = true) → (backTo pos (starEach l env)).any (·.1) = false
  | [], _ => rfl
  | e :: l, h => by
    rw [star_cons (h e List.mem_cons_self)]
    show (false || (backTo pos (starEach l env)).any (·.1)) = false
    rw [plain_args fun e he => h e (List.mem_cons_of_mem _ he)]
    rfl
variable {x : Str} {p pos : Pos} {a : Expr} {r : List Expr} {rs : Rs} {id : String}
theorem d_fn {g : List D → R} (hK : X.K = f.K) (hc : CallR X (.builtin id) (rDs X.K g)) (no : ∀ ds c, g ds ≠ .error (some c)) (hg : Gl X x) (hm : X.mg x = none) (hv : bootBuiltins x = some (.builtin id)) (hn : nmOk x = true) (hst : ∀ e ∈ a :: r, notStar e = true) (ha : PA X (a :: r) (tVs f W Γ rs)) :
    PE X (.Call (.Name x p) (a :: r) [] pos) (tV f W Γ (rs.bind fun ds => g ds)) := by
  refine (pe_callB hc hg hm hv ha (nm_of hn).2.2 (nm_of hn).1 (star_cons (hst a List.mem_cons_self) r X.env) (plain_args fun e he => hst e (List.mem_cons_of_mem _ he))).imp fun σ H Q ⟨H0, q⟩ => ⟨H0, Vas.bind q fun ds vs H1 H2 e1 a1 d1 q2 => ?_⟩
  rw [hK]
  exact q2.goS d1 (no ds)
theorem d_ty {g : List D → R} (hK : X.K = f.K) (hc : CallR X (.type id) (rDs X.K g)) (no : ∀ ds c, g ds ≠ .error (some c)) (hg : Gl X x) (hm : X.mg x = none) (hv : bootBuiltins x = some (.type id)) (hn : nmOk x = true) (hst : ∀ e ∈ a :: r, notStar e = true) (ha : PA X (a :: r) (tVs f W Γ rs)) :
    PE X (.Call (.Name x p) (a :: r) [] pos) (tV f W Γ (rs.bind fun ds => g ds)) := by
  refine (pe_callTy hc hg hm hv ha (nm_of hn).2.2 (nm_of hn).1 (star_cons (hst a List.mem_cons_self) r X.env) (plain_args fun e he => hst e (List.mem_cons_of_mem _ he))).imp fun σ H Q ⟨H0, q⟩ => ⟨H0, Vas.bind q fun ds vs H1 H2 e1 a1 d1 q2 => ?_⟩
  rw [hK]
  exact q2.goS d1 (no ds)
theorem f_fn {g : List D → Rs} (hK : X.K = f.K) (hc : CallR X (.builtin id) (rDf X.K g)) (no : ∀ ds c, g ds ≠ .error (some c)) (hg : Gl X x) (hm : X.mg x = none) (hv : bootBuiltins x = some (.builtin id)) (hn : nmOk x = true) (hst : ∀ e ∈ a :: r, notStar e = true) (ha : PA X (a :: r) (tVs f W Γ rs)) :
    PE X (.Call (.Name x p) (a :: r) [] pos) (tF f W Γ (rs.bind fun ds => g ds)) := by
  refine (pe_callB hc hg hm hv ha (nm_of hn).2.2 (nm_of hn).1 (star_cons (hst a List.mem_cons_self) r X.env) (plain_args fun e he => hst e (List.mem_cons_of_mem _ he))).imp fun σ H Q ⟨H0, q⟩ => ⟨H0, Vas.bindF q fun ds vs H1 H2 e1 a1 d1 q2 => ?_⟩
  rw [hK]
  exact q2.goS d1 (no ds)
theorem f_ty {g : List D → Rs} (hK : X.K = f.K) (hc : CallR X (.type id) (rDf X.K g)) (no : ∀ ds c, g ds ≠ .error (some c)) (hg : Gl X x) (hm : X.mg x = none) (hv : bootBuiltins x = some (.type id)) (hn : nmOk x = true) (hst : ∀ e ∈ a :: r, notStar e = true) (ha : PA X (a :: r) (tVs f W Γ rs)) :
    PE X (.Call (.Name x p) (a :: r) [] pos) (tF f W Γ (rs.bind fun ds => g ds)) := by
  refine (pe_callTy hc hg hm hv ha (nm_of hn).2.2 (nm_of hn).1 (star_cons (hst a List.mem_cons_self) r X.env) (plain_args fun e he => hst e (List.mem_cons_of_mem _ he))).imp fun σ H Q ⟨H0, q⟩ => ⟨H0, Vas.bindF q fun ds vs H1 H2 e1 a1 d1 q2 => ?_⟩
  rw [hK]
  exact q2.goS d1 (no ds)
theorem d_gcd (hK : X.K = f.K) (hg : Gl X "gcd") (hm : X.mg "gcd" = some (.builtin "math.gcd")) (hst : ∀ e ∈ a :: r, notStar e = true) (ha : PA X (a :: r) (tVs f W Γ rs)) :
    PE X (.Call (.Name "gcd" p) (a :: r) [] pos) (tV f W Γ (rs.bind fun ds => bltD .gcd ds)) := by
  refine (pe_callBfun cr_gcdD hg hm ha (by decide) (star_cons (hst a List.mem_cons_self) r X.env) (plain_args fun e he => hst e (List.mem_cons_of_mem _ he))).imp fun σ H Q ⟨H0, q⟩ => ⟨H0, Vas.bind q fun ds vs H1 H2 e1 a1 d1 q2 => ?_⟩
  rw [hK]
  exact q2.goS d1 (bltD_no _ ds)

/-! ### isinstance of data -/
def tyName : D → String
  | .none => "NoneType" | .bool _ => "bool" | .int _ => "int" | .str _ => "str" | .list _ => "list" | .tuple _ => "tuple" | .dict _ => "dict"
theorem ty_of {K : PySem.W.Frag} {H : Hp} {v : V} {d : D} (h : Dp K H v d) : TyX K H v (.type (tyName d)) := by
  cases h with
  | non => exact .base .non
  | bl b => exact .base (.bl b)
  | int i => exact .base (.int i)
  | str z => exact .base (.str z)
  | lst h1 h2 =>
    rcases h1 with (h1 | ⟨o, h1⟩) | ⟨o, its, n, h1, h3, _⟩
    · exact .base (.lst h1)
    · exact .base (.frz h1)
    · exact .kList h1 h3
  | tup h1 h2 =>
    rcases h1 with (h1 | ⟨o, h1⟩) | ⟨o, its, n, h1, h3, _⟩
    · exact .base (.tup h1)
    · exact .fTuple h1
    · exact .kTuple h1 h3
theorem isa_kit {K : PySem.W.Frag} {d : D} (hd : ∀ z, d ≠ .dict z) (t : Ik) : PySem.W.kitOne K (.type (tyName d)) (.type t.name) = some (t.is d) := by
  cases t with
  | tup =>
    cases d with
    | none => exact kit_ty (a := "NoneType") (b := "tuple") (r := false) (by decide +kernel)
    | bool _ => exact kit_ty (a := "bool") (b := "tuple") (r := false) (by decide +kernel)
    | int _ => exact kit_ty (a := "int") (b := "tuple") (r := false) (by decide +kernel)
    | str _ => exact kit_ty (a := "str") (b := "tuple") (r := false) (by decide +kernel)
    | list _ => exact kit_ty (a := "list") (b := "tuple") (r := false) (by decide +kernel)
    | tuple _ => exact kit_ty (a := "tuple") (b := "tuple") (r := true) (by decide +kernel)
    | dict z => exact absurd rfl (hd z)
  | bool =>
    cases d with
    | none => exact kit_ty (a := "NoneType") (b := "bool") (r := false) (by decide +kernel)
    | bool _ => exact kit_ty (a := "bool") (b := "bool") (r := true) (by decide +kernel)
    | int _ => exact kit_ty (a := "int") (b := "bool") (r := false) (by decide +kernel)
    | str _ => exact kit_ty (a := "str") (b := "bool") (r := false) (by decide +kernel)
    | list _ => exact kit_ty (a := "list") (b := "bool") (r := false) (by decide +kernel)
    | tuple _ => exact kit_ty (a := "tuple") (b := "bool") (r := false) (by decide +kernel)
    | dict z => exact absurd rfl (hd z)
  | int =>
    cases d with
    | none => exact kit_ty (a := "NoneType") (b := "int") (r := false) (by decide +kernel)
    | bool _ => exact kit_ty (a := "bool") (b := "int") (r := true) (by decide +kernel)
    | int _ => exact kit_ty (a := "int") (b := "int") (r := true) (by decide +kernel)
    | str _ => exact kit_ty (a := "str") (b := "int") (r := false) (by decide +kernel)
    | list _ => exact kit_ty (a := "list") (b := "int") (r := false) (by decide +kernel)
    | tuple _ => exact kit_ty (a := "tuple") (b := "int") (r := false) (by decide +kernel)
    | dict z => exact absurd rfl (hd z)
  | list =>
    cases d with
    | none => exact kit_ty (a := "NoneType") (b := "list") (r := false) (by decide +kernel)
    | bool _ => exact kit_ty (a := "bool") (b := "list") (r := false) (by decide +kernel)
    | int _ => exact kit_ty (a := "int") (b := "list") (r := false) (by decide +kernel)
    | str _ => exact kit_ty (a := "str") (b := "list") (r := false) (by decide +kernel)
    | list _ => exact kit_ty (a := "list") (b := "list") (r := true) (by decide +kernel)
    | tuple _ => exact kit_ty (a := "tuple") (b := "list") (r := false) (by decide +kernel)
    | dict z => exact absurd rfl (hd z)
  | str =>
    cases d with
    | none => exact kit_ty (a := "NoneType") (b := "str") (r := false) (by decide +kernel)
    | bool _ => exact kit_ty (a := "bool") (b := "str") (r := false) (by decide +kernel)
    | int _ => exact kit_ty (a := "int") (b := "str") (r := false) (by decide +kernel)
    | str _ => exact kit_ty (a := "str") (b := "str") (r := true) (by decide +kernel)
    | list _ => exact kit_ty (a := "list") (b := "str") (r := false) (by decide +kernel)
    | tuple _ => exact kit_ty (a := "tuple") (b := "str") (r := false) (by decide +kernel)
    | dict z => exact absurd rfl (hd z)
theorem boot_isi : bootBuiltins "isinstance" = some (.builtin "isinstance") := by decide +kernel
theorem d_isi {t : Ik} {y : Str} {p2 : Pos} {ra : R} (hK : X.K = f.K) (hg : Gl X "isinstance") (hm : X.mg "isinstance" = none) (hgy : Gl X y) (hmy : X.mg y = none) (hvy : bootBuiltins y = some (.type t.name)) (hny : nmOk y = true) (hst : notStar a = true) (ha : PE X a (tV f W Γ ra)) :
    PE X (.Call (.Name "isinstance" p) [a, .Name y p2] [] pos) (tV f W Γ (ra.bind fun d => .ok (.bool (t.is d)))) := by
  have h2 : PE X (.Name y p2) (tC (.ty t.name)) := pe_bltn hgy hmy hvy rfl (nm_of hny).2.2 (nm_of hny).1
  refine (pe_callB call_isi hg hm boot_isi (pa_cons ha (pa_cons h2 pa_nil (star_cons rfl [] X.env)) (star_cons hst _ X.env)) (by decide) (by decide) (star_cons hst _ X.env) (by rw [star_cons rfl]; rfl)).imp fun σ H Q ⟨H0, q⟩ => ⟨H0, Va.bind q fun d v H1 H2 e1 a1 d1 q2 => ?_⟩
  rw [hK]
  refine ⟨v, .ty t.name, _, _, t.is d, rfl, .ty t.name, ty_of (d1.mono a1.inn), isa_kit (fun z e => ?_) t, q2.ok (.bl _)⟩
  subst e
  cases d1

/-! ### owned lists, dicts read by their names -/
variable {i : Nat} {b : Expr} {rb : R}
theorem d_oidx (hK : X.K = f.K) (hv : PE X (.Name x p) (tVar i)) (hs : notSl b = true) (hb : PE X b (tV f W Γ rb)) : PE X (.Subscript (.Name x p) b pos) (tV f W Γ (match Γ[i]? with
    | some (.own ds) => rb.bind fun y => (asInt y).bind fun k => atD ds k
    | _ => unk)) := by
  refine (pe_ix ix_list hv hb (plain_of hs)).imp fun σ H Q ⟨H0, q⟩ => ?_
  cases e : Γ[i]? with
  | none =>
    rw [e] at q
    exact q.2.elim
  | some s =>
    rw [e] at q
    cases s with
    | own ds =>
      obtain ⟨o, eo, ad, vs, rfl, he, h0, ha, dv⟩ := q.1.sl i _ e
      refine ⟨_, eo, H0, Va.bind q fun y v H1 H2 e1 a1 d1 q2 => ?_⟩
      obtain ⟨k, rfl, q3⟩ := q2.int
      unfold atD at q3
      cases ek : atI ds k with
      | none =>
        rw [ek] at q3
        exact q3.2.elim
      | some d =>
        rw [ek] at q3
        obtain ⟨w, ew, hw⟩ := at_dp (dv.mono a1.sub) ek
        exact ⟨_, _, k, w, rfl, int_of d1, SqL.of (a1.all _ _ ha), ew, q3.ok hw⟩
    | _ => exact q.2.elim
theorem d_olen {p2 : Pos} (hv : PE X (.Name x p) (tVar i)) (hg : Gl X "len") (hm : X.mg "len" = none) : PE X (.Call (.Name "len" p2) [.Name x p] [] pos) (tV f W Γ (match Γ[i]? with
    | some (.own ds) => .ok (.int ds.length)
    | _ => unk)) := by
  have hp : (backTo pos (starEach [] X.env)).any (·.1) = false := rfl
  refine (pe_callB call_len hg hm PySem.boot_len (pa_cons hv pa_nil (star_cons rfl [] X.env)) (by decide) (by decide) (star_cons rfl [] X.env) hp).imp fun σ H Q ⟨H0, q⟩ => ?_
  cases e : Γ[i]? with
  | none =>
    rw [e] at q
    exact q.2.elim
  | some s =>
    rw [e] at q
    cases s with
    | own ds =>
      obtain ⟨o, eo, ad, vs, rfl, he, h0, ha, dv⟩ := q.1.sl i _ e
      exact ⟨_, eo, _, ds.length, rfl, .inl ⟨_, SqL.of ha, dv.len.symm⟩, q.ok (.int _)⟩
    | _ => exact q.2.elim

/-! ### dicts by ints and texts -/
section
variable {κ : Type} [DecidableEq κ] {K : PySem.W.Frag} {H : Hp}
theorem kv_look : ∀ {vs : List (κ × V)} {ds : List (κ × D)}, KvRel K H vs ds → ∀ k, match lookD ds k with
    | some d => ∃ v, valV vs k = some v ∧ Dp K H v d
    | none => valV vs k = none
  | _, _, .nil, k => rfl
  | _, _, .cons (k := j) (v := v) (d := d) (vs := vs) (ds := ds) h t, k => by
    unfold lookD
    by_cases e : j = k
    · rw [if_pos e]
      exact ⟨v, valV_pos (p := (j, v)) e, h⟩
    · rw [if_neg e]
      have ih := kv_look t k
      revert ih
      cases lookD ds k with
      | none => exact fun ih => (valV_neg (p := (j, v)) e).trans ih
      | some d' => exact fun ⟨w, e1, e2⟩ => ⟨w, (valV_neg (p := (j, v)) e).trans e1, e2⟩
theorem kv_any (k : κ) : ∀ {vs : List (κ × V)} {ds : List (κ × D)}, KvRel K H vs ds → (vs.any fun kv => decide (kv.1 = k)) = ds.any fun kv => decide (kv.1 = k)
  | _, _, .nil => rfl
  | _, _, .cons h t => by rw [List.any_cons, List.any_cons, kv_any k t]
theorem kv_map {v : V} {d : D} (hd : Dp K H v d) (k : κ) : ∀ {vs : List (κ × V)} {ds : List (κ × D)}, KvRel K H vs ds → KvRel K H (vs.map fun kv => if kv.1 = k then (kv.1, v) else kv) (ds.map fun kv => if kv.1 = k then (kv.1, d) else kv)
  | _, _, .nil => .nil
  | _, _, .cons (k := j) h t => by
    rw [List.map_cons, List.map_cons]
    by_cases e : j = k
    · simp only [e, if_true]
      exact .cons hd (kv_map hd k t)
    · simp only [e, if_false]
      exact .cons h (kv_map hd k t)
theorem kv_app : ∀ {vs ws : List (κ × V)} {ds es : List (κ × D)}, KvRel K H vs ds → KvRel K H ws es → KvRel K H (vs ++ ws) (ds ++ es)
  | _, _, _, _, .nil, h => h
  | _, _, _, _, .cons h t, h' => .cons h (kv_app t h')
theorem kv_put {vs : List (κ × V)} {ds : List (κ × D)} (h : KvRel K H vs ds) {v : V} {d : D} (hd : Dp K H v d) (k : κ) : KvRel K H (putK vs k v) (putD ds k d) := by
  unfold putK putD
  rw [kv_any k h]
  split
  · exact kv_map hd k h
  · exact kv_app h (.cons hd .nil)
theorem kv_len : ∀ {vs : List (κ × V)} {ds : List (κ × D)}, KvRel K H vs ds → vs.length = ds.length
  | _, _, .nil => rfl
  | _, _, .cons h t => by rw [List.length_cons, List.length_cons, kv_len t]
theorem kv_keys : ∀ {vs : List (κ × V)} {ds : List (κ × D)}, KvRel K H vs ds → vs.map (·.1) = ds.map (·.1)
  | _, _, .nil => rfl
  | _, _, .cons h t => by rw [List.map_cons, List.map_cons, kv_keys t]
end
theorem asKey_no (x : D) (c : Nat) : asKey x ≠ .error (some c) := by
  intro h
  unfold asKey at h
  split at h <;> cases h
theorem key_dp {K : PySem.W.Frag} {H : Hp} {v : V} {d : D} {k : Key} (h : Dp K H v d) (e : asKey d = .ok k) : v = kV k := by
  unfold asKey keyOf at e
  cases h <;> first | (cases e; done) | (cases e; rfl)
theorem Va.key {H0 H : Hp} {σ : L2.St} {Q : VK} {d : D} {g : Key → R} (h : Va f W Γ ((asKey d).bind g) H0 σ H Q) : ∃ b, asKey d = .ok b ∧ Va f W Γ (g b) H0 σ H Q := by
  cases e : asKey d with
  | ok b =>
    rw [e] at h
    exact ⟨b, rfl, h⟩
  | error w =>
    rw [e] at h
    cases w with
    | none => exact h.2.elim
    | some c => exact absurd e (asKey_no d c)
variable {kx dx : Expr} {rk rd : R}
/-- the dict that a name owns -/
theorem St.dk {H0 H : Hp} {σ : L2.St} (x : St f Γ H0 σ H) {kvs : List (Key × D)} (e : Γ[i]? = some (.dk kvs)) : ∃ ad vs, σ[i]? = some (some (.ref ad)) ∧ f.He ad = none ∧ H0 ad = none ∧ H ad = some (.dK vs) ∧ KvRel f.K H0 vs kvs := by
  obtain ⟨o, eo, ad, vs, rfl, h⟩ := x.sl i _ e
  exact ⟨ad, vs, eo, h⟩
theorem d_kget {ap : Pos} (hu : X.A.units + 1 < cLine) (hv : PE X (.Name x p) (tVar i)) (hl : (ap.endLine == pos.line) = true) (h1 : notStar kx = true) (h2 : notStar dx = true) (hk : PE X kx (tV f W Γ rk)) (hd : PE X dx (tV f W Γ rd)) :
    PE X (.Call (.Attribute (.Name x p) "get" ap) [kx, dx] [] pos) (tV f W Γ (match Γ[i]? with
    | some (.dk kvs) => rk.bind fun x => rd.bind fun z => (asKey x).bind fun q => .ok ((lookD kvs q).getD z)
    | _ => unk)) := by
  have tr : backTo pos (starEach [kx, dx] X.env) = [(false, eval kx X.env), (false, eval dx X.env)] := by rw [star_cons h1, star_cons h2]; rfl
  have m : M2 X (.Name x p) "get" ap kx dx pos := ⟨base_of rfl _ _, by rw [tr]; rfl, hl, tr⟩
  refine (pe_dget2 hu hv hk hd m).imp fun σ H Q ⟨H0, q⟩ => ?_
  cases e : Γ[i]? with
  | none =>
    rw [e] at q
    exact q.2.elim
  | some s =>
    rw [e] at q
    cases s with
    | dk kvs =>
      obtain ⟨ad, vs, eo, he, h0, ha, kv⟩ := q.1.dk e
      refine ⟨_, eo, ad, rfl, .inl ⟨vs, .inl ha⟩, H0, Va.bind q fun y v H1 H2 e1 a1 d1 q2 => ⟨H1, Va.bind q2 fun z w H3 H4 e2 a2 d2 q3 => ?_⟩⟩
      obtain ⟨k, ek, q4⟩ := q3.key
      have hv2 := key_dp d1 ek
      subst hv2
      have a := a1.trans a2
      have kv' : KvRel f.K H3 vs kvs := kv.mono a.sub
      refine ⟨valV vs k, DGet.k (a.all _ _ ha), ?_⟩
      have hk := kv_look kv' k
      revert hk q4
      cases lookD kvs k with
      | none =>
        intro q4 hk
        rw [hk]
        exact q4.ok d2
      | some d =>
        rintro q4 ⟨u, hk, du⟩
        rw [hk]
        exact q4.ok du
    | _ => exact q.2.elim
theorem d_kat (hu : X.A.units + 1 < cLine) (hv : PE X (.Name x p) (tVar i)) (hs : notSl kx = true) (hk : PE X kx (tV f W Γ rk)) : PE X (.Subscript (.Name x p) kx pos) (tV f W Γ (match Γ[i]? with
    | some (.dk kvs) => rk.bind fun x => (asKey x).bind fun q => (match lookD kvs q with
      | some d => .ok d
      | none => unk)
    | _ => unk)) := by
  refine (pe_dget hu hv hk (plain_of hs)).imp fun σ H Q ⟨H0, q⟩ => ?_
  cases e : Γ[i]? with
  | none =>
    rw [e] at q
    exact q.2.elim
  | some s =>
    rw [e] at q
    cases s with
    | dk kvs =>
      obtain ⟨ad, vs, eo, he, h0, ha, kv⟩ := q.1.dk e
      refine ⟨_, eo, H0, Va.bind q fun y v H1 H2 e1 a1 d1 q2 => ?_⟩
      obtain ⟨k, ek, q4⟩ := q2.key
      have hv2 := key_dp d1 ek
      subst hv2
      have hk := kv_look (kv.mono a1.sub) k
      revert hk q4
      cases lookD kvs k with
      | none => exact fun q4 _ => q4.2.elim
      | some d =>
        rintro q4 ⟨u, hk, du⟩
        refine ⟨ad, u, rfl, ?_, q4.ok du⟩
        rw [← hk]
        exact DGet.k (a1.all _ _ ha)
    | _ => exact q.2.elim
theorem kin_read (neg : Bool) {σ : L2.St} {H : Hp} {Q : VK} {H0 : Hp} (q : Va f W Γ (match Γ[i]? with
    | some (.dk kvs) => rk.bind fun x => (asKey x).bind fun q => .ok (.bool (if neg then !(lookD kvs q).isSome else (lookD kvs q).isSome))
    | _ => unk) H0 σ H Q) : tV f W Γ rk σ H fun y H1 => tVar i σ H1 fun x H2 => ∃ a o, x = .ref a ∧ DGet H2 a y o ∧ Q (.bl (if neg then !o.isSome else o.isSome)) H2 := by
  cases e : Γ[i]? with
  | none =>
    rw [e] at q
    exact q.2.elim
  | some s =>
    rw [e] at q
    cases s with
    | dk kvs =>
      obtain ⟨ad, vs, eo, he, h0, ha, kv⟩ := q.1.dk e
      refine ⟨H0, Va.bind q fun y v H1 H2 e1 a1 d1 q2 => ?_⟩
      obtain ⟨k, ek, q4⟩ := q2.key
      have hv2 := key_dp d1 ek
      subst hv2
      have hk := kv_look (kv.mono a1.sub) k
      have es : (lookD kvs k).isSome = (valV vs k).isSome := by
        revert hk
        cases lookD kvs k with
        | none => exact fun hk => by rw [hk]; rfl
        | some d => exact fun ⟨u, hk, _⟩ => by rw [hk]; rfl
      rw [es] at q4
      exact ⟨_, eo, ad, valV vs k, rfl, DGet.k (a1.all _ _ ha), q4.ok (.bl _)⟩
    | _ => exact q.2.elim
theorem d_kin (hu : X.A.units + 1 < cLine) (neg : Bool) (hv : PE X (.Name x p) (tVar i)) (hk : PE X kx (tV f W Γ rk)) : PE X (.Compare kx [if neg then .NotIn else .In] [.Name x p] pos) (tV f W Γ (match Γ[i]? with
    | some (.dk kvs) => rk.bind fun x => (asKey x).bind fun q => .ok (.bool (if neg then !(lookD kvs q).isSome else (lookD kvs q).isSome))
    | _ => unk)) := by
  cases neg with
  | true => exact (pe_cmp (pc_dnotin hu hk hv) rfl).imp fun σ H Q ⟨H0, q⟩ => kin_read true q
  | false => exact (pe_cmp (pc_din hu hk hv) rfl).imp fun σ H Q ⟨H0, q⟩ => kin_read false q
theorem t_kin (hu : X.A.units + 1 < cLine) (neg : Bool) (hv : PE X (.Name x p) (tVar i)) (hk : PE X kx (tV f W Γ rk)) : PT X (.Compare kx [if neg then .NotIn else .In] [.Name x p] pos) (Dee.tB f W Γ (match Γ[i]? with
    | some (.dk kvs) => rk.bind fun x => (asKey x).bind fun q => .ok (.bool (if neg then !(lookD kvs q).isSome else (lookD kvs q).isSome))
    | _ => unk)) := by
  cases neg with
  | true => exact (pt_cmp (pc_dnotin hu hk hv) rfl).imp fun σ H Q ⟨H0, q⟩ => kin_read (Q := fun v H' => ∃ c, v = .bl c ∧ Q c H') true (Va.test q fun b H' z => ⟨b, rfl, z⟩)
  | false => exact (pt_cmp (pc_din hu hk hv) rfl).imp fun σ H Q ⟨H0, q⟩ => kin_read (Q := fun v H' => ∃ c, v = .bl c ∧ Q c H') false (Va.test q fun b H' z => ⟨b, rfl, z⟩)
theorem intKeys_ok : ∀ {kvs : List (Key × D)} {ks : List Int}, intKeys kvs = some ks → kvs.map (·.1) = ks.map Sum.inl
  | [], _, h => by
    cases h
    rfl
  | (.inl i, d) :: r, ks, h => by
    unfold intKeys at h
    cases e : intKeys r with
    | none =>
      rw [e] at h
      cases h
    | some z =>
      rw [e] at h
      cases h
      rw [List.map_cons, List.map_cons, intKeys_ok e]
  | (.inr _, _) :: _, _, h => by cases h
theorem f_ksort {p2 : Pos} (hc : X.calm = true) (hv : PE X (.Name x p) (tVar i)) (hg : Gl X "sorted") (hm : X.mg "sorted" = none) : PE X (.Call (.Name "sorted" p2) [.Name x p] [] pos) (tF f W Γ (match Γ[i]? with
    | some (.dk kvs) => keySort kvs
    | _ => unk)) := by
  have hp : (backTo pos (starEach [] X.env)).any (·.1) = false := rfl
  refine (pe_callB (call_sortedDI hc) hg hm (by decide +kernel) (pa_cons hv pa_nil (star_cons rfl [] X.env)) (by decide) (by decide) (star_cons rfl [] X.env) hp).imp fun σ H Q ⟨H0, q⟩ => ?_
  cases e : Γ[i]? with
  | none =>
    rw [e] at q
    exact q.2.elim
  | some s =>
    rw [e] at q
    cases s with
    | dk kvs =>
      obtain ⟨ad, vs, eo, he, h0, ha, kv⟩ := q.1.dk e
      have q' : Vf f W Γ (keySort kvs) H0 σ H Q := q
      unfold keySort at q'
      cases ek : intKeys kvs with
      | none =>
        rw [ek] at q'
        exact q'.2.elim
      | some ks =>
        rw [ek] at q'
        have q2 : Vf f W Γ (if ks.length < 64 then .ok ((sortI ks).map .int) else unk) H0 σ H Q := q'
        by_cases hl : ks.length < 64
        · rw [if_pos hl] at q2
          refine ⟨_, eo, ad, vs, ks, rfl, .inl ha, (kv_keys kv).trans (intKeys_ok ek), hl, fun ys a hp hu hn => ?_⟩
          have e5 : ys = sortI ks := sort_one (hp.trans (sortI_perm ks).symm) hu (sortI_up ks)
          subst e5
          exact q2.lay (ints_dp _) hn
        · rw [if_neg hl] at q2
          exact q2.2.elim
    | _ => exact q.2.elim
end
end Dee

set_option maxRecDepth 100000
set_option maxHeartbeats 8000000
/-! Dee, part 12: every expression that the look lets through means what the small language says. -/
namespace Dee
open PySem PySem.Spec PyProof.Rows L2

/-- an expression, as a value, as a test -/
structure SE (f : Fm) (W : WX) (Γ : List Sl) (X : Cx) (c : CE) (e : Expr) (r : R) : Prop where
  pe : PE X e (tV f W Γ r)
  pt : okT c = true → PT X e (tB f W Γ r)
  pw : okT c = true → ∀ op vs p, e = .BoolOp op vs p → PW X e (tB f W Γ r)
theorem SE.val {f : Fm} {W : WX} {Γ : List Sl} {X : Cx} {c : CE} {e : Expr} {r : R} (h : PE X e (tV f W Γ r)) (he : ∀ whole, isTrue e X.env whole = (do let v ← whole; standAt e.pos; holding [v] (truthy v))) (hb : ∀ op vs p, e ≠ .BoolOp op vs p) : SE f W Γ X c e r :=
  ⟨h, fun _ => t_val h he, fun _ op vs p q => absurd q (hb op vs p)⟩
theorem last_of {o o' : CmpOp} {m r : Expr} (h : notSet m = true) (h' : notSet r = true) : lastMarks [o, o'] [m, r] = false := by
  show behindInMarks o' r = false
  exact mark_of h' o'
theorem boot_fn : ∀ (o : Bl) (id : String), o.kind = .fn id → bootBuiltins (Str.ofString id) = some (.builtin id) := by
  intro o id h
  cases o <;> first | (cases h; done) | (cases h; decide +kernel)
theorem boot_ty : ∀ (o : Bl) (id : String), o.kind = .ty id → bootBuiltins (Str.ofString id) = some (.type id) := by
  intro o id h
  cases o <;> first | (cases h; done) | (cases h; decide +kernel)
theorem boot_ik : ∀ t : Ik, bootBuiltins (Str.ofString t.name) = some (.type t.name) := by
  intro t
  cases t <;> decide +kernel

section
variable {T : Tab} {E : Evn} {f : Fm} {k : Nat} {N : List Str}
theorem own_map (N : List Str) (vs : List Nat) : (ownOf N vs).map (·.2) = vs := by
  unfold ownOf
  rw [List.map_map]
  exact List.map_id' vs
/-- a comprehension, from its parts -/
theorem f_lc {W : WX} {sc : Scope} {fl : Option Scope} {X : Cx} {Γ : List Sl} {vs : List Nat} {tg : Tg} {r : Rs} {co el : List Sl → R} {x t i : Expr} {ifs : List Expr} {s : Scope} {pos : Pos} (S : Sta T E f W k N sc fl true X) (hb : blkC N sc s (ownOf N vs) = true) (ht : ckTg N (some s) (relS s sc) true tg t = true)
    (hsub : tg.all.all (fun j => vs.contains j) = true) (hset : notSet i = true) (hi : PI X t i (tI f W Γ r))
    (hc : ∀ (X' : Cx) (Γ' : List Sl), Sta T E f WF k N (relS s sc) (some s) true X' → PTs X' ifs (Dee.tB f WF Γ' (co Γ'))) (he : ∀ (X' : Cx) (Γ' : List Sl), Sta T E f WF k N (relS s sc) (some s) true X' → PE X' x (tV f WF Γ' (el Γ'))) :
    PE X (.ListComp x [⟨t, i, ifs, 0⟩] s pos) (tF f W Γ (r.bind fun ds => (lcL (fun d => asg tg d (wipeG Γ vs)) co el ds).bind capD)) := by
  have hsub' : ∀ j ∈ tg.all, j ∈ vs := fun j hj => by simpa using List.all_eq_true.mp hsub j hj
  refine (pe_lc (own := ownOf N vs) (g := gT f tg) (tt := tCo f co) (te := tEl f el) (S.hcm rfl).1 (by rw [S.hN]; exact S.nd) hi (by rw [S.hN, S.hsc]; exact blkOk_by hb)
    (fun s1 H C cl fp => g_of S.blk ht) (fun s1 H C cl fp => PTs.any fun Γ' => hc _ Γ' S.blk) (fun s1 H C cl fp => PE.any fun Γ' => he _ Γ' S.blk) (fold_of hset X.env)).imp fun σ H Q ⟨H0, q⟩ => ?_
  rw [own_map]
  exact lc_read hsub' q
theorem f_lc2 {W : WX} {sc : Scope} {fl : Option Scope} {X : Cx} {Γ : List Sl} {vs vs1 : List Nat} {tg tg1 : Tg} {r : Rs} {it1 : List Sl → Rs} {co co1 el : List Sl → R} {x t i t1 i1 : Expr} {ifs ifs1 : List Expr} {s : Scope} {pos : Pos} (S : Sta T E f W k N sc fl true X) (hb : blkC N sc s (ownOf N vs) = true) (ht : ckTg N (some s) (relS s sc) true tg t = true)
    (hv1 : vs1.all (fun j => vs.contains j) = true) (hsub : tg.all.all (fun j => vs.contains j) = true) (hset : notSet i = true) (ht1 : ckTg N (some s) (relS s sc) true tg1 t1 = true) (hsub1 : tg1.all.all (fun j => vs1.contains j) = true) (hset1 : notSet i1 = true) (hi : PI X t i (tI f W Γ r))
    (hc : ∀ (X' : Cx) (Γ' : List Sl), Sta T E f WF k N (relS s sc) (some s) true X' → PTs X' ifs (Dee.tB f WF Γ' (co Γ'))) (hi1 : ∀ (X' : Cx) (Γ' : List Sl), Sta T E f WF k N (relS s sc) (some s) true X' → PI X' t1 i1 (tI f WF Γ' (it1 Γ')))
    (hc1 : ∀ (X' : Cx) (Γ' : List Sl), Sta T E f WF k N (relS s sc) (some s) true X' → PTs X' ifs1 (Dee.tB f WF Γ' (co1 Γ'))) (he : ∀ (X' : Cx) (Γ' : List Sl), Sta T E f WF k N (relS s sc) (some s) true X' → PE X' x (tV f WF Γ' (el Γ'))) :
    PE X (.ListComp x [⟨t, i, ifs, 0⟩, ⟨t1, i1, ifs1, 0⟩] s pos) (tF f W Γ (r.bind fun ds => (lcL2 (fun d => asg tg d (wipeG Γ vs)) co (fun Γ => match it1 Γ with
        | .ok es => lcL (fun d => asg tg1 d (wipeG Γ vs1)) co1 el es
        | .error _ => unk) ds).bind capD)) := by
  have hsub' : ∀ j ∈ tg.all, j ∈ vs := fun j hj => by simpa using List.all_eq_true.mp hsub j hj
  have hsub1' : ∀ j ∈ tg1.all, j ∈ vs1 := fun j hj => by simpa using List.all_eq_true.mp hsub1 j hj
  have hv1' : ∀ j ∈ vs1, j ∈ (ownOf N vs).map (·.2) := fun j hj => by rw [own_map]; simpa using List.all_eq_true.mp hv1 j hj
  refine (pe_lc2 (own := ownOf N vs) (vs1 := vs1) (g := gT f tg) (g1 := gT f tg1) (tt := tCo f co) (tt1 := tCo f co1) (wi1 := tI1 f it1) (te := tEl f el) (S.hcm rfl).1 (by rw [S.hN]; exact S.nd) hi (by rw [S.hN, S.hsc]; exact blkOk_by hb) hv1'
    (fun s1 H C cl fp => g_of S.blk ht) (fun s1 H C cl fp => PTs.any fun Γ' => hc _ Γ' S.blk) (fun s1 H C cl fp => PI.any fun Γ' => hi1 _ Γ' S.blk) (fun s1 H C cl fp => g_of S.blk ht1) (fun s1 H C cl fp => PTs.any fun Γ' => hc1 _ Γ' S.blk)
    (fun s1 H C cl fp => PE.any fun Γ' => he _ Γ' S.blk) (fold_of hset X.env) (fun env => fold_of hset1 env)).imp fun σ H Q ⟨H0, q⟩ => ?_
  rw [own_map]
  exact lc2_read hsub' hsub1' q
/-- a call of a built-in, from its arguments -/
theorem d_blt {W : WX} {sc : Scope} {fl : Option Scope} {cm : Bool} {X : Cx} {Γ : List Sl} (S : Sta T E f W k N sc fl cm X) {o : Bl} {id : String} (hk : o.kind = .fn id) (h1 : o ≠ .sorted) (hcm : (!o.calm || cm) = true) {x : Str} {p pos : Pos} {a : Expr} {r : List Expr} {rs : Rs} (hx : x = Str.ofString id) (hT : T.blt.contains x = true) (hg : glbB sc x = true) (hn : nmOk x = true)
    (hst : ∀ e ∈ a :: r, notStar e = true) (ha : PA X (a :: r) (tVs f W Γ rs)) : PE X (.Call (.Name x p) (a :: r) [] pos) (tV f W Γ (rs.bind fun ds => bltD o ds)) := by
  subst hx
  have calm : o.calm = true → X.calm = true := fun h => by
    rw [h] at hcm
    exact (S.hcm hcm).1
  have go : CallR X (.builtin id) (rDs X.K (bltD o)) := by
    cases o <;> first | (cases hk; done) | skip
    all_goals cases hk
    · exact cr_len
    · exact cr_abs
    · exact cr_max2 (calm rfl)
    · exact cr_min2 (calm rfl)
    · exact cr_max1 (calm rfl)
    · exact cr_max3 (calm rfl)
    · exact cr_sumD (calm rfl)
    · exact cr_anyD (calm rfl)
    · exact cr_allD (calm rfl)
    · exact cr_reprD S.dg S.gd S.un
    · exact absurd rfl h1
  exact d_fn S.hK go (bltD_no o) (S.gl hg) (S.blt _ hT) (boot_fn o id hk) hn hst ha
/-! ### isinstance of an error -/
def clV (cl : Nat → Addr) : Option Nat → V
  | none => .ty "ValueError"
  | some c => .ref (cl c)
theorem cl_v (cl : Nat → Addr) (o : Option Nat) : ClsV (clV cl o) (clU cl o) := by
  cases o with
  | none => exact .ty _
  | some c => exact .own _
theorem cl_vs (cl : Nat → Addr) : ∀ cs : List (Option Nat), Paired ClsV (cs.map (clV cl)) (cs.map (clU cl))
  | [] => .nil
  | o :: os => .cons (cl_v cl o) (cl_vs cl os)
theorem boot_ve : bootBuiltins "ValueError" = some (.type "ValueError") := by decide +kernel
theorem x_cls {W : WX} {sc : Scope} {fl : Option Scope} {cm : Bool} {X : Cx} (S : Sta T E f W k N sc fl cm X) : ∀ {o : Option Nat} {e : Expr}, ckX T sc o e = true → PE X e (tC (clV f.cl o)) ∧ notStar e = true ∧ ∀ c, o = some c → ∃ x, T.cls[c]? = some x
  | none, e, h => by
    cases e <;> first | (cases h; done) | skip
    rename_i y p
    have h : (decide (y = Str.ofString "ValueError") && T.blt.contains y && glbB sc y) = true := h
    simp only [Bool.and_eq_true] at h
    obtain ⟨⟨h1, h2⟩, h3⟩ := h
    have e1 := of_decide_eq_true h1
    subst e1
    exact ⟨pe_bltn (S.gl h3) (S.blt _ h2) boot_ve rfl, rfl, fun c z => nomatch z⟩
  | some c, e, h => by
    cases e <;> first | (cases h; done) | skip
    rename_i y p
    have h : (decide (T.cls[c]? = some y) && glbB sc y && nmOk y) = true := h
    simp only [Bool.and_eq_true] at h
    obtain ⟨⟨h1, h2⟩, h3⟩ := h
    have e1 := of_decide_eq_true h1
    exact ⟨pe_glob (S.gl h2) (S.cls _ _ e1).g rfl (nm_of h3).1, rfl, fun c' z => by cases z; exact ⟨_, e1⟩⟩
theorem xs_cls {W : WX} {sc : Scope} {fl : Option Scope} {cm : Bool} {X : Cx} (S : Sta T E f W k N sc fl cm X) : ∀ {cs : List (Option Nat)} {es : List Expr}, ckXs T sc cs es = true → PA X es (fun _ H Q => Q (cs.map (clV f.cl)) H) ∧ ∀ o ∈ cs, ∀ c, o = some c → ∃ x, T.cls[c]? = some x
  | [], [], _ => ⟨pa_nil.imp fun _ _ _ q => q, fun o h => absurd h List.not_mem_nil⟩
  | o :: os, e :: es, h => by
    unfold ckXs at h
    rw [Bool.and_eq_true] at h
    obtain ⟨a1, a2, a3⟩ := x_cls S h.1
    obtain ⟨b1, b2⟩ := xs_cls S h.2
    refine ⟨(pa_cons a1 b1 (star_cons a2 es X.env)).imp fun _ _ _ q => q, fun o' h' => ?_⟩
    rcases List.mem_cons.mp h' with z | z
    · rw [z]
      exact a3
    · exact b2 o' z
  | [], _ :: _, h => absurd h (by unfold ckXs; exact Bool.false_ne_true)
  | _ :: _, [], h => absurd h (by unfold ckXs; exact Bool.false_ne_true)
theorem kit_any {W : WX} {sc : Scope} {fl : Option Scope} {cm : Bool} {X : Cx} (S : Sta T E f W k N sc fl cm X) {d : Nat} (hd : ∃ x, T.cls[d]? = some x) : ∀ {cs : List (Option Nat)}, (∀ o ∈ cs, ∀ c, o = some c → ∃ x, T.cls[c]? = some x) → PySem.W.kitAny X.K (.ref (f.cl d)) (cs.map (clU f.cl)) = some (cs.any (isaX E.sub d))
  | [], _ => kitAny_nil
  | o :: os, h => by
    refine kitAny_cons (S.kit d o hd (h o List.mem_cons_self)) (fun e => ?_) fun e => ?_
    · rw [List.any_cons, e, Bool.false_or]
      exact kit_any S hd fun o' h' => h o' (List.mem_cons_of_mem _ h')
    · rw [List.any_cons, e, Bool.true_or]
theorem d_isx {W : WX} {sc : Scope} {fl : Option Scope} {cm : Bool} {X : Cx} {Γ : List Sl} (S : Sta T E f W k N sc fl cm X) {i : Nat} {x : Str} {p p1 pos : Pos} {cs : List (Option Nat)} {c : Expr} (hg : Gl X "isinstance") (hm : X.mg "isinstance" = none) (hv : PE X (.Name x p) (tVar i))
    (hc : (∃ o, cs = [o] ∧ ckX T sc o c = true) ∨ ∃ es k2 p2, c = .Tuple es k2 p2 ∧ cs.length ≤ 16 ∧ ckXs T sc cs es = true) :
    PE X (.Call (.Name "isinstance" p1) [.Name x p, c] [] pos) (tV f W Γ (match Γ[i]? with
    | some (.exc d) => .ok (.bool (cs.any (isaX E.sub d)))
    | _ => unk)) := by
  rcases hc with ⟨o, rfl, hc⟩ | ⟨es, k2, p2, rfl, hl, hc⟩
  · obtain ⟨c1, c2, c3⟩ := x_cls S hc
    refine (PE.any (α := { q : Addr × Nat // f.xa q.1 q.2 }) fun q => pe_callB (S.xis q.1.1 q.1.2 q.2) hg hm boot_isi (pa_cons hv (pa_cons c1 pa_nil (star_cons c2 [] X.env)) (star_cons rfl _ X.env)) (by decide) (by decide) (star_cons rfl _ X.env) (by rw [star_cons c2]; rfl)).imp fun σ H Q ⟨H0, q⟩ => ?_
    cases e : Γ[i]? with
    | none =>
      rw [e] at q
      exact q.2.elim
    | some s =>
      rw [e] at q
      cases s with
      | exc d =>
        obtain ⟨o', eo, a, rfl, ha⟩ := q.1.sl i _ e
        refine ⟨⟨(a, d), ha⟩, _, eo, .inl ⟨clV f.cl o, clU f.cl o, isaX E.sub d o, rfl, cl_v f.cl o, S.kit d o (S.xat a d ha) c3, ?_⟩⟩
        have z : ([o].any (isaX E.sub d)) = isaX E.sub d o := by simp
        have q' : Va f W Γ (.ok (.bool ([o].any (isaX E.sub d)))) H0 σ H Q := q
        rw [z] at q'
        exact q'.ok (.bl _)
      | _ => exact q.2.elim
  · obtain ⟨c1, c3⟩ := xs_cls S hc
    refine (PE.any (α := { q : Addr × Nat // f.xa q.1 q.2 }) fun q => pe_callB (S.xis q.1.1 q.1.2 q.2) hg hm boot_isi (pa_cons hv (pa_cons (pe_tup c1) pa_nil (star_cons rfl [] X.env)) (star_cons rfl _ X.env)) (by decide) (by decide) (star_cons rfl _ X.env) (by rw [star_cons rfl]; rfl)).imp fun σ H Q ⟨H0, q⟩ => ?_
    cases e : Γ[i]? with
    | none =>
      rw [e] at q
      exact q.2.elim
    | some s =>
      rw [e] at q
      cases s with
      | exc d =>
        obtain ⟨o', eo, a, rfl, ha⟩ := q.1.sl i _ e
        exact ⟨⟨(a, d), ha⟩, _, eo, by rw [List.length_map]; exact Nat.le_trans hl (by decide), fun pp hp => .inr ⟨pp, _, _, _, rfl, upd_same, cl_vs f.cl cs, kit_any S (S.xat a d ha) c3,
          q.2 (.bl _) H0 _ ((Adv.refl q.1.sub).beside hp (same_fresh q.1.sub hp)) (.bl _)⟩⟩
      | _ => exact q.2.elim
end
end Dee

set_option maxRecDepth 100000
set_option maxHeartbeats 8000000
/-! Dee, part 13: every expression, by the form of its term. -/
namespace Dee
open PySem PySem.Spec PyProof.Rows L2

section
variable {T : Tab} {E : Evn} {f : Fm} {k : Nat} {N : List Str}
theorem Sta.u65 {W : WX} {sc : Scope} {fl : Option Scope} {cm : Bool} {X : Cx} (S : Sta T E f W k N sc fl cm X) : X.A.units + 65 < cLine := by
  have := S.un
  omega
theorem Sta.u1 {W : WX} {sc : Scope} {fl : Option Scope} {cm : Bool} {X : Cx} (S : Sta T E f W k N sc fl cm X) : X.A.units + 1 < cLine := by
  have := S.un
  omega
theorem nm_at {N : List Str} {i : Nat} {x : Str} (h : isNm N i x = true) : N[i]? = some x := of_decide_eq_true h
theorem Sta.var {W : WX} {sc : Scope} {fl : Option Scope} {cm : Bool} {X : Cx} (S : Sta T E f W k N sc fl cm X) {i : Nat} {x : Str} {p : Pos} (h1 : isNm N i x = true) (h2 : visB sc x = true) (h3 : nmOk x = true) : PE X (.Name x p) (tVar i) :=
  L2.pe_var (i := i) (by rw [S.hN]; exact nm_at h1) (by rw [S.hsc]; exact vis_of h2) (nm_of h3).1 (nm_of h3).2.1
theorem tg_tup {fl : Option Scope} {sc : Scope} {cm : Bool} {tg : Tg} {t : Expr} (h : ckTg N fl sc cm tg t = true) (ht : tg.isTup = true) : ∃ es k p, t = .Tuple es k p := by
  cases tg with
  | nm _ => cases ht
  | tp is => cases t <;> first | (cases h; done) | exact ⟨_, _, _, rfl⟩
mutual
theorem sE : ∀ (c : CE) {W : WX} {sc : Scope} {fl : Option Scope} {cm : Bool} {X : Cx} {e : Expr} (Γ : List Sl), Sta T E f W k N sc fl cm X → ckE T N c sc cm e = true → SE f W Γ X c e (ev E c Γ)
  | .var i, W, sc, fl, cm, X, e, Γ, S, h => by
    unfold ckE at h
    cases e <;> first | (cases h; done) | skip
    rename_i x p
    simp only [Bool.and_eq_true] at h
    exact SE.val (d_var (by rw [S.hN]; exact nm_at h.1.1) (by rw [S.hsc]; exact vis_of h.1.2) (nm_of h.2).1 (nm_of h.2).2.1) (fun _ => rfl) (fun _ _ _ => nofun)
  | .int i, W, sc, fl, cm, X, e, Γ, S, h => by
    unfold ckE at h
    split at h
    · have := of_decide_eq_true h
      subst this
      exact SE.val (d_const pe_int fun H => .int _) (fun _ => rfl) (fun _ _ _ => nofun)
    · cases h
  | .bl b, W, sc, fl, cm, X, e, Γ, S, h => by
    unfold ckE at h
    split at h
    · have := of_decide_eq_true h
      subst this
      exact SE.val (d_const pe_bl fun H => .bl _) (fun _ => rfl) (fun _ _ _ => nofun)
    · cases h
  | .non, W, sc, fl, cm, X, e, Γ, S, h => by
    unfold ckE at h
    split at h
    · exact SE.val (d_const pe_non fun H => .non) (fun _ => rfl) (fun _ _ _ => nofun)
    · cases h
  | .str s, W, sc, fl, cm, X, e, Γ, S, h => by
    unfold ckE at h
    split at h
    · have := of_decide_eq_true h
      subst this
      exact SE.val (d_const pe_str fun H => .str _) (fun _ => rfl) (fun _ _ _ => nofun)
    · cases h
  | .glob g, W, sc, fl, cm, X, e, Γ, S, h => by
    unfold ckE at h
    cases e <;> first | (cases h; done) | skip
    rename_i x p
    simp only [Bool.and_eq_true] at h
    obtain ⟨u, v, d, h1, h2, h3, h4⟩ := S.con g x (of_decide_eq_true h.1.1)
    have e1 : ev E (.glob g) Γ = .ok d := by unfold ev; rw [h3]
    rw [e1]
    exact SE.val (d_const (pe_glob (S.gl h.1.2) h1 h2 (nm_of h.2).1) (by rw [← S.hK]; exact h4)) (fun _ => rfl) (fun _ _ _ => nofun)
  | .bin o a b, W, sc, fl, cm, X, e, Γ, S, h => by
    unfold ckE at h
    cases e <;> first | (cases h; done) | skip
    rename_i l op r p
    simp only [Bool.and_eq_true] at h
    have e1 := of_decide_eq_true h.1.1
    subst e1
    exact SE.val (d_bin S.hK (sE a Γ S h.1.2).pe (sE b Γ S h.2).pe) (fun _ => rfl) (fun _ _ _ => nofun)
  | .neg a, W, sc, fl, cm, X, e, Γ, S, h => by
    unfold ckE at h
    split at h
    · exact SE.val (d_neg (sE a Γ S h).pe) (fun _ => rfl) (fun _ _ _ => nofun)
    · cases h
  | .cmp o a b, W, sc, fl, cm, X, e, Γ, S, h => by
    unfold ckE at h
    split at h
    · simp only [Bool.and_eq_true] at h
      have e1 := of_decide_eq_true h.1.1.1
      subst e1
      exact ⟨d_cmp S.hK S.u65 (mark_of h.2 _) (sE a Γ S h.1.1.2).pe (sE b Γ S h.1.2).pe, fun _ => t_cmp S.hK S.u65 (mark_of h.2 _) (sE a Γ S h.1.1.2).pe (sE b Γ S h.1.2).pe, fun _ _ _ _ q => nomatch q⟩
    · cases h
  | .chn o o' a b c, W, sc, fl, cm, X, e, Γ, S, h => by
    unfold ckE at h
    split at h
    · simp only [Bool.and_eq_true] at h
      obtain ⟨⟨⟨⟨⟨⟨h1, h2⟩, h3⟩, h4⟩, h5⟩, h6⟩, h7⟩ := h
      have e1 := of_decide_eq_true h1
      have e2 := of_decide_eq_true h2
      subst e1 e2
      exact ⟨d_chn S.hK S.u65 (last_of h6 h7) (sE a Γ S h3).pe (sE b Γ S h4).pe (sE c Γ S h5).pe, fun _ => t_chn S.hK S.u65 (last_of h6 h7) (sE a Γ S h3).pe (sE b Γ S h4).pe (sE c Γ S h5).pe, fun _ _ _ _ q => nomatch q⟩
    · cases h
  | .and a b, W, sc, fl, cm, X, e, Γ, S, h => by
    unfold ckE at h
    split at h
    · rw [Bool.and_eq_true] at h
      have ia := sE a Γ S h.1
      have ib := sE b Γ S h.2
      have pw : okT (.and a b) = true → _ := fun ht => t_and (ia.pt (by unfold okT at ht; exact ((Bool.and_eq_true _ _).mp ht).1)) (ib.pw (by unfold okT at ht; exact ((Bool.and_eq_true _ _).mp ht).2) _ _ _ rfl)
      exact ⟨d_and ia.pe ib.pe, fun ht => (pw ht).pt, fun ht op vs p q => by cases q; exact pw ht⟩
    · cases h
  | .or a b, W, sc, fl, cm, X, e, Γ, S, h => by
    unfold ckE at h
    split at h
    · rw [Bool.and_eq_true] at h
      have ia := sE a Γ S h.1
      have ib := sE b Γ S h.2
      have pw : okT (.or a b) = true → _ := fun ht => t_or (ia.pt (by unfold okT at ht; exact ((Bool.and_eq_true _ _).mp ht).1)) (ib.pw (by unfold okT at ht; exact ((Bool.and_eq_true _ _).mp ht).2) _ _ _ rfl)
      exact ⟨d_or ia.pe ib.pe, fun ht => (pw ht).pt, fun ht op vs p q => by cases q; exact pw ht⟩
    · cases h
  | .one a, W, sc, fl, cm, X, e, Γ, S, h => by
    unfold ckE at h
    split at h
    · rename_i op x p
      have ia := sE a Γ S h
      have pw : okT (.one a) = true → PW X (.BoolOp op [x] p) (Dee.tB f W Γ (ev E a Γ)) := fun ht => by
        have it := ia.pt (by unfold okT at ht; exact ht)
        cases op with
        | And => exact pw_and1 it
        | Or => exact pw_or1 it
      exact ⟨pe_one ia.pe, fun ht => (pw ht).pt, fun ht op vs p q => by cases q; exact pw ht⟩
    · cases h
  | .not a, W, sc, fl, cm, X, e, Γ, S, h => by
    unfold ckE at h
    split at h
    · have ia := sE a Γ S h
      exact ⟨d_not ia.pe, fun ht => t_not (ia.pt (by unfold okT at ht; exact ht)), fun _ _ _ _ q => nomatch q⟩
    · cases h
  | .ife c a b, W, sc, fl, cm, X, e, Γ, S, h => by
    unfold ckE at h
    split at h
    · simp only [Bool.and_eq_true] at h
      exact ⟨d_ife ((sE c Γ S h.1.1.1).pt h.1.1.2) (sE a Γ S h.1.2).pe (sE b Γ S h.2).pe, fun ht => (by unfold okT at ht; cases ht), fun _ _ _ _ q => nomatch q⟩
    · cases h
  | .tup es, W, sc, fl, cm, X, e, Γ, S, h => by
    unfold ckE at h
    split at h
    · exact SE.val (d_tup (sEs es Γ S h).1) (fun _ => rfl) (fun _ _ _ => nofun)
    · cases h
  | .lst es, W, sc, fl, cm, X, e, Γ, S, h => by
    unfold ckE at h
    split at h
    · exact SE.val (d_of (f_lst (sEs es Γ S h).1)) (fun _ => rfl) (fun _ _ _ => nofun)
    · cases h
  | .idx a b, W, sc, fl, cm, X, e, Γ, S, h => by
    unfold ckE at h
    split at h
    · simp only [Bool.and_eq_true] at h
      exact SE.val (d_idx S.hK h.2 (sE a Γ S h.1.1).pe (sE b Γ S h.1.2).pe) (fun _ => rfl) (fun _ _ _ => nofun)
    · cases h
  | .sl a lo hi, W, sc, fl, cm, X, e, Γ, S, h => by
    unfold ckE at h
    split at h
    · simp only [Bool.and_eq_true] at h
      exact SE.val (d_of (f_sl S.hK (sE a Γ S h.1.1).pe (sO lo Γ S h.1.2) (sO hi Γ S h.2))) (fun _ => rfl) (fun _ _ _ => nofun)
    · cases h
  | .rev a, W, sc, fl, cm, X, e, Γ, S, h => by
    unfold ckE at h
    split at h
    · exact SE.val (d_of (f_rev S.hK (sE a Γ S h).pe)) (fun _ => rfl) (fun _ _ _ => nofun)
    · cases h
  | .lrev a, W, sc, fl, cm, X, e, Γ, S, h => by
    unfold ckE at h
    split at h
    · simp only [Bool.and_eq_true] at h
      obtain ⟨⟨⟨⟨⟨⟨⟨⟨h1, h2⟩, h3⟩, h4⟩, h5⟩, h6⟩, h7⟩, h8⟩, h9⟩ := h
      have e2 := of_decide_eq_true h2
      have e3 := of_decide_eq_true h3
      subst e2 e3 h1
      exact SE.val (d_of (f_lrev S.hK (S.hcm rfl).1 (S.gl h6) (S.blt _ h4) (S.gl h7) (S.blt _ h5) (star_cons h8 [] X.env) (sE a Γ S h9).pe)) (fun _ => rfl) (fun _ _ _ => nofun)
    · cases h
  | .call g es, W, sc, fl, cm, X, e, Γ, S, h => by
    unfold ckE at h
    split at h
    · simp only [Bool.and_eq_true] at h
      obtain ⟨⟨⟨⟨⟨h1, h0⟩, h2⟩, h3⟩, h4⟩, h5⟩ := h
      subst h1
      obtain ⟨i1, i2⟩ := sEs es Γ S h5
      exact SE.val (d_call S (of_decide_eq_true h2) h0 h3 h4 i2 i1) (fun _ => rfl) (fun _ _ _ => nofun)
    · cases h
  | .blt o es, W, sc, fl, cm, X, e, Γ, S, h => by
    unfold ckE at h
    split at h
    · rename_i x p a r q
      rw [Bool.and_eq_true] at h
      obtain ⟨h0, h⟩ := h
      simp only [Bool.and_eq_true] at h0
      obtain ⟨⟨hg, hn⟩, _⟩ := h0
      split at h
      · rename_i id hk
        simp only [Bool.and_eq_true] at h
        obtain ⟨⟨⟨⟨h1, h2⟩, h3⟩, _⟩, h5⟩ := h
        obtain ⟨i1, i2⟩ := sEs es Γ S h5
        have hx := of_decide_eq_true h2
        by_cases hs : o = .sorted
        · subst hs
          have q1 : PE X (.Call (.Name x p) (a :: r) [] q) (tF f W Γ ((evs E es Γ).bind fun ds => bltF .sorted ds)) := by
            subst hx
            have hid : id = "sorted" := by cases hk; rfl
            subst hid
            exact f_fn S.hK cr_sortedD (bltF_no _) (S.gl hg) (S.blt _ h3) (by decide +kernel) hn i2 i1
          exact SE.val (d_of q1) (fun _ => rfl) (fun _ _ _ => nofun)
        · have q1 := d_blt S hk hs h1 hx h3 hg hn i2 i1 (p := p) (pos := q)
          have e1 : ev E (.blt o es) Γ = (evs E es Γ).bind fun ds => bltD o ds := by
            cases o <;> first | rfl | (cases hk; done) | exact absurd rfl hs
          rw [e1]
          exact SE.val q1 (fun _ => rfl) (fun _ _ _ => nofun)
      · rename_i id hk
        simp only [Bool.and_eq_true] at h
        obtain ⟨⟨⟨h2, h3⟩, _⟩, h5⟩ := h
        obtain ⟨i1, i2⟩ := sEs es Γ S h5
        have hx := of_decide_eq_true h2
        subst hx
        have hv := boot_ty o id hk
        cases o <;> first | (cases hk; done) | skip
        all_goals cases hk
        · exact SE.val (d_ty S.hK cr_intD (bltD_no _) (S.gl hg) (S.blt _ h3) hv hn i2 i1) (fun _ => rfl) (fun _ _ _ => nofun)
        · exact SE.val (d_ty S.hK cr_strD (bltD_no _) (S.gl hg) (S.blt _ h3) hv hn i2 i1) (fun _ => rfl) (fun _ _ _ => nofun)
        · exact SE.val (d_of (f_ty S.hK cr_listD (bltF_no _) (S.gl hg) (S.blt _ h3) hv hn i2 i1)) (fun _ => rfl) (fun _ _ _ => nofun)
      · rename_i hk
        simp only [Bool.and_eq_true] at h
        obtain ⟨⟨⟨h2, h3⟩, _⟩, h5⟩ := h
        obtain ⟨i1, i2⟩ := sEs es Γ S h5
        have hx := of_decide_eq_true h2
        subst hx
        cases o <;> first | (cases hk; done) | skip
        exact SE.val (d_gcd S.hK (S.gl hg) (S.gcd h3) i2 i1) (fun _ => rfl) (fun _ _ _ => nofun)
      · rename_i t hk
        simp only [Bool.and_eq_true] at h
        obtain ⟨⟨h2, h3⟩, h4⟩ := h
        have hx := of_decide_eq_true h2
        subst hx
        split at h4
        · simp only [Bool.and_eq_true] at h4
          obtain ⟨⟨⟨⟨h5, h6⟩, h7⟩, h8⟩, h9⟩ := h4
          have hy := of_decide_eq_true h5
          subst hy
          cases es with
          | nil => unfold ckEs at h9; cases h9
          | cons c cs =>
            unfold ckEs at h9
            simp only [Bool.and_eq_true] at h9
            cases cs with
            | cons _ _ =>
              have z := h9.2
              unfold ckEs at z
              cases z
            | nil =>
              have ic := (sE c Γ S h9.1.2).pe
              have q1 := fun p2 => d_isi (t := t) (p := p) (pos := q) (p2 := p2) S.hK (S.gl hg) (S.blt _ h3) (S.gl h7) (S.blt _ h6) (boot_ik t) h8 h9.1.1 ic
              have e1 : ev E (.blt o (.cons c .nil)) Γ = (ev E c Γ).bind fun d => .ok (.bool (t.is d)) := by
                cases o <;> first | (cases hk; done) | skip
                all_goals
                  cases hk
                  show ((ev E c Γ).bind fun x => (Except.ok [] : Rs).bind fun xs => .ok (x :: xs)).bind _ = _
                  cases ev E c Γ <;> rfl
              rw [e1]
              exact SE.val (q1 _) (fun _ => rfl) (fun _ _ _ => nofun)
        · cases h4
    · cases h
  | .bits a, W, sc, fl, cm, X, e, Γ, S, h => by
    unfold ckE at h
    split at h
    · simp only [Bool.and_eq_true] at h
      obtain ⟨⟨⟨h1, h2⟩, h3⟩, h4⟩ := h
      have hm := of_decide_eq_true h1
      subst hm
      refine SE.val ?_ (fun _ => rfl) (fun _ _ _ => nofun)
      refine (pe_bits (sE a Γ S h4).pe (base_of h3 _ _) h2).imp fun σ H Q ⟨H0, q⟩ => ⟨H0, Va.bind q fun d v H1 H2 e1 a1 d1 q2 => ?_⟩
      obtain ⟨i, rfl, q3⟩ := q2.int
      exact ⟨i, int_of d1, q3.ok (.int _)⟩
    · cases h
  | .lc vs tg it co el, W, sc, fl, cm, X, e, Γ, S, h => by
    unfold ckE at h
    split at h
    · simp only [Bool.and_eq_true] at h
      obtain ⟨⟨⟨⟨⟨⟨⟨h1, h2⟩, h3⟩, h4⟩, h5⟩, h6⟩, h7⟩, h8⟩ := h
      subst h1
      refine SE.val (d_of (f_lc S h2 h3 h4 h6 (sI it Γ S h5 fun ht => ?_) (fun X' Γ' S' => sC co Γ' S' h7) fun X' Γ' S' => (sE el Γ' S' h8).pe)) (fun _ => rfl) (fun _ _ _ => nofun)
      exact tg_tup h3 ht
    · cases h
  | .lc2 vs vs1 tg it co tg1 it1 co1 el, W, sc, fl, cm, X, e, Γ, S, h => by
    unfold ckE at h
    split at h
    · simp only [Bool.and_eq_true] at h
      obtain ⟨⟨⟨⟨⟨⟨⟨⟨⟨⟨⟨⟨⟨h1, h2⟩, h0⟩, h3⟩, h4⟩, h5⟩, h6⟩, h7⟩, h8⟩, h9⟩, h10⟩, h11⟩, h12⟩, h13⟩ := h
      subst h1
      exact SE.val (d_of (f_lc2 S h2 h3 h0 h4 h6 h8 h9 h11 (sI it Γ S h5 fun ht => tg_tup h3 ht) (fun X' Γ' S' => sC co Γ' S' h7) (fun X' Γ' S' => sI it1 Γ' S' h10 fun ht => tg_tup h8 ht) (fun X' Γ' S' => sC co1 Γ' S' h12)
        fun X' Γ' S' => (sE el Γ' S' h13).pe)) (fun _ => rfl) (fun _ _ _ => nofun)
    · cases h
  | .oidx i b, W, sc, fl, cm, X, e, Γ, S, h => by
    unfold ckE at h
    split at h
    · simp only [Bool.and_eq_true] at h
      obtain ⟨⟨⟨⟨h1, h2⟩, h3⟩, h4⟩, h5⟩ := h
      exact SE.val (d_oidx S.hK (S.var h1 h2 h3) h5 (sE b Γ S h4).pe) (fun _ => rfl) (fun _ _ _ => nofun)
    · cases h
  | .olen i, W, sc, fl, cm, X, e, Γ, S, h => by
    unfold ckE at h
    split at h
    · simp only [Bool.and_eq_true] at h
      obtain ⟨⟨⟨⟨⟨h1, h2⟩, h3⟩, h4⟩, h5⟩, h6⟩ := h
      have e1 := of_decide_eq_true h1
      subst e1
      exact SE.val (d_olen (S.var h4 h5 h6) (S.gl h3) (S.blt _ h2)) (fun _ => rfl) (fun _ _ _ => nofun)
    · cases h
  | .isx i tup cs, W, sc, fl, cm, X, e, Γ, S, h => by
    unfold ckE at h
    split at h
    · simp only [Bool.and_eq_true] at h
      obtain ⟨⟨⟨⟨⟨⟨h1, h2⟩, h3⟩, h4⟩, h5⟩, h6⟩, h7⟩ := h
      have e1 := of_decide_eq_true h1
      subst e1
      refine SE.val (d_isx S (S.gl h3) (S.blt _ h2) (S.var h4 h5 h6) ?_) (fun _ => rfl) (fun _ _ _ => nofun)
      split at h7
      · exact .inl ⟨_, rfl, h7⟩
      · rw [Bool.and_eq_true] at h7
        exact .inr ⟨_, _, _, rfl, of_decide_eq_true h7.1, h7.2⟩
      · cases h7
    · cases h
  | .kget i kk d, W, sc, fl, cm, X, e, Γ, S, h => by
    unfold ckE at h
    split at h
    · simp only [Bool.and_eq_true] at h
      obtain ⟨⟨⟨⟨⟨⟨⟨⟨h1, h2⟩, h3⟩, h4⟩, h5⟩, h6⟩, h7⟩, h8⟩, h9⟩ := h
      have e1 := of_decide_eq_true h1
      subst e1
      exact SE.val (d_kget S.u1 (S.var h3 h4 h5) h2 h6 h7 (sE kk Γ S h8).pe (sE d Γ S h9).pe) (fun _ => rfl) (fun _ _ _ => nofun)
    · cases h
  | .kat i kk, W, sc, fl, cm, X, e, Γ, S, h => by
    unfold ckE at h
    split at h
    · simp only [Bool.and_eq_true] at h
      obtain ⟨⟨⟨⟨h1, h2⟩, h3⟩, h4⟩, h5⟩ := h
      exact SE.val (d_kat S.u1 (S.var h1 h2 h3) h5 (sE kk Γ S h4).pe) (fun _ => rfl) (fun _ _ _ => nofun)
    · cases h
  | .kin neg i kk, W, sc, fl, cm, X, e, Γ, S, h => by
    unfold ckE at h
    split at h
    · simp only [Bool.and_eq_true] at h
      obtain ⟨⟨⟨⟨h1, h2⟩, h3⟩, h4⟩, h5⟩ := h
      have e1 := of_decide_eq_true h1
      subst e1
      exact ⟨d_kin S.u1 neg (S.var h3 h4 h5) (sE kk Γ S h2).pe, fun _ => t_kin S.u1 neg (S.var h3 h4 h5) (sE kk Γ S h2).pe, fun _ _ _ _ z => nomatch z⟩
    · cases h
  | .ksort i, W, sc, fl, cm, X, e, Γ, S, h => by
    unfold ckE at h
    split at h
    · simp only [Bool.and_eq_true] at h
      obtain ⟨⟨⟨⟨⟨⟨h0, h1⟩, h2⟩, h3⟩, h4⟩, h5⟩, h6⟩ := h
      have e1 := of_decide_eq_true h1
      subst e1 h0
      exact SE.val (d_of (f_ksort (S.hcm rfl).1 (S.var h4 h5 h6) (S.gl h3) (S.blt _ h2))) (fun _ => rfl) (fun _ _ _ => nofun)
    · cases h
theorem sEs : ∀ (cs : CEs) {W : WX} {sc : Scope} {fl : Option Scope} {cm : Bool} {X : Cx} {es : List Expr} (Γ : List Sl), Sta T E f W k N sc fl cm X → ckEs T N cs sc cm es = true → PA X es (tVs f W Γ (evs E cs Γ)) ∧ ∀ e ∈ es, notStar e = true
  | .nil, W, sc, fl, cm, X, es, Γ, S, h => by
    unfold ckEs at h
    split at h
    · exact ⟨ds_nil, fun e he => absurd he List.not_mem_nil⟩
    · cases h
  | .cons c cs, W, sc, fl, cm, X, es, Γ, S, h => by
    unfold ckEs at h
    split at h
    · simp only [Bool.and_eq_true] at h
      obtain ⟨⟨h1, h2⟩, h3⟩ := h
      obtain ⟨i1, i2⟩ := sEs cs Γ S h3
      refine ⟨ds_cons h1 (sE c Γ S h2).pe i1, fun e he => ?_⟩
      rcases List.mem_cons.mp he with q | q
      · rw [q]
        exact h1
      · exact i2 e q
    · cases h
theorem sO : ∀ (cs : CEs) {W : WX} {sc : Scope} {fl : Option Scope} {cm : Bool} {X : Cx} {e : Option Expr} (Γ : List Sl), Sta T E f W k N sc fl cm X → ckO T N cs sc cm e = true → PO X e (tO f W Γ (evO E cs Γ))
  | .nil, W, sc, fl, cm, X, e, Γ, S, h => by
    unfold ckO at h
    split at h
    · exact o_none
    · cases h
  | .cons c cs, W, sc, fl, cm, X, e, Γ, S, h => by
    unfold ckO at h
    split at h
    · exact o_some (sE c Γ S h).pe
    · cases h
theorem sC : ∀ (cs : CEs) {W : WX} {sc : Scope} {fl : Option Scope} {cm : Bool} {X : Cx} {es : List Expr} (Γ : List Sl), Sta T E f W k N sc fl cm X → ckC T N cs sc cm es = true → PTs X es (Dee.tB f W Γ (evC E cs Γ))
  | .nil, W, sc, fl, cm, X, es, Γ, S, h => by
    unfold ckC at h
    split at h
    · exact pts_nil.imp fun σ H Q ⟨H0, q⟩ => q.ok
    · cases h
  | .cons c cs, W, sc, fl, cm, X, es, Γ, S, h => by
    unfold ckC at h
    split at h
    · rw [Bool.and_eq_true] at h
      exact pts_one ((sE c Γ S h.1).pt h.2)
    · cases h
theorem sI : ∀ (c : CI) {W : WX} {sc : Scope} {fl : Option Scope} {cm tp : Bool} {X : Cx} {tg e : Expr} (Γ : List Sl), Sta T E f W k N sc fl cm X → ckI T N c sc cm tp e = true → (tp = true → ∃ es k p, tg = .Tuple es k p) → PI X tg e (tI f W Γ (evI E c Γ))
  | .of c, W, sc, fl, cm, tp, X, tg, e, Γ, S, h, ht => by
    unfold ckI at h
    exact i_of S.hK (sE c Γ S h).pe
  | .r1 a, W, sc, fl, cm, tp, X, tg, e, Γ, S, h, ht => by
    unfold ckI at h
    split at h
    · simp only [Bool.and_eq_true] at h
      obtain ⟨⟨⟨⟨h1, h2⟩, h3⟩, h4⟩, h5⟩ := h
      have e1 := of_decide_eq_true h1
      subst e1
      exact i_r1 (S.gl h3) (S.blt _ h2) h4 (sE a Γ S h5).pe
    · cases h
  | .r2 a b, W, sc, fl, cm, tp, X, tg, e, Γ, S, h, ht => by
    unfold ckI at h
    split at h
    · simp only [Bool.and_eq_true] at h
      obtain ⟨⟨⟨⟨⟨⟨h1, h2⟩, h3⟩, h4⟩, h5⟩, h6⟩, h7⟩ := h
      have e1 := of_decide_eq_true h1
      subst e1
      exact i_r2 (S.gl h3) (S.blt _ h2) h4 h5 (sE a Γ S h6).pe (sE b Γ S h7).pe
    · cases h
  | .r3 a b c, W, sc, fl, cm, tp, X, tg, e, Γ, S, h, ht => by
    unfold ckI at h
    split at h
    · simp only [Bool.and_eq_true] at h
      obtain ⟨⟨⟨⟨⟨⟨⟨⟨h1, h2⟩, h3⟩, h4⟩, h5⟩, h6⟩, h7⟩, h8⟩, h9⟩ := h
      have e1 := of_decide_eq_true h1
      subst e1
      exact i_r3 (S.gl h3) (S.blt _ h2) h4 h5 h6 (sE a Γ S h7).pe (sE b Γ S h8).pe (sE c Γ S h9).pe
    · cases h
  | .en a, W, sc, fl, cm, tp, X, tg, e, Γ, S, h, ht => by
    unfold ckI at h
    split at h
    · simp only [Bool.and_eq_true] at h
      obtain ⟨⟨⟨⟨⟨h0, h1⟩, h2⟩, h3⟩, h4⟩, h5⟩ := h
      have e1 := of_decide_eq_true h1
      subst e1
      obtain ⟨es, kk, p, rfl⟩ := ht h0
      exact i_en S.hK (S.gl h3) (S.blt _ h2) h4 (sE a Γ S h5).pe
    · cases h
  | .zip a b, W, sc, fl, cm, tp, X, tg, e, Γ, S, h, ht => by
    unfold ckI at h
    split at h
    · simp only [Bool.and_eq_true] at h
      obtain ⟨⟨⟨⟨⟨⟨⟨h0, h1⟩, h2⟩, h3⟩, h4⟩, h5⟩, h6⟩, h7⟩ := h
      have e1 := of_decide_eq_true h1
      subst e1
      obtain ⟨es, kk, p, rfl⟩ := ht h0
      exact i_zip S.hK (S.gl h3) (S.blt _ h2) h4 h5 (sE a Γ S h6).pe (sE b Γ S h7).pe
    · cases h
  | .rv a, W, sc, fl, cm, tp, X, tg, e, Γ, S, h, ht => by
    unfold ckI at h
    split at h
    · simp only [Bool.and_eq_true] at h
      obtain ⟨⟨⟨⟨h1, h2⟩, h3⟩, h4⟩, h5⟩ := h
      have e1 := of_decide_eq_true h1
      subst e1
      exact i_rv S.hK (S.gl h3) (S.blt _ h2) h4 (sE a Γ S h5).pe
    · cases h
end
end
end Dee

set_option maxRecDepth 100000
set_option maxHeartbeats 8000000
/-! Dee, part 14: statements. -/
namespace Dee
open PySem PySem.Spec PyProof.Rows L2

/-! ### the look at statements -/
/-- may the stores of a = [..] trade places -/
def swB (sc : Scope) (y : Str) (py : Pos) : Expr → Bool
  | .ListComp _ _ s pos => (sc.names.lookup y == some .local) && py.line == pos.line && !(s.names.any fun (n, k) => n == y && (k == .local || k == .cell))
  | _ => false
def notSD : Expr → Bool
  | .SetComp _ _ _ _ => false
  | .DictComp _ _ _ _ _ => false
  | _ => true
def notTup : Expr → Bool
  | .Tuple _ _ _ => false
  | _ => true
/-- terms that make a list of their own -/
def isF : CE → Bool
  | .lst _ => true
  | .sl _ _ _ => true
  | .rev _ => true
  | .lrev _ => true
  | .blt .list _ => true
  | .blt .sorted _ => true
  | .lc _ _ _ _ _ => true
  | .lc2 _ _ _ _ _ _ _ _ _ => true
  | .ksort _ => true
  | .bin .add _ _ => true
  | .bin .mul _ _ => true
  | _ => false
def ckPut (N : List Str) (sc : Scope) (i : Nat) (x : Str) : Bool := isNm N i x && locB sc x && nmOk x
/-- a call of a def that returns a new list -/
def ckCl (T : Tab) (N : List Str) (f : Nat) (es : CEs) (sc : Scope) (cm : Bool) (v : Expr) : Bool := T.frs.contains f && ckE T N (.call f es) sc cm v
/-- y = [list(r) for r in ..] and a change of one of its lists -/
def ckN (T : Tab) (N : List Str) : CS → Scope → Bool → Stmt → Stmt → Bool
  | .apN i j it w e, sc, cm, s1, s2 => (match s1, s2 with
    | .Assign [.Name y py] (.ListComp elt gs s pos) _, .Expr (.Call (.Attribute (.Subscript (.Name y2 _) ws _) m ap) [v] [] cpos) _ =>
      isNm N i y && swB sc y py (.ListComp elt gs s pos) && ckE T N (.lc [j] (.nm j) it .nil (.blt .list (.cons (.var j) .nil))) sc cm (.ListComp elt gs s pos) &&
      decide (m = Str.ofString "append") && (ap.endLine == cpos.line) && isNm N i y2 && visB sc y2 && nmOk y2 && notStar v && notSl ws && ckE T N w sc cm ws && ckE T N e sc cm v
    | _, _ => false)
  | .stN i j it w kk e, sc, cm, s1, s2 => (match s1, s2 with
    | .Assign [.Name y py] (.ListComp elt gs s pos) _, .Assign [.Subscript (.Subscript (.Name y2 _) ws _) ks _] v _ =>
      isNm N i y && swB sc y py (.ListComp elt gs s pos) && ckE T N (.lc [j] (.nm j) it .nil (.blt .list (.cons (.var j) .nil))) sc cm (.ListComp elt gs s pos) &&
      isNm N i y2 && visB sc y2 && nmOk y2 && notSl ws && notSl ks && ckE T N w sc cm ws && ckE T N kk sc cm ks && ckE T N e sc cm v
    | _, _ => false)
  | _, _, _, _, _ => false
mutual
def ckS (T : Tab) (N : List Str) : CS → Scope → Bool → Stmt → Bool
  | .pass, sc, cm, st => (match st with
    | .Pass _ => true
    | .Expr (.Constant (.str _) _ _) _ => true
    | _ => false)
  | .set i e, sc, cm, st => (match st with
    | .Assign [.Name y _] v _ => ckPut N sc i y && notSD v && ckE T N e sc cm v
    | _ => false)
  | .setO i e, sc, cm, st => (match st with
    | .Assign [.Name y _] v _ => ckPut N sc i y && notSD v && isF e && ckE T N e sc cm v
    | _ => false)
  | .setT is e, sc, cm, st => (match st with
    | .Assign [.Tuple ts k p] v _ => cm && notTup v && ckTg N none sc cm (.tp is) (.Tuple ts k p) && ckE T N e sc cm v
    | _ => false)
  | .par i j a b, sc, cm, st => (match st with
    | .Assign [.Tuple [.Name x px, .Name y py] _ _] (.Tuple [u, v] _ _) _ => cm && isNm N i x && isNm N j y && decide (i ≠ j) && (sc.names.lookup x == some .local) && (sc.names.lookup y == some .local)
      && px.line == py.line && decide (x ≠ y) && notStar u && notStar v && !(foldedForSure 8 u && foldedForSure 8 v) && !(constantsAlone 8 u && constantsAlone 8 v) && ckE T N a sc cm u && ckE T N b sc cm v
    | _ => false)
  | .aug _ _ _, sc, cm, st => false
  | .app i e, sc, cm, st => (match st with
    | .Expr (.Call (.Attribute (.Name x _) m ap) [v] [] pos) _ => decide (m = Str.ofString "append") && (ap.endLine == pos.line) && isNm N i x && visB sc x && nmOk x && notStar v && ckE T N e sc cm v
    | _ => false)
  | .six i kk e, sc, cm, st => (match st with
    | .Assign [.Subscript (.Name x _) s _] v _ => isNm N i x && visB sc x && nmOk x && ckE T N kk sc cm s && notSl s && ckE T N e sc cm v
    | _ => false)
  | .augS i kk e, sc, cm, st => (match st with
    | .AugAssign (.Subscript (.Name x _) s _) .Add v _ => isNm N i x && visB sc x && nmOk x && ckE T N kk sc cm s && notSl s && ckE T N e sc cm v
    | _ => false)
  | .tryR _ _ _ _, sc, cm, st => false
  | .try2 bd c su c2 su2, sc, cm, st => (match st with
    | .Try b [.ExceptHandler (some (.Name x _)) none (s0 :: s1) _, .ExceptHandler (some (.Name y _)) none (t0 :: t1) _] [] [] _ => cm && !T.nb && decide (T.cls[c]? = some x) && glbB sc x && nmOk x && decide (T.cls[c2]? = some y) && glbB sc y && nmOk y && ckSs T N bd sc cm b && ckSs T N su sc false (s0 :: s1) && ckSs T N su2 sc false (t0 :: t1)
    | _ => false)
  | .newD1 i kk e, sc, cm, st => (match st with
    | .Assign [.Name y _] (.Dict [some a] [b] _) _ => ckPut N sc i y && ckE T N kk sc cm a && ckE T N e sc cm b
    | _ => false)
  | .mvD i j, sc, cm, st => (match st with
    | .Assign [.Name y _] (.Name x _) _ => ckPut N sc i y && isNm N j x && visB sc x && nmOk x
    | _ => false)
  | .newD i t, sc, cm, st => (match st with
    | .Assign [.Name y _] (.Dict [] [] _) _ => ckPut N sc i y
    | _ => false)
  | .dput i kk e, sc, cm, st => (match st with
    | .Assign [.Subscript (.Name x _) s _] v _ => isNm N i x && visB sc x && nmOk x && notComp v && ckE T N kk sc cm s && ckE T N e sc cm v
    | _ => false)
  | .ret e, sc, cm, st => (match st with
    | .Return (some v) _ => ckE T N e sc cm v
    | _ => false)
  | .retN, sc, cm, st => (match st with
    | .Return none _ => true
    | _ => false)
  | .retF e, sc, cm, st => (match st with
    | .Return (some v) _ => isF e && ckE T N e sc cm v
    | _ => false)
  | .retO i, sc, cm, st => (match st with
    | .Return (some (.Name x _)) _ => isNm N i x && visB sc x && nmOk x
    | _ => false)
  | .retC f es, sc, cm, st => (match st with
    | .Return (some v) _ => ckCl T N f es sc cm v
    | _ => false)
  | .setC i f es, sc, cm, st => (match st with
    | .Assign [.Name y _] v _ => ckPut N sc i y && notSD v && ckCl T N f es sc cm v
    | _ => false)
  | .appC f es e, sc, cm, st => (match st with
    | .Expr (.Call (.Attribute o m ap) [v] [] pos) _ => decide (m = Str.ofString "append") && (ap.endLine == pos.line) && ckCl T N f es sc cm o && notStar v && ckE T N e sc cm v
    | _ => false)
  | .iff c a b, sc, cm, st => (match st with
    | .If t x y _ => okT c && ckE T N c sc cm t && ckSs T N a sc cm x && ckSs T N b sc cm y
    | _ => false)
  | .iffB _ c a b, sc, cm, st => (match st with
    | .If t x y _ => okT c && ckE T N c sc cm t && ckSs T N a sc cm x && ckSs T N b sc cm y
    | _ => false)
  | .setB _ i e, sc, cm, st => (match st with
    | .Assign [.Name y _] v _ => ckPut N sc i y && notSD v && ckE T N e sc cm v
    | _ => false)
  | .for tg it bd, sc, cm, st => (match st with
    | .For t i b [] _ => cm && ckTg N none sc cm tg t && ckI T N it sc cm tg.isTup i && notSet i && ckSs T N bd sc cm b
    | _ => false)
  | .whl n c bd, sc, cm, st => (match st with
    | .While t b [] _ => okT c && ckE T N c sc cm t && ckSs T N bd sc cm b
    | _ => false)
  | .brk, sc, cm, st => (match st with
    | .Break _ => true
    | _ => false)
  | .cnt, sc, cm, st => (match st with
    | .Continue _ => true
    | _ => false)
  | .raise c, sc, cm, st => (match st with
    | .Raise (some (.Call (.Name x _) [.Constant (.str _) _ _] [] _)) none _ => cm && decide (T.cls[c]? = some x) && glbB sc x && nmOk x
    | _ => false)
  | .try_ bd c none su, sc, cm, st => (match st with
    | .Try b [.ExceptHandler (some (.Name x _)) none (s0 :: s1) _] [] [] _ => cm && !T.nb && decide (T.cls[c]? = some x) && glbB sc x && nmOk x && ckSs T N bd sc cm b && ckSs T N su sc false (s0 :: s1)
    | _ => false)
  | .try_ bd c (some i) su, sc, cm, st => (match st with
    | .Try b [.ExceptHandler (some (.Name x _)) (some y) (s0 :: s1) _] [] [] _ => cm && !T.nb && decide (T.cls[c]? = some x) && glbB sc x && nmOk x && isNm N i y && (sc.names.lookup y == some .local) && ckSs T N bd sc cm b && ckSs T N su sc false (s0 :: s1)
    | _ => false)
  | .expr e, sc, cm, st => (match st with
    | .Expr v _ => notComp v && ckE T N e sc cm v
    | _ => false)
  | .apN _ _ _ _ _, _, _, _ => false
  | .stN _ _ _ _ _ _, _, _, _ => false
def ckSs (T : Tab) (N : List Str) : CSs → Scope → Bool → List Stmt → Bool
  | .nil, sc, cm, sts => (match sts with
    | [] => true
    | _ => false)
  | .cons c cs, sc, cm, sts => (match sts with
    | s :: ss => (ckS T N c sc cm s && ckSs T N cs sc cm ss) || (match ss with
      | s2 :: ss2 => ckN T N c sc cm s s2 && ckSs T N cs sc cm ss2
      | [] => false)
    | _ => false)
  | .frz _ cs, sc, cm, sts => ckSs T N cs sc cm sts
end

/-! ### the context -/
structure SS (T : Tab) (E : Evn) (f : Fm) (W : WX) (k : Nat) (N : List Str) (sc : Scope) (cm : Bool) (X : Cx) : Prop where
  S : Sta T E f W k N sc none cm X
  hkd : sc.kind = .function
  hs : X.stack = X.env :: X.outer
  hf : X.env.frame = some X.env.locals
  po : PassesOwn (model X.prog X.w) X.A X.env X.xe
  kn : ∀ d, E.sub d d = true → ∃ x, T.cls[d]? = some x
  exm : ∀ d c, E.sub d d = true → (∃ x, T.cls[c]? = some x) → PySem.W.exmOne X.K (.ref (f.cl d)) (.ref (f.cl c)) = some (E.sub d c)
  exc : ∀ d, E.sub d d = true → ExcC X.K (f.cl d)

/-! ### how a statement ends -/
def OutOk (f : Fm) (W : WX) (o : Out) (H0 : Hp) (D : Ends) : Prop := match o with
  | .nx Γ => ∀ σ' H0' H', Same H0 H0' → St f Γ H0' σ' H' → D.nx σ' H'
  | .bk Γ => ∀ σ' H0' H', Same H0 H0' → St f Γ H0' σ' H' → D.bk σ' H'
  | .ct Γ => ∀ σ' H0' H', Same H0 H0' → St f Γ H0' σ' H' → D.ct σ' H'
  | .rt d => ∀ v σ' Γ H0' H', Same H0 H0' → St f Γ H0' σ' H' → Dp f.K H0' v d → D.rt v H'
  | .rf ds => ∀ a vs σ' Γ H0' H', Same H0 H0' → St f Γ H0' σ' H' → f.He a = none → H0' a = none → H' a = some (.lst vs) → DpAll f.K H0' vs ds → D.rt (.ref a) H'
  | .xc c Γ => ∀ σ' H0' H', Same H0 H0' → St f Γ H0' σ' H' → W (.ref (f.cl c)) none σ' H'
  | .un => False
def So (f : Fm) (W : WX) (Γ : List Sl) (o : Out) (H0 : Hp) (σ : L2.St) (H : Hp) (D : Ends) : Prop := St f Γ H0 σ H ∧ OutOk f W o H0 D
def tS (f : Fm) (W : WX) (Γ : List Sl) (o : Out) : TS := fun D σ H => ∃ H0, So f W Γ o H0 σ H D

theorem same_trans {A B C : Hp} (a : Same A B) (b : Same B C) : Same A C := fun x u e => b x u (a x u e)
section
variable {f : Fm} {W : WX} {Γ : List Sl} {H0 H : Hp} {σ : L2.St} {Z : Ends}
theorem OutOk.mono {o : Out} {H0' : Hp} (h : OutOk f W o H0 Z) (s : Same H0 H0') : OutOk f W o H0' Z := by
  cases o with
  | nx Γ => exact fun σ' A B z => h σ' A B (same_trans s z)
  | bk Γ => exact fun σ' A B z => h σ' A B (same_trans s z)
  | ct Γ => exact fun σ' A B z => h σ' A B (same_trans s z)
  | rt d => exact fun v σ' Γ A B z => h v σ' Γ A B (same_trans s z)
  | rf ds => exact fun a vs σ' Γ A B z => h a vs σ' Γ A B (same_trans s z)
  | xc c Γ => exact fun σ' A B z => h σ' A B (same_trans s z)
  | un => exact h
theorem So.adv {o : Out} {H0' H' : Hp} (h : So f W Γ o H0 σ H Z) (a : Adv H0 H H0' H') : So f W Γ o H0' σ H' Z := ⟨h.1.adv a, h.2.mono a.sub⟩
theorem So.val {r : R} {k : D → Out} {Q : VK} {E : Ends} (h : So f W Γ (ofR r Γ k) H0 σ H E) (g : ∀ d v H0' H', Adv H0 H H0' H' → Dp f.K H0' v d → So f W Γ (k d) H0' σ H' E → Q v H') : Va f W Γ r H0 σ H Q := by
  refine ⟨h.1, ?_⟩
  obtain ⟨st, m⟩ := h
  cases r with
  | error e => cases e with
    | none => exact m
    | some c => exact fun A B a => m σ A B a.sub (st.adv a)
  | ok d => exact fun v A B a dp => g d v A B a dp ⟨st.adv a, OutOk.mono (o := k d) m a.sub⟩
theorem So.lst {r : Rs} {k : List D → Out} {Q : VK} {E : Ends} (h : So f W Γ (ofR r Γ k) H0 σ H E)
    (g : ∀ ds a vs H0' H', Adv H0 H H0' H' → H a = none → H0' a = none → H' a = some (.lst vs) → DpAll f.K H0' vs ds → So f W Γ (k ds) H0' σ H' E → Q (.ref a) H') : Vf f W Γ r H0 σ H Q := by
  refine ⟨h.1, ?_⟩
  obtain ⟨st, m⟩ := h
  cases r with
  | error e => cases e with
    | none => exact m
    | some c => exact fun A B a => m σ A B a.sub (st.adv a)
  | ok ds => exact fun a vs A B adv n n0 e dp => g ds a vs A B adv n n0 e dp ⟨st.adv adv, OutOk.mono (o := k ds) m adv.sub⟩
theorem So.tst {r : R} {k : D → Out} {Q : Bool → Hp → Prop} {E : Ends} (h : So f W Γ (ofR r Γ k) H0 σ H E) (no : ∀ d, (∀ b, d ≠ .bool b) → k d = .un)
    (g : ∀ b H0' H', Adv H0 H H0' H' → So f W Γ (k (.bool b)) H0' σ H' E → Q b H') : Vb f W Γ r H0 σ H Q := by
  refine ⟨h.1, ?_⟩
  obtain ⟨st, m⟩ := h
  cases r with
  | error e => cases e with
    | none => exact m
    | some c => exact fun A B a => m σ A B a.sub (st.adv a)
  | ok d =>
    have bad : (∀ b, d ≠ .bool b) → False := fun z => by
      have m' : OutOk f W (k d) H0 E := m
      rw [no d z] at m'
      exact m'
    cases d with
    | bool b => exact fun A B a => g b A B a ⟨st.adv a, OutOk.mono (o := k (.bool b)) m a.sub⟩
    | _ => exact bad fun b => nofun
theorem frz1_ok (st : St f Γ H0 σ H) (i : Nat) : ∃ A0, Same H0 A0 ∧ St f (frz1 Γ i) A0 σ H := by
  unfold frz1
  cases e : Γ[i]? with
  | none => exact ⟨H0, same_refl _, st⟩
  | some s =>
    cases s with
    | own ds => exact st.frz e
    | _ => exact ⟨H0, same_refl _, st⟩
theorem frzs_ok : ∀ (is : List Nat) {Γ : List Sl} {H0 : Hp}, St f Γ H0 σ H → ∃ A0, Same H0 A0 ∧ St f (frzs is Γ) A0 σ H
  | [], Γ, H0, st => ⟨H0, same_refl _, st⟩
  | i :: is, Γ, H0, st => by
    obtain ⟨A0, s, st1⟩ := frz1_ok st i
    obtain ⟨B0, s2, st2⟩ := frzs_ok is st1
    exact ⟨B0, same_trans s s2, st2⟩
/-- what was lent comes back -/
theorem back_adv {A0 H0' H' : Hp} (st : St f Γ H0 σ H) (a : Adv A0 H H0' H') : Adv H0 H H0 H' := ⟨same_refl _, a.all, st.sub.trans a.all, fun _ _ _ => rfl⟩
/-- a test while some lists are lent -/
theorem So.tstB {is : List Nat} {r : R} {k : D → Out} {Q : Bool → Hp → Prop} {E : Ends} (h : So f W Γ (ofR r Γ k) H0 σ H E) (no : ∀ d, (∀ b, d ≠ .bool b) → k d = .un)
    (g : ∀ b H', So f W Γ (k (.bool b)) H0 σ H' E → Q b H') : ∃ A0, Vb f W (frzs is Γ) r A0 σ H Q := by
  obtain ⟨A0, s, st1⟩ := frzs_ok is h.1
  refine ⟨A0, st1, ?_⟩
  obtain ⟨st, m⟩ := h
  cases r with
  | error e => cases e with
    | none => exact m
    | some c => exact fun A B a => m σ H0 B (same_refl _) (st.adv (back_adv st a))
  | ok d =>
    have bad : (∀ b, d ≠ .bool b) → False := fun z => by
      have m' : OutOk f W (k d) H0 E := m
      rw [no d z] at m'
      exact m'
    cases d with
    | bool b => exact fun A B a => g b B ⟨st.adv (back_adv st a), m⟩
    | _ => exact bad fun b => nofun
theorem scal_dp {K : PySem.W.Frag} {A B : Hp} {v : V} {d : D} (hs : scal d = true) (h : Dp K A v d) : Dp K B v d := by
  cases h <;> first | (cases hs; done) | constructor
/-- .. a value -/
theorem So.valB {is : List Nat} {r : R} {k : D → Out} {Q : VK} {E : Ends} (h : So f W Γ (ofR r Γ fun d => if scal d = true then k d else .un) H0 σ H E)
    (g : ∀ d v H', Adv H0 H H0 H' → Dp f.K H0 v d → So f W Γ (k d) H0 σ H' E → Q v H') : ∃ A0, Va f W (frzs is Γ) r A0 σ H Q := by
  obtain ⟨A0, s, st1⟩ := frzs_ok is h.1
  refine ⟨A0, st1, ?_⟩
  obtain ⟨st, m⟩ := h
  cases r with
  | error e => cases e with
    | none => exact m
    | some c => exact fun A B a => m σ H0 B (same_refl _) (st.adv (back_adv st a))
  | ok d =>
    have m : OutOk f W (if scal d = true then k d else .un) H0 E := m
    by_cases hs : scal d = true
    · rw [if_pos hs] at m
      exact fun v A B a dp => g d v B (back_adv st a) (scal_dp hs dp) ⟨st.adv (back_adv st a), m⟩
    · rw [if_neg hs] at m
      exact m.elim
theorem So.itr {r : Rs} {k : List D → Out} {Q : It → Hp → Prop} {E : Ends} (h : So f W Γ (ofR r Γ k) H0 σ H E)
    (g : ∀ ds J H0' H', Adv H0 H H0' H' → ItOk f.K J ds H0' H' → So f W Γ (k ds) H0' σ H' E → Q J H') : Vi f W Γ r H0 σ H Q := by
  refine ⟨h.1, ?_⟩
  obtain ⟨st, m⟩ := h
  cases r with
  | error e => cases e with
    | none => exact m
    | some c => exact fun A B a => m σ A B a.sub (st.adv a)
  | ok ds => exact fun J A B a j => g ds J A B a j ⟨st.adv a, OutOk.mono (o := k ds) m a.sub⟩
/-- a value; a list is a new one -/
theorem So.vc {r : R} {k : D → Out} {Q : VK} {E : Ends} (h : So f W Γ (ofR r Γ k) H0 σ H E) (g : ∀ d v H0' H', (∀ ds, d ≠ .list ds) → Adv H0 H H0' H' → Dp f.K H0' v d → So f W Γ (k d) H0' σ H' E → Q v H')
    (g2 : ∀ ds a vs H0' H', Adv H0 H H0' H' → H a = none → H0' a = none → H' a = some (.lst vs) → DpAll f.K H0' vs ds → So f W Γ (k (.list ds)) H0' σ H' E → Q (.ref a) H') : Vc f W Γ r H0 σ H Q := by
  refine ⟨h.1, ?_⟩
  obtain ⟨st, m⟩ := h
  cases r with
  | error e => cases e with
    | none => exact m
    | some c => exact fun A B a => m σ A B a.sub (st.adv a)
  | ok d =>
    cases d with
    | list ds => exact fun a vs A B adv n n0 e dp => g2 ds a vs A B adv n n0 e dp ⟨st.adv adv, OutOk.mono (o := k (.list ds)) m adv.sub⟩
    | none => exact fun v A B a dp => g (.none) v A B (fun _ z => nomatch z) a dp ⟨st.adv a, OutOk.mono (o := k _) m a.sub⟩
    | bool b => exact fun v A B a dp => g (.bool b) v A B (fun _ z => nomatch z) a dp ⟨st.adv a, OutOk.mono (o := k _) m a.sub⟩
    | int b => exact fun v A B a dp => g (.int b) v A B (fun _ z => nomatch z) a dp ⟨st.adv a, OutOk.mono (o := k _) m a.sub⟩
    | str b => exact fun v A B a dp => g (.str b) v A B (fun _ z => nomatch z) a dp ⟨st.adv a, OutOk.mono (o := k _) m a.sub⟩
    | tuple b => exact fun v A B a dp => g (.tuple b) v A B (fun _ z => nomatch z) a dp ⟨st.adv a, OutOk.mono (o := k _) m a.sub⟩
    | dict b => exact fun v A B a dp => g (.dict b) v A B (fun _ z => nomatch z) a dp ⟨st.adv a, OutOk.mono (o := k _) m a.sub⟩
theorem So.nx {Γ' : List Sl} {H' : Hp} {σ' : L2.St} {E : Ends} {H0' : Hp} (h : So f W Γ (.nx Γ') H0 σ H E) (s : Same H0 H0') (st : St f Γ' H0' σ' H') : E.nx σ' H' := h.2 σ' H0' H' s st
end
end Dee

set_option maxRecDepth 100000
set_option maxHeartbeats 8000000
/-! Dee, part 15: the rules of statements. -/
namespace Dee
open PySem PySem.Spec PyProof.Rows L2

theorem sw_val {elt : Expr} {gs : List Comprehension} {s : Scope} {pos py : Pos} {y : Str} {l : Nat} {env : Env} (hk : env.scope.kind = .function) :
    swapsWith (.ListComp elt gs s pos) (some (.Name y py)) l env = pure (swB env.scope y py (.ListComp elt gs s pos)) := by
  have hb : env.blockKind = .function := by unfold Env.blockKind; rw [hk]; rfl
  unfold swapsWith
  simp only [hb]
  rfl
theorem sw_no {v : Expr} {py : Pos} {y : Str} {l : Nat} {env : Env} (h1 : notSD v = true) (h2 : swB env.scope y py v = false) (hk : env.scope.kind = .function) : swapsWith v (some (.Name y py)) l env = pure false := by
  cases v <;> first | rfl | (cases h1; done) | skip
  rw [sw_val hk, h2]
theorem sws_tup {v : Expr} {ts : List Expr} {k : Nat} {p : Pos} {l : Nat} {env : Env} : swapsWithSole [.Tuple ts k p] v l env = pure false := by
  cases v <;> rfl
theorem sws_sub {v o i : Expr} {p : Pos} {l : Nat} {env : Env} : swapsWithSole [.Subscript o i p] v l env = pure false := by
  cases v <;> rfl
theorem sst_tup {v : Expr} {ts : List Expr} {k : Nat} {p : Pos} {env : Env} (h : notTup v = true) : swappedStores [.Tuple ts k p] v env = pure none := by
  cases v <;> first | rfl | (cases h; done)
theorem sst_sub {v o i : Expr} {p : Pos} {env : Env} : swappedStores [.Subscript o i p] v env = pure none := by
  cases v <;> rfl

section
variable {T : Tab} {E : Evn} {f : Fm} {W : WX} {k : Nat} {N : List Str} {sc : Scope} {cm : Bool} {X : Cx}
theorem SS.kind (S : SS T E f W k N sc cm X) : X.env.scope.kind = .function := by rw [S.S.hsc]; exact S.hkd
theorem put_of {i : Nat} {x : Str} (h : ckPut N sc i x = true) : N[i]? = some x ∧ Loc sc x ∧ nmOk x = true := by
  unfold ckPut at h
  simp only [Bool.and_eq_true] at h
  exact ⟨nm_at h.1.1, loc_of h.1.2, h.2⟩
/-- terms that make a list: the list is new -/
theorem sF (c : CE) (Γ : List Sl) {e : Expr} {fl : Option Scope} (S : Sta T E f W k N sc fl cm X) (hF : isF c = true) (h : ckE T N c sc cm e = true) : PE X e (tF f W Γ (evF E c Γ)) := by
  cases c <;> first | (cases hF; done) | skip
  case lst es =>
    unfold ckE at h
    split at h
    · exact f_lst (sEs es Γ S h).1
    · cases h
  case sl a lo hi =>
    unfold ckE at h
    split at h
    · simp only [Bool.and_eq_true] at h
      exact f_sl S.hK (sE a Γ S h.1.1).pe (sO lo Γ S h.1.2) (sO hi Γ S h.2)
    · cases h
  case rev a =>
    unfold ckE at h
    split at h
    · exact f_rev S.hK (sE a Γ S h).pe
    · cases h
  case lrev a =>
    unfold ckE at h
    split at h
    · simp only [Bool.and_eq_true] at h
      obtain ⟨⟨⟨⟨⟨⟨⟨⟨h1, h2⟩, h3⟩, h4⟩, h5⟩, h6⟩, h7⟩, h8⟩, h9⟩ := h
      have e2 := of_decide_eq_true h2
      have e3 := of_decide_eq_true h3
      subst e2 e3 h1
      exact f_lrev S.hK (S.hcm rfl).1 (S.gl h6) (S.blt _ h4) (S.gl h7) (S.blt _ h5) (star_cons h8 [] X.env) (sE a Γ S h9).pe
    · cases h
  case blt o es =>
    unfold ckE at h
    split at h
    · rename_i x p a r q
      rw [Bool.and_eq_true] at h
      obtain ⟨h0, h⟩ := h
      simp only [Bool.and_eq_true] at h0
      obtain ⟨⟨hg, hn⟩, _⟩ := h0
      cases o <;> first | (cases hF; done) | skip
      · have h : (decide (x = Str.ofString "list") && T.blt.contains x && decide (r.length + 1 = Bl.ar .list) && ckEs T N es sc cm (a :: r)) = true := h
        simp only [Bool.and_eq_true] at h
        obtain ⟨⟨⟨h2, h3⟩, _⟩, h5⟩ := h
        obtain ⟨i1, i2⟩ := sEs es Γ S h5
        have hx := of_decide_eq_true h2
        subst hx
        exact f_ty S.hK cr_listD (bltF_no _) (S.gl hg) (S.blt _ h3) (boot_ty .list _ rfl) hn i2 i1
      · have h : ((!Bl.calm .sorted || cm) && decide (x = Str.ofString "sorted") && T.blt.contains x && decide (r.length + 1 = Bl.ar .sorted) && ckEs T N es sc cm (a :: r)) = true := h
        simp only [Bool.and_eq_true] at h
        obtain ⟨⟨⟨⟨h1, h2⟩, h3⟩, _⟩, h5⟩ := h
        obtain ⟨i1, i2⟩ := sEs es Γ S h5
        have hx := of_decide_eq_true h2
        subst hx
        exact f_fn S.hK cr_sortedD (bltF_no _) (S.gl hg) (S.blt _ h3) (by decide +kernel) hn i2 i1
    · cases h
  case lc vs tg it co el =>
    unfold ckE at h
    split at h
    · simp only [Bool.and_eq_true] at h
      obtain ⟨⟨⟨⟨⟨⟨⟨h1, h2⟩, h3⟩, h4⟩, h5⟩, h6⟩, h7⟩, h8⟩ := h
      subst h1
      exact f_lc S h2 h3 h4 h6 (sI it Γ S h5 fun ht => tg_tup h3 ht) (fun X' Γ' S' => sC co Γ' S' h7) fun X' Γ' S' => (sE el Γ' S' h8).pe
    · cases h
  case lc2 vs vs1 tg it co tg1 it1 co1 el =>
    unfold ckE at h
    split at h
    · simp only [Bool.and_eq_true] at h
      obtain ⟨⟨⟨⟨⟨⟨⟨⟨⟨⟨⟨⟨⟨h1, h2⟩, h0⟩, h3⟩, h4⟩, h5⟩, h6⟩, h7⟩, h8⟩, h9⟩, h10⟩, h11⟩, h12⟩, h13⟩ := h
      subst h1
      exact f_lc2 S h2 h3 h0 h4 h6 h8 h9 h11 (sI it Γ S h5 fun ht => tg_tup h3 ht) (fun X' Γ' S' => sC co Γ' S' h7) (fun X' Γ' S' => sI it1 Γ' S' h10 fun ht => tg_tup h8 ht) (fun X' Γ' S' => sC co1 Γ' S' h12)
        fun X' Γ' S' => (sE el Γ' S' h13).pe
    · cases h
  case ksort i =>
    unfold ckE at h
    split at h
    · simp only [Bool.and_eq_true] at h
      obtain ⟨⟨⟨⟨⟨⟨h0, h1⟩, h2⟩, h3⟩, h4⟩, h5⟩, h6⟩ := h
      have e1 := of_decide_eq_true h1
      subst e1 h0
      exact f_ksort (S.hcm rfl).1 (S.var h4 h5 h6) (S.gl h3) (S.blt _ h2)
    · cases h
  case bin o a b =>
    unfold ckE at h
    split at h
    · simp only [Bool.and_eq_true] at h
      obtain ⟨⟨h1, h2⟩, h3⟩ := h
      have e1 := of_decide_eq_true h1
      subst e1
      cases o <;> first | (cases hF; done) | skip
      · exact f_two catF_no op_catF S.hK (sE a Γ S h2).pe (sE b Γ S h3).pe
      · exact f_two repF_no op_repF S.hK (sE a Γ S h2).pe (sE b Γ S h3).pe
    · cases h
/-- a call whose list is a new one -/
theorem sC2 (g : Nat) (es : CEs) (Γ : List Sl) {e : Expr} {fl : Option Scope} (S : Sta T E f W k N sc fl cm X) (h : ckCl T N g es sc cm e = true) :
    PE X e (tC2 f W Γ ((evs E es Γ).bind fun ds => E.F g ds)) ∧ ∀ m env, attributeBase e m env (eval e env) = eval e env := by
  unfold ckCl at h
  rw [Bool.and_eq_true] at h
  obtain ⟨h0, h⟩ := h
  unfold ckE at h
  split at h
  · simp only [Bool.and_eq_true] at h
    obtain ⟨⟨⟨⟨⟨h1, h6⟩, h2⟩, h3⟩, h4⟩, h5⟩ := h
    subst h1
    obtain ⟨i1, i2⟩ := sEs es Γ S h5
    exact ⟨c_call S (of_decide_eq_true h2) h6 h0 h3 h4 i2 i1, fun m env => rfl⟩
  · cases h

/-- a = [.. for ..] whose stores trade places -/
theorem a_lc (c : CE) (Γ : List Sl) {i : Nat} {y : Str} {py spos pos : Pos} {elt : Expr} {gs : List Comprehension} {s : Scope} (S : SS T E f W k N sc cm X) (hi : N[i]? = some y) (hsw : swB sc y py (.ListComp elt gs s pos) = true) (h : ckE T N c sc cm (.ListComp elt gs s pos) = true) :
    PS X (.Assign [.Name y py] (.ListComp elt gs s pos) spos) (tAsg (tF f W Γ (evF E c Γ)) (gName i)) ∧ ev E c Γ = (evF E c Γ).map .list := by
  have hyl : X.env.scope.names.lookup y = some .local := by
    unfold swB at hsw
    simp only [Bool.and_eq_true] at hsw
    rw [S.S.hsc]
    exact eq_of_beq hsw.1.1
  have hw : swapsWith (.ListComp elt gs s pos) (some (.Name y py)) spos.line X.env = pure true := by
    rw [sw_val S.kind, S.S.hsc, hsw]
  have hN : X.N[i]? = some y := by rw [S.S.hN]; exact hi
  have S0 := S.S
  cases c <;> first | (unfold ckE at h; cases h; done) | skip
  case lc vs tg it co el =>
    unfold ckE at h
    split at h
    · rename_i x t i' ifs s' p' q
      cases q
      simp only [Bool.and_eq_true] at h
      obtain ⟨⟨⟨⟨⟨⟨⟨h1, h2⟩, h3⟩, h4⟩, h5⟩, h6⟩, h7⟩, h8⟩ := h
      subst h1
      refine ⟨?_, rfl⟩
      have hsub' : ∀ j ∈ tg.all, j ∈ vs := fun j hj => by simpa using List.all_eq_true.mp h4 j hj
      refine (ps_setLc (own := ownOf N vs) (g := gT f tg) (tt := tCo f fun Γ => evC E co Γ) (te := tEl f fun Γ => ev E el Γ) (S0.hcm rfl).1 (by rw [S0.hN]; exact S0.nd) hN hyl hw (sI it Γ S0 h5 fun ht => tg_tup h3 ht) (by rw [S0.hN, S0.hsc]; exact blkOk_by h2)
        (fun s1 H C cl fp => g_of S0.blk h3) (fun s1 H C cl fp => PTs.any fun Γ' => sC co Γ' S0.blk h7) (fun s1 H C cl fp => PE.any fun Γ' => (sE el Γ' S0.blk h8).pe) (fold_of h6 X.env)).imp fun D σ H ⟨H0, q⟩ => ?_
      show tLc _ _ _ _ _ σ H _
      rw [own_map]
      exact lc_read hsub' q
    · cases h
  case lc2 vs vs1 tg it co tg1 it1 co1 el =>
    unfold ckE at h
    split at h
    · rename_i x t i' ifs t1 i1 ifs1 s' p' q
      cases q
      simp only [Bool.and_eq_true] at h
      obtain ⟨⟨⟨⟨⟨⟨⟨⟨⟨⟨⟨⟨⟨h1, h2⟩, h0⟩, h3⟩, h4⟩, h5⟩, h6⟩, h7⟩, h8⟩, h9⟩, h10⟩, h11⟩, h12⟩, h13⟩ := h
      subst h1
      refine ⟨?_, rfl⟩
      have hsub' : ∀ j ∈ tg.all, j ∈ vs := fun j hj => by simpa using List.all_eq_true.mp h4 j hj
      have hsub1' : ∀ j ∈ tg1.all, j ∈ vs1 := fun j hj => by simpa using List.all_eq_true.mp h9 j hj
      have hv1' : ∀ j ∈ vs1, j ∈ (ownOf N vs).map (·.2) := fun j hj => by rw [own_map]; simpa using List.all_eq_true.mp h0 j hj
      refine (ps_setLc2 (own := ownOf N vs) (vs1 := vs1) (g := gT f tg) (g1 := gT f tg1) (tt := tCo f fun Γ => evC E co Γ) (tt1 := tCo f fun Γ => evC E co1 Γ) (wi1 := tI1 f fun Γ => evI E it1 Γ) (te := tEl f fun Γ => ev E el Γ) (S0.hcm rfl).1 (by rw [S0.hN]; exact S0.nd) hN hyl hw
        (sI it Γ S0 h5 fun ht => tg_tup h3 ht) (by rw [S0.hN, S0.hsc]; exact blkOk_by h2) hv1'
        (fun s1 H C cl fp => g_of S0.blk h3) (fun s1 H C cl fp => PTs.any fun Γ' => sC co Γ' S0.blk h7) (fun s1 H C cl fp => PI.any fun Γ' => sI it1 Γ' S0.blk h10 fun ht => tg_tup h8 ht) (fun s1 H C cl fp => g_of S0.blk h8) (fun s1 H C cl fp => PTs.any fun Γ' => sC co1 Γ' S0.blk h12)
        (fun s1 H C cl fp => PE.any fun Γ' => (sE el Γ' S0.blk h13).pe) (fold_of h6 X.env) (fun env => fold_of h11 env)).imp fun D σ H ⟨H0, q⟩ => ?_
      show tLc2 _ _ _ _ _ _ _ _ _ σ H _
      rw [own_map]
      exact lc2_read hsub' hsub1' q
    · cases h
/-- a = a list of its own -/
theorem a_F (c : CE) (Γ : List Sl) {i : Nat} {y : Str} {py spos : Pos} {v : Expr} (S : SS T E f W k N sc cm X) (hp : ckPut N sc i y = true) (hF : isF c = true) (h1 : notSD v = true) (h : ckE T N c sc cm v = true) :
    PS X (.Assign [.Name y py] v spos) (tAsg (tF f W Γ (evF E c Γ)) (gName i)) := by
  obtain ⟨p1, p2, p3⟩ := put_of hp
  cases hsw : swB sc y py v with
  | true =>
    cases v <;> first | (cases hsw; done) | skip
    exact (a_lc c Γ S p1 hsw h).1
  | false =>
    exact ps_set (by rw [S.S.hN]; exact S.S.nd) (by rw [S.S.hN]; exact p1) (by rw [S.S.hsc]; exact p2) (sF c Γ S.S hF h) (sw_no h1 (by rw [S.S.hsc]; exact hsw) S.kind) (.inl (S.S.fn y rfl))
/-- a = a call whose list is a new one -/
theorem a_C (g : Nat) (es : CEs) (Γ : List Sl) {i : Nat} {y : Str} {py spos : Pos} {v : Expr} (S : SS T E f W k N sc cm X) (hp : ckPut N sc i y = true) (h : ckCl T N g es sc cm v = true) :
    PS X (.Assign [.Name y py] v spos) (tAsg (tC2 f W Γ ((evs E es Γ).bind fun ds => E.F g ds)) (gName i)) := by
  obtain ⟨p1, p2, p3⟩ := put_of hp
  have hc : ∀ t l env, swapsWith v t l env = pure false := by
    unfold ckCl at h
    rw [Bool.and_eq_true] at h
    obtain ⟨_, h⟩ := h
    unfold ckE at h
    split at h
    · exact swaps_of rfl
    · cases h
  exact ps_set (by rw [S.S.hN]; exact S.S.nd) (by rw [S.S.hN]; exact p1) (by rw [S.S.hsc]; exact p2) (sC2 g es Γ S.S h).1 (hc _ _ _) (.inl (S.S.fn y rfl))
/-- a = a value -/
theorem a_V (c : CE) (Γ : List Sl) {i : Nat} {y : Str} {py spos : Pos} {v : Expr} (S : SS T E f W k N sc cm X) (hp : ckPut N sc i y = true) (h1 : notSD v = true) (h : ckE T N c sc cm v = true) :
    PS X (.Assign [.Name y py] v spos) (tAsg (tV f W Γ (ev E c Γ)) (gName i)) := by
  obtain ⟨p1, p2, p3⟩ := put_of hp
  cases hsw : swB sc y py v with
  | true =>
    cases v <;> first | (cases hsw; done) | skip
    obtain ⟨a, b⟩ := a_lc (spos := spos) c Γ S p1 hsw h
    rw [b]
    exact a.imp fun D σ H ⟨H0, q⟩ => ⟨H0, Vf.of q⟩
  | false =>
    exact ps_set (by rw [S.S.hN]; exact S.S.nd) (by rw [S.S.hN]; exact p1) (by rw [S.S.hsc]; exact p2) (sE c Γ S.S h).pe (sw_no h1 (by rw [S.S.hsc]; exact hsw) S.kind) (.inl (S.S.fn y rfl))
end
end Dee

set_option maxRecDepth 100000
set_option maxHeartbeats 8000000
/-! Dee, part 16: every statement that the look lets through does what the small language says. -/
namespace Dee
open PySem PySem.Spec PyProof.Rows L2

/-! ### errors as names -/
def Fm.wx (f : Fm) (a : Addr) (d : Nat) : Fm := { f with xa := fun b c => f.xa b c ∨ (b = a ∧ c = d) }
section
variable {f : Fm} {Γ : List Sl} {H0 H : Hp} {σ : L2.St}
theorem St.wx (x : St f Γ H0 σ H) (a : Addr) (d : Nat) : St (f.wx a d) Γ H0 σ H where
  ent := x.ent
  sub := x.sub
  new := x.new
  old := x.old
  len := x.len
  sl := fun i s e => by
    obtain ⟨o, eo, h⟩ := x.sl i s e
    refine ⟨o, eo, ?_⟩
    cases s with
    | exc c =>
      obtain ⟨b, e1, e2⟩ := h
      exact ⟨b, e1, .inl e2⟩
    | _ => exact h
  ap := x.ap
theorem owns_clr {i : Nat} {a : Addr} (h : Owns (clr Γ) σ i a) : Owns Γ σ i a := by
  obtain ⟨⟨s, e, w⟩, q⟩ := h
  unfold clr at e
  rw [List.getElem?_map] at e
  cases g : Γ[i]? with
  | none => rw [g] at e; cases e
  | some t =>
    rw [g] at e
    cases e
    refine ⟨⟨t, g, ?_⟩, q⟩
    cases t <;> first | exact w | rfl
theorem St.clr {a : Addr} {d : Nat} (x : St (f.wx a d) Γ H0 σ H) : St f (clr Γ) H0 σ H where
  ent := x.ent
  sub := x.sub
  new := x.new
  old := x.old
  len := by unfold Dee.clr; rw [List.length_map]; exact x.len
  sl := fun i s e => by
    unfold Dee.clr at e
    rw [List.getElem?_map] at e
    cases g : Γ[i]? with
    | none => rw [g] at e; cases e
    | some t =>
      rw [g] at e
      cases e
      obtain ⟨o, eo, h⟩ := x.sl i t g
      refine ⟨o, eo, ?_⟩
      cases t <;> first | exact h | trivial
  ap := fun i j b n h1 h2 => x.ap i j b n (owns_clr h1) (owns_clr h2)
def unS : Option Nat → L2.St → L2.St
  | none, σ => σ
  | some i, σ => σ.set i none
/-- out of the suite again -/
theorem St.unx {a : Addr} {d : Nat} (x : St (f.wx a d) Γ H0 σ H) (i : Option Nat) : St f (unx i Γ) H0 (unS i σ) H := by
  cases i with
  | none => exact x.clr
  | some i => exact x.clr.drop i none
end

section
variable {X : Cx}
theorem isE_of {a C : Addr} {ob : Obj} {pn : List (Addr × Obj)} (c : ExcC X.K C) (hz : Zc (.ref C) none ob) (hf : ∃ vs, ob.data = .fields vs) : IsE (X.suite a ((a, ob) :: pn)) C a := by
  intro pins s σ H xs us Q I rv h
  have here : PySem.W.InstAt s.heap a ob C none := by
    have g := (I.pin (a, ob) (List.mem_append_left _ List.mem_cons_self)).1
    obtain ⟨vs, hv⟩ := hf
    obtain ⟨oc, od, oda, osl⟩ := ob
    obtain ⟨z1, z2⟩ := hz
    cases z1
    cases z2
    cases hv
    exact ⟨g, rfl, rfl, trivial⟩
  have Z := PySem.W.handS_kitx_exc (x := a) (ox := ob) c.hg c.hk c.hs c.hd c.ha c.hn c.ht c.hm
  rcases h with ⟨cv, u, b, rfl, k, e, q⟩ | ⟨tp, cs, ws, b, rfl, hT, k, e, q⟩
  · obtain ⟨u1, u2, rfl, r1, r2⟩ := vals2 rv
    cases (show u1 = Value.ref a from r1)
    have e2 := k.eq r2
    subst e2
    exact PySem.W.kia_one Z I.kIn here e (fun z => nomatch z) fun tk => ⟨.bl b, H, I.tok tk, rfl, q⟩
  · obtain ⟨u1, u2, rfl, r1, r2⟩ := vals2 rv
    cases (show u1 = Value.ref a from r1)
    cases (show u2 = Value.ref tp from r2)
    obtain ⟨_, its, rt, o, h1, h2, n, h3⟩ := (show ObjOk X.prog X.w H s.heap tp (.tup cs) from I.hok tp _ hT)
    have e3 := ClsV.all k rt
    subst e3
    obtain ⟨oc, od, dt, sl⟩ := o
    simp only at h2 h3
    subst h2 h3
    exact PySem.W.kia_tup Z I.kIn here h1 e (fun z => nomatch z) fun tk => ⟨.bl b, H, I.tok tk, rfl, q⟩
end

section
variable {T : Tab} {E : Evn} {f : Fm} {W : WX} {k : Nat} {N : List Str} {sc : Scope} {cm : Bool} {X : Cx}
theorem SS.tr (S : SS T E f W k N sc cm X) {W' : WX} {pn : List (Addr × Obj)} {xe : Value → Shared → Prop} (tk : TkB T.nb (X.tr pn xe) W') (po : PassesOwn (model X.prog X.w) X.A X.env xe) (hc : cm = true) : SS T E f W' k N sc cm (X.tr pn xe) where
  S := { hK := S.S.hK, hN := S.S.hN, nd := S.S.nd, hsc := S.S.hsc, fn := S.S.fn, un := S.S.un, gd := S.S.gd, dg := S.S.dg, hcm := S.S.hcm, tk := tk, fns := S.S.fns, con := S.S.con, blt := S.S.blt, gcd := S.S.gcd,
         xis := fun a c h => absurd h (S.S.xno hc a c), kit := S.S.kit, cls := fun c x h => ⟨(S.S.cls c x h).g, (S.S.cls c x h).k, (S.S.cls c x h).ex, (S.S.cls c x h).r⟩, xat := S.S.xat, xno := S.S.xno }
  hkd := S.hkd
  hs := S.hs
  hf := S.hf
  po := po
  kn := S.kn
  exm := S.exm
  exc := S.exc
theorem SS.suite (S : SS T E f W k N sc cm X) (hc : cm = true) {a : Addr} {ob : Obj} {d : Nat} {pn : List (Addr × Obj)} (hd : E.sub d d = true) (hz : Zc (.ref (f.cl d)) none ob) (hf : ∃ vs, ob.data = .fields vs) :
    SS T E (f.wx a d) (fun _ _ _ _ => False) k N sc false (X.suite a ((a, ob) :: pn)) where
  S := { hK := S.S.hK, hN := S.S.hN, nd := S.S.nd, hsc := S.S.hsc, fn := S.S.fn, un := S.S.un, gd := S.S.gd, dg := S.S.dg, hcm := fun z => absurd z Bool.false_ne_true, tk := takes0B, fns := S.S.fns, con := S.S.con, blt := S.S.blt, gcd := S.S.gcd,
         xis := fun b c h => by
           rcases h with h | ⟨rfl, rfl⟩
           · exact absurd h (S.S.xno hc b c)
           · exact isE_of (by rw [S.S.hK]; have := S.exc c hd; rw [S.S.hK] at this; exact this) hz hf
         kit := S.S.kit, cls := fun c x h => ⟨(S.S.cls c x h).g, (S.S.cls c x h).k, (S.S.cls c x h).ex, (S.S.cls c x h).r⟩,
         xat := fun b c h => by
           rcases h with h | ⟨rfl, rfl⟩
           · exact S.S.xat b c h
           · exact S.kn _ hd
         xno := fun z => absurd z Bool.false_ne_true }
  hkd := S.hkd
  hs := S.hs
  hf := S.hf
  po := PassesOwn.never
  kn := S.kn
  exm := S.exm
  exc := S.exc
end

/-! ### the loops -/
section
variable {f : Fm} {W : WX} {Γ : List Sl}
theorem forL_step {as : D → List Sl → Option (List Sl)} {bd : List Sl → Out} {d : D} {ds : List D} {Γ Γ1 : List Sl} {H0 : Hp} {Z : Ends} (h : OutOk f W (forL as bd (d :: ds) Γ) H0 Z) (e : as d Γ = some Γ1) :
    OutOk f W (bd Γ1) H0 { Z with nx := fun σ' H' => ∃ Γ2 A0, Same H0 A0 ∧ St f Γ2 A0 σ' H' ∧ OutOk f W (forL as bd ds Γ2) A0 Z, ct := fun σ' H' => ∃ Γ2 A0, Same H0 A0 ∧ St f Γ2 A0 σ' H' ∧ OutOk f W (forL as bd ds Γ2) A0 Z, bk := Z.nx } := by
  unfold forL at h
  rw [e] at h
  dsimp only at h
  cases g : bd Γ1 with
  | nx Γ2 =>
    rw [g] at h
    exact fun σ' A0 A s st => ⟨Γ2, A0, s, st, OutOk.mono (o := forL as bd ds Γ2) h s⟩
  | ct Γ2 =>
    rw [g] at h
    exact fun σ' A0 A s st => ⟨Γ2, A0, s, st, OutOk.mono (o := forL as bd ds Γ2) h s⟩
  | bk Γ2 =>
    rw [g] at h
    exact h
  | rt d =>
    rw [g] at h
    exact h
  | rf d =>
    rw [g] at h
    exact h
  | xc c Γ2 =>
    rw [g] at h
    exact h
  | un =>
    rw [g] at h
    exact h
theorem forL_as {as : D → List Sl → Option (List Sl)} {bd : List Sl → Out} {d : D} {ds : List D} {Γ : List Sl} {H0 : Hp} {Z : Ends} (h : OutOk f W (forL as bd (d :: ds) Γ) H0 Z) : ∃ Γ1, as d Γ = some Γ1 := by
  cases e : as d Γ with
  | some Γ1 => exact ⟨Γ1, rfl⟩
  | none =>
    unfold forL at h
    rw [e] at h
    exact h.elim
theorem s_for {X : Cx} {t i : Expr} {b : List Stmt} {tg : Tg} {r : Rs} {bd : List Sl → Out} {pos : Pos} (po : PassesOwn (model X.prog X.w) X.A X.env X.xe) (hc : X.calm = true) (hi : PI X t i (tI f W Γ r)) (hg : PG X t (gT f tg)) (hb : ∀ Γ', PSs X b (tS f W Γ' (bd Γ')))
    (hs : ∀ x, foldedSetIterable i X.env x = pure x) : PS X (.For t i b [] pos) (tS f W Γ (ofR r Γ fun ds => forL (fun d Γ => asg tg d Γ) bd ds Γ)) := by
  refine (ps_for po hc hi hg (PSs.any hb) hs).imp fun Z σ H ⟨H0, q⟩ => ⟨H0, q.itr fun ds J A0 A a j q2 => ?_⟩
  refine ⟨fun i m σ H => i ≤ ds.length ∧ m = ds.length - i ∧ ∃ Γi B0, Same A0 B0 ∧ St f Γi B0 σ H ∧ OutOk f W (forL (fun d Γ => asg tg d Γ) bd (ds.drop i) Γi) B0 Z, ⟨_, Nat.zero_le _, rfl, Γ, A0, same_refl _, q2.1, q2.2⟩, ?_⟩
  rintro i m σ1 H1 ⟨hi, hm, Γi, B0, s, st, o⟩
  obtain ⟨j1, j2⟩ := j B0 H1 s st.sub
  by_cases hl : i < ds.length
  · have ed : ds.drop i = ds[i] :: ds.drop (i + 1) := List.drop_eq_getElem_cons hl
    rw [ed] at o
    obtain ⟨Γ1, ea⟩ := forL_as o
    have o1 := forL_step o ea
    obtain ⟨go, yl⟩ := j1 i ds[i] (List.getElem?_eq_getElem hl)
    refine .inr ⟨go, fun σ' H' => ∃ Γ2 C0, Same B0 C0 ∧ St f Γ2 C0 σ' H' ∧ OutOk f W (forL (fun d Γ => asg tg d Γ) bd (ds.drop (i + 1)) Γ2) C0 Z, fun σ' H' ⟨Γ2, C0, s2, st2, o2⟩ => ⟨m - 1, by omega, hl, by omega, Γ2, C0, same_trans s s2, st2, o2⟩, fun x H' hy => ?_⟩
    obtain ⟨C0, ad, dp⟩ := yl x H' hy
    refine ⟨Γi, C0, ds[i], Γ1, st.adv ad, dp, ea, fun σ' _ _ st' => ⟨Γ1, C0, st', ?_⟩⟩
    have o2 := OutOk.mono o1 ad.sub
    revert o2
    cases bd Γ1 with
    | nx Γ2 => exact fun o2 σ' D0 D s3 st3 => o2 σ' D0 D s3 st3
    | ct Γ2 => exact fun o2 σ' D0 D s3 st3 => o2 σ' D0 D s3 st3
    | bk Γ2 => exact fun o2 σ' D0 D s3 st3 => o2 σ' D0 D s3 st3
    | rt d => exact fun o2 => o2
    | rf d => exact fun o2 => o2
    | xc c Γ2 => exact fun o2 => o2
    | un => exact fun o2 => o2
  · refine .inl ⟨j2 i (Nat.le_of_not_lt hl), ?_⟩
    rw [List.drop_eq_nil_of_le (Nat.le_of_not_lt hl)] at o
    exact o σ1 B0 H1 (same_refl _) st
theorem s_whl {X : Cx} {t : Expr} {b : List Stmt} {c : List Sl → R} {bd : List Sl → Out} {pos : Pos} (n : Nat) (po : PassesOwn (model X.prog X.w) X.A X.env X.xe) (ht : ∀ Γ', PT X t (tB f W Γ' (c Γ'))) (hb : ∀ Γ', PSs X b (tS f W Γ' (bd Γ'))) :
    PS X (.While t b [] pos) (tS f W Γ (whL c bd n Γ)) := by
  refine (ps_while po (PT.any ht) (PSs.any hb)).imp fun Z σ H ⟨H0, q⟩ => ?_
  refine ⟨fun m σ H => ∃ Γi B0, So f W Γi (whL c bd m Γi) B0 σ H Z, ⟨n, Γ, H0, q⟩, fun m σ1 H1 ⟨Γi, B0, o⟩ => ⟨Γi, B0, o.1, ?_⟩⟩
  obtain ⟨st, o⟩ := o
  cases m with
  | zero => exact o.elim
  | succ m =>
    unfold whL at o
    cases g : c Γi with
    | error w =>
      rw [g] at o
      cases w with
      | none => exact o.elim
      | some x => exact fun C0 C a => o σ1 C0 C a.sub (st.adv a)
    | ok d =>
      rw [g] at o
      cases d with
      | bool v =>
        intro C0 C a
        have st' := st.adv a
        cases v with
        | false => exact o σ1 C0 C a.sub st'
        | true =>
          refine ⟨fun σ' H' => ∃ Γ2 D0, So f W Γ2 (whL c bd m Γ2) D0 σ' H' Z, fun σ' H' w => ⟨m, Nat.lt_succ_self m, w⟩, Γi, C0, st', ?_⟩
          dsimp only at o
          revert o
          cases bd Γi with
          | nx Γ2 => exact fun o σ' D0 D s3 st3 => ⟨Γ2, D0, st3, OutOk.mono (o := whL c bd m Γ2) o (same_trans a.sub s3)⟩
          | ct Γ2 => exact fun o σ' D0 D s3 st3 => ⟨Γ2, D0, st3, OutOk.mono (o := whL c bd m Γ2) o (same_trans a.sub s3)⟩
          | bk Γ2 => exact fun o => OutOk.mono (o := .nx Γ2) o a.sub
          | rt d => exact fun o => OutOk.mono (o := .rt d) o a.sub
          | rf d => exact fun o => OutOk.mono (o := .rf d) o a.sub
          | xc c Γ2 => exact fun o => OutOk.mono (o := .xc c Γ2) o a.sub
          | un => exact fun o => o
      | _ => exact o.elim
end
end Dee

set_option maxRecDepth 100000
set_option maxHeartbeats 8000000
/-! Dee, part 17: every statement that the look lets through does what the small language says. -/
namespace Dee
open PySem PySem.Spec PyProof.Rows L2

theorem sst_par {a b : Expr} {x y : Str} {px py pt p2 : Pos} {k k2 : Nat} {env : Env} (hk : env.scope.kind = .function) (hx : env.scope.names.lookup x = some .local) (hy : env.scope.names.lookup y = some .local) (hl : (px.line == py.line) = true) (hn : x ≠ y)
    (h1 : notStar a = true) (h2 : notStar b = true) (hf : (foldedForSure 8 a && foldedForSure 8 b) = false) (hc : (constantsAlone 8 a && constantsAlone 8 b) = false) :
    swappedStores [.Tuple [.Name x px, .Name y py] k pt] (.Tuple [a, b] k2 p2) env = pure (some [x, y]) := by
  have hb : env.blockKind = .function := by unfold Env.blockKind; rw [hk]; rfl
  have kx : env.kindOf x = some .local := hx
  have ky : env.kindOf y = some .local := hy
  have hl' : (py.line == px.line) = true := by rw [beq_iff_eq] at hl ⊢; exact hl.symm
  have st : ([a, b].any fun | .Starred .. => true | _ => false) = false := by
    cases a <;> first | (cases h1; done) | (cases b <;> first | (cases h2; done) | rfl)
  have fo : ([a, b].all (foldedForSure 8)) = false := by
    show (foldedForSure 8 a && (foldedForSure 8 b && true)) = false
    rw [Bool.and_true]; exact hf
  have co : ([a, b].all (constantsAlone 8)) = false := by
    show (constantsAlone 8 a && (constantsAlone 8 b && true)) = false
    rw [Bool.and_true]; exact hc
  have dd : [x, y].eraseDups = [x, y] := by
    simp [List.eraseDups_cons, hn, Ne.symm hn]
  unfold swappedStores
  simp [hb, kx, ky, eq_of_beq hl', fo, co, dd, Expr.pos, List.filterMap_cons]
  rintro (h | h)
  · cases a <;> first | (cases h; done) | (cases h1; done)
  · cases b <;> first | (cases h; done) | (cases h2; done)
end Dee

set_option maxRecDepth 100000
set_option maxHeartbeats 8000000
/-! Dee, part 18: every statement that the look lets through does what the small language says. -/
namespace Dee
open PySem PySem.Spec PyProof.Rows L2

section
variable {T : Tab} {E : Evn} {f : Fm} {W : WX} {k : Nat} {N : List Str} {sc : Scope} {cm : Bool} {X : Cx} {Γ : List Sl}

/-! ### one by one -/
theorem s_set {i : Nat} {r : R} {y : Str} {py pos : Pos} {v : Expr} (h : PS X (.Assign [.Name y py] v pos) (tAsg (tV f W Γ r) (gName i))) :
    PS X (.Assign [.Name y py] v pos) (tS f W Γ (ofR r Γ fun d => setS Γ i (.sh d))) := by
  refine h.imp fun Z σ H ⟨H0, q⟩ => ⟨H0, q.val fun d v A0 A a dp q2 => ?_⟩
  unfold setS at q2
  by_cases hi : i < Γ.length
  · rw [if_pos hi] at q2
    exact q2.nx (same_refl _) (q2.1.put dp hi)
  · rw [if_neg hi] at q2
    exact q2.2.elim
theorem s_setO {i : Nat} {r : Rs} {y : Str} {py pos : Pos} {v : Expr} (h : PS X (.Assign [.Name y py] v pos) (tAsg (tF f W Γ r) (gName i))) :
    PS X (.Assign [.Name y py] v pos) (tS f W Γ (ofR r Γ fun ds => setS Γ i (.own ds))) := by
  refine h.imp fun Z σ H ⟨H0, q⟩ => ⟨H0, q.lst fun ds a vs A0 A ad n n0 e dp q2 => ?_⟩
  unfold setS at q2
  by_cases hi : i < Γ.length
  · rw [if_pos hi] at q2
    exact q2.nx (same_refl _) (q2.1.putNew hi (q.1.noOwn n) ⟨a, vs, rfl, same_fresh q.1.ent n, n0, e, dp⟩)
  · rw [if_neg hi] at q2
    exact q2.2.elim
theorem s_setT {is : List Nat} {r : R} {ts : List Expr} {kk : Nat} {py pos : Pos} {v : Expr} (hg : PG X (.Tuple ts kk py) (gT f (.tp is))) (hn : notTup v = true) (h : PE X v (tV f W Γ r)) :
    PS X (.Assign [.Tuple ts kk py] v pos) (tS f W Γ (ofR r Γ fun d => match asg (.tp is) d Γ with
      | some Γ' => .nx Γ'
      | none => .un)) := by
  refine (ps_asg h hg sws_tup (sst_tup hn)).imp fun Z σ H ⟨H0, q⟩ => ⟨H0, q.val fun d v A0 A a dp q2 => ?_⟩
  cases e : asg (.tp is) d Γ with
  | none =>
    rw [e] at q2
    exact q2.2.elim
  | some Γ' =>
    rw [e] at q2
    exact ⟨Γ, A0, d, Γ', q2.1, dp, e, fun σ' _ _ st => q2.nx (same_refl _) st⟩
theorem s_par {i j : Nat} {ra rb : R} {x y : Str} {px py pt p2 pos : Pos} {k1 k2 : Nat} {a b : Expr} (hc : X.calm = true) (hN : X.N.Nodup) (hi : X.N[i]? = some x) (hj : X.N[j]? = some y) (hij : i ≠ j) (hk : X.env.scope.kind = .function)
    (hx : X.env.scope.names.lookup x = some .local) (hy : X.env.scope.names.lookup y = some .local) (hl : (px.line == py.line) = true) (hn : x ≠ y) (h1 : notStar a = true) (h2 : notStar b = true) (hf : (foldedForSure 8 a && foldedForSure 8 b) = false)
    (hcs : (constantsAlone 8 a && constantsAlone 8 b) = false) (ha : PE X a (tV f W Γ ra)) (hb : PE X b (tV f W Γ rb)) :
    PS X (.Assign [.Tuple [.Name x px, .Name y py] k1 pt] (.Tuple [a, b] k2 p2) pos) (tS f W Γ (ofR ra Γ fun x => ofR rb Γ fun y => if i ≠ j ∧ i < Γ.length ∧ j < Γ.length then .nx ((Γ.set i (.sh x)).set j (.sh y)) else .un)) := by
  refine (ps_par hc hN hi hj hij hx hy (pa_cons ha (pa_cons hb pa_nil (star_cons h2 [] X.env)) (star_cons h1 _ X.env)) (sst_par hk hx hy hl hn h1 h2 hf hcs) sws_tup).imp fun Z σ H ⟨H0, q⟩ => ⟨H0, q.val fun d v A0 A a1 d1 q2 => ⟨A0, q2.val fun z w B0 B a2 d2 q3 => ?_⟩⟩
  by_cases hl : i ≠ j ∧ i < Γ.length ∧ j < Γ.length
  · rw [if_pos hl] at q3
    exact ⟨v, w, rfl, q3.nx (same_refl _) ((q3.1.put (d1.mono a2.sub) hl.2.1).put d2 (by rw [List.length_set]; exact hl.2.2))⟩
  · rw [if_neg hl] at q3
    exact q3.2.elim
theorem s_app {i : Nat} {r : R} {x : Str} {p ap p2 pos : Pos} {v : Expr} (hv : PE X (.Name x p) (tVar i)) (hl : (ap.endLine == p2.line) = true) (h1 : notStar v = true) (h : PE X v (tV f W Γ r)) :
    PS X (.Expr (.Call (.Attribute (.Name x p) "append" ap) [v] [] p2) pos) (tS f W Γ (match Γ[i]? with
      | some (.own ds) => ofR r Γ fun d => if ds.length < most then .nx (Γ.set i (.own (ds ++ [d]))) else .un
      | _ => .un)) := by
  have hs := star_cons h1 [] X.env
  refine (ps_expr (pe_bm PySem.F.plainAttrs_list PySem.F.slot_list_append PySem.F.type_list_append mt_append hv (pa_cons h pa_nil hs) (base_of rfl _ _) (by rw [hs]; rfl) hl hs rfl) (swaps_of rfl _ _ _)).imp fun Z σ H ⟨H0, q⟩ => ?_
  cases e : Γ[i]? with
  | none =>
    rw [e] at q
    exact q.2.elim
  | some s =>
    rw [e] at q
    cases s with
    | own ds =>
      obtain ⟨o, eo, a, vs, rfl, he, h0, ha, dv⟩ := q.1.sl i _ e
      refine ⟨_, eo, .inl ⟨rfl, vs, SqL.of ha⟩, H0, q.val fun d w A0 A ad dp q2 => ?_⟩
      by_cases hm : ds.length < most
      · rw [if_pos hm] at q2
        have n0 : A0 a = none := (ad.old a _ ha).trans h0
        have hlen : vs.length < sizeLine := by
          rw [dv.len]
          exact Nat.lt_of_lt_of_le hm (by decide)
        exact ⟨a, vs, w, rfl, rfl, ad.all _ _ ha, hlen, q2.nx (same_refl _) (q2.1.store ⟨⟨_, e, rfl⟩, eo⟩ rfl he n0 ⟨a, _, rfl, he, n0, upd_same, (dv.mono ad.sub).app (.cons dp .nil)⟩)⟩
      · rw [if_neg hm] at q2
        exact q2.2.elim
    | _ => exact q.2.elim
theorem So.int {H0 H : Hp} {σ : L2.St} {Z : Ends} {d : D} {g : Int → Out} (h : So f W Γ (ofR (asInt d) Γ g) H0 σ H Z) : ∃ n, d = .int n ∧ So f W Γ (g n) H0 σ H Z := by
  cases d with
  | int n => exact ⟨n, rfl, h⟩
  | _ => exact h.2.elim
theorem So.key {H0 H : Hp} {σ : L2.St} {Z : Ends} {d : D} {g : Key → Out} (h : So f W Γ (ofR (asKey d) Γ g) H0 σ H Z) : ∃ n, asKey d = .ok n ∧ So f W Γ (g n) H0 σ H Z := by
  cases e : asKey d with
  | ok n =>
    rw [e] at h
    exact ⟨n, rfl, h⟩
  | error w =>
    rw [e] at h
    cases w with
    | none => exact h.2.elim
    | some c => exact absurd e (asKey_no d c)
theorem s_six {i : Nat} {r rk : R} {x : Str} {p p2 pos : Pos} {v s : Expr} (hv : PE X (.Name x p) (tVar i)) (h : PE X v (tV f W Γ r)) (hk : PE X s (tV f W Γ rk)) (hs : notSl s = true) :
    PS X (.Assign [.Subscript (.Name x p) s p2] v pos) (tS f W Γ (match Γ[i]? with
      | some (.own ds) => ofR r Γ fun d => ofR rk Γ fun x => ofR (asInt x) Γ fun n => (match ixN ds.length n with
        | some j => .nx (Γ.set i (.own (ds.set j d)))
        | none => .un)
      | _ => .un)) := by
  refine (ps_asg h (pg_sub hv hk set_list (fun u => by cases s <;> first | rfl | (cases hs; done))) sws_sub sst_sub).imp fun Z σ H ⟨H0, q⟩ => ?_
  cases e : Γ[i]? with
  | none =>
    rw [e] at q
    exact ⟨H0, q.1, q.2.elim⟩
  | some sl =>
    rw [e] at q
    cases sl with
    | own ds =>
      obtain ⟨o, eo, a, vs, rfl, he, h0, ha, dv⟩ := q.1.sl i _ e
      refine ⟨H0, q.val fun d w A0 A a1 d1 q2 => ⟨_, eo, A0, q2.val fun z u B0 B a2 d2 q3 => ?_⟩⟩
      obtain ⟨n, rfl, q4⟩ := q3.int
      have ad := a1.trans a2
      cases ej : ixN ds.length n with
      | none =>
        rw [ej] at q4
        exact q4.2.elim
      | some j =>
        rw [ej] at q4
        have n0 : B0 a = none := (ad.old a _ ha).trans h0
        exact ⟨a, vs, n, j, rfl, int_of d2, ad.all _ _ ha, by rw [dv.len]; exact ej, q4.nx (same_refl _) (q4.1.store ⟨⟨_, e, rfl⟩, eo⟩ rfl he n0 ⟨a, _, rfl, he, n0, upd_same, (dv.mono ad.sub).setAt (d1.mono a2.sub) j⟩)⟩
    | _ => exact ⟨H0, q.1, q.2.elim⟩
/-- xs[i], by values -/
theorem get_list : PGet X (rIxL X.K) := by
  intro pn st σ H _ _ v u Q J rv ru ⟨ad, ws, n, z, e1, e2, sq, eat, q⟩
  subst e1 e2
  cases rv
  obtain ⟨tk, rfl⟩ := ru
  obtain ⟨us, rel, pl, small⟩ := J.list sq
  obtain ⟨j, p1, p2, p3, p4, p5⟩ := atI_get eat
  obtain ⟨w, ew, rw'⟩ := rel.get p2
  have len := rel.length
  have l63 := line63
  have done : EP X pn σ Q w st := ⟨z, H, J, rw', q⟩
  by_cases sg : 0 ≤ n
  · rw [seqIndex_of sg p5] at p1
    exact wpAny_getItem_list pl.isList sg (by omega) (by rw [show n.toNat = j from Option.some.inj p1]; simpa using ew) done
  · rw [seqIndex_neg (by omega) p4] at p1
    exact wpAny_getItem_list_neg pl.isList (by omega) (by rw [List.size_toArray] <;> omega) (by omega) (by rw [List.size_toArray, ← len, show (n + (ws.length : Int)).toNat = j from Option.some.inj p1]; simpa using ew) done
theorem s_augS {i : Nat} {r rk : R} {x : Str} {p p2 pos : Pos} {v s : Expr} (hv : PE X (.Name x p) (tVar i)) (h : PE X v (tV f W Γ r)) (hk : PE X s (tV f W Γ rk)) (hs : notSl s = true) :
    PS X (.AugAssign (.Subscript (.Name x p) s p2) .Add v pos) (tS f W Γ (match Γ[i]? with
      | some (.own ds) => ofR rk Γ fun x => ofR (asInt x) Γ fun n => ofR (atD ds n) Γ fun o => ofR (asInt o) Γ fun a => ofR r Γ fun y => ofR (asInt y) Γ fun b => (match ixN ds.length n with
        | some j => .nx (Γ.set i (.own (ds.set j (.int (a + b)))))
        | none => .un)
      | _ => .un)) := by
  refine (ps_augS hv hk get_list h ip_add set_list (fun ov iv new => by cases s <;> first | rfl | (cases hs; done))).imp fun Z σ H ⟨H0, q⟩ => ?_
  cases e : Γ[i]? with
  | none =>
    rw [e] at q
    exact q.2.elim
  | some sl =>
    rw [e] at q
    cases sl with
    | own ds =>
      obtain ⟨o, eo, a, vs, rfl, he, h0, ha, dv⟩ := q.1.sl i _ e
      refine ⟨_, eo, H0, q.val fun z u A0 A a1 d1 q2 => ?_⟩
      obtain ⟨n, rfl, q3⟩ := q2.int
      cases eat : atD ds n with
      | error w =>
        rw [eat] at q3
        cases w with
        | none => exact q3.2.elim
        | some c =>
          unfold atD at eat
          cases g : atI ds n <;> rw [g] at eat <;> cases eat
      | ok od =>
        rw [eat] at q3
        obtain ⟨m, rfl, q4⟩ := So.int (d := od) q3
        have ea : atI ds n = some (.int m) := by
          unfold atD at eat
          cases g : atI ds n with
          | none => rw [g] at eat; cases eat
          | some z => rw [g] at eat; cases eat; rfl
        obtain ⟨j, ej, edj⟩ : ∃ j, ixN ds.length n = some j ∧ ds[j]? = some (.int m) := by
          unfold atI at ea
          cases g : ixN ds.length n with
          | none => rw [g] at ea; cases ea
          | some j => rw [g] at ea; exact ⟨j, rfl, ea⟩
        obtain ⟨vj, ev1, ev2⟩ := (dv.mono a1.sub).at edj
        have ev3 := int_of ev2
        have av : atI vs n = some (.int m) := by
          unfold atI
          rw [dv.len, ej]
          exact ev1.trans (congrArg some ev3)
        refine ⟨a, vs, n, _, rfl, int_of d1, SqL.of (a1.all _ _ ha), av, A0, q4.val fun y w B0 B a2 d2 q5 => ?_⟩
        obtain ⟨b, rfl, q6⟩ := q5.int
        rw [ej] at q6
        have ad := a1.trans a2
        have n0 : B0 a = none := (ad.old a _ ha).trans h0
        exact ⟨m, b, rfl, int_of d2, a, vs, n, j, rfl, int_of d1, ad.all _ _ ha, by rw [dv.len]; exact ej, q6.nx (same_refl _) (q6.1.store ⟨⟨_, e, rfl⟩, eo⟩ rfl he n0 ⟨a, _, rfl, he, n0, upd_same, (dv.mono ad.sub).setAt (.int _) j⟩)⟩
    | _ => exact q.2.elim
theorem s_newD1 {i : Nat} {rk r : R} {y : Str} {py pos p2 : Pos} {a b : Expr} (hN : X.N.Nodup) (hi : X.N[i]? = some y) (hl : Loc X.env.scope y) (hf : X.fn y = true ∨ X.env.scope.names.lookup y = some .local) (hk : PE X a (tV f W Γ rk)) (h : PE X b (tV f W Γ r)) :
    PS X (.Assign [.Name y py] (.Dict [some a] [b] p2) pos) (tS f W Γ (ofR rk Γ fun x => ofR (asKey x) Γ fun q => ofR r Γ fun d => setS Γ i (.dk [(q, d)]))) := by
  refine (ps_set hN hi hl (pe_disp (pps_cons hk h pps_nil) rfl rfl (by simp) (by show 1 ≤ 15; decide)) (swaps_of rfl _ _ _) hf).imp fun Z σ H ⟨H0, q⟩ p hp => ?_
  have n0 := same_fresh q.1.sub hp
  have ad : Adv H0 H H0 (upd H p (.dK [])) := (Adv.refl q.1.sub).beside hp n0
  refine ⟨H0, (q.adv ad).val fun x v A0 A a1 d1 q2 => ?_⟩
  obtain ⟨n, ek, q3⟩ := q2.key
  refine ⟨A0, q3.val fun d w B0 B a2 d2 q4 => ⟨a2.all _ _ (a1.all _ _ upd_same), [(n, w)], by rw [key_dp d1 ek]; rfl, by show 1 ≤ 15; decide, ?_⟩⟩
  unfold setS at q4
  by_cases hi : i < Γ.length
  · rw [if_pos hi] at q4
    have n2 : B0 p = none := (a2.old p _ (a1.all _ _ upd_same)).trans ((a1.old p _ upd_same).trans n0)
    have ne := same_fresh q.1.ent hp
    exact q4.nx (same_refl _) ((q4.1.away n2 ne (q.1.noOwn hp)).putNew hi (q.1.noOwn hp) ⟨p, [(n, w)], rfl, ne, n2, upd_same, .cons d2 .nil⟩)
  · rw [if_neg hi] at q4
    exact q4.2.elim
theorem s_mvD {i j : Nat} {y : Str} {py pos : Pos} {v : Expr} (h : PS X (.Assign [.Name y py] v pos) (tAsg (tVar j) (gName i))) :
    PS X (.Assign [.Name y py] v pos) (tS f W Γ (match Γ[j]? with
      | some (.dk kvs) => if i ≠ j ∧ i < Γ.length then .nx ((Γ.set j .non).set i (.dk kvs)) else .un
      | _ => .un)) := by
  refine h.imp fun Z σ H ⟨H0, q⟩ => ?_
  cases e : Γ[j]? with
  | none =>
    rw [e] at q
    exact q.2.elim
  | some sl =>
    rw [e] at q
    cases sl with
    | dk kvs =>
      by_cases hi : i ≠ j ∧ i < Γ.length
      · have q : So f W Γ (if i ≠ j ∧ i < Γ.length then .nx ((Γ.set j .non).set i (.dk kvs)) else .un) H0 σ H Z := q
        rw [if_pos hi] at q
        obtain ⟨a, vs, eo, he, h0, ha, kv⟩ := q.1.dk e
        refine ⟨_, eo, q.nx (same_refl _) ((q.1.weak j).putNew (by rw [List.length_set]; exact hi.2) (fun k hk => ?_) ⟨a, vs, rfl, he, h0, ha, kv⟩)⟩
        obtain ⟨⟨s, es, w⟩, eq⟩ := hk
        by_cases hkj : j = k
        · subst hkj
          rw [List.getElem?_set_self (List.getElem?_eq_some_iff.mp e).1] at es
          cases es
          cases w
        · rw [List.getElem?_set_ne hkj] at es
          exact q.1.ap k j a (Ne.symm hkj) ⟨⟨s, es, w⟩, eq⟩ ⟨⟨_, e, rfl⟩, eo⟩
      · have q : So f W Γ (if i ≠ j ∧ i < Γ.length then .nx ((Γ.set j .non).set i (.dk kvs)) else .un) H0 σ H Z := q
        rw [if_neg hi] at q
        exact q.2.elim
    | _ => exact q.2.elim
theorem s_newD {i : Nat} {t : Bool} {y : Str} {py pos p2 : Pos} (h : PS X (.Assign [.Name y py] (.Dict [] [] p2) pos) (tAsg tDNewK (gName i))) :
    PS X (.Assign [.Name y py] (.Dict [] [] p2) pos) (tS f W Γ (if t = true then .un else setS Γ i (.dk []))) := by
  refine h.imp fun Z σ H ⟨H0, q⟩ p hp => ?_
  cases t with
  | true => exact q.2.elim
  | false =>
    have q : So f W Γ (setS Γ i (.dk [])) H0 σ H Z := q
    unfold setS at q
    by_cases hi : i < Γ.length
    · rw [if_pos hi] at q
      have n0 := same_fresh q.1.sub hp
      have ad : Adv H0 H H0 (upd H p (.dK [])) := (Adv.refl q.1.sub).beside hp n0
      exact q.nx (same_refl _) ((q.1.adv ad).putNew hi (q.1.noOwn hp) ⟨p, [], rfl, same_fresh q.1.ent hp, n0, upd_same, .nil⟩)
    · rw [if_neg hi] at q
      exact q.2.elim
theorem s_dput {i : Nat} {r rk : R} {x : Str} {p p2 pos : Pos} {v s : Expr} (hu : X.A.units + 1 < cLine) (hv : PE X (.Name x p) (tVar i)) (h : PE X v (tV f W Γ r)) (hk : PE X s (tV f W Γ rk)) (hn : notComp v = true) :
    PS X (.Assign [.Subscript (.Name x p) s p2] v pos) (tS f W Γ (match Γ[i]? with
      | some (.dk kvs) => ofR r Γ fun d => ofR rk Γ fun x => ofR (asKey x) Γ fun q => if kvs.length < most then .nx (Γ.set i (.dk (putD kvs q d))) else .un
      | _ => .un)) := by
  refine (ps_dput hu hv hk h (swaps_of hn _ _ _)).imp fun Z σ H ⟨H0, q⟩ => ?_
  cases e : Γ[i]? with
  | none =>
    rw [e] at q
    exact ⟨H0, q.1, q.2.elim⟩
  | some sl =>
    rw [e] at q
    cases sl with
    | dk kvs =>
      obtain ⟨a, vs, eo, he, h0, ha, kv⟩ := q.1.dk e
      refine ⟨H0, q.val fun d w A0 A a1 d1 q2 => ⟨_, eo, A0, q2.val fun z u B0 B a2 d2 q3 => ?_⟩⟩
      obtain ⟨n, ek, q4⟩ := q3.key
      have ad := a1.trans a2
      by_cases hm : kvs.length < most
      · rw [if_pos hm] at q4
        have n0 : B0 a = none := (ad.old a _ ha).trans h0
        have hlen : vs.length < sizeLine := by
          rw [kv_len kv]
          exact Nat.lt_of_lt_of_le hm (by decide)
        refine ⟨a, _, rfl, by rw [key_dp d2 ek]; exact DPut.k (ad.all _ _ ha) hlen, q4.nx (same_refl _) (q4.1.store ⟨⟨_, e, rfl⟩, eo⟩ rfl he n0 ⟨a, _, rfl, he, n0, upd_same, kv_put (kv.mono ad.sub) (d1.mono a2.sub) n⟩)⟩
      · rw [if_neg hm] at q4
        exact q4.2.elim
    | _ => exact ⟨H0, q.1, q.2.elim⟩
theorem s_if {r : R} {oa ob : Out} {t : Expr} {a b : List Stmt} {pos : Pos} (ht : PT X t (tB f W Γ r)) (ha : PSs X a (tS f W Γ oa)) (hb : PSs X b (tS f W Γ ob)) :
    PS X (.If t a b pos) (tS f W Γ (ofR r Γ fun d => match d with
      | .bool true => oa
      | .bool false => ob
      | _ => .un)) := by
  refine (ps_if ht ha hb).imp fun Z σ H ⟨H0, q⟩ => ⟨H0, q.tst (fun d no => ?_) fun v A0 A a q2 => ?_⟩
  · cases d with
    | bool v => exact absurd rfl (no v)
    | _ => rfl
  · cases v with
    | true => exact ⟨A0, q2⟩
    | false => exact ⟨A0, q2⟩
theorem s_ifB {is : List Nat} {r : R} {oa ob : Out} {t : Expr} {a b : List Stmt} {pos : Pos} (ht : PT X t (tB f W (frzs is Γ) r)) (ha : PSs X a (tS f W Γ oa)) (hb : PSs X b (tS f W Γ ob)) :
    PS X (.If t a b pos) (tS f W Γ (ofR r Γ fun d => match d with
      | .bool true => oa
      | .bool false => ob
      | _ => .un)) := by
  refine (ps_if ht ha hb).imp fun Z σ H ⟨H0, q⟩ => q.tstB (fun d no => ?_) fun v A q2 => ?_
  · cases d with
    | bool v => exact absurd rfl (no v)
    | _ => rfl
  · cases v with
    | true => exact ⟨H0, q2⟩
    | false => exact ⟨H0, q2⟩
theorem s_setB {is : List Nat} {i : Nat} {r : R} {y : Str} {py pos : Pos} {v : Expr} (h : PS X (.Assign [.Name y py] v pos) (tAsg (tV f W (frzs is Γ) r) (gName i))) :
    PS X (.Assign [.Name y py] v pos) (tS f W Γ (ofR r Γ fun d => if scal d = true then setS Γ i (.sh d) else .un)) := by
  refine h.imp fun Z σ H ⟨H0, q⟩ => q.valB fun d v A a dp q2 => ?_
  unfold setS at q2
  by_cases hi : i < Γ.length
  · rw [if_pos hi] at q2
    exact q2.nx (same_refl _) (q2.1.put dp hi)
  · rw [if_neg hi] at q2
    exact q2.2.elim
theorem s_ret {r : R} {v : Expr} {pos : Pos} (h : PE X v (tV f W Γ r)) : PS X (.Return (some v) pos) (tS f W Γ (ofR r Γ fun d => .rt d)) :=
  (ps_ret h).imp fun Z σ H ⟨H0, q⟩ => ⟨H0, q.val fun d v A0 A a dp q2 => q2.2 v σ Γ A0 A (same_refl _) q2.1 dp⟩
theorem s_retF {r : Rs} {v : Expr} {pos : Pos} (h : PE X v (tF f W Γ r)) : PS X (.Return (some v) pos) (tS f W Γ (ofR r Γ fun ds => .rf ds)) :=
  (ps_ret h).imp fun Z σ H ⟨H0, q⟩ => ⟨H0, q.lst fun ds a vs A0 A ad n n0 e dp q2 => q2.2 a vs σ Γ A0 A (same_refl _) q2.1 (same_fresh q.1.ent n) n0 e dp⟩
theorem s_retO {i : Nat} {x : Str} {p pos : Pos} (hv : PE X (.Name x p) (tVar i)) : PS X (.Return (some (.Name x p)) pos) (tS f W Γ (match Γ[i]? with
      | some (.own ds) => .rf ds
      | _ => .un)) := by
  refine (ps_ret hv).imp fun Z σ H ⟨H0, q⟩ => ?_
  cases e : Γ[i]? with
  | none =>
    rw [e] at q
    exact q.2.elim
  | some s =>
    rw [e] at q
    cases s with
    | own ds =>
      obtain ⟨o, eo, a, vs, rfl, he, h0, ha, dv⟩ := q.1.sl i _ e
      exact ⟨_, eo, q.2 a vs σ Γ H0 H (same_refl _) q.1 he h0 ha dv⟩
    | _ => exact q.2.elim
theorem s_retC {r : R} {v : Expr} {pos : Pos} (h : PE X v (tC2 f W Γ r)) : PS X (.Return (some v) pos) (tS f W Γ (ofR r Γ rtC)) :=
  (ps_ret h).imp fun Z σ H ⟨H0, q⟩ => ⟨H0, q.vc (fun d v A0 A no ad dp q2 => by
      have e : rtC d = .rt d := by
        cases d <;> first | rfl | exact absurd rfl (no _)
      rw [e] at q2
      exact q2.2 v σ Γ A0 A (same_refl _) q2.1 dp) fun ds a vs A0 A ad n n0 e dp q2 => q2.2 a vs σ Γ A0 A (same_refl _) q2.1 (same_fresh q.1.ent n) n0 e dp⟩
theorem s_setC {i : Nat} {r : R} {y : Str} {py pos : Pos} {v : Expr} (h : PS X (.Assign [.Name y py] v pos) (tAsg (tC2 f W Γ r) (gName i))) :
    PS X (.Assign [.Name y py] v pos) (tS f W Γ (ofR r Γ fun d => setS Γ i (ownC d))) := by
  refine h.imp fun Z σ H ⟨H0, q⟩ => ⟨H0, q.vc (fun d v A0 A no a dp q2 => ?_) fun ds a vs A0 A ad n n0 e dp q2 => ?_⟩
  · have e : ownC d = .sh d := by
      cases d <;> first | rfl | exact absurd rfl (no _)
    rw [e] at q2
    unfold setS at q2
    by_cases hi : i < Γ.length
    · rw [if_pos hi] at q2
      exact q2.nx (same_refl _) (q2.1.put dp hi)
    · rw [if_neg hi] at q2
      exact q2.2.elim
  · have q2 : So f W Γ (setS Γ i (.own ds)) A0 σ A Z := q2
    unfold setS at q2
    by_cases hi : i < Γ.length
    · rw [if_pos hi] at q2
      exact q2.nx (same_refl _) (q2.1.putNew hi (q.1.noOwn n) ⟨a, vs, rfl, same_fresh q.1.ent n, n0, e, dp⟩)
    · rw [if_neg hi] at q2
      exact q2.2.elim
theorem s_appC {rc r : R} {ap p2 pos : Pos} {o v : Expr} (hnc : ∀ m env, attributeBase o m env (eval o env) = eval o env) (ho : PE X o (tC2 f W Γ rc)) (hl : (ap.endLine == p2.line) = true) (h1 : notStar v = true) (h : PE X v (tV f W Γ r)) :
    PS X (.Expr (.Call (.Attribute o "append" ap) [v] [] p2) pos) (tS f W Γ (ofR rc Γ fun d => match d with
      | .list ds => if ds.length < most then ofR r Γ (fun _ => .nx Γ) else .un
      | _ => .un)) := by
  have hs := star_cons h1 [] X.env
  refine (ps_expr (pe_bm PySem.F.plainAttrs_list PySem.F.slot_list_append PySem.F.type_list_append mt_append ho (pa_cons h pa_nil hs) (hnc _ _) (by rw [hs]; rfl) hl hs rfl) (swaps_of rfl _ _ _)).imp fun Z σ H ⟨H0, q⟩ => ?_
  refine ⟨H0, q.vc (fun d v A0 A no ad dp q2 => ?_) fun ds a vs A0 A ad n n0 e dp q2 => ?_⟩
  · cases d <;> first | exact q2.2.elim | exact absurd rfl (no _)
  · by_cases hm : ds.length < most
    · have q2 : So f W Γ (if ds.length < most then ofR r Γ (fun _ => .nx Γ) else .un) A0 σ A Z := q2
      rw [if_pos hm] at q2
      refine ⟨.inl ⟨rfl, vs, SqL.of e⟩, A0, q2.val fun d w B0 B ad2 dp2 q3 => ?_⟩
      have n1 : B0 a = none := (ad2.old a _ e).trans n0
      have hlen : vs.length < sizeLine := by
        rw [dp.len]
        exact Nat.lt_of_lt_of_le hm (by decide)
      have ne : f.He a = none := same_fresh q.1.ent n
      refine ⟨a, vs, w, rfl, rfl, ad2.all _ _ e, hlen, q3.nx (same_refl _) ?_⟩
      exact q3.1.away n1 ne (q.1.noOwn n)
    · have q2 : So f W Γ (if ds.length < most then ofR r Γ (fun _ => .nx Γ) else .un) A0 σ A Z := q2
      rw [if_neg hm] at q2
      exact q2.2.elim
theorem s_expr {r : R} {v : Expr} {pos : Pos} (hn : notComp v = true) (h : PE X v (tV f W Γ r)) : PS X (.Expr v pos) (tS f W Γ (ofR r Γ fun _ => .nx Γ)) :=
  (ps_expr h (swaps_of hn _ _ _)).imp fun Z σ H ⟨H0, q⟩ => ⟨H0, q.val fun d v A0 A a dp q2 => q2.nx (same_refl _) q2.1⟩
theorem s_raise {nb : Bool} {c : Nat} {x m : Str} {j : Nat} {p p2 p3 pos : Pos} (hc : X.calm = true) (tk : TkB nb X W) (hg : Gl X x) (hdb : (x == ("__debug__" : Str)) = false) (C : ClsOk X x (f.cl c)) :
    PS X (.Raise (some (.Call (.Name x p) [.Constant (.str m) j p2] [] p3)) none pos) (tS f W Γ (.xc c Γ)) :=
  match nb, tk with
  | false, tk => (ps_raise hc tk (pmk_own PySem.F.excBase_ValueError C.ex C.g C.k C.r hg hdb)).imp fun Z σ H ⟨H0, q⟩ => q.2 σ H0 H (same_refl _) q.1
  | true, tk => (L2N.ps_raise hc tk (L2N.pmk_own PySem.F.excBase_ValueError C.ex C.g C.k C.r hg hdb)).imp fun Z σ H ⟨H0, q⟩ => q.2 σ H0 H (same_refl _) q.1
theorem off_ok {a : Addr} {d : Nat} {x : Option Nat} {o : Out} {H0 : Hp} {Z : Ends} (h : OutOk f W (offX x o) H0 Z) :
    OutOk (f.wx a d) (fun _ _ _ _ => False) o H0 { nx := fun σ H => Z.nx (unS x σ) H, rt := Z.rt, bk := fun σ H => Z.bk (unS x σ) H, ct := fun σ H => Z.ct (unS x σ) H } := by
  cases o with
  | nx Γ => exact fun σ' A0 A s st => h _ A0 A s (st.unx x)
  | bk Γ => exact fun σ' A0 A s st => h _ A0 A s (st.unx x)
  | ct Γ => exact fun σ' A0 A s st => h _ A0 A s (st.unx x)
  | rt d => exact fun v σ' Γ A0 A s st dp => h v _ _ A0 A s (st.unx none) dp
  | rf d => exact fun b vs σ' Γ A0 A s st n n0 e dp => h b vs _ _ A0 A s (st.unx none) n n0 e dp
  | xc c Γ => exact h.elim
  | un => exact h.elim
end
end Dee

set_option maxRecDepth 100000
set_option maxHeartbeats 8000000
/-! Dee, between 18 and 19: a list of copied lists, one of which is changed by the next statement. -/
namespace Dee
open PySem PySem.Spec PyProof.Rows L2
variable {T : Tab} {E : Evn} {k : Nat} {N : List Str}
/-! ### lists beside the shared part -/
structure LcN (K : PySem.W.Frag) (A0 A : Hp) (L : Addr) (acc : List (List D)) (B0 H : Hp) : Prop where
  adv : Adv A0 A B0 H
  no : B0 L = none
  at_ : ∃ bs : List Addr, H L = some (.lst (bs.map V.ref)) ∧ bs.length = acc.length ∧ L ∉ bs ∧ bs.Nodup ∧ ∀ (n : Nat) (b : Addr) (ds : List D), bs[n]? = some b → acc[n]? = some ds → A b = none ∧ B0 b = none ∧ ∃ vs, H b = some (.lst vs) ∧ DpAll K B0 vs ds
theorem LcN.go {K : PySem.W.Frag} {A0 A B0 H C0 C : Hp} {L : Addr} {acc : List (List D)} (x : LcN K A0 A L acc B0 H) (a : Adv B0 H C0 C) : LcN K A0 A L acc C0 C := by
  obtain ⟨bs, e, l, nl, nd, f⟩ := x.at_
  refine ⟨x.adv.trans a, (a.old L _ e).trans x.no, bs, a.all _ _ e, l, nl, nd, fun n b ds h1 h2 => ?_⟩
  obtain ⟨z1, z2, vs, z3, z4⟩ := f n b ds h1 h2
  exact ⟨z1, (a.old b _ z3).trans z2, vs, a.all _ _ z3, z4.mono a.sub⟩
theorem LcN.start {K : PySem.W.Frag} {A0 A : Hp} {L : Addr} (s : Same A0 A) (hA : A L = none) : LcN K A0 A L [] A0 (upd A L (.lst [])) :=
  ⟨(Adv.refl s).beside hA (same_fresh s hA), same_fresh s hA, [], upd_same, rfl, by simp, List.nodup_nil, fun n b ds h => by simp at h⟩
theorem LcN.there {K : PySem.W.Frag} {A B0 H : Hp} {acc : List (List D)} {bs : List Addr} (l : bs.length = acc.length)
    (f : ∀ (n : Nat) (b : Addr) (ds : List D), bs[n]? = some b → acc[n]? = some ds → A b = none ∧ B0 b = none ∧ ∃ vs, H b = some (.lst vs) ∧ DpAll K B0 vs ds) {b : Addr} (hb : b ∈ bs) : A b = none ∧ B0 b = none ∧ ∃ o, H b = some o := by
  obtain ⟨n, hn, e⟩ := List.getElem_of_mem hb
  obtain ⟨z1, z2, vs, z3, _⟩ := f n b acc[n] (by rw [List.getElem?_eq_getElem hn, e]) (List.getElem?_eq_getElem (by omega))
  exact ⟨z1, z2, _, z3⟩
theorem LcN.add {K : PySem.W.Frag} {A0 A B0 H C0 C : Hp} {L b : Addr} {acc : List (List D)} {vs : List V} {ds : List D} (x : LcN K A0 A L acc B0 H) (hA : A L = none) (a : Adv B0 H C0 C) (n : H b = none) (n0 : C0 b = none) (e : C b = some (.lst vs)) (dv : DpAll K C0 vs ds) :
    ∃ bs : List Addr, C L = some (.lst (bs.map V.ref)) ∧ bs.length = acc.length ∧ LcN K A0 A L (acc ++ [ds]) C0 (upd C L (.lst (bs.map V.ref ++ [.ref b]))) := by
  obtain ⟨bs, eL, l, nl, nd, f⟩ := (x.go a).at_
  obtain ⟨bs0, eL0, l0, nl0, nd0, f0⟩ := x.at_
  have same : bs0 = bs := by
    have z := a.all _ _ eL0
    rw [eL] at z
    have z := (HO.lst.inj (Option.some.inj z)).symm
    exact (List.map_inj_right (fun p q h => V.ref.inj h)).mp z
  subst same
  have bL : b ≠ L := fun h => by rw [h, eL0] at n; cases n
  have nb : b ∉ bs0 := fun h => by
    obtain ⟨_, _, o, z⟩ := LcN.there l0 f0 h
    rw [z] at n
    cases n
  have Ab : A b = none := same_fresh x.adv.all n
  refine ⟨bs0, eL, l0, (x.go a).adv.beside hA (x.go a).no, (x.go a).no, bs0 ++ [b], by rw [upd_same, List.map_append]; rfl, by simp [l0], by simp [nl0, bL.symm], ?_, fun m c es h1 h2 => ?_⟩
  · rw [List.nodup_append]
    exact ⟨nd0, by simp, fun p hp q hq e2 => nb (by rw [show q = b by simpa using hq] at e2; rw [← e2]; exact hp)⟩
  · by_cases hm : m < bs0.length
    · rw [List.getElem?_append_left hm] at h1
      rw [List.getElem?_append_left (by omega)] at h2
      obtain ⟨z1, z2, ws, z3, z4⟩ := f m c es h1 h2
      have cL : c ≠ L := fun h => nl (by rw [← h]; exact List.mem_of_getElem? h1)
      exact ⟨z1, z2, ws, by rw [upd_ne cL]; exact z3, z4⟩
    · rw [List.getElem?_append_right (by omega)] at h1 h2
      rw [l0] at h1
      cases q : m - acc.length with
      | zero =>
        rw [q] at h1 h2
        cases h1
        cases h2
        exact ⟨Ab, n0, vs, by rw [upd_ne bL]; exact e, dv⟩
      | succ p =>
        rw [q] at h1
        simp at h1
/-- all of them come into the shared part -/
theorem share_all {A0 A B0 H : Hp} {bs : List Addr} (a : Adv A0 A B0 H) (h : ∀ b ∈ bs, A b = none ∧ B0 b = none) : ∃ C0 : Hp, Adv A0 A C0 H ∧ Same B0 C0 ∧ (∀ b, b ∈ bs → C0 b = H b) ∧ ∀ b, b ∉ bs → C0 b = B0 b := by
  refine ⟨fun x => if x ∈ bs then H x else B0 x, ⟨fun b o e => ?_, a.all, fun b o e => ?_, fun b o e => ?_⟩, fun b o e => ?_, fun b hb => if_pos hb, fun b hb => if_neg hb⟩
  · have z := a.sub b o e
    have nb : b ∉ bs := fun q => by rw [(h b q).2] at z; cases z
    show (if b ∈ bs then H b else B0 b) = _
    rw [if_neg nb]
    exact z
  · have e : (if b ∈ bs then H b else B0 b) = some o := e
    split at e
    · exact e
    · exact a.inn b o e
  · have nb : b ∉ bs := fun q => by rw [(h b q).1] at e; cases e
    show (if b ∈ bs then H b else B0 b) = _
    rw [if_neg nb]
    exact a.old b o e
  · have nb : b ∉ bs := fun q => by rw [(h b q).2] at e; cases e
    show (if b ∈ bs then H b else B0 b) = _
    rw [if_neg nb]
    exact e
section
variable {f : Fm} {W : WX} {Γ : List Sl}
def tElN (f : Fm) (el : List Sl → Rs) : TE := fun σ H Q => ∃ Γ, tF f WF Γ (el Γ) σ H Q
theorem gN_mono {tg : Tg} {vs : List Nat} {co : List Sl → R} {el : List Sl → Rs} {σ : L2.St} {L : Addr} {x : V} {H' : Hp} {Q1 Q2 : Hp → Prop} (hq : ∀ H, Q1 H → Q2 H)
    (h : gT f tg x (wipe σ vs) H' fun σ2 H2 => wipe σ2 vs = wipe σ vs ∧ tCo f co σ2 H2 fun b H3 => if b = true then tElN f el σ2 H3 fun y H4 => ∃ acc, H4 L = some (.lst acc) ∧ acc.length < sizeLine ∧ Q1 (upd H4 L (.lst (acc ++ [y]))) else Q1 H3) :
    gT f tg x (wipe σ vs) H' fun σ2 H2 => wipe σ2 vs = wipe σ vs ∧ tCo f co σ2 H2 fun b H3 => if b = true then tElN f el σ2 H3 fun y H4 => ∃ acc, H4 L = some (.lst acc) ∧ acc.length < sizeLine ∧ Q2 (upd H4 L (.lst (acc ++ [y]))) else Q2 H3 := by
  obtain ⟨Γa, Ha, d, Γb, st, dx, ea, g⟩ := h
  refine ⟨Γa, Ha, d, Γb, st, dx, ea, fun σ' hw ho st' => ?_⟩
  obtain ⟨e, Γc, Hc, st2, m⟩ := g σ' hw ho st'
  refine ⟨e, Γc, Hc, st2, ?_⟩
  revert m
  cases co Γc with
  | error e => cases e <;> exact id
  | ok z =>
    cases z with
    | bool b =>
      intro m A0 A1 a
      have m1 := m A0 A1 a
      cases b with
      | true =>
        rw [if_pos rfl] at m1 ⊢
        obtain ⟨Γd, Hd, st3, m2⟩ := m1
        refine ⟨Γd, Hd, st3, ?_⟩
        revert m2
        cases el Γd with
        | error e => cases e <;> exact id
        | ok w => exact fun m a vs B C ad n n0 e d => let ⟨acc, e1, e2, q⟩ := m a vs B C ad n n0 e d; ⟨acc, e1, e2, hq _ q⟩
      | false =>
        rw [if_neg Bool.false_ne_true] at m1 ⊢
        exact hq _ m1
    | _ => exact id
theorem lcn_read {j : Nat} {co : List Sl → R} {el : List Sl → Rs} {r : Rs} {H0 H : Hp} {σ : L2.St} {Q : VK} {ds : List D} {dss : List (List D)} (st : St f Γ H0 σ H) (er : r = .ok ds) (hl : dss.length = ds.length) (hm : ds.length ≤ most)
    (hx : ∀ (n : Nat) (d : D) (xs : List D), ds[n]? = some d → dss[n]? = some xs → ∃ Γ1, asg (.nm j) d (wipeG Γ [j]) = some Γ1 ∧ co Γ1 = .ok (.bool true) ∧ el Γ1 = .ok xs)
    (q : ∀ L A0 A B0 Hn, Adv H0 H A0 A → A L = none → LcN f.K A0 A L dss B0 Hn → Q (.ref L) Hn) : tLc (tI f W Γ r) (gT f (.nm j)) (tCo f co) (tElN f el) [j] σ H Q := by
  subst er
  refine ⟨H0, st, fun J A0 A a0 jt L hL => ?_⟩
  have st0 := st.adv a0
  refine walk_it jt (fun i B0 H => LcN f.K A0 A L (dss.take i) B0 H) ⟨A0, LcN.start st0.sub hL⟩ (fun i B0 H lc => ⟨lc.adv.sub, lc.adv.inn⟩) ?_ ?_
    (Bd := fun i x H' Nx => gT f (.nm j) x (wipe σ [j]) H' fun σ2 H2 => wipe σ2 [j] = wipe σ [j] ∧ tCo f co σ2 H2 fun b H3 => if b = true then tElN f el σ2 H3 fun y H4 => ∃ acc, H4 L = some (.lst acc) ∧ acc.length < sizeLine ∧ Nx (upd H4 L (.lst (acc ++ [y]))) else Nx H3) ?_
  · rintro i d B0 Hi x H' C0 hd lc adv dx
    have hi : i < ds.length := (List.getElem?_eq_some_iff.mp hd).1
    have hxs : dss[i]? = some dss[i] := List.getElem?_eq_getElem (by omega)
    obtain ⟨Γ1, eg, ec, ez⟩ := hx i d _ hd hxs
    have lc1 := lc.go adv
    have st1 : St f (wipeG Γ [j]) C0 (wipe σ [j]) H' := (st0.adv lc1.adv).wipes [j]
    refine ⟨wipeG Γ [j], C0, d, Γ1, st1, dx, eg, fun σ' hw ho st2 => ⟨?_, Γ1, C0, st2, ?_⟩⟩
    · rw [hw [j] (fun n hn => hn), wipe_wipe σ [j] [j] fun _ h => h]
    · rw [ec]
      intro C1 H3 a2
      rw [if_pos rfl]
      refine ⟨Γ1, C1, st2.adv a2, ?_⟩
      rw [ez]
      intro b vs C2 H4 a3 n n0 e dv
      obtain ⟨bs, e1, e2, lc3⟩ := (lc1.go a2).add hL a3 n n0 e dv
      refine ⟨bs.map .ref, e1, ?_, C2, ?_⟩
      · rw [List.length_map, e2, List.length_take]
        exact Nat.lt_of_lt_of_le (show min i dss.length < most + 1 by omega) (by decide)
      · rw [List.take_succ, hxs]
        exact lc3
  · rintro B0 Hn lc
    rw [← hl, List.take_length] at lc
    exact q L A0 A B0 Hn a0 hL lc
  · exact fun i x H' Q1 Q2 hq h => gN_mono hq h
theorem lls_at : ∀ {ds : List D} {dss : List (List D)}, lls ds = some dss → ds = dss.map .list
  | [], dss, h => by cases h; rfl
  | .list xs :: r, dss, h => by
    unfold lls at h
    cases e : lls r with
    | none => rw [e] at h; cases h
    | some z =>
      rw [e] at h
      cases h
      rw [List.map_cons, lls_at e]
  | .none :: _, _, h => by cases h
  | .bool _ :: _, _, h => by cases h
  | .int _ :: _, _, h => by cases h
  | .str _ :: _, _, h => by cases h
  | .tuple _ :: _, _, h => by cases h
  | .dict _ :: _, _, h => by cases h
theorem dpa_of {K : PySem.W.Frag} {C0 : Hp} : ∀ {bs : List Addr} {dss : List (List D)}, bs.length = dss.length → (∀ (n : Nat) (b : Addr) (ds : List D), bs[n]? = some b → dss[n]? = some ds → ∃ vs, C0 b = some (.lst vs) ∧ DpAll K C0 vs ds) → DpAll K C0 (bs.map V.ref) (dss.map .list)
  | [], [], _, _ => .nil
  | b :: bs, ds :: dss, l, h => by
    obtain ⟨vs, e, d⟩ := h 0 b ds rfl rfl
    exact .cons (.lst (SqL.of e) d) (dpa_of (by simpa using l) fun n c es h1 h2 => h (n + 1) c es h1 h2)
  | [], _ :: _, l, _ => by simp at l
  | _ :: _, [], l, _ => by simp at l
/-- the end: one of the lists was changed, all are shared, the name owns the outer one -/
theorem nest_end {A0 A D0 Dh : Hp} {σ : L2.St} {L b : Addr} {bs : List Addr} {dss : List (List D)} {i n : Nat} {ys : List D} {ws : List V} (st : St f Γ A0 σ A) (hi : i < Γ.length) (hL : A L = none) (lc : Adv A0 A D0 Dh) (no : D0 L = none) (eL : Dh L = some (.lst (bs.map V.ref)))
    (l : bs.length = dss.length) (nl : L ∉ bs) (nd : bs.Nodup) (fa : ∀ (n : Nat) (b : Addr) (ds : List D), bs[n]? = some b → dss[n]? = some ds → A b = none ∧ D0 b = none ∧ ∃ vs, Dh b = some (.lst vs) ∧ DpAll f.K D0 vs ds)
    (hb : bs[n]? = some b) (dy : DpAll f.K D0 ws ys) : ∃ C0, Same A0 C0 ∧ St f (Γ.set i (.own ((dss.set n ys).map .list))) C0 (σ.set i (some (.ref L))) (upd Dh b (.lst ws)) := by
  have hn : n < bs.length := (List.getElem?_eq_some_iff.mp hb).1
  obtain ⟨b1, b2, vs0, b3, _⟩ := fa n b dss[n] hb (List.getElem?_eq_getElem (by omega))
  have ad := lc.beside (o := .lst ws) b1 b2
  obtain ⟨C0, aC, sC, on, off⟩ := share_all (bs := bs) ad fun c hc => by
    obtain ⟨z1, z2, _⟩ := LcN.there l fa hc
    exact ⟨z1, z2⟩
  have bL : b ≠ L := fun h => nl (by rw [← h]; exact List.mem_of_getElem? hb)
  have stC := st.adv aC
  refine ⟨C0, aC.sub, stC.putNew hi (fun m q => ?_) ⟨L, bs.map V.ref, rfl, ?_, ?_, ?_, ?_⟩⟩
  · obtain ⟨o, e⟩ := st.there q
    rw [hL] at e
    cases e
  · exact same_fresh st.ent hL
  · rw [off L nl]
    exact no
  · rw [upd_ne bL.symm]
    exact eL
  · refine dpa_of (by rw [List.length_set]; exact l) fun m c es h1 h2 => ?_
    have mem : c ∈ bs := List.mem_of_getElem? h1
    by_cases hm : n = m
    · subst hm
      rw [List.getElem?_set_self (by omega)] at h2
      cases h2
      have : c = b := Option.some.inj (h1.symm.trans hb)
      subst this
      exact ⟨ws, by rw [on c mem, upd_same], dy.mono sC⟩
    · rw [List.getElem?_set_ne hm] at h2
      obtain ⟨_, _, vs, z3, z4⟩ := fa m c es h1 h2
      have cb : c ≠ b := fun e => by
        subst e
        have m1 : m < bs.length := (List.getElem?_eq_some_iff.mp h1).1
        have e1 : bs[m] = bs[n] := by
          rw [List.getElem?_eq_getElem m1] at h1
          rw [List.getElem?_eq_getElem hn] at hb
          rw [Option.some.inj h1, Option.some.inj hb]
        exact hm ((List.getElem_inj nd).mp e1).symm
      exact ⟨vs, by rw [on c mem, upd_ne cb]; exact z3, z4.mono sC⟩
end
/-- the first of the two statements -/
theorem n_lc {f : Fm} {W : WX} {sc : Scope} {cm : Bool} {X : Cx} (S : SS T E f W k N sc cm X) {i j : Nat} {it : CI} {y : Str} {py spos pos : Pos} {elt : Expr} {gs : List Comprehension} {s : Scope} (Γ : List Sl) (hi : N[i]? = some y) (hsw : swB sc y py (.ListComp elt gs s pos) = true)
    (h : ckE T N (.lc [j] (.nm j) it .nil (.blt .list (.cons (.var j) .nil))) sc cm (.ListComp elt gs s pos) = true) :
    PS X (.Assign [.Name y py] (.ListComp elt gs s pos) spos) (tAsg (tLc (tI f W Γ (evI E it Γ)) (gT f (.nm j)) (tCo f fun Γ => evC E .nil Γ) (tElN f fun Γ => evF E (.blt .list (.cons (.var j) .nil)) Γ) [j]) (gName i)) := by
  have hyl : X.env.scope.names.lookup y = some .local := by
    unfold swB at hsw
    simp only [Bool.and_eq_true] at hsw
    rw [S.S.hsc]
    exact eq_of_beq hsw.1.1
  have hw : swapsWith (.ListComp elt gs s pos) (some (.Name y py)) spos.line X.env = pure true := by
    rw [sw_val S.kind, S.S.hsc, hsw]
  have hN : X.N[i]? = some y := by rw [S.S.hN]; exact hi
  have S0 := S.S
  unfold ckE at h
  split at h
  · rename_i x t i' ifs s' p' q
    cases q
    simp only [Bool.and_eq_true] at h
    obtain ⟨⟨⟨⟨⟨⟨⟨h1, h2⟩, h3⟩, h4⟩, h5⟩, h6⟩, h7⟩, h8⟩ := h
    subst h1
    have z := ps_setLc (own := ownOf N [j]) (g := gT f (.nm j)) (tt := tCo f fun Γ => evC E .nil Γ) (te := tElN f fun Γ => evF E (.blt .list (.cons (.var j) .nil)) Γ) (S0.hcm rfl).1 (by rw [S0.hN]; exact S0.nd) hN hyl hw (sI it Γ S0 h5 fun ht => tg_tup h3 ht) (by rw [S0.hN, S0.hsc]; exact blkOk_by h2)
        (fun s1 H C cl fp => g_of S0.blk h3) (fun s1 H C cl fp => PTs.any fun Γ' => sC .nil Γ' S0.blk h7) (fun s1 H C cl fp => PE.any fun Γ' => sF _ Γ' S0.blk rfl h8) (fold_of h6 X.env) (spos := spos)
    rw [own_map] at z
    exact z
  · cases h
theorem ok_of {r : Rs} {ds : List D} {X : Type} {a b : X} (h : r = .ok ds) : r = .ok ds := h
theorem bt_of (j : Nat) (Γ : List Sl) (h : j < Γ.length) {xs : List D} : ∃ Γ1, asg (.nm j) (.list xs) (wipeG Γ [j]) = some Γ1 ∧ evC E .nil Γ1 = .ok (.bool true) ∧ evF E (.blt .list (.cons (.var j) .nil)) Γ1 = .ok xs := by
  have hl : j < (wipeG Γ [j]).length := by
    show j < (Γ.set j .non).length
    rw [List.length_set]
    exact h
  refine ⟨(wipeG Γ [j]).set j (.sh (.list xs)), if_pos hl, rfl, ?_⟩
  show (evs E (.cons (.var j) .nil) _).bind (fun ds => bltF .list ds) = _
  have e : evs E (.cons (.var j) .nil) ((wipeG Γ [j]).set j (.sh (.list xs))) = .ok [.list xs] := by
    show (slV _).bind _ = _
    rw [List.getElem?_set_self hl]
    rfl
  rw [e]
  rfl
theorem p_apN {f : Fm} {W : WX} {sc : Scope} {cm : Bool} {X : Cx} {Γ : List Sl} {i j : Nat} {it : CI} {w e : CE} {s1 s2 : Stmt} {sts : List Stmt} {nx : List Sl → Out} (S : SS T E f W k N sc cm X) (h : ckN T N (.apN i j it w e) sc cm s1 s2 = true)
    (rest : ∀ Γ', PSs X sts (tS f W Γ' (nx Γ'))) {Γ2 : List Sl} (ho : apD Γ i j (evI E it Γ) (ev E w (Γ.set i .non)) (ev E e (Γ.set i .non)) = .nx Γ2) : PSs X (s1 :: s2 :: sts) (tS f W Γ (nx Γ2)) := by
  unfold ckN at h
  dsimp only at h
  split at h
  · rename_i y py elt gs s pos spos y2 p2 ws sp m ap v cpos q
    simp only [Bool.and_eq_true] at h
    obtain ⟨⟨⟨⟨⟨⟨⟨⟨⟨⟨⟨h1, h2⟩, h3⟩, h4⟩, h5⟩, h6⟩, h7⟩, h8⟩, h9⟩, h10⟩, h11⟩, h12⟩ := h
    have em := of_decide_eq_true h4
    subst em
    have ps1 := n_lc (W := W) (spos := spos) S Γ (nm_at h1) h2 h3
    have hs := star_cons h9 [] X.env
    have hv := S.S.var h6 h7 h8 (p := p2)
    have pw := (sE w (Γ.set i .non) S.S h11).pe
    have pv := (sE e (Γ.set i .non) S.S h12).pe
    have hbase : ∀ env, attributeBase (.Subscript (.Name y2 p2) ws sp) "append" env (eval (.Subscript (.Name y2 p2) ws sp) env) = eval (.Subscript (.Name y2 p2) ws sp) env := fun env => rfl
    have ps2 := ps_expr (pos := q) (pe_bm PySem.F.plainAttrs_list PySem.F.slot_list_append PySem.F.type_list_append mt_append (pe_ix ix_list hv pw (plain_of h10)) (pa_cons pv pa_nil hs) (hbase _) (by rw [hs]; rfl) h5 hs rfl) (swaps_of rfl _ _ _)
    refine (pss_cons ps1 (pss_cons ps2 (PSs.any rest))).imp fun Z σ H ⟨H0, st, oo⟩ => ?_
    unfold apD at ho
    split at ho
    · rename_i ds er
      split at ho
      · rename_i dss el
        split at ho
        · rename_i hc
          obtain ⟨c1, c2, c3⟩ := hc
          have eds := lls_at el
          split at ho
          · rename_i n ew
            split at ho
            · rename_i d ee
              split at ho
              · rename_i kk ek
                split at ho
                · rename_i xs ex
                  split at ho
                  · rename_i hmost
                    cases ho
                    unfold tSeq tAsg
                    refine lcn_read (dss := dss) st er (by rw [eds, List.length_map]) (by rw [eds, List.length_map]; exact c1) (fun m dd xs' e1 e2 => ?_) fun L A0 A B0 Hn a0 hL lc => ?_
                    · rw [eds, List.getElem?_map, e2] at e1
                      cases e1
                      exact bt_of j Γ c3
                    · have st1 : St f (Γ.set i .non) B0 (σ.set i (some (.ref L))) Hn := (st.adv (a0.trans lc.adv)).drop i (some (.ref L))
                      have gi : (σ.set i (some (V.ref L)))[i]? = some (some (.ref L)) := List.getElem?_set_self (by rw [← st.len]; exact c2)
                      refine ⟨.ref L, gi, B0, st1, ?_⟩
                      rw [ew]
                      intro vn C0 C a1 dn
                      have en := int_of dn
                      subst en
                      obtain ⟨bs, eL, l, nl, nd, fa⟩ := (lc.go a1).at_
                      have hkk : kk < dss.length := (List.getElem?_eq_some_iff.mp ex).1
                      obtain ⟨b, hb⟩ : ∃ b, bs[kk]? = some b := ⟨_, List.getElem?_eq_getElem (by omega)⟩
                      obtain ⟨z1, z2, vs, z3, z4⟩ := fa kk b xs hb ex
                      refine ⟨L, bs.map .ref, n, .ref b, rfl, rfl, SqL.of eL, ?_, .inl ⟨rfl, vs, SqL.of z3⟩, C0, st1.adv a1, ?_⟩
                      · unfold atI
                        rw [List.length_map, l, ek]
                        show (bs.map V.ref)[kk]? = _
                        rw [List.getElem?_map, hb]
                        rfl
                      · rw [ee]
                        intro vw D0 Dh a2 dw
                        obtain ⟨bs2, eL2, l2, nl2, nd2, fa2⟩ := ((lc.go a1).go a2).at_
                        have same : bs = bs2 := by
                          have z := a2.all _ _ eL
                          rw [eL2] at z
                          have z := (HO.lst.inj (Option.some.inj z)).symm
                          exact (List.map_inj_right (fun p q h => V.ref.inj h)).mp z
                        subst same
                        obtain ⟨C2, sC, stC⟩ := nest_end (σ := σ) (i := i) (n := kk) (ys := xs ++ [d]) (ws := vs ++ [vw]) (st.adv a0) c2 hL ((lc.go a1).go a2).adv ((lc.go a1).go a2).no eL2 l2 nl2 nd2 fa2 hb ((z4.mono a2.sub).app (.cons dw .nil))
                        refine ⟨b, vs, vw, rfl, rfl, a2.all _ _ z3, ?_, _, C2, stC, OutOk.mono (o := nx _) oo (same_trans a0.sub sC)⟩
                        rw [z4.len]
                        exact Nat.lt_of_lt_of_le hmost (by decide)
                  · cases ho
                · cases ho
              · cases ho
            · cases ho
          · cases ho
        · cases ho
      · cases ho
    · cases ho
  · cases h
theorem p_stN {f : Fm} {W : WX} {sc : Scope} {cm : Bool} {X : Cx} {Γ : List Sl} {i j : Nat} {it : CI} {w kk e : CE} {s1 s2 : Stmt} {sts : List Stmt} {nx : List Sl → Out} (S : SS T E f W k N sc cm X) (h : ckN T N (.stN i j it w kk e) sc cm s1 s2 = true)
    (rest : ∀ Γ', PSs X sts (tS f W Γ' (nx Γ'))) {Γ2 : List Sl} (ho : stD Γ i j (evI E it Γ) (ev E w (Γ.set i .non)) (ev E kk (Γ.set i .non)) (ev E e (Γ.set i .non)) = .nx Γ2) : PSs X (s1 :: s2 :: sts) (tS f W Γ (nx Γ2)) := by
  unfold ckN at h
  dsimp only at h
  split at h
  · rename_i y py elt gs s pos spos y2 p2 ws sp ks sp2 v q
    simp only [Bool.and_eq_true] at h
    obtain ⟨⟨⟨⟨⟨⟨⟨⟨⟨⟨h1, h2⟩, h3⟩, h6⟩, h7⟩, h8⟩, h9⟩, h10⟩, h11⟩, h12⟩, h13⟩ := h
    have ps1 := n_lc (W := W) (spos := spos) S Γ (nm_at h1) h2 h3
    have hv := S.S.var h6 h7 h8 (p := p2)
    have pw := (sE w (Γ.set i .non) S.S h11).pe
    have pk := (sE kk (Γ.set i .non) S.S h12).pe
    have pv := (sE e (Γ.set i .non) S.S h13).pe
    have ps2 := ps_asg (pos := q) pv (pg_sub (pos := sp2) (pe_ix (pos := sp) ix_list hv pw (plain_of h9)) pk set_list (fun u => by cases ks <;> first | rfl | (cases h10; done))) sws_sub sst_sub
    refine (pss_cons ps1 (pss_cons ps2 (PSs.any rest))).imp fun Z σ H ⟨H0, st, oo⟩ => ?_
    unfold stD at ho
    split at ho
    · rename_i ds er
      split at ho
      · rename_i dss el
        split at ho
        · rename_i hc
          obtain ⟨c1, c2, c3⟩ := hc
          have eds := lls_at el
          split at ho
          · rename_i d ee
            split at ho
            · rename_i n ew
              split at ho
              · rename_i m emk
                split at ho
                · rename_i kx ek
                  split at ho
                  · rename_i xs ex
                    split at ho
                    · rename_i qx eq
                      cases ho
                      unfold tSeq tAsg
                      refine lcn_read (dss := dss) st er (by rw [eds, List.length_map]) (by rw [eds, List.length_map]; exact c1) (fun m dd xs' e1 e2 => ?_) fun L A0 A B0 Hn a0 hL lc => ?_
                      · rw [eds, List.getElem?_map, e2] at e1
                        cases e1
                        exact bt_of j Γ c3
                      · have st1 : St f (Γ.set i .non) B0 (σ.set i (some (.ref L))) Hn := (st.adv (a0.trans lc.adv)).drop i (some (.ref L))
                        have gi : (σ.set i (some (V.ref L)))[i]? = some (some (.ref L)) := List.getElem?_set_self (by rw [← st.len]; exact c2)
                        refine ⟨B0, st1, ?_⟩
                        rw [ee]
                        intro vw C0 C a1 dw
                        refine ⟨.ref L, gi, C0, st1.adv a1, ?_⟩
                        rw [ew]
                        intro vn D0 Dh a2 dn
                        have en := int_of dn
                        subst en
                        obtain ⟨bs, eL, l, nl, nd, fa⟩ := ((lc.go a1).go a2).at_
                        have hkk : kx < dss.length := (List.getElem?_eq_some_iff.mp ex).1
                        obtain ⟨b, hb⟩ : ∃ b, bs[kx]? = some b := ⟨_, List.getElem?_eq_getElem (by omega)⟩
                        obtain ⟨z1, z2, vs, z3, z4⟩ := fa kx b xs hb ex
                        refine ⟨L, bs.map .ref, n, .ref b, rfl, rfl, SqL.of eL, ?_, D0, (st1.adv a1).adv a2, ?_⟩
                        · unfold atI
                          rw [List.length_map, l, ek]
                          show (bs.map V.ref)[kx]? = _
                          rw [List.getElem?_map, hb]
                          rfl
                        · rw [emk]
                          intro vm F0 Fh a3 dm
                          have emn := int_of dm
                          subst emn
                          obtain ⟨bs2, eL2, l2, nl2, nd2, fa2⟩ := (((lc.go a1).go a2).go a3).at_
                          have same : bs = bs2 := by
                            have z := a3.all _ _ eL
                            rw [eL2] at z
                            have z := (HO.lst.inj (Option.some.inj z)).symm
                            exact (List.map_inj_right (fun p q h => V.ref.inj h)).mp z
                          subst same
                          obtain ⟨C2, sC, stC⟩ := nest_end (σ := σ) (i := i) (n := kx) (ys := xs.set qx d) (ws := vs.set qx vw) (st.adv a0) c2 hL (((lc.go a1).go a2).go a3).adv (((lc.go a1).go a2).go a3).no eL2 l2 nl2 nd2 fa2 hb ((z4.mono a3.sub).setAt (dw.mono (a2.sub.trans a3.sub)) qx)
                          exact ⟨b, vs, m, qx, rfl, rfl, a3.all _ _ z3, by rw [z4.len]; exact eq, _, C2, stC, OutOk.mono (o := nx _) oo (same_trans a0.sub sC)⟩
                    · cases ho
                  · cases ho
                · cases ho
              · cases ho
            · cases ho
          · cases ho
        · cases ho
      · cases ho
    · cases ho
  · cases h
theorem apD_un {Γ : List Sl} {i j : Nat} {r : Rs} {rw re : R} : apD Γ i j r rw re = .un ∨ ∃ Γ2, apD Γ i j r rw re = .nx Γ2 := by
  unfold apD
  repeat (first | split | exact .inl rfl | exact .inr ⟨_, rfl⟩)
theorem stD_un {Γ : List Sl} {i j : Nat} {r : Rs} {rw rk re : R} : stD Γ i j r rw rk re = .un ∨ ∃ Γ2, stD Γ i j r rw rk re = .nx Γ2 := by
  unfold stD
  repeat (first | split | exact .inl rfl | exact .inr ⟨_, rfl⟩)
theorem un_any {f : Fm} {W : WX} {X : Cx} {Γ : List Sl} {sts : List Stmt} : PSs X sts (tS f W Γ .un) := ⟨fun pins s σ H D I ⟨H0, _, h⟩ => h.elim⟩
end Dee

set_option maxRecDepth 100000
set_option maxHeartbeats 8000000
/-! Dee, part 19: the walk of all statements. -/
namespace Dee
open PySem PySem.Spec PyProof.Rows L2

/-- what an except clause makes of an error -/
def catO (sub : Nat → Nat → Bool) (c : Nat) (x : Option Nat) (su : List Sl → Out) (d : Nat) (Γ1 : List Sl) : Out :=
  if sub d d = true then (if sub d c = true then (match x with
      | none => offX none (su Γ1)
      | some i => if i < Γ1.length then offX (some i) (su (Γ1.set i (.exc d))) else .un)
    else .xc d Γ1) else .un
def tryO (o : Out) (g : Nat → List Sl → Out) : Out := match o with
  | .xc d Γ1 => g d Γ1
  | o => o
theorem ex_try (E : Evn) (bd su : CSs) (c : Nat) (x : Option Nat) (Γ : List Sl) : ex E (.try_ bd c x su) Γ = tryO (exs E bd Γ) (catO E.sub c x (exs E su)) := by
  unfold ex tryO
  cases exs E bd Γ <;> rfl
section
variable {T : Tab} {E : Evn} {k : Nat} {N : List Str}
theorem s_try {f : Fm} {W : WX} {sc : Scope} {cm : Bool} {X : Cx} {Γ : List Sl} {c : Nat} {x : Str} {xn : Option (Nat × Str)} {b s1 : List Stmt} {s0 : Stmt} {np p' pos : Pos} {bd su : List Sl → Out} (S : SS T E f W k N sc cm X) (hcm : cm = true) (hnb : T.nb = false) (hc : T.cls[c]? = some x) (hg : glbB sc x = true) (hn : nmOk x = true)
    (hx : ∀ i y, xn = some (i, y) → N[i]? = some y ∧ sc.names.lookup y = some .local)
    (hb : ∀ (W' : WX) (pn : List (Addr × Obj)) (xe : Value → Shared → Prop), SS T E f W' k N sc cm (X.tr pn xe) → PSs (X.tr pn xe) b (tS f W' Γ (bd Γ)))
    (hsu : ∀ (a : Addr) (d : Nat) (Γ' : List Sl) (X' : Cx), SS T E (f.wx a d) (fun _ _ _ _ => False) k N sc false X' → PSs X' (s0 :: s1) (tS (f.wx a d) (fun _ _ _ _ => False) Γ' (su Γ'))) :
    PS X (.Try b [.ExceptHandler (some (.Name x np)) (xn.map (·.2)) (s0 :: s1) p'] [] [] pos) (tS f W Γ (tryO (bd Γ) (catO E.sub c (xn.map (·.1)) su))) := by
  have C := S.S.cls c x hc
  have tk0 : Takes X W := by
    have z := S.S.tk
    rw [hnb] at z
    exact z
  have nmx : Names X x (.ref (f.cl c)) := ⟨S.S.gl hg, (nm_of hn).1, .inl C.g⟩
  let ts : Addr → Value → Option Addr → TS := fun a cls dd Z σ H => ∃ d Γ', cls = .ref (f.cl d) ∧ dd = none ∧ E.sub d d = true ∧ tS (f.wx a d) (fun _ _ _ _ => False) Γ' (su Γ') Z σ H
  have hts : ∀ (a : Addr) (oe : Obj) (cls : Value) (d : Option Addr) (pn : List (Addr × Obj)), Zc cls d oe → (∃ vs, oe.data = .fields vs) → PSs (X.suite a ((a, oe) :: pn)) (s0 :: s1) (ts a cls d) := fun a oe cls dd pn hz hf =>
    ⟨fun pins s σ H Z I ⟨d, Γ', e1, e2, hd, q⟩ => by
      subst e1 e2
      exact (hsu a d Γ' _ (S.suite hcm hd hz hf)).run pins s σ H Z I q⟩
  have body : ∀ (W' : WX) (pn : List (Addr × Obj)) (xe : Value → Shared → Prop), Takes (X.tr pn xe) W' → PassesOwn (model X.prog X.w) X.A X.env xe → PSs (X.tr pn xe) b (tS f W' Γ (bd Γ)) := fun W' pn xe tk po => hb W' pn xe (S.tr (by rw [hnb]; exact tk) po hcm)
  cases xn with
  | none =>
    refine (ps_try_only S.hs S.hf nmx tk0 (tb := fun W' => tS f W' Γ (bd Γ)) (ts := ts) body hts).imp fun Z σ H ⟨H0, q⟩ => ⟨H0, q.1, ?_⟩
    have o := q.2
    revert o
    cases bd Γ with
    | xc d Γ1 =>
      intro o
      have o : OutOk f W (catO E.sub c none su d Γ1) H0 Z := o
      unfold catO at o
      by_cases hd : E.sub d d = true
      · rw [if_pos hd] at o
        refine fun σ' A0 A s st => ⟨E.sub d c, S.exm d c hd ⟨_, hc⟩, fun hb a na => ?_, fun hb => ?_⟩
        · rw [if_pos hb] at o
          exact ⟨d, Γ1, rfl, rfl, hd, A0, st.wx a d, OutOk.mono (off_ok o) s⟩
        · rw [if_neg (by rw [hb]; exact Bool.false_ne_true)] at o
          exact o σ' A0 A s st
      · rw [if_neg hd] at o
        exact o.elim
    | nx Γ1 => exact fun o => o
    | bk Γ1 => exact fun o => o
    | ct Γ1 => exact fun o => o
    | rt d => exact fun o => o
    | rf d => exact fun o => o
    | un => exact fun o => o
  | some iy =>
    obtain ⟨i, y⟩ := iy
    obtain ⟨x1, x2⟩ := hx i y rfl
    refine (ps_try_as S.hs S.hf (by rw [S.S.hN]; exact S.S.nd) (n := y) (i := i) (by rw [S.S.hN]; exact x1) (by show X.env.scope.names.lookup y = _; rw [S.S.hsc]; exact x2) nmx tk0 (tb := fun W' => tS f W' Γ (bd Γ)) (ts := ts) body hts).imp fun Z σ H ⟨H0, q⟩ => ⟨H0, q.1, ?_⟩
    have o := q.2
    revert o
    cases bd Γ with
    | xc d Γ1 =>
      intro o
      have o : OutOk f W (catO E.sub c (some i) su d Γ1) H0 Z := o
      unfold catO at o
      by_cases hd : E.sub d d = true
      · rw [if_pos hd] at o
        refine fun σ' A0 A s st => ⟨E.sub d c, S.exm d c hd ⟨_, hc⟩, fun hb a na => ?_, fun hb => ?_⟩
        · rw [if_pos hb] at o
          have o : OutOk f W (if i < Γ1.length then offX (some i) (su (Γ1.set i (.exc d))) else .un) H0 Z := o
          by_cases hi : i < Γ1.length
          · rw [if_pos hi] at o
            exact ⟨d, _, rfl, rfl, hd, A0, (st.wx a d).putNew (s := .exc d) hi ((st.wx a d).noOwn na) ⟨a, rfl, .inr ⟨rfl, rfl⟩⟩, OutOk.mono (off_ok o) s⟩
          · rw [if_neg hi] at o
            exact o.elim
        · rw [if_neg (by rw [hb]; exact Bool.false_ne_true)] at o
          exact o σ' A0 A s st
      · rw [if_neg hd] at o
        exact o.elim
    | nx Γ1 => exact fun o => o
    | bk Γ1 => exact fun o => o
    | ct Γ1 => exact fun o => o
    | rt d => exact fun o => o
    | rf d => exact fun o => o
    | un => exact fun o => o

/-- two clauses -/
def catO2 (sub : Nat → Nat → Bool) (c : Nat) (su : List Sl → Out) (c2 : Nat) (su2 : List Sl → Out) (d : Nat) (Γ1 : List Sl) : Out :=
  if sub d d = true then (if sub d c = true then offX none (su Γ1) else if sub d c2 = true then offX none (su2 Γ1) else .xc d Γ1) else .un
theorem ex_try2 (E : Evn) (bd su su2 : CSs) (c c2 : Nat) (Γ : List Sl) : ex E (.try2 bd c su c2 su2) Γ = tryO (exs E bd Γ) (catO2 E.sub c (exs E su) c2 (exs E su2)) := by
  unfold ex tryO
  cases exs E bd Γ <;> rfl
theorem s_try2 {f : Fm} {W : WX} {sc : Scope} {cm : Bool} {X : Cx} {Γ : List Sl} {c c2 : Nat} {x y : Str} {b s1 t1 : List Stmt} {s0 t0 : Stmt} {np np2 p' p2' pos : Pos} {bd su su2 : List Sl → Out} (S : SS T E f W k N sc cm X) (hcm : cm = true) (hnb : T.nb = false)
    (hc : T.cls[c]? = some x) (hg : glbB sc x = true) (hn : nmOk x = true) (hc2 : T.cls[c2]? = some y) (hg2 : glbB sc y = true) (hn2 : nmOk y = true)
    (hb : ∀ (W' : WX) (pn : List (Addr × Obj)) (xe : Value → Shared → Prop), SS T E f W' k N sc cm (X.tr pn xe) → PSs (X.tr pn xe) b (tS f W' Γ (bd Γ)))
    (hsu : ∀ (a : Addr) (d : Nat) (Γ' : List Sl) (X' : Cx), SS T E (f.wx a d) (fun _ _ _ _ => False) k N sc false X' → PSs X' (s0 :: s1) (tS (f.wx a d) (fun _ _ _ _ => False) Γ' (su Γ')))
    (hsu2 : ∀ (a : Addr) (d : Nat) (Γ' : List Sl) (X' : Cx), SS T E (f.wx a d) (fun _ _ _ _ => False) k N sc false X' → PSs X' (t0 :: t1) (tS (f.wx a d) (fun _ _ _ _ => False) Γ' (su2 Γ'))) :
    PS X (.Try b [.ExceptHandler (some (.Name x np)) none (s0 :: s1) p', .ExceptHandler (some (.Name y np2)) none (t0 :: t1) p2'] [] [] pos) (tS f W Γ (tryO (bd Γ) (catO2 E.sub c su c2 su2))) := by
  have tk0 : Takes X W := by
    have z := S.S.tk
    rw [hnb] at z
    exact z
  have nm1 : Names X x (.ref (f.cl c)) := ⟨S.S.gl hg, (nm_of hn).1, .inl (S.S.cls c x hc).g⟩
  have nm2 : Names X y (.ref (f.cl c2)) := ⟨S.S.gl hg2, (nm_of hn2).1, .inl (S.S.cls c2 y hc2).g⟩
  let ts : (List Sl → Out) → Addr → Value → Option Addr → TS := fun su a cls dd Z σ H => ∃ d Γ', cls = .ref (f.cl d) ∧ dd = none ∧ E.sub d d = true ∧ tS (f.wx a d) (fun _ _ _ _ => False) Γ' (su Γ') Z σ H
  have h1 : ∀ (a : Addr) (oe : Obj) (cls : Value) (d : Option Addr) (pn : List (Addr × Obj)), Zc cls d oe → (∃ vs, oe.data = .fields vs) → PSs (X.suite a ((a, oe) :: pn)) (s0 :: s1) (ts su a cls d) := fun a oe cls dd pn hz hf =>
    ⟨fun pins s σ H Z I ⟨d, Γ', e1, e2, hd, q⟩ => by
      subst e1 e2
      exact (hsu a d Γ' _ (S.suite hcm hd hz hf)).run pins s σ H Z I q⟩
  have h2 : ∀ (a : Addr) (oe : Obj) (cls : Value) (d : Option Addr) (pn : List (Addr × Obj)), Zc cls d oe → (∃ vs, oe.data = .fields vs) → PSs (X.suite a ((a, oe) :: pn)) (t0 :: t1) (ts su2 a cls d) := fun a oe cls dd pn hz hf =>
    ⟨fun pins s σ H Z I ⟨d, Γ', e1, e2, hd, q⟩ => by
      subst e1 e2
      exact (hsu2 a d Γ' _ (S.suite hcm hd hz hf)).run pins s σ H Z I q⟩
  have body : ∀ (W' : WX) (pn : List (Addr × Obj)) (xe : Value → Shared → Prop), Takes (X.tr pn xe) W' → PassesOwn (model X.prog X.w) X.A X.env xe → PSs (X.tr pn xe) b (tS f W' Γ (bd Γ)) := fun W' pn xe tk po => hb W' pn xe (S.tr (by rw [hnb]; exact tk) po hcm)
  refine (ps_try_many S.hs S.hf tk0 (tb := fun W' => tS f W' Γ (bd Γ)) body (.cons nm1 h1 (.cons nm2 h2 .nil))).imp fun Z σ H ⟨H0, q⟩ => ⟨H0, q.1, ?_⟩
  have o := q.2
  revert o
  cases bd Γ with
  | xc d Γ1 =>
    intro o
    have o : OutOk f W (catO2 E.sub c su c2 su2 d Γ1) H0 Z := o
    unfold catO2 at o
    by_cases hd : E.sub d d = true
    · rw [if_pos hd] at o
      refine fun σ' A0 A s st => ⟨E.sub d c, S.exm d c hd ⟨_, hc⟩, fun hb a na => ?_, fun hb => ⟨E.sub d c2, S.exm d c2 hd ⟨_, hc2⟩, fun hb2 a na => ?_, fun hb2 => ?_⟩⟩
      · rw [if_pos hb] at o
        exact ⟨d, Γ1, rfl, rfl, hd, A0, st.wx a d, OutOk.mono (off_ok o) s⟩
      · rw [if_neg (by rw [hb]; exact Bool.false_ne_true), if_pos hb2] at o
        exact ⟨d, Γ1, rfl, rfl, hd, A0, st.wx a d, OutOk.mono (off_ok o) s⟩
      · rw [if_neg (by rw [hb]; exact Bool.false_ne_true), if_neg (by rw [hb2]; exact Bool.false_ne_true)] at o
        exact o σ' A0 A s st
    · rw [if_neg hd] at o
      exact o.elim
  | nx Γ1 => exact fun o => o
  | bk Γ1 => exact fun o => o
  | ct Γ1 => exact fun o => o
  | rt d => exact fun o => o
  | rf d => exact fun o => o
  | un => exact fun o => o

def seqO (o : Out) (nx : List Sl → Out) : Out := match o with
  | .nx Γ1 => nx Γ1
  | .rt d => .rt d
  | .rf ds => .rf ds
  | .bk Γ => .bk Γ
  | .ct Γ => .ct Γ
  | .xc c Γ => .xc c Γ
  | .un => .un
theorem exs_cons (E : Evn) (c : CS) (cs : CSs) (Γ : List Sl) : exs E (.cons c cs) Γ = seqO (ex E c Γ) (fun Γ1 => exs E cs Γ1) := by
  show (match ex E c Γ with
    | .nx Γ1 => exs E cs Γ1
    | .rt d => .rt d
    | .rf ds => .rf ds
    | .bk Γ => .bk Γ
    | .ct Γ => .ct Γ
    | .xc c Γ => .xc c Γ
    | .un => .un) = _
  unfold seqO
  cases ex E c Γ <;> rfl
theorem s_cons {f : Fm} {W : WX} {X : Cx} {Γ : List Sl} {st : Stmt} {sts : List Stmt} {o : Out} {nx : List Sl → Out} (h1 : PS X st (tS f W Γ o)) (h2 : ∀ Γ', PSs X sts (tS f W Γ' (nx Γ'))) : PSs X (st :: sts) (tS f W Γ (seqO o nx)) := by
  refine (pss_cons h1 (PSs.any h2)).imp fun Z σ H ⟨H0, q⟩ => ⟨H0, q.1, ?_⟩
  have o := q.2
  revert o
  cases o with
  | nx Γ1 => exact fun o σ' A0 A s st => ⟨Γ1, A0, st, OutOk.mono (o := nx Γ1) o s⟩
  | bk Γ1 => exact fun o => o
  | ct Γ1 => exact fun o => o
  | rt d => exact fun o => o
  | rf d => exact fun o => o
  | xc c Γ1 => exact fun o => o
  | un => exact fun o => o
theorem s_frz {f : Fm} {W : WX} {X : Cx} {Γ : List Sl} {i : Nat} {sts : List Stmt} {nx : List Sl → Out} (h2 : ∀ Γ', PSs X sts (tS f W Γ' (nx Γ'))) : PSs X sts (tS f W Γ (match Γ[i]? with
    | some (.own ds) => nx (Γ.set i (.sh (.list ds)))
    | _ => nx Γ)) := by
  refine (PSs.any h2).imp fun Z σ H ⟨H0, q⟩ => ?_
  cases e : Γ[i]? with
  | none =>
    rw [e] at q
    exact ⟨Γ, H0, q⟩
  | some sl =>
    rw [e] at q
    cases sl with
    | own ds =>
      obtain ⟨A0, s, st⟩ := q.1.frz e
      exact ⟨_, A0, st, OutOk.mono (o := nx (Γ.set i (.sh (.list ds)))) q.2 s⟩
    | _ => exact ⟨Γ, H0, q⟩

mutual
theorem sS : ∀ (c : CS) {f : Fm} {W : WX} {sc : Scope} {cm : Bool} {X : Cx} {st : Stmt} (Γ : List Sl), SS T E f W k N sc cm X → ckS T N c sc cm st = true → PS X st (tS f W Γ (ex E c Γ))
  | .pass, f, W, sc, cm, X, st, Γ, S, h => by
    unfold ckS at h
    split at h
    · exact ps_pass.imp fun Z σ H ⟨H0, q⟩ => q.nx (same_refl _) q.1
    · exact ps_doc.imp fun Z σ H ⟨H0, q⟩ => q.nx (same_refl _) q.1
    · cases h
  | .set i e, f, W, sc, cm, X, st, Γ, S, h => by
    unfold ckS at h
    split at h
    · simp only [Bool.and_eq_true] at h
      exact s_set (a_V e Γ S h.1.1 h.1.2 h.2)
    · cases h
  | .setO i e, f, W, sc, cm, X, st, Γ, S, h => by
    unfold ckS at h
    split at h
    · simp only [Bool.and_eq_true] at h
      exact s_setO (a_F e Γ S h.1.1.1 h.1.2 h.1.1.2 h.2)
    · cases h
  | .setT is e, f, W, sc, cm, X, st, Γ, S, h => by
    unfold ckS at h
    split at h
    · simp only [Bool.and_eq_true] at h
      exact s_setT (g_of S.S h.1.2) h.1.1.2 (sE e Γ S.S h.2).pe
    · cases h
  | .par i j a b, f, W, sc, cm, X, st, Γ, S, h => by
    unfold ckS at h
    split at h
    · simp only [Bool.and_eq_true, Bool.not_eq_true'] at h
      obtain ⟨⟨⟨⟨⟨⟨⟨⟨⟨⟨⟨⟨⟨h1, h2⟩, h3⟩, h4⟩, h5⟩, h6⟩, h7⟩, h8⟩, h9⟩, h10⟩, h11⟩, h12⟩, h13⟩, h14⟩ := h
      exact s_par (S.S.hcm h1).1 (by rw [S.S.hN]; exact S.S.nd) (by rw [S.S.hN]; exact nm_at h2) (by rw [S.S.hN]; exact nm_at h3) (of_decide_eq_true h4) S.kind (by rw [S.S.hsc]; exact eq_of_beq h5) (by rw [S.S.hsc]; exact eq_of_beq h6) h7 (of_decide_eq_true h8) h9 h10 h11 h12
        (sE a Γ S.S h13).pe (sE b Γ S.S h14).pe
    · cases h
  | .aug i o e, f, W, sc, cm, X, st, Γ, S, h => by
    unfold ckS at h
    cases h
  | .app i e, f, W, sc, cm, X, st, Γ, S, h => by
    unfold ckS at h
    split at h
    · simp only [Bool.and_eq_true] at h
      obtain ⟨⟨⟨⟨⟨⟨h1, h2⟩, h3⟩, h4⟩, h5⟩, h6⟩, h7⟩ := h
      have e1 := of_decide_eq_true h1
      subst e1
      exact s_app (S.S.var h3 h4 h5) h2 h6 (sE e Γ S.S h7).pe
    · cases h
  | .six i kk e, f, W, sc, cm, X, st, Γ, S, h => by
    unfold ckS at h
    split at h
    · simp only [Bool.and_eq_true] at h
      obtain ⟨⟨⟨⟨⟨h1, h2⟩, h3⟩, h4⟩, h5⟩, h6⟩ := h
      exact s_six (S.S.var h1 h2 h3) (sE e Γ S.S h6).pe (sE kk Γ S.S h4).pe h5
    · cases h
  | .augS i kk e, f, W, sc, cm, X, st, Γ, S, h => by
    unfold ckS at h
    split at h
    · simp only [Bool.and_eq_true] at h
      obtain ⟨⟨⟨⟨⟨h1, h2⟩, h3⟩, h4⟩, h5⟩, h6⟩ := h
      exact s_augS (S.S.var h1 h2 h3) (sE e Γ S.S h6).pe (sE kk Γ S.S h4).pe h5
    · cases h
  | .try2 bd c su c2 su2, f, W, sc, cm, X, st, Γ, S, h => by
    unfold ckS at h
    split at h
    · simp only [Bool.and_eq_true] at h
      obtain ⟨⟨⟨⟨⟨⟨⟨⟨⟨⟨h1, h0⟩, h2⟩, h3⟩, h4⟩, h5⟩, h6⟩, h7⟩, h8⟩, h9⟩, h10⟩ := h
      rw [ex_try2]
      exact s_try2 S h1 (by simpa using h0) (of_decide_eq_true h2) h3 h4 (of_decide_eq_true h5) h6 h7 (fun W' pn xe S' => sSs bd Γ S' h8) (fun a d Γ' X' S' => sSs su Γ' S' h9) (fun a d Γ' X' S' => sSs su2 Γ' S' h10)
    · cases h
  | .tryR _ _ _ _, f, W, sc, cm, X, st, Γ, S, h => by
    unfold ckS at h
    cases h
  | .apN _ _ _ _ _, f, W, sc, cm, X, st, Γ, S, h => by
    unfold ckS at h
    cases h
  | .stN _ _ _ _ _ _, f, W, sc, cm, X, st, Γ, S, h => by
    unfold ckS at h
    cases h
  | .newD1 i kk e, f, W, sc, cm, X, st, Γ, S, h => by
    unfold ckS at h
    split at h
    · simp only [Bool.and_eq_true] at h
      obtain ⟨⟨p0, h1⟩, h2⟩ := h
      obtain ⟨p1, p2, p3⟩ := put_of p0
      exact s_newD1 (by rw [S.S.hN]; exact S.S.nd) (by rw [S.S.hN]; exact p1) (by rw [S.S.hsc]; exact p2) (.inl (S.S.fn _ rfl)) (sE kk Γ S.S h1).pe (sE e Γ S.S h2).pe
    · cases h
  | .mvD i j, f, W, sc, cm, X, st, Γ, S, h => by
    unfold ckS at h
    split at h
    · simp only [Bool.and_eq_true] at h
      obtain ⟨⟨⟨p0, h1⟩, h2⟩, h3⟩ := h
      obtain ⟨p1, p2, p3⟩ := put_of p0
      exact s_mvD (ps_set (by rw [S.S.hN]; exact S.S.nd) (by rw [S.S.hN]; exact p1) (by rw [S.S.hsc]; exact p2) (S.S.var h1 h2 h3) (swaps_of rfl _ _ _) (.inl (S.S.fn _ rfl)))
    · cases h
  | .newD i t, f, W, sc, cm, X, st, Γ, S, h => by
    unfold ckS at h
    split at h
    · obtain ⟨p1, p2, p3⟩ := put_of h
      exact s_newD (ps_set (by rw [S.S.hN]; exact S.S.nd) (by rw [S.S.hN]; exact p1) (by rw [S.S.hsc]; exact p2) pe_dnewK (swaps_of rfl _ _ _) (.inl (S.S.fn _ rfl)))
    · cases h
  | .dput i kk e, f, W, sc, cm, X, st, Γ, S, h => by
    unfold ckS at h
    split at h
    · simp only [Bool.and_eq_true] at h
      obtain ⟨⟨⟨⟨⟨h1, h2⟩, h3⟩, h4⟩, h5⟩, h6⟩ := h
      exact s_dput S.S.u1 (S.S.var h1 h2 h3) (sE e Γ S.S h6).pe (sE kk Γ S.S h5).pe h4
    · cases h
  | .ret e, f, W, sc, cm, X, st, Γ, S, h => by
    unfold ckS at h
    split at h
    · exact s_ret (sE e Γ S.S h).pe
    · cases h
  | .retN, f, W, sc, cm, X, st, Γ, S, h => by
    unfold ckS at h
    split at h
    · exact ps_retN.imp fun Z σ H ⟨H0, q⟩ => q.2 .non σ Γ H0 H (same_refl _) q.1 .non
    · cases h
  | .retF e, f, W, sc, cm, X, st, Γ, S, h => by
    unfold ckS at h
    split at h
    · rw [Bool.and_eq_true] at h
      exact s_retF (sF e Γ S.S h.1 h.2)
    · cases h
  | .retO i, f, W, sc, cm, X, st, Γ, S, h => by
    unfold ckS at h
    split at h
    · simp only [Bool.and_eq_true] at h
      exact s_retO (S.S.var h.1.1 h.1.2 h.2)
    · cases h
  | .retC g es, f, W, sc, cm, X, st, Γ, S, h => by
    unfold ckS at h
    split at h
    · exact s_retC (sC2 g es Γ S.S h).1
    · cases h
  | .setC i g es, f, W, sc, cm, X, st, Γ, S, h => by
    unfold ckS at h
    split at h
    · simp only [Bool.and_eq_true] at h
      exact s_setC (a_C g es Γ S h.1.1 h.2)
    · cases h
  | .appC g es e, f, W, sc, cm, X, st, Γ, S, h => by
    unfold ckS at h
    split at h
    · simp only [Bool.and_eq_true] at h
      obtain ⟨⟨⟨⟨h1, h2⟩, h3⟩, h4⟩, h5⟩ := h
      have e1 := of_decide_eq_true h1
      subst e1
      obtain ⟨a1, a2⟩ := sC2 g es Γ S.S h3
      exact s_appC a2 a1 h2 h4 (sE e Γ S.S h5).pe
    · cases h
  | .iff c a b, f, W, sc, cm, X, st, Γ, S, h => by
    unfold ckS at h
    split at h
    · simp only [Bool.and_eq_true] at h
      obtain ⟨⟨⟨h1, h2⟩, h3⟩, h4⟩ := h
      exact s_if ((sE c Γ S.S h2).pt h1) (sSs a Γ S h3) (sSs b Γ S h4)
    · cases h
  | .iffB is c a b, f, W, sc, cm, X, st, Γ, S, h => by
    unfold ckS at h
    split at h
    · simp only [Bool.and_eq_true] at h
      obtain ⟨⟨⟨h1, h2⟩, h3⟩, h4⟩ := h
      exact s_ifB ((sE c (frzs is Γ) S.S h2).pt h1) (sSs a Γ S h3) (sSs b Γ S h4)
    · cases h
  | .setB is i e, f, W, sc, cm, X, st, Γ, S, h => by
    unfold ckS at h
    split at h
    · simp only [Bool.and_eq_true] at h
      exact s_setB (a_V e (frzs is Γ) S h.1.1 h.1.2 h.2)
    · cases h
  | .for tg it bd, f, W, sc, cm, X, st, Γ, S, h => by
    unfold ckS at h
    split at h
    · simp only [Bool.and_eq_true] at h
      obtain ⟨⟨⟨⟨h1, h2⟩, h3⟩, h4⟩, h5⟩ := h
      exact s_for S.po (S.S.hcm h1).1 (sI it Γ S.S h3 fun ht => tg_tup h2 ht) (g_of S.S h2) (fun Γ' => sSs bd Γ' S h5) (fold_of h4 X.env)
    · cases h
  | .whl n c bd, f, W, sc, cm, X, st, Γ, S, h => by
    unfold ckS at h
    split at h
    · simp only [Bool.and_eq_true] at h
      obtain ⟨⟨h1, h2⟩, h3⟩ := h
      exact s_whl n S.po (fun Γ' => (sE c Γ' S.S h2).pt h1) (fun Γ' => sSs bd Γ' S h3)
    · cases h
  | .brk, f, W, sc, cm, X, st, Γ, S, h => by
    unfold ckS at h
    split at h
    · exact ps_break.imp fun Z σ H ⟨H0, q⟩ => q.2 σ H0 H (same_refl _) q.1
    · cases h
  | .cnt, f, W, sc, cm, X, st, Γ, S, h => by
    unfold ckS at h
    split at h
    · exact ps_continue.imp fun Z σ H ⟨H0, q⟩ => q.2 σ H0 H (same_refl _) q.1
    · cases h
  | .raise c, f, W, sc, cm, X, st, Γ, S, h => by
    unfold ckS at h
    split at h
    · simp only [Bool.and_eq_true] at h
      obtain ⟨⟨⟨h1, h2⟩, h3⟩, h4⟩ := h
      exact s_raise (S.S.hcm h1).1 S.S.tk (S.S.gl h3) (nm_of h4).1 (S.S.cls _ _ (of_decide_eq_true h2))
    · cases h
  | .try_ bd c none su, f, W, sc, cm, X, st, Γ, S, h => by
    unfold ckS at h
    split at h
    · simp only [Bool.and_eq_true] at h
      obtain ⟨⟨⟨⟨⟨⟨h1, h0⟩, h2⟩, h3⟩, h4⟩, h5⟩, h6⟩ := h
      rw [ex_try]
      exact s_try (xn := none) S h1 (by simpa using h0) (of_decide_eq_true h2) h3 h4 (fun _ _ z => nomatch z) (fun W' pn xe S' => sSs bd Γ S' h5) (fun a d Γ' X' S' => sSs su Γ' S' h6)
    · cases h
  | .try_ bd c (some i) su, f, W, sc, cm, X, st, Γ, S, h => by
    unfold ckS at h
    split at h
    · simp only [Bool.and_eq_true] at h
      obtain ⟨⟨⟨⟨⟨⟨⟨⟨h1, h0⟩, h2⟩, h3⟩, h4⟩, h7⟩, h8⟩, h5⟩, h6⟩ := h
      rw [ex_try]
      exact s_try (xn := some (i, _)) S h1 (by simpa using h0) (of_decide_eq_true h2) h3 h4 (fun j y z => by cases z; exact ⟨nm_at h7, eq_of_beq h8⟩) (fun W' pn xe S' => sSs bd Γ S' h5) (fun a d Γ' X' S' => sSs su Γ' S' h6)
    · cases h
  | .expr e, f, W, sc, cm, X, st, Γ, S, h => by
    unfold ckS at h
    split at h
    · rw [Bool.and_eq_true] at h
      exact s_expr h.1 (sE e Γ S.S h.2).pe
    · cases h
theorem sSs : ∀ (cs : CSs) {f : Fm} {W : WX} {sc : Scope} {cm : Bool} {X : Cx} {sts : List Stmt} (Γ : List Sl), SS T E f W k N sc cm X → ckSs T N cs sc cm sts = true → PSs X sts (tS f W Γ (exs E cs Γ))
  | .nil, f, W, sc, cm, X, sts, Γ, S, h => by
    unfold ckSs at h
    split at h
    · exact pss_nil.imp fun Z σ H ⟨H0, q⟩ => q.nx (same_refl _) q.1
    · cases h
  | .cons c cs, f, W, sc, cm, X, sts, Γ, S, h => by
    unfold ckSs at h
    split at h
    · rw [Bool.or_eq_true] at h
      rcases h with h | h
      · rw [Bool.and_eq_true] at h
        rw [exs_cons]
        exact s_cons (sS c Γ S h.1) fun Γ' => sSs cs Γ' S h.2
      · split at h
        · rename_i s1 s2 sts2
          rw [Bool.and_eq_true] at h
          obtain ⟨hN, hR⟩ := h
          cases c <;> first | (cases hN; done) | skip
          · rename_i i j it w e
            rw [exs_cons]
            show PSs X _ (tS f W Γ (seqO (apD Γ i j (evI E it Γ) (ev E w (Γ.set i .non)) (ev E e (Γ.set i .non))) fun Γ1 => exs E cs Γ1))
            rcases apD_un (Γ := Γ) (i := i) (j := j) (r := evI E it Γ) (rw := ev E w (Γ.set i .non)) (re := ev E e (Γ.set i .non)) with q | ⟨Γ2, q⟩
            · rw [q]
              exact un_any
            · rw [q]
              exact p_apN S hN (fun Γ' => sSs cs Γ' S hR) q
          · rename_i i j it w kk e
            rw [exs_cons]
            show PSs X _ (tS f W Γ (seqO (stD Γ i j (evI E it Γ) (ev E w (Γ.set i .non)) (ev E kk (Γ.set i .non)) (ev E e (Γ.set i .non))) fun Γ1 => exs E cs Γ1))
            rcases stD_un (Γ := Γ) (i := i) (j := j) (r := evI E it Γ) (rw := ev E w (Γ.set i .non)) (rk := ev E kk (Γ.set i .non)) (re := ev E e (Γ.set i .non)) with q | ⟨Γ2, q⟩
            · rw [q]
              exact un_any
            · rw [q]
              exact p_stN S hN (fun Γ' => sSs cs Γ' S hR) q
        · cases h
    · cases h
  | .frz i cs, f, W, sc, cm, X, sts, Γ, S, h => by
    unfold ckSs at h
    exact s_frz fun Γ' => sSs cs Γ' S h
end
end
end Dee

set_option maxRecDepth 100000
set_option maxHeartbeats 8000000
/-! Dee, part T: a try whose suite raises another error, from None. -/
namespace Dee
open PySem PySem.Spec PyProof.Rows L2
/-- C('..') as an exception with its six fields -/
theorem mk5_own {X : Cx} {C : Addr} {x m : Str} {j : Nat} {p p2 pos : Pos} (O : ClsOk X x C) (hg : Gl X x) (hdb : (x == ("__debug__" : Str)) = false) : L2H.PMk5 X (.Call (.Name x p) [.Constant (.str m) j p2] [] pos) (fun _ H Q => Q (.ref C) none H) := by
  intro pn st σ H Q J want
  have arg : PA X [.Constant (.str m) j p2] (tCons (tC (.str m)) tNil) := pa_cons pe_str pa_nil
  refine wpAny_Call_Name_kw (ld_glob J hg O.g (PySem.W.callWith_K (h₀ := X.base) J.ok.mod.kin O.k (thn (arg.run pos pn st σ H (fun vs G => vs = [V.str m] ∧ H = G) J ⟨rfl, rfl⟩) fun us s1 got => ?_)) hdb)
  obtain ⟨vs, G, J1, rel, e1, e2⟩ := got
  subst e1
  rw [← e2] at J1
  refine ⟨J1.kIn, ?_⟩
  match us, rel with
  | [u], .cons ru .nil =>
    obtain ⟨bm, N, nm, qn, bs, hdct, sn, sub, ab, col, dd, k0, k1, k2, k3, k5, mN, hC, hN, hni, T⟩ := exc_obj J1.kIn O.ex
    exact wpAny_call_exc_subT PySem.F.excBase_ValueError T hC hN hni (fun h' e made => L2H.mk_of5 J1 made O.r want (J1.hok.gone made.new)) (by rw [sizeLine_eq]; show 1 ≤ _; omega)
section
variable {T : Tab} {E : Evn} {k : Nat} {N : List Str}
theorem s_tryR {f : Fm} {W : WX} {sc : Scope} {X : Cx} {Γ : List Sl} (S : SS T E f W k N sc true X) (hnb : T.nb = false) (hpa : ∀ hd : Option Value, PassesOwnAt (model X.prog X.w) (X.A.mark hd) X.A X.env X.xe)
    {g i c d : Nat} {a : Addr} {fd : FuncData} {ps : List Str} {fx x y z m : Str} {j1 j2 : Nat} {p1 p2 p3 p4 p5 p6 p7 p8 p9 p10 p11 pos : Pos}
    (F : FnG true X.prog X.w X.K X.mg X.base k a fd ps (spD X.K f.cl ps.length (E.F g))) (hm : X.mg fx = some (.ref a)) (hk : PySem.W.keepIn X.K (.ref a) = true) (hb : Binds X.K fd ps []) (har : ∀ ds, ds.length ≠ ps.length → E.F g ds = unk)
    (hfx : glbB sc fx = true) (nfx : nmOk fx = true) (x1 : isNm N i x = true) (x2 : visB sc x = true) (x3 : nmOk x = true) (hc : T.cls[c]? = some y) (y1 : glbB sc y = true) (y2 : nmOk y = true) (hd : T.cls[d]? = some z) (z1 : glbB sc z = true) (z2 : nmOk z = true) :
    PS X (.Try [.Expr (.Call (.Name fx p1) [.Name x p2] [] p3) p4] [.ExceptHandler (some (.Name y p5)) none [.Raise (some (.Call (.Name z p6) [.Constant (.str m) j1 p7] [] p8)) (some (.Constant .none j2 p9)) p10] p11] [] [] pos) (tS f W Γ (ex E (.tryR g i c d) Γ)) := by
  have C := S.S.cls c y hc
  have Z := S.S.cls d z hd
  have nmx : Names X y (.ref (f.cl c)) := ⟨S.S.gl y1, (nm_of y2).1, .inl C.g⟩
  have tk0 : Takes X W := by
    have t := S.S.tk
    rw [hnb] at t
    exact t
  let ts : Addr → Value → Option Addr → TS := fun _ _ _ _ σ H => W (.ref (f.cl d)) none σ H
  have hts : ∀ (a : Addr) (oe : Obj) (cls : Value) (dd : Option Addr) (pn : List (Addr × Obj)), L2N.Zn cls dd oe → (∃ vs, oe.data = .fields vs) → L2.Takes (L2H.suiteX X a ((a, oe) :: pn)) W → L2H.HotC (L2H.suiteX X a ((a, oe) :: pn)) →
      PSs (L2H.suiteX X a ((a, oe) :: pn)) [.Raise (some (.Call (.Name z p6) [.Constant (.str m) j1 p7] [] p8)) (some (.Constant .none j2 p9)) p10] (ts a cls dd) := fun a oe cls dd pn hz hf tkX hot =>
    (pss_one (L2H.ps_raiseHN hot tkX (mk5_own (X := L2H.suiteX X a ((a, oe) :: pn)) ⟨Z.g, Z.k, Z.ex, Z.r⟩ (S.S.gl z1) (nm_of z2).1))).imp fun D σ H h => h
  let tb : WX → TS := fun W' D σ H => ∃ v, σ[i]? = some (some v) ∧ spD X.K f.cl ps.length (E.F g) [v] H (fun _ H' => D.nx σ H') (fun cls d H' => W' cls d σ H')
  have body : ∀ (W' : WX) (pn : List (Addr × Obj)) (xe : Value → Shared → Prop), L2N.Takes (X.tr pn xe) W' → L2.Takes (X.tr pn xe) (L2H.wPass X.K (.ref (f.cl c)) W) → PassesOwn (model X.prog X.w) X.A X.env xe → PSs (X.tr pn xe) [.Expr (.Call (.Name fx p1) [.Name x p2] [] p3) p4] (tb W') := fun W' pn xe tkN tkP po => by
    have S' : SS T E f (L2H.wPass X.K (.ref (f.cl c)) W) k N sc true (X.tr pn xe) := S.tr (by rw [hnb]; exact tkP) po rfl
    exact (pss_one (ps_expr (pe_callG (X := X.tr pn xe) (nb := true) (W := W') F (S'.S.hcm rfl).2 S'.S.gd (S'.S.gl hfx) hm hk hb tkN (pa_cons (S'.S.var x1 x2 x3) pa_nil) (nm_of nfx).1 rfl rfl) (swaps_of rfl _ _ _))).imp fun D σ H ⟨v, eo, q⟩ => ⟨v, eo, q⟩
  refine (L2H.ps_try_onlyX S.hs S.hf nmx hpa tk0 (tb := tb) (ts := ts) body hts).imp fun D σ H ⟨H0, q⟩ => ?_
  have q : So f W Γ (ofR (slV Γ[i]?) Γ fun x => (match E.F g [x] with
    | .ok _ => .nx Γ
    | .error (some c') => if E.sub c' c' = true then (if E.sub c' c = true then .xc d Γ else .xc c' Γ) else .un
    | .error none => .un)) H0 σ H D := q
  cases e : Γ[i]? with
  | none =>
    rw [e] at q
    exact q.2.elim
  | some s =>
    rw [e] at q
    cases s with
    | sh dx =>
      obtain ⟨o, eo, v, rfl, dv⟩ := q.1.sl i _ e
      have q : So f W Γ (match E.F g [dx] with
        | .ok _ => .nx Γ
        | .error (some c') => if E.sub c' c' = true then (if E.sub c' c = true then .xc d Γ else .xc c' Γ) else .un
        | .error none => .un) H0 σ H D := q
      have one : [v].length = ps.length := by
        by_cases h1 : [dx].length = ps.length
        · exact h1
        · rw [har [dx] h1] at q
          exact q.2.elim
      refine ⟨v, eo, one, H0, [dx], q.1.sub, .cons (by rw [S.S.hK]; exact dv) .nil, ?_⟩
      cases er : E.F g [dx] with
      | ok r =>
        rw [er] at q
        intro w A0 A ad _
        exact (q.adv (H0' := A0) (H' := A) ad).nx (same_refl _) (q.1.adv ad)
      | error w =>
        rw [er] at q
        cases w with
        | none => exact q.2.elim
        | some c' =>
          intro H' sm
          have q : So f W Γ (if E.sub c' c' = true then (if E.sub c' c = true then .xc d Γ else .xc c' Γ) else .un) H0 σ H D := q
          have st : St f Γ H0 σ H' := q.1.adv ⟨same_refl _, sm, q.1.sub.trans sm, fun _ _ _ => rfl⟩
          by_cases hd' : E.sub c' c' = true
          · rw [if_pos hd'] at q
            refine ⟨E.sub c' c, S.exm c' c hd' ⟨_, hc⟩, fun hb' b _ => ?_, fun hb' => ?_⟩
            · rw [if_pos hb'] at q
              exact q.2 σ H0 H' (same_refl _) st
            · rw [if_neg (by rw [hb']; exact Bool.false_ne_true)] at q
              exact q.2 σ H0 H' (same_refl _) st
          · rw [if_neg hd'] at q
            exact q.2.elim
    | _ => exact q.2.elim
end
end Dee

set_option maxRecDepth 100000
set_option maxHeartbeats 8000000
/-! Dee, part 20: defs and what they compute; the end of a law. -/
namespace Dee
open PySem PySem.Spec PyProof.Rows L2

/-- a def as a term: how many parameters, how many names, its body -/
structure FnT where
  np : Nat
  nn : Nat
  body : CSs
  fr : Bool := false
def slots (nn : Nat) (ds : List D) : List Sl := ds.map Sl.sh ++ List.replicate (nn - ds.length) .non
def outR : Out → R
  | .rt d => .ok d
  | .rf ds => .ok (.list ds)
  | .nx _ => .ok .none
  | .xc c _ => .error (some c)
  | _ => unk
/-- .. of a def whose lists are all new ones -/
def outF : Out → R
  | .rt d => (match d with
    | .list _ => unk
    | d => .ok d)
  | .rf ds => .ok (.list ds)
  | .nx _ => .ok .none
  | .xc c _ => .error (some c)
  | _ => unk
def outX (fr : Bool) (o : Out) : R := match fr with
  | true => outF o
  | false => outR o
def runF (E : Evn) (g : FnT) (ds : List D) : R := if ds.length = g.np then outX g.fr (exs E g.body (slots g.nn ds)) else unk
/-- the defs, k calls deep -/
def callN (G : Nat → Option D) (sub : Nat → Nat → Bool) (fs : List FnT) : Nat → Nat → List D → R
  | 0, _, _ => unk
  | k + 1, i, ds => match fs[i]? with
    | some g => runF ⟨callN G sub fs k, G, sub⟩ g ds
    | none => unk

section
variable {P : Program} {w : World} {K : PySem.W.Frag} {mg : Str → Option Value} {base : Heap} {x qual : Str} {params : Arguments} {body : List Stmt} {scope : Scope} {f : Addr} {fd : FuncData}
/-- a def, from its body, where no guard stands -/
theorem fnG_of {N ps : List Str} {k : Nat} {sp : Sp} (F : FunD K x qual params body scope [] [] f fd) (S : FnScope N ps scope) (len : ∀ vs H Q E, sp vs H Q E → vs.length = ps.length)
    {nb : Bool} (hb : ∀ (cdv : Value) (A : Around) (outer : List Env) (s : Shared) (H : Hp) (vs : List V) (Q : VK) (E : XK), Room k (A.deeper (envOfC qual scope s.heap.objs.size f cdv)) → (A.deeper (envOfC qual scope s.heap.objs.size f cdv)).guards = some [] → sp vs H Q E →
      ∃ t, PSs (cxOf (CXB nb P w) P w K mg base N qual scope f cdv A outer s H E) body t ∧ t { nx := fun _ H' => Q .non H', rt := Q } (start N vs) H) : FnG nb P w K mg base (k + 1) f fd ps sp := by
  obtain ⟨oc, od, dV, kV, doc, pm, an, cdv, ct, osl, rfl, lk, hcd, _, _⟩ := F.ex
  refine ⟨len, fun A outer s H args us vs Q E room guards e0 binds rel promise => ?_⟩
  have count := len vs H Q E promise
  have keepK : K.In s.heap := PySem.W.Frag.In.keeps e0.mod.kin fun b o q => (e0.bs b o q).1
  have roomy : s.heap.NoLimit := Heap.NoLimit.keeps e0.mod.nolimit fun b o q => (e0.bs b o q).1
  refine codeAny_call_function room.depth (keepK _ _ lk) rfl S.co S.gen rfl (PySem.W.codeRec_of keepK hcd) (binds _ _ _ _ ?_)
  refine wpAny_newFunctionEnv_cells S.kind (fun y hy => ?_) fun env ee s1 entry => ?_
  · have par := S.par y.1 (List.of_mem_zip (show (y.1, y.2) ∈ ps.zip us from hy)).1
    rcases par with q | q
    · exact .inl q
    · exact .inr ⟨q, PySem.W.cellsFrom_some scope.names _ _ (.inl q)⟩
  · subst ee
    refine ⟨roomy.keeps entry.toInCall.keep, codeAny_func ?_⟩
    obtain ⟨t, pt, pq⟩ := hb cdv A outer s H vs Q E (room.deeper _) guards promise
    have J : L2.Inv (cxOf (CXB nb P w) P w K mg base N qual scope f cdv A outer s H E) [] (start N vs) H s1 := inv_start S room.hd e0 count rel entry
    refine wpAny_mono (pt.run [] s1 (start N vs) H _ J pq) (fun fl s2 z => ?_) fun _ _ z => z
    match fl, z with
    | .ret u, ⟨v, σ2, H2, J2, rv, q2⟩ => exact ⟨v, H2, J2.os, J2.bare, J2.base, J2.hok, rv, q2⟩
    | .next, ⟨σ2, H2, J2, q2⟩ => exact ⟨.non, H2, J2.os, J2.bare, J2.base, J2.hok, rfl, q2⟩
    | .brk, ⟨_, _, _, q2⟩ => exact False.elim q2
    | .cont, ⟨_, _, _, q2⟩ => exact False.elim q2
end

/-! ### a def's start -/
theorem start_sl {K : PySem.W.Frag} {H0 : Hp} {xa : Addr → Nat → Prop} {He H : Hp} : ∀ {vs : List V} {ds : List D} (n m : Nat), DpAll K H0 vs ds → n = m → ∀ (i : Nat) (s : Sl), (ds.map Sl.sh ++ List.replicate n .non)[i]? = some s →
    ∃ o, (vs.map some ++ List.replicate m (none : Option V))[i]? = some o ∧ SlOk K xa He H0 H s o
  | _, _, n, m, .nil, e, i, s, h => by
    subst e
    simp only [List.map_nil, List.nil_append] at h ⊢
    obtain ⟨h1, h2⟩ := List.getElem?_eq_some_iff.mp h
    rw [List.getElem_replicate] at h2
    subst h2
    refine ⟨none, ?_, trivial⟩
    rw [List.getElem?_eq_some_iff]
    exact ⟨by simpa using h1, List.getElem_replicate _⟩
  | v :: vs, d :: ds, n, m, .cons a b, e, 0, s, h => by
    have h' : Sl.sh d = s := Option.some.inj h
    subst h'
    exact ⟨some v, rfl, v, rfl, a⟩
  | v :: vs, d :: ds, n, m, .cons a b, e, i + 1, s, h => start_sl n m b e i s h
theorem no_own : ∀ {ds : List D} {n i : Nat} {s : Sl}, (ds.map Sl.sh ++ List.replicate n .non)[i]? = some s → s.owns = false
  | [], n, i, s, h => by
    simp only [List.map_nil, List.nil_append] at h
    obtain ⟨h1, h2⟩ := List.getElem?_eq_some_iff.mp h
    rw [List.getElem_replicate] at h2
    subst h2
    rfl
  | d :: ds, n, 0, s, h => by
    have h' : Sl.sh d = s := Option.some.inj h
    subst h'
    rfl
  | d :: ds, n, i + 1, s, h => no_own (ds := ds) (n := n) (i := i) h
theorem st_start {K : PySem.W.Frag} {cl : Nat → Addr} {H0 H : Hp} {N : List Str} {vs : List V} {ds : List D} (s : Same H0 H) (h : DpAll K H0 vs ds) : St { K := K, cl := cl, He := H, Hs := H0 } (slots N.length ds) H0 (start N vs) H where
  ent := same_refl _
  sub := s
  new := same_refl _
  old := fun _ _ _ => rfl
  len := by
    unfold slots L2.start
    simp only [List.length_append, List.length_map, List.length_replicate, h.len]
  sl := fun i sl e => by
    unfold L2.start
    exact start_sl _ _ h (by rw [h.len]) i sl e
  ap := fun i j a _ h1 _ => by
    obtain ⟨⟨sl, e, w⟩, _⟩ := h1
    rw [no_own e] at w
    cases w

/-! ### what the top holds -/
structure Gf (T : Tab) (G : Nat → Option D) (sub : Nat → Nat → Bool) (cl : Nat → Addr) (K : PySem.W.Frag) (mg : Str → Option Value) : Prop where
  con : ∀ (i : Nat) (x : Str), T.con[i]? = some x → ∃ u v d, mg x = some u ∧ RelV v u ∧ G i = some d ∧ ∀ H, Dp K H v d
  blt : ∀ x, T.blt.contains x = true → mg x = none
  gcd : T.gcd = true → mg "gcd" = some (.builtin "math.gcd")
  cls : ∀ (c : Nat) (x : Str), T.cls[c]? = some x → mg x = some (.ref (cl c)) ∧ PySem.W.keepIn K (.ref (cl c)) = true ∧ PySem.W.excIn K (cl c) [.type "ValueError", .type "Exception", .type "BaseException", .type "object"] "ValueError.__new__" = true ∧
    PySem.W.subIn K (.ref (cl c)) (.type "BaseException") = some true ∧ PySem.W.typeIn K (.ref (cl c)) = some (.type "type")
  kit : ∀ (d : Nat) (o : Option Nat), (∃ x, T.cls[d]? = some x) → (∀ c, o = some c → ∃ x, T.cls[c]? = some x) → PySem.W.kitOne K (.ref (cl d)) (clU cl o) = some (isaX sub d o)
  kn : ∀ d, sub d d = true → ∃ x, T.cls[d]? = some x
  exm : ∀ d c, sub d d = true → (∃ x, T.cls[c]? = some x) → PySem.W.exmOne K (.ref (cl d)) (.ref (cl c)) = some (sub d c)
  exc : ∀ d, sub d d = true → ExcC K (cl d)
/-- a def whose body is one try that turns an error into another one -/
def ckR (T : Tab) (N : List Str) : CSs → Scope → List Stmt → Bool
  | .cons (.tryR g i c d) .nil, sc, sts => (match sts with
    | [.Try [.Expr (.Call (.Name f _) [.Name x _] [] _) _] [.ExceptHandler (some (.Name y _)) none [.Raise (some (.Call (.Name z _) [.Constant (.str _) _ _] [] _)) (some (.Constant .none _ _)) _] _] [] [] _] =>
      !T.nb && T.nfs.contains g && decide (T.fns[g]? = some f) && glbB sc f && nmOk f && isNm N i x && visB sc x && nmOk x && decide (T.cls[c]? = some y) && glbB sc y && nmOk y && decide (T.cls[d]? = some z) && glbB sc z && nmOk z
    | _ => false)
  | _, _, _ => false
def ckF (T : Tab) (N : List Str) (c : CSs) (sc : Scope) (sts : List Stmt) : Bool := ckSs T N c sc true sts || ckR T N c sc sts
/-- a def of the text and its term -/
structure FnI (T : Tab) (K : PySem.W.Frag) (mg : Str → Option Value) (x : Str) (g : FnT) where
  a : Addr
  fd : FuncData
  params : Arguments
  body : List Stmt
  scope : Scope
  N : List Str
  ps : List Str
  F : FunD K x x params body scope [] [] a fd
  at_ : mg x = some (.ref a)
  b : Binds K fd ps []
  S : FnScope N ps scope
  lp : ps.length = g.np
  ln : N.length = g.nn
  ck : ckF T N g.body scope body = true

section
variable {T : Tab} {G : Nat → Option D} {sub : Nat → Nat → Bool} {cl : Nat → Addr} {K : PySem.W.Frag} {mg : Str → Option Value} {P : Program} {w : World} {base : Heap} {fs : List FnT}
theorem callN_arity {k i : Nat} {g : FnT} (h : fs[i]? = some g) {ds : List D} (hl : ds.length ≠ g.np) : callN G sub fs k i ds = unk := by
  cases k with
  | zero => rfl
  | succ k =>
    unfold callN
    rw [h]
    show runF _ g ds = unk
    unfold runF
    rw [if_neg hl]
def frOk (T : Tab) (fs : List FnT) : Bool := T.frs.all fun i => match fs[i]? with
  | some g => g.fr
  | none => false
theorem frOk_at (h : frOk T fs = true) {i : Nat} {g : FnT} (hi : fs[i]? = some g) (hc : T.frs.contains i = true) : g.fr = true := by
  have z := List.all_eq_true.mp h i (List.contains_iff_mem.mp hc)
  have z : (match fs[i]? with | some g => g.fr | none => false) = true := z
  rw [hi] at z
  exact z
/-- what a def promises -/
def spX (fr : Bool) (K : PySem.W.Frag) (cl : Nat → Addr) (n : Nat) (g : List D → R) : Sp := match fr with
  | true => spF K cl n g
  | false => spD K cl n g
theorem spX_of {fr : Bool} {K : PySem.W.Frag} {cl : Nat → Addr} {n : Nat} {g : List D → R} {vs : List V} {H : Hp} {Q : VK} {E : XK} (h : spD K cl n g vs H Q E) : spX fr K cl n g vs H Q E := by
  cases fr with
  | true => exact spF_of h
  | false => exact h
/-- a body that is one such try -/
theorem r_ok {E : Evn} {f : Fm} {W : WX} {k : Nat} {N : List Str} {sc : Scope} {X : Cx} {Γ : List Sl} {c : CSs} {sts : List Stmt} (S : SS T E f W k N sc true X) (hpa : ∀ hd : Option Value, PassesOwnAt (model X.prog X.w) (X.A.mark hd) X.A X.env X.xe)
    (fns : T.nb = false → ∀ (j : Nat) (y : Str), T.fns[j]? = some y → T.nfs.contains j = true → ∃ a fd ps, X.mg y = some (.ref a) ∧ PySem.W.keepIn X.K (.ref a) = true ∧ Binds X.K fd ps [] ∧ FnG true X.prog X.w X.K X.mg X.base k a fd ps (spD X.K f.cl ps.length (E.F j)) ∧ ∀ ds, ds.length ≠ ps.length → E.F j ds = unk)
    (h : ckR T N c sc sts = true) : PSs X sts (tS f W Γ (exs E c Γ)) := by
  unfold ckR at h
  split at h
  · split at h
    · simp only [Bool.and_eq_true] at h
      obtain ⟨⟨⟨⟨⟨⟨⟨⟨⟨⟨⟨⟨⟨h1, h2⟩, h3⟩, h4⟩, h5⟩, h6⟩, h7⟩, h8⟩, h9⟩, h10⟩, h11⟩, h12⟩, h13⟩, h14⟩ := h
      have hnb : T.nb = false := by simpa using h1
      obtain ⟨a, fd, ps, m1, m2, m3, F, har⟩ := fns hnb _ _ (of_decide_eq_true h3) h2
      rw [exs_cons]
      refine s_cons (s_tryR S hnb hpa F m1 m2 m3 har h4 h5 h6 h7 h8 (of_decide_eq_true h9) h10 h11 (of_decide_eq_true h12) h13 h14) fun Γ2 => ?_
      exact pss_nil.imp fun Z σ H ⟨H0, q⟩ => q.nx (same_refl _) q.1
    · cases h
  · cases h
theorem fns_okT (dg : base.NoDigits) (gf : Gf T G sub cl K mg) (hfr : frOk T fs = true) (all : ∀ (i : Nat) (x : Str), T.fns[i]? = some x → T.may i = true → ∃ g, fs[i]? = some g ∧ Nonempty (FnI T K mg x g))
    (alln : T.nb = false → ∀ (k i : Nat) (x : Str), T.fns[i]? = some x → T.nfs.contains i = true → ∃ a fd ps, mg x = some (.ref a) ∧ PySem.W.keepIn K (.ref a) = true ∧ Binds K fd ps [] ∧ FnG true P w K mg base k a fd ps (spD K cl ps.length (callN G sub fs k i)) ∧ ∀ ds, ds.length ≠ ps.length → callN G sub fs k i ds = unk) :
    ∀ (k i : Nat) (x : Str) (g : FnT) (I : FnI T K mg x g), fs[i]? = some g → FnG T.nb P w K mg base k I.a I.fd I.ps (spX g.fr K cl I.ps.length (callN G sub fs k i)) := by
  intro k
  induction k with
  | zero =>
    intro i x g I hi
    cases g.fr with
    | true => exact ⟨fun vs H Q E h => h.1, fun A outer s H args us vs Q E _ _ _ _ _ h => by
        obtain ⟨_, _, _, _, _, h⟩ := h
        exact h.elim⟩
    | false => exact ⟨fun vs H Q E h => h.1, fun A outer s H args us vs Q E _ _ _ _ _ h => by
        obtain ⟨_, _, _, _, _, h⟩ := h
        exact h.elim⟩
  | succ k ih =>
    intro i x g I hi
    have hlen : ∀ vs H Q E, spX g.fr K cl I.ps.length (callN G sub fs (k + 1) i) vs H Q E → vs.length = I.ps.length := fun vs H Q E h => by
      revert h
      cases g.fr with
      | true => exact fun h => h.1
      | false => exact fun h => h.1
    refine fnG_of I.F I.S hlen fun cdv A outer s H vs Q E room guards h => ?_
    obtain ⟨hl, H0, ds, sm, dp, m⟩ : ∃ (hl : vs.length = I.ps.length) (H0 : Hp) (ds : List D), Same H0 H ∧ DpAll K H0 vs ds ∧ (g.fr = true ∧ (match callN G sub fs (k + 1) i ds with
        | .ok (.list es) => ∀ a ws H0' H', Adv H0 H H0' H' → H a = none → H0' a = none → H' a = some (.lst ws) → DpAll K H0' ws es → Q (.ref a) H'
        | .ok d => ∀ v H0' H', Adv H0 H H0' H' → Dp K H0' v d → Q v H'
        | .error (some c) => ∀ H', Same H H' → E (.ref (cl c)) none H'
        | .error none => False) ∨ g.fr = false ∧ (match callN G sub fs (k + 1) i ds with
        | .ok d => ∀ v H0' H', Adv H0 H H0' H' → Dp K H0' v d → Q v H'
        | .error (some c) => ∀ H', Same H H' → E (.ref (cl c)) none H'
        | .error none => False)) := by
      revert h
      cases g.fr with
      | true => exact fun ⟨hl, H0, ds, sm, dp, m⟩ => ⟨hl, H0, ds, sm, dp, .inl ⟨rfl, m⟩⟩
      | false => exact fun ⟨hl, H0, ds, sm, dp, m⟩ => ⟨hl, H0, ds, sm, dp, .inr ⟨rfl, m⟩⟩
    let E' : Evn := ⟨callN G sub fs k, G, sub⟩
    have hds : ds.length = g.np := by rw [← dp.len, hl, I.lp]
    have ec : callN G sub fs (k + 1) i ds = outX g.fr (exs E' g.body (slots g.nn ds)) := by
      unfold callN
      rw [hi]
      show runF _ g ds = _
      unfold runF
      rw [if_pos hds]
    rw [ec] at m
    let f : Fm := { K := K, cl := cl, He := H, Hs := H0 }
    let W : WX := fun cls d _ H' => E cls d H'
    refine ⟨tS f W (slots g.nn ds) (exs E' g.body (slots g.nn ds)), ?_, ?_⟩
    · have hS : SS T E' f W k I.N I.scope true (cxOf (CXB T.nb P w) P w K mg base I.N x I.scope I.a cdv A outer s H E) := {
        S := {
          hK := rfl
          hN := rfl
          nd := I.S.nd
          hsc := rfl
          fn := fun _ _ => rfl
          un := by have z := room.un; show (A.deeper _).units + 200 < cLine; omega
          gd := guards
          dg := dg
          hcm := fun _ => ⟨rfl, room⟩
          tk := by
            show TkB T.nb (cxOf (CXB T.nb P w) P w K mg base I.N x I.scope I.a cdv A outer s H E) W
            cases T.nb with
            | false => exact L2.takes_of rfl rfl rfl rfl
            | true => exact L2N.takes_of rfl rfl rfl rfl
          fns := fun j y hj hmay => by
            obtain ⟨g', hg', ⟨I'⟩⟩ := all j y hj hmay
            exact ⟨I'.a, I'.fd, I'.ps, I'.at_, I'.F.kp, I'.b, (ih j y g' I' hg').imp fun vs H Q E h => spX_of h, fun hc => by
              have z := ih j y g' I' hg'
              rw [frOk_at hfr hg' hc] at z
              exact z, fun ds hd => callN_arity hg' (by rw [← I'.lp]; exact hd)⟩
          con := gf.con
          blt := gf.blt
          gcd := gf.gcd
          xis := fun _ _ h => h.elim
          kit := gf.kit
          cls := fun c y hc => by
            obtain ⟨c1, c2, c3, c4, c5⟩ := gf.cls c y hc
            exact ⟨c1, c2, c3, raises_own c4 c5⟩
          xat := fun _ _ h => h.elim
          xno := fun _ _ _ h => h }
        hkd := I.S.kind
        hs := rfl
        hf := rfl
        po := passes_of rfl
        kn := gf.kn
        exm := gf.exm
        exc := gf.exc }
      rcases Bool.or_eq_true_iff.mp I.ck with ck | ck
      · exact sSs (T := T) (E := E') (k := k) (N := I.N) (sc := I.scope) (cm := true) g.body _ hS ck
      · exact r_ok hS (fun hd => L2H.passesAt_of rfl hd) (fun hnb j y hj hn => alln hnb k j y hj hn) ck
    · refine ⟨H0, ?_, ?_⟩
      · have z := st_start (cl := cl) (N := I.N) sm dp
        rw [I.ln] at z
        exact z
      · have adv : ∀ {Γ' H0' σ' H'}, St f Γ' H0' σ' H' → Adv H0 H H0' H' := fun st => ⟨st.new, st.ent, st.sub, fun a o e => st.old a o e⟩
        rcases m with ⟨hf, m⟩ | ⟨hf, m⟩
        · rw [hf] at m
          revert m
          cases exs E' g.body (slots g.nn ds) with
          | nx Γ' => exact fun m σ' H0' H' _ st => m .non H0' H' (adv st) .non
          | rt d => cases d with
            | list es => exact fun m => m.elim
            | _ => exact fun m v σ' Γ' H0' H' _ st dp' => m v H0' H' (adv st) dp'
          | rf es => exact fun m a ws σ' Γ' H0' H' _ st n n0 e dp' => m a ws H0' H' (adv st) n n0 e dp'
          | xc c Γ' => exact fun m σ' H0' H' _ st => m H' st.ent
          | bk Γ' => exact fun m => m.elim
          | ct Γ' => exact fun m => m.elim
          | un => exact fun m => m.elim
        · rw [hf] at m
          revert m
          cases exs E' g.body (slots g.nn ds) with
          | nx Γ' => exact fun m σ' H0' H' _ st => m .non H0' H' (adv st) .non
          | rt d => exact fun m v σ' Γ' H0' H' _ st dp' => m v H0' H' (adv st) dp'
          | rf es =>
            intro m a ws σ' Γ' H0' H' _ st n n0 e dp'
            have s0 : Same H0' (upd H0' a (.lst ws)) := same_upd n0
            exact m (.ref a) _ H' ((adv st).freeze n e) (.lst (SqL.of upd_same) (dp'.mono s0))
          | xc c Γ' => exact fun m σ' H0' H' _ st => m H' st.ent
          | bk Γ' => exact fun m => m.elim
          | ct Γ' => exact fun m => m.elim
          | un => exact fun m => m.elim
def nfOk (T : Tab) (fs : List FnT) : Bool := T.nfs.all fun i => match fs[i]? with
  | some g => !g.fr
  | none => true
theorem nfOk_at (h : nfOk T fs = true) {i : Nat} {g : FnT} (hi : fs[i]? = some g) (hc : T.nfs.contains i = true) : g.fr = false := by
  have z := List.all_eq_true.mp h i (List.contains_iff_mem.mp hc)
  have z : (match fs[i]? with | some g => !g.fr | none => true) = true := z
  rw [hi] at z
  simpa using z
/-- .. of a text without such bodies -/
theorem fns_ok (dg : base.NoDigits) (gf : Gf T G sub cl K mg) (hfr : frOk T fs = true) (all : ∀ (i : Nat) (x : Str), T.fns[i]? = some x → ∃ g, fs[i]? = some g ∧ Nonempty (FnI T K mg x g)) (k i : Nat) (x : Str) (g : FnT) (I : FnI T K mg x g) (hi : fs[i]? = some g) (h0 : T.nb = false := by rfl) (hn : T.nfs = [] := by rfl) :
    FnG false P w K mg base k I.a I.fd I.ps (spX g.fr K cl I.ps.length (callN G sub fs k i)) := by
  have z := fns_okT (P := P) (w := w) (base := base) dg gf hfr (fun i x h _ => all i x h) (fun _ k i x _ hc => by rw [hn] at hc; cases hc) k i x g I hi
  rw [h0] at z
  exact z
/-- .. with such bodies: the defs that they call, once more -/
theorem fns_okN (dg : base.NoDigits) (gf : Gf T G sub cl K mg) (hfr : frOk T fs = true) (all : ∀ (i : Nat) (x : Str), T.fns[i]? = some x → ∃ g, fs[i]? = some g ∧ Nonempty (FnI T K mg x g)) (hnf : nfOk T fs = true)
    (alln : ∀ (i : Nat) (x : Str), T.fns[i]? = some x → T.nfs.contains i = true → ∃ g, fs[i]? = some g ∧ Nonempty (FnI { T with nb := true } K mg x g)) (k i : Nat) (x : Str) (g : FnT) (I : FnI T K mg x g) (hi : fs[i]? = some g) (h0 : T.nb = false := by rfl) :
    FnG false P w K mg base k I.a I.fd I.ps (spX g.fr K cl I.ps.length (callN G sub fs k i)) := by
  have gf' : Gf { T with nb := true } G sub cl K mg := ⟨gf.con, gf.blt, gf.gcd, gf.cls, gf.kit, gf.kn, gf.exm, gf.exc⟩
  have zn := fns_okT (P := P) (w := w) (base := base) (T := { T with nb := true }) dg gf' hfr (fun i x h hm => alln i x h (by simpa [Tab.may] using hm)) (fun h => absurd h (by simp))
  have z := fns_okT (P := P) (w := w) (base := base) dg gf hfr (fun i x h _ => all i x h) (fun _ k i x hi hc => by
    obtain ⟨g', hg', ⟨I'⟩⟩ := alln i x hi hc
    refine ⟨I'.a, I'.fd, I'.ps, I'.at_, I'.F.kp, I'.b, ?_, fun ds hd => callN_arity hg' (by rw [← I'.lp]; exact hd)⟩
    have y := zn k i x g' I' hg'
    rw [nfOk_at hnf hg' hc] at y
    exact y) k i x g I hi
  rw [h0] at z
  exact z
end
end Dee

set_option maxRecDepth 100000
set_option maxHeartbeats 8000000
/-! Dee, part 21: the end of a law; the facts of the top. -/
namespace Dee
open PySem PySem.Spec PyProof.Rows L2

theorem CX_no {P : Program} {w : World} {outer : List Env} {H : Hp} {s : Shared} {e : Value} {s' : Shared} (h : L2.CX P w outer H s (fun _ _ _ => False) e s') : False := by
  obtain ⟨_, _, _, _, _, _, _, _, _, _, _, _, no⟩ := h
  exact no.elim
/-- the law's call, behind the top -/
theorem lawG {P : Program} {w : World} {K : PySem.W.Frag} {mg mb : Str → Option Value} {k : Nat} {fa a : Addr} {fd : FuncData} {x : Str} {sp : Sp} {s : Shared} {vs : List Value} {ns : List Int}
    (inK : K.In s.heap) (nsM : s.heap.Ns mainGlobals mg) (nsB : s.heap.Ns builtinsNs mb) (boot : ∀ y : Str, y ≠ "__name__" → mb y = bootBuiltins y) (lim : s.heap.NoLimit) (dig : s.heap.NoDigits) (gens : s.gens = #[])
    (obj : s.heap.get? a = some { cls := .type "list", data := .seq vs.toArray }) (isI : IntsAre vs ns) (len : ns.length ≤ sizeLine) (room : Room k callerA)
    (keeps : ∀ base : Heap, K.In base → base.Ns mainGlobals mg → base.NoDigits → FnG false P w K mg base k fa fd [x] sp) (binds : ∀ (s : Shared) (u : Value), BindsTo s fd ⟨[u], []⟩ [(x, u)])
    (promise : ∀ H : Hp, SqL K H a (ns.map V.int) → sp [.ref a] H (fun v _ => v = .bl true) fun _ _ _ => False) :
    codeAny (model P w) callerA (.call (.ref fa) ⟨[.ref a], []⟩) (fun r s' => r = .ok (.ret (.bool true)) ∧ OldK s.heap s'.heap ∧ s'.os = s.os ∧ AllBare s'.gens) s := by
  have rel := vals_ints isI
  have main : ∀ T : Hp, SqL K T a (ns.map V.int) → (∀ b u, T b = some u → b = a ∧ u = .frz { cls := .type "list", data := .seq vs.toArray } (.lst (ns.map V.int)) ∧ K.lookup a = none) →
      codeAny (model P w) callerA (.call (.ref fa) ⟨[.ref a], []⟩) (fun r s' => r = .ok (.ret (.bool true)) ∧ OldK s.heap s'.heap ∧ s'.os = s.os ∧ AllBare s'.gens) s := by
    intro T seq only
    have hok : HOk P w T s.heap := fun b u e => by
      obtain ⟨rfl, rfl, _⟩ := only b u e
      exact ⟨obj, by rw [List.length_map]; exact len, vs, _, rel, obj⟩
    have stays : ∀ {b : Addr} {o : Obj}, s.heap.get? b = some o → T b = none → (hidT s.heap T).get? b = some o := fun e n => hidT_get e n
    have isD : ∀ {b : Addr} {o : Obj} {es : Array DictEntry} {ep : Nat}, s.heap.get? b = some o → o.data = .dict es ep → T b = none := fun {b o es ep} e d => by
      cases q : T b with
      | none => rfl
      | some u =>
        obtain ⟨rfl, _, _⟩ := only b u q
        rw [obj] at e
        cases e
        cases d
    have nsT : ∀ {b : Addr} {m : Str → Option Value}, s.heap.Ns b m → (hidT s.heap T).Ns b m := fun {b m} ⟨o, es, ep, e, d, r⟩ => ⟨o, es, ep, stays e (isD e d), d, r⟩
    have inT : K.In (hidT s.heap T) := fun b o e => by
      refine stays (inK b o e) ?_
      cases q : T b with
      | none => rfl
      | some u =>
        obtain ⟨rfl, _, z⟩ := only b u q
        rw [z] at e
        cases e
    have modT : Mod K mg (hidT s.heap T) := ⟨inT, nsT nsM, ⟨mb, nsT nsB, boot⟩, by
      obtain ⟨m, z1, z2⟩ := lim
      exact ⟨m, nsT z1, z2⟩⟩
    have env0 : Env0 P w K mg (hidT s.heap T) callerA [] s T := ⟨rfl, modT, fun b o e => of_hidT e, Nat.le_of_eq (hidT_size _ _), trivial, fun b z => absurd z List.not_mem_nil, hok, AllBare.of_eq gens⟩
    refine codeAny_mono ((keeps _ inT (nsT nsM) (let ⟨m, z1, z2⟩ := dig; ⟨m, nsT z1, z2⟩)).run callerA [] s T ⟨[.ref a], []⟩ [.ref a] [.ref a] _ _ room rfl env0 (binds s (.ref a)) (.cons rfl .nil) (promise T seq)) fun r s2 end_ => ?_
    match r, end_ with
    | .error e, z => exact (CX_no z).elim
    | .ok .next, z => exact False.elim z
    | .ok .brk, z => exact False.elim z
    | .ok .cont, z => exact False.elim z
    | .ok (.ret u), ⟨v, H2, os, bare, un, ok2, rv, q⟩ =>
      have q : v = .bl true := q
      subst q
      cases (show u = Value.bool true from rv)
      refine ⟨rfl, OldK.of_keep fun b o e => ?_, os, bare⟩
      cases q : T b with
      | none => exact un.keep b o e q (fun z => absurd z List.not_mem_nil) (fun z => absurd z List.not_mem_nil)
      | some t =>
        obtain ⟨rfl, rfl, _⟩ := only b t q
        have fz := un.frzs b _ _ q
        obtain ⟨now, _⟩ := ok2 b _ fz
        rw [obj] at e
        cases e
        exact now
  cases q : K.lookup a with
  | none =>
    refine main (fun b => if b = a then some (.frz { cls := .type "list", data := .seq vs.toArray } (.lst (ns.map V.int))) else none) (.inl (.inr ⟨{ cls := .type "list", data := .seq vs.toArray }, if_pos rfl⟩)) fun b u e => ?_
    by_cases hb : b = a
    · rw [if_pos hb] at e
      cases e
      exact ⟨hb, rfl, q⟩
    · rw [if_neg hb] at e
      cases e
  | some o =>
    have e := inK a o q
    rw [obj] at e
    cases e
    exact main (fun _ => none) (.inr ⟨_, vs.toArray, _, q, rfl, rfl, rfl, by rw [List.size_toArray, isI.length]; exact len, by simpa using rel⟩) fun b u e => nomatch e
end Dee

set_option maxRecDepth 100000
set_option maxHeartbeats 8000000
/-! Dee, part 22: what the top holds, looked at once. -/
namespace Dee
open PySem PySem.Spec PyProof.Rows L2

def tblS (n : Nat) (tbl : List (List Bool)) (d c : Nat) : Bool := decide (d < n) && (decide (c < n) && (tbl.getD d []).getD c false)
def clA (T : Tab) (K : PySem.W.Frag) (c : Nat) : Addr := He.ga K (T.cls.getD c Str.empty)
def eqX {α : Type} [DecidableEq α] (a b : α) : Bool := decide (a = b)
def excB (K : PySem.W.Frag) (C : Addr) : Bool :=
  He.eqO (PySem.W.findIn K (.ref C) "__getattribute__") (some (some (.builtin "BaseException.__getattribute__"))) &&
  (He.eqO (PySem.W.findIn K (.ref C) "__getattr__") (some none) &&
  (decide (PySem.W.subIn K (.ref C) (.type "BaseException") = some true) &&
  (PySem.W.hasDictIn K C &&
  (He.eqO (PySem.W.findIn K (.ref C) "__class__") (some (some (.builtin "object.__class__"))) &&
  (He.eqO (PySem.W.specialIn K (.builtin "object.__class__") "__get__") (some (some (.builtin "getset_descriptor.__get__"))) &&
  (decide (PySem.W.takesIn K (.builtin "object.__class__") = some true) &&
  decide (PySem.W.mroIn K C (.type "object") = some true)))))))
theorem excB_ok {K : PySem.W.Frag} {C : Addr} (h : excB K C = true) : ExcC K C := by
  unfold excB at h
  simp only [Bool.and_eq_true] at h
  obtain ⟨h1, h2, h3, h4, h5, h6, h7, h8⟩ := h
  exact ⟨He.eqO_ok h1, He.eqO_ok h2, of_decide_eq_true h3, h4, He.eqO_ok h5, He.eqO_ok h6, of_decide_eq_true h7, of_decide_eq_true h8⟩
def clsB (T : Tab) (tbl : List (List Bool)) (K : PySem.W.Frag) (c : Nat) : Bool :=
  (He.Fa.glo (T.cls.getD c Str.empty)).ok K && (PySem.W.keepIn K (.ref (clA T K c)) && (PySem.W.excIn K (clA T K c) [.type "ValueError", .type "Exception", .type "BaseException", .type "object"] "ValueError.__new__" &&
  (decide (PySem.W.subIn K (.ref (clA T K c)) (.type "BaseException") = some true) && (decide (PySem.W.typeIn K (.ref (clA T K c)) = some (.type "type")) && (decide (PySem.W.kitOne K (.ref (clA T K c)) (.type "ValueError") = some true) && (excB K (clA T K c) &&
  (List.range T.cls.length).all fun e => decide (PySem.W.kitOne K (.ref (clA T K c)) (.ref (clA T K e)) = some (tblS T.cls.length tbl c e)) && decide (PySem.W.exmOne K (.ref (clA T K c)) (.ref (clA T K e)) = some (tblS T.cls.length tbl c e))))))))
def gfB (T : Tab) (tbl : List (List Bool)) (K : PySem.W.Frag) : Bool :=
  (T.blt.all fun x => (He.Fa.free x).ok K) && ((!T.gcd || He.eqO (PySem.W.nsIn K mainGlobals "gcd") (some (some (.builtin "math.gcd")))) && (List.range T.cls.length).all fun c => clsB T tbl K c)
theorem lt_of_at {α : Type} {l : List α} {i : Nat} {x : α} (h : l[i]? = some x) : i < l.length := (List.getElem?_eq_some_iff.mp h).1
theorem gf_of {T : Tab} {tbl : List (List Bool)} {K : PySem.W.Frag} {h : Heap} {mg : Str → Option Value} (X : K.In h) (N : h.Ns mainGlobals mg) (hc : T.con = []) (g : gfB T tbl K = true) : Gf T (fun _ => none) (tblS T.cls.length tbl) (clA T K) K mg := by
  unfold gfB at g
  simp only [Bool.and_eq_true] at g
  obtain ⟨g1, g2, g3⟩ := g
  have cl : ∀ c, c < T.cls.length → clsB T tbl K c = true := fun c hc => List.all_eq_true.mp g3 c (List.mem_range.mpr hc)
  have two : ∀ c e, c < T.cls.length → e < T.cls.length → PySem.W.kitOne K (.ref (clA T K c)) (.ref (clA T K e)) = some (tblS T.cls.length tbl c e) ∧ PySem.W.exmOne K (.ref (clA T K c)) (.ref (clA T K e)) = some (tblS T.cls.length tbl c e) := fun c e h1 h2 => by
    have z := cl c h1
    unfold clsB at z
    simp only [Bool.and_eq_true] at z
    have z2 := List.all_eq_true.mp z.2.2.2.2.2.2.2 e (List.mem_range.mpr h2)
    rw [Bool.and_eq_true] at z2
    exact ⟨of_decide_eq_true z2.1, of_decide_eq_true z2.2⟩
  have know : ∀ d, tblS T.cls.length tbl d d = true → ∃ x, T.cls[d]? = some x := fun d hd => by
    unfold tblS at hd
    simp only [Bool.and_eq_true] at hd
    exact ⟨_, List.getElem?_eq_getElem (of_decide_eq_true hd.1)⟩
  refine { con := fun i x e => (by rw [hc] at e; cases e), blt := fun x e => ?_, gcd := fun e => ?_, cls := fun c x e => ?_, kit := fun d o ⟨x, e⟩ ho => ?_, kn := know, exm := fun d c hd ⟨x, e⟩ => ?_, exc := fun d hd => ?_ }
  · exact He.free_ok X N (List.all_eq_true.mp g1 x (by simpa using e))
  · rw [e] at g2
    exact PySem.W.mg_of X N (He.eqO_ok (by simpa using g2))
  · have z := cl c (lt_of_at e)
    unfold clsB at z
    simp only [Bool.and_eq_true] at z
    obtain ⟨z1, z2, z3, z4, z5, _⟩ := z
    have e2 : T.cls.getD c Str.empty = x := by rw [List.getD_eq_getElem?_getD, e]; rfl
    refine ⟨?_, z2, z3, of_decide_eq_true z4, of_decide_eq_true z5⟩
    have z := He.glo_ok X N z1
    rw [e2] at z
    unfold clA
    rw [e2]
    exact z
  · cases o with
    | none =>
      have z := cl d (lt_of_at e)
      unfold clsB at z
      simp only [Bool.and_eq_true] at z
      exact of_decide_eq_true z.2.2.2.2.2.1
    | some c =>
      obtain ⟨y, hy⟩ := ho c rfl
      exact (two d c (lt_of_at e) (lt_of_at hy)).1
  · obtain ⟨y, hy⟩ := know d hd
    exact (two d c (lt_of_at hy) (lt_of_at e)).2
  · obtain ⟨y, hy⟩ := know d hd
    have z := cl d (lt_of_at hy)
    unfold clsB at z
    simp only [Bool.and_eq_true] at z
    exact excB_ok z.2.2.2.2.2.2.1

/-! ### the look -/
abbrev AlG : Type := Bool × He.AlD
def obG (n : Nat) (ex : PySem.W.Frag → Bool) (fa : List He.Fa) (fn : List He.DefD) (g : Addr → Option Obj) : AlG := (ex (He.frG g (He.asD g n)), He.obsD fa fn (He.frG g (He.asD g n)))
def hookG (n : Nat) (ex : PySem.W.Frag → Bool) (fa : List He.Fa) (fn : List He.DefD) : PySem.W.Hook where
  α := AlG
  obs := fun s => obG n ex fa fn s.heap.get?
  val := fun _ => (true, He.valD fn)
  says := fun _ h => ∃ K : PySem.W.Frag, K.In h ∧ ex K = true ∧ He.SaysD fa fn K
  of := fun _ _ e => ⟨_, He.frG_in, congrArg (fun z : AlG => z.1) e, congrArg (fun z : AlG => z.2) e⟩
  keeps := fun _ _ _ ⟨K, hK, c⟩ k => ⟨K, PySem.W.Frag.In.keeps hK k, c⟩
theorem obG_eq {n : Nat} {ex : PySem.W.Frag → Bool} {fa : List He.Fa} {fn : List He.DefD} {g : Addr → Option Obj} {s : Shared} (h : ∀ a, g a = s.heap.get? a) : obG n ex fa fn g = (hookG n ex fa fn).obs s := by
  have e : g = s.heap.get? := funext h
  rw [e]
  rfl
theorem script_dp {K : PySem.W.Frag} {H : Hp} : ∀ ns : List Int, DpAll K H (ns.map V.int) (ns.map PyData.int)
  | [] => .nil
  | n :: ns => .cons (.int n) (script_dp ns)
/-- the goal that the head leaves, from what the law's term answers -/
theorem walkG {l : PySem.W.OpenLaw} {n k : Nat} {q : Program} {loose : List Str} {XP : (Str → Option Value) → Heap → Prop} {YP : World → Heap → Prop} {d : DefRec} {x : Str} {law : List D → R}
    (hn : l.most = some n) (hn2 : n ≤ sizeLine) (hdf : d.params.defaults = []) (hr : Room k callerA)
    (F : ∀ (w : World) (mg : Str → Option Value) (fa : Addr) (h : Heap), YP w h → h.Ns mainGlobals mg → mg d.name = some (.ref fa) →
      ∃ (K : PySem.W.Frag) (cl : Nat → Addr) (fd : FuncData), K.In h ∧ (∀ (s : Shared) (u : Value), BindsTo s fd ⟨[u], []⟩ [(x, u)]) ∧ ∀ base : Heap, K.In base → base.Ns mainGlobals mg → base.NoDigits → FnG false l.prog w K mg base k fa fd [x] (spD K cl 1 law))
    (yes : ∀ ns : List Int, ns.length ≤ n → law [.list (ns.map .int)] = .ok (.bool true)) : PySem.W.WalkO q loose XP YP l.row.toRowW d [] (fun f vs => PySem.call f vs) := by
  refine Att.attach_call hn hdf fun w s₀ s₁ mg mb fa o pm cd doc a vs ns G Y ho hd hcd hmg hobj isI hlen hg => ?_
  obtain ⟨K, cl, fd, KX, hb, hF⟩ := F w mg fa _ Y G.T.g hmg
  refine lawG KX G.T.g G.T.b G.T.builtins G.T.nolimit G.T.nodigits hg hobj isI (Nat.le_trans hlen hn2) hr hF hb fun H hS => ⟨rfl, H, [.list (ns.map .int)], same_refl H, .cons (.lst hS (script_dp ns)) .nil, ?_⟩
  rw [yes ns hlen]
  intro v H0' H' _ dp
  cases dp
  rfl
end Dee

set_option maxRecDepth 100000
set_option maxHeartbeats 1000000
/-! Dee, part 23: plain facts on numbers. -/
namespace Dee
open PySem PySem.Spec

theorem bits_lt {i : Int} {n : Nat} (h : i.natAbs < 2 ^ n) : bits i ≤ n := by
  unfold bits Builtin.Int.intBits
  by_cases h0 : i = 0
  · simp [h0]
  · rw [if_neg (by simpa using h0)]
    have h1 : i.natAbs ≠ 0 := by omega
    have := (Nat.log2_lt h1).mpr h
    omega
theorem mul_ok {i j : Int} (h1 : i.natAbs < 2 ^ 60000) (h2 : j.natAbs < 2 ^ 60000) : mulOk i j = true := by
  unfold mulOk
  have a := bits_lt h1
  have b := bits_lt h2
  exact decide_eq_true (by omega)
theorem fdiv_ok {i j : Int} (h : j ≠ 0) (hb : j.natAbs < 2 ^ 9000) : binD .fdiv (.int i) (.int j) = .ok (.int (i.fdiv j)) := by
  have h1 : j.natAbs ≠ 0 := by omega
  have hl := (Nat.log2_lt h1).mpr hb
  unfold binD
  by_cases h0 : 0 < j
  · simp only [h0, hl, if_true]
    rw [Int.fdiv_eq_ediv_of_nonneg i (by omega)]
  · have h2 : j < 0 := by omega
    simp only [h0, h2, hl, if_true, if_false, and_self]
theorem and_one (n : Int) : Builtin.bitAnd n 1 = n % 2 := by
  unfold Builtin.bitAnd
  by_cases h : 0 ≤ n
  · simp only [h, decide_true]
    have e : n.toNat &&& (1 : Int).toNat = n.toNat % 2 := Nat.and_one_is_mod _
    show ((n.toNat &&& (1 : Int).toNat : Nat) : Int) = _
    rw [e]
    omega
  · simp only [h, decide_false]
    show (1 : Int) - (((1 : Int).toNat &&& (Builtin.bitNot n).toNat : Nat) : Int) = _
    have e : (1 : Int).toNat &&& (Builtin.bitNot n).toNat = (Builtin.bitNot n).toNat % 2 := by
      rw [Nat.and_comm]
      exact Nat.and_one_is_mod _
    rw [e]
    unfold Builtin.bitNot
    omega
theorem pow_lt_pow {a b : Nat} (h : a ≤ b) : 2 ^ a ≤ 2 ^ b := Nat.pow_le_pow_right (by decide) h
/-- bounded -/
def Bd (n : Nat) (i : Int) : Prop := i.natAbs < 2 ^ n
theorem Bd.mono {n m : Nat} {i : Int} (h : Bd n i) (l : n ≤ m) : Bd m i := Nat.lt_of_lt_of_le h (pow_lt_pow l)
theorem Bd.mul {n m : Nat} {i j : Int} (h1 : Bd n i) (h2 : Bd m j) : Bd (n + m) (i * j) := by
  unfold Bd at *
  rw [Int.natAbs_mul, Nat.pow_add]
  exact Nat.mul_lt_mul_of_lt_of_le h1 (Nat.le_of_lt h2) (Nat.two_pow_pos m)
theorem Bd.neg {n : Nat} {i : Int} (h : Bd n i) : Bd n (-i) := by
  unfold Bd at *
  rw [Int.natAbs_neg]
  exact h
theorem Bd.ok {n m : Nat} {i j : Int} (h1 : Bd n i) (h2 : Bd m j) (a : n ≤ 60000 := by decide) (b : m ≤ 60000 := by decide) : mulOk i j = true := mul_ok (h1.mono a) (h2.mono b)
/-- the greatest common divisor with the sign of the second -/
def gg (t l : Int) : Int := if l < 0 then -((Nat.gcd t.natAbs l.natAbs : Nat) : Int) else ((Nat.gcd t.natAbs l.natAbs : Nat) : Int)
theorem gg_ne {t l : Int} (h : l ≠ 0) : gg t l ≠ 0 := by
  have z : 0 < Nat.gcd t.natAbs l.natAbs := Nat.gcd_pos_of_pos_right _ (by omega)
  unfold gg
  split <;> omega
theorem gg_abs (t l : Int) : (gg t l).natAbs = Nat.gcd t.natAbs l.natAbs := by
  unfold gg
  split <;> omega
theorem gg_bd {t l : Int} {n : Nat} (h : l ≠ 0) (hb : Bd n l) : Bd n (gg t l) := by
  unfold Bd at *
  rw [gg_abs]
  exact Nat.lt_of_le_of_lt (Nat.le_of_dvd (by omega) (Nat.gcd_dvd_right _ _)) hb
theorem gg_left (t l : Int) : gg t l ∣ t := by
  apply Int.natAbs_dvd_natAbs.mp
  rw [gg_abs]
  exact Nat.gcd_dvd_left _ _
theorem gg_right (t l : Int) : gg t l ∣ l := by
  apply Int.natAbs_dvd_natAbs.mp
  rw [gg_abs]
  exact Nat.gcd_dvd_right _ _
theorem gg_scale {t l c : Int} (h : 0 < c) (hl : l ≠ 0) : gg (-t * c) (-l * c) = -(gg t l * c) := by
  have e : Nat.gcd (-t * c).natAbs (-l * c).natAbs = Nat.gcd t.natAbs l.natAbs * c.natAbs := by
    rw [Int.natAbs_mul, Int.natAbs_mul, Int.natAbs_neg, Int.natAbs_neg, Nat.gcd_mul_right]
  unfold gg
  rw [e]
  have hc : ((Nat.gcd t.natAbs l.natAbs * c.natAbs : Nat) : Int) = ((Nat.gcd t.natAbs l.natAbs : Nat) : Int) * c := by
    rw [Int.natCast_mul, Int.natAbs_of_nonneg (Int.le_of_lt h)]
  rw [hc]
  by_cases h0 : l < 0
  · have h1 : ¬ (-l * c < 0) := by
      have : 0 < -l * c := Int.mul_pos (by omega) h
      omega
    rw [if_neg h1, if_pos h0, Int.neg_mul, Int.neg_neg]
  · have h1 : -l * c < 0 := by
      have : 0 < l * c := Int.mul_pos (by omega) h
      rw [Int.neg_mul]
      omega
    rw [if_pos h1, if_neg h0]
/-- a fraction in lowest terms -/
def fr (t l : Int) : PyData := .tuple [.int (t.fdiv (gg t l)), .int (l.fdiv (gg t l))]
theorem fdiv_exact {a g : Int} (h : g ≠ 0) (d : g ∣ a) (c : Int) (hc : c ≠ 0) : (-a * c).fdiv (-(g * c)) = a.fdiv g := by
  obtain ⟨u, rfl⟩ := d
  have e : -(g * u) * c = -(g * c) * u := by
    rw [Int.neg_mul, Int.neg_mul, Int.mul_assoc, Int.mul_assoc, Int.mul_comm u c]
  rw [e, Int.mul_fdiv_cancel_left _ h, Int.mul_fdiv_cancel_left _ (by
    intro z
    have : g * c = 0 := by omega
    rcases Int.mul_eq_zero.mp this with q | q
    · exact h q
    · exact hc q)]
theorem fr_scale {t l c : Int} (h : 0 < c) (hl : l ≠ 0) : fr (-t * c) (-l * c) = fr t l := by
  unfold fr
  rw [gg_scale h hl, fdiv_exact (gg_ne hl) (gg_left t l) c (by omega), fdiv_exact (gg_ne hl) (gg_right t l) c (by omega)]
/-- the low part is above 0 -/
theorem fr_low {t l : Int} (h : 0 < l) : 0 < l.fdiv (gg t l) := by
  have g0 : 0 < gg t l := by
    have z : 0 < Nat.gcd t.natAbs l.natAbs := Nat.gcd_pos_of_pos_right _ (by omega)
    unfold gg
    rw [if_neg (by omega)]
    omega
  obtain ⟨u, hu⟩ := gg_right t l
  have e : l.fdiv (gg t l) = u := by
    conv => lhs; lhs; rw [hu]
    exact Int.mul_fdiv_cancel_left _ (by omega)
  rw [e]
  by_cases q : 0 < u
  · exact q
  · have : gg t l * u ≤ 0 := Int.mul_nonpos_of_nonneg_of_nonpos (Int.le_of_lt g0) (by omega)
    omega
theorem fdiv_bd {t g : Int} {n : Nat} (h : g ≠ 0) (d : g ∣ t) (hb : Bd n t) : Bd n (t.fdiv g) := by
  obtain ⟨u, rfl⟩ := d
  rw [Int.mul_fdiv_cancel_left _ h]
  unfold Bd at *
  rw [Int.natAbs_mul] at hb
  exact Nat.lt_of_le_of_lt (Nat.le_mul_of_pos_left _ (by omega)) hb
end Dee
namespace Dee
open PySem PySem.Spec
theorem b_add (i j : Int) : binD .add (.int i) (.int j) = .ok (.int (i + j)) := rfl
theorem b_sub (i j : Int) : binD .sub (.int i) (.int j) = .ok (.int (i - j)) := rfl
theorem b_mul {i j : Int} (h : mulOk i j = true) : binD .mul (.int i) (.int j) = .ok (.int (i * j)) := if_pos h
theorem b_mod {i j : Int} (h : 0 < j) : binD .mod (.int i) (.int j) = .ok (.int (i % j)) := if_pos h
theorem b_div {i j : Int} (h : 0 < j) (hb : j.natAbs < 2 ^ 9000) : binD .fdiv (.int i) (.int j) = .ok (.int (i / j)) := by
  rw [fdiv_ok (by omega) hb, Int.fdiv_eq_ediv_of_nonneg i (by omega)]
theorem b_and (i j : Int) : binD .band (.int i) (.int j) = .ok (.int (Builtin.bitAnd i j)) := rfl
theorem b_pow {i : Int} {n : Nat} (h : n ≤ 1000000) (hi : i.natAbs < 2 ^ 64) : binD .pow (.int i) (.int n) = .ok (.int (i ^ n)) := by
  have c : (0 : Int) ≤ n ∧ (n : Int) ≤ 1000000 ∧ i.natAbs < 2 ^ 64 := ⟨by omega, by omega, hi⟩
  exact if_pos c
end Dee
namespace Dee
open PySem PySem.Spec
theorem evI_r1 {E : Evn} {a : CE} {Γ : List Sl} {i : Int} (h : ev E a Γ = .ok (.int i)) (hs : small i = true) : evI E (.r1 a) Γ = .ok (rangeD 0 i.toNat) := by
  show ((ev E a Γ).bind fun x => (asInt x).bind fun i => if small i = true then .ok (rangeD 0 i.toNat) else unk) = _
  rw [h]
  exact if_pos hs
theorem evI_r2 {E : Evn} {a b : CE} {Γ : List Sl} {i j : Int} (h : ev E a Γ = .ok (.int i)) (h2 : ev E b Γ = .ok (.int j)) (hs : small i = true ∧ small j = true) : evI E (.r2 a b) Γ = .ok (rangeD i (j - i).toNat) := by
  show ((ev E a Γ).bind fun x => (ev E b Γ).bind fun y => (asInt x).bind fun i => (asInt y).bind fun j => if small i = true ∧ small j = true then .ok (rangeD i (j - i).toNat) else unk) = _
  rw [h, h2]
  exact if_pos hs
theorem evI_r3 {E : Evn} {a b c : CE} {Γ : List Sl} {i j k : Int} (h : ev E a Γ = .ok (.int i)) (h2 : ev E b Γ = .ok (.int j)) (h3 : ev E c Γ = .ok (.int k)) (hs : small i = true ∧ small j = true ∧ 0 < k ∧ k < 1000000) : evI E (.r3 a b c) Γ = .ok (rangeC i k (stepN i j k)) := by
  show ((ev E a Γ).bind fun x => (ev E b Γ).bind fun y => (ev E c Γ).bind fun z => (asInt x).bind fun i => (asInt y).bind fun j => (asInt z).bind fun k =>
      if small i = true ∧ small j = true ∧ 0 < k ∧ k < 1000000 then .ok (rangeC i k (stepN i j k)) else unk) = _
  rw [h, h2, h3]
  exact if_pos hs
theorem evI_lst {E : Evn} {a : CE} {Γ : List Sl} {ds : List PyData} (h : ev E a Γ = .ok (.list ds)) : evI E (.of a) Γ = .ok ds := by
  show ((ev E a Γ).bind fun x => (match x with
    | .list ds => .ok ds
    | .tuple ds => .ok ds
    | _ => unk)) = _
  rw [h]
  rfl
theorem evI_tup {E : Evn} {a : CE} {Γ : List Sl} {ds : List PyData} (h : ev E a Γ = .ok (.tuple ds)) : evI E (.of a) Γ = .ok ds := by
  show ((ev E a Γ).bind fun x => (match x with
    | .list ds => .ok ds
    | .tuple ds => .ok ds
    | _ => unk)) = _
  rw [h]
  rfl
theorem ex_for {E : Evn} {tg : Tg} {it : CI} {bd : CSs} {Γ : List Sl} {ds : List PyData} {o : Out} (h : evI E it Γ = .ok ds) (h2 : forL (fun d Γ => asg tg d Γ) (fun Γ => exs E bd Γ) ds Γ = o) : ex E (.for tg it bd) Γ = o := by
  show ofR (evI E it Γ) Γ (fun ds => forL (fun d Γ => asg tg d Γ) (fun Γ => exs E bd Γ) ds Γ) = o
  rw [h]
  exact h2
theorem small_ok {i : Int} (h : -1000000000 < i) (h2 : i < 1000000000) : small i = true := by
  unfold small
  rw [Bool.and_eq_true]
  exact ⟨decide_eq_true (by omega), decide_eq_true (by omega)⟩
end Dee
namespace Dee
open PySem PySem.Spec
theorem exs_nx {E : Evn} {s : CS} {ss : CSs} {Γ Γ' : List Sl} (h : ex E s Γ = .nx Γ') : exs E (.cons s ss) Γ = exs E ss Γ' := by
  rw [exs_cons, h]
  rfl
theorem exs_rt {E : Evn} {s : CS} {ss : CSs} {Γ : List Sl} {d : PyData} (h : ex E s Γ = .rt d) : exs E (.cons s ss) Γ = .rt d := by
  rw [exs_cons, h]
  rfl
theorem exs_xc {E : Evn} {s : CS} {ss : CSs} {Γ Γ' : List Sl} {c : Nat} (h : ex E s Γ = .xc c Γ') : exs E (.cons s ss) Γ = .xc c Γ' := by
  rw [exs_cons, h]
  rfl
theorem runF_of {E : Evn} {g : FnT} {ds : List PyData} {o : Out} (h : ds.length = g.np) (e : exs E g.body (slots g.nn ds) = o) (hf : g.fr = false := by rfl) : runF E g ds = outR o := by
  unfold runF
  rw [if_pos h, e, hf]
  rfl
theorem runF_ofX {E : Evn} {g : FnT} {ds : List PyData} {o : Out} (h : ds.length = g.np) (e : exs E g.body (slots g.nn ds) = o) : runF E g ds = outX g.fr o := by
  unfold runF
  rw [if_pos h, e]
theorem ex_if {E : Evn} {c : CE} {a b : CSs} {Γ : List Sl} {t : Bool} {o : Out} (h : ev E c Γ = .ok (.bool t)) (h2 : (if t = true then exs E a Γ else exs E b Γ) = o) : ex E (.iff c a b) Γ = o := by
  show ofR (ev E c Γ) Γ (fun d => match d with
    | .bool true => exs E a Γ
    | .bool false => exs E b Γ
    | _ => .un) = o
  rw [h]
  cases t <;> exact h2
theorem ex_set {E : Evn} {i : Nat} {e : CE} {Γ : List Sl} {d : PyData} (h : ev E e Γ = .ok d) (hi : i < Γ.length) : ex E (.set i e) Γ = .nx (Γ.set i (.sh d)) := by
  show ofR (ev E e Γ) Γ (fun d => setS Γ i (.sh d)) = _
  rw [h]
  exact if_pos hi
theorem ex_ret {E : Evn} {e : CE} {Γ : List Sl} {d : PyData} (h : ev E e Γ = .ok d) : ex E (.ret e) Γ = .rt d := by
  show ofR (ev E e Γ) Γ (fun d => .rt d) = _
  rw [h]
  rfl
end Dee

set_option maxRecDepth 100000
set_option maxHeartbeats 4000000
/-! Dee, part 24: constants of the text's modules. -/
namespace Dee
open PySem PySem.Spec PyProof.Rows L2

mutual
/-- the value u of the written part reads as d -/
def dpB (K : PySem.W.Frag) : D → Value → Bool
  | .none, u => (match u with
    | .none => true
    | _ => false)
  | .bool b, u => (match u with
    | .bool c => decide (b = c)
    | _ => false)
  | .int i, u => (match u with
    | .int j _ => decide (i = j)
    | _ => false)
  | .str x, u => (match u with
    | .str y _ => decide (x = y)
    | _ => false)
  | .list ds, u => (match u with
    | .ref a => (match K.lookup a with
      | some ⟨.type c, none, .seq its _, _⟩ => decide (c = "list") && (decide (its.size ≤ sizeLine) && dpBs K ds its.toList)
      | _ => false)
    | _ => false)
  | .tuple ds, u => (match u with
    | .ref a => (match K.lookup a with
      | some ⟨.type c, none, .seq its _, _⟩ => decide (c = "tuple") && (decide (its.size ≤ sizeLine) && dpBs K ds its.toList)
      | _ => false)
    | _ => false)
  | _, _ => false
def dpBs (K : PySem.W.Frag) : List D → List Value → Bool
  | [], us => (match us with
    | [] => true
    | _ => false)
  | d :: ds, us => (match us with
    | u :: us => dpB K d u && dpBs K ds us
    | _ => false)
end
mutual
theorem dpB_ok {K : PySem.W.Frag} : ∀ (d : D) (u : Value), dpB K d u = true → ∃ v, RelV v u ∧ ∀ H, Dp K H v d
  | .none, u, h => by
    unfold dpB at h
    cases u <;> first | (cases h; done) | exact ⟨.non, rfl, fun _ => .non⟩
  | .bool b, u, h => by
    unfold dpB at h
    cases u <;> first | (cases h; done) | skip
    have e := of_decide_eq_true h
    subst e
    exact ⟨.bl b, rfl, fun _ => .bl b⟩
  | .int i, u, h => by
    unfold dpB at h
    cases u <;> first | (cases h; done) | skip
    have e := of_decide_eq_true h
    subst e
    exact ⟨.int i, ⟨_, rfl⟩, fun _ => .int i⟩
  | .str x, u, h => by
    unfold dpB at h
    cases u <;> first | (cases h; done) | skip
    have e := of_decide_eq_true h
    subst e
    exact ⟨.str x, ⟨_, rfl⟩, fun _ => .str x⟩
  | .list ds, u, h => by
    unfold dpB at h
    split at h
    · rename_i a
      split at h
      · rename_i c its n sl q
        rw [Bool.and_eq_true, Bool.and_eq_true] at h
        obtain ⟨h1, h2, h3⟩ := h
        have e := of_decide_eq_true h1
        subst e
        obtain ⟨vs, r, dp⟩ := dpBs_ok ds its.toList h3
        exact ⟨.ref a, rfl, fun H => .lst (.inr ⟨_, its, n, q, rfl, rfl, rfl, of_decide_eq_true h2, r⟩) (dp H)⟩
      · cases h
    · cases h
  | .tuple ds, u, h => by
    unfold dpB at h
    split at h
    · rename_i a
      split at h
      · rename_i c its n sl q
        rw [Bool.and_eq_true, Bool.and_eq_true] at h
        obtain ⟨h1, h2, h3⟩ := h
        have e := of_decide_eq_true h1
        subst e
        obtain ⟨vs, r, dp⟩ := dpBs_ok ds its.toList h3
        exact ⟨.ref a, rfl, fun H => .tup (.inr ⟨_, its, n, q, rfl, rfl, of_decide_eq_true h2, r⟩) (dp H)⟩
      · cases h
    · cases h
  | .dict _, u, h => absurd h (by unfold dpB; exact Bool.false_ne_true)
theorem dpBs_ok {K : PySem.W.Frag} : ∀ (ds : List D) (us : List Value), dpBs K ds us = true → ∃ vs, Vals vs us ∧ ∀ H, DpAll K H vs ds
  | [], us, h => by
    unfold dpBs at h
    cases us with
    | nil => exact ⟨[], .nil, fun _ => .nil⟩
    | cons _ _ => cases h
  | d :: ds, us, h => by
    unfold dpBs at h
    cases us with
    | nil => cases h
    | cons u us =>
      have h : (dpB K d u && dpBs K ds us) = true := h
      rw [Bool.and_eq_true] at h
      obtain ⟨v, r, dp⟩ := dpB_ok d u h.1
      obtain ⟨vs, rs, dps⟩ := dpBs_ok ds us h.2
      exact ⟨v :: vs, .cons r rs, fun H => .cons (dp H) (dps H)⟩
end
/-- the look at the constants: T.con's values -/
def conB (T : Tab) (cs : List D) (K : PySem.W.Frag) : Bool := decide (cs.length = T.con.length) && (List.range T.con.length).all fun i => match PySem.W.nsIn K mainGlobals (T.con.getD i Str.empty) with
  | some (some u) => dpB K (cs.getD i .none) u
  | _ => false
def gfB2 (T : Tab) (tbl : List (List Bool)) (cs : List D) (K : PySem.W.Frag) : Bool := gfB { T with con := [] } tbl K && conB T cs K
theorem gf_of2 {T : Tab} {tbl : List (List Bool)} {cs : List D} {K : PySem.W.Frag} {h : Heap} {mg : Str → Option Value} (X : K.In h) (N : h.Ns mainGlobals mg) (g : gfB2 T tbl cs K = true) : Gf T (fun i => cs[i]?) (tblS T.cls.length tbl) (clA T K) K mg := by
  unfold gfB2 at g
  rw [Bool.and_eq_true] at g
  have G := gf_of X N rfl g.1
  obtain ⟨_, g2⟩ := g
  unfold conB at g2
  rw [Bool.and_eq_true] at g2
  refine { con := fun i x e => ?_, blt := G.blt, gcd := G.gcd, cls := G.cls, kit := G.kit, kn := G.kn, exm := G.exm, exc := G.exc }
  have z := List.all_eq_true.mp g2.2 i (List.mem_range.mpr (lt_of_at e))
  have e2 : T.con.getD i Str.empty = x := by rw [List.getD_eq_getElem?_getD, e]; rfl
  rw [e2] at z
  have hl : i < cs.length := by rw [of_decide_eq_true g2.1]; exact lt_of_at e
  have e3 : cs.getD i .none = cs[i] := by rw [List.getD_eq_getElem?_getD, List.getElem?_eq_getElem hl]; rfl
  rw [e3] at z
  cases q : PySem.W.nsIn K mainGlobals x with
  | none => rw [q] at z; cases z
  | some o =>
    rw [q] at z
    cases o with
    | none => cases z
    | some u =>
      obtain ⟨v, r, dp⟩ := dpB_ok _ u z
      exact ⟨u, v, cs[i], PySem.W.mg_of X N q, r, List.getElem?_eq_getElem hl, dp⟩
end Dee

set_option maxRecDepth 100000
set_option maxHeartbeats 1000000
/-! Dee, part 25: running the small language forward, piece by piece. -/
namespace Dee
open PySem PySem.Spec L2
/-- what holds behind some statements -/
def Wp (E : Evn) (ss : CSs) (Γ : List Sl) (Q : Out → Prop) : Prop := Q (exs E ss Γ)
/-- without the first n statements -/
def dropS : Nat → CSs → CSs
  | 0, s => s
  | _ + 1, .nil => .nil
  | n + 1, .cons _ s => dropS n s
  | n + 1, .frz _ s => dropS n s
/-- the body of a def's loop that stands ahead -/
def bodyOf : CSs → CSs
  | .cons (.for _ _ b) _ => b
  | _ => .nil
/-- .. and then others -/
def Sq (E : Evn) (ss : CSs) (Q : Out → Prop) : Out → Prop
  | .nx Γ => Wp E ss Γ Q
  | .rt d => Q (.rt d)
  | .rf ds => Q (.rf ds)
  | .bk Γ => Q (.bk Γ)
  | .ct Γ => Q (.ct Γ)
  | .xc c Γ => Q (.xc c Γ)
  | .un => Q .un
section
variable {E : Evn} {ss : CSs} {Γ : List Sl} {Q : Out → Prop}
theorem wp_nil (h : Q (.nx Γ)) : Wp E .nil Γ Q := h
theorem wp_mono {Q' : Out → Prop} (h : Wp E ss Γ Q') (m : ∀ o, Q' o → Q o) : Wp E ss Γ Q := m _ h
theorem wp_cons {s : CS} {o : Out} (h : ex E s Γ = o) (k : Sq E ss Q o) : Wp E (.cons s ss) Γ Q := by
  show Q (exs E (.cons s ss) Γ)
  rw [exs_cons, h]
  cases o <;> exact k
theorem wp_pass (k : Wp E ss Γ Q) : Wp E (.cons .pass ss) Γ Q := wp_cons rfl k
theorem wp_set {i : Nat} {e : CE} {d : D} (h : ev E e Γ = .ok d) (hi : i < Γ.length) (k : Wp E ss (Γ.set i (.sh d)) Q) : Wp E (.cons (.set i e) ss) Γ Q := wp_cons (ex_set h hi) k
theorem wp_setO {i : Nat} {e : CE} {ds : List D} (h : evF E e Γ = .ok ds) (hi : i < Γ.length) (k : Wp E ss (Γ.set i (.own ds)) Q) : Wp E (.cons (.setO i e) ss) Γ Q := by
  refine wp_cons (o := .nx (Γ.set i (.own ds))) ?_ k
  show ofR (evF E e Γ) Γ (fun ds => setS Γ i (.own ds)) = _
  rw [h]
  exact if_pos hi
theorem wp_setC {i f : Nat} {es : CEs} {ds : List D} {d : D} (h : evs E es Γ = .ok ds) (h2 : E.F f ds = .ok d) (hi : i < Γ.length) (k : Wp E ss (Γ.set i (ownC d)) Q) : Wp E (.cons (.setC i f es) ss) Γ Q := by
  refine wp_cons (o := .nx (Γ.set i (ownC d))) ?_ k
  show ofR ((evs E es Γ).bind fun ds => E.F f ds) Γ (fun d => setS Γ i (ownC d)) = _
  rw [h]
  show ofR (E.F f ds) Γ _ = _
  rw [h2]
  exact if_pos hi
theorem wp_setB {is : List Nat} {i : Nat} {e : CE} {d : D} (h : ev E e (frzs is Γ) = .ok d) (hs : scal d = true) (hi : i < Γ.length) (k : Wp E ss (Γ.set i (.sh d)) Q) : Wp E (.cons (.setB is i e) ss) Γ Q := by
  refine wp_cons (o := .nx (Γ.set i (.sh d))) ?_ k
  show ofR (ev E e (frzs is Γ)) Γ (fun d => if scal d = true then setS Γ i (.sh d) else .un) = _
  rw [h]
  show (if scal d = true then setS Γ i (.sh d) else .un) = _
  rw [if_pos hs]
  exact if_pos hi
theorem wp_setT {is : List Nat} {e : CE} {ds : List D} {Γ' : List Sl} (h : ev E e Γ = .ok (.tuple ds)) (hp : putAll is ds Γ = some Γ') (k : Wp E ss Γ' Q) : Wp E (.cons (.setT is e) ss) Γ Q := by
  refine wp_cons (o := .nx Γ') ?_ k
  show ofR (ev E e Γ) Γ (fun d => match asg (.tp is) d Γ with
    | some Γ' => .nx Γ'
    | none => .un) = _
  rw [h]
  show (match putAll is ds Γ with
    | some Γ' => Out.nx Γ'
    | none => .un) = _
  rw [hp]
theorem wp_setTL {is : List Nat} {e : CE} {ds : List D} {Γ' : List Sl} (h : ev E e Γ = .ok (.list ds)) (hp : putAll is ds Γ = some Γ') (k : Wp E ss Γ' Q) : Wp E (.cons (.setT is e) ss) Γ Q := by
  refine wp_cons (o := .nx Γ') ?_ k
  show ofR (ev E e Γ) Γ (fun d => match asg (.tp is) d Γ with
    | some Γ' => .nx Γ'
    | none => .un) = _
  rw [h]
  show (match putAll is ds Γ with
    | some Γ' => Out.nx Γ'
    | none => .un) = _
  rw [hp]
theorem wp_par {i j : Nat} {a b : CE} {x y : D} (h1 : ev E a Γ = .ok x) (h2 : ev E b Γ = .ok y) (hi : i ≠ j ∧ i < Γ.length ∧ j < Γ.length) (k : Wp E ss ((Γ.set i (.sh x)).set j (.sh y)) Q) : Wp E (.cons (.par i j a b) ss) Γ Q := by
  refine wp_cons (o := .nx ((Γ.set i (.sh x)).set j (.sh y))) ?_ k
  show ofR (ev E a Γ) Γ (fun x => ofR (ev E b Γ) Γ fun y => if i ≠ j ∧ i < Γ.length ∧ j < Γ.length then .nx ((Γ.set i (.sh x)).set j (.sh y)) else .un) = _
  rw [h1]
  show ofR (ev E b Γ) Γ _ = _
  rw [h2]
  exact if_pos hi
theorem wp_app {i : Nat} {e : CE} {ds : List D} {d : D} (hg : Γ[i]? = some (.own ds)) (h : ev E e Γ = .ok d) (hl : ds.length < most) (k : Wp E ss (Γ.set i (.own (ds ++ [d]))) Q) : Wp E (.cons (.app i e) ss) Γ Q := by
  refine wp_cons (o := .nx (Γ.set i (.own (ds ++ [d])))) ?_ k
  unfold ex
  rw [hg]
  show ofR (ev E e Γ) Γ _ = _
  rw [h]
  exact if_pos hl
theorem wp_six {i : Nat} {kk e : CE} {ds : List D} {d : D} {n : Int} {j : Nat} (hg : Γ[i]? = some (.own ds)) (h : ev E e Γ = .ok d) (h2 : ev E kk Γ = .ok (.int n)) (hj : ixN ds.length n = some j) (k : Wp E ss (Γ.set i (.own (ds.set j d))) Q) : Wp E (.cons (.six i kk e) ss) Γ Q := by
  refine wp_cons (o := .nx (Γ.set i (.own (ds.set j d)))) ?_ k
  unfold ex
  rw [hg]
  show ofR (ev E e Γ) Γ _ = _
  rw [h]
  show ofR (ev E kk Γ) Γ _ = _
  rw [h2]
  show (match ixN ds.length n with
    | some j => Out.nx (Γ.set i (.own (ds.set j d)))
    | none => .un) = _
  rw [hj]
theorem wp_newD {i : Nat} (hi : i < Γ.length) (k : Wp E ss (Γ.set i (.dk [])) Q) : Wp E (.cons (.newD i false) ss) Γ Q := by
  refine wp_cons (o := .nx (Γ.set i (.dk []))) ?_ k
  exact if_pos hi
theorem wp_dput {i : Nat} {kk e : CE} {kvs : List (Key × D)} {d x : D} {q : Key} (hg : Γ[i]? = some (.dk kvs)) (h : ev E e Γ = .ok d) (h2 : ev E kk Γ = .ok x) (hq : keyOf x = some q) (hl : kvs.length < most) (k : Wp E ss (Γ.set i (.dk (putD kvs q d))) Q) : Wp E (.cons (.dput i kk e) ss) Γ Q := by
  refine wp_cons (o := .nx (Γ.set i (.dk (putD kvs q d)))) ?_ k
  unfold ex
  rw [hg]
  show ofR (ev E e Γ) Γ _ = _
  rw [h]
  show ofR (ev E kk Γ) Γ _ = _
  rw [h2]
  show ofR (asKey x) Γ _ = _
  unfold asKey
  rw [hq]
  exact if_pos hl
theorem wp_ret {e : CE} {d : D} (h : ev E e Γ = .ok d) (k : Q (.rt d)) : Wp E (.cons (.ret e) ss) Γ Q := wp_cons (ex_ret h) k
theorem wp_retN (k : Q (.rt .none)) : Wp E (.cons .retN ss) Γ Q := wp_cons (o := .rt .none) rfl k
theorem wp_retF {e : CE} {ds : List D} (h : evF E e Γ = .ok ds) (k : Q (.rf ds)) : Wp E (.cons (.retF e) ss) Γ Q := by
  refine wp_cons (o := .rf ds) ?_ k
  show ofR (evF E e Γ) Γ _ = _
  rw [h]
  rfl
theorem wp_retO {i : Nat} {ds : List D} (hg : Γ[i]? = some (.own ds)) (k : Q (.rf ds)) : Wp E (.cons (.retO i) ss) Γ Q := by
  refine wp_cons (o := .rf ds) ?_ k
  unfold ex
  rw [hg]
theorem wp_retC {f : Nat} {es : CEs} {ds : List D} {d : D} (h : evs E es Γ = .ok ds) (h2 : E.F f ds = .ok d) (k : Q (rtC d)) : Wp E (.cons (.retC f es) ss) Γ Q := by
  have e : ex E (.retC f es) Γ = rtC d := by
    show ofR ((evs E es Γ).bind fun ds => E.F f ds) Γ rtC = _
    rw [h]
    show ofR (E.F f ds) Γ _ = _
    rw [h2]
    rfl
  refine wp_cons e ?_
  cases d <;> exact k
theorem wp_xc {s : CS} {c : Nat} {Γ' : List Sl} (h : ex E s Γ = .xc c Γ') (k : Q (.xc c Γ')) : Wp E (.cons s ss) Γ Q := wp_cons h k
theorem wp_raise {c : Nat} (k : Q (.xc c Γ)) : Wp E (.cons (.raise c) ss) Γ Q := wp_cons (o := .xc c Γ) rfl k
theorem wp_expr {e : CE} {d : D} (h : ev E e Γ = .ok d) (k : Wp E ss Γ Q) : Wp E (.cons (.expr e) ss) Γ Q := by
  refine wp_cons (o := .nx Γ) ?_ k
  show ofR (ev E e Γ) Γ _ = _
  rw [h]
  rfl
theorem wp_appC {f : Nat} {es : CEs} {e : CE} {ds xs : List D} {d : D} (h : evs E es Γ = .ok ds) (h2 : E.F f ds = .ok (.list xs)) (hl : xs.length < most) (h3 : ev E e Γ = .ok d) (k : Wp E ss Γ Q) : Wp E (.cons (.appC f es e) ss) Γ Q := by
  refine wp_cons (o := .nx Γ) ?_ k
  show ofR ((evs E es Γ).bind fun ds => E.F f ds) Γ _ = _
  rw [h]
  show ofR (E.F f ds) Γ _ = _
  rw [h2]
  show (if xs.length < most then ofR (ev E e Γ) Γ (fun _ => .nx Γ) else .un) = _
  rw [if_pos hl, h3]
  rfl
theorem wp_if {c : CE} {a b : CSs} {t : Bool} (h : ev E c Γ = .ok (.bool t)) (kt : t = true → Wp E a Γ (Sq E ss Q)) (kf : t = false → Wp E b Γ (Sq E ss Q)) : Wp E (.cons (.iff c a b) ss) Γ Q := by
  cases t with
  | true => exact wp_cons (ex_if h rfl) (kt rfl)
  | false => exact wp_cons (ex_if h rfl) (kf rfl)
theorem wp_ift {c : CE} {a b : CSs} (h : ev E c Γ = .ok (.bool true)) (k : Wp E a Γ (Sq E ss Q)) : Wp E (.cons (.iff c a b) ss) Γ Q := wp_if h (fun _ => k) nofun
theorem wp_iff {c : CE} {a b : CSs} (h : ev E c Γ = .ok (.bool false)) (k : Wp E b Γ (Sq E ss Q)) : Wp E (.cons (.iff c a b) ss) Γ Q := wp_if h nofun (fun _ => k)
theorem wp_skip (k : Wp E ss Γ Q) : Wp E .nil Γ (Sq E ss Q) := k
theorem wp_iff0 {c : CE} {a : CSs} (h : ev E c Γ = .ok (.bool false)) (k : Wp E ss Γ Q) : Wp E (.cons (.iff c a .nil) ss) Γ Q := wp_iff h (wp_skip k)
theorem ex_ifB {is : List Nat} {c : CE} {a b : CSs} {t : Bool} {o : Out} (h : ev E c (frzs is Γ) = .ok (.bool t)) (h2 : (if t = true then exs E a Γ else exs E b Γ) = o) : ex E (.iffB is c a b) Γ = o := by
  show ofR (ev E c (frzs is Γ)) Γ (fun d => match d with
    | .bool true => exs E a Γ
    | .bool false => exs E b Γ
    | _ => .un) = o
  rw [h]
  cases t <;> exact h2
theorem wp_ifB {is : List Nat} {c : CE} {a b : CSs} {t : Bool} (h : ev E c (frzs is Γ) = .ok (.bool t)) (kt : t = true → Wp E a Γ (Sq E ss Q)) (kf : t = false → Wp E b Γ (Sq E ss Q)) : Wp E (.cons (.iffB is c a b) ss) Γ Q := by
  cases t with
  | true => exact wp_cons (ex_ifB h rfl) (kt rfl)
  | false => exact wp_cons (ex_ifB h rfl) (kf rfl)
theorem wp_ifB0 {is : List Nat} {c : CE} {a : CSs} (h : ev E c (frzs is Γ) = .ok (.bool false)) (k : Wp E ss Γ Q) : Wp E (.cons (.iffB is c a .nil) ss) Γ Q := wp_ifB h nofun (fun _ => wp_skip k)
theorem wp_frz {i : Nat} (k : Wp E ss (frz1 Γ i) Q) : Wp E (.frz i ss) Γ Q := by
  have e : exs E (.frz i ss) Γ = exs E ss (frz1 Γ i) := by
    unfold frz1
    show (match Γ[i]? with
      | some (.own ds) => exs E ss (Γ.set i (.sh (.list ds)))
      | _ => exs E ss Γ) = _
    cases e : Γ[i]? with
    | none => rfl
    | some s => cases s <;> rfl
  show Q (exs E (.frz i ss) Γ)
  rw [e]
  exact k

/-! ### loops -/
/-- a turn's end -/
def Tn (I : List Sl → Prop) (B : List Sl → Prop) (Q : Out → Prop) : Out → Prop
  | .nx Γ => I Γ
  | .ct Γ => I Γ
  | .bk Γ => B Γ
  | .rt d => Q (.rt d)
  | .rf ds => Q (.rf ds)
  | .xc c Γ => Q (.xc c Γ)
  | .un => False
theorem forL_inv {X : Type} {enc : X → D} {as : D → List Sl → Option (List Sl)} {bd : List Sl → Out} {P : Out → Prop} (I : List X → List Sl → Prop) : ∀ (pre post : List X) (Γ : List Sl), I pre Γ →
    (∀ pre' x post' Γ, pre ++ post = pre' ++ x :: post' → I pre' Γ → ∃ Γ1, as (enc x) Γ = some Γ1 ∧ Tn (I (pre' ++ [x])) (fun Γ => P (.nx Γ)) P (bd Γ1)) → (∀ Γ, I (pre ++ post) Γ → P (.nx Γ)) → P (forL as bd (post.map enc) Γ)
  | pre, [], Γ, h0, step, fin => fin Γ (by rw [List.append_nil]; exact h0)
  | pre, x :: post, Γ, h0, step, fin => by
    obtain ⟨Γ1, e1, t⟩ := step pre x post Γ rfl h0
    have app : (pre ++ [x]) ++ post = pre ++ x :: post := by simp
    have next : ∀ Γ2, I (pre ++ [x]) Γ2 → P (forL as bd (post.map enc) Γ2) := fun Γ2 h2 => forL_inv I (pre ++ [x]) post Γ2 h2 (by rw [app]; exact step) (by rw [app]; exact fin)
    rw [List.map_cons]
    unfold forL
    rw [e1]
    dsimp only
    cases g : bd Γ1 with
    | nx Γ2 => rw [g] at t; exact next Γ2 t
    | ct Γ2 => rw [g] at t; exact next Γ2 t
    | bk Γ2 => rw [g] at t; exact t
    | rt d => rw [g] at t; exact t
    | rf d => rw [g] at t; exact t
    | xc c Γ2 => rw [g] at t; exact t
    | un => rw [g] at t; exact t.elim
theorem wp_for {X : Type} {enc : X → D} {xs : List X} {tg : Tg} {it : CI} {bd : CSs} (I : List X → List Sl → Prop) (hi : evI E it Γ = .ok (xs.map enc)) (h0 : I [] Γ)
    (step : ∀ pre x post Γ, xs = pre ++ x :: post → I pre Γ → ∃ Γ1, asg tg (enc x) Γ = some Γ1 ∧ Wp E bd Γ1 (Tn (I (pre ++ [x])) (fun Γ => Wp E ss Γ Q) Q)) (fin : ∀ Γ, I xs Γ → Wp E ss Γ Q) : Wp E (.cons (.for tg it bd) ss) Γ Q := by
  have e : ex E (.for tg it bd) Γ = forL (fun d Γ => asg tg d Γ) (fun Γ => exs E bd Γ) (xs.map enc) Γ := ex_for hi rfl
  refine wp_cons e ?_
  have key := forL_inv (as := fun d Γ => asg tg d Γ) (bd := fun Γ => exs E bd Γ) (P := Sq E ss Q) I [] xs Γ h0 (fun pre' x post' Γ' e h => by
    obtain ⟨Γ1, e1, w⟩ := step pre' x post' Γ' (by simpa using e) h
    refine ⟨Γ1, e1, ?_⟩
    have w : Tn (I (pre' ++ [x])) (fun Γ => Wp E ss Γ Q) Q (exs E bd Γ1) := w
    revert w
    cases exs E bd Γ1 <;> exact id) (fun Γ h => fin Γ (by simpa using h))
  exact key
/-- a loop by a measure -/
theorem whL_inv {c : List Sl → R} {bd : List Sl → Out} {P : Out → Prop} (I : Nat → List Sl → Prop) (step : ∀ m Γ, I m Γ → (c Γ = .ok (.bool false) ∧ P (.nx Γ)) ∨ (c Γ = .ok (.bool true) ∧ Tn (fun Γ2 => ∃ m', m' < m ∧ I m' Γ2) (fun Γ => P (.nx Γ)) P (bd Γ))) :
    ∀ (n m : Nat) (Γ : List Sl), m < n → I m Γ → P (whL c bd n Γ)
  | 0, m, Γ, h, _ => absurd h (Nat.not_lt_zero _)
  | n + 1, m, Γ, h, hI => by
    unfold whL
    rcases step m Γ hI with ⟨e, p⟩ | ⟨e, t⟩
    · rw [e]
      exact p
    · rw [e]
      dsimp only
      have next : ∀ Γ2, (∃ m', m' < m ∧ I m' Γ2) → P (whL c bd n Γ2) := fun Γ2 ⟨m', hm, h2⟩ => whL_inv I step n m' Γ2 (by omega) h2
      cases g : bd Γ with
      | nx Γ2 => rw [g] at t; exact next Γ2 t
      | ct Γ2 => rw [g] at t; exact next Γ2 t
      | bk Γ2 => rw [g] at t; exact t
      | rt d => rw [g] at t; exact t
      | rf d => rw [g] at t; exact t
      | xc c Γ2 => rw [g] at t; exact t
      | un => rw [g] at t; exact t.elim
theorem wp_whl {n m : Nat} {c : CE} {bd : CSs} (I : Nat → List Sl → Prop) (hm : m < n) (h0 : I m Γ)
    (step : ∀ m Γ, I m Γ → (ev E c Γ = .ok (.bool false) ∧ Wp E ss Γ Q) ∨ (ev E c Γ = .ok (.bool true) ∧ Wp E bd Γ (Tn (fun Γ2 => ∃ m', m' < m ∧ I m' Γ2) (fun Γ => Wp E ss Γ Q) Q))) : Wp E (.cons (.whl n c bd) ss) Γ Q := by
  refine wp_cons (o := whL (fun Γ => ev E c Γ) (fun Γ => exs E bd Γ) n Γ) rfl ?_
  refine whL_inv (P := Sq E ss Q) I (fun m Γ h => ?_) n m Γ hm h0
  rcases step m Γ h with ⟨e, p⟩ | ⟨e, w⟩
  · exact .inl ⟨e, p⟩
  · refine .inr ⟨e, ?_⟩
    have w : Tn (fun Γ2 => ∃ m', m' < m ∧ I m' Γ2) (fun Γ => Wp E ss Γ Q) Q (exs E bd Γ) := w
    revert w
    cases exs E bd Γ <;> exact id
end
/-! ### expressions, by parts -/
section
variable {E : Evn} {Γ : List Sl}
theorem evs_nil : evs E .nil Γ = .ok [] := rfl
theorem evs_cons {e : CE} {es : CEs} {d : D} {ds : List D} (h : ev E e Γ = .ok d) (h2 : evs E es Γ = .ok ds) : evs E (.cons e es) Γ = .ok (d :: ds) := by
  show (ev E e Γ).bind (fun x => (evs E es Γ).bind fun xs => .ok (x :: xs)) = _
  rw [h, h2]
  rfl
theorem evs_1 {e : CE} {d : D} (h : ev E e Γ = .ok d) : evs E (.cons e .nil) Γ = .ok [d] := evs_cons h evs_nil
theorem evs_2 {a b : CE} {x y : D} (h : ev E a Γ = .ok x) (h2 : ev E b Γ = .ok y) : evs E (.cons a (.cons b .nil)) Γ = .ok [x, y] := evs_cons h (evs_1 h2)
theorem ev_call {f : Nat} {es : CEs} {ds : List D} {r : R} (h : evs E es Γ = .ok ds) (h2 : E.F f ds = r) : ev E (.call f es) Γ = r := by
  show (evs E es Γ).bind (fun ds => E.F f ds) = _
  rw [h]
  exact h2
theorem ev_bin {o : Bin} {a b : CE} {x y : D} {r : R} (h : ev E a Γ = .ok x) (h2 : ev E b Γ = .ok y) (h3 : binD o x y = r) : ev E (.bin o a b) Γ = r := by
  show (ev E a Γ).bind (fun x => (ev E b Γ).bind fun y => binD o x y) = _
  rw [h, h2]
  exact h3
theorem ev_cmp {o : Cm} {a b : CE} {x y : D} {t : Bool} (h : ev E a Γ = .ok x) (h2 : ev E b Γ = .ok y) (h3 : cmpB o x y = .ok t) : ev E (.cmp o a b) Γ = .ok (.bool t) := by
  show (ev E a Γ).bind (fun x => (ev E b Γ).bind fun y => cmpD o x y) = _
  rw [h, h2]
  show (cmpB o x y).map PyData.bool = _
  rw [h3]
  rfl
theorem ev_idx {a b : CE} {x y : D} {r : R} (h : ev E a Γ = .ok x) (h2 : ev E b Γ = .ok y) (h3 : idxD x y = r) : ev E (.idx a b) Γ = r := by
  show (ev E a Γ).bind (fun x => (ev E b Γ).bind fun y => idxD x y) = _
  rw [h, h2]
  exact h3
theorem ev_not {a : CE} {t : Bool} (h : ev E a Γ = .ok (.bool t)) : ev E (.not a) Γ = .ok (.bool (!t)) := by
  show (ev E a Γ).bind (fun x => (asBool x).bind fun k => .ok (PyData.bool (!k))) = _
  rw [h]
  rfl
theorem ev_orf {a b : CE} {r : R} (h : ev E a Γ = .ok (.bool false)) (h2 : ev E b Γ = r) : ev E (.or a b) Γ = r := by
  show (ev E a Γ).bind (fun x => (asBool x).bind fun k => if k = true then .ok (PyData.bool true) else ev E b Γ) = _
  rw [h]
  exact h2
theorem ev_ort {a b : CE} (h : ev E a Γ = .ok (.bool true)) : ev E (.or a b) Γ = .ok (.bool true) := by
  show (ev E a Γ).bind (fun x => (asBool x).bind fun k => if k = true then .ok (PyData.bool true) else ev E b Γ) = _
  rw [h]
  rfl
theorem ev_andt {a b : CE} {r : R} (h : ev E a Γ = .ok (.bool true)) (h2 : ev E b Γ = r) : ev E (.and a b) Γ = r := by
  show (ev E a Γ).bind (fun x => (asBool x).bind fun k => if k = true then ev E b Γ else .ok (PyData.bool false)) = _
  rw [h]
  exact h2
theorem ev_andf {a b : CE} (h : ev E a Γ = .ok (.bool false)) : ev E (.and a b) Γ = .ok (.bool false) := by
  show (ev E a Γ).bind (fun x => (asBool x).bind fun k => if k = true then ev E b Γ else .ok (PyData.bool false)) = _
  rw [h]
  rfl
theorem ev_one {a : CE} {r : R} (h : ev E a Γ = r) : ev E (.one a) Γ = r := h
theorem ev_oidx {i : Nat} {b : CE} {ds : List D} {k : Int} {r : R} (h : Γ[i]? = some (.own ds)) (h2 : ev E b Γ = .ok (.int k)) (h3 : atD ds k = r) : ev E (.oidx i b) Γ = r := by
  show (match Γ[i]? with
    | some (.own ds) => (ev E b Γ).bind fun y => (asInt y).bind fun k => atD ds k
    | _ => unk) = _
  rw [h]
  show (ev E b Γ).bind _ = _
  rw [h2]
  exact h3
theorem ev_olen {i : Nat} {ds : List D} (h : Γ[i]? = some (.own ds)) : ev E (.olen i) Γ = .ok (.int ds.length) := by
  show (match Γ[i]? with
    | some (.own ds) => (Except.ok (PyData.int ds.length) : R)
    | _ => unk) = _
  rw [h]
theorem ev_int {i : Int} : ev E (.int i) Γ = .ok (.int i) := rfl
theorem ev_lst {es : CEs} {ds : List D} (h : evs E es Γ = .ok ds) (hl : ds.length ≤ most) : ev E (.lst es) Γ = .ok (.list ds) := by
  show ((evs E es Γ).bind fun ds => if ds.length ≤ most then .ok ds else unk).map PyData.list = _
  rw [h]
  show (if ds.length ≤ most then (Except.ok ds : Rs) else unk).map PyData.list = _
  rw [if_pos hl]
  rfl
theorem ev_tup2 {a b : CE} {x y : D} (h : ev E a Γ = .ok x) (h2 : ev E b Γ = .ok y) : ev E (.tup (.cons a (.cons b .nil))) Γ = .ok (.tuple [x, y]) := by
  show (evs E (.cons a (.cons b .nil)) Γ).bind (fun ds => if ds.length ≤ most then .ok (PyData.tuple ds) else unk) = _
  rw [evs_2 h h2]
  rfl
theorem ev_neg {a : CE} {i : Int} (h : ev E a Γ = .ok (.int i)) : ev E (.neg a) Γ = .ok (.int (-i)) := by
  show (ev E a Γ).bind (fun x => (asInt x).bind fun i => .ok (PyData.int (-i))) = _
  rw [h]
  rfl
theorem ev_glob {g : Nat} {d : D} (h : E.G g = some d) : ev E (.glob g) Γ = .ok d := by
  show (match E.G g with
    | some d => (Except.ok d : R)
    | none => unk) = _
  rw [h]
theorem ev_var {i : Nat} {d : D} (h : Γ[i]? = some (.sh d)) : ev E (.var i) Γ = .ok d := by
  show slV Γ[i]? = _
  rw [h]
  rfl
end
/-- a def's answer -/
theorem run_wp {E : Evn} {g : FnT} {ds : List D} {r : R} (h : ds.length = g.np) (w : Wp E g.body (slots g.nn ds) (fun o => outX g.fr o = r)) : runF E g ds = r := by
  unfold runF
  rw [if_pos h]
  exact w

/-! ### comprehensions -/
theorem lcL_flt {X : Type} {enc : X → D} {as : D → Option (List Sl)} {co el : List Sl → R} {p : X → Bool} {g : X → D} : ∀ (xs : List X), (∀ x ∈ xs, ∃ Γ, as (enc x) = some Γ ∧ co Γ = .ok (.bool (p x)) ∧ (p x = true → el Γ = .ok (g x))) → lcL as co el (xs.map enc) = .ok ((xs.filter p).map g)
  | [], _ => rfl
  | x :: xs, h => by
    obtain ⟨Γ, e1, e2, e3⟩ := h x List.mem_cons_self
    have ih := lcL_flt (as := as) (co := co) (el := el) xs fun y hy => h y (List.mem_cons_of_mem _ hy)
    rw [List.map_cons]
    unfold lcL
    rw [e1]
    dsimp only
    rw [e2]
    cases q : p x with
    | true =>
      dsimp only
      rw [e3 q, ih, List.filter_cons_of_pos q]
      rfl
    | false =>
      dsimp only
      rw [ih, List.filter_cons_of_neg (by rw [q]; exact Bool.false_ne_true)]
theorem lcL_map {X : Type} {enc : X → D} {as : D → Option (List Sl)} {co el : List Sl → R} {g : X → D} (xs : List X) (h : ∀ x ∈ xs, ∃ Γ, as (enc x) = some Γ ∧ co Γ = .ok (.bool true) ∧ el Γ = .ok (g x)) : lcL as co el (xs.map enc) = .ok (xs.map g) := by
  have z := lcL_flt (as := as) (co := co) (el := el) (p := fun _ => true) (g := g) xs fun x hx => by
    obtain ⟨Γ, e1, e2, e3⟩ := h x hx
    exact ⟨Γ, e1, e2, fun _ => e3⟩
  rw [z, List.filter_eq_self.mpr fun _ _ => rfl]
theorem lcL2_map {X : Type} {enc : X → D} {as : D → Option (List Sl)} {co : List Sl → R} {el : List Sl → Rs} {g : X → List D} : ∀ (xs : List X), (∀ x ∈ xs, ∃ Γ, as (enc x) = some Γ ∧ co Γ = .ok (.bool true) ∧ el Γ = .ok (g x)) → lcL2 as co el (xs.map enc) = .ok (xs.flatMap g)
  | [], _ => rfl
  | x :: xs, h => by
    obtain ⟨Γ, e1, e2, e3⟩ := h x List.mem_cons_self
    have ih := lcL2_map (as := as) (co := co) (el := el) xs fun y hy => h y (List.mem_cons_of_mem _ hy)
    rw [List.map_cons]
    unfold lcL2
    rw [e1]
    dsimp only
    rw [e2]
    dsimp only
    rw [e3, ih]
    rfl
section
variable {E : Evn} {Γ : List Sl} {X Y : Type} {enc : X → D} {g : X → D} {xs : List X} {vs : List Nat} {tg : Tg} {it : CI} {el : CE}
theorem evF_lc (hi : evI E it Γ = .ok (xs.map enc)) (hl : xs.length ≤ most) (h : ∀ x ∈ xs, ∃ Γ1, asg tg (enc x) (wipeG Γ vs) = some Γ1 ∧ ev E el Γ1 = .ok (g x)) : evF E (.lc vs tg it .nil el) Γ = .ok (xs.map g) := by
  show ((evI E it Γ).bind fun ds => (lcL (fun d => asg tg d (wipeG Γ vs)) (fun Γ => evC E .nil Γ) (fun Γ => ev E el Γ) ds).bind capD) = _
  rw [hi]
  show ((lcL (fun d => asg tg d (wipeG Γ vs)) (fun Γ => evC E .nil Γ) (fun Γ => ev E el Γ) (xs.map enc)).bind capD) = _
  rw [lcL_map (g := g) xs fun x hx => by
    obtain ⟨Γ1, e1, e2⟩ := h x hx
    exact ⟨Γ1, e1, rfl, e2⟩]
  show capD (xs.map g) = _
  unfold capD
  rw [if_pos (by rw [List.length_map]; exact hl)]
theorem evF_lcf {co : CE} {p : X → Bool} (hi : evI E it Γ = .ok (xs.map enc)) (hl : xs.length ≤ most) (h : ∀ x ∈ xs, ∃ Γ1, asg tg (enc x) (wipeG Γ vs) = some Γ1 ∧ ev E co Γ1 = .ok (.bool (p x)) ∧ (p x = true → ev E el Γ1 = .ok (g x))) :
    evF E (.lc vs tg it (.cons co .nil) el) Γ = .ok ((xs.filter p).map g) := by
  show ((evI E it Γ).bind fun ds => (lcL (fun d => asg tg d (wipeG Γ vs)) (fun Γ => evC E (.cons co .nil) Γ) (fun Γ => ev E el Γ) ds).bind capD) = _
  rw [hi]
  show ((lcL (fun d => asg tg d (wipeG Γ vs)) (fun Γ => evC E (.cons co .nil) Γ) (fun Γ => ev E el Γ) (xs.map enc)).bind capD) = _
  rw [lcL_flt (p := p) (g := g) xs fun x hx => by
    obtain ⟨Γ1, e1, e2, e3⟩ := h x hx
    exact ⟨Γ1, e1, e2, e3⟩]
  show capD ((xs.filter p).map g) = _
  unfold capD
  rw [if_pos (by rw [List.length_map]; exact Nat.le_trans (List.length_filter_le _ _) hl)]
theorem evF_lc2 {enc1 : X → Y → D} {ys : X → List Y} {g2 : X → Y → D} {vs1 : List Nat} {tg1 : Tg} {it1 : CI} (hi : evI E it Γ = .ok (xs.map enc)) (hl : (xs.flatMap fun x => (ys x).map (g2 x)).length ≤ most)
    (h : ∀ x ∈ xs, ∃ Γ1, asg tg (enc x) (wipeG Γ vs) = some Γ1 ∧ evI E it1 Γ1 = .ok ((ys x).map (enc1 x)) ∧ ∀ y ∈ ys x, ∃ Γ2, asg tg1 (enc1 x y) (wipeG Γ1 vs1) = some Γ2 ∧ ev E el Γ2 = .ok (g2 x y)) :
    evF E (.lc2 vs vs1 tg it .nil tg1 it1 .nil el) Γ = .ok (xs.flatMap fun x => (ys x).map (g2 x)) := by
  show ((evI E it Γ).bind fun ds => (lcL2 (fun d => asg tg d (wipeG Γ vs)) (fun Γ => evC E .nil Γ)
      (fun Γ => match evI E it1 Γ with
        | .ok es => lcL (fun d => asg tg1 d (wipeG Γ vs1)) (fun Γ => evC E .nil Γ) (fun Γ => ev E el Γ) es
        | .error _ => unk) ds).bind capD) = _
  rw [hi]
  show ((lcL2 (fun d => asg tg d (wipeG Γ vs)) (fun Γ => evC E .nil Γ)
      (fun Γ => match evI E it1 Γ with
        | .ok es => lcL (fun d => asg tg1 d (wipeG Γ vs1)) (fun Γ => evC E .nil Γ) (fun Γ => ev E el Γ) es
        | .error _ => unk) (xs.map enc)).bind capD) = _
  rw [lcL2_map (g := fun x => (ys x).map (g2 x)) xs fun x hx => by
    obtain ⟨Γ1, e1, e2, e3⟩ := h x hx
    refine ⟨Γ1, e1, rfl, ?_⟩
    rw [e2]
    exact lcL_map (g := g2 x) (ys x) fun y hy => by
      obtain ⟨Γ2, f1, f2⟩ := e3 y hy
      exact ⟨Γ2, f1, rfl, f2⟩]
  show capD _ = _
  unfold capD
  rw [if_pos hl]
/-- the same as values -/
theorem ev_lc {cs : CEs} {ds : List D} (h : evF E (.lc vs tg it cs el) Γ = .ok ds) : ev E (.lc vs tg it cs el) Γ = .ok (.list ds) := by
  show (evF E (.lc vs tg it cs el) Γ).map PyData.list = _
  rw [h]
  rfl
theorem ev_lc2 {cs cs1 : CEs} {ds : List D} {vs1 : List Nat} {tg1 : Tg} {it1 : CI} (h : evF E (.lc2 vs vs1 tg it cs tg1 it1 cs1 el) Γ = .ok ds) : ev E (.lc2 vs vs1 tg it cs tg1 it1 cs1 el) Γ = .ok (.list ds) := by
  show (evF E (.lc2 vs vs1 tg it cs tg1 it1 cs1 el) Γ).map PyData.list = _
  rw [h]
  rfl
end
end Dee

set_option maxRecDepth 100000
set_option maxHeartbeats 1000000
/-! Dee, part 26: data that are equal, data that are shown; fractions as rational numbers; bounds. -/
namespace Dee
open PySem PySem.Spec L2 PyProof.Rows
mutual
theorem eqv_refl : ∀ d : PyData, d.canLay0 = true → PyData.eqv d d = true
  | .none, _ => by simp only [PyData.eqv]
  | .bool b, _ => by simp [PyData.eqv]
  | .int i, _ => by simp [PyData.eqv]
  | .str x, _ => by simp [PyData.eqv]
  | .list xs, h => by
    simp only [PyData.eqv]
    exact eqvAll_refl xs (by simpa only [PyData.canLay0] using h)
  | .tuple xs, h => by
    simp only [PyData.eqv]
    exact eqvAll_refl xs (by simpa only [PyData.canLay0] using h)
  | .dict _, h => by simp [PyData.canLay0] at h
theorem eqvAll_refl : ∀ xs : List PyData, PyData.canLayAll0 xs = true → PyData.eqvAll xs xs = true
  | [], _ => by simp only [PyData.eqvAll]
  | x :: xs, h => by
    simp only [PyData.canLayAll0, Bool.and_eq_true] at h
    simp only [PyData.eqvAll, eqv_refl x h.1, eqvAll_refl xs h.2, Bool.and_self]
end
/-- the same data -/
theorem eqD_self {d : PyData} (h : SeqAt.shaped d = true) : eqD d d = .ok true := by
  have hc := (Bool.and_eq_true_iff.mp h).1
  have e := eqv_refl d hc
  unfold eqD
  split
  · simp
  · simp
  · simp
  · rw [if_pos ⟨h, h⟩, e]
theorem eqD_shaped {d e : PyData} (h1 : SeqAt.shaped d = true) (h2 : SeqAt.shaped e = true) (h3 : ∀ i, d ≠ .int i) (h4 : ∀ i, d ≠ .str i) (h5 : ∀ i, d ≠ .bool i) : eqD d e = .ok (PyData.eqv d e) := by
  unfold eqD
  split
  · exact absurd rfl (h3 _)
  · exact absurd rfl (h4 _)
  · exact absurd rfl (h5 _)
  · rw [if_pos ⟨h1, h2⟩]
theorem canLayAll_map {X : Type} {enc : X → PyData} (h : ∀ x, (enc x).canLay0 = true) : ∀ xs : List X, PyData.canLayAll0 (xs.map enc) = true
  | [] => by simp only [List.map_nil, PyData.canLayAll0]
  | x :: xs => by simp only [List.map_cons, PyData.canLayAll0, h x, canLayAll_map h xs, Bool.and_self]
theorem depthAll_map {X : Type} {enc : X → PyData} {n : Nat} (h : ∀ x, (enc x).depth ≤ n) : ∀ xs : List X, PyData.depthAll (xs.map enc) ≤ n
  | [] => by simp [PyData.depthAll]
  | x :: xs => by
    simp only [List.map_cons, PyData.depthAll]
    exact Nat.max_le.mpr ⟨h x, depthAll_map h xs⟩

/-! ### how long a shown text is at most -/
mutual
def tb : PyData → Nat
  | .none => 4
  | .bool _ => 5
  | .int _ => 1921
  | .str x => (reprText x).length
  | .list xs => tbs xs + 2
  | .tuple xs => tbs xs + 3
  | .dict _ => 0
def tbs : List PyData → Nat
  | [] => 0
  | x :: xs => tb x + 2 + tbs xs
end
theorem textFrom_up : ∀ (ts : List Str) (k : Nat) (acc : Str), (textFrom k acc ts).length ≤ acc.length + piled ts
  | [], k, acc => by
    show acc.length ≤ acc.length + _
    omega
  | t :: r, k, acc => by
    have h := textFrom_up r (k + 1) (acc ++ (if k > 0 then ", " else "" : String) ++ t)
    have e : (acc ++ (if k > 0 then ", " else "" : String) ++ t).length ≤ acc.length + 2 + t.length := by
      rw [strLen_append, strLen_append]
      split
      · show acc.length + 2 + t.length ≤ _
        omega
      · show acc.length + 0 + t.length ≤ _
        omega
    rw [piled_cons]
    show (textFrom (k + 1) _ r).length ≤ _
    omega
theorem listText_up (ts : List Str) : (listText ts).length ≤ piled ts + 2 := by
  unfold listText
  rw [strLen_append]
  have h := textFrom_up ts 0 "["
  have e1 : ((("[" : String) : Str)).length = 1 := rfl
  have e2 : ((("]" : String) : Str)).length = 1 := rfl
  omega
theorem tupleText_up (ts : List Str) : (tupleText ts).length ≤ piled ts + 3 := by
  unfold tupleText
  rw [strLen_append, strLen_append]
  have e1 : ((("(" : String) : Str)).length = 1 := rfl
  have e3 : (((if ts.length == 1 then ",)" else ")" : String) : Str)).length ≤ 2 := by split <;> decide
  by_cases h : ts = []
  · subst h
    have : (Str.join ", " []).length = 0 := rfl
    omega
  · have := join_length_add ts h
    omega
mutual
theorem shown_up : ∀ d : PyData, d.showable = true → d.hasDict = false → d.shown.length ≤ tb d
  | .none, _, _ => by decide
  | .bool b, _, _ => by cases b <;> decide
  | .int i, h, _ => by
    have h' : i.natAbs.log2 < 1920 := by simpa [PyData.showable] using h
    exact int_text_len_1921 h'
  | .str x, _, _ => Nat.le_refl _
  | .list xs, h, h2 => by
    have z := shownAll_up xs (by simpa only [PyData.showable] using h) (by simpa only [PyData.hasDict] using h2)
    have z2 := listText_up (PyData.shownAll xs)
    simp only [PyData.shown, tb]
    omega
  | .tuple xs, h, h2 => by
    have z := shownAll_up xs (by simpa only [PyData.showable] using h) (by simpa only [PyData.hasDict] using h2)
    have z2 := tupleText_up (PyData.shownAll xs)
    simp only [PyData.shown, tb]
    omega
  | .dict _, _, h => by simp [PyData.hasDict] at h
theorem shownAll_up : ∀ xs : List PyData, PyData.showableAll xs = true → PyData.hasDictAll xs = false → piled (PyData.shownAll xs) ≤ tbs xs
  | [], _, _ => by simp [PyData.shownAll, piled, tbs]
  | x :: xs, h, h2 => by
    simp only [PyData.showableAll, Bool.and_eq_true] at h
    simp only [PyData.hasDictAll, Bool.or_eq_false_iff] at h2
    have z1 := shown_up x h.1 h2.1
    have z2 := shownAll_up xs h.2 h2.2
    simp only [PyData.shownAll, tbs, piled_cons]
    omega
end
theorem shows_of {d : PyData} {n : Nat} (h1 : d.showable = true) (h2 : d.canLay0 = true) (h3 : d.depth ≤ 60) (h4 : tb d ≤ n) (hn : n ≤ 16777216 := by decide) : shows d = true := by
  have h5 := PyData.hasDict_of_canLay d h2
  have h6 := shown_up d h1 h5
  unfold shows
  rw [h1, h5]
  have hs : sizeLine = 16777216 := by decide
  simp only [Bool.not_false, Bool.and_true, Bool.true_and, Bool.and_eq_true]
  exact ⟨decide_eq_true h3, decide_eq_true (by omega)⟩
theorem showableAll_map {X : Type} {enc : X → PyData} : ∀ xs : List X, (∀ x ∈ xs, (enc x).showable = true) → PyData.showableAll (xs.map enc) = true
  | [], _ => by simp only [List.map_nil, PyData.showableAll]
  | x :: xs, h => by simp only [List.map_cons, PyData.showableAll, h x List.mem_cons_self, showableAll_map xs fun y hy => h y (List.mem_cons_of_mem _ hy), Bool.and_self]
theorem tbs_map {X : Type} {enc : X → PyData} {n : Nat} (h : ∀ x, tb (enc x) ≤ n) : ∀ xs : List X, tbs (xs.map enc) ≤ xs.length * (n + 2)
  | [] => by simp [tbs]
  | x :: xs => by
    have a := h x
    have b := tbs_map h xs
    simp only [List.map_cons, tbs, List.length_cons, Nat.add_mul]
    omega

/-! ### fractions -/
/-- a rational number as the tuple of its top and its low -/
def fq (q : Rat) : PyData := .tuple [.int q.num, .int (q.den : Nat)]
theorem fq_inj {a b : Rat} (h : fq a = fq b) : a = b := by
  unfold fq at h
  injection h with h
  injection h with h1 h2
  injection h2 with h2
  injection h1 with h1
  injection h2 with h2
  exact Rat.ext h1 (Int.ofNat.inj h2)
theorem rat_num_den (q : Rat) : ((q.num : Rat)) / ((q.den : Nat) : Rat) = q := by
  rw [← Rat.mkRat_eq_div]
  exact Rat.mkRat_self q
theorem fr_fq {t l : Int} (h : l ≠ 0) : fr t l = fq ((t : Rat) / (l : Rat)) := by
  have e : ((t : Rat) / (l : Rat)) = Rat.divInt t l := (Rat.divInt_eq_div t l).symm
  unfold fr fq
  rw [e, Rat.num_divInt, Rat.den_divInt]
  have hg : Int.gcd l t = Nat.gcd t.natAbs l.natAbs := by
    unfold Int.gcd
    exact Nat.gcd_comm _ _
  rw [hg, if_neg h]
  have gp : 0 < Nat.gcd t.natAbs l.natAbs := Nat.gcd_pos_of_pos_right _ (by omega)
  have d1 : ((Nat.gcd t.natAbs l.natAbs : Nat) : Int) ∣ t := Int.natAbs_dvd_natAbs.mp (by rw [Int.natAbs_natCast]; exact Nat.gcd_dvd_left _ _)
  have d2 : ((Nat.gcd t.natAbs l.natAbs : Nat) : Int) ∣ l := Int.natAbs_dvd_natAbs.mp (by rw [Int.natAbs_natCast]; exact Nat.gcd_dvd_right _ _)
  unfold gg
  generalize Nat.gcd t.natAbs l.natAbs = g at gp d1 d2
  have g0 : (g : Int) ≠ 0 := by omega
  by_cases hl : l < 0
  · rw [if_pos hl]
    obtain ⟨u, hu⟩ := d1
    obtain ⟨v, hv⟩ := d2
    have s : l.sign = -1 := Int.sign_eq_neg_one_of_neg hl
    have e1 : t.fdiv (-(g : Int)) = l.sign * t / (g : Int) := by
      rw [s, hu]
      have e1 : (g : Int) * u = -(g : Int) * (-u) := by rw [Int.neg_mul_neg]
      rw [e1, Int.mul_fdiv_cancel_left _ (by omega)]
      have e2 : (-1 : Int) * (-(g : Int) * (-u)) = (g : Int) * (-u) := by rw [← Int.mul_assoc]; congr 1; omega
      rw [e2, Int.mul_ediv_cancel_left _ g0]
    have e2 : l.fdiv (-(g : Int)) = ((l.natAbs / g : Nat) : Int) := by
      have e0 : l.natAbs = g * v.natAbs := by rw [hv, Int.natAbs_mul, Int.natAbs_natCast]
      have e1 : l = -(g : Int) * (-v) := by rw [Int.neg_mul_neg]; exact hv
      have hv0 : v < 0 := by
        rcases Int.lt_trichotomy v 0 with q | q | q
        · exact q
        · subst q; omega
        · have : 0 < (g : Int) * v := Int.mul_pos (by omega) q
          omega
      rw [e0, Nat.mul_div_cancel_left _ gp]
      conv => lhs; rw [e1]
      rw [Int.mul_fdiv_cancel_left _ (by omega)]
      omega
    rw [e1, e2]
  · rw [if_neg hl]
    obtain ⟨u, hu⟩ := d1
    obtain ⟨v, hv⟩ := d2
    have s : l.sign = 1 := Int.sign_eq_one_of_pos (by omega)
    have e1 : t.fdiv (g : Int) = l.sign * t / (g : Int) := by
      rw [s, Int.one_mul, hu, Int.mul_fdiv_cancel_left _ g0, Int.mul_ediv_cancel_left _ g0]
    have e2 : l.fdiv (g : Int) = ((l.natAbs / g : Nat) : Int) := by
      have e0 : l.natAbs = g * v.natAbs := by rw [hv, Int.natAbs_mul, Int.natAbs_natCast]
      have hv0 : 0 < v := by
        rcases Int.lt_trichotomy v 0 with q | q | q
        · have : (g : Int) * v < 0 := Int.mul_neg_of_pos_of_neg (by omega) q
          omega
        · subst q; omega
        · exact q
      rw [e0, Nat.mul_div_cancel_left _ gp]
      conv => lhs; rw [hv]
      rw [Int.mul_fdiv_cancel_left _ g0]
      omega
    rw [e1, e2]
theorem fq_canLay (q : Rat) : (fq q).canLay0 = true := by simp [fq, PyData.canLay0, PyData.canLayAll0]
theorem fq_depth (q : Rat) : (fq q).depth = 1 := by simp [fq, PyData.depth, PyData.depthAll]
theorem fq_shaped (q : Rat) : SeqAt.shaped (fq q) = true := by
  unfold SeqAt.shaped
  rw [fq_canLay, fq_depth]
  rfl
theorem fq_tb (q : Rat) : tb (fq q) ≤ 3849 := by simp [fq, tb, tbs]
theorem fq_eq (a b : Rat) : eqD (fq a) (fq b) = .ok (decide (a = b)) := by
  rw [eqD_shaped (fq_shaped a) (fq_shaped b) nofun nofun nofun]
  congr 1
  by_cases h : a = b
  · subst h
    rw [eqv_refl _ (fq_canLay a)]
    simp
  · rw [decide_eq_false h]
    cases e : PyData.eqv (fq a) (fq b) with
    | false => rfl
    | true =>
      exfalso
      apply h
      simp [fq, PyData.eqv, PyData.eqvAll] at e
      exact Rat.ext e.1 (Int.ofNat.inj e.2)
/-! ### bounds -/
/-- small enough to be reckoned with -/
structure Sm (q : Rat) : Prop where
  n : Bd 4400 q.num
  d : q.den < 2 ^ 4400
/-- a multiple x of 1 / D with |x| ≤ N -/
def QN (D N : Nat) (q : Rat) : Prop := 0 < D ∧ ∃ x : Int, q = (x : Rat) / ((D : Nat) : Rat) ∧ x.natAbs ≤ N
theorem natCast_ne {D : Nat} (h : 0 < D) : ((D : Nat) : Rat) ≠ 0 := by
  intro e
  have : (D : Int) = 0 := by
    have z : ((D : Int) : Rat) = ((0 : Int) : Rat) := e
    exact Rat.intCast_inj.mp z
  omega
section
variable {D N M D' : Nat} {a b q : Rat}
theorem QN.zero (h : 0 < D) : QN D N 0 := ⟨h, 0, by have e : ((0 : Int) : Rat) = 0 := rfl; rw [e]; grind, by simp⟩
theorem QN.add (h1 : QN D N a) (h2 : QN D M b) : QN D (N + M) (a + b) := by
  obtain ⟨hD, x, rfl, hx⟩ := h1
  obtain ⟨_, y, rfl, hy⟩ := h2
  refine ⟨hD, x + y, ?_, by omega⟩
  have := natCast_ne hD
  rw [Rat.intCast_add]
  grind
theorem QN.neg (h : QN D N a) : QN D N (-a) := by
  obtain ⟨hD, x, rfl, hx⟩ := h
  refine ⟨hD, -x, ?_, by omega⟩
  have := natCast_ne hD
  rw [Rat.intCast_neg]
  grind
theorem QN.sub (h1 : QN D N a) (h2 : QN D M b) : QN D (N + M) (a - b) := by
  rw [Rat.sub_eq_add_neg]
  exact h1.add h2.neg
theorem QN.mul (h1 : QN D N a) (h2 : QN D' M b) : QN (D * D') (N * M) (a * b) := by
  obtain ⟨hD, x, rfl, hx⟩ := h1
  obtain ⟨hD', y, rfl, hy⟩ := h2
  refine ⟨Nat.mul_pos hD hD', x * y, ?_, by rw [Int.natAbs_mul]; exact Nat.mul_le_mul hx hy⟩
  have := natCast_ne hD
  have := natCast_ne hD'
  rw [Rat.intCast_mul, Rat.natCast_mul]
  grind
theorem QN.mono (h : QN D N a) (l : N ≤ M) : QN D M a := by
  obtain ⟨hD, x, e, hx⟩ := h
  exact ⟨hD, x, e, Nat.le_trans hx l⟩
theorem QN.scale (h : QN D N a) {k : Nat} (hk : 0 < k) : QN (D * k) (N * k) a := by
  obtain ⟨hD, x, rfl, hx⟩ := h
  refine ⟨Nat.mul_pos hD hk, x * k, ?_, by rw [Int.natAbs_mul, Int.natAbs_natCast]; exact Nat.mul_le_mul_right k hx⟩
  have := natCast_ne hD
  have := natCast_ne hk
  rw [Rat.intCast_mul, Rat.natCast_mul]
  have e : (((k : Nat) : Int) : Rat) = ((k : Nat) : Rat) := rfl
  rw [e]
  grind
theorem QN.int (i : Int) (h : i.natAbs ≤ N) : QN 1 N (i : Rat) := ⟨by decide, i, by
  have e : (((1 : Nat)) : Rat) = 1 := rfl
  rw [e]
  grind, h⟩
theorem QN.frac {t l : Int} (hl : 0 < l) (ht : t.natAbs ≤ N) : QN l.toNat N ((t : Rat) / (l : Rat)) := by
  refine ⟨by omega, t, ?_, ht⟩
  have e : ((l.toNat : Nat) : Int) = l := by omega
  have e2 : ((l.toNat : Nat) : Rat) = (((l.toNat : Nat) : Int) : Rat) := rfl
  rw [e2, e]
theorem QN.sm (h : QN D N q) (h1 : D < 2 ^ 4400) (h2 : N < 2 ^ 4400) : Sm q := by
  obtain ⟨hD, x, rfl, hx⟩ := h
  have e : ((x : Rat) / ((D : Nat) : Rat)) = Rat.divInt x D := (Rat.divInt_eq_div x D).symm
  have D0 : (D : Int) ≠ 0 := by omega
  have gp : 0 < Int.gcd (D : Int) x := Int.gcd_pos_of_ne_zero_left _ D0
  constructor
  · unfold Bd
    rw [e, Rat.num_divInt]
    have s : (D : Int).sign = 1 := Int.sign_eq_one_of_pos (by omega)
    rw [s, Int.one_mul]
    have : (x / ((Int.gcd (D : Int) x : Nat) : Int)).natAbs ≤ x.natAbs := by
      have d : ((Int.gcd (D : Int) x : Nat) : Int) ∣ x := Int.gcd_dvd_right _ _
      generalize Int.gcd (D : Int) x = g at d gp
      obtain ⟨u, hu⟩ := d
      subst hu
      rw [Int.mul_ediv_cancel_left _ (by omega), Int.natAbs_mul, Int.natAbs_natCast]
      exact Nat.le_mul_of_pos_left _ gp
    omega
  · rw [e, Rat.den_divInt, if_neg D0]
    have : (D : Int).natAbs / Int.gcd (D : Int) x ≤ (D : Int).natAbs := Nat.div_le_self _ _
    have e4 : (D : Int).natAbs = D := Int.natAbs_natCast D
    omega
end
theorem sum_QN {D N : Nat} (hD : 0 < D) : ∀ l : List Rat, (∀ q ∈ l, QN D N q) → QN D (l.length * N) l.sum
  | [], _ => by simpa using QN.zero hD
  | q :: l, h => by
    rw [List.sum_cons, List.length_cons]
    have a := h q List.mem_cons_self
    have b := sum_QN hD l fun x hx => h x (List.mem_cons_of_mem _ hx)
    exact (a.add b).mono (by rw [Nat.add_mul]; omega)
theorem Sm.bn {q : Rat} (h : Sm q) : Bd 4400 q.num := h.n
theorem Sm.bd {q : Rat} (h : Sm q) : Bd 4400 ((q.den : Nat) : Int) := by
  unfold Bd
  rw [Int.natAbs_natCast]
  exact h.d
theorem Bd.add' {n : Nat} {i j : Int} (h1 : Bd n i) (h2 : Bd n j) : Bd (n + 1) (i + j) := by
  unfold Bd at *
  rw [Nat.pow_succ]
  omega
theorem Bd.sub' {n : Nat} {i j : Int} (h1 : Bd n i) (h2 : Bd n j) : Bd (n + 1) (i - j) := by
  unfold Bd at *
  rw [Nat.pow_succ]
  omega
end Dee

/-! printed by mklib.py -/
namespace Dee
open PySem PySem.Spec
/-- top, low, divisor -/
def t_fraction (c_OutOfRange : Nat) : FnT := ⟨2, 3, (.cons (.iff (.cmp .eq (.var 1) (.int 0)) (.cons (.raise c_OutOfRange) .nil) .nil) (.cons (.set 2 (.blt .gcd (.cons (.var 0) (.cons (.var 1) .nil)))) (.cons (.iff (.cmp .lt (.var 1) (.int 0)) (.cons (.set 2 (.neg (.var 2))) .nil) .nil) (.cons (.ret (.tup (.cons (.bin .fdiv (.var 0) (.var 2)) (.cons (.bin .fdiv (.var 1) (.var 2)) .nil)))) .nil)))), false⟩
/-- first, second -/
def t_plus (f_fraction : Nat) : FnT := ⟨2, 2, (.cons (.ret (.call f_fraction (.cons (.bin .add (.bin .mul (.idx (.var 0) (.int 0)) (.idx (.var 1) (.int 1))) (.bin .mul (.idx (.var 1) (.int 0)) (.idx (.var 0) (.int 1)))) (.cons (.bin .mul (.idx (.var 0) (.int 1)) (.idx (.var 1) (.int 1))) .nil)))) .nil), false⟩
/-- first, second -/
def t_times (f_fraction : Nat) : FnT := ⟨2, 2, (.cons (.ret (.call f_fraction (.cons (.bin .mul (.idx (.var 0) (.int 0)) (.idx (.var 1) (.int 0))) (.cons (.bin .mul (.idx (.var 0) (.int 1)) (.idx (.var 1) (.int 1))) .nil)))) .nil), false⟩
/-- fractions, total, one -/
def t_sum_all (k_NONE f_plus : Nat) : FnT := ⟨1, 3, (.cons (.set 1 (.glob k_NONE)) (.cons (.for (.nm 2) (.of (.var 0)) (.cons (.set 1 (.call f_plus (.cons (.var 1) (.cons (.var 2) .nil)))) .nil)) (.cons (.ret (.var 1)) .nil))), false⟩
/-- items, chances, value, chance -/
def t_gathered (f_plus k_NONE : Nat) : FnT := ⟨1, 4, (.cons (.newD 1 false) (.cons (.for (.tp [2, 3]) (.of (.var 0)) (.cons (.dput 1 (.var 2) (.call f_plus (.cons (.kget 1 (.var 2) (.glob k_NONE)) (.cons (.var 3) .nil)))) .nil)) (.cons (.retF (.lc [2] (.nm 2) (.of (.ksort 1)) (.cons (.cmp .ne (.kat 1 (.var 2)) (.glob k_NONE)) .nil) (.tup (.cons (.var 2) (.cons (.kat 1 (.var 2)) .nil))))) .nil))), true⟩
/-- spread, value, chance -/
def t_mean (f_sum_all f_times : Nat) : FnT := ⟨1, 3, (.cons (.ret (.call f_sum_all (.cons (.lc [1, 2] (.tp [1, 2]) (.of (.var 0)) .nil (.call f_times (.cons (.tup (.cons (.var 1) (.cons (.int 1) .nil))) (.cons (.var 2) .nil)))) .nil))) .nil), false⟩
/-- spread, value, known, chance -/
def t_chance_of (k_NONE : Nat) : FnT := ⟨2, 4, (.cons (.for (.tp [2, 3]) (.of (.var 0)) (.cons (.iff (.cmp .eq (.var 2) (.var 1)) (.cons (.ret (.var 3)) .nil) .nil) .nil)) (.cons (.ret (.glob k_NONE)) .nil)), false⟩
/-- spread, places, value, chance -/
def t_shifted : FnT := ⟨2, 4, (.cons (.retF (.lc [2, 3] (.tp [2, 3]) (.of (.var 0)) .nil (.tup (.cons (.bin .add (.var 2) (.var 1)) (.cons (.var 3) .nil))))) .nil), true⟩
/-- _law_script, _law_k -/
def t_law_cell : FnT := ⟨2, 2, (.cons (.iff (.cmp .lt (.var 1) (.blt .len (.cons (.var 0) .nil))) (.cons (.ret (.blt .int (.cons (.idx (.var 0) (.var 1)) .nil))) .nil) .nil) (.cons (.ret (.int 0)) .nil)), false⟩
/-- _law_cell_here, _law_limits, _law_found, _law_rest, _law_state, _law_free, _law_limit -/
def t_law_draws : FnT := ⟨2, 7, (.cons (.setO 2 (.lst .nil)) (.cons (.set 3 (.blt .abs (.cons (.blt .int (.cons (.var 0) .nil)) .nil))) (.cons (.set 4 (.bin .mod (.blt .int (.cons (.var 3) .nil)) (.int 2147483647))) (.cons (.set 5 (.or (.cmp .lt (.var 0) (.int 0)) (.one (.cmp .ge (.var 0) (.bin .pow (.int 10) (.int 18)))))) (.cons (.for (.nm 6) (.of (.var 1)) (.cons (.iff (.and (.var 5) (.one (.cmp .gt (.var 3) (.int 1)))) (.cons (.app 2 (.bin .mod (.blt .int (.cons (.var 3) .nil)) (.var 6))) (.cons (.set 3 (.bin .fdiv (.var 3) (.var 6))) .nil)) (.cons (.set 4 (.bin .mod (.blt .int (.cons (.bin .add (.bin .mul (.var 4) (.int 48271)) (.int 11)) .nil)) (.int 2147483647))) (.cons (.set 4 (.bin .mod (.blt .int (.cons (.bin .add (.bin .mul (.var 4) (.int 69621)) (.int 7)) .nil)) (.int 2147483647))) (.cons (.app 2 (.bin .mod (.blt .int (.cons (.bin .fdiv (.var 4) (.int 13)) .nil)) (.var 6))) .nil)))) .nil)) (.frz 2 (.cons (.ret (.var 2)) .nil))))))), false⟩
/-- _law_a, _law_b, _law_k, _law_rest -/
def t_law_gcd : FnT := ⟨2, 4, (.cons (.set 0 (.blt .abs (.cons (.var 0) .nil))) (.cons (.set 1 (.blt .abs (.cons (.var 1) .nil))) (.cons (.for (.nm 2) (.r1 (.bin .add (.bin .add (.bits (.var 0)) (.bits (.var 1))) (.int 4))) (.cons (.iff (.cmp .eq (.var 1) (.int 0)) (.cons (.ret (.var 0)) .nil) .nil) (.cons (.set 3 (.bin .mod (.blt .int (.cons (.var 0) .nil)) (.var 1))) (.cons (.set 0 (.var 1)) (.cons (.set 1 (.var 3)) .nil))))) (.cons (.ret (.var 0)) .nil)))), false⟩
/-- _law_top, _law_low, _law_common -/
def t_law_fraction (f__law_gcd : Nat) : FnT := ⟨2, 3, (.cons (.set 2 (.call f__law_gcd (.cons (.var 0) (.cons (.var 1) .nil)))) (.cons (.iff (.cmp .lt (.var 1) (.int 0)) (.cons (.set 2 (.neg (.var 2))) .nil) .nil) (.cons (.ret (.tup (.cons (.bin .fdiv (.var 0) (.var 2)) (.cons (.bin .fdiv (.var 1) (.var 2)) .nil)))) .nil))), false⟩
/-- _law_first, _law_second -/
def t_law_plus (f__law_fraction : Nat) : FnT := ⟨2, 2, (.cons (.ret (.call f__law_fraction (.cons (.bin .add (.bin .mul (.idx (.var 0) (.int 0)) (.idx (.var 1) (.int 1))) (.bin .mul (.idx (.var 1) (.int 0)) (.idx (.var 0) (.int 1)))) (.cons (.bin .mul (.idx (.var 0) (.int 1)) (.idx (.var 1) (.int 1))) .nil)))) .nil), false⟩
/-- _law_first, _law_second -/
def t_law_times (f__law_fraction : Nat) : FnT := ⟨2, 2, (.cons (.ret (.call f__law_fraction (.cons (.bin .mul (.idx (.var 0) (.int 0)) (.idx (.var 1) (.int 0))) (.cons (.bin .mul (.idx (.var 0) (.int 1)) (.idx (.var 1) (.int 1))) .nil)))) .nil), false⟩
/-- _law_first, _law_second -/
def t_law_less : FnT := ⟨2, 2, (.cons (.ret (.cmp .lt (.bin .mul (.idx (.var 0) (.int 0)) (.idx (.var 1) (.int 1))) (.bin .mul (.idx (.var 1) (.int 0)) (.idx (.var 0) (.int 1))))) .nil), false⟩
/-- _law_fractions, _law_found, _law_one -/
def t_law_total (f__law_plus : Nat) : FnT := ⟨1, 3, (.cons (.set 1 (.tup (.cons (.int 0) (.cons (.int 1) .nil)))) (.cons (.for (.nm 2) (.of (.var 0)) (.cons (.set 1 (.call f__law_plus (.cons (.var 1) (.cons (.var 2) .nil)))) .nil)) (.cons (.ret (.var 1)) .nil))), false⟩
/-- _law_items, _law_found, _law_item, _law_value -/
def t_law_gathered (f__law_plus : Nat) : FnT := ⟨1, 4, (.cons (.newD 1 false) (.cons (.for (.nm 2) (.of (.var 0)) (.cons (.dput 1 (.idx (.var 2) (.int 0)) (.call f__law_plus (.cons (.kget 1 (.idx (.var 2) (.int 0)) (.tup (.cons (.int 0) (.cons (.int 1) .nil)))) (.cons (.idx (.var 2) (.int 1)) .nil)))) .nil)) (.cons (.ret (.lc [3] (.nm 3) (.of (.ksort 1)) (.cons (.cmp .ne (.idx (.kat 1 (.var 3)) (.int 0)) (.int 0)) .nil) (.tup (.cons (.var 3) (.cons (.kat 1 (.var 3)) .nil))))) .nil))), false⟩
/-- _law_values, _law_weights, _law_total_here, _law_k -/
def t_law_weighted (f__law_gathered f__law_fraction : Nat) : FnT := ⟨2, 4, (.cons (.set 2 (.blt .sum (.cons (.var 1) .nil))) (.cons (.ret (.call f__law_gathered (.cons (.lc [3] (.nm 3) (.r1 (.blt .len (.cons (.var 0) .nil))) .nil (.tup (.cons (.idx (.var 0) (.var 3)) (.cons (.call f__law_fraction (.cons (.idx (.var 1) (.var 3)) (.cons (.var 2) .nil))) .nil)))) .nil))) .nil)), false⟩
/-- _law_cell_here, _law_count, _law_low, _law_width, _law_draws_here, _law_size, _law_value, _law_weight -/
def t_law_spread (f__law_draws f__law_weighted : Nat) : FnT := ⟨4, 8, (.cons (.set 4 (.call f__law_draws (.cons (.var 0) (.cons (.bin .add (.bin .add (.lst (.cons (.var 1) .nil)) (.bin .mul (.lst (.cons (.var 3) .nil)) (.var 1))) (.bin .mul (.lst (.cons (.int 9) .nil)) (.var 1))) .nil)))) (.cons (.set 5 (.bin .add (.int 1) (.idx (.var 4) (.int 0)))) (.cons (.ret (.call f__law_weighted (.cons (.lc [6] (.nm 6) (.of (.sl (.var 4) (.cons (.int 1) .nil) (.cons (.bin .add (.int 1) (.var 5)) .nil))) .nil (.bin .add (.var 2) (.var 6))) (.cons (.lc [7] (.nm 7) (.of (.sl (.var 4) (.cons (.bin .add (.int 1) (.var 1)) .nil) (.cons (.bin .add (.bin .add (.int 1) (.var 1)) (.var 5)) .nil))) .nil (.bin .add (.int 1) (.var 7))) .nil)))) .nil))), false⟩
/-- _law_first, _law_second, _law_found, _law_a, _law_b -/
def t_law_sum (f__law_times f__law_gathered : Nat) : FnT := ⟨2, 5, (.cons (.set 2 (.lst .nil)) (.cons (.for (.nm 3) (.of (.var 0)) (.cons (.set 2 (.bin .add (.var 2) (.lc [4] (.nm 4) (.of (.var 1)) .nil (.tup (.cons (.bin .add (.idx (.var 3) (.int 0)) (.idx (.var 4) (.int 0))) (.cons (.call f__law_times (.cons (.idx (.var 3) (.int 1)) (.cons (.idx (.var 4) (.int 1)) .nil))) .nil)))))) .nil)) (.cons (.ret (.call f__law_gathered (.cons (.var 2) .nil))) .nil))), false⟩
/-- _law_spread_here, _law_item -/
def t_law_mean (f__law_total f__law_times : Nat) : FnT := ⟨1, 2, (.cons (.ret (.call f__law_total (.cons (.lc [1] (.nm 1) (.of (.var 0)) .nil (.call f__law_times (.cons (.tup (.cons (.idx (.var 1) (.int 0)) (.cons (.int 1) .nil))) (.cons (.idx (.var 1) (.int 1)) .nil)))) .nil))) .nil), false⟩
/-- item -/
def t_is_fraction : FnT := ⟨1, 1, (.cons (.ret (.and (.cmp .ge (.idx (.var 0) (.int 1)) (.int 1)) (.one (.cmp .eq (.blt .gcd (.cons (.idx (.var 0) (.int 0)) (.cons (.idx (.var 0) (.int 1)) .nil))) (.int 1))))) .nil), false⟩
/-- spread, value, chance, at, _ -/
def t_check_spread (f_is_fraction c_BadSpread f_sum_all k_WHOLE : Nat) : FnT := ⟨1, 5, (.cons (.for (.tp [1, 2]) (.of (.var 0)) (.cons (.iff (.or (.not (.call f_is_fraction (.cons (.var 2) .nil))) (.one (.cmp .le (.idx (.var 2) (.int 0)) (.int 0)))) (.cons (.raise c_BadSpread) .nil) .nil) .nil)) (.cons (.iff (.blt .any (.cons (.lc [3] (.nm 3) (.r1 (.bin .sub (.blt .len (.cons (.var 0) .nil)) (.int 1))) .nil (.cmp .ge (.idx (.idx (.var 0) (.var 3)) (.int 0)) (.idx (.idx (.var 0) (.bin .add (.var 3) (.int 1))) (.int 0)))) .nil)) (.cons (.raise c_BadSpread) .nil) .nil) (.cons (.iff (.cmp .ne (.call f_sum_all (.cons (.lc [4, 2] (.tp [4, 2]) (.of (.var 0)) .nil (.var 2)) .nil)) (.glob k_WHOLE)) (.cons (.raise c_BadSpread) .nil) .nil) .nil))), false⟩
/-- first, second, a, p, b, q -/
def t_sum_of (f_gathered f_times : Nat) : FnT := ⟨2, 6, (.cons (.retC f_gathered (.cons (.lc2 [2, 3, 4, 5] [4, 5] (.tp [2, 3]) (.of (.var 0)) .nil (.tp [4, 5]) (.of (.var 1)) .nil (.tup (.cons (.bin .add (.var 2) (.var 4)) (.cons (.call f_times (.cons (.var 3) (.cons (.var 5) .nil))) .nil)))) .nil)) .nil), true⟩
/-- spreads, chances, items, spread, weight, value, chance -/
def t_mixed (f_sum_all k_WHOLE c_OutOfRange f_times f_gathered : Nat) : FnT := ⟨2, 7, (.cons (.iff (.or (.cmp .ne (.blt .len (.cons (.var 0) .nil)) (.blt .len (.cons (.var 1) .nil))) (.one (.cmp .ne (.call f_sum_all (.cons (.var 1) .nil)) (.glob k_WHOLE)))) (.cons (.raise c_OutOfRange) .nil) .nil) (.cons (.iff (.blt .any (.cons (.lc [6] (.nm 6) (.of (.var 1)) .nil (.cmp .lt (.idx (.var 6) (.int 0)) (.int 0))) .nil)) (.cons (.raise c_OutOfRange) .nil) .nil) (.cons (.setO 2 (.lst .nil)) (.cons (.for (.tp [3, 4]) (.zip (.var 0) (.var 1)) (.cons (.for (.tp [5, 6]) (.of (.var 3)) (.cons (.app 2 (.tup (.cons (.var 5) (.cons (.call f_times (.cons (.var 4) (.cons (.var 6) .nil))) .nil)))) .nil)) .nil)) (.frz 2 (.cons (.retC f_gathered (.cons (.var 2) .nil)) .nil)))))), true⟩
/-- first, second -/
def t_minus (f_fraction : Nat) : FnT := ⟨2, 2, (.cons (.ret (.call f_fraction (.cons (.bin .sub (.bin .mul (.idx (.var 0) (.int 0)) (.idx (.var 1) (.int 1))) (.bin .mul (.idx (.var 1) (.int 0)) (.idx (.var 0) (.int 1)))) (.cons (.bin .mul (.idx (.var 0) (.int 1)) (.idx (.var 1) (.int 1))) .nil)))) .nil), false⟩
/-- first, second -/
def t_over (f_fraction : Nat) : FnT := ⟨2, 2, (.cons (.ret (.call f_fraction (.cons (.bin .mul (.idx (.var 0) (.int 0)) (.idx (.var 1) (.int 1))) (.cons (.bin .mul (.idx (.var 0) (.int 1)) (.idx (.var 1) (.int 0))) .nil)))) .nil), false⟩
/-- first, second -/
def t_is_less : FnT := ⟨2, 2, (.cons (.ret (.cmp .lt (.bin .mul (.idx (.var 0) (.int 0)) (.idx (.var 1) (.int 1))) (.bin .mul (.idx (.var 1) (.int 0)) (.idx (.var 0) (.int 1))))) .nil), false⟩
end Dee

set_option maxRecDepth 100000
set_option maxHeartbeats 1000000
/-! Dee, part 28: fractions, totals, gathering. -/
namespace Dee
open PySem PySem.Spec L2
/-! ### what a def is -/
def IsFrac (E : Evn) (n : Nat) : Prop := ∀ t l : Int, l ≠ 0 → Bd 9000 t → Bd 9000 l → E.F n [.int t, .int l] = .ok (fq ((t : Rat) / (l : Rat)))
def IsPlus (E : Evn) (n : Nat) : Prop := ∀ a b : Rat, Sm a → Sm b → E.F n [fq a, fq b] = .ok (fq (a + b))
def IsMinus (E : Evn) (n : Nat) : Prop := ∀ a b : Rat, Sm a → Sm b → E.F n [fq a, fq b] = .ok (fq (a - b))
def IsTimes (E : Evn) (n : Nat) : Prop := ∀ a b : Rat, Sm a → Sm b → E.F n [fq a, fq b] = .ok (fq (a * b))
def IsOver (E : Evn) (n : Nat) : Prop := ∀ a b : Rat, Sm a → Sm b → b ≠ 0 → E.F n [fq a, fq b] = .ok (fq (a / b))
def IsLess (E : Evn) (n : Nat) : Prop := ∀ a b : Rat, Sm a → Sm b → E.F n [fq a, fq b] = .ok (.bool (decide (a < b)))
def lim : Nat := 2 ^ 4400
theorem lim_eq : lim = 2 ^ 4400 := rfl
def IsTotal (E : Evn) (n : Nat) : Prop := ∀ (D N : Nat) (l : List Rat), 0 < D → (∀ q ∈ l, QN D N q) → D < lim → l.length * N < lim → E.F n [.list (l.map fq)] = .ok (fq l.sum)
/-- a value with its chance -/
def pq (p : Int × Rat) : D := .tuple [.int p.1, fq p.2]
theorem pq_mk (v : Int) (q : Rat) : PyData.tuple [.int v, fq q] = pq (v, q) := rfl

theorem int_ne {q : Rat} : ((q.den : Nat) : Rat) ≠ 0 := natCast_ne q.den_pos
theorem num_eq (q : Rat) : (q.num : Rat) = q * ((q.den : Nat) : Rat) := by
  have h := rat_num_den q
  have h2 := int_ne (q := q)
  have h3 : (q.num : Rat) = ((q.num : Rat) / ((q.den : Nat) : Rat)) * ((q.den : Nat) : Rat) := by grind
  rw [h] at h3
  exact h3
theorem den_cast (q : Rat) : ((((q.den : Nat) : Int)) : Rat) = ((q.den : Nat) : Rat) := rfl

section
variable {E : Evn}
theorem t_fraction_ok (c : Nat) {t l : Int} (h : l ≠ 0) (hb : Bd 9000 l) : runF E (t_fraction c) [.int t, .int l] = .ok (fq ((t : Rat) / (l : Rat))) := by
  rw [← fr_fq h]
  have g1 := gg_ne (t := t) h
  have g2 := gg_bd (t := t) h hb
  have e1 := fdiv_ok (i := t) g1 g2
  have e2 := fdiv_ok (i := l) g1 g2
  by_cases h0 : l < 0
  · have eg : gg t l = -((Nat.gcd t.natAbs l.natAbs : Nat) : Int) := by unfold gg; rw [if_pos h0]
    rw [eg] at e1 e2
    simp [t_fraction, outX, runF, slots, exs, ex, ev, evs, evO, evC, evF, ofR, slV, cmpD, cmpB, eqD, outR, Except.bind, Except.map, bltD, bltF, setS, intB, most, b_add, b_sub, b_and, asBool, asInt, asInts, asBools, asList, idxD, atD, atI, ixN, Ik.is, isNo, h, h0, e1, e2, fr, eg]
  · have eg : gg t l = ((Nat.gcd t.natAbs l.natAbs : Nat) : Int) := by unfold gg; rw [if_neg h0]
    rw [eg] at e1 e2
    simp [t_fraction, outX, runF, slots, exs, ex, ev, evs, evO, evC, evF, ofR, slV, cmpD, cmpB, eqD, outR, Except.bind, Except.map, bltD, bltF, setS, intB, most, b_add, b_sub, b_and, asBool, asInt, asInts, asBools, asList, idxD, atD, atI, ixN, Ik.is, isNo, h, h0, e1, e2, fr, eg]
theorem t_fraction_zero (c : Nat) {t : Int} : runF E (t_fraction c) [.int t, .int 0] = .error (some c) := by
  simp [t_fraction, outX, runF, slots, exs, ex, ev, evs, evO, evC, evF, ofR, slV, cmpD, cmpB, eqD, outR, Except.bind, Except.map, bltD, bltF, setS, intB, most, b_add, b_sub, b_and, asBool, asInt, asInts, asBools, asList, idxD, atD, atI, ixN, Ik.is, isNo]
variable {f : Nat} (hf : IsFrac E f)
include hf
theorem t_plus_ok {a b : Rat} (ha : Sm a) (hb : Sm b) : runF E (t_plus f) [fq a, fq b] = .ok (fq (a + b)) := by
  have m1 := b_mul (ha.bn.ok hb.bd)
  have m2 := b_mul (hb.bn.ok ha.bd)
  have m3 := b_mul (ha.bd.ok hb.bd)
  have d : ((a.den : Nat) : Int) * ((b.den : Nat) : Int) ≠ 0 := Int.mul_ne_zero (by have := a.den_pos; omega) (by have := b.den_pos; omega)
  have h := hf (a.num * (b.den : Nat) + b.num * (a.den : Nat)) ((a.den : Nat) * (b.den : Nat)) d (((ha.bn.mul hb.bd).add' (hb.bn.mul ha.bd)).mono (by decide)) ((ha.bd.mul hb.bd).mono (by decide))
  have e : (((a.num * (b.den : Nat) + b.num * (a.den : Nat) : Int) : Rat) / (((a.den : Nat) * (b.den : Nat) : Int) : Rat)) = a + b := by
    rw [Rat.intCast_add, Rat.intCast_mul, Rat.intCast_mul, Rat.intCast_mul, den_cast, den_cast, num_eq a, num_eq b]
    have := int_ne (q := a)
    have := int_ne (q := b)
    grind
  rw [e] at h
  simp only [fq] at h
  simp [t_plus, outX, fq, runF, slots, exs, ex, ev, evs, evO, evC, evF, ofR, slV, cmpD, cmpB, eqD, outR, Except.bind, Except.map, bltD, bltF, setS, intB, most, b_add, b_sub, b_and, asBool, asInt, asInts, asBools, asList, idxD, atD, atI, ixN, Ik.is, isNo, m1, m2, m3, h]
theorem t_minus_ok {a b : Rat} (ha : Sm a) (hb : Sm b) : runF E (t_minus f) [fq a, fq b] = .ok (fq (a - b)) := by
  have m1 := b_mul (ha.bn.ok hb.bd)
  have m2 := b_mul (hb.bn.ok ha.bd)
  have m3 := b_mul (ha.bd.ok hb.bd)
  have d : ((a.den : Nat) : Int) * ((b.den : Nat) : Int) ≠ 0 := Int.mul_ne_zero (by have := a.den_pos; omega) (by have := b.den_pos; omega)
  have h := hf (a.num * (b.den : Nat) - b.num * (a.den : Nat)) ((a.den : Nat) * (b.den : Nat)) d (((ha.bn.mul hb.bd).sub' (hb.bn.mul ha.bd)).mono (by decide)) ((ha.bd.mul hb.bd).mono (by decide))
  have e : (((a.num * (b.den : Nat) - b.num * (a.den : Nat) : Int) : Rat) / (((a.den : Nat) * (b.den : Nat) : Int) : Rat)) = a - b := by
    rw [Rat.intCast_sub, Rat.intCast_mul, Rat.intCast_mul, Rat.intCast_mul, den_cast, den_cast, num_eq a, num_eq b]
    have := int_ne (q := a)
    have := int_ne (q := b)
    grind
  rw [e] at h
  simp only [fq] at h
  simp [t_minus, outX, fq, runF, slots, exs, ex, ev, evs, evO, evC, evF, ofR, slV, cmpD, cmpB, eqD, outR, Except.bind, Except.map, bltD, bltF, setS, intB, most, b_add, b_sub, b_and, asBool, asInt, asInts, asBools, asList, idxD, atD, atI, ixN, Ik.is, isNo, m1, m2, m3, h]
theorem t_times_ok {a b : Rat} (ha : Sm a) (hb : Sm b) : runF E (t_times f) [fq a, fq b] = .ok (fq (a * b)) := by
  have m1 := b_mul (ha.bn.ok hb.bn)
  have m3 := b_mul (ha.bd.ok hb.bd)
  have d : ((a.den : Nat) : Int) * ((b.den : Nat) : Int) ≠ 0 := Int.mul_ne_zero (by have := a.den_pos; omega) (by have := b.den_pos; omega)
  have h := hf (a.num * b.num) ((a.den : Nat) * (b.den : Nat)) d ((ha.bn.mul hb.bn).mono (by decide)) ((ha.bd.mul hb.bd).mono (by decide))
  have e : (((a.num * b.num : Int) : Rat) / (((a.den : Nat) * (b.den : Nat) : Int) : Rat)) = a * b := by
    rw [Rat.intCast_mul, Rat.intCast_mul, den_cast, den_cast, num_eq a, num_eq b]
    have := int_ne (q := a)
    have := int_ne (q := b)
    grind
  rw [e] at h
  simp only [fq] at h
  simp [t_times, outX, fq, runF, slots, exs, ex, ev, evs, evO, evC, evF, ofR, slV, cmpD, cmpB, eqD, outR, Except.bind, Except.map, bltD, bltF, setS, intB, most, b_add, b_sub, b_and, asBool, asInt, asInts, asBools, asList, idxD, atD, atI, ixN, Ik.is, isNo, m1, m3, h]
theorem num_ne {b : Rat} (h : b ≠ 0) : b.num ≠ 0 := by
  intro e
  exact h (Rat.num_eq_zero.mp e)
theorem t_over_ok {a b : Rat} (ha : Sm a) (hb : Sm b) (hn : b ≠ 0) : runF E (t_over f) [fq a, fq b] = .ok (fq (a / b)) := by
  have m1 := b_mul (ha.bn.ok hb.bd)
  have m3 := b_mul (ha.bd.ok hb.bn)
  have d : ((a.den : Nat) : Int) * b.num ≠ 0 := Int.mul_ne_zero (by have := a.den_pos; omega) (num_ne hf hn)
  have h := hf (a.num * (b.den : Nat)) ((a.den : Nat) * b.num) d ((ha.bn.mul hb.bd).mono (by decide)) ((ha.bd.mul hb.bn).mono (by decide))
  have e : (((a.num * (b.den : Nat) : Int) : Rat) / (((a.den : Nat) * b.num : Int) : Rat)) = a / b := by
    rw [Rat.intCast_mul, Rat.intCast_mul, den_cast, den_cast, num_eq a, num_eq b]
    have := int_ne (q := a)
    have := int_ne (q := b)
    grind
  rw [e] at h
  simp only [fq] at h
  simp [t_over, outX, fq, runF, slots, exs, ex, ev, evs, evO, evC, evF, ofR, slV, cmpD, cmpB, eqD, outR, Except.bind, Except.map, bltD, bltF, setS, intB, most, b_add, b_sub, b_and, asBool, asInt, asInts, asBools, asList, idxD, atD, atI, ixN, Ik.is, isNo, m1, m3, h]
omit hf
theorem less_iff (a b : Rat) : a.num * ((b.den : Nat) : Int) < b.num * ((a.den : Nat) : Int) ↔ a < b := by
  rw [Rat.lt_iff]
theorem t_is_less_ok {a b : Rat} (ha : Sm a) (hb : Sm b) : runF E t_is_less [fq a, fq b] = .ok (.bool (decide (a < b))) := by
  have m1 := b_mul (ha.bn.ok hb.bd)
  have m2 := b_mul (hb.bn.ok ha.bd)
  have e : decide (a.num * ((b.den : Nat) : Int) < b.num * ((a.den : Nat) : Int)) = decide (a < b) := decide_eq_decide.mpr (less_iff a b)
  rw [← e]
  simp [t_is_less, outX, fq, runF, slots, exs, ex, ev, evs, evO, evC, evF, ofR, slV, cmpD, cmpB, eqD, outR, Except.bind, Except.map, bltD, bltF, setS, intB, most, b_add, b_sub, b_and, asBool, asInt, asInts, asBools, asList, idxD, atD, atI, ixN, Ik.is, isNo, m1, m2]
end
end Dee

set_option maxRecDepth 100000
set_option maxHeartbeats 1000000
/-! Dee, part 29: totals and gathering. -/
namespace Dee
open PySem PySem.Spec L2
theorem fq_idx0 (q : Rat) : idxD (fq q) (.int 0) = .ok (.int q.num) := rfl
theorem fq_idx1 (q : Rat) : idxD (fq q) (.int 1) = .ok (.int (q.den : Nat)) := rfl
theorem pq_idx0 (p : Int × Rat) : idxD (pq p) (.int 0) = .ok (.int p.1) := rfl
theorem pq_idx1 (p : Int × Rat) : idxD (pq p) (.int 1) = .ok (fq p.2) := rfl
theorem sum_snoc (l : List Rat) (q : Rat) : (l ++ [q]).sum = l.sum + q := by
  rw [List.sum_append, List.sum_cons, List.sum_nil, Rat.add_zero]
theorem Sm.zero : Sm 0 := (QN.zero (D := 1) (N := 0) (by decide)).sm (Nat.one_lt_two_pow (by decide)) (Nat.two_pow_pos _)
theorem lt_lim {n : Nat} (h : n < 2 ^ 100) : n < 2 ^ 4400 := Nat.lt_of_lt_of_le h (pow_lt_pow (by decide))
section
variable {E : Evn} {k f : Nat}
theorem t_sum_all_ok (hp : IsPlus E f) (hz : E.G k = some (fq 0)) {D N : Nat} {l : List Rat} (hD : 0 < D) (hq : ∀ q ∈ l, QN D N q) (h1 : D < lim) (h2 : l.length * N < lim) : runF E (t_sum_all k f) [.list (l.map fq)] = .ok (fq l.sum) := by
  rw [lim_eq] at h1 h2
  refine run_wp rfl ?_
  refine wp_set (d := fq 0) (by simp [ev, hz]) (by simp [t_sum_all, slots]) ?_
  refine wp_for (enc := fq) (xs := l) (fun pre Γ => ∃ s2, Γ = [.sh (.list (l.map fq)), .sh (fq pre.sum), s2]) (by simp [t_sum_all, runF, slots, exs, ex, ev, evs, evO, evC, evF, ofR, slV, cmpD, cmpB, eqD, outR, Except.bind, Except.map, bltD, bltF, setS, intB, most, b_add, b_sub, b_and, asBool, asInt, asInts, asBools, asList, idxD, atD, atI, ixN, Ik.is, isNo, evI]) ⟨.non, rfl⟩ (fun pre x post Γ e ⟨s2, hΓ⟩ => ?_) (fun Γ ⟨s2, hΓ⟩ => ?_)
  · subst hΓ
    refine ⟨[.sh (.list (l.map fq)), .sh (fq pre.sum), .sh (fq x)], rfl, ?_⟩
    have qx : QN D N x := hq x (by rw [e]; simp)
    have qp : QN D (pre.length * N) pre.sum := sum_QN hD pre fun y hy => hq y (by rw [e]; simp [hy])
    have hl : pre.length + 1 ≤ l.length := by rw [e]; simp
    have hl2 : (pre.length + 1) * N ≤ l.length * N := Nat.mul_le_mul_right N hl
    rw [Nat.add_mul, Nat.one_mul] at hl2
    have h := hp pre.sum x (qp.sm h1 (by omega)) (qx.sm h1 (by omega))
    refine wp_set (d := fq (pre.sum + x)) (by simp [runF, slots, exs, ex, ev, evs, evO, evC, evF, ofR, slV, cmpD, cmpB, eqD, outR, Except.bind, Except.map, bltD, bltF, setS, intB, most, b_add, b_sub, b_and, asBool, asInt, asInts, asBools, asList, idxD, atD, atI, ixN, Ik.is, isNo, h]) (by simp) ?_
    exact wp_nil ⟨.sh (fq x), by rw [sum_snoc]; rfl⟩
  · subst hΓ
    exact wp_ret (d := fq l.sum) (by simp [runF, slots, exs, ex, ev, evs, evO, evC, evF, ofR, slV, cmpD, cmpB, eqD, outR, Except.bind, Except.map, bltD, bltF, setS, intB, most, b_add, b_sub, b_and, asBool, asInt, asInts, asBools, asList, idxD, atD, atI, ixN, Ik.is, isNo]) rfl
theorem t_law_total_ok (hp : IsPlus E f) {D N : Nat} {l : List Rat} (hD : 0 < D) (hq : ∀ q ∈ l, QN D N q) (h1 : D < lim) (h2 : l.length * N < lim) : runF E (t_law_total f) [.list (l.map fq)] = .ok (fq l.sum) := by
  rw [lim_eq] at h1 h2
  refine run_wp rfl ?_
  refine wp_set (d := fq 0) (by simp [ev, evs, Except.bind, most]; rfl) (by simp [t_law_total, slots]) ?_
  refine wp_for (enc := fq) (xs := l) (fun pre Γ => ∃ s2, Γ = [.sh (.list (l.map fq)), .sh (fq pre.sum), s2]) (by simp [t_law_total, runF, slots, exs, ex, ev, evs, evO, evC, evF, ofR, slV, cmpD, cmpB, eqD, outR, Except.bind, Except.map, bltD, bltF, setS, intB, most, b_add, b_sub, b_and, asBool, asInt, asInts, asBools, asList, idxD, atD, atI, ixN, Ik.is, isNo, evI]) ⟨.non, rfl⟩ (fun pre x post Γ e ⟨s2, hΓ⟩ => ?_) (fun Γ ⟨s2, hΓ⟩ => ?_)
  · subst hΓ
    refine ⟨[.sh (.list (l.map fq)), .sh (fq pre.sum), .sh (fq x)], rfl, ?_⟩
    have qx : QN D N x := hq x (by rw [e]; simp)
    have qp : QN D (pre.length * N) pre.sum := sum_QN hD pre fun y hy => hq y (by rw [e]; simp [hy])
    have hl : pre.length + 1 ≤ l.length := by rw [e]; simp
    have hl2 : (pre.length + 1) * N ≤ l.length * N := Nat.mul_le_mul_right N hl
    rw [Nat.add_mul, Nat.one_mul] at hl2
    have h := hp pre.sum x (qp.sm h1 (by omega)) (qx.sm h1 (by omega))
    refine wp_set (d := fq (pre.sum + x)) (by simp [runF, slots, exs, ex, ev, evs, evO, evC, evF, ofR, slV, cmpD, cmpB, eqD, outR, Except.bind, Except.map, bltD, bltF, setS, intB, most, b_add, b_sub, b_and, asBool, asInt, asInts, asBools, asList, idxD, atD, atI, ixN, Ik.is, isNo, h]) (by simp) ?_
    exact wp_nil ⟨.sh (fq x), by rw [sum_snoc]; rfl⟩
  · subst hΓ
    exact wp_ret (d := fq l.sum) (by simp [runF, slots, exs, ex, ev, evs, evO, evC, evF, ofR, slV, cmpD, cmpB, eqD, outR, Except.bind, Except.map, bltD, bltF, setS, intB, most, b_add, b_sub, b_and, asBool, asInt, asInts, asBools, asList, idxD, atD, atI, ixN, Ik.is, isNo]) rfl
end

/-! ### gathering -/
/-- the weight of a value -/
def wt : List (Int × Rat) → Int → Rat
  | [], _ => 0
  | p :: r, v => (if p.1 = v then p.2 else 0) + wt r v
theorem wt_app : ∀ (a b : List (Int × Rat)) (v : Int), wt (a ++ b) v = wt a v + wt b v
  | [], b, v => by
    show wt b v = 0 + wt b v
    rw [Rat.zero_add]
  | p :: a, b, v => by
    show (if p.1 = v then p.2 else 0) + wt (a ++ b) v = ((if p.1 = v then p.2 else 0) + wt a v) + wt b v
    rw [wt_app a b v, Rat.add_assoc]
theorem wt_one (p : Int × Rat) (v : Int) : wt [p] v = if p.1 = v then p.2 else 0 := by
  show (if p.1 = v then p.2 else 0) + 0 = _
  rw [Rat.add_zero]
theorem wt_none : ∀ (l : List (Int × Rat)) (v : Int), (∀ p ∈ l, p.1 ≠ v) → wt l v = 0
  | [], v, _ => rfl
  | p :: l, v, h => by
    show (if p.1 = v then p.2 else 0) + wt l v = 0
    rw [if_neg (h p List.mem_cons_self), wt_none l v fun q hq => h q (List.mem_cons_of_mem _ hq), Rat.zero_add]
theorem wt_QN {D N : Nat} (hD : 0 < D) : ∀ (l : List (Int × Rat)) (v : Int), (∀ p ∈ l, QN D N p.2) → QN D (l.length * N) (wt l v)
  | [], v, _ => QN.zero hD
  | p :: l, v, h => by
    have a : QN D N (if p.1 = v then p.2 else 0) := by
      split
      · exact h p List.mem_cons_self
      · exact QN.zero hD
    have b := wt_QN hD l v fun q hq => h q (List.mem_cons_of_mem _ hq)
    exact (a.add b).mono (by rw [List.length_cons, Nat.add_mul]; omega)
/-- the values, in the order of their coming -/
def ksA (acc : List Int) (p : Int × Rat) : List Int := if p.1 ∈ acc then acc else acc ++ [p.1]
def ks (l : List (Int × Rat)) : List Int := l.foldl ksA []
theorem ks_snoc (l : List (Int × Rat)) (p : Int × Rat) : ks (l ++ [p]) = ksA (ks l) p := by
  unfold ks
  rw [List.foldl_append]
  rfl
theorem snoc_ind {α : Type} {P : List α → Prop} (h0 : P []) (h1 : ∀ l a, P l → P (l ++ [a])) (l : List α) : P l := by
  have : ∀ r : List α, P r.reverse := by
    intro r
    induction r with
    | nil => exact h0
    | cons a r ih =>
      rw [List.reverse_cons]
      exact h1 _ _ ih
  have z := this l.reverse
  rwa [List.reverse_reverse] at z
theorem mem_ks (l : List (Int × Rat)) (v : Int) : v ∈ ks l ↔ ∃ p ∈ l, p.1 = v := by
  induction l using snoc_ind with
  | h0 => simp [ks]
  | h1 l a ih =>
    rw [ks_snoc]
    unfold ksA
    by_cases h : a.1 ∈ ks l
    · rw [if_pos h, ih]
      constructor
      · rintro ⟨p, hp, e⟩
        exact ⟨p, by simp [hp], e⟩
      · rintro ⟨p, hp, e⟩
        rcases List.mem_append.mp hp with q | q
        · exact ⟨p, q, e⟩
        · have : p = a := by simpa using q
          subst this
          rw [e] at h
          exact ih.mp h
    · rw [if_neg h]
      simp only [List.mem_append, List.mem_singleton, ih]
      constructor
      · rintro (⟨p, hp, e⟩ | e)
        · exact ⟨p, .inl hp, e⟩
        · exact ⟨a, .inr rfl, e.symm⟩
      · rintro ⟨p, hp | hp, e⟩
        · exact .inl ⟨p, hp, e⟩
        · subst hp
          exact .inr e.symm
theorem ks_nodup (l : List (Int × Rat)) : (ks l).Nodup := by
  induction l using snoc_ind with
  | h0 => simp [ks]
  | h1 l a ih =>
    rw [ks_snoc]
    unfold ksA
    by_cases h : a.1 ∈ ks l
    · rw [if_pos h]
      exact ih
    · rw [if_neg h]
      rw [List.nodup_append]
      refine ⟨ih, by simp, fun x hx y hy e => ?_⟩
      have : y = a.1 := by simpa using hy
      subst this
      subst e
      exact h hx
theorem ks_len (l : List (Int × Rat)) : (ks l).length ≤ l.length := by
  induction l using snoc_ind with
  | h0 => simp [ks]
  | h1 l a ih =>
    rw [ks_snoc]
    unfold ksA
    split <;> simp <;> omega
/-- a gathered list -/
def gath (l : List (Int × Rat)) : List (Int × Rat) := ((sortI (ks l)).filter fun v => decide (wt l v ≠ 0)).map fun v => (v, wt l v)
def IsGath (E : Evn) (n : Nat) : Prop := ∀ (D N : Nat) (l : List (Int × Rat)), 0 < D → (∀ p ∈ l, QN D N p.2) → D < lim → l.length * N < lim → (ks l).length < 64 → l.length ≤ most → E.F n [.list (l.map pq)] = .ok (.list ((gath l).map pq))

def kv (K : List Int) (g : Int → PyData) : List (Key × PyData) := K.map fun v => (.inl v, g v)
theorem kw_look (K : List Int) (g : Int → PyData) (v : Int) : lookD (kv K g) (.inl v) = if v ∈ K then some (g v) else none := by
  induction K with
  | nil => rfl
  | cons u K ih =>
    show (if (Sum.inl u : Key) = .inl v then some (g u) else lookD (kv K g) (.inl v)) = _
    by_cases h : u = v
    · subst h
      simp
    · have h1 : ¬ (Sum.inl u : Key) = .inl v := fun e => h (Sum.inl.inj e)
      rw [if_neg h1, ih]
      have h2 : ¬ v = u := fun e => h e.symm
      simp [h2]
theorem kw_any (K : List Int) (g : Int → PyData) (v : Int) : ((kv K g).any fun kv => decide (kv.1 = .inl v)) = decide (v ∈ K) := by
  induction K with
  | nil => rfl
  | cons u K ih =>
    show (decide ((Sum.inl u : Key) = .inl v) || (kv K g).any fun kv => decide (kv.1 = .inl v)) = _
    rw [ih]
    by_cases h : u = v
    · subst h
      simp
    · have h1 : ¬ (Sum.inl u : Key) = .inl v := fun e => h (Sum.inl.inj e)
      have h2 : ¬ v = u := fun e => h e.symm
      simp [h1, h2]
theorem kw_put (K : List Int) (g g' : Int → PyData) (p : Int × Rat) (d : PyData) (h1 : g' p.1 = d) (h2 : ∀ u, u ≠ p.1 → g' u = g u) : putD (kv K g) (.inl p.1) d = kv (ksA K p) g' := by
  unfold putD ksA
  rw [kw_any]
  by_cases h : p.1 ∈ K
  · rw [if_pos (decide_eq_true h), if_pos h]
    unfold kv
    rw [List.map_map]
    apply List.map_congr_left
    intro u _
    show (if (Sum.inl u : Key) = .inl p.1 then ((Sum.inl u : Key), d) else (Sum.inl u, g u)) = (Sum.inl u, g' u)
    by_cases hu : u = p.1
    · subst hu
      rw [if_pos rfl, h1]
    · rw [if_neg (fun e => hu (Sum.inl.inj e)), h2 u hu]
  · rw [if_neg (by simp [h]), if_neg h]
    unfold kv
    rw [List.map_append]
    congr 1
    · apply List.map_congr_left
      intro u hu
      have : u ≠ p.1 := fun e => h (e ▸ hu)
      rw [h2 u this]
    · simp [h1]
theorem kv_ints (K : List Int) (g : Int → PyData) : intKeys (kv K g) = some K := by
  induction K with
  | nil => rfl
  | cons u K ih =>
    show (intKeys (kv K g)).map (u :: ·) = _
    rw [ih]
    rfl
theorem kw_len (K : List Int) (g : Int → PyData) : (kv K g).length = K.length := by simp [kv]
theorem mem_sortI {K : List Int} {v : Int} : v ∈ sortI K ↔ v ∈ K := by
  unfold sortI
  exact List.mem_mergeSort
theorem len_sortI (K : List Int) : (sortI K).length = K.length := by
  unfold sortI
  exact List.length_mergeSort K
/-- the pieces that both texts share -/
theorem gath_step {E : Evn} {f : Nat} (hp : IsPlus E f) {D N : Nat} {l pre post : List (Int × Rat)} {x : Int × Rat} (hD : 0 < D) (hq : ∀ p ∈ l, QN D N p.2) (h1 : D < lim) (h2 : l.length * N < lim) (e : l = pre ++ x :: post) :
    E.F f [(lookD (kv (ks pre) fun v => fq (wt pre v)) (.inl x.1)).getD (fq 0), fq x.2] = .ok (fq (wt (pre ++ [x]) x.1)) ∧ putD (kv (ks pre) fun v => fq (wt pre v)) (.inl x.1) (fq (wt (pre ++ [x]) x.1)) = kv (ks (pre ++ [x])) fun v => fq (wt (pre ++ [x]) v) := by
  rw [lim_eq] at h1 h2
  have qx : QN D N x.2 := hq x (by rw [e]; simp)
  have qp : QN D (pre.length * N) (wt pre x.1) := wt_QN hD pre x.1 fun y hy => hq y (by rw [e]; simp [hy])
  have hl : pre.length + 1 ≤ l.length := by rw [e]; simp
  have hl2 : (pre.length + 1) * N ≤ l.length * N := Nat.mul_le_mul_right N hl
  rw [Nat.add_mul, Nat.one_mul] at hl2
  have h := hp (wt pre x.1) x.2 (qp.sm h1 (by omega)) (qx.sm h1 (by omega))
  constructor
  · have g : (lookD (kv (ks pre) fun v => fq (wt pre v)) (.inl x.1)).getD (fq 0) = fq (wt pre x.1) := by
      rw [kw_look]
      by_cases hm : x.1 ∈ ks pre
      · rw [if_pos hm]
        rfl
      · rw [if_neg hm, wt_none pre x.1 fun p hp hh => hm ((mem_ks pre x.1).mpr ⟨p, hp, hh⟩)]
        rfl
    rw [g, h, wt_app, wt_one, if_pos rfl]
  · rw [ks_snoc]
    refine kw_put (ks pre) _ _ x _ rfl fun u hu => ?_
    rw [wt_app, wt_one, if_neg (Ne.symm hu), Rat.add_zero]
section
variable {E : Evn} {k f : Nat}
theorem t_gathered_ok (hp : IsPlus E f) (hz : E.G k = some (fq 0)) {D N : Nat} {l : List (Int × Rat)} (hD : 0 < D) (hq : ∀ p ∈ l, QN D N p.2) (h1 : D < lim) (h2 : l.length * N < lim) (hk : (ks l).length < 64) (hm : l.length ≤ most) :
    runF E (t_gathered f k) [.list (l.map pq)] = .ok (.list ((gath l).map pq)) := by
  refine run_wp rfl ?_
  refine wp_newD (by simp [t_gathered, slots]) ?_
  refine wp_for (enc := pq) (xs := l) (fun pre Γ => ∃ s2 s3, Γ = [.sh (.list (l.map pq)), .dk (kv (ks pre) fun v => fq (wt pre v)), s2, s3]) (by simp [t_gathered, runF, slots, exs, ex, ev, evs, evO, evC, evF, ofR, slV, cmpD, cmpB, eqD, outR, Except.bind, Except.map, bltD, bltF, setS, intB, most, b_add, b_sub, b_and, asBool, asInt, asInts, asBools, asList, idxD, atD, atI, ixN, Ik.is, isNo, evI]) ⟨.non, .non, rfl⟩ (fun pre x post Γ e ⟨s2, s3, hΓ⟩ => ?_) (fun Γ ⟨s2, s3, hΓ⟩ => ?_)
  · subst hΓ
    obtain ⟨g1, g2⟩ := gath_step hp hD hq h1 h2 e
    refine ⟨[.sh (.list (l.map pq)), .dk (kv (ks pre) fun v => fq (wt pre v)), .sh (.int x.1), .sh (fq x.2)], rfl, ?_⟩
    refine wp_dput (d := fq (wt (pre ++ [x]) x.1)) (x := .int x.1) (q := .inl x.1) rfl (by simp [runF, slots, exs, ex, ev, evs, evO, evC, evF, ofR, slV, cmpD, cmpB, eqD, outR, Except.bind, Except.map, bltD, bltF, setS, intB, most, b_add, b_sub, b_and, asBool, asInt, asInts, asBools, asList, idxD, atD, atI, ixN, Ik.is, isNo, asKey, keyOf, hz, g1]) (by simp [runF, slots, exs, ex, ev, evs, evO, evC, evF, ofR, slV, cmpD, cmpB, eqD, outR, Except.bind, Except.map, bltD, bltF, setS, intB, most, b_add, b_sub, b_and, asBool, asInt, asInts, asBools, asList, idxD, atD, atI, ixN, Ik.is, isNo]) rfl ?_ ?_
    · rw [kw_len]
      have := ks_len pre
      have hl : pre.length < l.length := by rw [e]; simp
      omega
    · refine wp_nil ⟨.sh (.int x.1), .sh (fq x.2), ?_⟩
      rw [g2]
      rfl
  · subst hΓ
    refine wp_retF (ds := (gath l).map pq) ?_ rfl
    have z := evF_lcf (E := E) (Γ := [.sh (.list (l.map pq)), .dk (kv (ks l) fun v => fq (wt l v)), s2, s3]) (enc := fun v : Int => PyData.int v) (g := fun v : Int => pq (v, wt l v)) (xs := sortI (ks l)) (vs := [2]) (tg := .nm 2) (it := .of (.ksort 1))
      (el := .tup (.cons (.var 2) (.cons (.kat 1 (.var 2)) .nil))) (co := .cmp .ne (.kat 1 (.var 2)) (.glob k)) (p := fun v => decide (wt l v ≠ 0)) (by simp [runF, slots, exs, ex, ev, evs, evO, evC, evF, ofR, slV, cmpD, cmpB, eqD, outR, Except.bind, Except.map, bltD, bltF, setS, intB, most, b_add, b_sub, b_and, asBool, asInt, asInts, asBools, asList, idxD, atD, atI, ixN, Ik.is, isNo, evI, keySort, kv_ints, hk]) (by rw [len_sortI]; have := ks_len l; omega) (fun v hv => ?_)
    · rw [z]
      unfold gath
      rw [List.map_map]
      rfl
    · have hv' : v ∈ ks l := mem_sortI.mp hv
      have hL : lookD (kv (ks l) fun v => fq (wt l v)) (.inl v) = some (fq (wt l v)) := by rw [kw_look, if_pos hv']
      refine ⟨[.sh (.list (l.map pq)), .dk (kv (ks l) fun v => fq (wt l v)), .sh (.int v), s3], rfl, ?_, fun _ => ?_⟩
      · simp [ev, evs, slV, Except.bind, Except.map, cmpD, cmpB, asKey, keyOf, hL, hz, fq_eq]
      · simp [ev, evs, slV, Except.bind, Except.map, asKey, keyOf, hL, most]
        rfl
theorem t_law_gathered_ok (hp : IsPlus E f) {D N : Nat} {l : List (Int × Rat)} (hD : 0 < D) (hq : ∀ p ∈ l, QN D N p.2) (h1 : D < lim) (h2 : l.length * N < lim) (hk : (ks l).length < 64) (hm : l.length ≤ most) :
    runF E (t_law_gathered f) [.list (l.map pq)] = .ok (.list ((gath l).map pq)) := by
  refine run_wp rfl ?_
  refine wp_newD (by simp [t_law_gathered, slots]) ?_
  refine wp_for (enc := pq) (xs := l) (fun pre Γ => ∃ s2 s3, Γ = [.sh (.list (l.map pq)), .dk (kv (ks pre) fun v => fq (wt pre v)), s2, s3]) (by simp [t_law_gathered, runF, slots, exs, ex, ev, evs, evO, evC, evF, ofR, slV, cmpD, cmpB, eqD, outR, Except.bind, Except.map, bltD, bltF, setS, intB, most, b_add, b_sub, b_and, asBool, asInt, asInts, asBools, asList, idxD, atD, atI, ixN, Ik.is, isNo, evI]) ⟨.non, .non, rfl⟩ (fun pre x post Γ e ⟨s2, s3, hΓ⟩ => ?_) (fun Γ ⟨s2, s3, hΓ⟩ => ?_)
  · subst hΓ
    obtain ⟨g1, g2⟩ := gath_step hp hD hq h1 h2 e
    refine ⟨[.sh (.list (l.map pq)), .dk (kv (ks pre) fun v => fq (wt pre v)), .sh (pq x), s3], rfl, ?_⟩
    have z0 : (PyData.tuple [.int 0, .int 1]) = fq 0 := rfl
    refine wp_dput (d := fq (wt (pre ++ [x]) x.1)) (x := .int x.1) (q := .inl x.1) rfl (by simp [runF, slots, exs, ex, ev, evs, evO, evC, evF, ofR, slV, cmpD, cmpB, eqD, outR, Except.bind, Except.map, bltD, bltF, setS, intB, most, b_add, b_sub, b_and, asBool, asInt, asInts, asBools, asList, idxD, atD, atI, ixN, Ik.is, isNo, asKey, keyOf, pq, z0, g1]) (by simp [runF, slots, exs, ex, ev, evs, evO, evC, evF, ofR, slV, cmpD, cmpB, eqD, outR, Except.bind, Except.map, bltD, bltF, setS, intB, most, b_add, b_sub, b_and, asBool, asInt, asInts, asBools, asList, idxD, atD, atI, ixN, Ik.is, isNo, pq]) rfl ?_ ?_
    · rw [kw_len]
      have := ks_len pre
      have hl : pre.length < l.length := by rw [e]; simp
      omega
    · refine wp_nil ⟨.sh (pq x), s3, ?_⟩
      rw [g2]
      rfl
  · subst hΓ
    refine wp_ret (d := .list ((gath l).map pq)) (ev_lc ?_) rfl
    have z := evF_lcf (E := E) (Γ := [.sh (.list (l.map pq)), .dk (kv (ks l) fun v => fq (wt l v)), s2, s3]) (enc := fun v : Int => PyData.int v) (g := fun v : Int => pq (v, wt l v)) (xs := sortI (ks l)) (vs := [3]) (tg := .nm 3) (it := .of (.ksort 1))
      (el := .tup (.cons (.var 3) (.cons (.kat 1 (.var 3)) .nil))) (co := .cmp .ne (.idx (.kat 1 (.var 3)) (.int 0)) (.int 0)) (p := fun v => decide (wt l v ≠ 0)) (by simp [runF, slots, exs, ex, ev, evs, evO, evC, evF, ofR, slV, cmpD, cmpB, eqD, outR, Except.bind, Except.map, bltD, bltF, setS, intB, most, b_add, b_sub, b_and, asBool, asInt, asInts, asBools, asList, idxD, atD, atI, ixN, Ik.is, isNo, evI, keySort, kv_ints, hk]) (by rw [len_sortI]; have := ks_len l; omega) (fun v hv => ?_)
    · rw [z]
      unfold gath
      rw [List.map_map]
      rfl
    · have hv' : v ∈ ks l := mem_sortI.mp hv
      have hL : lookD (kv (ks l) fun v => fq (wt l v)) (.inl v) = some (fq (wt l v)) := by rw [kw_look, if_pos hv']
      have hd : (!decide ((wt l v).num = 0)) = decide (wt l v ≠ 0) := by
        rw [← decide_not]
        exact decide_eq_decide.mpr (not_congr Rat.num_eq_zero)
      refine ⟨[.sh (.list (l.map pq)), .dk (kv (ks l) fun v => fq (wt l v)), s2, .sh (.int v)], rfl, ?_, fun _ => ?_⟩
      · rw [← hd]
        simp [ev, evs, slV, Except.bind, Except.map, cmpD, cmpB, eqD, asKey, keyOf, hL, fq_idx0]
      · simp [ev, evs, slV, Except.bind, Except.map, asKey, keyOf, hL, most]
        rfl
end
end Dee

set_option maxRecDepth 100000
set_option maxHeartbeats 1000000
/-! Dee, part 30: the laws' own draws and fractions. -/
namespace Dee
open PySem PySem.Spec L2
abbrev pr (a b : Int) : D := .tuple [.int a, .int b]
section
variable (E0 : Evn)
def gbd : CSs := match t_law_gcd.body with
  | .cons _ (.cons _ (.cons (.for _ _ b) _)) => b
  | _ => .nil
theorem gstep0 (a : Nat) (x s : Sl) : exs E0 gbd [.sh (.int a), .sh (.int (0 : Nat)), x, s] = .rt (.int a) := by
  simp [gbd, t_law_gcd, runF, slots, exs, ex, ev, evs, evO, evC, evF, ofR, slV, cmpD, cmpB, eqD, outR, Except.bind, Except.map, bltD, bltF, setS, intB, most, b_add, b_sub, b_and, asBool, asInt, asInts, asBools, asList, idxD, atD, atI, ixN, Ik.is, isNo]
theorem gstep (a b : Nat) (h : 0 < b) (x s : Sl) : exs E0 gbd [.sh (.int a), .sh (.int b), x, s] = .nx [.sh (.int b), .sh (.int (a % b : Nat)), x, .sh (.int (a % b : Nat))] := by
  have h1 : ¬ ((b : Int) = 0) := by omega
  have h2 : (0 : Int) < b := by omega
  have h3 : ¬ (b = 0) := by omega
  simp [gbd, t_law_gcd, runF, slots, exs, ex, ev, evs, evO, evC, evF, ofR, slV, cmpD, cmpB, eqD, outR, Except.bind, Except.map, bltD, bltF, setS, intB, most, b_add, b_sub, b_and, asBool, asInt, asInts, asBools, asList, idxD, atD, atI, ixN, Ik.is, isNo, h, h1, h2, h3, b_mod h2]
def sz (a : Nat) : Nat := if a = 0 then 0 else a.log2 + 1
theorem sz_bits (a : Nat) : bits (a : Int) = sz a := by
  unfold bits Builtin.Int.intBits sz
  by_cases h : a = 0
  · subst h
    rfl
  · have : ¬ ((a : Int) = 0) := by omega
    simp [h, this]
theorem sz_half {a r : Nat} (h : 2 * r < a) : sz r + 1 ≤ sz a := by
  unfold sz
  have ha : a ≠ 0 := by omega
  rw [if_neg ha]
  by_cases hr : r = 0
  · rw [if_pos hr]
    omega
  · rw [if_neg hr]
    have h1 : 2 * r ≠ 0 := by omega
    have e : (2 * r).log2 = r.log2 + 1 := Nat.log2_two_mul hr
    have : (2 * r).log2 ≤ a.log2 := by
      apply Nat.le_log2 ha |>.mpr
      exact Nat.le_trans (Nat.log2_self_le h1) (Nat.le_of_lt h)
    omega
theorem mod_half {a b : Nat} (h : 0 < b) (h1 : b ≤ a) : 2 * (a % b) < a := by
  have h2 := Nat.mod_lt a h
  have h3 := Nat.div_add_mod a b
  have h4 : 1 ≤ a / b := (Nat.one_le_div_iff h).mpr h1
  have h5 : b * 1 ≤ b * (a / b) := Nat.mul_le_mul_left b h4
  omega
theorem gloop : ∀ (ds : List D) (a b : Nat) (x s : Sl), b ≤ a → sz a + sz b + 1 ≤ ds.length → forL (fun d Γ => asg (.nm 2) d Γ) (fun Γ => exs E0 gbd Γ) ds [.sh (.int a), .sh (.int b), x, s] = .rt (.int (Nat.gcd a b : Nat))
  | [], a, b, x, s, h, hl => by simp at hl
  | d :: ds, a, b, x, s, h, hl => by
    unfold forL
    show (match exs E0 gbd [.sh (.int a), .sh (.int b), .sh d, s] with
      | .nx Γ2 => _
      | .ct Γ2 => _
      | .bk Γ2 => _
      | .rt d => _
      | .rf d => _
      | .xc c Γ2 => _
      | .un => _) = _
    by_cases hb : b = 0
    · subst hb
      have e := gstep0 E0 a (.sh d) s
      rw [e]
      simp
    · rw [gstep E0 a b (by omega)]
      have hr := mod_half (by omega) h
      have hs := sz_half hr
      have hm : a % b ≤ b := Nat.le_of_lt (Nat.mod_lt a (by omega))
      rw [Nat.gcd_comm, Nat.gcd_rec]
      rw [Nat.gcd_comm]
      exact gloop ds b (a % b) _ _ hm (by simp at hl; omega)
theorem gloop1 (ds : List D) (a b : Nat) (x s : Sl) (hl : sz a + sz b + 2 ≤ ds.length) : forL (fun d Γ => asg (.nm 2) d Γ) (fun Γ => exs E0 gbd Γ) ds [.sh (.int a), .sh (.int b), x, s] = .rt (.int (Nat.gcd a b : Nat)) := by
  by_cases h : b ≤ a
  · exact gloop E0 ds a b x s h (by omega)
  · cases ds with
    | nil => simp at hl
    | cons d ds =>
      unfold forL
      show (match exs E0 gbd [.sh (.int a), .sh (.int b), .sh d, s] with
        | .nx Γ2 => _
        | .ct Γ2 => _
        | .bk Γ2 => _
        | .rt d => _
        | .rf d => _
        | .xc c Γ2 => _
        | .un => _) = _
      rw [gstep E0 a b (by omega)]
      have e : a % b = a := Nat.mod_eq_of_lt (by omega)
      rw [e, Nat.gcd_comm]
      exact gloop E0 ds b a _ _ (by omega) (by simp at hl; omega)
theorem range_len (lo : Int) (n : Nat) : (rangeD lo n).length = n := by
  unfold rangeD
  simp
theorem t_law_gcd_ok (a b : Int) (ha : Bd 9000 a) (hb : Bd 9000 b) : runF E0 t_law_gcd [.int a, .int b] = .ok (.int (Nat.gcd a.natAbs b.natAbs : Nat)) := by
  have s1 := sz_bits a.natAbs
  have s2 := sz_bits b.natAbs
  have l1 : bits (a.natAbs : Int) ≤ 9000 := bits_lt (by rw [Int.natAbs_natCast]; exact ha)
  have l2 : bits (b.natAbs : Int) ≤ 9000 := bits_lt (by rw [Int.natAbs_natCast]; exact hb)
  have hl : small ((bits (a.natAbs : Int) : Int) + (bits (b.natAbs : Int) : Int) + 4) = true := small_ok (by omega) (by omega)
  have lp := gloop1 E0 (rangeD 0 ((bits (a.natAbs : Int) : Int) + (bits (b.natAbs : Int) : Int) + 4).toNat) a.natAbs b.natAbs .non .non (by rw [range_len, ← s1, ← s2]; omega)
  have eb : t_law_gcd.body = .cons (.set 0 (.blt .abs (.cons (.var 0) .nil))) (.cons (.set 1 (.blt .abs (.cons (.var 1) .nil))) (.cons (.for (.nm 2) (.r1 (.bin .add (.bin .add (.bits (.var 0)) (.bits (.var 1))) (.int 4))) gbd) (.cons (.ret (.var 0)) .nil))) := rfl
  have ef : ex E0 (.for (.nm 2) (.r1 (.bin .add (.bin .add (.bits (.var 0)) (.bits (.var 1))) (.int 4))) gbd) [.sh (.int a.natAbs), .sh (.int b.natAbs), .non, .non] = .rt (.int (Nat.gcd a.natAbs b.natAbs : Nat)) :=
    ex_for (evI_r1 (i := (bits (a.natAbs : Int) : Int) + (bits (b.natAbs : Int) : Int) + 4) (by simp only [ev, slV, List.getElem?_cons_zero, List.getElem?_cons_succ, Except.bind, asInt, b_add]) hl) lp
  have e1 : ex E0 (.set 0 (.blt .abs (.cons (.var 0) .nil))) (slots t_law_gcd.nn [.int a, .int b]) = .nx [.sh (.int a.natAbs), .sh (.int b), .non, .non] := by simp [t_law_gcd, runF, slots, exs, ex, ev, evs, evO, evC, evF, ofR, slV, cmpD, cmpB, eqD, outR, Except.bind, Except.map, bltD, bltF, setS, intB, most, b_add, b_sub, b_and, asBool, asInt, asInts, asBools, asList, idxD, atD, atI, ixN, Ik.is, isNo]
  have e2 : ex E0 (.set 1 (.blt .abs (.cons (.var 1) .nil))) [.sh (.int a.natAbs), .sh (.int b), .non, .non] = .nx [.sh (.int a.natAbs), .sh (.int b.natAbs), .non, .non] := by simp [runF, slots, exs, ex, ev, evs, evO, evC, evF, ofR, slV, cmpD, cmpB, eqD, outR, Except.bind, Except.map, bltD, bltF, setS, intB, most, b_add, b_sub, b_and, asBool, asInt, asInts, asBools, asList, idxD, atD, atI, ixN, Ik.is, isNo]
  refine runF_of (o := .rt (.int (Nat.gcd a.natAbs b.natAbs : Nat))) rfl ?_
  rw [eb, exs_nx e1, exs_nx e2, exs_rt ef]
theorem t_law_fraction_ok {g : Nat} (t l : Int) (h : l ≠ 0) (hb : Bd 9000 l) (e3 : E0.F g [.int t, .int l] = .ok (.int (Nat.gcd t.natAbs l.natAbs : Nat))) : runF E0 (t_law_fraction g) [.int t, .int l] = .ok (fq ((t : Rat) / (l : Rat))) := by
  rw [← fr_fq h]
  have g1 := gg_ne (t := t) h
  have g2 := gg_bd (t := t) h hb
  have e1 := fdiv_ok (i := t) g1 g2
  have e2 := fdiv_ok (i := l) g1 g2
  by_cases h0 : l < 0
  · have eg : gg t l = -((Nat.gcd t.natAbs l.natAbs : Nat) : Int) := by unfold gg; rw [if_pos h0]
    rw [eg] at e1 e2
    simp [t_law_fraction, outX, runF, slots, exs, ex, ev, evs, evO, evC, evF, ofR, slV, cmpD, cmpB, eqD, outR, Except.bind, Except.map, bltD, bltF, setS, intB, most, b_add, b_sub, b_and, asBool, asInt, asInts, asBools, asList, idxD, atD, atI, ixN, Ik.is, isNo, h, h0, e1, e2, e3, fr, eg]
  · have eg : gg t l = ((Nat.gcd t.natAbs l.natAbs : Nat) : Int) := by unfold gg; rw [if_neg h0]
    rw [eg] at e1 e2
    simp [t_law_fraction, outX, runF, slots, exs, ex, ev, evs, evO, evC, evF, ofR, slV, cmpD, cmpB, eqD, outR, Except.bind, Except.map, bltD, bltF, setS, intB, most, b_add, b_sub, b_and, asBool, asInt, asInts, asBools, asList, idxD, atD, atI, ixN, Ik.is, isNo, h, h0, e1, e2, e3, fr, eg]
theorem t_law_cell_ok (ns : List Int) (k : Nat) : runF E0 t_law_cell [.list (ns.map .int), .int k] = .ok (.int (ns[k]?.getD 0)) := by
  by_cases h : k < ns.length
  · have h1 : (k : Int) < (ns.length : Int) := by omega
    have h2 : (0 : Int) ≤ k := by omega
    simp [t_law_cell, outX, runF, slots, exs, ex, ev, evs, evO, evC, evF, ofR, slV, cmpD, cmpB, eqD, outR, Except.bind, Except.map, bltD, bltF, setS, intB, most, b_add, b_sub, b_and, asBool, asInt, asInts, asBools, asList, idxD, atD, atI, ixN, Ik.is, isNo, h, h1, h2]
  · have h1 : ¬ ((k : Int) < (ns.length : Int)) := by omega
    have e : ns[k]? = none := List.getElem?_eq_none (by omega)
    simp [t_law_cell, outX, runF, slots, exs, ex, ev, evs, evO, evC, evF, ofR, slV, cmpD, cmpB, eqD, outR, Except.bind, Except.map, bltD, bltF, setS, intB, most, b_add, b_sub, b_and, asBool, asInt, asInts, asBools, asList, idxD, atD, atI, ixN, Ik.is, isNo, h, h1, e]
/-! ### the draws -/
def dbd : CSs := match t_law_draws.body with
  | .cons _ (.cons _ (.cons _ (.cons _ (.cons (.for _ _ b) _)))) => b
  | _ => .nil
theorem dturn {c : D} {lims xs : List D} {rest state l : Int} {free : Bool} {s6 : Sl} (hl : 0 < l) (hb : Bd 9000 l) (hr : 0 ≤ rest) (hs : 0 ≤ state ∧ state < 2147483647) (hx : xs.length < 100) :
    ∃ rest' state' y : Int, 0 ≤ rest' ∧ (0 ≤ state' ∧ state' < 2147483647) ∧ (0 ≤ y ∧ y < l) ∧
      exs E0 dbd [.sh c, .sh (.list lims), .own xs, .sh (.int rest), .sh (.int state), .sh (.bool free), .sh (.int l)] = .nx [.sh c, .sh (.list lims), .own (xs ++ [.int y]), .sh (.int rest'), .sh (.int state'), .sh (.bool free), .sh (.int l)] := by
  have hx' : xs.length < 1000000 := by omega
  have m : ∀ i : Int, binD .mod (.int i) (.int l) = .ok (.int (i % l)) := fun i => b_mod hl
  have q : ∀ i : Int, binD .fdiv (.int i) (.int l) = .ok (.int (i / l)) := fun i => b_div hl hb
  by_cases hf : free = true ∧ 1 < rest
  · obtain ⟨rfl, h1⟩ := hf
    refine ⟨rest / l, state, rest % l, Int.ediv_nonneg hr (Int.le_of_lt hl), hs, ⟨Int.emod_nonneg _ (by omega), Int.emod_lt_of_pos _ hl⟩, ?_⟩
    simp [dbd, t_law_draws, runF, slots, exs, ex, ev, evs, evO, evC, evF, ofR, slV, cmpD, cmpB, eqD, outR, Except.bind, Except.map, bltD, bltF, setS, intB, most, b_add, b_sub, b_and, asBool, asInt, asInts, asBools, asList, idxD, atD, atI, ixN, Ik.is, isNo, h1, hx', m, q]
  · have k1 : (0 : Int) < 2147483647 := by decide
    have k2 : (0 : Int) < 13 := by decide
    have k3 : (13 : Int).natAbs < 2 ^ 9000 := Nat.lt_of_lt_of_le (show (13 : Int).natAbs < 2 ^ 4 by decide) (pow_lt_pow (by decide))
    have bs : ∀ {z : Int}, 0 ≤ z ∧ z < 2147483647 → Bd 64 z := fun {z} hz => by
      show z.natAbs < 2 ^ 64
      have : (2 : Nat) ^ 64 = 18446744073709551616 := by decide
      omega
    have w1 : Bd 64 48271 := by unfold Bd; decide
    have w2 : Bd 64 69621 := by unfold Bd; decide
    have z1 : 0 ≤ (state * 48271 + 11) % 2147483647 ∧ (state * 48271 + 11) % 2147483647 < 2147483647 := ⟨Int.emod_nonneg _ (by omega), Int.emod_lt_of_pos _ k1⟩
    have m1 := b_mul ((bs hs).ok w1)
    have m2 := b_mul ((bs z1).ok w2)
    have z2 : 0 ≤ ((state * 48271 + 11) % 2147483647 * 69621 + 7) % 2147483647 ∧ ((state * 48271 + 11) % 2147483647 * 69621 + 7) % 2147483647 < 2147483647 := ⟨Int.emod_nonneg _ (by omega), Int.emod_lt_of_pos _ k1⟩
    refine ⟨rest, _, (((state * 48271 + 11) % 2147483647 * 69621 + 7) % 2147483647) / 13 % l, hr, z2, ⟨Int.emod_nonneg _ (by omega), Int.emod_lt_of_pos _ hl⟩, ?_⟩
    have t : ev E0 (.and (.var 5) (.one (.cmp .gt (.var 3) (.int 1)))) [.sh c, .sh (.list lims), .own xs, .sh (.int rest), .sh (.int state), .sh (.bool free), .sh (.int l)] = .ok (.bool false) := by
      cases free with
      | false => rfl
      | true =>
        have h1 : ¬ (1 < rest) := fun z => hf ⟨rfl, z⟩
        simp [runF, slots, exs, ex, ev, evs, evO, evC, evF, ofR, slV, cmpD, cmpB, eqD, outR, Except.bind, Except.map, bltD, bltF, setS, intB, most, b_add, b_sub, b_and, asBool, asInt, asInts, asBools, asList, idxD, atD, atI, ixN, Ik.is, isNo, h1]
    have b1 := b_mod (i := state * 48271 + 11) k1
    have b2 := b_mod (i := (state * 48271 + 11) % 2147483647 * 69621 + 7) k1
    have b3 := b_div (i := ((state * 48271 + 11) % 2147483647 * 69621 + 7) % 2147483647) k2 k3
    have e : ex E0 (.iff (.and (.var 5) (.one (.cmp .gt (.var 3) (.int 1)))) _ _) _ = _ := ex_if (t := false) (a := .cons (.app 2 (.bin .mod (.blt .int (.cons (.var 3) .nil)) (.var 6))) (.cons (.set 3 (.bin .fdiv (.var 3) (.var 6))) .nil))
      (b := .cons (.set 4 (.bin .mod (.blt .int (.cons (.bin .add (.bin .mul (.var 4) (.int 48271)) (.int 11)) .nil)) (.int 2147483647))) (.cons (.set 4 (.bin .mod (.blt .int (.cons (.bin .add (.bin .mul (.var 4) (.int 69621)) (.int 7)) .nil)) (.int 2147483647))) (.cons (.app 2 (.bin .mod (.blt .int (.cons (.bin .fdiv (.var 4) (.int 13)) .nil)) (.var 6))) .nil))) t rfl
    refine (exs_nx (e.trans ?_)).trans rfl
    simp only [Bool.false_eq_true, if_false]
    simp [runF, slots, exs, ex, ev, evs, evO, evC, evF, ofR, slV, cmpD, cmpB, eqD, outR, Except.bind, Except.map, bltD, bltF, setS, intB, most, b_add, b_sub, b_and, asBool, asInt, asInts, asBools, asList, idxD, atD, atI, ixN, Ik.is, isNo, m, m1, m2, b1, b2, b3, hx']
def Rng : List Int → List Int → Prop
  | [], [] => True
  | y :: ys, l :: ls => (0 ≤ y ∧ y < l) ∧ Rng ys ls
  | _, _ => False
theorem dloop {c : D} {lims : List D} {free : Bool} : ∀ (ls : List Int) (xs : List D) (rest state : Int) (s6 : Sl), (∀ l ∈ ls, 0 < l ∧ Bd 9000 l) → 0 ≤ rest → (0 ≤ state ∧ state < 2147483647) → xs.length + ls.length ≤ 100 →
    ∃ (ys : List Int) (rest' state' : Int) (s6' : Sl), Rng ys ls ∧ forL (fun d Γ => asg (.nm 6) d Γ) (fun Γ => exs E0 dbd Γ) (ls.map .int) [.sh c, .sh (.list lims), .own xs, .sh (.int rest), .sh (.int state), .sh (.bool free), s6] =
      .nx [.sh c, .sh (.list lims), .own (xs ++ ys.map .int), .sh (.int rest'), .sh (.int state'), .sh (.bool free), s6']
  | [], xs, rest, state, s6, _, _, _, _ => ⟨[], rest, state, s6, trivial, by simp [forL]⟩
  | l :: ls, xs, rest, state, s6, hl, hr, hs, hx => by
    obtain ⟨l1, l2⟩ := hl l List.mem_cons_self
    simp only [List.length_cons] at hx
    obtain ⟨r1, st1, y, hr1, hs1, hy, e⟩ := dturn E0 (c := c) (lims := lims) (xs := xs) (rest := rest) (state := state) (free := free) (s6 := s6) l1 l2 hr hs (by omega)
    obtain ⟨ys, r2, st2, s2, hR, e2⟩ := dloop (c := c) (lims := lims) (free := free) ls (xs ++ [.int y]) r1 st1 (.sh (.int l)) (fun z hz => hl z (List.mem_cons_of_mem _ hz)) hr1 hs1 (by simp; omega)
    refine ⟨y :: ys, r2, st2, s2, ⟨hy, hR⟩, ?_⟩
    have ea : asg (.nm 6) (.int l) [.sh c, .sh (.list lims), .own xs, .sh (.int rest), .sh (.int state), .sh (.bool free), s6] = some [.sh c, .sh (.list lims), .own xs, .sh (.int rest), .sh (.int state), .sh (.bool free), .sh (.int l)] := rfl
    rw [List.map_cons]
    unfold forL
    simp only [ea, e, e2]
    simp
theorem t_law_draws_ok (c : Int) (ls : List Int) (hl : ∀ l ∈ ls, 0 < l ∧ Bd 9000 l) (hn : ls.length ≤ 100) : ∃ ys : List Int, Rng ys ls ∧ runF E0 t_law_draws [.int c, .list (ls.map .int)] = .ok (.list (ys.map .int)) := by
  have k1 : (0 : Int) < 2147483647 := by decide
  have p10 : binD .pow (.int 10) (.int 18) = .ok (.int (10 ^ 18)) := b_pow (n := 18) (by decide) (by decide)
  obtain ⟨ys, r, st, s6, hR, e⟩ := dloop E0 (c := .int c) (lims := ls.map .int) (free := decide (c < 0) || decide (10 ^ 18 ≤ c)) ls [] c.natAbs ((c.natAbs : Int) % 2147483647) .non hl (by omega) ⟨Int.emod_nonneg _ (by omega), Int.emod_lt_of_pos _ k1⟩ (by simpa using hn)
  refine ⟨ys, hR, ?_⟩
  refine runF_of (o := .rt (.list (ys.map .int))) rfl ?_
  have b1 := b_mod (i := (c.natAbs : Int)) k1
  have s1 : ex E0 (.setO 2 (.lst .nil)) (slots t_law_draws.nn [.int c, .list (ls.map .int)]) = .nx [.sh (.int c), .sh (.list (ls.map .int)), .own [], .non, .non, .non, .non] := by simp [t_law_draws, runF, slots, exs, ex, ev, evs, evO, evC, evF, ofR, slV, cmpD, cmpB, eqD, outR, Except.bind, Except.map, bltD, bltF, setS, intB, most, b_add, b_sub, b_and, asBool, asInt, asInts, asBools, asList, idxD, atD, atI, ixN, Ik.is, isNo]
  have s2 : ex E0 (.set 3 (.blt .abs (.cons (.blt .int (.cons (.var 0) .nil)) .nil))) [.sh (.int c), .sh (.list (ls.map .int)), .own [], .non, .non, .non, .non] = .nx [.sh (.int c), .sh (.list (ls.map .int)), .own [], .sh (.int c.natAbs), .non, .non, .non] := by simp [runF, slots, exs, ex, ev, evs, evO, evC, evF, ofR, slV, cmpD, cmpB, eqD, outR, Except.bind, Except.map, bltD, bltF, setS, intB, most, b_add, b_sub, b_and, asBool, asInt, asInts, asBools, asList, idxD, atD, atI, ixN, Ik.is, isNo]
  have s3 : ex E0 (.set 4 (.bin .mod (.blt .int (.cons (.var 3) .nil)) (.int 2147483647))) [.sh (.int c), .sh (.list (ls.map .int)), .own [], .sh (.int c.natAbs), .non, .non, .non] = .nx [.sh (.int c), .sh (.list (ls.map .int)), .own [], .sh (.int c.natAbs), .sh (.int ((c.natAbs : Int) % 2147483647)), .non, .non] := by
    refine ex_set ?_ (by simp)
    simp only [ev, evs, slV, Except.bind, List.getElem?_cons_zero, List.getElem?_cons_succ, bltD]
    exact b1
  have s4 : ex E0 (.set 5 (.or (.cmp .lt (.var 0) (.int 0)) (.one (.cmp .ge (.var 0) (.bin .pow (.int 10) (.int 18)))))) [.sh (.int c), .sh (.list (ls.map .int)), .own [], .sh (.int c.natAbs), .sh (.int ((c.natAbs : Int) % 2147483647)), .non, .non] =
      .nx [.sh (.int c), .sh (.list (ls.map .int)), .own [], .sh (.int c.natAbs), .sh (.int ((c.natAbs : Int) % 2147483647)), .sh (.bool (decide (c < 0) || decide (10 ^ 18 ≤ c))), .non] := by
    refine ex_set (d := .bool (decide (c < 0) || decide (10 ^ 18 ≤ c))) ?_ (by simp)
    simp only [ev, evs, slV, Except.bind, Except.map, List.getElem?_cons_zero, List.getElem?_cons_succ, cmpD, cmpB, intB, asBool, p10]
    by_cases h : c < 0
    · simp [h]
    · simp [h]
  have s5 : ex E0 (.for (.nm 6) (.of (.var 1)) dbd) [.sh (.int c), .sh (.list (ls.map .int)), .own [], .sh (.int c.natAbs), .sh (.int ((c.natAbs : Int) % 2147483647)), .sh (.bool (decide (c < 0) || decide (10 ^ 18 ≤ c))), .non] = _ := ex_for (evI_lst rfl) e
  have s6 : exs E0 (.frz 2 (.cons (.ret (.var 2)) .nil)) [.sh (.int c), .sh (.list (ls.map .int)), .own ([] ++ ys.map .int), .sh (.int r), .sh (.int st), .sh (.bool (decide (c < 0) || decide (10 ^ 18 ≤ c))), s6] = .rt (.list (ys.map .int)) := by simp [runF, slots, exs, ex, ev, evs, evO, evC, evF, ofR, slV, cmpD, cmpB, eqD, outR, Except.bind, Except.map, bltD, bltF, setS, intB, most, b_add, b_sub, b_and, asBool, asInt, asInts, asBools, asList, idxD, atD, atI, ixN, Ik.is, isNo]
  exact (exs_nx s1).trans ((exs_nx s2).trans ((exs_nx s3).trans ((exs_nx s4).trans ((exs_nx s5).trans s6))))
end
end Dee

set_option maxRecDepth 100000
set_option maxHeartbeats 1000000
/-! Dee, part 31: plain mathematics of spreads. -/
namespace Dee
open PySem PySem.Spec L2
theorem sortI_sorted (K : List Int) : (sortI K).Pairwise (fun a b => a ≤ b) := by
  have h := List.pairwise_mergeSort (le := fun a b : Int => decide (a ≤ b)) (fun a b c h1 h2 => by simp at *; omega) (fun a b => by simp; omega) K
  exact h.imp fun {a b} h => by simpa using h
theorem sortI_pm (K : List Int) : (sortI K).Perm K := List.mergeSort_perm K _
theorem sortI_asc {K : List Int} (h : K.Nodup) : (sortI K).Pairwise (fun a b => a < b) := by
  have h1 := sortI_sorted K
  have h2 : (sortI K).Nodup := (sortI_pm K).nodup_iff.mpr h
  exact List.Pairwise.imp₂ (fun {a b} (x : a ≤ b) (y : a ≠ b) => by omega) h1 h2
/-- ascending, nothing of weight 0 -/
structure Gd (s : List (Int × Rat)) : Prop where
  asc : s.Pairwise (fun a b => a.1 < b.1)
  nz : ∀ p ∈ s, p.2 ≠ 0
theorem gath_Gd (l : List (Int × Rat)) : Gd (gath l) where
  asc := by
    unfold gath
    rw [List.pairwise_map]
    exact (sortI_asc (ks_nodup l)).filter _
  nz := fun p hp => by
    unfold gath at hp
    obtain ⟨v, hv, rfl⟩ := List.mem_map.mp hp
    have := (List.mem_filter.mp hv).2
    simpa using this
theorem wt_asc : ∀ {s : List (Int × Rat)}, s.Pairwise (fun a b => a.1 < b.1) → ∀ p ∈ s, wt s p.1 = p.2
  | q :: s, h, p, hp => by
    rw [List.pairwise_cons] at h
    show (if q.1 = p.1 then q.2 else 0) + wt s p.1 = _
    rcases List.mem_cons.mp hp with rfl | hp
    · rw [if_pos rfl, wt_none s p.1 fun r hr e => by have := h.1 r hr; omega, Rat.add_zero]
    · have := h.1 p hp
      rw [if_neg (by omega), wt_asc h.2 p hp, Rat.zero_add]
theorem mem_of_wt : ∀ {s : List (Int × Rat)} {v : Int}, wt s v ≠ 0 → ∃ p ∈ s, p.1 = v
  | [], v, h => absurd rfl h
  | q :: s, v, h => by
    by_cases e : q.1 = v
    · exact ⟨q, List.mem_cons_self, e⟩
    · have h' : (if q.1 = v then q.2 else 0) + wt s v ≠ 0 := h
      rw [if_neg e, Rat.zero_add] at h'
      obtain ⟨p, hp, e⟩ := mem_of_wt h'
      exact ⟨p, List.mem_cons_of_mem _ hp, e⟩
theorem mem_Gd {s : List (Int × Rat)} (g : Gd s) (v : Int) (q : Rat) : (v, q) ∈ s ↔ wt s v = q ∧ q ≠ 0 := by
  constructor
  · intro h
    exact ⟨wt_asc g.asc _ h, g.nz _ h⟩
  · rintro ⟨h, h0⟩
    obtain ⟨p, hp, e⟩ := mem_of_wt (s := s) (v := v) (by rw [h]; exact h0)
    have := wt_asc g.asc p hp
    rw [e, h] at this
    have e2 : p = (v, q) := by rw [← e, this]
    rw [← e2]
    exact hp
theorem asc_ext : ∀ {a b : List (Int × Rat)}, a.Pairwise (fun x y => x.1 < y.1) → b.Pairwise (fun x y => x.1 < y.1) → (∀ p, p ∈ a ↔ p ∈ b) → a = b
  | [], [], _, _, _ => rfl
  | [], y :: b, _, _, h => absurd ((h y).mpr List.mem_cons_self) List.not_mem_nil
  | x :: a, [], _, _, h => absurd ((h x).mp List.mem_cons_self) List.not_mem_nil
  | x :: a, y :: b, ha, hb, h => by
    rw [List.pairwise_cons] at ha hb
    have hxy : x = y := by
      rcases List.mem_cons.mp ((h x).mp List.mem_cons_self) with e | e
      · exact e
      · rcases List.mem_cons.mp ((h y).mpr List.mem_cons_self) with e2 | e2
        · exact e2.symm
        · have := hb.1 x e
          have := ha.1 y e2
          omega
    subst hxy
    congr 1
    refine asc_ext ha.2 hb.2 fun p => ⟨fun hp => ?_, fun hp => ?_⟩
    · rcases List.mem_cons.mp ((h p).mp (List.mem_cons_of_mem _ hp)) with e | e
      · subst e
        have := ha.1 p hp
        omega
      · exact e
    · rcases List.mem_cons.mp ((h p).mpr (List.mem_cons_of_mem _ hp)) with e | e
      · subst e
        have := hb.1 p hp
        omega
      · exact e
/-- a gathered list is known by its weights -/
theorem Gd.ext {a b : List (Int × Rat)} (ha : Gd a) (hb : Gd b) (h : ∀ v, wt a v = wt b v) : a = b :=
  asc_ext ha.asc hb.asc fun ⟨v, q⟩ => by rw [mem_Gd ha, mem_Gd hb, h v]
theorem gath_mem (l : List (Int × Rat)) (v : Int) (q : Rat) : (v, q) ∈ gath l ↔ wt l v = q ∧ q ≠ 0 := by
  unfold gath
  simp only [List.mem_map, List.mem_filter, mem_sortI, mem_ks, decide_eq_true_eq]
  constructor
  · rintro ⟨u, ⟨_, h0⟩, e⟩
    injection e with e1 e2
    subst e1
    subst e2
    exact ⟨rfl, h0⟩
  · rintro ⟨h, h0⟩
    exact ⟨v, ⟨mem_of_wt (by rw [h]; exact h0), by rw [h]; exact h0⟩, by rw [h]⟩
theorem wt_gath (l : List (Int × Rat)) (v : Int) : wt (gath l) v = wt l v := by
  by_cases h : wt l v = 0
  · rw [h]
    by_cases h2 : wt (gath l) v = 0
    · exact h2
    · obtain ⟨p, hp, e⟩ := mem_of_wt h2
      obtain ⟨u, q⟩ := p
      obtain ⟨h3, h4⟩ := (gath_mem l u q).mp hp
      have e : u = v := e
      subst e
      exact absurd (h3.symm.trans h) h4
  · exact wt_asc (gath_Gd l).asc (v, wt l v) ((gath_mem l v _).mpr ⟨rfl, h⟩)
theorem gath_ext {a b : List (Int × Rat)} (h : ∀ v, wt a v = wt b v) : gath a = gath b :=
  Gd.ext (gath_Gd a) (gath_Gd b) fun v => by rw [wt_gath, wt_gath, h]
theorem gath_of_Gd {s : List (Int × Rat)} (h : Gd s) : gath s = s := Gd.ext (gath_Gd s) h fun v => wt_gath s v
theorem wt_perm {a b : List (Int × Rat)} (h : a.Perm b) (v : Int) : wt a v = wt b v := by
  induction h with
  | nil => rfl
  | cons x _ ih =>
    show (if x.1 = v then x.2 else 0) + wt _ v = (if x.1 = v then x.2 else 0) + wt _ v
    rw [ih]
  | swap x y l =>
    show (if y.1 = v then y.2 else 0) + ((if x.1 = v then x.2 else 0) + wt l v) = (if x.1 = v then x.2 else 0) + ((if y.1 = v then y.2 else 0) + wt l v)
    rw [← Rat.add_assoc, ← Rat.add_assoc, Rat.add_comm (if y.1 = v then y.2 else 0)]
  | trans _ _ h1 h2 => exact h1.trans h2

/-! ### sums over a list -/
/-- the sum of g(value) times the chance -/
def isum (g : Int → Rat) : List (Int × Rat) → Rat
  | [] => 0
  | p :: r => g p.1 * p.2 + isum g r
theorem isum_app (g : Int → Rat) : ∀ a b : List (Int × Rat), isum g (a ++ b) = isum g a + isum g b
  | [], b => by
    show isum g b = 0 + isum g b
    rw [Rat.zero_add]
  | p :: a, b => by
    show g p.1 * p.2 + isum g (a ++ b) = (g p.1 * p.2 + isum g a) + isum g b
    rw [isum_app g a b, Rat.add_assoc]
theorem isum_map (g : Int → Rat) : ∀ l : List (Int × Rat), isum g l = (l.map fun p => g p.1 * p.2).sum
  | [] => rfl
  | p :: l => by
    rw [List.map_cons, List.sum_cons, ← isum_map g l]
    rfl
theorem isum_keys (g : Int → Rat) : ∀ (l : List (Int × Rat)) (K : List Int), K.Nodup → (∀ p ∈ l, p.1 ∈ K) → (K.map fun v => g v * wt l v).sum = isum g l
  | [], K, _, _ => by
    show (K.map fun v => g v * 0).sum = 0
    induction K with
    | nil => rfl
    | cons v K ih =>
      rw [List.map_cons, List.sum_cons, Rat.mul_zero, Rat.zero_add]
      rename_i h _
      exact ih (List.nodup_cons.mp h).2 (by simp)
  | p :: l, K, hn, hk => by
    have h1 : ∀ K : List Int, (K.map fun v => g v * wt (p :: l) v).sum = (K.map fun v => g v * (if p.1 = v then p.2 else 0)).sum + (K.map fun v => g v * wt l v).sum := by
      intro K
      induction K with
      | nil => exact (Rat.zero_add 0).symm
      | cons v K ih =>
        simp only [List.map_cons, List.sum_cons, ih]
        have : wt (p :: l) v = (if p.1 = v then p.2 else 0) + wt l v := rfl
        rw [this]
        grind
    have h2 : ∀ K : List Int, K.Nodup → (K.map fun v => g v * (if p.1 = v then p.2 else 0)).sum = if p.1 ∈ K then g p.1 * p.2 else 0 := by
      intro K hn
      induction K with
      | nil => rfl
      | cons v K ih =>
        obtain ⟨n1, n2⟩ := List.nodup_cons.mp hn
        simp only [List.map_cons, List.sum_cons, ih n2]
        by_cases e : p.1 = v
        · subst e
          simp [n1]
          grind
        · simp [e]
          grind
    rw [h1 K, h2 K hn, if_pos (hk p List.mem_cons_self), isum_keys g l K hn fun q hq => hk q (List.mem_cons_of_mem _ hq)]
    rfl
theorem sum_perm {a b : List Rat} (h : a.Perm b) : a.sum = b.sum := by
  induction h with
  | nil => rfl
  | cons x _ ih => rw [List.sum_cons, List.sum_cons, ih]
  | swap x y l => simp only [List.sum_cons]; grind
  | trans _ _ h1 h2 => exact h1.trans h2
theorem sum_filter_nz (g : Int → Rat) (w : Int → Rat) : ∀ K : List Int, (((K.filter fun v => decide (w v ≠ 0)).map fun v => (v, w v)).map fun p => g p.1 * p.2).sum = (K.map fun v => g v * w v).sum
  | [] => rfl
  | v :: K => by
    by_cases h : w v = 0
    · rw [List.filter_cons_of_neg (by simp [h]), sum_filter_nz g w K, List.map_cons, List.sum_cons, h, Rat.mul_zero, Rat.zero_add]
    · rw [List.filter_cons_of_pos (by simp [h])]
      simp only [List.map_cons, List.sum_cons]
      rw [sum_filter_nz g w K]
theorem isum_gath (g : Int → Rat) (l : List (Int × Rat)) : isum g (gath l) = isum g l := by
  rw [isum_map]
  unfold gath
  rw [sum_filter_nz, sum_perm ((sortI_pm (ks l)).map _)]
  exact isum_keys g l (ks l) (ks_nodup l) fun p hp => (mem_ks l p.1).mpr ⟨p, hp, rfl⟩
/-- the sum of the chances -/
def tot (l : List (Int × Rat)) : Rat := (l.map (·.2)).sum
theorem tot_isum (l : List (Int × Rat)) : tot l = isum (fun _ => 1) l := by
  rw [isum_map]
  unfold tot
  congr 1
  apply List.map_congr_left
  intro p _
  rw [Rat.one_mul]
theorem tot_gath (l : List (Int × Rat)) : tot (gath l) = tot l := by rw [tot_isum, tot_isum, isum_gath]
/-- the mean -/
def mn (l : List (Int × Rat)) : Rat := (l.map fun p => (p.1 : Rat) * p.2).sum
theorem mn_isum (l : List (Int × Rat)) : mn l = isum (fun v => (v : Rat)) l := by rw [isum_map]; rfl
theorem mn_gath (l : List (Int × Rat)) : mn (gath l) = mn l := by rw [mn_isum, mn_isum, isum_gath]

/-! ### spreads -/
structure Spr (s : List (Int × Rat)) : Prop where
  asc : s.Pairwise (fun a b => a.1 < b.1)
  pos : ∀ p ∈ s, 0 < p.2
  one : tot s = 1
theorem Spr.Gd {s : List (Int × Rat)} (h : Spr s) : Gd s := ⟨h.asc, fun p hp e => by have := h.pos p hp; rw [e] at this; exact absurd this (by decide)⟩
theorem wt_nonneg : ∀ {l : List (Int × Rat)}, (∀ p ∈ l, 0 ≤ p.2) → ∀ v, 0 ≤ wt l v
  | [], _, v => Rat.le_refl
  | p :: l, h, v => by
    show 0 ≤ (if p.1 = v then p.2 else 0) + wt l v
    have a : 0 ≤ (if p.1 = v then p.2 else 0) := by
      split
      · exact h p List.mem_cons_self
      · exact Rat.le_refl
    have b := wt_nonneg (fun q hq => h q (List.mem_cons_of_mem _ hq)) v
    grind
theorem gath_Spr {l : List (Int × Rat)} (h : ∀ p ∈ l, 0 ≤ p.2) (h1 : tot l = 1) : Spr (gath l) where
  asc := (gath_Gd l).asc
  pos := fun ⟨v, q⟩ hp => by
    obtain ⟨a, b⟩ := (gath_mem l v q).mp hp
    have := wt_nonneg h v
    rw [a] at this
    show 0 < q
    grind
  one := by rw [tot_gath, h1]
theorem gath_val {l : List (Int × Rat)} {p : Int × Rat} (hp : p ∈ gath l) : ∃ q ∈ l, q.1 = p.1 := by
  obtain ⟨v, q⟩ := p
  obtain ⟨a, b⟩ := (gath_mem l v q).mp hp
  exact mem_of_wt (by rw [a]; exact b)
theorem gath_len (l : List (Int × Rat)) : (gath l).length ≤ (ks l).length := by
  unfold gath
  rw [List.length_map]
  exact Nat.le_trans (List.length_filter_le _ _) (by rw [len_sortI]; exact Nat.le_refl _)
theorem gath_QN {D N : Nat} (hD : 0 < D) {l : List (Int × Rat)} (h : ∀ p ∈ l, QN D N p.2) : ∀ p ∈ gath l, QN D (l.length * N) p.2 := fun ⟨v, q⟩ hp => by
  obtain ⟨a, b⟩ := (gath_mem l v q).mp hp
  have := wt_QN hD l v h
  rw [a] at this
  exact this
/-- a chance at most 1, as a multiple of 1 / D -/
theorem QN.unit {D N : Nat} {q : Rat} (h : QN D N q) (h0 : 0 ≤ q) (h1 : q ≤ 1) : QN D D q := by
  obtain ⟨hD, x, e, hx⟩ := h
  have hDr : (0 : Rat) < ((D : Nat) : Rat) := by
    have : ((0 : Int) : Rat) < ((D : Int) : Rat) := Rat.intCast_lt_intCast.mpr (by omega)
    exact this
  have ex : (x : Rat) = q * ((D : Nat) : Rat) := by rw [e]; have := natCast_ne hD; grind
  have a : 0 ≤ x := by
    have : ((0 : Int) : Rat) ≤ ((x : Int) : Rat) := by
      rw [ex]
      have := Rat.mul_nonneg h0 (Rat.le_of_lt hDr)
      exact this
    exact Rat.intCast_le_intCast.mp this
  have b : x ≤ (D : Int) := by
    have : ((x : Int) : Rat) ≤ ((D : Int) : Rat) := by
      rw [ex]
      have := Rat.mul_le_mul_of_nonneg_right h1 (Rat.le_of_lt hDr)
      rw [Rat.one_mul] at this
      exact this
    exact Rat.intCast_le_intCast.mp this
  exact ⟨hD, x, e, by omega⟩
theorem part_le_tot : ∀ {l : List (Int × Rat)}, (∀ p ∈ l, 0 ≤ p.2) → ∀ p ∈ l, p.2 ≤ tot l
  | q :: l, h, p, hp => by
    have ht : ∀ {l : List (Int × Rat)}, (∀ p ∈ l, 0 ≤ p.2) → 0 ≤ tot l := by
      intro l
      induction l with
      | nil => intro _; exact Rat.le_refl
      | cons x l ih =>
        intro h
        have a := h x List.mem_cons_self
        have b := ih fun y hy => h y (List.mem_cons_of_mem _ hy)
        show 0 ≤ ((x :: l).map (·.2)).sum
        rw [List.map_cons, List.sum_cons]
        have b' : 0 ≤ (l.map (·.2)).sum := b
        grind
    have e : tot (q :: l) = q.2 + tot l := by
      unfold tot
      rw [List.map_cons, List.sum_cons]
    rw [e]
    have a := h q List.mem_cons_self
    have hl := fun y hy => h y (List.mem_cons_of_mem q hy)
    have b := ht hl
    rcases List.mem_cons.mp hp with rfl | hp
    · grind
    · have := part_le_tot hl p hp
      grind
theorem Spr.le_one {s : List (Int × Rat)} (h : Spr s) : ∀ p ∈ s, p.2 ≤ 1 := fun p hp => by
  have := part_le_tot (fun q hq => Rat.le_of_lt (h.pos q hq)) p hp
  rw [h.one] at this
  exact this
theorem Spr.unit {s : List (Int × Rat)} (h : Spr s) {D N : Nat} (hq : ∀ p ∈ s, QN D N p.2) : ∀ p ∈ s, QN D D p.2 := fun p hp => (hq p hp).unit (Rat.le_of_lt (h.pos p hp)) (h.le_one p hp)
/-- the sum of two -/
def conv (a b : List (Int × Rat)) : List (Int × Rat) := a.flatMap fun p => b.map fun r => (p.1 + r.1, p.2 * r.2)
theorem conv_len (a b : List (Int × Rat)) : (conv a b).length = a.length * b.length := by
  unfold conv
  induction a with
  | nil => simp
  | cons p a ih => rw [List.flatMap_cons, List.length_append, ih, List.length_map, List.length_cons, Nat.add_mul]; omega
theorem conv_mem {a b : List (Int × Rat)} {x : Int × Rat} (h : x ∈ conv a b) : ∃ p ∈ a, ∃ r ∈ b, x = (p.1 + r.1, p.2 * r.2) := by
  obtain ⟨p, hp, h⟩ := List.mem_flatMap.mp h
  obtain ⟨r, hr, h⟩ := List.mem_map.mp h
  exact ⟨p, hp, r, hr, h.symm⟩
theorem conv_QN {a b : List (Int × Rat)} {D N D' M : Nat} (ha : ∀ p ∈ a, QN D N p.2) (hb : ∀ p ∈ b, QN D' M p.2) : ∀ p ∈ conv a b, QN (D * D') (N * M) p.2 := fun x hx => by
  obtain ⟨p, hp, r, hr, rfl⟩ := conv_mem hx
  exact (ha p hp).mul (hb r hr)
theorem isum_row (g : Int → Rat) (p : Int × Rat) : ∀ b : List (Int × Rat), isum g (b.map fun r => (p.1 + r.1, p.2 * r.2)) = isum (fun u => g (p.1 + u)) b * p.2
  | [] => by show (0 : Rat) = 0 * p.2; grind
  | r :: b => by
    rw [List.map_cons]
    show g (p.1 + r.1) * (p.2 * r.2) + isum g (b.map fun r => (p.1 + r.1, p.2 * r.2)) = (g (p.1 + r.1) * r.2 + isum (fun u => g (p.1 + u)) b) * p.2
    rw [isum_row g p b]
    grind
theorem isum_conv (g : Int → Rat) (a b : List (Int × Rat)) : isum g (conv a b) = isum (fun v => isum (fun u => g (v + u)) b) a := by
  unfold conv
  induction a with
  | nil => rfl
  | cons p a ih =>
    rw [List.flatMap_cons, isum_app, ih, isum_row]
    rfl
theorem wt_isum (l : List (Int × Rat)) (v : Int) : wt l v = isum (fun u => if u = v then 1 else 0) l := by
  induction l with
  | nil => rfl
  | cons p l ih =>
    show (if p.1 = v then p.2 else 0) + wt l v = (if p.1 = v then 1 else 0) * p.2 + _
    rw [ih]
    congr 1
    split <;> grind
theorem isum_mul (c : Rat) (g : Int → Rat) : ∀ l : List (Int × Rat), isum (fun v => c * g v) l = c * isum g l
  | [] => by show (0 : Rat) = c * 0; grind
  | p :: l => by
    show c * g p.1 * p.2 + isum (fun v => c * g v) l = c * (g p.1 * p.2 + isum g l)
    rw [isum_mul c g l]
    grind
theorem isum_congr {g h : Int → Rat} (e : ∀ v, g v = h v) (l : List (Int × Rat)) : isum g l = isum h l := by
  rw [show g = h from funext e]
theorem isum_const (c : Rat) (l : List (Int × Rat)) : isum (fun _ => c) l = c * tot l := by
  rw [tot_isum, ← isum_mul]
  exact isum_congr (fun v => by grind) l
theorem tot_conv (a b : List (Int × Rat)) : tot (conv a b) = tot a * tot b := by
  rw [tot_isum, isum_conv]
  rw [isum_congr (h := fun _ => tot b) (fun v => (tot_isum b).symm), isum_const]
  grind
theorem conv_Spr {a b : List (Int × Rat)} (ha : Spr a) (hb : Spr b) : Spr (gath (conv a b)) := gath_Spr (fun x hx => by
  obtain ⟨p, hp, r, hr, rfl⟩ := conv_mem hx
  exact Rat.mul_nonneg (Rat.le_of_lt (ha.pos p hp)) (Rat.le_of_lt (hb.pos r hr))) (by rw [tot_conv, ha.one, hb.one, Rat.mul_one])
end Dee

set_option maxRecDepth 100000
set_option maxHeartbeats 1000000
/-! Dee, part 32: defs on spreads. -/
namespace Dee
open PySem PySem.Spec L2
theorem iq (i : Int) : PyData.tuple [.int i, .int 1] = fq (i : Rat) := rfl
theorem Sm.int {i : Int} (h : i.natAbs < 2 ^ 4400) : Sm (i : Rat) := ⟨h, Nat.one_lt_two_pow (by decide)⟩
theorem p2_mono {n a b : Nat} (h : n ≤ 2 ^ a) (l : a ≤ b) : n ≤ 2 ^ b := Nat.le_trans h (pow_lt_pow l)
section
variable {E : Evn} {f g k : Nat}
/-! mean -/
theorem mean_turns {D N V : Nat} {s : List (Int × Rat)} (hD : 0 < D) (hq : ∀ p ∈ s, QN D N p.2) (hv : ∀ p ∈ s, p.1.natAbs ≤ V) : ∀ q ∈ s.map (fun p => (p.1 : Rat) * p.2), QN D (V * N) q := fun q hq' => by
  obtain ⟨p, hp, rfl⟩ := List.mem_map.mp hq'
  have := (QN.int p.1 (hv p hp)).mul (hq p hp)
  rw [Nat.one_mul] at this
  exact this
theorem t_mean_ok (ht : IsTotal E f) (hm : IsTimes E g) {D N V : Nat} {s : List (Int × Rat)} (hD : 0 < D) (hq : ∀ p ∈ s, QN D N p.2) (hv : ∀ p ∈ s, p.1.natAbs ≤ V) (h1 : D < lim) (h0 : N < lim) (hV : V < lim) (h2 : s.length * (V * N) < lim) (hl : s.length ≤ most) :
    runF E (t_mean f g) [.list (s.map pq)] = .ok (fq (mn s)) := by
  have e := ht D (V * N) _ hD (mean_turns hD hq hv) h1 (by rw [List.length_map]; exact h2)
  rw [lim_eq] at h1 h0 hV
  refine run_wp rfl ?_
  have z := evF_lc (E := E) (Γ := slots 3 [.list (s.map pq)]) (enc := pq) (g := fun p => fq ((p.1 : Rat) * p.2)) (xs := s) (vs := [1, 2]) (tg := .tp [1, 2]) (it := .of (.var 0)) (el := .call g (.cons (.tup (.cons (.var 1) (.cons (.int 1) .nil))) (.cons (.var 2) .nil)))
    (by simp [slots, runF, slots, exs, ex, ev, evs, evO, evC, evF, ofR, slV, cmpD, cmpB, eqD, outR, Except.bind, Except.map, bltD, bltF, setS, intB, most, b_add, b_sub, b_and, asBool, asInt, asInts, asBools, asList, idxD, atD, atI, ixN, Ik.is, isNo, evI]) hl (fun p hp => ⟨[.sh (.list (s.map pq)), .sh (.int p.1), .sh (fq p.2)], rfl, by
      have h := hm p.1 p.2 (Sm.int (Nat.lt_of_le_of_lt (hv p hp) hV)) ((hq p hp).sm h1 h0)
      simp [ev, evs, slV, Except.bind, most, iq, h]⟩)
  have e2 : (s.map fun p => fq ((p.1 : Rat) * p.2)) = (s.map fun p => (p.1 : Rat) * p.2).map fq := by rw [List.map_map]; rfl
  rw [e2] at z
  exact wp_ret (d := fq (mn s)) (ev_call (evs_1 (ev_lc z)) e) rfl
theorem t_law_mean_ok (ht : IsTotal E f) (hm : IsTimes E g) {D N V : Nat} {s : List (Int × Rat)} (hD : 0 < D) (hq : ∀ p ∈ s, QN D N p.2) (hv : ∀ p ∈ s, p.1.natAbs ≤ V) (h1 : D < lim) (h0 : N < lim) (hV : V < lim) (h2 : s.length * (V * N) < lim) (hl : s.length ≤ most) :
    runF E (t_law_mean f g) [.list (s.map pq)] = .ok (fq (mn s)) := by
  have e := ht D (V * N) _ hD (mean_turns hD hq hv) h1 (by rw [List.length_map]; exact h2)
  rw [lim_eq] at h1 h0 hV
  refine run_wp rfl ?_
  have z := evF_lc (E := E) (Γ := slots 2 [.list (s.map pq)]) (enc := pq) (g := fun p => fq ((p.1 : Rat) * p.2)) (xs := s) (vs := [1]) (tg := .nm 1) (it := .of (.var 0)) (el := .call g (.cons (.tup (.cons (.idx (.var 1) (.int 0)) (.cons (.int 1) .nil))) (.cons (.idx (.var 1) (.int 1)) .nil)))
    (by simp [slots, runF, slots, exs, ex, ev, evs, evO, evC, evF, ofR, slV, cmpD, cmpB, eqD, outR, Except.bind, Except.map, bltD, bltF, setS, intB, most, b_add, b_sub, b_and, asBool, asInt, asInts, asBools, asList, idxD, atD, atI, ixN, Ik.is, isNo, evI]) hl (fun p hp => ⟨[.sh (.list (s.map pq)), .sh (pq p)], rfl, by
      have h := hm p.1 p.2 (Sm.int (Nat.lt_of_le_of_lt (hv p hp) hV)) ((hq p hp).sm h1 h0)
      simp [ev, evs, slV, Except.bind, most, pq_idx0, pq_idx1, iq, h]⟩)
  have e2 : (s.map fun p => fq ((p.1 : Rat) * p.2)) = (s.map fun p => (p.1 : Rat) * p.2).map fq := by rw [List.map_map]; rfl
  rw [e2] at z
  exact wp_ret (d := fq (mn s)) (ev_call (evs_1 (ev_lc z)) e) rfl
/-! chance_of -/
def chof : List (Int × Rat) → Int → Rat
  | [], _ => 0
  | p :: r, v => if p.1 = v then p.2 else chof r v
theorem chof_wt : ∀ {s : List (Int × Rat)}, s.Pairwise (fun a b => a.1 < b.1) → ∀ v, chof s v = wt s v
  | [], _, v => rfl
  | p :: s, h, v => by
    rw [List.pairwise_cons] at h
    show (if p.1 = v then p.2 else chof s v) = (if p.1 = v then p.2 else 0) + wt s v
    by_cases e : p.1 = v
    · rw [if_pos e, if_pos e, wt_none s v fun q hq e2 => by have := h.1 q hq; omega, Rat.add_zero]
    · rw [if_neg e, if_neg e, chof_wt h.2 v, Rat.zero_add]
theorem chof_app : ∀ (a b : List (Int × Rat)) (v : Int), (∀ p ∈ a, p.1 ≠ v) → chof (a ++ b) v = chof b v
  | [], b, v, _ => rfl
  | p :: a, b, v, h => by
    show (if p.1 = v then p.2 else chof (a ++ b) v) = _
    rw [if_neg (h p List.mem_cons_self), chof_app a b v fun q hq => h q (List.mem_cons_of_mem _ hq)]
theorem t_chance_of_ok (hz : E.G k = some (fq 0)) (s : List (Int × Rat)) (v : Int) : runF E (t_chance_of k) [.list (s.map pq), .int v] = .ok (fq (chof s v)) := by
  refine run_wp rfl ?_
  refine wp_for (enc := pq) (xs := s) (fun pre Γ => (∃ s2 s3, Γ = [.sh (.list (s.map pq)), .sh (.int v), s2, s3]) ∧ ∀ p ∈ pre, p.1 ≠ v) (by simp [t_chance_of, slots, runF, slots, exs, ex, ev, evs, evO, evC, evF, ofR, slV, cmpD, cmpB, eqD, outR, Except.bind, Except.map, bltD, bltF, setS, intB, most, b_add, b_sub, b_and, asBool, asInt, asInts, asBools, asList, idxD, atD, atI, ixN, Ik.is, isNo, evI]) ⟨⟨.non, .non, rfl⟩, by simp⟩ (fun pre x post Γ e ⟨⟨s2, s3, hΓ⟩, hn⟩ => ?_) (fun Γ ⟨⟨s2, s3, hΓ⟩, hn⟩ => ?_)
  · subst hΓ
    refine ⟨[.sh (.list (s.map pq)), .sh (.int v), .sh (.int x.1), .sh (fq x.2)], rfl, ?_⟩
    refine wp_if (t := decide (x.1 = v)) (by simp [runF, slots, exs, ex, ev, evs, evO, evC, evF, ofR, slV, cmpD, cmpB, eqD, outR, Except.bind, Except.map, bltD, bltF, setS, intB, most, b_add, b_sub, b_and, asBool, asInt, asInts, asBools, asList, idxD, atD, atI, ixN, Ik.is, isNo]) (fun ht => ?_) (fun ht => ?_)
    · have ht := of_decide_eq_true ht
      refine wp_ret (d := fq x.2) (by simp [runF, slots, exs, ex, ev, evs, evO, evC, evF, ofR, slV, cmpD, cmpB, eqD, outR, Except.bind, Except.map, bltD, bltF, setS, intB, most, b_add, b_sub, b_and, asBool, asInt, asInts, asBools, asList, idxD, atD, atI, ixN, Ik.is, isNo]) ?_
      show outX false (.rt (fq x.2)) = _
      rw [e, chof_app _ _ _ hn]
      show _ = Except.ok (fq (if x.1 = v then x.2 else _))
      rw [if_pos ht]
      rfl
    · have ht := of_decide_eq_false ht
      refine wp_skip (wp_nil ⟨⟨_, _, rfl⟩, fun p hp => ?_⟩)
      rcases List.mem_append.mp hp with h | h
      · exact hn p h
      · have : p = x := by simpa using h
        subst this
        exact ht
  · subst hΓ
    refine wp_ret (d := fq 0) (by simp [runF, slots, exs, ex, ev, evs, evO, evC, evF, ofR, slV, cmpD, cmpB, eqD, outR, Except.bind, Except.map, bltD, bltF, setS, intB, most, b_add, b_sub, b_and, asBool, asInt, asInts, asBools, asList, idxD, atD, atI, ixN, Ik.is, isNo, hz]) ?_
    have := chof_app s [] v hn
    rw [List.append_nil] at this
    rw [this]
    rfl
/-! shifted -/
def shft (s : List (Int × Rat)) (k : Int) : List (Int × Rat) := s.map fun p => (p.1 + k, p.2)
theorem t_shifted_ok (s : List (Int × Rat)) (v : Int) (hl : s.length ≤ most) : runF E t_shifted [.list (s.map pq), .int v] = .ok (.list ((shft s v).map pq)) := by
  refine run_wp rfl ?_
  refine wp_retF (ds := (shft s v).map pq) ?_ rfl
  have z := evF_lc (E := E) (Γ := slots 4 [.list (s.map pq), .int v]) (enc := pq) (g := fun p => pq (p.1 + v, p.2)) (xs := s) (vs := [2, 3]) (tg := .tp [2, 3]) (it := .of (.var 0)) (el := .tup (.cons (.bin .add (.var 2) (.var 1)) (.cons (.var 3) .nil)))
    (by simp [slots, runF, slots, exs, ex, ev, evs, evO, evC, evF, ofR, slV, cmpD, cmpB, eqD, outR, Except.bind, Except.map, bltD, bltF, setS, intB, most, b_add, b_sub, b_and, asBool, asInt, asInts, asBools, asList, idxD, atD, atI, ixN, Ik.is, isNo, evI]) hl (fun p hp => ⟨[.sh (.list (s.map pq)), .sh (.int v), .sh (.int p.1), .sh (fq p.2)], rfl, by simp [ev, evs, slV, Except.bind, most, b_add]; rfl⟩)
  have e2 : (shft s v).map pq = s.map fun p => pq (p.1 + v, p.2) := by unfold shft; rw [List.map_map]; rfl
  rw [e2]
  exact z
end
end Dee

set_option maxRecDepth 100000
set_option maxHeartbeats 1000000
/-! Dee, part 33: the laws' drawn spreads; sums of spreads. -/
namespace Dee
open PySem PySem.Spec L2
/-! ### lists of data -/
theorem idx_map {X : Type} (enc : X → PyData) (xs : List X) (k : Nat) (h : k < xs.length) : idxD (.list (xs.map enc)) (.int (k : Nat)) = .ok (enc xs[k]) := by
  have h1 : (0 : Int) ≤ (k : Nat) := by omega
  have h2 : ((k : Nat) : Int) < ((xs.map enc).length : Nat) := by rw [List.length_map]; omega
  simp [idxD, atD, atI, ixN, h, h1]
theorem evI_rn {E : Evn} {a : CE} {Γ : List Sl} {n : Nat} (h : ev E a Γ = .ok (.int (n : Nat))) (hn : n < 1000000000) : evI E (.r1 a) Γ = .ok ((List.range n).map fun i => PyData.int (i : Nat)) := by
  rw [evI_r1 h (small_ok (by omega) (by omega))]
  unfold rangeD
  congr 1
  rw [Int.toNat_natCast]
  apply List.map_congr_left
  intro i _
  rw [Int.zero_add]
theorem evI_rab {E : Evn} {a b : CE} {Γ : List Sl} {i j : Int} (h : ev E a Γ = .ok (.int i)) (h2 : ev E b Γ = .ok (.int j)) (hs : -1000000000 < i ∧ i < 1000000000 ∧ -1000000000 < j ∧ j < 1000000000) : evI E (.r2 a b) Γ = .ok (((List.range (j - i).toNat).map fun (k : Nat) => i + (k : Int)).map PyData.int) := by
  rw [evI_r2 h h2 ⟨small_ok hs.1 hs.2.1, small_ok hs.2.2.1 hs.2.2.2⟩]
  unfold rangeD
  rw [List.map_map]
  rfl
/-- a slice between two places -/
theorem cut_nat (xs : List PyData) (a b : Nat) (h : a ≤ b) (hb : b ≤ xs.length) : cutD xs (some (a : Int)) (some (b : Int)) = (xs.drop a).take (b - a) := by
  unfold cutD
  rw [HT.sIx_nat, HT.sIx_nat, Nat.min_eq_left hb, Nat.min_eq_left (Nat.le_trans h hb)]
theorem Rng_app : ∀ {a b ys : List Int}, Rng ys (a ++ b) → ∃ y1 y2, ys = y1 ++ y2 ∧ Rng y1 a ∧ Rng y2 b
  | [], b, ys, h => ⟨[], ys, rfl, trivial, h⟩
  | x :: a, b, [], h => h.elim
  | x :: a, b, y :: ys, h => by
    obtain ⟨y1, y2, e, h1, h2⟩ := Rng_app (a := a) (b := b) (ys := ys) h.2
    exact ⟨y :: y1, y2, by rw [e]; rfl, ⟨h.1, h1⟩, h2⟩
theorem Rng_rep {w : Int} : ∀ {n : Nat} {ys : List Int}, Rng ys (List.replicate n w) → ys.length = n ∧ ∀ y ∈ ys, 0 ≤ y ∧ y < w
  | 0, [], _ => ⟨rfl, by simp⟩
  | 0, _ :: _, h => h.elim
  | n + 1, [], h => by
    rw [List.replicate_succ] at h
    exact h.elim
  | n + 1, y :: ys, h => by
    rw [List.replicate_succ] at h
    obtain ⟨a, b⟩ := Rng_rep h.2
    refine ⟨by rw [List.length_cons, a], fun z hz => ?_⟩
    rcases List.mem_cons.mp hz with rfl | hz
    · exact h.1
    · exact b z hz
theorem Rng_cons {y : Int} {ls ys : List Int} (h : Rng ys (y :: ls)) : ∃ z zs, ys = z :: zs ∧ (0 ≤ z ∧ z < y) ∧ Rng zs ls := by
  cases ys with
  | nil => exact h.elim
  | cons z zs => exact ⟨z, zs, rfl, h.1, h.2⟩

def IsDraws (E : Evn) (n : Nat) : Prop := ∀ (c : Int) (ls : List Int), (∀ l ∈ ls, 0 < l ∧ Bd 9000 l) → ls.length ≤ 100 → ∃ ys : List Int, Rng ys ls ∧ E.F n [.int c, .list (ls.map .int)] = .ok (.list (ys.map .int))
/-- positive weights of values -/
def wts (vs ws : List Int) (T : Int) : List (Int × Rat) := (vs.zip ws).map fun p => (p.1, ((p.2 : Int) : Rat) / (T : Rat))
theorem wts_len {vs ws : List Int} (T : Int) (h : vs.length = ws.length) : (wts vs ws T).length = vs.length := by
  unfold wts
  rw [List.length_map, List.length_zip, ← h, Nat.min_self]
theorem zip_at (vs ws : List Int) (h : vs.length = ws.length) : (List.range vs.length).map (fun k => (vs.getD k 0, ws.getD k 0)) = vs.zip ws := by
  apply List.ext_getElem
  · rw [List.length_map, List.length_range, List.length_zip, ← h, Nat.min_self]
  · intro i h1 h2
    rw [List.length_map, List.length_range] at h1
    rw [List.getElem_map, List.getElem_range, List.getElem_zip, List.getD_eq_getElem?_getD, List.getD_eq_getElem?_getD, List.getElem?_eq_getElem h1, List.getElem?_eq_getElem (by omega)]
    rfl
theorem asInts_map : ∀ l : List Int, asInts (l.map PyData.int) = .ok l
  | [] => rfl
  | i :: l => by
    show (asInts (l.map PyData.int)).map (i :: ·) = _
    rw [asInts_map l]
    rfl
theorem bd_small {i : Int} (h : i.natAbs < 2 ^ 100) : Bd 9000 i := Nat.lt_of_lt_of_le h (pow_lt_pow (by decide))
def IsWeighted (E : Evn) (n : Nat) : Prop := ∀ (vs ws : List Int), vs.length = ws.length → vs.length < 64 → 0 < ws.sum → ws.sum < 2 ^ 80 → (∀ w ∈ ws, 0 ≤ w ∧ w < 2 ^ 80) → E.F n [.list (vs.map .int), .list (ws.map .int)] = .ok (.list ((gath (wts vs ws ws.sum)).map pq))
theorem wts_QN {vs ws : List Int} {T : Int} (hT : 0 < T) {N : Nat} (hw : ∀ w ∈ ws, 0 ≤ w ∧ w ≤ (N : Int)) : ∀ p ∈ wts vs ws T, QN T.toNat N p.2 := fun p hp => by
  unfold wts at hp
  obtain ⟨⟨v, w⟩, hq, rfl⟩ := List.mem_map.mp hp
  obtain ⟨h1, h2⟩ := hw w (List.of_mem_zip hq).2
  exact QN.frac hT (by omega)
section
variable {E : Evn} {f g k : Nat}
theorem t_law_weighted_ok (hg : IsGath E f) (hf : IsFrac E g) {vs ws : List Int} (hl : vs.length = ws.length) (hn : vs.length < 64) (hT : 0 < ws.sum) (hT2 : ws.sum < 2 ^ 80) (hw : ∀ w ∈ ws, 0 ≤ w ∧ w < 2 ^ 80) :
    runF E (t_law_weighted f g) [.list (vs.map .int), .list (ws.map .int)] = .ok (.list ((gath (wts vs ws ws.sum)).map pq)) := by
  have e80 : (2 : Int) ^ 80 = 1208925819614629174706176 := by decide
  have n100 : (2 : Nat) ^ 100 = 1267650600228229401496703205376 := by decide
  rw [e80] at hT2
  have hq := wts_QN (vs := vs) (ws := ws) hT (N := 1208925819614629174706176) fun w hh => by
    have := hw w hh
    rw [e80] at this
    omega
  have hlen := wts_len ws.sum hl
  have key := hg ws.sum.toNat 1208925819614629174706176 (wts vs ws ws.sum) (by omega) hq (lt_lim (by omega)) (by rw [hlen]; exact lt_lim (by omega)) (by have := ks_len (wts vs ws ws.sum); omega) (by unfold most; omega)
  refine run_wp rfl ?_
  refine wp_set (d := .int ws.sum) (by simp [t_law_weighted, slots, runF, slots, exs, ex, ev, evs, evO, evC, evF, ofR, slV, cmpD, cmpB, eqD, outR, Except.bind, Except.map, bltD, bltF, setS, intB, most, b_add, b_sub, b_and, asBool, asInt, asInts, asBools, asList, idxD, atD, atI, ixN, Ik.is, isNo, asInts_map]) (by simp [t_law_weighted, slots]) ?_
  have z := evF_lc (E := E) (Γ := [.sh (.list (vs.map .int)), .sh (.list (ws.map .int)), .sh (.int ws.sum), .non]) (enc := fun i : Nat => PyData.int (i : Nat)) (g := fun i : Nat => pq (vs.getD i 0, ((ws.getD i 0 : Int) : Rat) / (ws.sum : Rat))) (xs := List.range vs.length) (vs := [3]) (tg := .nm 3) (it := .r1 (.blt .len (.cons (.var 0) .nil)))
    (el := .tup (.cons (.idx (.var 0) (.var 3)) (.cons (.call g (.cons (.idx (.var 1) (.var 3)) (.cons (.var 2) .nil))) .nil)))
    (evI_rn (by simp [runF, slots, exs, ex, ev, evs, evO, evC, evF, ofR, slV, cmpD, cmpB, eqD, outR, Except.bind, Except.map, bltD, bltF, setS, intB, most, b_add, b_sub, b_and, asBool, asInt, asInts, asBools, asList, idxD, atD, atI, ixN, Ik.is, isNo]) (by omega)) (by rw [List.length_range]; unfold most; omega) (fun i hi => ⟨[.sh (.list (vs.map .int)), .sh (.list (ws.map .int)), .sh (.int ws.sum), .sh (.int (i : Nat))], rfl, by
      have hi := List.mem_range.mp hi
      have i1 := idx_map PyData.int vs i hi
      have i2 := idx_map PyData.int ws i (by omega)
      have d1 : vs.getD i 0 = vs[i] := by rw [List.getD_eq_getElem?_getD, List.getElem?_eq_getElem hi]; rfl
      have d2 : ws.getD i 0 = ws[i]'(by omega) := by rw [List.getD_eq_getElem?_getD, List.getElem?_eq_getElem (by omega)]; rfl
      have hwi := hw (ws[i]'(by omega)) (List.getElem_mem _)
      rw [e80] at hwi
      have h := hf (ws[i]'(by omega)) ws.sum (by omega) (bd_small (by omega)) (bd_small (by omega))
      rw [d1, d2]
      simp only [ev, evs, slV, Except.bind, List.getElem?_cons_zero, List.getElem?_cons_succ, i1, i2, h, List.length_cons, List.length_nil, most, Nat.zero_add, Nat.reduceAdd, Nat.reduceLeDiff, if_true, pq_mk]⟩)
  have e2 : ((List.range vs.length).map fun i : Nat => pq (vs.getD i 0, ((ws.getD i 0 : Int) : Rat) / (ws.sum : Rat))) = (wts vs ws ws.sum).map pq := by
    unfold wts
    rw [← zip_at vs ws hl, List.map_map, List.map_map]
    apply List.map_congr_left
    intro i _
    simp only [Function.comp]
  rw [e2] at z
  show Wp E _ [.sh (.list (vs.map .int)), .sh (.list (ws.map .int)), .sh (.int ws.sum), .non] _
  exact wp_ret (d := .list ((gath (wts vs ws ws.sum)).map pq)) (ev_call (evs_1 (ev_lc z)) key) rfl
theorem tot_wts : ∀ {vs ws : List Int} {T : Int}, vs.length = ws.length → T ≠ 0 → tot (wts vs ws T) = (ws.sum : Rat) / (T : Rat)
  | [], [], T, _, hT => by
    show (0 : Rat) = ((0 : Int) : Rat) / (T : Rat)
    have e : ((0 : Int) : Rat) = 0 := rfl
    rw [e]
    grind
  | v :: vs, w :: ws, T, h, hT => by
    have ih := tot_wts (vs := vs) (ws := ws) (T := T) (by simpa using h) hT
    show ((w : Rat) / (T : Rat)) + tot (wts vs ws T) = _
    rw [ih, List.sum_cons, Rat.intCast_add]
    grind
  | [], _ :: _, _, h, _ => by simp at h
  | _ :: _, [], _, h, _ => by simp at h
theorem rat_div_pos {w T : Int} (h : 0 ≤ w) (hT : 0 < T) : 0 ≤ (w : Rat) / (T : Rat) := by
  have a : (0 : Rat) ≤ (w : Rat) := Rat.intCast_le_intCast.mpr h
  have b : (0 : Rat) < (T : Rat) := Rat.intCast_lt_intCast.mpr hT
  rw [Rat.div_def]
  exact Rat.mul_nonneg a (Rat.le_of_lt (Rat.inv_pos.mpr b))
theorem wts_Spr {vs ws : List Int} (hl : vs.length = ws.length) (hT : 0 < ws.sum) (hw : ∀ w ∈ ws, 0 ≤ w) : Spr (gath (wts vs ws ws.sum)) := gath_Spr (fun p hp => by
  unfold wts at hp
  obtain ⟨⟨v, w⟩, hq, rfl⟩ := List.mem_map.mp hp
  exact rat_div_pos (hw w (List.of_mem_zip hq).2) hT) (by
  rw [tot_wts hl (by omega)]
  have b : (0 : Rat) < (ws.sum : Rat) := Rat.intCast_lt_intCast.mpr hT
  grind)
/-- what is known of a drawn spread -/
structure SprD (s : List (Int × Rat)) (lo hi : Int) (n T : Nat) : Prop where
  spr : Spr s
  val : ∀ p ∈ s, lo ≤ p.1 ∧ p.1 < hi
  len : s.length ≤ n
  ne : s ≠ []
  T0 : 0 < T
  Tn : T ≤ 9 * n
  qn : ∀ p ∈ s, QN T T p.2
def IsSpread (E : Evn) (f : Nat) : Prop := ∀ (c low width : Int) (n : Nat), 0 < n → n ≤ 40 → 0 < width → width < 2 ^ 80 → ∃ s T, SprD s low (low + width) n T ∧ E.F f [.int c, .int (n : Nat), .int low, .int width] = .ok (.list (s.map pq))
theorem sum_bd : ∀ {l : List Int} {m : Int}, (∀ x ∈ l, 0 < x ∧ x ≤ m) → (l.length : Int) ≤ l.sum ∧ l.sum ≤ m * l.length
  | [], m, _ => by simp
  | x :: l, m, h => by
    obtain ⟨a, b⟩ := sum_bd (l := l) (m := m) fun y hy => h y (List.mem_cons_of_mem _ hy)
    obtain ⟨c, d⟩ := h x List.mem_cons_self
    rw [List.sum_cons, List.length_cons]
    have : m * ((l.length + 1 : Nat) : Int) = m * (l.length : Int) + m := by rw [Int.natCast_add, Int.mul_add]; simp
    rw [this]
    omega
theorem rep_one (z : PyData) : ∀ n : Nat, (List.replicate n [z]).flatten = List.replicate n z
  | 0 => rfl
  | n + 1 => by rw [List.replicate_succ, List.replicate_succ, List.flatten_cons, rep_one z n]; rfl
theorem t_law_spread_ok (hd : IsDraws E f) (hw : IsWeighted E g) {c low width : Int} {n : Nat} (hn : 0 < n) (hn2 : n ≤ 40) (h0 : 0 < width) (h1 : width < 2 ^ 80) :
    ∃ s T, SprD s low (low + width) n T ∧ runF E (t_law_spread f g) [.int c, .int (n : Nat), .int low, .int width] = .ok (.list (s.map pq)) := by
  have e80 : (2 : Int) ^ 80 = 1208925819614629174706176 := by decide
  have n100 : (2 : Nat) ^ 100 = 1267650600228229401496703205376 := by decide
  rw [e80] at h1
  obtain ⟨ys, hR, e⟩ := hd c ((n : Int) :: (List.replicate n width ++ List.replicate n 9)) (fun l hl => by
    rcases List.mem_cons.mp hl with rfl | hl
    · exact ⟨by omega, bd_small (by omega)⟩
    · rcases List.mem_append.mp hl with hl | hl
      · rw [(List.mem_replicate.mp hl).2]
        exact ⟨h0, bd_small (by omega)⟩
      · rw [(List.mem_replicate.mp hl).2]
        exact ⟨by decide, bd_small (by decide)⟩) (by simp; omega)
  obtain ⟨y0, zs, rfl, hy, hR⟩ := Rng_cons hR
  obtain ⟨vs, ws, rfl, hv, hws⟩ := Rng_app hR
  obtain ⟨lv, bv⟩ := Rng_rep hv
  obtain ⟨lw, bw⟩ := Rng_rep hws
  -- the size
  obtain ⟨m, hm⟩ : ∃ m : Nat, (1 : Int) + y0 = (m : Int) := ⟨(1 + y0).toNat, by omega⟩
  have m1 : 1 ≤ m := by omega
  have m2 : m ≤ n := by omega
  let V : List Int := (vs.take m).map fun v => low + v
  let W : List Int := (ws.take m).map fun v => 1 + v
  have lV : V.length = m := by simp [V]; omega
  have lW : W.length = m := by simp [W]; omega
  have wW : ∀ w ∈ W, 0 < w ∧ w ≤ 9 := fun w hw => by
    obtain ⟨u, hu, rfl⟩ := List.mem_map.mp hw
    have := bw u (List.mem_of_mem_take hu)
    omega
  have sW := sum_bd wW
  rw [lW] at sW
  have key := hw V W (by rw [lV, lW]) (by omega) (by omega) (by rw [e80]; omega) (fun w h => by have := wW w h; rw [e80]; omega)
  have qn := wts_QN (vs := V) (ws := W) (T := W.sum) (by omega) (N := 9) fun w h => by have := wW w h; omega
  have sp : Spr (gath (wts V W W.sum)) := wts_Spr (by rw [lV, lW]) (by omega) fun w h => by have := wW w h; omega
  have gl := gath_len (wts V W W.sum)
  have kl := ks_len (wts V W W.sum)
  rw [wts_len W.sum (by rw [lV, lW]), lV] at kl
  refine ⟨gath (wts V W W.sum), W.sum.toNat, ⟨sp, fun p hp => ?_, by omega, fun e => ?_, by omega, by omega, sp.unit (gath_QN (by omega) qn)⟩, ?_⟩
  · obtain ⟨q, hq, e⟩ := gath_val hp
    unfold wts at hq
    obtain ⟨⟨v, w⟩, hz, rfl⟩ := List.mem_map.mp hq
    obtain ⟨u, hu, e2⟩ := List.mem_map.mp (List.of_mem_zip hz).1
    have := bv u (List.mem_of_mem_take hu)
    have e : v = p.1 := e
    rw [← e, ← e2]
    omega
  · have := sp.one
    rw [e] at this
    exact absurd this (by decide)
  · have ed : ev E (.call f (.cons (.var 0) (.cons (.bin .add (.bin .add (.lst (.cons (.var 1) .nil)) (.bin .mul (.lst (.cons (.var 3) .nil)) (.var 1))) (.bin .mul (.lst (.cons (.int 9) .nil)) (.var 1))) .nil))) (slots 8 [.int c, .int (n : Nat), .int low, .int width]) = .ok (.list ((y0 :: (vs ++ ws)).map .int)) := by
      have r : ∀ z : Int, binD .mul (.list [.int z]) (.int (n : Nat)) = .ok (.list ((List.replicate n z).map .int)) := fun z => by
        have c1 : (0 : Int) ≤ (n : Int) ∧ (n : Int) ≤ 100000 ∧ ([PyData.int z]).length * (n : Int).toNat ≤ most := ⟨by omega, by omega, by simp [most]; omega⟩
        show (if _ then _ else _) = _
        rw [if_pos c1, Int.toNat_natCast, rep_one, List.map_replicate]
      have a : ∀ xs ys : List PyData, xs.length + ys.length ≤ 1000 → binD .add (.list xs) (.list ys) = .ok (.list (xs ++ ys)) := fun xs ys h => if_pos (Nat.le_trans h (by decide))
      have a1 := a [.int (n : Nat)] ((List.replicate n width).map .int) (by simp; omega)
      have a2 := a ([.int (n : Nat)] ++ (List.replicate n width).map .int) ((List.replicate n 9).map .int) (by simp; omega)
      simp only [slots, List.map_cons, List.map_nil, List.cons_append, List.nil_append, ev, evs, slV, Except.bind, Except.map, List.getElem?_cons_zero, List.getElem?_cons_succ, List.length_cons, List.length_nil, most, Nat.reduceLeDiff, if_true, r] at a1 a2 ⊢
      simp only [a1, a2]
      simpa using e
    refine run_wp rfl ?_
    refine wp_set (d := .list ((y0 :: (vs ++ ws)).map .int)) ed (by simp [t_law_spread, slots]) ?_
    refine wp_set (d := .int (m : Nat)) ?_ (by simp [t_law_spread, slots]) ?_
    · rw [← hm]
      have i0 := idx_map PyData.int (y0 :: (vs ++ ws)) 0 (by simp)
      have e0 : ((0 : Nat) : Int) = 0 := rfl
      rw [e0] at i0
      simp only [t_law_spread, slots, List.map_cons, List.map_nil, List.cons_append, List.nil_append, List.length_cons, List.length_nil, Nat.reduceAdd, Nat.reduceSub, List.replicate_succ, List.replicate_zero, List.set, ev, slV, Except.bind, List.getElem?_cons_zero, List.getElem?_cons_succ] at i0 ⊢
      rw [i0]
      rfl
    · refine wp_ret (d := .list ((gath (wts V W W.sum)).map pq)) ?_ rfl
      let Γ : List Sl := [.sh (.int c), .sh (.int (n : Nat)), .sh (.int low), .sh (.int width), .sh (.list ((y0 :: (vs ++ ws)).map .int)), .sh (.int (m : Nat)), .non, .non]
      show ev E (.call g (.cons (.lc [6] (.nm 6) (.of (.sl (.var 4) (.cons (.int 1) .nil) (.cons (.bin .add (.int 1) (.var 5)) .nil))) .nil (.bin .add (.var 2) (.var 6))) (.cons (.lc [7] (.nm 7) (.of (.sl (.var 4) (.cons (.bin .add (.int 1) (.var 1)) .nil) (.cons (.bin .add (.bin .add (.int 1) (.var 1)) (.var 5)) .nil))) .nil (.bin .add (.int 1) (.var 7))) .nil))) Γ = _
      have c1 : cutD ((y0 :: (vs ++ ws)).map PyData.int) (some 1) (some (1 + (m : Int))) = (vs.take m).map .int := by
        have h := cut_nat ((y0 :: (vs ++ ws)).map PyData.int) 1 (1 + m) (by omega) (by simp; omega)
        have e1 : (((1 + m : Nat)) : Int) = 1 + (m : Int) := by omega
        rw [e1] at h
        have e0 : ((1 : Nat) : Int) = 1 := rfl
        rw [e0] at h
        rw [h, List.map_cons, List.drop_succ_cons, List.drop_zero, List.map_append, List.take_append_of_le_length (by simp; omega), ← List.map_take]
        congr 2
        omega
      have c2 : cutD ((y0 :: (vs ++ ws)).map PyData.int) (some (1 + (n : Int))) (some (1 + (n : Int) + (m : Int))) = (ws.take m).map .int := by
        have h := cut_nat ((y0 :: (vs ++ ws)).map PyData.int) (1 + n) (1 + n + m) (by omega) (by simp; omega)
        have e1 : (((1 + n + m : Nat)) : Int) = 1 + (n : Int) + (m : Int) := by omega
        have e0 : (((1 + n : Nat)) : Int) = 1 + (n : Int) := by omega
        rw [e1, e0] at h
        rw [h, List.map_cons, Nat.add_comm 1 n, List.drop_succ_cons, List.map_append, List.drop_left' (by rw [List.length_map, lv]), ← List.map_take]
        congr 2
        omega
      have z1 := evF_lc (E := E) (Γ := Γ) (enc := PyData.int) (g := fun v => PyData.int (low + v)) (xs := vs.take m) (vs := [6]) (tg := .nm 6) (it := .of (.sl (.var 4) (.cons (.int 1) .nil) (.cons (.bin .add (.int 1) (.var 5)) .nil))) (el := .bin .add (.var 2) (.var 6))
        (evI_lst (by simp only [Γ, ev, evO, slV, Except.bind, Except.map, List.getElem?_cons_zero, List.getElem?_cons_succ, asList, asInt, b_add, c1])) (by simp [most]; omega) (fun x hx => ⟨[.sh (.int c), .sh (.int (n : Nat)), .sh (.int low), .sh (.int width), .sh (.list ((y0 :: (vs ++ ws)).map .int)), .sh (.int (m : Nat)), .sh (.int x), .non], rfl, by simp [ev, slV, Except.bind, b_add]⟩)
      have z2 := evF_lc (E := E) (Γ := Γ) (enc := PyData.int) (g := fun v => PyData.int (1 + v)) (xs := ws.take m) (vs := [7]) (tg := .nm 7) (it := .of (.sl (.var 4) (.cons (.bin .add (.int 1) (.var 1)) .nil) (.cons (.bin .add (.bin .add (.int 1) (.var 1)) (.var 5)) .nil))) (el := .bin .add (.int 1) (.var 7))
        (evI_lst (by simp only [Γ, ev, evO, slV, Except.bind, Except.map, List.getElem?_cons_zero, List.getElem?_cons_succ, asList, asInt, b_add, c2])) (by simp [most]; omega) (fun x hx => ⟨[.sh (.int c), .sh (.int (n : Nat)), .sh (.int low), .sh (.int width), .sh (.list ((y0 :: (vs ++ ws)).map .int)), .sh (.int (m : Nat)), .non, .sh (.int x)], rfl, by simp [ev, slV, Except.bind, b_add]⟩)
      have f1 : (vs.take m).map (fun v => PyData.int (low + v)) = V.map .int := by simp only [V, List.map_map]; rfl
      have f2 : (ws.take m).map (fun v => PyData.int (1 + v)) = W.map .int := by simp only [W, List.map_map]; rfl
      rw [f1] at z1
      rw [f2] at z2
      exact ev_call (evs_2 (ev_lc z1) (ev_lc z2)) key
end
end Dee

set_option maxRecDepth 100000
set_option maxHeartbeats 1000000
/-! Dee, part 34: what a def is, for the laws. -/
namespace Dee
open PySem PySem.Spec L2
def IsGcd (E : Evn) (n : Nat) : Prop := ∀ a b : Int, Bd 9000 a → Bd 9000 b → E.F n [.int a, .int b] = .ok (.int (Nat.gcd a.natAbs b.natAbs : Nat))
def IsCell (E : Evn) (n : Nat) : Prop := ∀ (ns : List Int) (k : Nat), E.F n [.list (ns.map .int), .int k] = .ok (.int (ns[k]?.getD 0))
def IsMean (E : Evn) (n : Nat) : Prop := ∀ (D N V : Nat) (s : List (Int × Rat)), 0 < D → (∀ p ∈ s, QN D N p.2) → (∀ p ∈ s, p.1.natAbs ≤ V) → D < lim → N < lim → V < lim → s.length * (V * N) < lim → s.length ≤ most → E.F n [.list (s.map pq)] = .ok (fq (mn s))
def IsChof (E : Evn) (n : Nat) : Prop := ∀ (s : List (Int × Rat)) (v : Int), E.F n [.list (s.map pq), .int v] = .ok (fq (chof s v))
def IsShft (E : Evn) (n : Nat) : Prop := ∀ (s : List (Int × Rat)) (v : Int), s.length ≤ most → E.F n [.list (s.map pq), .int v] = .ok (.list ((shft s v).map pq))
/-- of two spreads, the spread of the sum -/
def IsConv (E : Evn) (n : Nat) : Prop := ∀ (D N D' N' : Nat) (a b : List (Int × Rat)), (∀ p ∈ a, QN D N p.2) → (∀ p ∈ b, QN D' N' p.2) → 0 < D → 0 < D' → D < lim → N < lim → D' < lim → N' < lim → D * D' < lim → (a.length * b.length) * (N * N') < lim → (ks (conv a b)).length < 64 → a.length * b.length ≤ 100000 →
  E.F n [.list (a.map pq), .list (b.map pq)] = .ok (.list ((gath (conv a b)).map pq))
section
variable {E : Evn} {f g : Nat}
theorem conv_snoc (a b : List (Int × Rat)) (p : Int × Rat) : conv (a ++ [p]) b = conv a b ++ b.map fun r => (p.1 + r.1, p.2 * r.2) := by
  unfold conv
  rw [List.flatMap_append, List.flatMap_cons, List.flatMap_nil, List.append_nil]
theorem t_sum_of_ok (hg : IsGath E f) (ht : IsTimes E g) {D N D' N' : Nat} {a b : List (Int × Rat)} (ha : ∀ p ∈ a, QN D N p.2) (hb : ∀ p ∈ b, QN D' N' p.2) (hD : 0 < D) (hD' : 0 < D') (h1 : D < lim) (h2 : N < lim) (h3 : D' < lim) (h4 : N' < lim) (h5 : D * D' < lim)
    (h6 : (a.length * b.length) * (N * N') < lim) (h7 : (ks (conv a b)).length < 64) (h8 : a.length * b.length ≤ 100000) : runF E (t_sum_of f g) [.list (a.map pq), .list (b.map pq)] = .ok (.list ((gath (conv a b)).map pq)) := by
  have key := hg (D * D') (N * N') (conv a b) (Nat.mul_pos hD hD') (conv_QN ha hb) h5 (by rw [conv_len]; exact h6) h7 (by rw [conv_len]; unfold most; omega)
  rw [lim_eq] at h1 h2 h3 h4
  refine run_wp rfl ?_
  have z := evF_lc2 (E := E) (Γ := slots 6 [.list (a.map pq), .list (b.map pq)]) (enc := pq) (xs := a) (enc1 := fun _ => pq) (ys := fun _ => b) (g2 := fun p r => pq (p.1 + r.1, p.2 * r.2)) (vs := [2, 3, 4, 5]) (vs1 := [4, 5]) (tg := .tp [2, 3]) (it := .of (.var 0)) (tg1 := .tp [4, 5]) (it1 := .of (.var 1))
    (el := .tup (.cons (.bin .add (.var 2) (.var 4)) (.cons (.call g (.cons (.var 3) (.cons (.var 5) .nil))) .nil))) (evI_lst (by simp [slots, runF, slots, exs, ex, ev, evs, evO, evC, evF, ofR, slV, cmpD, cmpB, eqD, outR, Except.bind, Except.map, bltD, bltF, setS, intB, most, b_add, b_sub, b_and, asBool, asInt, asInts, asBools, asList, idxD, atD, atI, ixN, Ik.is, isNo])) (by
      have e : (a.flatMap fun x => b.map fun r => pq (x.1 + r.1, x.2 * r.2)) = (conv a b).map pq := by
        unfold conv
        rw [List.map_flatMap]
        congr 1
        funext x
        rw [List.map_map]
        rfl
      rw [e, List.length_map, conv_len]
      unfold most
      omega) (fun p hp => ⟨[.sh (.list (a.map pq)), .sh (.list (b.map pq)), .sh (.int p.1), .sh (fq p.2), .non, .non], rfl, evI_lst (by simp [runF, slots, exs, ex, ev, evs, evO, evC, evF, ofR, slV, cmpD, cmpB, eqD, outR, Except.bind, Except.map, bltD, bltF, setS, intB, most, b_add, b_sub, b_and, asBool, asInt, asInts, asBools, asList, idxD, atD, atI, ixN, Ik.is, isNo]), fun r hr => ⟨[.sh (.list (a.map pq)), .sh (.list (b.map pq)), .sh (.int p.1), .sh (fq p.2), .sh (.int r.1), .sh (fq r.2)], rfl, by
        have h := ht p.2 r.2 ((ha p hp).sm h1 h2) ((hb r hr).sm h3 h4)
        simp [ev, evs, slV, Except.bind, most, b_add, h]
        rfl⟩⟩)
  have e : (a.flatMap fun x => b.map fun r => pq (x.1 + r.1, x.2 * r.2)) = (conv a b).map pq := by
    unfold conv
    rw [List.map_flatMap]
    congr 1
    funext x
    rw [List.map_map]
    rfl
  rw [e] at z
  exact wp_retC (d := .list ((gath (conv a b)).map pq)) (evs_1 (ev_lc2 z)) key rfl
theorem t_law_sum_ok (ht : IsTimes E f) (hg : IsGath E g) {D N D' N' : Nat} {a b : List (Int × Rat)} (ha : ∀ p ∈ a, QN D N p.2) (hb : ∀ p ∈ b, QN D' N' p.2) (hD : 0 < D) (hD' : 0 < D') (h1 : D < lim) (h2 : N < lim) (h3 : D' < lim) (h4 : N' < lim) (h5 : D * D' < lim)
    (h6 : (a.length * b.length) * (N * N') < lim) (h7 : (ks (conv a b)).length < 64) (h8 : a.length * b.length ≤ 100000) : runF E (t_law_sum f g) [.list (a.map pq), .list (b.map pq)] = .ok (.list ((gath (conv a b)).map pq)) := by
  have key := hg (D * D') (N * N') (conv a b) (Nat.mul_pos hD hD') (conv_QN ha hb) h5 (by rw [conv_len]; exact h6) h7 (by rw [conv_len]; unfold most; omega)
  rw [lim_eq] at h1 h2 h3 h4
  refine run_wp rfl ?_
  refine wp_set (d := .list []) (by simp [t_law_sum, slots, ev, evs, Except.map, Except.bind]) (by simp [t_law_sum, slots]) ?_
  refine wp_for (enc := pq) (xs := a) (fun pre Γ => ∃ s3 s4, Γ = [.sh (.list (a.map pq)), .sh (.list (b.map pq)), .sh (.list ((conv pre b).map pq)), s3, s4]) (evI_lst (by simp [t_law_sum, slots, runF, slots, exs, ex, ev, evs, evO, evC, evF, ofR, slV, cmpD, cmpB, eqD, outR, Except.bind, Except.map, bltD, bltF, setS, intB, most, b_add, b_sub, b_and, asBool, asInt, asInts, asBools, asList, idxD, atD, atI, ixN, Ik.is, isNo])) ⟨.non, .non, rfl⟩ (fun pre x post Γ e ⟨s3, s4, hΓ⟩ => ?_) (fun Γ ⟨s3, s4, hΓ⟩ => ?_)
  · subst hΓ
    refine ⟨[.sh (.list (a.map pq)), .sh (.list (b.map pq)), .sh (.list ((conv pre b).map pq)), .sh (pq x), s4], rfl, ?_⟩
    have hx : x ∈ a := by rw [e]; simp
    have hl : pre.length + 1 ≤ a.length := by rw [e]; simp
    have hl2 : (pre.length + 1) * b.length ≤ a.length * b.length := Nat.mul_le_mul_right _ hl
    rw [Nat.add_mul, Nat.one_mul] at hl2
    have z := evF_lc (E := E) (Γ := [.sh (.list (a.map pq)), .sh (.list (b.map pq)), .sh (.list ((conv pre b).map pq)), .sh (pq x), s4]) (enc := pq) (g := fun r => pq (x.1 + r.1, x.2 * r.2)) (xs := b) (vs := [4]) (tg := .nm 4) (it := .of (.var 1))
      (el := .tup (.cons (.bin .add (.idx (.var 3) (.int 0)) (.idx (.var 4) (.int 0))) (.cons (.call f (.cons (.idx (.var 3) (.int 1)) (.cons (.idx (.var 4) (.int 1)) .nil))) .nil))) (evI_lst (by simp [runF, slots, exs, ex, ev, evs, evO, evC, evF, ofR, slV, cmpD, cmpB, eqD, outR, Except.bind, Except.map, bltD, bltF, setS, intB, most, b_add, b_sub, b_and, asBool, asInt, asInts, asBools, asList, idxD, atD, atI, ixN, Ik.is, isNo])) (by unfold most; omega) (fun r hr => ⟨[.sh (.list (a.map pq)), .sh (.list (b.map pq)), .sh (.list ((conv pre b).map pq)), .sh (pq x), .sh (pq r)], rfl, by
        have h := ht x.2 r.2 ((ha x hx).sm h1 h2) ((hb r hr).sm h3 h4)
        simp [ev, evs, slV, Except.bind, most, b_add, pq_idx0, pq_idx1, h]
        rfl⟩)
    have e2 : (b.map fun r => pq (x.1 + r.1, x.2 * r.2)) = (b.map fun r => (x.1 + r.1, x.2 * r.2)).map pq := by rw [List.map_map]; rfl
    rw [e2] at z
    refine wp_set (d := .list ((conv (pre ++ [x]) b).map pq)) (ev_bin (ev_var rfl) (ev_lc z) ?_) (by simp) (wp_nil ⟨.sh (pq x), s4, rfl⟩)
    rw [conv_snoc, List.map_append]
    refine if_pos ?_
    rw [List.length_map, List.length_map, List.length_map, conv_len]
    unfold most
    omega
  · subst hΓ
    exact wp_ret (d := .list ((gath (conv a b)).map pq)) (ev_call (evs_1 (ev_var rfl)) key) rfl
end
end Dee

set_option maxRecDepth 100000
set_option maxHeartbeats 1000000
/-! Dee, part 35: what laws ask again and again. -/
namespace Dee
open PySem PySem.Spec L2 PyProof.Rows
/-- data that may be compared -/
def eqOk : D → Bool
  | .int _ => true
  | .str _ => true
  | .bool _ => true
  | d => SeqAt.shaped d
theorem eqD_same {d : D} (h : eqOk d = true) : eqD d d = .ok true := by
  cases d with
  | int i => exact congrArg Except.ok (decide_eq_true rfl)
  | str i => exact congrArg Except.ok (decide_eq_true rfl)
  | bool i => exact congrArg Except.ok (decide_eq_true rfl)
  | none => exact eqD_self h
  | list xs => exact eqD_self h
  | tuple xs => exact eqD_self h
  | dict xs => exact eqD_self h
theorem none_ok : eqOk .none = true := rfl
theorem fq_ok (q : Rat) : eqOk (fq q) = true := fq_shaped q
theorem pq_canLay (p : Int × Rat) : (pq p).canLay0 = true := by simp [pq, fq, PyData.canLay0, PyData.canLayAll0]
theorem pq_depth (p : Int × Rat) : (pq p).depth ≤ 2 := by simp [pq, fq, PyData.depth, PyData.depthAll]
theorem pq_tb (p : Int × Rat) : tb (pq p) ≤ 5779 := by simp [pq, fq, tb, tbs]
theorem lst_shaped {X : Type} {enc : X → D} (h : ∀ x, (enc x).canLay0 = true) {n : Nat} (hd : ∀ x, (enc x).depth ≤ n) (hn : n ≤ 60) (xs : List X) : SeqAt.shaped (.list (xs.map enc)) = true := by
  unfold SeqAt.shaped
  have e : (PyData.list (xs.map enc)).canLay0 = true := by simp only [PyData.canLay0, canLayAll_map h xs]
  have d : (PyData.list (xs.map enc)).depth ≤ n + 1 := by
    simp only [PyData.depth]
    have := depthAll_map hd xs
    omega
  rw [e, Bool.true_and]
  exact decide_eq_true (by omega)
theorem pqs_ok (s : List (Int × Rat)) : eqOk (.list (s.map pq)) = true := lst_shaped pq_canLay pq_depth (by decide) s
theorem fqs_ok (s : List Rat) : eqOk (.list (s.map fq)) = true := lst_shaped fq_canLay (fun q => Nat.le_of_eq (fq_depth q)) (by decide) s
theorem ints_ok (s : List Int) : eqOk (.list (s.map PyData.int)) = true := lst_shaped (fun i => by simp only [PyData.canLay0]) (n := 0) (fun i => by simp [PyData.depth]) (by decide) s

theorem QN.le {D N : Nat} {q : Rat} (h : QN D N q) : q.num.natAbs ≤ N ∧ q.den ≤ D := by
  obtain ⟨hD, x, rfl, hx⟩ := h
  have e : ((x : Rat) / ((D : Nat) : Rat)) = Rat.divInt x D := (Rat.divInt_eq_div x D).symm
  have D0 : (D : Int) ≠ 0 := by omega
  have gp : 0 < Int.gcd (D : Int) x := Int.gcd_pos_of_ne_zero_left _ D0
  constructor
  · rw [e, Rat.num_divInt]
    have s : (D : Int).sign = 1 := Int.sign_eq_one_of_pos (by omega)
    rw [s, Int.one_mul]
    refine Nat.le_trans ?_ hx
    have d : ((Int.gcd (D : Int) x : Nat) : Int) ∣ x := Int.gcd_dvd_right _ _
    generalize Int.gcd (D : Int) x = g at d gp
    obtain ⟨u, hu⟩ := d
    subst hu
    rw [Int.mul_ediv_cancel_left _ (by omega), Int.natAbs_mul, Int.natAbs_natCast]
    exact Nat.le_mul_of_pos_left _ gp
  · rw [e, Rat.den_divInt, if_neg D0]
    have : (D : Int).natAbs / Int.gcd (D : Int) x ≤ (D : Int).natAbs := Nat.div_le_self _ _
    have e4 : (D : Int).natAbs = D := Int.natAbs_natCast D
    omega
/-- fits into what may be shown -/
def shl : Nat := 2 ^ 1900
theorem shl_of {n : Nat} (h : n < 2 ^ 100) : n < shl := Nat.lt_of_lt_of_le h (pow_lt_pow (by decide))
theorem log_of {n : Nat} (h : n < shl) : n.log2 < 1920 := by
  by_cases h0 : n = 0
  · subst h0
    decide
  · exact (Nat.log2_lt h0).mpr (Nat.lt_of_lt_of_le h (pow_lt_pow (by decide)))
theorem int_showable {i : Int} (h : i.natAbs < shl) : (PyData.int i).showable = true := by
  simp only [PyData.showable]
  exact decide_eq_true (log_of h)
theorem fq_showable {q : Rat} (h1 : q.num.natAbs < shl) (h2 : q.den < shl) : (fq q).showable = true := by
  have a := int_showable h1
  have b := int_showable (i := (q.den : Nat)) (by rw [Int.natAbs_natCast]; exact h2)
  simp only [PyData.showable] at a b
  simp only [fq, PyData.showable, PyData.showableAll, a, b, Bool.and_self, Bool.and_true]
theorem pq_showable {p : Int × Rat} (h : p.1.natAbs < shl) (h1 : p.2.num.natAbs < shl) (h2 : p.2.den < shl) : (pq p).showable = true := by
  have a := int_showable h
  simp only [PyData.showable] at a
  simp only [pq, PyData.showable, PyData.showableAll, a, fq_showable h1 h2, Bool.and_self, Bool.and_true]
theorem fq_shows {q : Rat} (h1 : q.num.natAbs < shl) (h2 : q.den < shl) : shows (fq q) = true :=
  shows_of (n := 3849) (fq_showable h1 h2) (fq_canLay q) (by rw [fq_depth]; decide) (fq_tb q)
theorem pqs_shows {s : List (Int × Rat)} (h : ∀ p ∈ s, p.1.natAbs < shl ∧ p.2.num.natAbs < shl ∧ p.2.den < shl) (hl : s.length ≤ 2000) : shows (.list (s.map pq)) = true := by
  refine shows_of (n := 2000 * 5781 + 2) ?_ ?_ ?_ ?_
  · simp only [PyData.showable]
    exact showableAll_map s fun p hp => pq_showable (h p hp).1 (h p hp).2.1 (h p hp).2.2
  · simp only [PyData.canLay0, canLayAll_map pq_canLay s]
  · simp only [PyData.depth]
    have := depthAll_map pq_depth s
    omega
  · simp only [tb]
    have a := tbs_map pq_tb s
    have b : s.length * (5779 + 2) ≤ 2000 * (5779 + 2) := Nat.mul_le_mul_right _ hl
    omega
theorem pqs_shows' {D N : Nat} {s : List (Int × Rat)} (h : ∀ p ∈ s, p.1.natAbs < shl) (hq : ∀ p ∈ s, QN D N p.2) (hD : D < shl) (hN : N < shl) (hl : s.length ≤ 2000) : shows (.list (s.map pq)) = true :=
  pqs_shows (fun p hp => ⟨h p hp, Nat.lt_of_le_of_lt (hq p hp).le.1 hN, Nat.lt_of_le_of_lt (hq p hp).le.2 hD⟩) hl
section
variable {E : Evn} {Γ : List Sl}
theorem ev_ne0 {a b : CE} {d : D} (h : ev E a Γ = .ok d) (h2 : ev E b Γ = .ok d) (hd : eqOk d = true) : ev E (.cmp .ne a b) Γ = .ok (.bool false) := ev_cmp h h2 (by
  show (eqD d d).map (!·) = _
  rw [eqD_same hd]
  rfl)
theorem ev_eq1 {a b : CE} {d : D} (h : ev E a Γ = .ok d) (h2 : ev E b Γ = .ok d) (hd : eqOk d = true) : ev E (.cmp .eq a b) Γ = .ok (.bool true) := ev_cmp h h2 (eqD_same hd)
theorem ev_reprL {a : CE} {ds : List D} (h : ev E a Γ = .ok (.list ds)) (hs : shows (.list ds) = true) : ev E (.blt .repr (.cons a .nil)) Γ = .ok (.str (PyData.shown (.list ds))) := by
  show (evs E (.cons a .nil) Γ).bind (fun ds => bltD .repr ds) = _
  rw [evs_1 h]
  exact if_pos (by rw [hs]; rfl)
theorem ev_reprT {a : CE} {ds : List D} (h : ev E a Γ = .ok (.tuple ds)) (hs : shows (.tuple ds) = true) : ev E (.blt .repr (.cons a .nil)) Γ = .ok (.str (PyData.shown (.tuple ds))) := by
  show (evs E (.cons a .nil) Γ).bind (fun ds => bltD .repr ds) = _
  rw [evs_1 h]
  exact if_pos (by rw [hs]; rfl)
theorem str_ok (x : Str) : eqOk (.str x) = true := rfl
theorem ev_isLst {a : CE} {ds : List D} (h : ev E a Γ = .ok (.list ds)) : ev E (.blt .isLst (.cons a .nil)) Γ = .ok (.bool true) := by
  show (evs E (.cons a .nil) Γ).bind (fun ds => bltD .isLst ds) = _
  rw [evs_1 h]
  rfl
theorem ev_len {a : CE} {ds : List D} (h : ev E a Γ = .ok (.list ds)) : ev E (.blt .len (.cons a .nil)) Γ = .ok (.int ds.length) := by
  show (evs E (.cons a .nil) Γ).bind (fun ds => bltD .len ds) = _
  rw [evs_1 h]
  rfl
theorem ev_sum {a : CE} {l : List Int} (h : ev E a Γ = .ok (.list (l.map PyData.int))) : ev E (.blt .sum (.cons a .nil)) Γ = .ok (.int l.sum) := by
  show (evs E (.cons a .nil) Γ).bind (fun ds => bltD .sum ds) = _
  rw [evs_1 h]
  show (asInts (l.map PyData.int)).map _ = _
  rw [asInts_map]
  rfl
theorem ev_min2 {a b : CE} {i j : Int} (h : ev E a Γ = .ok (.int i)) (h2 : ev E b Γ = .ok (.int j)) : ev E (.blt .min2 (.cons a (.cons b .nil))) Γ = .ok (.int (min i j)) := by
  show (evs E (.cons a (.cons b .nil)) Γ).bind (fun ds => bltD .min2 ds) = _
  rw [evs_2 h h2]
  rfl
theorem ev_max2 {a b : CE} {i j : Int} (h : ev E a Γ = .ok (.int i)) (h2 : ev E b Γ = .ok (.int j)) : ev E (.blt .max2 (.cons a (.cons b .nil))) Γ = .ok (.int (max i j)) := by
  show (evs E (.cons a (.cons b .nil)) Γ).bind (fun ds => bltD .max2 ds) = _
  rw [evs_2 h h2]
  rfl
theorem ev_intB {a : CE} {i : Int} (h : ev E a Γ = .ok (.int i)) : ev E (.blt .int (.cons a .nil)) Γ = .ok (.int i) := by
  show (evs E (.cons a .nil) Γ).bind (fun ds => bltD .int ds) = _
  rw [evs_1 h]
  rfl
theorem ev_rev {a : CE} {xs : List D} (h : ev E a Γ = .ok (.list xs)) : ev E (.rev a) Γ = .ok (.list xs.reverse) := by
  show ((ev E a Γ).bind fun x => (asList x).bind fun xs => .ok xs.reverse).map PyData.list = _
  rw [h]
  rfl
theorem ev_sub {a b : CE} {i j : Int} (h : ev E a Γ = .ok (.int i)) (h2 : ev E b Γ = .ok (.int j)) : ev E (.bin .sub a b) Γ = .ok (.int (i - j)) := ev_bin h h2 rfl
theorem ev_add {a b : CE} {i j : Int} (h : ev E a Γ = .ok (.int i)) (h2 : ev E b Γ = .ok (.int j)) : ev E (.bin .add a b) Γ = .ok (.int (i + j)) := ev_bin h h2 rfl
theorem ev_cat {a b : CE} {xs ys : List D} (h : ev E a Γ = .ok (.list xs)) (h2 : ev E b Γ = .ok (.list ys)) (hl : xs.length + ys.length ≤ most) : ev E (.bin .add a b) Γ = .ok (.list (xs ++ ys)) := ev_bin h h2 (if_pos hl)
theorem ev_idxm {X : Type} {enc : X → D} {xs : List X} {a b : CE} {k : Nat} (h : ev E a Γ = .ok (.list (xs.map enc))) (h2 : ev E b Γ = .ok (.int (k : Nat))) (hk : k < xs.length) : ev E (.idx a b) Γ = .ok (enc xs[k]) := ev_idx h h2 (idx_map enc xs k hk)
theorem ev_slf {a b : CE} {xs : List D} {k : Nat} (h : ev E a Γ = .ok (.list xs)) (h2 : ev E b Γ = .ok (.int (k : Nat))) : ev E (.sl a .nil (.cons b .nil)) Γ = .ok (.list (xs.take k)) := by
  have e : cutD xs none (some (k : Int)) = xs.take k := by
    unfold cutD
    rw [HT.sIx_nat]
    show (xs.drop 0).take (min k xs.length - 0) = _
    rw [List.drop_zero, Nat.sub_zero]
    rcases Nat.le_total k xs.length with q | q
    · rw [Nat.min_eq_left q]
    · rw [Nat.min_eq_right q, List.take_length, List.take_of_length_le q]
  simp only [ev, evO, h, h2, Except.bind, Except.map, asList, asInt, e]
theorem ev_slm {a b c : CE} {xs : List D} {i k : Nat} (h : ev E a Γ = .ok (.list xs)) (h2 : ev E b Γ = .ok (.int (i : Nat))) (h3 : ev E c Γ = .ok (.int (k : Nat))) : ev E (.sl a (.cons b .nil) (.cons c .nil)) Γ = .ok (.list ((xs.drop i).take (k - i))) := by
  have e : cutD xs (some (i : Int)) (some (k : Int)) = (xs.drop i).take (k - i) := by
    unfold cutD
    rw [HT.sIx_nat, HT.sIx_nat]
    rcases Nat.le_total i xs.length with q | q
    · rw [Nat.min_eq_left q]
      rcases Nat.le_total k xs.length with q2 | q2
      · rw [Nat.min_eq_left q2]
      · rw [Nat.min_eq_right q2, List.take_of_length_le (by rw [List.length_drop]; omega), List.take_of_length_le (by rw [List.length_drop]; omega)]
    · rw [Nat.min_eq_right q, List.drop_eq_nil_of_le (Nat.le_refl _), List.drop_eq_nil_of_le q]
      simp
  simp only [ev, evO, h, h2, h3, Except.bind, Except.map, asList, asInt, e]
theorem rs_map {r : Rs} {xs : List D} (h : r.map PyData.list = .ok (.list xs)) : r = .ok xs := by
  cases r with
  | error e => cases h
  | ok ys =>
    have h : (Except.ok (PyData.list ys) : R) = .ok (.list xs) := h
    have h1 := Except.ok.inj h
    have h2 := PyData.list.inj h1
    rw [h2]
theorem evF_sl_of {a : CE} {b c : CEs} {xs : List D} (h : ev E (.sl a b c) Γ = .ok (.list xs)) : evF E (.sl a b c) Γ = .ok xs := rs_map h
theorem ev_slt {a b : CE} {xs : List D} {i : Nat} (h : ev E a Γ = .ok (.list xs)) (h2 : ev E b Γ = .ok (.int (i : Nat))) : ev E (.sl a (.cons b .nil) .nil) Γ = .ok (.list (xs.drop i)) := by
  have e : cutD xs (some (i : Int)) none = xs.drop i := by
    unfold cutD
    rw [HT.sIx_nat]
    show (xs.drop (min i xs.length)).take (xs.length - min i xs.length) = _
    rcases Nat.le_total i xs.length with q | q
    · rw [Nat.min_eq_left q, List.take_of_length_le (by rw [List.length_drop]; omega)]
    · rw [Nat.min_eq_right q, List.drop_eq_nil_of_le (Nat.le_refl _), List.drop_eq_nil_of_le q]
      simp
  simp only [ev, evO, h, h2, Except.bind, Except.map, asList, asInt, e]
end
theorem Rng_at : ∀ {ys ls : List Int}, Rng ys ls → ys.length = ls.length ∧ ∀ i, i < ls.length → 0 ≤ ys.getD i 0 ∧ ys.getD i 0 < ls.getD i 0
  | [], [], _ => ⟨rfl, fun i h => absurd h (Nat.not_lt_zero _)⟩
  | [], _ :: _, h => h.elim
  | _ :: _, [], h => h.elim
  | y :: ys, l :: ls, h => by
    obtain ⟨a, b⟩ := Rng_at h.2
    refine ⟨by rw [List.length_cons, List.length_cons, a], fun i hi => ?_⟩
    cases i with
    | zero => exact h.1
    | succ i => exact b i (by simpa using hi)
theorem getD_at {X : Type} {xs : List X} {i : Nat} (h : i < xs.length) (x : X) : xs[i] = xs.getD i x := by
  rw [List.getD_eq_getElem?_getD, List.getElem?_eq_getElem h]
  rfl
theorem rangeC_map (lo c : Int) (n : Nat) : rangeC lo c n = ((List.range n).map fun (i : Nat) => lo + (i : Int) * c).map PyData.int := by
  unfold rangeC
  rw [List.map_map]
  rfl
end Dee

set_option maxRecDepth 100000
set_option maxHeartbeats 1000000
/-! Dee, part 36: refusals; mixtures. -/
namespace Dee
open PySem PySem.Spec L2
section
variable {E : Evn} {ss : CSs} {Γ : List Sl} {Q : Out → Prop}
theorem ex_expr_xc {e : CE} {c : Nat} (h : ev E e Γ = .error (some c)) : exs E (.cons (.expr e) ss) Γ = .xc c Γ := by
  refine exs_xc ?_
  show ofR (ev E e Γ) Γ (fun _ => .nx Γ) = _
  rw [h]
  rfl
theorem ev_call_xc {f : Nat} {es : CEs} {ds : List D} {c : Nat} (h : evs E es Γ = .ok ds) (h2 : E.F f ds = .error (some c)) : ev E (.call f es) Γ = .error (some c) := ev_call h h2
/-- a refusal that is caught -/
theorem wp_try_xc {bd su : CSs} {c d i : Nat} {Γ1 : List Sl} (h : exs E bd Γ = .xc d Γ1) (hd : E.sub d d = true) (hc : E.sub d c = true) (hi : i < Γ1.length) (k : Wp E su (Γ1.set i (.exc d)) (fun o => Sq E ss Q (offX (some i) o))) : Wp E (.cons (.try_ bd c (some i) su) ss) Γ Q := by
  refine wp_cons (o := offX (some i) (exs E su (Γ1.set i (.exc d)))) ?_ k
  rw [ex_try, h]
  show catO E.sub c (some i) (exs E su) d Γ1 = _
  unfold catO
  rw [if_pos hd, if_pos hc]
  exact if_pos hi
theorem wp_try0_xc {bd su : CSs} {c d : Nat} {Γ1 : List Sl} (h : exs E bd Γ = .xc d Γ1) (hd : E.sub d d = true) (hc : E.sub d c = true) (k : Wp E su Γ1 (fun o => Sq E ss Q (offX none o))) : Wp E (.cons (.try_ bd c none su) ss) Γ Q := by
  refine wp_cons (o := offX none (exs E su Γ1)) ?_ k
  rw [ex_try, h]
  show catO E.sub c none (exs E su) d Γ1 = _
  unfold catO
  rw [if_pos hd, if_pos hc]
theorem wp_try_rt {bd su : CSs} {c : Nat} {x : Option Nat} {d : D} (h : exs E bd Γ = .rt d) (k : Q (.rt d)) : Wp E (.cons (.try_ bd c x su) ss) Γ Q := by
  refine wp_cons (o := .rt d) ?_ k
  rw [ex_try, h]
  rfl
theorem ev_isx {i d : Nat} {t : Bool} {cs : List (Option Nat)} (h : Γ[i]? = some (.exc d)) : ev E (.isx i t cs) Γ = .ok (.bool (cs.any (isaX E.sub d))) := by
  show (match Γ[i]? with
    | some (.exc d) => (Except.ok (PyData.bool (cs.any (isaX E.sub d))) : R)
    | _ => unk) = _
  rw [h]
theorem ev_isx1 {i d c : Nat} {b : Bool} (h : Γ[i]? = some (.exc d)) (h2 : E.sub d c = b) : ev E (.isx i false [some c]) Γ = .ok (.bool b) := by
  rw [ev_isx h]
  simp [isaX, h2]
theorem ev_isxV {i d : Nat} (h : Γ[i]? = some (.exc d)) : ev E (.isx i false [none]) Γ = .ok (.bool true) := by
  rw [ev_isx h]
  rfl
theorem ev_isx2 {i d c c' : Nat} {t b b' : Bool} (h : Γ[i]? = some (.exc d)) (h2 : E.sub d c = b) (h3 : E.sub d c' = b') : ev E (.isx i t [some c, some c']) Γ = .ok (.bool (b || b')) := by
  rw [ev_isx h]
  simp [isaX, h2, h3]
theorem ev_any {a : CE} {bs : List Bool} (h : ev E a Γ = .ok (.list (bs.map PyData.bool))) : ev E (.blt .any (.cons a .nil)) Γ = .ok (.bool (bs.any id)) := by
  have e : ∀ bs : List Bool, asBools (bs.map PyData.bool) = .ok bs := by
    intro bs
    induction bs with
    | nil => rfl
    | cons b bs ih =>
      show (asBools (bs.map PyData.bool)).map (b :: ·) = _
      rw [ih]
      rfl
  show (evs E (.cons a .nil) Γ).bind (fun ds => bltD .any ds) = _
  rw [evs_1 h]
  show (asBools (bs.map PyData.bool)).map _ = _
  rw [e]
  rfl
theorem ev_all {a : CE} {bs : List Bool} (h : ev E a Γ = .ok (.list (bs.map PyData.bool))) : ev E (.blt .all (.cons a .nil)) Γ = .ok (.bool (bs.all id)) := by
  have e : ∀ bs : List Bool, asBools (bs.map PyData.bool) = .ok bs := by
    intro bs
    induction bs with
    | nil => rfl
    | cons b bs ih =>
      show (asBools (bs.map PyData.bool)).map (b :: ·) = _
      rw [ih]
      rfl
  show (evs E (.cons a .nil) Γ).bind (fun ds => bltD .all ds) = _
  rw [evs_1 h]
  show (asBools (bs.map PyData.bool)).map _ = _
  rw [e]
  rfl
end
theorem zip_map {X Y : Type} (f : X → D) (g : Y → D) : ∀ (xs : List X) (ys : List Y), zipD (xs.map f) (ys.map g) = (xs.zip ys).map fun p => .tuple [f p.1, g p.2]
  | [], _ => by cases ‹List Y› <;> rfl
  | _ :: _, [] => rfl
  | x :: xs, y :: ys => by
    show PyData.tuple [f x, g y] :: zipD (xs.map f) (ys.map g) = _
    rw [zip_map f g xs ys]
    rfl
theorem evI_zip {E : Evn} {Γ : List Sl} {a b : CE} {xs ys : List D} (h : ev E a Γ = .ok (.list xs)) (h2 : ev E b Γ = .ok (.list ys)) : evI E (.zip a b) Γ = .ok (zipD xs ys) := by
  show ((ev E a Γ).bind fun x => (ev E b Γ).bind fun y => (asList x).bind fun xs => (asList y).bind fun ys => .ok (zipD xs ys)) = _
  rw [h, h2]
  rfl
/-- a spread as data -/
def dS (s : List (Int × Rat)) : D := .list (s.map pq)
/-- spreads mixed, ungathered -/
def mixl (ss : List (List (Int × Rat))) (cs : List Rat) : List (Int × Rat) := (ss.zip cs).flatMap fun z => z.1.map fun p => (p.1, z.2 * p.2)
def IsMixed (E : Evn) (n : Nat) : Prop := ∀ (D N D' N' : Nat) (ss : List (List (Int × Rat))) (cs : List Rat), ss.length = cs.length → cs.sum = 1 → (∀ c ∈ cs, 0 ≤ c) → 0 < D → 0 < D' → (∀ c ∈ cs, QN D N c) → (∀ s ∈ ss, ∀ p ∈ s, QN D' N' p.2) → D < lim → N < lim → D' < lim → N' < lim →
  cs.length * N < lim → cs.length ≤ 1000 → D * D' < lim → (mixl ss cs).length * (N * N') < lim → (ks (mixl ss cs)).length < 64 → (mixl ss cs).length < 100000 → E.F n [.list (ss.map dS), .list (cs.map fq)] = .ok (.list ((gath (mixl ss cs)).map pq))
/-- a mixture that is refused with the class c -/
def NoMix (E : Evn) (n c : Nat) : Prop := ∀ (D N : Nat) (ss : List (List (Int × Rat))) (cs : List Rat), (ss.length ≠ cs.length ∨ cs.sum ≠ 1 ∨ ∃ c ∈ cs, c < 0) → 0 < D → (∀ c ∈ cs, QN D N c) → D < lim → cs.length * N < lim → cs.length ≤ 1000 → E.F n [.list (ss.map dS), .list (cs.map fq)] = .error (some c)
theorem mixl_snoc (ss : List (List (Int × Rat))) (cs : List Rat) (s : List (Int × Rat)) (c : Rat) (z : List (List (Int × Rat) × Rat)) : ((z ++ [(s, c)]).flatMap fun z => z.1.map fun p => (p.1, z.2 * p.2)) = (z.flatMap fun z => z.1.map fun p => (p.1, z.2 * p.2)) ++ s.map fun p => (p.1, c * p.2) := by
  rw [List.flatMap_append, List.flatMap_cons, List.flatMap_nil, List.append_nil]
section
variable {E : Evn} {f k c g h : Nat}
theorem cmp_ne {d e : D} {t : Bool} (h : eqD d e = .ok t) : cmpB .ne d e = .ok (!t) := by
  show (eqD d e).map (!·) = _
  rw [h]
  rfl
theorem num_lt (c : Rat) : c.num < 0 ↔ c < 0 := by
  rw [Rat.lt_iff]
  show c.num < 0 ↔ c.num * ((1 : Nat) : Int) < 0 * _
  omega
theorem mix_head {Γ : List Sl} (hs : IsTotal E f) (hk : E.G k = some (fq 1)) {D N : Nat} {ss : List (List (Int × Rat))} {cs : List Rat} (g0 : Γ[0]? = some (.sh (.list (ss.map dS)))) (g1 : Γ[1]? = some (.sh (.list (cs.map fq)))) (hl : ss.length = cs.length) (hD : 0 < D) (hq : ∀ c ∈ cs, QN D N c) (h1 : D < lim) (h2 : cs.length * N < lim) :
    ev E (.or (.cmp .ne (.blt .len (.cons (.var 0) .nil)) (.blt .len (.cons (.var 1) .nil))) (.one (.cmp .ne (.call f (.cons (.var 1) .nil)) (.glob k)))) Γ = .ok (.bool (!decide (cs.sum = 1))) := by
  refine ev_orf (ev_cmp (t := false) (ev_len (ev_var g0)) (ev_len (ev_var g1)) ?_) (ev_one (ev_cmp (ev_call (evs_1 (ev_var g1)) (hs D N cs hD hq h1 h2)) (ev_glob hk) ?_))
  · rw [List.length_map, List.length_map, hl]
    exact cmp_ne (eqD_same rfl)
  · exact cmp_ne (fq_eq _ _)
theorem neg_any {cs : List Rat} : (cs.map fun c => decide (c.num < 0)).any id = decide (∃ c ∈ cs, c < 0) := by
  rw [List.any_map]
  cases e : cs.any (id ∘ fun c => decide (c.num < 0)) with
  | true =>
    obtain ⟨x, hx, h⟩ := List.any_eq_true.mp e
    have h : x.num < 0 := by simpa using h
    exact (decide_eq_true ⟨x, hx, (num_lt _).mp h⟩).symm
  | false =>
    refine (decide_eq_false fun ⟨x, hx, h⟩ => ?_).symm
    have := List.any_eq_false.mp e x hx
    exact this (decide_eq_true ((num_lt _).mpr h))
theorem mix_neg {Γ : List Sl} {cs : List Rat} (hn : 6 < Γ.length) (g1 : Γ[1]? = some (.sh (.list (cs.map fq)))) (hl : cs.length ≤ 1000) :
    ev E (.blt .any (.cons (.lc [6] (.nm 6) (.of (.var 1)) .nil (.cmp .lt (.idx (.var 6) (.int 0)) (.int 0))) .nil)) Γ = .ok (.bool (decide (∃ c ∈ cs, c < 0))) := by
  have z := evF_lc (E := E) (Γ := Γ) (enc := fq) (g := fun c => PyData.bool (decide (c.num < 0))) (xs := cs) (vs := [6]) (tg := .nm 6) (it := .of (.var 1)) (el := .cmp .lt (.idx (.var 6) (.int 0)) (.int 0)) (evI_lst (ev_var g1)) (by unfold most; omega) (fun q hq => by
    refine ⟨(wipeG Γ [6]).set 6 (.sh (fq q)), if_pos (by show 6 < (Γ.set 6 .non).length; rw [List.length_set]; exact hn), ?_⟩
    have g6 : ((wipeG Γ [6]).set 6 (.sh (fq q)))[6]? = some (.sh (fq q)) := List.getElem?_set_self (by show 6 < (Γ.set 6 .non).length; rw [List.length_set]; exact hn)
    exact ev_cmp (ev_idx (ev_var g6) ev_int (fq_idx0 q)) ev_int rfl)
  rw [show (cs.map fun c => PyData.bool (decide (c.num < 0))) = (cs.map fun c => decide (c.num < 0)).map PyData.bool by rw [List.map_map]; rfl] at z
  have := ev_any (ev_lc z)
  rw [neg_any] at this
  exact this
theorem t_mixed_no (hs : IsTotal E f) (hk : E.G k = some (fq 1)) {D N : Nat} {ss : List (List (Int × Rat))} {cs : List Rat} (hb : ss.length ≠ cs.length ∨ cs.sum ≠ 1 ∨ ∃ c ∈ cs, c < 0) (hD : 0 < D) (hq : ∀ c ∈ cs, QN D N c) (h1 : D < lim) (h2 : cs.length * N < lim) (hl : cs.length ≤ 1000) :
    runF E (t_mixed f k c g h) [.list (ss.map dS), .list (cs.map fq)] = .error (some c) := by
  refine run_wp rfl ?_
  by_cases e : ss.length = cs.length
  · refine wp_if (mix_head hs hk rfl rfl e hD hq h1 h2) (fun _ => wp_raise rfl) (fun hf => wp_skip ?_)
    have e1 : cs.sum = 1 := by simpa using hf
    refine wp_ift ?_ (wp_raise rfl)
    have := mix_neg (E := E) (Γ := slots 7 [.list (ss.map dS), .list (cs.map fq)]) (cs := cs) (by simp [slots]) rfl hl
    rw [decide_eq_true (by
      rcases hb with h | h | h
      · exact absurd e h
      · exact absurd e1 h
      · exact h)] at this
    exact this
  · refine wp_ift (ev_ort (ev_cmp (ev_len (ev_var rfl)) (ev_len (ev_var rfl)) ?_)) (wp_raise rfl)
    rw [List.length_map, List.length_map]
    show Except.ok (!decide (((ss.length : Nat) : Int) = ((cs.length : Nat) : Int))) = _
    rw [decide_eq_false (by omega)]
    rfl
theorem t_mixed_ok (hs : IsTotal E f) (hk : E.G k = some (fq 1)) (ht : IsTimes E g) (hg : IsGath E h) {D N D' N' : Nat} {ss : List (List (Int × Rat))} {cs : List Rat} (e : ss.length = cs.length) (e1 : cs.sum = 1) (hp : ∀ c ∈ cs, 0 ≤ c) (hD : 0 < D) (hD' : 0 < D') (hq : ∀ c ∈ cs, QN D N c) (hq' : ∀ s ∈ ss, ∀ p ∈ s, QN D' N' p.2)
    (h1 : D < lim) (h2 : N < lim) (h3 : D' < lim) (h4 : N' < lim) (h5 : cs.length * N < lim) (hl : cs.length ≤ 1000) (h6 : D * D' < lim) (h7 : (mixl ss cs).length * (N * N') < lim) (h8 : (ks (mixl ss cs)).length < 64) (h9 : (mixl ss cs).length < 100000) :
    runF E (t_mixed f k c g h) [.list (ss.map dS), .list (cs.map fq)] = .ok (.list ((gath (mixl ss cs)).map pq)) := by
  have key := hg (D * D') (N * N') (mixl ss cs) (Nat.mul_pos hD hD') (fun x hx => by
    obtain ⟨z, hz, hx⟩ := List.mem_flatMap.mp hx
    obtain ⟨p, hp, rfl⟩ := List.mem_map.mp hx
    exact (hq z.2 (List.of_mem_zip hz).2).mul (hq' z.1 (List.of_mem_zip hz).1 p hp)) h6 h7 h8 (by unfold most; omega)
  rw [lim_eq] at h2 h3 h4
  refine run_wp rfl ?_
  have hd := mix_head (E := E) (Γ := slots 7 [.list (ss.map dS), .list (cs.map fq)]) hs hk rfl rfl e hD hq h1 h5
  rw [decide_eq_true e1] at hd
  refine wp_iff0 hd ?_
  have hn := mix_neg (E := E) (Γ := slots 7 [.list (ss.map dS), .list (cs.map fq)]) (cs := cs) (by simp [slots]) rfl hl
  rw [decide_eq_false (fun ⟨x, hx, h⟩ => absurd (hp x hx) (Rat.not_le.mpr h))] at hn
  refine wp_iff0 hn ?_
  refine wp_setO (ds := []) rfl (by simp [t_mixed, slots]) ?_
  have iz := evI_zip (E := E) (Γ := (slots 7 [.list (ss.map dS), .list (cs.map fq)]).set 2 (.own [])) (a := .var 0) (b := .var 1) (ev_var rfl) (ev_var rfl)
  rw [zip_map] at iz
  refine wp_for (enc := fun z : List (Int × Rat) × Rat => PyData.tuple [dS z.1, fq z.2]) (xs := ss.zip cs) (fun pre Γ => ∃ s3 s4 s5 s6, Γ = [.sh (.list (ss.map dS)), .sh (.list (cs.map fq)), .own ((pre.flatMap fun z => z.1.map fun p => (p.1, z.2 * p.2)).map pq), s3, s4, s5, s6]) iz ⟨.non, .non, .non, .non, rfl⟩ ?_ ?_
  · rintro pre ⟨s, w⟩ post Γ ez ⟨s3, s4, s5, s6, rfl⟩
    refine ⟨[.sh (.list (ss.map dS)), .sh (.list (cs.map fq)), .own ((pre.flatMap fun z => z.1.map fun p => (p.1, z.2 * p.2)).map pq), .sh (dS s), .sh (fq w), s5, s6], rfl, ?_⟩
    have hz : (s, w) ∈ ss.zip cs := by rw [ez]; simp
    have bl : (pre.flatMap fun z => z.1.map fun p => (p.1, z.2 * p.2)).length + s.length ≤ (mixl ss cs).length := by
      unfold mixl
      rw [ez, List.flatMap_append, List.flatMap_cons, List.length_append, List.length_append, List.length_map]
      dsimp only
      omega
    refine wp_for (enc := pq) (xs := s) (fun pre2 Γ => ∃ s5 s6, Γ = [.sh (.list (ss.map dS)), .sh (.list (cs.map fq)), .own (((pre.flatMap fun z => z.1.map fun p => (p.1, z.2 * p.2)) ++ pre2.map fun p => (p.1, w * p.2)).map pq), .sh (dS s), .sh (fq w), s5, s6]) (evI_lst (ev_var rfl)) ⟨s5, s6, by simp⟩ ?_ ?_
    · rintro pre2 x post2 Γ e2 ⟨s5, s6, rfl⟩
      refine ⟨[.sh (.list (ss.map dS)), .sh (.list (cs.map fq)), .own (((pre.flatMap fun z => z.1.map fun p => (p.1, z.2 * p.2)) ++ pre2.map fun p => (p.1, w * p.2)).map pq), .sh (dS s), .sh (fq w), .sh (.int x.1), .sh (fq x.2)], rfl, ?_⟩
      have hx : x ∈ s := by rw [e2]; simp
      have l2 : pre2.length < s.length := by rw [e2]; simp
      have m := ht w x.2 ((hq w (List.of_mem_zip hz).2).sm h1 h2) ((hq' s (List.of_mem_zip hz).1 x hx).sm h3 h4)
      refine wp_app rfl (ev_tup2 (ev_var rfl) (ev_call (evs_2 (ev_var rfl) (ev_var rfl)) m)) (by rw [List.length_map, List.length_append, List.length_map]; unfold most; omega) (wp_nil ⟨.sh (.int x.1), .sh (fq x.2), ?_⟩)
      simp only [List.set, List.map_append, List.map_cons, List.map_nil, List.append_assoc]
      rfl
    · rintro Γ ⟨s5, s6, rfl⟩
      refine wp_nil ⟨.sh (dS s), .sh (fq w), s5, s6, ?_⟩
      rw [mixl_snoc ss cs]
  · rintro Γ ⟨s3, s4, s5, s6, rfl⟩
    refine wp_frz ?_
    exact wp_retC (d := .list ((gath (mixl ss cs)).map pq)) (evs_1 (ev_var rfl)) key rfl
end
end Dee

set_option maxRecDepth 100000
set_option maxHeartbeats 1000000
/-! Dee, part 37: data that are shown, by parts; sums that trade places. -/
namespace Dee
open PySem PySem.Spec L2 PyProof.Rows
/-- may be shown: depth at most k, text at most n -/
structure Shw (d : D) (k n : Nat) : Prop where
  s : d.showable = true
  l : d.canLay0 = true
  t : tb d ≤ n
  d : d.depth ≤ k
theorem Shw.shows {d : D} {k n : Nat} (h : Shw d k n) (hk : k ≤ 60) (hn : n ≤ 16777216) : shows d = true := by
  have h5 := PyData.hasDict_of_canLay d h.l
  have h6 := shown_up d h.s h5
  have h7 := h.d
  have h8 := h.t
  unfold Dee.shows
  rw [h.s, h5]
  have hs : sizeLine = 16777216 := by decide
  simp only [Bool.not_false, Bool.and_true, Bool.true_and, Bool.and_eq_true]
  exact ⟨decide_eq_true (by omega), decide_eq_true (by omega)⟩
theorem Shw.mono {d : D} {k n k' n' : Nat} (h : Shw d k n) (hk : k ≤ k') (hn : n ≤ n') : Shw d k' n' := ⟨h.s, h.l, Nat.le_trans h.t hn, Nat.le_trans h.d hk⟩
theorem Shw.ok {d : D} {k n : Nat} (h : Shw d k n) (hk : k ≤ 60) : eqOk d = true := by
  have e : SeqAt.shaped d = true := by
    unfold SeqAt.shaped
    rw [h.l, Bool.true_and]
    exact decide_eq_true (Nat.le_trans h.d (Nat.le_trans hk (by decide)))
  cases d <;> first | rfl | exact e
theorem Shw.int {i : Int} (h : i.natAbs < shl) : Shw (.int i) 0 1921 := ⟨int_showable h, by simp only [PyData.canLay0], by simp [tb], by simp [PyData.depth]⟩
theorem Shw.fq {q : Rat} (h1 : q.num.natAbs < shl) (h2 : q.den < shl) : Shw (Dee.fq q) 1 3849 := ⟨fq_showable h1 h2, fq_canLay q, fq_tb q, by rw [fq_depth]; decide⟩
theorem Shw.fqN {D N : Nat} {q : Rat} (h : QN D N q) (h1 : D < shl) (h2 : N < shl) : Shw (Dee.fq q) 1 3849 := .fq (Nat.lt_of_le_of_lt h.le.1 h2) (Nat.lt_of_le_of_lt h.le.2 h1)
theorem Shw.pq {p : Int × Rat} (h : p.1.natAbs < shl) (h1 : p.2.num.natAbs < shl) (h2 : p.2.den < shl) : Shw (Dee.pq p) 2 5779 := ⟨pq_showable h h1 h2, pq_canLay p, pq_tb p, pq_depth p⟩
theorem Shw.list {X : Type} {enc : X → D} {xs : List X} {k n : Nat} (h : ∀ x ∈ xs, Shw (enc x) k n) : Shw (.list (xs.map enc)) (k + 1) (xs.length * (n + 2) + 2) := by
  have a : ∀ xs : List X, (∀ x ∈ xs, Shw (enc x) k n) → PyData.showableAll (xs.map enc) = true ∧ PyData.canLayAll0 (xs.map enc) = true ∧ PyData.depthAll (xs.map enc) ≤ k ∧ tbs (xs.map enc) ≤ xs.length * (n + 2) := by
    intro xs
    induction xs with
    | nil => exact fun _ => ⟨by simp only [List.map_nil, PyData.showableAll], by simp only [List.map_nil, PyData.canLayAll0], by simp [PyData.depthAll], by simp [tbs]⟩
    | cons x xs ih =>
      intro h
      obtain ⟨h1, h2, h3, h4⟩ := ih fun y hy => h y (List.mem_cons_of_mem _ hy)
      have hx := h x List.mem_cons_self
      refine ⟨by simp only [List.map_cons, PyData.showableAll, hx.s, h1, Bool.and_self], by simp only [List.map_cons, PyData.canLayAll0, hx.l, h2, Bool.and_self], ?_, ?_⟩
      · simp only [List.map_cons, PyData.depthAll]
        exact Nat.max_le.mpr ⟨hx.d, h3⟩
      · have := hx.t
        simp only [List.map_cons, tbs, List.length_cons, Nat.add_mul]
        omega
  obtain ⟨h1, h2, h3, h4⟩ := a xs h
  exact ⟨by simp only [PyData.showable, h1], by simp only [PyData.canLay0, h2], by simp only [tb]; omega, by simp only [PyData.depth]; omega⟩
theorem Shw.list2 {x y : D} {k n m : Nat} (h : Shw x k n) (h2 : Shw y k m) : Shw (.list [x, y]) (k + 1) (n + m + 6) := ⟨by simp only [PyData.showable, PyData.showableAll, h.s, h2.s, Bool.and_self], by simp only [PyData.canLay0, PyData.canLayAll0, h.l, h2.l, Bool.and_self], by
  simp only [tb, tbs]
  have := h.t
  have := h2.t
  omega, by
  simp only [PyData.depth, PyData.depthAll]
  have := h.d
  have := h2.d
  omega⟩
theorem Shw.tup2 {x y : D} {k n m : Nat} (h : Shw x k n) (h2 : Shw y k m) : Shw (.tuple [x, y]) (k + 1) (n + m + 7) := ⟨by simp only [PyData.showable, PyData.showableAll, h.s, h2.s, Bool.and_self], by simp only [PyData.canLay0, PyData.canLayAll0, h.l, h2.l, Bool.and_self], by
  simp only [tb, tbs]
  have := h.t
  have := h2.t
  omega, by
  simp only [PyData.depth, PyData.depthAll]
  have := h.d
  have := h2.d
  omega⟩
theorem Shw.dS {D N V n : Nat} {s : List (Int × Rat)} (hq : ∀ p ∈ s, QN D N p.2) (hv : ∀ p ∈ s, p.1.natAbs ≤ V) (h1 : D < shl) (h2 : N < shl) (h3 : V < shl) (hn : s.length ≤ n) : Shw (Dee.dS s) 3 (n * 5781 + 2) :=
  (Shw.list (enc := Dee.pq) fun p hp => Shw.pq (Nat.lt_of_le_of_lt (hv p hp) h3) (Nat.lt_of_le_of_lt (hq p hp).le.1 h2) (Nat.lt_of_le_of_lt (hq p hp).le.2 h1)).mono (by decide) (by have : s.length * 5781 ≤ n * 5781 := Nat.mul_le_mul_right _ hn; omega)
theorem SprD.shw {s : List (Int × Rat)} {lo hi : Int} {n T : Nat} (h : SprD s lo hi n T) {V : Nat} (hv : (-(V : Int)) ≤ lo ∧ hi ≤ V) (hV : V < 2 ^ 100) (hn : n ≤ 1000) : Shw (Dee.dS s) 3 (n * 5781 + 2) :=
  Shw.dS h.qn (fun p hp => by have := h.val p hp; omega) (shl_of (by have := h.Tn; exact Nat.lt_of_le_of_lt (show T ≤ 9000 by omega) (by decide))) (shl_of (by have := h.Tn; exact Nat.lt_of_le_of_lt (show T ≤ 9000 by omega) (by decide))) (shl_of hV) h.len
theorem ev_reprS {E : Evn} {Γ : List Sl} {a : CE} {ds : List D} {k n : Nat} (h : ev E a Γ = .ok (.list ds)) (hs : Shw (.list ds) k n) (hk : k ≤ 60) (hn : n ≤ 16777216) : ev E (.blt .repr (.cons a .nil)) Γ = .ok (.str (PyData.shown (.list ds))) := ev_reprL h (hs.shows hk hn)

/-! ### sums that trade places -/
theorem isum_add (f g : Int → Rat) : ∀ l : List (Int × Rat), isum (fun v => f v + g v) l = isum f l + isum g l
  | [] => (Rat.zero_add 0).symm
  | p :: l => by
    show (f p.1 + g p.1) * p.2 + isum (fun v => f v + g v) l = (f p.1 * p.2 + isum f l) + (g p.1 * p.2 + isum g l)
    rw [isum_add f g l]
    grind
theorem isum_zero : ∀ l : List (Int × Rat), isum (fun _ => 0) l = 0
  | [] => rfl
  | p :: l => by
    show 0 * p.2 + isum (fun _ => 0) l = 0
    rw [isum_zero l]
    grind
theorem isum_swap (h : Int → Int → Rat) (b : List (Int × Rat)) : ∀ a : List (Int × Rat), isum (fun v => isum (fun u => h v u) b) a = isum (fun u => isum (fun v => h v u) a) b
  | [] => (isum_zero b).symm
  | p :: a => by
    show isum (fun u => h p.1 u) b * p.2 + isum (fun v => isum (fun u => h v u) b) a = isum (fun u => h p.1 u * p.2 + isum (fun v => h v u) a) b
    rw [isum_add, isum_swap h b a, ← isum_congr (g := fun u => p.2 * h p.1 u) (fun v => Rat.mul_comm _ _), isum_mul, Rat.mul_comm]
theorem wt_conv_comm (a b : List (Int × Rat)) (v : Int) : wt (conv a b) v = wt (conv b a) v := by
  rw [wt_isum, wt_isum, isum_conv, isum_conv, isum_swap]
  exact isum_congr (fun u => isum_congr (fun w => by rw [Int.add_comm]) a) b
theorem gath_comm (a b : List (Int × Rat)) : gath (conv a b) = gath (conv b a) := gath_ext (wt_conv_comm a b)

/-! ### mixtures -/
theorem zip_rev {X Y : Type} : ∀ (xs : List X) (ys : List Y), xs.length = ys.length → xs.reverse.zip ys.reverse = (xs.zip ys).reverse
  | [], [], _ => rfl
  | x :: xs, y :: ys, h => by
    have h' : xs.length = ys.length := by simpa using h
    rw [List.reverse_cons, List.reverse_cons, List.zip_append (by simp [h']), zip_rev xs ys h']
    show _ = ((x, y) :: xs.zip ys).reverse
    rw [List.reverse_cons]
    rfl
  | [], _ :: _, h => by simp at h
  | _ :: _, [], h => by simp at h
theorem mixl_rev {ss : List (List (Int × Rat))} {cs : List Rat} (h : ss.length = cs.length) : gath (mixl ss.reverse cs.reverse) = gath (mixl ss cs) := by
  refine gath_ext fun v => wt_perm ?_ v
  unfold mixl
  rw [zip_rev ss cs h]
  exact (List.reverse_perm (ss.zip cs)).flatMap_right _
theorem mixl_cons (s : List (Int × Rat)) (ss : List (List (Int × Rat))) (c : Rat) (cs : List Rat) : mixl (s :: ss) (c :: cs) = (s.map fun p => (p.1, c * p.2)) ++ mixl ss cs := by
  unfold mixl
  rw [List.zip_cons_cons, List.flatMap_cons]
theorem mixl_app {ss ss' : List (List (Int × Rat))} {cs cs' : List Rat} (h : ss.length = cs.length) : mixl (ss ++ ss') (cs ++ cs') = mixl ss cs ++ mixl ss' cs' := by
  unfold mixl
  rw [List.zip_append h, List.flatMap_append]
theorem wt_zero (s : List (Int × Rat)) (v : Int) : wt (s.map fun p => (p.1, 0 * p.2)) v = 0 := by
  induction s with
  | nil => rfl
  | cons p s ih =>
    rw [List.map_cons]
    show (if p.1 = v then 0 * p.2 else 0) + wt (s.map fun p => (p.1, 0 * p.2)) v = 0
    rw [ih]
    split <;> grind
theorem wt_mixl_zero : ∀ (ss : List (List (Int × Rat))) (n : Nat) (v : Int), wt (mixl ss (List.replicate n 0)) v = 0
  | [], _, v => rfl
  | s :: ss, 0, v => rfl
  | s :: ss, n + 1, v => by
    rw [List.replicate_succ, mixl_cons, wt_app, wt_zero, wt_mixl_zero ss n v]
    exact Rat.zero_add 0
theorem mixl_len : ∀ {ss : List (List (Int × Rat))} {cs : List Rat} {n : Nat}, (∀ s ∈ ss, s.length ≤ n) → (mixl ss cs).length ≤ ss.length * n
  | [], cs, n, _ => by simp [mixl]
  | s :: ss, [], n, _ => by simp [mixl]
  | s :: ss, c :: cs, n, h => by
    rw [mixl_cons, List.length_append, List.length_map, List.length_cons, Nat.add_mul, Nat.one_mul]
    have a := h s List.mem_cons_self
    have b := mixl_len (cs := cs) fun t ht => h t (List.mem_cons_of_mem s ht)
    omega
/-- 1 / n and -1 / n as tuples -/
theorem unit_fq {n : Int} (h : 0 < n) : fq (((1 : Int) : Rat) / (n : Rat)) = .tuple [.int 1, .int n] := by
  rw [← fr_fq (by omega)]
  unfold fr gg
  rw [if_neg (by omega)]
  have e : Nat.gcd (1 : Int).natAbs n.natAbs = 1 := Nat.gcd_one_left _
  rw [e]
  show PyData.tuple [.int (Int.fdiv _ 1), .int (n.fdiv 1)] = _
  rw [Int.fdiv_one, Int.fdiv_one]
theorem nunit_fq {n : Int} (h : 0 < n) : fq (((-1 : Int) : Rat) / (n : Rat)) = .tuple [.int (-1), .int n] := by
  rw [← fr_fq (by omega)]
  unfold fr gg
  rw [if_neg (by omega)]
  have e : Nat.gcd (-1 : Int).natAbs n.natAbs = 1 := Nat.gcd_one_left _
  rw [e]
  show PyData.tuple [.int (Int.fdiv _ 1), .int (n.fdiv 1)] = _
  rw [Int.fdiv_one, Int.fdiv_one]
theorem unit_ne {t n : Int} (h : 0 < n) (ht : t ≠ 0) : (t : Rat) / (n : Rat) ≠ 0 := by
  have b : (0 : Rat) < (n : Rat) := Rat.intCast_lt_intCast.mpr h
  have c : (t : Rat) ≠ 0 := fun e => ht (Rat.intCast_inj.mp e)
  grind
theorem nunit_neg {n : Int} (h : 0 < n) : ((-1 : Int) : Rat) / (n : Rat) < 0 := by
  have b : (0 : Rat) < (n : Rat) := Rat.intCast_lt_intCast.mpr h
  have : (0 : Rat) < 1 / (n : Rat) := by rw [Rat.div_def, Rat.one_mul]; exact Rat.inv_pos.mpr b
  have e : ((-1 : Int) : Rat) = -1 := rfl
  rw [e]
  grind
theorem QN.of_dvd {D N D' : Nat} {q : Rat} (h : QN D N q) {k : Nat} (hk : 0 < k) (e : D' = D * k) : QN D' (N * k) q := by
  rw [e]
  exact h.scale hk
end Dee

/-! printed by mklib.py -/
namespace Dee
open PySem PySem.Spec
/-- treaty, amount, layer, top, low -/
def t_remaining : FnT := ⟨2, 5, (.cons (.for (.nm 2) (.of (.idx (.var 0) (.int 1))) (.cons (.iff (.cmp .eq (.idx (.var 2) (.int 0)) (.str "share")) (.cons (.setT [3, 4] (.idx (.var 2) (.int 1))) (.cons (.set 1 (.neg (.bin .fdiv (.bin .mul (.neg (.var 1)) (.var 3)) (.var 4)))) .nil)) (.cons (.iff (.cmp .eq (.idx (.var 2) (.int 0)) (.str "limit")) (.cons (.set 1 (.blt .min2 (.cons (.var 1) (.cons (.idx (.var 2) (.int 1)) .nil)))) .nil) (.cons (.set 1 (.bin .add (.bin .sub (.var 1) (.blt .min2 (.cons (.var 1) (.cons (.idx (.var 2) (.int 2)) .nil)))) (.blt .min2 (.cons (.var 1) (.cons (.idx (.var 2) (.int 1)) .nil))))) .nil)) .nil)) .nil)) (.cons (.ret (.var 1)) .nil)), false⟩
/-- treaty, spread, amount, chance -/
def t_after_treaty (f_gathered f_remaining : Nat) : FnT := ⟨2, 4, (.cons (.retC f_gathered (.cons (.lc [2, 3] (.tp [2, 3]) (.of (.var 1)) .nil (.tup (.cons (.call f_remaining (.cons (.var 0) (.cons (.var 2) .nil))) (.cons (.var 3) .nil)))) .nil)) .nil), true⟩
/-- house, weather -/
def t_weather_at (c_OutOfRange : Nat) : FnT := ⟨2, 2, (.cons (.iff (.not (.chn .le .lt (.int 0) (.var 1) (.blt .len (.cons (.idx (.var 0) (.int 0)) .nil)))) (.cons (.raise c_OutOfRange) .nil) .nil) (.cons (.ret (.idx (.idx (.var 0) (.int 0)) (.var 1))) .nil)), false⟩
/-- house, weather, total, line -/
def t_total_damage (f_weather_at f_sum_of : Nat) : FnT := ⟨2, 4, (.cons (.setO 2 (.lst (.cons (.tup (.cons (.int 0) (.cons (.tup (.cons (.int 1) (.cons (.int 1) .nil))) .nil))) .nil))) (.cons (.for (.nm 3) (.of (.idx (.call f_weather_at (.cons (.var 0) (.cons (.var 1) .nil))) (.int 1))) (.frz 2 (.cons (.setC 2 f_sum_of (.cons (.var 2) (.cons (.var 3) .nil))) .nil))) (.cons (.retO 2) .nil))), true⟩
/-- house, weather, treaty, kept, premium, _, price, amount, chance -/
def t_change_of (f_weather_at c_OutOfRange f_after_treaty f_total_damage f_shifted : Nat) : FnT := ⟨3, 9, (.cons (.setT [4, 5, 5] (.call f_weather_at (.cons (.var 0) (.cons (.var 1) .nil)))) (.cons (.iff (.not (.chn .le .lt (.int 0) (.var 2) (.blt .len (.cons (.idx (.var 0) (.int 1)) .nil)))) (.cons (.raise c_OutOfRange) .nil) .nil) (.cons (.setT [6, 5] (.idx (.idx (.var 0) (.int 1)) (.var 2))) (.cons (.set 3 (.call f_after_treaty (.cons (.idx (.idx (.var 0) (.int 1)) (.var 2)) (.cons (.call f_total_damage (.cons (.var 0) (.cons (.var 1) .nil))) .nil)))) (.cons (.retC f_shifted (.cons (.rev (.lc [7, 8] (.tp [7, 8]) (.of (.var 3)) .nil (.tup (.cons (.neg (.var 7)) (.cons (.var 8) .nil))))) (.cons (.bin .sub (.var 4) (.var 6)) .nil))) .nil))))), true⟩
/-- _law_cell_here, _law_most, _law_draws_here, _law_layers, _law_k, _law_part, _law_low, _law_high, _law_top, _law_below -/
def t_law_treaty (f__law_draws f__law_fraction : Nat) : FnT := ⟨2, 10, (.cons (.set 2 (.call f__law_draws (.cons (.var 0) (.cons (.bin .add (.lst (.cons (.var 1) (.cons (.int 5) .nil))) (.bin .mul (.lst (.cons (.int 3) (.cons (.int 5) (.cons (.int 6) (.cons (.int 40) (.cons (.int 40) (.cons (.int 4) (.cons (.int 1001) (.cons (.int 1001) .nil))))))))) (.int 4))) .nil)))) (.cons (.setO 3 (.lst .nil)) (.cons (.for (.nm 4) (.r1 (.idx (.var 2) (.int 1))) (.cons (.set 5 (.sl (.var 2) (.cons (.bin .add (.int 2) (.bin .mul (.int 8) (.var 4))) .nil) (.cons (.bin .add (.int 10) (.bin .mul (.int 8) (.var 4))) .nil))) (.cons (.setT [6, 7] (.lst (.cons (.idx (.var 5) (.int 3)) (.cons (.idx (.var 5) (.int 4)) .nil)))) (.cons (.setT [8, 9] (.lst (.cons (.idx (.var 5) (.int 1)) (.cons (.idx (.var 5) (.int 2)) .nil)))) (.cons (.iff (.cmp .eq (.idx (.var 5) (.int 5)) (.int 0)) (.cons (.setT [6, 7] (.lst (.cons (.idx (.var 5) (.int 6)) (.cons (.idx (.var 5) (.int 7)) .nil)))) (.cons (.setT [8, 9] (.lst (.cons (.idx (.var 5) (.int 6)) (.cons (.idx (.var 5) (.int 7)) .nil)))) .nil)) .nil) (.cons (.iff (.cmp .eq (.idx (.var 5) (.int 5)) (.int 1)) (.cons (.setT [8, 9] (.lst (.cons (.bin .add (.int 1) (.idx (.var 5) (.int 6))) (.cons (.bin .add (.bin .add (.int 1001) (.idx (.var 5) (.int 6))) (.bin .mul (.int 1000) (.idx (.var 5) (.int 7)))) .nil)))) .nil) .nil) (.cons (.iff (.cmp .eq (.idx (.var 5) (.int 0)) (.int 0)) (.cons (.app 3 (.tup (.cons (.str "share") (.cons (.call f__law_fraction (.cons (.blt .min2 (.cons (.var 8) (.cons (.var 9) .nil))) (.cons (.blt .max3 (.cons (.int 1) (.cons (.var 8) (.cons (.var 9) .nil)))) .nil))) .nil)))) .nil) (.cons (.iff (.cmp .eq (.idx (.var 5) (.int 0)) (.int 1)) (.cons (.app 3 (.tup (.cons (.str "limit") (.cons (.idx (.lst (.cons (.var 6) (.cons (.int 1000) .nil))) (.blt .int (.cons (.cmp .eq (.bin .mod (.blt .int (.cons (.var 7) .nil)) (.int 13)) (.int 5)) .nil))) .nil)))) .nil) (.cons (.app 3 (.tup (.cons (.str "band") (.cons (.blt .min2 (.cons (.var 6) (.cons (.var 7) .nil))) (.cons (.blt .max2 (.cons (.var 6) (.cons (.var 7) .nil))) .nil))))) .nil)) .nil)) .nil))))))) (.frz 3 (.cons (.ret (.tup (.cons (.idx (.var 2) (.int 0)) (.cons (.var 3) .nil)))) .nil))))), false⟩
/-- _law_treaty_here, _law_amount, _law_layer -/
def t_law_remaining : FnT := ⟨2, 3, (.cons (.for (.nm 2) (.of (.idx (.var 0) (.int 1))) (.cons (.iff (.cmp .eq (.idx (.var 2) (.int 0)) (.str "share")) (.cons (.set 1 (.neg (.bin .fdiv (.neg (.bin .mul (.var 1) (.idx (.idx (.var 2) (.int 1)) (.int 0)))) (.idx (.idx (.var 2) (.int 1)) (.int 1))))) .nil) (.cons (.iff (.cmp .eq (.idx (.var 2) (.int 0)) (.str "limit")) (.cons (.set 1 (.blt .min2 (.cons (.var 1) (.cons (.idx (.var 2) (.int 1)) .nil)))) .nil) (.cons (.set 1 (.bin .add (.bin .sub (.var 1) (.blt .min2 (.cons (.var 1) (.cons (.idx (.var 2) (.int 2)) .nil)))) (.blt .min2 (.cons (.var 1) (.cons (.idx (.var 2) (.int 1)) .nil))))) .nil)) .nil)) .nil)) (.cons (.ret (.var 1)) .nil)), false⟩
/-- _law_treaty_here, _law_spread_here, _law_item -/
def t_law_after_treaty (f__law_gathered f__law_remaining : Nat) : FnT := ⟨2, 3, (.cons (.ret (.call f__law_gathered (.cons (.lc [2] (.nm 2) (.of (.var 1)) .nil (.tup (.cons (.call f__law_remaining (.cons (.var 0) (.cons (.idx (.var 2) (.int 0)) .nil))) (.cons (.idx (.var 2) (.int 1)) .nil)))) .nil))) .nil), false⟩
/-- _law_cell_here, _law_more, _law_places, _law_lines, _law_wide, _law_draws_here, _law_count, _law_size, _law_weathers, _law_k, _law_treaties, _law_part, _law_found, _law_turns, _law_j -/
def t_law_house (f__law_draws f__law_spread f__law_treaty : Nat) : FnT := ⟨5, 15, (.cons (.set 5 (.call f__law_draws (.cons (.var 0) (.cons (.bin .add (.lst (.cons (.var 2) (.cons (.int 4) .nil))) (.bin .mul (.lst (.cons (.bin .pow (.int 10) (.int 9)) .nil)) (.int 4))) .nil)))) (.cons (.set 6 (.bin .add (.int 1) (.idx (.var 5) (.int 0)))) (.cons (.set 7 (.idx (.lst (.cons (.int 9) (.cons (.int 1001) .nil))) (.var 4))) (.cons (.setO 8 (.lst .nil)) (.cons (.for (.nm 9) (.r1 (.var 6)) (.cons (.set 11 (.call f__law_draws (.cons (.bin .add (.bin .fdiv (.blt .int (.cons (.var 1) .nil)) (.bin .add (.var 9) (.int 1))) (.bin .mul (.int 7) (.var 9))) (.cons (.bin .add (.lst (.cons (.idx (.lst (.cons (.int 7) (.cons (.int 1001) .nil))) (.var 4)) (.cons (.var 3) .nil))) (.bin .mul (.lst (.cons (.bin .pow (.int 10) (.int 9)) .nil)) (.int 4))) .nil)))) (.cons (.set 12 (.lc [14] (.nm 14) (.r1 (.idx (.var 11) (.int 1))) .nil (.call f__law_spread (.cons (.idx (.var 11) (.bin .add (.int 2) (.var 14))) (.cons (.int 3) (.cons (.int 0) (.cons (.var 7) .nil))))))) (.cons (.set 13 (.call f__law_spread (.cons (.idx (.var 11) (.int 5)) (.cons (.int 2) (.cons (.int 0) (.cons (.var 6) .nil)))))) (.cons (.app 8 (.tup (.cons (.idx (.var 11) (.int 0)) (.cons (.var 12) (.cons (.var 13) .nil))))) .nil))))) (.cons (.set 10 (.lc [9] (.nm 9) (.r1 (.bin .add (.int 1) (.idx (.var 5) (.int 1)))) .nil (.call f__law_treaty (.cons (.bin .add (.idx (.var 5) (.bin .add (.int 2) (.var 9))) (.var 9)) (.cons (.idx (.lst (.cons (.int 4) (.cons (.int 1001) .nil))) (.var 4)) .nil))))) (.frz 8 (.cons (.ret (.tup (.cons (.var 8) (.cons (.var 10) .nil)))) .nil)))))))), false⟩
/-- _law_house_here, _law_weather, _law_found, _law_line -/
def t_law_damage (f__law_sum : Nat) : FnT := ⟨2, 4, (.cons (.set 2 (.lst (.cons (.tup (.cons (.int 0) (.cons (.tup (.cons (.int 1) (.cons (.int 1) .nil))) .nil))) .nil))) (.cons (.for (.nm 3) (.of (.idx (.idx (.idx (.var 0) (.int 0)) (.var 1)) (.int 1))) (.cons (.set 2 (.call f__law_sum (.cons (.var 2) (.cons (.var 3) .nil)))) .nil)) (.cons (.ret (.var 2)) .nil))), false⟩
/-- _law_house_here, _law_weather, _law_treaty_here, _law_premium, _law_price, _law_layers, _law_item -/
def t_law_change (f__law_gathered f__law_damage f__law_remaining : Nat) : FnT := ⟨3, 7, (.cons (.setT [4, 5] (.idx (.idx (.var 0) (.int 1)) (.var 2))) (.cons (.set 3 (.idx (.idx (.idx (.var 0) (.int 0)) (.var 1)) (.int 0))) (.cons (.ret (.call f__law_gathered (.cons (.lc [6] (.nm 6) (.of (.call f__law_damage (.cons (.var 0) (.cons (.var 1) .nil)))) .nil (.tup (.cons (.bin .sub (.bin .sub (.var 3) (.var 4)) (.call f__law_remaining (.cons (.idx (.idx (.var 0) (.int 1)) (.var 2)) (.cons (.idx (.var 6) (.int 0)) .nil)))) (.cons (.idx (.var 6) (.int 1)) .nil)))) .nil))) .nil))), false⟩
end Dee

set_option maxRecDepth 100000
set_option maxHeartbeats 1000000
/-! Dee, part 39: treaties. -/
namespace Dee
open PySem PySem.Spec L2 PyProof.Rows
inductive Layer where
  | share (q : Rat)
  | limit (a : Int)
  | band (a b : Int)
def dL : Layer → D
  | .share q => .tuple [.str "share", fq q]
  | .limit a => .tuple [.str "limit", .int a]
  | .band a b => .tuple [.str "band", .int a, .int b]
def LOk : Layer → Prop
  | .share q => 0 ≤ q ∧ q ≤ 1 ∧ q.den < 2 ^ 30
  | .limit a => 0 ≤ a ∧ a ≤ 1000
  | .band a b => 0 ≤ a ∧ a ≤ b ∧ b ≤ 1000
/-- what a layer leaves -/
def rem1 : Layer → Int → Int
  | .share q, x => -(-(x * q.num) / ((q.den : Nat) : Int))
  | .limit a, x => min x a
  | .band a b, x => x - min x b + min x a
def rem (ls : List Layer) (x : Int) : Int := ls.foldl (fun x l => rem1 l x) x
theorem rem_snoc (ls : List Layer) (l : Layer) (x : Int) : rem (ls ++ [l]) x = rem1 l (rem ls x) := by
  unfold rem
  rw [List.foldl_append]
  rfl
theorem num_of_unit {q : Rat} (h : 0 ≤ q ∧ q ≤ 1) : 0 ≤ q.num ∧ q.num ≤ ((q.den : Nat) : Int) := by
  constructor
  · exact Rat.num_nonneg.mpr h.1
  · have h2 : ¬ (1 : Rat) < q := Rat.not_lt.mpr h.2
    rw [Rat.lt_iff] at h2
    have e : (1 : Rat).num = 1 := rfl
    have e2 : (1 : Rat).den = 1 := rfl
    rw [e, e2] at h2
    omega
theorem rem1_bd {l : Layer} (h : LOk l) {x : Int} (hx : 0 ≤ x) : 0 ≤ rem1 l x ∧ rem1 l x ≤ x := by
  cases l with
  | share q =>
    obtain ⟨n0, n1⟩ := num_of_unit ⟨h.1, h.2.1⟩
    have d0 : 0 < ((q.den : Nat) : Int) := by have := q.den_pos; omega
    have a : 0 ≤ x * q.num := Int.mul_nonneg hx n0
    have b : x * q.num ≤ x * ((q.den : Nat) : Int) := Int.mul_le_mul_of_nonneg_left n1 hx
    show 0 ≤ -(-(x * q.num) / ((q.den : Nat) : Int)) ∧ -(-(x * q.num) / ((q.den : Nat) : Int)) ≤ x
    have c : -(x * q.num) / ((q.den : Nat) : Int) ≤ 0 := by
      have := Int.ediv_le_ediv d0 (show -(x * q.num) ≤ 0 by omega)
      simpa using this
    have d : -x ≤ -(x * q.num) / ((q.den : Nat) : Int) := by
      have := Int.ediv_le_ediv d0 (show -(x * ((q.den : Nat) : Int)) ≤ -(x * q.num) by omega)
      rw [← Int.neg_mul, Int.mul_ediv_cancel _ (by omega)] at this
      exact this
    omega
  | limit a => obtain ⟨h1, h2⟩ := h; show 0 ≤ min x a ∧ min x a ≤ x; omega
  | band a b => obtain ⟨h1, h2, h3⟩ := h; show 0 ≤ x - min x b + min x a ∧ x - min x b + min x a ≤ x; omega
theorem rem_bd : ∀ {ls : List Layer}, (∀ l ∈ ls, LOk l) → ∀ {x : Int}, 0 ≤ x → 0 ≤ rem ls x ∧ rem ls x ≤ x := by
  intro ls
  induction ls using snoc_ind with
  | h0 => exact fun _ x hx => ⟨hx, Int.le_refl _⟩
  | h1 ls l ih =>
    intro h x hx
    rw [rem_snoc]
    have a := ih (fun m hm => h m (by simp [hm])) hx
    have b := rem1_bd (h l (by simp)) a.1
    omega
/-- a treaty as data -/
def dT (t : Int × List Layer) : D := .tuple [.int t.1, .list (t.2.map dL)]
theorem ss_sh : cmpB .eq (.str "share") (.str "share") = .ok true := by
  show eqD (.str "share") (.str "share") = .ok true
  exact eqD_same rfl
theorem ss_li : cmpB .eq (.str "limit") (.str "limit") = .ok true := by
  show eqD (.str "limit") (.str "limit") = .ok true
  exact eqD_same rfl
theorem ss_b1 : cmpB .eq (.str "limit") (.str "share") = .ok false := congrArg Except.ok (by decide +kernel)
theorem ss_b2 : cmpB .eq (.str "band") (.str "share") = .ok false := congrArg Except.ok (by decide +kernel)
theorem ss_b3 : cmpB .eq (.str "band") (.str "limit") = .ok false := congrArg Except.ok (by decide +kernel)
theorem ev_str {E : Evn} {Γ : List Sl} {x : Str} : ev E (.str x) Γ = .ok (.str x) := rfl
theorem bd60 {x : Int} (h : 0 ≤ x ∧ x < 2 ^ 60) : Bd 60 x := by
  unfold Bd
  have e : (2 : Int) ^ 60 = 1152921504606846976 := by decide
  have e2 : (2 : Nat) ^ 60 = 1152921504606846976 := by decide
  rw [e] at h
  omega
theorem bd30 {q : Rat} (h : 0 ≤ q ∧ q ≤ 1 ∧ q.den < 2 ^ 30) : Bd 30 q.num ∧ Bd 30 ((q.den : Nat) : Int) := by
  obtain ⟨a, b⟩ := num_of_unit ⟨h.1, h.2.1⟩
  have := h.2.2
  unfold Bd
  omega
theorem fdiv_den (q : Rat) (h : q.den < 2 ^ 30) (y : Int) : binD .fdiv (.int y) (.int ((q.den : Nat) : Int)) = .ok (.int (y / ((q.den : Nat) : Int))) := b_div (by have := q.den_pos; omega) (Nat.lt_of_lt_of_le (show ((q.den : Nat) : Int).natAbs < 2 ^ 30 by omega) (pow_lt_pow (by decide)))
def IsRem (E : Evn) (n : Nat) : Prop := ∀ (p : Int) (ls : List Layer) (x : Int), (∀ l ∈ ls, LOk l) → 0 ≤ x → x < 2 ^ 60 → E.F n [dT (p, ls), .int x] = .ok (.int (rem ls x))
section
variable {E : Evn}
theorem t_remaining_ok (p : Int) {ls : List Layer} {x : Int} (h : ∀ l ∈ ls, LOk l) (hx : 0 ≤ x) (hx2 : x < 2 ^ 60) : runF E t_remaining [dT (p, ls), .int x] = .ok (.int (rem ls x)) := by
  refine run_wp rfl ?_
  refine wp_for (enc := dL) (xs := ls) (fun pre Γ => ∃ s2 s3 s4, Γ = [.sh (dT (p, ls)), .sh (.int (rem pre x)), s2, s3, s4]) (evI_lst (ev_idx (ev_var rfl) ev_int rfl)) ⟨.non, .non, .non, rfl⟩ ?_ ?_
  · rintro pre l post Γ e ⟨s2, s3, s4, rfl⟩
    have hl : LOk l := h l (by rw [e]; simp)
    have hb := rem_bd (ls := pre) (fun m hm => h m (by rw [e]; simp [hm])) hx
    have hbd : Bd 60 (rem pre x) := bd60 ⟨hb.1, by omega⟩
    simp only [rem_snoc]
    refine ⟨[.sh (dT (p, ls)), .sh (.int (rem pre x)), .sh (dL l), s3, s4], rfl, ?_⟩
    generalize rem pre x = y at hbd
    cases l with
    | share q =>
      obtain ⟨b1, b2⟩ := bd30 hl
      refine wp_ift (ev_cmp (ev_idx (ev_var rfl) ev_int rfl) ev_str ss_sh) ?_
      refine wp_setT (ds := [.int q.num, .int ((q.den : Nat) : Int)]) (ev_idx (ev_var rfl) ev_int rfl) rfl ?_
      refine wp_set (d := .int (-(-(y * q.num) / ((q.den : Nat) : Int)))) ?_ (by simp) (wp_skip (wp_nil ⟨_, _, _, rfl⟩))
      rw [← Int.neg_mul]
      exact ev_neg (ev_bin (ev_bin (ev_neg (ev_var rfl)) (ev_var rfl) (b_mul (hbd.neg.ok b1))) (ev_var rfl) (fdiv_den q hl.2.2 _))
    | limit a =>
      refine wp_iff (ev_cmp (ev_idx (ev_var rfl) ev_int rfl) ev_str ss_b1) ?_
      refine wp_ift (ev_cmp (ev_idx (ev_var rfl) ev_int rfl) ev_str ss_li) ?_
      exact wp_set (d := .int (min y a)) (ev_min2 (ev_var rfl) (ev_idx (ev_var rfl) ev_int rfl)) (by simp) (wp_skip (wp_skip (wp_nil ⟨_, _, _, rfl⟩)))
    | band a b =>
      refine wp_iff (ev_cmp (ev_idx (ev_var rfl) ev_int rfl) ev_str ss_b2) ?_
      refine wp_iff (ev_cmp (ev_idx (ev_var rfl) ev_int rfl) ev_str ss_b3) ?_
      exact wp_set (d := .int (y - min y b + min y a)) (ev_add (ev_sub (ev_var rfl) (ev_min2 (ev_var rfl) (ev_idx (ev_var rfl) ev_int rfl))) (ev_min2 (ev_var rfl) (ev_idx (ev_var rfl) ev_int rfl))) (by simp) (wp_skip (wp_skip (wp_nil ⟨_, _, _, rfl⟩)))
  · rintro Γ ⟨s2, s3, s4, rfl⟩
    exact wp_ret (ev_var rfl) rfl
theorem t_law_remaining_ok (p : Int) {ls : List Layer} {x : Int} (h : ∀ l ∈ ls, LOk l) (hx : 0 ≤ x) (hx2 : x < 2 ^ 60) : runF E t_law_remaining [dT (p, ls), .int x] = .ok (.int (rem ls x)) := by
  refine run_wp rfl ?_
  refine wp_for (enc := dL) (xs := ls) (fun pre Γ => ∃ s2, Γ = [.sh (dT (p, ls)), .sh (.int (rem pre x)), s2]) (evI_lst (ev_idx (ev_var rfl) ev_int rfl)) ⟨.non, rfl⟩ ?_ ?_
  · rintro pre l post Γ e ⟨s2, rfl⟩
    have hl : LOk l := h l (by rw [e]; simp)
    have hb := rem_bd (ls := pre) (fun m hm => h m (by rw [e]; simp [hm])) hx
    have hbd : Bd 60 (rem pre x) := bd60 ⟨hb.1, by omega⟩
    simp only [rem_snoc]
    refine ⟨[.sh (dT (p, ls)), .sh (.int (rem pre x)), .sh (dL l)], rfl, ?_⟩
    generalize rem pre x = y at hbd
    cases l with
    | share q =>
      obtain ⟨b1, b2⟩ := bd30 hl
      refine wp_ift (ev_cmp (ev_idx (ev_var rfl) ev_int rfl) ev_str ss_sh) ?_
      have hq : ev E (.idx (.var 2) (.int 1)) [.sh (dT (p, ls)), .sh (.int y), .sh (dL (.share q))] = .ok (fq q) := ev_idx (ev_var rfl) ev_int rfl
      exact wp_set (d := .int (-(-(y * q.num) / ((q.den : Nat) : Int)))) (ev_neg (ev_bin (ev_neg (ev_bin (ev_var rfl) (ev_idx hq ev_int (fq_idx0 q)) (b_mul (hbd.ok b1)))) (ev_idx hq ev_int (fq_idx1 q)) (fdiv_den q hl.2.2 _))) (by simp) (wp_skip (wp_nil ⟨_, rfl⟩))
    | limit a =>
      refine wp_iff (ev_cmp (ev_idx (ev_var rfl) ev_int rfl) ev_str ss_b1) ?_
      refine wp_ift (ev_cmp (ev_idx (ev_var rfl) ev_int rfl) ev_str ss_li) ?_
      exact wp_set (d := .int (min y a)) (ev_min2 (ev_var rfl) (ev_idx (ev_var rfl) ev_int rfl)) (by simp) (wp_skip (wp_skip (wp_nil ⟨_, rfl⟩)))
    | band a b =>
      refine wp_iff (ev_cmp (ev_idx (ev_var rfl) ev_int rfl) ev_str ss_b2) ?_
      refine wp_iff (ev_cmp (ev_idx (ev_var rfl) ev_int rfl) ev_str ss_b3) ?_
      exact wp_set (d := .int (y - min y b + min y a)) (ev_add (ev_sub (ev_var rfl) (ev_min2 (ev_var rfl) (ev_idx (ev_var rfl) ev_int rfl))) (ev_min2 (ev_var rfl) (ev_idx (ev_var rfl) ev_int rfl))) (by simp) (wp_skip (wp_skip (wp_nil ⟨_, rfl⟩)))
  · rintro Γ ⟨s2, rfl⟩
    exact wp_ret (ev_var rfl) rfl
/-- the image of a spread under a treaty -/
def aft (ls : List Layer) (s : List (Int × Rat)) : List (Int × Rat) := s.map fun p => (rem ls p.1, p.2)
def IsAft (E : Evn) (n : Nat) : Prop := ∀ (D N : Nat) (t : Int × List Layer) (s : List (Int × Rat)), (∀ l ∈ t.2, LOk l) → (∀ p ∈ s, 0 ≤ p.1 ∧ p.1 < 2 ^ 60) → 0 < D → (∀ p ∈ s, QN D N p.2) → D < lim → s.length * N < lim → (ks (aft t.2 s)).length < 64 → s.length ≤ most → E.F n [dT t, .list (s.map pq)] = .ok (.list ((gath (aft t.2 s)).map pq))
theorem t_after_treaty_ok {f g : Nat} (hg : IsGath E f) (hr : IsRem E g) {D N : Nat} {t : Int × List Layer} {s : List (Int × Rat)} (h : ∀ l ∈ t.2, LOk l) (hv : ∀ p ∈ s, 0 ≤ p.1 ∧ p.1 < 2 ^ 60) (hD : 0 < D) (hq : ∀ p ∈ s, QN D N p.2) (h1 : D < lim) (h2 : s.length * N < lim) (h3 : (ks (aft t.2 s)).length < 64) (h4 : s.length ≤ most) :
    runF E (t_after_treaty f g) [dT t, .list (s.map pq)] = .ok (.list ((gath (aft t.2 s)).map pq)) := by
  have key := hg D N (aft t.2 s) hD (fun p hp => by
    obtain ⟨q, hq', rfl⟩ := List.mem_map.mp hp
    exact hq q hq') h1 (by unfold aft; rw [List.length_map]; exact h2) h3 (by unfold aft; rw [List.length_map]; exact h4)
  refine run_wp rfl ?_
  have z := evF_lc (E := E) (Γ := slots 4 [dT t, .list (s.map pq)]) (enc := pq) (g := fun p => pq (rem t.2 p.1, p.2)) (xs := s) (vs := [2, 3]) (tg := .tp [2, 3]) (it := .of (.var 1)) (el := .tup (.cons (.call g (.cons (.var 0) (.cons (.var 2) .nil))) (.cons (.var 3) .nil)))
    (evI_lst (ev_var rfl)) h4 (fun p hp => ⟨[.sh (dT t), .sh (.list (s.map pq)), .sh (.int p.1), .sh (fq p.2)], rfl, ev_tup2 (ev_call (evs_2 (ev_var rfl) (ev_var rfl)) (hr t.1 t.2 p.1 h (hv p hp).1 (hv p hp).2)) (ev_var rfl)⟩)
  rw [show (s.map fun p => pq (rem t.2 p.1, p.2)) = (aft t.2 s).map pq by unfold aft; rw [List.map_map]; rfl] at z
  exact wp_retC (d := .list ((gath (aft t.2 s)).map pq)) (evs_1 (ev_lc z)) key rfl
theorem t_law_after_treaty_ok {f g : Nat} (hg : IsGath E f) (hr : IsRem E g) {D N : Nat} {t : Int × List Layer} {s : List (Int × Rat)} (h : ∀ l ∈ t.2, LOk l) (hv : ∀ p ∈ s, 0 ≤ p.1 ∧ p.1 < 2 ^ 60) (hD : 0 < D) (hq : ∀ p ∈ s, QN D N p.2) (h1 : D < lim) (h2 : s.length * N < lim) (h3 : (ks (aft t.2 s)).length < 64) (h4 : s.length ≤ most) :
    runF E (t_law_after_treaty f g) [dT t, .list (s.map pq)] = .ok (.list ((gath (aft t.2 s)).map pq)) := by
  have key := hg D N (aft t.2 s) hD (fun p hp => by
    obtain ⟨q, hq', rfl⟩ := List.mem_map.mp hp
    exact hq q hq') h1 (by unfold aft; rw [List.length_map]; exact h2) h3 (by unfold aft; rw [List.length_map]; exact h4)
  refine run_wp rfl ?_
  have z := evF_lc (E := E) (Γ := slots 3 [dT t, .list (s.map pq)]) (enc := pq) (g := fun p => pq (rem t.2 p.1, p.2)) (xs := s) (vs := [2]) (tg := .nm 2) (it := .of (.var 1)) (el := .tup (.cons (.call g (.cons (.var 0) (.cons (.idx (.var 2) (.int 0)) .nil))) (.cons (.idx (.var 2) (.int 1)) .nil)))
    (evI_lst (ev_var rfl)) h4 (fun p hp => ⟨[.sh (dT t), .sh (.list (s.map pq)), .sh (pq p)], rfl, ev_tup2 (ev_call (evs_2 (ev_var rfl) (ev_idx (ev_var rfl) ev_int (pq_idx0 p))) (hr t.1 t.2 p.1 h (hv p hp).1 (hv p hp).2)) (ev_idx (ev_var rfl) ev_int (pq_idx1 p))⟩)
  rw [show (s.map fun p => pq (rem t.2 p.1, p.2)) = (aft t.2 s).map pq by unfold aft; rw [List.map_map]; rfl] at z
  exact wp_ret (d := .list ((gath (aft t.2 s)).map pq)) (ev_call (evs_1 (ev_lc z)) key) rfl
end
end Dee

set_option maxRecDepth 100000
set_option maxHeartbeats 2000000
/-! Dee, part 40: the laws' drawn treaties. -/
namespace Dee
open PySem PySem.Spec L2 PyProof.Rows
def IsTreaty (E : Evn) (n : Nat) : Prop := ∀ (c most : Int), 0 < most → most < 2 ^ 40 → ∃ p ls, (0 ≤ p ∧ p < most) ∧ (∀ l ∈ ls, LOk l) ∧ ls.length ≤ 4 ∧ E.F n [.int c, .int most] = .ok (dT (p, ls))
theorem ev_max3 {E : Evn} {Γ : List Sl} {a b c : CE} {i j k : Int} (h : ev E a Γ = .ok (.int i)) (h2 : ev E b Γ = .ok (.int j)) (h3 : ev E c Γ = .ok (.int k)) : ev E (.blt .max3 (.cons a (.cons b (.cons c .nil)))) Γ = .ok (.int (max (max i j) k)) := by
  show (evs E (.cons a (.cons b (.cons c .nil))) Γ).bind (fun ds => bltD .max3 ds) = _
  rw [evs_cons h (evs_2 h2 h3)]
  rfl
theorem ev_intBool {E : Evn} {Γ : List Sl} {a : CE} {t : Bool} (h : ev E a Γ = .ok (.bool t)) : ev E (.blt .int (.cons a .nil)) Γ = .ok (.int (if t then 1 else 0)) := by
  show (evs E (.cons a .nil) Γ).bind (fun ds => bltD .int ds) = _
  rw [evs_1 h]
  rfl
theorem ev_tup3 {E : Evn} {Γ : List Sl} {a b c : CE} {x y z : D} (h : ev E a Γ = .ok x) (h2 : ev E b Γ = .ok y) (h3 : ev E c Γ = .ok z) : ev E (.tup (.cons a (.cons b (.cons c .nil)))) Γ = .ok (.tuple [x, y, z]) := by
  show (evs E (.cons a (.cons b (.cons c .nil))) Γ).bind (fun ds => if ds.length ≤ most then .ok (PyData.tuple ds) else unk) = _
  rw [evs_cons h (evs_2 h2 h3)]
  rfl
def tlims (m : Int) : List Int := m :: 5 :: [3, 5, 6, 40, 40, 4, 1001, 1001, 3, 5, 6, 40, 40, 4, 1001, 1001, 3, 5, 6, 40, 40, 4, 1001, 1001, 3, 5, 6, 40, 40, 4, 1001, 1001]
/-- a part of the draws -/
structure Part (p0 p1 p2 p3 p4 p5 p6 p7 : Int) : Prop where
  a0 : 0 ≤ p0 ∧ p0 < 3
  a1 : 0 ≤ p1 ∧ p1 < 5
  a2 : 0 ≤ p2 ∧ p2 < 6
  a3 : 0 ≤ p3 ∧ p3 < 40
  a4 : 0 ≤ p4 ∧ p4 < 40
  a5 : 0 ≤ p5 ∧ p5 < 4
  a6 : 0 ≤ p6 ∧ p6 < 1001
  a7 : 0 ≤ p7 ∧ p7 < 1001
theorem tparts {m : Int} {ys : List Int} (hR : Rng ys (tlims m)) : ∃ y0 y1 r, ys = y0 :: y1 :: r ∧ (0 ≤ y0 ∧ y0 < m) ∧ (0 ≤ y1 ∧ y1 < 5) ∧ r.length = 32 ∧ ∀ k, k < 4 → ∃ p0 p1 p2 p3 p4 p5 p6 p7, (r.drop (8 * k)).take 8 = [p0, p1, p2, p3, p4, p5, p6, p7] ∧ Part p0 p1 p2 p3 p4 p5 p6 p7 := by
  unfold tlims at hR
  obtain ⟨y0, ys, rfl, g0, hR⟩ := Rng_cons hR
  obtain ⟨y1, ys, rfl, g1, hR⟩ := Rng_cons hR
  obtain ⟨a0, ys, rfl, h0, hR⟩ := Rng_cons hR
  obtain ⟨a1, ys, rfl, h1, hR⟩ := Rng_cons hR
  obtain ⟨a2, ys, rfl, h2, hR⟩ := Rng_cons hR
  obtain ⟨a3, ys, rfl, h3, hR⟩ := Rng_cons hR
  obtain ⟨a4, ys, rfl, h4, hR⟩ := Rng_cons hR
  obtain ⟨a5, ys, rfl, h5, hR⟩ := Rng_cons hR
  obtain ⟨a6, ys, rfl, h6, hR⟩ := Rng_cons hR
  obtain ⟨a7, ys, rfl, h7, hR⟩ := Rng_cons hR
  obtain ⟨b0, ys, rfl, i0, hR⟩ := Rng_cons hR
  obtain ⟨b1, ys, rfl, i1, hR⟩ := Rng_cons hR
  obtain ⟨b2, ys, rfl, i2, hR⟩ := Rng_cons hR
  obtain ⟨b3, ys, rfl, i3, hR⟩ := Rng_cons hR
  obtain ⟨b4, ys, rfl, i4, hR⟩ := Rng_cons hR
  obtain ⟨b5, ys, rfl, i5, hR⟩ := Rng_cons hR
  obtain ⟨b6, ys, rfl, i6, hR⟩ := Rng_cons hR
  obtain ⟨b7, ys, rfl, i7, hR⟩ := Rng_cons hR
  obtain ⟨c0, ys, rfl, j0, hR⟩ := Rng_cons hR
  obtain ⟨c1, ys, rfl, j1, hR⟩ := Rng_cons hR
  obtain ⟨c2, ys, rfl, j2, hR⟩ := Rng_cons hR
  obtain ⟨c3, ys, rfl, j3, hR⟩ := Rng_cons hR
  obtain ⟨c4, ys, rfl, j4, hR⟩ := Rng_cons hR
  obtain ⟨c5, ys, rfl, j5, hR⟩ := Rng_cons hR
  obtain ⟨c6, ys, rfl, j6, hR⟩ := Rng_cons hR
  obtain ⟨c7, ys, rfl, j7, hR⟩ := Rng_cons hR
  obtain ⟨d0, ys, rfl, k0, hR⟩ := Rng_cons hR
  obtain ⟨d1, ys, rfl, k1, hR⟩ := Rng_cons hR
  obtain ⟨d2, ys, rfl, k2, hR⟩ := Rng_cons hR
  obtain ⟨d3, ys, rfl, k3, hR⟩ := Rng_cons hR
  obtain ⟨d4, ys, rfl, k4, hR⟩ := Rng_cons hR
  obtain ⟨d5, ys, rfl, k5, hR⟩ := Rng_cons hR
  obtain ⟨d6, ys, rfl, k6, hR⟩ := Rng_cons hR
  obtain ⟨d7, ys, rfl, k7, hR⟩ := Rng_cons hR
  match ys, hR with
  | [], _ =>
    refine ⟨y0, y1, _, rfl, g0, g1, rfl, fun k hk => ?_⟩
    have : k = 0 ∨ k = 1 ∨ k = 2 ∨ k = 3 := by omega
    rcases this with rfl | rfl | rfl | rfl
    · exact ⟨a0, a1, a2, a3, a4, a5, a6, a7, rfl, ⟨h0, h1, h2, h3, h4, h5, h6, h7⟩⟩
    · exact ⟨b0, b1, b2, b3, b4, b5, b6, b7, rfl, ⟨i0, i1, i2, i3, i4, i5, i6, i7⟩⟩
    · exact ⟨c0, c1, c2, c3, c4, c5, c6, c7, rfl, ⟨j0, j1, j2, j3, j4, j5, j6, j7⟩⟩
    · exact ⟨d0, d1, d2, d3, d4, d5, d6, d7, rfl, ⟨k0, k1, k2, k3, k4, k5, k6, k7⟩⟩
theorem frac_unit {t l : Int} (h0 : 0 ≤ t) (h1 : t ≤ l) (hl : 0 < l) (h2 : l < 2 ^ 30) : LOk (.share ((t : Rat) / (l : Rat))) := by
  have e30 : (2 : Int) ^ 30 = 1073741824 := by decide
  rw [e30] at h2
  refine ⟨rat_div_pos h0 hl, ?_, ?_⟩
  · have b : (0 : Rat) < (l : Rat) := Rat.intCast_lt_intCast.mpr hl
    have c : (t : Rat) ≤ (l : Rat) := Rat.intCast_le_intCast.mpr h1
    have d := Rat.mul_le_mul_of_nonneg_right c (Rat.le_of_lt (Rat.inv_pos.mpr b))
    rw [Rat.div_def]
    have e : (l : Rat) * (l : Rat)⁻¹ = 1 := Rat.mul_inv_cancel _ (by grind)
    rw [e] at d
    exact d
  · have := (QN.frac (t := t) (l := l) hl (N := t.natAbs) (Nat.le_refl _)).le.2
    have e : (2 : Nat) ^ 30 = 1073741824 := by decide
    omega
theorem range_split0 {n x : Nat} {pre post : List Nat} (h : List.range n = pre ++ x :: post) : x = pre.length ∧ x < n := by
  have hl : pre.length < n := by
    have := congrArg List.length h
    simp at this
    omega
  have e : (List.range n)[pre.length]'(by simpa using hl) = x := by
    simp only [h]
    simp
  rw [List.getElem_range] at e
  omega
section
variable {E : Evn} {f g : Nat}
def tlast (g : Nat) : CSs := match t_law_treaty 0 g with
  | ⟨_, _, .cons _ (.cons _ (.cons (.for _ _ b) _)), _⟩ => dropS 5 b
  | _ => .nil
theorem tt_last (hf : IsFrac E g) {x0 x1 x2 x4 : Sl} {p0 p1 p2 p3 p4 p5 p6 p7 low high top below : Int} {ls : List Layer} {Q : Out → Prop} (hl : ls.length < 100) (h1 : 0 ≤ low ∧ low ≤ 1000) (h2 : 0 ≤ high ∧ high ≤ 1000) (h3 : 0 ≤ top ∧ top < 2000000) (h4 : 0 ≤ below ∧ below < 2000000)
    (k : ∀ l, LOk l → Q (.nx [x0, x1, x2, .own ((ls ++ [l]).map dL), x4, .sh (.list [.int p0, .int p1, .int p2, .int p3, .int p4, .int p5, .int p6, .int p7]), .sh (.int low), .sh (.int high), .sh (.int top), .sh (.int below)])) :
    Wp E (tlast g) [x0, x1, x2, .own (ls.map dL), x4, .sh (.list [.int p0, .int p1, .int p2, .int p3, .int p4, .int p5, .int p6, .int p7]), .sh (.int low), .sh (.int high), .sh (.int top), .sh (.int below)] Q := by
  have key : ∀ l, (ls.map dL) ++ [dL l] = (ls ++ [l]).map dL := fun l => by rw [List.map_append]; rfl
  have lm : (ls.map dL).length < most := by rw [List.length_map]; unfold most; omega
  refine wp_if (ev_cmp (t := decide (p0 = 0)) (ev_idx (ev_var rfl) ev_int rfl) ev_int rfl) (fun _ => ?_) (fun _ => ?_)
  · have ff := hf (min top below) (max (max 1 top) below) (by omega) (bd_small (Nat.lt_of_lt_of_le (show (min top below).natAbs < 3000000 by omega) (by decide))) (bd_small (Nat.lt_of_lt_of_le (show (max (max 1 top) below).natAbs < 3000000 by omega) (by decide)))
    have lo := frac_unit (t := min top below) (l := max (max 1 top) below) (by omega) (by omega) (by omega) (by rw [show (2:Int)^30 = 1073741824 by decide]; omega)
    have kk := k _ lo
    rw [← key] at kk
    exact wp_app rfl (ev_tup2 ev_str (ev_call (evs_2 (ev_min2 (ev_var rfl) (ev_var rfl)) (ev_max3 ev_int (ev_var rfl) (ev_var rfl))) ff)) lm (wp_skip (wp_nil kk))
  · refine wp_if (ev_cmp (t := decide (p0 = 1)) (ev_idx (ev_var rfl) ev_int rfl) ev_int rfl) (fun _ => ?_) (fun _ => ?_)
    · have sel : ∃ a : Int, (0 ≤ a ∧ a ≤ 1000) ∧ idxD (.list [.int low, .int 1000]) (.int (if decide (high % 13 = 5) then 1 else 0)) = .ok (.int a) := by
        by_cases h : high % 13 = 5
        · rw [decide_eq_true h]
          exact ⟨1000, by decide, rfl⟩
        · rw [decide_eq_false h]
          exact ⟨low, h1, rfl⟩
      obtain ⟨a, ha, ea⟩ := sel
      have kk := k (.limit a) ha
      rw [← key] at kk
      exact wp_app rfl (ev_tup2 ev_str (ev_idx (ev_lst (evs_2 (ev_var rfl) ev_int) (show 2 ≤ 1000000 by decide)) (ev_intBool (ev_cmp (ev_bin (ev_intB (ev_var rfl)) ev_int (b_mod (by decide))) ev_int rfl)) ea)) lm (wp_skip (wp_skip (wp_nil kk)))
    · have kk := k (.band (min low high) (max low high)) ⟨by omega, by omega, by omega⟩
      rw [← key] at kk
      exact wp_app rfl (ev_tup3 ev_str (ev_min2 (ev_var rfl) (ev_var rfl)) (ev_max2 (ev_var rfl) (ev_var rfl))) lm (wp_skip (wp_skip (wp_nil kk)))
theorem t_law_treaty_ok (hd : IsDraws E f) (hf : IsFrac E g) {c m : Int} (hm : 0 < m) (hm2 : m < 2 ^ 40) : ∃ p ls, (0 ≤ p ∧ p < m) ∧ (∀ l ∈ ls, LOk l) ∧ ls.length ≤ 4 ∧ runF E (t_law_treaty f g) [.int c, .int m] = .ok (dT (p, ls)) := by
  have e40 : (2 : Int) ^ 40 = 1099511627776 := by decide
  rw [e40] at hm2
  obtain ⟨ys, hR, ed⟩ := hd c (tlims m) (fun l hl => by
    rcases List.mem_cons.mp hl with rfl | hl
    · exact ⟨hm, bd_small (Nat.lt_of_lt_of_le (show l.natAbs < 2000000000000 by omega) (by decide))⟩
    · have h : ∀ l ∈ (5 :: [3, 5, 6, 40, 40, 4, 1001, 1001, 3, 5, 6, 40, 40, 4, 1001, 1001, 3, 5, 6, 40, 40, 4, 1001, 1001, 3, 5, 6, 40, 40, 4, 1001, (1001 : Int)]), 0 < l ∧ l < 3000 := by decide
      obtain ⟨p, q⟩ := h l hl
      exact ⟨p, bd_small (Nat.lt_of_lt_of_le (show l.natAbs < 3000 by omega) (by decide))⟩) (show 34 ≤ 100 by decide)
  obtain ⟨y0, y1, r, rfl, b0, b1, lr, parts⟩ := tparts hR
  obtain ⟨n, hn⟩ : ∃ n : Nat, y1 = (n : Int) := ⟨y1.toNat, by omega⟩
  subst hn
  suffices h : ∃ ls : List Layer, (∀ l ∈ ls, LOk l) ∧ ls.length ≤ 4 ∧ runF E (t_law_treaty f g) [.int c, .int m] = .ok (dT (y0, ls)) by
    obtain ⟨ls, h1, h2, h3⟩ := h
    exact ⟨y0, ls, b0, h1, h2, h3⟩
  have run : ∃ o, exs E (t_law_treaty f g).body (slots 10 [.int c, .int m]) = o ∧ ∃ ls : List Layer, (∀ l ∈ ls, LOk l) ∧ ls.length ≤ 4 ∧ o = .rt (dT (y0, ls)) := by
    refine ⟨_, rfl, ?_⟩
    show Wp E (t_law_treaty f g).body (slots 10 [.int c, .int m]) (fun o => ∃ ls : List Layer, (∀ l ∈ ls, LOk l) ∧ ls.length ≤ 4 ∧ o = .rt (dT (y0, ls)))
    refine wp_set (ev_call (evs_2 (ev_var rfl) (y := .list ((tlims m).map .int)) (by rfl)) ed) (by simp [slots]) ?_
    refine wp_setO (ds := []) rfl (by simp [slots]) ?_
    show Wp E _ [.sh (.int c), .sh (.int m), .sh (.list ((y0 :: (n : Int) :: r).map .int)), .own [], .non, .non, .non, .non, .non, .non] _
    refine wp_for (enc := fun i : Nat => PyData.int (i : Nat)) (xs := List.range n) (fun pre Γ => ∃ (ls : List Layer) (s4 s5 s6 s7 s8 s9 : Sl), Γ = [.sh (.int c), .sh (.int m), .sh (.list ((y0 :: (n : Int) :: r).map .int)), .own (ls.map dL), s4, s5, s6, s7, s8, s9] ∧ (∀ l ∈ ls, LOk l) ∧ ls.length = pre.length)
      (evI_rn (ev_idxm (xs := y0 :: (n : Int) :: r) (enc := PyData.int) (k := 1) (ev_var rfl) ev_int (show 1 < r.length + 1 + 1 by omega)) (by omega)) ⟨[], _, _, _, _, _, _, rfl, by simp, rfl⟩ ?_ ?_
    · rintro pre j post Γ ej ⟨ls, s4, s5, s6, s7, s8, s9, rfl, hls, hll⟩
      obtain ⟨hj, hj2⟩ := range_split0 ej
      have hj4 : j < 4 := by omega
      obtain ⟨p0, p1, p2, p3, p4, p5, p6, p7, ep, P⟩ := parts j hj4
      obtain ⟨⟨a0, a0'⟩, ⟨a1, a1'⟩, ⟨a2, a2'⟩, ⟨a3, a3'⟩, ⟨a4, a4'⟩, ⟨a5, a5'⟩, ⟨a6, a6'⟩, ⟨a7, a7'⟩⟩ := P
      refine ⟨[.sh (.int c), .sh (.int m), .sh (.list ((y0 :: (n : Int) :: r).map .int)), .own (ls.map dL), .sh (.int (j : Nat)), s5, s6, s7, s8, s9], rfl, ?_⟩
      have bj : ∀ z : Int, Bd 100 z → mulOk 8 (j : Int) = true := fun _ _ => mul_ok (Nat.lt_of_lt_of_le (show (8 : Int).natAbs < 2 ^ 4 by decide) (pow_lt_pow (by decide))) (Nat.lt_of_lt_of_le (show ((j : Nat) : Int).natAbs < 2 ^ 4 by omega) (pow_lt_pow (by decide)))
      have m8 := b_mul (bj 0 (by unfold Bd; decide))
      have sl : ev E (.sl (.var 2) (.cons (.bin .add (.int 2) (.bin .mul (.int 8) (.var 4))) .nil) (.cons (.bin .add (.int 10) (.bin .mul (.int 8) (.var 4))) .nil)) [.sh (.int c), .sh (.int m), .sh (.list ((y0 :: (n : Int) :: r).map .int)), .own (ls.map dL), .sh (.int (j : Nat)), s5, s6, s7, s8, s9] = .ok (.list [.int p0, .int p1, .int p2, .int p3, .int p4, .int p5, .int p6, .int p7]) := by
        have h := ev_slm (E := E) (Γ := [.sh (.int c), .sh (.int m), .sh (.list ((y0 :: (n : Int) :: r).map .int)), .own (ls.map dL), .sh (.int (j : Nat)), s5, s6, s7, s8, s9]) (a := .var 2) (b := .bin .add (.int 2) (.bin .mul (.int 8) (.var 4))) (c := .bin .add (.int 10) (.bin .mul (.int 8) (.var 4))) (i := 2 + 8 * j) (k := 10 + 8 * j) (ev_var rfl)
          (by rw [show ((2 + 8 * j : Nat) : Int) = 2 + 8 * (j : Int) by omega]; exact ev_add ev_int (ev_bin ev_int (ev_var rfl) m8)) (by rw [show ((10 + 8 * j : Nat) : Int) = 10 + 8 * (j : Int) by omega]; exact ev_add ev_int (ev_bin ev_int (ev_var rfl) m8))
        rw [h, ← List.map_drop, ← List.map_take, show 10 + 8 * j - (2 + 8 * j) = 8 by omega, show 2 + 8 * j = 8 * j + 1 + 1 by omega, List.drop_succ_cons, List.drop_succ_cons, ep]
        rfl
      refine wp_set sl (by simp) ?_
      refine wp_setTL (ds := [.int p3, .int p4]) (ev_lst (evs_2 (ev_idx (ev_var rfl) ev_int rfl) (ev_idx (ev_var rfl) ev_int rfl)) (show 2 ≤ 1000000 by decide)) rfl ?_
      refine wp_setTL (ds := [.int p1, .int p2]) (ev_lst (evs_2 (ev_idx (ev_var rfl) ev_int rfl) (ev_idx (ev_var rfl) ev_int rfl)) (show 2 ≤ 1000000 by decide)) rfl ?_
      have fin : ∀ low high top below : Int, 0 ≤ low ∧ low ≤ 1000 → 0 ≤ high ∧ high ≤ 1000 → 0 ≤ top ∧ top < 2000000 → 0 ≤ below ∧ below < 2000000 → Wp E (tlast g) [.sh (.int c), .sh (.int m), .sh (.list ((y0 :: (n : Int) :: r).map .int)), .own (ls.map dL), .sh (.int (j : Nat)), .sh (.list [.int p0, .int p1, .int p2, .int p3, .int p4, .int p5, .int p6, .int p7]), .sh (.int low), .sh (.int high), .sh (.int top), .sh (.int below)]
          (Tn (fun Γ => ∃ (ls : List Layer) (s4 s5 s6 s7 s8 s9 : Sl), Γ = [.sh (.int c), .sh (.int m), .sh (.list ((y0 :: (n : Int) :: r).map .int)), .own (ls.map dL), s4, s5, s6, s7, s8, s9] ∧ (∀ l ∈ ls, LOk l) ∧ ls.length = (pre ++ [j]).length) (fun Γ => Wp E (.frz 3 (.cons (.ret (.tup (.cons (.idx (.var 2) (.int 0)) (.cons (.var 3) .nil)))) .nil)) Γ (fun o => ∃ ls : List Layer, (∀ l ∈ ls, LOk l) ∧ ls.length ≤ 4 ∧ o = .rt (dT (y0, ls)))) (fun o => ∃ ls : List Layer, (∀ l ∈ ls, LOk l) ∧ ls.length ≤ 4 ∧ o = .rt (dT (y0, ls)))) := fun low high top below h1 h2 h3 h4 =>
        tt_last hf (by omega) h1 h2 h3 h4 fun l hl => ⟨ls ++ [l], _, _, _, _, _, _, rfl, fun x hx => by
          rcases List.mem_append.mp hx with hx | hx
          · exact hls x hx
          · rw [show x = l by simpa using hx]; exact hl, by simp [hll]⟩
      refine wp_if (ev_cmp (t := decide (p5 = 0)) (ev_idx (ev_var rfl) ev_int rfl) ev_int rfl) (fun h5 => ?_) (fun h5 => wp_skip ?_)
      · refine wp_setTL (ds := [.int p6, .int p7]) (ev_lst (evs_2 (ev_idx (ev_var rfl) ev_int rfl) (ev_idx (ev_var rfl) ev_int rfl)) (show 2 ≤ 1000000 by decide)) rfl ?_
        refine wp_setTL (ds := [.int p6, .int p7]) (ev_lst (evs_2 (ev_idx (ev_var rfl) ev_int rfl) (ev_idx (ev_var rfl) ev_int rfl)) (show 2 ≤ 1000000 by decide)) rfl (wp_skip ?_)
        have h5 := of_decide_eq_true h5
        refine wp_iff0 (ev_cmp (t := false) (ev_idx (ev_var rfl) ev_int rfl) ev_int (by subst h5; rfl)) ?_
        exact fin p6 p7 p6 p7 (by omega) (by omega) (by omega) (by omega)
      · refine wp_if (ev_cmp (t := decide (p5 = 1)) (ev_idx (ev_var rfl) ev_int rfl) ev_int rfl) (fun _ => ?_) (fun _ => wp_skip ?_)
        · refine wp_setTL (ds := [.int (1 + p6), .int (1001 + p6 + 1000 * p7)]) (ev_lst (evs_2 (ev_add ev_int (ev_idx (ev_var rfl) ev_int rfl)) (ev_add (ev_add ev_int (ev_idx (ev_var rfl) ev_int rfl)) (ev_bin ev_int (ev_idx (ev_var rfl) ev_int rfl) (b_mul (mul_ok (Nat.lt_of_lt_of_le (show (1000 : Int).natAbs < 2 ^ 20 by decide) (pow_lt_pow (by decide))) (Nat.lt_of_lt_of_le (show p7.natAbs < 2 ^ 20 by omega) (pow_lt_pow (by decide)))))))) (show 2 ≤ 1000000 by decide)) rfl (wp_skip ?_)
          exact fin p3 p4 (1 + p6) (1001 + p6 + 1000 * p7) (by omega) (by omega) (by omega) (by omega)
        · exact fin p3 p4 p1 p2 (by omega) (by omega) (by omega) (by omega)
    · rintro Γ ⟨ls, s4, s5, s6, s7, s8, s9, rfl, hls, hll⟩
      rw [List.length_range] at hll
      refine wp_frz ?_
      have i0 := idx_map PyData.int (y0 :: (n : Int) :: r) 0 (by simp)
      exact wp_ret (d := dT (y0, ls)) (ev_tup2 (ev_idx (ev_var rfl) ev_int i0) (ev_var rfl)) ⟨ls, hls, by omega, rfl⟩
  obtain ⟨o, e, ls, h1, h2, h3⟩ := run
  refine ⟨ls, h1, h2, ?_⟩
  rw [runF_ofX rfl e, h3]
  rfl
end
end Dee

set_option maxRecDepth 100000
set_option maxHeartbeats 1000000
/-! Dee, part 41: what can be shown; small rules. -/
namespace Dee
open PySem PySem.Spec L2 PyProof.Rows
theorem Shw.tup {xs : List D} {k n : Nat} (h : ∀ x ∈ xs, Shw x k n) : Shw (.tuple xs) (k + 1) (xs.length * (n + 2) + 3) := by
  have a : ∀ xs : List D, (∀ x ∈ xs, Shw x k n) → PyData.showableAll xs = true ∧ PyData.canLayAll0 xs = true ∧ PyData.depthAll xs ≤ k ∧ tbs xs ≤ xs.length * (n + 2) := by
    intro xs
    induction xs with
    | nil => exact fun _ => ⟨by simp only [PyData.showableAll], by simp only [PyData.canLayAll0], by simp [PyData.depthAll], by simp [tbs]⟩
    | cons x xs ih =>
      intro h
      obtain ⟨h1, h2, h3, h4⟩ := ih fun y hy => h y (List.mem_cons_of_mem _ hy)
      have hx := h x List.mem_cons_self
      refine ⟨by simp only [PyData.showableAll, hx.s, h1, Bool.and_self], by simp only [PyData.canLayAll0, hx.l, h2, Bool.and_self], ?_, ?_⟩
      · simp only [PyData.depthAll]
        exact Nat.max_le.mpr ⟨hx.d, h3⟩
      · have := hx.t
        simp only [tbs, List.length_cons, Nat.add_mul]
        omega
  obtain ⟨h1, h2, h3, h4⟩ := a xs h
  exact ⟨by simp only [PyData.showable, h1], by simp only [PyData.canLay0, h2], by simp only [tb]; omega, by simp only [PyData.depth]; omega⟩
theorem Shw.share : Shw (.str "share") 0 100 := ⟨by decide +kernel, by decide +kernel, by decide +kernel, by decide +kernel⟩
theorem Shw.limit : Shw (.str "limit") 0 100 := ⟨by decide +kernel, by decide +kernel, by decide +kernel, by decide +kernel⟩
theorem Shw.band : Shw (.str "band") 0 100 := ⟨by decide +kernel, by decide +kernel, by decide +kernel, by decide +kernel⟩
theorem shl_s {n : Nat} (h : n < 1000000000) : n < shl := shl_of (Nat.lt_of_lt_of_le h (by decide))
theorem Shw.dL {l : Layer} (h : LOk l) : Shw (Dee.dL l) 2 5800 := by
  cases l with
  | share q =>
    obtain ⟨h0, h1, h2⟩ := h
    have e : (2 : Nat) ^ 30 = 1073741824 := by decide
    have := num_of_unit ⟨h0, h1⟩
    exact (Shw.tup (xs := [.str "share", Dee.fq q]) (k := 1) (n := 3849) (fun x hx => by
      simp only [List.mem_cons, List.not_mem_nil, or_false] at hx
      rcases hx with rfl | rfl
      · exact Shw.share.mono (by decide) (by decide)
      · exact Shw.fq (shl_of (Nat.lt_of_le_of_lt (show q.num.natAbs ≤ 2 ^ 30 by omega) (by decide))) (shl_of (Nat.lt_of_lt_of_le h2 (by decide))))).mono (by decide) (show 2 * 3851 + 3 ≤ 8000 by decide) |> fun h => ⟨h.s, h.l, by
        have a := Shw.share.t
        have b := (Shw.fq (q := q) (shl_of (Nat.lt_of_le_of_lt (show q.num.natAbs ≤ 2 ^ 30 by omega) (by decide))) (shl_of (Nat.lt_of_lt_of_le h2 (by decide)))).t
        simp only [Dee.dL, tb, tbs] at *
        omega, h.d⟩
  | limit a =>
    obtain ⟨h0, h1⟩ := h
    exact (Shw.tup2 Shw.limit (Shw.int (i := a) (shl_s (by omega)))).mono (by decide) (by decide)
  | band a b =>
    obtain ⟨h0, h1, h2⟩ := h
    exact (Shw.tup (xs := [.str "band", .int a, .int b]) (k := 0) (n := 1921) (fun x hx => by
      simp only [List.mem_cons, List.not_mem_nil, or_false] at hx
      rcases hx with rfl | rfl | rfl
      · exact Shw.band.mono (by decide) (by decide)
      · exact Shw.int (shl_s (by omega))
      · exact Shw.int (shl_s (by omega)))).mono (by decide) (show 3 * (1921 + 2) + 3 ≤ 5800 by decide)
theorem Shw.dT {t : Int × List Layer} (hp : t.1.natAbs < 1000000000) (h : ∀ l ∈ t.2, LOk l) (hl : t.2.length ≤ 5) : Shw (Dee.dT t) 4 40000 :=
  (Shw.tup2 (x := .int t.1) (y := .list (t.2.map Dee.dL)) (k := 3) (n := 1921) (m := 29012) ((Shw.int (shl_s hp)).mono (by decide) (by decide)) ((Shw.list (enc := Dee.dL) (xs := t.2) (fun l hl => Shw.dL (h l hl))).mono (by decide) (by omega))).mono (by decide) (by decide)
theorem ev_reprV {E : Evn} {Γ : List Sl} {a : CE} {d : D} (h : ev E a Γ = .ok d) (hs : shows d = true) : ev E (.blt .repr (.cons a .nil)) Γ = .ok (.str (PyData.shown d)) := by
  show (evs E (.cons a .nil) Γ).bind (fun ds => bltD .repr ds) = _
  rw [evs_1 h]
  show (if (shows d || bigQ d) = true then _ else _) = _
  rw [if_pos (by rw [hs]; rfl)]
theorem ev_rep1 {E : Evn} {Γ : List Sl} {a b : CE} {x : D} {k : Nat} (h : ev E a Γ = .ok (.list [x])) (h2 : ev E b Γ = .ok (.int (k : Nat))) (hk : k ≤ 1000) : ev E (.bin .mul a b) Γ = .ok (.list (List.replicate k x)) := ev_bin h h2 (by
  have c1 : (0 : Int) ≤ (k : Int) ∧ (k : Int) ≤ 100000 ∧ ([x]).length * (k : Int).toNat ≤ most := ⟨by omega, by omega, by simp [most]; omega⟩
  show (if _ then _ else _) = _
  rw [if_pos c1, Int.toNat_natCast, rep_one])
theorem ev_lst1 {E : Evn} {Γ : List Sl} {a : CE} {x : D} (h : ev E a Γ = .ok x) : ev E (.lst (.cons a .nil)) Γ = .ok (.list [x]) := ev_lst (evs_1 h) (show 1 ≤ 1000000 by decide)
theorem ev_lst2 {E : Evn} {Γ : List Sl} {a b : CE} {x y : D} (h : ev E a Γ = .ok x) (h2 : ev E b Γ = .ok y) : ev E (.lst (.cons a (.cons b .nil))) Γ = .ok (.list [x, y]) := ev_lst (evs_2 h h2) (show 2 ≤ 1000000 by decide)
theorem ev_catm {E : Evn} {Γ : List Sl} {X : Type} {f : X → D} {a b : CE} {xs ys : List X} (h : ev E a Γ = .ok (.list (xs.map f))) (h2 : ev E b Γ = .ok (.list (ys.map f))) (hl : xs.length + ys.length ≤ 1000) : ev E (.bin .add a b) Γ = .ok (.list ((xs ++ ys).map f)) := by
  rw [List.map_append]
  exact ev_cat h h2 (by rw [List.length_map, List.length_map]; unfold most; omega)
theorem ev_slfm {E : Evn} {Γ : List Sl} {X : Type} {f : X → D} {a b : CE} {xs : List X} {k : Nat} (h : ev E a Γ = .ok (.list (xs.map f))) (h2 : ev E b Γ = .ok (.int (k : Nat))) : ev E (.sl a .nil (.cons b .nil)) Γ = .ok (.list ((xs.take k).map f)) := by
  rw [List.map_take]
  exact ev_slf h h2
theorem ev_sltm {E : Evn} {Γ : List Sl} {X : Type} {f : X → D} {a b : CE} {xs : List X} {k : Nat} (h : ev E a Γ = .ok (.list (xs.map f))) (h2 : ev E b Γ = .ok (.int (k : Nat))) : ev E (.sl a (.cons b .nil) .nil) Γ = .ok (.list ((xs.drop k).map f)) := by
  rw [List.map_drop]
  exact ev_slt h h2
theorem sum_rep0 : ∀ r : Nat, (List.replicate r (0 : Rat)).sum = 0
  | 0 => rfl
  | r + 1 => by rw [List.replicate_succ, List.sum_cons, sum_rep0 r, Rat.zero_add]
def dQ (l : List Rat) : D := .list (l.map fq)
/-- an item of drawn numbers -/
theorem ev_ix {E : Evn} {Γ : List Sl} {ys : List Int} {i k : Nat} (h : Γ[i]? = some (.sh (.list (ys.map .int)))) (hk : k < ys.length) : ev E (.idx (.var i) (.int (k : Nat))) Γ = .ok (.int (ys.getD k 0)) := by
  have := ev_idxm (E := E) (Γ := Γ) (a := .var i) (b := .int (k : Nat)) (k := k) (ev_var h) rfl hk
  rw [getD_at hk 0] at this
  exact this
end Dee

set_option maxRecDepth 100000
set_option maxHeartbeats 2000000
/-! Dee, part 42: houses. -/
namespace Dee
open PySem PySem.Spec L2 PyProof.Rows
structure Wtr where
  prem : Int
  lines : List (List (Int × Rat))
  turns : List (Int × Rat)
def dW (w : Wtr) : D := .tuple [.int w.prem, .list (w.lines.map dS), dS w.turns]
abbrev Hs := List Wtr × List (Int × List Layer)
def dH (h : Hs) : D := .tuple [.list (h.1.map dW), .list (h.2.map dT)]
structure WOk (w : Wtr) (cnt ln : Nat) (V P : Int) : Prop where
  p : 0 ≤ w.prem ∧ w.prem < P
  n : w.lines.length < ln
  l : ∀ s ∈ w.lines, ∃ T, SprD s 0 V 3 T
  t : ∃ T, SprD w.turns 0 cnt 2 T
structure HOk (h : Hs) (pl ln : Nat) (V P Q : Int) : Prop where
  n : 0 < h.1.length ∧ h.1.length ≤ pl
  w : ∀ w ∈ h.1, WOk w h.1.length ln V P
  m : 0 < h.2.length ∧ h.2.length ≤ 4
  t : ∀ t ∈ h.2, (0 ≤ t.1 ∧ t.1 < Q) ∧ (∀ l ∈ t.2, LOk l) ∧ t.2.length ≤ 4
theorem SprD.mono {s : List (Int × Rat)} {lo hi lo' hi' : Int} {n n' T : Nat} (h : SprD s lo hi n T) (h1 : lo' ≤ lo) (h2 : hi ≤ hi') (h3 : n ≤ n') : SprD s lo' hi' n' T := ⟨h.spr, fun p hp => by have := h.val p hp; omega, Nat.le_trans h.len h3, h.ne, h.T0, by have := h.Tn; omega, h.qn⟩
/-- the sum of the lines -/
def dmgL (ls : List (List (Int × Rat))) : List (Int × Rat) := ls.foldl (fun a s => gath (conv a s)) [(0, 1)]
theorem dmgL_snoc (ls : List (List (Int × Rat))) (s : List (Int × Rat)) : dmgL (ls ++ [s]) = gath (conv (dmgL ls) s) := by
  unfold dmgL
  rw [List.foldl_append]
  rfl
structure Dm (s : List (Int × Rat)) (i D : Nat) : Prop where
  D0 : 0 < D
  D1 : D ≤ 27 ^ i
  spr : Spr s
  qn : ∀ p ∈ s, QN D D p.2
  val : ∀ p ∈ s, 0 ≤ p.1 ∧ p.1 ≤ 1000 * (i : Int)
  len : s.length ≤ 3 ^ i
theorem Dm.zero : Dm [(0, 1)] 0 1 where
  D0 := by decide
  D1 := by decide
  spr := ⟨by simp, by simp; decide, Rat.add_zero 1⟩
  qn := fun p hp => by
    rw [show p = (0, 1) by simpa using hp]
    exact QN.int (N := 1) 1 (by decide)
  val := fun p hp => by
    rw [show p = (0, 1) by simpa using hp]
    decide
  len := by decide
theorem Dm.step {a s : List (Int × Rat)} {i D T : Nat} (h : Dm a i D) (hs : SprD s 0 1001 3 T) : Dm (gath (conv a s)) (i + 1) (D * T) where
  D0 := Nat.mul_pos h.D0 hs.T0
  D1 := by rw [Nat.pow_succ]; exact Nat.mul_le_mul h.D1 hs.Tn
  spr := conv_Spr h.spr hs.spr
  qn := Spr.unit (conv_Spr h.spr hs.spr) (gath_QN (Nat.mul_pos h.D0 hs.T0) (conv_QN h.qn hs.qn))
  val := fun p hp => by
    obtain ⟨q, hq, e⟩ := gath_val hp
    obtain ⟨x, hx, y, hy, rfl⟩ := conv_mem hq
    have := h.val x hx
    have := hs.val y hy
    rw [← e]
    show 0 ≤ x.1 + y.1 ∧ x.1 + y.1 ≤ 1000 * ((i + 1 : Nat) : Int)
    omega
  len := Nat.le_trans (gath_len _) (Nat.le_trans (ks_len _) (by rw [conv_len, Nat.pow_succ]; exact Nat.mul_le_mul h.len hs.len))
theorem Dm.of {ls : List (List (Int × Rat))} (h : ∀ s ∈ ls, ∃ T, SprD s 0 1001 3 T) : ∃ D, Dm (dmgL ls) ls.length D := by
  suffices h2 : ∀ post pre : List (List (Int × Rat)), ls = pre ++ post → (∃ D, Dm (dmgL pre) pre.length D) → ∃ D, Dm (dmgL ls) ls.length D from h2 ls [] rfl ⟨1, Dm.zero⟩
  intro post
  induction post with
  | nil =>
    intro pre e h
    rw [e, List.append_nil]
    exact h
  | cons s post ih =>
    rintro pre e ⟨D, hD⟩
    obtain ⟨T, hT⟩ := h s (by rw [e]; simp)
    refine ih (pre ++ [s]) (by rw [e]; simp) ⟨D * T, ?_⟩
    rw [dmgL_snoc, List.length_append]
    exact hD.step hT
theorem pow_i {b i k : Nat} (h : i ≤ k) (hb : 0 < b) : b ^ i ≤ b ^ k := Nat.pow_le_pow_right hb h
section
variable {E : Evn} {f g h k : Nat}
/-- one more line -/
theorem Dm.run (hc : IsConv E f) {a s : List (Int × Rat)} {i D : Nat} (ha : Dm a i D) (hi : i < 3) {T : Nat} (hs : SprD s 0 1001 3 T) : E.F f [.list (a.map pq), .list (s.map pq)] = .ok (.list ((gath (conv a s)).map pq)) := by
  have d1 := ha.D1
  have d2 : 27 ^ i ≤ 27 ^ 2 := pow_i (show i ≤ 2 by omega) (by decide)
  have d3 : D ≤ 729 := Nat.le_trans d1 d2
  have t1 := hs.Tn
  have l1 : a.length ≤ 9 := Nat.le_trans ha.len (pow_i (show i ≤ 2 by omega) (by decide))
  have l2 := hs.len
  have m1 : D * T ≤ 729 * 27 := Nat.mul_le_mul d3 (by omega)
  have m2 : a.length * s.length ≤ 9 * 3 := Nat.mul_le_mul l1 l2
  have m3 : (a.length * s.length) * (D * T) ≤ (9 * 3) * (729 * 27) := Nat.mul_le_mul m2 m1
  have L : ∀ {n : Nat}, n < 1000000000 → n < lim := fun h => lt_lim (Nat.lt_of_lt_of_le h (by decide))
  have kk := ks_len (conv a s)
  rw [conv_len] at kk
  exact hc D D T T a s ha.qn hs.qn ha.D0 hs.T0 (L (by omega)) (L (by omega)) (L (by omega)) (L (by omega)) (L (by omega)) (L (by omega)) (by omega) (by omega)
def IsWat (E : Evn) (n c : Nat) : Prop := ∀ (h : Hs) (w : Int), (∀ k : Nat, ∀ hk : k < h.1.length, w = (k : Int) → E.F n [dH h, .int w] = .ok (dW h.1[k])) ∧ ((w < 0 ∨ (h.1.length : Int) ≤ w) → E.F n [dH h, .int w] = .error (some c))
theorem ev_chn2 {Γ : List Sl} {a b c : CE} {x y z : Int} (h1 : ev E a Γ = .ok (.int x)) (h2 : ev E b Γ = .ok (.int y)) (h3 : ev E c Γ = .ok (.int z)) : ev E (.chn .le .lt a b c) Γ = .ok (.bool (decide (x ≤ y) && decide (y < z))) := by
  show (ev E a Γ).bind (fun x => (ev E b Γ).bind fun y => (cmpB .le x y).bind fun k => if k = true then (ev E c Γ).bind fun z => cmpD .lt y z else .ok (.bool false)) = _
  rw [h1, h2, h3]
  show (if decide (x ≤ y) = true then _ else _) = _
  by_cases h : x ≤ y
  · rw [decide_eq_true h]
    rfl
  · rw [decide_eq_false h]
    rfl
theorem ev_lenm {X : Type} {enc : X → D} {Γ : List Sl} {a : CE} {xs : List X} (h : ev E a Γ = .ok (.list (xs.map enc))) : ev E (.blt .len (.cons a .nil)) Γ = .ok (.int (xs.length : Nat)) := by
  have := ev_len h
  rw [List.length_map] at this
  exact this
theorem t_weather_at_ok (c : Nat) (h : Hs) (w : Int) : (∀ k : Nat, ∀ hk : k < h.1.length, w = (k : Int) → runF E (t_weather_at c) [dH h, .int w] = .ok (dW h.1[k])) ∧ ((w < 0 ∨ (h.1.length : Int) ≤ w) → runF E (t_weather_at c) [dH h, .int w] = .error (some c)) := by
  have e0 : ev E (.idx (.var 0) (.int 0)) [.sh (dH h), .sh (.int w)] = .ok (.list (h.1.map dW)) := ev_idx (ev_var rfl) ev_int rfl
  have ch := ev_not (ev_chn2 (E := E) (Γ := [.sh (dH h), .sh (.int w)]) (a := .int 0) (b := .var 1) ev_int (ev_var rfl) (ev_lenm e0))
  refine ⟨fun k hk e => run_wp rfl ?_, fun hw => run_wp rfl ?_⟩
  · subst e
    have h1 : (decide ((0 : Int) ≤ (k : Int)) && decide ((k : Int) < (h.1.length : Int))) = true := by simp; omega
    rw [h1] at ch
    exact wp_iff0 ch (wp_ret (ev_idxm (k := k) e0 (ev_var rfl) hk) rfl)
  · have h1 : (decide ((0 : Int) ≤ w) && decide (w < (h.1.length : Int))) = false := by
      simp only [Bool.and_eq_false_iff, decide_eq_false_iff_not]
      omega
    rw [h1] at ch
    exact wp_ift ch (wp_raise rfl)
/-- total_damage -/
def IsTdm (E : Evn) (n c : Nat) : Prop := ∀ (h : Hs) (w : Int), (∀ k : Nat, ∀ hk : k < h.1.length, w = (k : Int) → h.1[k].lines.length ≤ 3 → (∀ s ∈ h.1[k].lines, ∃ T, SprD s 0 1001 3 T) → E.F n [dH h, .int w] = .ok (dS (dmgL h.1[k].lines))) ∧ ((w < 0 ∨ (h.1.length : Int) ≤ w) → E.F n [dH h, .int w] = .error (some c))
theorem ev_callX {Γ : List Sl} {n c : Nat} {es : CEs} {ds : List D} (h : evs E es Γ = .ok ds) (h2 : E.F n ds = .error (some c)) : ev E (.call n es) Γ = .error (some c) := by
  show (evs E es Γ).bind (fun ds => E.F n ds) = _
  rw [h]
  exact h2
theorem wp_for_xc {tg : Tg} {it : CI} {b ss : CSs} {Γ : List Sl} {Q : Out → Prop} {c : Nat} (h : evI E it Γ = .error (some c)) (k : Q (.xc c Γ)) : Wp E (.cons (.for tg it b) ss) Γ Q := by
  refine wp_cons (o := .xc c Γ) ?_ k
  show ofR (evI E it Γ) Γ (fun ds => forL (fun d Γ => asg tg d Γ) (fun Γ => exs E b Γ) ds Γ) = _
  rw [h]
  rfl
theorem wp_setT_xc {is : List Nat} {e : CE} {ss : CSs} {Γ : List Sl} {Q : Out → Prop} {c : Nat} (h : ev E e Γ = .error (some c)) (k : Q (.xc c Γ)) : Wp E (.cons (.setT is e) ss) Γ Q := by
  refine wp_cons (o := .xc c Γ) ?_ k
  show ofR (ev E e Γ) Γ (fun d => match asg (.tp is) d Γ with
    | some Γ' => .nx Γ'
    | none => .un) = _
  rw [h]
  rfl
theorem t_total_damage_ok {c : Nat} (hw : IsWat E f c) (hc : IsConv E g) (h : Hs) (w : Int) :
    (∀ k : Nat, ∀ hk : k < h.1.length, w = (k : Int) → h.1[k].lines.length ≤ 3 → (∀ s ∈ h.1[k].lines, ∃ T, SprD s 0 1001 3 T) → runF E (t_total_damage f g) [dH h, .int w] = .ok (dS (dmgL h.1[k].lines))) ∧ ((w < 0 ∨ (h.1.length : Int) ≤ w) → runF E (t_total_damage f g) [dH h, .int w] = .error (some c)) := by
  obtain ⟨w1, w2⟩ := hw h w
  refine ⟨fun k hk e hl hs => run_wp rfl ?_, fun hx => run_wp rfl ?_⟩
  · have e1 := w1 k hk e
    generalize h.1[k] = W at e1 hl hs
    have e2 : ev E (.idx (.call f (.cons (.var 0) (.cons (.var 1) .nil))) (.int 1)) [.sh (dH h), .sh (.int w), .own ((dmgL []).map pq), .non] = .ok (.list (W.lines.map dS)) := ev_idx (ev_call (evs_2 (ev_var rfl) (ev_var rfl)) e1) ev_int rfl
    refine wp_setO (ds := (dmgL []).map pq) rfl (show 2 < 4 by decide) ?_
    show Wp E _ [.sh (dH h), .sh (.int w), .own ((dmgL []).map pq), .non] _
    refine wp_for (enc := dS) (xs := W.lines) (fun pre Γ => ∃ s3, Γ = [.sh (dH h), .sh (.int w), .own ((dmgL pre).map pq), s3]) (evI_lst e2) ⟨_, rfl⟩ ?_ ?_
    · rintro pre s post Γ es ⟨s3, rfl⟩
      have ls : pre.length + 1 ≤ W.lines.length := by rw [es]; simp
      obtain ⟨D, hD⟩ := Dm.of (ls := pre) fun s hs' => hs s (by rw [es]; simp [hs'])
      obtain ⟨T, hT⟩ := hs s (by rw [es]; simp)
      refine ⟨[.sh (dH h), .sh (.int w), .own ((dmgL pre).map pq), .sh (dS s)], rfl, ?_⟩
      refine wp_frz ?_
      show Wp E _ [.sh (dH h), .sh (.int w), .sh (dS (dmgL pre)), .sh (dS s)] _
      refine wp_setC (evs_2 (ev_var rfl) (ev_var rfl)) (hD.run hc (by omega) hT) (show 2 < 4 by decide) ?_
      exact wp_nil ⟨_, by rw [dmgL_snoc]; rfl⟩
    · rintro Γ ⟨s3, rfl⟩
      exact wp_retO rfl rfl
  · refine wp_setO (ds := (dmgL []).map pq) rfl (show 2 < 4 by decide) ?_
    show Wp E _ [.sh (dH h), .sh (.int w), .own ((dmgL []).map pq), .non] _
    have := ev_callX (E := E) (Γ := [.sh (dH h), .sh (.int w), .own ((dmgL []).map pq), .non]) (evs_2 (a := .var 0) (b := .var 1) (ev_var rfl) (ev_var rfl)) (w2 hx)
    refine wp_for_xc (c := c) ?_ rfl
    show ((ev E (.call f (.cons (.var 0) (.cons (.var 1) .nil))) _).bind _).bind _ = _
    rw [this]
    rfl
/-- the law's own -/
def IsLdm (E : Evn) (n : Nat) : Prop := ∀ (h : Hs) (k : Nat) (hk : k < h.1.length), h.1[k].lines.length ≤ 3 → (∀ s ∈ h.1[k].lines, ∃ T, SprD s 0 1001 3 T) → E.F n [dH h, .int k] = .ok (dS (dmgL h.1[k].lines))
theorem t_law_damage_ok (hc : IsConv E g) (h : Hs) (k : Nat) (hk : k < h.1.length) (hl : h.1[k].lines.length ≤ 3) (hs : ∀ s ∈ h.1[k].lines, ∃ T, SprD s 0 1001 3 T) : runF E (t_law_damage g) [dH h, .int k] = .ok (dS (dmgL h.1[k].lines)) := by
  refine run_wp rfl ?_
  refine wp_set (d := dS (dmgL [])) rfl (show 2 < 4 by decide) ?_
  show Wp E _ [.sh (dH h), .sh (.int k), .sh (dS (dmgL [])), .non] _
  have e0 : ∀ {s2 s3 : Sl}, ev E (.idx (.var 0) (.int 0)) [.sh (dH h), .sh (.int k), s2, s3] = .ok (.list (h.1.map dW)) := ev_idx (ev_var rfl) ev_int rfl
  have e1 : ∀ {s2 s3 : Sl}, ev E (.idx (.idx (.var 0) (.int 0)) (.var 1)) [.sh (dH h), .sh (.int k), s2, s3] = .ok (dW h.1[k]) := ev_idxm (k := k) e0 (ev_var rfl) hk
  generalize h.1[k] = W at e1 hl hs
  refine wp_for (enc := dS) (xs := W.lines) (fun pre Γ => ∃ s3, Γ = [.sh (dH h), .sh (.int k), .sh (dS (dmgL pre)), s3]) (evI_lst (ev_idx e1 ev_int rfl)) ⟨_, rfl⟩ ?_ ?_
  · rintro pre s post Γ es ⟨s3, rfl⟩
    have ls : pre.length + 1 ≤ W.lines.length := by rw [es]; simp
    obtain ⟨D, hD⟩ := Dm.of (ls := pre) fun s hs' => hs s (by rw [es]; simp [hs'])
    obtain ⟨T, hT⟩ := hs s (by rw [es]; simp)
    refine ⟨[.sh (dH h), .sh (.int k), .sh (dS (dmgL pre)), .sh (dS s)], rfl, ?_⟩
    refine wp_set (ev_call (evs_2 (ev_var rfl) (ev_var rfl)) (hD.run hc (by omega) hT)) (show 2 < 4 by decide) ?_
    exact wp_nil ⟨_, by rw [dmgL_snoc]; rfl⟩
  · rintro Γ ⟨s3, rfl⟩
    exact wp_ret (ev_var rfl) rfl
end
end Dee

set_option maxRecDepth 100000
set_option maxHeartbeats 2000000
/-! Dee, part 43: the change of the reserve. -/
namespace Dee
open PySem PySem.Spec L2 PyProof.Rows
/-- what is left of c -/
def flp (c : Int) (s : List (Int × Rat)) : List (Int × Rat) := s.map fun p => (c - p.1, p.2)
theorem wt_flp (c : Int) : ∀ (s : List (Int × Rat)) (v : Int), wt (flp c s) v = wt s (c - v)
  | [], _ => rfl
  | p :: s, v => by
    show (if c - p.1 = v then p.2 else 0) + wt (flp c s) v = (if p.1 = c - v then p.2 else 0) + wt s (c - v)
    rw [wt_flp c s v]
    congr 1
    by_cases h : p.1 = c - v
    · rw [if_pos h, if_pos (by omega)]
    · rw [if_neg h, if_neg (by omega)]
theorem flp_gath (c : Int) (l : List (Int × Rat)) : (flp c (gath l)).reverse = gath (flp c l) := by
  refine Gd.ext ⟨?_, fun p hp => ?_⟩ (gath_Gd _) fun v => ?_
  · rw [List.pairwise_reverse]
    unfold flp
    rw [List.pairwise_map]
    refine List.Pairwise.imp ?_ (gath_Gd l).asc
    intro a b h
    show c - b.1 < c - a.1
    omega
  · rw [List.mem_reverse] at hp
    obtain ⟨q, hq, rfl⟩ := List.mem_map.mp hp
    exact (gath_Gd l).nz q hq
  · rw [wt_perm (List.reverse_perm _) v, wt_flp, wt_gath, wt_gath, wt_flp]
/-- the change of a year -/
def chg (W : Wtr) (t : Int × List Layer) : List (Int × Rat) := gath (flp (W.prem - t.1) (aft t.2 (dmgL W.lines)))
theorem HOk.mono {h : Hs} {pl ln pl' ln' : Nat} {V P Q V' P' Q' : Int} (a : HOk h pl ln V P Q) (h1 : pl ≤ pl') (h2 : ln ≤ ln') (h3 : V ≤ V') (h4 : P ≤ P') (h5 : Q ≤ Q') : HOk h pl' ln' V' P' Q' where
  n := ⟨a.n.1, Nat.le_trans a.n.2 h1⟩
  w := fun w hw => by
    obtain ⟨p, n, l, t⟩ := a.w w hw
    exact ⟨⟨p.1, by omega⟩, by omega, fun s hs => by
      obtain ⟨T, hT⟩ := l s hs
      exact ⟨T, hT.mono (Int.le_refl _) h3 (Nat.le_refl _)⟩, t⟩
  m := a.m
  t := fun t ht => by
    obtain ⟨p, n, l⟩ := a.t t ht
    exact ⟨⟨p.1, by omega⟩, n, l⟩
abbrev HS (h : Hs) : Prop := HOk h 4 4 1001 1001 1001
/-- what stands of a change -/
structure Ch (s : List (Int × Rat)) (D : Nat) : Prop where
  D0 : 0 < D
  D1 : D ≤ 19683
  spr : Spr s
  qn : ∀ p ∈ s, QN D D p.2
  val : ∀ p ∈ s, -5000 ≤ p.1 ∧ p.1 ≤ 1000
  len : s.length ≤ 27
theorem Dm.std {W : Wtr} {cnt : Nat} {P : Int} (h : WOk W cnt 4 1001 P) : ∃ D, 0 < D ∧ D ≤ 19683 ∧ Spr (dmgL W.lines) ∧ (∀ p ∈ dmgL W.lines, QN D D p.2) ∧ (∀ p ∈ dmgL W.lines, 0 ≤ p.1 ∧ p.1 ≤ 3000) ∧ (dmgL W.lines).length ≤ 27 := by
  obtain ⟨D, hD⟩ := Dm.of h.l
  have hn := h.n
  refine ⟨D, hD.D0, Nat.le_trans hD.D1 (pow_i (show W.lines.length ≤ 3 by omega) (by decide)), hD.spr, hD.qn, fun p hp => ?_, Nat.le_trans hD.len (pow_i (show W.lines.length ≤ 3 by omega) (by decide))⟩
  have := hD.val p hp
  omega
theorem tot_flp (c : Int) (s : List (Int × Rat)) : tot (flp c s) = tot s := by unfold flp tot; rw [List.map_map]; rfl
theorem tot_aft (ls : List Layer) (s : List (Int × Rat)) : tot (aft ls s) = tot s := by unfold aft tot; rw [List.map_map]; rfl
theorem Ch.of {W : Wtr} {cnt : Nat} {t : Int × List Layer} (h : WOk W cnt 4 1001 1001) (ht : (0 ≤ t.1 ∧ t.1 < 1001) ∧ (∀ l ∈ t.2, LOk l) ∧ t.2.length ≤ 4) : ∃ D, Ch (chg W t) D := by
  obtain ⟨D, h0, h1, hs, hq, hv, hl⟩ := Dm.std h
  have ml : ∀ p ∈ flp (W.prem - t.1) (aft t.2 (dmgL W.lines)), ∃ r ∈ dmgL W.lines, p = (W.prem - t.1 - rem t.2 r.1, r.2) := fun p hp => by
    obtain ⟨q, hq, rfl⟩ := List.mem_map.mp hp
    obtain ⟨r, hr, rfl⟩ := List.mem_map.mp hq
    exact ⟨r, hr, rfl⟩
  have sp : Spr (chg W t) := gath_Spr (fun p hp => by
    obtain ⟨r, hr, rfl⟩ := ml p hp
    exact Rat.le_of_lt (hs.pos r hr)) (by rw [tot_flp, tot_aft]; exact hs.one)
  refine ⟨D, h0, h1, sp, Spr.unit sp (gath_QN h0 fun p hp => by
    obtain ⟨r, hr, rfl⟩ := ml p hp
    exact hq r hr), fun p hp => ?_, ?_⟩
  · obtain ⟨q, hq, e⟩ := gath_val hp
    obtain ⟨r, hr, rfl⟩ := ml q hq
    have := hv r hr
    have b := rem_bd ht.2.1 (hv r hr).1
    have := h.p
    rw [← e]
    show -5000 ≤ W.prem - t.1 - rem t.2 r.1 ∧ W.prem - t.1 - rem t.2 r.1 ≤ 1000
    omega
  · refine Nat.le_trans (gath_len _) (Nat.le_trans (ks_len _) ?_)
    unfold flp aft
    rw [List.length_map, List.length_map]
    exact hl
section
variable {E : Evn} {f g h k : Nat}
def IsChg (E : Evn) (n c : Nat) : Prop := ∀ (H : Hs), HS H → (∀ (i j : Nat) (hi : i < H.1.length) (hj : j < H.2.length), E.F n [dH H, .int i, .int j] = .ok (dS (chg H.1[i] H.2[j]))) ∧ ∀ w t : Int, ((w < 0 ∨ (H.1.length : Int) ≤ w) ∨ (t < 0 ∨ (H.2.length : Int) ≤ t)) → E.F n [dH H, .int w, .int t] = .error (some c)
theorem t_change_of_ok {c : Nat} (hw : IsWat E f c) (ha : IsAft E g) (ht : IsTdm E h c) (hs : IsShft E k) {H : Hs} (hH : HS H) :
    (∀ (i j : Nat) (hi : i < H.1.length) (hj : j < H.2.length), runF E (t_change_of f c g h k) [dH H, .int i, .int j] = .ok (dS (chg H.1[i] H.2[j]))) ∧ ∀ w t : Int, ((w < 0 ∨ (H.1.length : Int) ≤ w) ∨ (t < 0 ∨ (H.2.length : Int) ≤ t)) → runF E (t_change_of f c g h k) [dH H, .int w, .int t] = .error (some c) := by
  have L : ∀ {n : Nat}, n < 1000000000 → n < lim := fun h => lt_lim (Nat.lt_of_lt_of_le h (by decide))
  have ch : ∀ {Γ : List Sl} {t : Int}, Γ[0]? = some (.sh (dH H)) → Γ[2]? = some (.sh (.int t)) → ev E (.not (.chn .le .lt (.int 0) (.var 2) (.blt .len (.cons (.idx (.var 0) (.int 1)) .nil)))) Γ = .ok (.bool (!(decide ((0 : Int) ≤ t) && decide (t < (H.2.length : Int))))) := fun {Γ} {t} g0 g2 =>
    ev_not (ev_chn2 ev_int (ev_var g2) (ev_lenm (enc := dT) (xs := H.2) (ev_idx (ev_var g0) ev_int rfl)))
  refine ⟨fun i j hi hj => run_wp rfl ?_, fun w t hx => run_wp rfl ?_⟩
  · have w1 := (hw H i).1 i hi rfl
    have hWk := hH.w H.1[i] (List.getElem_mem hi)
    have hT := hH.t H.2[j] (List.getElem_mem hj)
    have d1 := (ht H i).1 i hi rfl (by have := hWk.n; omega) hWk.l
    have ej : ∀ {Γ : List Sl}, Γ[0]? = some (.sh (dH H)) → Γ[2]? = some (.sh (.int j)) → ev E (.idx (.idx (.var 0) (.int 1)) (.var 2)) Γ = .ok (dT H.2[j]) := fun g0 g2 => ev_idxm (enc := dT) (k := j) (ev_idx (ev_var g0) ev_int rfl) (ev_var g2) hj
    generalize H.1[i] = W at w1 hWk d1
    generalize H.2[j] = t at hT ej
    obtain ⟨D, h0, h1, sp, hq, hv, hl⟩ := Dm.std hWk
    have kl := ks_len (aft t.2 (dmgL W.lines))
    have al : (aft t.2 (dmgL W.lines)).length = (dmgL W.lines).length := by unfold aft; rw [List.length_map]
    have m1 : (dmgL W.lines).length * D ≤ 27 * 19683 := Nat.mul_le_mul hl h1
    have a1 := ha D D t (dmgL W.lines) hT.2.1 (fun p hp => ⟨(hv p hp).1, Int.lt_of_le_of_lt (hv p hp).2 (by decide)⟩) h0 hq (L (by omega)) (L (by omega)) (by omega) (by unfold most; omega)
    have gl := gath_len (aft t.2 (dmgL W.lines))
    let kp := gath (aft t.2 (dmgL W.lines))
    have klen : kp.length ≤ 27 := by show (gath (aft t.2 (dmgL W.lines))).length ≤ 27; omega
    let ng : List (Int × Rat) := (kp.map fun p => (-p.1, p.2)).reverse
    have s1 := hs ng (W.prem - t.1) (by simp only [ng, List.length_reverse, List.length_map]; unfold most; omega)
    have es : shft ng (W.prem - t.1) = chg W t := by
      show shft ng (W.prem - t.1) = gath (flp (W.prem - t.1) (aft t.2 (dmgL W.lines)))
      rw [← flp_gath]
      simp only [ng, shft, flp]
      rw [List.map_reverse, List.map_map]
      refine congrArg List.reverse (List.map_congr_left fun p _ => ?_)
      show (-p.1 + (W.prem - t.1), p.2) = (W.prem - t.1 - p.1, p.2)
      congr 1
      omega
    rw [es] at s1
    show Wp E _ [.sh (dH H), .sh (.int i), .sh (.int j), .non, .non, .non, .non, .non, .non] _
    refine wp_setT (ds := [.int W.prem, .list (W.lines.map dS), dS W.turns]) (ev_call (evs_2 (ev_var rfl) (ev_var rfl)) w1) rfl ?_
    have c1 := ch (Γ := [.sh (dH H), .sh (.int i), .sh (.int j), .non, .sh (.int W.prem), .sh (dS W.turns), .non, .non, .non]) (t := j) rfl rfl
    rw [show (decide ((0 : Int) ≤ (j : Int)) && decide ((j : Int) < (H.2.length : Int))) = true by simp; omega] at c1
    refine wp_iff0 c1 ?_
    refine wp_setT (ds := [.int t.1, .list (t.2.map dL)]) (ej rfl rfl) rfl ?_
    show Wp E _ [.sh (dH H), .sh (.int i), .sh (.int j), .non, .sh (.int W.prem), .sh (.list (t.2.map dL)), .sh (.int t.1), .non, .non] _
    refine wp_set (d := dS kp) (ev_call (evs_2 (ej rfl rfl) (ev_call (evs_2 (ev_var rfl) (ev_var rfl)) d1)) a1) (show 3 < 9 by decide) ?_
    show Wp E _ [.sh (dH H), .sh (.int i), .sh (.int j), .sh (dS kp), .sh (.int W.prem), .sh (.list (t.2.map dL)), .sh (.int t.1), .non, .non] _
    have z := evF_lc (E := E) (Γ := [.sh (dH H), .sh (.int i), .sh (.int j), .sh (dS kp), .sh (.int W.prem), .sh (.list (t.2.map dL)), .sh (.int t.1), .non, .non]) (enc := pq) (g := fun p => pq (-p.1, p.2)) (xs := kp) (vs := [7, 8]) (tg := .tp [7, 8]) (it := .of (.var 3)) (el := .tup (.cons (.neg (.var 7)) (.cons (.var 8) .nil)))
      (evI_lst (ev_var rfl)) (by unfold most; omega) (fun p hp => ⟨[.sh (dH H), .sh (.int i), .sh (.int j), .sh (dS kp), .sh (.int W.prem), .sh (.list (t.2.map dL)), .sh (.int t.1), .sh (.int p.1), .sh (fq p.2)], rfl, ev_tup2 (ev_neg (ev_var rfl)) (ev_var rfl)⟩)
    have z2 := ev_rev (ev_lc z)
    rw [show (kp.map fun p => pq (-p.1, p.2)).reverse = ng.map pq by simp only [ng]; rw [List.map_reverse, List.map_map]; rfl] at z2
    exact wp_retC (d := dS (chg W t)) (evs_2 z2 (ev_sub (ev_var rfl) (ev_var rfl))) s1 rfl
  · show Wp E _ [.sh (dH H), .sh (.int w), .sh (.int t), .non, .non, .non, .non, .non, .non] _
    by_cases hw1 : w < 0 ∨ (H.1.length : Int) ≤ w
    · exact wp_setT_xc (ev_callX (evs_2 (ev_var rfl) (ev_var rfl)) ((hw H w).2 hw1)) rfl
    · obtain ⟨i, hi⟩ : ∃ i : Nat, w = (i : Int) := ⟨w.toNat, by omega⟩
      subst hi
      have hi : i < H.1.length := by omega
      have w1 := (hw H i).1 i hi rfl
      generalize H.1[i] = W at w1
      refine wp_setT (ds := [.int W.prem, .list (W.lines.map dS), dS W.turns]) (ev_call (evs_2 (ev_var rfl) (ev_var rfl)) w1) rfl ?_
      have c1 := ch (Γ := [.sh (dH H), .sh (.int i), .sh (.int t), .non, .sh (.int W.prem), .sh (dS W.turns), .non, .non, .non]) (t := t) rfl rfl
      rw [show (decide ((0 : Int) ≤ t) && decide (t < (H.2.length : Int))) = false by
        simp only [Bool.and_eq_false_iff, decide_eq_false_iff_not]
        omega] at c1
      exact wp_ift c1 (wp_raise rfl)
/-- the law's own -/
def IsLch (E : Evn) (n : Nat) : Prop := ∀ (H : Hs), HS H → ∀ (i j : Nat) (hi : i < H.1.length) (hj : j < H.2.length), E.F n [dH H, .int i, .int j] = .ok (dS (chg H.1[i] H.2[j]))
theorem t_law_change_ok (hg : IsGath E f) (hd : IsLdm E g) (hr : IsRem E h) {H : Hs} (hH : HS H) (i j : Nat) (hi : i < H.1.length) (hj : j < H.2.length) : runF E (t_law_change f g h) [dH H, .int i, .int j] = .ok (dS (chg H.1[i] H.2[j])) := by
  have L : ∀ {n : Nat}, n < 1000000000 → n < lim := fun h => lt_lim (Nat.lt_of_lt_of_le h (by decide))
  refine run_wp rfl ?_
  have hWk := hH.w H.1[i] (List.getElem_mem hi)
  have hT := hH.t H.2[j] (List.getElem_mem hj)
  have d1 := hd H i hi (by have := hWk.n; omega) hWk.l
  have ej : ∀ {Γ : List Sl}, Γ[0]? = some (.sh (dH H)) → Γ[2]? = some (.sh (.int j)) → ev E (.idx (.idx (.var 0) (.int 1)) (.var 2)) Γ = .ok (dT H.2[j]) := fun g0 g2 => ev_idxm (enc := dT) (k := j) (ev_idx (ev_var g0) ev_int rfl) (ev_var g2) hj
  have ei : ∀ {Γ : List Sl}, Γ[0]? = some (.sh (dH H)) → Γ[1]? = some (.sh (.int i)) → ev E (.idx (.idx (.var 0) (.int 0)) (.var 1)) Γ = .ok (dW H.1[i]) := fun g0 g1 => ev_idxm (enc := dW) (k := i) (ev_idx (ev_var g0) ev_int rfl) (ev_var g1) hi
  generalize H.1[i] = W at hWk d1 ei
  generalize H.2[j] = t at hT ej
  obtain ⟨D, h0, h1, sp, hq, hv, hl⟩ := Dm.std hWk
  have gk := ks_len (flp (W.prem - t.1) (aft t.2 (dmgL W.lines)))
  have al : (flp (W.prem - t.1) (aft t.2 (dmgL W.lines))).length = (dmgL W.lines).length := by unfold flp aft; rw [List.length_map, List.length_map]
  have m1 : (dmgL W.lines).length * D ≤ 27 * 19683 := Nat.mul_le_mul hl h1
  have a1 := hg D D (flp (W.prem - t.1) (aft t.2 (dmgL W.lines))) h0 (fun p hp => by
    obtain ⟨q, hq', rfl⟩ := List.mem_map.mp hp
    obtain ⟨r, hr', rfl⟩ := List.mem_map.mp hq'
    exact hq r hr') (L (by omega)) (L (by rw [al]; omega)) (by omega) (by unfold most; omega)
  show Wp E _ [.sh (dH H), .sh (.int i), .sh (.int j), .non, .non, .non, .non] _
  refine wp_setT (ds := [.int t.1, .list (t.2.map dL)]) (ej rfl rfl) rfl ?_
  refine wp_set (d := .int W.prem) (ev_idx (ei rfl rfl) ev_int rfl) (show 3 < 7 by decide) ?_
  show Wp E _ [.sh (dH H), .sh (.int i), .sh (.int j), .sh (.int W.prem), .sh (.int t.1), .sh (.list (t.2.map dL)), .non] _
  have z := evF_lc (E := E) (Γ := [.sh (dH H), .sh (.int i), .sh (.int j), .sh (.int W.prem), .sh (.int t.1), .sh (.list (t.2.map dL)), .non]) (enc := pq) (g := fun p => pq (W.prem - t.1 - rem t.2 p.1, p.2)) (xs := dmgL W.lines) (vs := [6]) (tg := .nm 6) (it := .of (.call g (.cons (.var 0) (.cons (.var 1) .nil)))) (el := .tup (.cons (.bin .sub (.bin .sub (.var 3) (.var 4)) (.call h (.cons (.idx (.idx (.var 0) (.int 1)) (.var 2)) (.cons (.idx (.var 6) (.int 0)) .nil)))) (.cons (.idx (.var 6) (.int 1)) .nil)))
    (evI_lst (ev_call (evs_2 (ev_var rfl) (ev_var rfl)) d1)) (by unfold most; omega) (fun p hp => ⟨[.sh (dH H), .sh (.int i), .sh (.int j), .sh (.int W.prem), .sh (.int t.1), .sh (.list (t.2.map dL)), .sh (pq p)], rfl,
      ev_tup2 (ev_sub (ev_sub (ev_var rfl) (ev_var rfl)) (ev_call (evs_2 (ej rfl rfl) (ev_idx (ev_var rfl) ev_int (pq_idx0 p))) (hr t.1 t.2 p.1 hT.2.1 (hv p hp).1 (Int.lt_of_le_of_lt (hv p hp).2 (by decide))))) (ev_idx (ev_var rfl) ev_int (pq_idx1 p))⟩)
  rw [show ((dmgL W.lines).map fun p => pq (W.prem - t.1 - rem t.2 p.1, p.2)) = (flp (W.prem - t.1) (aft t.2 (dmgL W.lines))).map pq by unfold flp aft; rw [List.map_map, List.map_map]; rfl] at z
  exact wp_ret (d := dS (chg W t)) (ev_call (evs_1 (ev_lc z)) a1) rfl
end
end Dee

set_option maxRecDepth 100000
set_option maxHeartbeats 2000000
/-! Dee, part 44: drawn houses. -/
namespace Dee
open PySem PySem.Spec L2 PyProof.Rows
def hV (w : Nat) : Int := if w = 0 then 9 else 1001
def hP (w : Nat) : Int := if w = 0 then 7 else 1001
def hQ (w : Nat) : Int := if w = 0 then 4 else 1001
def IsHouse (E : Evn) (n : Nat) : Prop := ∀ (c m : Int) (pl ln w : Nat), 0 < pl → pl ≤ 4 → 0 < ln → ln ≤ 4 → w < 2 → ∃ h, HOk h pl ln (hV w) (hP w) (hQ w) ∧ E.F n [.int c, .int m, .int (pl : Nat), .int (ln : Nat), .int (w : Nat)] = .ok (dH h)
theorem hStd {h : Hs} {pl ln w : Nat} (a : HOk h pl ln (hV w) (hP w) (hQ w)) (h1 : pl ≤ 4) (h2 : ln ≤ 4) : HS h := a.mono h1 h2 (by unfold hV; split <;> decide) (by unfold hP; split <;> decide) (by unfold hQ; split <;> decide)
theorem sel2 (x y : Int) {w : Nat} (h : w < 2) : idxD (.list [.int x, .int y]) (.int (w : Nat)) = .ok (.int (if w = 0 then x else y)) := by
  have : w = 0 ∨ w = 1 := by omega
  rcases this with rfl | rfl <;> rfl
theorem pick {X : Type} {R : Nat → X → Prop} : ∀ n : Nat, (∀ j, j < n → ∃ x, R j x) → ∃ xs : List X, xs.length = n ∧ ∀ j (h : j < xs.length), R j xs[j]
  | 0, _ => ⟨[], rfl, fun j h => absurd h (Nat.not_lt_zero _)⟩
  | n + 1, h => by
    obtain ⟨xs, hl, hx⟩ := pick n fun j hj => h j (by omega)
    obtain ⟨x, hr⟩ := h n (by omega)
    refine ⟨xs ++ [x], by rw [List.length_append, hl]; rfl, fun j hj => ?_⟩
    by_cases hj2 : j < xs.length
    · rw [List.getElem_append_left hj2]
      exact hx j hj2
    · have e : j = n := by rw [List.length_append] at hj; simp at hj; omega
      subst e
      rw [List.getElem_append_right (by omega)]
      simpa [hl] using hr
/-- a list of things that answer somehow -/
theorem evF_some {X : Type} {enc : X → D} {E : Evn} {Γ : List Sl} {vs : List Nat} {tg : Tg} {it : CI} {el : CE} {n : Nat} {P : X → Prop} (hi : evI E it Γ = .ok ((List.range n).map fun i => PyData.int (i : Nat))) (hn : n ≤ 1000) (h : ∀ j, j < n → ∃ x, P x ∧ ∃ Γ1, asg tg (.int (j : Nat)) (wipeG Γ vs) = some Γ1 ∧ ev E el Γ1 = .ok (enc x)) :
    ∃ xs : List X, xs.length = n ∧ (∀ x ∈ xs, P x) ∧ ev E (.lc vs tg it .nil el) Γ = .ok (.list (xs.map enc)) := by
  obtain ⟨xs, hl, hx⟩ := pick n h
  refine ⟨xs, hl, fun x hm => ?_, ?_⟩
  · obtain ⟨j, hj, rfl⟩ := List.mem_iff_getElem.mp hm
    exact (hx j hj).1
  · have z := evF_lc (E := E) (Γ := Γ) (enc := fun i : Nat => PyData.int (i : Nat)) (g := fun j => (xs.map enc).getD j .none) (xs := List.range n) (vs := vs) (tg := tg) (it := it) (el := el) hi (by rw [List.length_range]; unfold most; omega) (fun j hj => by
      have hj : j < xs.length := by rw [hl]; exact List.mem_range.mp hj
      obtain ⟨_, Γ1, h1, h2⟩ := hx j hj
      refine ⟨Γ1, h1, ?_⟩
      rw [h2]
      simp [List.getD_eq_getElem?_getD, hj])
    rw [show (List.range n).map (fun j => (xs.map enc).getD j .none) = xs.map enc by
      refine List.ext_getElem (by simp [hl]) fun i h1 h2 => ?_
      have : i < xs.length := by simpa using h2
      simp [List.getD_eq_getElem?_getD, this]] at z
    exact ev_lc z
theorem e_t9 {E : Evn} {Γ : List Sl} : ev E (.bin .mul (.lst (.cons (.bin .pow (.int 10) (.int 9)) .nil)) (.int 4)) Γ = .ok (.list (([1000000000, 1000000000, 1000000000, 1000000000] : List Int).map .int)) := by
  have h : ev E (.bin .pow (.int 10) (.int 9)) Γ = .ok (.int 1000000000) := ev_bin ev_int ev_int (b_pow (n := 9) (by decide) (by decide))
  exact ev_rep1 (k := 4) (ev_lst1 h) ev_int (by decide)
section
variable {E : Evn} {f g h k : Nat}
def hbd (f g h : Nat) : CSs := match t_law_house f g h with
  | ⟨_, _, .cons _ (.cons _ (.cons _ (.cons _ (.cons (.for _ _ b) _)))), _⟩ => b
  | _ => .nil
theorem th_turn (hd : IsDraws E f) (hs : IsSpread E g) {c m : Int} {pl ln w cnt : Nat} {ys : List Int} (hl : 0 < ln) (hl4 : ln ≤ 4) (hw : w < 2) (hc : 0 < cnt) (hc4 : cnt ≤ 4) {ws : List Wtr} (hws : ws.length < 100) {x10 x11 x12 x13 x14 : Sl} {j : Nat} (hj : j < 4) {Q : Out → Prop}
    (k : ∀ W x11 x12 x13 x14, WOk W cnt ln (hV w) (hP w) → Q (.nx [.sh (.int c), .sh (.int m), .sh (.int (pl : Nat)), .sh (.int (ln : Nat)), .sh (.int (w : Nat)), .sh (.list (ys.map .int)), .sh (.int (cnt : Nat)), .sh (.int (hV w)), .own ((ws ++ [W]).map dW), .sh (.int (j : Nat)), x10, x11, x12, x13, x14])) :
    Wp E (hbd f g h) [.sh (.int c), .sh (.int m), .sh (.int (pl : Nat)), .sh (.int (ln : Nat)), .sh (.int (w : Nat)), .sh (.list (ys.map .int)), .sh (.int (cnt : Nat)), .sh (.int (hV w)), .own (ws.map dW), .sh (.int (j : Nat)), x10, x11, x12, x13, x14] Q := by
  have hPb : 0 < hP w ∧ hP w < 2000 := by unfold hP; split <;> decide
  have hVb : 0 < hV w ∧ hV w < 2000 := by unfold hV; split <;> decide
  obtain ⟨zs, hR, ed⟩ := hd (m / ((j : Int) + 1) + 7 * j) (hP w :: (ln : Int) :: [1000000000, 1000000000, 1000000000, 1000000000]) (fun l hl => by
    have : 0 < l ∧ l.natAbs < 2000000000 := by
      simp only [List.mem_cons, List.not_mem_nil, or_false] at hl
      rcases hl with rfl | rfl | rfl | rfl | rfl | rfl <;> omega
    exact ⟨this.1, bd_small (Nat.lt_of_lt_of_le this.2 (by decide))⟩) (show 6 ≤ 100 by decide)
  obtain ⟨zl, hat⟩ := Rng_at hR
  have zl : zs.length = 6 := zl
  have b0 : 0 ≤ zs.getD 0 0 ∧ zs.getD 0 0 < hP w := hat 0 (show 0 < 6 by decide)
  have b1 : 0 ≤ zs.getD 1 0 ∧ zs.getD 1 0 < (ln : Int) := hat 1 (show 1 < 6 by decide)
  obtain ⟨n, hn⟩ : ∃ n : Nat, zs.getD 1 0 = (n : Int) := ⟨(zs.getD 1 0).toNat, by omega⟩
  refine wp_set (d := .list (zs.map .int)) (ev_call (evs_2 (ev_add (ev_bin (ev_intB (ev_var rfl)) (ev_add (ev_var rfl) ev_int) (b_div (by omega) (Nat.lt_of_lt_of_le (show ((j : Int) + 1).natAbs < 100 by omega) (Nat.le_trans (show 100 ≤ 2 ^ 10 by decide) (Nat.pow_le_pow_right (by decide) (by decide)))))) (ev_bin ev_int (ev_var rfl) (b_mul (mul_ok (Nat.lt_of_lt_of_le (show (7 : Int).natAbs < 2 ^ 4 by decide) (pow_lt_pow (by decide))) (Nat.lt_of_lt_of_le (show ((j : Nat) : Int).natAbs < 2 ^ 4 by omega) (pow_lt_pow (by decide)))))))
    (ev_catm (f := PyData.int) (xs := [hP w, (ln : Int)]) (ys := [1000000000, 1000000000, 1000000000, 1000000000]) (ev_lst2 (ev_idx (ev_lst2 ev_int ev_int) (ev_var rfl) (sel2 7 1001 hw)) (ev_var rfl)) e_t9 (show 2 + 4 ≤ 1000 by decide))) ed) (show 11 < 15 by decide) ?_
  show Wp E _ [.sh (.int c), .sh (.int m), .sh (.int (pl : Nat)), .sh (.int (ln : Nat)), .sh (.int (w : Nat)), .sh (.list (ys.map .int)), .sh (.int (cnt : Nat)), .sh (.int (hV w)), .own (ws.map dW), .sh (.int (j : Nat)), x10, .sh (.list (zs.map .int)), x12, x13, x14] Q
  obtain ⟨ss, sl, sok, se⟩ := evF_some (E := E) (Γ := [.sh (.int c), .sh (.int m), .sh (.int (pl : Nat)), .sh (.int (ln : Nat)), .sh (.int (w : Nat)), .sh (.list (ys.map .int)), .sh (.int (cnt : Nat)), .sh (.int (hV w)), .own (ws.map dW), .sh (.int (j : Nat)), x10, .sh (.list (zs.map .int)), x12, x13, x14]) (enc := dS) (vs := [14]) (tg := .nm 14) (it := .r1 (.idx (.var 11) (.int 1))) (el := .call g (.cons (.idx (.var 11) (.bin .add (.int 2) (.var 14))) (.cons (.int 3) (.cons (.int 0) (.cons (.var 7) .nil))))) (n := n) (P := fun s => ∃ T, SprD s 0 (hV w) 3 T)
    (evI_rn (by rw [← hn]; exact ev_ix (k := 1) rfl (by omega)) (by omega)) (by omega) (fun i hi => by
      obtain ⟨s, T, hS, es⟩ := hs (zs[2 + i]'(by omega)) 0 (hV w) 3 (by decide) (by decide) hVb.1 (Int.lt_trans hVb.2 (by decide))
      rw [Int.zero_add] at hS
      exact ⟨s, ⟨T, hS⟩, [.sh (.int c), .sh (.int m), .sh (.int (pl : Nat)), .sh (.int (ln : Nat)), .sh (.int (w : Nat)), .sh (.list (ys.map .int)), .sh (.int (cnt : Nat)), .sh (.int (hV w)), .own (ws.map dW), .sh (.int (j : Nat)), x10, .sh (.list (zs.map .int)), x12, x13, .sh (.int (i : Nat))], rfl, ev_call (evs_cons (ev_idxm (enc := PyData.int) (xs := zs) (k := 2 + i) (ev_var rfl) (by rw [show ((2 + i : Nat) : Int) = 2 + (i : Int) by omega]; exact ev_add ev_int (ev_var rfl)) (by omega)) (evs_cons ev_int (evs_2 ev_int (ev_var rfl)))) es⟩)
  refine wp_set se (show 12 < 15 by decide) ?_
  obtain ⟨t, T, hT, et⟩ := hs (zs.getD 5 0) 0 (cnt : Int) 2 (by decide) (by decide) (by omega) (Int.lt_of_lt_of_le (show (cnt : Int) < 5 by omega) (by decide))
  rw [Int.zero_add] at hT
  show Wp E _ [.sh (.int c), .sh (.int m), .sh (.int (pl : Nat)), .sh (.int (ln : Nat)), .sh (.int (w : Nat)), .sh (.list (ys.map .int)), .sh (.int (cnt : Nat)), .sh (.int (hV w)), .own (ws.map dW), .sh (.int (j : Nat)), x10, .sh (.list (zs.map .int)), .sh (.list (ss.map dS)), x13, x14] Q
  refine wp_set (d := dS t) (ev_call (evs_cons (ev_ix (k := 5) rfl (by omega)) (evs_cons ev_int (evs_2 ev_int (ev_var rfl)))) et) (show 13 < 15 by decide) ?_
  show Wp E _ [.sh (.int c), .sh (.int m), .sh (.int (pl : Nat)), .sh (.int (ln : Nat)), .sh (.int (w : Nat)), .sh (.list (ys.map .int)), .sh (.int (cnt : Nat)), .sh (.int (hV w)), .own (ws.map dW), .sh (.int (j : Nat)), x10, .sh (.list (zs.map .int)), .sh (.list (ss.map dS)), .sh (dS t), x14] Q
  have kk := fun x14 => k ⟨zs.getD 0 0, ss, t⟩ (.sh (.list (zs.map .int))) (.sh (.list (ss.map dS))) (.sh (dS t)) x14 ⟨b0, show ss.length < ln by omega, sok, T, hT⟩
  rw [List.map_append] at kk
  exact wp_app rfl (ev_tup3 (ev_ix (k := 0) rfl (by omega)) (ev_var rfl) (ev_var rfl)) (by rw [List.length_map]; unfold most; omega) (wp_nil (kk _))
theorem t_law_house_ok (hd : IsDraws E f) (hs : IsSpread E g) (ht : IsTreaty E h) {c m : Int} {pl ln w : Nat} (hp : 0 < pl) (hp4 : pl ≤ 4) (hl : 0 < ln) (hl4 : ln ≤ 4) (hw : w < 2) : ∃ H, HOk H pl ln (hV w) (hP w) (hQ w) ∧ runF E (t_law_house f g h) [.int c, .int m, .int (pl : Nat), .int (ln : Nat), .int (w : Nat)] = .ok (dH H) := by
  obtain ⟨ys, hR, ed⟩ := hd c ((pl : Int) :: 4 :: [1000000000, 1000000000, 1000000000, 1000000000]) (fun l hl => by
    have : 0 < l ∧ l.natAbs < 2000000000 := by
      simp only [List.mem_cons, List.not_mem_nil, or_false] at hl
      rcases hl with rfl | rfl | rfl | rfl | rfl | rfl <;> omega
    exact ⟨this.1, bd_small (Nat.lt_of_lt_of_le this.2 (by decide))⟩) (show 6 ≤ 100 by decide)
  obtain ⟨yl, hat⟩ := Rng_at hR
  have yl : ys.length = 6 := yl
  have b0 : 0 ≤ ys.getD 0 0 ∧ ys.getD 0 0 < (pl : Int) := hat 0 (show 0 < 6 by decide)
  have b1 : 0 ≤ ys.getD 1 0 ∧ ys.getD 1 0 < 4 := hat 1 (show 1 < 6 by decide)
  obtain ⟨cnt, hcnt⟩ : ∃ n : Nat, 1 + ys.getD 0 0 = (n : Int) := ⟨(1 + ys.getD 0 0).toNat, by omega⟩
  obtain ⟨tn, htn⟩ : ∃ n : Nat, 1 + ys.getD 1 0 = (n : Int) := ⟨(1 + ys.getD 1 0).toNat, by omega⟩
  have run : ∃ o, exs E (t_law_house f g h).body (slots 15 [.int c, .int m, .int (pl : Nat), .int (ln : Nat), .int (w : Nat)]) = o ∧ ∃ H, HOk H pl ln (hV w) (hP w) (hQ w) ∧ o = .rt (dH H) := by
    refine ⟨_, rfl, ?_⟩
    show Wp E (t_law_house f g h).body [.sh (.int c), .sh (.int m), .sh (.int (pl : Nat)), .sh (.int (ln : Nat)), .sh (.int (w : Nat)), .non, .non, .non, .non, .non, .non, .non, .non, .non, .non] (fun o => ∃ H, HOk H pl ln (hV w) (hP w) (hQ w) ∧ o = .rt (dH H))
    refine wp_set (d := .list (ys.map .int)) (ev_call (evs_2 (ev_var rfl) (ev_catm (f := PyData.int) (xs := [(pl : Int), 4]) (ys := [1000000000, 1000000000, 1000000000, 1000000000]) (ev_lst2 (ev_var rfl) ev_int) e_t9 (show 2 + 4 ≤ 1000 by decide))) ed) (show 5 < 15 by decide) ?_
    refine wp_set (d := .int (cnt : Nat)) (by rw [← hcnt]; exact ev_add ev_int (ev_ix (k := 0) rfl (by omega))) (show 6 < 15 by decide) ?_
    refine wp_set (d := .int (hV w)) (ev_idx (ev_lst2 ev_int ev_int) (ev_var rfl) (sel2 9 1001 hw)) (show 7 < 15 by decide) ?_
    refine wp_setO (ds := ([] : List Wtr).map dW) rfl (show 8 < 15 by decide) ?_
    refine wp_for (enc := fun i : Nat => PyData.int (i : Nat)) (xs := List.range cnt) (fun pre Γ => ∃ ws x9 x10 x11 x12 x13 x14, Γ = [.sh (.int c), .sh (.int m), .sh (.int (pl : Nat)), .sh (.int (ln : Nat)), .sh (.int (w : Nat)), .sh (.list (ys.map .int)), .sh (.int (cnt : Nat)), .sh (.int (hV w)), .own ((ws : List Wtr).map dW), x9, x10, x11, x12, x13, x14] ∧ (∀ W ∈ ws, WOk W cnt ln (hV w) (hP w)) ∧ ws.length = pre.length)
      (evI_rn (ev_var rfl) (by omega)) ⟨[], _, _, _, _, _, _, rfl, by simp, rfl⟩ ?_ ?_
    · rintro pre j post Γ ej ⟨ws, x9, x10, x11, x12, x13, x14, rfl, hws, hwl⟩
      obtain ⟨hj, hj2⟩ := range_split0 ej
      refine ⟨[.sh (.int c), .sh (.int m), .sh (.int (pl : Nat)), .sh (.int (ln : Nat)), .sh (.int (w : Nat)), .sh (.list (ys.map .int)), .sh (.int (cnt : Nat)), .sh (.int (hV w)), .own (ws.map dW), .sh (.int (j : Nat)), x10, x11, x12, x13, x14], rfl, ?_⟩
      refine th_turn (h := h) hd hs hl hl4 hw (by omega) (by omega) (by omega) (by omega) ?_
      intro W x11 x12 x13 x14 hW
      exact ⟨ws ++ [W], _, _, _, _, _, _, rfl, fun x hx => by
        rcases List.mem_append.mp hx with hx | hx
        · exact hws x hx
        · rw [show x = W by simpa using hx]; exact hW, by rw [List.length_append, List.length_append, hwl]; rfl⟩
    · rintro Γ ⟨ws, x9, x10, x11, x12, x13, x14, rfl, hws, hwl⟩
      rw [List.length_range] at hwl
      have hQb : 0 < hQ w ∧ hQ w < 2000 := by unfold hQ; split <;> decide
      obtain ⟨ts, tl, tok, te⟩ := evF_some (E := E) (Γ := [.sh (.int c), .sh (.int m), .sh (.int (pl : Nat)), .sh (.int (ln : Nat)), .sh (.int (w : Nat)), .sh (.list (ys.map .int)), .sh (.int (cnt : Nat)), .sh (.int (hV w)), .own (ws.map dW), x9, x10, x11, x12, x13, x14]) (enc := dT) (vs := [9]) (tg := .nm 9) (it := .r1 (.bin .add (.int 1) (.idx (.var 5) (.int 1)))) (el := .call h (.cons (.bin .add (.idx (.var 5) (.bin .add (.int 2) (.var 9))) (.var 9)) (.cons (.idx (.lst (.cons (.int 4) (.cons (.int 1001) .nil))) (.var 4)) .nil))) (n := tn) (P := fun t => (0 ≤ t.1 ∧ t.1 < hQ w) ∧ (∀ l ∈ t.2, LOk l) ∧ t.2.length ≤ 4)
        (evI_rn (by rw [← htn]; exact ev_add ev_int (ev_ix (k := 1) rfl (by omega))) (by omega)) (by omega) (fun i hi => by
          obtain ⟨p, ls, h1, h2, h3, et⟩ := ht (ys[2 + i]'(by omega) + (i : Int)) (hQ w) hQb.1 (Int.lt_trans hQb.2 (by decide))
          exact ⟨(p, ls), ⟨h1, h2, h3⟩, [.sh (.int c), .sh (.int m), .sh (.int (pl : Nat)), .sh (.int (ln : Nat)), .sh (.int (w : Nat)), .sh (.list (ys.map .int)), .sh (.int (cnt : Nat)), .sh (.int (hV w)), .own (ws.map dW), .sh (.int (i : Nat)), x10, x11, x12, x13, x14], rfl, ev_call (evs_2 (ev_add (ev_idxm (enc := PyData.int) (xs := ys) (k := 2 + i) (ev_var rfl) (by rw [show ((2 + i : Nat) : Int) = 2 + (i : Int) by omega]; exact ev_add ev_int (ev_var rfl)) (by omega)) (ev_var rfl)) (ev_idx (ev_lst2 ev_int ev_int) (ev_var rfl) (sel2 4 1001 hw))) et⟩)
      refine wp_set te (show 10 < 15 by decide) ?_
      refine wp_frz ?_
      exact wp_ret (d := dH (ws, ts)) (ev_tup2 (ev_var rfl) (ev_var rfl)) ⟨(ws, ts), ⟨⟨by show 0 < ws.length; omega, by show ws.length ≤ pl; omega⟩, fun W hW => by
        show WOk W ws.length ln _ _
        rw [hwl]
        exact hws W hW, ⟨by show 0 < ts.length; omega, by show ts.length ≤ 4; omega⟩, tok⟩, rfl⟩
  obtain ⟨o, e, H, h1, h2⟩ := run
  refine ⟨H, h1, ?_⟩
  rw [runF_ofX rfl e, h2]
  rfl
end
end Dee

set_option maxRecDepth 100000
set_option maxHeartbeats 2000000
/-! Dee, part 45: houses can be shown. -/
namespace Dee
open PySem PySem.Spec L2 PyProof.Rows
theorem SprD.shw' {s : List (Int × Rat)} {lo hi : Int} {n T : Nat} (h : SprD s lo hi n T) (hv : -100000 ≤ lo ∧ hi ≤ 100000) (hn : n ≤ 1000) : Shw (Dee.dS s) 3 (n * 5781 + 2) := h.shw (V := 100000) ⟨by omega, by omega⟩ (by decide) hn
theorem Shw.dW {W : Wtr} {cnt : Nat} (h : WOk W cnt 4 1001 1001) (hc : cnt ≤ 1000) : Shw (Dee.dW W) 5 200000 := by
  have hp := h.p
  have hn := h.n
  have a : Shw (.list (W.lines.map Dee.dS)) 4 52043 := (Shw.list (enc := Dee.dS) (xs := W.lines) (n := 17345) fun s hs => by
    obtain ⟨T, hT⟩ := h.l s hs
    exact hT.shw' ⟨by decide, by decide⟩ (by decide)).mono (by decide) (by omega)
  obtain ⟨T, hT⟩ := h.t
  have b : Shw (Dee.dS W.turns) 3 11564 := hT.shw' ⟨by decide, by omega⟩ (by decide)
  exact (Shw.tup (xs := [.int W.prem, .list (W.lines.map Dee.dS), Dee.dS W.turns]) (k := 4) (n := 52043) fun x hx => by
    simp only [List.mem_cons, List.not_mem_nil, or_false] at hx
    rcases hx with rfl | rfl | rfl
    · exact (Shw.int (shl_s (by omega))).mono (by decide) (by decide)
    · exact a
    · exact b.mono (by decide) (by decide)).mono (by decide) (show 3 * (52043 + 2) + 3 ≤ 200000 by decide)
theorem Shw.dH {H : Hs} (h : HS H) : Shw (Dee.dH H) 7 1000000 := by
  have hn := h.n
  have hm := h.m
  have a : Shw (.list (H.1.map Dee.dW)) 6 800010 := (Shw.list (enc := Dee.dW) (xs := H.1) (n := 200000) fun w hw => Shw.dW (h.w w hw) (by omega)).mono (by decide) (by omega)
  have b : Shw (.list (H.2.map Dee.dT)) 6 160010 := (Shw.list (enc := Dee.dT) (xs := H.2) (n := 40000) fun t ht => by
    obtain ⟨h1, h2, h3⟩ := h.t t ht
    exact Shw.dT (by omega) h2 (by omega)).mono (by decide) (by omega)
  exact (Shw.tup2 a b).mono (by decide) (by decide)
theorem Shw.dmg {W : Wtr} {cnt : Nat} (h : WOk W cnt 4 1001 1001) : Shw (Dee.dS (dmgL W.lines)) 3 160000 := by
  obtain ⟨D, h0, h1, hs, hq, hv, hl⟩ := Dm.std h
  exact (Shw.dS (V := 3000) hq (fun p hp => by have := hv p hp; omega) (shl_s (by omega)) (shl_s (by omega)) (shl_s (by decide)) hl).mono (by decide) (by decide)
theorem Ch.shw {s : List (Int × Rat)} {D : Nat} (h : Ch s D) : Shw (Dee.dS s) 3 160000 := by
  obtain ⟨h0, h1, hs, hq, hv, hl⟩ := h
  exact (Shw.dS (V := 6000) hq (fun p hp => by have := hv p hp; omega) (shl_s (by omega)) (shl_s (by omega)) (shl_s (by decide)) hl).mono (by decide) (by decide)
end Dee

set_option maxRecDepth 100000
set_option maxHeartbeats 2000000
/-! Dee, part 46: check_spread. -/
namespace Dee
open PySem PySem.Spec L2 PyProof.Rows
/-- a value with a pair that may be no fraction -/
abbrev Xp := Int × (Int × Int)
def dX (x : Xp) : D := .tuple [.int x.1, .tuple [.int x.2.1, .int x.2.2]]
def fraOk (a b : Int) : Bool := decide (1 ≤ b) && decide (((Nat.gcd a.natAbs b.natAbs : Nat) : Int) = 1)
def okX (x : Xp) : Bool := fraOk x.2.1 x.2.2 && decide (0 < x.2.1)
def raw (p : Int × Rat) : Xp := (p.1, (p.2.num, (p.2.den : Nat)))
theorem d_raw (p : Int × Rat) : dX (raw p) = pq p := rfl
theorem ok_raw {p : Int × Rat} (h : 0 < p.2) : okX (raw p) = true := by
  have g : Nat.gcd p.2.num.natAbs p.2.den = 1 := p.2.reduced
  have d := p.2.den_pos
  have n : 0 < p.2.num := by
    have := (num_lt (-p.2)).mpr (by grind)
    rw [Rat.neg_num] at this
    omega
  show ((decide (1 ≤ ((p.2.den : Nat) : Int)) && decide (((Nat.gcd p.2.num.natAbs ((p.2.den : Nat) : Int).natAbs : Nat) : Int) = 1)) && decide (0 < p.2.num)) = true
  rw [Int.natAbs_natCast, g, decide_eq_true n, decide_eq_true (show (1 : Int) ≤ ((p.2.den : Nat) : Int) by omega)]
  rfl
def IsFra (E : Evn) (n : Nat) : Prop := ∀ a b : Int, E.F n [.tuple [.int a, .int b]] = .ok (.bool (fraOk a b))
section
variable {E : Evn} {f g : Nat}
theorem t_is_fraction_ok (a b : Int) : runF E t_is_fraction [.tuple [.int a, .int b]] = .ok (.bool (fraOk a b)) := by
  refine run_wp rfl (wp_ret ?_ rfl)
  have h1 : ev E (.cmp .ge (.idx (.var 0) (.int 1)) (.int 1)) (slots 1 [.tuple [.int a, .int b]]) = .ok (.bool (decide (1 ≤ b))) := rfl
  unfold fraOk
  by_cases h : 1 ≤ b
  · rw [decide_eq_true h] at h1 ⊢
    exact ev_andt h1 rfl
  · rw [decide_eq_false h] at h1 ⊢
    exact ev_andf h1
theorem asc_iff : ∀ {s : List (Int × Rat)}, s.Pairwise (fun a b => a.1 < b.1) ↔ ∀ i, (h : i + 1 < s.length) → s[i].1 < s[i + 1].1
  | [] => ⟨fun _ i h => absurd h (by simp), fun _ => .nil⟩
  | [p] => ⟨fun _ i h => absurd h (by simp), fun _ => by simp⟩
  | p :: q :: s => by
    have ih := asc_iff (s := q :: s)
    refine ⟨fun h i hi => ?_, fun h => ?_⟩
    · rw [List.pairwise_cons] at h
      cases i with
      | zero => exact h.1 q (by simp)
      | succ i => exact ih.mp h.2 i (by simpa using hi)
    · have h2 := ih.mpr fun i hi => h (i + 1) (by simpa using hi)
      refine List.pairwise_cons.mpr ⟨fun r hr => ?_, h2⟩
      have hp : p.1 < q.1 := h 0 (by simp)
      rcases List.mem_cons.mp hr with rfl | hr
      · exact hp
      · have := (List.pairwise_cons.mp h2).1 r hr
        omega
theorem evI_ri {a : CE} {Γ : List Sl} {i : Int} (h : ev E a Γ = .ok (.int i)) (hn : i < 1000000000 ∧ -1000000000 < i) : evI E (.r1 a) Γ = .ok ((List.range i.toNat).map fun i => PyData.int (i : Nat)) := by
  rw [evI_r1 h (small_ok (by omega) (by omega))]
  unfold rangeD
  congr 1
  by_cases h0 : 0 ≤ i
  · obtain ⟨n, rfl⟩ : ∃ n : Nat, i = (n : Int) := ⟨i.toNat, by omega⟩
    simp
  · have : i.toNat = 0 := by omega
    rw [this]
    simp
/-- check_spread -/
structure IsCks (E : Evn) (n c : Nat) : Prop where
  raw : ∀ X : List Xp, X.length ≤ most → (∃ x ∈ X, okX x = false) → E.F n [.list (X.map dX)] = .error (some c)
  ok : ∀ (D N : Nat) (s : List (Int × Rat)), 0 < D → (∀ p ∈ s, QN D N p.2) → D < lim → s.length * N < lim → s.length ≤ 1000 → Spr s → E.F n [dS s] = .ok .none
  bad : ∀ (D N : Nat) (s : List (Int × Rat)), 0 < D → (∀ p ∈ s, QN D N p.2) → D < lim → s.length * N < lim → s.length ≤ 1000 → (∀ p ∈ s, 0 < p.2) → ¬ (s.Pairwise (fun a b => a.1 < b.1) ∧ tot s = 1) → E.F n [dS s] = .error (some c)
def cs1 (f c g w : Nat) : CSs := dropS 1 (t_check_spread f c g w).body
theorem cks_loop (hf : IsFra E f) {c w : Nat} {X : List Xp} {Q : Out → Prop} (hb : (∃ x ∈ X, okX x = false) → ∀ Γ, Q (.xc c Γ)) (k : (∀ x ∈ X, okX x = true) → ∀ x1 x2, Wp E (cs1 f c g w) [.sh (.list (X.map dX)), x1, x2, .non, .non] Q) :
    Wp E (t_check_spread f c g w).body (slots 5 [.list (X.map dX)]) Q := by
  refine wp_for (enc := dX) (xs := X) (fun pre Γ => ∃ x1 x2, Γ = [.sh (.list (X.map dX)), x1, x2, .non, .non] ∧ ∀ x ∈ pre, okX x = true) (evI_lst (ev_var rfl)) ⟨_, _, rfl, by simp⟩ ?_ ?_
  · rintro pre x post Γ ex ⟨x1, x2, rfl, hp⟩
    have hx : x ∈ X := by rw [ex]; simp
    refine ⟨[.sh (.list (X.map dX)), .sh (.int x.1), .sh (.tuple [.int x.2.1, .int x.2.2]), .non, .non], rfl, ?_⟩
    have co : ev E (.or (.not (.call f (.cons (.var 2) .nil))) (.one (.cmp .le (.idx (.var 2) (.int 0)) (.int 0)))) [.sh (.list (X.map dX)), .sh (.int x.1), .sh (.tuple [.int x.2.1, .int x.2.2]), .non, .non] = .ok (.bool (!okX x)) := by
      have h1 := ev_not (ev_call (E := E) (Γ := [.sh (.list (X.map dX)), .sh (.int x.1), .sh (.tuple [.int x.2.1, .int x.2.2]), .non, .non]) (evs_1 (e := .var 2) (ev_var rfl)) (hf x.2.1 x.2.2))
      unfold okX
      cases hfr : fraOk x.2.1 x.2.2 with
      | false =>
        rw [hfr] at h1
        exact ev_ort h1
      | true =>
        rw [hfr] at h1
        rw [ev_orf h1 (ev_one (ev_cmp (t := decide (x.2.1 ≤ 0)) (ev_idx (ev_var rfl) ev_int rfl) ev_int rfl))]
        by_cases h0 : 0 < x.2.1
        · rw [decide_eq_true h0, decide_eq_false (show ¬ x.2.1 ≤ 0 by omega)]
          rfl
        · rw [decide_eq_false h0, decide_eq_true (show x.2.1 ≤ 0 by omega)]
          rfl
    refine wp_if co (fun h => ?_) (fun h => wp_skip (wp_nil ⟨_, _, rfl, fun y hy => ?_⟩))
    · exact wp_raise (hb ⟨x, hx, by simpa using h⟩ _)
    · rcases List.mem_append.mp hy with hy | hy
      · exact hp y hy
      · rw [show y = x by simpa using hy]
        simpa using h
  · rintro Γ ⟨x1, x2, rfl, hp⟩
    exact k hp x1 x2
theorem cks_rest (hg : IsTotal E g) {c w : Nat} (hk : E.G w = some (.tuple [.int 1, .int 1])) {D N : Nat} {s : List (Int × Rat)} (hD : 0 < D) (hq : ∀ p ∈ s, QN D N p.2) (h1 : D < lim) (h2 : s.length * N < lim) (hl : s.length ≤ 1000) {x1 x2 : Sl} {Q : Out → Prop}
    (hb : ¬ (s.Pairwise (fun a b => a.1 < b.1) ∧ tot s = 1) → ∀ Γ, Q (.xc c Γ)) (k : s.Pairwise (fun a b => a.1 < b.1) ∧ tot s = 1 → ∀ Γ, Q (.nx Γ)) : Wp E (cs1 f c g w) [.sh (dS s), x1, x2, .non, .non] Q := by
  have z := evF_lc (E := E) (Γ := [.sh (dS s), x1, x2, .non, .non]) (enc := fun i : Nat => PyData.int (i : Nat)) (g := fun i => PyData.bool (decide ((s.getD (i + 1) (0, 0)).1 ≤ (s.getD i (0, 0)).1))) (xs := List.range ((s.length : Int) - 1).toNat) (vs := [3]) (tg := .nm 3) (it := .r1 (.bin .sub (.blt .len (.cons (.var 0) .nil)) (.int 1))) (el := .cmp .ge (.idx (.idx (.var 0) (.var 3)) (.int 0)) (.idx (.idx (.var 0) (.bin .add (.var 3) (.int 1))) (.int 0)))
    (evI_ri (ev_sub (ev_lenm (enc := pq) (ev_var rfl)) ev_int) (by omega)) (by rw [List.length_range]; unfold most; omega) (fun i hi => by
      have hi := List.mem_range.mp hi
      have hi1 : i + 1 < s.length := by omega
      refine ⟨[.sh (dS s), x1, x2, .sh (.int (i : Nat)), .non], rfl, ?_⟩
      have e1 := ev_idxm (E := E) (Γ := [.sh (dS s), x1, x2, .sh (.int (i : Nat)), .non]) (enc := pq) (xs := s) (a := .var 0) (b := .var 3) (k := i) (ev_var rfl) (ev_var rfl) (by omega)
      have e2 := ev_idxm (E := E) (Γ := [.sh (dS s), x1, x2, .sh (.int (i : Nat)), .non]) (enc := pq) (xs := s) (a := .var 0) (b := .bin .add (.var 3) (.int 1)) (k := i + 1) (ev_var rfl) (by rw [Int.natCast_add]; exact ev_add (ev_var rfl) ev_int) hi1
      have g1 : s.getD i (0, 0) = s[i] := by simp [List.getD_eq_getElem?_getD, show i < s.length by omega]
      have g2 : s.getD (i + 1) (0, 0) = s[i + 1] := by simp [List.getD_eq_getElem?_getD, hi1]
      rw [g1, g2]
      exact ev_cmp (ev_idx e1 ev_int (pq_idx0 _)) (ev_idx e2 ev_int (pq_idx0 _)) rfl)
  rw [show (List.range ((s.length : Int) - 1).toNat).map (fun i => PyData.bool (decide ((s.getD (i + 1) (0, 0)).1 ≤ (s.getD i (0, 0)).1))) = ((List.range ((s.length : Int) - 1).toNat).map fun i => decide ((s.getD (i + 1) (0, 0)).1 ≤ (s.getD i (0, 0)).1)).map PyData.bool by rw [List.map_map]; rfl] at z
  refine wp_if (ev_any (ev_lc z)) (fun h => ?_) (fun h => wp_skip ?_)
  · refine wp_raise (hb (fun hh => ?_) _)
    rw [List.any_eq_true] at h
    obtain ⟨b, hb', hbt⟩ := h
    obtain ⟨i, hi, rfl⟩ := List.mem_map.mp hb'
    have hi := List.mem_range.mp hi
    have hi1 : i + 1 < s.length := by omega
    have a := asc_iff.mp hh.1 i hi1
    have g1 : s.getD i (0, 0) = s[i] := by simp [List.getD_eq_getElem?_getD, show i < s.length by omega]
    have g2 : s.getD (i + 1) (0, 0) = s[i + 1] := by simp [List.getD_eq_getElem?_getD, hi1]
    have := of_decide_eq_true hbt
    rw [g1, g2] at this
    omega
  · have ha : s.Pairwise (fun a b => a.1 < b.1) := asc_iff.mpr fun i hi1 => by
      rw [List.any_eq_false] at h
      have := h _ (List.mem_map.mpr ⟨i, List.mem_range.mpr (by omega), rfl⟩)
      have g1 : s.getD i (0, 0) = s[i] := by simp [List.getD_eq_getElem?_getD, show i < s.length by omega]
      have g2 : s.getD (i + 1) (0, 0) = s[i + 1] := by simp [List.getD_eq_getElem?_getD, hi1]
      rw [g1, g2] at this
      simp at this
      omega
    have z2 := evF_lc (E := E) (Γ := [.sh (dS s), x1, x2, .non, .non]) (enc := pq) (g := fun p => fq p.2) (xs := s) (vs := [4, 2]) (tg := .tp [4, 2]) (it := .of (.var 0)) (el := .var 2) (evI_lst (ev_var rfl)) (by unfold most; omega) (fun p hp => ⟨[.sh (dS s), x1, .sh (fq p.2), .non, .sh (.int p.1)], rfl, ev_var rfl⟩)
    rw [show (s.map fun p => fq p.2) = (s.map (·.2)).map fq by rw [List.map_map]; rfl] at z2
    have t := hg D N (s.map (·.2)) hD (fun q hq' => by
      obtain ⟨p, hp, rfl⟩ := List.mem_map.mp hq'
      exact hq p hp) h1 (by rw [List.length_map]; exact h2)
    refine wp_if (ev_cmp (ev_call (evs_1 (ev_lc z2)) t) (ev_glob hk) (cmp_ne (fq_eq (s.map (·.2)).sum 1))) (fun h => ?_) (fun h => wp_skip (wp_nil (k ⟨ha, ?_⟩ _)))
    · refine wp_raise (hb (fun hh => ?_) _)
      have e : (s.map (·.2)).sum = 1 := hh.2
      rw [e] at h
      simp at h
    · have : (s.map (·.2)).sum = 1 := by simpa using h
      exact this
theorem t_check_spread_ok (hf : IsFra E f) (hg : IsTotal E g) {c w : Nat} (hk : E.G w = some (.tuple [.int 1, .int 1])) :
    (∀ X : List Xp, X.length ≤ most → (∃ x ∈ X, okX x = false) → runF E (t_check_spread f c g w) [.list (X.map dX)] = .error (some c)) ∧
    (∀ (D N : Nat) (s : List (Int × Rat)), 0 < D → (∀ p ∈ s, QN D N p.2) → D < lim → s.length * N < lim → s.length ≤ 1000 → (∀ p ∈ s, 0 < p.2) → (s.Pairwise (fun a b => a.1 < b.1) ∧ tot s = 1 → runF E (t_check_spread f c g w) [dS s] = .ok .none) ∧ (¬ (s.Pairwise (fun a b => a.1 < b.1) ∧ tot s = 1) → runF E (t_check_spread f c g w) [dS s] = .error (some c))) := by
  refine ⟨fun X _ hx => run_wp rfl (cks_loop hf (fun _ _ => rfl) fun hall => ?_), fun D N s hD hq h1 h2 hl hp => ?_⟩
  · obtain ⟨x, h, e⟩ := hx
    rw [hall x h] at e
    cases e
  · have hX : dS s = .list ((s.map raw).map dX) := by rw [List.map_map]; rfl
    have none : ¬ ∃ x ∈ s.map raw, okX x = false := fun ⟨x, hx, e⟩ => by
      obtain ⟨p, hp', rfl⟩ := List.mem_map.mp hx
      rw [ok_raw (hp p hp')] at e
      cases e
    refine ⟨fun hh => ?_, fun hh => ?_⟩
    · rw [hX]
      refine run_wp rfl (cks_loop hf (fun h => absurd h none) fun _ x1 x2 => ?_)
      rw [← hX]
      exact cks_rest hg hk hD hq h1 h2 hl (fun h => absurd hh h) fun _ _ => rfl
    · rw [hX]
      refine run_wp rfl (cks_loop hf (fun h => absurd h none) fun _ x1 x2 => ?_)
      rw [← hX]
      exact cks_rest hg hk hD hq h1 h2 hl (fun _ _ => rfl) fun h => absurd h hh
end
end Dee

/-! printed by mklib.py -/
namespace Dee
open PySem PySem.Spec
/-- spread -/
def t_is_still : FnT := ⟨1, 1, (.cons (.ret (.and (.cmp .eq (.blt .len (.cons (.var 0) .nil)) (.int 1)) (.one (.cmp .eq (.idx (.idx (.var 0) (.int 0)) (.int 0)) (.int 0))))) .nil), false⟩
/-- spread -/
def t_is_certain (f_is_still f_is_less f_mean k_NONE : Nat) : FnT := ⟨1, 1, (.cons (.ret (.and (.not (.call f_is_less (.cons (.glob k_NONE) (.cons (.call f_mean (.cons (.var 0) .nil)) .nil)))) (.one (.not (.call f_is_still (.cons (.var 0) .nil)))))) .nil), false⟩
/-- spread, last, up, found, reserve, rest, value, chance -/
def t_lasting_chances (f_chance_of f_over f_mean f_minus f_times : Nat) : FnT := ⟨2, 8, (.cons (.set 2 (.call f_chance_of (.cons (.var 0) (.cons (.int 1) .nil)))) (.cons (.setO 3 (.lst (.cons (.call f_over (.cons (.call f_mean (.cons (.var 0) .nil)) (.cons (.var 2) .nil))) .nil))) (.cons (.for (.nm 4) (.r1 (.var 1)) (.cons (.set 5 (.oidx 3 (.var 4))) (.cons (.for (.tp [6, 7]) (.of (.var 0)) (.cons (.iff (.chn .le .le (.neg (.var 4)) (.var 6) (.int 0)) (.cons (.set 5 (.call f_minus (.cons (.var 5) (.cons (.call f_times (.cons (.var 7) (.cons (.oidx 3 (.bin .add (.var 4) (.var 6))) .nil))) .nil)))) .nil) .nil) .nil)) (.cons (.app 3 (.call f_over (.cons (.var 5) (.cons (.var 2) .nil)))) .nil)))) (.frz 3 (.cons (.ret (.var 3)) .nil))))), false⟩
/-- spread, last, chance, value, _ -/
def t_ruins (f_is_still k_NONE f_is_certain k_WHOLE c_OutOfRange f_lasting_chances f_minus : Nat) : FnT := ⟨2, 5, (.cons (.iff (.call f_is_still (.cons (.var 0) .nil)) (.cons (.ret (.bin .mul (.lst (.cons (.glob k_NONE) .nil)) (.bin .add (.var 1) (.int 1)))) .nil) .nil) (.cons (.iff (.call f_is_certain (.cons (.var 0) .nil)) (.cons (.ret (.bin .mul (.lst (.cons (.glob k_WHOLE) .nil)) (.bin .add (.var 1) (.int 1)))) .nil) .nil) (.cons (.iff (.blt .any (.cons (.lc [3, 4] (.tp [3, 4]) (.of (.var 0)) .nil (.cmp .gt (.var 3) (.int 1))) .nil)) (.cons (.raise c_OutOfRange) .nil) .nil) (.cons (.ret (.lc [2] (.nm 2) (.of (.call f_lasting_chances (.cons (.var 0) (.cons (.var 1) .nil)))) .nil (.call f_minus (.cons (.glob k_WHOLE) (.cons (.var 2) .nil))))) .nil)))), false⟩
/-- spread, reserve -/
def t_exact_ruin (k_MOST_RESERVE c_OutOfRange f_ruins : Nat) : FnT := ⟨2, 2, (.cons (.iff (.not (.chn .le .le (.int 0) (.var 1) (.glob k_MOST_RESERVE))) (.cons (.raise c_OutOfRange) .nil) .nil) (.cons (.ret (.idx (.call f_ruins (.cons (.var 0) (.cons (.var 1) .nil))) (.var 1))) .nil)), false⟩
/-- spread, bound, reserve, ruin -/
def t_least_reserve (f_is_less f_ruins k_MOST_RESERVE c_TooLong : Nat) : FnT := ⟨2, 4, (.cons (.for (.tp [2, 3]) (.en (.call f_ruins (.cons (.var 0) (.cons (.glob k_MOST_RESERVE) .nil)))) (.cons (.iff (.not (.call f_is_less (.cons (.var 1) (.cons (.var 3) .nil)))) (.cons (.ret (.var 2)) .nil) .nil) .nil)) (.cons (.raise c_TooLong) .nil)), false⟩
/-- _law_script, _law_k -/
def t_law_cella : FnT := ⟨2, 2, (.cons (.iff (.cmp .lt (.var 1) (.blt .len (.cons (.var 0) .nil))) (.cons (.ret (.blt .abs (.cons (.blt .int (.cons (.idx (.var 0) (.var 1)) .nil)) .nil))) .nil) .nil) (.cons (.ret (.int 0)) .nil)), false⟩
/-- _law_cell_here, _law_base, _law_most, _law_digits_here, _law_large, _law_k -/
def t_law_digits : FnT := ⟨3, 6, (.cons (.setO 3 (.lst .nil)) (.cons (.set 4 (.cmp .ge (.var 0) (.bin .pow (.int 10) (.int 18)))) (.cons (.for (.nm 5) (.r1 (.var 2)) (.cons (.iff (.var 4) (.cons (.app 3 (.bin .mod (.blt .int (.cons (.var 0) .nil)) (.var 1))) (.cons (.set 0 (.bin .fdiv (.var 0) (.var 1))) .nil)) (.cons (.app 3 (.bin .mod (.bin .mod (.blt .int (.cons (.bin .add (.bin .add (.bin .mul (.var 0) (.int 48271)) (.bin .mul (.bin .mul (.bin .add (.var 5) (.int 1)) (.bin .add (.var 5) (.int 5))) (.int 69621))) (.bin .mul (.bin .fdiv (.var 0) (.int 97)) (.var 5))) .nil)) (.int 2147483647)) (.var 1))) .nil)) .nil)) (.frz 3 (.cons (.ret (.var 3)) .nil))))), false⟩
/-- _law_top, _law_low, _law_a, _law_b, _law_step -/
def t_law_fracb : FnT := ⟨2, 5, (.cons (.set 2 (.blt .abs (.cons (.var 0) .nil))) (.cons (.set 3 (.var 1)) (.cons (.for (.nm 4) (.r1 (.int 4000)) (.cons (.iff (.cmp .eq (.var 3) (.int 0)) (.cons .brk .nil) .nil) (.cons (.par 2 3 (.var 3) (.bin .mod (.blt .int (.cons (.var 2) .nil)) (.var 3))) .nil))) (.cons (.ret (.tup (.cons (.bin .fdiv (.var 0) (.var 2)) (.cons (.bin .fdiv (.var 1) (.var 2)) .nil)))) .nil)))), false⟩
/-- _law_first, _law_second -/
def t_law_minus (f__law_fraction : Nat) : FnT := ⟨2, 2, (.cons (.ret (.call f__law_fraction (.cons (.bin .sub (.bin .mul (.idx (.var 0) (.int 0)) (.idx (.var 1) (.int 1))) (.bin .mul (.idx (.var 1) (.int 0)) (.idx (.var 0) (.int 1)))) (.cons (.bin .mul (.idx (.var 0) (.int 1)) (.idx (.var 1) (.int 1))) .nil)))) .nil), false⟩
/-- _law_first, _law_second -/
def t_law_over (f__law_fraction : Nat) : FnT := ⟨2, 2, (.cons (.iff (.cmp .lt (.idx (.var 1) (.int 0)) (.int 0)) (.cons (.ret (.call f__law_fraction (.cons (.bin .sub (.int 0) (.bin .mul (.idx (.var 0) (.int 0)) (.idx (.var 1) (.int 1)))) (.cons (.bin .sub (.int 0) (.bin .mul (.idx (.var 0) (.int 1)) (.idx (.var 1) (.int 0)))) .nil)))) .nil) .nil) (.cons (.ret (.call f__law_fraction (.cons (.bin .mul (.idx (.var 0) (.int 0)) (.idx (.var 1) (.int 1))) (.cons (.bin .mul (.idx (.var 0) (.int 1)) (.idx (.var 1) (.int 0))) .nil)))) .nil)), false⟩
/-- rows, count, place, found, chosen, at, row, factor, item, other -/
def t_solved (k_NONE f_over f_minus f_times : Nat) : FnT := ⟨2, 10, (.frz 0 (.cons (.setO 0 (.lc [6] (.nm 6) (.of (.var 0)) .nil (.blt .list (.cons (.var 6) .nil)))) (.cons (.for (.nm 2) (.r1 (.var 1)) (.cons (.set 3 (.lc [5] (.nm 5) (.r2 (.var 2) (.var 1)) (.cons (.cmp .ne (.idx (.oidx 0 (.var 5)) (.var 2)) (.glob k_NONE)) .nil) (.var 5))) (.cons (.iff (.cmp .eq (.blt .len (.cons (.var 3) .nil)) (.int 0)) (.cons (.ret .non) .nil) .nil) (.cons (.set 4 (.oidx 0 (.idx (.var 3) (.int 0)))) (.cons (.six 0 (.idx (.var 3) (.int 0)) (.oidx 0 (.var 2))) (.cons (.six 0 (.var 2) (.lc [8] (.nm 8) (.of (.var 4)) .nil (.call f_over (.cons (.var 8) (.cons (.idx (.var 4) (.var 2)) .nil))))) (.cons (.for (.nm 5) (.r1 (.var 1)) (.cons (.set 7 (.idx (.oidx 0 (.var 5)) (.var 2))) (.cons (.iff (.and (.cmp .ne (.var 5) (.var 2)) (.one (.cmp .ne (.var 7) (.glob k_NONE)))) (.cons (.six 0 (.var 5) (.lc [8, 9] (.tp [8, 9]) (.zip (.oidx 0 (.var 5)) (.oidx 0 (.var 2))) .nil (.call f_minus (.cons (.var 8) (.cons (.call f_times (.cons (.var 7) (.cons (.var 9) .nil))) .nil))))) .nil) .nil) .nil))) .nil))))))) (.frz 0 (.cons (.ret (.lc [6] (.nm 6) (.of (.var 0)) .nil (.sl (.var 6) (.cons (.var 1) .nil) .nil))) .nil))))), false⟩
/-- base, exponent, result -/
def t_whole_power : FnT := ⟨2, 3, (.cons (.set 2 (.int 1)) (.cons (.whl 100000 (.cmp .gt (.var 1) (.int 0)) (.cons (.iff (.cmp .eq (.bin .mod (.var 1) (.int 2)) (.int 1)) (.cons (.set 2 (.bin .mul (.var 2) (.var 0))) .nil) .nil) (.cons (.set 0 (.bin .mul (.var 0) (.var 0))) (.cons (.set 1 (.bin .fdiv (.var 1) (.int 2))) .nil)))) (.cons (.ret (.var 2)) .nil))), false⟩
/-- base, exponent, top, low -/
def t_power (f_whole_power : Nat) : FnT := ⟨2, 4, (.cons (.setT [2, 3] (.var 0)) (.cons (.iff (.cmp .lt (.var 1) (.int 0)) (.cons (.ret (.tup (.cons (.call f_whole_power (.cons (.var 3) (.cons (.neg (.var 1)) .nil))) (.cons (.call f_whole_power (.cons (.var 2) (.cons (.neg (.var 1)) .nil))) .nil)))) .nil) .nil) (.cons (.ret (.tup (.cons (.call f_whole_power (.cons (.var 2) (.cons (.var 1) .nil))) (.cons (.call f_whole_power (.cons (.var 3) (.cons (.var 1) .nil))) .nil)))) .nil))), false⟩
/-- spread, q, total, value, chance -/
def t_weight (k_NONE f_plus f_times f_power : Nat) : FnT := ⟨2, 5, (.cons (.set 2 (.glob k_NONE)) (.cons (.for (.tp [3, 4]) (.of (.var 0)) (.cons (.set 2 (.call f_plus (.cons (.var 2) (.cons (.call f_times (.cons (.var 4) (.cons (.call f_power (.cons (.var 1) (.cons (.var 3) .nil))) .nil))) .nil)))) .nil)) (.cons (.ret (.var 2)) .nil))), false⟩
/-- _law_draw, _law_values, _law_parts, _law_k -/
def t_law_spreadb (f__law_fraction : Nat) : FnT := ⟨2, 4, (.cons (.set 2 (.lc [3] (.nm 3) (.r1 (.blt .len (.cons (.var 1) .nil))) .nil (.bin .add (.int 1) (.bin .mod (.bin .fdiv (.var 0) (.bin .add (.bin .mul (.int 3) (.var 3)) (.int 2))) (.int 4))))) (.cons (.ret (.lc [3] (.nm 3) (.r1 (.blt .len (.cons (.var 1) .nil))) .nil (.tup (.cons (.idx (.var 1) (.var 3)) (.cons (.call f__law_fraction (.cons (.idx (.var 2) (.var 3)) (.cons (.blt .sum (.cons (.var 2) .nil)) .nil))) .nil))))) .nil)), false⟩
/-- _law_first, _law_second, _law_sizes, _law_draws, _law_full, _law_great, _law_count, _law_weathers, _law_k, _law_treaties, _law_lines, _law_j, _law_others, _law_premium, _law_draw, _law_layers, _law_low, _law_values -/
def t_law_houseb (f__law_digits f__law_spread f__law_fraction : Nat) : FnT := ⟨2, 18, (.cons (.set 2 (.call f__law_digits (.cons (.var 0) (.cons (.int 2520) (.cons (.int 8) .nil))))) (.cons (.set 3 (.call f__law_digits (.cons (.var 1) (.cons (.int 27720) (.cons (.int 16) .nil))))) (.cons (.set 4 (.cmp .eq (.bin .mod (.idx (.var 2) (.int 4)) (.int 10)) (.int 9))) (.cons (.set 5 (.cmp .eq (.bin .mod (.idx (.var 2) (.int 4)) (.int 10)) (.int 8))) (.cons (.set 6 (.ife (.var 4) (.int 4) (.bin .add (.int 1) (.bin .mod (.idx (.var 2) (.int 0)) (.int 3))))) (.cons (.iff (.var 5) (.cons (.set 6 (.int 1)) .nil) .nil) (.cons (.setO 7 (.lst .nil)) (.cons (.for (.nm 8) (.r1 (.var 6)) (.cons (.setO 10 (.lst .nil)) (.cons (.for (.nm 11) (.r1 (.ife (.var 4) (.bin .sub (.int 3) (.bin .mod (.var 8) (.int 2))) (.bin .mod (.bin .fdiv (.idx (.var 2) (.int 1)) (.bin .add (.var 8) (.int 1))) (.int 3)))) (.cons (.set 14 (.idx (.var 3) (.bin .mod (.bin .add (.bin .mul (.int 3) (.var 8)) (.var 11)) (.int 16)))) (.cons (.set 16 (.bin .mod (.var 14) (.int 2))) (.cons (.setO 17 (.lst (.cons (.var 16) (.cons (.bin .add (.bin .add (.var 16) (.int 1)) (.bin .mod (.bin .fdiv (.var 14) (.int 2)) (.int 3))) .nil)))) (.cons (.iff (.and (.cmp .eq (.bin .mod (.bin .fdiv (.var 14) (.int 6)) (.int 2)) (.int 1)) (.one (.not (.var 4)))) (.cons (.app 17 (.bin .add (.bin .add (.oidx 17 (.int 1)) (.int 1)) (.bin .mod (.bin .fdiv (.var 14) (.int 12)) (.int 4)))) .nil) .nil) (.cons (.iff (.and (.var 5) (.one (.cmp .eq (.var 11) (.int 0)))) (.cons (.app 17 (.bin .add (.int 20) (.bin .mod (.var 14) (.int 41)))) .nil) .nil) (.frz 17 (.cons (.app 10 (.call f__law_spread (.cons (.var 14) (.cons (.var 17) .nil)))) .nil)))))))) (.cons (.set 12 (.lc [11] (.nm 11) (.r1 (.var 6)) (.cons (.or (.cmp .gt (.bin .mod (.bin .fdiv (.idx (.var 3) (.bin .add (.int 10) (.var 8))) (.bin .add (.var 11) (.int 1))) (.int 3)) (.int 0)) (.one (.cmp .eq (.var 11) (.bin .mod (.idx (.var 3) (.bin .add (.int 10) (.var 8))) (.var 6))))) .nil) (.var 11))) (.cons (.set 13 (.bin .mod (.bin .fdiv (.idx (.var 2) (.int 2)) (.bin .add (.var 8) (.int 1))) (.int 4))) (.cons (.iff (.cmp .eq (.bin .mod (.idx (.var 2) (.int 5)) (.int 4)) (.int 3)) (.cons (.set 13 (.bin .mod (.bin .fdiv (.idx (.var 2) (.int 2)) (.bin .add (.var 8) (.int 1))) (.int 25))) .nil) .nil) (.frz 10 (.cons (.app 7 (.tup (.cons (.var 13) (.cons (.var 10) (.cons (.call f__law_spread (.cons (.idx (.var 3) (.bin .add (.int 10) (.var 8))) (.cons (.var 12) .nil))) .nil))))) .nil)))))))) (.cons (.setO 9 (.lst .nil)) (.cons (.for (.nm 8) (.r1 (.ife (.var 4) (.int 4) (.bin .add (.int 1) (.bin .mod (.idx (.var 2) (.int 3)) (.int 3))))) (.cons (.set 14 (.idx (.var 3) (.bin .mod (.bin .add (.int 13) (.var 8)) (.int 16)))) (.cons (.setO 15 (.lst .nil)) (.cons (.for (.nm 11) (.r1 (.ife (.and (.var 4) (.one (.cmp .eq (.var 8) (.int 1)))) (.int 4) (.int 1))) (.cons (.set 14 (.bin .add (.var 14) (.bin .mul (.int 7) (.var 11)))) (.cons (.iff (.cmp .eq (.bin .mod (.var 14) (.int 4)) (.int 1)) (.cons (.app 15 (.tup (.cons (.str "limit") (.cons (.bin .mod (.bin .fdiv (.var 14) (.int 4)) (.int 4)) .nil)))) .nil) (.cons (.iff (.cmp .eq (.bin .mod (.var 14) (.int 4)) (.int 2)) (.cons (.app 15 (.tup (.cons (.str "share") (.cons (.call f__law_fraction (.cons (.bin .mod (.bin .fdiv (.var 14) (.int 4)) (.int 4)) (.cons (.int 3) .nil))) .nil)))) .nil) (.cons (.iff (.cmp .eq (.bin .mod (.var 14) (.int 4)) (.int 3)) (.cons (.app 15 (.tup (.cons (.str "band") (.cons (.bin .mod (.bin .fdiv (.var 14) (.int 4)) (.int 3)) (.cons (.bin .add (.bin .mod (.bin .fdiv (.var 14) (.int 4)) (.int 3)) (.bin .mod (.bin .fdiv (.var 14) (.int 12)) (.int 4))) .nil))))) .nil) .nil) .nil)) .nil)) .nil))) (.frz 15 (.cons (.app 9 (.tup (.cons (.bin .mod (.bin .fdiv (.var 14) (.int 48)) (.int 3)) (.cons (.var 15) .nil)))) .nil)))))) (.cons (.iff (.var 4) (.cons (.six 9 (.int 3) (.tup (.cons (.int 0) (.cons (.idx (.oidx 9 (.int 3)) (.int 1)) .nil)))) .nil) .nil) (.frz 7 (.frz 9 (.cons (.ret (.tup (.cons (.var 7) (.cons (.var 9) .nil)))) .nil)))))))))))))), false⟩
/-- _law_treaty, _law_amount, _law_layer -/
def t_law_remb : FnT := ⟨2, 3, (.cons (.for (.nm 2) (.of (.idx (.var 0) (.int 1))) (.cons (.iff (.cmp .eq (.idx (.var 2) (.int 0)) (.str "share")) (.cons (.set 1 (.bin .sub (.int 0) (.bin .fdiv (.bin .sub (.int 0) (.bin .mul (.var 1) (.idx (.idx (.var 2) (.int 1)) (.int 0)))) (.idx (.idx (.var 2) (.int 1)) (.int 1))))) .nil) (.cons (.iff (.cmp .eq (.idx (.var 2) (.int 0)) (.str "limit")) (.cons (.set 1 (.blt .min2 (.cons (.var 1) (.cons (.idx (.var 2) (.int 1)) .nil)))) .nil) (.cons (.set 1 (.bin .add (.bin .sub (.var 1) (.blt .min2 (.cons (.var 1) (.cons (.idx (.var 2) (.int 2)) .nil)))) (.blt .min2 (.cons (.var 1) (.cons (.idx (.var 2) (.int 1)) .nil))))) .nil)) .nil)) .nil)) (.cons (.ret (.var 1)) .nil)), false⟩
/-- _law_house_here, _law_weather, _law_treaty, _law_totals, _law_line, _law_price, _law_premium, _law_lines, _law_turns, _law_longer, _law_amount, _law_chance, _law_more, _law_other -/
def t_law_changes (f__law_times f__law_remaining : Nat) : FnT := ⟨3, 14, (.cons (.setT [6, 7, 8] (.idx (.idx (.var 0) (.int 0)) (.var 1))) (.cons (.set 3 (.lst (.cons (.tup (.cons (.int 0) (.cons (.tup (.cons (.int 1) (.cons (.int 1) .nil))) .nil))) .nil))) (.cons (.for (.nm 4) (.of (.var 7)) (.cons (.setO 9 (.lst .nil)) (.cons (.for (.tp [10, 11]) (.of (.var 3)) (.cons (.for (.tp [12, 13]) (.of (.var 4)) (.cons (.app 9 (.tup (.cons (.bin .add (.var 10) (.var 12)) (.cons (.call f__law_times (.cons (.var 11) (.cons (.var 13) .nil))) .nil)))) .nil)) .nil)) (.frz 9 (.cons (.set 3 (.var 9)) .nil))))) (.cons (.set 5 (.idx (.idx (.idx (.var 0) (.int 1)) (.var 2)) (.int 0))) (.cons (.ret (.lc [10, 11] (.tp [10, 11]) (.of (.var 3)) .nil (.tup (.cons (.bin .sub (.bin .sub (.var 6) (.var 5)) (.call f__law_remaining (.cons (.idx (.idx (.var 0) (.int 1)) (.var 2)) (.cons (.var 10) .nil)))) (.cons (.var 11) .nil))))) .nil))))), false⟩
/-- _law_rows, _law_count, _law_k, _law_at, _law_first, _law_j, _law_row, _law_item, _law_factor, _law_i -/
def t_law_solved (f__law_over f__law_minus f__law_times : Nat) : FnT := ⟨1, 10, (.frz 0 (.cons (.setO 0 (.lc [6] (.nm 6) (.of (.var 0)) .nil (.blt .list (.cons (.var 6) .nil)))) (.cons (.set 1 (.olen 0)) (.cons (.for (.nm 2) (.r1 (.var 1)) (.cons (.set 3 (.lc [5] (.nm 5) (.r2 (.var 2) (.var 1)) (.cons (.cmp .ne (.idx (.idx (.oidx 0 (.var 5)) (.var 2)) (.int 0)) (.int 0)) .nil) (.var 5))) (.cons (.iff (.cmp .eq (.blt .len (.cons (.var 3) .nil)) (.int 0)) (.cons (.ret .non) .nil) .nil) (.cons (.set 4 (.oidx 0 (.idx (.var 3) (.int 0)))) (.cons (.six 0 (.idx (.var 3) (.int 0)) (.oidx 0 (.var 2))) (.cons (.six 0 (.var 2) (.lc [7] (.nm 7) (.of (.var 4)) .nil (.call f__law_over (.cons (.var 7) (.cons (.idx (.var 4) (.var 2)) .nil))))) (.cons (.for (.nm 5) (.r1 (.var 1)) (.cons (.iff (.and (.cmp .ne (.var 5) (.var 2)) (.one (.cmp .ne (.idx (.idx (.oidx 0 (.var 5)) (.var 2)) (.int 0)) (.int 0)))) (.cons (.set 8 (.idx (.oidx 0 (.var 5)) (.var 2))) (.cons (.six 0 (.var 5) (.lc [9] (.nm 9) (.r1 (.bin .add (.var 1) (.int 1))) .nil (.call f__law_minus (.cons (.idx (.oidx 0 (.var 5)) (.var 9)) (.cons (.call f__law_times (.cons (.var 8) (.cons (.idx (.oidx 0 (.var 2)) (.var 9)) .nil))) .nil))))) .nil)) .nil) .nil)) .nil))))))) (.frz 0 (.cons (.ret (.lc [6] (.nm 6) (.of (.var 0)) .nil (.idx (.var 6) (.var 1)))) .nil)))))), false⟩
/-- _law_house_here, _law_reserve, _law_weather, _law_treaty, _law_found, _law_change, _law_chance, _law_turn, _law_turning -/
def t_law_year (f__law_times f__law_changes : Nat) : FnT := ⟨4, 9, (.cons (.setO 4 (.lst .nil)) (.cons (.for (.tp [5, 6]) (.of (.call f__law_changes (.cons (.var 0) (.cons (.var 2) (.cons (.var 3) .nil))))) (.cons (.for (.tp [7, 8]) (.of (.idx (.idx (.idx (.var 0) (.int 0)) (.var 2)) (.int 2))) (.cons (.app 4 (.tup (.cons (.bin .add (.var 1) (.var 5)) (.cons (.var 7) (.cons (.call f__law_times (.cons (.var 6) (.cons (.var 8) .nil))) .nil))))) .nil)) .nil)) (.frz 4 (.cons (.ret (.var 4)) .nil)))), false⟩
end Dee

set_option maxRecDepth 100000
set_option maxHeartbeats 2000000
/-! Dee, part 48: cells, digits and fractions of the later laws; Euclid within 4000 steps. -/
namespace Dee
open PySem PySem.Spec L2 PyProof.Rows
def IsCellA (E : Evn) (n : Nat) : Prop := ∀ (ns : List Int) (k : Nat), E.F n [.list (ns.map .int), .int k] = .ok (.int ((ns[k]?.getD 0).natAbs : Nat))
def IsFracB (E : Evn) (n : Nat) : Prop := ∀ t l : Int, 0 < l → Bd 9000 l → ((t : Rat) / (l : Rat)).den < 2 ^ 2700 → E.F n [.int t, .int l] = .ok (fq ((t : Rat) / (l : Rat)))
def IsPlusB (E : Evn) (n : Nat) : Prop := ∀ a b : Rat, Sm a → Sm b → (a + b).den < 2 ^ 2700 → E.F n [fq a, fq b] = .ok (fq (a + b))
def IsMinusB (E : Evn) (n : Nat) : Prop := ∀ a b : Rat, Sm a → Sm b → (a - b).den < 2 ^ 2700 → E.F n [fq a, fq b] = .ok (fq (a - b))
def IsTimesB (E : Evn) (n : Nat) : Prop := ∀ a b : Rat, Sm a → Sm b → (a * b).den < 2 ^ 2700 → E.F n [fq a, fq b] = .ok (fq (a * b))
def IsOverB (E : Evn) (n : Nat) : Prop := ∀ a b : Rat, Sm a → Sm b → b ≠ 0 → (a / b).den < 2 ^ 2700 → E.F n [fq a, fq b] = .ok (fq (a / b))
section
variable (E0 : Evn)
theorem t_law_cella_ok (ns : List Int) (k : Nat) : runF E0 t_law_cella [.list (ns.map .int), .int k] = .ok (.int ((ns[k]?.getD 0).natAbs : Nat)) := by
  by_cases h : k < ns.length
  · have h1 : (k : Int) < (ns.length : Int) := by omega
    have h2 : (0 : Int) ≤ k := by omega
    simp [t_law_cella, outX, runF, slots, exs, ex, ev, evs, evO, evC, evF, ofR, slV, cmpD, cmpB, eqD, outR, Except.bind, Except.map, bltD, bltF, setS, intB, most, b_add, b_sub, b_and, asBool, asInt, asInts, asBools, asList, idxD, atD, atI, ixN, Ik.is, isNo, h, h1, h2]
  · have h1 : ¬ ((k : Int) < (ns.length : Int)) := by omega
    have e : ns[k]? = none := List.getElem?_eq_none (by omega)
    simp [t_law_cella, outX, runF, slots, exs, ex, ev, evs, evO, evC, evF, ofR, slV, cmpD, cmpB, eqD, outR, Except.bind, Except.map, bltD, bltF, setS, intB, most, b_add, b_sub, b_and, asBool, asInt, asInts, asBools, asList, idxD, atD, atI, ixN, Ik.is, isNo, h, h1, e]
end
/-! ### Euclid -/
def fib : Nat → Nat
  | 0 => 0
  | 1 => 1
  | n + 2 => fib n + fib (n + 1)
def fibp : Nat → Nat × Nat
  | 0 => (0, 1)
  | n + 1 => let p := fibp n; (p.2, p.1 + p.2)
theorem fibp_eq : ∀ n, fibp n = (fib n, fib (n + 1))
  | 0 => rfl
  | n + 1 => by
    unfold fibp
    rw [fibp_eq n]
    rfl
theorem fib_big : 2 ^ 2700 ≤ fib 4000 := by
  have : 2 ^ 2700 ≤ (fibp 4000).1 := by decide +kernel
  rwa [fibp_eq] at this
/-- what is known ahead of k further steps -/
def Euc (G k a b : Nat) : Prop := Nat.gcd a b = G ∧ b < a ∧ (b < fib (k + 1) * G ∨ a < fib (k + 2) * G)
theorem Euc.step {G k a b : Nat} (h : Euc G (k + 1) a b) (hb : b ≠ 0) : Euc G k b (a % b) := by
  obtain ⟨g, hab, h⟩ := h
  have hm := Nat.mod_lt a (Nat.pos_of_ne_zero hb)
  refine ⟨by rw [Nat.gcd_comm, ← Nat.gcd_rec, Nat.gcd_comm]; exact g, hm, ?_⟩
  rcases h with h | h
  · exact .inr h
  · have e : fib (k + 1 + 2) = fib (k + 1) + fib (k + 2) := rfl
    rw [e, Nat.add_mul] at h
    have d := Nat.div_add_mod a b
    have q : 1 ≤ a / b := (Nat.one_le_div_iff (Nat.pos_of_ne_zero hb)).mpr (Nat.le_of_lt hab)
    have m := Nat.mul_le_mul_left b q
    by_cases h2 : b < fib (k + 2) * G
    · exact .inr h2
    · exact .inl (by omega)
theorem Euc.fin {G a b : Nat} (h : Euc G 0 a b) : b = 0 := by
  obtain ⟨g, hab, h⟩ := h
  have e1 : fib (0 + 1) = 1 := rfl
  have e2 : fib (0 + 2) = 1 := rfl
  rw [e1, e2, Nat.one_mul] at h
  have d1 : G ∣ a := by rw [← g]; exact Nat.gcd_dvd_left a b
  have d2 : G ∣ b := by rw [← g]; exact Nat.gcd_dvd_right a b
  rcases h with h | h
  · exact Nat.eq_zero_of_dvd_of_lt d2 h
  · have := Nat.eq_zero_of_dvd_of_lt d1 h
    omega
theorem fr_pos {t l : Int} (hl : 0 < l) : PyData.tuple [.int (t / ((Nat.gcd t.natAbs l.natAbs : Nat) : Int)), .int (l / ((Nat.gcd t.natAbs l.natAbs : Nat) : Int))] = fq ((t : Rat) / (l : Rat)) := by
  have e : ((t : Rat) / (l : Rat)) = Rat.divInt t l := (Rat.divInt_eq_div t l).symm
  unfold fq
  rw [e, Rat.num_divInt, Rat.den_divInt, if_neg (show l ≠ 0 by omega), Int.sign_eq_one_of_pos hl, Int.one_mul]
  have hg : Int.gcd l t = Nat.gcd t.natAbs l.natAbs := by
    unfold Int.gcd
    exact Nat.gcd_comm _ _
  rw [hg]
  have : l / ((Nat.gcd t.natAbs l.natAbs : Nat) : Int) = ((l.natAbs / Nat.gcd t.natAbs l.natAbs : Nat) : Int) := by
    rw [Int.natCast_ediv]
    congr 1
    omega
  rw [this]
section
variable {E : Evn}
theorem t_law_fracb_ok {t l : Int} (hl : 0 < l) (hb : Bd 9000 l) (hd : ((t : Rat) / (l : Rat)).den < 2 ^ 2700) : runF E t_law_fracb [.int t, .int l] = .ok (fq ((t : Rat) / (l : Rat))) := by
  obtain ⟨G, hG⟩ : ∃ G, G = Nat.gcd t.natAbs l.natAbs := ⟨_, rfl⟩
  have gp : 0 < G := by rw [hG]; exact Nat.gcd_pos_of_pos_right _ (by omega)
  have gl : G ≤ l.natAbs := by rw [hG]; exact Nat.le_of_dvd (by omega) (Nat.gcd_dvd_right _ _)
  have gd : G ∣ l.natAbs := by rw [hG]; exact Nat.gcd_dvd_right _ _
  have small : l.natAbs < fib 4000 * G := by
    have e : ((t : Rat) / (l : Rat)) = Rat.divInt t l := (Rat.divInt_eq_div t l).symm
    rw [e, Rat.den_divInt, if_neg (show l ≠ 0 by omega)] at hd
    have hg : Int.gcd l t = G := by
      rw [hG]
      unfold Int.gcd
      exact Nat.gcd_comm _ _
    rw [hg] at hd
    have h2 := Nat.lt_of_lt_of_le hd fib_big
    exact (Nat.div_lt_iff_lt_mul gp).mp h2
  have gb : (G : Int).natAbs < 2 ^ 9000 := by
    rw [Int.natAbs_natCast]
    exact Nat.lt_of_le_of_lt gl hb
  refine run_wp rfl ?_
  show Wp E t_law_fracb.body [.sh (.int t), .sh (.int l), .non, .non, .non] _
  have fin : ∀ x4 : Sl, Wp E (dropS 3 t_law_fracb.body) [.sh (.int t), .sh (.int l), .sh (.int (G : Nat)), .sh (.int ((0 : Nat) : Int)), x4] (fun o => outX false o = .ok (fq ((t : Rat) / (l : Rat)))) := fun x4 => by
    refine wp_ret (ev_tup2 (ev_bin (ev_var rfl) (ev_var rfl) (b_div (by omega) gb)) (ev_bin (ev_var rfl) (ev_var rfl) (b_div (by omega) gb))) ?_
    show Except.ok _ = _
    rw [hG]
    exact congrArg Except.ok (fr_pos hl)
  refine wp_set (d := .int (t.natAbs : Nat)) rfl (show 2 < 5 by decide) ?_
  refine wp_set (d := .int (l.natAbs : Nat)) (by rw [show ((l.natAbs : Nat) : Int) = l by omega]; exact ev_var rfl) (show 3 < 5 by decide) ?_
  refine wp_for (enc := fun i : Nat => PyData.int (i : Nat)) (xs := List.range 4000) (fun pre Γ => ∃ (a b : Nat) (x4 : Sl), Γ = [.sh (.int t), .sh (.int l), .sh (.int (a : Nat)), .sh (.int (b : Nat)), x4] ∧ ((pre.length = 0 ∧ a = t.natAbs ∧ b = l.natAbs) ∨ (0 < pre.length ∧ Euc G (4000 - pre.length) a b)))
    (evI_rn (n := 4000) ev_int (by decide)) ⟨_, _, _, rfl, .inl ⟨rfl, rfl, rfl⟩⟩ ?_ ?_
  · rintro pre i post Γ ei ⟨a, b, x4, rfl, hinv⟩
    have pl : pre.length < 4000 := by
      have := congrArg List.length ei
      rw [List.length_range] at this
      simp at this
      omega
    refine ⟨[.sh (.int t), .sh (.int l), .sh (.int (a : Nat)), .sh (.int (b : Nat)), .sh (.int (i : Nat))], rfl, ?_⟩
    refine wp_if (t := decide ((b : Int) = 0)) (ev_cmp (ev_var rfl) ev_int rfl) (fun h => ?_) (fun h => wp_skip ?_)
    · have h0 : b = 0 := by
        have := of_decide_eq_true h
        omega
      subst h0
      have hg : a = G := by
        rcases hinv with ⟨_, _, hbl⟩ | ⟨_, he⟩
        · omega
        · have := he.1
          rwa [Nat.gcd_zero_right] at this
      subst hg
      exact wp_cons (o := .bk _) rfl (fin _)
    · have h0 : b ≠ 0 := fun e => by
        have := of_decide_eq_false h
        omega
      have bp : (0 : Int) < (b : Int) := by omega
      refine wp_par (x := .int (b : Nat)) (y := .int ((a % b : Nat) : Int)) (ev_var rfl) (ev_bin (ev_intB (ev_var rfl)) (ev_var rfl) (by rw [b_mod bp, Int.natCast_emod])) ⟨by decide, by show 2 < 5; decide, by show 3 < 5; decide⟩ (wp_nil ⟨b, a % b, _, rfl, .inr ⟨by rw [List.length_append]; show 0 < _ + 1; omega, ?_⟩⟩)
      have e1 : (pre ++ [i]).length = pre.length + 1 := by simp
      rw [e1]
      rcases hinv with ⟨hp, ha, hbl⟩ | ⟨hp, he⟩
      · have hm := Nat.mod_lt a (Nat.pos_of_ne_zero h0)
        refine ⟨?_, hm, .inr ?_⟩
        · rw [hG, ← ha, ← hbl, Nat.gcd_comm, ← Nat.gcd_rec, Nat.gcd_comm]
        · rw [hp, hbl]
          have : fib (4000 - (0 + 1) + 2) = fib 3999 + fib 4000 := rfl
          rw [this, Nat.add_mul]
          omega
      · have : 4000 - pre.length = (4000 - (pre.length + 1)) + 1 := by omega
        rw [this] at he
        exact he.step h0
  · rintro Γ ⟨a, b, x4, rfl, hinv⟩
    rw [List.length_range] at hinv
    rcases hinv with ⟨h0, _⟩ | ⟨_, he⟩
    · omega
    · have b0 := Euc.fin (show Euc G 0 a b from he)
      subst b0
      have := he.1
      rw [Nat.gcd_zero_right] at this
      subst this
      exact fin x4
end
/-! ### with a fraction of this kind -/
section
variable {E : Evn} {f : Nat} (hf : IsFracB E f)
include hf
theorem den_pos' (a b : Rat) : 0 < ((a.den : Nat) : Int) * ((b.den : Nat) : Int) := Int.mul_pos (by have := a.den_pos; omega) (by have := b.den_pos; omega)
theorem t_plusb_ok {a b : Rat} (ha : Sm a) (hb : Sm b) (hd : (a + b).den < 2 ^ 2700) : runF E (t_plus f) [fq a, fq b] = .ok (fq (a + b)) := by
  have m1 := b_mul (ha.bn.ok hb.bd)
  have m2 := b_mul (hb.bn.ok ha.bd)
  have m3 := b_mul (ha.bd.ok hb.bd)
  have e : (((a.num * (b.den : Nat) + b.num * (a.den : Nat) : Int) : Rat) / (((a.den : Nat) * (b.den : Nat) : Int) : Rat)) = a + b := by
    rw [Rat.intCast_add, Rat.intCast_mul, Rat.intCast_mul, Rat.intCast_mul, den_cast, den_cast, num_eq a, num_eq b]
    have := int_ne (q := a)
    have := int_ne (q := b)
    grind
  have h := hf (a.num * (b.den : Nat) + b.num * (a.den : Nat)) ((a.den : Nat) * (b.den : Nat)) (den_pos' hf a b) ((ha.bd.mul hb.bd).mono (by decide)) (by rw [e]; exact hd)
  rw [e] at h
  simp only [fq] at h
  simp [t_plus, outX, fq, runF, slots, exs, ex, ev, evs, evO, evC, evF, ofR, slV, cmpD, cmpB, eqD, outR, Except.bind, Except.map, bltD, bltF, setS, intB, most, b_add, b_sub, b_and, asBool, asInt, asInts, asBools, asList, idxD, atD, atI, ixN, Ik.is, isNo, m1, m2, m3, h]
theorem t_minusb_ok {a b : Rat} (ha : Sm a) (hb : Sm b) (hd : (a - b).den < 2 ^ 2700) : runF E (t_minus f) [fq a, fq b] = .ok (fq (a - b)) := by
  have m1 := b_mul (ha.bn.ok hb.bd)
  have m2 := b_mul (hb.bn.ok ha.bd)
  have m3 := b_mul (ha.bd.ok hb.bd)
  have e : (((a.num * (b.den : Nat) - b.num * (a.den : Nat) : Int) : Rat) / (((a.den : Nat) * (b.den : Nat) : Int) : Rat)) = a - b := by
    rw [Rat.intCast_sub, Rat.intCast_mul, Rat.intCast_mul, Rat.intCast_mul, den_cast, den_cast, num_eq a, num_eq b]
    have := int_ne (q := a)
    have := int_ne (q := b)
    grind
  have h := hf (a.num * (b.den : Nat) - b.num * (a.den : Nat)) ((a.den : Nat) * (b.den : Nat)) (den_pos' hf a b) ((ha.bd.mul hb.bd).mono (by decide)) (by rw [e]; exact hd)
  rw [e] at h
  simp only [fq] at h
  simp [t_minus, outX, fq, runF, slots, exs, ex, ev, evs, evO, evC, evF, ofR, slV, cmpD, cmpB, eqD, outR, Except.bind, Except.map, bltD, bltF, setS, intB, most, b_add, b_sub, b_and, asBool, asInt, asInts, asBools, asList, idxD, atD, atI, ixN, Ik.is, isNo, m1, m2, m3, h]
theorem t_timesb_ok {a b : Rat} (ha : Sm a) (hb : Sm b) (hd : (a * b).den < 2 ^ 2700) : runF E (t_times f) [fq a, fq b] = .ok (fq (a * b)) := by
  have m1 := b_mul (ha.bn.ok hb.bn)
  have m3 := b_mul (ha.bd.ok hb.bd)
  have e : (((a.num * b.num : Int) : Rat) / (((a.den : Nat) * (b.den : Nat) : Int) : Rat)) = a * b := by
    rw [Rat.intCast_mul, Rat.intCast_mul, den_cast, den_cast, num_eq a, num_eq b]
    have := int_ne (q := a)
    have := int_ne (q := b)
    grind
  have h := hf (a.num * b.num) ((a.den : Nat) * (b.den : Nat)) (den_pos' hf a b) ((ha.bd.mul hb.bd).mono (by decide)) (by rw [e]; exact hd)
  rw [e] at h
  simp only [fq] at h
  simp [t_times, outX, fq, runF, slots, exs, ex, ev, evs, evO, evC, evF, ofR, slV, cmpD, cmpB, eqD, outR, Except.bind, Except.map, bltD, bltF, setS, intB, most, b_add, b_sub, b_and, asBool, asInt, asInts, asBools, asList, idxD, atD, atI, ixN, Ik.is, isNo, m1, m3, h]
theorem t_overb_ok {a b : Rat} (ha : Sm a) (hb : Sm b) (hn : b ≠ 0) (hd : (a / b).den < 2 ^ 2700) : runF E (t_law_over f) [fq a, fq b] = .ok (fq (a / b)) := by
  have m1 := b_mul (ha.bn.ok hb.bd)
  have m3 := b_mul (ha.bd.ok hb.bn)
  have n0 : b.num ≠ 0 := fun e => hn (Rat.num_eq_zero.mp e)
  have ap : 0 < ((a.den : Nat) : Int) := by have := a.den_pos; omega
  have ea := num_eq a
  have eb := num_eq b
  have da := int_ne (q := a)
  have db := int_ne (q := b)
  refine run_wp rfl ?_
  show Wp E (t_law_over f).body [.sh (fq a), .sh (fq b)] _
  have i0 : ∀ {Γ : List Sl}, Γ[0]? = some (.sh (fq a)) → ev E (.idx (.var 0) (.int 0)) Γ = .ok (.int a.num) := fun h => ev_idx (ev_var h) ev_int rfl
  have i1 : ∀ {Γ : List Sl}, Γ[0]? = some (.sh (fq a)) → ev E (.idx (.var 0) (.int 1)) Γ = .ok (.int (a.den : Nat)) := fun h => ev_idx (ev_var h) ev_int rfl
  have j0 : ∀ {Γ : List Sl}, Γ[1]? = some (.sh (fq b)) → ev E (.idx (.var 1) (.int 0)) Γ = .ok (.int b.num) := fun h => ev_idx (ev_var h) ev_int rfl
  have j1 : ∀ {Γ : List Sl}, Γ[1]? = some (.sh (fq b)) → ev E (.idx (.var 1) (.int 1)) Γ = .ok (.int (b.den : Nat)) := fun h => ev_idx (ev_var h) ev_int rfl
  have cmp : ev E (.cmp .lt (.idx (.var 1) (.int 0)) (.int 0)) [.sh (fq a), .sh (fq b)] = .ok (.bool (decide (b.num < 0))) := ev_cmp (j0 rfl) ev_int rfl
  by_cases h0 : b.num < 0
  · have lp : 0 < 0 - ((a.den : Nat) : Int) * b.num := by
      have := Int.mul_neg_of_pos_of_neg ap h0
      omega
    have e : (((0 - a.num * (b.den : Nat) : Int) : Rat) / ((0 - ((a.den : Nat) : Int) * b.num : Int) : Rat)) = a / b := by
      rw [Rat.intCast_sub, Rat.intCast_sub, Rat.intCast_mul, Rat.intCast_mul, den_cast, den_cast, ea, eb]
      have : ((0 : Int) : Rat) = 0 := rfl
      rw [this]
      grind
    have h := hf (0 - a.num * (b.den : Nat)) (0 - ((a.den : Nat) : Int) * b.num) lp (by
      have := (ha.bd.mul hb.bn).mono (m := 9000) (by decide)
      unfold Bd at this ⊢
      omega) (by rw [e]; exact hd)
    rw [e] at h
    rw [decide_eq_true h0] at cmp
    exact wp_ift cmp (wp_ret (ev_call (evs_2 (ev_sub ev_int (ev_bin (i0 rfl) (j1 rfl) m1)) (ev_sub ev_int (ev_bin (i1 rfl) (j0 rfl) m3))) h) rfl)
  · have lp : 0 < ((a.den : Nat) : Int) * b.num := Int.mul_pos ap (by omega)
    have e : (((a.num * (b.den : Nat) : Int) : Rat) / ((((a.den : Nat) : Int) * b.num : Int) : Rat)) = a / b := by
      rw [Rat.intCast_mul, Rat.intCast_mul, den_cast, den_cast, ea, eb]
      grind
    have h := hf (a.num * (b.den : Nat)) (((a.den : Nat) : Int) * b.num) lp ((ha.bd.mul hb.bn).mono (by decide)) (by rw [e]; exact hd)
    rw [e] at h
    rw [decide_eq_false h0] at cmp
    exact wp_iff0 cmp (wp_ret (ev_call (evs_2 (ev_bin (i0 rfl) (j1 rfl) m1) (ev_bin (i1 rfl) (j0 rfl) m3)) h) rfl)
end
theorem QN.dl {D N : Nat} {q : Rat} (h : QN D N q) (hD : D < 2 ^ 2700) : q.den < 2 ^ 2700 := Nat.lt_of_le_of_lt h.le.2 hD
/-! ### digits -/
def IsDigits (E : Evn) (n : Nat) : Prop := ∀ (c : Nat) (base : Int) (m : Nat), 0 < base → base < 1000000 → m ≤ 100 → ∃ ys : List Int, (ys.length = m ∧ ∀ y ∈ ys, 0 ≤ y ∧ y < base) ∧ E.F n [.int (c : Nat), .int base, .int (m : Nat)] = .ok (.list (ys.map .int))
/-- a def's answer, of which something is known -/
theorem run_ex {E : Evn} {g : FnT} {ds : List D} {Y : Type} {P : Y → Prop} {r : Y → R} (h : ds.length = g.np) (w : Wp E g.body (slots g.nn ds) (fun o => ∃ y, P y ∧ outX g.fr o = r y)) : ∃ y, P y ∧ runF E g ds = r y := by
  obtain ⟨y, a, b⟩ := w
  refine ⟨y, a, ?_⟩
  unfold runF
  rw [if_pos h]
  exact b
theorem big_ok {i : Int} (h : i.natAbs < 1000000000000000000000000000000) : i.natAbs < 2 ^ 60000 := Nat.lt_of_lt_of_le h (Nat.le_trans (show 1000000000000000000000000000000 ≤ 2 ^ 100 by decide) (pow_lt_pow (by decide)))
theorem t_law_digits_ok {E : Evn} (c : Nat) {base : Int} {m : Nat} (h0 : 0 < base) (h1 : base < 1000000) (hm : m ≤ 100) : ∃ ys : List Int, (ys.length = m ∧ ∀ y ∈ ys, 0 ≤ y ∧ y < base) ∧ runF E t_law_digits [.int (c : Nat), .int base, .int (m : Nat)] = .ok (.list (ys.map .int)) := by
  have p10 : ∀ {Γ : List Sl}, ev E (.bin .pow (.int 10) (.int 18)) Γ = .ok (.int (10 ^ 18)) := fun {Γ} => ev_bin ev_int ev_int (b_pow (n := 18) (by decide) (by decide))
  have e18 : (10 : Int) ^ 18 = 1000000000000000000 := by decide
  refine run_ex rfl ?_
  show Wp E t_law_digits.body [.sh (.int (c : Nat)), .sh (.int base), .sh (.int (m : Nat)), .non, .non, .non] _
  refine wp_setO (ds := []) rfl (show 3 < 6 by decide) ?_
  refine wp_set (d := .bool (decide ((c : Int) ≥ 10 ^ 18))) (ev_cmp (ev_var rfl) p10 rfl) (show 4 < 6 by decide) ?_
  obtain ⟨lg, hlg⟩ : ∃ b, b = decide ((c : Int) ≥ 10 ^ 18) := ⟨_, rfl⟩
  rw [← hlg]
  have bb : base.natAbs < 2 ^ 9000 := Nat.lt_of_lt_of_le (show base.natAbs < 1000000 by omega) (Nat.le_trans (show 1000000 ≤ 2 ^ 20 by decide) (pow_lt_pow (by decide)))
  refine wp_for (enc := fun i : Nat => PyData.int (i : Nat)) (xs := List.range m) (fun pre Γ => ∃ (z : Int) (ys : List Int) (x5 : Sl), Γ = [.sh (.int z), .sh (.int base), .sh (.int (m : Nat)), .own (ys.map .int), .sh (.bool lg), x5] ∧ (0 ≤ z ∧ (lg = false → z < 1000000000000000000)) ∧ ys.length = pre.length ∧ ∀ y ∈ ys, 0 ≤ y ∧ y < base)
    (evI_rn (ev_var rfl) (by omega)) ⟨(c : Int), [], .non, rfl, ⟨by omega, fun h => by
      rw [hlg, e18] at h
      have := of_decide_eq_false h
      omega⟩, rfl, fun y hy => by simp at hy⟩ ?_ ?_
  · rintro pre i post Γ ei ⟨z, ys, x5, rfl, ⟨z0, zl⟩, hl, hy⟩
    have lm : pre.length < m := by
      have := congrArg List.length ei
      rw [List.length_range] at this
      simp at this
      omega
    have im : i < m := List.mem_range.mp (by rw [ei]; simp)
    refine ⟨[.sh (.int z), .sh (.int base), .sh (.int (m : Nat)), .own (ys.map .int), .sh (.bool lg), .sh (.int (i : Nat))], rfl, ?_⟩
    have next : ∀ (w : Int) (z' : Int), (0 ≤ w ∧ w < base) → (0 ≤ z' ∧ (lg = false → z' < 1000000000000000000)) → ∃ (z : Int) (ys' : List Int) (x5 : Sl), [.sh (.int z'), .sh (.int base), .sh (.int (m : Nat)), .own (ys.map .int ++ [.int w]), .sh (.bool lg), .sh (.int (i : Nat))] = [.sh (.int z), .sh (.int base), .sh (.int (m : Nat)), .own (ys'.map .int), .sh (.bool lg), x5] ∧ (0 ≤ z ∧ (lg = false → z < 1000000000000000000)) ∧ ys'.length = (pre ++ [i]).length ∧ ∀ y ∈ ys', 0 ≤ y ∧ y < base := fun w z' hw hz => by
      refine ⟨z', ys ++ [w], _, by rw [List.map_append]; rfl, hz, by rw [List.length_append, List.length_append, hl]; rfl, fun y hy' => ?_⟩
      rcases List.mem_append.mp hy' with hy' | hy'
      · exact hy y hy'
      · rw [show y = w by simpa using hy']
        exact hw
    have ym : (ys.map PyData.int).length < most := by rw [List.length_map]; unfold most; omega
    have mb : ∀ z : Int, 0 ≤ z % base ∧ z % base < base := fun z => ⟨Int.emod_nonneg _ (by omega), Int.emod_lt_of_pos _ h0⟩
    refine wp_if (ev_var rfl) (fun hg => ?_) (fun hg => ?_)
    · refine wp_app (d := .int (z % base)) rfl (ev_bin (ev_intB (ev_var rfl)) (ev_var rfl) (b_mod h0)) ym ?_
      refine wp_set (d := .int (z / base)) (ev_bin (ev_var rfl) (ev_var rfl) (b_div h0 bb)) (by show 0 < 6; decide) ?_
      exact wp_skip (wp_nil (next (z % base) (z / base) (mb z) ⟨Int.ediv_nonneg z0 (by omega), fun h => by rw [hg] at h; cases h⟩))
    · have zb := zl hg
      have d97 : 0 ≤ z / 97 ∧ z / 97 ≤ z := ⟨Int.ediv_nonneg z0 (by decide), Int.ediv_le_self _ z0⟩
      have pk : ((((i : Nat) : Int) + 1) * (((i : Nat) : Int) + 5)).natAbs ≤ 101 * 105 := by
        rw [Int.natAbs_mul]
        exact Nat.mul_le_mul (by omega) (by omega)
      refine wp_app (d := .int ((z * 48271 + (((i : Nat) : Int) + 1) * (((i : Nat) : Int) + 5) * 69621 + z / 97 * ((i : Nat) : Int)) % 2147483647 % base)) rfl
        (ev_bin (ev_bin (ev_intB (ev_add (ev_add (ev_bin (ev_var rfl) ev_int (b_mul (mul_ok (big_ok (by omega)) (big_ok (by decide))))) (ev_bin (ev_bin (ev_add (ev_var rfl) ev_int) (ev_add (ev_var rfl) ev_int) (b_mul (mul_ok (big_ok (by omega)) (big_ok (by omega))))) ev_int (b_mul (mul_ok (big_ok (by omega)) (big_ok (by decide))))))
          (ev_bin (ev_bin (ev_var rfl) ev_int (b_div (by decide) (Nat.lt_of_lt_of_le (show (97 : Int).natAbs < 2 ^ 7 by decide) (pow_lt_pow (by decide))))) (ev_var rfl) (b_mul (mul_ok (big_ok (by omega)) (big_ok (by omega))))))) ev_int (b_mod (by decide))) (ev_var rfl) (b_mod h0)) ym ?_
      exact wp_skip (wp_nil (next _ z (mb _) ⟨z0, zl⟩))
  · rintro Γ ⟨z, ys, x5, rfl, _, hl, hy⟩
    rw [List.length_range] at hl
    refine wp_frz ?_
    exact wp_ret (d := .list (ys.map .int)) (ev_var rfl) ⟨ys, ⟨hl, hy⟩, rfl⟩
end Dee

set_option maxRecDepth 100000
set_option maxHeartbeats 2000000
/-! Dee, part 49: the chances of never being ruined, where a year earns at most one unit. -/
namespace Dee
open PySem PySem.Spec L2 PyProof.Rows
/-! ### sums over members -/
theorem isum_mem {g h : Int → Rat} : ∀ {l : List (Int × Rat)}, (∀ p ∈ l, g p.1 = h p.1) → isum g l = isum h l
  | [], _ => rfl
  | p :: l, e => by
    show g p.1 * p.2 + isum g l = h p.1 * p.2 + isum h l
    rw [e p List.mem_cons_self, isum_mem fun q hq => e q (List.mem_cons_of_mem _ hq)]
theorem isum_le {g h : Int → Rat} : ∀ {l : List (Int × Rat)}, (∀ p ∈ l, 0 ≤ p.2) → (∀ p ∈ l, g p.1 ≤ h p.1) → isum g l ≤ isum h l
  | [], _, _ => Rat.le_refl
  | p :: l, h0, e => by
    show g p.1 * p.2 + isum g l ≤ h p.1 * p.2 + isum h l
    have a := isum_le (fun q hq => h0 q (List.mem_cons_of_mem _ hq)) fun q hq => e q (List.mem_cons_of_mem _ hq)
    have b := Rat.mul_le_mul_of_nonneg_right (e p List.mem_cons_self) (h0 p List.mem_cons_self)
    grind
/-- of some members -/
theorem isum_filter (g : Int → Rat) (c : Int → Bool) : ∀ l : List (Int × Rat), ((l.filter fun p => c p.1).map fun p => p.2 * g p.1).sum = isum (fun v => if c v = true then g v else 0) l
  | [] => rfl
  | p :: l => by
    have ih := isum_filter g c l
    by_cases h : c p.1 = true
    · rw [List.filter_cons_of_pos (by simpa using h), List.map_cons, List.sum_cons, ih]
      show _ = (if c p.1 = true then g p.1 else 0) * p.2 + _
      rw [if_pos h, Rat.mul_comm]
    · rw [List.filter_cons_of_neg (by simpa using h), ih]
      show _ = (if c p.1 = true then g p.1 else 0) * p.2 + _
      rw [if_neg h]
      grind
theorem foldl_sub {X : Type} (g : X → Rat) : ∀ (l : List X) (x : Rat), l.foldl (fun r p => r - g p) x = x - (l.map g).sum
  | [], x => by show x = x - 0; grind
  | p :: l, x => by
    show l.foldl (fun r p => r - g p) (x - g p) = x - (g p + (l.map g).sum)
    rw [foldl_sub g l]
    grind
/-! ### the sequence -/
def inR (r : Nat) (v : Int) : Bool := decide (-(r : Int) ≤ v) && decide (v ≤ 0)
def nxt (s : List (Int × Rat)) (up : Rat) (l : List Rat) : Rat :=
  ((s.filter fun p => inR (l.length - 1) p.1).foldl (fun r p => r - p.2 * l.getD (((l.length - 1 : Nat) : Int) + p.1).toNat 0) (l.getD (l.length - 1) 0)) / up
def lst (s : List (Int × Rat)) : Nat → List Rat
  | 0 => [mn s / chof s 1]
  | n + 1 => lst s n ++ [nxt s (chof s 1) (lst s n)]
def nev (s : List (Int × Rat)) (r : Nat) : Rat := (lst s r).getD r 0
theorem lst_len (s : List (Int × Rat)) : ∀ n, (lst s n).length = n + 1
  | 0 => rfl
  | n + 1 => by
    show (lst s n ++ [_]).length = _
    rw [List.length_append, lst_len s n]
    rfl
theorem lst_at (s : List (Int × Rat)) : ∀ {n j : Nat}, j ≤ n → (lst s n).getD j 0 = nev s j
  | 0, j, h => by
    have : j = 0 := by omega
    subst this
    rfl
  | n + 1, j, h => by
    by_cases hj : j = n + 1
    · subst hj
      rfl
    · have ih := lst_at s (n := n) (j := j) (by omega)
      rw [← ih]
      show (lst s n ++ [_]).getD j 0 = _
      rw [List.getD_eq_getElem?_getD, List.getD_eq_getElem?_getD, List.getElem?_append_left (by rw [lst_len]; omega)]
theorem lst_eq (s : List (Int × Rat)) (n : Nat) : lst s n = (List.range (n + 1)).map (nev s) := by
  refine List.ext_getElem (by rw [lst_len, List.length_map, List.length_range]) fun i h1 h2 => ?_
  rw [lst_len] at h1
  have := lst_at s (n := n) (j := i) (by omega)
  rw [List.getD_eq_getElem?_getD, List.getElem?_eq_getElem (by rw [lst_len]; omega)] at this
  simpa using this
section
variable {s : List (Int × Rat)}
/-- what is asked of the spread -/
structure Skf (s : List (Int × Rat)) : Prop where
  one : tot s = 1
  pos : ∀ p ∈ s, 0 < p.2
  le : ∀ p ∈ s, p.1 ≤ 1
  up : chof s 1 = wt s 1
  mean : 0 < mn s
theorem Skf.nn (h : Skf s) : ∀ p ∈ s, 0 ≤ p.2 := fun p hp => Rat.le_of_lt (h.pos p hp)
/-- the parts of the values 1 and below -/
theorem Skf.low (h : Skf s) : isum (fun v => if v ≤ 0 then 1 else 0) s = 1 - chof s 1 := by
  have e : isum (fun v => (if v ≤ 0 then (1 : Rat) else 0) + (if v = 1 then 1 else 0)) s = tot s := by
    rw [tot_isum]
    refine isum_mem fun p hp => ?_
    have := h.le p hp
    by_cases h0 : p.1 ≤ 0
    · rw [if_pos h0, if_neg (by omega)]
      grind
    · rw [if_neg h0, if_pos (by omega)]
      grind
  rw [isum_add, ← wt_isum, ← h.up, h.one] at e
  grind
theorem Skf.drift (h : Skf s) : isum (fun v => if v ≤ 0 then -(v : Rat) else 0) s = chof s 1 - mn s := by
  have e : isum (fun v => (if v ≤ 0 then -(v : Rat) else 0) + (v : Rat)) s = isum (fun v => if v = 1 then 1 else 0) s := by
    refine isum_mem fun p hp => ?_
    have := h.le p hp
    by_cases h0 : p.1 ≤ 0
    · rw [if_pos h0, if_neg (by omega)]
      grind
    · have h1 : p.1 = 1 := by omega
      rw [if_neg h0, if_pos h1, h1]
      show 0 + ((1 : Int) : Rat) = 1
      have : ((1 : Int) : Rat) = 1 := rfl
      rw [this]
      grind
  rw [isum_add, ← mn_isum, ← wt_isum, ← h.up] at e
  grind
theorem Skf.up0 (h : Skf s) : mn s ≤ chof s 1 := by
  have a := h.drift
  have b : isum (fun _ => 0) s ≤ isum (fun v => if v ≤ 0 then -(v : Rat) else 0) s := isum_le h.nn fun p hp => by
    split
    · rename_i h0
      have : ((p.1 : Int) : Rat) ≤ ((0 : Int) : Rat) := Rat.intCast_le_intCast.mpr h0
      have z : ((0 : Int) : Rat) = 0 := rfl
      rw [z] at this
      grind
    · exact Rat.le_refl
  rw [isum_zero] at b
  grind
theorem Skf.upp (h : Skf s) : 0 < chof s 1 := by
  have a := h.up0
  have b := h.mean
  grind
theorem nev_0 : nev s 0 = mn s / chof s 1 := rfl
theorem nev_S (h : Skf s) (r : Nat) : chof s 1 * nev s (r + 1) = nev s r - isum (fun v => if inR r v = true then nev s ((r : Int) + v).toNat else 0) s := by
  have e : nev s (r + 1) = nxt s (chof s 1) (lst s r) := by
    show (lst s r ++ [nxt s (chof s 1) (lst s r)]).getD (r + 1) 0 = _
    rw [List.getD_eq_getElem?_getD, List.getElem?_append_right (by rw [lst_len]; omega), lst_len]
    simp
  rw [e]
  unfold nxt
  rw [lst_len, Nat.add_sub_cancel, foldl_sub, lst_at s (Nat.le_refl r)]
  have c : ((s.filter fun p => inR r p.1).map fun p => p.2 * (lst s r).getD ((r : Int) + p.1).toNat 0) = (s.filter fun p => inR r p.1).map fun p => p.2 * nev s ((r : Int) + p.1).toNat := by
    refine List.map_congr_left fun p hp => ?_
    have := (List.mem_filter.mp hp).2
    unfold inR at this
    simp only [Bool.and_eq_true, decide_eq_true_eq] at this
    rw [lst_at s (by omega)]
  rw [c, isum_filter (fun v => nev s ((r : Int) + v).toNat) (inR r) s]
  have u := h.upp
  grind
def sumf (s : List (Int × Rat)) (m : Int) : Rat := ((List.range m.toNat).map (nev s)).sum
theorem sumf_S {m : Int} (h : 0 ≤ m) : sumf s (m + 1) = sumf s m + nev s m.toNat := by
  unfold sumf
  have : (m + 1).toNat = m.toNat + 1 := by omega
  rw [this, List.range_succ, List.map_append, List.sum_append]
  show _ + (_ + 0) = _
  grind
theorem sumf_neg {m : Int} (h : m ≤ 0) : sumf s m = 0 := by
  unfold sumf
  have : m.toNat = 0 := by omega
  rw [this]
  rfl
def lad (s : List (Int × Rat)) (r : Nat) : Rat := isum (fun v => if v ≤ 0 then sumf s r - sumf s ((r : Int) + v) else 0) s
theorem lad_S (h : Skf s) (r : Nat) : lad s (r + 1) = lad s r + (1 - chof s 1) * nev s r - isum (fun v => if inR r v = true then nev s ((r : Int) + v).toNat else 0) s := by
  have e : lad s (r + 1) = isum (fun v => (if v ≤ 0 then sumf s r - sumf s ((r : Int) + v) else 0) + ((if v ≤ 0 then nev s r else 0) + (-1) * (if inR r v = true then nev s ((r : Int) + v).toNat else 0))) s := by
    unfold lad
    refine isum_congr (fun v => ?_) s
    by_cases h0 : v ≤ 0
    · rw [if_pos h0, if_pos h0, if_pos h0]
      have a : sumf s ((r + 1 : Nat) : Int) = sumf s (r : Int) + nev s r := by
        have := sumf_S (s := s) (m := (r : Int)) (by omega)
        rwa [Int.toNat_natCast] at this
      rw [a]
      by_cases h1 : -(r : Int) ≤ v
      · have b : sumf s (((r + 1 : Nat) : Int) + v) = sumf s ((r : Int) + v) + nev s ((r : Int) + v).toNat := by
          rw [show ((r + 1 : Nat) : Int) + v = ((r : Int) + v) + 1 by omega]
          exact sumf_S (by omega)
        have i : inR r v = true := by unfold inR; rw [decide_eq_true h1, decide_eq_true h0]; rfl
        rw [b, if_pos i]
        grind
      · have i : ¬ inR r v = true := by unfold inR; rw [decide_eq_false h1]; simp
        rw [sumf_neg (m := ((r + 1 : Nat) : Int) + v) (by omega), sumf_neg (m := (r : Int) + v) (by omega), if_neg i]
        grind
    · have i : ¬ inR r v = true := by unfold inR; rw [decide_eq_false h0]; simp
      rw [if_neg h0, if_neg h0, if_neg h0, if_neg i]
      grind
  rw [e, isum_add, isum_add, isum_mul]
  have c : isum (fun v => if v ≤ 0 then nev s r else 0) s = nev s r * (1 - chof s 1) := by
    rw [← h.low, ← isum_mul]
    refine isum_congr (fun v => ?_) s
    split <;> grind
  rw [c]
  show lad s r + _ = _
  grind
theorem ladder (h : Skf s) : ∀ r, chof s 1 * nev s r = mn s + lad s r
  | 0 => by
    have z : lad s 0 = 0 := by
      unfold lad
      rw [show isum (fun v => if v ≤ 0 then sumf s ((0 : Nat) : Int) - sumf s (((0 : Nat) : Int) + v) else 0) s = isum (fun _ => 0) s from isum_congr (fun v => by
        split
        · rw [sumf_neg (by simp), sumf_neg (by omega)]
          grind
        · rfl) s, isum_zero]
    rw [z, nev_0]
    have u := h.upp
    grind
  | r + 1 => by
    have ih := ladder h r
    rw [lad_S h r, nev_S h r]
    grind
/-- of values from 0 to 1 -/
theorem sum_range {f : Nat → Rat} {n : Nat} (h : ∀ i, i < n → 0 ≤ f i ∧ f i ≤ 1) : ∀ k, k ≤ n → ∀ j, j ≤ k → 0 ≤ ((List.range k).map f).sum - ((List.range j).map f).sum ∧ ((List.range k).map f).sum - ((List.range j).map f).sum ≤ (((k - j : Nat) : Int) : Rat)
  | 0, _, j, hj => by
    have : j = 0 := by omega
    subst this
    have z : (((0 - 0 : Nat) : Int) : Rat) = 0 := rfl
    rw [z]
    grind
  | k + 1, hk, j, hj => by
    by_cases e : j = k + 1
    · subst e
      rw [Nat.sub_self]
      have z : (((0 : Nat) : Int) : Rat) = 0 := rfl
      rw [z]
      grind
    · obtain ⟨a, b⟩ := sum_range h k (by omega) j (by omega)
      obtain ⟨c, d⟩ := h k (by omega)
      have s1 : ((List.range (k + 1)).map f).sum = ((List.range k).map f).sum + f k := by
        rw [List.range_succ, List.map_append, List.sum_append]
        show _ + (_ + 0) = _
        grind
      have e1 : (((k + 1 - j : Nat) : Int) : Rat) = (((k - j : Nat) : Int) : Rat) + 1 := by
        have : ((k + 1 - j : Nat) : Int) = ((k - j : Nat) : Int) + 1 := by omega
        rw [this, Rat.intCast_add]
        rfl
      rw [s1, e1]
      constructor <;> grind
theorem nev_bd (h : Skf s) (r : Nat) : 0 < nev s r ∧ nev s r ≤ 1 := by
  induction r using Nat.strongRecOn with
  | ind r ih =>
    have lb : ∀ v : Int, v ≤ 0 → 0 ≤ sumf s (r : Int) - sumf s ((r : Int) + v) ∧ sumf s (r : Int) - sumf s ((r : Int) + v) ≤ -(v : Rat) := fun v hv => by
      have q := sum_range (f := nev s) (n := r) (fun i hi => ⟨Rat.le_of_lt (ih i hi).1, (ih i hi).2⟩) r (Nat.le_refl _) ((r : Int) + v).toNat (by omega)
      unfold sumf
      rw [Int.toNat_natCast]
      refine ⟨q.1, Rat.le_trans q.2 ?_⟩
      have e : -(v : Rat) = ((-v : Int) : Rat) := (Rat.intCast_neg v).symm
      rw [e]
      exact Rat.intCast_le_intCast.mpr (by omega)
    have l0 : 0 ≤ lad s r := by
      have := isum_le (g := fun _ => 0) (h := fun v => if v ≤ 0 then sumf s r - sumf s ((r : Int) + v) else 0) h.nn (fun p hp => by
        show (0 : Rat) ≤ if p.1 ≤ 0 then _ else 0
        split
        · rename_i h0
          exact (lb p.1 h0).1
        · exact Rat.le_refl)
      rw [isum_zero] at this
      exact this
    have l1 : lad s r ≤ chof s 1 - mn s := by
      rw [← h.drift]
      refine isum_le h.nn fun p hp => ?_
      show (if p.1 ≤ 0 then sumf s r - sumf s ((r : Int) + p.1) else 0) ≤ if p.1 ≤ 0 then -(p.1 : Rat) else 0
      split
      · rename_i h0
        exact (lb p.1 h0).2
      · exact Rat.le_refl
    have e := ladder h r
    have u := h.upp
    have m := h.mean
    constructor
    · refine Rat.not_le.mp fun hn => ?_
      have := Rat.mul_le_mul_of_nonneg_left hn (Rat.le_of_lt u)
      grind
    · refine Rat.not_lt.mp fun hn => ?_
      have := Rat.mul_lt_mul_of_pos_left hn u
      grind
/-- the longer the reserve lasts .. -/
theorem nev_mono (h : Skf s) (r : Nat) : nev s r ≤ nev s (r + 1) := by
  induction r using Nat.strongRecOn with
  | ind r ih =>
    have up : ∀ i j, i ≤ j → j ≤ r → nev s i ≤ nev s j := fun i j hij hj => by
      induction j with
      | zero =>
        have : i = 0 := by omega
        subst this
        exact Rat.le_refl
      | succ j jh =>
        by_cases e : i = j + 1
        · subst e
          exact Rat.le_refl
        · exact Rat.le_trans (jh (by omega) (by omega)) (ih j (by omega))
    have e := nev_S h r
    have c : isum (fun v => if v ≤ 0 then nev s r else 0) s = nev s r * (1 - chof s 1) := by
      rw [← h.low, ← isum_mul]
      refine isum_congr (fun v => ?_) s
      split <;> grind
    have l : isum (fun v => if inR r v = true then nev s ((r : Int) + v).toNat else 0) s ≤ isum (fun v => if v ≤ 0 then nev s r else 0) s := isum_le h.nn fun p hp => by
      show (if inR r p.1 = true then nev s ((r : Int) + p.1).toNat else 0) ≤ if p.1 ≤ 0 then nev s r else 0
      by_cases i : inR r p.1 = true
      · have i' := i
        unfold inR at i'
        simp only [Bool.and_eq_true, decide_eq_true_eq] at i'
        rw [if_pos i, if_pos i'.2]
        exact up _ _ (by omega) (Nat.le_refl _)
      · rw [if_neg i]
        split
        · exact Rat.le_of_lt (nev_bd h r).1
        · exact Rat.le_refl
    rw [c] at l
    have u := h.upp
    refine Rat.not_lt.mp fun hn => ?_
    have := Rat.mul_lt_mul_of_pos_left hn u
    grind
end
end Dee

set_option maxRecDepth 100000
set_option maxHeartbeats 2000000
/-! Dee, part 50: the sizes of these chances; is_still .. least_reserve. -/
namespace Dee
open PySem PySem.Spec L2 PyProof.Rows
/-- a multiple of 1 / D -/
def IQ (D : Nat) (q : Rat) : Prop := ∃ N, QN D N q
theorem IQ.add {D : Nat} {a b : Rat} : IQ D a → IQ D b → IQ D (a + b) := fun ⟨_, h⟩ ⟨_, h2⟩ => ⟨_, h.add h2⟩
theorem IQ.sub {D : Nat} {a b : Rat} : IQ D a → IQ D b → IQ D (a - b) := fun ⟨_, h⟩ ⟨_, h2⟩ => ⟨_, h.sub h2⟩
theorem IQ.mul {D D' : Nat} {a b : Rat} : IQ D a → IQ D' b → IQ (D * D') (a * b) := fun ⟨_, h⟩ ⟨_, h2⟩ => ⟨_, h.mul h2⟩
theorem IQ.scale {D : Nat} {a : Rat} (h : IQ D a) {k : Nat} (hk : 0 < k) : IQ (D * k) a := by
  obtain ⟨_, h⟩ := h
  exact ⟨_, h.scale hk⟩
theorem IQ.zero {D : Nat} (h : 0 < D) : IQ D 0 := ⟨_, QN.zero (N := 0) h⟩
theorem IQ.unit {D : Nat} {q : Rat} (h : IQ D q) (h0 : 0 ≤ q) (h1 : q ≤ 1) : QN D D q := by
  obtain ⟨_, h⟩ := h
  exact h.unit h0 h1
theorem IQ.sum {D : Nat} (hD : 0 < D) : ∀ {l : List Rat}, (∀ q ∈ l, IQ D q) → IQ D l.sum
  | [], _ => IQ.zero hD
  | q :: l, h => by
    rw [List.sum_cons]
    exact (h q List.mem_cons_self).add (IQ.sum hD fun x hx => h x (List.mem_cons_of_mem _ hx))
theorem p2700 {D : Nat} (h : D < 2 ^ 2700) : D < 2 ^ 4400 := Nat.lt_of_lt_of_le h (pow_lt_pow (by decide))
structure Sb (q : Rat) : Prop where
  sm : Sm q
  dl : q.den < 2 ^ 2700
theorem IQ.sb {D : Nat} {q : Rat} (h : IQ D q) (h0 : 0 ≤ q) (h1 : q ≤ 1) (hD : D < 2 ^ 2700) : Sb q := ⟨(h.unit h0 h1).sm (p2700 hD) (p2700 hD), (h.unit h0 h1).dl hD⟩
/-- a spread of weights over T, whose value 1 has the weight w -/
structure Wsp (s : List (Int × Rat)) (T w : Nat) : Prop where
  T0 : 0 < T
  w0 : 0 < w
  qn : ∀ p ∈ s, IQ T p.2
  up : chof s 1 = ((w : Nat) : Rat) / ((T : Nat) : Rat)
section
variable {s : List (Int × Rat)} {T w : Nat}
theorem pow_pos' {w : Nat} (h : 0 < w) (n : Nat) : 0 < w ^ n := Nat.pow_pos h
/-- by the chance of the value 1 -/
theorem Wsp.div (h : Wsp s T w) {n : Nat} {q : Rat} (hq : IQ (T * w ^ n) q) : IQ (w ^ (n + 1)) (q / chof s 1) := by
  obtain ⟨_, _, x, rfl, hx⟩ := hq
  refine ⟨x.natAbs, pow_pos' h.w0 _, x, ?_, Nat.le_refl _⟩
  have a := natCast_ne h.T0
  have b := natCast_ne h.w0
  have c := natCast_ne (pow_pos' h.w0 n)
  rw [h.up, Nat.pow_succ, Rat.natCast_mul, Rat.natCast_mul]
  generalize ((w ^ n : Nat) : Rat) = z at c ⊢
  grind
theorem Wsp.mean (h : Wsp s T w) : IQ T (mn s) := by
  unfold mn
  refine IQ.sum h.T0 fun q hq => ?_
  obtain ⟨p, hp, rfl⟩ := List.mem_map.mp hq
  obtain ⟨N, z⟩ := h.qn p hp
  have := (QN.int p.1 (Nat.le_refl _)).mul z
  rw [Nat.one_mul] at this
  exact ⟨_, this⟩
/-- what is left behind some items -/
def rst (s : List (Int × Rat)) (r : Nat) (pre : List (Int × Rat)) : Rat := nev s r - ((pre.filter fun p => inR r p.1).map fun p => p.2 * nev s ((r : Int) + p.1).toNat).sum
theorem Wsp.nev (h : Wsp s T w) (hs : Skf s) (r : Nat) : IQ (w ^ (r + 1)) (nev s r) := by
  induction r using Nat.strongRecOn with
  | ind r ih =>
    cases r with
    | zero =>
      have := h.div (n := 0) (q := mn s) (by rw [Nat.pow_zero, Nat.mul_one]; exact h.mean)
      exact this
    | succ r =>
      have e := nev_S hs r
      rw [← isum_filter (fun v => Dee.nev s ((r : Int) + v).toNat) (inR r) s] at e
      have u := hs.upp
      have e2 : Dee.nev s (r + 1) = (Dee.nev s r - ((s.filter fun p => inR r p.1).map fun p => p.2 * Dee.nev s ((r : Int) + p.1).toNat).sum) / chof s 1 := by grind
      rw [e2]
      refine h.div (n := r + 1) ?_
      have P := Nat.mul_pos h.T0 (pow_pos' h.w0 (r + 1))
      refine IQ.sub ?_ (IQ.sum P fun q hq => ?_)
      · have := (ih r (by omega)).scale (k := T) h.T0
        rwa [Nat.mul_comm] at this
      · obtain ⟨p, hp, rfl⟩ := List.mem_map.mp hq
        obtain ⟨hp1, hp2⟩ := List.mem_filter.mp hp
        unfold inR at hp2
        simp only [Bool.and_eq_true, decide_eq_true_eq] at hp2
        obtain ⟨j, hj⟩ : ∃ j, j = ((r : Int) + p.1).toNat := ⟨_, rfl⟩
        rw [← hj]
        have := (ih j (by omega)).scale (k := w ^ (r - j)) (pow_pos' h.w0 _)
        rw [← Nat.pow_add, show j + 1 + (r - j) = r + 1 by omega] at this
        exact (h.qn p hp1).mul this
theorem Wsp.term (h : Wsp s T w) (hs : Skf s) {r : Nat} {p : Int × Rat} (hp : p ∈ s) (hr : inR r p.1 = true) : IQ (T * w ^ (r + 1)) (p.2 * Dee.nev s ((r : Int) + p.1).toNat) ∧ 0 ≤ p.2 * Dee.nev s ((r : Int) + p.1).toNat := by
  have hr' := hr
  unfold inR at hr'
  simp only [Bool.and_eq_true, decide_eq_true_eq] at hr'
  refine ⟨?_, Rat.mul_nonneg (Rat.le_of_lt (hs.pos p hp)) (Rat.le_of_lt (nev_bd hs _).1)⟩
  obtain ⟨j, hj⟩ : ∃ j, j = ((r : Int) + p.1).toNat := ⟨_, rfl⟩
  rw [← hj]
  have := (h.nev hs j).scale (k := w ^ (r - j)) (pow_pos' h.w0 _)
  rw [← Nat.pow_add, show j + 1 + (r - j) = r + 1 by omega] at this
  exact (h.qn p hp).mul this
theorem sum_nn : ∀ {l : List Rat}, (∀ q ∈ l, 0 ≤ q) → 0 ≤ l.sum
  | [], _ => Rat.le_refl
  | q :: l, h => by
    rw [List.sum_cons]
    have a := h q List.mem_cons_self
    have b := sum_nn fun x hx => h x (List.mem_cons_of_mem _ hx)
    grind
theorem rst_all (hs : Skf s) (r : Nat) : rst s r s = chof s 1 * Dee.nev s (r + 1) := by
  rw [nev_S hs r, ← isum_filter (fun v => Dee.nev s ((r : Int) + v).toNat) (inR r) s]
  rfl
theorem rst_snoc (r : Nat) (pre : List (Int × Rat)) (p : Int × Rat) : rst s r (pre ++ [p]) = if inR r p.1 = true then rst s r pre - p.2 * Dee.nev s ((r : Int) + p.1).toNat else rst s r pre := by
  unfold rst
  rw [List.filter_append, List.map_append, List.sum_append]
  by_cases h : inR r p.1 = true
  · rw [if_pos h, List.filter_cons_of_pos (by simpa using h)]
    show _ - (_ + (_ + 0)) = _
    grind
  · rw [if_neg h, List.filter_cons_of_neg (by simpa using h)]
    show _ - (_ + 0) = _
    grind
theorem Wsp.rst (h : Wsp s T w) (hs : Skf s) {r : Nat} {pre post : List (Int × Rat)} (e : s = pre ++ post) : IQ (T * w ^ (r + 1)) (rst s r pre) ∧ 0 ≤ Dee.rst s r pre ∧ Dee.rst s r pre ≤ 1 := by
  have P := Nat.mul_pos h.T0 (pow_pos' h.w0 (r + 1))
  have tm : ∀ l : List (Int × Rat), (∀ p ∈ l, p ∈ s) → ∀ q ∈ (l.filter fun p => inR r p.1).map fun p => p.2 * Dee.nev s ((r : Int) + p.1).toNat, IQ (T * w ^ (r + 1)) q ∧ 0 ≤ q := fun l hl q hq => by
    obtain ⟨p, hp, rfl⟩ := List.mem_map.mp hq
    obtain ⟨hp1, hp2⟩ := List.mem_filter.mp hp
    exact h.term hs (hl p hp1) hp2
  have a := tm pre fun p hp => by rw [e]; exact List.mem_append_left _ hp
  have b := tm post fun p hp => by rw [e]; exact List.mem_append_right _ hp
  have s1 := sum_nn fun q hq => (a q hq).2
  have s2 := sum_nn fun q hq => (b q hq).2
  have n := nev_bd hs r
  refine ⟨?_, ?_, ?_⟩
  · refine IQ.sub ?_ (IQ.sum P fun q hq => (a q hq).1)
    have := (h.nev hs r).scale (k := T) h.T0
    rwa [Nat.mul_comm] at this
  · have all := rst_all hs r
    have e2 : Dee.rst s r s = Dee.rst s r pre - ((post.filter fun p => inR r p.1).map fun p => p.2 * Dee.nev s ((r : Int) + p.1).toNat).sum := by
      conv => lhs; rw [e]
      unfold Dee.rst
      rw [List.filter_append, List.map_append, List.sum_append, ← e]
      grind
    rw [e2] at all
    have u := hs.upp
    have n1 := (nev_bd hs (r + 1)).1
    have := Rat.mul_pos u n1
    grind
  · unfold Dee.rst
    grind
/-- the chance of the value 1 is one -/
theorem up_one (hs : Skf s) : chof s 1 ≤ 1 := by
  have a := hs.low
  have b : isum (fun _ => 0) s ≤ isum (fun v => if v ≤ 0 then 1 else 0) s := isum_le hs.nn fun p hp => by
    show (0 : Rat) ≤ if p.1 ≤ 0 then 1 else 0
    split
    · decide
    · exact Rat.le_refl
  rw [isum_zero] at b
  grind
/-- sizes that are fit for reckoning -/
theorem Wsp.fit (h : Wsp s T w) (hT : T ≤ 8192) (hw : w ≤ 8192) {r : Nat} (hr : r ≤ 205) : T * w ^ (r + 1) < 2 ^ 2700 := by
  have a : w ^ (r + 1) ≤ (2 ^ 13) ^ (r + 1) := Nat.pow_le_pow_left hw _
  rw [← Nat.pow_mul] at a
  have b : T * w ^ (r + 1) ≤ 2 ^ 13 * 2 ^ (13 * (r + 1)) := Nat.mul_le_mul hT a
  rw [← Nat.pow_add] at b
  exact Nat.lt_of_le_of_lt b (Nat.lt_of_le_of_lt (pow_lt_pow (show 13 + 13 * (r + 1) ≤ 2691 by omega)) (Nat.pow_lt_pow_right (by decide) (by decide)))
end
end Dee

set_option maxRecDepth 100000
set_option maxHeartbeats 2000000
/-! Dee, part 51: is_still .. least_reserve. -/
namespace Dee
open PySem PySem.Spec L2 PyProof.Rows
def still : List (Int × Rat) → Bool
  | [p] => decide (p.1 = 0)
  | _ => false
/-- sizes -/
structure Ms (s : List (Int × Rat)) (T : Nat) : Prop where
  T0 : 0 < T
  T1 : T ≤ 8192
  qn : ∀ p ∈ s, QN T T p.2
  v : ∀ p ∈ s, p.1.natAbs ≤ 100000
  len : s.length ≤ 60
theorem Ms.msm {s : List (Int × Rat)} {T : Nat} (h : Ms s T) : QN T (60 * (100000 * T)) (mn s) := by
  have t := sum_QN h.T0 _ (mean_turns (V := 100000) h.T0 h.qn h.v)
  rw [List.length_map] at t
  exact t.mono (Nat.mul_le_mul_right _ h.len)
theorem Ms.sm {s : List (Int × Rat)} {T : Nat} (h : Ms s T) : Sm (mn s) := by
  have := h.T1
  exact h.msm.sm (lt_lim (Nat.lt_of_lt_of_le (show T < 8193 by omega) (by decide))) (lt_lim (Nat.lt_of_lt_of_le (show 60 * (100000 * T) < 60000000000 by omega) (by decide)))
theorem Ms.mean {E : Evn} {n : Nat} (hm : IsMean E n) {s : List (Int × Rat)} {T : Nat} (h : Ms s T) : E.F n [dS s] = .ok (fq (mn s)) := by
  have t1 := h.T1
  have l := h.len
  have m2 : s.length * (100000 * T) ≤ 60 * (100000 * T) := Nat.mul_le_mul_right _ h.len
  have L : ∀ {n : Nat}, n < 100000000000 → n < lim := fun h => lt_lim (Nat.lt_of_lt_of_le h (by decide))
  exact hm T T 100000 s h.T0 h.qn h.v (L (by omega)) (L (by omega)) (L (by omega)) (L (by omega)) (by unfold most; omega)
/-- a spread whose chances can be reckoned -/
structure Gs (s : List (Int × Rat)) (T w : Nat) : Prop where
  ms : Ms s T
  w1 : w ≤ 8192
  ok : 0 < mn s → Skf s ∧ Wsp s T w
/-- .. and one that is refused -/
structure Bs (s : List (Int × Rat)) (T : Nat) : Prop where
  ms : Ms s T
  ns : still s = false
  m : 0 < mn s
  big : ∃ p ∈ s, 1 < p.1
def ruL (s : List (Int × Rat)) (m : Nat) : List Rat := if still s = true then List.replicate (m + 1) 0 else if 0 < mn s then (lst s m).map (fun q => 1 - q) else List.replicate (m + 1) 1
def ruin (s : List (Int × Rat)) (r : Nat) : Rat := if still s = true then 0 else if 0 < mn s then 1 - nev s r else 1
theorem rep_range {X : Type} (n : Nat) (x : X) : List.replicate n x = (List.range n).map fun _ => x := by
  refine List.ext_getElem (by simp) fun i h1 h2 => by simp
theorem ruL_eq (s : List (Int × Rat)) (m : Nat) : ruL s m = (List.range (m + 1)).map (ruin s) := by
  unfold ruL
  by_cases h : still s = true
  · rw [if_pos h, rep_range]
    exact List.map_congr_left fun i _ => by unfold ruin; rw [if_pos h]
  · rw [if_neg h]
    by_cases h2 : 0 < mn s
    · rw [if_pos h2, lst_eq, List.map_map]
      exact List.map_congr_left fun i _ => by unfold ruin; rw [if_neg h, if_pos h2]; rfl
    · rw [if_neg h2, rep_range]
      exact List.map_congr_left fun i _ => by unfold ruin; rw [if_neg h, if_neg h2]
theorem ruin_bd {s : List (Int × Rat)} {T w : Nat} (g : Gs s T w) (r : Nat) : 0 ≤ ruin s r ∧ ruin s r ≤ 1 := by
  unfold ruin
  split
  · exact ⟨Rat.le_refl, by decide⟩
  · split
    · rename_i h
      have := nev_bd (g.ok h).1 r
      constructor <;> grind
    · exact ⟨by decide, Rat.le_refl⟩
theorem one_rat : ((1 : Int) : Rat) = 1 := rfl
theorem IQ.one {D : Nat} (h : 0 < D) : IQ D 1 := by
  have z : IQ 1 ((1 : Int) : Rat) := ⟨_, QN.int 1 (Nat.le_refl _)⟩
  have := IQ.scale z h
  rwa [Nat.one_mul, one_rat] at this
theorem Gs.pw {s : List (Int × Rat)} {T w : Nat} (g : Gs s T w) (h : 0 < mn s) {r : Nat} (hr : r ≤ 205) : w ^ (r + 1) < 2 ^ 2700 := by
  obtain ⟨_, ws⟩ := g.ok h
  have f := ws.fit g.ms.T1 g.w1 hr
  have : 1 * w ^ (r + 1) ≤ T * w ^ (r + 1) := Nat.mul_le_mul_right _ ws.T0
  omega
theorem Gs.nev {s : List (Int × Rat)} {T w : Nat} (g : Gs s T w) (h : 0 < mn s) {r : Nat} (hr : r ≤ 205) : Sb (nev s r) := by
  obtain ⟨sk, ws⟩ := g.ok h
  have b := nev_bd sk r
  exact (ws.nev sk r).sb (Rat.le_of_lt b.1) b.2 (g.pw h hr)
theorem Gs.ruin {s : List (Int × Rat)} {T w : Nat} (g : Gs s T w) {r : Nat} (hr : r ≤ 205) : Sb (Dee.ruin s r) := by
  have b := ruin_bd g r
  by_cases h : still s = true
  · have e : Dee.ruin s r = 0 := by unfold Dee.ruin; rw [if_pos h]
    rw [e]
    exact (IQ.zero (D := 1) (by decide)).sb Rat.le_refl (by decide) (Nat.one_lt_two_pow (by decide))
  · by_cases h2 : 0 < mn s
    · obtain ⟨sk, ws⟩ := g.ok h2
      have e : Dee.ruin s r = 1 - Dee.nev s r := by unfold Dee.ruin; rw [if_neg h, if_pos h2]
      rw [e] at b ⊢
      exact ((IQ.one (pow_pos' ws.w0 _)).sub (ws.nev sk r)).sb b.1 b.2 (g.pw h2 hr)
    · have e : Dee.ruin s r = 1 := by unfold Dee.ruin; rw [if_neg h, if_neg h2]
      rw [e]
      exact (IQ.one (D := 1) (by decide)).sb (by decide) Rat.le_refl (Nat.one_lt_two_pow (by decide))
def IsStill (E : Evn) (n : Nat) : Prop := ∀ s : List (Int × Rat), E.F n [dS s] = .ok (.bool (still s))
def IsCert (E : Evn) (n : Nat) : Prop := ∀ (s : List (Int × Rat)) (T : Nat), Ms s T → E.F n [dS s] = .ok (.bool (!decide (0 < mn s) && !still s))
def IsLast (E : Evn) (n : Nat) : Prop := ∀ (s : List (Int × Rat)) (T w m : Nat), Gs s T w → 0 < mn s → m ≤ 205 → E.F n [dS s, .int (m : Nat)] = .ok (.list ((lst s m).map fq))
structure IsRuins (E : Evn) (n c : Nat) : Prop where
  ok : ∀ (s : List (Int × Rat)) (T w m : Nat), Gs s T w → m ≤ 205 → E.F n [dS s, .int (m : Nat)] = .ok (.list ((ruL s m).map fq))
  bad : ∀ (s : List (Int × Rat)) (T m : Nat), Bs s T → m ≤ 205 → E.F n [dS s, .int (m : Nat)] = .error (some c)
structure IsExact (E : Evn) (n c : Nat) : Prop where
  ok : ∀ (s : List (Int × Rat)) (T w r : Nat), Gs s T w → r ≤ 200 → E.F n [dS s, .int (r : Nat)] = .ok (fq (ruin s r))
  bad : ∀ (s : List (Int × Rat)) (T r : Nat), Bs s T → r ≤ 200 → E.F n [dS s, .int (r : Nat)] = .error (some c)
  out : ∀ (s : List (Int × Rat)) (r : Int), (r < 0 ∨ 200 < r) → E.F n [dS s, .int r] = .error (some c)
structure IsLeast (E : Evn) (n c d : Nat) : Prop where
  ok : ∀ (s : List (Int × Rat)) (T w r : Nat) (b : Rat), Gs s T w → Sm b → r ≤ 200 → (∀ j, j < r → b < ruin s j) → ¬ b < ruin s r → E.F n [dS s, fq b] = .ok (.int (r : Nat))
  none : ∀ (s : List (Int × Rat)) (T w : Nat) (b : Rat), Gs s T w → Sm b → (∀ j, j ≤ 200 → b < ruin s j) → E.F n [dS s, fq b] = .error (some d)
  bad : ∀ (s : List (Int × Rat)) (T : Nat) (b : Rat), Bs s T → E.F n [dS s, fq b] = .error (some c)
theorem Sm.one : Sm (1 : Rat) := ⟨Nat.lt_of_lt_of_le (show (1 : Int).natAbs < 2 ^ 1 by decide) (pow_lt_pow (by decide)), Nat.one_lt_two_pow (by decide)⟩
section
variable {E : Evn}
theorem t_is_still_ok (s : List (Int × Rat)) : runF E t_is_still [dS s] = .ok (.bool (still s)) := by
  match s with
  | [] => rfl
  | [p] => rfl
  | p :: q :: s =>
    refine run_wp rfl (wp_ret (d := .bool false) (ev_andf ?_) rfl)
    have h := ev_lenm (E := E) (Γ := slots 1 [dS (p :: q :: s)]) (enc := pq) (a := .var 0) (xs := p :: q :: s) (ev_var rfl)
    exact ev_cmp h ev_int (show Except.ok (decide (((p :: q :: s).length : Int) = 1)) = _ by rw [decide_eq_false (by simp; omega)])
theorem t_is_certain_ok {st ls mm kz : Nat} (hs : IsStill E st) (hl : IsLess E ls) (hm : IsMean E mm) (hz : E.G kz = some (fq 0)) {s : List (Int × Rat)} {T : Nat} (h : Ms s T) : runF E (t_is_certain st ls mm kz) [dS s] = .ok (.bool (!decide (0 < mn s) && !still s)) := by
  refine run_wp rfl (wp_ret ?_ rfl)
  have a := ev_not (ev_call (E := E) (Γ := slots 1 [dS s]) (es := .cons (.glob kz) (.cons (.call mm (.cons (.var 0) .nil)) .nil)) (evs_2 (ev_glob hz) (ev_call (evs_1 (ev_var rfl)) (h.mean hm))) (hl 0 (mn s) Sm.zero h.sm))
  have b := ev_not (ev_call (E := E) (Γ := slots 1 [dS s]) (es := .cons (.var 0) .nil) (evs_1 (ev_var rfl)) (hs s))
  cases hd : decide (0 < mn s) with
  | true =>
    rw [hd] at a
    exact ev_andf a
  | false =>
    rw [hd] at a
    exact ev_andt a (ev_one b)
theorem t_lasting_ok {ch ov mm mi ti : Nat} (hc : IsChof E ch) (ho : IsOver E ov) (hm : IsMean E mm) (hi : IsMinus E mi) (ht : IsTimes E ti) {s : List (Int × Rat)} {T w m : Nat} (g : Gs s T w) (h : 0 < mn s) (hm5 : m ≤ 205) :
    runF E (t_lasting_chances ch ov mm mi ti) [dS s, .int (m : Nat)] = .ok (.list ((lst s m).map fq)) := by
  obtain ⟨sk, ws⟩ := g.ok h
  have upp := sk.upp
  have une : chof s 1 ≠ 0 := fun e => by rw [e] at upp; exact absurd upp (by decide)
  have t1 := g.ms.T1
  have w1 := g.w1
  have sup : Sm (chof s 1) := by
    have q : QN T w (chof s 1) := by rw [ws.up]; exact ⟨ws.T0, (w : Int), rfl, by omega⟩
    exact q.sm (lt_lim (Nat.lt_of_lt_of_le (show T < 8193 by omega) (by decide))) (lt_lim (Nat.lt_of_lt_of_le (show w < 8193 by omega) (by decide)))
  have sp : ∀ p ∈ s, Sm p.2 := fun p hp => (g.ms.qn p hp).sm (lt_lim (Nat.lt_of_lt_of_le (show T < 8193 by omega) (by decide))) (lt_lim (Nat.lt_of_lt_of_le (show T < 8193 by omega) (by decide)))
  refine run_wp rfl ?_
  show Wp E (t_lasting_chances ch ov mm mi ti).body [.sh (dS s), .sh (.int (m : Nat)), .non, .non, .non, .non, .non, .non] _
  refine wp_set (ev_call (evs_2 (ev_var rfl) ev_int) (hc s 1)) (show 2 < 8 by decide) ?_
  have e0 := ho (mn s) (chof s 1) g.ms.sm sup une
  refine wp_setO (ds := (lst s 0).map fq) (by
    show (evs E _ _).bind _ = _
    rw [evs_1 (ev_call (evs_2 (ev_call (evs_1 (ev_var rfl)) (g.ms.mean hm)) (ev_var rfl)) e0)]
    rfl) (show 3 < 8 by decide) ?_
  show Wp E _ [.sh (dS s), .sh (.int (m : Nat)), .sh (fq (chof s 1)), .own ((lst s 0).map fq), .non, .non, .non, .non] _
  refine wp_for (enc := fun i : Nat => PyData.int (i : Nat)) (xs := List.range m) (fun pre Γ => ∃ x4 x5 x6 x7, Γ = [.sh (dS s), .sh (.int (m : Nat)), .sh (fq (chof s 1)), .own ((lst s pre.length).map fq), x4, x5, x6, x7]) (evI_rn (ev_var rfl) (by omega)) ⟨_, _, _, _, rfl⟩ ?_ ?_
  · rintro pre i post Γ ei ⟨x4, x5, x6, x7, rfl⟩
    have hi' : i = pre.length := by
      have z : (List.range m)[pre.length]? = some i := by rw [ei]; simp
      have lm : pre.length < m := by
        have := congrArg List.length ei
        rw [List.length_range] at this
        simp at this
        omega
      rw [List.getElem?_eq_getElem (by rw [List.length_range]; exact lm)] at z
      simpa using z.symm
    have lm : i < m := List.mem_range.mp (by rw [ei]; simp)
    rw [← hi']
    have ll := lst_len s i
    have look : ∀ {j : Nat}, j ≤ i → ∀ {b : CE} {Γ : List Sl}, Γ[3]? = some (.own ((lst s i).map fq)) → ev E b Γ = .ok (.int (j : Nat)) → ev E (.oidx 3 b) Γ = .ok (fq (nev s j)) := fun {j} hj {b Γ} h3 hb => by
      refine ev_oidx h3 hb ?_
      have := idx_map fq (lst s i) j (by omega)
      have e : (lst s i)[j]'(by omega) = nev s j := by
        have := lst_at s (n := i) (j := j) hj
        rw [List.getD_eq_getElem?_getD, List.getElem?_eq_getElem (by omega)] at this
        simpa using this
      rw [e] at this
      exact this
    refine ⟨[.sh (dS s), .sh (.int (m : Nat)), .sh (fq (chof s 1)), .own ((lst s i).map fq), .sh (.int (i : Nat)), x5, x6, x7], rfl, ?_⟩
    refine wp_set (look (Nat.le_refl i) rfl (ev_var rfl)) (show 5 < 8 by decide) ?_
    refine wp_for (enc := pq) (xs := s) (fun pr Γ => ∃ x6 x7, Γ = [.sh (dS s), .sh (.int (m : Nat)), .sh (fq (chof s 1)), .own ((lst s i).map fq), .sh (.int (i : Nat)), .sh (fq (rst s i pr)), x6, x7]) (evI_lst (ev_var rfl)) ⟨x6, x7, by
      have : rst s i [] = nev s i := by
        unfold rst
        show nev s i - 0 = _
        grind
      rw [this]
      rfl⟩ ?_ ?_
    · rintro pr p po Γ ep ⟨x6, x7, rfl⟩
      have hp : p ∈ s := by rw [ep]; simp
      refine ⟨[.sh (dS s), .sh (.int (m : Nat)), .sh (fq (chof s 1)), .own ((lst s i).map fq), .sh (.int (i : Nat)), .sh (fq (rst s i pr)), .sh (.int p.1), .sh (fq p.2)], rfl, ?_⟩
      have cond : ev E (.chn .le .le (.neg (.var 4)) (.var 6) (.int 0)) [.sh (dS s), .sh (.int (m : Nat)), .sh (fq (chof s 1)), .own ((lst s i).map fq), .sh (.int (i : Nat)), .sh (fq (rst s i pr)), .sh (.int p.1), .sh (fq p.2)] = .ok (.bool (inR i p.1)) := by
        show (ev E (.neg (.var 4)) _).bind (fun x => (ev E (.var 6) _).bind fun y => (cmpB .le x y).bind fun k => if k = true then (ev E (.int 0) _).bind fun z => cmpD .le y z else .ok (.bool false)) = _
        rw [ev_neg (ev_var rfl), show ev E (.var 6) [.sh (dS s), .sh (.int (m : Nat)), .sh (fq (chof s 1)), .own ((lst s i).map fq), .sh (.int (i : Nat)), .sh (fq (rst s i pr)), .sh (.int p.1), .sh (fq p.2)] = .ok (.int p.1) from rfl]
        show (if decide (-(i : Int) ≤ p.1) = true then _ else _) = _
        unfold inR
        by_cases hle : -(i : Int) ≤ p.1
        · rw [decide_eq_true hle]
          rfl
        · rw [decide_eq_false hle]
          rfl
      have r1 := ws.rst sk (r := i) (pre := pr) (post := p :: po) ep
      have f := ws.fit t1 w1 (r := i) (by omega)
      have sb1 := r1.1.sb r1.2.1 r1.2.2 f
      refine wp_if cond (fun hr => ?_) (fun hr => wp_skip (wp_nil ⟨.sh (.int p.1), .sh (fq p.2), ?_⟩))
      · have hr' := hr
        unfold inR at hr'
        simp only [Bool.and_eq_true, decide_eq_true_eq] at hr'
        obtain ⟨j, hj⟩ : ∃ j : Nat, (i : Int) + p.1 = (j : Int) := ⟨((i : Int) + p.1).toNat, by omega⟩
        have hj2 : ((i : Int) + p.1).toNat = j := by omega
        have sn := g.nev h (r := j) (by omega)
        have et := ht p.2 (nev s j) (sp p hp) sn.sm
        have tm := ws.term sk (r := i) hp hr
        rw [hj2] at tm
        have tle : p.2 * nev s j ≤ 1 := by
          have a := ws.rst sk (r := i) (pre := pr ++ [p]) (post := po) (by rw [ep]; simp)
          rw [rst_snoc, if_pos hr, hj2] at a
          have b := r1.2.2
          have c := a.2.1
          grind
        have stm := tm.1.sb tm.2 tle f
        have em := hi (rst s i pr) (p.2 * nev s j) sb1.sm stm.sm
        refine wp_set (ev_call (evs_2 (ev_var rfl) (ev_call (evs_2 (ev_var rfl) (look (j := j) (by omega) rfl (by rw [← hj]; exact ev_add (ev_var rfl) (ev_var rfl)))) et)) em) (show 5 < 8 by decide) ?_
        refine wp_skip (wp_nil ⟨.sh (.int p.1), .sh (fq p.2), ?_⟩)
        rw [rst_snoc, if_pos hr, hj2]
        rfl
      · rw [rst_snoc, if_neg (by rw [hr]; exact Bool.false_ne_true)]
    · rintro Γ ⟨x6, x7, rfl⟩
      have ra := ws.rst sk (r := i) (pre := s) (post := []) (by simp)
      have f := ws.fit t1 w1 (r := i) (by omega)
      have sa := ra.1.sb ra.2.1 ra.2.2 f
      have eo := ho (rst s i s) (chof s 1) sa.sm sup une
      have nx : rst s i s / chof s 1 = nev s (i + 1) := by
        rw [rst_all sk]
        grind
      rw [nx] at eo
      refine wp_app (d := fq (nev s (i + 1))) rfl (ev_call (evs_2 (ev_var rfl) (ev_var rfl)) eo) (by rw [List.length_map, ll]; unfold most; omega) ?_
      refine wp_nil ⟨.sh (.int (i : Nat)), .sh (fq (rst s i s)), x6, x7, ?_⟩
      have : (pre ++ [i]).length = i + 1 := by rw [List.length_append, ← hi']; rfl
      rw [this, lst_eq s (i + 1), lst_eq s i, List.range_succ (n := i + 1), List.map_append, List.map_append]
      rfl
  · rintro Γ ⟨x4, x5, x6, x7, rfl⟩
    rw [List.length_range]
    refine wp_frz ?_
    exact wp_ret (d := .list ((lst s m).map fq)) (ev_var rfl) rfl
theorem ev_repQ {Γ : List Sl} {a b : CE} {q : Rat} {k : Nat} (h : ev E a Γ = .ok (fq q)) (h2 : ev E b Γ = .ok (.int (k : Nat))) (hk : k ≤ 1000) : ev E (.bin .mul (.lst (.cons a .nil)) b) Γ = .ok (.list ((List.replicate k q).map fq)) := by
  rw [List.map_replicate]
  exact ev_rep1 (ev_lst1 h) h2 hk
theorem t_ruins_ok {st kz ce ko c la mi : Nat} (hs : IsStill E st) (hc : IsCert E ce) (hl : IsLast E la) (hi : IsMinus E mi) (hz : E.G kz = some (fq 0)) (ho : E.G ko = some (fq 1)) :
    (∀ (s : List (Int × Rat)) (T w m : Nat), Gs s T w → m ≤ 205 → runF E (t_ruins st kz ce ko c la mi) [dS s, .int (m : Nat)] = .ok (.list ((ruL s m).map fq))) ∧ ∀ (s : List (Int × Rat)) (T m : Nat), Bs s T → m ≤ 205 → runF E (t_ruins st kz ce ko c la mi) [dS s, .int (m : Nat)] = .error (some c) := by
  have anyb : ∀ (s : List (Int × Rat)) (m : Nat), s.length ≤ 60 → ev E (.blt .any (.cons (.lc [3, 4] (.tp [3, 4]) (.of (.var 0)) .nil (.cmp .gt (.var 3) (.int 1))) .nil)) [.sh (dS s), .sh (.int (m : Nat)), .non, .non, .non] = .ok (.bool ((s.map fun p => decide (p.1 > 1)).any id)) := fun s m hl => by
    refine ev_any ?_
    have z := evF_lc (E := E) (Γ := [.sh (dS s), .sh (.int (m : Nat)), .non, .non, .non]) (enc := pq) (g := fun p => PyData.bool (decide (p.1 > 1))) (xs := s) (vs := [3, 4]) (tg := .tp [3, 4]) (it := .of (.var 0)) (el := .cmp .gt (.var 3) (.int 1)) (evI_lst (ev_var rfl)) (by unfold most; omega) (fun p hp => ⟨[.sh (dS s), .sh (.int (m : Nat)), .non, .sh (.int p.1), .sh (fq p.2)], rfl, ev_cmp (ev_var rfl) ev_int rfl⟩)
    rw [List.map_map]
    exact ev_lc z
  refine ⟨fun s T w m g hm => ?_, fun s T m b hm => ?_⟩
  · refine run_wp rfl ?_
    show Wp E (t_ruins st kz ce ko c la mi).body [.sh (dS s), .sh (.int (m : Nat)), .non, .non, .non] _
    have l1 : ∀ {Γ : List Sl}, Γ[1]? = some (.sh (.int (m : Nat))) → ev E (.bin .add (.var 1) (.int 1)) Γ = .ok (.int ((m + 1 : Nat) : Int)) := fun h => by rw [Int.natCast_add]; exact ev_add (ev_var h) ev_int
    refine wp_if (ev_call (evs_1 (ev_var rfl)) (hs s)) (fun h => ?_) (fun h => wp_skip ?_)
    · refine wp_ret (ev_repQ (q := 0) (ev_glob hz) (l1 rfl) (by omega)) ?_
      unfold ruL
      rw [if_pos h]
      rfl
    · refine wp_if (ev_call (evs_1 (ev_var rfl)) (hc s T g.ms)) (fun h2 => ?_) (fun h2 => wp_skip ?_)
      · rw [h] at h2
        refine wp_ret (ev_repQ (q := 1) (ev_glob ho) (l1 rfl) (by omega)) ?_
        unfold ruL
        rw [if_neg (by rw [h]; exact Bool.false_ne_true), if_neg (by simpa using h2)]
        rfl
      · rw [h] at h2
        have hm0 : 0 < mn s := by simpa using h2
        obtain ⟨sk, ws⟩ := g.ok hm0
        have no : (s.map fun p => decide (p.1 > 1)).any id = false := by
          rw [List.any_eq_false]
          intro b hb
          obtain ⟨p, hp, rfl⟩ := List.mem_map.mp hb
          have := sk.le p hp
          simp
          omega
        have ab := anyb s m g.ms.len
        rw [no] at ab
        refine wp_iff0 ab ?_
        refine wp_ret (d := .list ((ruL s m).map fq)) ?_ rfl
        have er : ruL s m = (lst s m).map fun q => 1 - q := by
          unfold ruL
          rw [if_neg (by rw [h]; exact Bool.false_ne_true), if_pos hm0]
        rw [er, List.map_map]
        refine ev_lc (evF_lc (enc := fq) (xs := lst s m) (evI_lst (ev_call (evs_2 (ev_var rfl) (ev_var rfl)) (hl s T w m g hm0 hm))) (by rw [lst_len]; unfold most; omega) fun q hq => ⟨[.sh (dS s), .sh (.int (m : Nat)), .sh (fq q), .non, .non], rfl, ?_⟩)
        rw [lst_eq] at hq
        obtain ⟨j, hj, rfl⟩ := List.mem_map.mp hq
        have hj := List.mem_range.mp hj
        exact ev_call (evs_2 (ev_glob ho) (ev_var rfl)) (hi 1 (nev s j) Sm.one (g.nev hm0 (by omega)).sm)
  · refine run_wp rfl ?_
    show Wp E (t_ruins st kz ce ko c la mi).body [.sh (dS s), .sh (.int (m : Nat)), .non, .non, .non] _
    have hst := hs s
    rw [b.ns] at hst
    have hce := hc s T b.ms
    rw [b.ns, decide_eq_true b.m] at hce
    have yes : (s.map fun p => decide (p.1 > 1)).any id = true := by
      obtain ⟨p, hp, h1⟩ := b.big
      rw [List.any_eq_true]
      exact ⟨_, List.mem_map.mpr ⟨p, hp, rfl⟩, by simpa using h1⟩
    have ab := anyb s m b.ms.len
    rw [yes] at ab
    exact wp_iff0 (ev_call (evs_1 (ev_var rfl)) hst) (wp_iff0 (ev_call (evs_1 (ev_var rfl)) hce) (wp_ift ab (wp_raise rfl)))
theorem t_exact_ok {km c ru : Nat} (hr : IsRuins E ru c) (hk : E.G km = some (.int 200)) :
    (∀ (s : List (Int × Rat)) (T w r : Nat), Gs s T w → r ≤ 200 → runF E (t_exact_ruin km c ru) [dS s, .int (r : Nat)] = .ok (fq (ruin s r))) ∧ (∀ (s : List (Int × Rat)) (T r : Nat), Bs s T → r ≤ 200 → runF E (t_exact_ruin km c ru) [dS s, .int (r : Nat)] = .error (some c)) ∧
    (∀ (s : List (Int × Rat)) (r : Int), (r < 0 ∨ 200 < r) → runF E (t_exact_ruin km c ru) [dS s, .int r] = .error (some c)) := by
  have cond : ∀ (s : List (Int × Rat)) (r : Int), ev E (.not (.chn .le .le (.int 0) (.var 1) (.glob km))) [.sh (dS s), .sh (.int r)] = .ok (.bool (!(decide (0 ≤ r) && decide (r ≤ 200)))) := fun s r => by
    refine ev_not ?_
    show (ev E (.int 0) _).bind (fun x => (ev E (.var 1) _).bind fun y => (cmpB .le x y).bind fun k => if k = true then (ev E (.glob km) _).bind fun z => cmpD .le y z else .ok (.bool false)) = _
    rw [ev_glob hk]
    show (if decide (0 ≤ r) = true then _ else _) = _
    by_cases h : 0 ≤ r
    · rw [decide_eq_true h]
      rfl
    · rw [decide_eq_false h]
      rfl
  refine ⟨fun s T w r g h => ?_, fun s T r b h => ?_, fun s r h => ?_⟩
  · refine run_wp rfl ?_
    have c1 := cond s (r : Int)
    rw [decide_eq_true (show (0 : Int) ≤ (r : Int) by omega), decide_eq_true (show (r : Int) ≤ 200 by omega)] at c1
    refine wp_iff0 c1 ?_
    refine wp_ret (ev_idxm (enc := fq) (xs := ruL s r) (k := r) (ev_call (evs_2 (ev_var rfl) (ev_var rfl)) (hr.ok s T w r g (by omega))) (ev_var rfl) (by rw [ruL_eq, List.length_map, List.length_range]; omega)) ?_
    show Except.ok (fq _) = _
    congr 2
    have : (ruL s r)[r]? = some (ruin s r) := by rw [ruL_eq, List.getElem?_map, List.getElem?_range (by omega)]; rfl
    obtain ⟨h1, h2⟩ := List.getElem?_eq_some_iff.mp this
    exact h2
  · refine run_wp rfl ?_
    have c1 := cond s (r : Int)
    rw [decide_eq_true (show (0 : Int) ≤ (r : Int) by omega), decide_eq_true (show (r : Int) ≤ 200 by omega)] at c1
    refine wp_iff0 c1 ?_
    have e : ex E (.ret (.idx (.call ru (.cons (.var 0) (.cons (.var 1) .nil))) (.var 1))) [.sh (dS s), .sh (.int (r : Nat))] = .xc c [.sh (dS s), .sh (.int (r : Nat))] := by
      show ofR ((ev E (.call ru (.cons (.var 0) (.cons (.var 1) .nil))) _).bind _) _ _ = _
      rw [ev_callX (evs_2 (ev_var rfl) (ev_var rfl)) (hr.bad s T r b (by omega))]
      rfl
    exact wp_xc e rfl
  · refine run_wp rfl ?_
    have c1 := cond s r
    have : (!(decide (0 ≤ r) && decide (r ≤ 200))) = true := by
      rcases h with h | h
      · rw [decide_eq_false (show ¬ 0 ≤ r by omega)]
        rfl
      · rw [decide_eq_false (show ¬ r ≤ 200 by omega), Bool.and_false]
        rfl
    rw [this] at c1
    exact wp_ift c1 (wp_raise rfl)
theorem enum_range (g : Nat → D) : ∀ m k : Nat, enumD k ((List.range' k m).map g) = (List.range' k m).map fun i : Nat => PyData.tuple [.int (i : Nat), g i]
  | 0, k => rfl
  | m + 1, k => by
    rw [List.range'_succ, List.map_cons, List.map_cons]
    unfold enumD
    rw [enum_range g m (k + 1)]
theorem t_least_ok {le ru km c d : Nat} (hl : IsLess E le) (hr : IsRuins E ru c) (hk : E.G km = some (.int 200)) :
    (∀ (s : List (Int × Rat)) (T w r : Nat) (b : Rat), Gs s T w → Sm b → r ≤ 200 → (∀ j, j < r → b < ruin s j) → ¬ b < ruin s r → runF E (t_least_reserve le ru km d) [dS s, fq b] = .ok (.int (r : Nat))) ∧
    (∀ (s : List (Int × Rat)) (T w : Nat) (b : Rat), Gs s T w → Sm b → (∀ j, j ≤ 200 → b < ruin s j) → runF E (t_least_reserve le ru km d) [dS s, fq b] = .error (some d)) ∧
    (∀ (s : List (Int × Rat)) (T : Nat) (b : Rat), Bs s T → runF E (t_least_reserve le ru km d) [dS s, fq b] = .error (some c)) := by
  have it : ∀ (s : List (Int × Rat)) (T w : Nat) (b : Rat), Gs s T w → evI E (.en (.call ru (.cons (.var 0) (.cons (.glob km) .nil)))) [.sh (dS s), .sh (fq b), .non, .non] = .ok ((List.range 201).map fun i : Nat => PyData.tuple [.int (i : Nat), fq (ruin s i)]) := fun s T w b g => by
    show (ev E _ _).bind (fun x => (asList x).bind fun xs => .ok (enumD 0 xs)) = _
    rw [ev_call (evs_2 (ev_var rfl) (ev_glob hk)) (hr.ok s T w 200 g (by decide)), ruL_eq, List.map_map]
    show Except.ok (enumD 0 ((List.range 201).map (fq ∘ ruin s))) = _
    rw [List.range_eq_range', enum_range (fq ∘ ruin s) 201 0]
    rfl
  refine ⟨fun s T w r b g sb h1 h2 h3 => ?_, fun s T w b g sb h2 => ?_, fun s T b hb => ?_⟩
  · refine run_wp rfl ?_
    refine wp_for (enc := fun i : Nat => PyData.tuple [.int (i : Nat), fq (ruin s i)]) (xs := List.range 201) (fun pre Γ => ∃ x2 x3, Γ = [.sh (dS s), .sh (fq b), x2, x3] ∧ pre.length ≤ r) (it s T w b g) ⟨_, _, rfl, Nat.zero_le _⟩ ?_ ?_
    · rintro pre i post Γ ei ⟨x2, x3, rfl, hp⟩
      have hi : i = pre.length := by
        have z : (List.range 201)[pre.length]? = some i := by rw [ei]; simp
        have lm : pre.length < 201 := by omega
        rw [List.getElem?_eq_getElem (by rw [List.length_range]; exact lm)] at z
        simpa using z.symm
      refine ⟨[.sh (dS s), .sh (fq b), .sh (.int (i : Nat)), .sh (fq (ruin s i))], rfl, ?_⟩
      have el := ev_not (ev_call (E := E) (Γ := [.sh (dS s), .sh (fq b), .sh (.int (i : Nat)), .sh (fq (ruin s i))]) (es := .cons (.var 1) (.cons (.var 3) .nil)) (evs_2 (ev_var rfl) (ev_var rfl)) (hl b (ruin s i) sb (g.ruin (by omega)).sm))
      by_cases hlt : b < ruin s i
      · rw [decide_eq_true hlt] at el
        refine wp_iff0 el (wp_nil ⟨_, _, rfl, ?_⟩)
        rw [List.length_append]
        have : i ≠ r := fun e => h3 (e ▸ hlt)
        show pre.length + 1 ≤ r
        omega
      · rw [decide_eq_false hlt] at el
        refine wp_ift el (wp_ret (d := .int (i : Nat)) (ev_var rfl) ?_)
        have : i = r := by
          refine Nat.le_antisymm (by omega) (Nat.le_of_not_lt fun h => hlt (h2 i h))
        rw [this]
        rfl
    · rintro Γ ⟨x2, x3, rfl, hp⟩
      rw [List.length_range] at hp
      omega
  · refine run_wp rfl ?_
    refine wp_for (enc := fun i : Nat => PyData.tuple [.int (i : Nat), fq (ruin s i)]) (xs := List.range 201) (fun pre Γ => ∃ x2 x3, Γ = [.sh (dS s), .sh (fq b), x2, x3]) (it s T w b g) ⟨_, _, rfl⟩ ?_ ?_
    · rintro pre i post Γ ei ⟨x2, x3, rfl⟩
      have hi : i < 201 := List.mem_range.mp (by rw [ei]; simp)
      refine ⟨[.sh (dS s), .sh (fq b), .sh (.int (i : Nat)), .sh (fq (ruin s i))], rfl, ?_⟩
      have el := ev_not (ev_call (E := E) (Γ := [.sh (dS s), .sh (fq b), .sh (.int (i : Nat)), .sh (fq (ruin s i))]) (es := .cons (.var 1) (.cons (.var 3) .nil)) (evs_2 (ev_var rfl) (ev_var rfl)) (hl b (ruin s i) sb (g.ruin (by omega)).sm))
      rw [decide_eq_true (h2 i (by omega))] at el
      exact wp_iff0 el (wp_nil ⟨_, _, rfl⟩)
    · rintro Γ ⟨x2, x3, rfl⟩
      exact wp_raise rfl
  · refine run_wp rfl ?_
    refine wp_for_xc (c := c) ?_ rfl
    show (ev E (.call ru (.cons (.var 0) (.cons (.glob km) .nil))) [.sh (dS s), .sh (fq b), .non, .non]).bind _ = _
    rw [ev_callX (evs_2 (ev_var rfl) (ev_glob hk)) (hr.bad s T 200 hb (by decide))]
    rfl
end
end Dee

set_option maxRecDepth 1000000
set_option maxHeartbeats 4000000
set_option exponentiation.threshold 5000
/-! Dee, part 52: rules; the spreads of the later laws. -/
namespace Dee
open PySem PySem.Spec L2 PyProof.Rows
section
variable {E : Evn} {Γ : List Sl} {ss : CSs} {Q : Out → Prop}
theorem exs_ret {e : CE} {d : D} (h : ev E e Γ = .ok d) : exs E (.cons (.ret e) ss) Γ = .rt d := wp_ret (Q := fun o => o = .rt d) h rfl
theorem exs_rx {e : CE} {c : Nat} (h : ev E e Γ = .error (some c)) : exs E (.cons (.ret e) ss) Γ = .xc c Γ := wp_xc (Q := fun o => o = .xc c Γ) (s := .ret e) (Γ' := Γ) (by
  show ofR (ev E e Γ) Γ _ = _
  rw [h]
  rfl) rfl
theorem ev_it {c a b : CE} {r : R} (h : ev E c Γ = .ok (.bool true)) (h2 : ev E a Γ = r) : ev E (.ife c a b) Γ = r := by
  show (ev E c Γ).bind _ = _
  rw [h]
  exact h2
theorem ev_el {c a b : CE} {r : R} (h : ev E c Γ = .ok (.bool false)) (h2 : ev E b Γ = r) : ev E (.ife c a b) Γ = r := by
  show (ev E c Γ).bind _ = _
  rw [h]
  exact h2
theorem ev_ifb {c a b : CE} {t : Bool} {x y : Int} (h : ev E c Γ = .ok (.bool t)) (h1 : ev E a Γ = .ok (.int x)) (h2 : ev E b Γ = .ok (.int y)) : ev E (.ife c a b) Γ = .ok (.int (if t = true then x else y)) := by
  cases t with
  | true => exact ev_it h h1
  | false => exact ev_el h h2
theorem ev_dv {a b : CE} {x y : Int} (h : ev E a Γ = .ok (.int x)) (h2 : ev E b Γ = .ok (.int y)) (hy : 0 < y) (hb : y < 1000000000000) : ev E (.bin .fdiv a b) Γ = .ok (.int (x / y)) := ev_bin h h2 (b_div hy (bd_small (Nat.lt_of_lt_of_le (show y.natAbs < 1000000000000 by omega) (by decide))))
theorem ev_md {a b : CE} {x y : Int} (h : ev E a Γ = .ok (.int x)) (h2 : ev E b Γ = .ok (.int y)) (hy : 0 < y) : ev E (.bin .mod a b) Γ = .ok (.int (x % y)) := ev_bin h h2 (b_mod hy)
theorem ev_ml {a b : CE} {x y : Int} (h : ev E a Γ = .ok (.int x)) (h2 : ev E b Γ = .ok (.int y)) (hx : x.natAbs < 1000000000) (hy : y.natAbs < 1000000000) : ev E (.bin .mul a b) Γ = .ok (.int (x * y)) :=
  ev_bin h h2 (b_mul (mul_ok (Nat.lt_of_lt_of_le hx (Nat.le_trans (show 1000000000 ≤ 2 ^ 30 by decide) (pow_lt_pow (by decide)))) (Nat.lt_of_lt_of_le hy (Nat.le_trans (show 1000000000 ≤ 2 ^ 30 by decide) (pow_lt_pow (by decide))))))
theorem evF_srt {a : CE} {ns : List Int} (h : ev E a Γ = .ok (.list (ns.map .int))) : evF E (.blt .sorted (.cons a .nil)) Γ = .ok ((sortI ns).map .int) := by
  show (evs E (.cons a .nil) Γ).bind (fun ds => bltF .sorted ds) = _
  rw [evs_1 h]
  show (asInts (ns.map PyData.int)).map _ = _
  rw [asInts_map]
  rfl
theorem evF_ls {es : CEs} {ds : List D} (h : evs E es Γ = .ok ds) (hl : ds.length ≤ 1000) : evF E (.lst es) Γ = .ok ds := by
  show (evs E es Γ).bind (fun ds => if ds.length ≤ most then .ok ds else unk) = _
  rw [h]
  exact if_pos (by unfold most; omega)
theorem ev_l1i {a : CE} {x : Int} (h : ev E a Γ = .ok (.int x)) : ev E (.lst (.cons a .nil)) Γ = .ok (.list ([x].map .int)) := ev_lst1 h
theorem ev_andb {a b : CE} {x y : Bool} (h : ev E a Γ = .ok (.bool x)) (h2 : ev E b Γ = .ok (.bool y)) : ev E (.and a (.one b)) Γ = .ok (.bool (x && y)) := by
  cases x with
  | true => exact ev_andt h (ev_one h2)
  | false => exact ev_andf h
theorem ev_orb {a b : CE} {x y : Bool} (h : ev E a Γ = .ok (.bool x)) (h2 : ev E b Γ = .ok (.bool y)) : ev E (.or a (.one b)) Γ = .ok (.bool (x || y)) := by
  cases x with
  | true => exact ev_ort h
  | false => exact ev_orf h (ev_one h2)
theorem ev_oix {i : Nat} {b : CE} {ns : List Int} {j : Nat} (hg : Γ[i]? = some (.own (ns.map .int))) (h : ev E b Γ = .ok (.int (j : Nat))) (hj : j < ns.length) : ev E (.oidx i b) Γ = .ok (.int (ns.getD j 0)) := by
  refine ev_oidx hg h ?_
  have := idx_map PyData.int ns j hj
  rw [getD_at hj 0] at this
  exact this
theorem ev_xx {a b : CE} {ns : List Int} {j : Nat} (hg : ev E a Γ = .ok (.list (ns.map .int))) (h : ev E b Γ = .ok (.int (j : Nat))) (hj : j < ns.length) : ev E (.idx a b) Γ = .ok (.int (ns.getD j 0)) := by
  rw [← getD_at hj 0]
  exact ev_idxm hg h hj
end
def okY (ys : List Int) (n : Nat) (b : Int) : Prop := ys.length = n ∧ ∀ y ∈ ys, 0 ≤ y ∧ y < b
theorem okY.at {ys : List Int} {n i : Nat} {b : Int} (h : okY ys n b) (hi : i < n) : 0 ≤ ys.getD i 0 ∧ ys.getD i 0 < b := by
  have hi2 : i < ys.length := by rw [h.1]; exact hi
  rw [← getD_at hi2 0]
  exact h.2 _ (List.getElem_mem hi2)
theorem pos_sum : ∀ {ws : List Int}, (∀ w ∈ ws, 0 < w) → 0 ≤ ws.sum ∧ ∀ w ∈ ws, w ≤ ws.sum
  | [], _ => ⟨by decide, fun w h => by simp at h⟩
  | x :: ws, h => by
    obtain ⟨a, b⟩ := pos_sum (ws := ws) fun w hw => h w (List.mem_cons_of_mem _ hw)
    have c := h x List.mem_cons_self
    rw [List.sum_cons]
    refine ⟨by omega, fun w hw => ?_⟩
    rcases List.mem_cons.mp hw with rfl | hw
    · omega
    · have := b w hw
      omega
theorem mem_wts {vs ws : List Int} {T : Int} {p : Int × Rat} (h : p ∈ wts vs ws T) : p.1 ∈ vs ∧ ∃ w ∈ ws, p.2 = (w : Rat) / (T : Rat) := by
  unfold wts at h
  obtain ⟨⟨v, w⟩, hq, rfl⟩ := List.mem_map.mp h
  exact ⟨(List.of_mem_zip hq).1, w, (List.of_mem_zip hq).2, rfl⟩
theorem wts_fst : ∀ {vs ws : List Int} (T : Int), vs.length = ws.length → (wts vs ws T).map (·.1) = vs
  | [], ws, T, h => rfl
  | v :: vs, [], T, h => by simp at h
  | v :: vs, w :: ws, T, h => by
    have := wts_fst (vs := vs) (ws := ws) T (by simpa using h)
    unfold wts at this ⊢
    rw [List.zip_cons_cons, List.map_cons, List.map_cons, this]
/-- a spread over values in order, with parts from 1 to 4 -/
structure SpB (s : List (Int × Rat)) (vs : List Int) (T : Nat) : Prop where
  fst : s.map (·.1) = vs
  spr : Spr s
  T0 : 0 < T
  Tn : T ≤ 4 * vs.length
  qn : ∀ p ∈ s, QN T T p.2
theorem SpB.len {s : List (Int × Rat)} {vs : List Int} {T : Nat} (h : SpB s vs T) : s.length = vs.length := by rw [← h.fst, List.length_map]
theorem SpB.mem {s : List (Int × Rat)} {vs : List Int} {T : Nat} (h : SpB s vs T) {p : Int × Rat} (hp : p ∈ s) : p.1 ∈ vs := by rw [← h.fst]; exact List.mem_map.mpr ⟨p, hp, rfl⟩
theorem SpB.of {vs ws : List Int} (asc : vs.Pairwise (· < ·)) (hl : vs.length = ws.length) (ne : 0 < vs.length) (hw : ∀ w ∈ ws, 0 < w ∧ w ≤ 4) : SpB (wts vs ws ws.sum) vs ws.sum.toNat := by
  obtain ⟨a, b⟩ := pos_sum fun w h => (hw w h).1
  have sb := sum_bd hw
  have T0 : 0 < ws.sum := by omega
  have tc : (ws.sum : Rat) = ((ws.sum.toNat : Nat) : Rat) := by
    rw [show ((ws.sum.toNat : Nat) : Rat) = (((ws.sum.toNat : Nat) : Int) : Rat) from rfl, Int.toNat_of_nonneg (by omega)]
  have tne : (ws.sum : Rat) ≠ 0 := by
    rw [tc]
    exact natCast_ne (by omega)
  have one : tot (wts vs ws ws.sum) = 1 := by
    rw [tot_wts hl (by omega)]
    grind
  refine ⟨wts_fst _ hl, ⟨?_, fun p hp => ?_, one⟩, by omega, by omega, wts_QN T0 fun w h => ?_⟩
  · rw [← wts_fst (ws := ws) ws.sum hl, List.pairwise_map] at asc
    exact asc
  · obtain ⟨_, w, h, e⟩ := mem_wts hp
    have z := (hw w h).1
    have n0 := rat_div_pos (w := w) (T := ws.sum) (by omega) T0
    rw [e]
    have c : (w : Rat) / (ws.sum : Rat) ≠ 0 := fun z => by
      have : (w : Rat) = 0 := by
        have : (w : Rat) = (w : Rat) / (ws.sum : Rat) * (ws.sum : Rat) := by grind
        rw [this, z]
        exact Rat.zero_mul _
      have : w = 0 := Rat.intCast_inj.mp (by rw [this]; rfl)
      omega
    grind
  · have z := hw w h
    have := b w h
    omega
def IsSprB (E : Evn) (n : Nat) : Prop := ∀ (d : Int) (vs : List Int), vs.Pairwise (· < ·) → 0 < vs.length → vs.length ≤ 60 → ∃ s : List (Int × Rat), (∃ T, SpB s vs T) ∧ E.F n [.int d, .list (vs.map .int)] = .ok (dS s)
theorem den_le {t l : Int} (hl : 0 < l) : ((t : Rat) / (l : Rat)).den ≤ l.toNat := by
  have q : QN l.toNat t.natAbs ((t : Rat) / (l : Rat)) := QN.frac hl (Nat.le_refl _)
  exact q.le.2
theorem frb {E : Evn} {n : Nat} (hf : IsFracB E n) {t l : Int} (hl : 0 < l) (h2 : l < 100000) : E.F n [.int t, .int l] = .ok (fq ((t : Rat) / (l : Rat))) :=
  hf t l hl (bd_small (Nat.lt_of_lt_of_le (show l.natAbs < 100000 by omega) (by decide))) (Nat.lt_of_le_of_lt (den_le hl) (Nat.lt_of_lt_of_le (show l.toNat < 2 ^ 17 from Nat.lt_of_lt_of_le (show l.toNat < 100000 by omega) (by decide)) (pow_lt_pow (by decide))))
theorem t_law_spreadb_ok {E : Evn} {f : Nat} (hf : IsFracB E f) (d : Int) {vs : List Int} (asc : vs.Pairwise (· < ·)) (ne : 0 < vs.length) (hn : vs.length ≤ 60) : ∃ s : List (Int × Rat), (∃ T, SpB s vs T) ∧ runF E (t_law_spreadb f) [.int d, .list (vs.map .int)] = .ok (dS s) := by
  obtain ⟨pf, hpf⟩ : ∃ pf : Nat → Int, pf = fun k : Nat => 1 + d / (3 * (k : Int) + 2) % 4 := ⟨_, rfl⟩
  have pfb : ∀ k, 0 < pf k ∧ pf k ≤ 4 := fun k => by rw [hpf]; show 0 < 1 + _ % 4 ∧ 1 + _ % 4 ≤ 4; omega
  obtain ⟨ws, hws⟩ : ∃ ws, ws = (List.range vs.length).map pf := ⟨_, rfl⟩
  have wl : ws.length = vs.length := by rw [hws]; simp
  have wb : ∀ w ∈ ws, 0 < w ∧ w ≤ 4 := fun w hw => by
    rw [hws] at hw
    obtain ⟨k, _, rfl⟩ := List.mem_map.mp hw
    exact pfb k
  have sp := SpB.of asc wl.symm ne wb
  have sb := sum_bd wb
  refine ⟨_, ⟨_, sp⟩, run_wp rfl ?_⟩
  show Wp E (t_law_spreadb f).body [.sh (.int d), .sh (.list (vs.map .int)), .non, .non] _
  have ln : ∀ {Γ : List Sl}, Γ[1]? = some (.sh (.list (vs.map .int))) → ev E (.blt .len (.cons (.var 1) .nil)) Γ = .ok (.int (vs.length : Nat)) := fun h => by
    have z := ev_len (E := E) (ev_var h)
    rw [List.length_map] at z
    exact z
  have z := evF_lc (E := E) (Γ := [.sh (.int d), .sh (.list (vs.map .int)), .non, .non]) (enc := fun i : Nat => PyData.int (i : Nat)) (g := fun i : Nat => PyData.int (pf i)) (xs := List.range vs.length) (vs := [3]) (tg := .nm 3) (it := .r1 (.blt .len (.cons (.var 1) .nil)))
    (el := .bin .add (.int 1) (.bin .mod (.bin .fdiv (.var 0) (.bin .add (.bin .mul (.int 3) (.var 3)) (.int 2))) (.int 4))) (evI_rn (ln rfl) (by omega)) (by rw [List.length_range]; unfold most; omega) (fun x hx => ⟨[.sh (.int d), .sh (.list (vs.map .int)), .non, .sh (.int (x : Nat))], rfl, by
      have hx := List.mem_range.mp hx
      rw [hpf]
      exact ev_add ev_int (ev_md (ev_dv (ev_var rfl) (ev_add (ev_ml ev_int (ev_var rfl) (by decide) (by omega)) ev_int) (by omega) (by omega)) ev_int (by decide))⟩)
  rw [show (List.range vs.length).map (fun i : Nat => PyData.int (pf i)) = ws.map .int by rw [hws, List.map_map]; rfl] at z
  refine wp_set (ev_lc z) (show 2 < 4 by decide) ?_
  show Wp E _ [.sh (.int d), .sh (.list (vs.map .int)), .sh (.list (ws.map .int)), .non] _
  have z2 := evF_lc (E := E) (Γ := [.sh (.int d), .sh (.list (vs.map .int)), .sh (.list (ws.map .int)), .non]) (enc := fun i : Nat => PyData.int (i : Nat)) (g := fun i : Nat => pq (vs.getD i 0, ((ws.getD i 0 : Int) : Rat) / (ws.sum : Rat))) (xs := List.range vs.length) (vs := [3]) (tg := .nm 3) (it := .r1 (.blt .len (.cons (.var 1) .nil)))
    (el := .tup (.cons (.idx (.var 1) (.var 3)) (.cons (.call f (.cons (.idx (.var 2) (.var 3)) (.cons (.blt .sum (.cons (.var 2) .nil)) .nil))) .nil))) (evI_rn (ln rfl) (by omega)) (by rw [List.length_range]; unfold most; omega) (fun x hx => ⟨[.sh (.int d), .sh (.list (vs.map .int)), .sh (.list (ws.map .int)), .sh (.int (x : Nat))], rfl, by
      have hx := List.mem_range.mp hx
      exact ev_tup2 (ev_xx (ev_var rfl) (ev_var rfl) hx) (ev_call (evs_2 (ev_xx (ev_var rfl) (ev_var rfl) (by omega)) (ev_sum (ev_var rfl))) (frb hf (by omega) (by omega)))⟩)
  have e2 : ((List.range vs.length).map fun i : Nat => pq (vs.getD i 0, ((ws.getD i 0 : Int) : Rat) / (ws.sum : Rat))) = (wts vs ws ws.sum).map pq := by
    unfold wts
    rw [← zip_at vs ws wl.symm, List.map_map, List.map_map]
    apply List.map_congr_left
    intro i _
    simp only [Function.comp]
  rw [e2] at z2
  exact wp_ret (d := dS (wts vs ws ws.sum)) (ev_lc z2) rfl
end Dee

set_option maxRecDepth 1000000
set_option maxHeartbeats 4000000
/-! Dee, part 53: the houses of the later laws. -/
namespace Dee
open PySem PySem.Spec L2 PyProof.Rows
structure LB (fu gr : Bool) (s : List (Int × Rat)) : Prop where
  sp : ∃ vs T, SpB s vs T ∧ vs.length ≤ 4 ∧ (∀ v ∈ vs, 0 ≤ v ∧ v ≤ 60) ∧ (fu = true → vs.length ≤ 2 ∧ ∀ v ∈ vs, v ≤ 4) ∧ (gr = false → ∀ v ∈ vs, v ≤ 8)
structure WB (fu gr : Bool) (cnt : Nat) (w : Wtr) : Prop where
  p : 0 ≤ w.prem ∧ w.prem < 25
  n : w.lines.length ≤ 3 ∧ (fu = false → w.lines.length ≤ 2)
  l : ∀ s ∈ w.lines, LB fu gr s
  t : ∃ vs T, SpB w.turns vs T ∧ (∀ v ∈ vs, 0 ≤ v ∧ v < (cnt : Int)) ∧ vs.length ≤ cnt
structure TB (t : Int × List Layer) : Prop where
  p : 0 ≤ t.1 ∧ t.1 < 3
  l : ∀ l ∈ t.2, LOk l
  n : t.2.length ≤ 4
structure HB (fu gr : Bool) (h : Hs) : Prop where
  n : 0 < h.1.length ∧ h.1.length ≤ 4 ∧ (fu = false → h.1.length ≤ 3) ∧ (gr = true → h.1.length = 1)
  w : ∀ w ∈ h.1, WB fu gr h.1.length w
  m : 0 < h.2.length ∧ h.2.length ≤ 4
  t : ∀ t ∈ h.2, TB t
def IsHB (E : Evn) (n : Nat) : Prop := ∀ c m : Nat, ∃ h : Hs, (∃ fu gr, HB fu gr h) ∧ E.F n [.int (c : Nat), .int (m : Nat)] = .ok (dH h)
theorem LB.shw {fu gr : Bool} {s : List (Int × Rat)} (h : LB fu gr s) : Shw (dS s) 3 24000 := by
  obtain ⟨vs, T, sp, l, b, _, _⟩ := h.sp
  have t := sp.Tn
  exact (Shw.dS (D := T) (N := T) (V := 1000) (n := 4) sp.qn (fun p hp => by have := b _ (sp.mem hp); omega) (shl_s (by omega)) (shl_s (by omega)) (shl_s (by decide)) (by rw [sp.len]; exact l)).mono (by decide) (by decide)
theorem WB.shw {fu gr : Bool} {cnt : Nat} {w : Wtr} (h : WB fu gr cnt w) (hc : cnt ≤ 4) : Shw (dW w) 5 250000 := by
  obtain ⟨vs, T, sp, b, l⟩ := h.t
  have t := sp.Tn
  have n := h.n.1
  have a := (Shw.int (i := w.prem) (shl_s (by have := h.p; omega))).mono (k' := 4) (n' := 80000) (by decide) (by decide)
  have c := ((Shw.list (enc := dS) (xs := w.lines) (k := 3) (n := 24000) fun s hs => (h.l s hs).shw).mono (k' := 4) (n' := 80000) (by decide) (by have : w.lines.length * 24002 ≤ 3 * 24002 := Nat.mul_le_mul_right _ n; omega))
  have d := (Shw.dS (s := w.turns) (D := T) (N := T) (V := 1000) (n := 4) sp.qn (fun p hp => by have := b _ (sp.mem hp); omega) (shl_s (by omega)) (shl_s (by omega)) (shl_s (by decide)) (by rw [sp.len]; omega)).mono (k' := 4) (n' := 60000) (by decide) (by decide)
  exact (Shw.tup (xs := [.int w.prem, .list (w.lines.map dS), dS w.turns]) (k := 4) (n := 80000) fun x hx => by
    simp only [List.mem_cons, List.not_mem_nil, or_false] at hx
    rcases hx with rfl | rfl | rfl
    · exact a
    · exact c
    · exact d.mono (Nat.le_refl _) (by decide)).mono (by decide) (by show 3 * 80002 + 3 ≤ 250000; decide)
theorem HB.shw {fu gr : Bool} {h : Hs} (H : HB fu gr h) : Shw (dH h) 7 3000000 := by
  have a := (Shw.list (enc := dW) (xs := h.1) (k := 5) (n := 250000) fun w hw => (H.w w hw).shw H.n.2.1).mono (k' := 6) (n' := 1100000) (by decide) (by have : h.1.length * 250002 ≤ 4 * 250002 := Nat.mul_le_mul_right _ H.n.2.1; omega)
  have b := (Shw.list (enc := dT) (xs := h.2) (k := 4) (n := 40000) fun t ht => Shw.dT (shl_s' t (H.t t ht)) (H.t t ht).l (by have := (H.t t ht).n; omega)).mono (k' := 6) (n' := 1100000) (by decide) (by have : h.2.length * 40002 ≤ 4 * 40002 := Nat.mul_le_mul_right _ H.m.2; omega)
  exact (Shw.tup2 a b).mono (by decide) (by decide)
where shl_s' (t : Int × List Layer) (h : TB t) : t.1.natAbs < 1000000000 := by have := h.p; omega
section
variable {E : Evn} {f g k : Nat}
theorem ev_idx_n {Γ : List Sl} {i : Nat} {a : CE} {zs : List Int} {x : Int} {n : Nat} (h : Γ[i]? = some (.sh (.list (zs.map .int)))) (h2 : ev E a Γ = .ok (.int x)) (e : x = (n : Int)) (hn : n < zs.length) : ev E (.idx (.var i) a) Γ = .ok (.int (zs.getD n 0)) := by
  rw [e] at h2
  exact ev_xx (ev_var h) h2 hn
/-- a line -/
theorem hb_line (hs : IsSprB E g) {c m : Nat} {ys zs : List Int} (hz : okY zs 16 27720) {fu gr : Bool} (hfg : fu = true → gr = false) {cnt kk j : Nat} {ss : List (List (Int × Rat))} (hss : ss.length ≤ 2) (hk : kk ≤ 4) (hj : j ≤ 4) {x7 x9 x12 x13 x14 x15 x16 x17 : Sl} {Q : Out → Prop}
    (q : ∀ s x14 x16 x17, LB fu gr s → Q (.nx [.sh (.int (c : Nat)), .sh (.int (m : Nat)), .sh (.list (ys.map .int)), .sh (.list (zs.map .int)), .sh (.bool fu), .sh (.bool gr), .sh (.int (cnt : Nat)), x7, .sh (.int (kk : Nat)), x9, .own ((ss ++ [s]).map dS), .sh (.int (j : Nat)), x12, x13, x14, x15, x16, x17])) :
    Wp E (bodyOf (dropS 1 (bodyOf (dropS 7 (t_law_houseb f g k).body)))) [.sh (.int (c : Nat)), .sh (.int (m : Nat)), .sh (.list (ys.map .int)), .sh (.list (zs.map .int)), .sh (.bool fu), .sh (.bool gr), .sh (.int (cnt : Nat)), x7, .sh (.int (kk : Nat)), x9, .own (ss.map dS), .sh (.int (j : Nat)), x12, x13, x14, x15, x16, x17] Q := by
  have zl := hz.1
  obtain ⟨n, hn, hn2⟩ : ∃ n : Nat, (3 * (kk : Int) + (j : Int)) % 16 = (n : Int) ∧ n < 16 := ⟨((3 * (kk : Int) + (j : Int)) % 16).toNat, by omega, by omega⟩
  have db := hz.at hn2
  obtain ⟨d, hd⟩ : ∃ d, d = zs.getD n 0 := ⟨_, rfl⟩
  rw [← hd] at db
  refine wp_set (d := .int d) (by rw [hd]; exact ev_idx_n (n := n) rfl (ev_md (ev_add (ev_ml ev_int (ev_var rfl) (by decide) (by omega)) (ev_var rfl)) ev_int (by decide)) hn (by omega)) (show 14 < 18 by decide) ?_
  refine wp_set (d := .int (d % 2)) (ev_md (ev_var rfl) ev_int (by decide)) (show 16 < 18 by decide) ?_
  obtain ⟨hi, hhi⟩ : ∃ hi, hi = d % 2 + 1 + d / 2 % 3 := ⟨_, rfl⟩
  refine wp_setO (ds := [d % 2, hi].map .int) (by
    rw [hhi]
    exact evF_ls (evs_2 (ev_var rfl) (ev_add (ev_add (ev_var rfl) ev_int) (ev_md (ev_dv (ev_var (d := .int d) rfl) ev_int (by decide) (by decide)) ev_int (by decide)))) (by simp)) (show 17 < 18 by decide) ?_
  show Wp E _ [.sh (.int (c : Nat)), .sh (.int (m : Nat)), .sh (.list (ys.map .int)), .sh (.list (zs.map .int)), .sh (.bool fu), .sh (.bool gr), .sh (.int (cnt : Nat)), x7, .sh (.int (kk : Nat)), x9, .own (ss.map dS), .sh (.int (j : Nat)), x12, x13, .sh (.int d), x15, .sh (.int (d % 2)), .own ([d % 2, hi].map .int)] _
  have K3 : ∀ vs : List Int, vs.Pairwise (· < ·) → 0 < vs.length → vs.length ≤ 4 → (∀ v ∈ vs, 0 ≤ v ∧ v ≤ 60) → (fu = true → vs.length ≤ 2 ∧ ∀ v ∈ vs, v ≤ 4) → (gr = false → ∀ v ∈ vs, v ≤ 8) →
      Wp E (dropS 5 (bodyOf (dropS 1 (bodyOf (dropS 7 (t_law_houseb f g k).body))))) [.sh (.int (c : Nat)), .sh (.int (m : Nat)), .sh (.list (ys.map .int)), .sh (.list (zs.map .int)), .sh (.bool fu), .sh (.bool gr), .sh (.int (cnt : Nat)), x7, .sh (.int (kk : Nat)), x9, .own (ss.map dS), .sh (.int (j : Nat)), x12, x13, .sh (.int d), x15, .sh (.int (d % 2)), .own (vs.map .int)] Q := fun vs a1 a2 a3 a4 a5 a6 => by
    obtain ⟨s, ⟨T, sp⟩, es⟩ := hs d vs a1 a2 (by omega)
    refine wp_frz ?_
    refine wp_app (d := dS s) rfl (ev_call (evs_2 (ev_var rfl) (ev_var rfl)) es) (by rw [List.length_map]; unfold most; omega) (wp_nil ?_)
    have := q s (.sh (.int d)) (.sh (.int (d % 2))) (.sh (.list (vs.map .int))) ⟨vs, T, sp, a3, a4, a5, a6⟩
    rw [List.map_append] at this
    exact this
  have K2 : ∀ vs : List Int, vs.Pairwise (· < ·) → 0 < vs.length → vs.length ≤ 3 → (∀ v ∈ vs, 0 ≤ v ∧ v ≤ 8) → (fu = true → vs.length ≤ 2 ∧ ∀ v ∈ vs, v ≤ 4) →
      Wp E (dropS 4 (bodyOf (dropS 1 (bodyOf (dropS 7 (t_law_houseb f g k).body))))) [.sh (.int (c : Nat)), .sh (.int (m : Nat)), .sh (.list (ys.map .int)), .sh (.list (zs.map .int)), .sh (.bool fu), .sh (.bool gr), .sh (.int (cnt : Nat)), x7, .sh (.int (kk : Nat)), x9, .own (ss.map dS), .sh (.int (j : Nat)), x12, x13, .sh (.int d), x15, .sh (.int (d % 2)), .own (vs.map .int)] Q := fun vs a1 a2 a3 a4 a5 => by
    refine wp_if (ev_andb (ev_var rfl) (ev_cmp (ev_var rfl) ev_int rfl)) (fun hc => ?_) (fun _ => ?_)
    · rw [Bool.and_eq_true] at hc
      refine wp_app (d := .int (20 + d % 41)) rfl (ev_add ev_int (ev_md (ev_var rfl) ev_int (by decide))) (by rw [List.length_map]; unfold most; omega) (wp_skip ?_)
      have nf : fu ≠ true := fun e => by rw [hfg e] at hc; exact absurd hc.1 Bool.false_ne_true
      have := K3 (vs ++ [20 + d % 41]) (by
        rw [List.pairwise_append]
        refine ⟨a1, by simp, fun a ha b hb => ?_⟩
        have : b = 20 + d % 41 := by simpa using hb
        have := a4 a ha
        omega) (by simp) (by simp; omega) (fun v hv => by
        rcases List.mem_append.mp hv with h | h
        · have := a4 v h
          omega
        · have : v = 20 + d % 41 := by simpa using h
          omega) (fun e => absurd e nf) (fun e => by rw [e] at hc; exact absurd hc.1 Bool.false_ne_true)
      rw [List.map_append] at this
      exact this
    · exact wp_skip (K3 vs a1 a2 (by omega) (fun v hv => by have := a4 v hv; omega) a5 (fun _ v hv => (a4 v hv).2))
  have b1 : ([d % 2, hi] : List Int).Pairwise (· < ·) := by
    rw [List.pairwise_cons]
    exact ⟨fun x hx => by rw [show x = hi by simpa using hx]; omega, by simp⟩
  have b2 : ∀ v ∈ ([d % 2, hi] : List Int), 0 ≤ v ∧ v ≤ 4 := fun v hv => by
    simp only [List.mem_cons, List.not_mem_nil, or_false] at hv
    omega
  refine wp_if (ev_andb (ev_cmp (ev_md (ev_dv (ev_var rfl) ev_int (by decide) (by decide)) ev_int (by decide)) ev_int rfl) (ev_not (ev_var rfl))) (fun hc => ?_) (fun _ => ?_)
  · rw [Bool.and_eq_true] at hc
    refine wp_app (d := .int (hi + 1 + d / 12 % 4)) rfl (ev_add (ev_add (ev_oix (ns := [d % 2, hi]) (j := 1) rfl ev_int (by simp)) ev_int) (ev_md (ev_dv (ev_var rfl) ev_int (by decide) (by decide)) ev_int (by decide))) (by unfold most; simp) (wp_skip ?_)
    have nf : fu ≠ true := fun e => by rw [e] at hc; exact absurd hc.2 Bool.false_ne_true
    have := K2 ([d % 2, hi] ++ [hi + 1 + d / 12 % 4]) (by
      rw [List.pairwise_append]
      refine ⟨b1, by simp, fun a ha b hb => ?_⟩
      have : b = hi + 1 + d / 12 % 4 := by simpa using hb
      simp only [List.mem_cons, List.not_mem_nil, or_false] at ha
      omega) (by simp) (by simp) (fun v hv => by
      rcases List.mem_append.mp hv with h | h
      · have := b2 v h
        omega
      · have : v = hi + 1 + d / 12 % 4 := by simpa using h
        omega) (fun e => absurd e nf)
    rw [List.map_append] at this
    exact this
  · exact wp_skip (K2 _ b1 (by simp) (by simp) (fun v hv => by have := b2 v hv; omega) (fun _ => ⟨by simp, fun v hv => (b2 v hv).2⟩))
end
end Dee

set_option maxRecDepth 1000000
set_option maxHeartbeats 4000000
/-! Dee, part 54: the houses of the later laws, whole. -/
namespace Dee
open PySem PySem.Spec L2 PyProof.Rows
theorem ev_t3 {E : Evn} {Γ : List Sl} {a b c : CE} {x y z : D} (h : ev E a Γ = .ok x) (h2 : ev E b Γ = .ok y) (h3 : ev E c Γ = .ok z) : ev E (.tup (.cons a (.cons b (.cons c .nil)))) Γ = .ok (.tuple [x, y, z]) := by
  show (evs E _ Γ).bind _ = _
  rw [evs_cons h (evs_2 h2 h3)]
  rfl
section
variable {E : Evn} {f g k : Nat}
theorem hb_wtr (hs : IsSprB E g) {c m : Nat} {ys zs : List Int} (hy : okY ys 8 2520) (hz : okY zs 16 27720) {fu gr : Bool} (hfg : fu = true → gr = false) {cnt kk : Nat} {ws : List Wtr} (hc : cnt ≤ 4) (hk : kk < cnt) (hws : ws.length ≤ 100) {x9 x10 x11 x12 x13 x14 x15 x16 x17 : Sl} {Q : Out → Prop}
    (q : ∀ W x10 x11 x12 x13 x14 x16 x17, WB fu gr cnt W → Q (.nx [.sh (.int (c : Nat)), .sh (.int (m : Nat)), .sh (.list (ys.map .int)), .sh (.list (zs.map .int)), .sh (.bool fu), .sh (.bool gr), .sh (.int (cnt : Nat)), .own ((ws ++ [W]).map dW), .sh (.int (kk : Nat)), x9, x10, x11, x12, x13, x14, x15, x16, x17])) :
    Wp E (bodyOf (dropS 7 (t_law_houseb f g k).body)) [.sh (.int (c : Nat)), .sh (.int (m : Nat)), .sh (.list (ys.map .int)), .sh (.list (zs.map .int)), .sh (.bool fu), .sh (.bool gr), .sh (.int (cnt : Nat)), .own (ws.map dW), .sh (.int (kk : Nat)), x9, x10, x11, x12, x13, x14, x15, x16, x17] Q := by
  have yl := hy.1
  have zl := hz.1
  have y1 := hy.at (i := 1) (by decide)
  have y2 := hy.at (i := 2) (by decide)
  have iy : ∀ (i : Nat) {Γ : List Sl}, i < 8 → Γ[2]? = some (.sh (.list (ys.map .int))) → ev E (.idx (.var 2) (.int (i : Nat))) Γ = .ok (.int (ys.getD i 0)) := fun i {Γ} hi h => ev_ix (k := i) h (by omega)
  refine wp_setO (ds := ([] : List (List (Int × Rat))).map dS) rfl (show 10 < 18 by decide) ?_
  obtain ⟨nl, hnl, nl3, nl2⟩ : ∃ nl : Nat, (if fu = true then 3 - (kk : Int) % 2 else ys.getD 1 0 / ((kk : Int) + 1) % 3) = (nl : Int) ∧ nl ≤ 3 ∧ (fu = false → nl ≤ 2) := by
    cases fu with
    | true => exact ⟨(3 - (kk : Int) % 2).toNat, by rw [if_pos rfl]; omega, by omega, nofun⟩
    | false => exact ⟨(ys.getD 1 0 / ((kk : Int) + 1) % 3).toNat, by rw [if_neg Bool.false_ne_true]; omega, by omega, fun _ => by omega⟩
  refine wp_for (enc := fun i : Nat => PyData.int (i : Nat)) (xs := List.range nl) (fun pre Γ => ∃ ss x11 x14 x16 x17, Γ = [.sh (.int (c : Nat)), .sh (.int (m : Nat)), .sh (.list (ys.map .int)), .sh (.list (zs.map .int)), .sh (.bool fu), .sh (.bool gr), .sh (.int (cnt : Nat)), .own (ws.map dW), .sh (.int (kk : Nat)), x9, .own (ss.map dS), x11, x12, x13, x14, x15, x16, x17] ∧ (∀ s ∈ ss, LB fu gr s) ∧ ss.length = pre.length)
    (evI_rn (by
      rw [← hnl]
      exact ev_ifb (ev_var rfl) (ev_sub ev_int (ev_md (ev_var rfl) ev_int (by decide))) (ev_md (ev_dv (iy 1 (by decide) rfl) (ev_add (ev_var rfl) ev_int) (by omega) (by omega)) ev_int (by decide))) (by omega)) ⟨[], x11, x14, x16, x17, rfl, by simp, rfl⟩ ?_ ?_
  · rintro pre j post Γ ej ⟨ss, x11, x14, x16, x17, rfl, hss, hsl⟩
    have hj : j < nl := List.mem_range.mp (by rw [ej]; simp)
    have pl : pre.length < nl := by
      have := congrArg List.length ej
      rw [List.length_range] at this
      simp at this
      omega
    refine ⟨[.sh (.int (c : Nat)), .sh (.int (m : Nat)), .sh (.list (ys.map .int)), .sh (.list (zs.map .int)), .sh (.bool fu), .sh (.bool gr), .sh (.int (cnt : Nat)), .own (ws.map dW), .sh (.int (kk : Nat)), x9, .own (ss.map dS), .sh (.int (j : Nat)), x12, x13, x14, x15, x16, x17], rfl, ?_⟩
    refine hb_line (f := f) (k := k) hs hz hfg (by omega) (by omega) (by omega) fun s x14 x16 x17 hL => ?_
    exact ⟨ss ++ [s], _, _, _, _, rfl, fun x hx => by
      rcases List.mem_append.mp hx with h | h
      · exact hss x h
      · rw [show x = s by simpa using h]; exact hL, by simp [hsl]⟩
  rintro Γ ⟨ss, x11, x14, x16, x17, rfl, hss, hsl⟩
  rw [List.length_range] at hsl
  obtain ⟨z, hz2⟩ : ∃ z, z = zs.getD (10 + kk) 0 := ⟨_, rfl⟩
  have zb := hz.at (i := 10 + kk) (by omega)
  rw [← hz2] at zb
  have iz : ∀ {Γ : List Sl}, Γ[3]? = some (.sh (.list (zs.map .int))) → Γ[8]? = some (.sh (.int (kk : Nat))) → ev E (.idx (.var 3) (.bin .add (.int 10) (.var 8))) Γ = .ok (.int z) := fun h h8 => by
    rw [hz2]
    exact ev_idx_n (n := 10 + kk) h (ev_add ev_int (ev_var h8)) (by omega) (by omega)
  obtain ⟨p, hp⟩ : ∃ p : Nat → Bool, p = fun j : Nat => decide (z / ((j : Int) + 1) % 3 > 0) || decide ((j : Int) = z % (cnt : Int)) := ⟨_, rfl⟩
  obtain ⟨os, hos⟩ : ∃ os : List Int, os = ((List.range cnt).filter p).map fun j : Nat => (j : Int) := ⟨_, rfl⟩
  have osm : ∀ v ∈ os, 0 ≤ v ∧ v < (cnt : Int) := fun v hv => by
    rw [hos] at hv
    obtain ⟨j, hj, rfl⟩ := List.mem_map.mp hv
    have := List.mem_range.mp (List.mem_filter.mp hj).1
    omega
  have osl : os.length ≤ cnt := by
    rw [hos, List.length_map]
    exact Nat.le_trans (List.length_filter_le _ _) (by simp)
  have osa : os.Pairwise (· < ·) := by
    rw [hos, List.pairwise_map]
    exact (List.pairwise_lt_range.filter _).imp fun {a b} h => by omega
  have osn : 0 < os.length := by
    have a := Int.emod_nonneg z (show (cnt : Int) ≠ 0 by omega)
    have b := Int.emod_lt_of_pos z (show 0 < (cnt : Int) by omega)
    refine List.length_pos_of_mem (a := z % (cnt : Int)) ?_
    rw [hos]
    refine List.mem_map.mpr ⟨(z % (cnt : Int)).toNat, List.mem_filter.mpr ⟨List.mem_range.mpr (by omega), ?_⟩, by omega⟩
    rw [hp]
    show (_ || decide _) = true
    rw [Bool.or_eq_true]
    exact .inr (decide_eq_true (by omega))
  have zf := evF_lcf (E := E) (Γ := [.sh (.int (c : Nat)), .sh (.int (m : Nat)), .sh (.list (ys.map .int)), .sh (.list (zs.map .int)), .sh (.bool fu), .sh (.bool gr), .sh (.int (cnt : Nat)), .own (ws.map dW), .sh (.int (kk : Nat)), x9, .own (ss.map dS), x11, x12, x13, x14, x15, x16, x17]) (enc := fun i : Nat => PyData.int (i : Nat)) (g := fun i : Nat => PyData.int (i : Nat)) (p := p) (xs := List.range cnt) (vs := [11]) (tg := .nm 11) (it := .r1 (.var 6))
    (co := .or (.cmp .gt (.bin .mod (.bin .fdiv (.idx (.var 3) (.bin .add (.int 10) (.var 8))) (.bin .add (.var 11) (.int 1))) (.int 3)) (.int 0)) (.one (.cmp .eq (.var 11) (.bin .mod (.idx (.var 3) (.bin .add (.int 10) (.var 8))) (.var 6))))) (el := .var 11)
    (evI_rn (ev_var rfl) (by omega)) (by rw [List.length_range]; unfold most; omega) (fun x hx => ⟨[.sh (.int (c : Nat)), .sh (.int (m : Nat)), .sh (.list (ys.map .int)), .sh (.list (zs.map .int)), .sh (.bool fu), .sh (.bool gr), .sh (.int (cnt : Nat)), .own (ws.map dW), .sh (.int (kk : Nat)), x9, .own (ss.map dS), .sh (.int (x : Nat)), x12, x13, x14, x15, x16, x17], rfl, by
      have hx := List.mem_range.mp hx
      rw [hp]
      exact ev_orb (ev_cmp (ev_md (ev_dv (iz rfl rfl) (ev_add (ev_var rfl) ev_int) (by omega) (by omega)) ev_int (by decide)) ev_int rfl) (ev_cmp (ev_var rfl) (ev_md (iz rfl rfl) (ev_var rfl) (by omega)) rfl), fun _ => ev_var rfl⟩)
  rw [show ((List.range cnt).filter p).map (fun i : Nat => PyData.int (i : Nat)) = os.map .int by rw [hos, List.map_map]; rfl] at zf
  refine wp_set (ev_lc zf) (show 12 < 18 by decide) ?_
  obtain ⟨t, ⟨T, sp⟩, et⟩ := hs z os osa osn (by omega)
  have fin : ∀ pr : Int, 0 ≤ pr ∧ pr < 25 → Wp E (dropS 5 (bodyOf (dropS 7 (t_law_houseb f g k).body))) [.sh (.int (c : Nat)), .sh (.int (m : Nat)), .sh (.list (ys.map .int)), .sh (.list (zs.map .int)), .sh (.bool fu), .sh (.bool gr), .sh (.int (cnt : Nat)), .own (ws.map dW), .sh (.int (kk : Nat)), x9, .own (ss.map dS), x11, .sh (.list (os.map .int)), .sh (.int pr), x14, x15, x16, x17] Q := fun pr hpr => by
    refine wp_frz ?_
    refine wp_app (d := dW ⟨pr, ss, t⟩) rfl (ev_t3 (ev_var rfl) (ev_var rfl) (ev_call (evs_2 (iz rfl rfl) (ev_var rfl)) et)) (by rw [List.length_map]; unfold most; omega) (wp_nil ?_)
    have := q ⟨pr, ss, t⟩ (.sh (.list (ss.map dS))) x11 (.sh (.list (os.map .int))) (.sh (.int pr)) x14 x16 x17 ⟨hpr, ⟨by show ss.length ≤ 3; omega, fun e => by have := nl2 e; show ss.length ≤ 2; omega⟩, hss, os, T, sp, osm, osl⟩
    rw [List.map_append] at this
    exact this
  refine wp_set (d := .int (ys.getD 2 0 / ((kk : Int) + 1) % 4)) (ev_md (ev_dv (iy 2 (by decide) rfl) (ev_add (ev_var rfl) ev_int) (by omega) (by omega)) ev_int (by decide)) (show 13 < 18 by decide) ?_
  refine wp_if (ev_cmp (ev_md (iy 5 (by decide) rfl) ev_int (by decide)) ev_int rfl) (fun _ => ?_) (fun _ => ?_)
  · refine wp_set (d := .int (ys.getD 2 0 / ((kk : Int) + 1) % 25)) (ev_md (ev_dv (iy 2 (by decide) rfl) (ev_add (ev_var rfl) ev_int) (by omega) (by omega)) ev_int (by decide)) (show 13 < 18 by decide) (wp_skip ?_)
    exact fin _ (by omega)
  · exact wp_skip (fin _ (by omega))
theorem shr_ok {t : Int} (h0 : 0 ≤ t) (h1 : t ≤ 3) : LOk (.share ((t : Rat) / ((3 : Int) : Rat))) := by
  refine ⟨rat_div_pos h0 (by decide), ?_, Nat.lt_of_le_of_lt (den_le (by decide)) (by decide)⟩
  have z : t = 0 ∨ t = 1 ∨ t = 2 ∨ t = 3 := by omega
  rcases z with rfl | rfl | rfl | rfl <;> decide +kernel
theorem hb_trt (hf : IsFracB E k) {c m : Nat} {ys zs : List Int} (hz : okY zs 16 27720) {fu gr : Bool} {cnt kk : Nat} {ts : List (Int × List Layer)} (hk : kk < 4) (hts : ts.length ≤ 100) {x7 x10 x11 x12 x13 x14 x15 x16 x17 : Sl} {Q : Out → Prop}
    (q : ∀ t x11 x14 x15, TB t → Q (.nx [.sh (.int (c : Nat)), .sh (.int (m : Nat)), .sh (.list (ys.map .int)), .sh (.list (zs.map .int)), .sh (.bool fu), .sh (.bool gr), .sh (.int (cnt : Nat)), x7, .sh (.int (kk : Nat)), .own ((ts ++ [t]).map dT), x10, x11, x12, x13, x14, x15, x16, x17])) :
    Wp E (bodyOf (dropS 9 (t_law_houseb f g k).body)) [.sh (.int (c : Nat)), .sh (.int (m : Nat)), .sh (.list (ys.map .int)), .sh (.list (zs.map .int)), .sh (.bool fu), .sh (.bool gr), .sh (.int (cnt : Nat)), x7, .sh (.int (kk : Nat)), .own (ts.map dT), x10, x11, x12, x13, x14, x15, x16, x17] Q := by
  have zl := hz.1
  obtain ⟨n, hn, hn2⟩ : ∃ n : Nat, (13 + (kk : Int)) % 16 = (n : Int) ∧ n < 16 := ⟨((13 + (kk : Int)) % 16).toNat, by omega, by omega⟩
  have db := hz.at hn2
  refine wp_set (d := .int (zs.getD n 0)) (ev_idx_n (n := n) rfl (ev_md (ev_add ev_int (ev_var rfl)) ev_int (by decide)) hn (by omega)) (show 14 < 18 by decide) ?_
  refine wp_setO (ds := ([] : List Layer).map dL) rfl (show 15 < 18 by decide) ?_
  obtain ⟨b, hb⟩ : ∃ b, b = (fu && decide ((kk : Int) = 1)) := ⟨_, rfl⟩
  obtain ⟨nl, hnl, nl4⟩ : ∃ nl : Nat, (if b = true then (4 : Int) else 1) = (nl : Int) ∧ nl ≤ 4 := by
    cases b with
    | true => exact ⟨4, rfl, by decide⟩
    | false => exact ⟨1, rfl, by decide⟩
  refine wp_for (enc := fun i : Nat => PyData.int (i : Nat)) (xs := List.range nl) (fun pre Γ => ∃ (ls : List Layer) (d : Int) (x11 : Sl), Γ = [.sh (.int (c : Nat)), .sh (.int (m : Nat)), .sh (.list (ys.map .int)), .sh (.list (zs.map .int)), .sh (.bool fu), .sh (.bool gr), .sh (.int (cnt : Nat)), x7, .sh (.int (kk : Nat)), .own (ts.map dT), x10, x11, x12, x13, .sh (.int d), .own (ls.map dL), x16, x17] ∧ (∀ l ∈ ls, LOk l) ∧ ls.length ≤ pre.length ∧ 0 ≤ d ∧ d < 27720 + 28 * (pre.length : Int))
    (evI_rn (by
      rw [← hnl, hb]
      exact ev_ifb (ev_andb (ev_var rfl) (ev_cmp (ev_var rfl) ev_int rfl)) ev_int ev_int) (by omega)) ⟨[], _, x11, rfl, by simp, Nat.zero_le _, db.1, by have := db.2; simpa using this⟩ ?_ ?_
  · rintro pre j post Γ ej ⟨ls, d, x11, rfl, hls, hll, d0, d1⟩
    have hj : j < nl := List.mem_range.mp (by rw [ej]; simp)
    have pl : pre.length < nl := by
      have := congrArg List.length ej
      rw [List.length_range] at this
      simp at this
      omega
    have pl1 : (pre ++ [j]).length = pre.length + 1 := by simp
    refine ⟨[.sh (.int (c : Nat)), .sh (.int (m : Nat)), .sh (.list (ys.map .int)), .sh (.list (zs.map .int)), .sh (.bool fu), .sh (.bool gr), .sh (.int (cnt : Nat)), x7, .sh (.int (kk : Nat)), .own (ts.map dT), x10, .sh (.int (j : Nat)), x12, x13, .sh (.int d), .own (ls.map dL), x16, x17], rfl, ?_⟩
    refine wp_set (d := .int (d + 7 * (j : Int))) (ev_add (ev_var rfl) (ev_ml ev_int (ev_var rfl) (by decide) (by omega))) (show 14 < 18 by decide) ?_
    obtain ⟨e, he⟩ : ∃ e, e = d + 7 * (j : Int) := ⟨_, rfl⟩
    rw [← he]
    show Wp E _ [.sh (.int (c : Nat)), .sh (.int (m : Nat)), .sh (.list (ys.map .int)), .sh (.list (zs.map .int)), .sh (.bool fu), .sh (.bool gr), .sh (.int (cnt : Nat)), x7, .sh (.int (kk : Nat)), .own (ts.map dT), x10, .sh (.int (j : Nat)), x12, x13, .sh (.int e), .own (ls.map dL), x16, x17] _
    have add : ∀ l : Layer, LOk l → (Tn (fun Γ => ∃ (ls : List Layer) (d : Int) (x11 : Sl), Γ = [.sh (.int (c : Nat)), .sh (.int (m : Nat)), .sh (.list (ys.map .int)), .sh (.list (zs.map .int)), .sh (.bool fu), .sh (.bool gr), .sh (.int (cnt : Nat)), x7, .sh (.int (kk : Nat)), .own (ts.map dT), x10, x11, x12, x13, .sh (.int d), .own (ls.map dL), x16, x17] ∧ (∀ l ∈ ls, LOk l) ∧ ls.length ≤ (pre ++ [j]).length ∧ 0 ≤ d ∧ d < 27720 + 28 * ((pre ++ [j]).length : Int)) (fun Γ => Wp E (dropS 3 (bodyOf (dropS 9 (t_law_houseb f g k).body))) Γ Q) Q)
        (.nx [.sh (.int (c : Nat)), .sh (.int (m : Nat)), .sh (.list (ys.map .int)), .sh (.list (zs.map .int)), .sh (.bool fu), .sh (.bool gr), .sh (.int (cnt : Nat)), x7, .sh (.int (kk : Nat)), .own (ts.map dT), x10, .sh (.int (j : Nat)), x12, x13, .sh (.int e), .own (ls.map dL ++ [dL l]), x16, x17]) := fun l hl => ⟨ls ++ [l], e, _, by rw [List.map_append]; rfl, fun x hx => by
      rcases List.mem_append.mp hx with h | h
      · exact hls x h
      · rw [show x = l by simpa using h]; exact hl, by rw [pl1]; simp; omega, by omega, by rw [pl1]; omega⟩
    have md : ∀ {Γ : List Sl}, Γ[14]? = some (.sh (.int e)) → ev E (.bin .mod (.var 14) (.int 4)) Γ = .ok (.int (e % 4)) := fun h => ev_md (ev_var h) ev_int (by decide)
    have dm : ∀ {Γ : List Sl} {a b : Int}, Γ[14]? = some (.sh (.int e)) → 0 < a → a < 1000 → 0 < b → ev E (.bin .mod (.bin .fdiv (.var 14) (.int a)) (.int b)) Γ = .ok (.int (e / a % b)) := fun h h1 h2 h3 => ev_md (ev_dv (ev_var h) ev_int h1 (by omega)) ev_int h3
    have len : (ls.map dL).length < most := by rw [List.length_map]; unfold most; omega
    refine wp_if (ev_cmp (md rfl) ev_int rfl) (fun _ => ?_) (fun _ => ?_)
    · exact wp_app (d := dL (.limit (e / 4 % 4))) rfl (ev_tup2 rfl (dm rfl (by decide) (by decide) (by decide))) len (wp_skip (wp_nil (add _ ⟨by omega, by omega⟩)))
    · refine wp_if (ev_cmp (md rfl) ev_int rfl) (fun _ => ?_) (fun _ => ?_)
      · exact wp_app (d := dL (.share (((e / 4 % 4 : Int) : Rat) / ((3 : Int) : Rat)))) rfl (ev_tup2 rfl (ev_call (evs_2 (dm rfl (by decide) (by decide) (by decide)) ev_int) (frb hf (by decide) (by decide)))) len (wp_skip (wp_skip (wp_nil (add _ (shr_ok (by omega) (by omega))))))
      · refine wp_if (ev_cmp (md rfl) ev_int rfl) (fun _ => ?_) (fun _ => ?_)
        · exact wp_app (d := dL (.band (e / 4 % 3) (e / 4 % 3 + e / 12 % 4))) rfl (ev_t3 rfl (dm rfl (by decide) (by decide) (by decide)) (ev_add (dm rfl (by decide) (by decide) (by decide)) (dm rfl (by decide) (by decide) (by decide)))) len (wp_skip (wp_skip (wp_skip (wp_nil (add _ ⟨by omega, by omega, by omega⟩)))))
        · exact wp_skip (wp_skip (wp_skip (wp_nil ⟨ls, e, _, rfl, hls, by rw [pl1]; omega, by omega, by rw [pl1]; omega⟩)))
  rintro Γ ⟨ls, d, x11, rfl, hls, hll, d0, d1⟩
  rw [List.length_range] at hll
  refine wp_frz ?_
  refine wp_app (d := dT (d / 48 % 3, ls)) rfl (ev_tup2 (ev_md (ev_dv (ev_var rfl) ev_int (by decide) (by decide)) ev_int (by decide)) (ev_var rfl)) (by rw [List.length_map]; unfold most; omega) (wp_nil ?_)
  have := q (d / 48 % 3, ls) x11 (.sh (.int d)) (.sh (.list (ls.map dL))) ⟨by show 0 ≤ d / 48 % 3 ∧ d / 48 % 3 < 3; omega, hls, by show ls.length ≤ 4; omega⟩
  rw [List.map_append] at this
  exact this
theorem t_law_houseb_ok (hd : IsDigits E f) (hs : IsSprB E g) (hf : IsFracB E k) (c m : Nat) : ∃ h : Hs, (∃ fu gr, HB fu gr h) ∧ runF E (t_law_houseb f g k) [.int (c : Nat), .int (m : Nat)] = .ok (dH h) := by
  obtain ⟨ys, hy, ey⟩ := hd c 2520 8 (by decide) (by decide) (by decide)
  obtain ⟨zs, hz, ez⟩ := hd m 27720 16 (by decide) (by decide) (by decide)
  have hy : okY ys 8 2520 := hy
  have hz : okY zs 16 27720 := hz
  have yl := hy.1
  have y0 := hy.at (i := 0) (by decide)
  have iy : ∀ (i : Nat) {Γ : List Sl}, i < 8 → Γ[2]? = some (.sh (.list (ys.map .int))) → ev E (.idx (.var 2) (.int (i : Nat))) Γ = .ok (.int (ys.getD i 0)) := fun i {Γ} hi h => ev_ix (k := i) h (by omega)
  refine run_ex rfl ?_
  show Wp E (t_law_houseb f g k).body [.sh (.int (c : Nat)), .sh (.int (m : Nat)), .non, .non, .non, .non, .non, .non, .non, .non, .non, .non, .non, .non, .non, .non, .non, .non] _
  refine wp_set (ev_call (evs_cons (ev_var rfl) (evs_2 ev_int ev_int)) ey) (show 2 < 18 by decide) ?_
  refine wp_set (ev_call (evs_cons (ev_var rfl) (evs_2 ev_int ev_int)) ez) (show 3 < 18 by decide) ?_
  obtain ⟨fu, hfu⟩ : ∃ fu, fu = decide (ys.getD 4 0 % 10 = 9) := ⟨_, rfl⟩
  obtain ⟨gr, hgr⟩ : ∃ gr, gr = decide (ys.getD 4 0 % 10 = 8) := ⟨_, rfl⟩
  have hfg : fu = true → gr = false := fun h => by
    rw [hfu] at h
    have := of_decide_eq_true h
    rw [hgr]
    exact decide_eq_false (by omega)
  refine wp_set (d := .bool fu) (by rw [hfu]; exact ev_cmp (ev_md (iy 4 (by decide) rfl) ev_int (by decide)) ev_int rfl) (show 4 < 18 by decide) ?_
  refine wp_set (d := .bool gr) (by rw [hgr]; exact ev_cmp (ev_md (iy 4 (by decide) rfl) ev_int (by decide)) ev_int rfl) (show 5 < 18 by decide) ?_
  obtain ⟨n0, hn0, n04, n03⟩ : ∃ n : Nat, (if fu = true then (4 : Int) else 1 + ys.getD 0 0 % 3) = (n : Int) ∧ (0 < n ∧ n ≤ 4) ∧ (fu = false → n ≤ 3) := by
    cases fu with
    | true => exact ⟨4, rfl, by decide, nofun⟩
    | false => exact ⟨(1 + ys.getD 0 0 % 3).toNat, by rw [if_neg Bool.false_ne_true]; omega, by omega, fun _ => by omega⟩
  refine wp_set (d := .int (n0 : Nat)) (by rw [← hn0]; exact ev_ifb (ev_var rfl) ev_int (ev_add ev_int (ev_md (iy 0 (by decide) rfl) ev_int (by decide)))) (show 6 < 18 by decide) ?_
  have K : ∀ cnt : Nat, 0 < cnt → cnt ≤ 4 → (fu = false → cnt ≤ 3) → (gr = true → cnt = 1) → Wp E (dropS 6 (t_law_houseb f g k).body) [.sh (.int (c : Nat)), .sh (.int (m : Nat)), .sh (.list (ys.map .int)), .sh (.list (zs.map .int)), .sh (.bool fu), .sh (.bool gr), .sh (.int (cnt : Nat)), .non, .non, .non, .non, .non, .non, .non, .non, .non, .non, .non]
      (fun o => ∃ h : Hs, (∃ fu gr, HB fu gr h) ∧ outX (t_law_houseb f g k).fr o = .ok (dH h)) := fun cnt c0 c4 c3 c1 => by
    refine wp_setO (ds := ([] : List Wtr).map dW) rfl (show 7 < 18 by decide) ?_
    refine wp_for (enc := fun i : Nat => PyData.int (i : Nat)) (xs := List.range cnt) (fun pre Γ => ∃ ws x8 x10 x11 x12 x13 x14 x16 x17, Γ = [.sh (.int (c : Nat)), .sh (.int (m : Nat)), .sh (.list (ys.map .int)), .sh (.list (zs.map .int)), .sh (.bool fu), .sh (.bool gr), .sh (.int (cnt : Nat)), .own ((ws : List Wtr).map dW), x8, .non, x10, x11, x12, x13, x14, .non, x16, x17] ∧ (∀ W ∈ ws, WB fu gr cnt W) ∧ ws.length = pre.length)
      (evI_rn (ev_var rfl) (by omega)) ⟨[], .non, .non, .non, .non, .non, .non, .non, .non, rfl, by simp, rfl⟩ ?_ ?_
    · rintro pre j post Γ ej ⟨ws, x8, x10, x11, x12, x13, x14, x16, x17, rfl, hws, hwl⟩
      have hj : j < cnt := List.mem_range.mp (by rw [ej]; simp)
      have pl : pre.length < cnt := by
        have := congrArg List.length ej
        rw [List.length_range] at this
        simp at this
        omega
      refine ⟨[.sh (.int (c : Nat)), .sh (.int (m : Nat)), .sh (.list (ys.map .int)), .sh (.list (zs.map .int)), .sh (.bool fu), .sh (.bool gr), .sh (.int (cnt : Nat)), .own (ws.map dW), .sh (.int (j : Nat)), .non, x10, x11, x12, x13, x14, .non, x16, x17], rfl, ?_⟩
      refine hb_wtr (f := f) (k := k) hs hy hz hfg c4 hj (by omega) fun W x10 x11 x12 x13 x14 x16 x17 hW => ?_
      exact ⟨ws ++ [W], _, _, _, _, _, _, _, _, rfl, fun x hx => by
        rcases List.mem_append.mp hx with h | h
        · exact hws x h
        · rw [show x = W by simpa using h]; exact hW, by simp [hwl]⟩
    rintro Γ ⟨ws, x8, x10, x11, x12, x13, x14, x16, x17, rfl, hws, hwl⟩
    rw [List.length_range] at hwl
    refine wp_setO (ds := ([] : List (Int × List Layer)).map dT) rfl (show 9 < 18 by decide) ?_
    obtain ⟨tn, htn, tn4, tnf⟩ : ∃ n : Nat, (if fu = true then (4 : Int) else 1 + ys.getD 3 0 % 3) = (n : Int) ∧ (0 < n ∧ n ≤ 4) ∧ (fu = true → n = 4) := by
      cases fu with
      | true => exact ⟨4, rfl, by decide, fun _ => rfl⟩
      | false => exact ⟨(1 + ys.getD 3 0 % 3).toNat, by rw [if_neg Bool.false_ne_true]; omega, by omega, nofun⟩
    refine wp_for (enc := fun i : Nat => PyData.int (i : Nat)) (xs := List.range tn) (fun pre Γ => ∃ ts x8 x11 x14 x15, Γ = [.sh (.int (c : Nat)), .sh (.int (m : Nat)), .sh (.list (ys.map .int)), .sh (.list (zs.map .int)), .sh (.bool fu), .sh (.bool gr), .sh (.int (cnt : Nat)), .own (ws.map dW), x8, .own ((ts : List (Int × List Layer)).map dT), x10, x11, x12, x13, x14, x15, x16, x17] ∧ (∀ t ∈ ts, TB t) ∧ ts.length = pre.length)
      (evI_rn (by
        rw [← htn]
        exact ev_ifb (ev_var rfl) ev_int (ev_add ev_int (ev_md (iy 3 (by decide) rfl) ev_int (by decide)))) (by omega)) ⟨[], x8, x11, x14, .non, rfl, by simp, rfl⟩ ?_ ?_
    · rintro pre j post Γ ej ⟨ts, x8, x11, x14, x15, rfl, hts, htl⟩
      have hj : j < tn := List.mem_range.mp (by rw [ej]; simp)
      have pl : pre.length < tn := by
        have := congrArg List.length ej
        rw [List.length_range] at this
        simp at this
        omega
      refine ⟨[.sh (.int (c : Nat)), .sh (.int (m : Nat)), .sh (.list (ys.map .int)), .sh (.list (zs.map .int)), .sh (.bool fu), .sh (.bool gr), .sh (.int (cnt : Nat)), .own (ws.map dW), .sh (.int (j : Nat)), .own (ts.map dT), x10, x11, x12, x13, x14, x15, x16, x17], rfl, ?_⟩
      refine hb_trt (f := f) (g := g) hf hz (by omega) (by omega) fun t x11 x14 x15 hT => ?_
      exact ⟨ts ++ [t], _, _, _, _, rfl, fun x hx => by
        rcases List.mem_append.mp hx with h | h
        · exact hts x h
        · rw [show x = t by simpa using h]; exact hT, by simp [htl]⟩
    rintro Γ ⟨ts, x8, x11, x14, x15, rfl, hts, htl⟩
    rw [List.length_range] at htl
    have fin : ∀ ts : List (Int × List Layer), (∀ t ∈ ts, TB t) → ts.length = tn → Wp E (dropS 11 (t_law_houseb f g k).body) [.sh (.int (c : Nat)), .sh (.int (m : Nat)), .sh (.list (ys.map .int)), .sh (.list (zs.map .int)), .sh (.bool fu), .sh (.bool gr), .sh (.int (cnt : Nat)), .own (ws.map dW), x8, .own (ts.map dT), x10, x11, x12, x13, x14, x15, x16, x17] (fun o => ∃ h : Hs, (∃ fu gr, HB fu gr h) ∧ outX (t_law_houseb f g k).fr o = .ok (dH h)) := fun ts hts htl => by
      refine wp_frz ?_
      refine wp_frz ?_
      refine wp_ret (d := dH (ws, ts)) (ev_tup2 (ev_var rfl) (ev_var rfl)) ⟨(ws, ts), ⟨fu, gr, ⟨?_, ?_, ?_, hts⟩⟩, rfl⟩
      · show 0 < ws.length ∧ ws.length ≤ 4 ∧ (fu = false → ws.length ≤ 3) ∧ (gr = true → ws.length = 1)
        rw [hwl]
        exact ⟨c0, c4, c3, c1⟩
      · show ∀ w ∈ ws, WB fu gr ws.length w
        rw [hwl]
        exact hws
      · show 0 < ts.length ∧ ts.length ≤ 4
        omega
    refine wp_if (ev_var rfl) (fun hc => ?_) (fun _ => wp_skip (fin ts hts htl))
    have t4 := tnf hc
    have h3 : 3 < ts.length := by omega
    have g3 : ts[3]? = some ts[3] := List.getElem?_eq_getElem h3
    have i3 := idx_map dT ts 3 h3
    refine wp_six (ds := ts.map dT) (n := 3) (j := 3) (d := dT (0, ts[3].2)) rfl (ev_tup2 ev_int (ev_idx (ev_oidx (ds := ts.map dT) (k := 3) rfl ev_int i3) ev_int rfl)) ev_int (by
      unfold ixN
      rw [List.length_map, if_pos (by decide), if_pos (by omega)]
      rfl) (wp_skip ?_)
    have := fin (ts.set 3 (0, ts[3].2)) (fun t ht => by
      rcases List.mem_or_eq_of_mem_set ht with h | h
      · exact hts t h
      · have z := hts ts[3] (List.getElem_mem h3)
        rw [h]
        exact ⟨⟨Int.le_refl 0, show (0 : Int) < 3 by decide⟩, z.l, z.n⟩) (by rw [List.length_set]; exact htl)
    rw [List.map_set] at this
    exact this
  refine wp_if (t := gr) (ev_var (i := 5) (d := .bool gr) rfl) (fun hc => ?_) (fun hc => ?_)
  · refine wp_set (d := .int 1) ev_int (show 6 < 18 by decide) (wp_skip ?_)
    exact K 1 (by decide) (by decide) (fun _ => by decide) (fun _ => rfl)
  · exact wp_skip (K n0 n04.1 n04.2 n03 (fun e => by rw [e] at hc; cases hc))
end
end Dee

set_option maxRecDepth 1000000
set_option maxHeartbeats 0
/-! lastcoffer_k50_tables_checked: the terms of its text. -/
namespace K50
open PySem PySem.Spec PyProof.Rows L2 Dee
def top (i : Nat) : Stmt := PySem.Challenge.pw_lastcoffer_k50_tables_checked.main.body.getD i (.Pass ⟨0, 0, 0, 0⟩)
def T : Tab where
  fns := ["is_less", "is_fraction", "require", "check_table", "_law_cell", "_law_digits", "_law_fraction", "_law_spread", "_law_house", "_law_refused", "_law_spoilt", "law"]
  cls := ["CofferError", "OutOfRange", "TooLong"]
  con := ["NONE", "WHOLE"]
  blt := ["abs", "all", "int", "isinstance", "len", "list", "range", "repr", "sum"]
  gcd := true
  frs := []
def tbl : List (List Bool) := [[true, false, false], [true, true, false], [true, false, true]]
/-- is_less -/
abbrev g0 : FnT := t_law_less 
def N0 : List Str := ["first", "second"]
/-- is_fraction -/
abbrev g1 : FnT := t_is_fraction 
def N1 : List Str := ["item"]
/-- require -/
def g2 : FnT where
  np := 1
  nn := 1
  body := (.cons (.iff (.not (.var 0)) (.cons (.raise 1) .nil) .nil) .nil)
def N2 : List Str := ["holds"]
/-- check_table -/
def g3 : FnT where
  np := 2
  nn := 8
  body := (.cons (.setT [4, 5, 6] (.var 1)) (.cons (.set 2 (.blt .len (.cons (.idx (.var 0) (.int 0)) .nil))) (.cons (.expr (.call 2 (.cons (.and (.cmp .eq (.blt .len (.cons (.var 4) .nil)) (.var 2)) (.one (.cmp .eq (.blt .len (.cons (.var 5) .nil)) (.var 2)))) .nil))) (.cons (.expr (.call 2 (.cons (.blt .all (.cons (.lc [3] (.nm 3) (.of (.var 4)) .nil (.cmp .eq (.blt .len (.cons (.var 3) .nil)) (.blt .len (.cons (.idx (.var 4) (.int 0)) .nil)))) .nil)) .nil))) (.cons (.for (.nm 3) (.of (.var 4)) (.cons (.expr (.call 2 (.cons (.blt .all (.cons (.lc [7] (.nm 7) (.of (.var 3)) .nil (.call 1 (.cons (.var 7) .nil))) .nil)) .nil))) .nil)) (.cons (.expr (.call 2 (.cons (.blt .all (.cons (.lc [7] (.nm 7) (.of (.var 5)) .nil (.call 1 (.cons (.var 7) .nil))) .nil)) .nil))) (.cons (.expr (.call 2 (.cons (.and (.call 1 (.cons (.var 6) .nil)) (.and (.call 0 (.cons (.glob 0) (.cons (.var 6) .nil))) (.one (.call 0 (.cons (.var 6) (.cons (.glob 1) .nil)))))) .nil))) .nil)))))))
def N3 : List Str := ["house", "table", "count", "row", "rows", "scales", "q", "item"]
/-- _law_cell -/
abbrev g4 : FnT := t_law_cella 
def N4 : List Str := ["_law_script", "_law_k"]
/-- _law_digits -/
abbrev g5 : FnT := t_law_digits 
def N5 : List Str := ["_law_cell_here", "_law_base", "_law_most", "_law_digits_here", "_law_large", "_law_k"]
/-- _law_fraction -/
abbrev g6 : FnT := t_law_fracb 
def N6 : List Str := ["_law_top", "_law_low", "_law_a", "_law_b", "_law_step"]
/-- _law_spread -/
abbrev g7 : FnT := t_law_spreadb 6
def N7 : List Str := ["_law_draw", "_law_values", "_law_parts", "_law_k"]
/-- _law_house -/
abbrev g8 : FnT := t_law_houseb 5 7 6
def N8 : List Str := ["_law_first", "_law_second", "_law_sizes", "_law_draws", "_law_full", "_law_great", "_law_count", "_law_weathers", "_law_k", "_law_treaties", "_law_lines", "_law_j", "_law_others", "_law_premium", "_law_draw", "_law_layers", "_law_low", "_law_values"]
/-- _law_refused -/
def g9 : FnT where
  np := 2
  nn := 3
  body := (.cons (.try_ (.cons (.expr (.call 3 (.cons (.var 0) (.cons (.var 1) .nil)))) .nil) 1 (some 2) (.cons (.ret (.and (.isx 2 false [(some 0)]) (.one (.not (.isx 2 false [(some 2)]))))) .nil)) (.cons (.ret (.bl false)) .nil))
def N9 : List Str := ["_law_house_here", "_law_table", "e"]
/-- _law_spoilt -/
def g10 : FnT where
  np := 4
  nn := 14
  body := (.cons (.set 4 (.bin .mod (.var 3) (.blt .len (.cons (.var 0) .nil)))) (.cons (.set 5 (.lst (.cons (.tup (.cons (.int 2) (.cons (.int 4) .nil))) (.cons (.tup (.cons (.int 0) (.cons (.int 3) .nil))) (.cons (.tup (.cons (.int 1) (.cons (.int 0) .nil))) (.cons (.tup (.cons (.int 3) (.cons (.neg (.int 1)) .nil))) (.cons (.tup (.cons (.neg (.int 1)) (.cons (.neg (.int 2)) .nil))) (.cons (.tup (.cons (.int 0) (.cons (.int 0) .nil))) (.cons (.tup (.cons (.int 6) (.cons (.int 3) .nil))) .nil))))))))) (.cons (.set 6 (.idx (.var 5) (.bin .mod (.bin .fdiv (.var 3) (.int 3)) (.int 7)))) (.cons (.apN 7 11 (.of (.var 0)) (.var 4) (.tup (.cons (.int 1) (.cons (.int 3) .nil)))) (.cons (.setO 8 (.lst (.cons (.tup (.cons (.bin .add (.var 0) (.lst (.cons (.blt .list (.cons (.idx (.var 0) (.int 0)) .nil)) .nil))) (.cons (.var 1) (.cons (.var 2) .nil)))) (.cons (.tup (.cons (.sl (.var 0) (.cons (.int 1) .nil) .nil) (.cons (.var 1) (.cons (.var 2) .nil)))) (.cons (.tup (.cons (.var 0) (.cons (.bin .add (.var 1) (.lst (.cons (.tup (.cons (.int 1) (.cons (.int 2) .nil))) .nil))) (.cons (.var 2) .nil)))) (.cons (.tup (.cons (.var 0) (.cons (.sl (.var 1) (.cons (.int 1) .nil) .nil) (.cons (.var 2) .nil)))) .nil)))))) (.cons (.app 8 (.tup (.cons (.var 0) (.cons (.lc [13] (.nm 13) (.r1 (.blt .len (.cons (.var 1) .nil))) .nil (.ife (.cmp .eq (.var 13) (.var 4)) (.var 6) (.idx (.var 1) (.var 13)))) (.cons (.var 2) .nil))))) (.cons (.iff (.cmp .gt (.blt .len (.cons (.var 0) .nil)) (.int 1)) (.frz 7 (.cons (.app 8 (.tup (.cons (.var 7) (.cons (.var 1) (.cons (.var 2) .nil))))) .nil)) .nil) (.cons (.iff (.cmp .gt (.blt .len (.cons (.idx (.var 0) (.int 0)) .nil)) (.int 0)) (.cons (.set 9 (.bin .mod (.bin .fdiv (.var 3) (.int 21)) (.blt .len (.cons (.idx (.var 0) (.int 0)) .nil)))) (.cons (.stN 10 11 (.of (.var 0)) (.var 4) (.var 9) (.var 6)) (.frz 10 (.cons (.app 8 (.tup (.cons (.var 10) (.cons (.var 1) (.cons (.var 2) .nil))))) .nil)))) .nil) (.frz 8 (.cons (.ret (.bin .add (.var 8) (.lc [12] (.nm 12) (.of (.lst (.cons (.tup (.cons (.int 0) (.cons (.int 1) .nil))) (.cons (.tup (.cons (.int 1) (.cons (.int 1) .nil))) (.cons (.tup (.cons (.neg (.int 1)) (.cons (.int 2) .nil))) (.cons (.tup (.cons (.int 3) (.cons (.int 2) .nil))) (.cons (.tup (.cons (.int 2) (.cons (.int 4) .nil))) (.cons (.tup (.cons (.int 1) (.cons (.int 0) .nil))) (.cons (.tup (.cons (.neg (.int 1)) (.cons (.neg (.int 3)) .nil))) .nil))))))))) .nil (.tup (.cons (.var 0) (.cons (.var 1) (.cons (.var 12) .nil))))))) .nil))))))))))
def N10 : List Str := ["_law_rows", "_law_scales", "_law_q", "_law_draw", "_law_w", "_law_items", "_law_item", "_law_longer", "_law_wrong", "_law_at", "_law_spoilt_here", "_law_row", "_law_one", "_law_k"]
/-- law -/
def g11 : FnT where
  np := 1
  nn := 15
  body := (.cons (.set 1 (.call 8 (.cons (.call 4 (.cons (.var 0) (.cons (.int 0) .nil))) (.cons (.call 4 (.cons (.var 0) (.cons (.int 1) .nil))) .nil)))) (.cons (.set 2 (.call 5 (.cons (.call 4 (.cons (.var 0) (.cons (.int 2) .nil))) (.cons (.int 27720) (.cons (.int 24) .nil))))) (.cons (.set 3 (.blt .len (.cons (.idx (.var 1) (.int 0)) .nil))) (.cons (.set 4 (.bin .mod (.idx (.var 2) (.int 0)) (.int 5))) (.cons (.iff (.cmp .eq (.bin .mod (.idx (.var 2) (.int 23)) (.int 3)) (.int 0)) (.cons (.set 4 (.bin .add (.int 5) (.bin .mod (.idx (.var 2) (.int 0)) (.int 36)))) .nil) .nil) (.cons (.set 5 (.lc [13] (.nm 13) (.r1 (.var 3)) .nil (.lc [14] (.nm 14) (.r1 (.var 4)) .nil (.call 6 (.cons (.bin .sub (.bin .mod (.idx (.var 2) (.bin .mod (.bin .add (.bin .add (.int 1) (.bin .mul (.int 5) (.var 13))) (.var 14)) (.int 24))) (.int 41)) (.int 20)) (.cons (.bin .add (.int 1) (.bin .mod (.idx (.var 2) (.bin .mod (.var 14) (.int 24))) (.int 9))) .nil)))))) (.cons (.set 6 (.lc [13] (.nm 13) (.r1 (.var 3)) .nil (.call 6 (.cons (.bin .sub (.bin .mod (.idx (.var 2) (.bin .add (.int 16) (.var 13))) (.int 41)) (.int 20)) (.cons (.bin .add (.int 1) (.bin .mod (.idx (.var 2) (.var 13)) (.int 9))) .nil))))) (.cons (.set 7 (.bin .add (.int 2) (.bin .mod (.idx (.var 2) (.int 20)) (.int 30)))) (.cons (.set 8 (.call 6 (.cons (.bin .add (.int 1) (.bin .mod (.bin .fdiv (.idx (.var 2) (.int 20)) (.int 30)) (.bin .sub (.var 7) (.int 1)))) (.cons (.var 7) .nil)))) (.cons (.set 9 (.tup (.cons (.var 5) (.cons (.var 6) (.cons (.var 8) .nil))))) (.cons (.set 10 (.blt .repr (.cons (.lst (.cons (.var 1) (.cons (.var 9) .nil))) .nil))) (.cons (.iff (.or (.cmp .notn (.call 3 (.cons (.var 1) (.cons (.var 9) .nil))) .non) (.one (.cmp .notn (.call 3 (.cons (.var 1) (.cons (.tup (.cons (.lc [13] (.nm 13) (.r1 (.var 3)) .nil (.lst .nil)) (.cons (.var 6) (.cons (.var 8) .nil)))) .nil))) .non))) (.cons (.ret (.bl false)) .nil) .nil) (.cons (.for (.nm 11) (.of (.call 10 (.cons (.var 5) (.cons (.var 6) (.cons (.var 8) (.cons (.idx (.var 2) (.int 21)) .nil)))))) (.cons (.set 12 (.blt .repr (.cons (.var 11) .nil))) (.cons (.iff (.or (.not (.call 9 (.cons (.var 1) (.cons (.var 11) .nil)))) (.one (.cmp .ne (.blt .repr (.cons (.var 11) .nil)) (.var 12)))) (.cons (.ret (.bl false)) .nil) .nil) .nil))) (.cons (.ret (.cmp .eq (.blt .repr (.cons (.lst (.cons (.var 1) (.cons (.var 9) .nil))) .nil)) (.var 10))) .nil))))))))))))))
def N11 : List Str := ["_law_script", "_law_house_here", "_law_draws", "_law_count", "_law_size", "_law_rows", "_law_scales", "_law_low", "_law_q", "_law_table", "_law_kept", "_law_wrong", "_law_handed", "_law_w", "_law_k"]
def d0 : He.DefD := ⟨("is_less", none), "is_less", "is_less", defArgs (top 8), defBody (top 8), defScope (top 8), [], []⟩
def d1 : He.DefD := ⟨("is_fraction", none), "is_fraction", "is_fraction", defArgs (top 9), defBody (top 9), defScope (top 9), [], []⟩
def d2 : He.DefD := ⟨("require", none), "require", "require", defArgs (top 11), defBody (top 11), defScope (top 11), [], []⟩
def d3 : He.DefD := ⟨("check_table", none), "check_table", "check_table", defArgs (top 12), defBody (top 12), defScope (top 12), [], []⟩
def d4 : He.DefD := ⟨("_law_cell", none), "_law_cell", "_law_cell", defArgs (top 14), defBody (top 14), defScope (top 14), [], []⟩
def d5 : He.DefD := ⟨("_law_digits", none), "_law_digits", "_law_digits", defArgs (top 15), defBody (top 15), defScope (top 15), [], []⟩
def d6 : He.DefD := ⟨("_law_fraction", none), "_law_fraction", "_law_fraction", defArgs (top 16), defBody (top 16), defScope (top 16), [], []⟩
def d7 : He.DefD := ⟨("_law_spread", none), "_law_spread", "_law_spread", defArgs (top 17), defBody (top 17), defScope (top 17), [], []⟩
def d8 : He.DefD := ⟨("_law_house", none), "_law_house", "_law_house", defArgs (top 18), defBody (top 18), defScope (top 18), [], []⟩
def d9 : He.DefD := ⟨("_law_refused", none), "_law_refused", "_law_refused", defArgs (top 19), defBody (top 19), defScope (top 19), [], []⟩
def d10 : He.DefD := ⟨("_law_spoilt", none), "_law_spoilt", "_law_spoilt", defArgs (top 20), defBody (top 20), defScope (top 20), [], []⟩
def d11 : He.DefD := ⟨("law", none), "law", "law", defArgs (top 21), defBody (top 21), defScope (top 21), [], []⟩
def fs : List FnT := [g0, g1, g2, g3, g4, g5, g6, g7, g8, g9, g10, g11]
def fn : List He.DefD := [d0, d1, d2, d3, d4, d5, d6, d7, d8, d9, d10, d11]
def fa : List He.Fa := [.glo "is_less", .glo "is_fraction", .glo "require", .glo "check_table", .glo "_law_cell", .glo "_law_digits", .glo "_law_fraction", .glo "_law_spread", .glo "_law_house", .glo "_law_refused", .glo "_law_spoilt", .glo "law"]
def cs : List PyData := [.tuple [.int 0, .int 1], .tuple [.int 1, .int 1]]
end K50

set_option maxRecDepth 1000000
set_option maxHeartbeats 4000000
/-! printed by mkans.py: what the shared defs answer. -/
namespace K50
open PySem PySem.Spec L2 Dee
abbrev G0 : Nat → Option D := fun i => cs[i]?
abbrev E (k : Nat) : Evn := ⟨callN G0 (tblS T.cls.length tbl) fs k, G0, tblS T.cls.length tbl⟩
theorem EF (k i : Nat) (ds : List D) : (E k).F i ds = callN G0 (tblS T.cls.length tbl) fs k i ds := rfl
theorem call_of {k i : Nat} {g : FnT} {ds : List D} {r : Dee.R} (hg : fs[i]? = some g) (h : runF (E k) g ds = r) : (E (k + 1)).F i ds = r := by
  refine (EF (k + 1) i ds).trans ?_
  show callN _ _ _ _ _ _ = _
  unfold callN
  rw [hg]
  exact h
theorem a_is_less (k : Nat) : IsLess (E (k + 1)) 0 := fun a b ha hb => call_of rfl (t_is_less_ok ha hb)
theorem a_is_fraction (k : Nat) : IsFra (E (k + 1)) 1 := fun a b => call_of rfl (t_is_fraction_ok a b)
theorem a_law_cell (k : Nat) : IsCellA (E (k + 1)) 4 := fun ns j => call_of rfl (t_law_cella_ok _ ns j)
theorem a_law_digits (k : Nat) : IsDigits (E (k + 1)) 5 := fun c b m h1 h2 h3 => by
  obtain ⟨ys, hR, e⟩ := t_law_digits_ok c h1 h2 h3
  exact ⟨ys, hR, call_of rfl e⟩
theorem a_law_fraction (k : Nat) : IsFracB (E (k + 1)) 6 := fun t l h h1 h2 => call_of rfl (t_law_fracb_ok h h1 h2)
theorem a_law_spread (k : Nat) : IsSprB (E (k + 2)) 7 := fun d vs h1 h2 h3 => by
  obtain ⟨s, hs, e⟩ := t_law_spreadb_ok (a_law_fraction (k + 0)) d h1 h2 h3
  exact ⟨s, hs, call_of rfl e⟩
theorem a_law_house (k : Nat) : IsHB (E (k + 3)) 8 := fun c m => by
  obtain ⟨h, hh, e⟩ := t_law_houseb_ok (a_law_digits (k + 1)) (a_law_spread (k + 0)) (a_law_fraction (k + 1)) c m
  exact ⟨h, hh, call_of rfl e⟩
/-- the answers -/
structure Ans (E0 : Evn) : Prop where
  is_less : IsLess E0 0
  is_fraction : IsFra E0 1
  l_cell : IsCellA E0 4
  l_digits : IsDigits E0 5
  l_fraction : IsFracB E0 6
  l_spread : IsSprB E0 7
  l_house : IsHB E0 8
  k_NONE : E0.G 0 = some (.tuple [.int 0, .int 1])
  k_WHOLE : E0.G 1 = some (.tuple [.int 1, .int 1])
  s_CofferError_CofferError : E0.sub 0 0 = true
  s_CofferError_OutOfRange : E0.sub 0 1 = false
  s_CofferError_TooLong : E0.sub 0 2 = false
  s_OutOfRange_CofferError : E0.sub 1 0 = true
  s_OutOfRange_OutOfRange : E0.sub 1 1 = true
  s_OutOfRange_TooLong : E0.sub 1 2 = false
  s_TooLong_CofferError : E0.sub 2 0 = true
  s_TooLong_OutOfRange : E0.sub 2 1 = false
  s_TooLong_TooLong : E0.sub 2 2 = true
theorem ans (k : Nat) : Ans (E (k + 11)) where
  is_less := a_is_less (k + 10)
  is_fraction := a_is_fraction (k + 10)
  l_cell := a_law_cell (k + 10)
  l_digits := a_law_digits (k + 10)
  l_fraction := a_law_fraction (k + 10)
  l_spread := a_law_spread (k + 9)
  l_house := a_law_house (k + 8)
  k_NONE := rfl
  k_WHOLE := rfl
  s_CofferError_CofferError := rfl
  s_CofferError_OutOfRange := rfl
  s_CofferError_TooLong := rfl
  s_OutOfRange_CofferError := rfl
  s_OutOfRange_OutOfRange := rfl
  s_OutOfRange_TooLong := rfl
  s_TooLong_CofferError := rfl
  s_TooLong_OutOfRange := rfl
  s_TooLong_TooLong := rfl
def lvl : Nat := 11
end K50

set_option maxRecDepth 1000000
set_option maxHeartbeats 4000000
/-! k50: tables; check_table for all of them. -/
namespace K50
open PySem PySem.Spec L2 Dee PyProof.Rows
abbrev Pr := Int × Int
def dP (c : Pr) : D := .tuple [.int c.1, .int c.2]
def dRow (r : List Pr) : D := .list (r.map dP)
structure Tbl where
  rows : List (List Pr)
  sc : List Pr
  q : Pr
def dTb (t : Tbl) : D := .tuple [.list (t.rows.map dRow), dRow t.sc, dP t.q]
def frO (c : Pr) : Bool := fraOk c.1 c.2
def qOk (c : Pr) : Bool := frO c && (decide (0 * c.2 < c.1 * 1) && decide (c.1 * 1 < 1 * c.2))
def sameL (rows : List (List Pr)) : Bool := rows.all fun r => decide (r.length = (rows.headD []).length)
def ckT (cnt : Nat) (t : Tbl) : Bool := (decide (t.rows.length = cnt) && decide (t.sc.length = cnt)) && (sameL t.rows && ((t.rows.all fun r => r.all frO) && (t.sc.all frO && qOk t.q)))
structure PB (c : Pr) : Prop where
  a : c.1.natAbs < 1000
  b : c.2.natAbs < 1000
structure TbB (t : Tbl) : Prop where
  n : t.rows.length ≤ 6
  l : ∀ r ∈ t.rows, r.length ≤ 50
  r : ∀ r ∈ t.rows, ∀ c ∈ r, PB c
  sn : t.sc.length ≤ 6
  s : ∀ c ∈ t.sc, PB c
  q : PB t.q
theorem PB.shw {c : Pr} (h : PB c) : Shw (dP c) 1 3849 := Shw.tup2 (Shw.int (shl_s (Nat.lt_trans h.a (by decide)))) (Shw.int (shl_s (Nat.lt_trans h.b (by decide))))
theorem row_shw {r : List Pr} (hl : r.length ≤ 50) (h : ∀ c ∈ r, PB c) : Shw (dRow r) 2 192560 := (Shw.list (enc := dP) fun c hc => (h c hc).shw).mono (by decide) (by have : r.length * 3851 ≤ 50 * 3851 := Nat.mul_le_mul_right _ hl; omega)
theorem TbB.shw {t : Tbl} (h : TbB t) : Shw (dTb t) 4 4000000 := by
  have a := (Shw.list (enc := dRow) fun r hr => row_shw (h.l r hr) (h.r r hr)).mono (k' := 3) (n' := 1200000) (by decide) (by have : t.rows.length * 192562 ≤ 6 * 192562 := Nat.mul_le_mul_right _ h.n; omega)
  exact (Shw.tup (xs := [.list (t.rows.map dRow), dRow t.sc, dP t.q]) (k := 3) (n := 1200000) fun x hx => by
    simp only [List.mem_cons, List.not_mem_nil, or_false] at hx
    rcases hx with rfl | rfl | rfl
    · exact a
    · exact (row_shw (by have := h.sn; omega) h.s).mono (by decide) (by decide)
    · exact h.q.shw.mono (by decide) (by decide)).mono (by decide) (by show 3 * 1200002 + 3 ≤ 4000000; decide)
def IsReq (E : Evn) : Prop := ∀ b : Bool, E.F 2 [.bool b] = if b = true then .ok .none else .error (some 1)
def IsLsR (E : Evn) : Prop := ∀ a b c d : Int, a.natAbs < 1000 → b.natAbs < 1000 → c.natAbs < 1000 → d.natAbs < 1000 → E.F 0 [.tuple [.int a, .int b], .tuple [.int c, .int d]] = .ok (.bool (decide (a * d < c * b)))
def IsCt (E : Evn) : Prop := ∀ (h : Hs) (t : Tbl), 0 < h.1.length → h.1.length ≤ 6 → TbB t → E.F 3 [dH h, dTb t] = if ckT h.1.length t = true then .ok .none else .error (some 1)
section
variable {E0 : Evn}
theorem p_req (b : Bool) : runF E0 g2 [.bool b] = if b = true then .ok .none else .error (some 1) := by
  cases b with
  | true => exact run_wp rfl (wp_iff0 (ev_not (ev_var (i := 0) (d := .bool true) rfl)) (wp_nil rfl))
  | false => exact run_wp rfl (wp_ift (ev_not (ev_var (i := 0) (d := .bool false) rfl)) (wp_raise rfl))
theorem p_lsr {a b c d : Int} (h1 : a.natAbs < 1000) (h2 : b.natAbs < 1000) (h3 : c.natAbs < 1000) (h4 : d.natAbs < 1000) : runF E0 g0 [.tuple [.int a, .int b], .tuple [.int c, .int d]] = .ok (.bool (decide (a * d < c * b))) := by
  refine run_wp rfl ?_
  show Wp E0 g0.body [.sh (.tuple [.int a, .int b]), .sh (.tuple [.int c, .int d])] _
  refine wp_ret (ev_cmp (ev_ml (ev_idx (ev_var rfl) ev_int rfl) (ev_idx (ev_var rfl) ev_int rfl) (by omega) (by omega)) (ev_ml (ev_idx (ev_var rfl) ev_int rfl) (ev_idx (ev_var rfl) ev_int rfl) (by omega) (by omega)) rfl) rfl
theorem wp_req (hr : IsReq E0) {c : CE} {ss : CSs} {Γ : List Sl} {Q : Out → Prop} {b : Bool} (h : ev E0 c Γ = .ok (.bool b)) (kt : b = true → Wp E0 ss Γ Q) (kf : b = false → Q (.xc 1 Γ)) : Wp E0 (.cons (.expr (.call 2 (.cons c .nil))) ss) Γ Q := by
  cases b with
  | true => exact wp_expr (ev_call (evs_1 h) (hr true)) (kt rfl)
  | false =>
    refine wp_xc (c := 1) (Γ' := Γ) ?_ (kf rfl)
    show ofR (ev E0 (.call 2 (.cons c .nil)) Γ) Γ _ = _
    rw [ev_call (evs_1 h) (hr false)]
    rfl
theorem all_fr (hf : IsFra E0 1) {Γ : List Sl} {i k : Nat} {r : List Pr} (hi : Γ[i]? = some (.sh (dRow r))) (hik : k ≠ i) (hk : k < Γ.length) (hl : r.length ≤ 50) : ev E0 (.blt .all (.cons (.lc [k] (.nm k) (.of (.var i)) .nil (.call 1 (.cons (.var k) .nil))) .nil)) Γ = .ok (.bool (r.all frO)) := by
  have z := evF_lc (E := E0) (Γ := Γ) (enc := dP) (g := fun c => PyData.bool (frO c)) (xs := r) (vs := [k]) (tg := .nm k) (it := .of (.var i)) (el := .call 1 (.cons (.var k) .nil)) (evI_lst (ev_var hi)) (by unfold most; omega) (fun c hc => ⟨(Γ.set k .non).set k (.sh (dP c)), if_pos (by rw [show wipeG Γ [k] = Γ.set k .non from rfl, List.length_set]; exact hk), by
    have gk : ((Γ.set k .non).set k (.sh (dP c)))[k]? = some (.sh (dP c)) := by rw [List.getElem?_set_self (by rw [List.length_set]; exact hk)]
    exact ev_call (evs_1 (ev_var gk)) (hf c.1 c.2)⟩)
  have y := ev_all (bs := r.map frO) (by rw [List.map_map]; exact ev_lc z)
  rw [List.all_map] at y
  exact y
theorem p_ct (hr : IsReq E0) (hf : IsFra E0 1) (hl : IsLsR E0) (k0 : E0.G 0 = some (.tuple [.int 0, .int 1])) (k1 : E0.G 1 = some (.tuple [.int 1, .int 1])) (h : Hs) (t : Tbl) (h0 : 0 < h.1.length) (h6 : h.1.length ≤ 6) (b : TbB t) :
    runF E0 g3 [dH h, dTb t] = if ckT h.1.length t = true then .ok .none else .error (some 1) := by
  refine run_wp rfl ?_
  show Wp E0 g3.body [.sh (dH h), .sh (dTb t), .non, .non, .non, .non, .non, .non] _
  refine wp_setT (ds := [.list (t.rows.map dRow), dRow t.sc, dP t.q]) (ev_var rfl) rfl ?_
  have lenm : ∀ {Γ : List Sl} {a : CE} {X : Type} {enc : X → D} {xs : List X}, ev E0 a Γ = .ok (.list (xs.map enc)) → ev E0 (.blt .len (.cons a .nil)) Γ = .ok (.int (xs.length : Nat)) := fun e => by
    have z := ev_len (E := E0) e
    rw [List.length_map] at z
    exact z
  refine wp_set (d := .int (h.1.length : Nat)) (lenm (enc := dW) (ev_idx (ev_var rfl) ev_int rfl)) (show 2 < 8 by decide) ?_
  show Wp E0 _ [.sh (dH h), .sh (dTb t), .sh (.int (h.1.length : Nat)), .non, .sh (.list (t.rows.map dRow)), .sh (dRow t.sc), .sh (dP t.q), .non] _
  have bad : ∀ {x : Bool}, ckT h.1.length t = x → x = false → ∀ Γ, outX g3.fr (.xc 1 Γ) = if ckT h.1.length t = true then .ok .none else .error (some 1) := fun e f Γ => by
    rw [e, f]
    rfl
  have nat_eq : ∀ a b : Nat, Except.ok (decide (((a : Nat) : Int) = ((b : Nat) : Int))) = (Except.ok (decide (a = b)) : Except (Option Nat) Bool) := fun a b => by
    congr 1
    rw [Bool.eq_iff_iff, decide_eq_true_eq, decide_eq_true_eq]
    omega
  refine wp_req hr (ev_andb (ev_cmp (lenm (ev_var rfl)) (ev_var rfl) (nat_eq _ _)) (ev_cmp (lenm (enc := dP) (ev_var rfl)) (ev_var rfl) (nat_eq _ _))) (fun c1 => ?_) (fun c1 => bad rfl (by unfold ckT; rw [c1]; rfl) _)
  have cl : t.rows.length = h.1.length := by
    rw [Bool.and_eq_true] at c1
    exact of_decide_eq_true c1.1
  have hd0 : t.rows.headD [] = t.rows[0]'(by omega) := by
    rw [List.headD_eq_head?_getD, List.head?_eq_getElem?, List.getElem?_eq_getElem (by omega)]
    rfl
  have zl := evF_lc (E := E0) (Γ := [.sh (dH h), .sh (dTb t), .sh (.int (h.1.length : Nat)), .non, .sh (.list (t.rows.map dRow)), .sh (dRow t.sc), .sh (dP t.q), .non]) (enc := dRow) (g := fun r => PyData.bool (decide (r.length = (t.rows.headD []).length))) (xs := t.rows) (vs := [3]) (tg := .nm 3) (it := .of (.var 4)) (el := .cmp .eq (.blt .len (.cons (.var 3) .nil)) (.blt .len (.cons (.idx (.var 4) (.int 0)) .nil)))
    (evI_lst (ev_var rfl)) (by have := b.n; unfold most; omega) (fun r hr => ⟨[.sh (dH h), .sh (dTb t), .sh (.int (h.1.length : Nat)), .sh (dRow r), .sh (.list (t.rows.map dRow)), .sh (dRow t.sc), .sh (dP t.q), .non], rfl, by
      rw [hd0]
      exact ev_cmp (lenm (enc := dP) (ev_var rfl)) (lenm (enc := dP) (ev_idxm (enc := dRow) (xs := t.rows) (k := 0) (ev_var rfl) ev_int (by omega))) (nat_eq _ _)⟩)
  have ya := ev_all (bs := t.rows.map fun r => decide (r.length = (t.rows.headD []).length)) (by rw [List.map_map]; exact ev_lc zl)
  rw [List.all_map] at ya
  refine wp_req hr ya (fun c2 => ?_) (fun c2 => bad rfl (by
    have c2 : sameL t.rows = false := c2
    unfold ckT
    rw [c1, c2]
    rfl) _)
  have c2 : sameL t.rows = true := c2
  refine wp_for (enc := dRow) (xs := t.rows) (fun pre Γ => ∃ x3, Γ = [.sh (dH h), .sh (dTb t), .sh (.int (h.1.length : Nat)), x3, .sh (.list (t.rows.map dRow)), .sh (dRow t.sc), .sh (dP t.q), .non] ∧ ∀ r ∈ pre, r.all frO = true) (evI_lst (ev_var rfl)) ⟨.non, rfl, by simp⟩ ?_ ?_
  · rintro pre r post Γ e ⟨x3, rfl, hpre⟩
    have hrm : r ∈ t.rows := by rw [e]; simp
    refine ⟨[.sh (dH h), .sh (dTb t), .sh (.int (h.1.length : Nat)), .sh (dRow r), .sh (.list (t.rows.map dRow)), .sh (dRow t.sc), .sh (dP t.q), .non], rfl, ?_⟩
    refine wp_req hr (all_fr hf (i := 3) (k := 7) rfl (by decide) (show 7 < 8 by decide) (b.l r hrm)) (fun c3 => wp_nil ⟨_, rfl, fun x hx => ?_⟩) (fun c3 => bad rfl (by
      have : (t.rows.all fun r => r.all frO) = false := by
        rw [List.all_eq_false]
        exact ⟨r, hrm, by rw [c3]; exact Bool.false_ne_true⟩
      unfold ckT
      rw [c1, c2, this]
      rfl) _)
    rcases List.mem_append.mp hx with hx | hx
    · exact hpre x hx
    · rw [show x = r by simpa using hx]
      exact c3
  rintro Γ ⟨x3, rfl, hpre⟩
  have c3 : (t.rows.all fun r => r.all frO) = true := List.all_eq_true.mpr hpre
  refine wp_req hr (all_fr hf (i := 5) (k := 7) rfl (by decide) (show 7 < 8 by decide) (by have := b.sn; omega)) (fun c4 => ?_) (fun c4 => bad rfl (by unfold ckT; rw [c1, c2, c3, c4]; rfl) _)
  have qd : ∀ {Γ : List Sl}, Γ[6]? = some (.sh (dP t.q)) → ev E0 (.and (.call 1 (.cons (.var 6) .nil)) (.and (.call 0 (.cons (.glob 0) (.cons (.var 6) .nil))) (.one (.call 0 (.cons (.var 6) (.cons (.glob 1) .nil)))))) Γ = .ok (.bool (qOk t.q)) := fun {Γ} g6 => by
    have f1 := ev_call (E := E0) (Γ := Γ) (es := .cons (.var 6) .nil) (evs_1 (ev_var g6)) (hf t.q.1 t.q.2)
    have f2 := ev_call (E := E0) (Γ := Γ) (es := .cons (.glob 0) (.cons (.var 6) .nil)) (evs_2 (ev_glob k0) (ev_var g6)) (hl 0 1 t.q.1 t.q.2 (by decide) (by decide) b.q.a b.q.b)
    have f3 := ev_call (E := E0) (Γ := Γ) (es := .cons (.var 6) (.cons (.glob 1) .nil)) (evs_2 (ev_var g6) (ev_glob k1)) (hl t.q.1 t.q.2 1 1 b.q.a b.q.b (by decide) (by decide))
    unfold qOk frO
    cases e : fraOk t.q.1 t.q.2 with
    | false =>
      rw [e] at f1
      exact ev_andf f1
    | true =>
      rw [e] at f1
      rw [Bool.true_and]
      exact ev_andt f1 (ev_andb f2 f3)
  refine wp_req hr (qd rfl) (fun c5 => wp_nil ?_) (fun c5 => bad rfl (by unfold ckT; rw [c1, c2, c3, c4, c5]; rfl) _)
  have : ckT h.1.length t = true := by unfold ckT; rw [c1, c2, c3, c4, c5]; rfl
  rw [this]
  rfl
def IsRf (E : Evn) : Prop := ∀ (h : Hs) (t : Tbl), 0 < h.1.length → h.1.length ≤ 6 → TbB t → ckT h.1.length t = false → E.F 9 [dH h, dTb t] = .ok (.bool true)
theorem p_rf (hc : IsCt E0) (s11 : E0.sub 1 1 = true) (s10 : E0.sub 1 0 = true) (s12 : E0.sub 1 2 = false) (h : Hs) (t : Tbl) (h0 : 0 < h.1.length) (h6 : h.1.length ≤ 6) (b : TbB t) (hb : ckT h.1.length t = false) : runF E0 g9 [dH h, dTb t] = .ok (.bool true) := by
  have er := hc h t h0 h6 b
  rw [hb, if_neg Bool.false_ne_true] at er
  refine run_wp rfl ?_
  show Wp E0 g9.body [.sh (dH h), .sh (dTb t), .non] _
  refine wp_try_xc (ex_expr_xc (ev_call_xc (evs_2 (ev_var rfl) (ev_var rfl)) er)) s11 s11 (show 2 < 3 by decide) ?_
  exact wp_ret (d := .bool true) (ev_andt (ev_isx1 rfl s10) (ev_one (ev_not (ev_isx1 rfl s12)))) rfl
end
end K50

set_option maxRecDepth 1000000
set_option maxHeartbeats 4000000
/-! k50: spoilt tables. -/
namespace K50
open PySem PySem.Spec L2 Dee PyProof.Rows
def its : List Pr := [(2, 4), (0, 3), (1, 0), (3, -1), (-1, -2), (0, 0), (6, 3)]
def badq : List Pr := [(0, 1), (1, 1), (-1, 2), (3, 2), (2, 4), (1, 0), (-1, -3)]
theorem its_bad : ∀ c ∈ its, frO c = false := by decide +kernel
theorem its_pb : ∀ c ∈ its, PB c := fun c hc => by
  have : ∀ c ∈ its, c.1.natAbs < 1000 ∧ c.2.natAbs < 1000 := by decide +kernel
  exact ⟨(this c hc).1, (this c hc).2⟩
theorem badq_bad : ∀ c ∈ badq, qOk c = false := by decide +kernel
theorem badq_pb : ∀ c ∈ badq, PB c := fun c hc => by
  have : ∀ c ∈ badq, c.1.natAbs < 1000 ∧ c.2.natAbs < 1000 := by decide +kernel
  exact ⟨(this c hc).1, (this c hc).2⟩
theorem ck_parts {n : Nat} {t : Tbl} (h : ckT n t = true) : t.rows.length = n ∧ t.sc.length = n ∧ sameL t.rows = true ∧ (∀ r ∈ t.rows, ∀ c ∈ r, frO c = true) ∧ (∀ c ∈ t.sc, frO c = true) ∧ qOk t.q = true := by
  unfold ckT at h
  simp only [Bool.and_eq_true, decide_eq_true_eq, List.all_eq_true] at h
  obtain ⟨⟨h1, h2⟩, h3, h4, h5, h6⟩ := h
  exact ⟨h1, h2, h3, h4, h5, h6⟩
theorem ck_no {n : Nat} {t : Tbl} (h : ckT n t = true → False) : ckT n t = false := by
  cases e : ckT n t with
  | false => rfl
  | true => exact (h e).elim
theorem lls_map : ∀ dss : List (List D), lls (dss.map .list) = some dss
  | [] => rfl
  | xs :: r => by
    show (lls (r.map .list)).map (xs :: ·) = _
    rw [lls_map r]
    rfl
section
variable {E0 : Evn} {Γ : List Sl} {ss : CSs} {Q : Out → Prop}
theorem wp_apN {i j : Nat} {it : CI} {w e : CE} {dss : List (List D)} {n : Int} {d : D} {k : Nat} {xs : List D} (h1 : evI E0 it Γ = .ok (dss.map .list)) (h2 : ev E0 w (Γ.set i .non) = .ok (.int n)) (h3 : ev E0 e (Γ.set i .non) = .ok d) (hl : dss.length ≤ 1000) (hi : i < Γ.length) (hj : j < Γ.length)
    (hk : ixN dss.length n = some k) (hx : dss[k]? = some xs) (hxl : xs.length < 1000) (K : Wp E0 ss (Γ.set i (.own ((dss.set k (xs ++ [d])).map .list))) Q) : Wp E0 (.cons (.apN i j it w e) ss) Γ Q := by
  refine wp_cons (o := .nx (Γ.set i (.own ((dss.set k (xs ++ [d])).map .list)))) ?_ K
  show apD Γ i j (evI E0 it Γ) (ev E0 w (Γ.set i .non)) (ev E0 e (Γ.set i .non)) = _
  rw [h1, h2, h3]
  unfold apD
  simp only [lls_map, hk, hx]
  rw [if_pos ⟨by unfold most; omega, hi, hj⟩, if_pos (by unfold most; omega)]
theorem wp_stN {i j : Nat} {it : CI} {w kk e : CE} {dss : List (List D)} {n m : Int} {d : D} {k q : Nat} {xs : List D} (h1 : evI E0 it Γ = .ok (dss.map .list)) (h2 : ev E0 w (Γ.set i .non) = .ok (.int n)) (h4 : ev E0 kk (Γ.set i .non) = .ok (.int m)) (h3 : ev E0 e (Γ.set i .non) = .ok d) (hl : dss.length ≤ 1000) (hi : i < Γ.length) (hj : j < Γ.length)
    (hk : ixN dss.length n = some k) (hx : dss[k]? = some xs) (hq : ixN xs.length m = some q) (K : Wp E0 ss (Γ.set i (.own ((dss.set k (xs.set q d)).map .list))) Q) : Wp E0 (.cons (.stN i j it w kk e) ss) Γ Q := by
  refine wp_cons (o := .nx (Γ.set i (.own ((dss.set k (xs.set q d)).map .list)))) ?_ K
  show stD Γ i j (evI E0 it Γ) (ev E0 w (Γ.set i .non)) (ev E0 kk (Γ.set i .non)) (ev E0 e (Γ.set i .non)) = _
  rw [h1, h2, h3, h4]
  unfold stD
  simp only [lls_map, hk, hx, hq]
  rw [if_pos ⟨by unfold most; omega, hi, hj⟩]
theorem ixN_nat {n k : Nat} (h : k < n) : ixN n ((k : Nat) : Int) = some k := by
  unfold ixN
  rw [if_pos (show (0 : Int) ≤ (k : Int) by omega), if_pos (by omega)]
  rfl
end
section
variable {E0 : Evn}
structure RB (rows : List (List Pr)) (sc : List Pr) (q : Pr) (L : Nat) : Prop where
  n : 0 < rows.length ∧ rows.length ≤ 4
  s : sc.length = rows.length
  l : ∀ r ∈ rows, r.length = L
  L : L ≤ 41
  r : ∀ r ∈ rows, ∀ c ∈ r, PB c
  sb : ∀ c ∈ sc, PB c
  q : PB q
theorem dRow_list (rows : List (List Pr)) : rows.map dRow = (rows.map fun r => r.map dP).map .list := by rw [List.map_map]; rfl
theorem one_three : PB (1, 3) := ⟨by decide, by decide⟩
theorem one_two : PB (1, 2) := ⟨by decide, by decide⟩
def Gd (n : Nat) (ws : List Tbl) : Prop := ∀ t ∈ ws, TbB t ∧ ckT n t = false
theorem Gd.app {n : Nat} {ws vs : List Tbl} (h : Gd n ws) (h2 : Gd n vs) : Gd n (ws ++ vs) := fun t ht => by
  rcases List.mem_append.mp ht with h' | h'
  · exact h t h'
  · exact h2 t h'
theorem Gd.one {n : Nat} {t : Tbl} (b : TbB t) (c : ckT n t = true → False) : Gd n [t] := fun x hx => by
  rw [show x = t by simpa using hx]
  exact ⟨b, ck_no c⟩
theorem p_spl {rows : List (List Pr)} {sc : List Pr} {q : Pr} {L : Nat} (b : RB rows sc q L) {d : Int} (hd : 0 ≤ d) : ∃ ws : List Tbl, Gd rows.length ws ∧ runF E0 g10 [.list (rows.map dRow), dRow sc, dP q, .int d] = .ok (.list (ws.map dTb)) := by
  have bn := b.n
  have bs := b.s
  have bL := b.L
  have r0m : rows[0]'(by omega) ∈ rows := List.getElem_mem _
  have r0l := b.l _ r0m
  have tb : ∀ (rs : List (List Pr)) (s : List Pr) (c : Pr), rs.length ≤ 6 → (∀ r ∈ rs, r.length ≤ 50 ∧ ∀ c ∈ r, PB c) → s.length ≤ 6 → (∀ c ∈ s, PB c) → PB c → TbB ⟨rs, s, c⟩ := fun rs s c h1 h2 h3 h4 h5 => ⟨h1, fun r hr => (h2 r hr).1, fun r hr => (h2 r hr).2, h3, h4, h5⟩
  have rb : ∀ r ∈ rows, r.length ≤ 50 ∧ ∀ c ∈ r, PB c := fun r hr => ⟨by have := b.l r hr; omega, b.r r hr⟩
  have lenm : ∀ {Γ : List Sl} {a : CE} {X : Type} {enc : X → D} {xs : List X}, ev E0 a Γ = .ok (.list (xs.map enc)) → ev E0 (.blt .len (.cons a .nil)) Γ = .ok (.int (xs.length : Nat)) := fun e => by
    have z := ev_len (E := E0) e
    rw [List.length_map] at z
    exact z
  obtain ⟨w, hw, wn⟩ : ∃ w : Nat, d % ((rows.length : Nat) : Int) = (w : Int) ∧ w < rows.length := by
    have a := Int.emod_nonneg d (show ((rows.length : Nat) : Int) ≠ 0 by omega)
    have c := Int.emod_lt_of_pos d (show 0 < ((rows.length : Nat) : Int) by omega)
    exact ⟨(d % ((rows.length : Nat) : Int)).toNat, by omega, by omega⟩
  obtain ⟨j, hj, j7⟩ : ∃ j : Nat, d / 3 % 7 = (j : Int) ∧ j < 7 := ⟨(d / 3 % 7).toNat, by omega, by omega⟩
  have j7' : j < its.length := j7
  obtain ⟨item, hit⟩ : ∃ item, item = its[j] := ⟨_, rfl⟩
  have im : item ∈ its := by rw [hit]; exact List.getElem_mem _
  have ib := its_bad item im
  have ip := its_pb item im
  have wr := rb _ (List.getElem_mem wn)
  have wl := b.l _ (List.getElem_mem wn)
  refine run_ex rfl ?_
  show Wp E0 g10.body [.sh (.list (rows.map dRow)), .sh (dRow sc), .sh (dP q), .sh (.int d), .non, .non, .non, .non, .non, .non, .non, .non, .non, .non] _
  refine wp_set (d := .int (w : Nat)) (by rw [← hw]; exact ev_md (ev_var rfl) (lenm (ev_var rfl)) (by omega)) (show 4 < 14 by decide) ?_
  refine wp_set (d := .list (its.map dP)) rfl (show 5 < 14 by decide) ?_
  refine wp_set (d := dP item) (by rw [hit]; exact ev_idxm (enc := dP) (xs := its) (k := j) (ev_var rfl) (by rw [← hj]; exact ev_md (ev_dv (ev_var rfl) ev_int (by decide) (by decide)) ev_int (by decide)) j7') (show 6 < 14 by decide) ?_
  show Wp E0 _ [.sh (.list (rows.map dRow)), .sh (dRow sc), .sh (dP q), .sh (.int d), .sh (.int (w : Nat)), .sh (.list (its.map dP)), .sh (dP item), .non, .non, .non, .non, .non, .non, .non] _
  have dl : (rows.map fun r => r.map dP).length = rows.length := by simp
  have dw : (rows.map fun r => r.map dP)[w]? = some (rows[w].map dP) := by rw [List.getElem?_map, List.getElem?_eq_getElem wn]; rfl
  refine wp_apN (dss := rows.map fun r => r.map dP) (n := (w : Int)) (d := dP (1, 3)) (k := w) (xs := rows[w].map dP) (by rw [← dRow_list]; exact evI_lst (ev_var rfl)) (ev_var rfl) rfl (by rw [dl]; omega) (show 7 < 14 by decide) (show 11 < 14 by decide) (by rw [dl]; exact ixN_nat wn) dw (by rw [List.length_map]; omega) ?_
  rw [show ((rows.map fun r => r.map dP).set w (rows[w].map dP ++ [dP (1, 3)])).map PyData.list = (rows.set w (rows[w] ++ [(1, 3)])).map dRow by
    rw [show rows[w].map dP ++ [dP (1, 3)] = (rows[w] ++ [(1, 3)]).map dP by rw [List.map_append]; rfl, ← List.map_set (f := fun r : List Pr => r.map dP), ← dRow_list]]
  show Wp E0 _ [.sh (.list (rows.map dRow)), .sh (dRow sc), .sh (dP q), .sh (.int d), .sh (.int (w : Nat)), .sh (.list (its.map dP)), .sh (dP item), .own ((rows.set w (rows[w] ++ [(1, 3)])).map dRow), .non, .non, .non, .non, .non, .non] _
  have idx0 : ∀ {Γ : List Sl}, Γ[0]? = some (.sh (.list (rows.map dRow))) → ev E0 (.idx (.var 0) (.int 0)) Γ = .ok (dRow rows[0]) := fun h => ev_idxm (enc := dRow) (xs := rows) (k := 0) (ev_var h) ev_int (by omega)
  have lst0 : ∀ {Γ : List Sl}, Γ[0]? = some (.sh (.list (rows.map dRow))) → ev E0 (.blt .list (.cons (.idx (.var 0) (.int 0)) .nil)) Γ = .ok (dRow rows[0]) := fun {Γ} h => by
    show ((evs E0 (.cons (.idx (.var 0) (.int 0)) .nil) Γ).bind (fun ds => bltF .list ds)).map PyData.list = _
    rw [evs_1 (idx0 h)]
    rfl
  refine wp_setO (ds := ([⟨rows ++ [rows[0]], sc, q⟩, ⟨rows.drop 1, sc, q⟩, ⟨rows, sc ++ [(1, 2)], q⟩, ⟨rows, sc.drop 1, q⟩] : List Tbl).map dTb) (evF_ls (evs_cons (ev_t3 (ev_catm (f := dRow) (xs := rows) (ys := [rows[0]]) (ev_var rfl) (ev_lst1 (lst0 rfl)) (by simp; omega)) (ev_var rfl) (ev_var rfl))
    (evs_cons (ev_t3 (ev_sltm (f := dRow) (xs := rows) (k := 1) (ev_var rfl) ev_int) (ev_var rfl) (ev_var rfl))
      (evs_2 (ev_t3 (ev_var rfl) (ev_catm (f := dP) (xs := sc) (ys := [(1, 2)]) (ev_var rfl) (ev_lst1 rfl) (by simp; omega)) (ev_var rfl)) (ev_t3 (ev_var rfl) (ev_sltm (f := dP) (xs := sc) (k := 1) (ev_var rfl) ev_int) (ev_var rfl))))) (by simp)) (show 8 < 14 by decide) ?_
  obtain ⟨w4, hw4⟩ : ∃ w4, w4 = ([⟨rows ++ [rows[0]], sc, q⟩, ⟨rows.drop 1, sc, q⟩, ⟨rows, sc ++ [(1, 2)], q⟩, ⟨rows, sc.drop 1, q⟩] : List Tbl) := ⟨_, rfl⟩
  rw [← hw4]
  have g4 : Gd rows.length w4 := by
    rw [hw4]
    refine (((Gd.one (tb _ _ _ (by simp; omega) (fun r hr => ?_) (by omega) b.sb b.q) fun h => ?_).app (Gd.one (tb _ _ _ (by simp; omega) (fun r hr => rb r (List.mem_of_mem_drop hr)) (by omega) b.sb b.q) fun h => ?_)).app (Gd.one (tb _ _ _ (by omega) rb (by simp; omega) (fun c hc => ?_) b.q) fun h => ?_)).app (Gd.one (tb _ _ _ (by omega) rb (by simp; omega) (fun c hc => b.sb c (List.mem_of_mem_drop hc)) b.q) fun h => ?_)
    · rcases List.mem_append.mp hr with h | h
      · exact rb r h
      · rw [show r = rows[0] by simpa using h]
        exact rb _ r0m
    · have := (ck_parts h).1
      simp at this
    · have := (ck_parts h).1
      simp at this
      omega
    · rcases List.mem_append.mp hc with h | h
      · exact b.sb c h
      · rw [show c = (1, 2) by simpa using h]
        exact one_two
    · have := (ck_parts h).2.1
      simp at this
      omega
    · have := (ck_parts h).2.1
      simp at this
      omega
  have w4l : w4.length = 4 := by rw [hw4]; rfl
  show Wp E0 _ [.sh (.list (rows.map dRow)), .sh (dRow sc), .sh (dP q), .sh (.int d), .sh (.int (w : Nat)), .sh (.list (its.map dP)), .sh (dP item), .own ((rows.set w (rows[w] ++ [(1, 3)])).map dRow), .own (w4.map dTb), .non, .non, .non, .non, .non] _
  have z5 := evF_lc (E := E0) (Γ := [.sh (.list (rows.map dRow)), .sh (dRow sc), .sh (dP q), .sh (.int d), .sh (.int (w : Nat)), .sh (.list (its.map dP)), .sh (dP item), .own ((rows.set w (rows[w] ++ [(1, 3)])).map dRow), .own (w4.map dTb), .non, .non, .non, .non, .non]) (enc := fun i : Nat => PyData.int (i : Nat)) (g := fun i : Nat => dP (if i = w then item else sc.getD i (0, 0))) (xs := List.range sc.length) (vs := [13]) (tg := .nm 13) (it := .r1 (.blt .len (.cons (.var 1) .nil)))
    (el := .ife (.cmp .eq (.var 13) (.var 4)) (.var 6) (.idx (.var 1) (.var 13))) (evI_rn (lenm (enc := dP) (ev_var rfl)) (by omega)) (by rw [List.length_range]; unfold most; omega) (fun x hx => ⟨[.sh (.list (rows.map dRow)), .sh (dRow sc), .sh (dP q), .sh (.int d), .sh (.int (w : Nat)), .sh (.list (its.map dP)), .sh (dP item), .own ((rows.set w (rows[w] ++ [(1, 3)])).map dRow), .own (w4.map dTb), .non, .non, .non, .non, .sh (.int (x : Nat))], rfl, by
      have hx := List.mem_range.mp hx
      by_cases e : x = w
      · rw [if_pos e]
        refine ev_it (ev_cmp (t := true) (ev_var rfl) (ev_var rfl) ?_) (ev_var rfl)
        show Except.ok (decide ((x : Int) = (w : Int))) = _
        rw [decide_eq_true (by omega)]
      · rw [if_neg e, ← getD_at hx (0, 0)]
        refine ev_el (ev_cmp (t := false) (ev_var rfl) (ev_var rfl) ?_) (ev_idxm (enc := dP) (xs := sc) (k := x) (ev_var rfl) (ev_var rfl) hx)
        show Except.ok (decide ((x : Int) = (w : Int))) = _
        rw [decide_eq_false (by omega)]⟩)
  rw [show ((List.range sc.length).map fun i : Nat => dP (if i = w then item else sc.getD i (0, 0))) = (sc.set w item).map dP by
    refine List.ext_getElem (by simp) fun i h1 h2 => ?_
    have hi : i < sc.length := by simpa using h1
    rw [List.getElem_map, List.getElem_map, List.getElem_range, List.getElem_set]
    by_cases e : i = w
    · rw [if_pos e, if_pos e.symm]
    · rw [if_neg e, if_neg (fun h => e h.symm), getD_at hi (0, 0)]] at z5
  have set_mem : ∀ {c : Pr}, c ∈ sc.set w item → PB c := fun hc => by
    rcases List.mem_or_eq_of_mem_set hc with h | h
    · exact b.sb _ h
    · rw [h]; exact ip
  refine wp_app (d := dTb ⟨rows, sc.set w item, q⟩) rfl (ev_t3 (ev_var rfl) (ev_lc z5) (ev_var rfl)) (by rw [List.length_map, w4l]; decide) ?_
  have g5 : Gd rows.length (w4 ++ [⟨rows, sc.set w item, q⟩]) := g4.app (Gd.one (tb _ _ _ (by omega) rb (by simp; omega) (fun c hc => set_mem hc) b.q) fun h => by
    have := (ck_parts h).2.2.2.2.1 item (List.mem_set (by omega) _)
    rw [ib] at this
    cases this)
  have K2 : ∀ (ws : List Tbl) (x7 x9 x10 x11 x12 x13 : Sl), Gd rows.length ws → ws.length ≤ 10 → Wp E0 (dropS 8 g10.body) [.sh (.list (rows.map dRow)), .sh (dRow sc), .sh (dP q), .sh (.int d), .sh (.int (w : Nat)), .sh (.list (its.map dP)), .sh (dP item), x7, .own (ws.map dTb), x9, x10, x11, x12, x13] (fun o => ∃ ws : List Tbl, Gd rows.length ws ∧ outX g10.fr o = .ok (.list (ws.map dTb))) := fun ws x7 x9 x10 x11 x12 x13 gw wl => by
    refine wp_frz ?_
    have zl := evF_lc (E := E0) (Γ := [.sh (.list (rows.map dRow)), .sh (dRow sc), .sh (dP q), .sh (.int d), .sh (.int (w : Nat)), .sh (.list (its.map dP)), .sh (dP item), x7, .sh (.list (ws.map dTb)), x9, x10, x11, x12, x13]) (enc := dP) (g := fun c => dTb ⟨rows, sc, c⟩) (xs := badq) (vs := [12]) (tg := .nm 12) (it := .of (.lst (.cons (.tup (.cons (.int 0) (.cons (.int 1) .nil))) (.cons (.tup (.cons (.int 1) (.cons (.int 1) .nil))) (.cons (.tup (.cons (.neg (.int 1)) (.cons (.int 2) .nil))) (.cons (.tup (.cons (.int 3) (.cons (.int 2) .nil))) (.cons (.tup (.cons (.int 2) (.cons (.int 4) .nil))) (.cons (.tup (.cons (.int 1) (.cons (.int 0) .nil))) (.cons (.tup (.cons (.neg (.int 1)) (.cons (.neg (.int 3)) .nil))) .nil)))))))))
      (el := .tup (.cons (.var 0) (.cons (.var 1) (.cons (.var 12) .nil)))) (evI_lst rfl) (by decide) (fun c hc => ⟨[.sh (.list (rows.map dRow)), .sh (dRow sc), .sh (dP q), .sh (.int d), .sh (.int (w : Nat)), .sh (.list (its.map dP)), .sh (dP item), x7, .sh (.list (ws.map dTb)), x9, x10, x11, .sh (dP c), x13], rfl, ev_t3 (ev_var rfl) (ev_var rfl) (ev_var rfl)⟩)
    rw [show badq.map (fun c => dTb ⟨rows, sc, c⟩) = (badq.map fun c => (⟨rows, sc, c⟩ : Tbl)).map dTb by rw [List.map_map]; rfl] at zl
    refine wp_ret (ev_catm (f := dTb) (xs := ws) (ys := badq.map fun c => (⟨rows, sc, c⟩ : Tbl)) (ev_var rfl) (ev_lc zl) (by rw [List.length_map]; show ws.length + 7 ≤ 1000; omega)) ⟨ws ++ badq.map (fun c => (⟨rows, sc, c⟩ : Tbl)), gw.app (fun t ht => ?_), rfl⟩
    obtain ⟨c, hc, rfl⟩ := List.mem_map.mp ht
    refine ⟨tb _ _ _ (by omega) rb (by omega) b.sb (badq_pb c hc), ck_no fun h => ?_⟩
    have := (ck_parts h).2.2.2.2.2
    rw [badq_bad c hc] at this
    cases this
  have K1 : ∀ (ws : List Tbl) (x7 : Sl), Gd rows.length ws → ws.length ≤ 6 → Wp E0 (dropS 7 g10.body) [.sh (.list (rows.map dRow)), .sh (dRow sc), .sh (dP q), .sh (.int d), .sh (.int (w : Nat)), .sh (.list (its.map dP)), .sh (dP item), x7, .own (ws.map dTb), .non, .non, .non, .non, .non] (fun o => ∃ ws : List Tbl, Gd rows.length ws ∧ outX g10.fr o = .ok (.list (ws.map dTb))) := fun ws x7 gw wsl => by
    refine wp_if (ev_cmp (lenm (enc := dP) (idx0 rfl)) ev_int rfl) (fun hc => ?_) (fun _ => wp_skip (K2 ws _ _ _ _ _ _ gw (by omega)))
    have L0 : 0 < L := by
      have := of_decide_eq_true hc
      omega
    obtain ⟨a, ha, aL⟩ : ∃ a : Nat, d / 21 % ((L : Nat) : Int) = (a : Int) ∧ a < L := by
      have y1 := Int.emod_nonneg (d / 21) (show ((L : Nat) : Int) ≠ 0 by omega)
      have y2 := Int.emod_lt_of_pos (d / 21) (show 0 < ((L : Nat) : Int) by omega)
      exact ⟨(d / 21 % ((L : Nat) : Int)).toNat, by omega, by omega⟩
    refine wp_set (d := .int (a : Nat)) (by
      rw [← ha, ← r0l]
      exact ev_md (ev_dv (ev_var rfl) ev_int (by decide) (by decide)) (lenm (enc := dP) (idx0 rfl)) (by omega)) (show 9 < 14 by decide) ?_
    refine wp_stN (dss := rows.map fun r => r.map dP) (n := (w : Int)) (m := (a : Int)) (d := dP item) (k := w) (q := a) (xs := rows[w].map dP) (by rw [← dRow_list]; exact evI_lst (ev_var rfl)) (ev_var rfl) (ev_var rfl) (ev_var rfl) (by rw [dl]; omega) (show 10 < 14 by decide) (show 11 < 14 by decide) (by rw [dl]; exact ixN_nat wn) dw (by rw [List.length_map]; exact ixN_nat (by omega)) ?_
    rw [show ((rows.map fun r => r.map dP).set w ((rows[w].map dP).set a (dP item))).map PyData.list = (rows.set w (rows[w].set a item)).map dRow by
      rw [← List.map_set, ← List.map_set (f := fun r : List Pr => r.map dP), ← dRow_list]]
    refine wp_frz ?_
    show Wp E0 _ [.sh (.list (rows.map dRow)), .sh (dRow sc), .sh (dP q), .sh (.int d), .sh (.int (w : Nat)), .sh (.list (its.map dP)), .sh (dP item), x7, .own (ws.map dTb), .sh (.int (a : Nat)), .sh (.list ((rows.set w (rows[w].set a item)).map dRow)), .non, .non, .non] _
    refine wp_app (d := dTb ⟨rows.set w (rows[w].set a item), sc, q⟩) rfl (ev_t3 (ev_var rfl) (ev_var rfl) (ev_var rfl)) (by rw [List.length_map]; unfold most; omega) (wp_skip ?_)
    have gg : Gd rows.length (ws ++ [⟨rows.set w (rows[w].set a item), sc, q⟩]) := gw.app (Gd.one (tb _ _ _ (by simp; omega) (fun r hr => by
      rcases List.mem_or_eq_of_mem_set hr with h | h
      · exact rb r h
      · rw [h]
        refine ⟨by rw [List.length_set]; exact wr.1, fun c hc => ?_⟩
        rcases List.mem_or_eq_of_mem_set hc with h' | h'
        · exact wr.2 c h'
        · rw [h']; exact ip) (by omega) b.sb b.q) fun h => by
      have := (ck_parts h).2.2.2.1 (rows[w].set a item) (List.mem_set wn _) item (List.mem_set (by omega) _)
      rw [ib] at this
      cases this)
    have := K2 (ws ++ [⟨rows.set w (rows[w].set a item), sc, q⟩]) x7 (.sh (.int (a : Nat))) (.sh (.list ((rows.set w (rows[w].set a item)).map dRow))) .non .non .non gg (by simp; omega)
    rw [List.map_append] at this
    exact this
  have step : Wp E0 (dropS 6 g10.body) [.sh (.list (rows.map dRow)), .sh (dRow sc), .sh (dP q), .sh (.int d), .sh (.int (w : Nat)), .sh (.list (its.map dP)), .sh (dP item), .own ((rows.set w (rows[w] ++ [(1, 3)])).map dRow), .own ((w4 ++ [(⟨rows, sc.set w item, q⟩ : Tbl)]).map dTb), .non, .non, .non, .non, .non] (fun o => ∃ ws : List Tbl, Gd rows.length ws ∧ outX g10.fr o = .ok (.list (ws.map dTb))) := by
    refine wp_if (ev_cmp (lenm (ev_var rfl)) ev_int rfl) (fun hc => ?_) (fun _ => wp_skip (K1 _ _ g5 (by simp [w4l])))
    have n1 : 1 < rows.length := by
      have := of_decide_eq_true hc
      omega
    refine wp_frz ?_
    refine wp_app (d := dTb ⟨rows.set w (rows[w] ++ [(1, 3)]), sc, q⟩) rfl (ev_t3 (ev_var rfl) (ev_var rfl) (ev_var rfl)) (by rw [List.length_map]; simp [w4l]; decide) (wp_skip ?_)
    have gg : Gd rows.length ((w4 ++ [⟨rows, sc.set w item, q⟩]) ++ [⟨rows.set w (rows[w] ++ [(1, 3)]), sc, q⟩]) := g5.app (Gd.one (tb _ _ _ (by simp; omega) (fun r hr => by
      rcases List.mem_or_eq_of_mem_set hr with h | h
      · exact rb r h
      · rw [h]
        refine ⟨by simp; omega, fun c hc => ?_⟩
        rcases List.mem_append.mp hc with h' | h'
        · exact wr.2 c h'
        · rw [show c = (1, 3) by simpa using h']
          exact one_three) (by omega) b.sb b.q) fun h => by
      have same := (ck_parts h).2.2.1
      unfold sameL at same
      rw [List.all_eq_true] at same
      have e1 := of_decide_eq_true (same (rows[w] ++ [(1, 3)]) (List.mem_set wn _))
      obtain ⟨v, hv, vw⟩ : ∃ v, v < rows.length ∧ v ≠ w := by
        by_cases h0 : w = 0
        · exact ⟨1, by omega, by omega⟩
        · exact ⟨0, by omega, by omega⟩
      have mv : rows[v] ∈ rows.set w (rows[w] ++ [(1, 3)]) := by
        refine List.mem_of_getElem? (i := v) ?_
        rw [List.getElem?_set_ne (fun h => vw h.symm), List.getElem?_eq_getElem hv]
      have e2 := of_decide_eq_true (same _ mv)
      have l1 := b.l _ (List.getElem_mem hv)
      rw [← e2] at e1
      rw [List.length_append, l1, wl] at e1
      simp at e1)
    have := K1 ((w4 ++ [⟨rows, sc.set w item, q⟩]) ++ [⟨rows.set w (rows[w] ++ [(1, 3)]), sc, q⟩]) (.sh (.list ((rows.set w (rows[w] ++ [(1, 3)])).map dRow))) gg (by simp [w4l])
    rw [List.map_append] at this
    exact this
  rw [List.map_append] at step
  exact step
def IsSpl (E : Evn) : Prop := ∀ (rows : List (List Pr)) (sc : List Pr) (q : Pr) (L : Nat) (d : Int), RB rows sc q L → 0 ≤ d → ∃ ws : List Tbl, Gd rows.length ws ∧ E.F 10 [.list (rows.map dRow), dRow sc, dP q, .int d] = .ok (.list (ws.map dTb))
end
end K50

set_option maxRecDepth 1000000
set_option maxHeartbeats 4000000
/-! k50: the law's run. -/
namespace K50
open PySem PySem.Spec L2 Dee PyProof.Rows
def prq (q : Rat) : Pr := (q.num, ((q.den : Nat) : Int))
theorem dP_prq (q : Rat) : dP (prq q) = fq q := rfl
theorem prq_fr (q : Rat) : frO (prq q) = true := by
  have g : Nat.gcd q.num.natAbs q.den = 1 := q.reduced
  have p := q.den_pos
  show (decide (1 ≤ ((q.den : Nat) : Int)) && decide (((Nat.gcd q.num.natAbs ((q.den : Nat) : Int).natAbs : Nat) : Int) = 1)) = true
  rw [Int.natAbs_natCast, g, decide_eq_true (by omega)]
  rfl
theorem prq_pb {t l : Int} (hl : 0 < l) (h1 : l < 1000) (h2 : t.natAbs < 1000) : PB (prq ((t : Rat) / (l : Rat))) := by
  have q : QN l.toNat t.natAbs ((t : Rat) / (l : Rat)) := QN.frac hl (Nat.le_refl _)
  exact ⟨Nat.lt_of_le_of_lt q.le.1 h2, by show (((((t : Rat) / (l : Rat)).den : Nat) : Int)).natAbs < 1000; rw [Int.natAbs_natCast]; have := q.le.2; omega⟩
theorem prq_q {t l : Int} (h0 : 0 < t) (h1 : t < l) : qOk (prq ((t : Rat) / (l : Rat))) = true := by
  have l0 : 0 < l := by omega
  have ln : (l : Rat) ≠ 0 := fun e => by
    have : l = 0 := Rat.intCast_inj.mp (by rw [e]; rfl)
    omega
  have a := rat_div_pos (w := t) (T := l) (by omega) l0
  have b : (t : Rat) / (l : Rat) ≠ 0 := unit_ne l0 (by omega)
  have x0 : 0 < (t : Rat) / (l : Rat) := by grind
  have lp : (0 : Rat) ≤ (l : Rat) := Rat.intCast_le_intCast.mpr (show (0 : Int) ≤ l by omega)
  have x1 : (t : Rat) / (l : Rat) < 1 := by
    refine Rat.not_le.mp fun h => ?_
    have m := Rat.mul_le_mul_of_nonneg_right h lp
    have e : (t : Rat) / (l : Rat) * (l : Rat) = (t : Rat) := by grind
    rw [e, Rat.one_mul] at m
    have := Rat.intCast_le_intCast.mp m
    omega
  unfold qOk
  rw [prq_fr, Bool.true_and]
  generalize (t : Rat) / (l : Rat) = q at x0 x1
  have c0 : 0 * ((q.den : Nat) : Int) < q.num * 1 := (less_iff 0 q).mpr x0
  have c1 : q.num * 1 < 1 * ((q.den : Nat) : Int) := (less_iff q 1).mpr x1
  show (decide (0 * ((q.den : Nat) : Int) < q.num * 1) && decide (q.num * 1 < 1 * ((q.den : Nat) : Int))) = true
  rw [decide_eq_true c0, decide_eq_true c1]
  rfl
theorem ck_of {n : Nat} {t : Tbl} (h1 : t.rows.length = n) (h2 : t.sc.length = n) (L : Nat) (h3 : ∀ r ∈ t.rows, r.length = L) (h4 : ∀ r ∈ t.rows, ∀ c ∈ r, frO c = true) (h5 : ∀ c ∈ t.sc, frO c = true) (h6 : qOk t.q = true) : ckT n t = true := by
  unfold ckT sameL
  simp only [Bool.and_eq_true, decide_eq_true_eq, List.all_eq_true]
  refine ⟨⟨h1, h2⟩, fun r hr => ?_, h4, h5, h6⟩
  rw [h3 r hr]
  cases e : t.rows with
  | nil => rw [e] at hr; simp at hr
  | cons x xs => exact (h3 x (by rw [e]; simp)).symm
section
variable {E0 : Evn} (A : Ans E0) (hc : IsCt E0) (hr : IsRf E0) (hs : IsSpl E0)
include A hc hr hs
theorem p_end (ns : List Int) {hh : Hs} {fu gr : Bool} (HH : HB fu gr hh) {ys : List Int} (hy : okY ys 24 27720) {L : Nat} (hL : L ≤ 40) : Wp E0 (dropS 5 g11.body) [.sh (.list (ns.map .int)), .sh (dH hh), .sh (.list (ys.map .int)), .sh (.int (hh.1.length : Nat)), .sh (.int (L : Nat)), .non, .non, .non, .non, .non, .non, .non, .non, .non, .non] (fun o => outX g11.fr o = .ok (.bool true)) := by
  have yl := hy.1
  have n0 := HH.n.1
  have n4 := HH.n.2.1
  have iyn : ∀ (i : Nat) {Γ : List Sl} {a : CE} {x : Int}, Γ[2]? = some (.sh (.list (ys.map .int))) → ev E0 a Γ = .ok (.int x) → x = (i : Int) → i < 24 → ev E0 (.idx (.var 2) a) Γ = .ok (.int (ys.getD i 0)) := fun i {Γ a x} h h2 e hi => ev_idx_n (n := i) h h2 e (by omega)
  have yb : ∀ {i : Nat}, i < 24 → 0 ≤ ys.getD i 0 ∧ ys.getD i 0 < 27720 := fun hi => hy.at hi
  obtain ⟨qv, hqv⟩ : ∃ qv : Nat → Nat → Rat, qv = fun w k => ((ys.getD ((1 + 5 * w + k) % 24) 0 % 41 - 20 : Int) : Rat) / ((1 + ys.getD (k % 24) 0 % 9 : Int) : Rat) := ⟨_, rfl⟩
  obtain ⟨row, hrow⟩ : ∃ row : Nat → List Pr, row = fun w => (List.range L).map fun k => prq (qv w k) := ⟨_, rfl⟩
  obtain ⟨rows, hrows⟩ : ∃ rows, rows = (List.range hh.1.length).map row := ⟨_, rfl⟩
  have rowL : ∀ w, (row w).length = L := fun w => by rw [hrow]; simp
  have rl : rows.length = hh.1.length := by rw [hrows]; simp
  have rowm : ∀ r ∈ rows, r.length = L ∧ (∀ c ∈ r, PB c) ∧ ∀ c ∈ r, frO c = true := fun r hr => by
    rw [hrows] at hr
    obtain ⟨w, hw, rfl⟩ := List.mem_map.mp hr
    have pc : ∀ c ∈ row w, PB c ∧ frO c = true := fun c hc => by
      rw [hrow] at hc
      obtain ⟨k, hk, rfl⟩ := List.mem_map.mp hc
      rw [hqv]
      have a := yb (i := (1 + 5 * w + k) % 24) (by omega)
      have b := yb (i := k % 24) (by omega)
      exact ⟨prq_pb (by omega) (by omega) (by omega), prq_fr _⟩
    exact ⟨rowL w, fun c hc => (pc c hc).1, fun c hc => (pc c hc).2⟩
  have z5 := evF_lc (E := E0) (Γ := [.sh (.list (ns.map .int)), .sh (dH hh), .sh (.list (ys.map .int)), .sh (.int (hh.1.length : Nat)), .sh (.int (L : Nat)), .non, .non, .non, .non, .non, .non, .non, .non, .non, .non]) (enc := fun i : Nat => PyData.int (i : Nat)) (g := fun w : Nat => dRow (row w)) (xs := List.range hh.1.length) (vs := [13]) (tg := .nm 13) (it := .r1 (.var 3))
    (el := .lc [14] (.nm 14) (.r1 (.var 4)) .nil (.call 6 (.cons (.bin .sub (.bin .mod (.idx (.var 2) (.bin .mod (.bin .add (.bin .add (.int 1) (.bin .mul (.int 5) (.var 13))) (.var 14)) (.int 24))) (.int 41)) (.int 20)) (.cons (.bin .add (.int 1) (.bin .mod (.idx (.var 2) (.bin .mod (.var 14) (.int 24))) (.int 9))) .nil))))
    (evI_rn (ev_var rfl) (by omega)) (by rw [List.length_range]; unfold most; omega) (fun w hw => ⟨[.sh (.list (ns.map .int)), .sh (dH hh), .sh (.list (ys.map .int)), .sh (.int (hh.1.length : Nat)), .sh (.int (L : Nat)), .non, .non, .non, .non, .non, .non, .non, .non, .sh (.int (w : Nat)), .non], rfl, by
      have hw := List.mem_range.mp hw
      have z := evF_lc (E := E0) (Γ := [.sh (.list (ns.map .int)), .sh (dH hh), .sh (.list (ys.map .int)), .sh (.int (hh.1.length : Nat)), .sh (.int (L : Nat)), .non, .non, .non, .non, .non, .non, .non, .non, .sh (.int (w : Nat)), .non]) (enc := fun i : Nat => PyData.int (i : Nat)) (g := fun k : Nat => dP (prq (qv w k))) (xs := List.range L) (vs := [14]) (tg := .nm 14) (it := .r1 (.var 4))
        (el := .call 6 (.cons (.bin .sub (.bin .mod (.idx (.var 2) (.bin .mod (.bin .add (.bin .add (.int 1) (.bin .mul (.int 5) (.var 13))) (.var 14)) (.int 24))) (.int 41)) (.int 20)) (.cons (.bin .add (.int 1) (.bin .mod (.idx (.var 2) (.bin .mod (.var 14) (.int 24))) (.int 9))) .nil)))
        (evI_rn (ev_var rfl) (by omega)) (by rw [List.length_range]; unfold most; omega) (fun k hk => ⟨[.sh (.list (ns.map .int)), .sh (dH hh), .sh (.list (ys.map .int)), .sh (.int (hh.1.length : Nat)), .sh (.int (L : Nat)), .non, .non, .non, .non, .non, .non, .non, .non, .sh (.int (w : Nat)), .sh (.int (k : Nat))], rfl, by
          have hk := List.mem_range.mp hk
          have a := yb (i := (1 + 5 * w + k) % 24) (by omega)
          have b := yb (i := k % 24) (by omega)
          rw [hqv, dP_prq]
          exact ev_call (evs_2 (ev_sub (ev_md (iyn ((1 + 5 * w + k) % 24) rfl (ev_md (ev_add (ev_add ev_int (ev_ml ev_int (ev_var rfl) (by decide) (by omega))) (ev_var rfl)) ev_int (by decide)) (by omega) (by omega)) ev_int (by decide)) ev_int) (ev_add ev_int (ev_md (iyn (k % 24) rfl (ev_md (ev_var rfl) ev_int (by decide)) (by omega) (by omega)) ev_int (by decide)))) (frb A.l_fraction (by omega) (by omega))⟩)
      rw [show (List.range L).map (fun k : Nat => dP (prq (qv w k))) = (row w).map dP by rw [hrow, List.map_map]; rfl] at z
      exact ev_lc z⟩)
  rw [show (List.range hh.1.length).map (fun w : Nat => dRow (row w)) = rows.map dRow by rw [hrows, List.map_map]; rfl] at z5
  refine wp_set (ev_lc z5) (show 5 < 15 by decide) ?_
  obtain ⟨sc, hsc⟩ : ∃ sc, sc = (List.range hh.1.length).map fun w => prq (((ys.getD (16 + w) 0 % 41 - 20 : Int) : Rat) / ((1 + ys.getD w 0 % 9 : Int) : Rat)) := ⟨_, rfl⟩
  have sl : sc.length = hh.1.length := by rw [hsc]; simp
  have scm : ∀ c ∈ sc, PB c ∧ frO c = true := fun c hc => by
    rw [hsc] at hc
    obtain ⟨w, hw, rfl⟩ := List.mem_map.mp hc
    have hw := List.mem_range.mp hw
    have a := yb (i := 16 + w) (by omega)
    have b := yb (i := w) (by omega)
    exact ⟨prq_pb (by omega) (by omega) (by omega), prq_fr _⟩
  have z6 := evF_lc (E := E0) (Γ := [.sh (.list (ns.map .int)), .sh (dH hh), .sh (.list (ys.map .int)), .sh (.int (hh.1.length : Nat)), .sh (.int (L : Nat)), .sh (.list (rows.map dRow)), .non, .non, .non, .non, .non, .non, .non, .non, .non]) (enc := fun i : Nat => PyData.int (i : Nat)) (g := fun w : Nat => dP (prq (((ys.getD (16 + w) 0 % 41 - 20 : Int) : Rat) / ((1 + ys.getD w 0 % 9 : Int) : Rat)))) (xs := List.range hh.1.length) (vs := [13]) (tg := .nm 13) (it := .r1 (.var 3))
    (el := .call 6 (.cons (.bin .sub (.bin .mod (.idx (.var 2) (.bin .add (.int 16) (.var 13))) (.int 41)) (.int 20)) (.cons (.bin .add (.int 1) (.bin .mod (.idx (.var 2) (.var 13)) (.int 9))) .nil)))
    (evI_rn (ev_var rfl) (by omega)) (by rw [List.length_range]; unfold most; omega) (fun w hw => ⟨[.sh (.list (ns.map .int)), .sh (dH hh), .sh (.list (ys.map .int)), .sh (.int (hh.1.length : Nat)), .sh (.int (L : Nat)), .sh (.list (rows.map dRow)), .non, .non, .non, .non, .non, .non, .non, .sh (.int (w : Nat)), .non], rfl, by
      have hw := List.mem_range.mp hw
      have a := yb (i := 16 + w) (by omega)
      have b := yb (i := w) (by omega)
      exact ev_call (evs_2 (ev_sub (ev_md (iyn (16 + w) rfl (ev_add ev_int (ev_var rfl)) (by omega) (by omega)) ev_int (by decide)) ev_int) (ev_add ev_int (ev_md (iyn w rfl (ev_var rfl) rfl (by omega)) ev_int (by decide)))) (frb A.l_fraction (by omega) (by omega))⟩)
  rw [show (List.range hh.1.length).map (fun w : Nat => dP (prq (((ys.getD (16 + w) 0 % 41 - 20 : Int) : Rat) / ((1 + ys.getD w 0 % 9 : Int) : Rat)))) = sc.map dP by rw [hsc, List.map_map]; rfl] at z6
  refine wp_set (d := dRow sc) (ev_lc z6) (show 6 < 15 by decide) ?_
  have b20 := yb (i := 20) (by decide)
  obtain ⟨low, hlow⟩ : ∃ low, low = 2 + ys.getD 20 0 % 30 := ⟨_, rfl⟩
  have lb : 2 ≤ low ∧ low ≤ 31 := by omega
  refine wp_set (d := .int low) (by rw [hlow]; exact ev_add ev_int (ev_md (iyn 20 rfl ev_int rfl (by decide)) ev_int (by decide))) (show 7 < 15 by decide) ?_
  obtain ⟨tp, htp⟩ : ∃ tp, tp = 1 + ys.getD 20 0 / 30 % (low - 1) := ⟨_, rfl⟩
  have tb : 0 < tp ∧ tp < low := by
    have a := Int.emod_nonneg (ys.getD 20 0 / 30) (show low - 1 ≠ 0 by omega)
    have b := Int.emod_lt_of_pos (ys.getD 20 0 / 30) (show 0 < low - 1 by omega)
    omega
  obtain ⟨q, hq⟩ : ∃ q, q = prq ((tp : Rat) / (low : Rat)) := ⟨_, rfl⟩
  have qo : qOk q = true := by rw [hq]; exact prq_q tb.1 tb.2
  have qb : PB q := by rw [hq]; exact prq_pb (by omega) (by omega) (by omega)
  refine wp_set (d := dP q) (by
    rw [hq, dP_prq, htp]
    exact ev_call (evs_2 (ev_add ev_int (ev_md (ev_dv (iyn 20 rfl ev_int rfl (by decide)) ev_int (by decide) (by decide)) (ev_sub (ev_var rfl) ev_int) (by omega))) (ev_var rfl)) (frb A.l_fraction (by omega) (by omega))) (show 8 < 15 by decide) ?_
  have TB : TbB ⟨rows, sc, q⟩ := ⟨by show rows.length ≤ 6; omega, fun r hr => by have := (rowm r hr).1; omega, fun r hr => (rowm r hr).2.1, by show sc.length ≤ 6; omega, fun c hc => (scm c hc).1, qb⟩
  refine wp_set (d := dTb ⟨rows, sc, q⟩) (ev_t3 (ev_var rfl) (ev_var rfl) (ev_var rfl)) (show 9 < 15 by decide) ?_
  have kept := (Shw.list2 ((HH.shw).mono (k' := 7) (n' := 4000000) (by decide) (by decide)) (TB.shw.mono (k' := 7) (n' := 4000000) (by decide) (by decide))).shows (by decide) (by decide)
  refine wp_set (ev_reprV (ev_lst2 (ev_var rfl) (ev_var rfl)) kept) (show 10 < 15 by decide) ?_
  show Wp E0 _ [.sh (.list (ns.map .int)), .sh (dH hh), .sh (.list (ys.map .int)), .sh (.int (hh.1.length : Nat)), .sh (.int (L : Nat)), .sh (.list (rows.map dRow)), .sh (dRow sc), .sh (.int low), .sh (dP q), .sh (dTb ⟨rows, sc, q⟩), .sh (.str (PyData.shown (.list [dH hh, dTb ⟨rows, sc, q⟩]))), .non, .non, .non, .non] _
  have c1 := hc hh ⟨rows, sc, q⟩ n0 (by omega) TB
  rw [ck_of rl sl L (fun r hr => (rowm r hr).1) (fun r hr => (rowm r hr).2.2) (fun c hc => (scm c hc).2) qo, if_pos rfl] at c1
  obtain ⟨em, hem⟩ : ∃ em : List (List Pr), em = (List.range hh.1.length).map fun _ => [] := ⟨_, rfl⟩
  have eml : em.length = hh.1.length := by rw [hem]; simp
  have emm : ∀ r ∈ em, r = [] := fun r hr => by
    rw [hem] at hr
    obtain ⟨w, _, rfl⟩ := List.mem_map.mp hr
    rfl
  have TE : TbB ⟨em, sc, q⟩ := ⟨by show em.length ≤ 6; omega, fun r hr => by rw [emm r hr]; decide, fun r hr c hc => by rw [emm r hr] at hc; simp at hc, by show sc.length ≤ 6; omega, fun c hc => (scm c hc).1, qb⟩
  have c2 := hc hh ⟨em, sc, q⟩ n0 (by omega) TE
  rw [ck_of eml sl 0 (fun r hr => by rw [emm r hr]; rfl) (fun r hr c hc => by rw [emm r hr] at hc; simp at hc) (fun c hc => (scm c hc).2) qo, if_pos rfl] at c2
  have ze := evF_lc (E := E0) (Γ := [.sh (.list (ns.map .int)), .sh (dH hh), .sh (.list (ys.map .int)), .sh (.int (hh.1.length : Nat)), .sh (.int (L : Nat)), .sh (.list (rows.map dRow)), .sh (dRow sc), .sh (.int low), .sh (dP q), .sh (dTb ⟨rows, sc, q⟩), .sh (.str (PyData.shown (.list [dH hh, dTb ⟨rows, sc, q⟩]))), .non, .non, .non, .non]) (enc := fun i : Nat => PyData.int (i : Nat)) (g := fun _ : Nat => dRow []) (xs := List.range hh.1.length) (vs := [13]) (tg := .nm 13) (it := .r1 (.var 3)) (el := .lst .nil)
    (evI_rn (ev_var rfl) (by omega)) (by rw [List.length_range]; unfold most; omega) (fun w hw => ⟨[.sh (.list (ns.map .int)), .sh (dH hh), .sh (.list (ys.map .int)), .sh (.int (hh.1.length : Nat)), .sh (.int (L : Nat)), .sh (.list (rows.map dRow)), .sh (dRow sc), .sh (.int low), .sh (dP q), .sh (dTb ⟨rows, sc, q⟩), .sh (.str (PyData.shown (.list [dH hh, dTb ⟨rows, sc, q⟩]))), .non, .non, .sh (.int (w : Nat)), .non], rfl, rfl⟩)
  rw [show (List.range hh.1.length).map (fun _ : Nat => dRow []) = em.map dRow by rw [hem, List.map_map]; rfl] at ze
  have nn : ∀ {Γ : List Sl}, ev E0 .non Γ = .ok .none := rfl
  refine wp_iff0 (ev_orf (ev_cmp (t := false) (ev_call (evs_2 (ev_var rfl) (ev_var rfl)) c1) nn rfl) (ev_one (ev_cmp (t := false) (ev_call (evs_2 (ev_var rfl) (show ev E0 _ _ = .ok (dTb ⟨em, sc, q⟩) from ev_t3 (ev_lc ze) (ev_var rfl) (ev_var rfl))) c2) nn rfl))) ?_
  obtain ⟨ws, gw, ew⟩ := hs rows sc q L (ys.getD 21 0) ⟨⟨by omega, by omega⟩, by omega, fun r hr => (rowm r hr).1, by omega, fun r hr => (rowm r hr).2.1, fun c hc => (scm c hc).1, qb⟩ (yb (by decide)).1
  refine wp_for (enc := dTb) (xs := ws) (fun _ Γ => ∃ x11 x12, Γ = [.sh (.list (ns.map .int)), .sh (dH hh), .sh (.list (ys.map .int)), .sh (.int (hh.1.length : Nat)), .sh (.int (L : Nat)), .sh (.list (rows.map dRow)), .sh (dRow sc), .sh (.int low), .sh (dP q), .sh (dTb ⟨rows, sc, q⟩), .sh (.str (PyData.shown (.list [dH hh, dTb ⟨rows, sc, q⟩]))), x11, x12, .non, .non]) (evI_lst (ev_call (evs_cons (ev_var rfl) (evs_cons (ev_var rfl) (evs_2 (ev_var rfl) (iyn 21 rfl ev_int rfl (by decide))))) ew)) ⟨_, _, rfl⟩ ?_ ?_
  · rintro pre t post Γ e ⟨x11, x12, rfl⟩
    have ht : t ∈ ws := by rw [e]; simp
    obtain ⟨tB, tc⟩ := gw t ht
    rw [rl] at tc
    have sh := tB.shw.shows (by decide) (by decide)
    refine ⟨[.sh (.list (ns.map .int)), .sh (dH hh), .sh (.list (ys.map .int)), .sh (.int (hh.1.length : Nat)), .sh (.int (L : Nat)), .sh (.list (rows.map dRow)), .sh (dRow sc), .sh (.int low), .sh (dP q), .sh (dTb ⟨rows, sc, q⟩), .sh (.str (PyData.shown (.list [dH hh, dTb ⟨rows, sc, q⟩]))), .sh (dTb t), x12, .non, .non], rfl, ?_⟩
    refine wp_set (ev_reprV (ev_var rfl) sh) (show 12 < 15 by decide) ?_
    exact wp_iff0 (ev_orf (ev_not (ev_call (evs_2 (ev_var rfl) (ev_var rfl)) (hr hh t n0 (by omega) tB tc))) (ev_one (ev_ne0 (ev_reprV (ev_var rfl) sh) (ev_var rfl) (str_ok _)))) (wp_nil ⟨_, _, rfl⟩)
  · rintro Γ ⟨x11, x12, rfl⟩
    exact wp_ret (d := .bool true) (ev_eq1 (ev_reprV (ev_lst2 (ev_var rfl) (ev_var rfl)) kept) (ev_var rfl) (str_ok _)) rfl
theorem go (ns : List Int) : Wp E0 g11.body (slots g11.nn [.list (ns.map .int)]) (fun o => outX g11.fr o = .ok (.bool true)) := by
  obtain ⟨hh, ⟨fu, gr, HH⟩, eh⟩ := A.l_house (ns[0]?.getD 0).natAbs (ns[1]?.getD 0).natAbs
  obtain ⟨ys, hy, ey⟩ := A.l_digits (ns[2]?.getD 0).natAbs 27720 24 (by decide) (by decide) (by decide)
  have hy : okY ys 24 27720 := hy
  have yl := hy.1
  have cell : ∀ (i : Nat) {Γ : List Sl}, Γ[0]? = some (.sh (.list (ns.map .int))) → ev E0 (.call 4 (.cons (.var 0) (.cons (.int (i : Nat)) .nil))) Γ = .ok (.int ((ns[i]?.getD 0).natAbs : Nat)) := fun i {Γ} h => ev_call (evs_2 (ev_var h) ev_int) (A.l_cell ns i)
  have iy : ∀ (i : Nat) {Γ : List Sl}, i < 24 → Γ[2]? = some (.sh (.list (ys.map .int))) → ev E0 (.idx (.var 2) (.int (i : Nat))) Γ = .ok (.int (ys.getD i 0)) := fun i {Γ} hi h => ev_ix (k := i) h (by omega)
  have b0 := hy.at (i := 0) (by decide)
  show Wp E0 g11.body [.sh (.list (ns.map .int)), .non, .non, .non, .non, .non, .non, .non, .non, .non, .non, .non, .non, .non, .non] _
  refine wp_set (ev_call (evs_2 (cell 0 rfl) (cell 1 rfl)) eh) (show 1 < 15 by decide) ?_
  refine wp_set (ev_call (evs_cons (cell 2 rfl) (evs_2 ev_int ev_int)) ey) (show 2 < 15 by decide) ?_
  refine wp_set (d := .int (hh.1.length : Nat)) (by
    have z := ev_len (E := E0) (Γ := [.sh (.list (ns.map .int)), .sh (dH hh), .sh (.list (ys.map .int)), .non, .non, .non, .non, .non, .non, .non, .non, .non, .non, .non, .non]) (a := .idx (.var 1) (.int 0)) (ds := hh.1.map dW) (ev_idx (ev_var rfl) ev_int rfl)
    rw [List.length_map] at z
    exact z) (show 3 < 15 by decide) ?_
  obtain ⟨l1, h1⟩ : ∃ l1 : Nat, ys.getD 0 0 % 5 = (l1 : Int) := ⟨(ys.getD 0 0 % 5).toNat, by omega⟩
  obtain ⟨l2, h2⟩ : ∃ l2 : Nat, 5 + ys.getD 0 0 % 36 = (l2 : Int) := ⟨(5 + ys.getD 0 0 % 36).toNat, by omega⟩
  refine wp_set (d := .int (l1 : Nat)) (by rw [← h1]; exact ev_md (iy 0 (by decide) rfl) ev_int (by decide)) (show 4 < 15 by decide) ?_
  refine wp_if (ev_cmp (ev_md (iy 23 (by decide) rfl) ev_int (by decide)) ev_int rfl) (fun _ => ?_) (fun _ => ?_)
  · refine wp_set (d := .int (l2 : Nat)) (by rw [← h2]; exact ev_add ev_int (ev_md (iy 0 (by decide) rfl) ev_int (by decide))) (show 4 < 15 by decide) (wp_skip ?_)
    exact p_end A hc hr hs ns HH hy (by omega)
  · exact wp_skip (p_end A hc hr hs ns HH hy (by omega))
end
theorem a_req (k : Nat) : IsReq (E (k + 1)) := fun b => call_of (g := g2) rfl (p_req b)
theorem a_lsr (k : Nat) : IsLsR (E (k + 1)) := fun a b c d h1 h2 h3 h4 => call_of (g := g0) rfl (p_lsr h1 h2 h3 h4)
theorem a_ct (k : Nat) : IsCt (E (k + 2)) := fun h t h0 h6 b => call_of (g := g3) rfl (p_ct (a_req k) (a_is_fraction k) (a_lsr k) rfl rfl h t h0 h6 b)
theorem a_rf (k : Nat) : IsRf (E (k + 3)) := fun h t h0 h6 b hb => call_of (g := g9) rfl (p_rf (a_ct k) rfl rfl rfl h t h0 h6 b hb)
theorem a_spl (k : Nat) : IsSpl (E (k + 1)) := fun rows sc q L d b hd => by
  obtain ⟨ws, g, e⟩ := p_spl (E0 := E k) b hd
  exact ⟨ws, g, call_of (g := g10) rfl e⟩
theorem yes (ns : List Int) (hn : ns.length ≤ 63) : callN (fun i => cs[i]?) (tblS T.cls.length tbl) fs 12 11 [.list (ns.map .int)] = .ok (.bool true) :=
  (EF 12 11 _).symm.trans (call_of (k := 11) (g := g11) rfl (run_wp rfl (go (ans 0) (a_ct 9) (a_rf 8) (a_spl 10) ns)))
end K50

set_option maxRecDepth 1000000
set_option maxHeartbeats 0
/-! lastcoffer_k50_tables_checked: the looks. -/
namespace K50
open PySem PySem.Spec PyProof.Rows L2 Dee

theorem ck0 : ckF T N0 g0.body (defScope (top 8)) (defBody (top 8)) = true := by decide +kernel
theorem sc0 : FnScope N0 ["first", "second"] (defScope (top 8)) := ⟨rfl, rfl, rfl, by decide +kernel, rfl, by decide +kernel, by decide +kernel⟩
theorem ck1 : ckF T N1 g1.body (defScope (top 9)) (defBody (top 9)) = true := by decide +kernel
theorem sc1 : FnScope N1 ["item"] (defScope (top 9)) := ⟨rfl, rfl, rfl, by decide +kernel, rfl, by decide +kernel, by decide +kernel⟩
theorem ck2 : ckF T N2 g2.body (defScope (top 11)) (defBody (top 11)) = true := by decide +kernel
theorem sc2 : FnScope N2 ["holds"] (defScope (top 11)) := ⟨rfl, rfl, rfl, by decide +kernel, rfl, by decide +kernel, by decide +kernel⟩
theorem ck3 : ckF T N3 g3.body (defScope (top 12)) (defBody (top 12)) = true := by decide +kernel
theorem sc3 : FnScope N3 ["house", "table"] (defScope (top 12)) := ⟨rfl, rfl, rfl, by decide +kernel, rfl, by decide +kernel, by decide +kernel⟩
theorem ck4 : ckF T N4 g4.body (defScope (top 14)) (defBody (top 14)) = true := by decide +kernel
theorem sc4 : FnScope N4 ["_law_script", "_law_k"] (defScope (top 14)) := ⟨rfl, rfl, rfl, by decide +kernel, rfl, by decide +kernel, by decide +kernel⟩
theorem ck5 : ckF T N5 g5.body (defScope (top 15)) (defBody (top 15)) = true := by decide +kernel
theorem sc5 : FnScope N5 ["_law_cell_here", "_law_base", "_law_most"] (defScope (top 15)) := ⟨rfl, rfl, rfl, by decide +kernel, rfl, by decide +kernel, by decide +kernel⟩
theorem ck6 : ckF T N6 g6.body (defScope (top 16)) (defBody (top 16)) = true := by decide +kernel
theorem sc6 : FnScope N6 ["_law_top", "_law_low"] (defScope (top 16)) := ⟨rfl, rfl, rfl, by decide +kernel, rfl, by decide +kernel, by decide +kernel⟩
theorem ck7 : ckF T N7 g7.body (defScope (top 17)) (defBody (top 17)) = true := by decide +kernel
theorem sc7 : FnScope N7 ["_law_draw", "_law_values"] (defScope (top 17)) := ⟨rfl, rfl, rfl, by decide +kernel, rfl, by decide +kernel, by decide +kernel⟩
theorem ck8 : ckF T N8 g8.body (defScope (top 18)) (defBody (top 18)) = true := by decide +kernel
theorem sc8 : FnScope N8 ["_law_first", "_law_second"] (defScope (top 18)) := ⟨rfl, rfl, rfl, by decide +kernel, rfl, by decide +kernel, by decide +kernel⟩
theorem ck9 : ckF T N9 g9.body (defScope (top 19)) (defBody (top 19)) = true := by decide +kernel
theorem sc9 : FnScope N9 ["_law_house_here", "_law_table"] (defScope (top 19)) := ⟨rfl, rfl, rfl, by decide +kernel, rfl, by decide +kernel, by decide +kernel⟩
theorem ck10 : ckF T N10 g10.body (defScope (top 20)) (defBody (top 20)) = true := by decide +kernel
theorem sc10 : FnScope N10 ["_law_rows", "_law_scales", "_law_q", "_law_draw"] (defScope (top 20)) := ⟨rfl, rfl, rfl, by decide +kernel, rfl, by decide +kernel, by decide +kernel⟩
theorem ck11 : ckF T N11 g11.body (defScope (top 21)) (defBody (top 21)) = true := by decide +kernel
theorem sc11 : FnScope N11 ["_law_script"] (defScope (top 21)) := ⟨rfl, rfl, rfl, by decide +kernel, rfl, by decide +kernel, by decide +kernel⟩
section
variable {K : PySem.W.Frag} {h : Heap} {mg : Str → Option Value}
theorem fi0 (X : K.In h) (G : h.Ns mainGlobals mg) (c : He.SaysD fa fn K) : Nonempty (FnI T K mg "is_less" g0) := by
  obtain ⟨fd, F⟩ := c.def_ 0 (d := d0) rfl
  exact ⟨⟨_, fd, _, _, _, N0, ["first", "second"], F, He.glo_ok X G (c.fact 0 (f := .glo "is_less") rfl), FunD.bindsN F (fun _ _ _ _ _ _ us hl => match us, hl with | [_, _], _ => rfl), sc0, rfl, rfl, ck0⟩⟩
theorem fi1 (X : K.In h) (G : h.Ns mainGlobals mg) (c : He.SaysD fa fn K) : Nonempty (FnI T K mg "is_fraction" g1) := by
  obtain ⟨fd, F⟩ := c.def_ 1 (d := d1) rfl
  exact ⟨⟨_, fd, _, _, _, N1, ["item"], F, He.glo_ok X G (c.fact 1 (f := .glo "is_fraction") rfl), FunD.bindsN F (fun _ _ _ _ _ _ us hl => match us, hl with | [_], _ => rfl), sc1, rfl, rfl, ck1⟩⟩
theorem fi2 (X : K.In h) (G : h.Ns mainGlobals mg) (c : He.SaysD fa fn K) : Nonempty (FnI T K mg "require" g2) := by
  obtain ⟨fd, F⟩ := c.def_ 2 (d := d2) rfl
  exact ⟨⟨_, fd, _, _, _, N2, ["holds"], F, He.glo_ok X G (c.fact 2 (f := .glo "require") rfl), FunD.bindsN F (fun _ _ _ _ _ _ us hl => match us, hl with | [_], _ => rfl), sc2, rfl, rfl, ck2⟩⟩
theorem fi3 (X : K.In h) (G : h.Ns mainGlobals mg) (c : He.SaysD fa fn K) : Nonempty (FnI T K mg "check_table" g3) := by
  obtain ⟨fd, F⟩ := c.def_ 3 (d := d3) rfl
  exact ⟨⟨_, fd, _, _, _, N3, ["house", "table"], F, He.glo_ok X G (c.fact 3 (f := .glo "check_table") rfl), FunD.bindsN F (fun _ _ _ _ _ _ us hl => match us, hl with | [_, _], _ => rfl), sc3, rfl, rfl, ck3⟩⟩
theorem fi4 (X : K.In h) (G : h.Ns mainGlobals mg) (c : He.SaysD fa fn K) : Nonempty (FnI T K mg "_law_cell" g4) := by
  obtain ⟨fd, F⟩ := c.def_ 4 (d := d4) rfl
  exact ⟨⟨_, fd, _, _, _, N4, ["_law_script", "_law_k"], F, He.glo_ok X G (c.fact 4 (f := .glo "_law_cell") rfl), FunD.bindsN F (fun _ _ _ _ _ _ us hl => match us, hl with | [_, _], _ => rfl), sc4, rfl, rfl, ck4⟩⟩
theorem fi5 (X : K.In h) (G : h.Ns mainGlobals mg) (c : He.SaysD fa fn K) : Nonempty (FnI T K mg "_law_digits" g5) := by
  obtain ⟨fd, F⟩ := c.def_ 5 (d := d5) rfl
  exact ⟨⟨_, fd, _, _, _, N5, ["_law_cell_here", "_law_base", "_law_most"], F, He.glo_ok X G (c.fact 5 (f := .glo "_law_digits") rfl), FunD.bindsN F (fun _ _ _ _ _ _ us hl => match us, hl with | [_, _, _], _ => rfl), sc5, rfl, rfl, ck5⟩⟩
theorem fi6 (X : K.In h) (G : h.Ns mainGlobals mg) (c : He.SaysD fa fn K) : Nonempty (FnI T K mg "_law_fraction" g6) := by
  obtain ⟨fd, F⟩ := c.def_ 6 (d := d6) rfl
  exact ⟨⟨_, fd, _, _, _, N6, ["_law_top", "_law_low"], F, He.glo_ok X G (c.fact 6 (f := .glo "_law_fraction") rfl), FunD.bindsN F (fun _ _ _ _ _ _ us hl => match us, hl with | [_, _], _ => rfl), sc6, rfl, rfl, ck6⟩⟩
theorem fi7 (X : K.In h) (G : h.Ns mainGlobals mg) (c : He.SaysD fa fn K) : Nonempty (FnI T K mg "_law_spread" g7) := by
  obtain ⟨fd, F⟩ := c.def_ 7 (d := d7) rfl
  exact ⟨⟨_, fd, _, _, _, N7, ["_law_draw", "_law_values"], F, He.glo_ok X G (c.fact 7 (f := .glo "_law_spread") rfl), FunD.bindsN F (fun _ _ _ _ _ _ us hl => match us, hl with | [_, _], _ => rfl), sc7, rfl, rfl, ck7⟩⟩
theorem fi8 (X : K.In h) (G : h.Ns mainGlobals mg) (c : He.SaysD fa fn K) : Nonempty (FnI T K mg "_law_house" g8) := by
  obtain ⟨fd, F⟩ := c.def_ 8 (d := d8) rfl
  exact ⟨⟨_, fd, _, _, _, N8, ["_law_first", "_law_second"], F, He.glo_ok X G (c.fact 8 (f := .glo "_law_house") rfl), FunD.bindsN F (fun _ _ _ _ _ _ us hl => match us, hl with | [_, _], _ => rfl), sc8, rfl, rfl, ck8⟩⟩
theorem fi9 (X : K.In h) (G : h.Ns mainGlobals mg) (c : He.SaysD fa fn K) : Nonempty (FnI T K mg "_law_refused" g9) := by
  obtain ⟨fd, F⟩ := c.def_ 9 (d := d9) rfl
  exact ⟨⟨_, fd, _, _, _, N9, ["_law_house_here", "_law_table"], F, He.glo_ok X G (c.fact 9 (f := .glo "_law_refused") rfl), FunD.bindsN F (fun _ _ _ _ _ _ us hl => match us, hl with | [_, _], _ => rfl), sc9, rfl, rfl, ck9⟩⟩
theorem fi10 (X : K.In h) (G : h.Ns mainGlobals mg) (c : He.SaysD fa fn K) : Nonempty (FnI T K mg "_law_spoilt" g10) := by
  obtain ⟨fd, F⟩ := c.def_ 10 (d := d10) rfl
  exact ⟨⟨_, fd, _, _, _, N10, ["_law_rows", "_law_scales", "_law_q", "_law_draw"], F, He.glo_ok X G (c.fact 10 (f := .glo "_law_spoilt") rfl), FunD.bindsN F (fun _ _ _ _ _ _ us hl => match us, hl with | [_, _, _, _], _ => rfl), sc10, rfl, rfl, ck10⟩⟩
theorem fi11 (X : K.In h) (G : h.Ns mainGlobals mg) (c : He.SaysD fa fn K) : Nonempty (FnI T K mg "law" g11) := by
  obtain ⟨fd, F⟩ := c.def_ 11 (d := d11) rfl
  exact ⟨⟨_, fd, _, _, _, N11, ["_law_script"], F, He.glo_ok X G (c.fact 11 (f := .glo "law") rfl), FunD.bindsN F (fun _ _ _ _ _ _ us hl => match us, hl with | [_], _ => rfl), sc11, rfl, rfl, ck11⟩⟩
theorem all (X : K.In h) (G : h.Ns mainGlobals mg) (c : He.SaysD fa fn K) : ∀ (i : Nat) (x : Str), T.fns[i]? = some x → ∃ g, fs[i]? = some g ∧ Nonempty (FnI T K mg x g) := by
  intro i x e
  match i, e with
  | 0, e =>
    obtain rfl : ("is_less" : Str) = x := Option.some.inj e
    exact ⟨g0, rfl, fi0 X G c⟩
  | 1, e =>
    obtain rfl : ("is_fraction" : Str) = x := Option.some.inj e
    exact ⟨g1, rfl, fi1 X G c⟩
  | 2, e =>
    obtain rfl : ("require" : Str) = x := Option.some.inj e
    exact ⟨g2, rfl, fi2 X G c⟩
  | 3, e =>
    obtain rfl : ("check_table" : Str) = x := Option.some.inj e
    exact ⟨g3, rfl, fi3 X G c⟩
  | 4, e =>
    obtain rfl : ("_law_cell" : Str) = x := Option.some.inj e
    exact ⟨g4, rfl, fi4 X G c⟩
  | 5, e =>
    obtain rfl : ("_law_digits" : Str) = x := Option.some.inj e
    exact ⟨g5, rfl, fi5 X G c⟩
  | 6, e =>
    obtain rfl : ("_law_fraction" : Str) = x := Option.some.inj e
    exact ⟨g6, rfl, fi6 X G c⟩
  | 7, e =>
    obtain rfl : ("_law_spread" : Str) = x := Option.some.inj e
    exact ⟨g7, rfl, fi7 X G c⟩
  | 8, e =>
    obtain rfl : ("_law_house" : Str) = x := Option.some.inj e
    exact ⟨g8, rfl, fi8 X G c⟩
  | 9, e =>
    obtain rfl : ("_law_refused" : Str) = x := Option.some.inj e
    exact ⟨g9, rfl, fi9 X G c⟩
  | 10, e =>
    obtain rfl : ("_law_spoilt" : Str) = x := Option.some.inj e
    exact ⟨g10, rfl, fi10 X G c⟩
  | 11, e =>
    obtain rfl : ("law" : Str) = x := Option.some.inj e
    exact ⟨g11, rfl, fi11 X G c⟩
  | n + 12, e => exact nomatch (show (none : Option Str) = some x from e)
end
abbrev R : PySem.W.OpenRow := PySem.W.OpenLaw.row PySem.Challenge.rw_lastcoffer_k50_tables_checked
abbrev hk : PySem.W.Hook := hookG 4 (gfB2 T tbl cs) fa fn
def ob (s : PySem.W.SharedT) : AlG := obG 4 (gfB2 T tbl cs) fa fn (HandSHeadRun.getT s)
theorem ob_eq (s : PySem.W.SharedT) : ob s = hk.obs s.abs := obG_eq (HandSHeadRun.getT_eq s)
abbrev view : List Nat := [0, 21]
def loose : List Str := ["CofferError", "OutOfRange", "TooLong", "is_less", "is_fraction", "require", "check_table", "_law_cell", "_law_digits", "_law_fraction", "_law_spread", "_law_house", "_law_refused", "_law_spoilt", "NONE", "WHOLE"]
end K50

namespace K50
open PySem PySem.Spec PyProof.Rows L2 Dee
theorem run (w : World) : HandSHeadRun.RunEqI R (PySem.W.view R.prog view) hk ob 4000 loose w := by
  unfold HandSHeadRun.RunEqI
  kernel_rfl
end K50

set_option maxRecDepth 1000000
set_option maxHeartbeats 0
open PySem PySem.W PySem.Calls PyProof.Rows
theorem PySem.Challenge.cw_lastcoffer_k50_tables_checked_holds : PySem.Challenge.rw_lastcoffer_k50_tables_checked.Holds := by
  w_on; o_law
  refine HandSHeadRun.head_imp (r := K50.R) (q := view K50.R.prog K50.view) (H := K50.hk) (ob := K50.ob) (M := 4000) (loose := K50.loose) (d := HandSHeadRun.topDef K50.R.prog 21) (kwd := []) K50.ob_eq K50.run (by kernel_rfl) (by kernel_rfl) (by kernel_rfl) (by rfl) (by first | assumption | decide +kernel)
    (by decide +kernel) ⟨rfl, rfl, rfl, rfl, rfl, by decide +kernel⟩ ?hw ?hc
  case hw => w_witness2
  case hc =>
    refine Dee.walkG (l := PySem.Challenge.rw_lastcoffer_k50_tables_checked) (n := 63) (k := 12) (x := "_law_script") (law := Dee.callN (fun i => K50.cs[i]?) (Dee.tblS K50.T.cls.length K50.tbl) K50.fs 12 11) rfl (by decide) (by kernel_rfl) ⟨rfl, by decide, by decide⟩ ?F K50.yes
    intro w mg fa h Y G hmg0
    obtain ⟨K, KX, g, c⟩ := Y
    have hmg : mg ("law" : PySem.Str) = some (.ref fa) := by
      have e : (HandSHeadRun.topDef K50.R.prog 21).name = ("law" : PySem.Str) := by kernel_rfl
      rw [← e]
      exact hmg0
    obtain ⟨fd, F⟩ := c.def_ 11 (d := K50.d11) rfl
    have at_ := He.glo_ok KX G (c.fact 11 (f := .glo "law") rfl)
    have e := hmg.symm.trans at_
    cases e
    have b := L2.FunD.bindsA (ps := ["_law_script"]) F fun _ _ _ _ _ _ us hl => match us, hl with | [_], _ => rfl
    let I : Dee.FnI K50.T K mg "law" K50.g11 := ⟨_, fd, _, _, _, K50.N11, ["_law_script"], F, at_, L2.FunD.bindsN F (fun _ _ _ _ _ _ us hl => match us, hl with | [_], _ => rfl), K50.sc11, rfl, rfl, K50.ck11⟩
    exact ⟨K, Dee.clA K50.T K, fd, KX, fun s v => b s [v] rfl, fun base h1 h2 h3 => (Dee.fns_ok h3 (Dee.gf_of2 KX G g) (by decide +kernel) (K50.all KX G c) 12 11 "law" K50.g11 I rfl).imp fun _ _ _ _ h => Dee.spX_of h⟩
