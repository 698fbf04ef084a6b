import PyProof.Rows.All
import Wide.All
import OpenK.AllK
import Wide.FinOn
import PyProof.EqAt
import PyProof.EqKinds
import PyProof.TupleCall
import HandS.ForMost
import HandS.ForExc
import HandS.Lambda
import HandS.IsInst
import HandS.Wide
import HandS.Flow
import HandS.CallSlots
import HandS.SortInts
import HandS.ExcSuper
import HandS.ExcIs
import HandS.Deep
import HandS.TupAny
import HandS.Zip
import HandS.RaiseMore
import HandS.WordsExc
import HandS.ExcInit
import HandS.Defaults
import HandS.Ends
import HandS.HeadHook1
import HandS.HeadHook2
import HandS.HeadEnd
import HandS.Style
import KE.GoesMore
import PyProof.ReprLen
import PyProof.ReprRoads
import HandS.TupMul
import HandS.EndTab
import HandS.EndBits
import HandS.HeadWalk
import HandS.Head0
import HandS.Head1
import HandS.Head2
import HandS.HeadHook4
import HandS.Conv
import HandS.Iter
import KE.GoesZip
import KE.GoesEnum
import HandS.CallLocal
import HandS.SetFor
import HandS.Strs
import HandS.HeadHook3
import PySem.Challenge.RW_wayriddles_k11_whole_hands_told_back
set_option Elab.async false
set_option linter.all false
set_option maxRecDepth 100000
namespace DL
open PySem PySem.Spec PyProof.Rows L2

/-- plain data -/
inductive D where
  | non | bl (b : Bool) | int (i : Int) | str (x : Str)
  | tup (xs : List D) | lst (xs : List D)
  | dicK (ks : List Key) (vs : List D) | dicT (ks : List (List Key)) (vs : List D)
  | set (xs : List Int)
  | frl (xs : List D)
  | opq (v : V)

/-- a list, a tuple to be read, at no place of Z (or of the written part) -/
def ZL (_K : PySem.W.Frag) (Z : Addr → Prop) (H : Hp) (a : Addr) (xs : List V) : Prop := ¬ Z a ∧ H a = some (.lst xs)
/-- a list that nobody changes: the script, a list of the module's own -/
def ZF (K : PySem.W.Frag) (Z : Addr → Prop) (H : Hp) (a : Addr) (xs : List V) : Prop := (¬ Z a ∧ ∃ o, H a = some (.frz o (.lst xs))) ∨
    ∃ (o : Obj) (its : Array Value) (n : Nat), K.lookup a = some o ∧ o.cls = .type "list" ∧ o.dict = none ∧ o.data = .seq its n ∧ its.size ≤ sizeLine ∧ Vals xs its.toList
def ZT (K : PySem.W.Frag) (Z : Addr → Prop) (H : Hp) (a : Addr) (xs : List V) : Prop := (¬ Z a ∧ Rd H a (.tup xs)) ∨
    ∃ (o : Obj) (its : Array Value) (n : Nat), K.lookup a = some o ∧ o.cls = .type "tuple" ∧ o.data = .seq its n ∧ its.size ≤ sizeLine ∧ Vals xs its.toList
theorem ZL.sq {K : PySem.W.Frag} {Z : Addr → Prop} {H : Hp} {a : Addr} {xs : List V} (h : ZL K Z H a xs) : SqL K H a xs := .inl (.inl h.2)
theorem ZF.sq {K : PySem.W.Frag} {Z : Addr → Prop} {H : Hp} {a : Addr} {xs : List V} (h : ZF K Z H a xs) : SqL K H a xs := h.imp (fun h => .inr h.2) id
theorem ZT.sq {K : PySem.W.Frag} {Z : Addr → Prop} {H : Hp} {a : Addr} {xs : List V} (h : ZT K Z H a xs) : SqT K H a xs := h.imp (·.2) id

mutual
def Rp (K : PySem.W.Frag) (Z : Addr → Prop) (H : Hp) : V → D → Prop
  | v, .non => v = .non
  | v, .bl b => v = .bl b
  | v, .int i => v = .int i
  | v, .str x => v = .str x
  | v, .tup ds => ∃ a vs, v = .ref a ∧ ZT K Z H a vs ∧ Rps K Z H vs ds
  | v, .lst ds => ∃ a vs, v = .ref a ∧ ZL K Z H a vs ∧ Rps K Z H vs ds
  | v, .dicK ks ds => ∃ a kvs, v = .ref a ∧ ¬ Z a ∧ H a = some (.dK kvs) ∧ kvs.map (·.1) = ks ∧ Rps K Z H (kvs.map (·.2)) ds
  | v, .dicT ks ds => ∃ a kvs, v = .ref a ∧ ¬ Z a ∧ H a = some (.dT kvs) ∧ kvs.map (·.1) = ks ∧ Rps K Z H (kvs.map (·.2)) ds
  | v, .set xs => ∃ a S, v = .ref a ∧ ¬ Z a ∧ H a = some (.set S xs.length) ∧ ∀ i, S i = decide (i ∈ xs)
  | v, .frl ds => ∃ a vs, v = .ref a ∧ ZF K Z H a vs ∧ Rps K Z H vs ds
  | v, .opq u => v = u
def Rps (K : PySem.W.Frag) (Z : Addr → Prop) (H : Hp) : List V → List D → Prop
  | vs, [] => vs = []
  | vs, d :: ds => ∃ v r, vs = v :: r ∧ Rp K Z H v d ∧ Rps K Z H r ds
end

section
variable {K : PySem.W.Frag} {Z Z' : Addr → Prop} {H H' : Hp}
theorem Rd.kept {a : Addr} {u : HO} (h : Rd H a u) (k : ∀ o, H a = some o → H' a = some o) : Rd H' a u := h.elim (fun z => .inl (k _ z)) fun ⟨o, z⟩ => .inr ⟨o, k _ z⟩
theorem ZL.keep {a : Addr} {xs : List V} (h : ZL K Z H a xs) (k : ¬ Z a → (∃ o, H a = some o) → ¬ Z' a ∧ ∀ o, H a = some o → H' a = some o) : ZL K Z' H' a xs :=
  let q := k h.1 ⟨_, h.2⟩
  ⟨q.1, q.2 _ h.2⟩
theorem ZF.keep {a : Addr} {xs : List V} (h : ZF K Z H a xs) (k : ¬ Z a → (∃ o, H a = some o) → ¬ Z' a ∧ ∀ o, H a = some o → H' a = some o) : ZF K Z' H' a xs := by
  rcases h with ⟨n, o, r⟩ | h
  · exact .inl ⟨(k n ⟨_, r⟩).1, o, (k n ⟨_, r⟩).2 _ r⟩
  · exact .inr h
theorem ZT.keep {a : Addr} {xs : List V} (h : ZT K Z H a xs) (k : ¬ Z a → (∃ o, H a = some o) → ¬ Z' a ∧ ∀ o, H a = some o → H' a = some o) : ZT K Z' H' a xs := by
  rcases h with ⟨n, r⟩ | h
  · have e : ∃ o, H a = some o := r.elim (fun z => ⟨_, z⟩) fun ⟨o, z⟩ => ⟨_, z⟩
    exact .inl ⟨(k n e).1, Rd.kept r (k n e).2⟩
  · exact .inr h
mutual
theorem Rp.gen (k : ∀ a, ¬ Z a → (∃ o, H a = some o) → ¬ Z' a ∧ ∀ o, H a = some o → H' a = some o) : ∀ (d : D) (v : V), Rp K Z H v d → Rp K Z' H' v d
  | .non, v, h => h
  | .bl _, v, h => h
  | .int _, v, h => h
  | .str _, v, h => h
  | .opq _, v, h => h
  | .tup ds, v, h => by
    obtain ⟨a, vs, e, s, r⟩ := h
    exact ⟨a, vs, e, s.keep (k a), Rps.gen k ds vs r⟩
  | .lst ds, v, h => by
    obtain ⟨a, vs, e, s, r⟩ := h
    exact ⟨a, vs, e, s.keep (k a), Rps.gen k ds vs r⟩
  | .dicK ks ds, v, h => by
    obtain ⟨a, kvs, e, nz, s, t, r⟩ := h
    have q := k a nz ⟨_, s⟩
    exact ⟨a, kvs, e, q.1, q.2 _ s, t, Rps.gen k ds _ r⟩
  | .dicT ks ds, v, h => by
    obtain ⟨a, kvs, e, nz, s, t, r⟩ := h
    have q := k a nz ⟨_, s⟩
    exact ⟨a, kvs, e, q.1, q.2 _ s, t, Rps.gen k ds _ r⟩
  | .set xs, v, h => by
    obtain ⟨a, S, e, nz, s, t⟩ := h
    have q := k a nz ⟨_, s⟩
    exact ⟨a, S, e, q.1, q.2 _ s, t⟩
  | .frl ds, v, h => by
    obtain ⟨a, vs, e, s, r⟩ := h
    exact ⟨a, vs, e, s.keep (k a), Rps.gen k ds vs r⟩
theorem Rps.gen (k : ∀ a, ¬ Z a → (∃ o, H a = some o) → ¬ Z' a ∧ ∀ o, H a = some o → H' a = some o) : ∀ (ds : List D) (vs : List V), Rps K Z H vs ds → Rps K Z' H' vs ds
  | [], vs, h => h
  | d :: ds, vs, h => by
    obtain ⟨v, r, e, h1, h2⟩ := h
    exact ⟨v, r, e, Rp.gen k d v h1, Rps.gen k ds r h2⟩
end
theorem Rp.keep (hZ : ∀ a, Z' a → Z a) (hk : ∀ a o, H a = some o → ¬ Z a → H' a = some o) (d : D) (v : V) (h : Rp K Z H v d) : Rp K Z' H' v d :=
  Rp.gen (fun a n _ => ⟨fun z => n (hZ a z), fun o e => hk a o e n⟩) d v h
theorem Rps.keep (hZ : ∀ a, Z' a → Z a) (hk : ∀ a o, H a = some o → ¬ Z a → H' a = some o) (d : List D) (v : List V) (h : Rps K Z H v d) : Rps K Z' H' v d :=
  Rps.gen (fun a n _ => ⟨fun z => n (hZ a z), fun o e => hk a o e n⟩) d v h
theorem Rps.length : ∀ {ds : List D} {vs : List V}, Rps K Z H vs ds → vs.length = ds.length
  | [], _, h => by rw [show _ = [] from h]; rfl
  | d :: ds, _, h => by
    obtain ⟨v, r, rfl, _, h2⟩ := h
    simp [Rps.length h2]
theorem Rps.app : ∀ {ds es : List D} {vs us : List V}, Rps K Z H vs ds → Rps K Z H us es → Rps K Z H (vs ++ us) (ds ++ es)
  | [], _, _, _, h, h' => by rw [show _ = [] from h]; exact h'
  | d :: ds, _, _, _, h, h' => by
    obtain ⟨v, r, rfl, h1, h2⟩ := h
    exact ⟨v, _, rfl, h1, Rps.app h2 h'⟩
theorem Rps.get : ∀ {ds : List D} {vs : List V} {i : Nat} {v : V}, Rps K Z H vs ds → vs[i]? = some v → ∃ d, ds[i]? = some d ∧ Rp K Z H v d
  | [], _, i, v, h, e => by rw [show _ = [] from h] at e; simp at e
  | d :: ds, _, 0, v, h, e => by
    obtain ⟨w, r, rfl, h1, h2⟩ := h
    simp at e; subst e
    exact ⟨d, rfl, h1⟩
  | d :: ds, _, i + 1, v, h, e => by
    obtain ⟨w, r, rfl, h1, h2⟩ := h
    simpa using Rps.get (i := i) h2 (by simpa using e)
theorem Rps.get' : ∀ {ds : List D} {vs : List V} {i : Nat} {d : D}, Rps K Z H vs ds → ds[i]? = some d → ∃ v, vs[i]? = some v ∧ Rp K Z H v d
  | [], _, i, v, h, e => by simp at e
  | d :: ds, _, 0, v, h, e => by
    obtain ⟨w, r, rfl, h1, h2⟩ := h
    simp at e; subst e
    exact ⟨w, rfl, h1⟩
  | d :: ds, _, i + 1, v, h, e => by
    obtain ⟨w, r, rfl, h1, h2⟩ := h
    simpa using Rps.get' (i := i) h2 (by simpa using e)
theorem Rps.of : ∀ {ds : List D} {vs : List V}, vs.length = ds.length → (∀ (i : Nat) (v : V) (d : D), vs[i]? = some v → ds[i]? = some d → Rp K Z H v d) → Rps K Z H vs ds
  | [], vs, hl, _ => by cases vs with
    | nil => rfl
    | cons _ _ => simp at hl
  | d :: ds, vs, hl, h => by
    cases vs with
    | nil => simp at hl
    | cons v r => exact ⟨v, r, rfl, h 0 v d rfl rfl, Rps.of (by simpa using hl) fun i w e h1 h2 => h (i + 1) w e (by simpa using h1) (by simpa using h2)⟩
theorem Rps.set {ds : List D} {vs : List V} {v : V} {d : D} (r : Rps K Z H vs ds) (h : Rp K Z H v d) (i : Nat) : Rps K Z H (vs.set i v) (ds.set i d) := by
  refine Rps.of (by simp [r.length]) fun j w e h1 h2 => ?_
  by_cases hj : i = j
  · subst hj
    have l1 : i < vs.length := by
      have := (List.getElem?_eq_some_iff.mp h1).1; simpa using this
    have l2 : i < ds.length := by
      have := (List.getElem?_eq_some_iff.mp h2).1; simpa using this
    rw [List.getElem?_set_self l1] at h1
    rw [List.getElem?_set_self l2] at h2
    cases h1; cases h2; exact h
  · rw [List.getElem?_set_ne hj] at h1 h2
    obtain ⟨d', e1, q⟩ := r.get h1
    rw [h2] at e1; cases e1; exact q
theorem Rps.take {ds : List D} {vs : List V} (r : Rps K Z H vs ds) (n : Nat) : Rps K Z H (vs.take n) (ds.take n) := by
  refine Rps.of (by simp [r.length]) fun j w e h1 h2 => ?_
  rw [List.getElem?_take] at h1 h2
  split at h1
  · rename_i hj
    rw [if_pos hj] at h2
    obtain ⟨d', e1, q⟩ := r.get h1
    rw [h2] at e1; cases e1; exact q
  · cases h1
theorem Rps.drop {ds : List D} {vs : List V} (r : Rps K Z H vs ds) (n : Nat) : Rps K Z H (vs.drop n) (ds.drop n) := by
  refine Rps.of (by simp [r.length]) fun j w e h1 h2 => ?_
  rw [List.getElem?_drop] at h1 h2
  obtain ⟨d', e1, q⟩ := r.get h1
  rw [h2] at e1; cases e1; exact q
end

mutual
/-- nothing in it can be changed -/
def D.flat : D → Bool
  | .tup xs => D.flats xs
  | .lst _ => false
  | .dicK _ _ => false
  | .dicT _ _ => false
  | .set _ => false
  | .frl _ => false
  | _ => true
def D.flats : List D → Bool
  | [] => true
  | d :: ds => d.flat && D.flats ds
end
/-- a scalar -/
def D.scal : D → Bool
  | .non => true
  | .bl _ => true
  | .int _ => true
  | .str _ => true
  | .opq _ => true
  | _ => false
theorem Rp.scal {K : PySem.W.Frag} {Z Z' : Addr → Prop} {H H' : Hp} {v : V} {d : D} (h : d.scal = true) (r : Rp K Z H v d) : Rp K Z' H' v d := by
  cases d <;> first | exact r | cases h

/-! ### slots -/
inductive Slot where
  | emp
  | val (d : D)
  | own (d : D)
  /-- the exception that a suite holds -/
  | exc
abbrev Sl := List Slot

structure G where
  K : PySem.W.Frag
  mg : Str → Option Value
  /-- slot 0 is a caller's list, handed on to be changed -/
  m : Bool
  /-- the exception that a suite holds -/
  e : Option Addr
  /-- tables of code objects, which may grow -/
  T : List (Addr × Str)
  /-- the heap at the entry, all of which stays; places avoided then -/
  hb : Option (Hp × (Addr → Prop))

structure JC where
  H0 : Hp
  R : Addr → Prop
  Z : Addr → Prop
  B : Option Addr
  /-- tables of code objects, which may grow -/
  T : List (Addr × Str)

def own (ρ : Sl) (σ : L2.St) (a : Addr) : Prop := ∃ (i : Nat) (d : D), ρ[i]? = some (.own d) ∧ σ[i]? = some (some (.ref a))
def Av (Z : Addr → Prop) (ρ : Sl) (σ : L2.St) (a : Addr) : Prop := Z a ∨ own ρ σ a

/-- a container at a that this frame may change -/
def Tp (K : PySem.W.Frag) (Z : Addr → Prop) (H : Hp) (a : Addr) : D → Prop
  | .lst ds => ∃ vs, H a = some (.lst vs) ∧ Rps K Z H vs ds
  | .dicK ks ds => ∃ kvs, H a = some (.dK kvs) ∧ kvs.map (·.1) = ks ∧ Rps K Z H (kvs.map (·.2)) ds
  | .dicT ks ds => ∃ kvs, H a = some (.dT kvs) ∧ kvs.map (·.1) = ks ∧ Rps K Z H (kvs.map (·.2)) ds
  | .set xs => ∃ S, H a = some (.set S xs.length) ∧ ∀ i, S i = decide (i ∈ xs)
  | _ => False
section
variable {K : PySem.W.Frag} {Z Z' : Addr → Prop} {H H' : Hp} {a : Addr} {d : D}
theorem Tp.gen (k : ∀ a, ¬ Z a → (∃ o, H a = some o) → ¬ Z' a ∧ ∀ o, H a = some o → H' a = some o) (ha : ∀ o, H a = some o → H' a = some o) (t : Tp K Z H a d) : Tp K Z' H' a d := by
  cases d with
  | lst ds => obtain ⟨vs, h, r⟩ := t; exact ⟨vs, ha _ h, Rps.gen k _ _ r⟩
  | dicK ks ds => obtain ⟨vs, h, e, r⟩ := t; exact ⟨vs, ha _ h, e, Rps.gen k _ _ r⟩
  | dicT ks ds => obtain ⟨vs, h, e, r⟩ := t; exact ⟨vs, ha _ h, e, Rps.gen k _ _ r⟩
  | set xs => obtain ⟨S, h, e⟩ := t; exact ⟨S, ha _ h, e⟩
  | _ => exact t.elim
theorem Tp.keep (hZ : ∀ a, Z' a → Z a) (hk : ∀ a o, H a = some o → ¬ Z a → H' a = some o) (ha : ∀ o, H a = some o → H' a = some o) (t : Tp K Z H a d) : Tp K Z' H' a d :=
  Tp.gen (fun a n _ => ⟨fun z => n (hZ a z), fun o e => hk a o e n⟩) ha t
theorem Tp.some (t : Tp K Z H a d) : ∃ o, H a = some o := by
  cases d with
  | lst ds => obtain ⟨vs, h, r⟩ := t; exact ⟨_, h⟩
  | dicK ks ds => obtain ⟨vs, h, e, r⟩ := t; exact ⟨_, h⟩
  | dicT ks ds => obtain ⟨vs, h, e, r⟩ := t; exact ⟨_, h⟩
  | set xs => obtain ⟨S, h, e⟩ := t; exact ⟨_, h⟩
  | _ => exact t.elim
theorem Tp.rp (t : Tp K Z H a d) (hZ : ∀ a, Z' a → Z a) (n : ¬ Z' a) : Rp K Z' H (.ref a) d := by
  cases d with
  | lst ds => obtain ⟨vs, h, r⟩ := t; exact ⟨a, vs, rfl, ⟨n, h⟩, Rps.keep hZ (fun _ _ e _ => e) _ _ r⟩
  | dicK ks ds => obtain ⟨vs, h, e, r⟩ := t; exact ⟨a, vs, rfl, n, h, e, Rps.keep hZ (fun _ _ e _ => e) _ _ r⟩
  | dicT ks ds => obtain ⟨vs, h, e, r⟩ := t; exact ⟨a, vs, rfl, n, h, e, Rps.keep hZ (fun _ _ e _ => e) _ _ r⟩
  | set xs => obtain ⟨S, h, e⟩ := t; exact ⟨a, S, rfl, n, h, e⟩
  | _ => exact t.elim
end

theorem Tp.noTab {K : PySem.W.Frag} {Z : Addr → Prop} {H : Hp} {a : Addr} {d : D} (t : Tp K Z H a d) : (∀ ps, H a ≠ Option.some (HO.tbl ps)) ∧ ∀ c q, H a ≠ Option.some (LamX.CodeO c q) := by
  cases d with
  | lst ds => obtain ⟨vs, h, r⟩ := t; exact ⟨fun ps z => (by rw [h] at z; cases z), fun c q z => (by rw [h] at z; unfold LamX.CodeO at z; cases z)⟩
  | dicK ks ds => obtain ⟨vs, h, e, r⟩ := t; exact ⟨fun ps z => (by rw [h] at z; cases z), fun c q z => (by rw [h] at z; unfold LamX.CodeO at z; cases z)⟩
  | dicT ks ds => obtain ⟨vs, h, e, r⟩ := t; exact ⟨fun ps z => (by rw [h] at z; cases z), fun c q z => (by rw [h] at z; unfold LamX.CodeO at z; cases z)⟩
  | set xs => obtain ⟨S, h, e⟩ := t; exact ⟨fun ps z => (by rw [h] at z; cases z), fun c q z => (by rw [h] at z; unfold LamX.CodeO at z; cases z)⟩
  | _ => exact t.elim
theorem Tp.tabs {K : PySem.W.Frag} {Z : Addr → Prop} {H H' : Hp} {a : Addr} {d : D} {T : List (Addr × Str)} (t : Tp K Z H a d) (md : ∀ b u, H b = Option.some u → b ≠ a → H' b = Option.some u) (h : LamX.Tabs T H) : LamX.Tabs T H' := fun p hp => by
  obtain ⟨ps, h1, h2, h3⟩ := h p hp
  refine ⟨ps, md _ _ h1 fun z => t.noTab.1 ps (z ▸ h1), h2, fun pos cv hc => ?_⟩
  obtain ⟨c, e1, e2⟩ := h3 pos cv hc
  exact ⟨c, e1, md _ _ e2 fun z => t.noTab.2 _ _ (z ▸ e2)⟩
theorem tabs_md {H H' : Hp} {a : Addr} {vs : List V} {T : List (Addr × Str)} (t : H a = some (.lst vs)) (md : ∀ b u, H b = some u → b ≠ a → H' b = some u) (h : LamX.Tabs T H) : LamX.Tabs T H' := fun p hp => by
  obtain ⟨ps, h1, h2, h3⟩ := h p hp
  refine ⟨ps, md _ _ h1 fun z => ?_, h2, fun pos cv hc => ?_⟩
  · rw [z, t] at h1; cases h1
  obtain ⟨c, e1, e2⟩ := h3 pos cv hc
  refine ⟨c, e1, md _ _ e2 fun z => ?_⟩
  rw [z, t] at e2; unfold LamX.CodeO at e2; cases e2
theorem Tp.noT {K : PySem.W.Frag} {Z : Addr → Prop} {H : Hp} {a : Addr} {d : D} {T : List (Addr × Str)} (t : Tp K Z H a d) (h : LamX.Tabs T H) : ∀ p ∈ T, p.1 ≠ a := fun p hp z => by
  obtain ⟨ps, h1, _⟩ := h p hp
  exact t.noTab.1 ps (z ▸ h1)

def SlotOk (g : G) (C : JC) (ρ : Sl) (σ : L2.St) (H : Hp) (i : Nat) : Slot → Prop
  | .emp => True
  | .val d => ∃ v, σ[i]? = some (some v) ∧ Rp g.K (Av C.Z ρ σ) H v d
  | .own d => ∃ a, σ[i]? = some (some (.ref a)) ∧ Tp g.K (Av C.Z ρ σ) H a d ∧ (C.H0 a = none ∨ C.R a)
  | .exc => ∃ a, g.e = some a ∧ σ[i]? = some (some (.ref a))

def HbOk (g : G) (C : JC) (H : Hp) : Prop := ∀ B z, g.hb = some (B, z) → g.T = [] ∧ (∀ a o, B a = some o → H a = some o ∧ ∃ u, C.H0 a = some u) ∧ (∀ a, C.R a → B a = none) ∧ ∀ a, C.Z a → B a = none ∨ z a
theorem HbOk.to {g : G} {C : JC} {H H' : Hp} (h : HbOk g C H) (k : ∀ B z, g.hb = some (B, z) → ∀ a o, B a = some o → H a = some o → H' a = some o) : HbOk g C H' := fun B z e =>
  ⟨(h B z e).1, fun a o q => ⟨k B z e a o q ((h B z e).2.1 a o q).1, ((h B z e).2.1 a o q).2⟩, (h B z e).2.2.1, (h B z e).2.2.2⟩
theorem HbOk.none {g : G} {C : JC} {H : Hp} (e : g.hb = Option.none) : HbOk g C H := fun B z q => by rw [e] at q; cases q
theorem HbOk.zs {g : G} {C C' : JC} {H : Hp} (h : HbOk g C H) (h0 : C'.H0 = C.H0) (hR : C'.R = C.R) (hz : ∀ B z, g.hb = some (B, z) → ∀ a, C'.Z a → C.Z a ∨ B a = Option.none ∨ z a) : HbOk g C' H := fun B z e =>
  ⟨(h B z e).1, fun a o q => by rw [h0]; exact (h B z e).2.1 a o q, fun a r => (h B z e).2.2.1 a (by rw [← hR]; exact r), fun a r => (hz B z e a r).elim ((h B z e).2.2.2 a) id⟩
structure J (g : G) (C : JC) (ρ : Sl) (σ : L2.St) (H : Hp) : Prop where
  len : ρ.length = σ.length
  slot : ∀ (i : Nat) (s : Slot), ρ[i]? = some s → SlotOk g C ρ σ H i s
  inj : ∀ (i j : Nat) (d e : D) (a : Addr), ρ[i]? = some (.own d) → ρ[j]? = some (.own e) → σ[i]? = some (some (.ref a)) → σ[j]? = some (some (.ref a)) → i = j
  ext : ∀ a o, C.H0 a = some o → ¬ C.R a → H a = some o
  ex : ∀ a o, C.H0 a = some o → ∃ u, H a = some u
  zin : ∀ a, C.Z a → (∃ o, H a = some o) ∧ ¬ own ρ σ a
  br : ∀ a, C.B = some a → g.m = true ∧ σ[0]? = some (some (.ref a))
  tab : LamX.Tabs C.T H
  tz : ∀ p ∈ C.T, C.Z p.1
  tr : ∀ p ∈ C.T, C.R p.1
  gt : C.T = g.T
  hb : HbOk g C H

def JC.at (C : JC) (ρ : Sl) (σ : L2.St) (H : Hp) : JC := { C with H0 := H, R := fun a => own ρ σ a ∨ ∃ p ∈ C.T, p.1 = a }

section
variable {g : G} {C : JC} {ρ ρ' : Sl} {σ σ' : L2.St} {H H' : Hp} {v : V} {d : D} {a : Addr}
theorem J.ownTop (j : J g C ρ σ H) (o : own ρ σ a) : ∃ (i : Nat) (d : D), ρ[i]? = some (.own d) ∧ σ[i]? = some (some (.ref a)) ∧ Tp g.K (Av C.Z ρ σ) H a d ∧ (C.H0 a = none ∨ C.R a) := by
  obtain ⟨i, d, h1, h2⟩ := o
  obtain ⟨b, h3, h4, h5⟩ := j.slot i _ h1
  rw [h2] at h3; cases h3
  exact ⟨i, d, h1, h2, h4, h5⟩
theorem J.ownB (j : J g C ρ σ H) {B : Hp} {z : Addr → Prop} (e : g.hb = some (B, z)) (o : own ρ σ a) : B a = none := by
  obtain ⟨i, d, h1, h2, h3, h4⟩ := j.ownTop o
  rcases h4 with h4 | h4
  · cases q : B a with
    | none => rfl
    | some u =>
      obtain ⟨w, hw⟩ := ((j.hb B z e).2.1 a u q).2
      rw [hw] at h4; cases h4
  · exact (j.hb B z e).2.2.1 a h4
theorem J.zSome (j : J g C ρ σ H) (z : C.Z a) : ∃ o, H a = some o := (j.zin a z).1
theorem J.ownNZ (j : J g C ρ σ H) (o : own ρ σ a) : ¬ C.Z a := fun z => (j.zin a z).2 o
theorem J.avSome (j : J g C ρ σ H) (z : Av C.Z ρ σ a) : ∃ o, H a = some o := by
  rcases z with z | z
  · exact j.zSome z
  · obtain ⟨i, d, h1, h2, h3, h4⟩ := j.ownTop z
    exact h3.some
theorem J.new (j : J g C ρ σ H) (h : H a = none) : ¬ Av C.Z ρ σ a := fun z => by
  obtain ⟨o, e⟩ := j.avSome z
  rw [h] at e; cases e
theorem J.rebase (j : J g C ρ σ H) : J g (C.at ρ σ H) ρ σ H where
  len := j.len
  slot := fun i s h => by
    have q := j.slot i s h
    cases s with
    | emp => trivial
    | val d => exact q
    | exc => exact q
    | own d =>
      obtain ⟨a, h1, h2, h3⟩ := q
      exact ⟨a, h1, h2, .inr (.inl ⟨i, d, h, h1⟩)⟩
  inj := j.inj
  ext := fun _ _ e _ => e
  ex := fun _ o e => ⟨o, e⟩
  zin := j.zin
  br := j.br
  tab := j.tab
  tz := j.tz
  tr := fun p hp => .inr ⟨p, hp, rfl⟩
  gt := j.gt
  hb := fun B z e => ⟨(j.hb B z e).1, fun a o q => ⟨((j.hb B z e).2.1 a o q).1, _, ((j.hb B z e).2.1 a o q).1⟩, fun a r => r.elim (fun o => j.ownB e o) (fun ⟨p, hp, _⟩ => by rw [j.gt, (j.hb B z e).1] at hp; cases hp), (j.hb B z e).2.2.2⟩
theorem J.backZ {Z' : Addr → Prop} (j : J g C ρ σ H) (k : J g { C.at ρ σ H with Z := Z' } ρ' σ' H') : J g { C with Z := Z' } ρ' σ' H' where
  len := k.len
  slot := fun i s h => by
    have q := k.slot i s h
    cases s with
    | emp => trivial
    | val d => exact q
    | exc => exact q
    | own d =>
      obtain ⟨a, h1, h2, h3⟩ := q
      refine ⟨a, h1, h2, ?_⟩
      have e3 : H a = none ∨ own ρ σ a ∨ ∃ p ∈ C.T, p.1 = a := h3
      rcases e3 with e3 | e3 | ⟨p, hp, rfl⟩
      · by_cases hr : C.R a
        · exact .inr hr
        · cases e : C.H0 a with
          | none => exact .inl rfl
          | some o => rw [j.ext a o e hr] at e3; cases e3
      · obtain ⟨i, d, h1, h2, h3, h4⟩ := j.ownTop e3
        exact h4
      · exact .inr (j.tr p hp)
  inj := k.inj
  ext := fun a o e nr => by
    have e1 := j.ext a o e nr
    refine k.ext a o e1 fun z => ?_
    rcases (show own ρ σ a ∨ ∃ p ∈ C.T, p.1 = a from z) with z | ⟨p, hp, rfl⟩
    · obtain ⟨i, d, h1, h2, h3, h4⟩ := j.ownTop z
      rcases h4 with h4 | h4
      · rw [e] at h4; cases h4
      · exact nr h4
    · exact nr (j.tr p hp)
  ex := fun a o e => by
    obtain ⟨u, q⟩ := j.ex a o e
    exact k.ex a u q
  zin := k.zin
  br := k.br
  tab := k.tab
  tz := k.tz
  tr := j.tr
  gt := k.gt
  hb := fun B z e => ⟨(k.hb B z e).1, fun a o q => ⟨((k.hb B z e).2.1 a o q).1, ((j.hb B z e).2.1 a o q).2⟩, (j.hb B z e).2.2.1, (k.hb B z e).2.2.2⟩
theorem J.back (j : J g C ρ σ H) (k : J g (C.at ρ σ H) ρ' σ' H') : J g C ρ' σ' H' := j.backZ (Z' := C.Z) k
/-- what is avoided later was avoided ahead, or is new -/
theorem J.avBack (j : J g C ρ σ H) (k : J g (C.at ρ σ H) ρ' σ' H') (h : ∃ o, H a = some o) (z : Av C.Z ρ' σ' a) : Av C.Z ρ σ a := by
  rcases z with z | z
  · exact .inl z
  · obtain ⟨i, d, h1, h2, h3, h4⟩ := k.ownTop z
    have h4 : H a = none ∨ own ρ σ a ∨ ∃ p ∈ C.T, p.1 = a := h4
    rcases h4 with h4 | h4 | ⟨p, hp, rfl⟩
    · obtain ⟨o, e⟩ := h; rw [e] at h4; cases h4
    · exact .inr h4
    · exact .inl (j.tz p hp)
theorem J.stays (j : J g C ρ σ H) (k : J g (C.at ρ σ H) ρ' σ' H') : ∀ a, ¬ Av C.Z ρ σ a → (∃ o, H a = some o) → ¬ Av C.Z ρ' σ' a ∧ ∀ o, H a = some o → H' a = some o :=
  fun a n e => ⟨fun z => n (j.avBack k e z), fun o q => k.ext a o q fun z => z.elim (fun z => n (.inr z)) fun ⟨p, hp, e⟩ => n (.inl (e ▸ j.tz p hp))⟩
/-- what stands at no place of one's own stays, but for tables -/
theorem J.extN (j : J g C ρ σ H) (k : J g (C.at ρ σ H) ρ' σ' H') {o : HO} (h : H a = some o) (no : ∀ ps, o ≠ .tbl ps) (n : ¬ own ρ σ a) : H' a = some o := k.ext a o h fun z => z.elim n fun ⟨p, hp, e⟩ => by
  obtain ⟨ps, h1, _⟩ := j.tab p hp
  rw [e, h] at h1; cases h1; exact no ps rfl
theorem J.extL (j : J g C ρ σ H) (k : J g (C.at ρ σ H) ρ' σ' H') {vs : List V} (h : H a = some (.lst vs)) (n : ¬ own ρ σ a) : H' a = some (.lst vs) := j.extN k h (fun ps z => by cases z) n
/-- a value stays through what follows -/
theorem J.carry (j : J g C ρ σ H) (k : J g (C.at ρ σ H) ρ' σ' H') (d : D) (v : V) (h : Rp g.K (Av C.Z ρ σ) H v d) : Rp g.K (Av C.Z ρ' σ') H' v d := Rp.gen (j.stays k) d v h
theorem J.carrys (j : J g C ρ σ H) (k : J g (C.at ρ σ H) ρ' σ' H') (d : List D) (v : List V) (h : Rps g.K (Av C.Z ρ σ) H v d) : Rps g.K (Av C.Z ρ' σ') H' v d := Rps.gen (j.stays k) d v h
end
end DL

namespace DL
open PySem PySem.Spec PyProof.Rows L2

/-- an exception: its class's name, its own fields -/
structure Ex where
  name : Str
  fs : List (Str × D)

inductive RE (α : Type) where
  | ok (a : α) (ρ : Sl)
  | ex (x : Ex) (ρ : Sl)
  | bad
def RE.bd {α β : Type} (r : RE α) (k : α → Sl → RE β) : RE β :=
  match r with
  | .ok a ρ => k a ρ
  | .ex x ρ => .ex x ρ
  | .bad => .bad
inductive RS where
  | nx (ρ : Sl) | rt (d : D) (ρ : Sl) | bk (ρ : Sl) | ct (ρ : Sl) | ex (x : Ex) (ρ : Sl) | bad
def RE.bs {α : Type} (r : RE α) (k : α → Sl → RS) : RS :=
  match r with
  | .ok a ρ => k a ρ
  | .ex x ρ => .ex x ρ
  | .bad => .bad
/-- none: a thing that the layer does not serve -/
def RE.of {α : Type} (o : Option α) (ρ : Sl) : RE α := match o with
  | some a => .ok a ρ
  | none => .bad

abbrev FE := Sl → RE D
abbrev FT := Sl → RE Bool
abbrev FS := Sl → RS

/-- an exception of the program's own, as it lies -/
def ExR (K : PySem.W.Frag) (mg : Str → Option Value) (x : Ex) (cls : Value) (dd : Option Addr) (H : Hp) : Prop :=
  (∃ A, cls = .ref A ∧ mg x.name = some (.ref A)) ∧
  match x.fs with
  | [] => dd = none
  | f :: r => ∃ d vs, dd = some d ∧ H d = some (.xd vs) ∧ vs.map (·.1) = (f :: r).map (·.1) ∧ Rps K (fun _ => False) H (vs.map (·.2)) ((f :: r).map (·.2))

section
variable (g : G) (W : WX)
def PostG {α β : Type} (rep : (Addr → Prop) → Sl → L2.St → Hp → β → α → Prop) (C : JC) (σ : L2.St) (Q : β → Hp → Prop) : RE α → Prop
  | .ok a ρ' => ∀ b H', J g C ρ' σ H' → rep C.Z ρ' σ H' b a → Q b H'
  | .ex x ρ' => ∀ cls dd H', J g C ρ' σ H' → ExR g.K g.mg x cls dd H' → W cls dd σ H'
  | .bad => False
/-- the reading t does what f tells -/
def TrG {α β : Type} (rep : (Addr → Prop) → Sl → L2.St → Hp → β → α → Prop) (t : L2.St → Hp → (β → Hp → Prop) → Prop) (f : Sl → RE α) : Prop :=
  ∀ C ρ σ H Q, J g C ρ σ H → PostG g W rep C σ Q (f ρ) → t σ H Q
def repV (Z : Addr → Prop) (ρ : Sl) (σ : L2.St) (H : Hp) (v : V) (d : D) : Prop := Rp g.K (Av Z ρ σ) H v d
def repB (Z : Addr → Prop) (ρ : Sl) (σ : L2.St) (H : Hp) (v : Bool) (d : Bool) : Prop := v = d
abbrev TrE (t : TE) (f : FE) : Prop := TrG g W (repV g) t f
abbrev TrT (t : TT) (f : FT) : Prop := TrG g W repB t f
end

section
variable {g : G} {W : WX} {C : JC} {ρ : Sl} {σ : L2.St} {H : Hp} {α β : Type} {rep : (Addr → Prop) → Sl → L2.St → Hp → β → α → Prop} {t : L2.St → Hp → (β → Hp → Prop) → Prop} {f : Sl → RE α} {Q : β → Hp → Prop}
theorem TrG.step (h : TrG g W rep t f) (j : J g C ρ σ H) (hok : ∀ a ρ', f ρ = .ok a ρ' → ∀ b H', J g C ρ' σ H' → J g (C.at ρ σ H) ρ' σ H' → rep C.Z ρ' σ H' b a → Q b H')
    (hex : ∀ x ρ', f ρ = .ex x ρ' → ∀ cls dd H', J g C ρ' σ H' → ExR g.K g.mg x cls dd H' → W cls dd σ H') (hbad : f ρ ≠ .bad) : t σ H Q := by
  refine h (C.at ρ σ H) ρ σ H Q j.rebase ?_
  cases e : f ρ with
  | ok a ρ' => exact fun b H' k r => hok a ρ' e b H' (j.back k) k r
  | ex x ρ' => exact fun cls dd H' k r => hex x ρ' e cls dd H' (j.back k) r
  | bad => exact hbad e
end

/-! ### names -/
/-- a name's value; a container of one's own is let go -/
def fVar (i : Nat) : FE := fun ρ => match ρ[i]? with
  | some (.val d) => .ok d ρ
  | some (.own d) => .ok d (ρ.set i (.val d))
  | _ => .bad
def fC (d : D) : FE := fun ρ => .ok d ρ
section
variable {g : G} {W : WX} {C : JC} {ρ : Sl} {σ : L2.St} {H H' : Hp}
theorem own_set {i : Nat} {d : D} {a : Addr} {s : Slot} (hs : ∀ d, s ≠ .own d) (h : own (ρ.set i s) σ a) : ∃ (k : Nat) (d : D), k ≠ i ∧ ρ[k]? = some (.own d) ∧ σ[k]? = some (some (.ref a)) := by
  obtain ⟨k, e, h1, h2⟩ := h
  by_cases hk : i = k
  · subst hk
    have l : i < ρ.length := by
      have := (List.getElem?_eq_some_iff.mp h1).1; simpa using this
    rw [List.getElem?_set_self l] at h1
    exact absurd (Option.some.inj h1) (hs _)
  · rw [List.getElem?_set_ne hk] at h1
    exact ⟨k, e, fun z => hk z.symm, h1, h2⟩
/-- a container let go -/
theorem J.free {i : Nat} {d : D} {a : Addr} (j : J g C ρ σ H) (hi : ρ[i]? = some (.own d)) (ha : σ[i]? = some (some (.ref a))) : J g C (ρ.set i (.val d)) σ H ∧ Rp g.K (Av C.Z (ρ.set i (.val d)) σ) H (.ref a) d := by
  have li : i < ρ.length := (List.getElem?_eq_some_iff.mp hi).1
  have le : ∀ b, Av C.Z (ρ.set i (.val d)) σ b → Av C.Z ρ σ b := fun b z => by
    rcases z with z | z
    · exact .inl z
    · obtain ⟨k, e, _, h1, h2⟩ := own_set (d := d) (fun _ z => by cases z) z
      exact .inr ⟨k, e, h1, h2⟩
  have na : ¬ Av C.Z (ρ.set i (.val d)) σ a := fun z => by
    rcases z with z | z
    · exact j.ownNZ ⟨i, d, hi, ha⟩ z
    · obtain ⟨k, e, hk, h1, h2⟩ := own_set (d := d) (fun _ z => by cases z) z
      exact hk (j.inj k i _ _ a h1 hi h2 ha)
  have tp : Tp g.K (Av C.Z ρ σ) H a d := by
    obtain ⟨b, h1, h2, _⟩ := j.slot i _ hi
    rw [ha] at h1; cases h1; exact h2
  have rp := tp.rp le na
  refine ⟨⟨by simpa using j.len, fun k s hk => ?_, fun k l d' e' b h1 h2 h3 h4 => ?_, j.ext, j.ex, fun b z => ⟨j.zSome z, fun o => ?_⟩, j.br, j.tab, j.tz, j.tr, j.gt, j.hb⟩, rp⟩
  · by_cases hik : i = k
    · subst hik
      rw [List.getElem?_set_self li] at hk
      cases hk
      exact ⟨_, ha, rp⟩
    · rw [List.getElem?_set_ne hik] at hk
      have q := j.slot k s hk
      cases s with
      | emp => trivial
      | exc => exact q
      | val d' =>
        obtain ⟨v, h1, h2⟩ := q
        exact ⟨v, h1, Rp.keep le (fun _ _ e _ => e) _ _ h2⟩
      | own d' =>
        obtain ⟨b, h1, h2, h3⟩ := q
        exact ⟨b, h1, h2.keep le (fun _ _ e _ => e) (fun _ e => e), h3⟩
  · have f : ∀ {m : Nat} {x : D}, (ρ.set i (.val d))[m]? = some (.own x) → ρ[m]? = some (.own x) := fun {m x} q => by
      by_cases hm : i = m
      · subst hm
        rw [List.getElem?_set_self li] at q; cases q
      · rwa [List.getElem?_set_ne hm] at q
    exact j.inj k l _ _ b (f h1) (f h2) h3 h4
  · obtain ⟨k, e, _, h1, h2⟩ := own_set (d := d) (fun _ z => by cases z) o
    exact (j.zin b z).2 ⟨k, e, h1, h2⟩
theorem tr_var (i : Nat) : TrE g W (tVar i) (fVar i) := by
  intro C ρ σ H Q j p
  unfold fVar at p
  split at p
  · rename_i d e
    obtain ⟨v, h1, h2⟩ := j.slot i _ e
    exact ⟨v, h1, p v H j h2⟩
  · rename_i d e
    obtain ⟨a, h1, _, _⟩ := j.slot i _ e
    obtain ⟨j', r'⟩ := j.free e h1
    exact ⟨_, h1, p _ H j' r'⟩
  · exact p.elim
theorem tr_c {v : V} {d : D} (h : ∀ Z H, Rp g.K Z H v d) : TrE g W (tC v) (fC d) := fun C ρ σ H Q j p => p v H j (h _ _)
theorem tr_int (i : Int) : TrE g W (tC (.int i)) (fC (.int i)) := tr_c fun _ _ => rfl
theorem tr_bl (b : Bool) : TrE g W (tC (.bl b)) (fC (.bl b)) := tr_c fun _ _ => rfl
theorem tr_non : TrE g W (tC .non) (fC .non) := tr_c fun _ _ => rfl
theorem tr_str (x : Str) : TrE g W (tC (.str x)) (fC (.str x)) := tr_c fun _ _ => rfl
theorem tr_opq (v : V) : TrE g W (tC v) (fC (.opq v)) := tr_c fun _ _ => rfl

/-- the heap grows -/
def Grow (H H' : Hp) : Prop := ∀ a o, H a = some o → H' a = some o
theorem Grow.refl : Grow H H := fun _ _ h => h
theorem Grow.upd {a : Addr} {o : HO} (h : H a = none) : Grow H (upd H a o) := fun b u e => by rw [upd_ne (ne_of_none e h)]; exact e
theorem Grow.trans {H1 H2 : Hp} (a : Grow H H1) (b : Grow H1 H2) : Grow H H2 := fun c o h => b c o (a c o h)
theorem J.grow (j : J g C ρ σ H) (k : Grow H H') : J g C ρ σ H' where
  len := j.len
  slot := fun i s h => by
    have q := j.slot i s h
    cases s with
    | emp => trivial
    | exc => exact q
    | val d =>
      obtain ⟨v, h1, h2⟩ := q
      exact ⟨v, h1, Rp.keep (fun _ z => z) (fun a o e _ => k a o e) _ _ h2⟩
    | own d =>
      obtain ⟨a, h1, h2, h3⟩ := q
      exact ⟨a, h1, h2.keep (fun _ z => z) (fun a o e _ => k a o e) (fun o e => k _ o e), h3⟩
  inj := j.inj
  ext := fun a o e n => k a o (j.ext a o e n)
  ex := fun a o e => (j.ex a o e).imp fun u q => k a u q
  zin := fun a z => ⟨(j.zSome z).imp fun o e => k a o e, (j.zin a z).2⟩
  br := j.br
  tab := j.tab.ext k
  tz := j.tz
  tr := j.tr
  gt := j.gt
  hb := j.hb.to fun _ _ _ a o _ q => k a o q
end

/-! ### argument lists -/
/-- an argument: an expression, or a name that is only looked at -/
inductive Ag where
  | e (f : FE)
  | b (i : Nat)
def isSet (ρ : Sl) (i : Nat) : Bool := match ρ[i]? with
  | some (.val _) => true
  | some (.own _) => true
  | _ => false
def evA : List Ag → Sl → RE (List D)
  | [], ρ => .ok [] ρ
  | .e f :: r, ρ => (f ρ).bd fun d ρ1 => (evA r ρ1).bd fun ds ρ2 => .ok (d :: ds) ρ2
  | .b i :: r, ρ => if isSet ρ i = true then (evA r ρ).bd fun ds ρ2 => match ρ2[i]? with
    | some (.val d) => .ok (d :: ds) ρ2
    | some (.own d) => .ok (d :: ds) ρ2
    | _ => .bad
    else .bad
def bsOf : List Ag → List Nat
  | [] => []
  | .e _ :: r => bsOf r
  | .b i :: r => i :: bsOf r
section
variable (g : G) (W : WX)
/-- what a looked at thing is -/
def RpB (bs : List Nat) (Z : Addr → Prop) (ρ : Sl) (σ : L2.St) (H : Hp) (v : V) (d : D) : Prop :=
  Rp g.K (Av Z ρ σ) H v d ∨ ∃ i a, i ∈ bs ∧ ρ[i]? = some (.own d) ∧ σ[i]? = some (some (.ref a)) ∧ v = .ref a
def RpBs (bs : List Nat) (Z : Addr → Prop) (ρ : Sl) (σ : L2.St) (H : Hp) : List V → List D → Prop
  | vs, [] => vs = []
  | vs, d :: ds => ∃ v r, vs = v :: r ∧ RpB g bs Z ρ σ H v d ∧ RpBs bs Z ρ σ H r ds
def TrAg : TE → Ag → Prop
  | t, .e f => TrE g W t f
  | t, .b i => t = tVar i
abbrev TrA (t : TA) (as : List Ag) : Prop := TrG g W (RpBs g (bsOf as)) t (evA as)
end
section
variable {g : G} {W : WX} {C : JC} {ρ ρ' : Sl} {σ σ' : L2.St} {H H' : Hp}
theorem RpB.mono {bs bs' : List Nat} {Z : Addr → Prop} {v : V} {d : D} (h : ∀ i ∈ bs, i ∈ bs') (r : RpB g bs Z ρ σ H v d) : RpB g bs' Z ρ σ H v d := r.imp id fun ⟨i, a, m, q⟩ => ⟨i, a, h i m, q⟩
theorem RpBs.mono {bs bs' : List Nat} {Z : Addr → Prop} (h : ∀ i ∈ bs, i ∈ bs') : ∀ {ds : List D} {vs : List V}, RpBs g bs Z ρ σ H vs ds → RpBs g bs' Z ρ σ H vs ds
  | [], _, r => r
  | d :: ds, _, r => by
    obtain ⟨v, t, e, h1, h2⟩ := r
    exact ⟨v, t, e, h1.mono h, RpBs.mono h h2⟩
theorem tra_nil : TrA g W tNil [] := fun C ρ σ H Q j p => p [] H j rfl
theorem tra_cons {t : TE} {tr : TA} {a : Ag} {as : List Ag} (ha : TrAg g W t a) (hr : TrA g W tr as) : TrA g W (tCons t tr) (a :: as) := by
  intro C ρ σ H Q j p
  cases a with
  | e f =>
    have ha : TrE g W t f := ha
    refine ha.step j (fun d ρ1 e1 v H1 j1 k1 r1 => ?_) (fun x ρ1 e1 cls dd H1 j1 r1 => ?_) (fun e1 => ?_)
    · refine hr.step j1 (fun ds ρ2 e2 vs H2 j2 k2 r2 => ?_) (fun x ρ2 e2 cls dd H2 j2 r2 => ?_) (fun e2 => ?_)
      · simp only [evA, RE.bd, e1, e2] at p
        exact p _ _ j2 ⟨v, vs, rfl, .inl (J.carry j1 k2 _ _ r1), r2⟩
      · simp only [evA, RE.bd, e1, e2] at p
        exact p _ _ _ j2 r2
      · simp only [evA, RE.bd, e1, e2] at p
        exact p
    · simp only [evA, RE.bd, e1] at p
      exact p _ _ _ j1 r1
    · simp only [evA, RE.bd, e1] at p
      exact p
  | b i =>
    have ha : t = tVar i := ha
    subst ha
    by_cases hs : isSet ρ i = true
    · obtain ⟨v, hv⟩ : ∃ v, σ[i]? = some (some v) := by
        unfold isSet at hs
        split at hs
        · rename_i d e
          obtain ⟨v, h1, _⟩ := j.slot i _ e
          exact ⟨v, h1⟩
        · rename_i d e
          obtain ⟨a, h1, _⟩ := j.slot i _ e
          exact ⟨_, h1⟩
        · cases hs
      simp only [evA, if_pos hs, RE.bd] at p
      refine ⟨v, hv, hr.step j (fun ds ρ2 e2 vs H2 j2 k2 r2 => ?_) (fun x ρ2 e2 cls dd H2 j2 r2 => ?_) (fun e2 => ?_)⟩
      · simp only [e2] at p
        have r3 : RpBs g (bsOf (.b i :: as)) C.Z ρ2 σ H2 vs ds := r2.mono fun k hk => List.mem_cons_of_mem _ hk
        cases e3 : ρ2[i]? with
        | none => simp only [e3] at p; exact p.elim
        | some s =>
          cases s with
          | emp => simp only [e3] at p; exact p.elim
          | exc => simp only [e3] at p; exact p.elim
          | val d =>
            simp only [e3] at p
            obtain ⟨w, h1, h2⟩ := j2.slot i _ e3
            rw [hv] at h1; cases h1
            exact p _ _ j2 ⟨v, vs, rfl, .inl h2, r3⟩
          | own d =>
            simp only [e3] at p
            obtain ⟨a, h1, h2⟩ := j2.slot i _ e3
            rw [hv] at h1; cases h1
            exact p _ _ j2 ⟨_, vs, rfl, .inr ⟨i, a, List.mem_cons_self, e3, hv, rfl⟩, r3⟩
      · simp only [e2] at p
        exact p _ _ _ j2 r2
      · simp only [e2] at p
        exact p
    · simp only [evA, if_neg hs] at p
      exact p.elim
end
end DL

namespace DL
open PySem PySem.Spec PyProof.Rows L2

def Rq (K : PySem.W.Frag) (Z : Addr → Prop) (H : Hp) (v : V) (d : D) : Prop := Rp K Z H v d ∨ ∃ a, v = .ref a ∧ Tp K Z H a d
def Rqs (K : PySem.W.Frag) (Z : Addr → Prop) (H : Hp) : List V → List D → Prop
  | vs, [] => vs = []
  | vs, d :: ds => ∃ v r, vs = v :: r ∧ Rq K Z H v d ∧ Rqs K Z H r ds
/-- a reading by values does what b tells -/
def BiOk (K : PySem.W.Frag) (r : List V → Hp → VK → Prop) (b : List D → Option D) : Prop :=
  ∀ Z H vs ds d Q, (∀ a, Z a → ∃ o, H a = some o) → Rqs K Z H vs ds → b ds = some d → (∀ v H', Grow H H' → Rp K Z H' v d → Q v H') → r vs H Q
/-- what a new container holds -/
def NewC (K : PySem.W.Frag) (Z : Addr → Prop) (H : Hp) (o : HO) : D → Prop
  | .lst ds => ∃ vs, o = .lst vs ∧ Rps K Z H vs ds
  | .dicK ks ds => ∃ kvs, o = .dK kvs ∧ kvs.map (·.1) = ks ∧ Rps K Z H (kvs.map (·.2)) ds
  | .dicT ks ds => ∃ kvs, o = .dT kvs ∧ kvs.map (·.1) = ks ∧ Rps K Z H (kvs.map (·.2)) ds
  | .set xs => ∃ S, o = .set S xs.length ∧ ∀ i, S i = decide (i ∈ xs)
  | _ => False
theorem NewC.tp {K : PySem.W.Frag} {Z : Addr → Prop} {H : Hp} {o : HO} {d : D} {a : Addr} (h : NewC K Z H o d) (ha : H a = none) : Tp K (fun b => Z b ∨ b = a) (upd H a o) a d := by
  have st : ∀ b, ¬ Z b → (∃ o, H b = some o) → ¬ (Z b ∨ b = a) ∧ ∀ u, H b = some u → upd H a o b = some u := fun b n e => by
    have nb : b ≠ a := fun z => by obtain ⟨u, e⟩ := e; rw [z, ha] at e; cases e
    exact ⟨fun z => z.elim n nb, fun u e => by rw [upd_ne nb]; exact e⟩
  cases d with
  | lst ds => obtain ⟨vs, rfl, r⟩ := h; exact ⟨vs, upd_same, Rps.gen st _ _ r⟩
  | dicK ks ds => obtain ⟨vs, rfl, e, r⟩ := h; exact ⟨vs, upd_same, e, Rps.gen st _ _ r⟩
  | dicT ks ds => obtain ⟨vs, rfl, e, r⟩ := h; exact ⟨vs, upd_same, e, Rps.gen st _ _ r⟩
  | set xs => obtain ⟨S, rfl, e⟩ := h; exact ⟨S, upd_same, e⟩
  | _ => exact h.elim
/-- .. and what comes is a new container -/
def BnOk (K : PySem.W.Frag) (r : List V → Hp → VK → Prop) (b : List D → Option D) : Prop :=
  ∀ Z H vs ds d Q, (∀ a, Z a → ∃ o, H a = some o) → Rqs K Z H vs ds → b ds = some d → (∀ a o, H a = none → NewC K Z H o d → Q (.ref a) (upd H a o)) → r vs H Q
section
variable {g : G} {W : WX} {C : JC} {ρ ρ' : Sl} {σ σ' : L2.St} {H H' : Hp} {K : PySem.W.Frag} {Z : Addr → Prop}
theorem RpB.rq {bs : List Nat} {v : V} {d : D} (j : J g C ρ σ H) (r : RpB g bs C.Z ρ σ H v d) : Rq g.K (Av C.Z ρ σ) H v d := by
  rcases r with r | ⟨i, a, _, h1, h2, rfl⟩
  · exact .inl r
  · obtain ⟨b, h3, h4, _⟩ := j.slot i _ h1
    rw [h2] at h3; cases h3
    exact .inr ⟨a, rfl, h4⟩
theorem RpBs.rq {bs : List Nat} (j : J g C ρ σ H) : ∀ {ds : List D} {vs : List V}, RpBs g bs C.Z ρ σ H vs ds → Rqs g.K (Av C.Z ρ σ) H vs ds
  | [], _, r => r
  | d :: ds, _, r => by
    obtain ⟨v, t, e, h1, h2⟩ := r
    exact ⟨v, t, e, h1.rq j, RpBs.rq j h2⟩
theorem BnOk.bi {r : List V → Hp → VK → Prop} {b : List D → Option D} (h : BnOk K r b) : BiOk K r b := fun Z H vs ds d Q hz hr hb q =>
  h Z H vs ds d Q hz hr hb fun a o ha t => q _ _ (Grow.upd ha) ((t.tp ha).rp (fun _ z => .inl z) fun z => by obtain ⟨u, e⟩ := hz a z; rw [ha] at e; cases e)
def fApp (b : List D → Option D) (as : List Ag) : FE := fun ρ => (evA as ρ).bd fun ds ρ' => .of (b ds) ρ'
theorem tr_app {r : List V → Hp → VK → Prop} {b : List D → Option D} {t : TA} {as : List Ag} (h : BiOk g.K r b) (ha : TrA g W t as) : TrE g W (tCB r t) (fApp b as) := by
  intro C ρ σ H Q j p
  refine ha.step j (fun ds ρ1 e1 vs H1 j1 k1 r1 => ?_) (fun x ρ1 e1 cls dd H1 j1 r1 => ?_) (fun e1 => ?_)
  · cases e2 : b ds with
    | none => simp only [fApp, RE.bd, RE.of, e1, e2] at p; exact p.elim
    | some d =>
      simp only [fApp, RE.bd, RE.of, e1, e2] at p
      exact h _ H1 vs ds d Q (fun a z => j1.avSome z) (r1.rq j1) e2 fun v H' k q => p v H' (j1.grow k) q
  · simp only [fApp, RE.bd, e1] at p
    exact p _ _ _ j1 r1
  · simp only [fApp, RE.bd, e1] at p
    exact p
/-- two operands, one -/
def r2 (r : R2) : List V → Hp → VK → Prop := fun vs H Q => match vs with
  | [x, y] => r x y H Q
  | _ => False
def r1 (r : V → Hp → VK → Prop) : List V → Hp → VK → Prop := fun vs H Q => match vs with
  | [x] => r x H Q
  | _ => False
theorem tr_op {r : R2} {b : List D → Option D} {ta tb : TE} {x y : Ag} (h : BiOk g.K (r2 r) b) (ha : TrAg g W ta x) (hb : TrAg g W tb y) : TrE g W (tOp r ta tb) (fApp b [x, y]) := fun C ρ σ H Q j p =>
  tr_app h (tra_cons ha (tra_cons hb tra_nil)) C ρ σ H Q j p
theorem tr_un {r : V → Hp → VK → Prop} {b : List D → Option D} {ta : TE} {x : Ag} (h : BiOk g.K (r1 r) b) (ha : TrAg g W ta x) : TrE g W (tUn r ta) (fApp b [x]) := fun C ρ σ H Q j p =>
  tr_app h (tra_cons ha tra_nil) C ρ σ H Q j p

/-! ### new containers -/
def JC.plus (C : JC) (a : Addr) : JC := { C with Z := fun b => C.Z b ∨ b = a }
def PostN (g : G) (W : WX) (C : JC) (σ : L2.St) (Q : VK) : RE D → Prop
  | .ok d ρ' => ∀ a H', J g (C.plus a) ρ' σ H' → Tp g.K (Av (C.plus a).Z ρ' σ) H' a d → C.H0 a = none → ¬ C.Z a → Q (.ref a) H'
  | .ex x ρ' => ∀ cls dd H', J g C ρ' σ H' → ExR g.K g.mg x cls dd H' → W cls dd σ H'
  | .bad => False
def TrN (g : G) (W : WX) (t : TE) (f : FE) : Prop := ∀ C ρ σ H Q, J g C ρ σ H → PostN g W C σ Q (f ρ) → t σ H Q
theorem av_plus {a b : Addr} (z : Av C.Z ρ σ b) : Av (C.plus a).Z ρ σ b := z.imp Or.inl id
theorem J.unplus {a : Addr} (j : J g (C.plus a) ρ σ H) (tz : ∀ p ∈ C.T, C.Z p.1) : J g C ρ σ H where
  len := j.len
  slot := fun i s h => by
    have q := j.slot i s h
    cases s with
    | emp => trivial
    | exc => exact q
    | val d =>
      obtain ⟨v, h1, h2⟩ := q
      exact ⟨v, h1, Rp.keep (fun _ z => av_plus z) (fun _ _ e _ => e) _ _ h2⟩
    | own d =>
      obtain ⟨b, h1, h2, h3⟩ := q
      exact ⟨b, h1, h2.keep (fun _ z => av_plus z) (fun _ _ e _ => e) (fun _ e => e), h3⟩
  inj := j.inj
  ext := j.ext
  ex := j.ex
  zin := fun b z => j.zin b (.inl z)
  br := j.br
  tab := j.tab
  tz := tz
  tr := j.tr
  gt := j.gt
  hb := j.hb.zs rfl rfl fun _ _ _ _ z => .inl (.inl z)
theorem TrN.e {t : TE} {f : FE} (h : TrN g W t f) : TrE g W t f := by
  intro C ρ σ H Q j p
  refine h C ρ σ H Q j ?_
  cases e : f ρ with
  | ok d ρ' =>
    intro a H' j' tp _ nz
    rw [e] at p
    have na : ¬ Av C.Z ρ' σ a := fun z => z.elim nz fun z => (j'.zin a (.inr rfl)).2 z
    exact p _ H' (j'.unplus j.tz) (tp.rp (fun _ z => av_plus z) na)
  | ex x ρ' => rw [e] at p; exact p
  | bad => rw [e] at p; exact p
/-- a fresh place beside -/
theorem J.plus (j : J g C ρ σ H) {a : Addr} {o : HO} (ha : H a = none) : J g (C.plus a) ρ σ (upd H a o) := by
  have st : ∀ b, ¬ Av C.Z ρ σ b → (∃ o, H b = some o) → ¬ Av (C.plus a).Z ρ σ b ∧ ∀ u, H b = some u → upd H a o b = some u := fun b n e => by
    have nb : b ≠ a := fun z => by obtain ⟨u, e⟩ := e; rw [z, ha] at e; cases e
    refine ⟨fun z => ?_, fun u e => by rw [upd_ne nb]; exact e⟩
    rcases z with (z | z) | z
    · exact n (.inl z)
    · exact nb z
    · exact n (.inr z)
  have gr : ∀ b u, H b = some u → upd H a o b = some u := Grow.upd ha
  refine ⟨j.len, fun i s h => ?_, j.inj, fun b u e n => gr b u (j.ext b u e n), fun b u e => (j.ex b u e).imp fun x q => gr b x q, fun b z => ?_, j.br, j.tab.ext gr, fun p hp => .inl (j.tz p hp), j.tr, j.gt, (j.hb.to fun _ _ _ b u _ q => gr b u q).zs rfl rfl fun B z e b zb => zb.imp id fun zb => .inl (by
    cases q : B b with
    | none => rfl
    | some u => have w := ((j.hb B z e).2.1 b u q).1; rw [zb, ha] at w; cases w)⟩
  · have q := j.slot i s h
    cases s with
    | emp => trivial
    | exc => exact q
    | val d =>
      obtain ⟨v, h1, h2⟩ := q
      exact ⟨v, h1, Rp.gen st _ _ h2⟩
    | own d =>
      obtain ⟨b, h1, h2, h3⟩ := q
      exact ⟨b, h1, h2.gen st (fun u e => gr b u e), h3⟩
  · rcases z with z | z
    · exact ⟨(j.zSome z).imp fun u e => gr b u e, (j.zin b z).2⟩
    · subst z
      refine ⟨⟨o, upd_same⟩, fun z => ?_⟩
      obtain ⟨i, d, h1, h2, h3, h4⟩ := j.ownTop z
      obtain ⟨u, e⟩ := h3.some
      rw [ha] at e; cases e
theorem trn_app {r : List V → Hp → VK → Prop} {b : List D → Option D} {t : TA} {as : List Ag} (h : BnOk g.K r b) (ha : TrA g W t as) : TrN g W (tCB r t) (fApp b as) := by
  intro C ρ σ H Q j p
  refine ha.step j (fun ds ρ1 e1 vs H1 j1 k1 r1 => ?_) (fun x ρ1 e1 cls dd H1 j1 r1 => ?_) (fun e1 => ?_)
  · cases e2 : b ds with
    | none => simp only [fApp, RE.bd, RE.of, e1, e2] at p; exact p.elim
    | some d =>
      simp only [fApp, RE.bd, RE.of, e1, e2] at p
      refine h _ H1 vs ds d Q (fun a z => j1.avSome z) (r1.rq j1) e2 fun a o hn tp => ?_
      have jp := j1.plus (o := o) hn
      refine p a _ jp ((tp.tp hn).keep (fun b z => ?_) (fun _ _ e _ => e) (fun _ e => e)) ?_ ?_
      · rcases z with (z | z) | z
        · exact .inl (.inl z)
        · exact .inr z
        · exact .inl (.inr z)
      · cases e : C.H0 a with
        | none => rfl
        | some u =>
          obtain ⟨x, q⟩ := j1.ex a u e
          rw [hn] at q; cases q
      · intro z
        obtain ⟨u, e⟩ := j1.zSome z
        rw [hn] at e; cases e
  · simp only [fApp, RE.bd, e1] at p
    exact p _ _ _ j1 r1
  · simp only [fApp, RE.bd, e1] at p
    exact p
end
end DL

namespace DL
open PySem PySem.Spec PyProof.Rows L2

section
variable {K : PySem.W.Frag} {Z : Addr → Prop} {H : Hp}
/-! ### what a reader sees -/
theorem Rqs.one {vs : List V} {d : D} (h : Rqs K Z H vs [d]) : ∃ v, vs = [v] ∧ Rq K Z H v d := by
  obtain ⟨v, r, e, h1, h2⟩ := h
  rw [show r = [] from h2] at e
  exact ⟨v, e, h1⟩
theorem Rqs.two {vs : List V} {d e : D} (h : Rqs K Z H vs [d, e]) : ∃ v u, vs = [v, u] ∧ Rq K Z H v d ∧ Rq K Z H u e := by
  obtain ⟨v, r, e, h1, h2⟩ := h
  obtain ⟨u, rfl, h3⟩ := Rqs.one h2
  exact ⟨v, u, e, h1, h3⟩
theorem Rq.int {v : V} {i : Int} (h : Rq K Z H v (.int i)) : v = .int i := h.elim id fun ⟨_, _, t⟩ => t.elim
theorem Rq.bl {v : V} {i : Bool} (h : Rq K Z H v (.bl i)) : v = .bl i := h.elim id fun ⟨_, _, t⟩ => t.elim
theorem Rq.str {v : V} {i : Str} (h : Rq K Z H v (.str i)) : v = .str i := h.elim id fun ⟨_, _, t⟩ => t.elim
theorem Rq.non {v : V} (h : Rq K Z H v .non) : v = .non := h.elim id fun ⟨_, _, t⟩ => t.elim
theorem Rq.opq {v u : V} (h : Rq K Z H v (.opq u)) : v = u := h.elim id fun ⟨_, _, t⟩ => t.elim
theorem Rq.lst {v : V} {ds : List D} (h : Rq K Z H v (.lst ds)) : ∃ a vs, v = .ref a ∧ H a = some (.lst vs) ∧ Rps K Z H vs ds := by
  rcases h with ⟨a, vs, e, s, r⟩ | ⟨a, e, vs, s, r⟩
  · exact ⟨a, vs, e, s.2, r⟩
  · exact ⟨a, vs, e, s, r⟩
theorem Rq.tup {v : V} {ds : List D} (h : Rq K Z H v (.tup ds)) : ∃ a vs, v = .ref a ∧ ZT K Z H a vs ∧ Rps K Z H vs ds := h.elim id fun ⟨_, _, t⟩ => t.elim
theorem Rq.frl {v : V} {ds : List D} (h : Rq K Z H v (.frl ds)) : ∃ a vs, v = .ref a ∧ ZF K Z H a vs ∧ Rps K Z H vs ds := h.elim id fun ⟨_, _, t⟩ => t.elim
theorem Rq.dicK {v : V} {ks : List Key} {ds : List D} (h : Rq K Z H v (.dicK ks ds)) : ∃ a kvs, v = .ref a ∧ H a = some (.dK kvs) ∧ kvs.map (·.1) = ks ∧ Rps K Z H (kvs.map (·.2)) ds := by
  rcases h with ⟨a, vs, e, n, s, r⟩ | ⟨a, e, vs, s, r⟩
  · exact ⟨a, vs, e, s, r⟩
  · exact ⟨a, vs, e, s, r⟩
theorem Rq.dicT {v : V} {ks : List (List Key)} {ds : List D} (h : Rq K Z H v (.dicT ks ds)) : ∃ a kvs, v = .ref a ∧ H a = some (.dT kvs) ∧ kvs.map (·.1) = ks ∧ Rps K Z H (kvs.map (·.2)) ds := by
  rcases h with ⟨a, vs, e, n, s, r⟩ | ⟨a, e, vs, s, r⟩
  · exact ⟨a, vs, e, s, r⟩
  · exact ⟨a, vs, e, s, r⟩
/-- a sequence of items -/
def D.seq : D → Option (List D)
  | .lst xs => some xs
  | .tup xs => some xs
  | .frl xs => some xs
  | _ => none
theorem Rq.seq {v : V} {d : D} {ds : List D} (h : Rq K Z H v d) (e : d.seq = some ds) : ∃ a vs, v = .ref a ∧ (SqL K H a vs ∨ SqT K H a vs) ∧ Rps K Z H vs ds := by
  cases d with
  | lst xs => cases e; obtain ⟨a, vs, e, s, r⟩ := h.lst; exact ⟨a, vs, e, .inl (SqL.of s), r⟩
  | tup xs => cases e; obtain ⟨a, vs, e, s, r⟩ := h.tup; exact ⟨a, vs, e, .inr s.sq, r⟩
  | frl xs => cases e; obtain ⟨a, vs, e, s, r⟩ := h.frl; exact ⟨a, vs, e, .inl s.sq, r⟩
  | _ => cases e
def D.ls : D → Option (List D)
  | .lst xs => some xs
  | .frl xs => some xs
  | _ => none
theorem Rq.ls {v : V} {d : D} {ds : List D} (h : Rq K Z H v d) (e : d.ls = some ds) : ∃ a vs, v = .ref a ∧ SqL K H a vs ∧ Rps K Z H vs ds := by
  cases d with
  | lst xs => cases e; obtain ⟨a, vs, e, s, r⟩ := h.lst; exact ⟨a, vs, e, SqL.of s, r⟩
  | frl xs => cases e; obtain ⟨a, vs, e, s, r⟩ := h.frl; exact ⟨a, vs, e, s.sq, r⟩
  | _ => cases e

/-! ### ints -/
def intsD : List D → Option (List Int)
  | [] => some []
  | .int i :: r => (intsD r).map (i :: ·)
  | _ :: _ => none
theorem rps_ints : ∀ {ds : List D} {ns : List Int} {vs : List V}, intsD ds = some ns → Rps K Z H vs ds → vs = ns.map V.int
  | [], _, _, e, r => by cases e; exact r
  | .int i :: ds, ns, _, e, r => by
    obtain ⟨v, t, rfl, h1, h2⟩ := r
    simp only [intsD, Option.map_eq_some_iff] at e
    obtain ⟨ms, e1, rfl⟩ := e
    rw [show v = .int i from h1, rps_ints e1 h2]; rfl
  | .non :: _, _, _, e, _ => by cases e
  | .bl _ :: _, _, _, e, _ => by cases e
  | .str _ :: _, _, _, e, _ => by cases e
  | .tup _ :: _, _, _, e, _ => by cases e
  | .lst _ :: _, _, _, e, _ => by cases e
  | .dicK _ _ :: _, _, _, e, _ => by cases e
  | .dicT _ _ :: _, _, _, e, _ => by cases e
  | .set _ :: _, _, _, e, _ => by cases e
  | .frl _ :: _, _, _, e, _ => by cases e
  | .opq _ :: _, _, _, e, _ => by cases e
theorem intsD_map (ns : List Int) : intsD (ns.map D.int) = some ns := by
  induction ns with
  | nil => rfl
  | cons n r ih => simp [intsD, ih]
theorem rps_of_ints : ∀ (ns : List Int), Rps K Z H (ns.map V.int) (ns.map D.int)
  | [] => rfl
  | n :: r => ⟨_, _, rfl, rfl, rps_of_ints r⟩
def blsD : List D → Option (List Bool)
  | [] => some []
  | .bl i :: r => (blsD r).map (i :: ·)
  | _ :: _ => none
theorem rps_bls : ∀ {ds : List D} {ns : List Bool} {vs : List V}, blsD ds = some ns → Rps K Z H vs ds → vs = ns.map V.bl
  | [], _, _, e, r => by cases e; exact r
  | .bl i :: ds, ns, _, e, r => by
    obtain ⟨v, t, rfl, h1, h2⟩ := r
    simp only [blsD, Option.map_eq_some_iff] at e
    obtain ⟨ms, e1, rfl⟩ := e
    rw [show v = .bl i from h1, rps_bls e1 h2]; rfl
  | .non :: _, _, _, e, _ => by cases e
  | .int _ :: _, _, _, e, _ => by cases e
  | .str _ :: _, _, _, e, _ => by cases e
  | .tup _ :: _, _, _, e, _ => by cases e
  | .lst _ :: _, _, _, e, _ => by cases e
  | .dicK _ _ :: _, _, _, e, _ => by cases e
  | .dicT _ _ :: _, _, _, e, _ => by cases e
  | .set _ :: _, _, _, e, _ => by cases e
  | .frl _ :: _, _, _, e, _ => by cases e
  | .opq _ :: _, _, _, e, _ => by cases e
theorem blsD_map (ns : List Bool) : blsD (ns.map D.bl) = some ns := by
  induction ns with
  | nil => rfl
  | cons n r ih => simp [blsD, ih]

theorem Rps.nil : ∀ {ds : List D}, Rps K Z H [] ds → ds = []
  | [], _ => rfl
  | _ :: _, h => by obtain ⟨_, _, e, _⟩ := h; cases e
/-! ### operators -/
def bigL : Nat := 16777216
def addB : List D → Option D
  | [.int i, .int j] => some (.int (i + j))
  | [.str x, .str y] => if x.length + y.length ≤ bigL then some (.str (x ++ y)) else none
  | [.tup x, .tup y] => if x.length + y.length ≤ bigL then some (.tup (x ++ y)) else none
  | [.lst x, .lst y] => if x.length + y.length ≤ bigL then some (.lst (x ++ y)) else none
  | _ => none
def addR (K : PySem.W.Frag) : R2 := fun x y H Q => (rI0 fun i j => .int (i + j)) x y H Q ∨ (∃ i j, x = .str i ∧ y = .str j ∧ i.length + j.length ≤ sizeLine ∧ Q (.str (i ++ j)) H) ∨ rCatA K x y H Q ∨ rCat x y H Q
theorem op_addD {X : Cx} : OpR X (binaryOp .Add) (addR X.K) := op_add.or (op_add_str.or (op_catA.or op_cat))
theorem bigL_eq : bigL = sizeLine := by rw [sizeLine_eq]; rfl
theorem bi_add : BiOk K (r2 (addR K)) addB := by
  intro Z H vs ds d Q hz hr hb q
  unfold addB at hb
  split at hb
  · cases hb
    obtain ⟨v, u, rfl, h1, h2⟩ := hr.two
    rw [h1.int, h2.int]
    exact .inl ⟨_, _, rfl, rfl, q _ _ Grow.refl rfl⟩
  · split at hb
    · rename_i hl
      rw [bigL_eq] at hl
      cases hb
      obtain ⟨v, u, rfl, h1, h2⟩ := hr.two
      rw [h1.str, h2.str]
      exact .inr (.inl ⟨_, _, rfl, rfl, hl, q _ _ Grow.refl rfl⟩)
    · cases hb
  · split at hb
    · rename_i hl
      rw [bigL_eq] at hl
      cases hb
      obtain ⟨v, u, rfl, h1, h2⟩ := hr.two
      obtain ⟨a, vs, rfl, s1, q1⟩ := h1.tup
      obtain ⟨b, us, rfl, s2, q2⟩ := h2.tup
      have l1 := q1.length
      have l2 := q2.length
      refine .inr (.inr (.inl ⟨a, b, vs, us, rfl, rfl, s1.sq, s2.sq, by omega, fun e => ?_, fun n e => ?_, fun n m p hp => ?_⟩))
      · subst e
        have z := q1.nil
        subst z
        exact q _ _ Grow.refl ⟨b, us, rfl, s2, q2⟩
      · subst e
        have z := q2.nil
        subst z
        exact q _ _ Grow.refl ⟨a, vs, rfl, s1, by rw [List.append_nil]; exact q1⟩
      · refine q _ _ (Grow.upd hp) ⟨p, _, rfl, .inl ⟨fun z => ?_, .inl upd_same⟩, ?_⟩
        · obtain ⟨o, e⟩ := hz p z; rw [hp] at e; cases e
        · exact Rps.keep (fun _ z => z) (fun a o e _ => Grow.upd hp a o e) _ _ (q1.app q2)
    · cases hb
  · split at hb
    · rename_i hl
      rw [bigL_eq] at hl
      cases hb
      obtain ⟨v, u, rfl, h1, h2⟩ := hr.two
      obtain ⟨a, vs, rfl, s1, q1⟩ := h1.lst
      obtain ⟨b, us, rfl, s2, q2⟩ := h2.lst
      have l1 := q1.length
      have l2 := q2.length
      refine .inr (.inr (.inr ⟨a, b, vs, us, rfl, rfl, s1, s2, by omega, fun p hp => ?_⟩))
      refine q _ _ (Grow.upd hp) ⟨p, _, rfl, ⟨fun z => ?_, upd_same⟩, ?_⟩
      · obtain ⟨o, e⟩ := hz p z; rw [hp] at e; cases e
      · exact Rps.keep (fun _ z => z) (fun a o e _ => Grow.upd hp a o e) _ _ (q1.app q2)
    · cases hb
  · cases hb
/-- ints in, a plain thing out -/
def i2 (f : Int → Int → Option D) : List D → Option D
  | [.int i, .int j] => f i j
  | _ => none
theorem bi_i2 {r : R2} {f : Int → Int → Option D} (h : ∀ i j d H Q, f i j = some d → d.scal = true ∧ ((∀ v, (∀ K Z H, Rp K Z H v d) → Q v H) → r (.int i) (.int j) H Q)) : BiOk K (r2 r) (i2 f) := by
  intro Z H vs ds d Q hz hr hb q
  unfold i2 at hb
  split at hb
  · obtain ⟨v, u, rfl, h1, h2⟩ := hr.two
    rw [h1.int, h2.int]
    exact (h _ _ d H Q hb).2 fun v p => q v H Grow.refl (p _ _ _)
  · cases hb
def subB := i2 fun i j => some (.int (i - j))
theorem bi_sub : BiOk K (r2 (rI0 fun i j => .int (i - j))) subB := bi_i2 fun i j d H Q e => by cases e; exact ⟨rfl, fun q => ⟨i, j, rfl, rfl, q _ fun _ _ _ => rfl⟩⟩
def mulOk (i j : Int) : Bool := decide (i.natAbs < 2 ^ 64 ∨ j.natAbs < 2 ^ 64 ∨ i.natAbs.log2 + j.natAbs.log2 < 1000000)
def repL (xs : List D) (k : Nat) : List D := (List.replicate k xs).flatten
def mulB : List D → Option D
  | [.int i, .int j] => if mulOk i j = true then some (.int (i * j)) else none
  | [.lst xs, .int k] => if k < 9223372036854775808 ∧ -9223372036854775808 ≤ k ∧ xs.length * k.toNat ≤ bigL then some (.lst (repL xs k.toNat)) else none
  | _ => none
def CMulD (i j : Int) : Prop := CMul i j ∨ CMulW i j
theorem op_mulI {X : Cx} : OpR X (binaryOp .Mult) (rI CMulD fun i j => .int (i * j)) := opI fun _ _ _ _ _ _ _ hc q => mul_int q (hc.elim CMul.ok CMulW.ok)
def mulR (K : PySem.W.Frag) : R2 := fun x y H Q => rI CMulD (fun i j => .int (i * j)) x y H Q ∨ rRep x y H Q
theorem op_mulD {X : Cx} : OpR X (binaryOp .Mult) (mulR X.K) := op_mulI.or op_rep
theorem mulOk_ok {i j : Int} (h : mulOk i j = true) : CMulD i j := by
  rcases of_decide_eq_true h with h | h | h
  · exact .inl (.inl ⟨by omega, by omega⟩)
  · exact .inl (.inr ⟨by omega, by omega⟩)
  · exact .inr h
theorem rps_rep {vs : List V} {ds : List D} (h : Rps K Z H vs ds) : ∀ k : Nat, Rps K Z H (List.replicate k vs).flatten (repL ds k)
  | 0 => rfl
  | k + 1 => by
    unfold repL
    rw [List.replicate_succ, List.replicate_succ, List.flatten_cons, List.flatten_cons]
    exact h.app (rps_rep h k)
theorem bi_mul : BiOk K (r2 (mulR K)) mulB := by
  intro Z H vs ds d Q hz hr hb q
  unfold mulB at hb
  split at hb
  · split at hb
    · rename_i hl
      cases hb
      obtain ⟨v, u, rfl, h1, h2⟩ := hr.two
      rw [h1.int, h2.int]
      exact .inl ⟨_, _, rfl, rfl, mulOk_ok hl, q _ _ Grow.refl rfl⟩
    · cases hb
  · split at hb
    · rename_i hl
      cases hb
      obtain ⟨v, u, rfl, h1, h2⟩ := hr.two
      obtain ⟨a, vs, rfl, s1, q1⟩ := h1.lst
      rw [h2.int]
      obtain ⟨l1, l2, l3⟩ := hl
      rw [bigL_eq] at l3
      refine .inr ⟨a, _, vs, rfl, rfl, s1, by omega, by omega, by rw [q1.length]; exact l3, fun p hp => ?_⟩
      refine q _ _ (Grow.upd hp) ⟨p, _, rfl, ⟨fun z => ?_, upd_same⟩, ?_⟩
      · obtain ⟨o, e⟩ := hz p z; rw [hp] at e; cases e
      · exact Rps.keep (fun _ z => z) (fun a o e _ => Grow.upd hp a o e) _ _ (rps_rep q1 _)
    · cases hb
  · cases hb
/-- lists made by + and * are new -/
def addL : List D → Option D
  | [.lst x, .lst y] => if x.length + y.length ≤ bigL then some (.lst (x ++ y)) else none
  | _ => none
theorem bn_add : BnOk K (r2 (addR K)) addL := by
  intro Z H vs ds d Q hz hr hb q
  unfold addL at hb
  split at hb
  · split at hb
    · rename_i hl
      rw [bigL_eq] at hl
      cases hb
      obtain ⟨v, u, rfl, h1, h2⟩ := hr.two
      obtain ⟨a, vs, rfl, s1, q1⟩ := h1.lst
      obtain ⟨b, us, rfl, s2, q2⟩ := h2.lst
      have l1 := q1.length
      have l2 := q2.length
      exact .inr (.inr (.inr ⟨a, b, vs, us, rfl, rfl, s1, s2, by omega, fun p hp => q _ _ hp ⟨_, rfl, q1.app q2⟩⟩))
    · cases hb
  · cases hb
def mulL : List D → Option D
  | [.lst xs, .int k] => if k < 9223372036854775808 ∧ -9223372036854775808 ≤ k ∧ xs.length * k.toNat ≤ bigL then some (.lst (repL xs k.toNat)) else none
  | _ => none
theorem bn_mul : BnOk K (r2 (mulR K)) mulL := by
  intro Z H vs ds d Q hz hr hb q
  unfold mulL at hb
  split at hb
  · split at hb
    · rename_i hl
      cases hb
      obtain ⟨v, u, rfl, h1, h2⟩ := hr.two
      obtain ⟨a, vs, rfl, s1, q1⟩ := h1.lst
      rw [h2.int]
      obtain ⟨l1, l2, l3⟩ := hl
      rw [bigL_eq] at l3
      exact .inr ⟨a, _, vs, rfl, rfl, s1, by omega, by omega, by rw [q1.length]; exact l3, fun p hp => q _ _ hp ⟨_, rfl, rps_rep q1 _⟩⟩
    · cases hb
  · cases hb
def divOk (j : Int) : Bool := decide (j ≠ 0 ∧ j.natAbs.log2 < 9000)
def CDivD (_ j : Int) : Prop := j ≠ 0 ∧ j.natAbs.log2 < 9000
theorem op_divD {X : Cx} : OpR X (binaryOp .FloorDiv) (rI CDivD fun i j => .int (i.fdiv j)) := opI fun _ _ _ _ _ _ _ hc q => floordiv_int hc.1 q (.inl (PyProof.noPylong_of_log2 hc.2))
theorem iop_divD {X : Cx} : OpR X (inplaceOp .FloorDiv) (rI CDivD fun i j => .int (i.fdiv j)) := opI fun _ _ _ _ _ _ _ hc q => ifloordiv_int hc.1 q (.inl (PyProof.noPylong_of_log2 hc.2))
def divB := i2 fun i j => if divOk j = true then some (.int (i.fdiv j)) else none
theorem bi_div : BiOk K (r2 (rI CDivD fun i j => .int (i.fdiv j))) divB := bi_i2 fun i j d H Q e => by
  split at e
  · rename_i h
    cases e; exact ⟨rfl, fun q => ⟨i, j, rfl, rfl, (by unfold divOk at h; unfold CDivD; exact of_decide_eq_true h), q _ fun _ _ _ => rfl⟩⟩
  · cases e
def modB := i2 fun i j => if j ≠ 0 then some (.int (i.fmod j)) else none
theorem bi_mod : BiOk K (r2 (rI (fun _ j => j ≠ 0) fun i j => .int (i.fmod j))) modB := bi_i2 fun i j d H Q e => by
  split at e
  · rename_i h
    cases e; exact ⟨rfl, fun q => ⟨i, j, rfl, rfl, h, q _ fun _ _ _ => rfl⟩⟩
  · cases e
def powOk (i j : Int) : Bool := decide (0 ≤ j ∧ j ≤ 1000000 ∧ i.natAbs < 2 ^ 64)
def powB := i2 fun i j => if powOk i j = true then some (.int (i ^ j.toNat)) else none
theorem bi_pow : BiOk K (r2 (rI CPow fun i j => .int (i ^ j.toNat))) powB := bi_i2 fun i j d H Q e => by
  split at e
  · rename_i h
    cases e; exact ⟨rfl, fun q => ⟨i, j, rfl, rfl, (by unfold powOk at h; unfold CPow; exact of_decide_eq_true h), q _ fun _ _ _ => rfl⟩⟩
  · cases e
def negB : List D → Option D
  | [.int i] => some (.int (-i))
  | _ => none
theorem bi_neg : BiOk K (r1 (rU fun i => .int (-i))) negB := by
  intro Z H vs ds d Q hz hr hb q
  unfold negB at hb
  split at hb
  · cases hb
    obtain ⟨v, rfl, h⟩ := hr.one
    rw [h.int]
    exact ⟨_, rfl, q _ _ Grow.refl rfl⟩
  · cases hb
def cmpB (p : Int → Int → Bool) := i2 fun i j => some (.bl (p i j))
theorem bi_cmp {p : Int → Int → Bool} : BiOk K (r2 (rI0 fun i j => .bl (p i j))) (cmpB p) := bi_i2 fun i j d H Q e => by cases e; exact ⟨rfl, fun q => ⟨i, j, rfl, rfl, q _ fun _ _ _ => rfl⟩⟩
/-! ### equality of data -/
mutual
def toPy : D → Option PyData
  | .non => some .none
  | .bl b => some (.bool b)
  | .int i => some (.int i)
  | .str x => some (.str x)
  | .tup xs => (toPys xs).map .tuple
  | .lst xs => (toPys xs).map .list
  | .frl xs => (toPys xs).map .list
  | _ => none
def toPys : List D → Option (List PyData)
  | [] => some []
  | d :: ds => match toPy d, toPys ds with
    | some p, some ps => some (p :: ps)
    | _, _ => none
end
mutual
theorem dp_of : ∀ (d : D) (v : V) (p : PyData), toPy d = some p → Rp K Z H v d → Dp K H v p
  | .non, v, p, e, h => by cases e; rw [show v = .non from h]; exact .non
  | .bl b, v, p, e, h => by cases e; rw [show v = .bl b from h]; exact .bl b
  | .int b, v, p, e, h => by cases e; rw [show v = .int b from h]; exact .int b
  | .str b, v, p, e, h => by cases e; rw [show v = .str b from h]; exact .str b
  | .tup xs, v, p, e, h => by
    simp only [toPy, Option.map_eq_some_iff] at e
    obtain ⟨ps, e1, rfl⟩ := e
    obtain ⟨a, vs, rfl, s, r⟩ := h
    exact .tup s.sq (dps_of xs vs ps e1 r)
  | .lst xs, v, p, e, h => by
    simp only [toPy, Option.map_eq_some_iff] at e
    obtain ⟨ps, e1, rfl⟩ := e
    obtain ⟨a, vs, rfl, s, r⟩ := h
    exact .lst s.sq (dps_of xs vs ps e1 r)
  | .frl xs, v, p, e, h => by
    simp only [toPy, Option.map_eq_some_iff] at e
    obtain ⟨ps, e1, rfl⟩ := e
    obtain ⟨a, vs, rfl, s, r⟩ := h
    exact .lst s.sq (dps_of xs vs ps e1 r)
  | .dicK _ _, v, p, e, h => by cases e
  | .dicT _ _, v, p, e, h => by cases e
  | .set _, v, p, e, h => by cases e
  | .opq _, v, p, e, h => by cases e
theorem dps_of : ∀ (ds : List D) (vs : List V) (ps : List PyData), toPys ds = some ps → Rps K Z H vs ds → DpAll K H vs ps
  | [], vs, ps, e, h => by cases e; rw [show vs = [] from h]; exact .nil
  | d :: ds, vs, ps, e, h => by
    obtain ⟨v, r, rfl, h1, h2⟩ := h
    simp only [toPys] at e
    split at e
    · rename_i p ps e1 e2
      cases e
      exact .cons (dp_of d v p e1 h1) (dps_of ds r ps e2 h2)
    · cases e
end
theorem Rq.dp {v : V} {d : D} {p : PyData} (h : Rq K Z H v d) (e : toPy d = some p) : Dp K H v p := by
  rcases h with h | ⟨a, rfl, t⟩
  · exact dp_of d v p e h
  · cases d with
    | lst ds =>
      obtain ⟨vs, s, r⟩ := t
      simp only [toPy, Option.map_eq_some_iff] at e
      obtain ⟨ps, e1, rfl⟩ := e
      exact .lst (SqL.of s) (dps_of ds vs ps e1 r)
    | dicK _ _ => cases e
    | dicT _ _ => cases e
    | set _ => cases e
    | _ => exact t.elim
def eqD (n : Bool) : List D → Option D
  | [.str x, .str y] => some (.bl (if n then !decide (x = y) else decide (x = y)))
  | [x, y] => match toPy x, toPy y with
    | some p, some q => if (SeqAt.shaped p && SeqAt.shaped q) = true then some (.bl (if n then !PyData.eqv p q else PyData.eqv p q)) else none
    | _, _ => none
  | _ => none
def rEqA (K : PySem.W.Frag) : R2 := fun x y H Q => rEq x y H Q ∨ rEqD K x y H Q
def rNeA (K : PySem.W.Frag) : R2 := fun x y H Q => rNe x y H Q ∨ rNeD K x y H Q
theorem bi_eq : BiOk K (r2 (rEqA K)) (eqD false) := by
  intro Z H vs ds d Q hz hr hb q
  unfold eqD at hb
  split at hb
  · rename_i x y
    cases hb
    obtain ⟨v, u, rfl, h1, h2⟩ := hr.two
    rw [h1.str, h2.str]
    refine .inl ⟨rfl, ?_⟩
    rw [show decide (V.str x = V.str y) = decide (x = y) from decide_eq_decide.mpr ⟨fun e => by cases e; rfl, fun e => by rw [e]⟩]
    exact q _ _ Grow.refl rfl
  · obtain ⟨v, u, rfl, h1, h2⟩ := hr.two
    split at hb
    · rename_i p p' e1 e2
      split at hb
      · rename_i hs
        rw [Bool.and_eq_true] at hs
        cases hb
        exact .inr ⟨_, _, h1.dp e1, h2.dp e2, hs.1, hs.2, q _ _ Grow.refl rfl⟩
      · cases hb
    · cases hb
  · cases hb
theorem bi_ne : BiOk K (r2 (rNeA K)) (eqD true) := by
  intro Z H vs ds d Q hz hr hb q
  unfold eqD at hb
  split at hb
  · rename_i x y
    cases hb
    obtain ⟨v, u, rfl, h1, h2⟩ := hr.two
    rw [h1.str, h2.str]
    refine .inl ⟨rfl, ?_⟩
    rw [show decide (V.str x = V.str y) = decide (x = y) from decide_eq_decide.mpr ⟨fun e => by cases e; rfl, fun e => by rw [e]⟩]
    exact q _ _ Grow.refl rfl
  · obtain ⟨v, u, rfl, h1, h2⟩ := hr.two
    split at hb
    · rename_i p p' e1 e2
      split at hb
      · rename_i hs
        rw [Bool.and_eq_true] at hs
        cases hb
        exact .inr ⟨_, _, h1.dp e1, h2.dp e2, hs.1, hs.2, q _ _ Grow.refl rfl⟩
      · cases hb
    · cases hb
  · cases hb
/-! ### is None -/
def isNon : D → Bool
  | .non => true
  | _ => false
theorem Rp.isN {v : V} {d : D} (h : Rp K Z H v d) (ho : ∀ u, d ≠ .opq u) : decide (v = .non) = isNon d := by
  cases d with
  | non => rw [show v = .non from h]; rfl
  | bl b => rw [show v = .bl b from h]; rfl
  | int b => rw [show v = .int b from h]; rfl
  | str b => rw [show v = .str b from h]; rfl
  | opq u => exact absurd rfl (ho u)
  | tup xs => obtain ⟨a, _, rfl, _⟩ := h; rfl
  | lst xs => obtain ⟨a, _, rfl, _⟩ := h; rfl
  | frl xs => obtain ⟨a, _, rfl, _⟩ := h; rfl
  | dicK _ _ => obtain ⟨a, _, rfl, _⟩ := h; rfl
  | dicT _ _ => obtain ⟨a, _, rfl, _⟩ := h; rfl
  | set _ => obtain ⟨a, _, rfl, _⟩ := h; rfl
theorem Rq.isN {v : V} {d : D} (h : Rq K Z H v d) (ho : ∀ u, d ≠ .opq u) : decide (v = .non) = isNon d := by
  rcases h with h | ⟨a, rfl, t⟩
  · exact h.isN ho
  · cases d <;> first | exact t.elim | rfl
def isNB (n : Bool) : List D → Option D
  | [.opq _, _] => none
  | [x, .non] => some (.bl (if n then !isNon x else isNon x))
  | _ => none
theorem bi_isN : BiOk K (r2 fun x y H Q => y = .non ∧ Q (.bl (decide (x = .non))) H) (isNB false) := by
  intro Z H vs ds d Q hz hr hb q
  unfold isNB at hb
  split at hb
  · cases hb
  · rename_i x hx
    cases hb
    obtain ⟨v, u, rfl, h1, h2⟩ := hr.two
    rw [h2.non]
    refine ⟨rfl, q _ _ Grow.refl ?_⟩
    rw [h1.isN (fun u e => hx u e)]
    rfl
  · cases hb
theorem bi_notN : BiOk K (r2 fun x y H Q => y = .non ∧ Q (.bl (!decide (x = .non))) H) (isNB true) := by
  intro Z H vs ds d Q hz hr hb q
  unfold isNB at hb
  split at hb
  · cases hb
  · rename_i x hx
    cases hb
    obtain ⟨v, u, rfl, h1, h2⟩ := hr.two
    rw [h2.non]
    refine ⟨rfl, q _ _ Grow.refl ?_⟩
    rw [h1.isN (fun u e => hx u e)]
    rfl
  · cases hb
end
end DL

namespace DL
open PySem PySem.Spec PyProof.Rows L2
section
variable {K : PySem.W.Frag} {Z : Addr → Prop} {H : Hp}
theorem BiOk.or_l {r r' : List V → Hp → VK → Prop} {b : List D → Option D} (h : BiOk K r b) : BiOk K (fun vs H Q => r vs H Q ∨ r' vs H Q) b := fun Z H vs ds d Q hz hr hb q => .inl (h Z H vs ds d Q hz hr hb q)
/-! ### len, abs, int -/
def absB : List D → Option D
  | [.int i] => some (.int (if i < 0 then -i else i))
  | _ => none
theorem bi_abs : BiOk K (fun xs H Q => ∃ i, xs = [.int i] ∧ Q (.int (if i < 0 then -i else i)) H) absB := by
  intro Z H vs ds d Q hz hr hb q
  unfold absB at hb
  split at hb
  · cases hb
    obtain ⟨v, rfl, h⟩ := hr.one
    rw [h.int]
    exact ⟨_, rfl, q _ _ Grow.refl rfl⟩
  · cases hb
def intB : List D → Option D
  | [.int i] => some (.int i)
  | [.bl k] => some (.int (if k then 1 else 0))
  | _ => none
theorem bi_int : BiOk K (fun xs H Q => (∃ i, xs = [.int i] ∧ Q (.int i) H) ∨ ∃ k, xs = [.bl k] ∧ Q (.int (if k then 1 else 0)) H) intB := by
  intro Z H vs ds d Q hz hr hb q
  unfold intB at hb
  split at hb
  · cases hb
    obtain ⟨v, rfl, h⟩ := hr.one
    rw [h.int]
    exact .inl ⟨_, rfl, q _ _ Grow.refl rfl⟩
  · cases hb
    obtain ⟨v, rfl, h⟩ := hr.one
    rw [h.bl]
    exact .inr ⟨_, rfl, q _ _ Grow.refl rfl⟩
  · cases hb
def lenR (K : PySem.W.Frag) : List V → Hp → VK → Prop := fun xs H Q => (∃ p ys, xs = [.ref p] ∧ (SqL K H p ys ∨ SqT K H p ys) ∧ Q (.int ys.length) H) ∨ (∃ z, xs = [.str z] ∧ z.length ≤ sizeLine ∧ Q (.int z.length) H)
theorem call_lenD {X : Cx} : CallR X (.builtin "len") (lenR X.K) := call_len_seq.or call_len_str
def lenS : List D → Option D
  | [.str x] => if x.length ≤ bigL then some (.int x.length) else none
  | [d] => d.seq.map fun ds => .int ds.length
  | _ => none
theorem bi_len : BiOk K (lenR K) lenS := by
  intro Z H vs ds d Q hz hr hb q
  unfold lenS at hb
  split at hb
  · split at hb
    · rename_i hl
      rw [bigL_eq] at hl
      cases hb
      obtain ⟨v, rfl, h⟩ := hr.one
      rw [h.str]
      exact .inr ⟨_, rfl, hl, q _ _ Grow.refl rfl⟩
    · cases hb
  · obtain ⟨v, rfl, h⟩ := hr.one
    rw [Option.map_eq_some_iff] at hb
    obtain ⟨es, e, rfl⟩ := hb
    obtain ⟨a, vs, rfl, s, r⟩ := h.seq e
    exact .inl ⟨a, vs, rfl, s, q _ _ Grow.refl (by rw [r.length]; rfl)⟩
  · cases hb
/-! ### list(), tuple() -/
def listB : List D → Option D
  | [d] => d.seq.map .lst
  | _ => none
theorem bn_list : BnOk K (fun xs H Q => ∃ p ys, xs = [.ref p] ∧ (SqL K H p ys ∨ SqT K H p ys) ∧ ∀ l, H l = none → Q (.ref l) (upd H l (.lst ys))) listB := by
  intro Z H vs ds d Q hz hr hb q
  unfold listB at hb
  split at hb
  · obtain ⟨v, rfl, h⟩ := hr.one
    rw [Option.map_eq_some_iff] at hb
    obtain ⟨es, e, rfl⟩ := hb
    obtain ⟨a, vs, rfl, s, r⟩ := h.seq e
    exact ⟨a, vs, rfl, s, fun l hl => q _ _ hl ⟨vs, rfl, r⟩⟩
  · cases hb
def tupleB : List D → Option D
  | [.tup xs] => some (.tup xs)
  | [d] => d.ls.map .tup
  | _ => none
theorem call_tupleD {X : Cx} : CallR X (.type "tuple") (fun xs H Q => (∃ p ys, xs = [.ref p] ∧ ((SqL X.K H p ys ∧ ∀ l, H l = none → Q (.ref l) (upd H l (.tup ys))) ∨ (SqT X.K H p ys ∧ Q (.ref p) H)))) := call_tuple_of
theorem bi_tuple : BiOk K (fun xs H Q => (∃ p ys, xs = [.ref p] ∧ ((SqL K H p ys ∧ ∀ l, H l = none → Q (.ref l) (upd H l (.tup ys))) ∨ (SqT K H p ys ∧ Q (.ref p) H)))) tupleB := by
  intro Z H vs ds d Q hz hr hb q
  unfold tupleB at hb
  split at hb
  · cases hb
    obtain ⟨v, rfl, h⟩ := hr.one
    obtain ⟨a, vs, rfl, s, r⟩ := h.tup
    exact ⟨a, vs, rfl, .inr ⟨s.sq, q _ _ Grow.refl ⟨a, vs, rfl, s, r⟩⟩⟩
  · obtain ⟨v, rfl, h⟩ := hr.one
    rw [Option.map_eq_some_iff] at hb
    obtain ⟨es, e, rfl⟩ := hb
    obtain ⟨a, vs, rfl, s, r⟩ := h.ls e
    refine ⟨a, vs, rfl, .inl ⟨s, fun l hl => q _ _ (Grow.upd hl) ⟨l, vs, rfl, .inl ⟨fun z => ?_, .inl upd_same⟩, ?_⟩⟩⟩
    · obtain ⟨o, e⟩ := hz l z; rw [hl] at e; cases e
    · exact Rps.keep (fun _ z => z) (fun a o e _ => Grow.upd hl a o e) _ _ r
  · cases hb
/-! ### sum, min, max, all, any, sorted -/
def sumB : List D → Option D
  | [d] => d.ls.bind fun ds => (intsD ds).map fun ns => .int ns.sum
  | _ => none
theorem bi_sum : BiOk K (rSum K) sumB := by
  intro Z H vs ds d Q hz hr hb q
  unfold sumB at hb
  split at hb
  · obtain ⟨v, rfl, h⟩ := hr.one
    rw [Option.bind_eq_some_iff] at hb
    obtain ⟨es, e, hb⟩ := hb
    rw [Option.map_eq_some_iff] at hb
    obtain ⟨ns, e2, rfl⟩ := hb
    obtain ⟨a, vs, rfl, s, r⟩ := h.ls e
    have := rps_ints e2 r
    subst this
    exact ⟨a, ns, rfl, s, q _ _ Grow.refl rfl⟩
  · cases hb
def maxI : List Int → Int
  | [] => 0
  | [n] => n
  | n :: r => max n (maxI r)
def minI : List Int → Int
  | [] => 0
  | [n] => n
  | n :: r => min n (minI r)
theorem maxI_mem : ∀ ns : List Int, ns ≠ [] → maxI ns ∈ ns
  | [], h => absurd rfl h
  | [n], _ => by simp [maxI]
  | n :: m :: r, _ => by
    have ih := maxI_mem (m :: r) (by simp)
    show max n (maxI (m :: r)) ∈ n :: m :: r
    rcases Int.le_total n (maxI (m :: r)) with h | h
    · rw [Int.max_eq_right h]; exact List.mem_cons_of_mem _ ih
    · rw [Int.max_eq_left h]; exact List.mem_cons_self
theorem minI_mem : ∀ ns : List Int, ns ≠ [] → minI ns ∈ ns
  | [], h => absurd rfl h
  | [n], _ => by simp [minI]
  | n :: m :: r, _ => by
    have ih := minI_mem (m :: r) (by simp)
    show min n (minI (m :: r)) ∈ n :: m :: r
    rcases Int.le_total n (minI (m :: r)) with h | h
    · rw [Int.min_eq_left h]; exact List.mem_cons_self
    · rw [Int.min_eq_right h]; exact List.mem_cons_of_mem _ ih
theorem le_maxI : ∀ (ns : List Int) (y : Int), y ∈ ns → y ≤ maxI ns
  | [n], y, h => by simp at h; subst h; exact Int.le_refl _
  | n :: m :: r, y, h => by
    show y ≤ max n (maxI (m :: r))
    rcases List.mem_cons.mp h with h | h
    · subst h; exact Int.le_max_left _ _
    · exact Int.le_trans (le_maxI (m :: r) y h) (Int.le_max_right _ _)
theorem minI_le : ∀ (ns : List Int) (y : Int), y ∈ ns → minI ns ≤ y
  | [n], y, h => by simp at h; subst h; exact Int.le_refl _
  | n :: m :: r, y, h => by
    show min n (minI (m :: r)) ≤ y
    rcases List.mem_cons.mp h with h | h
    · subst h; exact Int.min_le_left _ _
    · exact Int.le_trans (Int.min_le_right _ _) (minI_le (m :: r) y h)
def maxB : List D → Option D
  | [.int i, .int j] => some (.int (if j > i then j else i))
  | [d] => d.ls.bind fun ds => (intsD ds).bind fun ns => if ns.isEmpty then none else some (.int (maxI ns))
  | _ => none
def minB : List D → Option D
  | [.int i, .int j] => some (.int (if j < i then j else i))
  | [d] => d.ls.bind fun ds => (intsD ds).bind fun ns => if ns.isEmpty then none else some (.int (minI ns))
  | _ => none
theorem pos_of {ns : List Int} (h : ¬ ns.isEmpty = true) : ns ≠ [] ∧ 0 < ns.length := by
  cases ns with
  | nil => exact absurd rfl h
  | cons n r => exact ⟨by simp, by simp⟩
theorem bi_max : BiOk K (fun vs H Q => (∃ i j, vs = [.int i, .int j] ∧ Q (.int (if j > i then j else i)) H) ∨ rMax K vs H Q) maxB := by
  intro Z H vs ds d Q hz hr hb q
  unfold maxB at hb
  split at hb
  · cases hb
    obtain ⟨v, u, rfl, h1, h2⟩ := hr.two
    rw [h1.int, h2.int]
    exact .inl ⟨_, _, rfl, q _ _ Grow.refl rfl⟩
  · obtain ⟨v, rfl, h⟩ := hr.one
    rw [Option.bind_eq_some_iff] at hb
    obtain ⟨es, e, hb⟩ := hb
    rw [Option.bind_eq_some_iff] at hb
    obtain ⟨ns, e2, hb⟩ := hb
    split at hb
    · cases hb
    · rename_i hn
      cases hb
      obtain ⟨a, vs, rfl, s, r⟩ := h.ls e
      have := rps_ints e2 r
      subst this
      refine .inr ⟨a, ns, rfl, s, (pos_of hn).2, fun m hm hle => ?_⟩
      have : m = maxI ns := Int.le_antisymm (le_maxI ns m hm) (hle _ (maxI_mem ns (pos_of hn).1))
      subst this
      exact q _ _ Grow.refl rfl
  · cases hb
theorem bi_min : BiOk K (fun vs H Q => (∃ i j, vs = [.int i, .int j] ∧ Q (.int (if j < i then j else i)) H) ∨ rMin K vs H Q) minB := by
  intro Z H vs ds d Q hz hr hb q
  unfold minB at hb
  split at hb
  · cases hb
    obtain ⟨v, u, rfl, h1, h2⟩ := hr.two
    rw [h1.int, h2.int]
    exact .inl ⟨_, _, rfl, q _ _ Grow.refl rfl⟩
  · obtain ⟨v, rfl, h⟩ := hr.one
    rw [Option.bind_eq_some_iff] at hb
    obtain ⟨es, e, hb⟩ := hb
    rw [Option.bind_eq_some_iff] at hb
    obtain ⟨ns, e2, hb⟩ := hb
    split at hb
    · cases hb
    · rename_i hn
      cases hb
      obtain ⟨a, vs, rfl, s, r⟩ := h.ls e
      have := rps_ints e2 r
      subst this
      refine .inr ⟨a, ns, rfl, s, (pos_of hn).2, fun m hm hle => ?_⟩
      have : m = minI ns := Int.le_antisymm (hle _ (minI_mem ns (pos_of hn).1)) (minI_le ns m hm)
      subst this
      exact q _ _ Grow.refl rfl
  · cases hb
theorem call_maxD {X : Cx} (hc : X.calm = true) : CallR X (.builtin "max") (fun vs H Q => (∃ i j, vs = [.int i, .int j] ∧ Q (.int (if j > i then j else i)) H) ∨ rMax X.K vs H Q) := (call_max2 hc).or (cr_max hc)
theorem call_minD {X : Cx} (hc : X.calm = true) : CallR X (.builtin "min") (fun vs H Q => (∃ i j, vs = [.int i, .int j] ∧ Q (.int (if j < i then j else i)) H) ∨ rMin X.K vs H Q) := (call_min2 hc).or (cr_min hc)
def allB : List D → Option D
  | [d] => d.ls.bind fun ds => (blsD ds).map fun bs => .bl (bs.all id)
  | _ => none
def anyB : List D → Option D
  | [d] => d.ls.bind fun ds => (blsD ds).map fun bs => .bl (bs.any id)
  | _ => none
theorem bi_all : BiOk K (rAll K) allB := by
  intro Z H vs ds d Q hz hr hb q
  unfold allB at hb
  split at hb
  · obtain ⟨v, rfl, h⟩ := hr.one
    rw [Option.bind_eq_some_iff] at hb
    obtain ⟨es, e, hb⟩ := hb
    rw [Option.map_eq_some_iff] at hb
    obtain ⟨ns, e2, rfl⟩ := hb
    obtain ⟨a, vs, rfl, s, r⟩ := h.ls e
    have := rps_bls e2 r
    subst this
    exact ⟨a, ns, rfl, s, q _ _ Grow.refl rfl⟩
  · cases hb
theorem bi_any : BiOk K (rAny K) anyB := by
  intro Z H vs ds d Q hz hr hb q
  unfold anyB at hb
  split at hb
  · obtain ⟨v, rfl, h⟩ := hr.one
    rw [Option.bind_eq_some_iff] at hb
    obtain ⟨es, e, hb⟩ := hb
    rw [Option.map_eq_some_iff] at hb
    obtain ⟨ns, e2, rfl⟩ := hb
    obtain ⟨a, vs, rfl, s, r⟩ := h.ls e
    have := rps_bls e2 r
    subst this
    exact ⟨a, ns, rfl, s, q _ _ Grow.refl rfl⟩
  · cases hb
/-- insertion sort -/
def insI (n : Int) : List Int → List Int
  | [] => [n]
  | m :: r => if n ≤ m then n :: m :: r else m :: insI n r
def sortI : List Int → List Int
  | [] => []
  | n :: r => insI n (sortI r)
theorem insI_perm (n : Int) : ∀ r : List Int, (insI n r).Perm (n :: r)
  | [] => .refl _
  | m :: r => by
    unfold insI
    split
    · exact .refl _
    · exact ((insI_perm n r).cons m).trans (.swap _ _ _)
theorem sortI_perm : ∀ r : List Int, (sortI r).Perm r
  | [] => .refl _
  | n :: r => (insI_perm n _).trans ((sortI_perm r).cons n)
theorem insI_sorted (n : Int) : ∀ r : List Int, r.Pairwise (· ≤ ·) → (insI n r).Pairwise (· ≤ ·)
  | [], _ => by simp [insI]
  | m :: r, h => by
    unfold insI
    split
    · rename_i hnm
      refine List.Pairwise.cons (fun x hx => ?_) h
      rcases List.mem_cons.mp hx with hx | hx
      · subst hx; exact hnm
      · exact Int.le_trans hnm (List.rel_of_pairwise_cons h hx)
    · rename_i hnm
      refine List.Pairwise.cons (fun x hx => ?_) (insI_sorted n r h.of_cons)
      rcases List.mem_cons.mp ((insI_perm n r).mem_iff.mp hx) with hx | hx
      · subst hx; omega
      · exact List.rel_of_pairwise_cons h hx
theorem sortI_sorted : ∀ r : List Int, (sortI r).Pairwise (· ≤ ·)
  | [] => .nil
  | n :: r => insI_sorted n _ (sortI_sorted r)
theorem sorted_unique : ∀ {xs ys : List Int}, xs.Perm ys → xs.Pairwise (· ≤ ·) → ys.Pairwise (· ≤ ·) → xs = ys
  | [], ys, p, _, _ => by rw [List.nil_perm] at p; exact p.symm
  | x :: xs, [], p, _, _ => by have := p.length_eq; simp at this
  | x :: xs, y :: ys, p, hx, hy => by
    have e : x = y := by
      have h1 : x ∈ y :: ys := p.mem_iff.mp List.mem_cons_self
      have h2 : y ∈ x :: xs := p.mem_iff.mpr List.mem_cons_self
      rcases List.mem_cons.mp h1 with h1 | h1
      · exact h1
      · rcases List.mem_cons.mp h2 with h2 | h2
        · exact h2.symm
        · exact Int.le_antisymm (List.rel_of_pairwise_cons hx h2) (List.rel_of_pairwise_cons hy h1)
    subst e
    rw [sorted_unique (List.Perm.cons_inv p) hx.of_cons hy.of_cons]
def sortedB : List D → Option D
  | [d] => d.ls.bind fun ds => (intsD ds).map fun ns => .lst ((sortI ns).map .int)
  | _ => none
theorem bn_sorted : BnOk K (rSortedI K) sortedB := by
  intro Z H vs ds d Q hz hr hb q
  unfold sortedB at hb
  split at hb
  · obtain ⟨v, rfl, h⟩ := hr.one
    rw [Option.bind_eq_some_iff] at hb
    obtain ⟨es, e, hb⟩ := hb
    rw [Option.map_eq_some_iff] at hb
    obtain ⟨ns, e2, rfl⟩ := hb
    obtain ⟨a, vs, rfl, s, r⟩ := h.ls e
    have := rps_ints e2 r
    subst this
    refine ⟨a, ns, rfl, s, fun ns' p pm so hp => ?_⟩
    have : ns' = sortI ns := sorted_unique (pm.trans (sortI_perm ns).symm) so (sortI_sorted ns)
    subst this
    exact q _ _ hp ⟨_, rfl, rps_of_ints _⟩
  · cases hb
/-! ### an item -/
def atD (ds : List D) (i : Int) : Option D := (ixN ds.length i).bind fun j => ds[j]?
def ixB : List D → Option D
  | [d, .int i] => d.seq.bind fun ds => atD ds i
  | _ => none
theorem bi_ix : BiOk K (r2 (rIx K)) ixB := by
  intro Z H vs ds d Q hz hr hb q
  unfold ixB at hb
  split at hb
  · rename_i d0 i0
    obtain ⟨v, u, rfl, h, h2⟩ := hr.two
    rw [Option.bind_eq_some_iff] at hb
    obtain ⟨es, e, hb⟩ := hb
    obtain ⟨a, vs, rfl, s, r⟩ := h.seq e
    rw [h2.int]
    unfold atD at hb
    rw [Option.bind_eq_some_iff] at hb
    obtain ⟨j, e1, e2⟩ := hb
    obtain ⟨w, e3, r3⟩ := r.get' e2
    have e4 : atI vs i0 = some w := by unfold atI; rw [r.length, e1]; exact e3
    rcases s with s | s
    · exact .inl ⟨a, vs, i0, w, rfl, rfl, s, e4, q _ _ Grow.refl r3⟩
    · exact .inr (.inl ⟨a, vs, i0, w, rfl, rfl, s, e4, q _ _ Grow.refl r3⟩)
  · cases hb
/-! ### in -/
def D.flatS : D → Bool
  | .non => true
  | .bl _ => true
  | .int _ => true
  | .str _ => true
  | _ => false
def toV : D → V
  | .bl b => .bl b
  | .int i => .int i
  | .str x => .str x
  | _ => .non
theorem Rp.toV {v : V} {d : D} (h : Rp K Z H v d) (f : d.flatS = true) : v = DL.toV d := by
  cases d with
  | non => exact h
  | bl _ => exact h
  | int _ => exact h
  | str _ => exact h
  | _ => cases f
theorem Rq.toV {v : V} {d : D} (h : Rq K Z H v d) (f : d.flatS = true) : v = DL.toV d := by
  cases d with
  | non => exact h.non
  | bl _ => exact h.bl
  | int _ => exact h.int
  | str _ => exact h.str
  | _ => cases f
theorem rps_toV : ∀ {ds : List D} {vs : List V}, ds.all D.flatS = true → Rps K Z H vs ds → vs = ds.map toV
  | [], _, _, h => h
  | d :: ds, _, f, h => by
    obtain ⟨v, r, rfl, h1, h2⟩ := h
    simp only [List.all_cons, Bool.and_eq_true] at f
    rw [h1.toV f.1, rps_toV f.2 h2]; rfl
def inB (n : Bool) : List D → Option D
  | [x, d] => d.seq.bind fun ds => if (x.flatS && ds.all D.flatS && (flatV (toV x) && (ds.map toV).all flatV)) = true then some (.bl (if n then !inV (toV x) (ds.map toV) else inV (toV x) (ds.map toV))) else none
  | _ => none
theorem bi_in {n : Bool} : BiOk K (r2 (rIn K n)) (inB n) := by
  intro Z H vs ds d Q hz hr hb q
  unfold inB at hb
  split at hb
  · obtain ⟨v, u, rfl, h1, h2⟩ := hr.two
    rw [Option.bind_eq_some_iff] at hb
    obtain ⟨es, e, hb⟩ := hb
    split at hb
    · rename_i hf
      simp only [Bool.and_eq_true] at hf
      cases hb
      obtain ⟨a, vs, rfl, s, r⟩ := h2.seq e
      have e1 := h1.toV hf.1.1
      have e2 := rps_toV hf.1.2 r
      subst e1 e2
      exact ⟨a, _, rfl, s, hf.2.1, hf.2.2, q _ _ Grow.refl rfl⟩
    · cases hb
  · cases hb
/-! ### displays -/
def tupB (ds : List D) : Option D := if ds.length ≤ bigL then some (.tup ds) else none
def lstB (ds : List D) : Option D := if ds.length ≤ bigL then some (.lst ds) else none
end
section
variable {g : G} {W : WX}
/-- values alone, none looked at -/
theorem rpBs_rps {Z : Addr → Prop} {ρ : Sl} {σ : L2.St} {H : Hp} : ∀ {ds : List D} {vs : List V}, RpBs g [] Z ρ σ H vs ds → Rps g.K (Av Z ρ σ) H vs ds
  | [], _, h => h
  | d :: ds, _, h => by
    obtain ⟨v, r, e, h1, h2⟩ := h
    refine ⟨v, r, e, h1.elim id (fun ⟨i, a, m, _⟩ => absurd m (by simp)), rpBs_rps h2⟩
theorem tr_tup {t : TA} {as : List Ag} (hb : bsOf as = []) (ha : TrA g W t as) : TrE g W (tTup t) (fApp tupB as) := by
  intro C ρ σ H Q j p
  refine ha.step j (fun ds ρ1 e1 vs H1 j1 k1 r1 => ?_) (fun x ρ1 e1 cls dd H1 j1 r1 => ?_) (fun e1 => ?_)
  · simp only [fApp, RE.bd, e1] at p
    rw [hb] at r1
    have r := rpBs_rps r1
    unfold tupB at p
    split at p
    · rename_i hl
      rw [bigL_eq] at hl
      refine ⟨by rw [r.length]; exact hl, fun a hn => ?_⟩
      refine p _ _ (j1.grow (Grow.upd hn)) ⟨a, vs, rfl, .inl ⟨j1.new hn, .inl upd_same⟩, Rps.keep (fun _ z => z) (fun b o e _ => Grow.upd hn b o e) _ _ r⟩
    · exact p.elim
  · simp only [fApp, RE.bd, e1] at p
    exact p _ _ _ j1 r1
  · simp only [fApp, RE.bd, e1] at p
    exact p
theorem trn_lst {t : TA} {as : List Ag} (hb : bsOf as = []) (ha : TrA g W t as) : TrN g W (tLst t) (fApp lstB as) := by
  intro C ρ σ H Q j p
  refine ha.step j (fun ds ρ1 e1 vs H1 j1 k1 r1 => ?_) (fun x ρ1 e1 cls dd H1 j1 r1 => ?_) (fun e1 => ?_)
  · simp only [fApp, RE.bd, e1] at p
    rw [hb] at r1
    have r := rpBs_rps r1
    unfold lstB at p
    split at p
    · rename_i hl
      rw [bigL_eq] at hl
      refine ⟨by rw [r.length]; exact hl, fun a hn => ?_⟩
      have nw : NewC g.K (Av C.Z ρ1 σ) H1 (.lst vs) (.lst ds) := ⟨vs, rfl, r⟩
      refine p a _ (j1.plus hn) ((nw.tp hn).keep (fun b z => ?_) (fun _ _ e _ => e) (fun _ e => e)) ?_ ?_
      · rcases z with (z | z) | z
        · exact .inl (.inl z)
        · exact .inr z
        · exact .inl (.inr z)
      · cases e : C.H0 a with
        | none => rfl
        | some u =>
          obtain ⟨x, q⟩ := j1.ex a u e
          rw [hn] at q; cases q
      · intro z
        obtain ⟨u, e⟩ := j1.zSome z
        rw [hn] at e; cases e
    · exact p.elim
  · simp only [fApp, RE.bd, e1] at p
    exact p _ _ _ j1 r1
  · simp only [fApp, RE.bd, e1] at p
    exact p
/-! ### tests -/
def fT (f : FE) : FT := fun ρ => (f ρ).bd fun d ρ' => match d with
  | .bl b => .ok b ρ'
  | _ => .bad
theorem tr_tB {t : TE} {f : FE} (h : TrE g W t f) : TrT g W (tB t) (fT f) := by
  intro C ρ σ H Q j p
  refine h C ρ σ H _ j ?_
  unfold fT at p
  cases e : f ρ with
  | ok d ρ' =>
    simp only [e, RE.bd] at p
    intro v H' j' r
    cases d with
    | bl b => exact ⟨b, r, p b H' j' rfl⟩
    | _ => exact p.elim
  | ex x ρ' => simp only [e, RE.bd] at p; exact p
  | bad => simp only [e, RE.bd] at p; exact p
theorem tr_tTest {t : TE} {f : FE} (h : TrE g W t f) : TrT g W (tTest t) (fT f) := tr_tB h
def fNot (f : FT) : FT := fun ρ => (f ρ).bd fun b ρ' => .ok (!b) ρ'
theorem tr_not {t : TT} {f : FT} (h : TrT g W t f) : TrT g W (tNot t) (fNot f) := by
  intro C ρ σ H Q j p
  refine h C ρ σ H _ j ?_
  unfold fNot at p
  cases e : f ρ with
  | ok b ρ' =>
    simp only [e, RE.bd] at p
    intro v H' j' r
    cases (show v = b from r)
    exact p _ H' j' rfl
  | ex x ρ' => simp only [e, RE.bd] at p; exact p
  | bad => simp only [e, RE.bd] at p; exact p
def fAnd (f f' : FT) : FT := fun ρ => (f ρ).bd fun b ρ' => if b = true then f' ρ' else .ok false ρ'
def fOr (f f' : FT) : FT := fun ρ => (f ρ).bd fun b ρ' => if b = true then .ok true ρ' else f' ρ'
theorem tr_and {t u : TT} {f f' : FT} (h : TrT g W t f) (h' : TrT g W u f') : TrT g W (tAnd t u) (fAnd f f') := by
  intro C ρ σ H Q j p
  refine h.step j (fun b ρ1 e1 v H1 j1 k1 r1 => ?_) (fun x ρ1 e1 cls dd H1 j1 r1 => ?_) (fun e1 => ?_)
  · cases (show v = b from r1)
    simp only [fAnd, RE.bd, e1] at p
    cases b with
    | true => exact h' C ρ1 σ H1 Q j1 p
    | false => exact p _ H1 j1 rfl
  · simp only [fAnd, RE.bd, e1] at p
    exact p _ _ _ j1 r1
  · simp only [fAnd, RE.bd, e1] at p
    exact p
theorem tr_or {t u : TT} {f f' : FT} (h : TrT g W t f) (h' : TrT g W u f') : TrT g W (tOr t u) (fOr f f') := by
  intro C ρ σ H Q j p
  refine h.step j (fun b ρ1 e1 v H1 j1 k1 r1 => ?_) (fun x ρ1 e1 cls dd H1 j1 r1 => ?_) (fun e1 => ?_)
  · cases (show v = b from r1)
    simp only [fOr, RE.bd, e1] at p
    cases b with
    | false => exact h' C ρ1 σ H1 Q j1 p
    | true => exact p _ H1 j1 rfl
  · simp only [fOr, RE.bd, e1] at p
    exact p _ _ _ j1 r1
  · simp only [fOr, RE.bd, e1] at p
    exact p
/-- .. as values -/
def fAndV (f f' : FE) : FE := fun ρ => (f ρ).bd fun d ρ' => match d with
  | .bl true => f' ρ'
  | .bl false => .ok (.bl false) ρ'
  | _ => .bad
def fOrV (f f' : FE) : FE := fun ρ => (f ρ).bd fun d ρ' => match d with
  | .bl false => f' ρ'
  | .bl true => .ok (.bl true) ρ'
  | _ => .bad
def fNotV (f : FE) : FE := fun ρ => (f ρ).bd fun d ρ' => match d with
  | .bl b => .ok (.bl (!b)) ρ'
  | _ => .bad
theorem tr_andV {t u : TE} {f f' : FE} (h : TrE g W t f) (h' : TrE g W u f') : TrE g W (tAndV t u) (fAndV f f') := by
  intro C ρ σ H Q j p
  refine h.step j (fun d ρ1 e1 v H1 j1 k1 r1 => ?_) (fun x ρ1 e1 cls dd H1 j1 r1 => ?_) (fun e1 => ?_)
  · simp only [fAndV, RE.bd, e1] at p
    cases d with
    | bl b =>
      refine ⟨b, r1, ?_⟩
      cases b with
      | true => exact h' C ρ1 σ H1 Q j1 p
      | false => exact p _ H1 j1 rfl
    | _ => exact p.elim
  · simp only [fAndV, RE.bd, e1] at p
    exact p _ _ _ j1 r1
  · simp only [fAndV, RE.bd, e1] at p
    exact p
theorem tr_orV {t u : TE} {f f' : FE} (h : TrE g W t f) (h' : TrE g W u f') : TrE g W (tOrV t u) (fOrV f f') := by
  intro C ρ σ H Q j p
  refine h.step j (fun d ρ1 e1 v H1 j1 k1 r1 => ?_) (fun x ρ1 e1 cls dd H1 j1 r1 => ?_) (fun e1 => ?_)
  · simp only [fOrV, RE.bd, e1] at p
    cases d with
    | bl b =>
      refine ⟨b, r1, ?_⟩
      cases b with
      | false => exact h' C ρ1 σ H1 Q j1 p
      | true => exact p _ H1 j1 rfl
    | _ => exact p.elim
  · simp only [fOrV, RE.bd, e1] at p
    exact p _ _ _ j1 r1
  · simp only [fOrV, RE.bd, e1] at p
    exact p
theorem tr_notV {t : TE} {f : FE} (h : TrE g W t f) : TrE g W (tNotV t) (fNotV f) := by
  intro C ρ σ H Q j p
  refine h C ρ σ H _ j ?_
  unfold fNotV at p
  cases e : f ρ with
  | ok d ρ' =>
    simp only [e, RE.bd] at p
    intro v H' j' r
    cases d with
    | bl b => exact ⟨b, r, p _ H' j' rfl⟩
    | _ => exact p.elim
  | ex x ρ' => simp only [e, RE.bd] at p; exact p
  | bad => simp only [e, RE.bd] at p; exact p
def fIf (c : FT) (f f' : FE) : FE := fun ρ => (c ρ).bd fun b ρ' => if b = true then f ρ' else f' ρ'
theorem tr_if {c : TT} {t u : TE} {k : FT} {f f' : FE} (hc : TrT g W c k) (h : TrE g W t f) (h' : TrE g W u f') : TrE g W (tIf c t u) (fIf k f f') := by
  intro C ρ σ H Q j p
  refine hc.step j (fun b ρ1 e1 v H1 j1 k1 r1 => ?_) (fun x ρ1 e1 cls dd H1 j1 r1 => ?_) (fun e1 => ?_)
  · cases (show v = b from r1)
    simp only [fIf, RE.bd, e1] at p
    cases b with
    | true => exact h C ρ1 σ H1 Q j1 p
    | false => exact h' C ρ1 σ H1 Q j1 p
  · simp only [fIf, RE.bd, e1] at p
    exact p _ _ _ j1 r1
  · simp only [fIf, RE.bd, e1] at p
    exact p
end
end DL

namespace DL
open PySem PySem.Spec PyProof.Rows L2

section
variable (g : G) (W : WX)
def PostS (C : JC) (D' : Ends) : RS → Prop
  | .nx ρ => ∀ σ H, J g C ρ σ H → D'.nx σ H
  | .bk ρ => ∀ σ H, J g C ρ σ H → D'.bk σ H
  | .ct ρ => ∀ σ H, J g C ρ σ H → D'.ct σ H
  | .rt d ρ => ∀ v σ H, J g C ρ σ H → Rp g.K (Av C.Z ρ σ) H v d → D'.rt v H
  | .ex x ρ => ∀ cls dd σ H, J g C ρ σ H → ExR g.K g.mg x cls dd H → W cls dd σ H
  | .bad => False
def TrS (t : TS) (f : FS) : Prop := ∀ C ρ σ H D', J g C ρ σ H → PostS g W C D' (f ρ) → t D' σ H
end
section
variable {g : G} {W : WX} {C : JC} {ρ ρ' : Sl} {σ σ' : L2.St} {H H' : Hp}
theorem PostG.st {t : TE} {f : FE} {k : D → Sl → RS} (h : TrE g W t f) {D' : Ends} {Q : VK} (j : J g C ρ σ H) (p : PostS g W C D' ((f ρ).bs k))
    (q : ∀ d ρ1 v H1, J g C ρ1 σ H1 → J g (C.at ρ σ H) ρ1 σ H1 → Rp g.K (Av C.Z ρ1 σ) H1 v d → PostS g W C D' (k d ρ1) → Q v H1) : t σ H Q := by
  refine h.step j (fun d ρ1 e1 v H1 j1 k1 r1 => ?_) (fun x ρ1 e1 cls dd H1 j1 r1 => ?_) (fun e1 => ?_)
  · simp only [RE.bs, e1] at p
    exact q d ρ1 v H1 j1 k1 r1 p
  · simp only [RE.bs, e1] at p
    exact p _ _ _ _ j1 r1
  · simp only [RE.bs, e1] at p
    exact p
def sNext : FS := fun ρ => .nx ρ
theorem trs_next : TrS g W tNext sNext := fun C ρ σ H D' j p => p σ H j
def sSeq (a b : FS) : FS := fun ρ => match a ρ with
  | .nx ρ' => b ρ'
  | r => r
theorem trs_seq {t u : TS} {a b : FS} (h : TrS g W t a) (h' : TrS g W u b) : TrS g W (tSeq t u) (sSeq a b) := by
  intro C ρ σ H D' j p
  refine h C ρ σ H _ j ?_
  unfold sSeq at p
  cases e : a ρ with
  | nx ρ' => rw [e] at p; exact fun σ1 H1 j1 => h' C ρ' σ1 H1 D' j1 p
  | bk ρ' => rw [e] at p; exact p
  | ct ρ' => rw [e] at p; exact p
  | rt d ρ' => rw [e] at p; exact p
  | ex x ρ' => rw [e] at p; exact p
  | bad => rw [e] at p; exact p
def sBreak : FS := fun ρ => .bk ρ
def sCont : FS := fun ρ => .ct ρ
theorem trs_break : TrS g W tBreak sBreak := fun C ρ σ H D' j p => p σ H j
theorem trs_cont : TrS g W tCont sCont := fun C ρ σ H D' j p => p σ H j
def sRet (f : FE) : FS := fun ρ => (f ρ).bs fun d ρ' => .rt d ρ'
theorem trs_ret {t : TE} {f : FE} (h : TrE g W t f) : TrS g W (tRet t) (sRet f) := fun C ρ σ H D' j p =>
  PostG.st h j p fun d ρ1 v H1 j1 _ r p => p v σ H1 j1 r
def sRetN : FS := fun ρ => .rt .non ρ
theorem trs_retN : TrS g W tRetN sRetN := fun C ρ σ H D' j p => p .non σ H j rfl
def sExpr (f : FE) : FS := fun ρ => (f ρ).bs fun _ ρ' => .nx ρ'
theorem trs_expr {t : TE} {f : FE} (h : TrE g W t f) : TrS g W (tDrop t) (sExpr f) := fun C ρ σ H D' j p =>
  PostG.st h j p fun d ρ1 v H1 j1 _ r p => p σ H1 j1
def sIf (c : FT) (a b : FS) : FS := fun ρ => (c ρ).bs fun k ρ' => if k = true then a ρ' else b ρ'
theorem trs_if {c : TT} {t u : TS} {k : FT} {a b : FS} (hc : TrT g W c k) (h : TrS g W t a) (h' : TrS g W u b) : TrS g W (tIfS c t u) (sIf k a b) := by
  intro C ρ σ H D' j p
  refine hc.step j (fun b ρ1 e1 v H1 j1 k1 r1 => ?_) (fun x ρ1 e1 cls dd H1 j1 r1 => ?_) (fun e1 => ?_)
  · cases (show v = b from r1)
    simp only [sIf, RE.bs, e1] at p
    cases b with
    | true => exact h C ρ1 σ H1 D' j1 p
    | false => exact h' C ρ1 σ H1 D' j1 p
  · simp only [sIf, RE.bs, e1] at p
    exact p _ _ _ _ j1 r1
  · simp only [sIf, RE.bs, e1] at p
    exact p

/-! ### a slot is stored -/
/-- the slot i takes a value -/
theorem J.setV {i : Nat} {v : V} {d : D} (hm : g.m = false ∨ i ≠ 0) (j : J g C ρ σ H) (r : Rp g.K (Av C.Z ρ σ) H v d) : J g C (ρ.set i (.val d)) (σ.set i (some v)) H := by
  have lo : ∀ b, own (ρ.set i (.val d)) (σ.set i (some v)) b → own ρ σ b := fun b z => by
    obtain ⟨k, e, hk, h1, h2⟩ := own_set (d := d) (fun _ z => by cases z) z
    rw [List.getElem?_set_ne (Ne.symm hk)] at h2
    exact ⟨k, e, h1, h2⟩
  have le : ∀ b, Av C.Z (ρ.set i (.val d)) (σ.set i (some v)) b → Av C.Z ρ σ b := fun b z => z.imp id (lo b)
  refine ⟨by simpa using j.len, fun k s hk => ?_, fun k l d' e' b h1 h2 h3 h4 => ?_, j.ext, j.ex, fun b z => ⟨j.zSome z, fun o => (j.zin b z).2 (lo b o)⟩, fun b e => ⟨(j.br b e).1, by rw [List.getElem?_set_ne (hm.elim (fun z => absurd (j.br b e).1 (by rw [z]; decide)) id)]; exact (j.br b e).2⟩, j.tab, j.tz, j.tr, j.gt, j.hb⟩
  · by_cases hik : i = k
    · subst hik
      have li : i < ρ.length := by
        have := (List.getElem?_eq_some_iff.mp hk).1; simpa using this
      have li' : i < σ.length := by rw [← j.len]; exact li
      rw [List.getElem?_set_self li] at hk
      cases hk
      exact ⟨v, List.getElem?_set_self li', Rp.keep le (fun _ _ e _ => e) _ _ r⟩
    · rw [List.getElem?_set_ne hik] at hk
      have q := j.slot k s hk
      cases s with
      | emp => trivial
      | exc =>
        obtain ⟨x, h1, h2⟩ := q
        exact ⟨x, h1, by rw [List.getElem?_set_ne hik]; exact h2⟩
      | val d' =>
        obtain ⟨w, h1, h2⟩ := q
        exact ⟨w, by rw [List.getElem?_set_ne hik]; exact h1, Rp.keep le (fun _ _ e _ => e) _ _ h2⟩
      | own d' =>
        obtain ⟨b, h1, h2, h3⟩ := q
        exact ⟨b, by rw [List.getElem?_set_ne hik]; exact h1, h2.keep le (fun _ _ e _ => e) (fun _ e => e), h3⟩
  · have f : ∀ {m : Nat} {x : D}, (ρ.set i (.val d))[m]? = some (.own x) → m ≠ i ∧ ρ[m]? = some (.own x) := fun {m x} q => by
      by_cases hm : i = m
      · subst hm
        have li : i < ρ.length := by
          have := (List.getElem?_eq_some_iff.mp q).1; simpa using this
        rw [List.getElem?_set_self li] at q; cases q
      · rw [List.getElem?_set_ne hm] at q
        exact ⟨Ne.symm hm, q⟩
    obtain ⟨n1, q1⟩ := f h1
    obtain ⟨n2, q2⟩ := f h2
    rw [List.getElem?_set_ne (Ne.symm n1)] at h3
    rw [List.getElem?_set_ne (Ne.symm n2)] at h4
    exact j.inj k l _ _ b q1 q2 h3 h4
def sSet (i : Nat) (f : FE) : FS := fun ρ => (f ρ).bs fun d ρ' => .nx (ρ'.set i (.val d))
theorem trs_set {i : Nat} {t : TE} {f : FE} (hm : g.m = false ∨ i ≠ 0) (h : TrE g W t f) : TrS g W (tAsg t (gName i)) (sSet i f) := fun C ρ σ H D' j p =>
  PostG.st h j p fun d ρ1 v H1 j1 _ r p => p _ _ (j1.setV hm r)
/-- a new container, one's own -/
theorem J.setN {i : Nat} {a : Addr} {d : D} (hm : g.m = false ∨ i ≠ 0) (j : J g (C.plus a) ρ σ H) (t : Tp g.K (Av (C.plus a).Z ρ σ) H a d) (h0 : C.H0 a = none) (nz : ¬ C.Z a) : J g C (ρ.set i (.own d)) (σ.set i (some (.ref a))) H := by
  have lo : ∀ b, own (ρ.set i (.own d)) (σ.set i (some (.ref a))) b → own ρ σ b ∨ b = a := fun b z => by
    obtain ⟨k, e, h1, h2⟩ := z
    by_cases hk : i = k
    · subst hk
      have li : i < (σ.set i (some (V.ref a))).length := (List.getElem?_eq_some_iff.mp h2).1
      rw [List.getElem?_set_self (by simpa using li)] at h2
      cases h2; exact .inr rfl
    · rw [List.getElem?_set_ne hk] at h1 h2
      exact .inl ⟨k, e, h1, h2⟩
  have le : ∀ b, Av C.Z (ρ.set i (.own d)) (σ.set i (some (.ref a))) b → Av (C.plus a).Z ρ σ b := fun b z => by
    rcases z with z | z
    · exact .inl (.inl z)
    · rcases lo b z with z | z
      · exact .inr z
      · exact .inl (.inr z)
  have na : ¬ own ρ σ a := (j.zin a (.inr rfl)).2
  refine ⟨by simpa using j.len, fun k s hk => ?_, fun k l d' e' b h1 h2 h3 h4 => ?_, j.ext, j.ex, fun b z => ⟨(j.zin b (.inl z)).1, fun o => ?_⟩, fun b e => ⟨(j.br b e).1, by rw [List.getElem?_set_ne (hm.elim (fun z => absurd (j.br b e).1 (by rw [z]; decide)) id)]; exact (j.br b e).2⟩, j.tab, fun p hp => (j.tz p hp).elim id fun z => absurd z (t.noT j.tab p hp), j.tr, j.gt, j.hb.zs rfl rfl fun _ _ _ _ z => .inl (.inl z)⟩
  · by_cases hik : i = k
    · subst hik
      have li : i < ρ.length := by
        have := (List.getElem?_eq_some_iff.mp hk).1; simpa using this
      have li' : i < σ.length := by rw [← j.len]; exact li
      rw [List.getElem?_set_self li] at hk
      cases hk
      exact ⟨a, List.getElem?_set_self li', t.keep le (fun _ _ e _ => e) (fun _ e => e), .inl h0⟩
    · rw [List.getElem?_set_ne hik] at hk
      have q := j.slot k s hk
      cases s with
      | emp => trivial
      | exc =>
        obtain ⟨x, h1, h2⟩ := q
        exact ⟨x, h1, by rw [List.getElem?_set_ne hik]; exact h2⟩
      | val d' =>
        obtain ⟨w, h1, h2⟩ := q
        exact ⟨w, by rw [List.getElem?_set_ne hik]; exact h1, Rp.keep le (fun _ _ e _ => e) _ _ h2⟩
      | own d' =>
        obtain ⟨b, h1, h2, h3⟩ := q
        exact ⟨b, by rw [List.getElem?_set_ne hik]; exact h1, h2.keep le (fun _ _ e _ => e) (fun _ e => e), h3⟩
  · have f : ∀ {m : Nat} {x : D}, (ρ.set i (.own d))[m]? = some (.own x) → (σ.set i (some (.ref a)))[m]? = some (some (.ref b)) → (m = i ∧ b = a) ∨ (m ≠ i ∧ ρ[m]? = some (.own x) ∧ σ[m]? = some (some (.ref b))) := fun {m x} q q' => by
      by_cases hm : i = m
      · subst hm
        have li : i < (σ.set i (some (V.ref a))).length := (List.getElem?_eq_some_iff.mp q').1
        rw [List.getElem?_set_self (by simpa using li)] at q'
        cases q'; exact .inl ⟨rfl, rfl⟩
      · rw [List.getElem?_set_ne hm] at q q'
        exact .inr ⟨Ne.symm hm, q, q'⟩
    rcases f h1 h3 with ⟨e1, e2⟩ | ⟨n1, q1, q3⟩
    · rcases f h2 h4 with ⟨e3, e4⟩ | ⟨n2, q2, q4⟩
      · rw [e1, e3]
      · subst e2; exact absurd ⟨l, _, q2, q4⟩ na
    · rcases f h2 h4 with ⟨e3, e4⟩ | ⟨n2, q2, q4⟩
      · subst e4; exact absurd ⟨k, _, q1, q3⟩ na
      · exact j.inj k l _ _ b q1 q2 q3 q4
  · rcases lo b o with o | o
    · exact (j.zin b (.inl z)).2 o
    · subst o; exact nz z
def sNew (i : Nat) (f : FE) : FS := fun ρ => (f ρ).bs fun d ρ' => .nx (ρ'.set i (.own d))
theorem trs_new {i : Nat} {t : TE} {f : FE} (hm : g.m = false ∨ i ≠ 0) (h : TrN g W t f) : TrS g W (tAsg t (gName i)) (sNew i f) := by
  intro C ρ σ H D' j p
  refine h C ρ σ H _ j ?_
  unfold sNew at p
  cases e : f ρ with
  | ok d ρ' =>
    simp only [RE.bs, e] at p
    exact fun a H' j' t' h0 nz => p _ _ (j'.setN hm t' h0 nz)
  | ex x ρ' => simp only [RE.bs, e] at p; exact fun cls dd H' j' r => p cls dd σ H' j' r
  | bad => simp only [RE.bs, e] at p; exact p.elim

/-! ### a container of one's own is changed -/
/-- what may stand beside is kept, the slot i holds another content -/
theorem J.writeG {i : Nat} {a : Addr} {d e : D} (j : J g C ρ σ H) (hi : ρ[i]? = some (.own d)) (ha : σ[i]? = some (some (.ref a))) (md : ∀ b u, H b = some u → b ≠ a → H' b = some u) (t : Tp g.K (Av C.Z ρ σ) H' a e) : J g C (ρ.set i (.own e)) σ H' := by
  have li : i < ρ.length := (List.getElem?_eq_some_iff.mp hi).1
  have f : ∀ {m : Nat} {x : D}, (ρ.set i (.own e))[m]? = some (.own x) → ∃ y, ρ[m]? = some (.own y) := fun {m x} q => by
    by_cases hm : i = m
    · subst hm; exact ⟨d, hi⟩
    · rw [List.getElem?_set_ne hm] at q; exact ⟨x, q⟩
  have lo : ∀ b, own (ρ.set i (.own e)) σ b → own ρ σ b := fun b ⟨m, x, h1, h2⟩ => by
    obtain ⟨y, h⟩ := f h1
    exact ⟨m, y, h, h2⟩
  have le : ∀ b, Av C.Z (ρ.set i (.own e)) σ b → Av C.Z ρ σ b := fun b z => z.imp id (lo b)
  have oa : own ρ σ a := ⟨i, d, hi, ha⟩
  have ne : ∀ b, ¬ Av C.Z ρ σ b → b ≠ a := fun b n z => n (by rw [z]; exact .inr oa)
  have kp : ∀ b u, H b = some u → ¬ Av C.Z ρ σ b → H' b = some u := fun b u q n => md b u q (ne b n)
  refine ⟨by simpa using j.len, fun k s hk => ?_, fun k l d' e' b h1 h2 h3 h4 => ?_, fun b u q n => ?_, fun b u q => ?_, fun b z => ⟨?_, fun o => (j.zin b z).2 (lo b o)⟩, j.br, (by
    obtain ⟨b, h1, h2, _⟩ := j.slot i _ hi
    rw [ha] at h1; cases h1
    exact h2.tabs md j.tab), j.tz, j.tr, j.gt, j.hb.to fun B z e b u q w => md b u w fun n => by rw [n, j.ownB e oa] at q; cases q⟩
  · by_cases hik : i = k
    · subst hik
      rw [List.getElem?_set_self li] at hk
      cases hk
      obtain ⟨b, h1, _, h3⟩ := j.slot i _ hi
      rw [ha] at h1; cases h1
      exact ⟨a, ha, t.keep le (fun _ _ e _ => e) (fun _ e => e), h3⟩
    · rw [List.getElem?_set_ne hik] at hk
      have q := j.slot k s hk
      cases s with
      | emp => trivial
      | exc => exact q
      | val d' =>
        obtain ⟨w, h1, h2⟩ := q
        exact ⟨w, h1, Rp.keep le kp _ _ h2⟩
      | own d' =>
        obtain ⟨b, h1, h2, h3⟩ := q
        have nb : b ≠ a := fun z => by subst z; exact hik (j.inj i k _ _ b hi hk ha h1)
        exact ⟨b, h1, h2.keep le kp (fun u e => md _ u e nb), h3⟩
  · obtain ⟨y, q1⟩ := f h1
    obtain ⟨z, q2⟩ := f h2
    exact j.inj k l _ _ b q1 q2 h3 h4
  · have q' := j.ext b u q n
    by_cases hb : b = a
    · subst hb
      obtain ⟨c, h1, _, h3⟩ := j.slot i _ hi
      rw [ha] at h1; cases h1
      rcases h3 with h3 | h3
      · rw [q] at h3; cases h3
      · exact absurd h3 n
    · exact md b u q' hb
  · obtain ⟨x, q⟩ := j.ex b u q
    by_cases hb : b = a
    · rw [hb]; exact t.some
    · exact ⟨x, md b x q hb⟩
  · obtain ⟨u, q⟩ := j.zSome z
    by_cases hb : b = a
    · rw [hb]; exact t.some
    · exact ⟨u, md b u q hb⟩
theorem J.write {i : Nat} {a : Addr} {d e : D} {o : HO} (j : J g C ρ σ H) (hi : ρ[i]? = some (.own d)) (ha : σ[i]? = some (some (.ref a))) (t : Tp g.K (Av C.Z ρ σ) (upd H a o) a e) : J g C (ρ.set i (.own e)) σ (upd H a o) :=
  j.writeG hi ha (fun b u q n => by rw [upd_ne n]; exact q) t
/-- contents that stand elsewhere -/
theorem J.cont {i : Nat} {a : Addr} {d : D} {o : HO} (j : J g C ρ σ H) (hi : ρ[i]? = some (.own d)) (ha : σ[i]? = some (some (.ref a))) {vs : List V} {ds : List D} (r : Rps g.K (Av C.Z ρ σ) H vs ds) : Rps g.K (Av C.Z ρ σ) (upd H a o) vs ds :=
  Rps.keep (fun _ z => z) (fun b u q n => by rw [upd_ne (fun z => n (by rw [z]; exact .inr ⟨i, d, hi, ha⟩))]; exact q) _ _ r
theorem J.ownL {i : Nat} {ds : List D} (j : J g C ρ σ H) (hi : ρ[i]? = some (.own (.lst ds))) : ∃ a vs, σ[i]? = some (some (.ref a)) ∧ H a = some (.lst vs) ∧ Rps g.K (Av C.Z ρ σ) H vs ds := by
  obtain ⟨a, h1, ⟨vs, h2, h3⟩, _⟩ := j.slot i _ hi
  exact ⟨a, vs, h1, h2, h3⟩
theorem J.setL {i : Nat} {a : Addr} {ds es : List D} {us : List V} (j : J g C ρ σ H) (hi : ρ[i]? = some (.own (.lst ds))) (ha : σ[i]? = some (some (.ref a))) (r : Rps g.K (Av C.Z ρ σ) H us es) : J g C (ρ.set i (.own (.lst es))) σ (upd H a (.lst us)) :=
  j.write hi ha ⟨us, upd_same, j.cont hi ha r⟩

/-- the list in slot i -/
def lstAt (ρ : Sl) (i : Nat) : Option (List D) := match ρ[i]? with
  | some (.own (.lst ds)) => some ds
  | _ => none
theorem lstAt_some {i : Nat} {ds : List D} (h : lstAt ρ i = some ds) : ρ[i]? = some (.own (.lst ds)) := by
  unfold lstAt at h
  split at h
  · rename_i e; cases h; exact e
  · cases h
/-- x.append(e) -/
def sAppend (i : Nat) (f : FE) : FS := fun ρ => if (lstAt ρ i).isSome = true then (f ρ).bs fun d ρ' => match lstAt ρ' i with
    | some ds => if ds.length < bigL then .nx (ρ'.set i (.own (.lst (ds ++ [d])))) else .bad
    | none => .bad
  else .bad
theorem trs_append {i : Nat} {t : TE} {f : FE} (h : TrE g W t f) : TrS g W (tDrop (tBM g.K "list" rAppend (tVar i) (tCons t tNil))) (sAppend i f) := by
  intro C ρ σ H D' j p
  unfold sAppend at p
  split at p
  · rename_i hs
    obtain ⟨ds0, e0⟩ := Option.isSome_iff_exists.mp hs
    obtain ⟨a, vs0, ha, hl0, r0⟩ := j.ownL (lstAt_some e0)
    refine ⟨_, ha, .inl ⟨rfl, vs0, SqL.of hl0⟩, ?_⟩
    refine PostG.st h j p fun d ρ1 v H1 j1 k1 r1 p1 => ?_
    cases e1 : lstAt ρ1 i with
    | none => simp only [e1] at p1; exact p1.elim
    | some ds =>
      simp only [e1] at p1
      split at p1
      · rename_i hlen
        obtain ⟨b, vs, hb, hl, r⟩ := j1.ownL (lstAt_some e1)
        rw [ha] at hb; cases hb
        rw [bigL_eq] at hlen
        refine ⟨a, vs, v, rfl, rfl, hl, by rw [r.length]; exact hlen, p1 _ _ (j1.setL (lstAt_some e1) ha (r.app ⟨v, [], rfl, r1, rfl⟩))⟩
      · exact p1.elim
  · exact p.elim
/-- x[k] = e -/
def sPut (i : Nat) (f fi : FE) : FS := fun ρ => (f ρ).bs fun d ρ1 => if (lstAt ρ1 i).isSome = true then (fi ρ1).bs fun k ρ2 => match k, lstAt ρ2 i with
    | .int n, some ds => match ixN ds.length n with
      | some m => .nx (ρ2.set i (.own (.lst (ds.set m d))))
      | none => .bad
    | _, _ => .bad
  else .bad
theorem trs_put {i : Nat} {t ti : TE} {f fi : FE} (h : TrE g W t f) (hi : TrE g W ti fi) : TrS g W (tAsg t (gSub (tVar i) ti rSetL)) (sPut i f fi) := by
  intro C ρ σ H D' j p
  unfold sPut at p
  refine PostG.st h j p fun d ρ1 v H1 j1 k1 r1 p1 => ?_
  split at p1
  · rename_i hs
    obtain ⟨ds0, e0⟩ := Option.isSome_iff_exists.mp hs
    obtain ⟨a, vs0, ha, hl0, r0⟩ := j1.ownL (lstAt_some e0)
    refine ⟨_, ha, ?_⟩
    refine PostG.st hi j1 p1 fun k ρ2 w H2 j2 k2 r2 p2 => ?_
    split at p2
    · rename_i n ds e1
      split at p2
      · rename_i m em
        obtain ⟨b, vs, hb, hl, r⟩ := j2.ownL (lstAt_some e1)
        rw [ha] at hb; cases hb
        refine ⟨a, vs, n, m, rfl, r2, hl, by rw [r.length]; exact em, p2 _ _ (j2.setL (lstAt_some e1) ha (r.set (J.carry j1 k2 _ _ r1) m))⟩
      · exact p2.elim
    · exact p2.elim
  · exact p1.elim
/-- x op= e at a name, by values -/
def sAug (i : Nat) (b : List D → Option D) (f : FE) : FS := fun ρ => match ρ[i]? with
  | some (.val d) => if d.scal = true then (f ρ).bs fun e ρ1 => match b [d, e] with
    | some z => .nx (ρ1.set i (.val z))
    | none => .bad
    else .bad
  | _ => .bad
theorem trs_aug {i : Nat} {t : TE} {f : FE} {r : R2} {b : List D → Option D} (hm : g.m = false ∨ i ≠ 0) (h : TrE g W t f) (hb : BiOk g.K (r2 r) b) : TrS g W (tAug i t r) (sAug i b f) := by
  intro C ρ σ H D' j p
  unfold sAug at p
  split at p
  · rename_i d e
    split at p
    · rename_i hsc
      obtain ⟨x, hx, rx⟩ := j.slot i _ e
      refine ⟨x, hx, ?_⟩
      refine PostG.st h j p fun d2 ρ1 v H1 j1 k1 r1 p1 => ?_
      split at p1
      · rename_i z ez
        refine hb (Av C.Z ρ1 σ) H1 [x, v] [d, d2] z (fun z H2 => D'.nx (σ.set i (some z)) H2) (fun a z => j1.avSome z) ⟨x, _, rfl, .inl (Rp.scal hsc rx), v, _, rfl, .inl r1, rfl⟩ ez fun w H2 k r => ?_
        exact p1 _ _ ((j1.grow k).setV hm r)
      · exact p1.elim
    · exact p.elim
  · exact p.elim
end
end DL

namespace DL
open PySem PySem.Spec PyProof.Rows L2

section
variable {g : G} {W : WX} {C : JC} {ρ ρ' : Sl} {σ σ' : L2.St} {H H' : Hp}
/-! ### while -/
def wLoop (c : FT) (b : FS) : Nat → FS
  | 0, _ => .bad
  | n + 1, ρ => (c ρ).bs fun k ρ1 => if k = true then (match b ρ1 with
      | .nx ρ2 => wLoop c b n ρ2
      | .ct ρ2 => wLoop c b n ρ2
      | .bk ρ2 => .nx ρ2
      | .rt d ρ2 => .rt d ρ2
      | .ex x ρ2 => .ex x ρ2
      | .bad => .bad) else .nx ρ1
theorem trs_while {c : TT} {t : TS} {k : FT} {b : FS} (n : Nat) (hc : TrT g W c k) (hb : TrS g W t b) : TrS g W (tWhile c t) (wLoop k b n) := by
  intro C ρ σ H D' j p
  refine ⟨fun m σ H => ∃ ρ, J g C ρ σ H ∧ PostS g W C D' (wLoop k b m ρ), ⟨n, ρ, j, p⟩, ?_⟩
  rintro m σ H ⟨ρ, j, p⟩
  cases m with
  | zero => exact p.elim
  | succ m =>
    refine hc.step j (fun b1 ρ1 e1 v H1 j1 k1 r1 => ?_) (fun x ρ1 e1 cls dd H1 j1 r1 => ?_) (fun e1 => ?_)
    · cases (show v = b1 from r1)
      simp only [wLoop, RE.bs, e1] at p
      cases b1 with
      | false => exact p σ H1 j1
      | true =>
        simp only [if_true] at p ⊢
        refine ⟨fun σ H => ∃ ρ, J g C ρ σ H ∧ PostS g W C D' (wLoop k b m ρ), fun σ' H' h => ⟨m, Nat.lt_succ_self m, h⟩, ?_⟩
        refine hb C ρ1 σ H1 _ j1 ?_
        cases e2 : b ρ1 with
        | nx ρ2 => simp only [e2] at p; exact fun σ2 H2 j2 => ⟨ρ2, j2, p⟩
        | ct ρ2 => simp only [e2] at p; exact fun σ2 H2 j2 => ⟨ρ2, j2, p⟩
        | bk ρ2 => simp only [e2] at p; exact p
        | rt d ρ2 => simp only [e2] at p; exact p
        | ex x ρ2 => simp only [e2] at p; exact p
        | bad => simp only [e2] at p; exact p
    · simp only [wLoop, RE.bs, e1] at p
      exact p _ _ _ _ j1 r1
    · simp only [wLoop, RE.bs, e1] at p
      exact p

/-! ### what is walked -/
/-- from the state at hand on, turn i yields the i-th thing -/
def ItOk (g : G) (C : JC) (Jt : It) (ds : List D) (ρ1 : Sl) (σ1 : L2.St) (H1 : Hp) : Prop :=
  ∀ (i : Nat) (A : Addr → Prop) H, (∀ a o, H1 a = some o → ¬ Av C.Z ρ1 σ1 a → H a = some o) → (∀ a, (∃ o, H1 a = some o) → A a → Av C.Z ρ1 σ1 a) →
    (∀ a, A a → ∃ o, H a = some o) →
    (i < ds.length → Jt.go i H ∧ ∀ x H', Jt.yld i H x H' → Grow H H' ∧ ∀ d, ds[i]? = some d → Rp g.K A H' x d) ∧ (ds.length ≤ i → Jt.stop i H)
def TrI (g : G) (W : WX) (wi : TI) (f : Sl → RE (List D)) : Prop := ∀ C ρ σ H R, J g C ρ σ H →
  (match f ρ with
    | .ok ds ρ' => ∀ Jt H', J g C ρ' σ H' → ItOk g C Jt ds ρ' σ H' → R Jt H'
    | .ex x ρ' => ∀ cls dd H', J g C ρ' σ H' → ExR g.K g.mg x cls dd H' → W cls dd σ H'
    | .bad => False) → wi σ H R
/-- a value that stood at the walk's start stands at each turn -/
theorem it_keep {C : JC} {ρ1 : Sl} {σ1 : L2.St} {H1 H : Hp} {A : Addr → Prop} (h1 : ∀ a o, H1 a = some o → ¬ Av C.Z ρ1 σ1 a → H a = some o) (h2 : ∀ a, (∃ o, H1 a = some o) → A a → Av C.Z ρ1 σ1 a) :
    ∀ a, ¬ Av C.Z ρ1 σ1 a → (∃ o, H1 a = some o) → ¬ A a ∧ ∀ o, H1 a = some o → H a = some o :=
  fun a n e => ⟨fun z => n (h2 a e z), fun o q => h1 a o q n⟩
/-- a list's or a tuple's items -/
def fSeq (f : FE) : Sl → RE (List D) := fun ρ => (f ρ).bd fun d ρ' => .of d.seq ρ'
def fLs (f : FE) : Sl → RE (List D) := fun ρ => (f ρ).bd fun d ρ' => .of d.ls ρ'
theorem tri_list {t : TE} {f : FE} (h : TrE g W t f) : TrI g W (iList g.K t) (fLs f) := by
  intro C ρ σ H R j p
  refine h.step j (fun d ρ1 e1 v H1 j1 k1 r1 => ?_) (fun x ρ1 e1 cls dd H1 j1 r1 => ?_) (fun e1 => ?_)
  · simp only [fLs, RE.bd, e1] at p
    cases e2 : d.ls with
    | none => simp only [e2, RE.of] at p
    | some ds =>
      simp only [e2, RE.of] at p
      obtain ⟨a, vs, rfl, s, r⟩ := Rq.ls (.inl r1) e2
      refine ⟨a, rfl, ⟨vs, s⟩, p _ H1 j1 fun i A H2 k1 k2 k3 => ?_⟩
      have r2 := Rp.gen (it_keep (C := C) k1 k2) _ _ r1
      obtain ⟨b, us, e3, s2, r3⟩ := Rq.ls (.inl r2) e2
      cases e3
      refine ⟨fun hi => ?_, fun hi => ⟨us, s2, by rw [r3.length]; exact hi⟩⟩
      have hi' : i < us.length := by rw [r3.length]; exact hi
      refine ⟨⟨us, us[i], s2, by simp [hi']⟩, fun x H3 y => ?_⟩
      obtain ⟨e4, y⟩ := y
      subst e4
      refine ⟨Grow.refl, fun d' hd => ?_⟩
      obtain ⟨d2, e5, r5⟩ := r3.get (y us s2)
      rw [hd] at e5; cases e5; exact r5
  · simp only [fLs, RE.bd, e1] at p
    exact p _ _ _ j1 r1
  · simp only [fLs, RE.bd, e1] at p
def fTs (f : FE) : Sl → RE (List D) := fun ρ => (f ρ).bd fun d ρ' => match d with
  | .tup xs => .ok xs ρ'
  | _ => .bad
theorem tri_tup {t : TE} {f : FE} (h : TrE g W t f) : TrI g W (iTup g.K t) (fTs f) := by
  intro C ρ σ H R j p
  refine h.step j (fun d ρ1 e1 v H1 j1 k1 r1 => ?_) (fun x ρ1 e1 cls dd H1 j1 r1 => ?_) (fun e1 => ?_)
  · simp only [fTs, RE.bd, e1] at p
    cases d with
    | tup ds =>
      obtain ⟨a, vs, rfl, s, r⟩ := r1
      refine ⟨a, rfl, ⟨vs, s.sq⟩, p _ H1 j1 fun i A H2 k1 k2 k3 => ?_⟩
      have r2 : Rp g.K A H2 (.ref a) (.tup ds) := Rp.gen (it_keep (C := C) k1 k2) _ _ ⟨a, vs, rfl, s, r⟩
      obtain ⟨b, us, e3, s2, r3⟩ := r2
      cases e3
      refine ⟨fun hi => ?_, fun hi => ⟨us, s2.sq, by rw [r3.length]; exact hi⟩⟩
      have hi' : i < us.length := by rw [r3.length]; exact hi
      refine ⟨⟨us, us[i], s2.sq, by simp [hi']⟩, fun x H3 y => ?_⟩
      obtain ⟨e4, y⟩ := y
      subst e4
      refine ⟨Grow.refl, fun d' hd => ?_⟩
      obtain ⟨d2, e5, r5⟩ := r3.get (y us s2.sq)
      rw [hd] at e5; cases e5; exact r5
    | _ => exact p.elim
  · simp only [fTs, RE.bd, e1] at p
    exact p _ _ _ j1 r1
  · simp only [fTs, RE.bd, e1] at p
/-- lo, lo + 1, .. (n of them) -/
def rngD (lo : Int) : Nat → List D
  | 0 => []
  | n + 1 => .int lo :: rngD (lo + 1) n
theorem rngD_length (lo : Int) (n : Nat) : (rngD lo n).length = n := by
  induction n generalizing lo with
  | zero => rfl
  | succ n ih => simp [rngD, ih]
theorem rngD_get (lo : Int) (n i : Nat) (h : i < n) : (rngD lo n)[i]? = some (.int (lo + i)) := by
  induction n generalizing lo i with
  | zero => omega
  | succ n ih =>
    cases i with
    | zero => simp [rngD]
    | succ i =>
      simp only [rngD, List.getElem?_cons_succ]
      rw [ih (lo + 1) i (by omega)]
      congr 2; omega
def rngOk (i : Int) : Bool := decide (-4611686018427387904 ≤ i ∧ i < 4611686018427387904)
def fRng1 (a : Ag) : Sl → RE (List D) := fun ρ => (evA [a] ρ).bd fun ds ρ' => match ds with
  | [.int n] => if rngOk n = true then .ok (rngD 0 n.toNat) ρ' else .bad
  | _ => .bad
def fRng2 (a b : Ag) : Sl → RE (List D) := fun ρ => (evA [a, b] ρ).bd fun ds ρ' => match ds with
  | [.int m, .int n] => if (rngOk m && rngOk n) = true then .ok (rngD m (n - m).toNat) ρ' else .bad
  | _ => .bad
theorem it_rng {lo : Int} {n : Nat} {ρ1 : Sl} {σ1 : L2.St} {H1 : Hp} : ItOk g C (Itr lo n) (rngD lo n) ρ1 σ1 H1 := fun i A H2 k1 k2 k3 => by
  rw [rngD_length]
  refine ⟨fun hi => ⟨hi, fun x H' y => ?_⟩, fun hi => hi⟩
  obtain ⟨e, y⟩ := y
  subst e y
  refine ⟨Grow.refl, fun d hd => ?_⟩
  rw [rngD_get lo n i hi] at hd
  cases hd; exact rfl
theorem tri_rng1 {t : TA} {a : Ag} (h : TrA g W t [a]) : TrI g W (iRng1 t) (fRng1 a) := by
  intro C ρ σ H R j p
  refine h.step j (fun ds ρ1 e1 vs H1 j1 k1 r1 => ?_) (fun x ρ1 e1 cls dd H1 j1 r1 => ?_) (fun e1 => ?_)
  · simp only [fRng1, RE.bd, e1] at p
    split at p
    · rename_i ds' ρ' q
      split at q
      · rename_i n
        split at q
        · rename_i hn
          cases q
          obtain ⟨v, rfl, hv⟩ := (r1.rq j1).one
          rw [hv.int]
          have hn := of_decide_eq_true hn
          exact ⟨n, rfl, hn.1, hn.2, p _ H1 j1 it_rng⟩
        · cases q
      · cases q
    · rename_i q
      split at q
      · split at q <;> cases q
      · cases q
    · exact p.elim
  · simp only [fRng1, RE.bd, e1] at p
    exact p _ _ _ j1 r1
  · simp only [fRng1, RE.bd, e1] at p
theorem tri_rng2 {t : TA} {a b : Ag} (h : TrA g W t [a, b]) : TrI g W (iRng2 t) (fRng2 a b) := by
  intro C ρ σ H R j p
  refine h.step j (fun ds ρ1 e1 vs H1 j1 k1 r1 => ?_) (fun x ρ1 e1 cls dd H1 j1 r1 => ?_) (fun e1 => ?_)
  · simp only [fRng2, RE.bd, e1] at p
    split at p
    · rename_i ds' ρ' q
      split at q
      · rename_i m n
        split at q
        · rename_i hn
          cases q
          obtain ⟨v, u, rfl, hv, hu⟩ := (r1.rq j1).two
          rw [hv.int, hu.int]
          rw [Bool.and_eq_true] at hn
          have h1 := of_decide_eq_true hn.1
          have h2 := of_decide_eq_true hn.2
          exact ⟨m, n, rfl, ⟨h1.1, h1.2, h2.1, h2.2⟩, p _ H1 j1 it_rng⟩
        · cases q
      · cases q
    · rename_i q
      split at q
      · split at q <;> cases q
      · cases q
    · exact p.elim
  · simp only [fRng2, RE.bd, e1] at p
    exact p _ _ _ j1 r1
  · simp only [fRng2, RE.bd, e1] at p

/-! ### targets -/
abbrev Tg := D → Sl → Option Sl
def TrTg (g : G) (t : TG) (f : Tg) (is : List Nat) : Prop := ∀ C ρ σ H v d Q, J g C ρ σ H → Rp g.K (Av C.Z ρ σ) H v d →
  (match f d ρ with
    | some ρ' => ∀ σ', J g C ρ' σ' H → σ'.length = σ.length → (∀ k : Nat, k ∉ is → σ'[k]? = σ[k]?) → (∀ a, own ρ' σ' a → own ρ σ a) → Q σ' H
    | none => False) → t v σ H Q
def tgName (i : Nat) : Tg := fun d ρ => some (ρ.set i (.val d))
theorem own_name {i : Nat} {d : D} {a : Addr} (k : ∀ k : Nat, k ∉ [i] → σ'[k]? = σ[k]?) (h : own (ρ.set i (.val d)) σ' a) : own ρ σ a := by
  obtain ⟨m, e, hm, h1, h2⟩ := own_set (d := d) (fun _ z => by cases z) h
  exact ⟨m, e, h1, by rw [← k m (by simpa using hm)]; exact h2⟩
theorem trt_name (i : Nat) (hm : g.m = false ∨ i ≠ 0) : TrTg g (gName i) (tgName i) [i] := fun C ρ σ H v d Q j r p =>
  have q : ∀ k : Nat, k ∉ [i] → (σ.set i (some v))[k]? = σ[k]? := fun k hk => by rw [List.getElem?_set_ne (fun z => hk (by simp [z]))]
  p _ (j.setV hm r) (by simp) q fun a => own_name q
def TrTgs (g : G) (t : TGs) (f : List D → Sl → Option Sl) (is : List Nat) : Prop := ∀ C ρ σ H vs ds Q, J g C ρ σ H → Rps g.K (Av C.Z ρ σ) H vs ds →
  (match f ds ρ with
    | some ρ' => ∀ σ', J g C ρ' σ' H → σ'.length = σ.length → (∀ k : Nat, k ∉ is → σ'[k]? = σ[k]?) → (∀ a, own ρ' σ' a → own ρ σ a) → Q σ' H
    | none => False) → t vs σ H Q
def tgNil : List D → Sl → Option Sl
  | [], ρ => some ρ
  | _ :: _, _ => none
def tgCons (f : Tg) (fr : List D → Sl → Option Sl) : List D → Sl → Option Sl
  | [], _ => none
  | d :: ds, ρ => (f d ρ).bind (fr ds)
theorem trts_nil : TrTgs g gNil tgNil [] := fun C ρ σ H vs ds Q j r p => by
  cases ds with
  | nil => exact ⟨r, p σ j rfl (fun _ _ => rfl) fun _ z => z⟩
  | cons d ds => exact p.elim
/-- what was stored is no container of one's own, so values stay -/
theorem trts_cons {t : TG} {ts : TGs} {f : Tg} {fr : List D → Sl → Option Sl} {is js : List Nat} (h : TrTg g t f is) (h' : TrTgs g ts fr js) : TrTgs g (gCons t ts) (tgCons f fr) (is ++ js) := fun C ρ σ H vs ds Q j r p => by
  cases ds with
  | nil => exact p.elim
  | cons d ds =>
    obtain ⟨v, vr, e, r1, r2⟩ := r
    refine ⟨v, vr, e, ?_⟩
    simp only [tgCons] at p
    refine h C ρ σ H v d _ j r1 ?_
    cases e1 : f d ρ with
    | none => rw [e1] at p; exact p.elim
    | some ρ1 =>
      simp only [e1, Option.bind_some] at p
      intro σ1 j1 l1 k1 o1
      refine h' C ρ1 σ1 H vr ds Q j1 (Rps.keep (fun a z => z.imp id (o1 a)) (fun _ _ e _ => e) _ _ r2) ?_
      cases e2 : fr ds ρ1 with
      | none => rw [e2] at p; exact p.elim
      | some ρ2 =>
        simp only [e2] at p
        exact fun σ2 j2 l2 k2 o2 => p σ2 j2 (l2.trans l1) (fun k hk => (k2 k fun z => hk (List.mem_append_right _ z)).trans (k1 k fun z => hk (List.mem_append_left _ z))) fun a z => o1 a (o2 a z)
theorem trts_name {i : Nat} {ts : TGs} {fr : List D → Sl → Option Sl} {js : List Nat} (hm : g.m = false ∨ i ≠ 0) (h' : TrTgs g ts fr js) : TrTgs g (gCons (gName i) ts) (tgCons (tgName i) fr) (i :: js) :=
  trts_cons (trt_name i hm) h'
def tgTup (f : List D → Sl → Option Sl) : Tg := fun d ρ => match d with
  | .tup ds => f ds ρ
  | _ => none
theorem trt_tup {n : Nat} {ts : TGs} {f : List D → Sl → Option Sl} {js : List Nat} (h : TrTgs g ts f js) (hn : ∀ ds ρ ρ', f ds ρ = some ρ' → ds.length = n) : TrTg g (gTup g.K n ts) (tgTup f) js := fun C ρ σ H v d Q j r p => by
  cases d with
  | tup ds =>
    simp only [tgTup] at p
    obtain ⟨a, vs, rfl, s, r⟩ := r
    cases e : f ds ρ with
    | none => rw [e] at p; exact p.elim
    | some ρ' => exact ⟨a, vs, rfl, s.sq, by rw [r.length, hn ds ρ ρ' e], h C ρ σ H vs ds Q j r (by rw [e] at p ⊢; exact p)⟩
  | _ => exact p.elim
/-- a, b, .. = e -/
def sUnp (f : FE) (tg : Tg) : FS := fun ρ => (f ρ).bs fun d ρ' => match tg d ρ' with
  | some ρ2 => .nx ρ2
  | none => .bad
theorem trs_unp {t : TE} {f : FE} {tt : TG} {tg : Tg} {is : List Nat} (h : TrE g W t f) (ht : TrTg g tt tg is) : TrS g W (tAsg t tt) (sUnp f tg) := fun C ρ σ H D' j p =>
  PostG.st h j p fun d ρ1 v H1 j1 _ r p => ht C ρ1 σ H1 v d _ j1 r (by
    cases e : tg d ρ1 with
    | none => rw [e] at p; exact p.elim
    | some ρ2 => rw [e] at p; exact fun σ' j' _ _ _ => p σ' H1 j')

/-! ### for -/
theorem PostS.at {C : JC} {ρ0 : Sl} {σ0 : L2.St} {H0 : Hp} {D' : Ends} {r : RS} (j : J g C ρ0 σ0 H0) (p : PostS g W C D' r) : PostS g W (C.at ρ0 σ0 H0) D' r := by
  cases r with
  | nx ρ => exact fun σ H k => p σ H (j.back k)
  | bk ρ => exact fun σ H k => p σ H (j.back k)
  | ct ρ => exact fun σ H k => p σ H (j.back k)
  | rt d ρ => exact fun v σ H k r => p v σ H (j.back k) r
  | ex x ρ => exact fun cls dd σ H k r => p cls dd σ H (j.back k) r
  | bad => exact p
def fLoop (tg : Tg) (b : FS) : List D → FS
  | [], ρ => .nx ρ
  | d :: ds, ρ => match tg d ρ with
    | none => .bad
    | some ρ1 => match b ρ1 with
      | .nx ρ2 => fLoop tg b ds ρ2
      | .ct ρ2 => fLoop tg b ds ρ2
      | .bk ρ2 => .nx ρ2
      | .rt d ρ2 => .rt d ρ2
      | .ex x ρ2 => .ex x ρ2
      | .bad => .bad
def sFor (f : Sl → RE (List D)) (tg : Tg) (b : FS) : FS := fun ρ => (f ρ).bs fun ds ρ1 => fLoop tg b ds ρ1
/-- at each turn of a walk that was begun at the state (ρ1, σ1, H1) -/
theorem ItOk.use {Jt : It} {ds : List D} {ρ1 : Sl} {σ1 : L2.St} {H1 : Hp} (h : ItOk g C Jt ds ρ1 σ1 H1) (j1 : J g C ρ1 σ1 H1) {ρ2 : Sl} {σ2 : L2.St} {H2 : Hp} (k : J g (C.at ρ1 σ1 H1) ρ2 σ2 H2) (i : Nat) :
    (i < ds.length → Jt.go i H2 ∧ ∀ x H', Jt.yld i H2 x H' → Grow H2 H' ∧ ∀ d, ds[i]? = some d → Rp g.K (Av C.Z ρ2 σ2) H' x d) ∧ (ds.length ≤ i → Jt.stop i H2) :=
  h i (Av C.Z ρ2 σ2) H2 (fun a o e n => k.ext a o e fun z => z.elim (fun z => n (.inr z)) fun ⟨p, hp, q⟩ => n (.inl (q ▸ j1.tz p hp))) (fun a e z => by
    rcases z with z | o
    · exact .inl z
    obtain ⟨m, d, h1, h2, h3, h4⟩ := k.ownTop o
    have h4 : H1 a = none ∨ own ρ1 σ1 a ∨ ∃ p ∈ C.T, p.1 = a := h4
    rcases h4 with h4 | h4 | ⟨p, hp, q⟩
    · obtain ⟨u, e⟩ := e; rw [e] at h4; cases h4
    · exact .inr h4
    · exact .inl (q ▸ j1.tz p hp)) (fun a z => k.avSome z)
theorem trs_for {wi : TI} {tt : TG} {t : TS} {f : Sl → RE (List D)} {tg : Tg} {b : FS} {is : List Nat} (hi : TrI g W wi f) (ht : TrTg g tt tg is) (hb : TrS g W t b) : TrS g W (tFor wi tt t) (sFor f tg b) := by
  intro C ρ σ H D' j p
  unfold sFor at p
  refine hi C ρ σ H _ j ?_
  cases e : f ρ with
  | bad => simp only [e, RE.bs] at p; exact p
  | ex x ρ' => simp only [e, RE.bs] at p; exact fun cls dd H' j' r => p _ _ _ _ j' r
  | ok ds ρ1 =>
    simp only [e, RE.bs] at p
    intro Jt H1 j1 it
    refine ⟨fun i m σ2 H2 => m = ds.length - i ∧ i ≤ ds.length ∧ ∃ ρ2, J g (C.at ρ1 σ H1) ρ2 σ2 H2 ∧ PostS g W C D' (fLoop tg b (ds.drop i) ρ2), ⟨ds.length, by simp, Nat.zero_le _, ρ1, j1.rebase, by simpa using p⟩, ?_⟩
    rintro i m σ2 H2 ⟨rfl, hi, ρ2, k2, p2⟩
    have u := it.use j1 k2 i
    by_cases hlt : i < ds.length
    · have ed : ds.drop i = ds[i] :: ds.drop (i + 1) := List.drop_eq_getElem_cons hlt
      rw [ed] at p2
      refine .inr ⟨(u.1 hlt).1, fun σ' H' => ∃ ρ', J g (C.at ρ1 σ H1) ρ' σ' H' ∧ PostS g W C D' (fLoop tg b (ds.drop (i + 1)) ρ'), fun σ' H' h => ⟨ds.length - (i + 1), by omega, rfl, hlt, h⟩, fun x H3 y => ?_⟩
      obtain ⟨gr, rx⟩ := (u.1 hlt).2 x H3 y
      have r3 := rx ds[i] (by simp [hlt])
      have k3 := k2.grow gr
      refine ht _ ρ2 σ2 H3 x ds[i] _ k3 r3 ?_
      simp only [fLoop] at p2
      cases e3 : tg ds[i] ρ2 with
      | none => rw [e3] at p2; exact p2.elim
      | some ρ3 =>
        simp only [e3] at p2
        intro σ3 k4 _ _ _
        refine hb _ ρ3 σ3 H3 _ k4 ?_
        cases e4 : b ρ3 with
        | nx ρ4 => simp only [e4] at p2; exact fun σ5 H5 k5 => ⟨ρ4, k5, p2⟩
        | ct ρ4 => simp only [e4] at p2; exact fun σ5 H5 k5 => ⟨ρ4, k5, p2⟩
        | bk ρ4 => simp only [e4] at p2; exact fun σ5 H5 k5 => p2 σ5 H5 (j1.back k5)
        | rt d ρ4 => simp only [e4] at p2; exact fun v σ5 H5 k5 r => p2 v σ5 H5 (j1.back k5) r
        | ex x ρ4 => simp only [e4] at p2; exact fun cls dd σ5 H5 k5 r => p2 cls dd σ5 H5 (j1.back k5) r
        | bad => simp only [e4] at p2; exact p2
    · have ei : i = ds.length := by omega
      subst ei
      rw [List.drop_length] at p2
      exact .inl ⟨u.2 (Nat.le_refl _), p2 σ2 H2 (j1.back k2)⟩
end
end DL

namespace DL
open PySem PySem.Spec PyProof.Rows L2

section
variable {g : G} {W : WX} {C : JC} {ρ ρ' : Sl} {σ σ' : L2.St} {H H' : Hp}
/-! ### comprehensions -/
def wipeR (ρ : Sl) : List Nat → Sl
  | [] => ρ
  | v :: vs => (wipeR ρ vs).set v .emp
/-- the slots vs as they were ahead -/
def backR (ρ0 ρ : Sl) : List Nat → Sl
  | [] => ρ
  | v :: vs => match ρ0[v]? with
    | some s => (backR ρ0 ρ vs).set v s
    | none => backR ρ0 ρ vs
def noOwn (ρ : Sl) (vs : List Nat) : Bool := vs.all fun v => match ρ[v]? with
  | some (.own _) => false
  | _ => true
theorem wipeR_length (ρ : Sl) : ∀ vs, (wipeR ρ vs).length = ρ.length
  | [] => rfl
  | v :: vs => by simp [wipeR, wipeR_length ρ vs]
theorem wipeR_in {i : Nat} : ∀ {vs : List Nat}, i ∈ vs → i < ρ.length → (wipeR ρ vs)[i]? = some .emp
  | v :: vs, h, hl => by
    unfold wipeR
    by_cases e : v = i
    · subst e; rw [List.getElem?_set_self (by rw [wipeR_length]; exact hl)]
    · rw [List.getElem?_set_ne e]
      exact wipeR_in (by rcases List.mem_cons.mp h with z | z; exact absurd z.symm e; exact z) hl
theorem wipeR_out {i : Nat} : ∀ {vs : List Nat}, i ∉ vs → (wipeR ρ vs)[i]? = ρ[i]?
  | [], _ => rfl
  | v :: vs, h => by
    unfold wipeR
    rw [List.getElem?_set_ne (fun z => h (by simp [z]))]
    exact wipeR_out fun z => h (List.mem_cons_of_mem _ z)
theorem wipe_in {i : Nat} : ∀ {vs : List Nat}, i ∈ vs → i < σ.length → (wipe σ vs)[i]? = some none
  | v :: vs, h, hl => by
    unfold wipe
    by_cases e : v = i
    · subst e; rw [List.getElem?_set_self (by rw [wipe_length]; exact hl)]
    · rw [List.getElem?_set_ne e]
      exact wipe_in (by rcases List.mem_cons.mp h with z | z; exact absurd z.symm e; exact z) hl
theorem wipe_same {vs : List Nat} (h1 : σ'.length = σ.length) (h2 : ∀ k : Nat, k ∉ vs → σ'[k]? = σ[k]?) : wipe σ' vs = wipe σ vs := by
  apply List.ext_getElem?
  intro i
  by_cases hi : i ∈ vs
  · by_cases hl : i < σ.length
    · rw [wipe_in hi hl, wipe_in hi (by omega)]
    · rw [List.getElem?_eq_none (by rw [wipe_length]; omega), List.getElem?_eq_none (by rw [wipe_length]; omega)]
  · rw [wipe_out hi, wipe_out hi, h2 i hi]
theorem wipe_wipe (vs : List Nat) : wipe (wipe σ vs) vs = wipe σ vs := wipe_same (wipe_length _ _) fun k hk => wipe_out hk
theorem backR_length (ρ0 ρ : Sl) : ∀ vs, (backR ρ0 ρ vs).length = ρ.length
  | [] => rfl
  | v :: vs => by
    unfold backR
    split
    · rw [List.length_set]; exact backR_length ρ0 ρ vs
    · exact backR_length ρ0 ρ vs
theorem backR_in {ρ0 : Sl} {i : Nat} {s : Slot} : ∀ {vs : List Nat}, i ∈ vs → i < ρ.length → ρ0[i]? = some s → (backR ρ0 ρ vs)[i]? = some s
  | v :: vs, h, hl, e => by
    unfold backR
    by_cases ev : v = i
    · subst ev
      rw [e]
      show ((backR ρ0 ρ vs).set v s)[v]? = _
      rw [List.getElem?_set_self (by rw [backR_length]; exact hl)]
    · have ih := backR_in (ρ0 := ρ0) (i := i) (vs := vs) (by rcases List.mem_cons.mp h with z | z; exact absurd z.symm ev; exact z) hl e
      split
      · rw [List.getElem?_set_ne ev]; exact ih
      · exact ih
theorem backR_out {ρ0 : Sl} {i : Nat} : ∀ {vs : List Nat}, i ∉ vs → (backR ρ0 ρ vs)[i]? = ρ[i]?
  | [], _ => rfl
  | v :: vs, h => by
    unfold backR
    have ih := backR_out (ρ0 := ρ0) (i := i) (vs := vs) fun z => h (List.mem_cons_of_mem _ z)
    split
    · rw [List.getElem?_set_ne (fun z => h (by simp [z]))]; exact ih
    · exact ih
theorem noOwn_at {vs : List Nat} {i : Nat} {d : D} (h : noOwn ρ vs = true) (hi : i ∈ vs) : ρ[i]? ≠ some (.own d) := fun e => by
  have := List.all_eq_true.mp h i hi
  rw [e] at this; cases this
/-- own containers lie in slots that are not wiped -/
theorem own_wipe {vs : List Nat} (hl : ρ.length = σ.length) {a : Addr} (h : own (wipeR ρ vs) (wipe σ vs) a) : own ρ σ a := by
  obtain ⟨i, d, h1, h2⟩ := h
  by_cases hi : i ∈ vs
  · by_cases hlt : i < ρ.length
    · rw [wipeR_in hi hlt] at h1; cases h1
    · rw [List.getElem?_eq_none (by rw [wipeR_length]; omega)] at h1; cases h1
  · rw [wipeR_out hi] at h1
    rw [wipe_out hi] at h2
    exact ⟨i, d, h1, h2⟩
theorem own_unwipe {vs : List Nat} (hn : noOwn ρ vs = true) {a : Addr} (h : own ρ σ a) : own (wipeR ρ vs) (wipe σ vs) a := by
  obtain ⟨i, d, h1, h2⟩ := h
  have hi : i ∉ vs := fun z => noOwn_at hn z h1
  exact ⟨i, d, by rw [wipeR_out hi]; exact h1, by rw [wipe_out hi]; exact h2⟩
theorem J.wipe {vs : List Nat} (hm : g.m = false ∨ 0 ∉ vs) (j : J g C ρ σ H) : J g C (wipeR ρ vs) (wipe σ vs) H := by
  have le : ∀ a, Av C.Z (wipeR ρ vs) (L2.wipe σ vs) a → Av C.Z ρ σ a := fun a z => z.imp id (own_wipe j.len)
  have f : ∀ {m : Nat} {s : Slot}, (wipeR ρ vs)[m]? = some s → s = .emp ∨ (m ∉ vs ∧ ρ[m]? = some s) := fun {m s} q => by
    by_cases hm : m ∈ vs
    · by_cases hlt : m < ρ.length
      · rw [wipeR_in hm hlt] at q; cases q; exact .inl rfl
      · rw [List.getElem?_eq_none (by rw [wipeR_length]; omega)] at q; cases q
    · rw [wipeR_out hm] at q; exact .inr ⟨hm, q⟩
  refine ⟨by rw [wipeR_length, wipe_length]; exact j.len, fun i s h => ?_, fun i k d e a h1 h2 h3 h4 => ?_, j.ext, j.ex, fun a z => ⟨j.zSome z, fun o => (j.zin a z).2 (own_wipe j.len o)⟩, fun b e => ⟨(j.br b e).1, by rw [wipe_out (hm.elim (fun z => absurd (j.br b e).1 (by rw [z]; decide)) id)]; exact (j.br b e).2⟩, j.tab, j.tz, j.tr, j.gt, j.hb⟩
  · rcases f h with e | ⟨hi, q⟩
    · subst e; trivial
    · have q := j.slot i s q
      cases s with
      | emp => trivial
      | exc =>
        obtain ⟨x, h1, h2⟩ := q
        exact ⟨x, h1, by rw [wipe_out hi]; exact h2⟩
      | val d =>
        obtain ⟨v, h1, h2⟩ := q
        exact ⟨v, by rw [wipe_out hi]; exact h1, Rp.keep le (fun _ _ e _ => e) _ _ h2⟩
      | own d =>
        obtain ⟨a, h1, h2, h3⟩ := q
        exact ⟨a, by rw [wipe_out hi]; exact h1, h2.keep le (fun _ _ e _ => e) (fun _ e => e), h3⟩
  · rcases f h1 with e | ⟨n1, q1⟩
    · cases e
    · rcases f h2 with e | ⟨n2, q2⟩
      · cases e
      · rw [wipe_out n1] at h3
        rw [wipe_out n2] at h4
        exact j.inj i k _ _ a q1 q2 h3 h4
/-- a place that is avoided, and new since the base, is written -/
theorem J.avoid {a : Addr} {o : HO} (j : J g C ρ σ H) (hz : C.Z a) (h0 : C.H0 a = none) (hl : ∃ vs, H a = some (.lst vs)) : J g C ρ σ (upd H a o) := by
  have kp : ∀ b u, H b = some u → ¬ Av C.Z ρ σ b → upd H a o b = some u := fun b u e n => by rw [upd_ne (fun z => n (by rw [z]; exact .inl hz))]; exact e
  refine ⟨j.len, fun i s h => ?_, j.inj, fun b u e n => ?_, fun b u e => ?_, fun b z => ⟨?_, (j.zin b z).2⟩, j.br, tabs_md hl.choose_spec (fun b u e n => by rw [upd_ne n]; exact e) j.tab, j.tz, j.tr, j.gt, j.hb.to fun B z e b u q w => by
    rw [upd_ne]; exact w
    intro n
    obtain ⟨x, hx⟩ := ((j.hb B z e).2.1 b u q).2
    rw [n, h0] at hx; cases hx⟩
  · have q := j.slot i s h
    cases s with
    | emp => trivial
    | exc => exact q
    | val d =>
      obtain ⟨v, h1, h2⟩ := q
      exact ⟨v, h1, Rp.keep (fun _ z => z) kp _ _ h2⟩
    | own d =>
      obtain ⟨b, h1, h2, h3⟩ := q
      have nb : b ≠ a := fun z => j.ownNZ ⟨i, d, h, h1⟩ (by rw [z]; exact hz)
      exact ⟨b, h1, h2.keep (fun _ z => z) kp (fun u e => by rw [upd_ne nb]; exact e), h3⟩
  · rw [upd_ne (fun z => by subst z; rw [h0] at e; cases e)]
    exact j.ext b u e n
  · obtain ⟨x, e⟩ := j.ex b u e
    by_cases hb : b = a
    · exact ⟨o, by rw [hb]; exact upd_same⟩
    · exact ⟨x, by rw [upd_ne hb]; exact e⟩
  · obtain ⟨u, e⟩ := j.zSome z
    by_cases hb : b = a
    · exact ⟨o, by rw [hb]; exact upd_same⟩
    · exact ⟨u, by rw [upd_ne hb]; exact e⟩
/-- behind a comprehension the slots vs are as they were -/
theorem J.unwipe {vs : List Nat} {ρ0 : Sl} {H0 : Hp} {Z' : Addr → Prop} (hm : g.m = false ∨ 0 ∉ vs) (hz : ∀ a, Z' a → C.Z a ∨ H0 a = none) (j0 : J g C ρ0 σ H0) (hn : noOwn ρ0 vs = true) (k : J g { C.at (wipeR ρ0 vs) (L2.wipe σ vs) H0 with Z := Z' } ρ (L2.wipe σ vs) H) : J g { C with Z := Z' } (backR ρ0 ρ vs) σ H := by
  have jw : J g C (wipeR ρ0 vs) (L2.wipe σ vs) H0 := j0.wipe hm
  have jb : J g { C with Z := Z' } ρ (L2.wipe σ vs) H := jw.backZ k
  have hlen : ρ.length = σ.length := by have := jb.len; rwa [wipe_length] at this
  have hlen0 : ρ0.length = σ.length := j0.len
  have f : ∀ {m : Nat} {s : Slot}, (backR ρ0 ρ vs)[m]? = some s → (m ∈ vs ∧ ρ0[m]? = some s) ∨ (m ∉ vs ∧ ρ[m]? = some s) := fun {m s} q => by
    by_cases hm : m ∈ vs
    · refine .inl ⟨hm, ?_⟩
      have hl : m < ρ.length := by
        have := (List.getElem?_eq_some_iff.mp q).1; rwa [backR_length] at this
      have hl0 : m < ρ0.length := by omega
      rw [backR_in hm hl (List.getElem?_eq_getElem hl0)] at q
      rw [← q]; exact List.getElem?_eq_getElem hl0
    · rw [backR_out hm] at q; exact .inr ⟨hm, q⟩
  have lo : ∀ {a}, own (backR ρ0 ρ vs) σ a → own ρ (L2.wipe σ vs) a := fun {a} ⟨i, d, h1, h2⟩ => by
    rcases f h1 with ⟨hm, q⟩ | ⟨hm, q⟩
    · exact absurd q (noOwn_at hn hm)
    · exact ⟨i, d, q, by rw [wipe_out hm]; exact h2⟩
  have le : ∀ a, Av Z' (backR ρ0 ρ vs) σ a → Av Z' ρ (L2.wipe σ vs) a := fun a z => z.imp id lo
  refine ⟨by rw [backR_length]; exact hlen, fun i s h => ?_, fun i l d e a h1 h2 h3 h4 => ?_, jb.ext, jb.ex, fun a z => ⟨jb.zSome z, fun o => (jb.zin a z).2 (lo o)⟩, j0.br, jb.tab, jb.tz, j0.tr, jb.gt, jb.hb⟩
  · rcases f h with ⟨hm, q⟩ | ⟨hm, q⟩
    · have q' := j0.slot i s q
      cases s with
      | emp => trivial
      | exc => exact q'
      | val d =>
        obtain ⟨v, h1, h2⟩ := q'
        refine ⟨v, h1, ?_⟩
        refine Rp.gen (fun a n e => ⟨fun z => ?_, fun o q => ?_⟩) _ _ h2
        · rcases le a z with z | z
          · rcases hz a z with z | z
            · exact n (.inl z)
            · obtain ⟨u, e⟩ := e; rw [z] at e; cases e
          · obtain ⟨m, d', h1, h2, h3, h4⟩ := k.ownTop z
            have h4 : H0 a = none ∨ own (wipeR ρ0 vs) (L2.wipe σ vs) a ∨ ∃ p ∈ C.T, p.1 = a := h4
            rcases h4 with h4 | h4 | ⟨p, hp, e5⟩
            · obtain ⟨u, e⟩ := e; rw [h4] at e; cases e
            · exact n (.inr (own_wipe j0.len h4))
            · exact n (.inl (e5 ▸ j0.tz p hp))
        · exact k.ext a o q fun z => z.elim (fun z => n (.inr (own_wipe j0.len z))) fun ⟨p, hp, e5⟩ => n (.inl (e5 ▸ j0.tz p hp))
      | own d => exact absurd q (noOwn_at hn hm)
    · have q := jb.slot i s q
      cases s with
      | emp => trivial
      | exc =>
        obtain ⟨x, h1, h2⟩ := q
        exact ⟨x, h1, by rw [wipe_out hm] at h2; exact h2⟩
      | val d =>
        obtain ⟨v, h1, h2⟩ := q
        exact ⟨v, by rw [wipe_out hm] at h1; exact h1, Rp.keep le (fun _ _ e _ => e) _ _ h2⟩
      | own d =>
        obtain ⟨a, h1, h2, h3⟩ := q
        exact ⟨a, by rw [wipe_out hm] at h1; exact h1, h2.keep le (fun _ _ e _ => e) (fun _ e => e), h3⟩
  · rcases f h1 with ⟨m1, q1⟩ | ⟨n1, q1⟩
    · exact absurd q1 (noOwn_at hn m1)
    · rcases f h2 with ⟨m2, q2⟩ | ⟨n2, q2⟩
      · exact absurd q2 (noOwn_at hn m2)
      · exact jb.inj i l _ _ a q1 q2 (by rw [wipe_out n1]; exact h3) (by rw [wipe_out n2]; exact h4)

/-- the turns of a comprehension; racc: what is made so far, the last first -/
def cLoop (tg : Tg) (c : FT) (f : FE) (vs : List Nat) : List D → List D → Sl → RE (List D)
  | [], racc, ρ => .ok racc.reverse ρ
  | d :: ds, racc, ρ => match tg d ρ with
    | none => .bad
    | some ρ1 => match c ρ1 with
      | .ok true ρ2 => (match f ρ2 with
        | .ok y ρ3 => cLoop tg c f vs ds (y :: racc) (wipeR ρ3 vs)
        | _ => .bad)
      | .ok false ρ2 => cLoop tg c f vs ds racc (wipeR ρ2 vs)
      | _ => .bad
def fComp (it : Sl → RE (List D)) (tg : Tg) (c : FT) (f : FE) (vs : List Nat) : FE := fun ρ => (it ρ).bd fun ds ρ1 =>
  if (noOwn ρ1 vs && decide (ds.length ≤ bigL)) = true then (match cLoop tg c f vs ds [] (wipeR ρ1 vs) with
    | .ok xs ρ2 => .ok (.lst xs) (backR ρ1 ρ2 vs)
    | _ => .bad) else .bad
/-- no exception comes out of a block -/
abbrev W0 : WX := fun _ _ _ _ => False
def cYes : FT := fun ρ => .ok true ρ
theorem tr_yes : TrT g W tYes cYes := fun C ρ σ H Q j p => p true H j rfl
theorem trn_comp {wi : TI} {tt : TG} {ct : TT} {te : TE} {it : Sl → RE (List D)} {tg : Tg} {c : FT} {f : FE} {vs is : List Nat} (hm : g.m = false ∨ 0 ∉ vs) (hi : TrI g W wi it) (ht : TrTg g tt tg is) (hc : TrT g W0 ct c) (he : TrE g W0 te f) (hv : is.all (fun i => vs.contains i) = true) :
    TrN g W (tLc wi tt ct te vs) (fComp it tg c f vs) := by
  intro C ρ σ H Q j p
  unfold fComp at p
  refine hi C ρ σ H _ j ?_
  cases e : it ρ with
  | bad => simp only [e, RE.bd] at p; exact p
  | ex x ρ' => simp only [e, RE.bd] at p; exact p
  | ok ds ρ1 =>
    simp only [e, RE.bd] at p
    split at p
    · rename_i hcond
      rw [Bool.and_eq_true] at hcond
      obtain ⟨hno, hlen⟩ := hcond
      have hlen := of_decide_eq_true hlen
      rw [bigL_eq] at hlen
      intro Jt H1 j1 itk Dn hD
      -- the base: the heap ahead of the new list, which is avoided
      have jw : J g C (wipeR ρ1 vs) (L2.wipe σ vs) H1 := j1.wipe hm
      have jr := jw.rebase
      have jp := jr.plus (o := .lst []) hD
      have sub : ∀ k, k ∉ vs → k ∉ is := fun k hk hi' => hk (by simpa using List.all_eq_true.mp hv k hi')
      refine ⟨fun i m H2 => m = ds.length - i ∧ i ≤ ds.length ∧ ∃ ρ2 racc vacc, J g ((C.at (wipeR ρ1 vs) (L2.wipe σ vs) H1).plus Dn) ρ2 (L2.wipe σ vs) H2 ∧ H2 Dn = some (.lst vacc) ∧ racc.length ≤ i ∧
        Rps g.K (Av ((C.at (wipeR ρ1 vs) (L2.wipe σ vs) H1).plus Dn).Z ρ2 (L2.wipe σ vs)) H2 vacc racc.reverse ∧
        (match cLoop tg c f vs (ds.drop i) racc ρ2 with | .ok xs ρ3 => PostN g W C σ Q (.ok (.lst xs) (backR ρ1 ρ3 vs)) | _ => False), ⟨ds.length, by simp, Nat.zero_le _, wipeR ρ1 vs, [], [], jp, upd_same, Nat.le_refl _, rfl, ?_⟩, ?_⟩
      · rw [List.drop_zero]
        cases e2 : cLoop tg c f vs ds [] (wipeR ρ1 vs) with
        | ok xs ρ2 => simp only [e2] at p ⊢; exact p
        | ex x ρ2 => simp only [e2] at p; exact p
        | bad => simp only [e2] at p; exact p
      · rintro i m H2 ⟨rfl, hi', ρ2, racc, vacc, k2, hDn, hrl, rr, p2⟩
        have u := fun (ρ3 : Sl) (σ3 : L2.St) (H3 : Hp) (k3 : J g ((C.at (wipeR ρ1 vs) (L2.wipe σ vs) H1).plus Dn) ρ3 σ3 H3) => itk i (Av ((C.at (wipeR ρ1 vs) (L2.wipe σ vs) H1).plus Dn).Z ρ3 σ3) H3
          (fun a o e n => k3.ext a o e fun z => z.elim (fun z => n (.inr (own_wipe j1.len z))) fun ⟨p, hp, e5⟩ => n (.inl (e5 ▸ j1.tz p hp)))
          (fun a e z => by
            rcases z with (z | z) | o
            · exact .inl z
            · obtain ⟨u, e⟩ := e; rw [z, hD] at e; cases e
            obtain ⟨m, d, h1, h2, h3, h4⟩ := k3.ownTop o
            have h4 : H1 a = none ∨ own (wipeR ρ1 vs) (L2.wipe σ vs) a ∨ ∃ p ∈ C.T, p.1 = a := h4
            rcases h4 with h4 | h4 | ⟨p, hp, e5⟩
            · obtain ⟨u, e⟩ := e; rw [e] at h4; cases h4
            · exact .inr (own_wipe j1.len h4)
            · exact .inl (e5 ▸ j1.tz p hp)) (fun a z => k3.avSome z)
        by_cases hlt : i < ds.length
        · have ed : ds.drop i = ds[i] :: ds.drop (i + 1) := List.drop_eq_getElem_cons hlt
          rw [ed] at p2
          obtain ⟨go, gy⟩ := (u ρ2 _ H2 k2).1 hlt
          refine .inr ⟨go, fun H' => ∃ ρ2 racc vacc, J g ((C.at (wipeR ρ1 vs) (L2.wipe σ vs) H1).plus Dn) ρ2 (L2.wipe σ vs) H' ∧ H' Dn = some (.lst vacc) ∧ racc.length ≤ i + 1 ∧
            Rps g.K (Av ((C.at (wipeR ρ1 vs) (L2.wipe σ vs) H1).plus Dn).Z ρ2 (L2.wipe σ vs)) H' vacc racc.reverse ∧
            (match cLoop tg c f vs (ds.drop (i + 1)) racc ρ2 with | .ok xs ρ3 => PostN g W C σ Q (.ok (.lst xs) (backR ρ1 ρ3 vs)) | _ => False), fun H' h => ⟨ds.length - (i + 1), by omega, rfl, hlt, h⟩, fun x H3 y => ?_⟩
          obtain ⟨gr, rx⟩ := gy x H3 y
          have k3 := k2.grow gr
          have r3 := rx ds[i] (by simp [hlt])
          have hD3 : H3 Dn = some (.lst vacc) := gr _ _ hDn
          have rr3 := Rps.keep (fun _ z => z) (fun a o e _ => gr a o e) _ _ rr
          simp only [cLoop] at p2
          refine ht _ ρ2 _ H3 x ds[i] _ k3 r3 ?_
          cases e3 : tg ds[i] ρ2 with
          | none => rw [e3] at p2; exact p2
          | some ρ3 =>
            simp only [e3] at p2
            intro σ3 k4 l4 q4 o4
            have ws : L2.wipe σ3 vs = L2.wipe σ vs := (wipe_same l4 fun k hk => q4 k (sub k hk)).trans (wipe_wipe vs)
            -- the list so far stands while the slots of the block are stored: nothing new is avoided
            have rr4 : Rps g.K (Av ((C.at (wipeR ρ1 vs) (L2.wipe σ vs) H1).plus Dn).Z ρ3 σ3) H3 vacc racc.reverse := by
              refine Rps.gen (fun a n e => ⟨fun z => ?_, fun o q => q⟩) _ _ rr3
              exact n (z.imp id (o4 a))
            refine ⟨ws, ?_⟩
            refine hc.step k4 (fun b1 ρ4 e4 v H4 k5 k5' r5 => ?_) (fun x ρ4 e4 cls dd H4 j4 r4 => ?_) (fun e4 => ?_)
            · cases (show v = b1 from r5)
              have hD4 : H4 Dn = some (.lst vacc) := J.extL k4 k5' hD3 fun z => k4.ownNZ z (.inr rfl)
              have rr5 := J.carrys k4 k5' _ _ rr4
              cases b1 with
              | false =>
                simp only [e4] at p2
                show ∃ ρ2 racc vacc, _
                have w := k5.wipe (vs := vs) hm
                rw [ws] at w
                refine ⟨wipeR ρ4 vs, racc, vacc, w, hD4, by omega, ?_, p2⟩
                rw [← ws]
                exact Rps.keep (fun a z => z.imp id (own_wipe k5.len)) (fun _ _ e _ => e) _ _ rr5
              | true =>
                simp only [e4] at p2
                show te σ3 H4 _
                refine he.step k5 (fun y ρ5 e5 yv H5 k6 k6' r6 => ?_) (fun x ρ5 e5 cls dd H5 j5 r5 => ?_) (fun e5 => ?_)
                · simp only [e5] at p2
                  have hD5 : H5 Dn = some (.lst vacc) := J.extL k5 k6' hD4 fun z => k5.ownNZ z (.inr rfl)
                  have rr6 := J.carrys k5 k6' _ _ rr5
                  have la : vacc.length = racc.length := by rw [rr6.length, List.length_reverse]
                  have nD : ∀ a, ¬ Av ((C.at (wipeR ρ1 vs) (L2.wipe σ vs) H1).plus Dn).Z ρ5 σ3 a → a ≠ Dn := fun a n z => n (.inl (.inr z))
                  have kp : ∀ a o, H5 a = some o → ¬ Av ((C.at (wipeR ρ1 vs) (L2.wipe σ vs) H1).plus Dn).Z ρ5 σ3 a → upd H5 Dn (.lst (vacc ++ [yv])) a = some o := fun a o e n => by rw [upd_ne (nD a n)]; exact e
                  refine ⟨vacc, hD5, by omega, wipeR ρ5 vs, y :: racc, vacc ++ [yv], ?_, upd_same, by simp; omega, ?_, p2⟩
                  · have w := (k6.avoid (o := .lst (vacc ++ [yv])) (a := Dn) (.inr rfl) hD ⟨_, hD5⟩).wipe (vs := vs) hm
                    rw [ws] at w
                    exact w
                  · rw [← ws, List.reverse_cons]
                    refine Rps.keep (fun a z => z.imp id (own_wipe k6.len)) (fun _ _ e _ => e) _ _ ?_
                    exact (Rps.keep (fun _ z => z) kp _ _ rr6).app ⟨yv, [], rfl, Rp.keep (fun _ z => z) kp _ _ r6, rfl⟩
                · simp only [e5] at p2
                · simp only [e5] at p2
            · simp only [e4] at p2
            · simp only [e4] at p2
        · have ei : i = ds.length := by omega
          subst ei
          rw [List.drop_length] at p2
          simp only [cLoop] at p2
          refine .inl ⟨(u ρ2 _ H2 k2).2 (Nat.le_refl _), ?_⟩
          have jb : J g (C.plus Dn) (backR ρ1 ρ2 vs) σ H2 := j1.unwipe (Z' := fun b => C.Z b ∨ b = Dn) hm (fun a z => z.imp id fun z => by rw [z]; exact hD) hno k2
          refine p2 Dn H2 jb ⟨vacc, hDn, ?_⟩ ?_ ?_
          · refine Rps.keep (fun a z => ?_) (fun _ _ e _ => e) _ _ rr
            rcases z with z | ⟨m, d, h1, h2⟩
            · exact .inl z
            · by_cases hm : m ∈ vs
              · exfalso
                have hl : m < (backR ρ1 ρ2 vs).length := (List.getElem?_eq_some_iff.mp h1).1
                rw [backR_length] at hl
                have hl0 : m < ρ1.length := by
                  have a1 := k2.len
                  have a2 := j1.len
                  rw [wipe_length] at a1
                  omega
                rw [backR_in hm hl (List.getElem?_eq_getElem hl0)] at h1
                exact noOwn_at hno hm (by rw [List.getElem?_eq_getElem hl0]; exact h1)
              · rw [backR_out hm] at h1
                exact .inr ⟨m, d, h1, by rw [wipe_out hm]; exact h2⟩
          · cases e : C.H0 Dn with
            | none => rfl
            | some u =>
              obtain ⟨x, q⟩ := j1.ex Dn u e
              rw [hD] at q; cases q
          · intro z
            obtain ⟨u, e⟩ := j1.zSome z
            rw [hD] at e; cases e
    · exact p.elim
end
end DL

namespace DL
open PySem PySem.Spec PyProof.Rows L2

section
variable {g : G} {W : WX} {C : JC} {ρ ρ' : Sl} {σ σ' : L2.St} {H H' : Hp}
/-! ### a < b < c -/
def fChain (b b' : List D → Option D) (f1 f2 f3 : FE) : FE := fun ρ => (f1 ρ).bd fun x ρ1 => (f2 ρ1).bd fun y ρ2 => match b [x, y] with
  | some (.bl true) => (f3 ρ2).bd fun z ρ3 => .of (b' [y, z]) ρ3
  | some (.bl false) => .ok (.bl false) ρ2
  | _ => .bad
theorem tr_chain {r r' : R2} {b b' : List D → Option D} {t1 t2 t3 : TE} {f1 f2 f3 : FE} (hb : BiOk g.K (r2 r) b) (hb' : BiOk g.K (r2 r') b') (h1 : TrE g W t1 f1) (h2 : TrE g W t2 f2) (h3 : TrE g W t3 f3) : TrE g W (tChain r r' t1 t2 t3) (fChain b b' f1 f2 f3) := by
  intro C ρ σ H Q j p
  unfold fChain at p
  refine h1.step j (fun x ρ1 e1 v H1 j1 k1 r1 => ?_) (fun x ρ1 e1 cls dd H1 j1 r1 => ?_) (fun e1 => ?_)
  · simp only [e1, RE.bd] at p
    refine h2.step j1 (fun y ρ2 e2 u H2 j2 k2 q2 => ?_) (fun x ρ1 e2 cls dd H1 j1 r1 => ?_) (fun e2 => ?_)
    · simp only [e2] at p
      have r1' := J.carry j1 k2 _ _ r1
      cases e3 : b [x, y] with
      | none => simp only [e3] at p; exact p.elim
      | some d =>
        refine hb (Av C.Z ρ2 σ) H2 [v, u] [x, y] d (fun z H3 => ∃ k, z = .bl k ∧ (if k = true then t3 σ H3 fun w' H4 => r' u w' H4 Q else Q (.bl false) H3)) (fun a z => j2.avSome z) ⟨v, _, rfl, .inl r1', u, _, rfl, .inl q2, rfl⟩ e3 fun z H3 gr rz => ?_
        have j3 := j2.grow gr
        have q3 : Rp g.K (Av C.Z ρ2 σ) H3 u y := Rp.keep (fun _ z => z) (fun a o e _ => gr a o e) _ _ q2
        simp only [e3] at p
        cases d with
        | bl k =>
          refine ⟨k, rz, ?_⟩
          cases k with
          | false => exact p _ H3 j3 rfl
          | true =>
            simp only [if_true]
            refine h3.step j3 (fun w ρ4 e4 wv H4 j4 k4 q4 => ?_) (fun x ρ1 e4 cls dd H1 j1 r1 => ?_) (fun e4 => ?_)
            · simp only [e4] at p
              have q5 := J.carry j3 k4 _ _ q3
              cases e5 : b' [y, w] with
              | none => simp only [e5, RE.of] at p; exact p.elim
              | some d2 =>
                simp only [e5, RE.of] at p
                exact hb' (Av C.Z ρ4 σ) H4 [u, wv] [y, w] d2 Q (fun a z => j4.avSome z) ⟨u, _, rfl, .inl q5, wv, _, rfl, .inl q4, rfl⟩ e5 fun z H5 gr5 rz5 => p z H5 (j4.grow gr5) rz5
            · simp only [e4] at p; exact p _ _ _ j1 r1
            · simp only [e4] at p; exact p
        | _ => exact p.elim
    · simp only [e2] at p; exact p _ _ _ j1 r1
    · simp only [e2] at p; exact p
  · simp only [e1, RE.bd] at p; exact p _ _ _ j1 r1
  · simp only [e1, RE.bd] at p; exact p

/-! ### slices -/
def repO (Z : Addr → Prop) (ρ : Sl) (σ : L2.St) (H : Hp) (v : Option Int) (d : Option Int) : Prop := v = d
abbrev TrO (g : G) (W : WX) (t : TO) (f : Sl → RE (Option Int)) : Prop := TrG g W repO t f
def oNo : Sl → RE (Option Int) := fun ρ => .ok none ρ
def oEx (f : FE) : Sl → RE (Option Int) := fun ρ => (f ρ).bd fun d ρ' => match d with
  | .int i => .ok (some i) ρ'
  | _ => .bad
theorem tro_no : TrO g W tNoPart oNo := fun C ρ σ H Q j p => p none H j rfl
theorem tro_ex {t : TE} {f : FE} (h : TrE g W t f) : TrO g W (tPart t) (oEx f) := by
  intro C ρ σ H Q j p
  refine h C ρ σ H _ j ?_
  unfold oEx at p
  cases e : f ρ with
  | ok d ρ' =>
    simp only [e, RE.bd] at p
    intro v H' j' r
    cases d with
    | int i => exact ⟨i, r, p _ H' j' rfl⟩
    | _ => exact p.elim
  | ex x ρ' => simp only [e, RE.bd] at p; exact p
  | bad => simp only [e, RE.bd] at p; exact p
def cutD (xs : List D) (lo hi : Option Int) : List D := (xs.drop (HT.sIx xs.length 0 lo)).take (HT.sIx xs.length xs.length hi - HT.sIx xs.length 0 lo)
theorem rps_cut {K : PySem.W.Frag} {Z : Addr → Prop} {vs : List V} {ds : List D} (h : Rps K Z H vs ds) (lo hi : Option Int) : Rps K Z H (cutV vs lo hi) (cutD ds lo hi) := by
  unfold cutV cutD
  rw [h.length]
  exact (h.drop _).take _
/-- by values: a slice -/
def SlOk (K : PySem.W.Frag) (r : V → Option Int → Option Int → Hp → VK → Prop) (b : D → Option Int → Option Int → Option D) : Prop :=
  ∀ Z H v d lo hi e Q, (∀ a, Z a → ∃ o, H a = some o) → Rq K Z H v d → b d lo hi = some e → (∀ u H', Grow H H' → Rp K Z H' u e → Q u H') → r v lo hi H Q
def SnOk (K : PySem.W.Frag) (r : V → Option Int → Option Int → Hp → VK → Prop) (b : D → Option Int → Option Int → Option D) : Prop :=
  ∀ Z H v d lo hi e Q, (∀ a, Z a → ∃ o, H a = some o) → Rq K Z H v d → b d lo hi = some e → (∀ a o, H a = none → NewC K Z H o e → Q (.ref a) (upd H a o)) → r v lo hi H Q
def slR (K : PySem.W.Frag) : V → Option Int → Option Int → Hp → VK → Prop := fun x lo hi H Q => rSlL K x lo hi H Q ∨ rSlA K x lo hi H Q
theorem sl_D {X : Cx} : SlR X (slR X.K) := sl_list.or sl_tupA
def slB (d : D) (lo hi : Option Int) : Option D := match d with
  | .lst xs => some (.lst (cutD xs lo hi))
  | .frl xs => some (.lst (cutD xs lo hi))
  | .tup xs => some (.tup (cutD xs lo hi))
  | _ => none
def slN (d : D) (lo hi : Option Int) : Option D := d.ls.map fun xs => .lst (cutD xs lo hi)
theorem cutD_whole {xs : List D} {lo hi : Option Int} (h : HT.sIx xs.length 0 lo = 0 ∧ HT.sIx xs.length xs.length hi = xs.length) : cutD xs lo hi = xs := by
  unfold cutD
  rw [h.1, h.2, List.drop_zero, Nat.sub_zero, List.take_length]
theorem sn_D {K : PySem.W.Frag} : SnOk K (slR K) slN := by
  intro Z H v d lo hi e Q hz hr hb q
  unfold slN at hb
  rw [Option.map_eq_some_iff] at hb
  obtain ⟨ds, e1, rfl⟩ := hb
  obtain ⟨a, vs, rfl, s, r⟩ := hr.ls e1
  exact .inl ⟨a, vs, rfl, s, fun p hp => q p _ hp ⟨_, rfl, rps_cut r lo hi⟩⟩
theorem SnOk.ok {K : PySem.W.Frag} {r : V → Option Int → Option Int → Hp → VK → Prop} {b : D → Option Int → Option Int → Option D} (h : SnOk K r b) : SlOk K r b := fun Z H v d lo hi e Q hz hr hb q =>
  h Z H v d lo hi e Q hz hr hb fun a o ha t => q _ _ (Grow.upd ha) ((t.tp ha).rp (fun _ z => .inl z) fun z => by obtain ⟨u, e⟩ := hz a z; rw [ha] at e; cases e)
theorem so_D {K : PySem.W.Frag} : SlOk K (slR K) slB := by
  intro Z H v d lo hi e Q hz hr hb q
  cases d with
  | lst xs => cases hb; exact (sn_D (K := K)).ok Z H v (.lst xs) lo hi _ Q hz hr rfl q
  | frl xs => cases hb; exact (sn_D (K := K)).ok Z H v (.frl xs) lo hi _ Q hz hr rfl q
  | tup xs =>
    cases hb
    obtain ⟨a, vs, rfl, s, r⟩ := hr.tup
    refine .inr ⟨a, vs, rfl, s.sq, fun hw => q _ _ Grow.refl ⟨a, vs, rfl, s, ?_⟩, fun _ p hp => q _ _ (Grow.upd hp) ⟨p, _, rfl, .inl ⟨fun z => ?_, .inl upd_same⟩, ?_⟩⟩
    · rw [r.length] at hw
      rw [cutD_whole hw]; exact r
    · obtain ⟨o, e⟩ := hz p z; rw [hp] at e; cases e
    · exact Rps.keep (fun _ z => z) (fun a o e _ => Grow.upd hp a o e) _ _ (rps_cut r lo hi)
  | _ => cases hb
/-- e[lo:hi] -/
def fSl (b : D → Option Int → Option Int → Option D) (f : FE) (lo hi : Sl → RE (Option Int)) : FE := fun ρ => (f ρ).bd fun d ρ1 => (lo ρ1).bd fun l ρ2 => (hi ρ2).bd fun h ρ3 => .of (b d l h) ρ3
/-- x[lo:hi], x only looked at -/
def fSlV (b : D → Option Int → Option Int → Option D) (i : Nat) (lo hi : Sl → RE (Option Int)) : FE := fun ρ => if isSet ρ i = true then (lo ρ).bd fun l ρ2 => (hi ρ2).bd fun h ρ3 => match ρ3[i]? with
    | some (.val d) => .of (b d l h) ρ3
    | some (.own d) => .of (b d l h) ρ3
    | _ => .bad
  else .bad
theorem isSet_some {i : Nat} (j : J g C ρ σ H) (h : isSet ρ i = true) : ∃ v, σ[i]? = some (some v) := by
  unfold isSet at h
  split at h
  · rename_i d e
    obtain ⟨v, h1, _⟩ := j.slot i _ e
    exact ⟨v, h1⟩
  · rename_i d e
    obtain ⟨a, h1, _⟩ := j.slot i _ e
    exact ⟨_, h1⟩
  · cases h
theorem J.look {i : Nat} {v : V} {d : D} (j : J g C ρ σ H) (hv : σ[i]? = some (some v)) (h : ρ[i]? = some (.val d) ∨ ρ[i]? = some (.own d)) : Rq g.K (Av C.Z ρ σ) H v d := by
  rcases h with h | h
  · obtain ⟨w, h1, h2⟩ := j.slot i _ h
    rw [hv] at h1; cases h1
    exact .inl h2
  · obtain ⟨a, h1, h2, _⟩ := j.slot i _ h
    rw [hv] at h1; cases h1
    exact .inr ⟨a, rfl, h2⟩
theorem tr_sl {r : V → Option Int → Option Int → Hp → VK → Prop} {b : D → Option Int → Option Int → Option D} {t : TE} {f : FE} {tl th : TO} {lo hi : Sl → RE (Option Int)} (hb : SlOk g.K r b) (h : TrE g W t f) (hl : TrO g W tl lo) (hh : TrO g W th hi) : TrE g W (tSl r t tl th) (fSl b f lo hi) := by
  intro C ρ σ H Q j p
  unfold fSl at p
  refine h.step j (fun x ρ1 e1 v H1 j1 k1 r1 => ?_) (fun x ρ1 e1 cls dd H1 j1 r1 => ?_) (fun e1 => ?_)
  · simp only [e1, RE.bd] at p
    refine hl.step j1 (fun l ρ2 e2 l' H2 j2 k2 r2 => ?_) (fun x ρ1 e2 cls dd H1 j1 r1 => ?_) (fun e2 => ?_)
    · cases (show l' = l from r2)
      simp only [e2] at p
      have r1' := J.carry j1 k2 _ _ r1
      refine hh.step j2 (fun u ρ3 e3 u' H3 j3 k3 r3 => ?_) (fun x ρ1 e3 cls dd H1 j1 r1 => ?_) (fun e3 => ?_)
      · cases (show u' = u from r3)
        simp only [e3] at p
        have r1'' := J.carry j2 k3 _ _ r1'
        cases e4 : b x l u with
        | none => simp only [e4, RE.of] at p; exact p.elim
        | some d =>
          simp only [e4, RE.of] at p
          exact hb _ H3 v x l u d Q (fun a z => j3.avSome z) (.inl r1'') e4 fun w H4 gr rw' => p w H4 (j3.grow gr) rw'
      · simp only [e3] at p; exact p _ _ _ j1 r1
      · simp only [e3] at p; exact p
    · simp only [e2] at p; exact p _ _ _ j1 r1
    · simp only [e2] at p; exact p
  · simp only [e1, RE.bd] at p; exact p _ _ _ j1 r1
  · simp only [e1, RE.bd] at p; exact p
theorem tr_slV {i : Nat} {r : V → Option Int → Option Int → Hp → VK → Prop} {b : D → Option Int → Option Int → Option D} {tl th : TO} {lo hi : Sl → RE (Option Int)} (hb : SlOk g.K r b) (hl : TrO g W tl lo) (hh : TrO g W th hi) : TrE g W (tSl r (tVar i) tl th) (fSlV b i lo hi) := by
  intro C ρ σ H Q j p
  unfold fSlV at p
  split at p
  · rename_i hs
    obtain ⟨v, hv⟩ := isSet_some j hs
    refine ⟨v, hv, ?_⟩
    simp only [RE.bd] at p
    refine hl.step j (fun l ρ2 e2 l' H2 j2 k2 r2 => ?_) (fun x ρ1 e2 cls dd H1 j1 r1 => ?_) (fun e2 => ?_)
    · cases (show l' = l from r2)
      simp only [e2] at p
      refine hh.step j2 (fun u ρ3 e3 u' H3 j3 k3 r3 => ?_) (fun x ρ1 e3 cls dd H1 j1 r1 => ?_) (fun e3 => ?_)
      · cases (show u' = u from r3)
        simp only [e3] at p
        have go : ∀ x, (ρ3[i]? = some (.val x) ∨ ρ3[i]? = some (.own x)) → PostG g W (repV g) C σ Q (RE.of (b x l u) ρ3) → r v l u H3 Q := fun x hx p => by
          have rq := j3.look hv hx
          cases e4 : b x l u with
          | none => simp only [e4, RE.of] at p; exact p.elim
          | some d =>
            simp only [e4, RE.of] at p
            exact hb _ H3 v x l u d Q (fun a z => j3.avSome z) rq e4 fun w H4 gr rw' => p w H4 (j3.grow gr) rw'
        cases e5 : ρ3[i]? with
        | none => simp only [e5] at p; exact p.elim
        | some s =>
          cases s with
          | emp => simp only [e5] at p; exact p.elim
          | exc => simp only [e5] at p; exact p.elim
          | val x => simp only [e5] at p; exact go x (.inl e5) p
          | own x => simp only [e5] at p; exact go x (.inr e5) p
      · simp only [e3] at p; exact p _ _ _ j1 r1
      · simp only [e3] at p; exact p
    · simp only [e2] at p; exact p _ _ _ j1 r1
    · simp only [e2] at p; exact p
  · exact p.elim
/-- a slice of a list is new -/
theorem newN {o : HO} {a : Addr} {e : D} (j : J g C ρ σ H) (ha : H a = none) (t : NewC g.K (Av C.Z ρ σ) H o e) :
    J g (C.plus a) ρ σ (upd H a o) ∧ Tp g.K (Av (C.plus a).Z ρ σ) (upd H a o) a e ∧ C.H0 a = none ∧ ¬ C.Z a := by
  refine ⟨j.plus ha, (t.tp ha).keep (fun b z => ?_) (fun _ _ e _ => e) (fun _ e => e), ?_, fun z => ?_⟩
  · rcases z with (z | z) | z
    · exact .inl (.inl z)
    · exact .inr z
    · exact .inl (.inr z)
  · cases e : C.H0 a with
    | none => rfl
    | some u =>
      obtain ⟨x, q⟩ := j.ex a u e
      rw [ha] at q; cases q
  · obtain ⟨u, e⟩ := j.zSome z
    rw [ha] at e; cases e
theorem trn_sl {r : V → Option Int → Option Int → Hp → VK → Prop} {b : D → Option Int → Option Int → Option D} {t : TE} {f : FE} {tl th : TO} {lo hi : Sl → RE (Option Int)} (hb : SnOk g.K r b) (h : TrE g W t f) (hl : TrO g W tl lo) (hh : TrO g W th hi) : TrN g W (tSl r t tl th) (fSl b f lo hi) := by
  intro C ρ σ H Q j p
  unfold fSl at p
  refine h.step j (fun x ρ1 e1 v H1 j1 k1 r1 => ?_) (fun x ρ1 e1 cls dd H1 j1 r1 => ?_) (fun e1 => ?_)
  · simp only [e1, RE.bd] at p
    refine hl.step j1 (fun l ρ2 e2 l' H2 j2 k2 r2 => ?_) (fun x ρ1 e2 cls dd H1 j1 r1 => ?_) (fun e2 => ?_)
    · cases (show l' = l from r2)
      simp only [e2] at p
      have r1' := J.carry j1 k2 _ _ r1
      refine hh.step j2 (fun u ρ3 e3 u' H3 j3 k3 r3 => ?_) (fun x ρ1 e3 cls dd H1 j1 r1 => ?_) (fun e3 => ?_)
      · cases (show u' = u from r3)
        simp only [e3] at p
        have r1'' := J.carry j2 k3 _ _ r1'
        cases e4 : b x l u with
        | none => simp only [e4, RE.of] at p; exact p.elim
        | some d =>
          simp only [e4, RE.of] at p
          refine hb _ H3 v x l u d Q (fun a z => j3.avSome z) (.inl r1'') e4 fun a o ha nw => ?_
          obtain ⟨q1, q2, q3, q4⟩ := newN j3 ha nw
          exact p a _ q1 q2 q3 q4
      · simp only [e3] at p; exact p _ _ _ j1 r1
      · simp only [e3] at p; exact p
    · simp only [e2] at p; exact p _ _ _ j1 r1
    · simp only [e2] at p; exact p
  · simp only [e1, RE.bd] at p; exact p _ _ _ j1 r1
  · simp only [e1, RE.bd] at p; exact p

/-- the same places are avoided -/
theorem J.reZ {C C' : JC} (j : J g C ρ σ H) (hz : ∀ a, C'.Z a ↔ C.Z a) (h0 : C'.H0 = C.H0 := by rfl) (hR : C'.R = C.R := by rfl) (hB : C'.B = C.B := by rfl) (hT : C'.T = C.T := by rfl) : J g C' ρ σ H := by
  have av : ∀ a, Av C'.Z ρ σ a → Av C.Z ρ σ a := fun a z => z.imp (hz a).mp id
  refine ⟨j.len, fun i s h => ?_, j.inj, fun a o e n => j.ext a o (by rw [← h0]; exact e) (by rw [← hR]; exact n), fun a o e => j.ex a o (by rw [← h0]; exact e), fun a z => j.zin a ((hz a).mp z), fun a e => j.br a (by rw [← hB]; exact e), by rw [hT]; exact j.tab, fun p hp => (hz _).mpr (j.tz p (by rw [← hT]; exact hp)), fun p hp => by rw [hR]; exact j.tr p (by rw [← hT]; exact hp), by rw [hT]; exact j.gt, j.hb.zs h0 hR fun _ _ _ a z => .inl ((hz a).mp z)⟩
  have q := j.slot i s h
  cases s with
  | emp => trivial
  | exc => exact q
  | val d =>
    obtain ⟨v, h1, h2⟩ := q
    exact ⟨v, h1, Rp.keep av (fun _ _ e _ => e) _ _ h2⟩
  | own d =>
    obtain ⟨a, h1, h2, h3⟩ := q
    exact ⟨a, h1, h2.keep av (fun _ _ e _ => e) (fun _ e => e), by rw [h0, hR]; exact h3⟩
/-! ### a, b = x, y -/
/-- a side: a value, or a new container -/
inductive Sd where
  | v (f : FE)
  | n (f : FE)
def Sd.f : Sd → FE
  | .v f => f
  | .n f => f
def Sd.sl : Sd → D → Slot
  | .v _, d => .val d
  | .n _, d => .own d
def TrSd (g : G) (W : WX) (t : TE) : Sd → Prop
  | .v f => TrE g W t f
  | .n f => TrN g W t f
def sPar (i k : Nat) (x y : Sd) : FS := fun ρ => (x.f ρ).bs fun d ρ1 => (y.f ρ1).bs fun e ρ2 => .nx ((ρ2.set i (x.sl d)).set k (y.sl e))
theorem TrN.step {t : TE} {f : FE} {Q : VK} (h : TrN g W t f) (j : J g C ρ σ H) (hok : ∀ d ρ', f ρ = .ok d ρ' → ∀ a H', J g (C.plus a) ρ' σ H' → J g ((C.at ρ σ H).plus a) ρ' σ H' → Tp g.K (Av (C.plus a).Z ρ' σ) H' a d → C.H0 a = none → H a = none → ¬ C.Z a → Q (.ref a) H')
    (hex : ∀ x ρ', f ρ = .ex x ρ' → ∀ cls dd H', J g C ρ' σ H' → ExR g.K g.mg x cls dd H' → W cls dd σ H') (hbad : f ρ ≠ .bad) : t σ H Q := by
  refine h (C.at ρ σ H) ρ σ H Q j.rebase ?_
  cases e : f ρ with
  | ok d ρ' => exact fun a H' k r h0 nz => hok d ρ' e a H' (j.backZ (Z' := (C.plus a).Z) k) k r (by
      cases q : C.H0 a with
      | none => rfl
      | some u =>
        obtain ⟨x, q⟩ := j.ex a u q
        have h0 : H a = none := h0
        rw [h0] at q; cases q) h0 nz
  | ex x ρ' => exact fun cls dd H' k r => hex x ρ' e cls dd H' (j.back k) r
  | bad => exact hbad e
theorem par_go {i k : Nat} {ta tb : TE} {x y : Sd} {D' : Ends} {R : V → V → Hp → Prop} (hik : i ≠ k) (hi : g.m = false ∨ i ≠ 0) (hk : g.m = false ∨ k ≠ 0) (ha : TrSd g W ta x) (hb : TrSd g W tb y) (j : J g C ρ σ H) (p : PostS g W C D' (sPar i k x y ρ)) (hR : ∀ v u H2, D'.nx ((σ.set i (some v)).set k (some u)) H2 → R v u H2) : ta σ H fun v H1 => tb σ H1 fun u H2 => R v u H2 := by
  unfold sPar at p
  cases x with
  | v f =>
    have ha : TrE g W ta f := ha
    refine ha.step j (fun d ρ1 e1 v H1 j1 k1 r1 => ?_) (fun x ρ1 e1 cls dd H1 j1 r1 => ?_) (fun e1 => ?_)
    · simp only [Sd.f, e1, RE.bs] at p
      cases y with
      | v f' =>
        have hb : TrE g W tb f' := hb
        refine hb.step j1 (fun e ρ2 e2 u H2 j2 k2 r2 => ?_) (fun x ρ1 e2 cls dd H1 j1 r1 => ?_) (fun e2 => ?_)
        · simp only [e2] at p
          refine hR _ _ _ (p _ _ ?_)
          have r1' := J.carry j1 k2 _ _ r1
          have j3 := j2.setV (i := i) hi r1'
          have le : ∀ a, Av C.Z (ρ2.set i (.val d)) (σ.set i (some v)) a → Av C.Z ρ2 σ a := fun a z => z.imp id fun z => by
            obtain ⟨m, e, hm, h1, h2⟩ := own_set (d := d) (fun _ z => by cases z) z
            rw [List.getElem?_set_ne (Ne.symm hm)] at h2
            exact ⟨m, e, h1, h2⟩
          exact j3.setV hk (Rp.keep le (fun _ _ e _ => e) _ _ r2)
        · simp only [e2] at p; exact p _ _ _ _ j1 r1
        · simp only [e2] at p; exact p
      | n f' =>
        have hb : TrN g W tb f' := hb
        refine hb.step j1 (fun e ρ2 e2 a H2 j2 k2 t2 h0 hn nz => ?_) (fun x ρ1 e2 cls dd H1 j1 r1 => ?_) (fun e2 => ?_)
        · simp only [e2] at p
          refine hR _ _ _ (p _ _ ?_)
          have r1' : Rp g.K (Av (C.plus a).Z ρ2 σ) H2 v d := Rp.gen (fun b n e => by
            refine ⟨fun z => ?_, fun o q => k2.ext b o q fun z => z.elim (fun z => n (.inr z)) fun ⟨p, hp, e5⟩ => n (.inl (e5 ▸ j1.tz p hp))⟩
            rcases z with (z | z) | z
            · exact n (.inl z)
            · obtain ⟨o, e⟩ := e; rw [z, hn] at e; cases e
            · obtain ⟨m, d', h1, h2, h3, h4⟩ := k2.ownTop z
              have h4 : H1 b = none ∨ own ρ1 σ b ∨ ∃ p ∈ C.T, p.1 = b := h4
              rcases h4 with h4 | h4 | ⟨p, hp, e5⟩
              · obtain ⟨u, e⟩ := e; rw [e] at h4; cases h4
              · exact n (.inr h4)
              · exact n (.inl (e5 ▸ j1.tz p hp))) _ _ r1
          have j3 := j2.setV (i := i) hi r1'
          have le : ∀ b, Av (C.plus a).Z (ρ2.set i (.val d)) (σ.set i (some v)) b → Av (C.plus a).Z ρ2 σ b := fun b z => z.imp id fun z => by
            obtain ⟨m, e, hm, h1, h2⟩ := own_set (d := d) (fun _ z => by cases z) z
            rw [List.getElem?_set_ne (Ne.symm hm)] at h2
            exact ⟨m, e, h1, h2⟩
          exact j3.setN hk (t2.keep le (fun _ _ e _ => e) (fun _ e => e)) h0 nz
        · simp only [e2] at p; exact p _ _ _ _ j1 r1
        · simp only [e2] at p; exact p
    · simp only [Sd.f, e1, RE.bs] at p; exact p _ _ _ _ j1 r1
    · simp only [Sd.f, e1, RE.bs] at p; exact p
  | n f =>
    have ha : TrN g W ta f := ha
    refine ha.step j (fun d ρ1 e1 a H1 j1 k1 t1 h0 hn nz => ?_) (fun x ρ1 e1 cls dd H1 j1 r1 => ?_) (fun e1 => ?_)
    · simp only [Sd.f, e1, RE.bs] at p
      have stay : ∀ {b : Addr} {ρ2 H2}, J g ((C.plus a).at ρ1 σ H1) ρ2 σ H2 → Tp g.K (Av (C.plus a).Z ρ2 σ) H2 a d := fun {b ρ2 H2} k2 =>
        t1.gen (fun b n e => ⟨fun z => n (j1.avBack k2 e z), fun o q => k2.ext b o q fun z => z.elim (fun z => n (.inr z)) fun ⟨p, hp, e5⟩ => n (.inl (e5 ▸ j1.tz p hp))⟩) fun o q => k2.ext a o q fun z => z.elim (j1.zin a (.inr rfl)).2 fun ⟨p, hp, e5⟩ => t1.noT j1.tab p hp e5
      cases y with
      | v f' =>
        have hb : TrE g W tb f' := hb
        refine hb.step j1 (fun e ρ2 e2 u H2 j2 k2 r2 => ?_) (fun x ρ2 e2 cls dd H2 j2 r2 => ?_) (fun e2 => ?_)
        · simp only [e2] at p
          refine hR _ _ _ (p _ _ ?_)
          rw [List.set_comm _ _ hik, List.set_comm _ _ hik]
          have t2 := stay (b := a) k2
          have j3 := j2.setV (i := k) hk r2
          have le : ∀ b, Av (C.plus a).Z (ρ2.set k (.val e)) (σ.set k (some u)) b → Av (C.plus a).Z ρ2 σ b := fun b z => z.imp id fun z => by
            obtain ⟨m, e, hm, h1, h2⟩ := own_set (d := e) (fun _ z => by cases z) z
            rw [List.getElem?_set_ne (Ne.symm hm)] at h2
            exact ⟨m, e, h1, h2⟩
          exact j3.setN hi (t2.keep le (fun _ _ e _ => e) (fun _ e => e)) h0 nz
        · simp only [e2] at p; exact p _ _ _ _ (j2.unplus j.tz) r2
        · simp only [e2] at p; exact p
      | n f' =>
        have hb : TrN g W tb f' := hb
        refine hb.step j1 (fun e ρ2 e2 b H2 j2 k2 t2 h0' hn' nz' => ?_) (fun x ρ2 e2 cls dd H2 j2 r2 => ?_) (fun e2 => ?_)
        · simp only [e2] at p
          refine hR _ _ _ (p _ _ ?_)
          -- b is stored last; a ahead of it, b avoided meanwhile
          have hab : a ≠ b := fun z => nz' (.inr z.symm)
          have t1' : Tp g.K (Av ((C.plus b).plus a).Z ρ2 σ) H2 a d := t1.gen (fun c n e => by
            refine ⟨fun z => ?_, fun o q => k2.ext c o q fun z => z.elim (fun z => n (.inr z)) fun ⟨p, hp, e5⟩ => n (.inl (e5 ▸ j1.tz p hp))⟩
            rcases z with ((z | z) | z) | z
            · exact n (.inl (.inl z))
            · obtain ⟨o, e⟩ := e
              have e : H1 c = some o := e
              rw [z, hn'] at e; cases e
            · exact n (.inl (.inr z))
            · obtain ⟨m, d', h1, h2, h3, h4⟩ := k2.ownTop z
              have h4 : H1 c = none ∨ own ρ1 σ c ∨ ∃ p ∈ C.T, p.1 = c := h4
              rcases h4 with h4 | h4 | ⟨p, hp, e5⟩
              · obtain ⟨u, e⟩ := e
                have e : H1 c = some u := e
                rw [e] at h4; cases h4
              · exact n (.inr h4)
              · exact n (.inl (e5 ▸ j1.tz p hp))) fun o q => k2.ext a o q fun z => z.elim (j1.zin a (.inr rfl)).2 fun ⟨p, hp, e5⟩ => t1.noT j1.tab p hp e5
          have zeq : ∀ c, Av ((C.plus a).plus b).Z ρ2 σ c ↔ Av ((C.plus b).plus a).Z ρ2 σ c := fun c => by
            constructor <;> (intro z; rcases z with ((z | z) | z) | z)
            · exact .inl (.inl (.inl z))
            · exact .inl (.inr z)
            · exact .inl (.inl (.inr z))
            · exact .inr z
            · exact .inl (.inl (.inl z))
            · exact .inl (.inr z)
            · exact .inl (.inl (.inr z))
            · exact .inr z
          have jj : J g ((C.plus b).plus a) ρ2 σ H2 := j2.reZ fun c => by
            constructor <;> (intro z; rcases z with (z | z) | z)
            · exact .inl (.inl z)
            · exact .inr z
            · exact .inl (.inr z)
            · exact .inl (.inl z)
            · exact .inr z
            · exact .inl (.inr z)
          have j3 : J g (C.plus b) (ρ2.set i (.own d)) (σ.set i (some (.ref a))) H2 := jj.setN hi t1' h0 fun z => z.elim nz hab
          have le : ∀ c, Av (C.plus b).Z (ρ2.set i (.own d)) (σ.set i (some (.ref a))) c → Av ((C.plus a).plus b).Z ρ2 σ c := fun c z => by
            rcases z with (z | z) | ⟨m, x, h1, h2⟩
            · exact .inl (.inl (.inl z))
            · exact .inl (.inr z)
            · by_cases hm : i = m
              · subst hm
                have li : i < (σ.set i (some (V.ref a))).length := (List.getElem?_eq_some_iff.mp h2).1
                rw [List.getElem?_set_self (by simpa using li)] at h2
                cases h2; exact .inl (.inl (.inr rfl))
              · rw [List.getElem?_set_ne hm] at h1 h2
                exact .inr ⟨m, x, h1, h2⟩
          exact j3.setN hk (t2.keep le (fun _ _ e _ => e) (fun _ e => e)) h0' fun z => nz' (.inl z)
        · simp only [e2] at p; exact p _ _ _ _ (j2.unplus j.tz) r2
        · simp only [e2] at p; exact p
    · simp only [Sd.f, e1, RE.bs] at p; exact p _ _ _ _ j1 r1
    · simp only [Sd.f, e1, RE.bs] at p; exact p
theorem trs_par {i k : Nat} {ta tb : TE} {x y : Sd} (hik : i ≠ k) (hi : g.m = false ∨ i ≠ 0) (hk : g.m = false ∨ k ≠ 0) (ha : TrSd g W ta x) (hb : TrSd g W tb y) : TrS g W (tPar i k (tCons ta (tCons tb tNil))) (sPar i k x y) := fun C ρ σ H D' j p =>
  par_go (R := fun v u H2 => ∃ v' w', [v, u] = [v', w'] ∧ D'.nx ((σ.set i (some v')).set k (some w')) H2) hik hi hk ha hb j p fun v u H2 q => ⟨v, u, rfl, q⟩
/-- the same where the values go through a tuple -/
theorem trs_parT {i k : Nat} {ta tb : TE} {x y : Sd} (hik : i ≠ k) (hi : g.m = false ∨ i ≠ 0) (hk : g.m = false ∨ k ≠ 0) (ha : TrSd g W ta x) (hb : TrSd g W tb y) :
    TrS g W (tAsg (tTup (tCons ta (tCons tb tNil))) (gTup g.K 2 (gCons (gName i) (gCons (gName k) gNil)))) (sPar i k x y) := fun C ρ σ H D' j p =>
  par_go (D' := { nx := fun σ2 H2 => ∀ l o, H2 l = none → D'.nx σ2 (upd H2 l o), rt := D'.rt, bk := D'.bk, ct := D'.ct })
    (R := fun v u H2 => [v, u].length ≤ sizeLine ∧ ∀ l, H2 l = none → gTup g.K 2 (gCons (gName i) (gCons (gName k) gNil)) (.ref l) σ (upd H2 l (.tup [v, u])) D'.nx) hik hi hk ha hb j
    (by
      cases e : sPar i k x y ρ with
      | nx ρ' => rw [e] at p; exact fun σ2 H2 j2 l o hl => p σ2 _ (j2.grow (Grow.upd hl))
      | rt d ρ' => rw [e] at p; exact p
      | bk ρ' => rw [e] at p; exact p
      | ct ρ' => rw [e] at p; exact p
      | ex x ρ' => rw [e] at p; exact p
      | bad => rw [e] at p; exact p)
    fun v u H2 q => ⟨by rw [sizeLine_eq]; show 2 ≤ _; omega, fun l hl => ⟨l, [v, u], rfl, .inl (.inl upd_same), rfl, v, [u], rfl, u, [], rfl, rfl, q l _ hl⟩⟩
end
end DL

namespace DL
open PySem PySem.Spec PyProof.Rows L2

/-! ### what a def does -/
inductive RF where
  | ok (d : D) | ex (x : Ex) | bad
inductive RG where
  | ok (d : D) (h : List D) | ex (x : Ex) (h : List D) | bad
def PostF (K : PySem.W.Frag) (mg : Str → Option Value) (Z : Addr → Prop) (H : Hp) (Q : VK) (E : XK) : RF → Prop
  | .ok d => ∀ v H', Grow H H' → Rp K Z H' v d → Q v H'
  | .ex x => ∀ cls dd H', Grow H H' → ExR K mg x cls dd H' → E cls dd H'
  | .bad => False
/-- a def of plain data -/
def spP (K : PySem.W.Frag) (mg : Str → Option Value) (n : Nat) (F : List D → RF) : Sp := fun vs H Q E => vs.length = n ∧ ∃ Z ds, (∀ a, Z a → ∃ o, H a = some o) ∧ Rps K Z H vs ds ∧ PostF K mg Z H Q E (F ds)
def Mod (a : Addr) (H H' : Hp) : Prop := ∀ b o, H b = some o → b ≠ a → H' b = some o
def PostR (K : PySem.W.Frag) (mg : Str → Option Value) (Z : Addr → Prop) (a : Addr) (H : Hp) (Q : VK) (E : XK) : RG → Prop
  | .ok d h => ∀ v H' hv, Mod a H H' → H' a = some (.lst hv) → Rps K Z H' hv h → Rp K Z H' v d → Q v H'
  | .ex x h => ∀ cls dd H' hv, Mod a H H' → H' a = some (.lst hv) → Rps K Z H' hv h → ExR K mg x cls dd H' → E cls dd H'
  | .bad => False
/-- a def whose first argument is a list that it changes -/
def spR (K : PySem.W.Frag) (mg : Str → Option Value) (n : Nat) (F : List D → List D → RG) : Sp := fun vs H Q E => vs.length = n ∧ ∃ Z a hv hd vs' ds, vs = .ref a :: vs' ∧ H a = some (.lst hv) ∧ Z a ∧ (∀ b, Z b → ∃ o, H b = some o) ∧
  Rps K Z H hv hd ∧ Rps K Z H vs' ds ∧ PostR K mg Z a H Q E (F hd ds)

section
variable {g : G} {W : WX} {C : JC} {ρ ρ' : Sl} {σ σ' : L2.St} {H H' : Hp}
/-! ### a call -/
def freezeR (ρ : Sl) : List Nat → Sl
  | [] => ρ
  | i :: r => match (freezeR ρ r)[i]? with
    | some (.own d) => (freezeR ρ r).set i (.val d)
    | _ => freezeR ρ r
theorem J.freezes (j : J g C ρ σ H) : ∀ bs, J g C (freezeR ρ bs) σ H
  | [] => j
  | i :: r => by
    have ih := j.freezes r
    unfold freezeR
    split
    · rename_i d e
      obtain ⟨a, h1, _⟩ := ih.slot i _ e
      exact (ih.free e h1).1
    · exact ih
theorem freezeR_at {i : Nat} {d : D} : ∀ {bs : List Nat}, ρ[i]? = some (.own d) → (freezeR ρ bs)[i]? = some (.own d) ∨ (freezeR ρ bs)[i]? = some (.val d)
  | [], h => .inl h
  | k :: r, h => by
    have ih := freezeR_at (bs := r) h
    unfold freezeR
    split
    · rename_i d' e
      by_cases hk : k = i
      · subst hk
        have l : k < (freezeR ρ r).length := (List.getElem?_eq_some_iff.mp e).1
        rw [List.getElem?_set_self l]
        rcases ih with ih | ih
        · rw [e] at ih; cases ih; exact .inr rfl
        · rw [e] at ih; cases ih
      · rw [List.getElem?_set_ne hk]; exact ih
    · exact ih
theorem freezeR_in {i : Nat} {d : D} : ∀ {bs : List Nat}, i ∈ bs → ρ[i]? = some (.own d) → (freezeR ρ bs)[i]? = some (.val d)
  | k :: r, hm, h => by
    unfold freezeR
    by_cases hk : k = i
    · subst hk
      rcases freezeR_at (bs := r) h with e | e
      · rw [e]
        show ((freezeR ρ r).set k (.val d))[k]? = _
        rw [List.getElem?_set_self (List.getElem?_eq_some_iff.mp e).1]
      · rw [e]; exact e
    · have ih := freezeR_in (bs := r) (by rcases List.mem_cons.mp hm with z | z; exact absurd z.symm hk; exact z) h
      split
      · rw [List.getElem?_set_ne hk]; exact ih
      · exact ih
theorem freezeR_own {a : Addr} : ∀ {bs : List Nat}, own (freezeR ρ bs) σ a → own ρ σ a
  | [], h => h
  | k :: r, h => by
    unfold freezeR at h
    split at h
    · rename_i d' _
      obtain ⟨m, e, hm, h1, h2⟩ := own_set (d := d') (fun _ z => by cases z) h
      exact freezeR_own (bs := r) ⟨m, e, h1, h2⟩
    · exact freezeR_own (bs := r) h
theorem rpBs_freeze (j : J g C ρ σ H) {bs : List Nat} : ∀ {ds : List D} {vs : List V}, RpBs g bs C.Z ρ σ H vs ds → Rps g.K (Av C.Z (freezeR ρ bs) σ) H vs ds
  | [], _, h => h
  | d :: ds, _, h => by
    obtain ⟨v, r, e, h1, h2⟩ := h
    refine ⟨v, r, e, ?_, rpBs_freeze j h2⟩
    rcases h1 with h1 | ⟨i, a, hm, q1, q2, rfl⟩
    · exact Rp.keep (fun a z => z.imp id freezeR_own) (fun _ _ e _ => e) _ _ h1
    · obtain ⟨w, h3, h4⟩ := (j.freezes bs).slot i _ (freezeR_in hm q1)
      rw [q2] at h3; cases h3
      exact h4
def noTup (o : HO) : Prop := ∀ xs u, o ≠ .tup xs ∧ o ≠ .frz u (.tup xs)
mutual
theorem Rp.flat {K : PySem.W.Frag} {Z Z' : Addr → Prop} {H : Hp} (hz : ∀ a, Z' a → Z a ∨ ∃ o, H a = some o ∧ noTup o) : ∀ (d : D) (v : V), d.flat = true → Rp K Z H v d → Rp K Z' H v d
  | .non, v, _, h => h
  | .bl _, v, _, h => h
  | .int _, v, _, h => h
  | .str _, v, _, h => h
  | .opq _, v, _, h => h
  | .tup ds, v, f, h => by
    obtain ⟨a, vs, e, s, r⟩ := h
    refine ⟨a, vs, e, ?_, Rps.flat hz ds vs f r⟩
    rcases s with ⟨n, s⟩ | s
    · refine .inl ⟨fun z => ?_, s⟩
      rcases hz a z with z | ⟨o, e, nt⟩
      · exact n z
      · rcases s with s | ⟨u, s⟩
        · rw [s] at e; cases e; exact (nt vs { cls := .none, data := .plain }).1 rfl
        · rw [s] at e; cases e; exact (nt vs u).2 rfl
    · exact .inr s
theorem Rps.flat {K : PySem.W.Frag} {Z Z' : Addr → Prop} {H : Hp} (hz : ∀ a, Z' a → Z a ∨ ∃ o, H a = some o ∧ noTup o) : ∀ (ds : List D) (vs : List V), D.flats ds = true → Rps K Z H vs ds → Rps K Z' H vs ds
  | [], vs, _, h => h
  | d :: ds, vs, f, h => by
    obtain ⟨v, r, e, h1, h2⟩ := h
    have f := Bool.and_eq_true_iff.mp f
    exact ⟨v, r, e, Rp.flat hz d v f.1 h1, Rps.flat hz ds r f.2 h2⟩
end
theorem tp_noTup {K : PySem.W.Frag} {Z : Addr → Prop} {a : Addr} {d : D} (t : Tp K Z H a d) : ∃ o, H a = Option.some o ∧ DL.noTup o := by
  cases d with
  | lst ds => obtain ⟨vs, h, r⟩ := t; exact ⟨_, h, fun xs u => ⟨fun z => (by cases z), fun z => (by cases z)⟩⟩
  | dicK ks ds => obtain ⟨vs, h, e, r⟩ := t; exact ⟨_, h, fun xs u => ⟨fun z => (by cases z), fun z => (by cases z)⟩⟩
  | dicT ks ds => obtain ⟨vs, h, e, r⟩ := t; exact ⟨_, h, fun xs u => ⟨fun z => (by cases z), fun z => (by cases z)⟩⟩
  | set xs => obtain ⟨S, h, e⟩ := t; exact ⟨_, h, fun xs u => ⟨fun z => (by cases z), fun z => (by cases z)⟩⟩
  | _ => exact t.elim
def fCall (F : List D → RF) (as : List Ag) : FE := fun ρ => (evA as ρ).bd fun ds ρ1 => match F ds with
  | .ok d => .ok d (if d.flat = true then ρ1 else freezeR ρ1 (bsOf as))
  | .ex x => .ex x ρ1
  | .bad => .bad
theorem tr_call {F : List D → RF} {t : TA} {as : List Ag} (ha : TrA g W t as) (n : Nat) (hn : as.length = n) : TrE g W (tCallS (spP g.K g.mg n F) (WE W) t) (fCall F as) := by
  intro C ρ σ H Q j p
  refine ha.step j (fun ds ρ1 e1 vs H1 j1 k1 r1 => ?_) (fun x ρ1 e1 cls dd H1 j1 r1 => ?_) (fun e1 => ?_)
  · simp only [fCall, RE.bd, e1] at p
    have hl : ∀ (ag : List Ag) ρ ds ρ', evA ag ρ = .ok ds ρ' → ds.length = ag.length := by
      intro ag
      induction ag with
      | nil => intro ρ ds ρ' e; cases e; rfl
      | cons a r ih =>
        intro ρ ds ρ' e
        cases a with
        | e f =>
          simp only [evA] at e
          cases q1 : f ρ with
          | ok d ρ2 =>
            simp only [q1, RE.bd] at e
            cases q2 : evA r ρ2 with
            | ok es ρ3 => simp only [q2] at e; cases e; simp [ih _ _ _ q2]
            | ex x ρ3 => simp only [q2] at e; cases e
            | bad => simp only [q2] at e; cases e
          | ex x ρ2 => simp only [q1, RE.bd] at e; cases e
          | bad => simp only [q1, RE.bd] at e; cases e
        | b i =>
          simp only [evA] at e
          split at e
          · cases q2 : evA r ρ with
            | ok es ρ3 =>
              simp only [q2, RE.bd] at e
              split at e
              · cases e; simp [ih _ _ _ q2]
              · cases e; simp [ih _ _ _ q2]
              · cases e
            | ex x ρ3 => simp only [q2, RE.bd] at e; cases e
            | bad => simp only [q2, RE.bd] at e; cases e
          · cases e
    have jf := j1.freezes (bsOf as)
    have rf := rpBs_freeze j1 r1
    refine ⟨by rw [rf.length, hl _ _ _ _ e1, hn], Av C.Z (freezeR ρ1 (bsOf as)) σ, ds, fun a z => jf.avSome z, rf, ?_⟩
    cases e2 : F ds with
    | bad => simp only [e2] at p; exact p.elim
    | ex x => simp only [e2] at p; exact fun cls dd H' gr r => p cls dd H' (j1.grow gr) r
    | ok d =>
      simp only [e2] at p
      intro v H' gr r
      split at p
      · rename_i hf
        refine p v H' (j1.grow gr) (Rp.flat (fun a z => ?_) d v hf r)
        rcases z with z | z
        · exact .inl (.inl z)
        · obtain ⟨i, x, h1, h2, h3, h4⟩ := (j1.grow gr).ownTop z
          exact .inr (tp_noTup h3)
      · exact p v H' (jf.grow gr) r
  · simp only [fCall, RE.bd, e1] at p
    exact p _ _ _ j1 r1
  · simp only [fCall, RE.bd, e1] at p
    exact p
/-- f(x, ..), x a list of one's own that f changes -/
def fCallR (F : List D → List D → RG) (i : Nat) (as : List Ag) : FE := fun ρ => if (lstAt ρ i).isSome = true then (evA as ρ).bd fun ds ρ1 => match lstAt ρ1 i with
    | some hd => (match F hd ds with
      | .ok d h => .ok d (ρ1.set i (.own (.lst h)))
      | .ex x h => .ex x (ρ1.set i (.own (.lst h)))
      | .bad => .bad)
    | none => .bad
  else .bad
theorem av_setOwn {i : Nat} {d e : D} {a : Addr} (hi : ρ[i]? = some (.own d)) : Av C.Z (ρ.set i (.own e)) σ a ↔ Av C.Z ρ σ a := by
  have li : i < ρ.length := (List.getElem?_eq_some_iff.mp hi).1
  constructor
  · intro z
    refine z.imp id fun ⟨m, x, h1, h2⟩ => ?_
    by_cases hm : i = m
    · subst hm; exact ⟨i, d, hi, h2⟩
    · rw [List.getElem?_set_ne hm] at h1; exact ⟨m, x, h1, h2⟩
  · intro z
    refine z.imp id fun ⟨m, x, h1, h2⟩ => ?_
    by_cases hm : i = m
    · subst hm; exact ⟨i, e, List.getElem?_set_self li, h2⟩
    · exact ⟨m, x, by rw [List.getElem?_set_ne hm]; exact h1, h2⟩
theorem tr_callR {F : List D → List D → RG} {t : TA} {i : Nat} {as : List Ag} (ha : TrA g W t as) (hb : bsOf as = []) (n : Nat) (hn : as.length + 1 = n) (hl : ∀ (ag : List Ag) ρ ds ρ', evA ag ρ = .ok ds ρ' → ds.length = ag.length) :
    TrE g W (tCallS (spR g.K g.mg n F) (WE W) (tCons (tVar i) t)) (fCallR F i as) := by
  intro C ρ σ H Q j p
  unfold fCallR at p
  split at p
  · rename_i hs
    obtain ⟨ds0, e0⟩ := Option.isSome_iff_exists.mp hs
    obtain ⟨a, vs0, hσ, hl0, r0⟩ := j.ownL (lstAt_some e0)
    refine ⟨_, hσ, ?_⟩
    refine ha.step j (fun ds ρ1 e1 vs H1 j1 k1 r1 => ?_) (fun x ρ1 e1 cls dd H1 j1 r1 => ?_) (fun e1 => ?_)
    · simp only [RE.bd, e1] at p
      rw [hb] at r1
      have r := rpBs_rps r1
      cases e2 : lstAt ρ1 i with
      | none => simp only [e2] at p; exact p.elim
      | some hd =>
        simp only [e2] at p
        obtain ⟨b, hv, hb', hlv, rh⟩ := j1.ownL (lstAt_some e2)
        rw [hσ] at hb'; cases hb'
        have oa : own ρ1 σ a := ⟨i, _, lstAt_some e2, hσ⟩
        refine ⟨by simp [r.length, hl _ _ _ _ e1, hn], Av C.Z ρ1 σ, a, hv, hd, vs, ds, rfl, hlv, .inr oa, fun b z => j1.avSome z, rh, r, ?_⟩
        have J' : ∀ {H' : Hp} {hv' : List V} {h : List D}, Mod a H1 H' → H' a = some (.lst hv') → Rps g.K (Av C.Z ρ1 σ) H' hv' h → J g C (ρ1.set i (.own (.lst h))) σ H' := fun {H' hv' h} md ha' rr =>
          j1.writeG (lstAt_some e2) hσ md ⟨hv', ha', rr⟩
        cases e3 : F hd ds with
        | bad => simp only [e3] at p; exact p.elim
        | ex x h => simp only [e3] at p; exact fun cls dd H' hv' md ha' rr re => p cls dd H' (J' md ha' rr) re
        | ok d h =>
          simp only [e3] at p
          exact fun v H' hv' md ha' rr rv => p v H' (J' md ha' rr) (Rp.keep (fun b z => (av_setOwn (lstAt_some e2)).mp z) (fun _ _ e _ => e) _ _ rv)
    · simp only [RE.bd, e1] at p
      exact p _ _ _ j1 r1
    · simp only [RE.bd, e1] at p
      exact p
  · exact p.elim
theorem evA_len : ∀ (ag : List Ag) ρ ds ρ', evA ag ρ = .ok ds ρ' → ds.length = ag.length := by
  intro ag
  induction ag with
  | nil => intro ρ ds ρ' e; cases e; rfl
  | cons a r ih =>
    intro ρ ds ρ' e
    cases a with
    | e f =>
      simp only [evA] at e
      cases q1 : f ρ with
      | ok d ρ2 =>
        simp only [q1, RE.bd] at e
        cases q2 : evA r ρ2 with
        | ok es ρ3 => simp only [q2] at e; cases e; simp [ih _ _ _ q2]
        | ex x ρ3 => simp only [q2] at e; cases e
        | bad => simp only [q2] at e; cases e
      | ex x ρ2 => simp only [q1, RE.bd] at e; cases e
      | bad => simp only [q1, RE.bd] at e; cases e
    | b i =>
      simp only [evA] at e
      split at e
      · cases q2 : evA r ρ with
        | ok es ρ3 =>
          simp only [q2, RE.bd] at e
          split at e
          · cases e; simp [ih _ _ _ q2]
          · cases e; simp [ih _ _ _ q2]
          · cases e
        | ex x ρ3 => simp only [q2, RE.bd] at e; cases e
        | bad => simp only [q2, RE.bd] at e; cases e
      · cases e

/-! ### a body -/
def rho0 (n : Nat) (ds : List D) : Sl := ds.map .val ++ List.replicate (n - ds.length) .emp
def runP (n : Nat) (b : FS) : List D → RF := fun ds => match b (rho0 n ds) with
  | .nx _ => .ok .non
  | .rt d _ => .ok d
  | .ex x _ => .ex x
  | _ => .bad
def runR (n : Nat) (b : FS) : List D → List D → RG := fun hd ds => match b (.own (.lst hd) :: rho0 (n - 1) ds) with
  | .nx ρ => (match lstAt ρ 0 with | some h => .ok .non h | none => .bad)
  | .rt d ρ => (match lstAt ρ 0 with | some h => .ok d h | none => .bad)
  | .ex x ρ => (match lstAt ρ 0 with | some h => .ex x h | none => .bad)
  | _ => .bad
theorem rho0_at {n i : Nat} {ds : List D} {s : Slot} (h : (rho0 n ds)[i]? = some s) : (∃ d, ds[i]? = some d ∧ s = .val d) ∨ s = .emp := by
  unfold rho0 at h
  by_cases hi : i < ds.length
  · rw [List.getElem?_append_left (by simpa using hi), List.getElem?_map] at h
    cases e : ds[i]? with
    | none => rw [e] at h; cases h
    | some d => rw [e] at h; cases h; exact .inl ⟨d, rfl, rfl⟩
  · rw [List.getElem?_append_right (by simpa using hi), List.getElem?_replicate] at h
    split at h
    · cases h; exact .inr rfl
    · cases h
theorem start_at {N : List Str} {vs : List V} {i : Nat} {v : V} (h : vs[i]? = some v) : (L2.start N vs)[i]? = some (some v) := by
  unfold L2.start
  have hi : i < vs.length := (List.getElem?_eq_some_iff.mp h).1
  rw [List.getElem?_append_left (by simpa using hi), List.getElem?_map, h]; rfl
theorem J.entry {K : PySem.W.Frag} {mg : Str → Option Value} {Z : Addr → Prop} {N : List Str} {vs : List V} {ds : List D} (hl : vs.length ≤ N.length) (hz : ∀ a, Z a → ∃ o, H a = some o) (r : Rps K Z H vs ds) :
    J ⟨K, mg, false, none, [], none⟩ ⟨H, fun _ => False, Z, none, []⟩ (rho0 N.length ds) (L2.start N vs) H := by
  have no : ∀ a, ¬ own (rho0 N.length ds) (L2.start N vs) a := fun a ⟨i, d, h1, h2⟩ => by
    rcases rho0_at h1 with ⟨e, _, h⟩ | h <;> cases h
  have le : ∀ a, Av Z (rho0 N.length ds) (L2.start N vs) a → Z a := fun a z => z.elim id fun z => absurd z (no a)
  refine ⟨?_, fun i s h => ?_, fun i k d e a h1 h2 h3 h4 => absurd ⟨i, d, h1, h3⟩ (no a), fun a o e _ => e, fun a o e => ⟨o, e⟩, fun a z => ⟨hz a z, no a⟩, fun a e => (by cases e), (fun p hp => (nomatch hp)), (fun p hp => (nomatch hp)), (fun p hp => (nomatch hp)), rfl, HbOk.none rfl⟩
  · unfold rho0 L2.start
    simp [r.length]
  · rcases rho0_at h with ⟨d, h1, rfl⟩ | rfl
    · obtain ⟨v, h2, h3⟩ := r.get' h1
      exact ⟨v, start_at h2, Rp.keep le (fun _ _ e _ => e) _ _ h3⟩
    · trivial
/-- a body's reading does what the def promises -/
theorem body_P {K : PySem.W.Frag} {mg : Str → Option Value} {N : List Str} {n : Nat} {t : TS} {b : FS} {vs : List V} {Q : VK} {E : XK} (hn : n ≤ N.length) (hsp : spP K mg n (runP N.length b) vs H Q E) (h : TrS ⟨K, mg, false, none, [], none⟩ (fun cls d _ H => E cls d H) t b) :
    t { nx := fun _ H' => Q .non H', rt := Q } (L2.start N vs) H := by
  obtain ⟨hl, Z, ds, hz, r, p⟩ := hsp
  have j := J.entry (mg := mg) (N := N) (by omega) hz r
  refine h _ _ _ H _ j ?_
  have gr : ∀ {ρ σ H'}, J ⟨K, mg, false, none, [], none⟩ ⟨H, fun _ => False, Z, none, []⟩ ρ σ H' → Grow H H' := fun k a o e => k.ext a o e fun z => z
  unfold runP at p
  cases e : b (rho0 N.length ds) with
  | nx ρ => rw [e] at p; exact fun σ H' k => p _ H' (gr k) rfl
  | rt d ρ => rw [e] at p; exact fun v σ H' k r => p v H' (gr k) (Rp.keep (fun _ z => .inl z) (fun _ _ e _ => e) _ _ r)
  | ex x ρ => rw [e] at p; exact fun cls dd σ H' k r => p cls dd H' (gr k) r
  | bk ρ => rw [e] at p; exact p.elim
  | ct ρ => rw [e] at p; exact p.elim
  | bad => rw [e] at p; exact p.elim
theorem J.entryR {K : PySem.W.Frag} {mg : Str → Option Value} {Z : Addr → Prop} {N : List Str} {a : Addr} {hv : List V} {hd : List D} {vs : List V} {ds : List D} (hl : vs.length + 1 ≤ N.length) (ha : H a = some (.lst hv)) (hza : Z a) (hz : ∀ a, Z a → ∃ o, H a = some o) (rh : Rps K Z H hv hd) (r : Rps K Z H vs ds) :
    J ⟨K, mg, true, none, [], none⟩ ⟨H, fun b => b = a, fun b => Z b ∧ b ≠ a, some a, []⟩ (.own (.lst hd) :: rho0 (N.length - 1) ds) (L2.start N (.ref a :: vs)) H := by
  have o1 : ∀ {b}, own (.own (.lst hd) :: rho0 (N.length - 1) ds) (L2.start N (.ref a :: vs)) b → b = a := fun {b} ⟨i, d, h1, h2⟩ => by
    cases i with
    | zero => rw [start_at (v := .ref a) rfl] at h2; cases h2; rfl
    | succ i =>
      rw [List.getElem?_cons_succ] at h1
      rcases rho0_at h1 with ⟨e, _, h⟩ | h <;> cases h
  have le : ∀ b, Av (fun b => Z b ∧ b ≠ a) (.own (.lst hd) :: rho0 (N.length - 1) ds) (L2.start N (.ref a :: vs)) b → Z b := fun b z => z.elim (·.1) fun z => by rw [o1 z]; exact hza
  refine ⟨?_, fun i s h => ?_, fun i k d e b h1 h2 h3 h4 => ?_, fun b o e _ => e, fun b o e => ⟨o, e⟩, fun b z => ⟨hz b z.1, fun o => z.2 (o1 o)⟩, fun b e => (by cases e; exact ⟨rfl, start_at rfl⟩), (fun p hp => (nomatch hp)), (fun p hp => (nomatch hp)), (fun p hp => (nomatch hp)), rfl, HbOk.none rfl⟩
  · unfold rho0 L2.start
    simp [r.length]
    have := r.length
    omega
  · cases i with
    | zero =>
      cases h
      exact ⟨a, start_at rfl, ⟨hv, ha, Rps.keep le (fun _ _ e _ => e) _ _ rh⟩, .inr rfl⟩
    | succ i =>
      rw [List.getElem?_cons_succ] at h
      rcases rho0_at h with ⟨d, h1, rfl⟩ | rfl
      · obtain ⟨v, h2, h3⟩ := r.get' h1
        exact ⟨v, start_at (by simpa using h2), Rp.keep le (fun _ _ e _ => e) _ _ h3⟩
      · trivial
  · have z : ∀ {m : Nat} {x : D}, (Slot.own (.lst hd) :: rho0 (N.length - 1) ds)[m]? = some (.own x) → m = 0 := fun {m x} q => by
      cases m with
      | zero => rfl
      | succ m =>
        rw [List.getElem?_cons_succ] at q
        rcases rho0_at q with ⟨e, _, h⟩ | h <;> cases h
    rw [z h1, z h2]
theorem body_R {K : PySem.W.Frag} {mg : Str → Option Value} {N : List Str} {n : Nat} {t : TS} {b : FS} {vs : List V} {Q : VK} {E : XK} (hn : n ≤ N.length) (hsp : spR K mg n (runR N.length b) vs H Q E) (h : TrS ⟨K, mg, true, none, [], none⟩ (fun cls d _ H => E cls d H) t b) :
    t { nx := fun _ H' => Q .non H', rt := Q } (L2.start N vs) H := by
  obtain ⟨hl, Z, a, hv, hd, vs', ds, rfl, ha, hza, hz, rh, r, p⟩ := hsp
  have j := J.entryR (mg := mg) (N := N) (by simp at hl; omega) ha hza hz rh r
  refine h _ _ _ H _ j ?_
  have gr : ∀ {ρ σ H'}, J ⟨K, mg, true, none, [], none⟩ ⟨H, fun b => b = a, fun b => Z b ∧ b ≠ a, some a, []⟩ ρ σ H' → Mod a H H' := fun k b o e n => k.ext b o e n
  have le : ∀ {ρ : Sl} {σ H' hx}, J ⟨K, mg, true, none, [], none⟩ ⟨H, fun b => b = a, fun b => Z b ∧ b ≠ a, some a, []⟩ ρ σ H' → lstAt ρ 0 = some hx → ∀ b, Z b → Av (fun b => Z b ∧ b ≠ a) ρ σ b := fun {ρ σ H' hx} k e b z => by
    by_cases hb : b = a
    · exact .inr ⟨0, _, lstAt_some e, by rw [hb]; exact (k.br a rfl).2⟩
    · exact .inl ⟨z, hb⟩
  have at0 : ∀ {ρ : Sl} {σ H' hx}, J ⟨K, mg, true, none, [], none⟩ ⟨H, fun b => b = a, fun b => Z b ∧ b ≠ a, some a, []⟩ ρ σ H' → lstAt ρ 0 = some hx → ∃ us, H' a = some (.lst us) ∧ Rps K Z H' us hx := fun {ρ σ H' hx} k e => by
    obtain ⟨c, us, h1, h2, h3⟩ := k.ownL (lstAt_some e)
    rw [(k.br a rfl).2] at h1; cases h1
    exact ⟨us, h2, Rps.keep (le k e) (fun _ _ e _ => e) _ _ h3⟩
  unfold runR at p
  cases e : b (.own (.lst hd) :: rho0 (N.length - 1) ds) with
  | nx ρ =>
    rw [e] at p
    cases e2 : lstAt ρ 0 with
    | none => simp only [e2] at p; exact p.elim
    | some hx =>
      simp only [e2] at p
      exact fun σ H' k => let ⟨us, q1, q2⟩ := at0 k e2; p _ H' us (gr k) q1 q2 rfl
  | rt d ρ =>
    rw [e] at p
    cases e2 : lstAt ρ 0 with
    | none => simp only [e2] at p; exact p.elim
    | some hx =>
      simp only [e2] at p
      exact fun v σ H' k r => let ⟨us, q1, q2⟩ := at0 k e2; p v H' us (gr k) q1 q2 (Rp.keep (le k e2) (fun _ _ e _ => e) _ _ r)
  | ex x ρ =>
    rw [e] at p
    cases e2 : lstAt ρ 0 with
    | none => simp only [e2] at p; exact p.elim
    | some hx =>
      simp only [e2] at p
      exact fun cls dd σ H' k r => let ⟨us, q1, q2⟩ := at0 k e2; p cls dd H' us (gr k) q1 q2 r
  | bk ρ => rw [e] at p; exact p.elim
  | ct ρ => rw [e] at p; exact p.elim
  | bad => rw [e] at p; exact p.elim

/-! ### raise X() -/
def sRaise (x : Str) : FS := fun ρ => .ex ⟨x, []⟩ ρ
theorem trs_raise {x : Str} {A : Addr} (hm : g.mg x = some (.ref A)) : TrS g W (fun _ σ H => W (.ref A) none σ H) (sRaise x) := fun C ρ σ H D' j p =>
  p _ _ σ H j ⟨⟨A, rfl, hm⟩, rfl⟩
end
/-- X() -/
theorem pmk_own0 {X : Cx} {C : Addr} {bmB : List Value} {B newId initId : String} {x : Str} {p pos : Pos} (F : ExcBaseFacts B newId initId bmB) (q : PySem.W.excIn X.K C bmB newId = true) (gC : X.mg x = some (.ref C)) (kC : PySem.W.keepIn X.K (.ref C) = true) (r : Raises X (.ref C)) (hg : Gl X x)
    (hdb : (x == ("__debug__" : Str)) = false := by decide) : PMk X (.Call (.Name x p) [] [] pos) (fun _ H Q => Q (.ref C) none H) := by
  intro pins s σ H Q I h
  refine wpAny_Call_Name_kw (ld_glob I hg gC ?_ hdb)
  refine PySem.W.callWith_K0 I.kIn kC ?_
  show wpAny _ _ (call (.ref C) []) _ _ _
  obtain ⟨bm, N, nm, qn, bs, hdct, sn, sub, ab, col, dd, k0, k1, k2, k3, k5, mN, hC, hN, hni, T⟩ := exc_obj I.kIn q
  refine wpAny_call_exc_subT F T hC hN hni (fun h' e hm => ?_) (by show 0 ≤ sizeLine; exact Nat.zero_le _)
  exact mk_of I hm r h (I.hok.gone hm.new)
end DL

namespace DL
open PySem PySem.Spec PyProof.Rows L2
/-! ### promises of defs that are entered where no container is being shown -/
structure FnG (P : Program) (w : World) (K : PySem.W.Frag) (mg : Str → Option Value) (base : Heap) (k : Nat) (f : Addr) (fd : FuncData) (ps : List Str) (sp : Sp) : Prop where
  len : ∀ vs H Q E, sp vs H Q E → vs.length = ps.length
  go : ∀ (A : Around) (outer : List Env) (st : Shared) (H : Hp) (ar : Args) (us : List Value) (vs : List V) (Q : VK) (E : XK), A.guards = some [] → Room k A → Env0 P w K mg base A outer st H →
    BindsTo st fd ar (ps.zip us) → Vals vs us → sp vs H Q E → codeAny (model P w) A (.call (.ref f) ar) (CR (L2.CX P w) outer P w H st Q E) st
section
variable {P : Program} {w : World} {K : PySem.W.Frag} {mg : Str → Option Value} {base : Heap} {k j : Nat} {f : Addr} {fd : FuncData} {ps : List Str} {sp : Sp}
theorem FnG.mono (F : FnG P w K mg base j f fd ps sp) (h : j ≤ k) : FnG P w K mg base k f fd ps sp :=
  ⟨F.len, fun A outer st H ar us vs Q E gd hr => F.go A outer st H ar us vs Q E gd (hr.mono h)⟩
theorem FnG.imp {sq : Sp} (F : FnG P w K mg base k f fd ps sp) (h : ∀ vs H Q E, sq vs H Q E → sp vs H Q E) : FnG P w K mg base k f fd ps sq :=
  ⟨fun vs H Q E q => F.len vs H Q E (h _ _ _ _ q), fun A outer st H ar us vs Q E gd hr e b r q => F.go A outer st H ar us vs Q E gd hr e b r (h _ _ _ _ q)⟩
theorem fn_mkG {x qual : Str} {pa : Arguments} {body : List Stmt} {scope : Scope} {dvs : List V} {kws : List (Str × V)} {N : List Str} (F : FunD K x qual pa body scope dvs kws f fd) (S : FnScope N ps scope) (len : ∀ vs H Q E, sp vs H Q E → vs.length = ps.length)
    (hb : ∀ (cd : Value) (A : Around) (outer : List Env) (st : Shared) (H : Hp) (vs : List V) (Q : VK) (E : XK), A.guards = some [] → Room k (A.deeper (envOfC qual scope st.heap.objs.size f cd)) → sp vs H Q E →
      ∃ t, PSs (cxOf (L2.CX P w) P w K mg base N qual scope f cd A outer st H E) body t ∧ t { nx := fun _ H' => Q .non H', rt := Q } (L2.start N vs) H) : FnG P w K mg base (k + 1) f fd ps sp := by
  obtain ⟨oc, od, dV, kV, doc, pm, an, cd, ct, osl, rfl, lk, hcd, _, _⟩ := F.ex
  refine ⟨len, fun A outer st H ar us vs Q E gd hr e b r q => ?_⟩
  exact LamX.run_ofS lk hcd S hr e b r (len _ _ _ _ q) fun hr' => hb cd A outer st H vs Q E gd hr' q
/-- a def that can be called by its name -/
def Cal (P : Program) (w : World) (K : PySem.W.Frag) (mg : Str → Option Value) (base : Heap) (x : Str) (k : Nat) (ps : List Str) (sp : Sp) : Prop :=
  ∃ f fd, FnG P w K mg base k f fd ps sp ∧ mg x = some (.ref f) ∧ PySem.W.keepIn K (.ref f) = true ∧ Binds K fd ps []
theorem Cal.imp {x : Str} {sq : Sp} (F : Cal P w K mg base x k ps sp) (h : ∀ vs H Q E, sq vs H Q E → sp vs H Q E) : Cal P w K mg base x k ps sq :=
  let ⟨f, fd, G, r⟩ := F; ⟨f, fd, G.imp h, r⟩
theorem Cal.mono {x : Str} (F : Cal P w K mg base x j ps sp) (h : j ≤ k) : Cal P w K mg base x k ps sp :=
  let ⟨f, fd, G, r⟩ := F; ⟨f, fd, G.mono h, r⟩
end
section
variable {X : Cx} {k : Nat} {f : Addr} {fd : FuncData} {ps : List Str} {sp : Sp} {E : L2.St → XK} {x : Str} {p pos : Pos} {e : Expr} {es : List Expr} {t : TA}
theorem go_fnG {pins : List (Addr × Obj)} {σ : L2.St} {H : Hp} {st : Shared} {Q : VK} {us : List Value} {vs : List V} (F : FnG X.prog X.w X.K X.mg X.base k f fd ps sp) (gd : X.A.guards = some []) (hr : Room k X.A) (hb : Binds X.K fd ps [])
    (hx : PassesAt (L2.CX X.prog X.w) X σ (E σ)) (I : Inv X pins σ H st) (r : Vals vs us) (h : sp vs H Q (E σ)) : wpAny (model X.prog X.w) X.A (call (.ref f) us) (EP X pins σ Q) X.xe st := by
  have b := hb st us I.kIn (by rw [List.append_nil, ← r.length]; exact F.len _ _ _ _ h)
  rw [List.append_nil] at b
  have c := F.go X.A X.stack st H ⟨us, []⟩ us vs Q (E σ) gd hr I.env0 b r h
  refine wpAny_call (codeAny_mono c fun o st2 q => ?_)
  match o, q with
  | .error z, q => exact hx pins H st z st2 I q
  | .ok (.ret u), q => exact I.after q
  | .ok .next, q => exact q.elim
  | .ok .brk, q => exact q.elim
  | .ok .cont, q => exact q.elim
theorem pe_callG (F : FnG X.prog X.w X.K X.mg X.base k f fd ps sp) (gd : X.A.guards = some []) (hr : Room k X.A) (hg : Gl X x) (hm : X.mg x = some (.ref f)) (hk : PySem.W.keepIn X.K (.ref f) = true) (hb : Binds X.K fd ps []) (hx : ∀ σ, PassesAt (L2.CX X.prog X.w) X σ (E σ))
    (ha : PA X (e :: es) t) (hdb : (x == ("__debug__" : Str)) = false) (he : starEach (e :: es) X.env = (false, eval e X.env) :: starEach es X.env) (hpl : (backTo pos (starEach es X.env)).any (·.1) = false) :
    PE X (.Call (.Name x p) (e :: es) [] pos) (tCallS sp E t) :=
  ⟨fun pins st σ H Q I h => wpAny_Call_Name_kw (ld_glob I hg hm (PySem.W.callWith_K (h₀ := X.base) I.ok.mod.kin hk
    (thn (ha.run pos pins st σ H _ I h) fun us st1 z => let ⟨vs, H1, I1, r, q⟩ := z; ⟨I1.kIn, go_fnG F gd hr hb (hx σ) I1 r q⟩) he hpl) hdb)⟩
end
end DL

namespace DL
open PySem PySem.Spec PyProof.Rows L2

/-- a lambda that a def got: its function, its code object, the code object's name, its reading in the maker's frame -/
structure LamI where
  f : Addr
  c : Addr
  q : Str
  tb : XK → Hp → VK → Prop
def LamI.act (L : LamI) (W : WX) : TE := fun σ H Q => σ[0]? = some (some (.ref L.f)) ∧ H L.c = some (LamX.CodeO L.c L.q) ∧ L.tb (fun cls d H' => W cls d σ H') H Q
/-- what stands of a def's code while it runs -/
structure SC where
  P : Program
  w : World
  K : PySem.W.Frag
  mg : Str → Option Value
  base : Heap
  N : List Str
  sc : Scope
  k : Nat
  m : Bool
  top : Bool
  calm : Bool
  e : Option Addr
  ec : Value
  ed : Option Addr
  raw : Option Scope
  T : List (Addr × Str)
  hb : Option (Hp × (Addr → Prop))
  lf : Option Addr
  lam : Option LamI
  /-- a maker of lambdas: its code object, that one's table, the lambdas' qualified name -/
  mkr : Option (Addr × Addr × Str)
def SC.g (s : SC) : G := ⟨s.K, s.mg, s.m, s.e <|> s.lf, s.T, s.hb⟩
abbrev SC.cx (s : SC) (y : Cx) : Cx where
  prog := s.P
  w := s.w
  K := s.K
  mg := s.mg
  base := s.base
  A := y.A
  N := s.N
  s_0 := y.s_0
  H_0 := y.H_0
  env := { scope := s.sc, locals := y.env.locals, globals := y.env.globals, cells := y.env.cells, qual := y.env.qual, func := y.env.func, code := y.env.code, frame := y.env.frame, builtins := y.env.builtins }
  outer := y.outer
  stack := y.stack
  ex := y.ex
  fn := y.fn
  calm := s.calm
  pn := y.pn
  xe := y.xe
structure Fit (s : SC) (y : Cx) : Prop where
  gd : y.A.guards = some []
  room : Room s.k y.A ∨ s.calm = false
  un : y.A.units + 64 < cLine
  un2 : y.A.units + 100 < cLine
  po : PassesOwn (model s.P s.w) (s.cx y).A (s.cx y).env (s.cx y).xe
  st : s.top = true → (s.cx y).stack = (s.cx y).env :: (s.cx y).outer ∧ (s.cx y).env.frame = some (s.cx y).env.locals
  fn : s.top = true → (s.cx y).fn = fun _ => true
  fb : ∀ r, s.raw = some r → (s.cx y).fn = fun x => r.names.lookup x == some .cell
  lm : ∀ L, s.lam = some L → ∀ pn xe W, Takes ((s.cx y).tr pn xe) W → ∀ (a : Str) (p1 p2 : Pos), s.N[0]? = some a → Vis s.sc a → (a == ("__debug__" : Str)) = false → (a == ("__classdict__" : Str)) = false → PE ((s.cx y).tr pn xe) (.Call (.Name a p1) [] [] p2) (L.act W)
  mka : ∀ c P q, s.mkr = some (c, P, q) → LamX.TabB s.base s.mg c P ∧ (s.cx y).env.code = .ref c ∧ (s.cx y).env.qual ++ "<lambda>" = q
  su : ∀ a, s.e = some a → ∃ X1 oe pn, s.cx y = Cx.suite X1 a ((a, oe) :: pn) ∧ Zc s.ec s.ed oe ∧ ∃ vs, oe.data = .fields vs

section
variable (s : SC)
def DE (e : Expr) (f : FE) : Prop := ∀ W, ∃ t, TrE s.g W t f ∧ ∀ y, Fit s y → Takes (s.cx y) W → PE (s.cx y) e t
def DN (e : Expr) (f : FE) : Prop := ∀ W, ∃ t, TrN s.g W t f ∧ ∀ y, Fit s y → Takes (s.cx y) W → PE (s.cx y) e t
def DT (e : Expr) (f : FT) : Prop := ∀ W, ∃ t, TrT s.g W t f ∧ ∀ y, Fit s y → Takes (s.cx y) W → PT (s.cx y) e t
def DW (e : Expr) (f : FT) : Prop := ∀ W, ∃ t, TrT s.g W t f ∧ ∀ y, Fit s y → Takes (s.cx y) W → PW (s.cx y) e t
def DAg (e : Expr) (a : Ag) : Prop := ∀ W, ∃ t, TrAg s.g W t a ∧ ∀ y, Fit s y → Takes (s.cx y) W → PE (s.cx y) e t
def DA (es : List Expr) (as : List Ag) : Prop := ∀ W, ∃ t, TrA s.g W t as ∧ ∀ y, Fit s y → Takes (s.cx y) W → PA (s.cx y) es t
def DS (st : Stmt) (f : FS) : Prop := ∀ W, ∃ t, TrS s.g W t f ∧ ∀ y, Fit s y → Takes (s.cx y) W → PS (s.cx y) st t
def DSs (sts : List Stmt) (f : FS) : Prop := ∀ W, ∃ t, TrS s.g W t f ∧ ∀ y, Fit s y → Takes (s.cx y) W → PSs (s.cx y) sts t
def DI (tg iter : Expr) (f : Sl → RE (List D)) : Prop := ∀ W, ∃ t, TrI s.g W t f ∧ ∀ y, Fit s y → Takes (s.cx y) W → PI (s.cx y) tg iter t
def DO (e : Option Expr) (f : Sl → RE (Option Int)) : Prop := ∀ W, ∃ t, TrO s.g W t f ∧ ∀ y, Fit s y → Takes (s.cx y) W → PO (s.cx y) e t
def DG (tg : Expr) (f : Tg) (is : List Nat) : Prop := ∃ t, TrTg s.g t f is ∧ ∀ y, Fit s y → PG (s.cx y) tg t
def DGs (tgs : List Expr) (f : List D → Sl → Option Sl) (is : List Nat) (n : Nat) : Prop := (∀ ds ρ ρ', f ds ρ = some ρ' → ds.length = n) ∧ ∃ t, TrTgs s.g t f is ∧ ∀ y, Fit s y → PGs (s.cx y) tgs t
def DIf (ifs : List Expr) (f : FT) : Prop := ∃ t, TrT s.g W0 t f ∧ ∀ y, Fit s y → Takes (s.cx y) W0 → PTs (s.cx y) ifs t
def DSd (e : Expr) : Sd → Prop
  | .v f => DE s e f
  | .n f => DN s e f
end

section
variable {s : SC}
/-! ### expressions -/
theorem de_var (i : Nat) {x : Str} {pos : Pos} (hN : s.N[i]? = some x := by rfl) (hv : Vis s.sc x := by first | exact Or.inl rfl | exact Or.inr (Or.inl rfl) | exact Or.inr (Or.inr rfl))
    (hd : (x == ("__debug__" : Str)) = false := by decide) (hcd : (x == ("__classdict__" : Str)) = false := by decide) : DE s (.Name x pos) (fVar i) :=
  fun W => ⟨_, tr_var i, fun y _ _ => pe_var hN hv hd hcd⟩
theorem da_b (i : Nat) {x : Str} {pos : Pos} (hN : s.N[i]? = some x := by rfl) (hv : Vis s.sc x := by first | exact Or.inl rfl | exact Or.inr (Or.inl rfl) | exact Or.inr (Or.inr rfl))
    (hd : (x == ("__debug__" : Str)) = false := by decide) (hcd : (x == ("__classdict__" : Str)) = false := by decide) : DAg s (.Name x pos) (.b i) :=
  fun W => ⟨tVar i, rfl, fun y _ _ => pe_var hN hv hd hcd⟩
theorem da_e {e : Expr} {f : FE} (h : DE s e f) : DAg s e (.e f) := h
theorem de_int {i j pos} : DE s (.Constant (.int i) j pos) (fC (.int i)) := fun W => ⟨_, tr_int i, fun y _ _ => pe_int⟩
theorem de_bl {i j pos} : DE s (.Constant (.bool i) j pos) (fC (.bl i)) := fun W => ⟨_, tr_bl i, fun y _ _ => pe_bl⟩
theorem de_non {j pos} : DE s (.Constant .none j pos) (fC .non) := fun W => ⟨_, tr_non, fun y _ _ => pe_non⟩
theorem de_str {x j pos} : DE s (.Constant (.str x) j pos) (fC (.str x)) := fun W => ⟨_, tr_str x, fun y _ _ => pe_str⟩
/-- a module's constant -/
theorem de_gi {x : Str} {n : Int} {t : Tok} {pos : Pos} (hm : s.mg x = some (.int n t)) (hg : s.sc.names.lookup x = some .globalImplicit := by rfl) (hd : (x == ("__debug__" : Str)) = false := by decide) : DE s (.Name x pos) (fC (.int n)) :=
  fun W => ⟨_, tr_int n, fun y _ _ => pe_glob hg hm ⟨_, rfl⟩ hd⟩
theorem de_gs {x : Str} {n : Str} {t : Tok} {pos : Pos} (hm : s.mg x = some (.str n t)) (hg : s.sc.names.lookup x = some .globalImplicit := by rfl) (hd : (x == ("__debug__" : Str)) = false := by decide) : DE s (.Name x pos) (fC (.str n)) :=
  fun W => ⟨_, tr_str n, fun y _ _ => pe_glob hg hm ⟨_, rfl⟩ hd⟩
theorem de_go {x : Str} {a : Addr} {pos : Pos} (hm : s.mg x = some (.ref a)) (hg : s.sc.names.lookup x = some .globalImplicit := by rfl) (hd : (x == ("__debug__" : Str)) = false := by decide) : DE s (.Name x pos) (fC (.opq (.ref a))) :=
  fun W => ⟨_, tr_opq _, fun y _ _ => pe_glob hg hm rfl hd⟩
/-- a built-in class as a value -/
theorem de_ty {x : Str} {T : String} {pos : Pos} (hm : s.mg x = none) (hv : bootBuiltins x = some (.type T)) (hg : s.sc.names.lookup x = some .globalImplicit := by rfl) (hn : x ≠ "__name__" := by decide) (hd : (x == ("__debug__" : Str)) = false := by decide) : DE s (.Name x pos) (fC (.opq (.ty T))) :=
  fun W => ⟨_, tr_opq _, fun y _ _ => pe_bltn hg hm hv rfl hn hd⟩
theorem DN.e {e : Expr} {f : FE} (h : DN s e f) : DE s e f := fun W => let ⟨t, h1, h2⟩ := h W; ⟨t, h1.e, h2⟩
theorem da_nil : DA s [] [] := fun W => ⟨_, tra_nil, fun y _ _ => pa_nil⟩
theorem da_cons {e : Expr} {es : List Expr} {a : Ag} {as : List Ag} (ha : DAg s e a) (hr : DA s es as) (hs : ∀ env, starEach (e :: es) env = (false, eval e env) :: starEach es env := by intro _; rfl) : DA s (e :: es) (a :: as) := fun W =>
  let ⟨t, h1, h2⟩ := ha W; let ⟨u, q1, q2⟩ := hr W
  ⟨_, tra_cons h1 q1, fun y i k => pa_cons (h2 y i k) (q2 y i k) (hs _)⟩
/-- an operator -/
theorem de_bin {op : Operator} {r : R2} {b : List D → Option D} {x z : Expr} {a c : Ag} {pos : Pos} (ho : ∀ y, OpR (s.cx y) (binaryOp op) r) (hb : BiOk s.K (r2 r) b) (h1 : DAg s x a) (h2 : DAg s z c) : DE s (.BinOp x op z pos) (fApp b [a, c]) := fun W =>
  let ⟨t, q1, q2⟩ := h1 W; let ⟨u, q3, q4⟩ := h2 W
  ⟨_, tr_op hb q1 q3, fun y i k => pe_op (ho y) (q2 y i k) (q4 y i k)⟩
section
variable {x z : Expr} {a c : Ag} {pos : Pos} (h1 : DAg s x a) (h2 : DAg s z c)
include h1 h2
theorem de_add : DE s (.BinOp x .Add z pos) (fApp addB [a, c]) := de_bin (fun y => op_addD) bi_add h1 h2
theorem de_sub : DE s (.BinOp x .Sub z pos) (fApp subB [a, c]) := de_bin (fun y => op_sub) bi_sub h1 h2
theorem de_mul : DE s (.BinOp x .Mult z pos) (fApp mulB [a, c]) := de_bin (fun y => op_mulD) bi_mul h1 h2
theorem de_div : DE s (.BinOp x .FloorDiv z pos) (fApp divB [a, c]) := de_bin (fun y => op_divD) bi_div h1 h2
theorem de_mod : DE s (.BinOp x .Mod z pos) (fApp modB [a, c]) := de_bin (fun y => op_modN) bi_mod h1 h2
theorem de_pow : DE s (.BinOp x .Pow z pos) (fApp powB [a, c]) := de_bin (fun y => op_pow) bi_pow h1 h2
theorem dn_add : DN s (.BinOp x .Add z pos) (fApp addL [a, c]) := fun W =>
  let ⟨t, q1, q2⟩ := h1 W; let ⟨u, q3, q4⟩ := h2 W
  ⟨tOp (addR s.K) t u, fun C ρ σ H Q j p => trn_app bn_add (tra_cons q1 (tra_cons q3 tra_nil)) C ρ σ H Q j p, fun y i k => pe_op op_addD (q2 y i k) (q4 y i k)⟩
theorem dn_mul : DN s (.BinOp x .Mult z pos) (fApp mulL [a, c]) := fun W =>
  let ⟨t, q1, q2⟩ := h1 W; let ⟨u, q3, q4⟩ := h2 W
  ⟨tOp (mulR s.K) t u, fun C ρ σ H Q j p => trn_app bn_mul (tra_cons q1 (tra_cons q3 tra_nil)) C ρ σ H Q j p, fun y i k => pe_op op_mulD (q2 y i k) (q4 y i k)⟩
end
theorem de_neg {x : Expr} {a : Ag} {pos : Pos} (h : DAg s x a) : DE s (.UnaryOp .USub x pos) (fApp negB [a]) := fun W =>
  let ⟨t, q1, q2⟩ := h W
  ⟨_, tr_un bi_neg q1, fun y i k => pe_un un_neg (q2 y i k)⟩
/-- one comparison, as a value -/
theorem de_cmp {op : CmpOp} {r : R2} {b : List D → Option D} {x z : Expr} {a c : Ag} {pos : Pos} (ho : ∀ y, Fit s y → OpR (s.cx y) (compareOp op) r) (hb : BiOk s.K (r2 r) b) (hm : behindInMarks op z = false) (h1 : DAg s x a) (h2 : DAg s z c) : DE s (.Compare x [op] [z] pos) (fApp b [a, c]) := fun W =>
  let ⟨t, q1, q2⟩ := h1 W; let ⟨u, q3, q4⟩ := h2 W
  ⟨_, tr_op hb q1 q3, fun y i k => pe_cmpR (ho y i) (q2 y i k) (q4 y i k) hm⟩
section
variable {x z : Expr} {a c : Ag} {pos : Pos} (h1 : DAg s x a) (h2 : DAg s z c)
include h1 h2
theorem de_lt : DE s (.Compare x [.Lt] [z] pos) (fApp (cmpB fun i j => decide (i < j)) [a, c]) := de_cmp (fun y _ => op_lt) bi_cmp (nomark _) h1 h2
theorem de_le : DE s (.Compare x [.LtE] [z] pos) (fApp (cmpB fun i j => decide (i ≤ j)) [a, c]) := de_cmp (fun y _ => op_le) bi_cmp (nomark _) h1 h2
theorem de_gt : DE s (.Compare x [.Gt] [z] pos) (fApp (cmpB fun i j => decide (j < i)) [a, c]) := de_cmp (fun y _ => op_gt) bi_cmp (nomark _) h1 h2
theorem de_ge : DE s (.Compare x [.GtE] [z] pos) (fApp (cmpB fun i j => decide (j ≤ i)) [a, c]) := de_cmp (fun y _ => op_ge) bi_cmp (nomark _) h1 h2
theorem de_eq : DE s (.Compare x [.Eq] [z] pos) (fApp (eqD false) [a, c]) := de_cmp (fun y i => op_eq.or (op_eqD (X := s.cx y) i.un)) bi_eq (nomark _) h1 h2
theorem de_ne : DE s (.Compare x [.NotEq] [z] pos) (fApp (eqD true) [a, c]) := de_cmp (fun y i => op_ne.or (op_neD (X := s.cx y) i.un)) bi_ne (nomark _) h1 h2
theorem de_is : DE s (.Compare x [.Is] [z] pos) (fApp (isNB false) [a, c]) := de_cmp (fun y _ => op_isN) bi_isN (nomark _) h1 h2
theorem de_isnot : DE s (.Compare x [.IsNot] [z] pos) (fApp (isNB true) [a, c]) := de_cmp (fun y _ => op_notN) bi_notN (nomark _) h1 h2
theorem de_in (hm : behindInMarks .In z = false := by rfl) : DE s (.Compare x [.In] [z] pos) (fApp (inB false) [a, c]) := de_cmp (fun y _ => op_in_seq) bi_in hm h1 h2
theorem de_notin (hm : behindInMarks .NotIn z = false := by rfl) : DE s (.Compare x [.NotIn] [z] pos) (fApp (inB true) [a, c]) := de_cmp (fun y _ => op_notIn_seq) bi_in hm h1 h2
end
/-- a < b < c: the rules of both, told apart -/
theorem de_chain {op op' : CmpOp} {r r' : R2} {b b' : List D → Option D} {x y z : Expr} {f1 f2 f3 : FE} {pos : Pos} (ho : ∀ v, OpR (s.cx v) (compareOp op) r) (ho' : ∀ v, OpR (s.cx v) (compareOp op') r') (hb : BiOk s.K (r2 r) b) (hb' : BiOk s.K (r2 r') b')
    (h1 : DE s x f1) (h2 : DE s y f2) (h3 : DE s z f3) (hm : lastMarks [op, op'] [y, z] = false := by with_unfolding_all rfl) : DE s (.Compare x [op, op'] [y, z] pos) (fChain b b' f1 f2 f3) := fun W =>
  let ⟨t1, q1, p1⟩ := h1 W; let ⟨t2, q2, p2⟩ := h2 W; let ⟨t3, q3, p3⟩ := h3 W
  ⟨_, tr_chain hb hb' q1 q2 q3, fun v i k => pe_chain (ho v) (ho' v) (p1 v i k) (p2 v i k) (p3 v i k) hm⟩
def cLt := cmpB fun i j => decide (i < j)
def cLe := cmpB fun i j => decide (i ≤ j)
section
variable {x y z : Expr} {f1 f2 f3 : FE} {pos : Pos} (h1 : DE s x f1) (h2 : DE s y f2) (h3 : DE s z f3)
include h1 h2 h3
theorem de_lele (hm : lastMarks [.LtE, .LtE] [y, z] = false := by with_unfolding_all rfl) : DE s (.Compare x [.LtE, .LtE] [y, z] pos) (fChain cLe cLe f1 f2 f3) := de_chain (fun _ => op_le) (fun _ => op_le) bi_cmp bi_cmp h1 h2 h3 hm
theorem de_lelt (hm : lastMarks [.LtE, .Lt] [y, z] = false := by with_unfolding_all rfl) : DE s (.Compare x [.LtE, .Lt] [y, z] pos) (fChain cLe cLt f1 f2 f3) := de_chain (fun _ => op_le) (fun _ => op_lt) bi_cmp bi_cmp h1 h2 h3 hm
theorem de_ltle (hm : lastMarks [.Lt, .LtE] [y, z] = false := by with_unfolding_all rfl) : DE s (.Compare x [.Lt, .LtE] [y, z] pos) (fChain cLt cLe f1 f2 f3) := de_chain (fun _ => op_lt) (fun _ => op_le) bi_cmp bi_cmp h1 h2 h3 hm
theorem de_ltlt (hm : lastMarks [.Lt, .Lt] [y, z] = false := by with_unfolding_all rfl) : DE s (.Compare x [.Lt, .Lt] [y, z] pos) (fChain cLt cLt f1 f2 f3) := de_chain (fun _ => op_lt) (fun _ => op_lt) bi_cmp bi_cmp h1 h2 h3 hm
end
/-! ### tests -/
theorem dt_val {e : Expr} {f : FE} (h : DE s e f) (he : ∀ env whole, isTrue e env whole = (do let v ← whole; standAt e.pos; holding [v] (truthy v)) := by intro _ _; rfl) : DT s e (fT f) := fun W =>
  let ⟨t, q1, q2⟩ := h W
  ⟨_, tr_tB q1, fun y i k => pt_val (q2 y i k) (he _)⟩
theorem dt_cmp {op : CmpOp} {r : R2} {b : List D → Option D} {x z : Expr} {a c : Ag} {pos : Pos} (ho : ∀ y, Fit s y → OpR (s.cx y) (compareOp op) r) (hb : BiOk s.K (r2 r) b) (hm : behindInMarks op z = false) (h1 : DAg s x a) (h2 : DAg s z c) : DT s (.Compare x [op] [z] pos) (fT (fApp b [a, c])) := fun W =>
  let ⟨t, q1, q2⟩ := h1 W; let ⟨u, q3, q4⟩ := h2 W
  ⟨_, tr_tTest (tr_op hb q1 q3), fun y i k => pt_cmpR (ho y i) (q2 y i k) (q4 y i k) hm⟩
section
variable {x z : Expr} {a c : Ag} {pos : Pos} (h1 : DAg s x a) (h2 : DAg s z c)
include h1 h2
theorem dt_lt : DT s (.Compare x [.Lt] [z] pos) (fT (fApp (cmpB fun i j => decide (i < j)) [a, c])) := dt_cmp (fun y _ => op_lt) bi_cmp (nomark _) h1 h2
theorem dt_le : DT s (.Compare x [.LtE] [z] pos) (fT (fApp (cmpB fun i j => decide (i ≤ j)) [a, c])) := dt_cmp (fun y _ => op_le) bi_cmp (nomark _) h1 h2
theorem dt_gt : DT s (.Compare x [.Gt] [z] pos) (fT (fApp (cmpB fun i j => decide (j < i)) [a, c])) := dt_cmp (fun y _ => op_gt) bi_cmp (nomark _) h1 h2
theorem dt_ge : DT s (.Compare x [.GtE] [z] pos) (fT (fApp (cmpB fun i j => decide (j ≤ i)) [a, c])) := dt_cmp (fun y _ => op_ge) bi_cmp (nomark _) h1 h2
theorem dt_eq : DT s (.Compare x [.Eq] [z] pos) (fT (fApp (eqD false) [a, c])) := dt_cmp (fun y i => op_eq.or (op_eqD (X := s.cx y) i.un)) bi_eq (nomark _) h1 h2
theorem dt_ne : DT s (.Compare x [.NotEq] [z] pos) (fT (fApp (eqD true) [a, c])) := dt_cmp (fun y i => op_ne.or (op_neD (X := s.cx y) i.un)) bi_ne (nomark _) h1 h2
theorem dt_is : DT s (.Compare x [.Is] [z] pos) (fT (fApp (isNB false) [a, c])) := dt_cmp (fun y _ => op_isN) bi_isN (nomark _) h1 h2
theorem dt_isnot : DT s (.Compare x [.IsNot] [z] pos) (fT (fApp (isNB true) [a, c])) := dt_cmp (fun y _ => op_notN) bi_notN (nomark _) h1 h2
theorem dt_in (hm : behindInMarks .In z = false := by rfl) : DT s (.Compare x [.In] [z] pos) (fT (fApp (inB false) [a, c])) := dt_cmp (fun y _ => op_in_seq) bi_in hm h1 h2
theorem dt_notin (hm : behindInMarks .NotIn z = false := by rfl) : DT s (.Compare x [.NotIn] [z] pos) (fT (fApp (inB true) [a, c])) := dt_cmp (fun y _ => op_notIn_seq) bi_in hm h1 h2
end
theorem dt_chain {op op' : CmpOp} {r r' : R2} {b b' : List D → Option D} {x y z : Expr} {f1 f2 f3 : FE} {pos : Pos} (ho : ∀ v, OpR (s.cx v) (compareOp op) r) (ho' : ∀ v, OpR (s.cx v) (compareOp op') r') (hb : BiOk s.K (r2 r) b) (hb' : BiOk s.K (r2 r') b')
    (h1 : DE s x f1) (h2 : DE s y f2) (h3 : DE s z f3) (hm : lastMarks [op, op'] [y, z] = false := by with_unfolding_all rfl) : DT s (.Compare x [op, op'] [y, z] pos) (fT (fChain b b' f1 f2 f3)) := fun W =>
  let ⟨t1, q1, p1⟩ := h1 W; let ⟨t2, q2, p2⟩ := h2 W; let ⟨t3, q3, p3⟩ := h3 W
  ⟨_, tr_tTest (tr_chain hb hb' q1 q2 q3), fun v i k => pt_chain (ho v) (ho' v) (p1 v i k) (p2 v i k) (p3 v i k) hm⟩
section
variable {x y z : Expr} {f1 f2 f3 : FE} {pos : Pos} (h1 : DE s x f1) (h2 : DE s y f2) (h3 : DE s z f3)
include h1 h2 h3
theorem dt_lele (hm : lastMarks [.LtE, .LtE] [y, z] = false := by with_unfolding_all rfl) : DT s (.Compare x [.LtE, .LtE] [y, z] pos) (fT (fChain cLe cLe f1 f2 f3)) := dt_chain (fun _ => op_le) (fun _ => op_le) bi_cmp bi_cmp h1 h2 h3 hm
theorem dt_lelt (hm : lastMarks [.LtE, .Lt] [y, z] = false := by with_unfolding_all rfl) : DT s (.Compare x [.LtE, .Lt] [y, z] pos) (fT (fChain cLe cLt f1 f2 f3)) := dt_chain (fun _ => op_le) (fun _ => op_lt) bi_cmp bi_cmp h1 h2 h3 hm
theorem dt_ltle (hm : lastMarks [.Lt, .LtE] [y, z] = false := by with_unfolding_all rfl) : DT s (.Compare x [.Lt, .LtE] [y, z] pos) (fT (fChain cLt cLe f1 f2 f3)) := dt_chain (fun _ => op_lt) (fun _ => op_le) bi_cmp bi_cmp h1 h2 h3 hm
theorem dt_ltlt (hm : lastMarks [.Lt, .Lt] [y, z] = false := by with_unfolding_all rfl) : DT s (.Compare x [.Lt, .Lt] [y, z] pos) (fT (fChain cLt cLt f1 f2 f3)) := dt_chain (fun _ => op_lt) (fun _ => op_lt) bi_cmp bi_cmp h1 h2 h3 hm
end
theorem dt_not {e : Expr} {f : FT} {pos : Pos} (h : DT s e f) : DT s (.UnaryOp .Not e pos) (fNot f) := fun W =>
  let ⟨t, q1, q2⟩ := h W
  ⟨_, tr_not q1, fun y i k => pt_not (q2 y i k)⟩
theorem DW.t {e : Expr} {f : FT} (h : DW s e f) : DT s e f := fun W => let ⟨t, q1, q2⟩ := h W; ⟨t, q1, fun y i k => (q2 y i k).pt⟩
theorem dw_and1 {e : Expr} {f : FT} {pos : Pos} (h : DT s e f) : DW s (.BoolOp .And [e] pos) f := fun W => let ⟨t, q1, q2⟩ := h W; ⟨t, q1, fun y i k => pw_and1 (q2 y i k)⟩
theorem dw_or1 {e : Expr} {f : FT} {pos : Pos} (h : DT s e f) : DW s (.BoolOp .Or [e] pos) f := fun W => let ⟨t, q1, q2⟩ := h W; ⟨t, q1, fun y i k => pw_or1 (q2 y i k)⟩
theorem dw_and {e e2 : Expr} {r : List Expr} {f f' : FT} {pos : Pos} (h : DT s e f) (h' : DW s (.BoolOp .And (e2 :: r) pos) f') : DW s (.BoolOp .And (e :: e2 :: r) pos) (fAnd f f') := fun W =>
  let ⟨t, q1, q2⟩ := h W; let ⟨u, q3, q4⟩ := h' W
  ⟨_, tr_and q1 q3, fun y i k => pw_and (q2 y i k) (q4 y i k)⟩
theorem dw_or {e e2 : Expr} {r : List Expr} {f f' : FT} {pos : Pos} (h : DT s e f) (h' : DW s (.BoolOp .Or (e2 :: r) pos) f') : DW s (.BoolOp .Or (e :: e2 :: r) pos) (fOr f f') := fun W =>
  let ⟨t, q1, q2⟩ := h W; let ⟨u, q3, q4⟩ := h' W
  ⟨_, tr_or q1 q3, fun y i k => pw_or (q2 y i k) (q4 y i k)⟩
/-- .. as values -/
theorem de_one {op : BoolOp} {e : Expr} {f : FE} {pos : Pos} (h : DE s e f) : DE s (.BoolOp op [e] pos) f := fun W => let ⟨t, q1, q2⟩ := h W; ⟨t, q1, fun y i k => pe_one (q2 y i k)⟩
theorem de_and {e e2 : Expr} {r : List Expr} {f f' : FE} {pos : Pos} (h : DE s e f) (h' : DE s (.BoolOp .And (e2 :: r) pos) f') : DE s (.BoolOp .And (e :: e2 :: r) pos) (fAndV f f') := fun W =>
  let ⟨t, q1, q2⟩ := h W; let ⟨u, q3, q4⟩ := h' W
  ⟨_, tr_andV q1 q3, fun y i k => pe_and (q2 y i k) (q4 y i k)⟩
theorem de_or {e e2 : Expr} {r : List Expr} {f f' : FE} {pos : Pos} (h : DE s e f) (h' : DE s (.BoolOp .Or (e2 :: r) pos) f') : DE s (.BoolOp .Or (e :: e2 :: r) pos) (fOrV f f') := fun W =>
  let ⟨t, q1, q2⟩ := h W; let ⟨u, q3, q4⟩ := h' W
  ⟨_, tr_orV q1 q3, fun y i k => pe_or (q2 y i k) (q4 y i k)⟩
theorem de_not {e : Expr} {f : FE} {pos : Pos} (h : DE s e f) : DE s (.UnaryOp .Not e pos) (fNotV f) := fun W =>
  let ⟨t, q1, q2⟩ := h W
  ⟨_, tr_notV q1, fun y i k => pe_not (q2 y i k)⟩
theorem de_if {c e e2 : Expr} {k : FT} {f f' : FE} {pos : Pos} (hc : DT s c k) (h : DE s e f) (h' : DE s e2 f') : DE s (.IfExp c e e2 pos) (fIf k f f') := fun W =>
  let ⟨t0, q5, q6⟩ := hc W; let ⟨t, q1, q2⟩ := h W; let ⟨u, q3, q4⟩ := h' W
  ⟨_, tr_if q5 q1 q3, fun y i k => pe_ifExp (q6 y i k) (q2 y i k) (q4 y i k)⟩
/-! ### items, slices, displays -/
theorem de_ix {x z : Expr} {a c : Ag} {pos : Pos} (h1 : DAg s x a) (h2 : DAg s z c) (hp : PlainIx z := by exact fun _ _ => rfl) : DE s (.Subscript x z pos) (fApp ixB [a, c]) := fun W =>
  let ⟨t, q1, q2⟩ := h1 W; let ⟨u, q3, q4⟩ := h2 W
  ⟨_, tr_op bi_ix q1 q3, fun y i k => pe_ix ix_seq (q2 y i k) (q4 y i k) hp⟩
theorem do_no : DO s none oNo := fun W => ⟨_, tro_no, fun y _ _ => po_none⟩
theorem do_ex {e : Expr} {f : FE} (h : DE s e f) : DO s (some e) (oEx f) := fun W => let ⟨t, q1, q2⟩ := h W; ⟨_, tro_ex q1, fun y i k => po_some (q2 y i k)⟩
theorem de_sl {e : Expr} {l u : Option Expr} {f : FE} {lo hi : Sl → RE (Option Int)} {p2 pos : Pos} (h : DE s e f) (hl : DO s l lo) (hh : DO s u hi) : DE s (.Subscript e (.Slice l u none p2) pos) (fSl slB f lo hi) := fun W =>
  let ⟨t, q1, q2⟩ := h W; let ⟨t1, q3, q4⟩ := hl W; let ⟨t2, q5, q6⟩ := hh W
  ⟨_, tr_sl so_D q1 q3 q5, fun y i k => pe_slice sl_D (q2 y i k) (q4 y i k) (q6 y i k)⟩
theorem dn_sl {e : Expr} {l u : Option Expr} {f : FE} {lo hi : Sl → RE (Option Int)} {p2 pos : Pos} (h : DE s e f) (hl : DO s l lo) (hh : DO s u hi) : DN s (.Subscript e (.Slice l u none p2) pos) (fSl slN f lo hi) := fun W =>
  let ⟨t, q1, q2⟩ := h W; let ⟨t1, q3, q4⟩ := hl W; let ⟨t2, q5, q6⟩ := hh W
  ⟨_, trn_sl sn_D q1 q3 q5, fun y i k => pe_slice sl_D (q2 y i k) (q4 y i k) (q6 y i k)⟩
theorem de_slV (i : Nat) {x : Str} {l u : Option Expr} {lo hi : Sl → RE (Option Int)} {p1 p2 pos : Pos} (hl : DO s l lo) (hh : DO s u hi) (hN : s.N[i]? = some x := by rfl) (hv : Vis s.sc x := by first | exact Or.inl rfl | exact Or.inr (Or.inl rfl) | exact Or.inr (Or.inr rfl))
    (hd : (x == ("__debug__" : Str)) = false := by decide) (hcd : (x == ("__classdict__" : Str)) = false := by decide) : DE s (.Subscript (.Name x p1) (.Slice l u none p2) pos) (fSlV slB i lo hi) := fun W =>
  let ⟨t1, q3, q4⟩ := hl W; let ⟨t2, q5, q6⟩ := hh W
  ⟨_, tr_slV so_D q3 q5, fun y fi k => pe_slice sl_D (pe_var hN hv hd hcd) (q4 y fi k) (q6 y fi k)⟩
theorem de_tup {es : List Expr} {as : List Ag} {x1 pos} (h : DA s es as) (hb : bsOf as = [] := by rfl) : DE s (.Tuple es x1 pos) (fApp tupB as) := fun W =>
  let ⟨t, q1, q2⟩ := h W
  ⟨_, tr_tup hb q1, fun y i k => pe_tup (q2 y i k)⟩
theorem dn_lst {es : List Expr} {as : List Ag} {pos} (h : DA s es as) (hb : bsOf as = [] := by rfl) : DN s (.List es pos) (fApp lstB as) := fun W =>
  let ⟨t, q1, q2⟩ := h W
  ⟨_, trn_lst hb q1, fun y i k => pe_lst (q2 y i k)⟩
/-! ### built-ins -/
theorem de_blt {x : Str} {id : String} {r : List V → Hp → VK → Prop} {b : List D → Option D} {e : Expr} {es : List Expr} {as : List Ag} {p pos : Pos} (hc : ∀ y, CallR (s.cx y) (.builtin id) r) (hb : BiOk s.K r b) (hm : s.mg x = none) (hv : bootBuiltins x = some (.builtin id)) (ha : DA s (e :: es) as) (hg : s.sc.names.lookup x = some .globalImplicit := by rfl)
    (hn : x ≠ "__name__" := by decide) (hdb : (x == ("__debug__" : Str)) = false := by decide) (he : ∀ env, starEach (e :: es) env = (false, eval e env) :: starEach es env := by intro _; rfl) (hpl : ∀ env, (backTo pos (starEach es env)).any (·.1) = false := by intro _; rfl) : DE s (.Call (.Name x p) (e :: es) [] pos) (fApp b as) := fun W =>
  let ⟨t, q1, q2⟩ := ha W
  ⟨_, tr_app hb q1, fun y i k => pe_callB (hc y) hg hm hv (q2 y i k) hn hdb (he _) (hpl _)⟩
theorem de_bty {x : Str} {T : String} {r : List V → Hp → VK → Prop} {b : List D → Option D} {e : Expr} {es : List Expr} {as : List Ag} {p pos : Pos} (hc : ∀ y, CallR (s.cx y) (.type T) r) (hb : BiOk s.K r b) (hm : s.mg x = none) (hv : bootBuiltins x = some (.type T)) (ha : DA s (e :: es) as) (hg : s.sc.names.lookup x = some .globalImplicit := by rfl)
    (hn : x ≠ "__name__" := by decide) (hdb : (x == ("__debug__" : Str)) = false := by decide) (he : ∀ env, starEach (e :: es) env = (false, eval e env) :: starEach es env := by intro _; rfl) (hpl : ∀ env, (backTo pos (starEach es env)).any (·.1) = false := by intro _; rfl) : DE s (.Call (.Name x p) (e :: es) [] pos) (fApp b as) := fun W =>
  let ⟨t, q1, q2⟩ := ha W
  ⟨_, tr_app hb q1, fun y i k => pe_callTy (hc y) hg hm hv (q2 y i k) hn hdb (he _) (hpl _)⟩
theorem dn_blt {x : Str} {id : String} {r : List V → Hp → VK → Prop} {b : List D → Option D} {e : Expr} {es : List Expr} {as : List Ag} {p pos : Pos} (hc : ∀ y, CallR (s.cx y) (.builtin id) r) (hb : BnOk s.K r b) (hm : s.mg x = none) (hv : bootBuiltins x = some (.builtin id)) (ha : DA s (e :: es) as) (hg : s.sc.names.lookup x = some .globalImplicit := by rfl)
    (hn : x ≠ "__name__" := by decide) (hdb : (x == ("__debug__" : Str)) = false := by decide) (he : ∀ env, starEach (e :: es) env = (false, eval e env) :: starEach es env := by intro _; rfl) (hpl : ∀ env, (backTo pos (starEach es env)).any (·.1) = false := by intro _; rfl) : DN s (.Call (.Name x p) (e :: es) [] pos) (fApp b as) := fun W =>
  let ⟨t, q1, q2⟩ := ha W
  ⟨_, trn_app hb q1, fun y i k => pe_callB (hc y) hg hm hv (q2 y i k) hn hdb (he _) (hpl _)⟩
theorem dn_bty {x : Str} {T : String} {r : List V → Hp → VK → Prop} {b : List D → Option D} {e : Expr} {es : List Expr} {as : List Ag} {p pos : Pos} (hc : ∀ y, CallR (s.cx y) (.type T) r) (hb : BnOk s.K r b) (hm : s.mg x = none) (hv : bootBuiltins x = some (.type T)) (ha : DA s (e :: es) as) (hg : s.sc.names.lookup x = some .globalImplicit := by rfl)
    (hn : x ≠ "__name__" := by decide) (hdb : (x == ("__debug__" : Str)) = false := by decide) (he : ∀ env, starEach (e :: es) env = (false, eval e env) :: starEach es env := by intro _; rfl) (hpl : ∀ env, (backTo pos (starEach es env)).any (·.1) = false := by intro _; rfl) : DN s (.Call (.Name x p) (e :: es) [] pos) (fApp b as) := fun W =>
  let ⟨t, q1, q2⟩ := ha W
  ⟨_, trn_app hb q1, fun y i k => pe_callTy (hc y) hg hm hv (q2 y i k) hn hdb (he _) (hpl _)⟩
/-! ### calls of defs -/
theorem de_call {x : Str} {ps : List Str} {k n : Nat} {F : List D → RF} {e : Expr} {es : List Expr} {as : List Ag} {p pos : Pos} (C : Cal s.P s.w s.K s.mg s.base x k ps (spP s.K s.mg n F))
    (ha : DA s (e :: es) as) (hn : as.length = n := by rfl) (hkk : k ≤ s.k := by exact Nat.le_of_ble_eq_true rfl) (hc : s.calm = true := by rfl) (hg : s.sc.names.lookup x = some .globalImplicit := by rfl) (hdb : (x == ("__debug__" : Str)) = false := by decide)
    (he : ∀ env, starEach (e :: es) env = (false, eval e env) :: starEach es env := by intro _; rfl) (hpl : ∀ env, (backTo pos (starEach es env)).any (·.1) = false := by intro _; rfl) : DE s (.Call (.Name x p) (e :: es) [] pos) (fCall F as) := fun W =>
  let ⟨t, q1, q2⟩ := ha W; let ⟨_, _, G, hm, hk, hb⟩ := C
  ⟨_, tr_call q1 n hn, fun y i kk => pe_callG G i.gd ((i.room.resolve_right (by rw [hc]; decide)).mono hkk) hg hm hk hb (fun σ => passAt kk σ) (q2 y i kk) hdb (he _) (hpl _)⟩
theorem de_callR {x z : Str} {ps : List Str} {k n : Nat} {F : List D → List D → RG} (i : Nat) {es : List Expr} {as : List Ag} {p p2 pos : Pos} (C : Cal s.P s.w s.K s.mg s.base x k ps (spR s.K s.mg n F))
    (ha : DA s es as) (hbs : bsOf as = [] := by rfl) (hn : as.length + 1 = n := by rfl) (hkk : k ≤ s.k := by exact Nat.le_of_ble_eq_true rfl) (hc : s.calm = true := by rfl) (hN : s.N[i]? = some z := by rfl) (hv : Vis s.sc z := by first | exact Or.inl rfl | exact Or.inr (Or.inl rfl) | exact Or.inr (Or.inr rfl)) (hg : s.sc.names.lookup x = some .globalImplicit := by rfl) (hdb : (x == ("__debug__" : Str)) = false := by decide)
    (hdz : (z == ("__debug__" : Str)) = false := by decide) (hcz : (z == ("__classdict__" : Str)) = false := by decide)
    (he : ∀ env, starEach (.Name z p2 :: es) env = (false, eval (.Name z p2) env) :: starEach es env := by intro _; rfl) (hpl : ∀ env, (backTo pos (starEach es env)).any (·.1) = false := by intro _; rfl) : DE s (.Call (.Name x p) (.Name z p2 :: es) [] pos) (fCallR F i as) := fun W =>
  let ⟨t, q1, q2⟩ := ha W; let ⟨_, _, G, hm, hk, hb⟩ := C
  ⟨_, tr_callR q1 hbs n hn evA_len, fun y fi kk => pe_callG G fi.gd ((fi.room.resolve_right (by rw [hc]; decide)).mono hkk) hg hm hk hb (fun σ => passAt kk σ) (pa_cons (pe_var hN hv hdz hcz) (q2 y fi kk) (he _)) hdb (he _) (hpl _)⟩
/-! ### statements -/
theorem ds_nil : DSs s [] sNext := fun W => ⟨_, trs_next, fun y _ _ => pss_nil⟩
theorem ds_one {st : Stmt} {f : FS} (h : DS s st f) : DSs s [st] f := fun W => let ⟨t, q1, q2⟩ := h W; ⟨t, q1, fun y i k => pss_one (q2 y i k)⟩
theorem ds_cons {st : Stmt} {r : List Stmt} {f f' : FS} (h : DS s st f) (h' : DSs s r f') : DSs s (st :: r) (sSeq f f') := fun W =>
  let ⟨t, q1, q2⟩ := h W; let ⟨u, q3, q4⟩ := h' W
  ⟨_, trs_seq q1 q3, fun y i k => pss_cons (q2 y i k) (q4 y i k)⟩
theorem ds_pass {pos} : DS s (.Pass pos) sNext := fun W => ⟨_, trs_next, fun y _ _ => ps_pass⟩
theorem ds_break {pos} : DS s (.Break pos) sBreak := fun W => ⟨_, trs_break, fun y _ _ => ps_break⟩
theorem ds_cont {pos} : DS s (.Continue pos) sCont := fun W => ⟨_, trs_cont, fun y _ _ => ps_continue⟩
theorem ds_ret {e : Expr} {f : FE} {pos} (h : DE s e f) : DS s (.Return (some e) pos) (sRet f) := fun W => let ⟨t, q1, q2⟩ := h W; ⟨_, trs_ret q1, fun y i k => ps_ret (q2 y i k)⟩
theorem ds_retN {pos} : DS s (.Return none pos) sRetN := fun W => ⟨_, trs_retN, fun y _ _ => ps_retN⟩
theorem ds_expr {e : Expr} {f : FE} {pos : Pos} (h : DE s e f) (hs : ∀ env, swapsWith e none pos.line env = pure false := by intro _; rfl) : DS s (.Expr e pos) (sExpr f) := fun W => let ⟨t, q1, q2⟩ := h W; ⟨_, trs_expr q1, fun y i k => ps_expr (q2 y i k) (hs _)⟩
theorem ds_if {c : Expr} {a b : List Stmt} {k : FT} {f f' : FS} {pos} (hc : DT s c k) (h : DSs s a f) (h' : DSs s b f') : DS s (.If c a b pos) (sIf k f f') := fun W =>
  let ⟨t0, q5, q6⟩ := hc W; let ⟨t, q1, q2⟩ := h W; let ⟨u, q3, q4⟩ := h' W
  ⟨_, trs_if q5 q1 q3, fun y i k => ps_if (q6 y i k) (q2 y i k) (q4 y i k)⟩
/-- where a name is stored -/
structure St1 (s : SC) (i : Nat) (x : Str) : Prop where
  nd : s.N.Nodup
  ix : s.N[i]? = some x
  lc : s.sc.names.lookup x = some .local ∨ (s.sc.names.lookup x = some .cell ∧ (s.top = true ∨ ∃ r, s.raw = some r ∧ r.names.lookup x = some .cell))
  m : s.m = false ∨ i ≠ 0
theorem St1.loc {i : Nat} {x : Str} (h : St1 s i x) : Loc s.sc x := h.lc.imp id (·.1)
theorem St1.fn {i : Nat} {x : Str} (h : St1 s i x) {y : Cx} (fi : Fit s y) : (s.cx y).fn x = true ∨ (s.cx y).env.scope.names.lookup x = some .local := h.lc.elim .inr fun z => .inl (z.2.elim (fun t => by rw [fi.fn t]) fun ⟨r, e1, e2⟩ => by rw [fi.fb r e1]; show (r.names.lookup x == some .cell) = true; rw [e2]; rfl)
theorem ds_set {i : Nat} {x : Str} {e : Expr} {f : FE} {pos' pos : Pos} (h1 : St1 s i x) (h : DE s e f) (hs : ∀ env, swapsWith e (some (.Name x pos')) pos.line env = pure false := by intro _; rfl) : DS s (.Assign [.Name x pos'] e pos) (sSet i f) := fun W =>
  let ⟨t, q1, q2⟩ := h W
  ⟨_, trs_set h1.m q1, fun y fi k => ps_set h1.nd h1.ix h1.loc (q2 y fi k) (hs _) (h1.fn fi)⟩
theorem ds_new {i : Nat} {x : Str} {e : Expr} {f : FE} {pos' pos : Pos} (h1 : St1 s i x) (h : DN s e f) (hs : ∀ env, swapsWith e (some (.Name x pos')) pos.line env = pure false := by intro _; rfl) : DS s (.Assign [.Name x pos'] e pos) (sNew i f) := fun W =>
  let ⟨t, q1, q2⟩ := h W
  ⟨_, trs_new h1.m q1, fun y fi k => ps_set h1.nd h1.ix h1.loc (q2 y fi k) (hs _) (h1.fn fi)⟩
theorem ds_aug {op : Operator} {r : R2} {b : List D → Option D} {i : Nat} {x : Str} {e : Expr} {f : FE} {pos' pos : Pos} (h1 : St1 s i x) (ho : ∀ y, OpR (s.cx y) (inplaceOp op) r) (hb : BiOk s.K (r2 r) b) (h : DE s e f) : DS s (.AugAssign (.Name x pos') op e pos) (sAug i b f) := fun W =>
  let ⟨t, q1, q2⟩ := h W
  ⟨_, trs_aug h1.m q1 hb, fun y fi k => ps_aug h1.nd h1.ix h1.loc (q2 y fi k) (fun pins s σ H x y v u Q => ho _ pins s σ H x y v u Q) (h1.fn fi)⟩
theorem ds_par {i k : Nat} {x z : Str} {a b : Expr} {u v : Sd} {px py pt pt2 pos : Pos} {kt k2} (h1 : St1 s i x) (h2 : St1 s k z) (ha : DSd s a u) (hb : DSd s b v)
    (hw : ∀ y, swappedStores [.Tuple [.Name x px, .Name z py] kt pt] (.Tuple [a, b] k2 pt2) (s.cx y).env = pure (some [x, z])) (hik : i ≠ k := by decide) (hx : s.sc.names.lookup x = some .local := by rfl) (hy : s.sc.names.lookup z = some .local := by rfl) (hc : s.calm = true := by rfl)
    (hs : ∀ env, swapsWithSole [.Tuple [.Name x px, .Name z py] kt pt] (.Tuple [a, b] k2 pt2) pos.line env = pure false := by intro _; rfl)
    (s1 : ∀ env, starEach [a, b] env = (false, eval a env) :: starEach [b] env := by intro _; rfl) (s2 : ∀ env, starEach [b] env = (false, eval b env) :: starEach [] env := by intro _; rfl) :
    DS s (.Assign [.Tuple [.Name x px, .Name z py] kt pt] (.Tuple [a, b] k2 pt2) pos) (sPar i k u v) := fun W => by
  obtain ⟨t, q1, q2⟩ : ∃ t, TrSd s.g W t u ∧ ∀ y, Fit s y → Takes (s.cx y) W → PE (s.cx y) a t := by
    cases u with
    | v f => exact ha W
    | n f => exact ha W
  obtain ⟨t', q3, q4⟩ : ∃ t, TrSd s.g W t v ∧ ∀ y, Fit s y → Takes (s.cx y) W → PE (s.cx y) b t := by
    cases v with
    | v f => exact hb W
    | n f => exact hb W
  exact ⟨_, trs_par hik h1.m h2.m q1 q3, fun y fi kk => ps_par hc h1.nd h1.ix h2.ix hik hx hy (pa_cons (q2 y fi kk) (pa_cons (q4 y fi kk) pa_nil (s2 _)) (s1 _)) (hw y) (hs _)⟩
theorem ds_parT {i k : Nat} {x z : Str} {a b : Expr} {u v : Sd} {px py pt pt2 pos : Pos} {kt k2} (h1 : St1 s i x) (h2 : St1 s k z) (ha : DSd s a u) (hb : DSd s b v) (hik : i ≠ k := by decide) (hc : s.calm = true := by rfl)
    (hs : ∀ env, swapsWithSole [.Tuple [.Name x px, .Name z py] kt pt] (.Tuple [a, b] k2 pt2) pos.line env = pure false := by intro _; rfl) (hw : ∀ y, swappedStores [.Tuple [.Name x px, .Name z py] kt pt] (.Tuple [a, b] k2 pt2) (s.cx y).env = pure none := by intro _; rfl)
    (hq : ∀ env, (assignEach [.Tuple [.Name x px, .Name z py] kt pt] env).map (·.2) = [assign (.Tuple [.Name x px, .Name z py] kt pt) env] := by intro _; rfl) (g1 : ∀ env, (assignEach [.Name x px, .Name z py] env).map (·.2) = assign (.Name x px) env :: (assignEach [.Name z py] env).map (·.2) := by intro _; rfl)
    (g2 : ∀ env, (assignEach [.Name z py] env).map (·.2) = assign (.Name z py) env :: (assignEach [] env).map (·.2) := by intro _; rfl) (hn : ∀ env, (assignEach [.Name x px, .Name z py] env).length = 2 := by intro _; rfl) (hst : ∀ env, (assignEach [.Name x px, .Name z py] env).findIdx? (·.1) = none := by intro _; rfl)
    (s1 : ∀ env, starEach [a, b] env = (false, eval a env) :: starEach [b] env := by intro _; rfl) (s2 : ∀ env, starEach [b] env = (false, eval b env) :: starEach [] env := by intro _; rfl) :
    DS s (.Assign [.Tuple [.Name x px, .Name z py] kt pt] (.Tuple [a, b] k2 pt2) pos) (sPar i k u v) := fun W => by
  obtain ⟨t, q1, q2⟩ : ∃ t, TrSd s.g W t u ∧ ∀ y, Fit s y → Takes (s.cx y) W → PE (s.cx y) a t := by
    cases u with
    | v f => exact ha W
    | n f => exact ha W
  obtain ⟨t', q3, q4⟩ : ∃ t, TrSd s.g W t v ∧ ∀ y, Fit s y → Takes (s.cx y) W → PE (s.cx y) b t := by
    cases v with
    | v f => exact hb W
    | n f => exact hb W
  exact ⟨_, trs_parT hik h1.m h2.m q1 q3, fun y fi kk => ps_asg (pe_tup (pa_cons (q2 y fi kk) (pa_cons (q4 y fi kk) pa_nil (s2 _)) (s1 _))) (pg_tup hc (pgs_cons (pg_name h1.nd h1.ix h1.loc (h1.fn fi)) (pgs_cons (pg_name h2.nd h2.ix h2.loc (h2.fn fi)) pgs_nil (g2 _)) (g1 _)) (hn _) (hst _)) (hs _) (hw y) (hq _)⟩
theorem ds_append {i : Nat} {x : Str} {e : Expr} {f : FE} {p1 p2 p3 pos : Pos} (h : DE s e f) (hN : s.N[i]? = some x := by rfl) (hv : Vis s.sc x := by first | exact Or.inl rfl | exact Or.inr (Or.inl rfl) | exact Or.inr (Or.inr rfl)) (hd : (x == ("__debug__" : Str)) = false := by decide) (hcd : (x == ("__classdict__" : Str)) = false := by decide)
    (hf : ∀ env, ((backTo p3 (starEach (e :: []) env)).all (fun x => !x.1) && (backToKw p3 (keywordEach [] env)).all (fun x => x.1.isSome)
      && decide ((e :: []).length + ([] : List Keyword).length + (if ([] : List Keyword).isEmpty then 0 else 1) < 30)) = true := by intro _; rfl) (hs : ∀ env, starEach (e :: []) env = (false, eval e env) :: starEach [] env := by intro _; rfl) (hl : (p2.endLine == p3.line) = true := by rfl) : DS s (.Expr (.Call (.Attribute (.Name x p1) "append" p2) [e] [] p3) pos) (sAppend i f) := fun W =>
  let ⟨t, q1, q2⟩ := h W
  ⟨_, trs_append q1, fun y fi k => ps_expr (pe_bm PySem.F.plainAttrs_list PySem.F.slot_list_append PySem.F.type_list_append mt_append (pe_var hN hv hd hcd) (pa_cons (q2 y fi k) pa_nil (hs _)) (hs := hs _) (hline := hl) (hfew := hf _))⟩
theorem ds_put {i : Nat} {x : Str} {e k : Expr} {f fk : FE} {p1 p2 pos : Pos} (h : DE s e f) (hk : DE s k fk) (hN : s.N[i]? = some x := by rfl) (hv : Vis s.sc x := by first | exact Or.inl rfl | exact Or.inr (Or.inl rfl) | exact Or.inr (Or.inr rfl)) (hd : (x == ("__debug__" : Str)) = false := by decide) (hcd : (x == ("__classdict__" : Str)) = false := by decide)
    (ha : ∀ env v, assign (.Subscript (.Name x p1) k p2) env v = (do
      let ov ← holding [v] (eval (.Name x p1) env)
      let iv ← holding [v, ov] (eval k env)
      standAt p2
      holding [v, ov, iv] (setItem ov iv v)
      release [v, ov, iv] []) := by intro _ _; rfl) (hs : ∀ env, swapsWithSole [.Subscript (.Name x p1) k p2] e pos.line env = pure false := by intro _; rfl) (hw : ∀ env, swappedStores [.Subscript (.Name x p1) k p2] e env = pure none := by intro _; rfl)
    (h1 : ∀ env, (assignEach [.Subscript (.Name x p1) k p2] env).map (·.2) = [assign (.Subscript (.Name x p1) k p2) env] := by intro _; rfl) : DS s (.Assign [.Subscript (.Name x p1) k p2] e pos) (sPut i f fk) := fun W =>
  let ⟨t, q1, q2⟩ := h W; let ⟨u, q3, q4⟩ := hk W
  ⟨_, trs_put q1 q3, fun y fi kk => ps_asg (q2 y fi kk) (pg_sub (pe_var hN hv hd hcd) (q4 y fi kk) set_list (ha _)) (hs _) (hw _) (h1 _)⟩
theorem ds_raise {x : Str} {A : Addr} {bmB : List Value} {B newId initId : String} {p pos1 pos : Pos} (F : ExcBaseFacts B newId initId bmB) (q : PySem.W.excIn s.K A bmB newId = true) (hm : s.mg x = some (.ref A)) (kC : PySem.W.keepIn s.K (.ref A) = true) (r1 : PySem.W.subIn s.K (.ref A) (.type "BaseException") = some true) (r2 : PySem.W.typeIn s.K (.ref A) = some (.type "type"))
    (hg : s.sc.names.lookup x = some .globalImplicit := by rfl) (hdb : (x == ("__debug__" : Str)) = false := by decide) (hc : s.calm = true := by rfl) : DS s (.Raise (some (.Call (.Name x p) [] [] pos1)) none pos) (sRaise x) := fun W =>
  ⟨_, trs_raise hm, fun y fi k => ps_raise hc k (pmk_own0 F q hm kC (raises_own r1 r2) hg hdb)⟩
theorem ds_while {c : Expr} {body : List Stmt} {k : FT} {f : FS} {pos : Pos} (n : Nat) (hc : DT s c k) (hb : DSs s body f) : DS s (.While c body [] pos) (wLoop k f n) := fun W =>
  let ⟨t, q1, q2⟩ := hc W; let ⟨u, q3, q4⟩ := hb W
  ⟨_, trs_while n q1 q3, fun y fi kk => ps_while fi.po (q2 y fi kk) (q4 y fi kk)⟩
/-! ### what is walked, targets, for -/
theorem di_list {tg e : Expr} {f : FE} (h : DE s e f) : DI s tg e (fLs f) := fun W => let ⟨t, q1, q2⟩ := h W; ⟨_, tri_list q1, fun y fi k => pi_list (q2 y fi k)⟩
theorem di_tup {tg e : Expr} {f : FE} (h : DE s e f) : DI s tg e (fTs f) := fun W => let ⟨t, q1, q2⟩ := h W; ⟨_, tri_tup q1, fun y fi k => pi_tup (q2 y fi k)⟩
theorem di_rng1 {tg a : Expr} {f : Ag} {p pos : Pos} (hm : s.mg "range" = none) (h : DAg s a f) (hg : s.sc.names.lookup ("range" : Str) = some .globalImplicit := by rfl) (hs : ∀ env, starEach [a] env = [(false, eval a env)] := by intro _; rfl) : DI s tg (.Call (.Name "range" p) [a] [] pos) (fRng1 f) := fun W =>
  let ⟨t, q1, q2⟩ := h W
  ⟨_, tri_rng1 (tra_cons q1 tra_nil), fun y fi k => pi_range1 hg hm (pa_cons (q2 y fi k) pa_nil (hs _)) (hs _)⟩
theorem di_rng2 {tg a b : Expr} {f f' : Ag} {p pos : Pos} (hm : s.mg "range" = none) (h : DAg s a f) (h' : DAg s b f') (hg : s.sc.names.lookup ("range" : Str) = some .globalImplicit := by rfl) (hs : ∀ env, starEach [a, b] env = [(false, eval a env), (false, eval b env)] := by intro _; rfl) (hs2 : ∀ env, starEach [b] env = [(false, eval b env)] := by intro _; rfl) : DI s tg (.Call (.Name "range" p) [a, b] [] pos) (fRng2 f f') := fun W =>
  let ⟨t, q1, q2⟩ := h W; let ⟨u, q3, q4⟩ := h' W
  ⟨_, tri_rng2 (tra_cons q1 (tra_cons q3 tra_nil)), fun y fi k => pi_range2 hg hm (pa_cons (q2 y fi k) (pa_cons (q4 y fi k) pa_nil (hs2 _)) (by rw [hs, hs2])) (hs _) (hs2 _)⟩
theorem dg_name {i : Nat} {x : Str} {pos : Pos} (h1 : St1 s i x) : DG s (.Name x pos) (tgName i) [i] := ⟨_, trt_name i h1.m, fun y fi => pg_name h1.nd h1.ix h1.loc (h1.fn fi)⟩
theorem dgs_nil : DGs s [] tgNil [] 0 := ⟨fun ds ρ ρ' h => (by cases ds with | nil => rfl | cons _ _ => cases h), _, trts_nil, fun y fi => pgs_nil⟩
theorem dgs_name {i : Nat} {x : Str} {pos : Pos} {es : List Expr} {f : List D → Sl → Option Sl} {is : List Nat} {n : Nat} (h1 : St1 s i x) (h : DGs s es f is n) (hs : ∀ env, (assignEach (.Name x pos :: es) env).map (·.2) = assign (.Name x pos) env :: (assignEach es env).map (·.2) := by intro _; rfl) : DGs s (.Name x pos :: es) (tgCons (tgName i) f) (i :: is) (n + 1) := by
  obtain ⟨hl, t, q1, q2⟩ := h
  refine ⟨fun ds ρ ρ' e => ?_, _, trts_name h1.m q1, fun y fi => pgs_cons (pg_name h1.nd h1.ix h1.loc (h1.fn fi)) (q2 y fi) (hs _)⟩
  cases ds with
  | nil => cases e
  | cons d ds => simp only [tgCons, tgName, Option.bind_some] at e; simp [hl _ _ _ e]
theorem dg_tup {es : List Expr} {f : List D → Sl → Option Sl} {is : List Nat} {n k : Nat} {pos : Pos} (h : DGs s es f is n) (hc : s.calm = true := by rfl) (hn : ∀ env, (assignEach es env).length = n := by intro _; rfl) (hst : ∀ env, (assignEach es env).findIdx? (·.1) = none := by intro _; rfl) : DG s (.Tuple es k pos) (tgTup f) is := by
  obtain ⟨hl, t, q1, q2⟩ := h
  exact ⟨_, trt_tup q1 hl, fun y fi => pg_tup hc (q2 y fi) (hn _) (hst _)⟩
theorem ds_unp {tg e : Expr} {f : FE} {t : Tg} {is : List Nat} {pos : Pos} (h : DE s e f) (ht : DG s tg t is) (hs : ∀ env, swapsWithSole [tg] e pos.line env = pure false := by intro _; rfl) (hw : ∀ y : Cx, swappedStores [tg] e (s.cx y).env = pure none := by intro _; rfl) (h1 : ∀ env, (assignEach [tg] env).map (·.2) = [assign tg env] := by intro _; rfl) : DS s (.Assign [tg] e pos) (sUnp f t) := fun W =>
  let ⟨u, q1, q2⟩ := h W; let ⟨v, q3, q4⟩ := ht
  ⟨_, trs_unp q1 q3, fun y fi k => ps_asg (q2 y fi k) (q4 y fi) (hs _) (hw _) (h1 _)⟩
theorem ds_for {tg it : Expr} {body : List Stmt} {f : Sl → RE (List D)} {t : Tg} {is : List Nat} {b : FS} {pos : Pos} (hi : DI s tg it f) (ht : DG s tg t is) (hb : DSs s body b) (hc : s.calm = true := by rfl) (hs : ∀ env x, foldedSetIterable it env x = pure x := by intro _ _; rfl) : DS s (.For tg it body [] pos) (sFor f t b) := fun W =>
  let ⟨u, q1, q2⟩ := hi W; let ⟨v, q3, q4⟩ := ht; let ⟨w, q5, q6⟩ := hb W
  ⟨_, trs_for q1 q3 q5, fun y fi k => ps_for fi.po hc (q2 y fi k) (q4 y fi) (q6 y fi k) (hs _)⟩
/-! ### comprehensions -/
def SC.blk (s : SC) (scope : Scope) : SC := { s with sc := relabel scope { scope := s.sc, locals := 0, globals := 0, cells := [] }, top := false, raw := some scope, lam := none, mkr := none }
theorem Fit.blk {s : SC} {y : Cx} (fi : Fit s y) (he : s.e = none) (st : Shared) (H : Hp) (scope : Scope) (C : Addr) (cl : List (Str × Addr)) (fp : List Addr) :
    Fit (s.blk scope) (Cx.blk (s.cx y) st H scope (compEnvC scope cl C (s.cx y).env) fp) where
  gd := fi.gd
  room := fi.room
  un := fi.un
  un2 := fi.un2
  po := PassesOwn.never
  st := fun z => by cases z
  fn := fun z => by cases z
  fb := fun r z => by cases z; rfl
  lm := fun L z => by cases z
  mka := fun c P q z => by cases z
  su := fun a z => by rw [show (s.blk scope).e = s.e from rfl, he] at z; cases z
theorem dif_nil : DIf s [] cYes := ⟨_, tr_yes, fun y _ _ => pts_nil⟩
theorem dif_one {c : Expr} {f : FT} (h : DT s c f) : DIf s [c] f := let ⟨t, q1, q2⟩ := h W0; ⟨t, q1, fun y i k => pts_one (q2 y i k)⟩
section
variable {elt tg iter : Expr} {ifs : List Expr} {scope : Scope} {own : List (Str × Nat)} {it : Sl → RE (List D)} {t : Tg} {is : List Nat} {c : FT} {f : FE} {pos : Pos}
theorem dn_comp (own : List (Str × Nat)) (hi : DI s tg iter it) (ht : DG (s.blk scope) tg t is) (hc : DIf (s.blk scope) ifs c) (he : DE (s.blk scope) elt f) (hN : s.N.Nodup) (ok : blkC s.N s.sc scope own = true) (hv : is.all (fun i => (own.map (·.2)).contains i) = true := by rfl) (hm : s.m = false ∨ 0 ∉ own.map (·.2)) (hcl : s.calm = true := by rfl) (hE : s.e = none := by rfl)
    (hs : ∀ env x, foldedSetIterable iter env x = pure x := by intro _ _; rfl) : DN s (.ListComp elt [⟨tg, iter, ifs, 0⟩] scope pos) (fComp it t c f (own.map (·.2))) := fun W => by
  obtain ⟨wi, q1, q2⟩ := hi W
  obtain ⟨tt, q3, q4⟩ := ht
  obtain ⟨ct, q5, q6⟩ := hc
  obtain ⟨te, q7, q8⟩ := he W0
  refine ⟨_, trn_comp hm q1 q3 q5 q7 hv, fun y fi k => pe_lc hcl hN (q2 y fi k) (blkOk_by ok) (fun st H C cl fp => ?_) (fun st H C cl fp => ?_) (fun st H C cl fp => ?_) (hs _)⟩
  · exact q4 _ (fi.blk hE st H scope C cl fp)
  · exact q6 _ (fi.blk hE st H scope C cl fp) takes0
  · exact q8 _ (fi.blk hE st H scope C cl fp) takes0
/-- name = [..] -/
theorem ds_comp {i : Nat} {y : Str} {py spos : Pos} (own : List (Str × Nat)) (h1 : St1 s i y) (hi : DI s tg iter it) (ht : DG (s.blk scope) tg t is) (hc : DIf (s.blk scope) ifs c) (he : DE (s.blk scope) elt f) (ok : blkC s.N s.sc scope own = true) (hyl : s.sc.names.lookup y = some .local)
    (hsw : ∀ v, swapsWith (.ListComp elt [⟨tg, iter, ifs, 0⟩] scope pos) (some (.Name y py)) spos.line (s.cx v).env = pure true) (hv : is.all (fun i => (own.map (·.2)).contains i) = true := by rfl) (hm : s.m = false ∨ 0 ∉ own.map (·.2)) (hcl : s.calm = true := by rfl) (hE : s.e = none := by rfl)
    (hs : ∀ env x, foldedSetIterable iter env x = pure x := by intro _ _; rfl) : DS s (.Assign [.Name y py] (.ListComp elt [⟨tg, iter, ifs, 0⟩] scope pos) spos) (sNew i (fComp it t c f (own.map (·.2)))) := fun W => by
  obtain ⟨wi, q1, q2⟩ := hi W
  obtain ⟨tt, q3, q4⟩ := ht
  obtain ⟨ct, q5, q6⟩ := hc
  obtain ⟨te, q7, q8⟩ := he W0
  refine ⟨_, trs_new h1.m (trn_comp hm q1 q3 q5 q7 hv), fun v fi k => ps_setLc hcl h1.nd h1.ix hyl (hsw v) (q2 v fi k) (blkOk_by ok) (fun st H C cl fp => ?_) (fun st H C cl fp => ?_) (fun st H C cl fp => ?_) (hs _)⟩
  · exact q4 _ (fi.blk hE st H scope C cl fp)
  · exact q6 _ (fi.blk hE st H scope C cl fp) takes0
  · exact q8 _ (fi.blk hE st H scope C cl fp) takes0
end
/-! ### a def keeps its promise -/
section
variable {P : Program} {w : World} {K : PySem.W.Frag} {mg : Str → Option Value} {base : Heap}
def scOf (P : Program) (w : World) (K : PySem.W.Frag) (mg : Str → Option Value) (base : Heap) (N : List Str) (sc : Scope) (k : Nat) (m : Bool) : SC := ⟨P, w, K, mg, base, N, sc, k, m, true, true, none, .none, none, none, [], none, none, none, none⟩
theorem fit_of {N : List Str} {qual : Str} {scope : Scope} {f : Addr} {cd : Value} {A : Around} {outer : List Env} {st : Shared} {H : Hp} {E : XK} {k : Nat} {m : Bool} (gd : A.guards = some []) (hr : Room k (A.deeper (envOfC qual scope st.heap.objs.size f cd))) :
    Fit (scOf P w K mg base N scope k m) (cxOf (L2.CX P w) P w K mg base N qual scope f cd A outer st H E) where
  gd := gd
  room := .inl hr
  un := hr.units
  un2 := Nat.lt_of_le_of_lt (Nat.add_le_add_left (Nat.le_trans (by decide) (Nat.le_add_left 200 (16 * k))) _) (by have := hr.un; rw [Nat.add_assoc] at this; exact this)
  po := PassesOwn.leaving
  st := fun _ => ⟨rfl, rfl⟩
  fn := fun _ => rfl
  fb := fun r z => by cases z
  lm := fun L z => by cases z
  mka := fun c P q z => by cases z
  su := fun a z => by cases z
theorem fn_P {x : Str} {pa : Arguments} {body : List Stmt} {scope : Scope} {f : Addr} {fd : FuncData} {N ps : List Str} {k : Nat} {b : FS} (F : FunD K x x pa body scope [] [] f fd) (hm : mg x = some (.ref f)) (S : FnScope N ps scope) (h : DSs (scOf P w K mg base N scope k false) body b)
    (hb : ∀ (kV doc pm : Value) (an : Option Addr) (cd ct : Value) (us : List Value), us.length = ps.length → bindArgs (PySem.W.fnOf x x pa body scope .none kV doc pm an cd ct) ⟨us, []⟩ = pure (ps.zip us)) (hn : ps.length ≤ N.length := by decide) :
    Cal P w K mg base x (k + 1) ps (spP K mg ps.length (runP N.length b)) :=
  ⟨f, fd, fn_mkG F S (fun vs H Q E q => q.1) fun cdv A outer s0 H vs Q E gd hr hsp =>
    let ⟨t, q1, q2⟩ := h (fun cls d _ H => E cls d H)
    ⟨t, q2 _ (fit_of gd hr) (takes_of rfl rfl rfl rfl), body_P hn hsp q1⟩, hm, F.kp, F.bindsN hb⟩
theorem fn_R {x : Str} {pa : Arguments} {body : List Stmt} {scope : Scope} {f : Addr} {fd : FuncData} {N ps : List Str} {k : Nat} {b : FS} (F : FunD K x x pa body scope [] [] f fd) (hm : mg x = some (.ref f)) (S : FnScope N ps scope) (h : DSs (scOf P w K mg base N scope k true) body b)
    (hb : ∀ (kV doc pm : Value) (an : Option Addr) (cd ct : Value) (us : List Value), us.length = ps.length → bindArgs (PySem.W.fnOf x x pa body scope .none kV doc pm an cd ct) ⟨us, []⟩ = pure (ps.zip us)) (hn : ps.length ≤ N.length := by decide) :
    Cal P w K mg base x (k + 1) ps (spR K mg ps.length (runR N.length b)) :=
  ⟨f, fd, fn_mkG F S (fun vs H Q E q => q.1) fun cdv A outer s0 H vs Q E gd hr hsp =>
    let ⟨t, q1, q2⟩ := h (fun cls d _ H => E cls d H)
    ⟨t, q2 _ (fit_of gd hr) (takes_of rfl rfl rfl rfl), body_R hn hsp q1⟩, hm, F.kp, F.bindsN hb⟩
end
end
end DL

namespace DL
open PySem PySem.Spec PyProof.Rows L2
/-! ### isinstance -/
inductive Ty where
  | int | bool | str | tuple | list | dict | set | float
def Ty.nm : Ty → String
  | .int => "int" | .bool => "bool" | .str => "str" | .tuple => "tuple" | .list => "list" | .dict => "dict" | .set => "set" | .float => "float"
def D.tyn : D → Option String
  | .non => some "NoneType"
  | .bl _ => some "bool"
  | .int _ => some "int"
  | .str _ => some "str"
  | .tup _ => some "tuple"
  | .lst _ => some "list"
  | .frl _ => some "list"
  | .dicK _ _ => some "dict"
  | .dicT _ _ => some "dict"
  | .set _ => some "set"
  | .opq _ => none
def isTy : Ty → D → Option Bool
  | _, .opq _ => none
  | .int, .int _ => some true
  | .int, .bl _ => some true
  | .bool, .bl _ => some true
  | .str, .str _ => some true
  | .tuple, .tup _ => some true
  | .list, .lst _ => some true
  | .list, .frl _ => some true
  | .dict, .dicK _ _ => some true
  | .dict, .dicT _ _ => some true
  | .set, .set _ => some true
  | _, _ => some false
section
variable {K : PySem.W.Frag} {Z : Addr → Prop} {H : Hp}
theorem Rq.tyx {v : V} {d : D} {n : String} (h : Rq K Z H v d) (e : d.tyn = some n) : TyX K H v (.type n) := by
  cases d with
  | non => cases e; rw [h.non]; exact .base .non
  | bl b => cases e; rw [h.bl]; exact .base (.bl b)
  | int b => cases e; rw [h.int]; exact .base (.int b)
  | str b => cases e; rw [h.str]; exact .base (.str b)
  | opq u => cases e
  | tup xs =>
    cases e
    obtain ⟨a, vs, rfl, s, r⟩ := h.tup
    rcases s with ⟨_, s | ⟨o, s⟩⟩ | ⟨o, its, n, s, c, _⟩
    · exact .base (.tup s)
    · exact .fTuple s
    · exact .kTuple s c
  | lst xs =>
    cases e
    obtain ⟨a, vs, rfl, s, r⟩ := h.lst
    exact .base (.lst s)
  | frl xs =>
    cases e
    obtain ⟨a, vs, rfl, s, r⟩ := h.frl
    rcases s with ⟨_, o, s⟩ | ⟨o, its, n, s, c, _⟩
    · exact .base (.frz s)
    · exact .kList s c
  | dicK ks ds =>
    cases e
    obtain ⟨a, vs, rfl, s, _⟩ := h.dicK
    exact .base (.dK s)
  | dicT ks ds =>
    cases e
    obtain ⟨a, vs, rfl, s, _⟩ := h.dicT
    exact .base (.dT s)
  | set xs =>
    cases e
    rcases h with ⟨a, S, rfl, n, s, _⟩ | ⟨a, rfl, S, s, _⟩
    · exact .set s
    · exact .set s
end
theorem kit_ty2 (T : Ty) (d : D) {b : Bool} {K : PySem.W.Frag} (h : isTy T d = some b) : ∃ n, d.tyn = some n ∧ PySem.W.kitOne K (.type n) (.type T.nm) = some b := by
  have k : ∀ {n : String} {c : Bool}, kitB n T.nm = some c → PySem.W.kitOne K (.type n) (.type T.nm) = some c := fun h => kit_ty h
  cases d <;> cases T <;> first
    | (cases h; done)
    | (cases h; exact ⟨_, rfl, k (by decide +kernel)⟩)
def isiB (T : Ty) : List D → Option D
  | [d] => (isTy T d).map .bl
  | _ => none
def isTys : List Ty → D → Option Bool
  | [], .opq _ => none
  | [], _ => some false
  | T :: r, d => match isTy T d with
    | some true => some true
    | some false => isTys r d
    | none => none
def isisB (Ts : List Ty) : List D → Option D
  | [d] => (isTys Ts d).map .bl
  | _ => none
section
variable {g : G} {W : WX}
def tTyC (T : Ty) : TE := tC (.ty T.nm)
theorem TrAg.go {ta : TE} {a : Ag} (ha : TrAg g W ta a) {C : JC} {ρ : Sl} {σ : L2.St} {H : Hp} {Q : VK} (j : J g C ρ σ H) {k : List D → Sl → RE D} (hb : PostG g W (repV g) C σ Q ((evA [a] ρ).bd k)) {R : VK}
    (h : ∀ d ρ1 v H1, J g C ρ1 σ H1 → Rq g.K (Av C.Z ρ1 σ) H1 v d → PostG g W (repV g) C σ Q (k [d] ρ1) → R v H1) : ta σ H R := by
  have q : TrA g W (tCons ta tNil) [a] := tra_cons ha tra_nil
  have z : tCons ta tNil σ H (fun vs H1 => match vs with | [v] => R v H1 | _ => False) := by
    refine q.step j (fun ds ρ1 e1 vs H1 j1 k1 r1 => ?_) (fun x ρ1 e1 cls dd H1 j1 r1 => ?_) (fun e1 => ?_)
    · rw [e1] at hb
      match ds, evA_len _ _ _ _ e1 with
      | [d], _ =>
        obtain ⟨v, rfl, r⟩ := (r1.rq j1).one
        exact h d ρ1 v H1 j1 r hb
    · rw [e1] at hb; exact hb _ _ _ j1 r1
    · rw [e1] at hb; exact hb
  exact z
theorem tr_isi {ta : TE} {a : Ag} {T : Ty} (ha : TrAg g W ta a) : TrE g W (tCB (rIsi g.K) (tCons ta (tCons (tTyC T) tNil))) (fApp (isiB T) [a]) := fun C ρ σ H Q j p =>
  ha.go j p fun d ρ1 v H1 j1 r p => by
    cases e : isTy T d with
    | none => simp only [isiB, e, Option.map_none, RE.of] at p; exact p.elim
    | some b =>
      simp only [isiB, e, Option.map_some, RE.of] at p
      obtain ⟨n, e1, e2⟩ := kit_ty2 (K := g.K) T d e
      exact ⟨v, .ty T.nm, _, _, b, rfl, .ty _, r.tyx e1, e2, p _ H1 j1 rfl⟩
def tTys : List Ty → TA
  | [] => tNil
  | T :: r => tCons (tTyC T) (tTys r)
theorem tTys_go {Ts : List Ty} {σ : L2.St} {H : Hp} {Q : List V → Hp → Prop} (h : Q (Ts.map fun T => .ty T.nm) H) : tTys Ts σ H Q := by
  induction Ts generalizing Q with
  | nil => exact h
  | cons T r ih => exact ih (Q := fun xs H2 => Q (.ty T.nm :: xs) H2) h
theorem kit_tys {K : PySem.W.Frag} {d : D} : ∀ {Ts : List Ty} {b : Bool}, isTys Ts d = some b → ∃ n, d.tyn = some n ∧ PySem.W.kitAny K (.type n) (Ts.map fun T => .type T.nm) = some b
  | [], b, h => by
    cases d <;> first
      | (cases h; done)
      | (cases h; exact ⟨_, rfl, rfl⟩)
  | T :: r, b, h => by
    unfold isTys at h
    cases e : isTy T d with
    | none => rw [e] at h; cases h
    | some c =>
      obtain ⟨n, e1, e2⟩ := kit_ty2 (K := K) T d e
      cases c with
      | true =>
        rw [e] at h; cases h
        exact ⟨n, e1, kitAny_cons e2 (fun z => by cases z) fun _ => rfl⟩
      | false =>
        rw [e] at h
        obtain ⟨m, f1, f2⟩ := kit_tys (K := K) (Ts := r) h
        rw [e1] at f1; cases f1
        exact ⟨n, e1, kitAny_cons e2 (fun _ => f2) fun z => by cases z⟩
theorem paired_tys : ∀ Ts : List Ty, Paired ClsV (Ts.map fun T => V.ty T.nm) (Ts.map fun T => Value.type T.nm)
  | [] => .nil
  | T :: r => .cons (.ty _) (paired_tys r)
theorem tr_isis {ta : TE} {a : Ag} {Ts : List Ty} (hl : Ts.length ≤ 9) (ha : TrAg g W ta a) : TrE g W (tCB (rIsiT g.K) (tCons ta (tCons (tTup (tTys Ts)) tNil))) (fApp (isisB Ts) [a]) := fun C ρ σ H Q j p =>
  ha.go j p fun d ρ1 v H1 j1 r p => by
    cases e : isTys Ts d with
    | none => simp only [isisB, e, Option.map_none, RE.of] at p; exact p.elim
    | some b =>
      simp only [isisB, e, Option.map_some, RE.of] at p
      obtain ⟨n, e1, e2⟩ := kit_tys (K := g.K) e
      refine tTys_go ⟨by rw [List.length_map, sizeLine_eq]; omega, fun l hn => ?_⟩
      have j2 := j1.grow (Grow.upd (o := .tup (Ts.map fun T => .ty T.nm)) hn)
      have r2 : TyX g.K (upd H1 l (.tup (Ts.map fun T => .ty T.nm))) v (.type n) := by
        refine Rq.tyx (Z := Av C.Z ρ1 σ) ?_ e1
        rcases r with r | ⟨a, rfl, t⟩
        · exact .inl (Rp.keep (fun _ z => z) (fun b o e _ => Grow.upd hn b o e) _ _ r)
        · exact .inr ⟨a, rfl, t.keep (fun _ z => z) (fun b o e _ => Grow.upd hn b o e) (fun o e => Grow.upd hn _ o e)⟩
      exact ⟨v, l, _, _, _, b, rfl, upd_same, paired_tys Ts, r2, e2, p _ _ j2 rfl⟩
end
section
variable {s : SC}
theorem de_isi (T : Ty) {e : Expr} {a : Ag} {x : Str} {p p2 pos : Pos} (ha : DAg s e a) (hi : s.mg "isinstance" = none) (hx : s.mg x = none) (hv : bootBuiltins x = some (.type T.nm) := by rfl) (hgi : s.sc.names.lookup ("isinstance" : Str) = some .globalImplicit := by rfl) (hg : s.sc.names.lookup x = some .globalImplicit := by rfl)
    (hn : x ≠ "__name__" := by decide) (hd : (x == ("__debug__" : Str)) = false := by decide)
    (he : ∀ env, starEach [e, .Name x p2] env = (false, eval e env) :: starEach [.Name x p2] env := by intro _; rfl) (he2 : ∀ env, starEach [.Name x p2] env = (false, eval (.Name x p2) env) :: starEach [] env := by intro _; rfl) (hpl : ∀ env, (backTo pos (starEach [.Name x p2] env)).any (·.1) = false := by intro _; rfl) :
    DE s (.Call (.Name "isinstance" p) [e, .Name x p2] [] pos) (fApp (isiB T) [a]) := fun W =>
  let ⟨t, q1, q2⟩ := ha W
  ⟨_, tr_isi q1, fun y i k => pe_callB call_isi hgi hi boot_isinstance (pa_cons (q2 y i k) (pa_cons (pe_bltn hg hx hv rfl hn hd) pa_nil (he2 _)) (he _)) (by decide) (by decide) (he _) (hpl _)⟩
/-- the classes of a tuple display -/
def DTys (s : SC) (es : List Expr) (Ts : List Ty) : Prop := ∀ y, Fit s y → PA (s.cx y) es (tTys Ts)
theorem dtys_nil : DTys s [] [] := fun y i => pa_nil
theorem dtys_cons (T : Ty) {x : Str} {p : Pos} {es : List Expr} {Ts : List Ty} (hx : s.mg x = none) (h : DTys s es Ts) (hv : bootBuiltins x = some (.type T.nm) := by rfl) (hg : s.sc.names.lookup x = some .globalImplicit := by rfl)
    (hn : x ≠ "__name__" := by decide) (hd : (x == ("__debug__" : Str)) = false := by decide) (he : ∀ env, starEach (.Name x p :: es) env = (false, eval (.Name x p) env) :: starEach es env := by intro _; rfl) : DTys s (.Name x p :: es) (T :: Ts) :=
  fun y i => pa_cons (pe_bltn hg hx hv rfl hn hd) (h y i) (he _)
theorem de_isis {e : Expr} {a : Ag} {es : List Expr} {Ts : List Ty} {k : Nat} {p p2 pos : Pos} (ha : DAg s e a) (hi : s.mg "isinstance" = none) (ht : DTys s es Ts) (hl : Ts.length ≤ 9 := by decide) (hgi : s.sc.names.lookup ("isinstance" : Str) = some .globalImplicit := by rfl)
    (he : ∀ env, starEach [e, .Tuple es k p2] env = (false, eval e env) :: starEach [.Tuple es k p2] env := by intro _; rfl) (he2 : ∀ env, starEach [.Tuple es k p2] env = (false, eval (.Tuple es k p2) env) :: starEach [] env := by intro _; rfl) (hpl : ∀ env, (backTo pos (starEach [.Tuple es k p2] env)).any (·.1) = false := by intro _; rfl) :
    DE s (.Call (.Name "isinstance" p) [e, .Tuple es k p2] [] pos) (fApp (isisB Ts) [a]) := fun W =>
  let ⟨t, q1, q2⟩ := ha W
  ⟨_, tr_isis hl q1, fun y i kk => pe_callB call_isiT hgi hi boot_isinstance (pa_cons (q2 y i kk) (pa_cons (pe_tup (ht y i)) pa_nil (he2 _)) (he _)) (by decide) (by decide) (he _) (hpl _)⟩
end
end DL

namespace DL
open PySem PySem.Spec PyProof.Rows L2
/-! ### enumerate(tuple) -/
set_option maxHeartbeats 1000000 in
theorem meets_enum_tup (t : Addr) (its : Array Value) :
    Meets (Builtin.«enumerate.__new__» ⟨[.type "enumerate", .ref t], []⟩) (fun _ R s => s.heap.IsTuple t its ∧
      R (.ok (.ret (.ref (s.heap.push { cls := .type "tuple_iterator", data := .fields #[.ref t, .int 0 0] }).objs.size)))
        { s with heap := (s.heap.push { cls := .type "tuple_iterator", data := .fields #[.ref t, .int 0 0] }).push { cls := .type "enumerate", data := .fields #[.none, .bool false, .ref s.heap.objs.size, rawInt 0, .none, .none] } }) :=
  .of_wp fun prog w A R s h => by
    obtain ⟨hp, g, d, tk, os⟩ := s
    obtain ⟨h1, h2⟩ := h
    have sb := sub_enumerate
    have q1 : ∀ {A' : Around} {E : Value → Shared → Prop} {Q : Value → Shared → Prop}, Q (.ref hp.objs.size) ⟨hp.push { cls := .type "tuple_iterator", data := .fields #[.ref t, .int 0 0] }, g, d, tk, os⟩ → wpAny (model prog w) A' (pyIter (.ref t)) Q E ⟨hp, g, d, tk, os⟩ :=
      fun q => (begins_tuple t its).iter prog w _ _ ⟨hp, g, d, tk, os⟩ _ h1 q
    wp_walk using q1
    refine wpAny_stack_any fun st => wpAny_pure ?_
    split
    · rename_i c _ _ _ _ _
      cases (c == Value.type "enumerate") <;> (wp_walk using q1; exact ⟨_, rfl, h2⟩)
    · wp_walk using q1
      exact ⟨_, rfl, h2⟩
section
variable {prog : Program} {w : World} {A : Around} {E : Value → Shared → Prop} {s : Shared}
theorem call_enum_tup {t : Addr} {its : Array Value} {Q : Value → Shared → Prop} (ht : s.heap.IsTuple t its)
    (h : ∀ h', IsEnum h' (s.heap.objs.size + 1) s.heap.objs.size 0 .none → h'.IsTupleIter s.heap.objs.size t 0 → (∀ b o, s.heap.get? b = some o → h'.get? b = some o) → Q (.ref (s.heap.objs.size + 1)) { s with heap := h' }) :
    wpAny (model prog w) A (call (.type "enumerate") [.ref t]) Q E s := by
  refine callType_new F.called_enumerate (by decide) (F.typeCall_enumerate_1 _) (F.newCall_enumerate_1 _) (fun obj => F.args_object_init_2 obj _) F.entry_enumerate_new (meets_enum_tup t its) ⟨ht, ?_⟩
  have z : (s.heap.push { cls := .type "tuple_iterator", data := .fields #[.ref t, .int 0 0] }).objs.size = s.heap.objs.size + 1 := Heap.size_push ..
  have he := Heap.get?_push_size (s.heap.push { cls := .type "tuple_iterator", data := .fields #[.ref t, .int 0 0] }) (o := { cls := .type "enumerate", data := .fields #[.none, .bool false, .ref s.heap.objs.size, rawInt 0, .none, .none] }) rfl
  show _ ∧ _
  rw [z]
  rw [z] at he
  exact ⟨⟨_, he, rfl⟩, h _ he ⟨_, Heap.get?_push_of_some _ (Heap.get?_push_size _ rfl), rfl, rfl⟩ fun b o x => Heap.get?_push_of_some _ (Heap.get?_push_of_some _ x)⟩
end
def IteT (K : PySem.W.Frag) (a : Addr) : It :=
  ⟨fun i H => ∃ (xs : List V) (x : V), SqT K H a xs ∧ xs[i]? = some x, fun i H v H' => ∃ T x, v = .ref T ∧ H T = none ∧ H' = upd H T (.tup [.int (i : Nat), x]) ∧ ∀ xs, SqT K H a xs → xs[i]? = some x, fun i H => ∃ xs : List V, SqT K H a xs ∧ xs.length ≤ i⟩
theorem turn_enumT {P : Program} {w : World} {K : PySem.W.Frag} {es : List Expr} {kk : Nat} {tp : Pos} (a e it : Addr) (hae : a ≠ e) (hai : a ≠ it) (hne : e ≠ it) :
    Turn P w K (.Tuple es kk tp) (IteT K a) [e, it] e (fun i h => (∃ old, IsEnum h e it ((i : Nat) : Int) old) ∧ h.IsTupleIter it a i) where
  mem := List.mem_cons_self
  obj := fun i h st b hb => by
    obtain ⟨⟨old, he⟩, o, ho, hc, hd⟩ := st
    rcases (by simpa using hb : b = e ∨ b = it) with rfl | rfl
    · exact ⟨_, he, fun v q => nomatch q⟩
    · exact ⟨o, ho, fun v q => by rw [hd] at q; cases q⟩
  keep := fun i h h' st k => by
    obtain ⟨⟨old, he⟩, hi⟩ := st
    exact ⟨⟨old, k e (by simp) _ he⟩, hi.at fun o q => k it (by simp) o q⟩
  item := by
    intro X hP hw hK hc i pins s σ H E I hf st hg
    subst hP hw hK
    obtain ⟨⟨old, he⟩, hit⟩ := st
    obtain ⟨xs, x, hq, hx⟩ := hg
    obtain ⟨its, rv, p, hz⟩ := I.tuple hq
    obtain ⟨u, hu, ru⟩ := rv.get hx
    have el : e < s.heap.objs.size := Heap.lt_size he
    have il : it < s.heap.objs.size := by obtain ⟨_, q, _⟩ := hit; exact Heap.lt_size q
    refine wpAny_pyNext_enum_itemD (Draws.tuple (A := X.A.in1) (I.ok.hd hc) it a hai its.toArray) he ⟨hit, p⟩ (by simpa using (List.getElem?_eq_some_iff.mp hu).1) hne (by simp [hne, Ne.symm hae]) fun y h' tk hy ho st' hT hsz hk => ?_
    obtain rfl : y = u := by
      have hy' : its[i]? = some y := by simpa using hy
      rw [hu] at hy'; exact (Option.some.inj hy').symm
    refine ⟨_, rfl, wpAny_letOwnedTupleGo_enum (s := { s with heap := h', toks := tk + 1 }) ho fun h'' he' sb => ?_⟩
    have hT2 : h''.get? s.heap.objs.size = some { cls := .type "tuple", data := .seq #[.int i tk, y] } := (sb.2 _ (Nat.ne_of_gt el)).trans hT
    have new : ObjOk X.prog X.w (upd H s.heap.objs.size (.tup [.int (i : Nat), x])) h'' s.heap.objs.size (.tup [.int (i : Nat), x]) :=
      ⟨by show 2 ≤ sizeLine; decide, [.int i tk, y], .cons ⟨_, rfl⟩ (.cons ru .nil), ⟨_, hT2, rfl, _, rfl⟩⟩
    have I1 : Inv X pins σ (upd H s.heap.objs.size (.tup [.int (i : Nat), x])) { s with heap := h'', toks := tk + 1 } :=
      I.turnedNew (ch := [e, it]) (fun b ob hb q => (sb.2 b (fun z => hb (by simp [z]))).trans (hk b ob (fun z => hb (by simp [z])) (fun z => hb (by simp [z])) q)) hf (Nat.le_refl _) new
    refine ⟨.ref s.heap.objs.size, _, I1, rfl, ⟨_, x, rfl, I.hok.fresh (Nat.le_refl _), rfl, fun ys hy => by rw [I.tuple_inj hy hq]; exact hx⟩, ⟨⟨y, ?_⟩, st'.1.at fun o q => (sb.2 it (Ne.symm hne)).trans q⟩, fun b hb => ?_⟩
    · rw [show ((i + 1 : Nat) : Int) = (i : Int) + 1 by omega]; exact he'
    · have lt : b < s.heap.objs.size := by
        rcases (by simpa using hb : b = e ∨ b = it) with rfl | rfl
        · exact el
        · exact il
      rw [upd_ne (Nat.ne_of_lt lt)]
      exact (hf b hb).1
  done := by
    intro X hP hw hK hc i pins s σ H E I hf st hg
    subst hP hw hK
    obtain ⟨⟨old, he⟩, hit⟩ := st
    obtain ⟨xs, hq, hx⟩ := hg
    obtain ⟨its, rv, p, hz⟩ := I.tuple hq
    have hl := rv.length
    obtain ⟨f0, f1, f2, f3, f4, f5⟩ := hf it (by simp)
    have ty : s.TypeIs (.ref e) "enumerate" := ⟨_, he, rfl⟩
    have nx : its.toArray[i]? = none := by simp; omega
    unfold pyNext
    refine wpAny_bind (wpAny_attempt (wpAny_callSpecial?_slot (name := Str.ofString "__next__") ty F.slot_enumerate_next (wpAny_call_entry F.slot_enumerate_next ty F.entry_enumerate_next ?_ (F.args_enumerate_next_1 _))))
    show wpAny _ _ (field (.ref e) 2 >>= _) _ _ _
    refine wpAny_bind (wpAny_field he rfl (x := .ref it) rfl (wpAny_bind (wpAny_nextOf_tuple_end (A := X.A.in1) (I.ok.hd hc) hit p nx fun h' y eb z => ?_)))
    exact wpAny_bind (wpAny_isInstance (T := "StopIteration") (b := true) z isSubtype_stop (wpAny_pure ⟨rfl, I.turned (t' := s.toks) (fun b o hb q => eb b o hb q) f0 f1 f3 f4 f5⟩))
  self := fun A i s Q E st h => let ⟨⟨_, he⟩, _⟩ := st; wpAny_pyIter_enum he h
/-! ### walks over lists and tuples alike -/
section
variable {X : Cx} {tg : Expr} {pins : List (Addr × Obj)} {σ : L2.St} {H : Hp} {s : Shared} {R : It → Hp → Prop}
theorem it_list (I : Inv X pins σ H s) {a : Addr} {xs : List V} (h : SqL X.K H a xs) (q : R (Itl X.K a) H) : wpAny (model X.prog X.w) X.A (pyIter (.ref a)) (PIE X pins σ tg R) X.xe s := by
  obtain ⟨its, _, p, _⟩ := I.list h
  refine wpAny_pyIter_list p.isList ⟨_, [s.heap.objs.size], _, _, H, rfl, I.kept (t' := s.toks) fun b o e => Heap.get?_push_of_some _ e, turn_list a _, ⟨_, Heap.get?_push_size _ rfl, rfl, rfl⟩, fun b hb => ?_, q⟩
  obtain rfl : b = s.heap.objs.size := by simpa using hb
  exact I.fpOk (Nat.le_refl _) (I.hok.fresh (Nat.le_refl _))
theorem it_tup (I : Inv X pins σ H s) {a : Addr} {xs : List V} (h : SqT X.K H a xs) (q : R (Itt X.K a) H) : wpAny (model X.prog X.w) X.A (pyIter (.ref a)) (PIE X pins σ tg R) X.xe s := by
  obtain ⟨its, _, p, _⟩ := I.tuple h
  refine wpAny_pyIter_tuple (show s.heap.IsTuple a its.toArray from p) ⟨_, [s.heap.objs.size], _, _, H, rfl, I.kept (t' := s.toks) fun b o e => Heap.get?_push_of_some _ e, turn_tuple a _, ⟨_, Heap.get?_push_size _ rfl, rfl, rfl⟩, fun b hb => ?_, q⟩
  obtain rfl : b = s.heap.objs.size := by simpa using hb
  exact I.fpOk (Nat.le_refl _) (I.hok.fresh (Nat.le_refl _))
def iSeq (K : PySem.W.Frag) (t : TE) : TI := fun σ H R => t σ H fun x H1 => ∃ a xs, x = .ref a ∧ ((SqL K H1 a xs ∧ R (Itl K a) H1) ∨ (SqT K H1 a xs ∧ R (Itt K a) H1))
theorem pi_seq {l : Expr} {t : TE} (h : PE X l t) : PI X tg l (iSeq X.K t) :=
  ⟨fun pins s σ H R I q => thn (h.run pins s σ H _ I q) fun v s1 z => by
    obtain ⟨x, H1, I1, r1, a, xs, rfl, z⟩ := z
    cases r1
    rcases z with ⟨z, q⟩ | ⟨z, q⟩
    · exact it_list I1 z q
    · exact it_tup I1 z q⟩
def iEnA (K : PySem.W.Frag) (t : TA) : TI := fun σ H R => t σ H fun vs H1 => ∃ a xs, vs = [.ref a] ∧ ((SqL K H1 a xs ∧ R (Ite K a) H1) ∨ (SqT K H1 a xs ∧ R (IteT K a) H1))
theorem pi_enA {e : Expr} {ta : TA} {p pos tp : Pos} {es : List Expr} {kk : Nat} (hg : Gl X "enumerate") (hm : X.mg "enumerate" = none) (ha : PA X [e] ta) (hs : starEach [e] X.env = [(false, eval e X.env)]) :
    PI X (.Tuple es kk tp) (.Call (.Name "enumerate" p) [e] [] pos) (iEnA X.K ta) := by
  refine ⟨fun pins s σ H R I h => ?_⟩
  refine Call_ (ld_blt I hg hm boot_enumerate (PyProof.Rows.callWith_type1 (thn (ha.run pos pins s σ H _ I h) fun us s1 z => ?_) hs rfl))
  obtain ⟨vs, H1, I1, r1, a, xs, rfl, z⟩ := z
  obtain ⟨u, rfl, r⟩ := vals1 r1
  obtain rfl : u = Value.ref a := r
  have two : ∀ b, b ∈ [s1.heap.objs.size + 1, s1.heap.objs.size] → FpOk X pins H1 b := fun b hb => by
    have le : s1.heap.objs.size ≤ b := by
      rcases (by simpa using hb : b = s1.heap.objs.size + 1 ∨ b = s1.heap.objs.size) with rfl | rfl <;> omega
    exact I1.fpOk le (I1.hok.fresh le)
  rcases z with ⟨z, q⟩ | ⟨z, q⟩
  · obtain ⟨its, _, p', _⟩ := I1.list z
    exact call_enumerate_list p'.isList fun h' he hit hz hk => wpAny_pyIter_enum he ⟨_, _, _, _, H1, rfl, I1.kept (t' := s1.toks) hk, turn_enum a (s1.heap.objs.size + 1) s1.heap.objs.size, ⟨⟨.none, he⟩, hit, Nat.succ_ne_self _⟩, two, q⟩
  · obtain ⟨its, _, p', _⟩ := I1.tuple z
    have lt : a < s1.heap.objs.size := by obtain ⟨o, ho, _⟩ := id p'; exact Heap.lt_size ho
    exact call_enum_tup p' fun h' he hit hk => wpAny_pyIter_enum he ⟨_, _, _, _, H1, rfl, I1.kept (t' := s1.toks) hk, turn_enumT a (s1.heap.objs.size + 1) s1.heap.objs.size (Nat.ne_of_lt (Nat.lt_succ_of_lt lt)) (Nat.ne_of_lt lt) (Nat.succ_ne_self _), ⟨⟨.none, he⟩, hit⟩, two, q⟩
end
section
variable {g : G} {W : WX} {C : JC}
theorem itok_list {a : Addr} {ds : List D} {d : D} {ρ1 : Sl} {σ1 : L2.St} {H1 : Hp} (e : d.ls = some ds) (r : Rp g.K (Av C.Z ρ1 σ1) H1 (.ref a) d) : ItOk g C (Itl g.K a) ds ρ1 σ1 H1 := fun i A H2 k1 k2 k3 => by
  have r2 := Rp.gen (it_keep (C := C) k1 k2) _ _ r
  obtain ⟨b, us, e3, s2, r3⟩ := Rq.ls (.inl r2) e
  cases e3
  refine ⟨fun hi => ?_, fun hi => ⟨us, s2, by rw [r3.length]; exact hi⟩⟩
  have hi' : i < us.length := by rw [r3.length]; exact hi
  refine ⟨⟨us, us[i], s2, by simp [hi']⟩, fun x H3 y => ?_⟩
  obtain ⟨rfl, y⟩ := y
  refine ⟨Grow.refl, fun d' hd => ?_⟩
  obtain ⟨d2, e5, r5⟩ := r3.get (y us s2)
  rw [hd] at e5; cases e5; exact r5
theorem itok_tup {a : Addr} {ds : List D} {ρ1 : Sl} {σ1 : L2.St} {H1 : Hp} (r : Rp g.K (Av C.Z ρ1 σ1) H1 (.ref a) (.tup ds)) : ItOk g C (Itt g.K a) ds ρ1 σ1 H1 := fun i A H2 k1 k2 k3 => by
  obtain ⟨b, us, e3, s2, r3⟩ : Rp g.K A H2 (.ref a) (.tup ds) := Rp.gen (it_keep (C := C) k1 k2) _ _ r
  cases e3
  refine ⟨fun hi => ?_, fun hi => ⟨us, s2.sq, by rw [r3.length]; exact hi⟩⟩
  have hi' : i < us.length := by rw [r3.length]; exact hi
  refine ⟨⟨us, us[i], s2.sq, by simp [hi']⟩, fun x H3 y => ?_⟩
  obtain ⟨rfl, y⟩ := y
  refine ⟨Grow.refl, fun d' hd => ?_⟩
  obtain ⟨d2, e5, r5⟩ := r3.get (y us s2.sq)
  rw [hd] at e5; cases e5; exact r5
theorem tri_seq {t : TE} {f : FE} (h : TrE g W t f) : TrI g W (iSeq g.K t) (fSeq f) := by
  intro C ρ σ H R j p
  refine h.step j (fun d ρ1 e1 v H1 j1 k1 r1 => ?_) (fun x ρ1 e1 cls dd H1 j1 r1 => ?_) (fun e1 => ?_)
  · simp only [fSeq, RE.bd, e1] at p
    cases d with
    | tup ds =>
      obtain ⟨a, vs, rfl, s, r⟩ := id r1
      exact ⟨a, vs, rfl, .inr ⟨s.sq, p _ H1 j1 (itok_tup r1)⟩⟩
    | lst ds =>
      obtain ⟨a, vs, rfl, s, r⟩ := Rq.ls (.inl r1) rfl
      exact ⟨a, vs, rfl, .inl ⟨s, p _ H1 j1 (itok_list (d := .lst ds) rfl r1)⟩⟩
    | frl ds =>
      obtain ⟨a, vs, rfl, s, r⟩ := Rq.ls (.inl r1) rfl
      exact ⟨a, vs, rfl, .inl ⟨s, p _ H1 j1 (itok_list (d := .frl ds) rfl r1)⟩⟩
    | _ => exact p.elim
  · simp only [fSeq, RE.bd, e1] at p
    exact p _ _ _ j1 r1
  · simp only [fSeq, RE.bd, e1] at p
/-- what enumerate yields -/
def enD : Nat → List D → List D
  | _, [] => []
  | n, d :: r => .tup [.int n, d] :: enD (n + 1) r
theorem enD_length : ∀ (n : Nat) (ds : List D), (enD n ds).length = ds.length
  | _, [] => rfl
  | n, d :: r => by simp [enD, enD_length (n + 1) r]
theorem enD_get : ∀ (n : Nat) (ds : List D) (i : Nat), (enD n ds)[i]? = ds[i]?.map fun d => .tup [.int (n + i : Nat), d]
  | _, [], i => by simp [enD]
  | n, d :: r, 0 => by simp [enD]
  | n, d :: r, i + 1 => by
    simp only [enD, List.getElem?_cons_succ, enD_get (n + 1) r i]
    rw [show n + 1 + i = n + (i + 1) by omega]
theorem rp_pair {A : Addr → Prop} {H : Hp} {T : Addr} {x y : V} {d e : D} (hA : ∀ a, A a → ∃ o, H a = some o) (hT : H T = none) (r1 : Rp g.K A H x d) (r2 : Rp g.K A H y e) : Grow H (upd H T (.tup [x, y])) ∧ Rp g.K A (upd H T (.tup [x, y])) (.ref T) (.tup [d, e]) := by
  have gr : Grow H (upd H T (.tup [x, y])) := Grow.upd hT
  refine ⟨gr, T, [x, y], rfl, .inl ⟨fun z => ?_, .inl upd_same⟩, x, [y], rfl, Rp.keep (fun _ z => z) (fun a o e _ => gr a o e) _ _ r1, y, [], rfl, Rp.keep (fun _ z => z) (fun a o e _ => gr a o e) _ _ r2, rfl⟩
  obtain ⟨o, e⟩ := hA T z
  rw [hT] at e; cases e
def fEn (a : Ag) : Sl → RE (List D) := fun ρ => (evA [a] ρ).bd fun ds ρ' => match ds with
  | [d] => .of (d.seq.map (enD 0)) (freezeR ρ' (bsOf [a]))
  | _ => .bad
theorem tri_en {t : TA} {f : FE} (h : TrA g W t [.e f]) : TrI g W (iEnA g.K t) (fEn (.e f)) := by
  intro C ρ σ H R j p
  refine h.step j (fun ds ρ1 e1 vs H1 j1 k1 r0 => ?_) (fun x ρ1 e1 cls dd H1 j1 r1 => ?_) (fun e1 => ?_)
  · simp only [fEn, RE.bd, e1] at p
    match ds, evA_len _ _ _ _ e1 with
    | [d], _ =>
      obtain ⟨v, rfl, r1⟩ : ∃ v, vs = [v] ∧ Rp g.K (Av C.Z ρ1 σ) H1 v d := by
        obtain ⟨v, r, e, q, z⟩ := rpBs_rps r0
        rw [show r = [] from z] at e
        exact ⟨v, e, q⟩
      simp only [bsOf, freezeR] at p
      have fin : ∀ {ds : List D} {us : Addr → Hp → List V → Prop} {a : Addr} {J2 : It}, (∀ i (A : Addr → Prop) H2, (∀ a o, H1 a = some o → ¬ Av C.Z ρ1 σ a → H2 a = some o) → (∀ a, (∃ o, H1 a = some o) → A a → Av C.Z ρ1 σ a) → (∀ a, A a → ∃ o, H2 a = some o) →
          (i < ds.length → J2.go i H2 ∧ ∀ x H', J2.yld i H2 x H' → ∃ T y, x = .ref T ∧ H2 T = none ∧ H' = upd H2 T (.tup [.int (i : Nat), y]) ∧ ∀ d', ds[i]? = some d' → Rp g.K A H2 y d') ∧ (ds.length ≤ i → J2.stop i H2)) → ItOk g C J2 (enD 0 ds) ρ1 σ H1 := by
        intro ds us a J2 hh i A H2 k1 k2 k3
        obtain ⟨q1, q2⟩ := hh i A H2 k1 k2 k3
        rw [enD_length]
        refine ⟨fun hi => ⟨(q1 hi).1, fun x H' y => ?_⟩, q2⟩
        obtain ⟨T, z, rfl, hT, rfl, hz⟩ := (q1 hi).2 x H' y
        have rz := hz _ (List.getElem?_eq_getElem hi)
        have pr := rp_pair (g := g) (x := .int (i : Nat)) (d := .int (i : Nat)) k3 hT rfl rz
        refine ⟨pr.1, fun d' hd => ?_⟩
        rw [enD_get, List.getElem?_eq_getElem hi, Nat.zero_add] at hd
        cases hd
        exact pr.2
      have lst : ∀ {ds : List D}, d.ls = some ds → d.seq = some ds → ∃ a xs, [v] = [.ref a] ∧ ((SqL g.K H1 a xs ∧ R (Ite g.K a) H1) ∨ (SqT g.K H1 a xs ∧ R (IteT g.K a) H1)) := fun {ds} e e2 => by
        rw [e2] at p
        obtain ⟨a, vs, rfl, s, r⟩ := Rq.ls (.inl r1) e
        refine ⟨a, vs, rfl, .inl ⟨s, p _ H1 j1 (fin (us := fun _ _ _ => True) (a := a) fun i A H2 k1 k2 k3 => ?_)⟩⟩
        obtain ⟨b, us, e3, s2, r3⟩ := Rq.ls (.inl (Rp.gen (it_keep (C := C) k1 k2) _ _ r1)) e
        cases e3
        refine ⟨fun hi => ?_, fun hi => ⟨us, s2, by rw [r3.length]; exact hi⟩⟩
        have hi' : i < us.length := by rw [r3.length]; exact hi
        refine ⟨⟨us, us[i], s2, by simp [hi']⟩, fun x H3 y => ?_⟩
        obtain ⟨T, z, rfl, hT, rfl, hz⟩ := y
        refine ⟨T, z, rfl, hT, rfl, fun d' hd => ?_⟩
        obtain ⟨d2, e5, r5⟩ := r3.get (hz us s2)
        rw [hd] at e5; cases e5; exact r5
      cases d with
      | lst ds => exact lst rfl rfl
      | frl ds => exact lst rfl rfl
      | tup ds =>
        obtain ⟨a, vs, rfl, s, r⟩ := id r1
        refine ⟨a, vs, rfl, .inr ⟨s.sq, p _ H1 j1 (fin (us := fun _ _ _ => True) (a := a) fun i A H2 k1 k2 k3 => ?_)⟩⟩
        obtain ⟨b, us, e3, s2, r3⟩ : Rp g.K A H2 (.ref a) (.tup ds) := Rp.gen (it_keep (C := C) k1 k2) _ _ r1
        cases e3
        refine ⟨fun hi => ?_, fun hi => ⟨us, s2.sq, by rw [r3.length]; exact hi⟩⟩
        have hi' : i < us.length := by rw [r3.length]; exact hi
        refine ⟨⟨us, us[i], s2.sq, by simp [hi']⟩, fun x H3 y => ?_⟩
        obtain ⟨T, z, rfl, hT, rfl, hz⟩ := y
        refine ⟨T, z, rfl, hT, rfl, fun d' hd => ?_⟩
        obtain ⟨d2, e5, r5⟩ := r3.get (hz us s2.sq)
        rw [hd] at e5; cases e5; exact r5
      | _ => exact p.elim
  · simp only [fEn, RE.bd, e1] at p
    exact p _ _ _ j1 r1
  · simp only [fEn, RE.bd, e1] at p
end
end DL

namespace DL
open PySem PySem.Spec PyProof.Rows L2
/-! ### repr -/
mutual
/-- what repr is asked of: plain data, ints and signs not too great -/
def D.okR : D → Bool
  | .non => true
  | .bl _ => true
  | .int i => decide (i.natAbs < 10 ^ 300)
  | .str x => x.cps.toList.all fun c => decide (c < 16 ^ 8)
  | .tup xs => D.okRs xs
  | .lst xs => D.okRs xs
  | .frl xs => D.okRs xs
  | _ => false
def D.okRs : List D → Bool
  | [] => true
  | d :: r => d.okR && D.okRs r
end
mutual
/-- no text of it is longer -/
def D.sz : D → Nat
  | .non => 4
  | .bl _ => 5
  | .int _ => 302
  | .str x => 10 * x.length + 2
  | .tup xs => D.szs xs + 3
  | .lst xs => D.szs xs + 3
  | .frl xs => D.szs xs + 3
  | _ => 0
def D.szs : List D → Nat
  | [] => 0
  | d :: r => d.sz + 2 + D.szs r
end
mutual
def D.dp : D → Nat
  | .tup xs => D.dps xs + 1
  | .lst xs => D.dps xs + 1
  | .frl xs => D.dps xs + 1
  | _ => 0
def D.dps : List D → Nat
  | [] => 0
  | d :: r => max d.dp (D.dps r)
end
structure ShR (p : PyData) (n k : Nat) : Prop where
  sh : p.showable = true
  nd : p.hasDict = false
  dp : p.depth ≤ k
  ln : p.shown.length ≤ n
structure ShRs (ps : List PyData) (n k : Nat) : Prop where
  sh : PyData.showableAll ps = true
  nd : PyData.hasDictAll ps = false
  dp : PyData.depthAll ps ≤ k
  ln : ((PyData.shownAll ps).map (·.length)).sum + 2 * ps.length ≤ n
theorem ten300 : (10 : Nat) ^ 300 < 2 ^ 1919 := by decide +kernel
theorem small_log {n : Nat} (h : n < 10 ^ 300) : n.log2 < 1920 := by
  by_cases z : n = 0
  · subst z; decide
  · exact Nat.lt_succ_of_lt ((Nat.log2_lt z).mpr (Nat.lt_trans h ten300))
theorem ShRs.seq {ps : List PyData} {n k : Nat} (h : ShRs ps n k) : ShR (.list ps) (n + 3) (k + 1) ∧ ShR (.tuple ps) (n + 3) (k + 1) := by
  have e := PyData.shownAll_length ps
  have l1 := listText_len_le (PyData.shownAll ps)
  have l2 := tupleText_len_le (PyData.shownAll ps)
  have ln := h.ln
  refine ⟨⟨by simp only [PyData.showable]; exact h.sh, by simp only [PyData.hasDict]; exact h.nd, by simp only [PyData.depth]; have := h.dp; omega, ?_⟩, ⟨by simp only [PyData.showable]; exact h.sh, by simp only [PyData.hasDict]; exact h.nd, by simp only [PyData.depth]; have := h.dp; omega, ?_⟩⟩
  · simp only [PyData.shown]; omega
  · simp only [PyData.shown]; omega
mutual
theorem shr_of : ∀ (d : D) (p : PyData), toPy d = some p → d.okR = true → ShR p d.sz d.dp
  | .non, p, e, h => by cases e; exact ⟨rfl, rfl, Nat.zero_le _, Nat.le_refl _⟩
  | .bl b, p, e, h => by
    cases e
    refine ⟨rfl, rfl, Nat.zero_le _, ?_⟩
    cases b <;> decide
  | .int i, p, e, h => by
    cases e
    have h : i.natAbs < 10 ^ 300 := of_decide_eq_true (by simpa only [D.okR] using h)
    refine ⟨by simp only [PyData.showable]; exact decide_eq_true (small_log h), by simp only [PyData.hasDict], by simp [PyData.depth], ?_⟩
    have q := int_text_length_le10 (k := 300) (by decide) h
    show (Str.ofString (toString i)).length ≤ 302
    rw [PySem.ofString_length]; omega
  | .str x, p, e, h => by
    cases e
    have h : ∀ c ∈ x.cps.toList, c < 16 ^ 8 := by simpa only [D.okR, List.all_eq_true, decide_eq_true_eq] using h
    exact ⟨by simp only [PyData.showable], by simp only [PyData.hasDict], by simp [PyData.depth], StrLaws.reprText_len x h⟩
  | .tup xs, p, e, h => by
    simp only [toPy, Option.map_eq_some_iff] at e
    obtain ⟨ps, e1, rfl⟩ := e
    simp only [D.okR] at h
    exact (shrs_of xs ps e1 h).seq.2
  | .lst xs, p, e, h => by
    simp only [toPy, Option.map_eq_some_iff] at e
    obtain ⟨ps, e1, rfl⟩ := e
    simp only [D.okR] at h
    exact (shrs_of xs ps e1 h).seq.1
  | .frl xs, p, e, h => by
    simp only [toPy, Option.map_eq_some_iff] at e
    obtain ⟨ps, e1, rfl⟩ := e
    simp only [D.okR] at h
    exact (shrs_of xs ps e1 h).seq.1
  | .dicK _ _, p, e, h => by cases e
  | .dicT _ _, p, e, h => by cases e
  | .set _, p, e, h => by cases e
  | .opq _, p, e, h => by cases e
theorem shrs_of : ∀ (ds : List D) (ps : List PyData), toPys ds = some ps → D.okRs ds = true → ShRs ps (D.szs ds) (D.dps ds)
  | [], ps, e, h => by cases e; exact ⟨rfl, rfl, Nat.zero_le _, Nat.le_refl _⟩
  | d :: ds, ps, e, h => by
    simp only [toPys] at e
    split at e
    · rename_i p ps e1 e2
      cases e
      simp only [D.okRs, Bool.and_eq_true] at h
      have a := shr_of d p e1 h.1
      have b := shrs_of ds ps e2 h.2
      refine ⟨by simp only [PyData.showableAll, a.sh, b.sh, Bool.and_self], by simp only [PyData.hasDictAll, a.nd, b.nd, Bool.or_self], ?_, ?_⟩
      · have h1 := a.dp; have h2 := b.dp
        simp only [PyData.depthAll, D.dps]; omega
      · have h1 := a.ln; have h2 := b.ln
        simp only [PyData.shownAll, List.map_cons, List.sum_cons, List.length_cons, D.szs]; omega
    · cases e
end
/-- the text -/
def D.shw (d : D) : Str := match toPy d with
  | some p => p.shown
  | none => "{}"
def isE : D → Bool
  | .dicK [] [] => true
  | .dicT [] [] => true
  | _ => false
def reprB : List D → Option D
  | [d] => if (isE d || ((toPy d).isSome && d.okR && decide (d.sz ≤ bigL) && decide (d.dp ≤ 60))) = true then some (.str d.shw) else none
  | _ => none
def rRepr (K : PySem.W.Frag) : List V → Hp → VK → Prop := fun xs H Q => ∃ v, xs = [v] ∧ ((∃ p k, Dp K H v p ∧ ShR p bigL k ∧ k ≤ 60 ∧ Q (.str p.shown) H) ∨ ∃ a, v = .ref a ∧ (H a = some (.dK []) ∨ H a = some (.dT [])) ∧ Q (.str "{}") H)
theorem bi_repr {K : PySem.W.Frag} : BiOk K (rRepr K) reprB := by
  intro Z H vs ds d Q hz hr hb q
  unfold reprB at hb
  split at hb
  · rename_i d'
    obtain ⟨v, rfl, h⟩ := hr.one
    refine ⟨v, rfl, ?_⟩
    split at hb
    · rename_i c
      cases hb
      rw [Bool.or_eq_true] at c
      rcases c with c | c
      · right
        unfold isE at c
        split at c
        · obtain ⟨a, kvs, rfl, s, e, r⟩ := h.dicK
          cases kvs with
          | nil => exact ⟨a, rfl, .inl s, q _ _ Grow.refl rfl⟩
          | cons _ _ => cases e
        · obtain ⟨a, kvs, rfl, s, e, r⟩ := h.dicT
          cases kvs with
          | nil => exact ⟨a, rfl, .inr s, q _ _ Grow.refl rfl⟩
          | cons _ _ => cases e
        · cases c
      · simp only [Bool.and_eq_true, decide_eq_true_eq] at c
        obtain ⟨⟨⟨c1, c2⟩, c3⟩, c4⟩ := c
        obtain ⟨p, e⟩ := Option.isSome_iff_exists.mp c1
        have s := shr_of d' p e c2
        exact .inl ⟨p, d'.dp, h.dp e, ⟨s.sh, s.nd, s.dp, Nat.le_trans s.ln c3⟩, c4, q _ _ Grow.refl (by unfold D.shw; rw [e]; rfl)⟩
    · cases hb
  · cases hb
section
variable {X : Cx}
theorem call_reprD (hu : X.A.units + 64 < cLine) (gd : X.A.guards = some []) : CallR X (.builtin "repr") (rRepr X.K) := by
  intro pins s σ H xs us Q I r h
  obtain ⟨v, rfl, h⟩ := h
  obtain ⟨u, rfl, r2⟩ := vals1 r
  clear r
  have r := r2
  clear r2
  rcases h with ⟨p, k, dp, sh, hk, q⟩ | ⟨a, rfl, hd, q⟩
  · have ln := sh.ln
    rw [bigL_eq] at ln
    have d1 := sh.dp
    obtain ⟨as, rd⟩ := Dp.reads I p v u dp r
    have fin : ∀ {h' : Heap} {t tk : Nat}, (∀ b o, s.heap.get? b = some o → h'.get? b = some o) → EP X pins σ Q (.str p.shown t) { s with heap := h', toks := tk } := fun {h' t tk} kp => ⟨.str p.shown, H, I.kept (t' := tk) kp, ⟨t, rfl⟩, q⟩
    have obj : ∀ {a : Addr}, u = .ref a → wpAny (model X.prog X.w) X.A (call (.builtin "repr") [u]) (EP X pins σ Q) X.xe s := fun {a} e => by
      rw [e] at rd ⊢
      exact repr_of_reads' rd sh.sh (PyData.noDict_hsm sh.nd) gd (by omega) (fun b o e => e) (fun h' t tk kp => fin kp) (hsz := ln)
    cases dp with
    | non => cases (show u = Value.none from r); exact PySem.P.repr_of_none (fin (t := s.toks) (tk := s.toks + 1) fun _ _ e => e)
    | bl b => cases (show u = Value.bool b from r); exact PySem.P.repr_of_bool (fin (t := s.toks) (tk := s.toks + 1) fun _ _ e => e)
    | int i =>
      obtain ⟨t, rfl⟩ := (show ∃ t, u = Value.int i t from r)
      exact PySem.P.repr_of_int (of_decide_eq_true (by have := sh.sh; simpa only [PyData.showable] using this)) (fin (t := s.toks) (tk := s.toks + 1) fun _ _ e => e)
    | str x =>
      obtain ⟨t, rfl⟩ := (show ∃ t, u = Value.str x t from r)
      exact PySem.P.repr_of_str (fin (t := s.toks) (tk := s.toks + 1) fun _ _ e => e) (hsz := ln)
    | lst s a => exact obj r
    | tup s a => exact obj r
  · obtain rfl : u = Value.ref a := r
    have rd : Reads s.heap (.ref a) (.dict []) [a] ∧ (a == sysModules) = false := by
      rcases hd with hd | hd
      · obtain ⟨_, z, vs, kv, o, es, ep, h1, h2, h3, _, h5, _⟩ := (show ObjOk X.prog X.w H s.heap a (.dK []) from I.hok a _ hd)
        cases kv
        have e0 : es.toList = [] := by
          cases e : es.toList with
          | nil => rfl
          | cons y r => rw [e] at h5; cases h5
        refine ⟨.dict (as := []) (bs := []) h1 h2.1 h3 ?_ ?_, z⟩ <;> (rw [e0]; exact .nil)
      · obtain ⟨_, z, xs, kv, o, es, ep, h1, h2, h3, h5, _⟩ := (show ObjOk X.prog X.w H s.heap a (.dT []) from I.hok a _ hd)
        cases kv
        have e0 : es.toList = [] := h5
        refine ⟨.dict (as := []) (bs := []) h1 h2.1 h3 ?_ ?_, z⟩ <;> (rw [e0]; exact .nil)
    obtain ⟨rd, z⟩ := rd
    have e : PyData.shown (.dict []) = ("{}" : Str) := by decide +kernel
    have d1 : X.A.units + ((PyData.dict []).depth + 1) < cLine := by
      have d0 : (PyData.dict []).depth = 1 := by decide
      omega
    refine repr_of_reads' rd (by decide) (fun _ m => ?_) gd d1 (fun b o e => e) (fun h' t tk kp => ?_) (hsz := by rw [e]; decide)
    · have m : sysModules = a := by simpa using m
      rw [m] at z; simp at z
    · rw [e]
      exact ⟨.str "{}", H, I.kept (t' := tk) kp, ⟨t, rfl⟩, q⟩
end
end DL

namespace DL
open PySem PySem.Spec PyProof.Rows L2
section
variable {g : G} {W : WX} {C : JC}
/-! ### zip -/
def zpD : List D → List D → List D
  | x :: xs, y :: ys => .tup [x, y] :: zpD xs ys
  | _, _ => []
theorem zpD_length : ∀ xs ys : List D, (zpD xs ys).length = min xs.length ys.length
  | [], _ => by simp [zpD]
  | _ :: _, [] => by simp [zpD]
  | x :: xs, y :: ys => by simp [zpD, zpD_length xs ys]
theorem zpD_get : ∀ (xs ys : List D) (i : Nat) (x y : D), xs[i]? = some x → ys[i]? = some y → (zpD xs ys)[i]? = some (.tup [x, y])
  | [], _, i, x, y, h, _ => by simp at h
  | _ :: _, [], i, x, y, _, h => by simp at h
  | a :: xs, b :: ys, 0, x, y, h1, h2 => by simp at h1 h2; subst h1 h2; rfl
  | a :: xs, b :: ys, i + 1, x, y, h1, h2 => by
    simp only [List.getElem?_cons_succ] at h1 h2
    simp only [zpD, List.getElem?_cons_succ]
    exact zpD_get xs ys i x y h1 h2
def zipB : List D → Option (List D)
  | [.tup xs, .tup ys] => some (zpD xs ys)
  | [.tup _, _] => none
  | [x, y] => match x.ls, y.ls with
    | some xs, some ys => some (zpD xs ys)
    | _, _ => none
  | _ => none
def fZip (f f' : FE) : Sl → RE (List D) := fun ρ => (evA [.e f, .e f'] ρ).bd fun ds ρ' => .of (zipB ds) ρ'
theorem itok_zip {J2 : It} {xs ys : List D} {ρ1 : Sl} {σ : L2.St} {H1 : Hp} (hh : ∀ i (A : Addr → Prop) H2, (∀ a o, H1 a = some o → ¬ Av C.Z ρ1 σ a → H2 a = some o) → (∀ a, (∃ o, H1 a = some o) → A a → Av C.Z ρ1 σ a) → (∀ a, A a → ∃ o, H2 a = some o) →
      ∃ us vs, Rps g.K A H2 us xs ∧ Rps g.K A H2 vs ys ∧ (∀ u v, us[i]? = some u → vs[i]? = some v → J2.go i H2 ∧ ∀ x H', J2.yld i H2 x H' → ∃ T, x = .ref T ∧ H2 T = none ∧ H' = upd H2 T (.tup [u, v])) ∧ (us.length ≤ i ∨ vs.length ≤ i → J2.stop i H2)) : ItOk g C J2 (zpD xs ys) ρ1 σ H1 := by
  intro i A H2 k1 k2 k3
  obtain ⟨us, vs, r1, r2, q1, q2⟩ := hh i A H2 k1 k2 k3
  rw [zpD_length]
  refine ⟨fun hi => ?_, fun hi => q2 (by rw [r1.length, r2.length]; omega)⟩
  have h1 : i < us.length := by rw [r1.length]; omega
  have h2 : i < vs.length := by rw [r2.length]; omega
  have z := q1 us[i] vs[i] (List.getElem?_eq_getElem h1) (List.getElem?_eq_getElem h2)
  refine ⟨z.1, fun x H' y => ?_⟩
  obtain ⟨T, rfl, hT, rfl⟩ := z.2 x H' y
  obtain ⟨d1, e1, p1⟩ := r1.get (List.getElem?_eq_getElem h1)
  obtain ⟨d2, e2, p2⟩ := r2.get (List.getElem?_eq_getElem h2)
  have pr := rp_pair (g := g) k3 hT p1 p2
  refine ⟨pr.1, fun d' hd => ?_⟩
  rw [zpD_get xs ys i _ _ e1 e2] at hd
  cases hd
  exact pr.2
theorem tri_zip {t : TA} {f f' : FE} (h : TrA g W t [.e f, .e f']) : TrI g W (RZ.iZipA g.K t) (fZip f f') := by
  intro C ρ σ H R j p
  refine h.step j (fun ds ρ1 e1 vs H1 j1 k1 r0 => ?_) (fun x ρ1 e1 cls dd H1 j1 r1 => ?_) (fun e1 => ?_)
  · simp only [fZip, RE.bd, e1] at p
    match ds, evA_len _ _ _ _ e1 with
    | [d, e], _ =>
      obtain ⟨v, u, rfl, rv, ru⟩ : ∃ v u, vs = [v, u] ∧ Rp g.K (Av C.Z ρ1 σ) H1 v d ∧ Rp g.K (Av C.Z ρ1 σ) H1 u e := by
        obtain ⟨v, r, e, q, u, r', e', q', z⟩ := rpBs_rps r0
        rw [show r' = [] from z] at e'
        exact ⟨v, u, by rw [e, e'], q, q'⟩
      have tt : ∀ {xs ys}, d = .tup xs → e = .tup ys → zipB [d, e] = some (zpD xs ys) → ∃ a b us ws, [v, u] = [V.ref a, V.ref b] ∧ ((SqL g.K H1 a us ∧ SqL g.K H1 b ws ∧ R (L2.Itz g.K a b) H1) ∨ (SqT g.K H1 a us ∧ SqT g.K H1 b ws ∧ R (RZ.ItzT g.K a b) H1)) := by
        rintro xs ys rfl rfl ez
        rw [ez] at p
        obtain ⟨a, us, rfl, s1, q1⟩ := id rv
        obtain ⟨b, ws, rfl, s2, q2⟩ := id ru
        refine ⟨a, b, us, ws, rfl, .inr ⟨s1.sq, s2.sq, p _ H1 j1 (itok_zip fun i A H2 k1 k2 k3 => ?_)⟩⟩
        obtain ⟨a', us', e3, s3, q3⟩ : Rp g.K A H2 (.ref a) (.tup xs) := Rp.gen (it_keep (C := C) k1 k2) _ _ rv
        obtain ⟨b', ws', e4, s4, q4⟩ : Rp g.K A H2 (.ref b) (.tup ys) := Rp.gen (it_keep (C := C) k1 k2) _ _ ru
        cases e3; cases e4
        refine ⟨us', ws', q3, q4, fun x y h1 h2 => ⟨⟨us', ws', x, y, s3.sq, s4.sq, h1, h2⟩, fun z H' yl => ?_⟩, fun hs => ⟨us', ws', s3.sq, s4.sq, hs⟩⟩
        obtain ⟨T, x', y', rfl, hT, rfl, z1, z2⟩ := yl
        have w1 := z1 us' s3.sq
        have w2 := z2 ws' s4.sq
        rw [h1] at w1; rw [h2] at w2
        cases w1; cases w2
        exact ⟨T, rfl, hT, rfl⟩
      have ll : ∀ {xs ys}, d.ls = some xs → e.ls = some ys → zipB [d, e] = some (zpD xs ys) → ∃ a b us ws, [v, u] = [V.ref a, V.ref b] ∧ ((SqL g.K H1 a us ∧ SqL g.K H1 b ws ∧ R (L2.Itz g.K a b) H1) ∨ (SqT g.K H1 a us ∧ SqT g.K H1 b ws ∧ R (RZ.ItzT g.K a b) H1)) := by
        intro xs ys e5 e6 ez
        rw [ez] at p
        obtain ⟨a, us, rfl, s1, q1⟩ := Rq.ls (.inl rv) e5
        obtain ⟨b, ws, rfl, s2, q2⟩ := Rq.ls (.inl ru) e6
        refine ⟨a, b, us, ws, rfl, .inl ⟨s1, s2, p _ H1 j1 (itok_zip fun i A H2 k1 k2 k3 => ?_)⟩⟩
        obtain ⟨a', us', e3, s3, q3⟩ := Rq.ls (.inl (Rp.gen (it_keep (C := C) k1 k2) _ _ rv)) e5
        obtain ⟨b', ws', e4, s4, q4⟩ := Rq.ls (.inl (Rp.gen (it_keep (C := C) k1 k2) _ _ ru)) e6
        cases e3; cases e4
        refine ⟨us', ws', q3, q4, fun x y h1 h2 => ⟨⟨us', ws', x, y, s3, s4, h1, h2⟩, fun z H' yl => ?_⟩, fun hs => ⟨us', ws', s3, s4, hs⟩⟩
        obtain ⟨T, x', y', rfl, hT, rfl, z1, z2⟩ := yl
        have w1 := z1 us' s3
        have w2 := z2 ws' s4
        rw [h1] at w1; rw [h2] at w2
        cases w1; cases w2
        exact ⟨T, rfl, hT, rfl⟩
      cases d with
      | tup xs => cases e with
        | tup ys => exact tt rfl rfl rfl
        | _ => exact p.elim
      | lst xs => cases e with
        | lst ys => exact ll rfl rfl rfl
        | frl ys => exact ll rfl rfl rfl
        | _ => exact p.elim
      | frl xs => cases e with
        | lst ys => exact ll rfl rfl rfl
        | frl ys => exact ll rfl rfl rfl
        | _ => exact p.elim
      | _ => cases e <;> exact p.elim
  · simp only [fZip, RE.bd, e1] at p
    exact p _ _ _ j1 r1
  · simp only [fZip, RE.bd, e1] at p
/-! ### {} -/
theorem trn_dic0 : TrN g W tDNewK (fC (.dicK [] [])) := fun C ρ σ H Q j p a hn => by
  refine p a _ (j.plus (o := .dK []) hn) ⟨[], upd_same, rfl, rfl⟩ ?_ ?_
  · cases e : C.H0 a with
    | none => rfl
    | some u =>
      obtain ⟨x, q⟩ := j.ex a u e
      rw [hn] at q; cases q
  · intro z
    obtain ⟨u, e⟩ := j.zSome z
    rw [hn] at e; cases e
/-! ### is True -/
def isBB (n : Bool) : List D → Option D
  | [.bl a, .bl b] => some (.bl (if n then !decide (a = b) else decide (a = b)))
  | _ => none
theorem bi_isB : BiOk g.K (r2 rIsB) (isBB false) := by
  intro Z H vs ds d Q hz hr hb q
  unfold isBB at hb
  split at hb
  · cases hb
    obtain ⟨v, u, rfl, h1, h2⟩ := hr.two
    exact ⟨_, _, h1.bl, h2.bl, q _ _ Grow.refl rfl⟩
  · cases hb
theorem bi_notB : BiOk g.K (r2 rNotB) (isBB true) := by
  intro Z H vs ds d Q hz hr hb q
  unfold isBB at hb
  split at hb
  · cases hb
    obtain ⟨v, u, rfl, h1, h2⟩ := hr.two
    exact ⟨_, _, h1.bl, h2.bl, q _ _ Grow.refl rfl⟩
  · cases hb
/-! ### a, b, c = x, y, z -/
def sPar3 (i k l : Nat) (as : List Ag) : FS := fun ρ => (evA as ρ).bs fun ds ρ1 => match ds with
  | [x, y, z] => .nx (((ρ1.set i (.val x)).set k (.val y)).set l (.val z))
  | _ => .bad
theorem trs_par3 {i k l : Nat} {t : TA} {as : List Ag} (hb : bsOf as = []) (hi : g.m = false ∨ i ≠ 0) (hk : g.m = false ∨ k ≠ 0) (hl : g.m = false ∨ l ≠ 0) (h : TrA g W t as) : TrS g W (tPar3 i k l t) (sPar3 i k l as) := by
  intro C ρ σ H D' j p
  unfold sPar3 at p
  refine h.step j (fun ds ρ1 e1 vs H1 j1 k1 r0 => ?_) (fun x ρ1 e1 cls dd H1 j1 r1 => ?_) (fun e1 => ?_)
  · simp only [RE.bs, e1] at p
    rw [hb] at r0
    have r := rpBs_rps r0
    split at p
    · rename_i x y z
      obtain ⟨u, r', rfl, q1, v, r'', rfl, q2, w, r3, rfl, q3, z⟩ := r
      rw [show r3 = [] from z]
      refine ⟨u, v, w, rfl, p _ _ ?_⟩
      have le : ∀ {m : Nat} {d : D} {u : V} {ρ : Sl} {σ : L2.St} (a : Addr), Av C.Z (ρ.set m (.val d)) (σ.set m (some u)) a → Av C.Z ρ σ a := fun {m d u ρ σ} a z => z.imp id fun z => by
        obtain ⟨n, e, hm, h1, h2⟩ := own_set (d := d) (fun _ z => by cases z) z
        rw [List.getElem?_set_ne (Ne.symm hm)] at h2
        exact ⟨n, e, h1, h2⟩
      have j2 := j1.setV (i := i) hi q1
      have j3 := j2.setV (i := k) hk (Rp.keep le (fun _ _ e _ => e) _ _ q2)
      exact j3.setV hl (Rp.keep (fun a z => le a (le a z)) (fun _ _ e _ => e) _ _ q3)
    · exact p.elim
  · simp only [RE.bs, e1] at p; exact p _ _ _ _ j1 r1
  · simp only [RE.bs, e1] at p; exact p
end
section
variable {s : SC}
theorem di_seq {tg e : Expr} {f : FE} (h : DE s e f) : DI s tg e (fSeq f) := fun W => let ⟨t, q1, q2⟩ := h W; ⟨_, tri_seq q1, fun y fi k => pi_seq (q2 y fi k)⟩
theorem di_en {es : List Expr} {kk : Nat} {e : Expr} {f : FE} {tp p pos : Pos} (hm : s.mg "enumerate" = none) (h : DE s e f) (hg : s.sc.names.lookup ("enumerate" : Str) = some .globalImplicit := by rfl) (hs : ∀ env, starEach [e] env = [(false, eval e env)] := by intro _; rfl) :
    DI s (.Tuple es kk tp) (.Call (.Name "enumerate" p) [e] [] pos) (fEn (.e f)) := fun W =>
  let ⟨t, q1, q2⟩ := h W
  ⟨_, tri_en (tra_cons (a := .e f) q1 tra_nil), fun y fi k => pi_enA hg hm (pa_cons (q2 y fi k) pa_nil (hs _)) (hs _)⟩
theorem di_zip {es : List Expr} {kk : Nat} {e e2 : Expr} {f f' : FE} {tp p pos : Pos} (hm : s.mg "zip" = none) (h : DE s e f) (h' : DE s e2 f') (hg : s.sc.names.lookup ("zip" : Str) = some .globalImplicit := by rfl)
    (hs : ∀ env, starEach [e, e2] env = (false, eval e env) :: starEach [e2] env := by intro _; rfl) (hs2 : ∀ env, starEach [e2] env = (false, eval e2 env) :: starEach [] env := by intro _; rfl) (hpl : ∀ env, (backTo pos (starEach [e2] env)).any (·.1) = false := by intro _; rfl) :
    DI s (.Tuple es kk tp) (.Call (.Name "zip" p) [e, e2] [] pos) (fZip f f') := fun W =>
  let ⟨t, q1, q2⟩ := h W; let ⟨u, q3, q4⟩ := h' W
  ⟨_, tri_zip (tra_cons (a := .e f) q1 (tra_cons (a := .e f') q3 tra_nil)), fun y fi k => RZ.pi_zipA hg hm (pa_cons (q2 y fi k) (pa_cons (q4 y fi k) pa_nil (hs2 _)) (hs _)) (hs _) (hpl _)⟩
theorem de_repr {e : Expr} {a : Ag} {p pos : Pos} (hm : s.mg "repr" = none) (h : DAg s e a) (hv : bootBuiltins "repr" = some (.builtin "repr") := by decide +kernel) (hg : s.sc.names.lookup ("repr" : Str) = some .globalImplicit := by rfl)
    (hs : ∀ env, starEach [e] env = (false, eval e env) :: starEach [] env := by intro _; rfl) (hpl : ∀ env, (backTo pos (starEach [] env)).any (·.1) = false := by intro _; rfl) : DE s (.Call (.Name "repr" p) [e] [] pos) (fApp reprB [a]) := fun W =>
  let ⟨t, q1, q2⟩ := h W
  ⟨_, tr_app bi_repr (tra_cons q1 tra_nil), fun y i k => pe_callB (call_reprD i.un i.gd) hg hm hv (pa_cons (q2 y i k) pa_nil (hs _)) (by decide) (by decide) (hs _) (hpl _)⟩
theorem dn_dic0 {pos : Pos} : DN s (.Dict [] [] pos) (fC (.dicK [] [])) := fun W => ⟨_, trn_dic0, fun y i k => pe_dnewK⟩
section
variable {x z : Expr} {a c : Ag} {pos : Pos} (h1 : DAg s x a) (h2 : DAg s z c)
include h1 h2
theorem de_isB : DE s (.Compare x [.Is] [z] pos) (fApp (isBB false) [a, c]) := de_cmp (fun y _ => op_isBl) (bi_isB (g := s.g)) (nomark _) h1 h2
theorem de_isnotB : DE s (.Compare x [.IsNot] [z] pos) (fApp (isBB true) [a, c]) := de_cmp (fun y _ => op_notBl) (bi_notB (g := s.g)) (nomark _) h1 h2
theorem dt_isB : DT s (.Compare x [.Is] [z] pos) (fT (fApp (isBB false) [a, c])) := dt_cmp (fun y _ => op_isBl) (bi_isB (g := s.g)) (nomark _) h1 h2
theorem dt_isnotB : DT s (.Compare x [.IsNot] [z] pos) (fT (fApp (isBB true) [a, c])) := dt_cmp (fun y _ => op_notBl) (bi_notB (g := s.g)) (nomark _) h1 h2
end
theorem ds_par3 {i k l : Nat} {x y z : Str} {e1 e2 e3 : Expr} {as : List Ag} {px py pz pt pt2 pos : Pos} {kt k2} (h1 : St1 s i x) (h2 : St1 s k y) (h3 : St1 s l z) (ha : DA s [e1, e2, e3] as)
    (hw : ∀ v, swappedStores [.Tuple [.Name x px, .Name y py, .Name z pz] kt pt] (.Tuple [e1, e2, e3] k2 pt2) (s.cx v).env = pure (some [x, y, z])) (hb : bsOf as = [] := by rfl) (hik : i ≠ k := by decide) (hil : i ≠ l := by decide) (hkl : k ≠ l := by decide)
    (hx : s.sc.names.lookup x = some .local := by rfl) (hy : s.sc.names.lookup y = some .local := by rfl) (hz : s.sc.names.lookup z = some .local := by rfl) (hc : s.calm = true := by rfl)
    (hs : ∀ env, swapsWithSole [.Tuple [.Name x px, .Name y py, .Name z pz] kt pt] (.Tuple [e1, e2, e3] k2 pt2) pos.line env = pure false := by intro _; rfl) :
    DS s (.Assign [.Tuple [.Name x px, .Name y py, .Name z pz] kt pt] (.Tuple [e1, e2, e3] k2 pt2) pos) (sPar3 i k l as) := fun W =>
  let ⟨t, q1, q2⟩ := ha W
  ⟨_, trs_par3 hb h1.m h2.m h3.m q1, fun v fi kk => ps_par3 hc h1.nd h1.ix h2.ix h3.ix hik hil hkl hx hy hz (q2 v fi kk) (hw v) (hs _)⟩
end
end DL

namespace DL
open PySem PySem.Spec PyProof.Rows L2
/-! ### defs that give a new container -/
def PostFN (K : PySem.W.Frag) (mg : Str → Option Value) (Z : Addr → Prop) (H : Hp) (Q : VK) (E : XK) : RF → Prop
  | .ok d => ∀ a H', Grow H H' → H a = none → Tp K (fun b => Z b ∨ b = a) H' a d → Q (.ref a) H'
  | .ex x => ∀ cls dd H', Grow H H' → ExR K mg x cls dd H' → E cls dd H'
  | .bad => False
def spN (K : PySem.W.Frag) (mg : Str → Option Value) (n : Nat) (F : List D → RF) : Sp := fun vs H Q E => vs.length = n ∧ ∃ Z ds, (∀ a, Z a → ∃ o, H a = some o) ∧ Rps K Z H vs ds ∧ PostFN K mg Z H Q E (F ds)
section
variable {g : G} {W : WX} {C : JC} {ρ ρ' : Sl} {σ σ' : L2.St} {H H' : Hp}
theorem J.plusG (j : J g C ρ σ H) {a : Addr} (gr : Grow H H') (ha : H a = none) (hs : ∃ o, H' a = some o) : J g (C.plus a) ρ σ H' := by
  have st : ∀ b, ¬ Av C.Z ρ σ b → (∃ o, H b = some o) → ¬ Av (C.plus a).Z ρ σ b ∧ ∀ u, H b = some u → H' b = some u := fun b n e => by
    have nb : b ≠ a := fun z => by obtain ⟨u, e⟩ := e; rw [z, ha] at e; cases e
    refine ⟨fun z => ?_, fun u e => gr b u e⟩
    rcases z with (z | z) | z
    · exact n (.inl z)
    · exact nb z
    · exact n (.inr z)
  refine ⟨j.len, fun i s h => ?_, j.inj, fun b u e n => gr b u (j.ext b u e n), fun b u e => (j.ex b u e).imp fun x q => gr b x q, fun b z => ?_, j.br, j.tab.ext gr, fun p hp => .inl (j.tz p hp), j.tr, j.gt, (j.hb.to fun _ _ _ b u _ q => gr b u q).zs rfl rfl fun B z e b zb => zb.imp id fun zb => .inl (by
    cases q : B b with
    | none => rfl
    | some u => have w := ((j.hb B z e).2.1 b u q).1; rw [zb, ha] at w; cases w)⟩
  · have q := j.slot i s h
    cases s with
    | emp => trivial
    | exc => exact q
    | val d =>
      obtain ⟨v, h1, h2⟩ := q
      exact ⟨v, h1, Rp.gen st _ _ h2⟩
    | own d =>
      obtain ⟨b, h1, h2, h3⟩ := q
      exact ⟨b, h1, h2.gen st (fun u e => gr b u e), h3⟩
  · rcases z with z | z
    · exact ⟨(j.zSome z).imp fun u e => gr b u e, (j.zin b z).2⟩
    · subst z
      refine ⟨hs, fun z => ?_⟩
      obtain ⟨i, d, h1, h2, h3, h4⟩ := j.ownTop z
      obtain ⟨u, e⟩ := h3.some
      rw [ha] at e; cases e
def fCallN (F : List D → RF) (as : List Ag) : FE := fun ρ => (evA as ρ).bd fun ds ρ1 => match F ds with
  | .ok d => .ok d (freezeR ρ1 (bsOf as))
  | .ex x => .ex x ρ1
  | .bad => .bad
theorem trn_callN {F : List D → RF} {t : TA} {as : List Ag} (ha : TrA g W t as) (n : Nat) (hn : as.length = n) : TrN g W (tCallS (spN g.K g.mg n F) (WE W) t) (fCallN F as) := by
  intro C ρ σ H Q j p
  refine ha.step j (fun ds ρ1 e1 vs H1 j1 k1 r1 => ?_) (fun x ρ1 e1 cls dd H1 j1 r1 => ?_) (fun e1 => ?_)
  · simp only [fCallN, RE.bd, e1] at p
    have jf := j1.freezes (bsOf as)
    have rf := rpBs_freeze j1 r1
    refine ⟨by rw [rf.length, evA_len _ _ _ _ e1, hn], Av C.Z (freezeR ρ1 (bsOf as)) σ, ds, fun a z => jf.avSome z, rf, ?_⟩
    cases e2 : F ds with
    | bad => simp only [e2] at p; exact p.elim
    | ex x => simp only [e2] at p; exact fun cls dd H' gr r => p cls dd H' (j1.grow gr) r
    | ok d =>
      simp only [e2] at p
      intro a H' gr hn tp
      refine p a H' (jf.plusG gr hn tp.some) (tp.keep (fun b z => ?_) (fun _ _ e _ => e) fun _ e => e) ?_ ?_
      · rcases z with (z | z) | z
        · exact .inl (.inl z)
        · exact .inr z
        · exact .inl (.inr z)
      · cases e : C.H0 a with
        | none => rfl
        | some u =>
          obtain ⟨x, q⟩ := jf.ex a u e
          rw [hn] at q; cases q
      · intro z
        obtain ⟨u, e⟩ := jf.zSome z
        rw [hn] at e; cases e
  · simp only [fCallN, RE.bd, e1] at p
    exact p _ _ _ j1 r1
  · simp only [fCallN, RE.bd, e1] at p
    exact p
/-- a body that ends in return [..] -/
def PostNs (g : G) (W : WX) (C : JC) (D' : Ends) : RE D → Prop
  | .ok d ρ' => ∀ a σ H', J g (C.plus a) ρ' σ H' → Tp g.K (Av (C.plus a).Z ρ' σ) H' a d → C.H0 a = none → ¬ C.Z a → D'.rt (.ref a) H'
  | .ex x ρ' => ∀ cls dd σ H', J g C ρ' σ H' → ExR g.K g.mg x cls dd H' → W cls dd σ H'
  | .bad => False
def TrNs (g : G) (W : WX) (t : TS) (f : FE) : Prop := ∀ C ρ σ H D', J g C ρ σ H → PostNs g W C D' (f ρ) → t D' σ H
theorem trns_ret {t : TE} {f : FE} (h : TrN g W t f) : TrNs g W (tRet t) f := fun C ρ σ H D' j p => h C ρ σ H _ j (by
  cases e : f ρ with
  | ok d ρ' => rw [e] at p; exact fun a H' => p a σ H'
  | ex x ρ' => rw [e] at p; exact fun cls dd H' => p cls dd σ H'
  | bad => rw [e] at p; exact p)
def sSeqN (f : FS) (f' : FE) : FE := fun ρ => match f ρ with
  | .nx ρ1 => f' ρ1
  | .ex x ρ1 => .ex x ρ1
  | _ => .bad
theorem trns_cons {t u : TS} {f : FS} {f' : FE} (h : TrS g W t f) (h' : TrNs g W u f') : TrNs g W (tSeq t u) (sSeqN f f') := by
  intro C ρ σ H D' j p
  refine h C ρ σ H _ j ?_
  unfold sSeqN at p
  cases e : f ρ with
  | nx ρ' => rw [e] at p; exact fun σ1 H1 j1 => h' C ρ' σ1 H1 D' j1 p
  | ex x ρ' => rw [e] at p; exact fun cls dd σ1 H1 j1 r => p cls dd σ1 H1 j1 r
  | rt d ρ' => rw [e] at p; exact p.elim
  | bk ρ' => rw [e] at p; exact p.elim
  | ct ρ' => rw [e] at p; exact p.elim
  | bad => rw [e] at p; exact p.elim
def runN (n : Nat) (b : FE) : List D → RF := fun ds => match b (rho0 n ds) with
  | .ok d _ => .ok d
  | .ex x _ => .ex x
  | .bad => .bad
theorem body_N {K : PySem.W.Frag} {mg : Str → Option Value} {N : List Str} {n : Nat} {t : TS} {b : FE} {vs : List V} {Q : VK} {E : XK} (hn : n ≤ N.length) (hsp : spN K mg n (runN N.length b) vs H Q E) (h : TrNs ⟨K, mg, false, none, [], none⟩ (fun cls d _ H => E cls d H) t b) :
    t { nx := fun _ H' => Q .non H', rt := Q } (L2.start N vs) H := by
  obtain ⟨hl, Z, ds, hz, r, p⟩ := hsp
  have j := J.entry (mg := mg) (N := N) (by omega) hz r
  refine h _ _ _ H _ j ?_
  unfold runN at p
  cases e : b (rho0 N.length ds) with
  | ok d ρ =>
    rw [e] at p
    exact fun a σ H' k tp h0 nz => p a H' (fun b o e => k.ext b o e fun z => z) h0 (tp.keep (fun _ z => .inl z) (fun _ _ e _ => e) fun _ e => e)
  | ex x ρ => rw [e] at p; exact fun cls dd σ H' k r => p cls dd H' (fun b o e => k.ext b o e fun z => z) r
  | bad => rw [e] at p; exact p.elim
end
section
variable (s : SC)
def DNs (sts : List Stmt) (f : FE) : Prop := ∀ W, ∃ t, TrNs s.g W t f ∧ ∀ y, Fit s y → Takes (s.cx y) W → PSs (s.cx y) sts t
end
section
variable {s : SC}
theorem dns_ret {e : Expr} {f : FE} {pos : Pos} (h : DN s e f) : DNs s [.Return (some e) pos] f := fun W => let ⟨t, q1, q2⟩ := h W; ⟨_, trns_ret q1, fun y i k => pss_one (ps_ret (q2 y i k))⟩
theorem dns_cons {st : Stmt} {r : List Stmt} {f : FS} {f' : FE} (h : DS s st f) (h' : DNs s r f') : DNs s (st :: r) (sSeqN f f') := fun W =>
  let ⟨t, q1, q2⟩ := h W; let ⟨u, q3, q4⟩ := h' W
  ⟨_, trns_cons q1 q3, fun y i k => pss_cons (q2 y i k) (q4 y i k)⟩
theorem dn_callN {x : Str} {ps : List Str} {k n : Nat} {F : List D → RF} {e : Expr} {es : List Expr} {as : List Ag} {p pos : Pos} (C : Cal s.P s.w s.K s.mg s.base x k ps (spN s.K s.mg n F))
    (ha : DA s (e :: es) as) (hn : as.length = n := by rfl) (hkk : k ≤ s.k := by exact Nat.le_of_ble_eq_true rfl) (hc : s.calm = true := by rfl) (hg : s.sc.names.lookup x = some .globalImplicit := by rfl) (hdb : (x == ("__debug__" : Str)) = false := by decide)
    (he : ∀ env, starEach (e :: es) env = (false, eval e env) :: starEach es env := by intro _; rfl) (hpl : ∀ env, (backTo pos (starEach es env)).any (·.1) = false := by intro _; rfl) : DN s (.Call (.Name x p) (e :: es) [] pos) (fCallN F as) := fun W =>
  let ⟨t, q1, q2⟩ := ha W; let ⟨_, _, G, hm, hk, hb⟩ := C
  ⟨_, trn_callN q1 n hn, fun y i kk => pe_callG G i.gd ((i.room.resolve_right (by rw [hc]; decide)).mono hkk) hg hm hk hb (fun σ => passAt kk σ) (q2 y i kk) hdb (he _) (hpl _)⟩
end
section
variable {P : Program} {w : World} {K : PySem.W.Frag} {mg : Str → Option Value} {base : Heap}
theorem fn_N {x : Str} {pa : Arguments} {body : List Stmt} {scope : Scope} {f : Addr} {fd : FuncData} {N ps : List Str} {k : Nat} {b : FE} (F : FunD K x x pa body scope [] [] f fd) (hm : mg x = some (.ref f)) (S : FnScope N ps scope) (h : DNs (scOf P w K mg base N scope k false) body b)
    (hb : ∀ (kV doc pm : Value) (an : Option Addr) (cd ct : Value) (us : List Value), us.length = ps.length → bindArgs (PySem.W.fnOf x x pa body scope .none kV doc pm an cd ct) ⟨us, []⟩ = pure (ps.zip us)) (hn : ps.length ≤ N.length := by decide) :
    Cal P w K mg base x (k + 1) ps (spN K mg ps.length (runN N.length b)) :=
  ⟨f, fd, fn_mkG F S (fun vs H Q E q => q.1) fun cdv A outer s0 H vs Q E gd hr hsp =>
    let ⟨t, q1, q2⟩ := h (fun cls d _ H => E cls d H)
    ⟨t, q2 _ (fit_of gd hr) (takes_of rfl rfl rfl rfl), body_N hn hsp q1⟩, hm, F.kp, F.bindsN hb⟩
/-- nothing promised (a recursion's bottom) -/
theorem fn_0 {x : Str} {pa : Arguments} {body : List Stmt} {scope : Scope} {f : Addr} {fd : FuncData} {ps : List Str} {k n : Nat} (F : FunD K x x pa body scope [] [] f fd) (hm : mg x = some (.ref f))
    (hb : ∀ (kV doc pm : Value) (an : Option Addr) (cd ct : Value) (us : List Value), us.length = ps.length → bindArgs (PySem.W.fnOf x x pa body scope .none kV doc pm an cd ct) ⟨us, []⟩ = pure (ps.zip us)) :
    Cal P w K mg base x k ps (spP K mg n fun _ => .bad) :=
  ⟨f, fd, ⟨fun vs H Q E ⟨_, _, _, _, _, z⟩ => z.elim, fun A outer st H ar us vs Q E gd hr e b r ⟨_, _, _, _, _, z⟩ => z.elim⟩, hm, F.kp, F.bindsN hb⟩
end
end DL

namespace DL
open PySem PySem.Spec PyProof.Rows L2
/-! ### a product with tuples -/
def mulC (ds : List D) : Option D := match ds with
  | [.tup xs, .int k] => if (decide (2 ≤ k) && decide (k ≤ 1000) && decide (0 < xs.length) && decide (xs.length ≤ 1000)) = true then some (.tup (repL xs k.toNat)) else none
  | _ => mulB ds
theorem bi_mulC {K : PySem.W.Frag} : BiOk K (r2 fun x y H Q => mulR K x y H Q ∨ rRepT K x y H Q) mulC := by
  intro Z H vs ds d Q hz hr hb q
  unfold mulC at hb
  split at hb
  · rename_i xs k
    obtain ⟨v, u, rfl, h1, h2⟩ := hr.two
    split at hb
    · rename_i c
      simp only [Bool.and_eq_true, decide_eq_true_eq] at c
      obtain ⟨⟨⟨c1, c2⟩, c3⟩, c4⟩ := c
      cases hb
      obtain ⟨a, ws, rfl, s, r⟩ := h1.tup
      refine .inr ⟨a, k, ws, rfl, h2.int, s.sq, ?_, c1, c2, by rw [r.length]; exact c4, fun p hp => q _ _ (Grow.upd hp) ⟨p, _, rfl, .inl ⟨fun z => ?_, .inl upd_same⟩, ?_⟩⟩
      · intro e; rw [e] at r; have := r.length; simp at this; omega
      · obtain ⟨o, e⟩ := hz p z
        rw [hp] at e; cases e
      · exact Rps.keep (fun _ z => z) (fun b o e _ => Grow.upd hp b o e) _ _ (rps_rep r k.toNat)
    · cases hb
  · have z := bi_mul (K := K) Z H vs ds d Q hz hr hb q
    obtain ⟨v, u, rfl⟩ : ∃ v u, vs = [v, u] := by
      match vs, z with
      | [v, u], _ => exact ⟨v, u, rfl⟩
    exact .inl z
section
variable {s : SC} {e : Expr} {es : List Expr} {as : List Ag} {p pos : Pos}
theorem de_mulC {x z : Expr} {a c : Ag} {pos : Pos} (h1 : DAg s x a) (h2 : DAg s z c) : DE s (.BinOp x .Mult z pos) (fApp mulC [a, c]) := de_bin (fun y => op_mulD.or op_repT) bi_mulC h1 h2
/-! ### built-ins by name -/
theorem de_len (hm : s.mg "len" = none) (ha : DA s (e :: es) as) (hg : s.sc.names.lookup ("len" : Str) = some .globalImplicit := by rfl) (he : ∀ env, starEach (e :: es) env = (false, eval e env) :: starEach es env := by intro _; rfl) (hpl : ∀ env, (backTo pos (starEach es env)).any (·.1) = false := by intro _; rfl) : DE s (.Call (.Name "len" p) (e :: es) [] pos) (fApp lenS as) := de_blt (fun _ => DL.call_lenD) bi_len hm boot_len ha hg (by decide) (by decide) he hpl
theorem de_abs (hm : s.mg "abs" = none) (ha : DA s (e :: es) as) (hg : s.sc.names.lookup ("abs" : Str) = some .globalImplicit := by rfl) (he : ∀ env, starEach (e :: es) env = (false, eval e env) :: starEach es env := by intro _; rfl) (hpl : ∀ env, (backTo pos (starEach es env)).any (·.1) = false := by intro _; rfl) : DE s (.Call (.Name "abs" p) (e :: es) [] pos) (fApp absB as) := de_blt (fun _ => call_abs) bi_abs hm boot_abs ha hg (by decide) (by decide) he hpl
theorem de_sum (hm : s.mg "sum" = none) (ha : DA s (e :: es) as) (hc : s.calm = true := by rfl) (hg : s.sc.names.lookup ("sum" : Str) = some .globalImplicit := by rfl) (he : ∀ env, starEach (e :: es) env = (false, eval e env) :: starEach es env := by intro _; rfl) (hpl : ∀ env, (backTo pos (starEach es env)).any (·.1) = false := by intro _; rfl) : DE s (.Call (.Name "sum" p) (e :: es) [] pos) (fApp sumB as) := de_blt (fun _ => cr_sum hc) bi_sum hm boot_sum ha hg (by decide) (by decide) he hpl
theorem de_max (hm : s.mg "max" = none) (ha : DA s (e :: es) as) (hc : s.calm = true := by rfl) (hg : s.sc.names.lookup ("max" : Str) = some .globalImplicit := by rfl) (he : ∀ env, starEach (e :: es) env = (false, eval e env) :: starEach es env := by intro _; rfl) (hpl : ∀ env, (backTo pos (starEach es env)).any (·.1) = false := by intro _; rfl) : DE s (.Call (.Name "max" p) (e :: es) [] pos) (fApp maxB as) := de_blt (fun _ => call_maxD hc) bi_max hm boot_max ha hg (by decide) (by decide) he hpl
theorem de_min (hm : s.mg "min" = none) (ha : DA s (e :: es) as) (hc : s.calm = true := by rfl) (hg : s.sc.names.lookup ("min" : Str) = some .globalImplicit := by rfl) (he : ∀ env, starEach (e :: es) env = (false, eval e env) :: starEach es env := by intro _; rfl) (hpl : ∀ env, (backTo pos (starEach es env)).any (·.1) = false := by intro _; rfl) : DE s (.Call (.Name "min" p) (e :: es) [] pos) (fApp minB as) := de_blt (fun _ => call_minD hc) bi_min hm boot_min ha hg (by decide) (by decide) he hpl
theorem de_all (hm : s.mg "all" = none) (ha : DA s (e :: es) as) (hc : s.calm = true := by rfl) (hg : s.sc.names.lookup ("all" : Str) = some .globalImplicit := by rfl) (he : ∀ env, starEach (e :: es) env = (false, eval e env) :: starEach es env := by intro _; rfl) (hpl : ∀ env, (backTo pos (starEach es env)).any (·.1) = false := by intro _; rfl) : DE s (.Call (.Name "all" p) (e :: es) [] pos) (fApp allB as) := de_blt (fun _ => cr_all hc) bi_all hm boot_all ha hg (by decide) (by decide) he hpl
theorem de_any (hm : s.mg "any" = none) (ha : DA s (e :: es) as) (hc : s.calm = true := by rfl) (hg : s.sc.names.lookup ("any" : Str) = some .globalImplicit := by rfl) (he : ∀ env, starEach (e :: es) env = (false, eval e env) :: starEach es env := by intro _; rfl) (hpl : ∀ env, (backTo pos (starEach es env)).any (·.1) = false := by intro _; rfl) : DE s (.Call (.Name "any" p) (e :: es) [] pos) (fApp anyB as) := de_blt (fun _ => cr_any hc) bi_any hm boot_any ha hg (by decide) (by decide) he hpl
theorem dn_sorted (hm : s.mg "sorted" = none) (ha : DA s (e :: es) as) (hg : s.sc.names.lookup ("sorted" : Str) = some .globalImplicit := by rfl) (he : ∀ env, starEach (e :: es) env = (false, eval e env) :: starEach es env := by intro _; rfl) (hpl : ∀ env, (backTo pos (starEach es env)).any (·.1) = false := by intro _; rfl) : DN s (.Call (.Name "sorted" p) (e :: es) [] pos) (fApp sortedB as) := dn_blt (fun _ => cr_sortedI) bn_sorted hm boot_sorted ha hg (by decide) (by decide) he hpl
theorem de_int1 (hm : s.mg "int" = none) (ha : DA s (e :: es) as) (hg : s.sc.names.lookup ("int" : Str) = some .globalImplicit := by rfl) (he : ∀ env, starEach (e :: es) env = (false, eval e env) :: starEach es env := by intro _; rfl) (hpl : ∀ env, (backTo pos (starEach es env)).any (·.1) = false := by intro _; rfl) : DE s (.Call (.Name "int" p) (e :: es) [] pos) (fApp intB as) := de_bty (fun _ => call_int1) bi_int hm PyProof.Rows.boot_int ha hg (by decide) (by decide) he hpl
theorem de_tuple (hm : s.mg "tuple" = none) (ha : DA s (e :: es) as) (hg : s.sc.names.lookup ("tuple" : Str) = some .globalImplicit := by rfl) (he : ∀ env, starEach (e :: es) env = (false, eval e env) :: starEach es env := by intro _; rfl) (hpl : ∀ env, (backTo pos (starEach es env)).any (·.1) = false := by intro _; rfl) : DE s (.Call (.Name "tuple" p) (e :: es) [] pos) (fApp tupleB as) := de_bty (fun _ => call_tupleD) bi_tuple hm PyProof.Rows.boot_tuple ha hg (by decide) (by decide) he hpl
theorem dn_list (hm : s.mg "list" = none) (ha : DA s (e :: es) as) (hg : s.sc.names.lookup ("list" : Str) = some .globalImplicit := by rfl) (he : ∀ env, starEach (e :: es) env = (false, eval e env) :: starEach es env := by intro _; rfl) (hpl : ∀ env, (backTo pos (starEach es env)).any (·.1) = false := by intro _; rfl) : DN s (.Call (.Name "list" p) (e :: es) [] pos) (fApp listB as) := dn_bty (fun _ => call_list_of) bn_list hm PyProof.Rows.boot_list ha hg (by decide) (by decide) he hpl
end
end DL

namespace DL
open PySem PySem.Spec PyProof.Rows L2
/-! ### sum of a tuple -/
def small (i : Int) : Bool := decide (i.natAbs < 4294967296)
theorem sum_bound : ∀ (ns : List Int), ns.all small = true → (ns.sum).natAbs ≤ ns.length * 4294967296
  | [], _ => by simp
  | n :: r, h => by
    simp only [List.all_cons, Bool.and_eq_true] at h
    have a := sum_bound r h.2
    have b : n.natAbs < 4294967296 := of_decide_eq_true h.1
    simp only [List.sum_cons, List.length_cons]
    omega
theorem preSum_take (ns : List Int) : ∀ j, j ≤ ns.length → preSum (fun i => ns.getD i 0) j = (ns.take j).sum
  | 0, _ => by simp [preSum]
  | j + 1, h => by
    have hj : j < ns.length := h
    rw [preSum, preSum_take ns j (by omega), ← List.take_append_getElem hj, List.sum_append]
    simp [hj]
def rSumT (K : PySem.W.Frag) : List V → Hp → VK → Prop := fun vs H Q => ∃ (a : Addr) (ns : List Int), vs = [V.ref a] ∧ SqT K H a (ns.map V.int) ∧ ns.all small = true ∧ ns.length ≤ 1048576 ∧ Q (.int ns.sum) H
theorem cr_sumT {X : Cx} (hc : X.calm = true) : CallR X (.builtin "sum") (rSumT X.K) := by
  intro pins s σ H vs us Q I r h
  obtain ⟨a, ns, rfl, hs, sm, hl, q⟩ := h
  obtain ⟨its, rv, p, _⟩ := I.tuple hs
  rw [Vals.ref1 r]
  have len : its.length = ns.length := by have := rv.length; simp at this; exact this.symm
  have ht : s.heap.IsTuple a its.toArray := p
  have lt : a < s.heap.objs.size := by obtain ⟨o, ho, _⟩ := id ht; exact Heap.lt_size ho
  refine call_sum_walk (wpAny_pyIter_tuple ht ⟨s.heap.objs.size, [s.heap.objs.size, a], [s.heap.objs.size], its.toArray.size, _, _, fun i => ns.getD i 0, rfl, Walks.tuple (A := X.A.in1) (I.ok.hd hc) _ a (Nat.ne_of_lt lt) its.toArray, ?_, ?_, ?_, ?_, ?_⟩)
  · exact ⟨⟨_, Heap.get?_push_size _ rfl, rfl, rfl⟩, ht.push _⟩
  · intro b hb
    rw [Heap.size_push]
    rcases (by simpa using hb : b = s.heap.objs.size ∨ b = a) with rfl | rfl
    · exact Nat.lt_succ_self _
    · exact Nat.lt_succ_of_lt lt
  · intro i v hv
    have hv' : its[i]? = some v := by simpa using hv
    have hi : i < ns.length := by rw [← len]; exact (List.getElem?_eq_some_iff.mp hv').1
    obtain ⟨u, hu, ru⟩ := rv.get (i := i) (x := .int ns[i]) (by simp [hi])
    rw [hu] at hv'
    have uv : u = v := Option.some.inj hv'
    subst uv
    obtain ⟨t, rfl⟩ := (show ∃ t, u = Value.int ns[i] t from ru)
    exact ⟨t, by simp [hi]⟩
  · intro j hj
    have hj : j < ns.length := by rw [← len]; simpa using hj
    have b1 : (ns[j]).natAbs < 4294967296 := of_decide_eq_true (List.all_eq_true.mp sm _ (List.getElem_mem hj))
    have b2 := sum_bound (ns.take (j + 1)) (List.all_eq_true.mpr fun x hx => List.all_eq_true.mp sm x (List.mem_of_mem_take hx))
    rw [List.length_take] at b2
    have b3 : (ns.take (j + 1)).sum.natAbs ≤ 1048576 * 4294967296 := Nat.le_trans b2 (Nat.mul_le_mul_right _ (by omega))
    refine ⟨?_, ?_⟩
    · simp only [List.getD_eq_getElem?_getD, List.getElem?_eq_getElem hj, Option.getD_some]
      unfold InLong; omega
    · rw [preSum_take ns (j + 1) hj]
      unfold InLong; omega
  · intro h' tk t' hk
    rw [show its.toArray.size = ns.length by simp [len], preSum_take ns ns.length (Nat.le_refl _), List.take_length]
    exact ⟨.int ns.sum, H, I.kept (t' := tk) fun b o e => hk b o (by simpa using Nat.ne_of_lt (Heap.lt_size e)) (Heap.get?_push_of_some _ e), ⟨_, rfl⟩, q⟩
def sumA : List D → Option D
  | [.tup xs] => (intsD xs).bind fun ns => if (ns.all small && decide (ns.length ≤ 1048576)) = true then some (.int ns.sum) else none
  | ds => sumB ds
theorem bi_sumA {K : PySem.W.Frag} : BiOk K (fun vs H Q => rSum K vs H Q ∨ rSumT K vs H Q) sumA := by
  intro Z H vs ds d Q hz hr hb q
  unfold sumA at hb
  split at hb
  · rename_i xs
    obtain ⟨v, rfl, h⟩ := hr.one
    obtain ⟨a, ws, rfl, s, r⟩ := h.tup
    rw [Option.bind_eq_some_iff] at hb
    obtain ⟨ns, e1, hb⟩ := hb
    split at hb
    · rename_i c
      simp only [Bool.and_eq_true, decide_eq_true_eq] at c
      cases hb
      exact .inr ⟨a, ns, rfl, by rw [← rps_ints e1 r]; exact s.sq, c.1, c.2, q _ _ Grow.refl rfl⟩
    · cases hb
  · exact .inl (bi_sum (K := K) Z H vs ds d Q hz hr hb q)
theorem de_sumA {s : SC} {e : Expr} {es : List Expr} {as : List Ag} {p pos : Pos} (hm : s.mg "sum" = none) (ha : DA s (e :: es) as) (hc : s.calm = true := by rfl) (hg : s.sc.names.lookup ("sum" : Str) = some .globalImplicit := by rfl) (he : ∀ env, starEach (e :: es) env = (false, eval e env) :: starEach es env := by intro _; rfl) (hpl : ∀ env, (backTo pos (starEach es env)).any (·.1) = false := by intro _; rfl) :
    DE s (.Call (.Name "sum" p) (e :: es) [] pos) (fApp sumA as) := de_blt (fun _ => (cr_sum hc).or (cr_sumT hc)) bi_sumA hm boot_sum ha hg (by decide) (by decide) he hpl
end DL

namespace DL
open PySem PySem.Spec PyProof.Rows L2
/-! ### the end of a row -/
section
variable {P : Program} {w : World} {K : PySem.W.Frag} {mg mb : Str → Option Value} {k : Nat} {fa a : Addr} {cs : List (Addr × Addr)} {fd : FuncData} {x : Str} {sp : Sp} {s1 : Shared} {vs : List Value} {ns : List Int}
/-- what is tracked at the beginning: the script (where it is no object of the written part), the tables -/
def hp0 (K : PySem.W.Frag) (a : Addr) (cs : List (Addr × Addr)) (vs : List Value) (ns : List Int) : Hp := fun b =>
  if b = a ∧ K.lookup a = none then some (.frz { cls := .type "list", data := .seq vs.toArray } (.lst (ns.map V.int))) else if b ∈ cs.map (·.2) then some (.tbl #[]) else none
theorem hp0_at {b : Addr} {u : HO} (h : hp0 K a cs vs ns b = some u) : (b = a ∧ K.lookup a = none ∧ u = .frz { cls := .type "list", data := .seq vs.toArray } (.lst (ns.map V.int))) ∨ ((∃ p ∈ cs, p.2 = b) ∧ u = .tbl #[]) := by
  unfold hp0 at h
  split at h
  · rename_i q
    exact .inl ⟨q.1, q.2, (Option.some.inj h).symm⟩
  · split at h
    · rename_i q
      obtain ⟨p, hp, e⟩ := List.mem_map.mp q
      exact .inr ⟨⟨p, hp, e⟩, (Option.some.inj h).symm⟩
    · cases h
theorem law_goG (KX : K.In s1.heap) (hns : s1.heap.Ns mainGlobals mg) (hb : s1.heap.Ns builtinsNs mb) (hbb : ∀ x : Str, x ≠ "__name__" → mb x = bootBuiltins x) (hlim : s1.heap.NoLimit) (hg : s1.gens = #[])
    (hT : ∀ p ∈ cs, s1.heap.get? p.2 = some { cls := .none, data := .fields #[] }) (nT : ∀ p ∈ cs, K.lookup p.2 = none) (hC : ∀ p ∈ cs, PySem.W.CodeHd s1.heap p.1 p.2)
    (hbm : ∃ (bm : Addr) (ob : Obj), mg "__builtins__" = some (.ref bm) ∧ bm ≠ builtinsNs ∧ s1.heap.get? bm = some ob ∧ ob.cls = .type "module" ∧ ob.dict = some builtinsNs ∧ ob.data = .plain)
    (ha : s1.heap.get? a = some { cls := .type "list", data := .seq vs.toArray }) (hi : IntsAre vs ns) (hl : ns.length ≤ sizeLine) (hr : Room k callerA)
    (F : ∀ base : Heap, K.In base → base.Ns mainGlobals mg → (∀ p ∈ cs, LamX.TabB base mg p.1 p.2) → FnG P w K mg base k fa fd [x] sp) (hbind : ∀ (s : Shared) (u : Value), BindsTo s fd ⟨[u], []⟩ [(x, u)])
    (hsp : ∀ H : Hp, (∀ p ∈ cs, H p.2 = some (.tbl #[])) → ZF K (fun b => ∃ p ∈ cs, p.2 = b) H a (ns.map V.int) → sp [.ref a] H (fun v _ => v = .bl true) fun _ _ _ => False) :
    codeAny (model P w) callerA (.call (.ref fa) ⟨[.ref a], []⟩) (fun r s' => r = .ok (.ret (.bool true)) ∧ OldK s1.heap s'.heap ∧ s'.os = s1.os ∧ AllBare s'.gens) s1 := by
  have aT : ¬ ∃ p ∈ cs, p.2 = a := fun ⟨p, hp, e⟩ => by
    have q := hT p hp
    rw [e, ha] at q
    have z : Data.seq vs.toArray _ = Data.fields #[] := congrArg Obj.data (Option.some.inj q)
    cases z
  generalize hH : hp0 K a cs vs ns = H
  have trk : ∀ {b : Addr} {u : HO}, H b = some u → (b = a ∧ K.lookup a = none ∧ u = .frz { cls := .type "list", data := .seq vs.toArray } (.lst (ns.map V.int))) ∨ ((∃ p ∈ cs, p.2 = b) ∧ u = .tbl #[]) := fun {b u} e => hp0_at (by rw [hH]; exact e)
  have tabH : ∀ p ∈ cs, H p.2 = some (.tbl #[]) := fun p hp => by
    rw [← hH]
    unfold hp0
    rw [if_neg (fun z => aT ⟨p, hp, z.1⟩), if_pos (List.mem_map.mpr ⟨p, hp, rfl⟩)]
  have free : ∀ {b : Addr} {o : Obj}, s1.heap.get? b = some o → (∀ us n, o.data ≠ .seq us n) → o.data ≠ .fields #[] → H b = none := fun {b o} e n1 n2 => by
    cases q : H b with
    | none => rfl
    | some u =>
      rcases trk q with ⟨z, _, _⟩ | ⟨⟨p, hp, z⟩, _⟩
      · rw [z, ha] at e; cases e; exact absurd rfl (n1 _ _)
      · rw [← z, hT p hp] at e; cases e; exact absurd rfl n2
  have freeK : ∀ {b : Addr} {o : Obj}, K.lookup b = some o → H b = none := fun {b o} e => by
    cases q : H b with
    | none => rfl
    | some u =>
      rcases trk q with ⟨z, z2, _⟩ | ⟨⟨p, hp, z⟩, _⟩
      · rw [z, z2] at e; cases e
      · rw [← z, nT p hp] at e; cases e
  have kp : ∀ {b : Addr} {o : Obj}, s1.heap.get? b = some o → H b = none → (hidT s1.heap H).get? b = some o := fun e n => hidT_get e n
  have kpNs : ∀ {b : Addr} {m : Str → Option Value}, s1.heap.Ns b m → (hidT s1.heap H).Ns b m := fun {b m} z => by
    obtain ⟨o, es, ep, e, d, r⟩ := z
    exact ⟨o, es, ep, kp e (free e (fun us n q => by rw [d] at q; cases q) fun q => by rw [d] at q; cases q), d, r⟩
  have inK : K.In (hidT s1.heap H) := fun b o e => kp (KX b o e) (freeK e)
  have hm : L2.Mod K mg (hidT s1.heap H) := ⟨inK, kpNs hns, ⟨mb, kpNs hb, hbb⟩, by obtain ⟨mc, h1, h2⟩ := hlim; exact ⟨mc, kpNs h1, h2⟩⟩
  have tb : ∀ p ∈ cs, LamX.TabB (hidT s1.heap H) mg p.1 p.2 := fun p hp => by
    have neq : ∀ {b : Addr} {o : Obj}, s1.heap.get? b = some o → o.data ≠ .fields #[] → b ≠ p.2 := fun {b o} e n z => by
      rw [z, hT p hp] at e; cases e; exact n rfl
    refine ⟨?_, ?_, ?_⟩
    · obtain ⟨o, us, file, tf, flags, tg, inF, text, tt, e1, r1, r2, r3, r⟩ := hC p hp
      refine ⟨o, us, file, tf, flags, tg, inF, text, tt, kp e1 (free e1 (fun us n z => by rw [r2] at z; cases z) fun z => ?_), r1, r2, r3, r⟩
      rw [r2] at z; cases z; simp at r3
    · obtain ⟨bm, ob, b1, b2, b3, b4, b5, b6⟩ := hbm
      refine ⟨bm, ob, b1, b2, fun z => ?_, neq b3 (fun z => by rw [b6] at z; cases z), kp b3 (free b3 (fun us n z => by rw [b6] at z; cases z) fun z => by rw [b6] at z; cases z), b4, b5, b6⟩
      obtain ⟨o, es, ep, e, d, _⟩ := hns
      rw [z, e] at b3; cases b3
      rw [d] at b6; cases b6
    · obtain ⟨o, es, ep, e, d, _⟩ := hns
      exact neq e (fun z => by rw [d] at z; cases z)
  have ok : HOk P w H s1.heap := fun b u e => by
    rcases trk e with ⟨rfl, _, rfl⟩ | ⟨⟨p, hp, rfl⟩, rfl⟩
    · exact ⟨ha, by rw [List.length_map]; exact hl, vs, _, vals_ints hi, ha⟩
    · exact hT p hp
  have z : ZF K (fun b => ∃ p ∈ cs, p.2 = b) H a (ns.map V.int) := by
    cases q : K.lookup a with
    | none => exact .inl ⟨aT, { cls := .type "list", data := .seq vs.toArray }, by rw [← hH]; exact if_pos ⟨rfl, q⟩⟩
    | some o =>
      have e := KX a o q
      rw [ha] at e
      cases e
      exact .inr ⟨_, vs.toArray, _, q, rfl, rfl, rfl, by rw [List.size_toArray, hi.length]; exact hl, by simpa using vals_ints hi⟩
  have e0 : Env0 P w K mg (hidT s1.heap H) callerA [] s1 H :=
    { frames := rfl, mod := hm, bs := fun b o e => of_hidT e, bsz := Nat.le_of_eq (hidT_size _ _), funs := trivial, frf := fun b n => (by cases (show b ∈ ([] : List Addr) from n)), hok := ok, bare := .of_eq hg }
  refine codeAny_mono ((F _ inK (kpNs hns) tb).go callerA [] s1 H ⟨[.ref a], []⟩ [.ref a] [.ref a] _ _ rfl hr e0 (hbind s1 (.ref a)) (.cons rfl .nil) (hsp H tabH z)) fun r s2 y => ?_
  match r, y with
  | .error e, y =>
    obtain ⟨_, _, _, _, _, _, _, _, _, _, _, _, _, _, _, _, y⟩ := y
  | .ok .next, y => exact y.elim
  | .ok .brk, y => exact y.elim
  | .ok .cont, y => exact y.elim
  | .ok (.ret u), y =>
    obtain ⟨v, H2, os, bare, un, ok2, rv, q⟩ := y
    have q2 : v = .bl true := q
    subst q2
    cases (show u = Value.bool true from rv)
    have same : ∀ b o, (¬ ∃ p ∈ cs, p.2 = b) → s1.heap.get? b = some o → s2.heap.get? b = some o := fun b o nb e => by
      cases q : H b with
      | none => exact un.keep b o e q (fun n => by cases (show b ∈ ([] : List Addr) from n)) (fun n => by cases n)
      | some u =>
        rcases trk q with ⟨rfl, _, rfl⟩ | ⟨n, _⟩
        · have e2 := (ok2 _ _ (un.frzs _ _ _ q)).1
          rw [ha] at e; cases e; exact e2
        · exact absurd n nb
    have grown : ∀ p ∈ cs, ∃ m : Array Value, s2.heap.get? p.2 = some { cls := .none, data := .fields m } := fun p hp => by
      obtain ⟨m, y⟩ := un.tbls p.2 #[] (tabH p hp)
      exact ⟨_, ok2 p.2 _ y⟩
    refine ⟨rfl, ⟨fun b o e => ?_, fun b o e => ?_⟩, os, bare⟩
    · by_cases nb : ∃ p ∈ cs, p.2 = b
      · obtain ⟨p, hp, rfl⟩ := nb
        obtain ⟨m, y⟩ := grown p hp
        rw [hT p hp] at e
        cases e
        exact .inr (.inl ⟨((hC p hp).tab (hT p hp)).isCodeTable, rfl, #[], m, rfl, by rw [Array.empty_append]; exact y⟩)
      · exact .inl (same b o nb e)
    · by_cases nb : ∃ p ∈ cs, p.2 = b
      · obtain ⟨p, hp, rfl⟩ := nb
        obtain ⟨m, y⟩ := grown p hp
        exact ⟨_, y⟩
      · exact ⟨o, same b o nb e⟩
/-- what the head has to tell -/
def LawG (l : PySem.W.OpenLaw) (w : World) (K : PySem.W.Frag) (k n : Nat) (x : Str) (mg : Str → Option Value) (fa : Addr) (h : Heap) : Prop :=
  ∃ (fd : FuncData) (cs : List (Addr × Addr)) (sp : Sp), (∀ p ∈ cs, h.get? p.2 = some { cls := .none, data := .fields #[] }) ∧ (∀ p ∈ cs, K.lookup p.2 = none) ∧ (∀ p ∈ cs, PySem.W.CodeHd h p.1 p.2) ∧ (∀ (s : Shared) (u : Value), BindsTo s fd ⟨[u], []⟩ [(x, u)]) ∧
    (∀ (H : Hp) (a : Addr) (ns : List Int), ns.length ≤ n → (∀ z ∈ ns, Builtin.Int.intBits z ≤ 1048576) → (∀ p ∈ cs, H p.2 = some (.tbl #[])) → ZF K (fun b => ∃ p ∈ cs, p.2 = b) H a (ns.map V.int) → sp [.ref a] H (fun v _ => v = .bl true) fun _ _ _ => False) ∧
    ∀ base : Heap, K.In base → base.Ns mainGlobals mg → (∀ p ∈ cs, LamX.TabB base mg p.1 p.2) → FnG l.prog w K mg base k fa fd [x] sp
theorem walk_G {l : PySem.W.OpenLaw} {n : Nat} {q : Program} {loose : List Str} {XP : (Str → Option Value) → Heap → Prop} {YP : World → Heap → Prop} {d : DefRec} (hn : l.most = some n) (hn2 : n ≤ sizeLine) (hdf : d.params.defaults = []) (hr : Room k callerA)
    (F : ∀ (w : World) (mg : Str → Option Value) (fa : Addr) (h : Heap), YP w h → h.Ns mainGlobals mg → mg d.name = some (.ref fa) → ∃ K : PySem.W.Frag, K.In h ∧ LawG l w K k n x mg fa h) :
    PySem.W.WalkO q loose XP YP l.row.toRowW d [] (fun f vs => PySem.call f vs) :=
  Att.attach_callB hn hdf fun w s0 s1 mg mb fa o pm cd doc a vs ns G Y ho hd hcd hmg hobj hints hlen hbits hg => by
    obtain ⟨K, KX, fd, cs, sp, hT, nT, hC, hb, hsp, hF⟩ := F w mg fa _ Y G.T.g hmg
    exact law_goG KX G.T.g G.T.b G.T.builtins G.T.nolimit hg hT nT hC G.T.bmain hobj hints (Nat.le_trans hlen hn2) hr hF hb fun H tH z => hsp H a ns hlen hbits tH z
end
end DL

namespace DL
open PySem PySem.Spec PyProof.Rows L2
/-! ### what the head tells, by names -/
def IntD (mg : Str → Option Value) (x : Str) (i : Int) : Prop := ∃ t, mg x = some (.int i t)
def StrD (mg : Str → Option Value) (x z : Str) : Prop := ∃ t, mg x = some (.str z t)
def ExcD (K : PySem.W.Frag) (mg : Str → Option Value) (x : Str) : Prop := ∃ A, mg x = some (.ref A) ∧ PySem.W.excIn K A He.veBase "ValueError.__new__" = true ∧ PySem.W.keepIn K (.ref A) = true ∧ PySem.W.subIn K (.ref A) (.type "BaseException") = some true ∧ PySem.W.typeIn K (.ref A) = some (.type "type")
section
variable {s : SC}
theorem de_giD {x : Str} {n : Int} {pos : Pos} (h : IntD s.mg x n) (hg : s.sc.names.lookup x = some .globalImplicit := by rfl) (hd : (x == ("__debug__" : Str)) = false := by decide) : DE s (.Name x pos) (fC (.int n)) := let ⟨_, e⟩ := h; de_gi e hg hd
theorem de_gsD {x : Str} {n : Str} {pos : Pos} (h : StrD s.mg x n) (hg : s.sc.names.lookup x = some .globalImplicit := by rfl) (hd : (x == ("__debug__" : Str)) = false := by decide) : DE s (.Name x pos) (fC (.str n)) := let ⟨_, e⟩ := h; de_gs e hg hd
theorem ds_raiseD {x : Str} {p pos1 pos : Pos} (h : ExcD s.K s.mg x) (hg : s.sc.names.lookup x = some .globalImplicit := by rfl) (hdb : (x == ("__debug__" : Str)) = false := by decide) (hc : s.calm = true := by rfl) : DS s (.Raise (some (.Call (.Name x p) [] [] pos1)) none pos) (sRaise x) :=
  let ⟨_, h1, h2, h3, h4, h5⟩ := h
  ds_raise PySem.F.excBase_ValueError h2 h1 h3 h4 h5 hg hdb hc
end
section
variable {K : PySem.W.Frag} {h : Heap} {mg : Str → Option Value}
theorem intD_of (X : K.In h) (G : h.Ns mainGlobals mg) {x : Str} {i : Int} (c : (He.Fa.int x i).ok K = true) : IntD mg x i := He.int_ok X G c
theorem strD_of (X : K.In h) (G : h.Ns mainGlobals mg) {x z : Str} (c : (He.Fa.str x z).ok K = true) : StrD mg x z := He.str_ok X G c
theorem excD_of (X : K.In h) (G : h.Ns mainGlobals mg) {x : Str} (g : (He.Fa.glo x).ok K = true) (c : (He.Fa.exc x).ok K = true) : ExcD K mg x :=
  let ⟨a, b, d, e⟩ := He.exc_ok c
  ⟨He.ga K x, He.glo_ok X G g, a, b, d, e⟩
end
end DL

namespace DL
open PySem PySem.Spec PyProof.Rows L2
section
variable {s : SC}
theorem tgCons_len {f : Tg} {fr : List D → Sl → Option Sl} {n : Nat} (hl : ∀ ds ρ ρ', fr ds ρ = some ρ' → ds.length = n) : ∀ ds ρ ρ', tgCons f fr ds ρ = some ρ' → ds.length = n + 1 := fun ds ρ ρ' e => by
  cases ds with
  | nil => cases e
  | cons d ds =>
    simp only [tgCons] at e
    cases e1 : f d ρ with
    | none => rw [e1] at e; cases e
    | some ρ1 => rw [e1] at e; simp [hl _ _ _ e]
theorem dgs_cons {tg : Expr} {es : List Expr} {t : Tg} {f : List D → Sl → Option Sl} {is js : List Nat} {n : Nat} (ht : DG s tg t is) (h : DGs s es f js n) (hs : ∀ env, (assignEach (tg :: es) env).map (·.2) = assign tg env :: (assignEach es env).map (·.2) := by intro _; rfl) : DGs s (tg :: es) (tgCons t f) (is ++ js) (n + 1) :=
  let ⟨tt, q1, q2⟩ := ht; let ⟨hl, ts, q3, q4⟩ := h
  ⟨tgCons_len hl, _, trts_cons q1 q3, fun y fi => pgs_cons (q2 y fi) (q4 y fi) (hs _)⟩
end
end DL
namespace DL
open PySem PySem.Spec PyProof.Rows L2
theorem rps_intL {K : PySem.W.Frag} {Z : Addr → Prop} {H : Hp} : ∀ ns : List Int, Rps K Z H (ns.map V.int) (ns.map D.int)
  | [] => rfl
  | n :: r => ⟨.int n, _, rfl, rfl, rps_intL r⟩
theorem law_sp {K : PySem.W.Frag} {mg : Str → Option Value} {F : List D → RF} {H : Hp} {a : Addr} {ns : List Int} {cs : List (Addr × Addr)} (e : F [.frl (ns.map D.int)] = .ok (.bl true)) (z : ZF K (fun b => ∃ p ∈ cs, p.2 = b) H a (ns.map V.int)) (hz : ∀ b, (∃ p ∈ cs, p.2 = b) → ∃ o, H b = some o := by simp) :
    spP K mg 1 F [.ref a] H (fun v _ => v = .bl true) fun _ _ _ => False := by
  refine ⟨rfl, _, [.frl (ns.map D.int)], hz, ⟨.ref a, [], rfl, ⟨a, _, rfl, z, rps_intL ns⟩, rfl⟩, ?_⟩
  rw [e]
  exact fun v H' _ r => r
theorem fn_Pg {P : Program} {w : World} {K : PySem.W.Frag} {mg : Str → Option Value} {base : Heap} {x : Str} {pa : Arguments} {body : List Stmt} {scope : Scope} {f : Addr} {fd : FuncData} {N ps : List Str} {k : Nat} {b : FS} (F : FunD K x x pa body scope [] [] f fd) (S : FnScope N ps scope)
    (h : DSs (scOf P w K mg base N scope k false) body b) (hn : ps.length ≤ N.length := by decide) : FnG P w K mg base (k + 1) f fd ps (spP K mg ps.length (runP N.length b)) :=
  fn_mkG F S (fun vs H Q E q => q.1) fun cdv A outer s0 H vs Q E gd hr hsp =>
    let ⟨t, q1, q2⟩ := h (fun cls d _ H => E cls d H)
    ⟨t, q2 _ (fit_of gd hr) (takes_of rfl rfl rfl rfl), body_P hn hsp q1⟩
end DL

namespace DL
open PySem PySem.Spec PyProof.Rows L2
/-! ### reckoning -/
section
variable {ρ : Sl} {α β : Type}
@[simp] theorem x_bd_ok (a : α) (ρ : Sl) (k : α → Sl → RE β) : (RE.ok a ρ).bd k = k a ρ := rfl
@[simp] theorem x_bd_ex (x : Ex) (ρ : Sl) (k : α → Sl → RE β) : (RE.ex x ρ : RE α).bd k = .ex x ρ := rfl
@[simp] theorem x_bs_ok (a : α) (ρ : Sl) (k : α → Sl → RS) : (RE.ok a ρ).bs k = k a ρ := rfl
@[simp] theorem x_bs_ex (x : Ex) (ρ : Sl) (k : α → Sl → RS) : (RE.ex x ρ : RE α).bs k = .ex x ρ := rfl
@[simp] theorem x_of (a : α) (ρ : Sl) : RE.of (some a) ρ = .ok a ρ := rfl
@[simp] theorem x_fC (d : D) (ρ : Sl) : fC d ρ = .ok d ρ := rfl
theorem x_var (i : Nat) (ρ : Sl) : fVar i ρ = (match ρ[i]? with
  | some (.val d) => .ok d ρ
  | some (.own d) => .ok d (ρ.set i (.val d))
  | _ => .bad) := rfl
theorem x_varV {i : Nat} {ρ : Sl} {d : D} (h : ρ[i]? = some (.val d)) : fVar i ρ = .ok d ρ := by unfold fVar; rw [h]
@[simp] theorem x_nil (ρ : Sl) : evA [] ρ = .ok [] ρ := rfl
@[simp] theorem x_e (f : FE) (r : List Ag) (ρ : Sl) : evA (.e f :: r) ρ = (f ρ).bd fun d ρ1 => (evA r ρ1).bd fun ds ρ2 => .ok (d :: ds) ρ2 := rfl
theorem x_b (i : Nat) (r : List Ag) (ρ : Sl) : evA (.b i :: r) ρ = if isSet ρ i = true then (evA r ρ).bd fun ds ρ2 => match ρ2[i]? with
    | some (.val d) => .ok (d :: ds) ρ2
    | some (.own d) => .ok (d :: ds) ρ2
    | _ => .bad
    else .bad := rfl
@[simp] theorem x_app (b : List D → Option D) (as : List Ag) (ρ : Sl) : fApp b as ρ = (evA as ρ).bd fun ds ρ' => .of (b ds) ρ' := rfl
@[simp] theorem x_T (f : FE) (ρ : Sl) : fT f ρ = (f ρ).bd fun d ρ' => match d with
  | .bl b => .ok b ρ'
  | _ => .bad := rfl
@[simp] theorem x_not (f : FT) (ρ : Sl) : fNot f ρ = (f ρ).bd fun b ρ' => .ok (!b) ρ' := rfl
@[simp] theorem x_and (f f' : FT) (ρ : Sl) : fAnd f f' ρ = (f ρ).bd fun b ρ' => if b = true then f' ρ' else .ok false ρ' := rfl
@[simp] theorem x_or (f f' : FT) (ρ : Sl) : fOr f f' ρ = (f ρ).bd fun b ρ' => if b = true then .ok true ρ' else f' ρ' := rfl
@[simp] theorem x_if (c : FT) (f f' : FE) (ρ : Sl) : fIf c f f' ρ = (c ρ).bd fun b ρ' => if b = true then f ρ' else f' ρ' := rfl
@[simp] theorem x_sif (c : FT) (a b : FS) (ρ : Sl) : sIf c a b ρ = (c ρ).bs fun k ρ' => if k = true then a ρ' else b ρ' := rfl
@[simp] theorem x_nx (ρ : Sl) : sNext ρ = .nx ρ := rfl
@[simp] theorem x_seq (a b : FS) (ρ : Sl) : sSeq a b ρ = (match a ρ with
  | .nx ρ' => b ρ'
  | r => r) := rfl
@[simp] theorem x_ret (f : FE) (ρ : Sl) : sRet f ρ = (f ρ).bs fun d ρ' => .rt d ρ' := rfl
@[simp] theorem x_expr (f : FE) (ρ : Sl) : sExpr f ρ = (f ρ).bs fun _ ρ' => .nx ρ' := rfl
@[simp] theorem x_raise (x : Str) (ρ : Sl) : sRaise x ρ = .ex ⟨x, []⟩ ρ := rfl
end
end DL

namespace DL
open PySem PySem.Spec PyProof.Rows L2
theorem mo_r {i j : Int} (h : j.natAbs < 18446744073709551616) : mulOk i j = true := decide_eq_true (.inr (.inl h))
theorem mo_l {i j : Int} (h : i.natAbs < 18446744073709551616) : mulOk i j = true := decide_eq_true (.inl h)
theorem mo_f {x y p : Int} (h : 0 < p) (h2 : p ≤ 18446744073709551616) : mulOk (x.fmod p) y = true := mo_l (by
  have a := Int.fmod_nonneg_of_pos x h
  have b := Int.fmod_lt_of_pos x h
  omega)
theorem eqI (a b : Int) : eqD false [.int a, .int b] = some (.bl (decide (a = b))) := by
  simp [eqD, toPy, SeqAt.shaped, PyData.canLay0, PyData.depth, PyData.eqv]
  rfl
theorem neI (a b : Int) : eqD true [.int a, .int b] = some (.bl (!decide (a = b))) := by
  simp [eqD, toPy, SeqAt.shaped, PyData.canLay0, PyData.depth, PyData.eqv]
  by_cases h : a = b
  · simp [h]
  · simp [h]
theorem eqB (a b : Bool) : eqD false [.bl a, .bl b] = some (.bl (decide (a = b))) := by cases a <;> cases b <;> rfl
theorem neB (a b : Bool) : eqD true [.bl a, .bl b] = some (.bl (!decide (a = b))) := by cases a <;> cases b <;> rfl
theorem v1 : divOk 1009 = true := by decide +kernel
theorem v2 : divOk 2003 = true := by decide +kernel
theorem v3 : divOk 16 = true := by decide +kernel
theorem divOk_of {m : Int} (h : 0 < m) (h2 : m < 18446744073709551616) : divOk m = true := by
  refine decide_eq_true ⟨by omega, ?_⟩
  have z : m.natAbs ≠ 0 := by omega
  have : m.natAbs.log2 < 64 := (Nat.log2_lt z).mpr (by omega)
  omega
mutual
/-- nothing unknown in it -/
def D.nq : D → Bool
  | .opq _ => false
  | .tup xs => D.nqs xs
  | .lst xs => D.nqs xs
  | .frl xs => D.nqs xs
  | .dicK _ vs => D.nqs vs
  | .dicT _ vs => D.nqs vs
  | _ => true
def D.nqs : List D → Bool
  | [] => true
  | d :: r => d.nq && D.nqs r
end
theorem nqs_mem {x : D} : ∀ {xs : List D}, D.nqs xs = true → x ∈ xs → x.nq = true
  | d :: r, h, m => by
    simp only [D.nqs, Bool.and_eq_true] at h
    rcases List.mem_cons.mp m with rfl | m
    · exact h.1
    · exact nqs_mem h.2 m
/-! ### comprehensions that change nothing else -/
theorem cLoop_pure {tg : Tg} {c : FT} {f : FE} {vs : List Nat} {p : D → Bool} {e : D → D} {ρ : Sl} : ∀ (ds racc : List D), (∀ d ∈ ds, ∃ ρd, tg d ρ = some ρd ∧ c ρd = .ok (p d) ρd ∧ (p d = true → f ρd = .ok (e d) ρd) ∧ wipeR ρd vs = ρ) →
    cLoop tg c f vs ds racc ρ = .ok (racc.reverse ++ (ds.filter p).map e) ρ
  | [], racc, _ => by simp [cLoop]
  | d :: ds, racc, h => by
    obtain ⟨ρd, h1, h2, h3, h4⟩ := h d List.mem_cons_self
    have ih := fun ra => cLoop_pure (tg := tg) (c := c) (f := f) (vs := vs) (p := p) (e := e) (ρ := ρ) ds ra fun d' m => h d' (List.mem_cons_of_mem _ m)
    simp only [cLoop, h1, h2]
    cases hp : p d with
    | true => simp [h3 hp, h4, ih, hp]
    | false => simp [h4, ih, hp]
theorem fComp_pure {it : Sl → RE (List D)} {tg : Tg} {c : FT} {f : FE} {vs : List Nat} {ρ ρ1 : Sl} {ds : List D} (p : D → Bool) (e : D → D) (hit : it ρ = .ok ds ρ1) (hl : ds.length ≤ bigL)
    (hb : ∀ d ∈ ds, ∃ ρd, tg d (wipeR ρ1 vs) = some ρd ∧ c ρd = .ok (p d) ρd ∧ (p d = true → f ρd = .ok (e d) ρd) ∧ wipeR ρd vs = wipeR ρ1 vs) (hno : noOwn ρ1 vs = true := by rfl) (hback : backR ρ1 (wipeR ρ1 vs) vs = ρ1 := by rfl) :
    fComp it tg c f vs ρ = .ok (.lst ((ds.filter p).map e)) ρ1 := by
  unfold fComp
  rw [hit]
  simp only [RE.bd, hno, decide_eq_true hl, Bool.and_self, if_true]
  rw [cLoop_pure (p := p) (e := e) ds [] hb]
  simp only [List.reverse_nil, List.nil_append, hback]
theorem fComp_map {it : Sl → RE (List D)} {tg : Tg} {f : FE} {vs : List Nat} {ρ ρ1 : Sl} {ds : List D} (e : D → D) (hit : it ρ = .ok ds ρ1) (hl : ds.length ≤ bigL)
    (hb : ∀ d ∈ ds, ∃ ρd, tg d (wipeR ρ1 vs) = some ρd ∧ f ρd = .ok (e d) ρd ∧ wipeR ρd vs = wipeR ρ1 vs) (hno : noOwn ρ1 vs = true := by rfl) (hback : backR ρ1 (wipeR ρ1 vs) vs = ρ1 := by rfl) :
    fComp it tg cYes f vs ρ = .ok (.lst (ds.map e)) ρ1 := by
  rw [fComp_pure (fun _ => true) e hit hl (fun d m => ?_) hno hback, List.filter_eq_self.mpr (fun _ _ => rfl)]
  obtain ⟨ρd, h1, h2, h3⟩ := hb d m
  exact ⟨ρd, h1, rfl, fun _ => h2, h3⟩
theorem blsD_mapb (g : D → Bool) : ∀ ds : List D, blsD (ds.map fun d => .bl (g d)) = some (ds.map g)
  | [] => rfl
  | d :: r => by simp [blsD, blsD_mapb g r]
theorem intsD_mapg (g : D → Int) : ∀ ds : List D, intsD (ds.map fun d => .int (g d)) = some (ds.map g)
  | [] => rfl
  | d :: r => by simp [intsD, intsD_mapg g r]
end DL

namespace DL
open PySem PySem.Spec PyProof.Rows L2
/-! ### l.index(x), x in l, items of any depth -/
def idxP (d : PyData) : List PyData → Option Nat
  | [] => none
  | x :: r => if PyData.eqv x d = true then some 0 else (idxP d r).map (· + 1)
theorem idxP_at {d : PyData} : ∀ {ps : List PyData} {j : Nat}, idxP d ps = some j → ∃ z, ps[j]? = some z ∧ PyData.eqv z d = true ∧ ∀ (m : Nat) (z' : PyData), m < j → ps[m]? = some z' → PyData.eqv z' d = false
  | [], j, h => by cases h
  | x :: r, j, h => by
    unfold idxP at h
    split at h
    · rename_i e
      cases h
      exact ⟨x, rfl, e, fun m z' hm _ => by omega⟩
    · rename_i e
      rw [Option.map_eq_some_iff] at h
      obtain ⟨i, h1, rfl⟩ := h
      obtain ⟨z, h2, h3, h4⟩ := idxP_at h1
      refine ⟨z, by simpa using h2, h3, fun m z' hm hz => ?_⟩
      cases m with
      | zero => simp at hz; subst hz; simpa using e
      | succ m => exact h4 m z' (by omega) (by simpa using hz)
def idxB : List D → Option D
  | [.lst xs, y] => match toPys xs, toPy y with
    | some ps, some p => if (SeqAt.shaped (.list ps) && SeqAt.shaped p) = true then (idxP p ps).map fun j => .int (j : Nat) else none
    | _, _ => none
  | _ => none
/-- a method of a list, one argument, by values -/
def MtOk (K : PySem.W.Frag) (r : V → List V → Hp → VK → Prop) (b : List D → Option D) : Prop :=
  ∀ Z H v u xs y d Q, Rp K Z H v (.lst xs) → Rp K Z H u y → b [.lst xs, y] = some d → (∀ w, (∀ Z' H', Rp K Z' H' w d) → Q w H) → r v [u] H Q
def fMt (b : List D → Option D) (f f' : FE) : FE := fun ρ => (f ρ).bd fun d ρ1 => match d with
  | .lst xs => (f' ρ1).bd fun y ρ2 => .of (b [.lst xs, y]) ρ2
  | _ => .bad
theorem tr_mt {g : G} {W : WX} {r : V → List V → Hp → VK → Prop} {b : List D → Option D} {t t' : TE} {f f' : FE} (hb : MtOk g.K r b) (h : TrE g W t f) (h' : TrE g W t' f') : TrE g W (tBM g.K "list" r t (tCons t' tNil)) (fMt b f f') := by
  intro C ρ σ H Q j p
  refine h.step j (fun d ρ1 e1 v H1 j1 k1 r1 => ?_) (fun x ρ1 e1 cls dd H1 j1 r1 => ?_) (fun e1 => ?_)
  · simp only [fMt, RE.bd, e1] at p
    cases d with
    | lst xs =>
      refine ⟨?_, ?_⟩
      · obtain ⟨a, ws, rfl, s, _⟩ := r1
        exact .inl ⟨rfl, ws, s.sq⟩
      · refine h'.step j1 (fun y ρ2 e2 u H2 j2 k2 r2 => ?_) (fun x ρ2 e2 cls dd H2 j2 r2 => ?_) (fun e2 => ?_)
        · simp only [e2] at p
          cases e3 : b [.lst xs, y] with
          | none => simp only [e3, RE.of] at p; exact p.elim
          | some d =>
            simp only [e3, RE.of] at p
            exact hb _ H2 v u xs y d Q (J.carry j1 k2 _ _ r1) r2 e3 fun w q => p w H2 j2 (q _ _)
        · simp only [e2] at p; exact p _ _ _ j2 r2
        · simp only [e2] at p; exact p
    | _ => exact p.elim
  · simp only [fMt, RE.bd, e1] at p
    exact p _ _ _ j1 r1
  · simp only [fMt, RE.bd, e1] at p
    exact p
theorem mo_idx {K : PySem.W.Frag} : MtOk K (rIndexD K) idxB := by
  intro Z H v u xs y d Q h1 h2 hb q
  simp only [idxB] at hb
  split at hb
  · rename_i ps p e1 e2
    split at hb
    · rename_i hs
      rw [Bool.and_eq_true] at hs
      rw [Option.map_eq_some_iff] at hb
      obtain ⟨j, e3, rfl⟩ := hb
      obtain ⟨z, a1, a2, a3⟩ := idxP_at e3
      have dp := dp_of (.lst xs) v (.list ps) (by simp only [toPy, e1, Option.map_some]) h1
      obtain ⟨a, ws, rfl, s, r⟩ := h1
      exact ⟨a, u, p, ps, j, z, rfl, rfl, dp, dp_of y u p e2 h2, hs.1, hs.2, a1, a2, a3, q _ fun _ _ => rfl⟩
    · cases hb
  · cases hb
theorem de_index {s : SC} {o e : Expr} {f f' : FE} {ap p : Pos} (h : DE s o f) (h' : DE s e f') (hbase : ∀ env, attributeBase o "index" env (eval o env) = eval o env := by intro _; rfl)
    (hf : ∀ env, ((backTo p (starEach (e :: []) env)).all (fun x => !x.1) && (backToKw p (keywordEach [] env)).all (fun x => x.1.isSome) && decide ((e :: []).length + ([] : List Keyword).length + (if ([] : List Keyword).isEmpty then 0 else 1) < 30)) = true := by intro _; rfl)
    (hl : (ap.endLine == p.line) = true := by rfl) (hs : ∀ env, starEach (e :: []) env = (false, eval e env) :: starEach [] env := by intro _; rfl) (hpl : ∀ env, (backTo p (starEach [] env)).any (·.1) = false := by intro _; rfl) :
    DE s (.Call (.Attribute o "index" ap) [e] [] p) (fMt idxB f f') := fun W =>
  let ⟨t, q1, q2⟩ := h W; let ⟨u, q3, q4⟩ := h' W
  ⟨_, tr_mt mo_idx q1 q3, fun y i k => pe_bm PySem.F.plainAttrs_list PySem.F.slot_list_index PySem.F.type_list_index (mt_indexD (by have h1 := i.un2; show y.A.units + 65 < cLine; omega)) (q2 y i k) (pa_cons (q4 y i k) pa_nil (hs _)) (hbase _) (hf _) hl (hs _) (hpl _)⟩
def inA (n : Bool) (ds : List D) : Option D := match inB n ds with
  | some r => some r
  | none => match ds with
    | [x, d] => (match toPy x, d.ls.bind toPys with
      | some p, some ps => if (SeqAt.shaped p && SeqAt.shaped (.list ps)) = true then some (.bl (if n then !ps.any (fun z => PyData.eqv z p) else ps.any fun z => PyData.eqv z p)) else none
      | _, _ => none)
    | _ => none
theorem ls_dp {K : PySem.W.Frag} {Z : Addr → Prop} {H : Hp} {v : V} {d : D} {ps : List PyData} (h : Rq K Z H v d) (e : d.ls.bind toPys = some ps) : Dp K H v (.list ps) := by
  cases d with
  | lst xs => exact h.dp (p := .list ps) (by simp only [toPy]; rw [show toPys xs = some ps from e]; rfl)
  | frl xs => exact h.dp (p := .list ps) (by simp only [toPy]; rw [show toPys xs = some ps from e]; rfl)
  | _ => cases e
theorem bi_inA {K : PySem.W.Frag} : BiOk K (r2 fun x y H Q => rIn K false x y H Q ∨ rInD K x y H Q) (inA false) := by
  intro Z H vs ds d Q hz hr hb q
  unfold inA at hb
  split at hb
  · rename_i r e
    cases hb
    have z := bi_in (K := K) (n := false) Z H vs ds d Q hz hr e q
    match vs, z with
    | [v, u], z => exact .inl z
  · split at hb
    · obtain ⟨v, u, rfl, h1, h2⟩ := hr.two
      split at hb
      · rename_i p ps e1 e2
        split at hb
        · rename_i hs
          rw [Bool.and_eq_true] at hs
          cases hb
          exact .inr ⟨p, ps, h1.dp e1, ls_dp h2 e2, hs.1, hs.2, q _ _ Grow.refl rfl⟩
        · cases hb
      · cases hb
    · cases hb
theorem bi_ninA {K : PySem.W.Frag} : BiOk K (r2 fun x y H Q => rIn K true x y H Q ∨ rNotInD K x y H Q) (inA true) := by
  intro Z H vs ds d Q hz hr hb q
  unfold inA at hb
  split at hb
  · rename_i r e
    cases hb
    have z := bi_in (K := K) (n := true) Z H vs ds d Q hz hr e q
    match vs, z with
    | [v, u], z => exact .inl z
  · split at hb
    · obtain ⟨v, u, rfl, h1, h2⟩ := hr.two
      split at hb
      · rename_i p ps e1 e2
        split at hb
        · rename_i hs
          rw [Bool.and_eq_true] at hs
          cases hb
          exact .inr ⟨p, ps, h1.dp e1, ls_dp h2 e2, hs.1, hs.2, q _ _ Grow.refl rfl⟩
        · cases hb
      · cases hb
    · cases hb
section
variable {s : SC} {x z : Expr} {a c : Ag} {pos : Pos} (h1 : DAg s x a) (h2 : DAg s z c)
include h1 h2
theorem de_inA (hm : behindInMarks .In z = false := by rfl) : DE s (.Compare x [.In] [z] pos) (fApp (inA false) [a, c]) := de_cmp (fun y i => op_in_seq.or (op_inD (by have h1 := i.un2; show y.A.units + 65 < cLine; omega))) bi_inA hm h1 h2
theorem de_notinA (hm : behindInMarks .NotIn z = false := by rfl) : DE s (.Compare x [.NotIn] [z] pos) (fApp (inA true) [a, c]) := de_cmp (fun y i => op_notIn_seq.or (op_notInD (by have h1 := i.un2; show y.A.units + 65 < cLine; omega))) bi_ninA hm h1 h2
theorem dt_inA (hm : behindInMarks .In z = false := by rfl) : DT s (.Compare x [.In] [z] pos) (fT (fApp (inA false) [a, c])) := dt_cmp (fun y i => op_in_seq.or (op_inD (by have h1 := i.un2; show y.A.units + 65 < cLine; omega))) bi_inA hm h1 h2
theorem dt_notinA (hm : behindInMarks .NotIn z = false := by rfl) : DT s (.Compare x [.NotIn] [z] pos) (fT (fApp (inA true) [a, c])) := dt_cmp (fun y i => op_notIn_seq.or (op_notInD (by have h1 := i.un2; show y.A.units + 65 < cLine; omega))) bi_ninA hm h1 h2
end
end DL

namespace DL
open PySem PySem.Spec PyProof.Rows L2
/-! ### x += e, x -= e, x //= e of ints -/
def augB : List D → Option D := i2 fun i j => some (.int (i + j))
theorem bi_aug {K : PySem.W.Frag} : BiOk K (r2 (rI0 fun i j => .int (i + j))) augB := bi_i2 fun i j d H Q e => by cases e; exact ⟨rfl, fun q => ⟨i, j, rfl, rfl, q _ fun _ _ _ => rfl⟩⟩
section
variable {s : SC}
theorem ds_augI {i : Nat} {x : Str} {e : Expr} {f : FE} {pos' pos : Pos} (h1 : St1 s i x) (h : DE s e f) : DS s (.AugAssign (.Name x pos') .Add e pos) (sAug i augB f) :=
  ds_aug h1 (fun y => iop_add) bi_aug h
end
end DL

namespace DL
open PySem
/-- two lists go side by side -/
inductive Side (P : D → D → Prop) : List D → List D → Prop
  | nil : Side P [] []
  | cons {d x : D} {ds xs : List D} : P d x → Side P ds xs → Side P (d :: ds) (x :: xs)
theorem Side.len {P : D → D → Prop} {ds xs : List D} (h : Side P ds xs) : xs.length = ds.length := by
  induction h with
  | nil => rfl
  | cons _ _ ih => simp [ih]
theorem Side.right {P : D → D → Prop} {Q : D → Prop} {ds xs : List D} (h : Side P ds xs) (k : ∀ d x, d ∈ ds → P d x → Q x) : ∀ x ∈ xs, Q x := by
  induction h with
  | nil => simp
  | cons p _ ih =>
    intro y hy
    rcases List.mem_cons.mp hy with rfl | hy
    · exact k _ _ List.mem_cons_self p
    · exact ih (fun d x hd => k d x (List.mem_cons_of_mem _ hd)) y hy
/-- a comprehension whose step changes the state, under an invariant -/
theorem cLoop_st {tg : Tg} {f : FE} {vs : List Nat} (I : Sl → Prop) (P : D → D → Prop) : ∀ (ds acc : List D) (ρ : Sl), I ρ →
    (∀ d ∈ ds, ∀ ρ, I ρ → ∃ ρd x ρ2, tg d ρ = some ρd ∧ f ρd = .ok x ρ2 ∧ P d x ∧ I (wipeR ρ2 vs)) →
    ∃ xs ρ2, cLoop tg cYes f vs ds acc ρ = .ok (acc.reverse ++ xs) ρ2 ∧ I ρ2 ∧ Side P ds xs
  | [], acc, ρ, hI, _ => ⟨[], ρ, by simp [cLoop], hI, .nil⟩
  | d :: ds, acc, ρ, hI, st => by
    obtain ⟨ρd, x, ρ2, h1, h2, h3, h4⟩ := st d List.mem_cons_self ρ hI
    obtain ⟨xs, ρ3, e, i, s⟩ := cLoop_st I P ds (x :: acc) (wipeR ρ2 vs) h4 fun d hd => st d (List.mem_cons_of_mem _ hd)
    refine ⟨x :: xs, ρ3, ?_, i, .cons h3 s⟩
    have cy : ∀ ρ, cYes ρ = .ok true ρ := fun _ => rfl
    simp only [cLoop, h1, cy, h2, e]
    simp
theorem fComp_st {it : Sl → RE (List D)} {tg : Tg} {f : FE} {vs : List Nat} {ρ ρ1 : Sl} {ds : List D} (I : Sl → Prop) (P : D → D → Prop) (hit : it ρ = .ok ds ρ1) (hl : ds.length ≤ bigL) (hI : I (wipeR ρ1 vs))
    (st : ∀ d ∈ ds, ∀ ρ, I ρ → ∃ ρd x ρ2, tg d ρ = some ρd ∧ f ρd = .ok x ρ2 ∧ P d x ∧ I (wipeR ρ2 vs)) (hno : noOwn ρ1 vs = true := by rfl) :
    ∃ xs ρ2, fComp it tg cYes f vs ρ = .ok (.lst xs) (backR ρ1 ρ2 vs) ∧ I ρ2 ∧ Side P ds xs := by
  obtain ⟨xs, ρ2, e, i, s⟩ := cLoop_st (tg := tg) (f := f) (vs := vs) I P ds [] (wipeR ρ1 vs) hI st
  refine ⟨xs, ρ2, ?_, i, s⟩
  unfold fComp
  rw [hit]
  simp only [x_bd_ok, hno, decide_eq_true hl, Bool.and_self, if_true, e, List.reverse_nil, List.nil_append]
/-- the same for a loop whose body goes on -/
theorem fLoop_st {tg : Tg} {b : FS} (I : Sl → Prop) : ∀ (ds : List D) (ρ : Sl), I ρ → (∀ d ∈ ds, ∀ ρ, I ρ → ∃ ρd ρ2, tg d ρ = some ρd ∧ b ρd = .nx ρ2 ∧ I ρ2) → ∃ ρ2, fLoop tg b ds ρ = .nx ρ2 ∧ I ρ2
  | [], ρ, hI, _ => ⟨ρ, by simp [fLoop], hI⟩
  | d :: ds, ρ, hI, st => by
    obtain ⟨ρd, ρ2, h1, h2, h3⟩ := st d List.mem_cons_self ρ hI
    obtain ⟨ρ3, e, i⟩ := fLoop_st I ds ρ2 h3 fun d hd => st d (List.mem_cons_of_mem _ hd)
    exact ⟨ρ3, by simp only [fLoop, h1, h2, e], i⟩
end DL

set_option maxHeartbeats 2000000
namespace DL
open PySem PySem.Spec PyProof.Rows L2
/-! ### a lambda is made: nothing but the maker's table changes -/
section
variable {X : Cx} {pins : List (Addr × Obj)} {σ : L2.St} {H HZ : Hp} {s s1 : Shared}
theorem mkLam {c P : Addr} {pa : Arguments} {bo : Expr} {sc : Scope} {at_ : Pos} {E Q : Value → Shared → Prop} (I : Inv X pins σ H s) (B : LamX.TabB X.base X.mg c P) (code : X.env.code = .ref c) (T : LamX.TabS H P (X.env.qual ++ "<lambda>"))
    (dfl : defaultsOf pa X.env = ([], [])) (fr : ∀ y ∈ sc.names, y.2 = .free → ∃ c, X.env.cells.lookup y.1 = some c)
    (go : ∀ (f c2 : Addr) (pm ct : Value) (H1 : Hp) (st : Shared), Inv X pins σ H1 st → (∀ b o, b ≠ P → H b = some o → H1 b = some o) → LamX.TabS H1 P (X.env.qual ++ "<lambda>") →
      st.heap.get? f = some (PySem.W.kla_obj "<lambda>" (X.env.qual ++ "<lambda>") pa bo sc (cloFrom X.env.cells sc.names []) pm c2 ct) → H1 f = none → f ∉ frs X.stack → H1 c2 = some (LamX.CodeO c2 (X.env.qual ++ "<lambda>")) → Q (.ref f) st) :
    wpAny (model X.prog X.w) X.A (eval (.Lambda pa bo sc at_) X.env) Q E s := by
  obtain ⟨ps, hp, tr, am⟩ := T
  apply PySem.W.kla_eval dfl
  have pB := B.bm.keeps I.bk
  have pG := I.hok P _ hp
  have away : ∀ g, s.heap.objs.size ≤ g → g ∉ frs X.stack := fun g hg z => by
    rcases List.mem_cons.mp (I.stkSub _ z) with q | q
    · have below := I.lt
      rw [← q] at below
      exact absurd below (Nat.not_lt.mpr hg)
    · exact I.nofs hg q
  cases hc : codeAmong at_ ps.toList with
  | some cv =>
    obtain ⟨c2, rfl, hco⟩ := am at_ cv hc
    apply PySem.W.kla_makeFunctionHit (mg := X.mg) (c := c) (P := P) (ps := ps) (closure_ok fr) I.ok.glob (I.mod.glob.keeps I.bk) code (B.code.keeps I.bk) pG tr hc pB
    intro ct h2 tk ext hsz
    have J : Inv X pins σ H { s with heap := h2.push (PySem.W.kla_obj "<lambda>" (X.env.qual ++ "<lambda>") pa bo sc (cloFrom X.env.cells sc.names []) ((X.mg "__name__").getD .none) c2 ct), toks := tk } := I.kept fun b o q => Heap.get?_push_of_some _ (ext b o q)
    exact go h2.objs.size c2 ((X.mg "__name__").getD .none) ct H _ J (fun _ _ _ q => q) ⟨ps, hp, tr, am⟩ (Heap.get?_push_size _ rfl) (I.hok.fresh hsz) (away _ hsz) hco
  | none =>
    apply PySem.W.kla_makeFunction (mg := X.mg) (c := c) (P := P) (ps := ps) (closure_ok fr) I.ok.glob (I.mod.glob.keeps I.bk) code (B.code.keeps I.bk) pG tr hc B.gP pB
    intro c2 ct h2 tk ext ge lt rc htb
    obtain ⟨c3, oc, vs, t, ec, hoc, hd, hv⟩ := rc
    cases ec
    have sz : s.heap.objs.size ≤ h2.objs.size := Nat.le_trans ge (Nat.le_of_lt lt)
    have n2 : H c2 = none := I.hok.fresh ge
    have nP : P ≠ c2 := ne_of_none hp n2
    have J := LamX.inv_table (t' := tk) (more := #[rawInt at_.line, rawInt at_.col, .ref c2]) (h' := h2.push (PySem.W.kla_obj "<lambda>" (X.env.qual ++ "<lambda>") pa bo sc (cloFrom X.env.cells sc.names []) ((X.mg "__name__").getD .none) c2 ct)) I hp
      (fun b o nb q => Heap.get?_push_of_some _ (ext b o nb q)) (Heap.get?_push_of_some _ htb) ge ⟨oc, vs, t, Heap.get?_push_of_some _ hoc, hd, hv⟩
    have keep : ∀ b o, b ≠ P → H b = some o → upd (upd H P (.tbl (ps ++ #[rawInt at_.line, rawInt at_.col, .ref c2]))) c2 (LamX.CodeO c2 (X.env.qual ++ "<lambda>")) b = some o := fun b o nb q => by
      rw [upd_ne (ne_of_none q n2), upd_ne nb]; exact q
    have nF : h2.objs.size ≠ P := Nat.ne_of_gt (Nat.lt_of_lt_of_le (Heap.lt_size pG) sz)
    refine go h2.objs.size c2 ((X.mg "__name__").getD .none) ct _ _ J keep ?_ (Heap.get?_push_size _ rfl) ?_ (away _ sz) upd_same
    · refine ⟨_, by rw [upd_ne nP, upd_same], ?_, fun p2 cw hw => ?_⟩
      · rw [Array.toList_append]; exact PySem.TriplesOk_snoc _ _ _ _ tr
      · rw [Array.toList_append] at hw
        rcases LamX.among_app _ tr hw with z | z
        · obtain ⟨c0, e1, e2⟩ := am p2 cw z
          refine ⟨c0, e1, keep _ _ (fun q => ?_) e2⟩
          rw [q, hp] at e2
          exact LamX.codeO_ne _ (Option.some.inj e2).symm
        · exact ⟨c2, z, upd_same⟩
    · rw [upd_ne (Nat.ne_of_gt lt), upd_ne nF]
      exact I.hok.fresh sz
/-- the lambda is called in the def that got it -/
theorem actG {E0 : XK} {CXg : CXT} {N2 : List Str} {q2 : Str} {sg : Scope} {g f c2 : Addr} {cd pm ct : Value} {pa : Arguments} {bo : Expr} {sc : Scope} {k : Nat} {a : Str} {pn : List (Addr × Obj)} {xe : Value → Shared → Prop} {W : WX} {tb : XK → TE} {p1 p2 : Pos}
    (I : Inv X pins σ H s) (L : LamX.LamS X.env.scope sc) (hf : s.heap.get? f = some (PySem.W.kla_obj "<lambda>" (X.env.qual ++ "<lambda>") pa bo sc (cloFrom X.env.cells sc.names []) pm c2 ct)) (hn : H f = none) (hr : f ∉ frs X.stack)
    (bnd : bindArgs (PySem.W.kla_fn "<lambda>" (X.env.qual ++ "<lambda>") pa bo sc (cloFrom X.env.cells sc.names []) pm (.ref c2) ct) ⟨[], []⟩ = pure [])
    (tk : Takes ((cxOf CXg X.prog X.w X.K X.mg X.base N2 q2 sg g cd X.A X.stack s H E0).tr pn xe) W) (rm : Room (k + 1) (X.A.deeper (envOfC q2 sg s.heap.objs.size g cd)))
    (body : ∀ (E : XK) (A : Around) (outer : List Env) (s : Shared) (H : Hp), A.guards = X.A.guards → Room k (A.deeper (LamX.lamEnv X sc s.heap.objs.size f c2)) → PE (LamX.lamCx X A outer s H E sc f c2) bo (tb E))
    (hN : N2[0]? = some a) (hv : Vis sg a) (hd : (a == ("__debug__" : Str)) = false) (hcd : (a == ("__classdict__" : Str)) = false) :
    PE ((cxOf CXg X.prog X.w X.K X.mg X.base N2 q2 sg g cd X.A X.stack s H E0).tr pn xe) (.Call (.Name a p1) [] [] p2)
      ((LamI.mk f c2 (X.env.qual ++ "<lambda>") fun E H Q => tb E σ H Q).act W) := by
  constructor
  intro pinsZ sZ τ HZ Q IZ ⟨e0, eC, hb⟩
  apply wpAny_Call_Name_kw
  refine thn ((pe_var (pos := p1) (i := 0) hN hv hd hcd).run pinsZ sZ τ HZ (fun v H1 => v = .ref f ∧ H1 = HZ) IZ ⟨.ref f, e0, rfl, rfl⟩) fun u s1 ⟨v, H1, I1, r1, y⟩ => ?_
  obtain ⟨rfl, eH⟩ := y
  subst eH
  obtain rfl : u = Value.ref f := r1
  have o1 := I1.base.keep f _ hf hn hr (fun z => nomatch (show f ∈ ([] : List Addr) from z))
  apply PySem.W.callWith_F0 ⟨_, _, _, _, o1⟩
  obtain ⟨⟨oc, vs, t, hoc, hdc, hvc⟩, _, _⟩ := I1.hok c2 _ eC
  have un : Un (frs X.stack) [] H H1 s.heap s1.heap := I1.base
  have run : codeAny (model X.prog X.w) (X.A.deeper (envOfC q2 sg s.heap.objs.size g cd)) (.call (.ref f) ⟨[], []⟩) (CR (L2.CX X.prog X.w) (envOfC q2 sg s.heap.objs.size g cd :: X.stack) X.prog X.w H1 s1 Q (WE W τ)) s1 := by
    apply PySem.W.kla_callFunE rm.depth o1 rfl L.co L.gen rfl ⟨c2, oc, vs, t, rfl, hoc, hdc, hvc⟩
    rw [bnd]
    refine wpAny_pure (wpAny_newFunctionEnv (fun y hy => (L.own y hy).2) (fun y hy => absurd hy (by simp)) (fun h3 ns hsb => ⟨I1.nolimit.fresh _ hsb, ?_⟩) L.kind)
    have kp : ∀ b o, s1.heap.get? b = some o → h3.get? b = some o := fun b o q => hsb.extBut b o (Nat.ne_of_lt (Heap.lt_size q)) (Heap.get?_push_of_some _ q)
    have J := LamX.lam_start2 (E := WE W τ) (tk := s1.toks + ([] : List (Str × Value)).length) (c' := c2) (f := f) I L I1.env0 rm.hd un ns kp
    refine PySem.W.kla_codeExpr (wpAny_mono ((body (WE W τ) (X.A.deeper (envOfC q2 sg s.heap.objs.size g cd)) _ s1 H1 rfl (rm.deeper _)).run [] _ _ H1 Q J hb) (fun v s3 hq => ?_) fun _ _ z => z)
    obtain ⟨w3, H3, J3, rv, q⟩ := hq
    exact ⟨w3, H3, J3.os, J3.bare, J3.base, J3.hok, rv, q⟩
  have px := passAt tk τ
  refine wpAny_call (codeAny_mono run fun r s3 hq => ?_)
  match r, hq with
  | .error e, hq => exact px pinsZ H1 s1 e s3 I1 hq
  | .ok (.ret u), hq => exact I1.after hq
  | .ok .next, hq => exact hq.elim
  | .ok .brk, hq => exact hq.elim
  | .ok .cont, hq => exact hq.elim
end
end DL

namespace DL
open PySem PySem.Spec PyProof.Rows L2
/-! ### the things held by no data: the exception, the lambda -/
def dropX (ρ : Sl) : Sl := ρ.map fun s => match s with
  | .exc => .emp
  | s => s
theorem dropX_at {ρ : Sl} {i : Nat} {s : Slot} (h : (dropX ρ)[i]? = some s) : s = .emp ∨ (s ≠ .exc ∧ ρ[i]? = some s) := by
  unfold dropX at h
  rw [List.getElem?_map, Option.map_eq_some_iff] at h
  obtain ⟨s0, h1, h2⟩ := h
  cases s0 <;> subst h2
  · exact .inl rfl
  · exact .inr ⟨(fun z => by cases z), h1⟩
  · exact .inr ⟨(fun z => by cases z), h1⟩
  · exact .inl rfl
theorem own_dropX {ρ : Sl} {σ : L2.St} {a : Addr} (h : own (dropX ρ) σ a) : own ρ σ a := by
  obtain ⟨i, d, h1, h2⟩ := h
  rcases dropX_at h1 with z | ⟨_, z⟩
  · cases z
  · exact ⟨i, d, z, h2⟩
section
variable {g : G} {W : WX} {C : JC} {ρ ρ' : Sl} {σ σ' : L2.St} {H H' : Hp}
theorem J.reE {e : Option Addr} (j : J g C ρ σ H) : J { g with e := e } C (dropX ρ) σ H where
  len := by unfold dropX; rw [List.length_map]; exact j.len
  slot := fun i s h => by
    rcases dropX_at h with rfl | ⟨n, h⟩
    · trivial
    · have q := j.slot i s h
      cases s with
      | emp => trivial
      | exc => exact absurd rfl n
      | val d =>
        obtain ⟨v, h1, h2⟩ := q
        exact ⟨v, h1, Rp.keep (fun _ z => z.imp id own_dropX) (fun _ _ e _ => e) _ _ h2⟩
      | own d =>
        obtain ⟨a, h1, h2, h3⟩ := q
        exact ⟨a, h1, h2.keep (fun _ z => z.imp id own_dropX) (fun _ _ e _ => e) (fun _ e => e), h3⟩
  inj := fun i k d e a h1 h2 h3 h4 => by
    rcases dropX_at h1 with z | ⟨_, z1⟩
    · cases z
    rcases dropX_at h2 with z | ⟨_, z2⟩
    · cases z
    exact j.inj i k d e a z1 z2 h3 h4
  ext := j.ext
  ex := j.ex
  zin := fun a z => ⟨(j.zin a z).1, fun o => (j.zin a z).2 (own_dropX o)⟩
  br := j.br
  tab := j.tab
  tz := j.tz
  tr := j.tr
  gt := j.gt
  hb := j.hb
/-- a slot that holds no data is stored -/
theorem J.setO {i : Nat} {s : Slot} {v : Option V} (hm : g.m = false ∨ i ≠ 0) (ns : ∀ d, s ≠ .own d) (ok : ∀ ρ : Sl, ∀ σ : L2.St, i < σ.length → σ[i]? = some v → SlotOk g C ρ σ H i s) (j : J g C ρ σ H) : J g C (ρ.set i s) (σ.set i v) H := by
  have lo : ∀ b, own (ρ.set i s) (σ.set i v) b → own ρ σ b := fun b ⟨k, d, h1, h2⟩ => by
    by_cases hk : i = k
    · subst hk
      have l : i < ρ.length := by
        have := (List.getElem?_eq_some_iff.mp h1).1; simpa using this
      rw [List.getElem?_set_self l] at h1
      exact absurd (Option.some.inj h1) (ns _)
    · rw [List.getElem?_set_ne hk] at h1 h2
      exact ⟨k, d, h1, h2⟩
  have le : ∀ b, Av C.Z (ρ.set i s) (σ.set i v) b → Av C.Z ρ σ b := fun b z => z.imp id (lo b)
  refine ⟨by simpa using j.len, fun k s' hk => ?_, fun k l d' e' b h1 h2 h3 h4 => ?_, j.ext, j.ex, fun b z => ⟨j.zSome z, fun o => (j.zin b z).2 (lo b o)⟩,
    fun b e => ⟨(j.br b e).1, by rw [List.getElem?_set_ne (hm.elim (fun z => absurd (j.br b e).1 (by rw [z]; decide)) id)]; exact (j.br b e).2⟩, j.tab, j.tz, j.tr, j.gt, j.hb⟩
  · by_cases hik : i = k
    · subst hik
      have l : i < ρ.length := by
        have := (List.getElem?_eq_some_iff.mp hk).1; simpa using this
      have l2 : i < σ.length := by rw [← j.len]; exact l
      rw [List.getElem?_set_self l] at hk
      cases hk
      exact ok _ _ (by simpa using l2) (List.getElem?_set_self l2)
    · rw [List.getElem?_set_ne hik] at hk
      have q := j.slot k s' hk
      have es : (σ.set i v)[k]? = σ[k]? := List.getElem?_set_ne hik
      cases s' with
      | emp => trivial
      | exc =>
        obtain ⟨x, h1, h2⟩ := q
        exact ⟨x, h1, by rw [es]; exact h2⟩
      | val d =>
        obtain ⟨w, h1, h2⟩ := q
        exact ⟨w, by rw [es]; exact h1, Rp.keep le (fun _ _ e _ => e) _ _ h2⟩
      | own d =>
        obtain ⟨a, h1, h2, h3⟩ := q
        exact ⟨a, by rw [es]; exact h1, h2.keep le (fun _ _ e _ => e) (fun _ e => e), h3⟩
  · have f : ∀ {m : Nat} {x : D}, (ρ.set i s)[m]? = some (.own x) → m ≠ i ∧ ρ[m]? = some (.own x) := fun {m x} q => by
      by_cases hm2 : i = m
      · subst hm2
        have l : i < ρ.length := by
          have := (List.getElem?_eq_some_iff.mp q).1; simpa using this
        rw [List.getElem?_set_self l] at q
        exact absurd (Option.some.inj q) (ns _)
      · rw [List.getElem?_set_ne hm2] at q
        exact ⟨fun z => hm2 z.symm, q⟩
    obtain ⟨n1, q1⟩ := f h1
    obtain ⟨n2, q2⟩ := f h2
    rw [List.getElem?_set_ne (Ne.symm n1)] at h3
    rw [List.getElem?_set_ne (Ne.symm n2)] at h4
    exact j.inj k l _ _ b q1 q2 h3 h4
/-! ### the lambda called -/
def fThunk (o : RF) : FE := fun ρ => match ρ[(0 : Nat)]? with
  | some .exc => (match o with
    | .ok d => .ok d ρ
    | .ex x => .ex x ρ
    | .bad => .bad)
  | _ => .bad
/-- what the lambda does, from the heap B at the entry on -/
structure LamOk (K : PySem.W.Frag) (mg : Str → Option Value) (B : Hp) (z : Addr → Prop) (L : LamI) (o : RF) : Prop where
  cd : B L.c = some (LamX.CodeO L.c L.q)
  go : ∀ H, Grow B H → ∀ (Z : Addr → Prop) (E : XK) (Q : VK), (∀ a, Z a → ∃ o, H a = some o) → (∀ a, Z a → B a = none ∨ z a) → PostF K mg Z H Q E o → L.tb E H Q
theorem tr_thunk {B : Hp} {z : Addr → Prop} {L : LamI} {o : RF} (hb : g.hb = some (B, z)) (he : g.e = some L.f) (ok : LamOk g.K g.mg B z L o) : TrE g W (L.act W) (fThunk o) := by
  intro C ρ σ H Q j p
  unfold fThunk at p
  split at p
  · rename_i e0
    obtain ⟨a, h1, h2⟩ := j.slot 0 _ e0
    rw [he] at h1
    cases h1
    have q := j.hb B z hb
    have gr : Grow B H := fun a o h => (q.2.1 a o h).1
    refine ⟨h2, gr _ _ ok.cd, ok.go H gr (Av C.Z ρ σ) _ Q (fun a z => j.avSome z) (fun a z => z.elim (q.2.2.2 a) fun o => .inl (j.ownB hb o)) ?_⟩
    cases o with
    | ok d => exact fun v H' k r => p v H' (j.grow k) r
    | ex x => exact fun cls dd H' k r => p cls dd H' (j.grow k) r
    | bad => exact p.elim
  · exact p.elim
/-! ### try: .. except x as n: .. -/
def sTry (ns : List Str) (i : Nat) (b : FS) (h : Str → FS) : FS := fun ρ => match b ρ with
  | .ex x ρ1 => if (ns.contains x.name && x.fs.isEmpty) = true then (match h x.name ((dropX ρ1).set i .exc) with
      | .nx ρ2 => .nx (dropX (ρ2.set i .emp))
      | .rt d ρ2 => .rt d (dropX ρ2)
      | _ => .bad)
    else .bad
  | r => r
end
section
variable {s : SC}
theorem de_act {L : LamI} {B : Hp} {z : Addr → Prop} {o : RF} {a : Str} {p1 p2 : Pos} (hl : s.lam = some L) (hb : s.hb = some (B, z)) (hf : s.lf = some L.f) (ok : LamOk s.K s.mg B z L o) (he : s.e = none := by rfl) (hN : s.N[0]? = some a := by rfl)
    (hv : Vis s.sc a := by first | exact Or.inl rfl | exact Or.inr (Or.inl rfl) | exact Or.inr (Or.inr rfl)) (hd : (a == ("__debug__" : Str)) = false := by decide) (hcd : (a == ("__classdict__" : Str)) = false := by decide) :
    DE s (.Call (.Name a p1) [] [] p2) (fThunk o) := fun W =>
  ⟨L.act W, tr_thunk (g := s.g) hb (by show (s.e <|> s.lf) = some L.f; rw [he, hf]; rfl) ok, fun y i tk => i.lm L hl y.pn y.xe W tk a p1 p2 hN hv hd hcd⟩
/-- the suite that holds an exception -/
def SC.sui (s : SC) (a : Addr) (cls : Value) : SC := { s with calm := false, top := false, e := some a, ec := cls, ed := none, lam := none, mkr := none }
/-- the module's error classes that a clause takes -/
structure Takn (s : SC) (x : Str) (ns : List Str) : Prop where
  gl : s.sc.names.lookup x = some .globalImplicit
  db : (x == ("__debug__" : Str)) = false
  nd : ∃ A, s.mg x = some (.ref A) ∧ ∀ n ∈ ns, ∀ B, s.mg n = some (.ref B) → PySem.W.exmOne s.K (.ref B) (.ref A) = some true
theorem ds_try {x n : Str} {ns : List Str} {i : Nat} {np p1 p2 : Pos} {body r : List Stmt} {b0 : Stmt} {b : FS} {h : Str → FS} (hi : s.N[i]? = some n) (hx : Takn s x ns) (hb : DSs s body b) (hh : ∀ (a : Addr) (nm : Str), nm ∈ ns → ∀ A, s.mg nm = some (.ref A) → DSs (s.sui a (.ref A)) (b0 :: r) (h nm))
    (hln : s.sc.names.lookup n = some .local := by rfl) (hnd : s.N.Nodup := by decide) (hm : s.m = false ∨ i ≠ 0 := by first | exact .inl rfl | exact .inr (by decide)) (he : s.e = none := by rfl) (hr : s.raw = none := by rfl) (ht : s.top = true := by rfl) :
    DS s (.Try body [.ExceptHandler (some (.Name x np)) (some n) (b0 :: r) p1] [] [] p2) (sTry ns i b h) := fun W => by
  obtain ⟨A0, hA0, hA⟩ := hx.nd
  have W0 : WX := fun _ _ _ _ => False
  refine ⟨fun D σ H => (hb (wAs s.K (.ref A0) i (fun a cls d D σ H => ∃ (nm : Str) (h1 : nm ∈ ns) (A : Addr) (h2 : s.mg nm = some (.ref A)), cls = .ref A ∧ d = none ∧ (hh a nm h1 A h2 fun _ _ _ _ => False).choose D σ H) W D)).choose D σ H, ?_, fun y fi tk => ?_⟩
  · intro C ρ σ H D j p
    refine (hb (wAs s.K (.ref A0) i (fun a cls d D σ H => ∃ (nm : Str) (h1 : nm ∈ ns) (A : Addr) (h2 : s.mg nm = some (.ref A)), cls = .ref A ∧ d = none ∧ (hh a nm h1 A h2 fun _ _ _ _ => False).choose D σ H) W D)).choose_spec.1 C ρ σ H D j ?_
    unfold sTry at p
    cases e : b ρ with
    | nx ρ1 => rw [e] at p; exact p
    | rt d ρ1 => rw [e] at p; exact p
    | bk ρ1 => rw [e] at p; exact p
    | ct ρ1 => rw [e] at p; exact p
    | bad => rw [e] at p; exact p
    | ex x1 ρ1 =>
      rw [e] at p
      simp only at p
      split at p
      · rename_i hc
        rw [Bool.and_eq_true] at hc
        have hmem : x1.name ∈ ns := by simpa using hc.1
        intro cls dd σ1 H1 j1 rx
        obtain ⟨⟨A, rfl, hmA⟩, rf⟩ := rx
        have hd : dd = none := by
          obtain ⟨nm, fs⟩ := x1
          cases fs with
          | nil => exact rf
          | cons f r => cases hc.2
        refine ⟨true, hA _ hmem A hmA, fun _ a ha => ⟨x1.name, hmem, A, hmA, rfl, hd, ?_⟩, fun z => by cases z⟩
        have jx : J (s.sui a (.ref A)).g C ((dropX ρ1).set i .exc) (σ1.set i (some (.ref a))) H1 := J.setO (g := (s.sui a (.ref A)).g) hm (fun d z => by cases z) (fun ρ σ _ z => ⟨a, rfl, z⟩) j1.reE
        refine (hh a x1.name hmem A hmA fun _ _ _ _ => False).choose_spec.1 C _ _ H1 _ jx ?_
        cases e2 : h x1.name ((dropX ρ1).set i .exc) with
        | nx ρ2 =>
          rw [e2] at p
          exact fun σ2 H2 k => p _ H2 (J.reE (g := (s.sui a (.ref A)).g) (e := s.g.e) (J.setO (v := none) (s := .emp) hm (fun d z => by cases z) (fun _ _ _ _ => trivial) k))
        | rt d ρ2 =>
          rw [e2] at p
          exact fun v σ2 H2 k r => p v σ2 H2 (J.reE (g := (s.sui a (.ref A)).g) (e := s.g.e) k) (Rp.keep (fun _ z => z.imp id own_dropX) (fun _ _ e _ => e) _ _ r)
        | bk ρ2 => rw [e2] at p; exact p.elim
        | ct ρ2 => rw [e2] at p; exact p.elim
        | ex x2 ρ2 => rw [e2] at p; exact p.elim
        | bad => rw [e2] at p; exact p.elim
      · exact p.elim
  · have st := fi.st ht
    refine ps_try_as (X := s.cx y) (c := .ref A0) st.1 st.2 hnd hi hln ⟨hx.gl, hx.db, .inl hA0⟩ tk (tb := fun W2 => (hb W2).choose) (fun W2 pn xe tk2 po => (hb W2).choose_spec.2 { y with pn := pn, xe := xe } ?_ tk2) (fun a oe cls d pn zc dt => ?_)
    · exact ⟨fi.gd, fi.room, fi.un, fi.un2, po, fun _ => st, fi.fn, fi.fb, fi.lm, fi.mka, fun a z => by rw [he] at z; cases z⟩
    · refine ⟨fun pins s1 σ1 H1 D I ⟨nm, h1, A, h2, ec, ed, hz⟩ => ?_⟩
      subst ec ed
      have F : Fit (s.sui a (.ref A)) { y with A := y.A.mark (some (.ref a)), pn := (a, oe) :: pn, xe := fun _ _ => False } :=
        ⟨fi.gd, .inr rfl, fi.un, fi.un2, PassesOwn.never, fun z => (by cases z), fun z => (by cases z), fun r z => (by rw [show (s.sui a (.ref A)).raw = s.raw from rfl, hr] at z; cases z), fun L z => (by cases z), fun c P q z => (by cases z),
          fun b z => (by cases z; exact ⟨s.cx y, oe, pn, rfl, zc, dt⟩)⟩
      exact ((hh a nm h1 A h2 fun _ _ _ _ => False).choose_spec.2 _ F takes0).run pins s1 σ1 H1 D I hz
end
end DL

namespace DL
open PySem PySem.Spec PyProof.Rows L2
/-! ### l.count(x), items of any depth -/
def rCountA (K : PySem.W.Frag) : V → List V → Hp → VK → Prop := fun x xs H Q => ∃ (a : Addr) (y : V) (d : PyData) (ds : List PyData), x = V.ref a ∧ xs = [y] ∧ Dp K H (V.ref a) (.list ds) ∧ Dp K H y d ∧
  SeqAt.shaped (.list ds) = true ∧ SeqAt.shaped d = true ∧ Q (.int (ds.countP (fun z => PyData.eqv z d) : Nat)) H
theorem mt_countA {X : Cx} (hu : X.A.units + 65 < cLine) : MtR X "list.count" (rCountA X.K) := by
  intro pins s σ H x xs v us Q I rx rs h
  obtain ⟨a, y, d, ds, rfl, rfl, hl, hy, sl, sd, q⟩ := h
  cases rx
  cases rs with
  | cons ry rt =>
    cases rt
    obtain ⟨bs, r1⟩ := Dp.reads I d y _ hy ry
    have lay : PyData.canLayAll0 ds = true := SeqAt.canLay_of_shaped sl
    have room : X.A.units + 1 + min (PyData.depthAll ds) d.depth < cLine := room_in_shaped sd hu
    cases hl with
    | lst hs ha =>
      obtain ⟨its, rv, ⟨⟨cls, dd, data, sls⟩, n, ho, hc, hdn, hdt⟩, _⟩ := I.list hs
      simp only at hc hdt
      subst hc hdt
      obtain ⟨as, h4⟩ := Dp.readsAll I ds _ its ha rv
      have mp : its.map (SeqAt.readOf s.heap) = ds := SeqAt.readsAll_map ds its as lay h4
      refine call_meets PySem.F.slot_list_count ⟨_, ho, rfl⟩ PySem.F.entry_list_count (PySem.F.args_list_count_2 _ _) (SeqAt.list_countAt a its.toArray n dd sls _ fun u => PyData.eqv (SeqAt.readOf s.heap u) d)
        ⟨ho, SeqAt.items_eqAt (vs := its.toArray) (show ReadsAll s.heap its.toArray.toList ds as from h4) r1 lay (SeqAt.canLay_of_shaped sd) room, ?_⟩
      have ec : ds.countP (fun z => PyData.eqv z d) = its.countP (fun u => PyData.eqv (SeqAt.readOf s.heap u) d) := by
        rw [← mp, List.countP_map]
        rfl
      rw [ec] at q
      exact ⟨.int (its.countP (fun u => PyData.eqv (SeqAt.readOf s.heap u) d) : Nat), H, I.tok _, ⟨_, rfl⟩, q⟩
def cntB : List D → Option D
  | [.lst xs, y] => match toPys xs, toPy y with
    | some ps, some p => if (SeqAt.shaped (.list ps) && SeqAt.shaped p) = true then some (.int (ps.countP (fun z => PyData.eqv z p) : Nat)) else none
    | _, _ => none
  | _ => none
theorem mo_cnt {K : PySem.W.Frag} : MtOk K (rCountA K) cntB := by
  intro Z H v u xs y d Q h1 h2 hb q
  simp only [cntB] at hb
  split at hb
  · rename_i ps p e1 e2
    split at hb
    · rename_i hs
      rw [Bool.and_eq_true] at hs
      cases hb
      have dp := dp_of (.lst xs) v (.list ps) (by simp only [toPy, e1, Option.map_some]) h1
      obtain ⟨a, ws, rfl, s, r⟩ := h1
      exact ⟨a, u, p, ps, rfl, rfl, dp, dp_of y u p e2 h2, hs.1, hs.2, q _ fun _ _ => rfl⟩
    · cases hb
  · cases hb
theorem de_count {s : SC} {o e : Expr} {f f' : FE} {ap p : Pos} (h : DE s o f) (h' : DE s e f') (hbase : ∀ env, attributeBase o "count" env (eval o env) = eval o env := by intro _; rfl)
    (hf : ∀ env, ((backTo p (starEach (e :: []) env)).all (fun x => !x.1) && (backToKw p (keywordEach [] env)).all (fun x => x.1.isSome) && decide ((e :: []).length + ([] : List Keyword).length + (if ([] : List Keyword).isEmpty then 0 else 1) < 30)) = true := by intro _; rfl)
    (hl : (ap.endLine == p.line) = true := by rfl) (hs : ∀ env, starEach (e :: []) env = (false, eval e env) :: starEach [] env := by intro _; rfl) (hpl : ∀ env, (backTo p (starEach [] env)).any (·.1) = false := by intro _; rfl) :
    DE s (.Call (.Attribute o "count" ap) [e] [] p) (fMt cntB f f') := fun W =>
  let ⟨t, q1, q2⟩ := h W; let ⟨u, q3, q4⟩ := h' W
  ⟨_, tr_mt mo_cnt q1 q3, fun y i k => pe_bm PySem.F.plainAttrs_list PySem.F.slot_list_count PySem.F.type_list_count (mt_countA (by have h1 := i.un2; show y.A.units + 65 < cLine; omega)) (q2 y i k) (pa_cons (q4 y i k) pa_nil (hs _)) (hbase _) (hf _) hl (hs _) (hpl _)⟩
/-! ### isinstance(e, C), e the exception that the suite holds -/
def fIsE (i : Nat) (b : Bool) : FE := fun ρ => match ρ[i]? with
  | some .exc => .ok (.bl b) ρ
  | _ => .bad
section
variable {s : SC}
/-- a class as a value: the name's meaning -/
def ClsVal (s : SC) (x : Str) (v : V) (cv : Value) : Prop := (∀ u, RelV v u → u = cv) ∧ ∀ y p, Fit s y → PE (s.cx y) (.Name x p) (tC v)
theorem clsVal_own {x : Str} {A : Addr} (hm : s.mg x = some (.ref A)) (hg : s.sc.names.lookup x = some .globalImplicit := by rfl) (hd : (x == ("__debug__" : Str)) = false := by decide) : ClsVal s x (.ref A) (.ref A) :=
  ⟨fun u r => r, fun y p i => pe_glob hg hm rfl hd⟩
theorem clsVal_ty {x : Str} {T : String} (hm : s.mg x = none) (hv : bootBuiltins x = some (.type T)) (hg : s.sc.names.lookup x = some .globalImplicit := by rfl) (hn : x ≠ "__name__" := by decide) (hd : (x == ("__debug__" : Str)) = false := by decide) : ClsVal s x (.ty T) (.type T) :=
  ⟨fun u r => r, fun y p i => pe_bltn hg hm hv rfl hn hd⟩
theorem de_isE {a D : Addr} {v : V} {cv : Value} {b : Bool} (i : Nat) {n x : Str} {p p1 p2 pos : Pos} (he : s.e = some a) (hc : s.ec = .ref D) (hd : s.ed = none) (C : ExcC s.K D) (cl : ClsVal s x v cv) (k1 : PySem.W.kitOne s.K (.ref D) cv = some b)
    (hi : s.mg "isinstance" = none) (hgi : s.sc.names.lookup ("isinstance" : Str) = some .globalImplicit := by rfl) (hN : s.N[i]? = some n := by rfl) (hv : Vis s.sc n := by first | exact Or.inl rfl | exact Or.inr (Or.inl rfl) | exact Or.inr (Or.inr rfl))
    (hdn : (n == ("__debug__" : Str)) = false := by decide) (hcd : (n == ("__classdict__" : Str)) = false := by decide)
    (h1 : ∀ env, starEach [.Name n p1, .Name x p2] env = (false, eval (.Name n p1) env) :: starEach [.Name x p2] env := by intro _; rfl) (h2 : ∀ env, starEach [.Name x p2] env = (false, eval (.Name x p2) env) :: starEach [] env := by intro _; rfl) (hpl : ∀ env, (backTo pos (starEach [.Name x p2] env)).any (·.1) = false := by intro _; rfl) :
    DE s (.Call (.Name "isinstance" p) [.Name n p1, .Name x p2] [] pos) (fIsE i b) := fun W =>
  ⟨tCB (rIsE s.K D a) (tCons (tVar i) (tCons (tC v) tNil)), fun C' ρ σ H Q j q => by
    unfold fIsE at q
    split at q
    · rename_i e0
      obtain ⟨a', z1, z2⟩ := j.slot i _ e0
      have z1 : (s.e <|> s.lf) = some a' := z1
      rw [he] at z1
      cases z1
      exact ⟨_, z2, v, cv, b, rfl, cl.1, k1, q _ H j rfl⟩
    · exact q.elim, fun y fi tk => by
    obtain ⟨X1, oe, pn, ex, zc, dt⟩ := fi.su a he
    rw [hc, hd] at zc
    have cr : CallR (s.cx y) (.builtin "isinstance") (rIsE s.K D a) := by
      have hK : X1.K = s.K := (congrArg (fun X : Cx => X.K) ex).symm
      rw [ex, ← hK]
      exact call_isE (by rw [hK]; exact C) zc dt
    exact pe_callB cr hgi hi boot_isinstance (pa_cons (pe_var hN hv hdn hcd) (pa_cons (cl.2 y _ fi) pa_nil (h2 _)) (h1 _)) (by decide) (by decide) (h1 _) (hpl _)⟩
end
end DL

set_option maxHeartbeats 1000000
namespace DL
open PySem PySem.Spec PyProof.Rows L2
/-! ### x(lambda: e) -/
def allVal (ρ : Sl) : Sl := ρ.map fun s => match s with
  | .own d => .val d
  | s => s
theorem allVal_at {ρ : Sl} {i : Nat} {s : Slot} (h : (allVal ρ)[i]? = some s) : (∃ d, s = .val d ∧ ρ[i]? = some (.own d)) ∨ ((∀ d, s ≠ .own d) ∧ ρ[i]? = some s) := by
  unfold allVal at h
  rw [List.getElem?_map, Option.map_eq_some_iff] at h
  obtain ⟨s0, h1, h2⟩ := h
  cases s0 <;> subst h2
  · exact .inr ⟨(fun d z => by cases z), h1⟩
  · exact .inr ⟨(fun d z => by cases z), h1⟩
  · exact .inl ⟨_, rfl, h1⟩
  · exact .inr ⟨(fun d z => by cases z), h1⟩
theorem own_allVal {ρ : Sl} {σ : L2.St} {a : Addr} (h : own (allVal ρ) σ a) : False := by
  obtain ⟨i, d, h1, h2⟩ := h
  rcases allVal_at h1 with ⟨d, z, _⟩ | ⟨n, _⟩
  · cases z
  · exact n d rfl
section
variable {g : G} {W : WX} {C : JC} {ρ ρ' : Sl} {σ σ' : L2.St} {H H' : Hp}
/-- all that is in the slots, seen from a later heap, nothing one's own -/
theorem J.seen {K : PySem.W.Frag} {mg : Str → Option Value} {m : Bool} {Z : Addr → Prop} (j : J g C ρ σ H) (hK : g.K = K) (he : g.e = none) (gr : Grow H H') (hz : ∀ a, Z a → (∃ o, H' a = some o) ∧ (H a = none ∨ C.Z a)) :
    J ⟨K, mg, m, none, [], none⟩ ⟨H', fun _ => False, Z, none, []⟩ (allVal ρ) σ H' := by
  subst hK
  have le : ∀ a, Av Z (allVal ρ) σ a → Z a := fun a z => z.elim id fun z => (own_allVal z).elim
  have st : ∀ a, ¬ Av C.Z ρ σ a ∨ own ρ σ a → (∃ o, H a = some o) → ¬ Av Z (allVal ρ) σ a ∧ ∀ o, H a = some o → H' a = some o := fun a n e => by
    refine ⟨fun z => ?_, fun o q => gr a o q⟩
    rcases (hz a (le a z)).2 with y | y
    · obtain ⟨o, e⟩ := e; rw [y] at e; cases e
    · exact n.elim (fun n => n (.inl y)) fun o => j.ownNZ o y
  refine ⟨?_, fun i s h => ?_, fun i k d e a h1 _ h3 _ => (own_allVal ⟨i, d, h1, h3⟩).elim, fun a o e _ => e, fun a o e => ⟨o, e⟩, fun a z => ⟨(hz a z).1, fun o => own_allVal o⟩, fun a e => (by cases e), (fun p hp => (nomatch hp)), (fun p hp => (nomatch hp)), (fun p hp => (nomatch hp)), rfl, HbOk.none rfl⟩
  · unfold allVal; rw [List.length_map]; exact j.len
  · rcases allVal_at h with ⟨d, rfl, h1⟩ | ⟨n, h1⟩
    · obtain ⟨a, h2, h3, h4⟩ := j.slot i _ h1
      refine ⟨_, h2, ?_⟩
      have oa : own ρ σ a := ⟨i, d, h1, h2⟩
      have nz : ¬ C.Z a := j.ownNZ oa
      -- the container itself, its contents
      have r : Rp g.K C.Z H (.ref a) d := h3.rp (fun b z => .inl z) nz
      refine Rp.gen (fun b n e => ⟨fun z => ?_, fun o q => gr b o q⟩) _ _ r
      rcases (hz b (le b z)).2 with y | y
      · obtain ⟨o, e⟩ := e; rw [y] at e; cases e
      · exact n y
    · have q := j.slot i _ h1
      cases s with
      | emp => trivial
      | exc => obtain ⟨a, e, _⟩ := q; rw [he] at e; cases e
      | own d => exact absurd rfl (n d)
      | val d =>
        obtain ⟨v, h2, h3⟩ := q
        exact ⟨v, h2, Rp.gen (fun b n e => st b (.inl n) e) _ _ h3⟩
theorem J.allV (j : J g C ρ σ H) : J g C (allVal ρ) σ H := by
  have le : ∀ a, Av C.Z (allVal ρ) σ a → Av C.Z ρ σ a := fun a z => z.imp id fun z => (own_allVal z).elim
  refine ⟨by unfold allVal; rw [List.length_map]; exact j.len, fun i s h => ?_, fun i k d e a h1 _ h3 _ => (own_allVal ⟨i, d, h1, h3⟩).elim, j.ext, j.ex, fun a z => ⟨(j.zin a z).1, fun o => own_allVal o⟩, fun a e => ?_, j.tab, j.tz, j.tr, j.gt, j.hb⟩
  · rcases allVal_at h with ⟨d, rfl, h1⟩ | ⟨n, h1⟩
    · obtain ⟨a, h2, h3, h4⟩ := j.slot i _ h1
      have nz : ¬ C.Z a := j.ownNZ ⟨i, d, h1, h2⟩
      exact ⟨_, h2, h3.rp le fun z => z.elim nz fun z => own_allVal z⟩
    · have q := j.slot i _ h1
      cases s with
      | emp => trivial
      | exc => exact q
      | own d => exact absurd rfl (n d)
      | val d =>
        obtain ⟨v, h2, h3⟩ := q
        exact ⟨v, h2, Rp.keep le (fun _ _ e _ => e) _ _ h3⟩
  · exact j.br a e
/-- a table of code objects grew -/
theorem J.table {P : Addr} {q : Str} (j : J g C ρ σ H) (hp : (P, q) ∈ g.T) (uq : ∀ p ∈ g.T, p.1 = P → p = (P, q)) (k : ∀ b o, b ≠ P → H b = some o → H' b = some o) (t : LamX.TabS H' P q) : J g C ρ σ H' := by
  have tC : ∀ p ∈ C.T, p ∈ g.T := fun p h => by rw [← j.gt]; exact h
  have pC : (P, q) ∈ C.T := by rw [j.gt]; exact hp
  have nz : ∀ b, ¬ Av C.Z ρ σ b → b ≠ P := fun b n z => n (.inl (z ▸ j.tz _ pC))
  have at' : ∀ b o, H b = some o → ∃ u, H' b = some u := fun b o e => by
    by_cases hb : b = P
    · obtain ⟨ps, e2, _⟩ := t
      exact ⟨_, hb ▸ e2⟩
    · exact ⟨o, k b o hb e⟩
  refine ⟨j.len, fun i s h => ?_, j.inj, fun a o e n => k a o (fun z => n (z ▸ j.tr _ pC)) (j.ext a o e n), fun a o e => let ⟨u, e1⟩ := j.ex a o e; at' a u e1, fun a z => ⟨let ⟨u, e1⟩ := j.zSome z; at' a u e1, (j.zin a z).2⟩, j.br, fun p hp2 => ?_, j.tz, j.tr, j.gt, ?_⟩
  · have y := j.slot i s h
    cases s with
    | emp => trivial
    | exc => exact y
    | val d =>
      obtain ⟨v, h1, h2⟩ := y
      exact ⟨v, h1, Rp.keep (fun _ z => z) (fun a o e n => k a o (nz a n) e) _ _ h2⟩
    | own d =>
      obtain ⟨a, h1, h2, h3⟩ := y
      have na : a ≠ P := fun z => h2.noT j.tab _ pC z.symm
      exact ⟨a, h1, h2.keep (fun _ z => z) (fun b o e n => k b o (nz b n) e) (fun o e => k _ o na e), h3⟩
  · by_cases hb : p.1 = P
    · have := uq p (tC p hp2) hb
      subst this
      exact t
    · obtain ⟨ps, e1, e2, e3⟩ := j.tab p hp2
      refine ⟨ps, k _ _ hb e1, e2, fun pos cv hc => ?_⟩
      obtain ⟨c, f1, f2⟩ := e3 pos cv hc
      refine ⟨c, f1, k _ _ (fun z => ?_) f2⟩
      obtain ⟨ps', e4, _⟩ := j.tab _ pC
      rw [z] at f2
      rw [show (P, q).1 = P from rfl, f2] at e4
      exact LamX.codeO_ne _ (Option.some.inj e4)
  · intro B z e
    have y := (j.hb B z e).1
    rw [y] at hp; cases hp
end
/-- how the lambda's body ends -/
def outc : RE D → RF
  | .ok d _ => .ok d
  | .ex x _ => .ex x
  | .bad => .bad
def runL (n : Nat) (b : FS) : RF := match b (.exc :: List.replicate (n - 1) .emp) with
  | .nx _ => .ok .non
  | .rt d _ => .ok d
  | .ex x _ => .ex x
  | _ => .bad
def fLam (R : RF → RF) (f : FE) : FE := fun ρ => match R (outc (f (allVal ρ))) with
  | .ok d => .ok d (if d.flat = true then ρ else allVal ρ)
  | .ex x => .ex x ρ
  | .bad => .bad
def scL (P : Program) (w : World) (K : PySem.W.Frag) (mg : Str → Option Value) (base : Heap) (N : List Str) (sc : Scope) (k : Nat) (L : LamI) (B : Hp) (z : Addr → Prop) : SC :=
  ⟨P, w, K, mg, base, N, sc, k, false, true, true, none, .none, none, none, [], some (B, z), some L.f, some L, none⟩
/-- a def that gets a lambda -/
structure LamF (P : Program) (w : World) (K : PySem.W.Frag) (mg : Str → Option Value) (base : Heap) (x : Str) (k n : Nat) (b : RF → FS) (a : Str) (N : List Str) (sg : Scope) (g : Addr) (pg : Arguments) (bg : List Stmt) (fd : FuncData) : Prop where
  fn : FunD K x x pg bg sg [] [] g fd
  gm : mg x = some (.ref g)
  bi : Binds K fd [a] []
  sc : FnScope N [a] sg
  at0 : N[0]? = some a
  vi : Vis sg a
  d1 : (a == ("__debug__" : Str)) = false
  d2 : (a == ("__classdict__" : Str)) = false
  ln : N.length = n
  go : ∀ L B z o, LamOk K mg B z L o → DSs (scL P w K mg base N sg k L B z) bg (b o)
def CalL (P : Program) (w : World) (K : PySem.W.Frag) (mg : Str → Option Value) (base : Heap) (x : Str) (k n : Nat) (b : RF → FS) : Prop := ∃ a N sg g pg bg fd, LamF P w K mg base x k n b a N sg g pg bg fd
section
variable {s : SC}
/-- the lambda's body -/
def SC.lamS (s : SC) (sc : Scope) (k : Nat) : SC := { s with sc := sc, k := k, m := false, top := false, calm := true, e := none, raw := none, T := [], hb := none, lf := none, lam := none, mkr := none }
def tLamG (s : SC) (P0 : Addr) (q : Str) (N : List Str) (sg : Scope) (bg : List Stmt) (k : Nat) (tb : XK → TE) (W : WX) : TE := fun σ H Q => LamX.TabS H P0 q ∧ ∀ (f c2 : Addr) (H1 : Hp), (∀ b o, b ≠ P0 → H b = some o → H1 b = some o) → LamX.TabS H1 P0 q → H1 f = none → H1 c2 = some (LamX.CodeO c2 q) →
  ∃ (z : Addr → Prop) (tc : TS), (∀ y, Fit (scL s.P s.w s.K s.mg s.base N sg k ⟨f, c2, q, fun E H Q => tb E σ H Q⟩ H1 z) y → Takes ((scL s.P s.w s.K s.mg s.base N sg k ⟨f, c2, q, fun E H Q => tb E σ H Q⟩ H1 z).cx y) (fun cls d _ H => WE W σ cls d H) →
      PSs ((scL s.P s.w s.K s.mg s.base N sg k ⟨f, c2, q, fun E H Q => tb E σ H Q⟩ H1 z).cx y) bg tc) ∧ tc { nx := fun _ H' => Q .non H', rt := Q } (L2.start N [.ref f]) H1
theorem fit_lam {y : Cx} {sc : Scope} {k : Nat} {A : Around} {outer : List Env} {st : Shared} {H : Hp} {E : XK} {f c2 : Addr} (gd : A.guards = some []) (hr : Room k (A.deeper (LamX.lamEnv (s.cx y) sc st.heap.objs.size f c2))) :
    Fit (s.lamS sc k) (LamX.lamCx (s.cx y) A outer st H E sc f c2) where
  gd := gd
  room := .inl hr
  un := hr.units
  un2 := Nat.lt_of_le_of_lt (Nat.add_le_add_left (Nat.le_trans (by decide) (Nat.le_add_left 200 (16 * k))) _) (by have := hr.un; rw [Nat.add_assoc] at this; exact this)
  po := PassesOwn.leaving
  st := fun z => by cases z
  fn := fun z => by cases z
  fb := fun r z => by cases z
  lm := fun L z => by cases z
  mka := fun c P q z => by cases z
  su := fun a z => by cases z
theorem de_lam {x : Str} {c P0 : Addr} {q : Str} {k kb n : Nat} {b : RF → FS} {pa : Arguments} {bo : Expr} {sc : Scope} {fb : FE} {p lp pos : Pos} (Cl : CalL s.P s.w s.K s.mg s.base x k n b) (hbd : DE (s.lamS sc kb) bo fb) (mk : s.mkr = some (c, P0, q)) (hT : (P0, q) ∈ s.T) (uq : ∀ p ∈ s.T, p.1 = P0 → p = (P0, q))
    (hk : kb + 1 ≤ k) (hk2 : k + 1 ≤ s.k) (L : LamX.LamS s.sc sc) (bnd : ∀ (q : Str) (cl : List (Str × Addr)) (pm cv ctv : Value), bindArgs (PySem.W.kla_fn "<lambda>" q pa bo sc cl pm cv ctv) ⟨[], []⟩ = pure [])
    (hdef : ∀ env, defaultsOf pa env = ([], []) := by intro _; rfl) (hg : s.sc.names.lookup x = some .globalImplicit := by rfl) (he : s.e = none := by rfl) (hlf : s.lf = none := by rfl) (hc : s.calm = true := by rfl) (hdb : (x == ("__debug__" : Str)) = false := by decide)
    : DE s (.Call (.Name x p) [.Lambda pa bo sc lp] [] pos) (fLam (fun o => runL n (b o)) fb) := fun W => by
  obtain ⟨a, N, sg, g, pg, bg, fd, F⟩ := Cl
  have hx : ∀ E : XK, ∃ t, TrE (s.lamS sc kb).g (fun cls d _ H => E cls d H) t fb ∧ ∀ y, Fit (s.lamS sc kb) y → Takes ((s.lamS sc kb).cx y) (fun cls d _ H => E cls d H) → PE ((s.lamS sc kb).cx y) bo t := fun E => hbd fun cls d _ H => E cls d H
  refine ⟨tLamG s P0 q N sg bg k (fun E => (hx E).choose) W, ?_, fun y fi tk => ?_⟩
  · intro C ρ σ H Q j p
    refine ⟨j.tab _ (by rw [j.gt]; exact hT), fun f c2 H1 ke tab hf hco => ?_⟩
    have j1 : J s.g C ρ σ H1 := j.table hT uq ke tab
    have ge : s.g.e = none := by show (s.e <|> s.lf) = none; rw [he, hlf]; rfl
    have ok : LamOk s.K s.mg H1 C.Z ⟨f, c2, q, fun E H Q => (hx E).choose σ H Q⟩ (outc (fb (allVal ρ))) := by
      refine ⟨hco, fun HZ gr Z E Q2 dom hz r => ?_⟩
      have jl := j1.seen (mg := s.mg) (m := false) (Z := fun a => Z a ∨ C.Z a) rfl ge gr fun a z => z.elim (fun z => ⟨dom a z, hz a z⟩) fun z => ⟨(j1.zSome z).imp fun o e => gr a o e, .inr z⟩
      refine (hx E).choose_spec.1 _ _ σ HZ Q2 jl ?_
      have gr2 : ∀ {ρ2 : Sl} {H2 : Hp}, J (s.lamS sc kb).g ⟨HZ, fun _ => False, fun a => Z a ∨ C.Z a, none, []⟩ ρ2 σ H2 → Grow HZ H2 := fun k a o e => k.ext a o e fun z => z
      cases e : fb (allVal ρ) with
      | ok d ρ2 => rw [e] at r; exact fun v H2 k rv => r v H2 (gr2 k) (Rp.keep (fun a z => .inl (.inl z)) (fun _ _ e _ => e) _ _ rv)
      | ex x ρ2 => rw [e] at r; exact fun cls dd H2 k rx => r cls dd H2 (gr2 k) rx
      | bad => rw [e] at r; exact r.elim
    obtain ⟨tc, h1, h2⟩ := F.go _ H1 C.Z _ ok (fun cls d _ H => WE W σ cls d H)
    refine ⟨C.Z, tc, h2, ?_⟩
    have N0 : 0 < N.length := by
      have := (List.getElem?_eq_some_iff.mp F.at0).1
      exact this
    have no : ∀ {ρ2 : Sl} {σ2 : L2.St} (b : Addr), own (Slot.exc :: List.replicate (n - 1) .emp) σ2 b → False := fun {ρ2 σ2} b ⟨i, d, h1, _⟩ => by
      cases i with
      | zero => cases h1
      | succ i =>
        rw [List.getElem?_cons_succ, List.getElem?_replicate] at h1
        split at h1 <;> cases h1
    have j0 : J (scL s.P s.w s.K s.mg s.base N sg k ⟨f, c2, q, fun E H Q => (hx E).choose σ H Q⟩ H1 C.Z).g ⟨H1, fun _ => False, C.Z, none, []⟩ (.exc :: List.replicate (n - 1) .emp) (L2.start N [.ref f]) H1 := by
      refine ⟨?_, fun i s' h => ?_, fun i k d e b h1 _ h3 _ => (no (ρ2 := []) b ⟨i, d, h1, h3⟩).elim, fun a o e _ => e, fun a o e => ⟨o, e⟩, fun a z => ⟨j1.zSome z, no (ρ2 := []) a⟩, fun a e => (by cases e), (fun p hp => (nomatch hp)), (fun p hp => (nomatch hp)), (fun p hp => (nomatch hp)), rfl, fun B z e => ?_⟩
      · have := F.ln
        unfold L2.start
        simp
        omega
      · cases i with
        | zero => cases h; exact ⟨f, rfl, start_at (v := .ref f) rfl⟩
        | succ i =>
          rw [List.getElem?_cons_succ, List.getElem?_replicate] at h
          split at h
          · cases h; trivial
          · cases h
      · cases e
        exact ⟨rfl, fun a o e => ⟨e, o, e⟩, fun a z => z.elim, fun a z => .inr z⟩
    refine h1 _ _ _ H1 _ j0 ?_
    have gr3 : ∀ {ρ2 : Sl} {σ2 : L2.St} {H2 : Hp}, J (scL s.P s.w s.K s.mg s.base N sg k ⟨f, c2, q, fun E H Q => (hx E).choose σ H Q⟩ H1 C.Z).g ⟨H1, fun _ => False, C.Z, none, []⟩ ρ2 σ2 H2 → Grow H1 H2 := fun k a o e => k.ext a o e fun z => z
    unfold fLam runL at p
    dsimp only at p
    cases e : b (outc (fb (allVal ρ))) (.exc :: List.replicate (n - 1) .emp) with
    | nx ρ2 => rw [e] at p; exact fun σ2 H2 k => p .non H2 (j1.grow (gr3 k)) rfl
    | rt d ρ2 =>
      rw [e] at p
      intro v σ2 H2 k r
      simp only at p
      split at p
      · rename_i fl
        refine p v H2 (j1.grow (gr3 k)) (Rp.flat (fun a z => ?_) d v fl r)
        rcases z with z | z
        · exact .inl (.inl z)
        · obtain ⟨i, y, _, _, h3, _⟩ := (j1.grow (gr3 k)).ownTop z
          exact .inr (tp_noTup h3)
      · exact p v H2 (j1.allV.grow (gr3 k)) (Rp.keep (fun a z => .inl (z.elim id fun z => (own_allVal z).elim)) (fun _ _ e _ => e) _ _ r)
    | ex x2 ρ2 => rw [e] at p; exact fun cls dd σ2 H2 k r => p cls dd H2 (j1.grow (gr3 k)) r
    | bk ρ2 => rw [e] at p; exact p.elim
    | ct ρ2 => rw [e] at p; exact p.elim
    | bad => rw [e] at p; exact p.elim
  · obtain ⟨TB, code, eq⟩ := fi.mka c P0 q mk
    subst eq
    obtain ⟨oc, od, dV, kV, doc, pm, an, cd, ct, osl, rfl, lk, hcd, _, _⟩ := F.fn.ex
    have room := (fi.room.resolve_right (by rw [hc]; decide)).mono hk2
    refine ⟨fun pins st σ H Q I h => ?_⟩
    obtain ⟨tH, h⟩ := h
    refine wpAny_Call_Name_kw (ld_glob I hg F.gm ?_ hdb)
    refine PySem.W.callWith_K (h₀ := s.base) I.ok.mod.kin F.fn.kp ?_ (by rfl) (by rfl)
    show wpAny _ _ (spliced ((false, eval (.Lambda pa bo sc lp) (s.cx y).env) :: backTo pos (starEach [] (s.cx y).env))) _ _ st
    refine Calls.spliced_cons (mkLam (X := s.cx y) I TB code tH (hdef _) (L.has (X := s.cx y) I.ok) fun f c2 pm' ct' H1 st1 I1 ke tab hf hfn hfr hco => ?_)
    refine Calls.spliced_nil ⟨I1.kIn, ?_⟩
    obtain ⟨z, tc, hp, hz⟩ := h f c2 H1 ke tab hfn hco
    have run : codeAny (model s.P s.w) (s.cx y).A (.call (.ref g) ⟨[.ref f], []⟩) (CR (L2.CX s.P s.w) (s.cx y).stack s.P s.w H1 st1 Q (WE W σ)) st1 := by
      refine LamX.run_ofS (N := N) (ps := [a]) (us := [.ref f]) (vs := [.ref f]) lk hcd F.sc room I1.env0 (F.bi st1 [.ref f] I1.kIn rfl) (.cons rfl .nil) rfl fun hr => ?_
      refine ⟨tc, hp (cxOf (L2.CX s.P s.w) s.P s.w s.K s.mg s.base N x sg g cd (s.cx y).A (s.cx y).stack st1 H1 (WE W σ)) ?_ (takes_of rfl rfl rfl rfl), hz⟩
      refine ⟨fi.gd, .inl hr, hr.units, Nat.lt_of_le_of_lt (Nat.add_le_add_left (Nat.le_trans (by decide) (Nat.le_add_left 200 (16 * k))) _) (by have := hr.un; rw [Nat.add_assoc] at this; exact this), PassesOwn.leaving, fun _ => ⟨rfl, rfl⟩, fun _ => rfl, fun r z => (by cases z), fun L2 z => ?_, fun c P q z => (by cases z), fun a z => (by cases z)⟩
      cases z
      intro pn xe W2 tk2 a2 p1 p2 hN hv hd hcd2
      refine actG (X := s.cx y) (k := kb) (tb := fun E => (hx E).choose) I1 L hf hfn hfr (bnd _ _ _ _ _) tk2 (hr.mono hk) (fun E A outer st2 H2 ga rm => (hx E).choose_spec.2 _ (fit_lam (ga.trans fi.gd) rm) (takes_of rfl rfl rfl rfl)) hN hv hd hcd2
    have px := passAt tk σ
    refine wpAny_call (codeAny_mono run fun r s3 hq => ?_)
    match r, hq with
    | .error e, hq => exact px pins H1 st1 e s3 I1 hq
    | .ok (.ret u), hq => exact I1.after hq
    | .ok .next, hq => exact hq.elim
    | .ok .brk, hq => exact hq.elim
    | .ok .cont, hq => exact hq.elim
end
end DL

namespace DL
open PySem PySem.Spec PyProof.Rows L2
/-! ### defs that make lambdas -/
def scM (P : Program) (w : World) (K : PySem.W.Frag) (mg : Str → Option Value) (base : Heap) (N : List Str) (sc : Scope) (k : Nat) (m : Bool) (T : List (Addr × Str)) (mk : Addr × Addr × Str) : SC :=
  ⟨P, w, K, mg, base, N, sc, k, m, true, true, none, .none, none, none, T, none, none, none, some mk⟩
structure GrowT (T : List (Addr × Str)) (H H' : Hp) : Prop where
  ext : ∀ a o, H a = some o → (∀ p ∈ T, p.1 ≠ a) → H' a = some o
  dom : ∀ a o, H a = some o → ∃ u, H' a = some u
  tab : LamX.Tabs T H'
def PostFT (K : PySem.W.Frag) (mg : Str → Option Value) (T : List (Addr × Str)) (Z : Addr → Prop) (H : Hp) (Q : VK) (E : XK) : RF → Prop
  | .ok d => ∀ v H', GrowT T H H' → Rp K Z H' v d → Q v H'
  | .ex x => ∀ cls dd H', GrowT T H H' → ExR K mg x cls dd H' → E cls dd H'
  | .bad => False
def spPT (K : PySem.W.Frag) (mg : Str → Option Value) (T : List (Addr × Str)) (n : Nat) (F : List D → RF) : Sp := fun vs H Q E => vs.length = n ∧ LamX.Tabs T H ∧ ∃ Z ds, (∀ a, Z a → ∃ o, H a = some o) ∧ (∀ p ∈ T, Z p.1) ∧ Rps K Z H vs ds ∧ PostFT K mg T Z H Q E (F ds)
section
variable {P : Program} {w : World} {K : PySem.W.Frag} {mg : Str → Option Value} {base : Heap} {H : Hp}
theorem J.entryT {T : List (Addr × Str)} {Z : Addr → Prop} {N : List Str} {vs : List V} {ds : List D} (hl : vs.length ≤ N.length) (hz : ∀ a, Z a → ∃ o, H a = some o) (hT : ∀ p ∈ T, Z p.1) (tab : LamX.Tabs T H) (r : Rps K Z H vs ds) :
    J ⟨K, mg, false, none, T, none⟩ ⟨H, fun a => ∃ p ∈ T, p.1 = a, Z, none, T⟩ (rho0 N.length ds) (L2.start N vs) H := by
  have no : ∀ a, ¬ own (rho0 N.length ds) (L2.start N vs) a := fun a ⟨i, d, h1, h2⟩ => by
    rcases rho0_at h1 with ⟨e, _, h⟩ | h <;> cases h
  have le : ∀ a, Av Z (rho0 N.length ds) (L2.start N vs) a → Z a := fun a z => z.elim id fun z => absurd z (no a)
  refine ⟨?_, fun i s h => ?_, fun i k d e a h1 h2 h3 h4 => absurd ⟨i, d, h1, h3⟩ (no a), fun a o e _ => e, fun a o e => ⟨o, e⟩, fun a z => ⟨hz a z, no a⟩, fun a e => (by cases e), tab, hT, fun p hp => ⟨p, hp, rfl⟩, rfl, HbOk.none rfl⟩
  · unfold rho0 L2.start
    simp [r.length]
  · rcases rho0_at h with ⟨d, h1, rfl⟩ | rfl
    · obtain ⟨v, h2, h3⟩ := r.get' h1
      exact ⟨v, start_at h2, Rp.keep le (fun _ _ e _ => e) _ _ h3⟩
    · trivial
theorem body_PT {T : List (Addr × Str)} {N : List Str} {n : Nat} {t : TS} {b : FS} {vs : List V} {Q : VK} {E : XK} (hn : n ≤ N.length) (hsp : spPT K mg T n (runP N.length b) vs H Q E) (h : TrS ⟨K, mg, false, none, T, none⟩ (fun cls d _ H => E cls d H) t b) :
    t { nx := fun _ H' => Q .non H', rt := Q } (L2.start N vs) H := by
  obtain ⟨hl, tab, Z, ds, hz, hT, r, p⟩ := hsp
  have j := J.entryT (mg := mg) (N := N) (by omega) hz hT tab r
  refine h _ _ _ H _ j ?_
  have gr : ∀ {ρ σ H'}, J ⟨K, mg, false, none, T, none⟩ ⟨H, fun a => ∃ p ∈ T, p.1 = a, Z, none, T⟩ ρ σ H' → GrowT T H H' := fun k => ⟨fun a o e n => k.ext a o e fun ⟨p, hp, z⟩ => n p hp z, k.ex, k.tab⟩
  unfold runP at p
  cases e : b (rho0 N.length ds) with
  | nx ρ => rw [e] at p; exact fun σ H' k => p _ H' (gr k) rfl
  | rt d ρ => rw [e] at p; exact fun v σ H' k r => p v H' (gr k) (Rp.keep (fun _ z => .inl z) (fun _ _ e _ => e) _ _ r)
  | ex x ρ => rw [e] at p; exact fun cls dd σ H' k r => p cls dd H' (gr k) r
  | bk ρ => rw [e] at p; exact p.elim
  | ct ρ => rw [e] at p; exact p.elim
  | bad => rw [e] at p; exact p.elim
theorem fn_PT {x : Str} {pa : Arguments} {body : List Stmt} {scope : Scope} {f c P0 : Addr} {fd : FuncData} {N ps : List Str} {k : Nat} {b : FS} {T : List (Addr × Str)} (F : FunD K x x pa body scope [] [] f fd) (S : FnScope N ps scope) (hc : fd.code = .ref c) (TB : LamX.TabB base mg c P0)
    (h : DSs (scM P w K mg base N scope k false T (c, P0, x ++ ".<locals>." ++ "<lambda>")) body b) (hn : ps.length ≤ N.length := by decide) : FnG P w K mg base (k + 1) f fd ps (spPT K mg T ps.length (runP N.length b)) := by
  obtain ⟨oc, od, dV, kV, doc, pm, an, cd, ct, osl, rfl, lk, hcd, _, _⟩ := F.ex
  have ec : cd = .ref c := hc
  subst ec
  refine ⟨fun vs H Q E q => q.1, fun A outer st H ar us vs Q E gd hr e b2 r q => ?_⟩
  refine LamX.run_ofS lk hcd S hr e b2 r q.1 fun hr' => ?_
  obtain ⟨t, q1, q2⟩ := h (fun cls d _ H => E cls d H)
  refine ⟨t, q2 (cxOf (L2.CX P w) P w K mg base N x scope f (.ref c) A outer st H E) ?_ (takes_of rfl rfl rfl rfl), body_PT hn q q1⟩
  exact ⟨gd, .inl hr', hr'.units, Nat.lt_of_le_of_lt (Nat.add_le_add_left (Nat.le_trans (by decide) (Nat.le_add_left 200 (16 * k))) _) (by have := hr'.un; rw [Nat.add_assoc] at this; exact this), PassesOwn.leaving, fun _ => ⟨rfl, rfl⟩, fun _ => rfl, fun r z => (by cases z), fun L z => (by cases z),
    fun c2 P2 q2 z => (by
      have e := Option.some.inj (show some (c, P0, x ++ ".<locals>." ++ "<lambda>") = some (c2, P2, q2) from z)
      rw [Prod.mk.injEq, Prod.mk.injEq] at e
      obtain ⟨e1, e3, e4⟩ := e
      subst e1 e3
      exact ⟨TB, rfl, e4⟩), fun a z => (by cases z)⟩
/-- a def that gets a lambda -/
theorem fn_L {x a : Str} {pa : Arguments} {body : List Stmt} {scope : Scope} {f : Addr} {fd : FuncData} {N : List Str} {k : Nat} {b : RF → FS} (F : FunD K x x pa body scope [] [] f fd) (hm : mg x = some (.ref f)) (S : FnScope N [a] scope)
    (h : ∀ L B z o, LamOk K mg B z L o → DSs (scL P w K mg base N scope k L B z) body (b o))
    (hb : ∀ (kV doc pm : Value) (an : Option Addr) (cd ct : Value) (us : List Value), us.length = [a].length → bindArgs (PySem.W.fnOf x x pa body scope .none kV doc pm an cd ct) ⟨us, []⟩ = pure ([a].zip us))
    (h0 : N[0]? = some a := by rfl) (hv : Vis scope a := by first | exact Or.inl rfl | exact Or.inr (Or.inl rfl) | exact Or.inr (Or.inr rfl)) (hd : (a == ("__debug__" : Str)) = false := by decide) (hcd : (a == ("__classdict__" : Str)) = false := by decide) : CalL P w K mg base x k N.length b :=
  ⟨a, N, scope, f, pa, body, fd, F, hm, F.bindsN hb, S, h0, hv, hd, hcd, rfl, h⟩
theorem law_spT {F : List D → RF} {a : Addr} {ns : List Int} {cs : List (Addr × Addr)} {T : List (Addr × Str)} (hT : ∀ p ∈ T, ∃ c, (c, p.1) ∈ cs) (e : F [.frl (ns.map D.int)] = .ok (.bl true)) (tb : ∀ p ∈ cs, H p.2 = some (.tbl #[])) (z : ZF K (fun b => ∃ p ∈ cs, p.2 = b) H a (ns.map V.int)) :
    spPT K mg T 1 F [.ref a] H (fun v _ => v = .bl true) fun _ _ _ => False := by
  refine ⟨rfl, fun p hp => ?_, _, [.frl (ns.map D.int)], fun b ⟨p, hp, e⟩ => ⟨_, e ▸ tb p hp⟩, fun p hp => ?_, ⟨.ref a, [], rfl, ⟨a, _, rfl, z, rps_intL ns⟩, rfl⟩, ?_⟩
  · obtain ⟨c, hc⟩ := hT p hp
    exact LamX.TabS.nil (tb _ hc)
  · obtain ⟨c, hc⟩ := hT p hp
    exact ⟨_, hc, rfl⟩
  · rw [e]
    exact fun v H' _ r => r
/-- the code object that the def's own function has -/
theorem code_ref {x q : Str} {pa : Arguments} {body : List Stmt} {scope : Scope} {fd : FuncData} {p : He.Defn} (F : FunD K x q pa body scope [] [] (He.fAd K p) fd) : fd.code = .ref (He.cT K p).1 := by
  obtain ⟨oc, od, dV, kV, doc, pm, an, cd, ct, osl, rfl, lk, hcd, _, _⟩ := F.ex
  obtain ⟨c, rfl⟩ := He.codeIn_ref hcd
  have := He.codeOf_eq (K := K) (p := p) lk rfl
  show Value.ref c = .ref (He.codeOf K p)
  rw [this]
end
/-! ### error classes -/
structure ErrOk (K : PySem.W.Frag) (mg : Str → Option Value) (errs own : List Str) (tys : List String) (bs : Str) : Prop where
  root : ∃ A, mg bs = some (.ref A) ∧ ∀ x ∈ errs, ∀ B, mg x = some (.ref B) → PySem.W.exmOne K (.ref B) (.ref A) = some true
  ex : ∀ x ∈ errs, ∀ B, mg x = some (.ref B) → ExcC K B
  own : ∀ x ∈ errs, ∀ B, mg x = some (.ref B) → ∀ c ∈ own, ∃ A, mg c = some (.ref A) ∧ PySem.W.kitOne K (.ref B) (.ref A) = some (decide (x = c))
  tys : ∀ x ∈ errs, ∀ B, mg x = some (.ref B) → ∀ t ∈ tys, PySem.W.kitOne K (.ref B) (.type t) = some true
def eqv (a b : Option (Option Value)) : Bool := decide (a = b)
def excCB (K : PySem.W.Frag) (D : Addr) : Bool := eqv (PySem.W.findIn K (.ref D) "__getattribute__") (some (some (.builtin "BaseException.__getattribute__"))) && (eqv (PySem.W.findIn K (.ref D) "__getattr__") (some none) && (decide (PySem.W.subIn K (.ref D) (.type "BaseException") = some true) &&
  (PySem.W.hasDictIn K D && (eqv (PySem.W.findIn K (.ref D) "__class__") (some (some (.builtin "object.__class__"))) && (eqv (PySem.W.specialIn K (.builtin "object.__class__") "__get__") (some (some (.builtin "getset_descriptor.__get__"))) &&
  (decide (PySem.W.takesIn K (.builtin "object.__class__") = some true) && decide (PySem.W.mroIn K D (.type "object") = some true)))))))
def errB (errs own : List Str) (tys : List String) (bs : Str) (K : PySem.W.Frag) : Bool := errs.all fun x => excCB K (He.ga K x) && (decide (PySem.W.exmOne K (.ref (He.ga K x)) (.ref (He.ga K bs)) = some true) &&
  ((own.all fun c => decide (PySem.W.kitOne K (.ref (He.ga K x)) (.ref (He.ga K c)) = some (decide (x = c)))) && tys.all fun t => decide (PySem.W.kitOne K (.ref (He.ga K x)) (.type t) = some true)))
theorem excC_of {K : PySem.W.Frag} {D : Addr} (h : excCB K D = true) : ExcC K D := by
  unfold excCB eqv at h
  simp only [Bool.and_eq_true, decide_eq_true_eq] at h
  exact ⟨h.1, h.2.1, h.2.2.1, h.2.2.2.1, h.2.2.2.2.1, h.2.2.2.2.2.1, h.2.2.2.2.2.2.1, h.2.2.2.2.2.2.2⟩
theorem errOk_of {K : PySem.W.Frag} {mg : Str → Option Value} {errs own : List Str} {tys : List String} {bs : Str} (h : errB errs own tys bs K = true) (ge : ∀ x ∈ errs, mg x = some (.ref (He.ga K x))) (go : ∀ x ∈ own, mg x = some (.ref (He.ga K x))) (gb : mg bs = some (.ref (He.ga K bs))) : ErrOk K mg errs own tys bs := by
  have key : ∀ x ∈ errs, ∀ B, mg x = some (.ref B) → B = He.ga K x ∧ ExcC K B ∧ PySem.W.exmOne K (.ref B) (.ref (He.ga K bs)) = some true ∧ (∀ c ∈ own, PySem.W.kitOne K (.ref B) (.ref (He.ga K c)) = some (decide (x = c))) ∧ ∀ t ∈ tys, PySem.W.kitOne K (.ref B) (.type t) = some true := fun x hx B hB => by
    have e := ge x hx
    rw [hB] at e
    cases e
    have q := List.all_eq_true.mp h x hx
    simp only [Bool.and_eq_true, decide_eq_true_eq, List.all_eq_true] at q
    exact ⟨rfl, excC_of q.1, q.2.1, q.2.2.1, q.2.2.2⟩
  exact ⟨⟨_, gb, fun x hx B hB => (key x hx B hB).2.2.1⟩, fun x hx B hB => (key x hx B hB).2.1, fun x hx B hB c hc => ⟨_, go c hc, (key x hx B hB).2.2.2.1 c hc⟩, fun x hx B hB t ht => (key x hx B hB).2.2.2.2 t ht⟩
end DL

namespace DL
open PySem PySem.Spec PyProof.Rows L2
/-! ### x.extend(l) -/
def sExtend (i : Nat) (f : FE) : FS := fun ρ => if (lstAt ρ i).isSome = true then (f ρ).bs fun d ρ' => match d, lstAt ρ' i with
    | .lst es, some ds => if ds.length + es.length ≤ bigL then .nx (ρ'.set i (.own (.lst (ds ++ es)))) else .bad
    | _, _ => .bad
  else .bad
section
variable {g : G} {W : WX}
theorem trs_extend {i : Nat} {t : TE} {f : FE} (h : TrE g W t f) : TrS g W (tDrop (tBM g.K "list" rExtend (tVar i) (tCons t tNil))) (sExtend i f) := by
  intro C ρ σ H D' j p
  unfold sExtend at p
  split at p
  · rename_i hs
    obtain ⟨ds0, e0⟩ := Option.isSome_iff_exists.mp hs
    obtain ⟨a, vs0, ha, hl0, r0⟩ := j.ownL (lstAt_some e0)
    refine ⟨_, ha, .inl ⟨rfl, vs0, SqL.of hl0⟩, ?_⟩
    refine PostG.st h j p fun d ρ1 v H1 j1 k1 r1 p1 => ?_
    split at p1
    · rename_i es ds e1
      split at p1
      · rename_i hlen
        obtain ⟨b, vs, hb, hl, r⟩ := j1.ownL (lstAt_some e1)
        rw [ha] at hb; cases hb
        obtain ⟨c, us, rfl, z, ru⟩ := r1
        rw [bigL_eq] at hlen
        refine ⟨a, c, vs, us, rfl, rfl, hl, z.2, by rw [r.length, ru.length]; exact hlen, p1 _ _ (j1.setL (lstAt_some e1) ha (r.app ru))⟩
      · exact p1.elim
    · exact p1.elim
  · exact p.elim
end
section
variable {s : SC}
theorem ds_extend {i : Nat} {x : Str} {e : Expr} {f : FE} {p1 p2 p3 pos : Pos} (h : DE s e f) (hN : s.N[i]? = some x := by rfl) (hv : Vis s.sc x := by first | exact Or.inl rfl | exact Or.inr (Or.inl rfl) | exact Or.inr (Or.inr rfl)) (hd : (x == ("__debug__" : Str)) = false := by decide) (hcd : (x == ("__classdict__" : Str)) = false := by decide)
    (hf : ∀ env, ((backTo p3 (starEach (e :: []) env)).all (fun x => !x.1) && (backToKw p3 (keywordEach [] env)).all (fun x => x.1.isSome)
      && decide ((e :: []).length + ([] : List Keyword).length + (if ([] : List Keyword).isEmpty then 0 else 1) < 30)) = true := by intro _; rfl) (hs : ∀ env, starEach (e :: []) env = (false, eval e env) :: starEach [] env := by intro _; rfl) (hl : (p2.endLine == p3.line) = true := by rfl) : DS s (.Expr (.Call (.Attribute (.Name x p1) "extend" p2) [e] [] p3) pos) (sExtend i f) := fun W =>
  let ⟨t, q1, q2⟩ := h W
  ⟨_, trs_extend q1, fun y fi k => ps_expr (pe_bm PySem.F.plainAttrs_list PySem.F.slot_list_extend PySem.F.type_list_extend mt_extend (pe_var hN hv hd hcd) (pa_cons (q2 y fi k) pa_nil (hs _)) (hs := hs _) (hline := hl) (hfew := hf _))⟩
/-! ### a tuple of ints of the module's own -/
def TupD (K : PySem.W.Frag) (mg : Str → Option Value) (x : Str) (ns : List Int) : Prop := ∃ a, mg x = some (.ref a) ∧ ∀ (Z : Addr → Prop) (H : Hp), Rp K Z H (.ref a) (.tup (ns.map .int))
theorem de_gtD {x : Str} {ns : List Int} {pos : Pos} (h : TupD s.K s.mg x ns) (hg : s.sc.names.lookup x = some .globalImplicit := by rfl) (hd : (x == ("__debug__" : Str)) = false := by decide) : DE s (.Name x pos) (fC (.tup (ns.map .int))) :=
  fun W => let ⟨_, hm, r⟩ := h; ⟨_, tr_c (fun Z H => r Z H), fun y _ _ => pe_glob hg hm rfl hd⟩
end
theorem tupD_of {K : PySem.W.Frag} {mg : Str → Option Value} {x : Str} {ns : List Int} (g : mg x = some (.ref (He.ga K x))) (c : He.tupB K x (ns.map He.Dv.int) = true) : TupD K mg x ns := by
  refine ⟨_, g, fun Z H => ?_⟩
  have q := He.tupB_ok c (fun _ => none)
  rw [List.map_map] at q
  refine ⟨_, ns.map V.int, rfl, .inr ?_, rps_intL ns⟩
  rcases q with z | z
  · rcases z with z | ⟨o, z⟩ <;> cases z
  · exact z
end DL

namespace DL
open PySem PySem.Spec PyProof.Rows L2
/-! ### min, max of a tuple -/
def rMinT (K : PySem.W.Frag) : List V → Hp → VK → Prop := fun vs H Q => ∃ (a : Addr) (ns : List Int), vs = [V.ref a] ∧ SqT K H a (ns.map V.int) ∧ 0 < ns.length ∧ ∀ m, m ∈ ns → (∀ y, y ∈ ns → m ≤ y) → Q (.int m) H
def rMaxT (K : PySem.W.Frag) : List V → Hp → VK → Prop := fun vs H Q => ∃ (a : Addr) (ns : List Int), vs = [V.ref a] ∧ SqT K H a (ns.map V.int) ∧ 0 < ns.length ∧ ∀ m, m ∈ ns → (∀ y, y ∈ ns → y ≤ m) → Q (.int m) H
theorem cr_minT {X : Cx} (hc : X.calm = true) : CallR X (.builtin "min") (rMinT X.K) := by
  intro pins s σ H vs us Q I r h
  obtain ⟨a, ns, rfl, hs, pos, q⟩ := h
  obtain ⟨its, rv, p, _⟩ := I.tuple hs
  rw [Vals.ref1 r]
  have iv := rv.ints
  obtain ⟨ys, ey⟩ := iv.allInts.items
  have en : numsOf (intItems ys).toList = ns := by rw [← ey]; exact iv.numsOf
  rw [nums_intItems] at en
  subst en
  have ht : s.heap.IsTuple a (intItems ys) := by rw [← ey]; exact p
  have ysz : 0 < ys.size := by simpa using pos
  have lt : a < s.heap.objs.size := by obtain ⟨o, ho, _⟩ := id ht; exact Heap.lt_size ho
  refine call_min_walk (wpAny_pyIter_tuple ht ⟨s.heap.objs.size, [s.heap.objs.size, a], [s.heap.objs.size], (intItems ys).size, _, _, _, rfl, Walks.tuple (A := X.A.in1) (I.ok.hd hc) _ a (Nat.ne_of_lt lt) (intItems ys), ?_, ?_, ?_, CmpOf.ints_lt (numAt ys) (fun _ _ => intItems_at), ?_⟩)
  · exact ⟨⟨_, Heap.get?_push_size _ rfl, rfl, rfl⟩, ht.push _⟩
  · intro b hb
    rw [Heap.size_push]
    rcases (by simpa using hb : b = s.heap.objs.size ∨ b = a) with rfl | rfl
    · exact Nat.lt_succ_self _
    · exact Nat.lt_succ_of_lt lt
  · simpa [intItems] using ysz
  · intro v h2 tk hP hk
    have hP : (intItems ys)[argBest (fun i j => decide (numAt ys i < numAt ys j)) (ys.size - 1)]? = some v := by simpa [intItems] using hP
    obtain ⟨t, rfl⟩ := intItems_at hP
    obtain ⟨b1, b2⟩ := argBest_lt (numAt ys) (ys.size - 1)
    refine ⟨.int _, H, I.kept (t' := tk) fun b o e => hk b o (by simpa using Nat.ne_of_lt (Heap.lt_size e)) (Heap.get?_push_of_some _ e), ⟨_, rfl⟩, q _ ?_ fun z hz => ?_⟩
    · rw [numAt_eq]
      refine PySem.getD_mem ?_
      rw [List.length_map, Array.length_toList]; omega
    · obtain ⟨j, hj, rfl⟩ := mem_getD hz
      rw [List.length_map, Array.length_toList] at hj
      have w := b2 j (by omega)
      rw [← numAt_eq]
      exact w
theorem cr_maxT {X : Cx} (hc : X.calm = true) : CallR X (.builtin "max") (rMaxT X.K) := by
  intro pins s σ H vs us Q I r h
  obtain ⟨a, ns, rfl, hs, pos, q⟩ := h
  obtain ⟨its, rv, p, _⟩ := I.tuple hs
  rw [Vals.ref1 r]
  have iv := rv.ints
  obtain ⟨ys, ey⟩ := iv.allInts.items
  have en : numsOf (intItems ys).toList = ns := by rw [← ey]; exact iv.numsOf
  rw [nums_intItems] at en
  subst en
  have ht : s.heap.IsTuple a (intItems ys) := by rw [← ey]; exact p
  have ysz : 0 < ys.size := by simpa using pos
  have lt : a < s.heap.objs.size := by obtain ⟨o, ho, _⟩ := id ht; exact Heap.lt_size ho
  refine call_max_walk (wpAny_pyIter_tuple ht ⟨s.heap.objs.size, [s.heap.objs.size, a], [s.heap.objs.size], (intItems ys).size, _, _, _, rfl, Walks.tuple (A := X.A.in1) (I.ok.hd hc) _ a (Nat.ne_of_lt lt) (intItems ys), ?_, ?_, ?_, CmpOf.ints_gt (numAt ys) (fun _ _ => intItems_at), ?_⟩)
  · exact ⟨⟨_, Heap.get?_push_size _ rfl, rfl, rfl⟩, ht.push _⟩
  · intro b hb
    rw [Heap.size_push]
    rcases (by simpa using hb : b = s.heap.objs.size ∨ b = a) with rfl | rfl
    · exact Nat.lt_succ_self _
    · exact Nat.lt_succ_of_lt lt
  · simpa [intItems] using ysz
  · intro v h2 tk hP hk
    have hP : (intItems ys)[argBest (fun i j => decide (numAt ys i > numAt ys j)) (ys.size - 1)]? = some v := by simpa [intItems] using hP
    obtain ⟨t, rfl⟩ := intItems_at hP
    obtain ⟨b1, b2⟩ := argBest_gt (numAt ys) (ys.size - 1)
    refine ⟨.int _, H, I.kept (t' := tk) fun b o e => hk b o (by simpa using Nat.ne_of_lt (Heap.lt_size e)) (Heap.get?_push_of_some _ e), ⟨_, rfl⟩, q _ ?_ fun z hz => ?_⟩
    · rw [numAt_eq]
      refine PySem.getD_mem ?_
      rw [List.length_map, Array.length_toList]; omega
    · obtain ⟨j, hj, rfl⟩ := mem_getD hz
      rw [List.length_map, Array.length_toList] at hj
      have w := b2 j (by omega)
      rw [← numAt_eq]
      exact w
def minA : List D → Option D
  | [.tup xs] => (intsD xs).bind fun ns => if ns.isEmpty then none else some (.int (minI ns))
  | ds => minB ds
def maxA : List D → Option D
  | [.tup xs] => (intsD xs).bind fun ns => if ns.isEmpty then none else some (.int (maxI ns))
  | ds => maxB ds
theorem bi_minA {K : PySem.W.Frag} : BiOk K (fun vs H Q => ((∃ i j, vs = [.int i, .int j] ∧ Q (.int (if j < i then j else i)) H) ∨ rMin K vs H Q) ∨ rMinT K vs H Q) minA := by
  intro Z H vs ds d Q hz hr hb q
  unfold minA at hb
  split at hb
  · rename_i xs
    obtain ⟨v, rfl, h⟩ := hr.one
    obtain ⟨a, ws, rfl, s, r⟩ := h.tup
    rw [Option.bind_eq_some_iff] at hb
    obtain ⟨ns, e1, hb⟩ := hb
    split at hb
    · cases hb
    · rename_i c
      cases hb
      have ne : ns ≠ [] := fun z => c (by rw [z]; rfl)
      exact .inr ⟨a, ns, rfl, by rw [← rps_ints e1 r]; exact s.sq, List.length_pos_iff.mpr ne, fun m hm hl => by
        have e : m = minI ns := Int.le_antisymm (hl _ (minI_mem ns ne)) (minI_le ns m hm)
        rw [e]; exact q _ _ Grow.refl rfl⟩
  · exact .inl (bi_min (K := K) Z H vs ds d Q hz hr hb q)
theorem bi_maxA {K : PySem.W.Frag} : BiOk K (fun vs H Q => ((∃ i j, vs = [.int i, .int j] ∧ Q (.int (if j > i then j else i)) H) ∨ rMax K vs H Q) ∨ rMaxT K vs H Q) maxA := by
  intro Z H vs ds d Q hz hr hb q
  unfold maxA at hb
  split at hb
  · rename_i xs
    obtain ⟨v, rfl, h⟩ := hr.one
    obtain ⟨a, ws, rfl, s, r⟩ := h.tup
    rw [Option.bind_eq_some_iff] at hb
    obtain ⟨ns, e1, hb⟩ := hb
    split at hb
    · cases hb
    · rename_i c
      cases hb
      have ne : ns ≠ [] := fun z => c (by rw [z]; rfl)
      exact .inr ⟨a, ns, rfl, by rw [← rps_ints e1 r]; exact s.sq, List.length_pos_iff.mpr ne, fun m hm hl => by
        have e : m = maxI ns := Int.le_antisymm (le_maxI ns m hm) (hl _ (maxI_mem ns ne))
        rw [e]; exact q _ _ Grow.refl rfl⟩
  · exact .inl (bi_max (K := K) Z H vs ds d Q hz hr hb q)
section
variable {s : SC} {e : Expr} {es : List Expr} {as : List Ag} {p pos : Pos}
theorem de_minA (hm : s.mg "min" = none) (ha : DA s (e :: es) as) (hc : s.calm = true := by rfl) (hg : s.sc.names.lookup ("min" : Str) = some .globalImplicit := by rfl) (he : ∀ env, starEach (e :: es) env = (false, eval e env) :: starEach es env := by intro _; rfl) (hpl : ∀ env, (backTo pos (starEach es env)).any (·.1) = false := by intro _; rfl) :
    DE s (.Call (.Name "min" p) (e :: es) [] pos) (fApp minA as) := de_blt (fun _ => (call_minD hc).or (cr_minT hc)) bi_minA hm boot_min ha hg (by decide) (by decide) he hpl
theorem de_maxA (hm : s.mg "max" = none) (ha : DA s (e :: es) as) (hc : s.calm = true := by rfl) (hg : s.sc.names.lookup ("max" : Str) = some .globalImplicit := by rfl) (he : ∀ env, starEach (e :: es) env = (false, eval e env) :: starEach es env := by intro _; rfl) (hpl : ∀ env, (backTo pos (starEach es env)).any (·.1) = false := by intro _; rfl) :
    DE s (.Call (.Name "max" p) (e :: es) [] pos) (fApp maxA as) := de_blt (fun _ => (call_maxD hc).or (cr_maxT hc)) bi_maxA hm boot_max ha hg (by decide) (by decide) he hpl
end
end DL

set_option maxHeartbeats 1000000
namespace DL
open PySem PySem.Spec PyProof.Rows L2
/-! ### a lambda whose body changes a list of the maker's own -/
structure LamOkE (K : PySem.W.Frag) (mg : Str → Option Value) (B : Hp) (z : Addr → Prop) (a0 : Addr) (L : LamI) (o : RG) : Prop where
  cd : B L.c = some (LamX.CodeO L.c L.q)
  go : ∀ H, Grow B H → ∀ (Z : Addr → Prop) (E : XK) (Q : VK), (∀ a, Z a → ∃ o, H a = some o) → (∀ a, Z a → B a = none ∨ z a) → Z a0 → PostR K mg Z a0 H Q E o → L.tb E H Q
def PostE (K : PySem.W.Frag) (B : Hp) (z : Addr → Prop) (a0 : Addr) (D' : Ends) : RG → Prop
  | .ok d h => ∀ v H' hv, Mod a0 B H' → H' a0 = some (.lst hv) → Rps K z H' hv h → Rp K z H' v d → D'.rt v H'
  | _ => False
def EffS (g : G) (B : Hp) (z : Addr → Prop) (a0 : Addr) (t : TS) (f : Sl → RG) : Prop := ∀ ρ σ H D', J g ⟨B, fun _ => False, z, none, []⟩ ρ σ H → PostE g.K B z a0 D' (f ρ) → t D' σ H
def DSE (s : SC) (B : Hp) (z : Addr → Prop) (a0 : Addr) (sts : List Stmt) (f : Sl → RG) : Prop := ∀ W, ∃ t, EffS s.g B z a0 t f ∧ ∀ y, Fit s y → Takes (s.cx y) W → PSs (s.cx y) sts t
/-- once the lambda was called -/
def SC.aft (s : SC) : SC := { s with hb := none, lf := none, lam := none }
def finE (h : List D) : RS → RG
  | .rt d _ => .ok d h
  | _ => .bad
def fTryE (ns : List Str) (i : Nat) (hd : Str → FS) (post : FS) (o : RG) : Sl → RG := fun ρ => match ρ[(0 : Nat)]? with
  | some .exc => (match o with
    | .ok _ h => finE h (post (dropX ρ))
    | .ex x h => if (ns.contains x.name && x.fs.isEmpty) = true then (match hd x.name ((dropX ρ).set i .exc) with
        | .nx ρ2 => finE h (post (dropX (ρ2.set i .emp)))
        | .rt d _ => .ok d h
        | _ => .bad)
      else .bad
    | .bad => .bad)
  | _ => .bad
def fThen (f : FS) (r : Sl → RG) : Sl → RG := fun ρ => match f ρ with
  | .nx ρ' => r ρ'
  | _ => .bad
section
variable {s : SC} {B : Hp} {z : Addr → Prop} {a0 : Addr}
theorem J.after {g : G} {e' : Option Addr} {ρ : Sl} {σ : L2.St} {H H' : Hp} {hv : List V} (hT : g.T = []) (j : J g ⟨B, fun _ => False, z, none, []⟩ ρ σ H) (hz : z a0) (md : Mod a0 H H') (h0 : H' a0 = some (.lst hv)) :
    J { g with e := e', hb := none } ⟨H', fun a => own ρ σ a, z, none, []⟩ (dropX ρ) σ H' := by
  have na : ∀ {a}, own ρ σ a → a ≠ a0 := fun {a} o q => j.ownNZ o (q ▸ hz)
  refine ⟨?_, fun i s h => ?_, fun i k d e a h1 h2 h3 h4 => ?_, fun a o e _ => e, fun a o e => ⟨o, e⟩, fun a q => ⟨?_, fun o => j.ownNZ (own_dropX o) q⟩, fun a e => (by cases e), (fun p hp => (nomatch hp)), (fun p hp => (nomatch hp)), (fun p hp => (nomatch hp)), hT.symm, HbOk.none rfl⟩
  · unfold dropX; rw [List.length_map]; exact j.len
  · rcases dropX_at h with rfl | ⟨n, h⟩
    · trivial
    · have q := j.slot i s h
      have kp : ∀ b o, H b = some o → ¬ Av z ρ σ b → H' b = some o := fun b o e n => md b o e fun q => n (.inl (q ▸ hz))
      cases s with
      | emp => trivial
      | exc => exact absurd rfl n
      | val d =>
        obtain ⟨v, h1, h2⟩ := q
        exact ⟨v, h1, Rp.keep (fun _ z => z.imp id own_dropX) kp _ _ h2⟩
      | own d =>
        obtain ⟨a, h1, h2, h3⟩ := q
        have oa : own ρ σ a := ⟨i, d, h, h1⟩
        exact ⟨a, h1, h2.keep (fun _ z => z.imp id own_dropX) kp (fun o e => md _ _ e (na oa)), .inr oa⟩
  · rcases dropX_at h1 with q | ⟨_, z1⟩
    · cases q
    rcases dropX_at h2 with q | ⟨_, z2⟩
    · cases q
    exact j.inj i k d e a z1 z2 h3 h4
  · obtain ⟨o, e⟩ := j.zSome q
    by_cases ha : a = a0
    · exact ⟨_, ha ▸ h0⟩
    · exact ⟨o, md a o e ha⟩
theorem fit_aft {y : Cx} (h : Fit s y) : Fit s.aft y := ⟨h.gd, h.room, h.un, h.un2, h.po, h.st, h.fn, h.fb, fun L z => (by cases z), h.mka, h.su⟩
theorem dsE_cons {st : Stmt} {r : List Stmt} {f : FS} {f' : Sl → RG} (h : DS s st f) (h' : DSE s B z a0 r f') : DSE s B z a0 (st :: r) (fThen f f') := fun W => by
  obtain ⟨t, q1, q2⟩ := h W
  obtain ⟨u, q3, q4⟩ := h' W
  refine ⟨tSeq t u, fun ρ σ H D' j p => ?_, fun y i k => pss_cons (q2 y i k) (q4 y i k)⟩
  refine q1 _ ρ σ H _ j ?_
  unfold fThen at p
  cases e : f ρ with
  | nx ρ1 => rw [e] at p; exact fun σ1 H1 j1 => q3 ρ1 σ1 H1 D' j1 p
  | bk ρ1 => rw [e] at p; exact p.elim
  | ct ρ1 => rw [e] at p; exact p.elim
  | rt d ρ1 => rw [e] at p; exact p.elim
  | ex x ρ1 => rw [e] at p; exact p.elim
  | bad => rw [e] at p; exact p.elim
theorem dsE_try {L : LamI} {x n a : Str} {ns : List Str} {i : Nat} {np p1 p2 pc pe : Pos} {r post : List Stmt} {b0 : Stmt} {h : Str → FS} {fp : FS} {o : RG} (hl : s.lam = some L) (hb : s.hb = some (B, z)) (hf : s.lf = some L.f) (hz : z a0) (ok : LamOkE s.K s.mg B z a0 L o)
    (hi : s.N[i]? = some n) (hx : Takn s x ns) (hh : ∀ (a : Addr) (nm : Str), nm ∈ ns → ∀ A, s.mg nm = some (.ref A) → DSs (s.aft.sui a (.ref A)) (b0 :: r) (h nm)) (hp : DSs s.aft post fp)
    (hT : s.T = [] := by rfl) (hm0 : s.m = false := by rfl)
    (hln : s.sc.names.lookup n = some .local := by rfl) (hnd : s.N.Nodup := by decide) (he : s.e = none := by rfl) (hr : s.raw = none := by rfl) (ht : s.top = true := by rfl)
    (hN : s.N[0]? = some a := by rfl) (hv : Vis s.sc a := by first | exact Or.inl rfl | exact Or.inr (Or.inl rfl) | exact Or.inr (Or.inr rfl)) (hd : (a == ("__debug__" : Str)) = false := by decide) (hcd : (a == ("__classdict__" : Str)) = false := by decide)
    (hs : ∀ env, swapsWith (.Call (.Name a pc) [] [] pe) none pe.line env = pure false := by intro _; rfl) :
    DSE s B z a0 (.Try [.Expr (.Call (.Name a pc) [] [] pe) pe] [.ExceptHandler (some (.Name x np)) (some n) (b0 :: r) p1] [] [] p2 :: post) (fTryE ns i h fp o) := fun W => by
  obtain ⟨A0, hA0, hA⟩ := hx.nd
  obtain ⟨tp, q1, q2⟩ := hp W
  refine ⟨tSeq (fun D σ H => (tDrop (L.act (wAs s.K (.ref A0) i (fun a cls d D σ H => ∃ (nm : Str) (h1 : nm ∈ ns) (A : Addr) (h2 : s.mg nm = some (.ref A)), cls = .ref A ∧ d = none ∧ (hh a nm h1 A h2 fun _ _ _ _ => False).choose D σ H) W D))) D σ H) tp, ?_, fun y fi tk => pss_cons ?_ (q2 y (fit_aft fi) tk)⟩
  · intro ρ σ H D' j p
    unfold fTryE at p
    split at p
    · rename_i e0
      have ge : s.g.e = some L.f := by show (s.e <|> s.lf) = some L.f; rw [he, hf]; rfl
      obtain ⟨a, h1, h2⟩ := j.slot 0 _ e0
      rw [ge] at h1
      cases h1
      have gr : Grow B H := fun a o e => j.ext a o e fun q => q
      refine ⟨h2, gr _ _ ok.cd, ok.go H gr (Av z ρ σ) _ _ (fun a q => j.avSome q) (fun a q => q.elim .inr fun o => .inl (j.ownB hb o)) (.inl hz) ?_⟩
      have mod : ∀ {H' H'' : Hp} {ρ2 : Sl} {σ2 : L2.St} {e' : Option Addr}, Mod a0 H H' → J { s.g with e := e', hb := none } ⟨H', fun a => own ρ σ a, z, none, []⟩ ρ2 σ2 H'' → Mod a0 B H'' := fun {H' H'' ρ2 σ2 e'} md k b u eb nb => by
        refine k.ext b u (md b u (gr b u eb) nb) fun ob => ?_
        have := j.ownB hb ob
        rw [this] at eb; cases eb
      have lst : ∀ {H' H'' : Hp} {ρ2 : Sl} {σ2 : L2.St} {e' : Option Addr} {hv : List V}, H' a0 = some (.lst hv) → J { s.g with e := e', hb := none } ⟨H', fun a => own ρ σ a, z, none, []⟩ ρ2 σ2 H'' → H'' a0 = some (.lst hv) := fun {H' H'' ρ2 σ2 e' hv} ha k => k.ext _ _ ha fun o => j.ownNZ o hz
      have con : ∀ {H' H'' : Hp} {ρ2 : Sl} {σ2 : L2.St} {e' : Option Addr} {hv : List V} {hd : List D}, Rps s.K (Av z ρ σ) H' hv hd → J { s.g with e := e', hb := none } ⟨H', fun a => own ρ σ a, z, none, []⟩ ρ2 σ2 H'' → Rps s.K z H'' hv hd := fun {H' H'' ρ2 σ2 e' hv hd} rr k => Rps.keep (fun _ q => .inl q) (fun b u e n => k.ext b u e fun o => n (.inr o)) _ _ rr
      have aft : ∀ {H' : Hp} {hv : List V} {hd : List D} {ρ2 : Sl} {σ2 : L2.St} {H2 : Hp}, Mod a0 H H' → H' a0 = some (.lst hv) → Rps s.K (Av z ρ σ) H' hv hd → J s.aft.g ⟨H', fun a => own ρ σ a, z, none, []⟩ ρ2 σ2 H2 → PostE s.K B z a0 D' (finE hd (fp ρ2)) → tp D' σ2 H2 := fun {H' hv hd ρ2 σ2 H2} md ha rr k pp => by
        refine q1 _ ρ2 σ2 H2 D' k ?_
        cases e : fp ρ2 with
        | rt d ρ3 =>
          rw [e] at pp
          exact fun v σ3 H3 k3 r => pp v H3 hv (mod (e' := s.aft.g.e) md k3) (lst (e' := s.aft.g.e) ha k3) (con (e' := s.aft.g.e) rr k3) (Rp.keep (fun _ q => .inl q) (fun _ _ e _ => e) _ _ r)
        | nx ρ3 => rw [e] at pp; exact pp.elim
        | bk ρ3 => rw [e] at pp; exact pp.elim
        | ct ρ3 => rw [e] at pp; exact pp.elim
        | ex x ρ3 => rw [e] at pp; exact pp.elim
        | bad => rw [e] at pp; exact pp.elim
      cases o with
      | bad => exact p.elim
      | ok d hd => exact fun v H' hv md ha rr rv => aft md ha rr (J.after (e' := s.aft.g.e) hT j hz md ha) p
      | ex x1 hd =>
        simp only at p
        split at p
        · rename_i hc
          rw [Bool.and_eq_true] at hc
          have hmem : x1.name ∈ ns := by simpa using hc.1
          intro cls dd H' hv md ha rr rx
          obtain ⟨⟨A, rfl, hmA⟩, rf⟩ := rx
          have hd' : dd = none := by
            obtain ⟨nm, fs⟩ := x1
            cases fs with
            | nil => exact rf
            | cons f r => cases hc.2
          refine ⟨true, hA _ hmem A hmA, fun _ a _ => ⟨x1.name, hmem, A, hmA, rfl, hd', ?_⟩, fun q => by cases q⟩
          have jx : J (s.aft.sui a (.ref A)).g ⟨H', fun a => own ρ σ a, z, none, []⟩ ((dropX ρ).set i .exc) (σ.set i (some (.ref a))) H' := J.setO (g := (s.aft.sui a (.ref A)).g) (.inl hm0) (fun d q => by cases q) (fun ρ σ _ q => ⟨a, rfl, q⟩) (J.after (e' := some a) hT j hz md ha)
          refine (hh a x1.name hmem A hmA fun _ _ _ _ => False).choose_spec.1 _ _ _ H' _ jx ?_
          cases e2 : h x1.name ((dropX ρ).set i .exc) with
          | nx ρ2 =>
            rw [e2] at p
            exact fun σ2 H2 k => aft md ha rr (J.reE (g := (s.aft.sui a (.ref A)).g) (e := s.aft.g.e) (J.setO (v := none) (s := .emp) (.inl hm0) (fun d q => by cases q) (fun _ _ _ _ => trivial) k)) p
          | rt d ρ2 =>
            rw [e2] at p
            exact fun v σ2 H2 k r => p v H2 hv (mod (e' := some a) md k) (lst (e' := some a) ha k) (con (e' := some a) rr k) (Rp.keep (fun _ q => .inl q) (fun _ _ e _ => e) _ _ r)
          | bk ρ2 => rw [e2] at p; exact p.elim
          | ct ρ2 => rw [e2] at p; exact p.elim
          | ex x2 ρ2 => rw [e2] at p; exact p.elim
          | bad => rw [e2] at p; exact p.elim
        · exact p.elim
    · exact p.elim
  · have st := fi.st ht
    refine ps_try_as (X := s.cx y) (c := .ref A0) st.1 st.2 hnd hi hln ⟨hx.gl, hx.db, .inl hA0⟩ tk (tb := fun W2 => tDrop (L.act W2)) (fun W2 pn xe tk2 po => pss_one (ps_expr (fi.lm L hl pn xe W2 tk2 a pc pe hN hv hd hcd) (hs _))) (fun a oe cls d pn zc dt => ?_)
    refine ⟨fun pins s1 σ1 H1 D I ⟨nm, h1, A, h2, ec, ed, hz⟩ => ?_⟩
    subst ec ed
    have F : Fit (s.aft.sui a (.ref A)) { y with A := y.A.mark (some (.ref a)), pn := (a, oe) :: pn, xe := fun _ _ => False } :=
      ⟨fi.gd, .inr rfl, fi.un, fi.un2, PassesOwn.never, fun z => (by cases z), fun z => (by cases z), fun r z => (by rw [show (s.aft.sui a (.ref A)).raw = s.raw from rfl, hr] at z; cases z), fun L z => (by cases z), fun c P q z => (by cases z),
        fun b z => (by cases z; exact ⟨s.cx y, oe, pn, rfl, zc, dt⟩)⟩
    exact ((hh a nm h1 A h2 fun _ _ _ _ => False).choose_spec.2 _ F takes0).run pins s1 σ1 H1 D I hz
end
end DL

set_option maxHeartbeats 1000000
namespace DL
open PySem PySem.Spec PyProof.Rows L2
/-! ### x(lambda: e), e changes a list of the maker's own -/
def hideS (k : Nat) (p : Slot × Nat) : Slot := match p.1 with
  | .own d => if p.2 = k then .own d else .emp
  | s => s
def hideBut (k : Nat) (ρ : Sl) : Sl := ρ.zipIdx.map (hideS k)
theorem hide_at {k : Nat} {ρ : Sl} {i : Nat} {s : Slot} (h : (hideBut k ρ)[i]? = some s) : (∃ d, s = .own d ∧ i = k ∧ ρ[i]? = some (.own d)) ∨ s = .emp ∨ ((∀ d, s ≠ .own d) ∧ ρ[i]? = some s) := by
  unfold hideBut at h
  rw [List.getElem?_map, List.getElem?_zipIdx, Option.map_map] at h
  obtain ⟨s0, h1, h2⟩ := Option.map_eq_some_iff.mp h
  simp only [Function.comp, Nat.zero_add] at h2
  unfold hideS at h2
  split at h2
  · rename_i d e
    simp only at e
    subst e
    split at h2
    · rename_i q
      subst h2
      exact .inl ⟨d, rfl, q, h1⟩
    · exact .inr (.inl h2.symm)
  · rename_i n
    simp only at n h2
    subst h2
    exact .inr (.inr ⟨n, h1⟩)
theorem own_hide {k : Nat} {ρ : Sl} {σ : L2.St} {a : Addr} (h : own (hideBut k ρ) σ a) : ∃ d, ρ[k]? = some (.own d) ∧ σ[k]? = some (some (.ref a)) := by
  obtain ⟨i, d, h1, h2⟩ := h
  rcases hide_at h1 with ⟨d', z, e, q⟩ | z | ⟨n, _⟩
  · subst e; exact ⟨_, q, h2⟩
  · cases z
  · exact absurd rfl (n d)
/-- how the lambda's body ends -/
def outcE (k : Nat) : RE D → RG
  | .ok d ρ => (match lstAt ρ k with | some h => .ok d h | none => .bad)
  | .ex x ρ => (match lstAt ρ k with | some h => .ex x h | none => .bad)
  | .bad => .bad
def fLamE (R : RG → RG) (k : Nat) (vs : List Nat) (f : FE) : FE := fun ρ => match lstAt (freezeR ρ vs) k with
  | some _ => (match R (outcE k (f (hideBut k (freezeR ρ vs)))) with
    | .ok d h => .ok d ((freezeR ρ vs).set k (.own (.lst h)))
    | _ => .bad)
  | none => .bad
def runLE (n : Nat) (f : Sl → RG) : RG := f (.exc :: List.replicate (n - 1) .emp)
structure LamFE (P : Program) (w : World) (K : PySem.W.Frag) (mg : Str → Option Value) (base : Heap) (x : Str) (k n : Nat) (b : RG → Sl → RG) (a : Str) (N : List Str) (sg : Scope) (g : Addr) (pg : Arguments) (bg : List Stmt) (fd : FuncData) : Prop where
  fn : FunD K x x pg bg sg [] [] g fd
  gm : mg x = some (.ref g)
  bi : Binds K fd [a] []
  sc : FnScope N [a] sg
  at0 : N[0]? = some a
  vi : Vis sg a
  d1 : (a == ("__debug__" : Str)) = false
  d2 : (a == ("__classdict__" : Str)) = false
  ln : N.length = n
  go : ∀ L B z a0 o, z a0 → LamOkE K mg B z a0 L o → DSE (scL P w K mg base N sg k L B z) B z a0 bg (b o)
def CalLE (P : Program) (w : World) (K : PySem.W.Frag) (mg : Str → Option Value) (base : Heap) (x : Str) (k n : Nat) (b : RG → Sl → RG) : Prop := ∃ a N sg g pg bg fd, LamFE P w K mg base x k n b a N sg g pg bg fd
section
variable {s : SC}
theorem de_lamE {x : Str} {c P0 : Addr} {q : Str} {k kb n : Nat} {b : RG → Sl → RG} {pa : Arguments} {bo : Expr} {sc : Scope} {fb : FE} {p lp pos : Pos} (kh : Nat) (vs : List Nat) (Cl : CalLE s.P s.w s.K s.mg s.base x k n b) (hbd : DE (s.lamS sc kb) bo fb) (mk : s.mkr = some (c, P0, q)) (hT : (P0, q) ∈ s.T) (uq : ∀ p ∈ s.T, p.1 = P0 → p = (P0, q))
    (hk : kb + 1 ≤ k) (hk2 : k + 1 ≤ s.k) (L : LamX.LamS s.sc sc) (bnd : ∀ (q : Str) (cl : List (Str × Addr)) (pm cv ctv : Value), bindArgs (PySem.W.kla_fn "<lambda>" q pa bo sc cl pm cv ctv) ⟨[], []⟩ = pure [])
    (hdef : ∀ env, defaultsOf pa env = ([], []) := by intro _; rfl) (hg : s.sc.names.lookup x = some .globalImplicit := by rfl) (he : s.e = none := by rfl) (hlf : s.lf = none := by rfl) (hc : s.calm = true := by rfl) (hdb : (x == ("__debug__" : Str)) = false := by decide)
    : DE s (.Call (.Name x p) [.Lambda pa bo sc lp] [] pos) (fLamE (fun o => runLE n (b o)) kh vs fb) := fun W => by
  obtain ⟨a, N, sg, g, pg, bg, fd, F⟩ := Cl
  have hx : ∀ E : XK, ∃ t, TrE (s.lamS sc kb).g (fun cls d _ H => E cls d H) t fb ∧ ∀ y, Fit (s.lamS sc kb) y → Takes ((s.lamS sc kb).cx y) (fun cls d _ H => E cls d H) → PE ((s.lamS sc kb).cx y) bo t := fun E => hbd fun cls d _ H => E cls d H
  refine ⟨tLamG s P0 q N sg bg k (fun E => (hx E).choose) W, ?_, fun y fi tk => ?_⟩
  · intro C ρ σ H Q j p
    refine ⟨j.tab _ (by rw [j.gt]; exact hT), fun f c2 H1 ke tab hf hco => ?_⟩
    have j1 : J s.g C ρ σ H1 := j.table hT uq ke tab
    have jf : J s.g C (freezeR ρ vs) σ H1 := j1.freezes vs
    have ge : s.g.e = none := by show (s.e <|> s.lf) = none; rw [he, hlf]; rfl
    unfold fLamE at p
    generalize freezeR ρ vs = ρf at jf p
    cases e0 : lstAt ρf kh with
    | none => rw [e0] at p; exact p.elim
    | some hd =>
    rw [e0] at p
    simp only at p
    obtain ⟨a0, hv, hσ, hl0, r0⟩ := jf.ownL (lstAt_some e0)
    have oa : own ρf σ a0 := ⟨kh, _, lstAt_some e0, hσ⟩
    have ok : LamOkE s.K s.mg H1 (Av C.Z ρf σ) a0 ⟨f, c2, q, fun E H Q => (hx E).choose σ H Q⟩ (outcE kh (fb (hideBut kh ρf))) := by
      refine ⟨hco, fun HZ gr Z E Q2 dom hz za r => ?_⟩
      have o1 : ∀ {b}, own (hideBut kh ρf) σ b → b = a0 := fun {b} o => by
        obtain ⟨d, _, h2⟩ := own_hide o
        rw [hσ] at h2; cases h2; rfl
      have st : ∀ b, ¬ Av C.Z ρf σ b → (∃ o, H1 b = some o) → ¬ Av (fun b => (Z b ∨ Av C.Z ρf σ b) ∧ b ≠ a0) (hideBut kh ρf) σ b ∧ ∀ o, H1 b = some o → HZ b = some o := fun b n e => by
        refine ⟨fun y => ?_, fun o q => gr b o q⟩
        rcases y with ⟨y, nb⟩ | y
        · rcases y with y | y
          · rcases hz b y with y2 | y2
            · obtain ⟨o, e⟩ := e; rw [y2] at e; cases e
            · exact n y2
          · exact n y
        · exact n (by rw [o1 y]; exact .inr oa)
      have jl : J (s.lamS sc kb).g ⟨HZ, fun b => b = a0, fun b => (Z b ∨ Av C.Z ρf σ b) ∧ b ≠ a0, none, []⟩ (hideBut kh ρf) σ HZ := by
        refine ⟨?_, fun i s' h => ?_, fun i m d e b h1 h2 _ _ => ?_, fun b o e _ => e, fun b o e => ⟨o, e⟩, fun b y => ⟨?_, fun o => y.2 (o1 o)⟩, fun b e => (by cases e), (fun p hp => (nomatch hp)), (fun p hp => (nomatch hp)), (fun p hp => (nomatch hp)), rfl, HbOk.none rfl⟩
        · unfold hideBut; rw [List.length_map, List.length_zipIdx]; exact jf.len
        · rcases hide_at h with ⟨d, rfl, rfl, h1⟩ | rfl | ⟨n, h1⟩
          · obtain ⟨b, q1, q2, q3⟩ := jf.slot i _ h1
            rw [hσ] at q1; cases q1
            exact ⟨a0, hσ, Tp.gen (fun b n e => st b n e) (fun o e => gr _ _ e) q2, .inr rfl⟩
          · trivial
          · have y := jf.slot i _ h1
            cases s' with
            | emp => trivial
            | exc => obtain ⟨b, e, _⟩ := y; rw [ge] at e; cases e
            | own d => exact absurd rfl (n d)
            | val d =>
              obtain ⟨v, q1, q2⟩ := y
              exact ⟨v, q1, Rp.gen (fun b n e => st b n e) _ _ q2⟩
        · have kk : ∀ {m : Nat} {x : D}, (hideBut kh ρf)[m]? = some (.own x) → m = kh := fun {m x} h => by
            rcases hide_at h with ⟨d, _, e, _⟩ | z | ⟨n, _⟩
            · exact e
            · cases z
            · exact absurd rfl (n x)
          rw [kk h1, kk h2]
        · rcases y.1 with z | z
          · exact dom b z
          · exact (jf.avSome z).imp fun o e => gr b o e
      have le : ∀ {ρ2 : Sl} {h}, lstAt ρ2 kh = some h → ∀ b, Z b → Av (fun b => (Z b ∨ Av C.Z ρf σ b) ∧ b ≠ a0) ρ2 σ b := fun {ρ2 h} e b z => by
        by_cases hb : b = a0
        · exact .inr ⟨kh, _, lstAt_some e, by rw [hb]; exact hσ⟩
        · exact .inl ⟨.inl z, hb⟩
      have at0 : ∀ {ρ2 : Sl} {H2 h}, J (s.lamS sc kb).g ⟨HZ, fun b => b = a0, fun b => (Z b ∨ Av C.Z ρf σ b) ∧ b ≠ a0, none, []⟩ ρ2 σ H2 → lstAt ρ2 kh = some h → ∃ us, H2 a0 = some (.lst us) ∧ Rps s.K Z H2 us h := fun {ρ2 H2 h} k e => by
        obtain ⟨c, us, h1, h2, h3⟩ := k.ownL (lstAt_some e)
        rw [hσ] at h1; cases h1
        exact ⟨us, h2, Rps.keep (le e) (fun _ _ e _ => e) _ _ h3⟩
      have md : ∀ {ρ2 : Sl} {H2}, J (s.lamS sc kb).g ⟨HZ, fun b => b = a0, fun b => (Z b ∨ Av C.Z ρf σ b) ∧ b ≠ a0, none, []⟩ ρ2 σ H2 → Mod a0 HZ H2 := fun k b o e n => k.ext b o e n
      refine (hx E).choose_spec.1 _ _ σ HZ Q2 jl ?_
      unfold outcE at r
      cases e : fb (hideBut kh ρf) with
      | ok d ρ2 =>
        rw [e] at r
        simp only at r
        cases e2 : lstAt ρ2 kh with
        | none => rw [e2] at r; exact r.elim
        | some h =>
          rw [e2] at r
          exact fun v H2 k rv => let ⟨us, q1, q2⟩ := at0 k e2; r v H2 us (md k) q1 q2 (Rp.keep (le e2) (fun _ _ e _ => e) _ _ rv)
      | ex x ρ2 =>
        rw [e] at r
        simp only at r
        cases e2 : lstAt ρ2 kh with
        | none => rw [e2] at r; exact r.elim
        | some h =>
          rw [e2] at r
          exact fun cls dd H2 k rx => let ⟨us, q1, q2⟩ := at0 k e2; r cls dd H2 us (md k) q1 q2 rx
      | bad => rw [e] at r; exact r.elim
    obtain ⟨tc, h1, h2⟩ := F.go _ H1 (Av C.Z ρf σ) a0 _ (.inr oa) ok (fun cls d _ H => WE W σ cls d H)
    refine ⟨Av C.Z ρf σ, tc, h2, ?_⟩
    have N0 : 0 < N.length := (List.getElem?_eq_some_iff.mp F.at0).1
    have no : ∀ {ρ2 : Sl} {σ2 : L2.St} (b : Addr), own (Slot.exc :: List.replicate (n - 1) .emp) σ2 b → False := fun {ρ2 σ2} b ⟨i, d, h1, _⟩ => by
      cases i with
      | zero => cases h1
      | succ i =>
        rw [List.getElem?_cons_succ, List.getElem?_replicate] at h1
        split at h1 <;> cases h1
    have j0 : J (scL s.P s.w s.K s.mg s.base N sg k ⟨f, c2, q, fun E H Q => (hx E).choose σ H Q⟩ H1 (Av C.Z ρf σ)).g ⟨H1, fun _ => False, Av C.Z ρf σ, none, []⟩ (.exc :: List.replicate (n - 1) .emp) (L2.start N [.ref f]) H1 := by
      refine ⟨?_, fun i s' h => ?_, fun i k d e b h1 h2 h3 h4 => (no (ρ2 := []) b ⟨i, d, h1, h3⟩).elim, fun a o e _ => e, fun a o e => ⟨o, e⟩, fun a z => ⟨jf.avSome z, no (ρ2 := []) a⟩, fun a e => (by cases e), (fun p hp => (nomatch hp)), (fun p hp => (nomatch hp)), (fun p hp => (nomatch hp)), rfl, fun B z e => ?_⟩
      · have := F.ln
        unfold L2.start
        simp
        omega
      · cases i with
        | zero => cases h; exact ⟨f, rfl, start_at (v := .ref f) rfl⟩
        | succ i =>
          rw [List.getElem?_cons_succ, List.getElem?_replicate] at h
          split at h
          · cases h; trivial
          · cases h
      · cases e
        exact ⟨rfl, fun a o e => ⟨e, o, e⟩, fun a z => z.elim, fun a z => .inr z⟩
    refine h1 _ _ H1 _ j0 ?_
    unfold runLE at p
    cases e : b (outcE kh (fb (hideBut kh ρf))) (.exc :: List.replicate (n - 1) .emp) with
    | ok d h =>
      rw [e] at p
      exact fun v H' hv' md ha rr rv => p v H' (jf.writeG (lstAt_some e0) hσ md ⟨hv', ha, rr⟩) (Rp.keep (fun b z => (av_setOwn (lstAt_some e0)).mp z) (fun _ _ e _ => e) _ _ rv)
    | ex x h => rw [e] at p; exact p.elim
    | bad => rw [e] at p; exact p.elim
  · obtain ⟨TB, code, eq⟩ := fi.mka c P0 q mk
    subst eq
    obtain ⟨oc, od, dV, kV, doc, pm, an, cd, ct, osl, rfl, lk, hcd, _, _⟩ := F.fn.ex
    have room := (fi.room.resolve_right (by rw [hc]; decide)).mono hk2
    refine ⟨fun pins st σ H Q I h => ?_⟩
    obtain ⟨tH, h⟩ := h
    refine wpAny_Call_Name_kw (ld_glob I hg F.gm ?_ hdb)
    refine PySem.W.callWith_K (h₀ := s.base) I.ok.mod.kin F.fn.kp ?_ (by rfl) (by rfl)
    show wpAny _ _ (spliced ((false, eval (.Lambda pa bo sc lp) (s.cx y).env) :: backTo pos (starEach [] (s.cx y).env))) _ _ st
    refine Calls.spliced_cons (mkLam (X := s.cx y) I TB code tH (hdef _) (L.has (X := s.cx y) I.ok) fun f c2 pm' ct' H1 st1 I1 ke tab hf hfn hfr hco => ?_)
    refine Calls.spliced_nil ⟨I1.kIn, ?_⟩
    obtain ⟨z, tc, hp, hz⟩ := h f c2 H1 ke tab hfn hco
    have run : codeAny (model s.P s.w) (s.cx y).A (.call (.ref g) ⟨[.ref f], []⟩) (CR (L2.CX s.P s.w) (s.cx y).stack s.P s.w H1 st1 Q (WE W σ)) st1 := by
      refine LamX.run_ofS (N := N) (ps := [a]) (us := [.ref f]) (vs := [.ref f]) lk hcd F.sc room I1.env0 (F.bi st1 [.ref f] I1.kIn rfl) (.cons rfl .nil) rfl fun hr => ?_
      refine ⟨tc, hp (cxOf (L2.CX s.P s.w) s.P s.w s.K s.mg s.base N x sg g cd (s.cx y).A (s.cx y).stack st1 H1 (WE W σ)) ?_ (takes_of rfl rfl rfl rfl), hz⟩
      refine ⟨fi.gd, .inl hr, hr.units, Nat.lt_of_le_of_lt (Nat.add_le_add_left (Nat.le_trans (by decide) (Nat.le_add_left 200 (16 * k))) _) (by have := hr.un; rw [Nat.add_assoc] at this; exact this), PassesOwn.leaving, fun _ => ⟨rfl, rfl⟩, fun _ => rfl, fun r z => (by cases z), fun L2 z => ?_, fun c P q z => (by cases z), fun a z => (by cases z)⟩
      cases z
      intro pn xe W2 tk2 a2 p1 p2 hN hv hd hcd2
      refine actG (X := s.cx y) (k := kb) (tb := fun E => (hx E).choose) I1 L hf hfn hfr (bnd _ _ _ _ _) tk2 (hr.mono hk) (fun E A outer st2 H2 ga rm => (hx E).choose_spec.2 _ (fit_lam (ga.trans fi.gd) rm) (takes_of rfl rfl rfl rfl)) hN hv hd hcd2
    have px := passAt tk σ
    refine wpAny_call (codeAny_mono run fun r s3 hq => ?_)
    match r, hq with
    | .error e, hq => exact px pins H1 st1 e s3 I1 hq
    | .ok (.ret u), hq => exact I1.after hq
    | .ok .next, hq => exact hq.elim
    | .ok .brk, hq => exact hq.elim
    | .ok .cont, hq => exact hq.elim
end
end DL

set_option maxHeartbeats 1000000
namespace DL
open PySem PySem.Spec PyProof.Rows L2
/-! ### defs with a list that they change, that make lambdas -/
def scT (P : Program) (w : World) (K : PySem.W.Frag) (mg : Str → Option Value) (base : Heap) (N : List Str) (sc : Scope) (k : Nat) (m : Bool) (T : List (Addr × Str)) (mk : Option (Addr × Addr × Str)) : SC :=
  ⟨P, w, K, mg, base, N, sc, k, m, true, true, none, .none, none, none, T, none, none, none, mk⟩
structure ModT (T : List (Addr × Str)) (a : Addr) (H H' : Hp) : Prop where
  ext : ∀ b o, H b = some o → b ≠ a → (∀ p ∈ T, p.1 ≠ b) → H' b = some o
  dom : ∀ b o, H b = some o → ∃ u, H' b = some u
  tab : LamX.Tabs T H'
def PostRT (K : PySem.W.Frag) (mg : Str → Option Value) (T : List (Addr × Str)) (Z : Addr → Prop) (a : Addr) (H : Hp) (Q : VK) (E : XK) : RG → Prop
  | .ok d h => ∀ v H' hv, ModT T a H H' → H' a = some (.lst hv) → Rps K Z H' hv h → Rp K Z H' v d → Q v H'
  | .ex x h => ∀ cls dd H' hv, ModT T a H H' → H' a = some (.lst hv) → Rps K Z H' hv h → ExR K mg x cls dd H' → E cls dd H'
  | .bad => False
def spRT (K : PySem.W.Frag) (mg : Str → Option Value) (T : List (Addr × Str)) (n : Nat) (F : List D → List D → RG) : Sp := fun vs H Q E => vs.length = n ∧ LamX.Tabs T H ∧ ∃ Z a hv hd vs' ds, vs = .ref a :: vs' ∧ H a = some (.lst hv) ∧ Z a ∧ (∀ b, Z b → ∃ o, H b = some o) ∧ (∀ p ∈ T, Z p.1) ∧
  Rps K Z H hv hd ∧ Rps K Z H vs' ds ∧ PostRT K mg T Z a H Q E (F hd ds)
theorem tab_ne {T : List (Addr × Str)} {H : Hp} {a : Addr} {hv : List V} (t : LamX.Tabs T H) (h : H a = some (.lst hv)) : ∀ p ∈ T, p.1 ≠ a := fun p hp z => by
  obtain ⟨ps, e, _⟩ := t p hp
  rw [z, h] at e; cases e
section
variable {g : G} {W : WX} {C : JC} {ρ ρ' : Sl} {σ σ' : L2.St} {H H' : Hp}
/-- the tables changed, nothing else -/
theorem J.tables (j : J g C ρ σ H) (k : ∀ b o, (∀ p ∈ g.T, p.1 ≠ b) → H b = some o → H' b = some o) (dom : ∀ b o, H b = some o → ∃ u, H' b = some u) (t : LamX.Tabs g.T H') : J g C ρ σ H' := by
  have tC : ∀ p ∈ g.T, p ∈ C.T := fun p h => by rw [j.gt]; exact h
  have nz : ∀ b, ¬ Av C.Z ρ σ b → ∀ p ∈ g.T, p.1 ≠ b := fun b n p hp z => n (.inl (z ▸ j.tz _ (tC p hp)))
  refine ⟨j.len, fun i s h => ?_, j.inj, fun a o e n => k a o (fun p hp z => n (z ▸ j.tr _ (tC p hp))) (j.ext a o e n), fun a o e => let ⟨u, e1⟩ := j.ex a o e; dom a u e1, fun a z => ⟨let ⟨u, e1⟩ := j.zSome z; dom a u e1, (j.zin a z).2⟩, j.br, by rw [j.gt]; exact t, j.tz, j.tr, j.gt, ?_⟩
  · have y := j.slot i s h
    cases s with
    | emp => trivial
    | exc => exact y
    | val d =>
      obtain ⟨v, h1, h2⟩ := y
      exact ⟨v, h1, Rp.keep (fun _ z => z) (fun a o e n => k a o (nz a n) e) _ _ h2⟩
    | own d =>
      obtain ⟨a, h1, h2, h3⟩ := y
      have na : ∀ p ∈ g.T, p.1 ≠ a := fun p hp => h2.noT j.tab p (tC p hp)
      exact ⟨a, h1, h2.keep (fun _ z => z) (fun b o e n => k b o (nz b n) e) (fun o e => k _ o na e), h3⟩
  · intro B z e
    have y := (j.hb B z e).1
    exact ⟨y, fun a o q => ⟨k a o (fun p hp => by rw [y] at hp; cases hp) ((j.hb B z e).2.1 a o q).1, ((j.hb B z e).2.1 a o q).2⟩, (j.hb B z e).2.2⟩
open Classical in
theorem J.writeT {i : Nat} {a : Addr} {ds hd : List D} {hv : List V} (j : J g C ρ σ H) (hi : ρ[i]? = some (.own (.lst ds))) (ha : σ[i]? = some (some (.ref a))) (md : ModT g.T a H H') (h0 : H' a = some (.lst hv)) (rr : Rps g.K (Av C.Z ρ σ) H' hv hd) : J g C (ρ.set i (.own (.lst hd))) σ H' := by
  obtain ⟨a', us, h1, h2, h3⟩ := j.ownL hi
  rw [ha] at h1; cases h1
  have nt : ∀ p ∈ g.T, p.1 ≠ a := tab_ne (by rw [← j.gt]; exact j.tab) h2
  have tC : ∀ p ∈ g.T, p ∈ C.T := fun p h => by rw [j.gt]; exact h
  let HM : Hp := fun b => if (∃ p ∈ g.T, p.1 = b) then H b else H' b
  have m1 : ∀ {b}, (∃ p ∈ g.T, p.1 = b) → HM b = H b := fun h => if_pos h
  have m2 : ∀ {b}, ¬ (∃ p ∈ g.T, p.1 = b) → HM b = H' b := fun h => if_neg h
  have ma : HM a = some (.lst hv) := by rw [m2 fun ⟨p, hp, z⟩ => nt p hp z]; exact h0
  have r2 : Rps g.K (Av C.Z ρ σ) HM hv hd := Rps.keep (fun _ z => z) (fun b o e n => by
    rw [m2 fun ⟨p, hp, z⟩ => n (.inl (z ▸ j.tz _ (tC p hp)))]; exact e) _ _ rr
  have j2 : J g C (ρ.set i (.own (.lst hd))) σ HM := j.writeG hi ha (fun b o e n => by
    by_cases q : ∃ p ∈ g.T, p.1 = b
    · rw [m1 q]; exact e
    · rw [m2 q]; exact md.ext b o e n fun p hp z => q ⟨p, hp, z⟩) ⟨hv, ma, r2⟩
  refine j2.tables (fun b o n e => ?_) (fun b o e => ?_) md.tab
  · rw [m2 fun ⟨p, hp, z⟩ => n p hp z] at e; exact e
  · by_cases q : ∃ p ∈ g.T, p.1 = b
    · rw [m1 q] at e; exact md.dom b o e
    · rw [m2 q] at e; exact ⟨o, e⟩
theorem tr_callRT {F : List D → List D → RG} {t : TA} {i : Nat} {as : List Ag} (ha : TrA g W t as) (hb : bsOf as = []) (n : Nat) (hn : as.length + 1 = n) :
    TrE g W (tCallS (spRT g.K g.mg g.T n F) (WE W) (tCons (tVar i) t)) (fCallR F i as) := by
  intro C ρ σ H Q j p
  unfold fCallR at p
  split at p
  · rename_i hs
    obtain ⟨ds0, e0⟩ := Option.isSome_iff_exists.mp hs
    obtain ⟨a, vs0, hσ, hl0, r0⟩ := j.ownL (lstAt_some e0)
    refine ⟨_, hσ, ?_⟩
    refine ha.step j (fun ds ρ1 e1 vs H1 j1 k1 r1 => ?_) (fun x ρ1 e1 cls dd H1 j1 r1 => ?_) (fun e1 => ?_)
    · simp only [RE.bd, e1] at p
      rw [hb] at r1
      have r := rpBs_rps r1
      cases e2 : lstAt ρ1 i with
      | none => simp only [e2] at p; exact p.elim
      | some hd =>
        simp only [e2] at p
        obtain ⟨b, hv, hb', hlv, rh⟩ := j1.ownL (lstAt_some e2)
        rw [hσ] at hb'; cases hb'
        have oa : own ρ1 σ a := ⟨i, _, lstAt_some e2, hσ⟩
        refine ⟨by simp [r.length, evA_len _ _ _ _ e1, hn], by rw [← j1.gt]; exact j1.tab, Av C.Z ρ1 σ, a, hv, hd, vs, ds, rfl, hlv, .inr oa, fun b z => j1.avSome z, fun p hp => .inl (j1.tz p (by rw [j1.gt]; exact hp)), rh, r, ?_⟩
        have J' : ∀ {H' : Hp} {hv' : List V} {h : List D}, ModT g.T a H1 H' → H' a = some (.lst hv') → Rps g.K (Av C.Z ρ1 σ) H' hv' h → J g C (ρ1.set i (.own (.lst h))) σ H' := fun {H' hv' h} md ha' rr =>
          j1.writeT (lstAt_some e2) hσ md ha' rr
        cases e3 : F hd ds with
        | bad => simp only [e3] at p; exact p.elim
        | ex x h => simp only [e3] at p; exact fun cls dd H' hv' md ha' rr re => p cls dd H' (J' md ha' rr) re
        | ok d h =>
          simp only [e3] at p
          exact fun v H' hv' md ha' rr rv => p v H' (J' md ha' rr) (Rp.keep (fun b z => (av_setOwn (lstAt_some e2)).mp z) (fun _ _ e _ => e) _ _ rv)
    · simp only [RE.bd, e1] at p
      exact p _ _ _ j1 r1
    · simp only [RE.bd, e1] at p
      exact p
  · exact p.elim
theorem J.entryRT {K : PySem.W.Frag} {mg : Str → Option Value} {T : List (Addr × Str)} {Z : Addr → Prop} {N : List Str} {a : Addr} {hv : List V} {hd : List D} {vs : List V} {ds : List D} (hl : vs.length + 1 ≤ N.length) (ha : H a = some (.lst hv)) (hza : Z a) (hz : ∀ a, Z a → ∃ o, H a = some o) (hT : ∀ p ∈ T, Z p.1) (tab : LamX.Tabs T H) (rh : Rps K Z H hv hd) (r : Rps K Z H vs ds) :
    J ⟨K, mg, true, none, T, none⟩ ⟨H, fun b => b = a ∨ ∃ p ∈ T, p.1 = b, fun b => Z b ∧ b ≠ a, some a, T⟩ (.own (.lst hd) :: rho0 (N.length - 1) ds) (L2.start N (.ref a :: vs)) H := by
  have o1 : ∀ {b}, own (.own (.lst hd) :: rho0 (N.length - 1) ds) (L2.start N (.ref a :: vs)) b → b = a := fun {b} ⟨i, d, h1, h2⟩ => by
    cases i with
    | zero => rw [start_at (v := .ref a) rfl] at h2; cases h2; rfl
    | succ i =>
      rw [List.getElem?_cons_succ] at h1
      rcases rho0_at h1 with ⟨e, _, h⟩ | h <;> cases h
  have le : ∀ b, Av (fun b => Z b ∧ b ≠ a) (.own (.lst hd) :: rho0 (N.length - 1) ds) (L2.start N (.ref a :: vs)) b → Z b := fun b z => z.elim (·.1) fun z => by rw [o1 z]; exact hza
  refine ⟨?_, fun i s h => ?_, fun i k d e b h1 h2 h3 h4 => ?_, fun b o e _ => e, fun b o e => ⟨o, e⟩, fun b z => ⟨hz b z.1, fun o => z.2 (o1 o)⟩, fun b e => (by cases e; exact ⟨rfl, start_at rfl⟩), tab, fun p hp => ⟨hT p hp, tab_ne tab ha p hp⟩, fun p hp => .inr ⟨p, hp, rfl⟩, rfl, HbOk.none rfl⟩
  · unfold rho0 L2.start
    simp [r.length]
    have := r.length
    omega
  · cases i with
    | zero =>
      cases h
      exact ⟨a, start_at rfl, ⟨hv, ha, Rps.keep le (fun _ _ e _ => e) _ _ rh⟩, .inr (.inl rfl)⟩
    | succ i =>
      rw [List.getElem?_cons_succ] at h
      rcases rho0_at h with ⟨d, h1, rfl⟩ | rfl
      · obtain ⟨v, h2, h3⟩ := r.get' h1
        exact ⟨v, start_at (by simpa using h2), Rp.keep le (fun _ _ e _ => e) _ _ h3⟩
      · trivial
  · have z : ∀ {m : Nat} {x : D}, (Slot.own (.lst hd) :: rho0 (N.length - 1) ds)[m]? = some (.own x) → m = 0 := fun {m x} q => by
      cases m with
      | zero => rfl
      | succ m =>
        rw [List.getElem?_cons_succ] at q
        rcases rho0_at q with ⟨e, _, h⟩ | h <;> cases h
    rw [z h1, z h2]
theorem body_RT {K : PySem.W.Frag} {mg : Str → Option Value} {T : List (Addr × Str)} {N : List Str} {n : Nat} {t : TS} {b : FS} {vs : List V} {Q : VK} {E : XK} (hn : n ≤ N.length) (hsp : spRT K mg T n (runR N.length b) vs H Q E) (h : TrS ⟨K, mg, true, none, T, none⟩ (fun cls d _ H => E cls d H) t b) :
    t { nx := fun _ H' => Q .non H', rt := Q } (L2.start N vs) H := by
  obtain ⟨hl, tab, Z, a, hv, hd, vs', ds, rfl, ha, hza, hz, hT, rh, r, p⟩ := hsp
  have j := J.entryRT (mg := mg) (N := N) (by simp at hl; omega) ha hza hz hT tab rh r
  refine h _ _ _ H _ j ?_
  have gr : ∀ {ρ σ H'}, J ⟨K, mg, true, none, T, none⟩ ⟨H, fun b => b = a ∨ ∃ p ∈ T, p.1 = b, fun b => Z b ∧ b ≠ a, some a, T⟩ ρ σ H' → ModT T a H H' := fun k => ⟨fun b o e n m => k.ext b o e fun z => z.elim n fun ⟨p, hp, q⟩ => m p hp q, k.ex, k.tab⟩
  have le : ∀ {ρ : Sl} {σ H' hx}, J ⟨K, mg, true, none, T, none⟩ ⟨H, fun b => b = a ∨ ∃ p ∈ T, p.1 = b, fun b => Z b ∧ b ≠ a, some a, T⟩ ρ σ H' → lstAt ρ 0 = some hx → ∀ b, Z b → Av (fun b => Z b ∧ b ≠ a) ρ σ b := fun {ρ σ H' hx} k e b z => by
    by_cases hb : b = a
    · exact .inr ⟨0, _, lstAt_some e, by rw [hb]; exact (k.br a rfl).2⟩
    · exact .inl ⟨z, hb⟩
  have at0 : ∀ {ρ : Sl} {σ H' hx}, J ⟨K, mg, true, none, T, none⟩ ⟨H, fun b => b = a ∨ ∃ p ∈ T, p.1 = b, fun b => Z b ∧ b ≠ a, some a, T⟩ ρ σ H' → lstAt ρ 0 = some hx → ∃ us, H' a = some (.lst us) ∧ Rps K Z H' us hx := fun {ρ σ H' hx} k e => by
    obtain ⟨c, us, h1, h2, h3⟩ := k.ownL (lstAt_some e)
    rw [(k.br a rfl).2] at h1; cases h1
    exact ⟨us, h2, Rps.keep (le k e) (fun _ _ e _ => e) _ _ h3⟩
  unfold runR at p
  cases e : b (.own (.lst hd) :: rho0 (N.length - 1) ds) with
  | nx ρ =>
    rw [e] at p
    cases e2 : lstAt ρ 0 with
    | none => simp only [e2] at p; exact p.elim
    | some hx =>
      simp only [e2] at p
      exact fun σ H' k => let ⟨us, q1, q2⟩ := at0 k e2; p _ H' us (gr k) q1 q2 rfl
  | rt d ρ =>
    rw [e] at p
    cases e2 : lstAt ρ 0 with
    | none => simp only [e2] at p; exact p.elim
    | some hx =>
      simp only [e2] at p
      exact fun v σ H' k r => let ⟨us, q1, q2⟩ := at0 k e2; p v H' us (gr k) q1 q2 (Rp.keep (le k e2) (fun _ _ e _ => e) _ _ r)
  | ex x ρ =>
    rw [e] at p
    cases e2 : lstAt ρ 0 with
    | none => simp only [e2] at p; exact p.elim
    | some hx =>
      simp only [e2] at p
      exact fun cls dd σ H' k r => let ⟨us, q1, q2⟩ := at0 k e2; p cls dd H' us (gr k) q1 q2 r
  | bk ρ => rw [e] at p; exact p.elim
  | ct ρ => rw [e] at p; exact p.elim
  | bad => rw [e] at p; exact p.elim
end
section
variable {P : Program} {w : World} {K : PySem.W.Frag} {mg : Str → Option Value} {base : Heap} {H : Hp}
theorem fit_T {x : Str} {N : List Str} {scope : Scope} {m : Bool} {T : List (Addr × Str)} {mk : Option (Addr × Addr × Str)} {f : Addr} {k : Nat} {cd : Value} {A : Around} {outer : List Env} {st : Shared} {E : XK} (gd : A.guards = some [])
    (hr' : Room k (A.deeper (envOfC x scope st.heap.objs.size f cd)))
    (hmk : ∀ c P0 q, mk = some (c, P0, q) → LamX.TabB base mg c P0 ∧ cd = .ref c ∧ x ++ ".<locals>." ++ "<lambda>" = q) :
    Fit (scT P w K mg base N scope k m T mk) (cxOf (L2.CX P w) P w K mg base N x scope f cd A outer st H E) :=
  ⟨gd, .inl hr', hr'.units, Nat.lt_of_le_of_lt (Nat.add_le_add_left (Nat.le_trans (by decide) (Nat.le_add_left 200 (16 * k))) _) (by have := hr'.un; rw [Nat.add_assoc] at this; exact this), PassesOwn.leaving, fun _ => ⟨rfl, rfl⟩, fun _ => rfl, fun r z => (by cases z), fun L z => (by cases z),
    fun c2 P2 q2 z => hmk c2 P2 q2 z, fun a z => (by cases z)⟩
end
end DL

set_option maxHeartbeats 1000000
namespace DL
open PySem PySem.Spec PyProof.Rows L2
section
variable {P : Program} {w : World} {K : PySem.W.Frag} {mg : Str → Option Value} {base : Heap} {H : Hp}
/-- a maker's own code object, its table, its lambdas' name -/
def MkOk (base : Heap) (mg : Str → Option Value) (x : Str) (fd : FuncData) (mk : Option (Addr × Addr × Str)) : Prop := ∀ c P0 q, mk = some (c, P0, q) → fd.code = .ref c ∧ LamX.TabB base mg c P0 ∧ x ++ ".<locals>." ++ "<lambda>" = q
theorem mkOk_none {x : Str} {fd : FuncData} : MkOk base mg x fd none := fun _ _ _ z => nomatch z
theorem mkOk_some {x : Str} {fd : FuncData} {c P0 : Addr} (hc : fd.code = .ref c) (TB : LamX.TabB base mg c P0) : MkOk base mg x fd (some (c, P0, x ++ ".<locals>." ++ "<lambda>")) := fun c2 P2 q2 z => by
  have e := Option.some.inj z
  rw [Prod.mk.injEq, Prod.mk.injEq] at e
  obtain ⟨e1, e3, e4⟩ := e
  subst e1 e3
  exact ⟨hc, TB, e4⟩
theorem fnG_RT {x : Str} {pa : Arguments} {body : List Stmt} {scope : Scope} {f : Addr} {fd : FuncData} {N ps : List Str} {k : Nat} {b : FS} {T : List (Addr × Str)} {mk : Option (Addr × Addr × Str)} (F : FunD K x x pa body scope [] [] f fd) (S : FnScope N ps scope) (hmk : MkOk base mg x fd mk)
    (h : DSs (scT P w K mg base N scope k true T mk) body b) (hn : ps.length ≤ N.length := by decide) : FnG P w K mg base (k + 1) f fd ps (spRT K mg T ps.length (runR N.length b)) := by
  obtain ⟨oc, od, dV, kV, doc, pm, an, cd, ct, osl, rfl, lk, hcd, _, _⟩ := F.ex
  refine ⟨fun vs H Q E q => q.1, fun A outer st H ar us vs Q E gd hr e b2 r q => ?_⟩
  refine LamX.run_ofS lk hcd S hr e b2 r q.1 fun hr' => ?_
  obtain ⟨t, q1, q2⟩ := h (fun cls d _ H => E cls d H)
  refine ⟨t, q2 (cxOf (L2.CX P w) P w K mg base N x scope f cd A outer st H E) ?_ (takes_of rfl rfl rfl rfl), body_RT hn q q1⟩
  exact fit_T gd hr' fun c P0 q z => ⟨(hmk c P0 q z).2.1, (hmk c P0 q z).1, (hmk c P0 q z).2.2⟩
theorem fnG_PT {x : Str} {pa : Arguments} {body : List Stmt} {scope : Scope} {f : Addr} {fd : FuncData} {N ps : List Str} {k : Nat} {b : FS} {T : List (Addr × Str)} {mk : Option (Addr × Addr × Str)} (F : FunD K x x pa body scope [] [] f fd) (S : FnScope N ps scope) (hmk : MkOk base mg x fd mk)
    (h : DSs (scT P w K mg base N scope k false T mk) body b) (hn : ps.length ≤ N.length := by decide) : FnG P w K mg base (k + 1) f fd ps (spPT K mg T ps.length (runP N.length b)) := by
  obtain ⟨oc, od, dV, kV, doc, pm, an, cd, ct, osl, rfl, lk, hcd, _, _⟩ := F.ex
  refine ⟨fun vs H Q E q => q.1, fun A outer st H ar us vs Q E gd hr e b2 r q => ?_⟩
  refine LamX.run_ofS lk hcd S hr e b2 r q.1 fun hr' => ?_
  obtain ⟨t, q1, q2⟩ := h (fun cls d _ H => E cls d H)
  refine ⟨t, q2 (cxOf (L2.CX P w) P w K mg base N x scope f cd A outer st H E) ?_ (takes_of rfl rfl rfl rfl), body_PT hn q q1⟩
  exact fit_T gd hr' fun c P0 q z => ⟨(hmk c P0 q z).2.1, (hmk c P0 q z).1, (hmk c P0 q z).2.2⟩
theorem fn_RT {x : Str} {pa : Arguments} {body : List Stmt} {scope : Scope} {f : Addr} {fd : FuncData} {N ps : List Str} {k : Nat} {b : FS} {T : List (Addr × Str)} {mk : Option (Addr × Addr × Str)} (F : FunD K x x pa body scope [] [] f fd) (hm : mg x = some (.ref f)) (S : FnScope N ps scope) (hmk : MkOk base mg x fd mk)
    (h : DSs (scT P w K mg base N scope k true T mk) body b)
    (hb : ∀ (kV doc pm : Value) (an : Option Addr) (cd ct : Value) (us : List Value), us.length = ps.length → bindArgs (PySem.W.fnOf x x pa body scope .none kV doc pm an cd ct) ⟨us, []⟩ = pure (ps.zip us)) (hn : ps.length ≤ N.length := by decide) :
    Cal P w K mg base x (k + 1) ps (spRT K mg T ps.length (runR N.length b)) := ⟨f, fd, fnG_RT F S hmk h hn, hm, F.kp, F.bindsN hb⟩
/-- a def that gets a lambda that changes a list -/
theorem fn_LE {x a : Str} {pa : Arguments} {body : List Stmt} {scope : Scope} {f : Addr} {fd : FuncData} {N : List Str} {k : Nat} {b : RG → Sl → RG} (F : FunD K x x pa body scope [] [] f fd) (hm : mg x = some (.ref f)) (S : FnScope N [a] scope)
    (h : ∀ L B z a0 o, z a0 → LamOkE K mg B z a0 L o → DSE (scL P w K mg base N scope k L B z) B z a0 body (b o))
    (hb : ∀ (kV doc pm : Value) (an : Option Addr) (cd ct : Value) (us : List Value), us.length = [a].length → bindArgs (PySem.W.fnOf x x pa body scope .none kV doc pm an cd ct) ⟨us, []⟩ = pure ([a].zip us))
    (h0 : N[0]? = some a := by rfl) (hv : Vis scope a := by first | exact Or.inl rfl | exact Or.inr (Or.inl rfl) | exact Or.inr (Or.inr rfl)) (hd : (a == ("__debug__" : Str)) = false := by decide) (hcd : (a == ("__classdict__" : Str)) = false := by decide) : CalLE P w K mg base x k N.length b :=
  ⟨a, N, scope, f, pa, body, fd, F, hm, F.bindsN hb, S, h0, hv, hd, hcd, rfl, h⟩
end
section
variable {s : SC}
theorem de_callRT {x z : Str} {ps : List Str} {k n : Nat} {F : List D → List D → RG} (i : Nat) {es : List Expr} {as : List Ag} {p p2 pos : Pos} (C : Cal s.P s.w s.K s.mg s.base x k ps (spRT s.K s.mg s.T n F))
    (ha : DA s es as) (hbs : bsOf as = [] := by rfl) (hn : as.length + 1 = n := by rfl) (hkk : k ≤ s.k := by exact Nat.le_of_ble_eq_true rfl) (hc : s.calm = true := by rfl) (hN : s.N[i]? = some z := by rfl) (hv : Vis s.sc z := by first | exact Or.inl rfl | exact Or.inr (Or.inl rfl) | exact Or.inr (Or.inr rfl)) (hg : s.sc.names.lookup x = some .globalImplicit := by rfl) (hdb : (x == ("__debug__" : Str)) = false := by decide)
    (hdz : (z == ("__debug__" : Str)) = false := by decide) (hcz : (z == ("__classdict__" : Str)) = false := by decide)
    (he : ∀ env, starEach (.Name z p2 :: es) env = (false, eval (.Name z p2) env) :: starEach es env := by intro _; rfl) (hpl : ∀ env, (backTo pos (starEach es env)).any (·.1) = false := by intro _; rfl) : DE s (.Call (.Name x p) (.Name z p2 :: es) [] pos) (fCallR F i as) := fun W =>
  let ⟨t, q1, q2⟩ := ha W; let ⟨_, _, G, hm, hk, hb⟩ := C
  ⟨_, tr_callRT q1 hbs n hn, fun y fi kk => pe_callG G fi.gd ((fi.room.resolve_right (by rw [hc]; decide)).mono hkk) hg hm hk hb (fun σ => passAt kk σ) (pa_cons (pe_var hN hv hdz hcz) (q2 y fi kk) (he _)) hdb (he _) (hpl _)⟩
end
end DL

namespace DL
open PySem PySem.Spec PyProof.Rows L2
/-! ### reckoning by frames: every step is a lemma, what is still to be done is closed text -/
theorem nr {α : Sort u} {a b : α} (h : a = b) : a = b := h
def sget (ρ : Sl) (i : Nat) : Option Slot := ρ[i]?
def sput (ρ : Sl) (i : Nat) (s : Slot) : Sl := ρ.set i s
theorem sget_z (s : Slot) (r : Sl) : sget (s :: r) 0 = some s := nr rfl
theorem sget_s (s : Slot) (r : Sl) (i : Nat) : sget (s :: r) (i + 1) = sget r i := nr rfl
theorem sput_z (s t : Slot) (r : Sl) : sput (s :: r) 0 t = t :: r := nr rfl
theorem sput_s (s t : Slot) (r : Sl) (i : Nat) : sput (s :: r) (i + 1) t = s :: sput r i t := nr rfl
def emps : Nat → Sl
  | 0 => []
  | n + 1 => .emp :: emps n
theorem emps_z : emps 0 = [] := nr rfl
theorem emps_s (n : Nat) : emps (n + 1) = .emp :: emps n := nr rfl
def entS : Nat → List D → Sl
  | n, [] => emps n
  | n + 1, d :: r => .val d :: entS n r
  | 0, d :: r => .val d :: entS 0 r
theorem ent_z (n : Nat) : entS n [] = emps n := by cases n <;> rfl
theorem ent_s (n : Nat) (d : D) (r : List D) : entS (n + 1) (d :: r) = .val d :: entS n r := nr rfl
theorem emps_eq : ∀ n, emps n = List.replicate n .emp
  | 0 => rfl
  | n + 1 => by rw [emps, emps_eq n]; rfl
theorem ent_eq : ∀ (n : Nat) (ds : List D), rho0 n ds = entS n ds
  | n, [] => by rw [ent_z, emps_eq]; rfl
  | n + 1, d :: r => by
    have := ent_eq n r
    unfold rho0 at *
    rw [entS, ← this]
    simp
  | 0, d :: r => by
    have := ent_eq 0 r
    unfold rho0 at *
    rw [entS, ← this]
    simp
def setS (i : Nat) : RE D → RS
  | .ok d ρ => .nx (sput ρ i (.val d))
  | .ex x ρ => .ex x ρ
  | .bad => .bad
theorem setS_x (i : Nat) (x : Ex) (ρ : Sl) : setS i (.ex x ρ) = .ex x ρ := nr rfl
theorem setS_o (i : Nat) (d : D) (ρ : Sl) : setS i (.ok d ρ) = .nx (sput ρ i (.val d)) := nr rfl
def newS (i : Nat) : RE D → RS
  | .ok d ρ => .nx (sput ρ i (.own d))
  | .ex x ρ => .ex x ρ
  | .bad => .bad
theorem newS_x (i : Nat) (x : Ex) (ρ : Sl) : newS i (.ex x ρ) = .ex x ρ := nr rfl
theorem newS_o (i : Nat) (d : D) (ρ : Sl) : newS i (.ok d ρ) = .nx (sput ρ i (.own d)) := nr rfl
def retS  : RE D → RS
  | .ok d ρ => .rt d ρ
  | .ex x ρ => .ex x ρ
  | .bad => .bad
theorem retS_x  (x : Ex) (ρ : Sl) : retS  (.ex x ρ) = .ex x ρ := nr rfl
theorem retS_o  (d : D) (ρ : Sl) : retS  (.ok d ρ) = .rt d ρ := nr rfl
def expS  : RE D → RS
  | .ok d ρ => .nx ρ
  | .ex x ρ => .ex x ρ
  | .bad => .bad
theorem expS_x  (x : Ex) (ρ : Sl) : expS  (.ex x ρ) = .ex x ρ := nr rfl
theorem expS_o  (d : D) (ρ : Sl) : expS  (.ok d ρ) = .nx ρ := nr rfl
def forS (tg : Tg) (b : FS) : RE (List D) → RS
  | .ok ds ρ => fLoop tg b ds ρ
  | .ex x ρ => .ex x ρ
  | .bad => .bad
theorem forS_x (tg : Tg) (b : FS) (x : Ex) (ρ : Sl) : forS tg b (.ex x ρ) = .ex x ρ := nr rfl
theorem forS_o (tg : Tg) (b : FS) (ds : List D) (ρ : Sl) : forS tg b (.ok ds ρ) = fLoop tg b ds ρ := nr rfl
theorem y_set (i : Nat) (f : FE) (ρ : Sl) : sSet i f ρ = setS i (f ρ) := by unfold sSet setS RE.bs; cases f ρ <;> rfl
theorem y_new (i : Nat) (f : FE) (ρ : Sl) : sNew i f ρ = newS i (f ρ) := by unfold sNew newS RE.bs; cases f ρ <;> rfl
theorem y_ret (f : FE) (ρ : Sl) : sRet f ρ = retS (f ρ) := by unfold sRet retS RE.bs; cases f ρ <;> rfl
theorem y_expr (f : FE) (ρ : Sl) : sExpr f ρ = expS (f ρ) := by unfold sExpr expS RE.bs; cases f ρ <;> rfl
theorem y_for (f : Sl → RE (List D)) (tg : Tg) (b : FS) (ρ : Sl) : sFor f tg b ρ = forS tg b (f ρ) := by unfold sFor forS RE.bs; cases f ρ <;> rfl
theorem y_retN (ρ : Sl) : sRetN ρ = .rt .non ρ := nr rfl
theorem y_next (ρ : Sl) : sNext ρ = .nx ρ := nr rfl
theorem y_break (ρ : Sl) : sBreak ρ = .bk ρ := nr rfl
theorem y_cont (ρ : Sl) : sCont ρ = .ct ρ := nr rfl
theorem y_raise (x : Str) (ρ : Sl) : sRaise x ρ = .ex ⟨x, []⟩ ρ := nr rfl
def sqS (b : FS) : RS → RS
  | .nx ρ' => b ρ'
  | .rt d ρ => .rt d ρ
  | .bk ρ => .bk ρ
  | .ct ρ => .ct ρ
  | .ex x ρ => .ex x ρ
  | .bad => .bad
theorem y_seq (a b : FS) (ρ : Sl) : sSeq a b ρ = sqS b (a ρ) := by unfold sSeq sqS; cases a ρ <;> rfl
theorem q_nx (ρ : Sl) (b : FS) : sqS b (.nx ρ) = b ρ := nr rfl
theorem q_rt (d : D) (ρ : Sl) (b : FS) : sqS b (.rt d ρ) = .rt d ρ := nr rfl
theorem q_ex (x : Ex) (ρ : Sl) (b : FS) : sqS b (.ex x ρ) = .ex x ρ := nr rfl
theorem q_bk (ρ : Sl) (b : FS) : sqS b (.bk ρ) = .bk ρ := nr rfl
theorem q_ct (ρ : Sl) (b : FS) : sqS b (.ct ρ) = .ct ρ := nr rfl
def ifS (a : FS) (b : FS) : RE Bool → RS
  | .ok true ρ => a ρ
  | .ok false ρ => b ρ
  | .ex x ρ => .ex x ρ
  | .bad => .bad
theorem ifS_t (a : FS) (b : FS) (ρ : Sl) : ifS a b (.ok true ρ) = a ρ := nr rfl
theorem ifS_f (a : FS) (b : FS) (ρ : Sl) : ifS a b (.ok false ρ) = b ρ := nr rfl
theorem ifS_x (a : FS) (b : FS) (x : Ex) (ρ : Sl) : ifS a b (.ex x ρ) = .ex x ρ := nr rfl
theorem ifS_dt (a : FS) (b : FS) {p : Prop} [Decidable p] (h : p) (ρ : Sl) : ifS a b (.ok (decide p) ρ) = a ρ := by rw [decide_eq_true h]; rfl
theorem ifS_df (a : FS) (b : FS) {p : Prop} [Decidable p] (h : ¬ p) (ρ : Sl) : ifS a b (.ok (decide p) ρ) = b ρ := by rw [decide_eq_false h]; rfl
def ifE (a : FE) (b : FE) : RE Bool → RE D
  | .ok true ρ => a ρ
  | .ok false ρ => b ρ
  | .ex x ρ => .ex x ρ
  | .bad => .bad
theorem ifE_t (a : FE) (b : FE) (ρ : Sl) : ifE a b (.ok true ρ) = a ρ := nr rfl
theorem ifE_f (a : FE) (b : FE) (ρ : Sl) : ifE a b (.ok false ρ) = b ρ := nr rfl
theorem ifE_x (a : FE) (b : FE) (x : Ex) (ρ : Sl) : ifE a b (.ex x ρ) = .ex x ρ := nr rfl
theorem ifE_dt (a : FE) (b : FE) {p : Prop} [Decidable p] (h : p) (ρ : Sl) : ifE a b (.ok (decide p) ρ) = a ρ := by rw [decide_eq_true h]; rfl
theorem ifE_df (a : FE) (b : FE) {p : Prop} [Decidable p] (h : ¬ p) (ρ : Sl) : ifE a b (.ok (decide p) ρ) = b ρ := by rw [decide_eq_false h]; rfl
def andE (f : FT) : RE Bool → RE Bool
  | .ok true ρ => f ρ
  | .ok false ρ => .ok false ρ
  | .ex x ρ => .ex x ρ
  | .bad => .bad
theorem andE_t (f : FT) (ρ : Sl) : andE f (.ok true ρ) = f ρ := nr rfl
theorem andE_f (f : FT) (ρ : Sl) : andE f (.ok false ρ) = .ok false ρ := nr rfl
theorem andE_x (f : FT) (x : Ex) (ρ : Sl) : andE f (.ex x ρ) = .ex x ρ := nr rfl
theorem andE_dt (f : FT) {p : Prop} [Decidable p] (h : p) (ρ : Sl) : andE f (.ok (decide p) ρ) = f ρ := by rw [decide_eq_true h]; rfl
theorem andE_df (f : FT) {p : Prop} [Decidable p] (h : ¬ p) (ρ : Sl) : andE f (.ok (decide p) ρ) = .ok false ρ := by rw [decide_eq_false h]; rfl
def orE (f : FT) : RE Bool → RE Bool
  | .ok true ρ => .ok true ρ
  | .ok false ρ => f ρ
  | .ex x ρ => .ex x ρ
  | .bad => .bad
theorem orE_t (f : FT) (ρ : Sl) : orE f (.ok true ρ) = .ok true ρ := nr rfl
theorem orE_f (f : FT) (ρ : Sl) : orE f (.ok false ρ) = f ρ := nr rfl
theorem orE_x (f : FT) (x : Ex) (ρ : Sl) : orE f (.ex x ρ) = .ex x ρ := nr rfl
theorem orE_dt (f : FT) {p : Prop} [Decidable p] (h : p) (ρ : Sl) : orE f (.ok (decide p) ρ) = .ok true ρ := by rw [decide_eq_true h]; rfl
theorem orE_df (f : FT) {p : Prop} [Decidable p] (h : ¬ p) (ρ : Sl) : orE f (.ok (decide p) ρ) = f ρ := by rw [decide_eq_false h]; rfl
def anvE (f : FE) : RE D → RE D
  | .ok (.bl true) ρ => f ρ
  | .ok (.bl false) ρ => .ok (.bl false) ρ
  | .ok _ _ => .bad
  | .ex x ρ => .ex x ρ
  | .bad => .bad
theorem anvE_t (f : FE) (ρ : Sl) : anvE f (.ok (.bl true) ρ) = f ρ := nr rfl
theorem anvE_f (f : FE) (ρ : Sl) : anvE f (.ok (.bl false) ρ) = .ok (.bl false) ρ := nr rfl
theorem anvE_x (f : FE) (x : Ex) (ρ : Sl) : anvE f (.ex x ρ) = .ex x ρ := nr rfl
theorem anvE_dt (f : FE) {p : Prop} [Decidable p] (h : p) (ρ : Sl) : anvE f (.ok (.bl (decide p)) ρ) = f ρ := by rw [decide_eq_true h]; rfl
theorem anvE_df (f : FE) {p : Prop} [Decidable p] (h : ¬ p) (ρ : Sl) : anvE f (.ok (.bl (decide p)) ρ) = .ok (.bl false) ρ := by rw [decide_eq_false h]; rfl
def orvE (f : FE) : RE D → RE D
  | .ok (.bl true) ρ => .ok (.bl true) ρ
  | .ok (.bl false) ρ => f ρ
  | .ok _ _ => .bad
  | .ex x ρ => .ex x ρ
  | .bad => .bad
theorem orvE_t (f : FE) (ρ : Sl) : orvE f (.ok (.bl true) ρ) = .ok (.bl true) ρ := nr rfl
theorem orvE_f (f : FE) (ρ : Sl) : orvE f (.ok (.bl false) ρ) = f ρ := nr rfl
theorem orvE_x (f : FE) (x : Ex) (ρ : Sl) : orvE f (.ex x ρ) = .ex x ρ := nr rfl
theorem orvE_dt (f : FE) {p : Prop} [Decidable p] (h : p) (ρ : Sl) : orvE f (.ok (.bl (decide p)) ρ) = .ok (.bl true) ρ := by rw [decide_eq_true h]; rfl
theorem orvE_df (f : FE) {p : Prop} [Decidable p] (h : ¬ p) (ρ : Sl) : orvE f (.ok (.bl (decide p)) ρ) = f ρ := by rw [decide_eq_false h]; rfl
theorem y_sif (c : FT) (a b : FS) (ρ : Sl) : sIf c a b ρ = ifS a b (c ρ) := by unfold sIf ifS RE.bs; cases c ρ with
  | ok k ρ => cases k <;> rfl
  | _ => rfl
theorem y_if (c : FT) (a b : FE) (ρ : Sl) : fIf c a b ρ = ifE a b (c ρ) := by unfold fIf ifE RE.bd; cases c ρ with
  | ok k ρ => cases k <;> rfl
  | _ => rfl
theorem y_and (f f' : FT) (ρ : Sl) : fAnd f f' ρ = andE f' (f ρ) := by unfold fAnd andE RE.bd; cases f ρ with
  | ok k ρ => cases k <;> rfl
  | _ => rfl
theorem y_or (f f' : FT) (ρ : Sl) : fOr f f' ρ = orE f' (f ρ) := by unfold fOr orE RE.bd; cases f ρ with
  | ok k ρ => cases k <;> rfl
  | _ => rfl
theorem y_andV (f f' : FE) (ρ : Sl) : fAndV f f' ρ = anvE f' (f ρ) := by unfold fAndV anvE RE.bd; cases f ρ with
  | ok k ρ => cases k with
    | bl b => cases b <;> rfl
    | _ => rfl
  | _ => rfl
theorem y_orV (f f' : FE) (ρ : Sl) : fOrV f f' ρ = orvE f' (f ρ) := by unfold fOrV orvE RE.bd; cases f ρ with
  | ok k ρ => cases k with
    | bl b => cases b <;> rfl
    | _ => rfl
  | _ => rfl
def notE : RE Bool → RE Bool
  | .ok b ρ => .ok (!b) ρ
  | .ex x ρ => .ex x ρ
  | .bad => .bad
theorem notE_t (ρ : Sl) : notE (.ok true ρ) = .ok false ρ := nr rfl
theorem notE_f (ρ : Sl) : notE (.ok false ρ) = .ok true ρ := nr rfl
theorem notE_d {p : Prop} [Decidable p] (ρ : Sl) : notE (.ok (decide p) ρ) = .ok (decide (¬ p)) ρ := by
  by_cases h : p <;> simp [notE, h]
theorem notE_x (x : Ex) (ρ : Sl) : notE (.ex x ρ) = .ex x ρ := nr rfl
theorem y_not (f : FT) (ρ : Sl) : fNot f ρ = notE (f ρ) := by unfold fNot notE RE.bd; cases f ρ <;> rfl
def ntvE : RE D → RE D
  | .ok (.bl b) ρ => .ok (.bl (!b)) ρ
  | .ok _ _ => .bad
  | .ex x ρ => .ex x ρ
  | .bad => .bad
theorem ntvE_t (ρ : Sl) : ntvE (.ok (.bl true) ρ) = .ok (.bl false) ρ := nr rfl
theorem ntvE_f (ρ : Sl) : ntvE (.ok (.bl false) ρ) = .ok (.bl true) ρ := nr rfl
theorem ntvE_d {p : Prop} [Decidable p] (ρ : Sl) : ntvE (.ok (.bl (decide p)) ρ) = .ok (.bl (decide (¬ p))) ρ := by
  by_cases h : p <;> simp [ntvE, h]
theorem ntvE_x (x : Ex) (ρ : Sl) : ntvE (.ex x ρ) = .ex x ρ := nr rfl
theorem y_notV (f : FE) (ρ : Sl) : fNotV f ρ = ntvE (f ρ) := by unfold fNotV ntvE RE.bd; cases f ρ with
  | ok d ρ => cases d <;> rfl
  | _ => rfl
def tE : RE D → RE Bool
  | .ok (.bl b) ρ => .ok b ρ
  | .ok _ _ => .bad
  | .ex x ρ => .ex x ρ
  | .bad => .bad
theorem tE_o (b : Bool) (ρ : Sl) : tE (.ok (.bl b) ρ) = .ok b ρ := nr rfl
theorem tE_x (x : Ex) (ρ : Sl) : tE (.ex x ρ) = .ex x ρ := nr rfl
theorem y_T (f : FE) (ρ : Sl) : fT f ρ = tE (f ρ) := by unfold fT tE RE.bd; cases f ρ with
  | ok d ρ => cases d <;> rfl
  | _ => rfl
/-! arguments -/
theorem y_nil (ρ : Sl) : evA [] ρ = .ok [] ρ := nr rfl
def cnsE (d : D) : RE (List D) → RE (List D)
  | .ok ds ρ => .ok (d :: ds) ρ
  | .ex x ρ => .ex x ρ
  | .bad => .bad
theorem cnsE_o (d : D) (ds : List D) (ρ : Sl) : cnsE d (.ok ds ρ) = .ok (d :: ds) ρ := nr rfl
theorem cnsE_x (d : D) (x : Ex) (ρ : Sl) : cnsE d (.ex x ρ) = .ex x ρ := nr rfl
def argE (r : List Ag) : RE D → RE (List D)
  | .ok d ρ => cnsE d (evA r ρ)
  | .ex x ρ => .ex x ρ
  | .bad => .bad
theorem argE_o (r : List Ag) (d : D) (ρ : Sl) : argE r (.ok d ρ) = cnsE d (evA r ρ) := nr rfl
theorem argE_x (r : List Ag) (x : Ex) (ρ : Sl) : argE r (.ex x ρ) = .ex x ρ := nr rfl
theorem y_e (f : FE) (r : List Ag) (ρ : Sl) : evA (.e f :: r) ρ = argE r (f ρ) := by
  show (f ρ).bd _ = _
  cases f ρ with
  | ok d ρ1 =>
    show (evA r ρ1).bd _ = cnsE d (evA r ρ1)
    cases evA r ρ1 <;> rfl
  | _ => rfl
def rdB (ds : List D) (ρ : Sl) : Option Slot → RE (List D)
  | some (.val d) => .ok (d :: ds) ρ
  | some (.own d) => .ok (d :: ds) ρ
  | _ => .bad
theorem rdB_v (ds : List D) (ρ : Sl) (d : D) : rdB ds ρ (some (.val d)) = .ok (d :: ds) ρ := nr rfl
theorem rdB_w (ds : List D) (ρ : Sl) (d : D) : rdB ds ρ (some (.own d)) = .ok (d :: ds) ρ := nr rfl
def brwE (i : Nat) : RE (List D) → RE (List D)
  | .ok ds ρ => rdB ds ρ (sget ρ i)
  | .ex x ρ => .ex x ρ
  | .bad => .bad
theorem brwE_o (i : Nat) (ds : List D) (ρ : Sl) : brwE i (.ok ds ρ) = rdB ds ρ (sget ρ i) := nr rfl
theorem brwE_x (i : Nat) (x : Ex) (ρ : Sl) : brwE i (.ex x ρ) = .ex x ρ := nr rfl
def brwS (i : Nat) (r : List Ag) (ρ : Sl) : Option Slot → RE (List D)
  | some (.val _) => brwE i (evA r ρ)
  | some (.own _) => brwE i (evA r ρ)
  | _ => .bad
theorem brwS_v (i : Nat) (r : List Ag) (ρ : Sl) (d : D) : brwS i r ρ (some (.val d)) = brwE i (evA r ρ) := nr rfl
theorem brwS_w (i : Nat) (r : List Ag) (ρ : Sl) (d : D) : brwS i r ρ (some (.own d)) = brwE i (evA r ρ) := nr rfl
theorem y_b (i : Nat) (r : List Ag) (ρ : Sl) : evA (.b i :: r) ρ = brwS i r ρ (sget ρ i) := by
  show (if isSet ρ i = true then _ else _) = _
  have key : (evA r ρ).bd (fun ds ρ2 => match ρ2[i]? with
    | some (.val d) => RE.ok (d :: ds) ρ2
    | some (.own d) => .ok (d :: ds) ρ2
    | _ => .bad) = brwE i (evA r ρ) := by
    cases evA r ρ <;> rfl
  unfold isSet sget brwS
  cases ρ[i]? with
  | none => rfl
  | some s => cases s <;> first | rfl | exact key
def ofE (ρ : Sl) : Option D → RE D
  | some d => .ok d ρ
  | none => .bad
theorem ofE_o (ρ : Sl) (d : D) : ofE ρ (some d) = .ok d ρ := nr rfl
def ofL (ρ : Sl) : Option (List D) → RE (List D)
  | some d => .ok d ρ
  | none => .bad
theorem ofL_o (ρ : Sl) (d : List D) : ofL ρ (some d) = .ok d ρ := nr rfl
def appE (b : List D → Option D) : RE (List D) → RE D
  | .ok ds ρ => ofE ρ (b ds)
  | .ex x ρ => .ex x ρ
  | .bad => .bad
theorem appE_o (b : List D → Option D) (ds : List D) (ρ : Sl) : appE b (.ok ds ρ) = ofE ρ (b ds) := nr rfl
theorem appE_x (b : List D → Option D) (x : Ex) (ρ : Sl) : appE b (.ex x ρ) = .ex x ρ := nr rfl
theorem y_app (b : List D → Option D) (as : List Ag) (ρ : Sl) : fApp b as ρ = appE b (evA as ρ) := by
  unfold fApp; cases evA as ρ with
  | ok ds ρ1 => show RE.of (b ds) ρ1 = ofE ρ1 (b ds); cases b ds <;> rfl
  | _ => rfl
def varS (i : Nat) (ρ : Sl) : Option Slot → RE D
  | some (.val d) => .ok d ρ
  | some (.own d) => .ok d (sput ρ i (.val d))
  | _ => .bad
theorem varS_v (i : Nat) (ρ : Sl) (d : D) : varS i ρ (some (.val d)) = .ok d ρ := nr rfl
theorem varS_w (i : Nat) (ρ : Sl) (d : D) : varS i ρ (some (.own d)) = .ok d (sput ρ i (.val d)) := nr rfl
theorem y_var (i : Nat) (ρ : Sl) : fVar i ρ = varS i ρ (sget ρ i) := nr rfl
theorem y_fC (d : D) (ρ : Sl) : fC d ρ = .ok d ρ := nr rfl
/-! calls -/
theorem bs_0 : bsOf [] = [] := nr rfl
theorem bs_e (f : FE) (r : List Ag) : bsOf (.e f :: r) = bsOf r := nr rfl
theorem bs_b (i : Nat) (r : List Ag) : bsOf (.b i :: r) = i :: bsOf r := nr rfl
theorem y_frz0 (ρ : Sl) : freezeR ρ [] = ρ := nr rfl
def frzG (ρ : Sl) (i : Nat) : Option Slot → Sl
  | some (.own d) => sput ρ i (.val d)
  | _ => ρ
theorem y_frz (ρ : Sl) (i : Nat) (r : List Nat) : freezeR ρ (i :: r) = frzG (freezeR ρ r) i (sget (freezeR ρ r) i) := by
  show (match (freezeR ρ r)[i]? with | some (.own d) => _ | _ => _) = _
  unfold frzG
  rfl
theorem y_frzo (ρ : Sl) (i : Nat) (d : D) : frzG ρ i (some (.own d)) = sput ρ i (.val d) := nr rfl
theorem y_frzv (ρ : Sl) (i : Nat) (d : D) : frzG ρ i (some (.val d)) = ρ := nr rfl
theorem y_frze (ρ : Sl) (i : Nat) : frzG ρ i (some .emp) = ρ := nr rfl
def frzI (ρ : Sl) (bs : List Nat) : Bool → Sl
  | true => ρ
  | false => freezeR ρ bs
theorem frzI_t (ρ : Sl) (bs : List Nat) : frzI ρ bs true = ρ := nr rfl
theorem frzI_f (ρ : Sl) (bs : List Nat) : frzI ρ bs false = freezeR ρ bs := nr rfl
theorem frzI_0 (ρ : Sl) (b : Bool) : frzI ρ [] b = ρ := by cases b <;> rfl
def callG (ρ : Sl) (bs : List Nat) : RF → RE D
  | .ok d => .ok d (frzI ρ bs d.flat)
  | .ex x => .ex x ρ
  | .bad => .bad
theorem callG_o (ρ : Sl) (bs : List Nat) (d : D) : callG ρ bs (.ok d) = .ok d (frzI ρ bs d.flat) := nr rfl
theorem callG_x (ρ : Sl) (bs : List Nat) (x : Ex) : callG ρ bs (.ex x) = .ex x ρ := nr rfl
def callE (F : List D → RF) (bs : List Nat) : RE (List D) → RE D
  | .ok ds ρ => callG ρ bs (F ds)
  | .ex x ρ => .ex x ρ
  | .bad => .bad
theorem callE_o (F : List D → RF) (bs : List Nat) (ds : List D) (ρ : Sl) : callE F bs (.ok ds ρ) = callG ρ bs (F ds) := nr rfl
theorem callE_x (F : List D → RF) (bs : List Nat) (x : Ex) (ρ : Sl) : callE F bs (.ex x ρ) = .ex x ρ := nr rfl
theorem y_call (F : List D → RF) (as : List Ag) (ρ : Sl) : fCall F as ρ = callE F (bsOf as) (evA as ρ) := by
  unfold fCall; cases evA as ρ with
  | ok ds ρ1 =>
    show (match F ds with | .ok d => _ | .ex x => _ | .bad => _) = callG ρ1 (bsOf as) (F ds)
    cases F ds with
    | ok d => show RE.ok d (if d.flat = true then ρ1 else _) = RE.ok d (frzI ρ1 _ d.flat); cases d.flat <;> rfl
    | _ => rfl
  | _ => rfl
def callNG (ρ : Sl) (bs : List Nat) : RF → RE D
  | .ok d => .ok d (freezeR ρ bs)
  | .ex x => .ex x ρ
  | .bad => .bad
theorem callNG_o (ρ : Sl) (bs : List Nat) (d : D) : callNG ρ bs (.ok d) = .ok d (freezeR ρ bs) := nr rfl
theorem callNG_x (ρ : Sl) (bs : List Nat) (x : Ex) : callNG ρ bs (.ex x) = .ex x ρ := nr rfl
def callNE (F : List D → RF) (bs : List Nat) : RE (List D) → RE D
  | .ok ds ρ => callNG ρ bs (F ds)
  | .ex x ρ => .ex x ρ
  | .bad => .bad
theorem callNE_o (F : List D → RF) (bs : List Nat) (ds : List D) (ρ : Sl) : callNE F bs (.ok ds ρ) = callNG ρ bs (F ds) := nr rfl
theorem callNE_x (F : List D → RF) (bs : List Nat) (x : Ex) (ρ : Sl) : callNE F bs (.ex x ρ) = .ex x ρ := nr rfl
theorem y_callN (F : List D → RF) (as : List Ag) (ρ : Sl) : fCallN F as ρ = callNE F (bsOf as) (evA as ρ) := by
  unfold fCallN; cases evA as ρ with
  | ok ds ρ1 =>
    show (match F ds with | .ok d => _ | .ex x => _ | .bad => _) = callNG ρ1 (bsOf as) (F ds)
    cases F ds <;> rfl
  | _ => rfl
def lsS : Option Slot → Option (List D)
  | some (.own (.lst ds)) => some ds
  | _ => none
theorem y_ls (ds : List D) : lsS (some (.own (.lst ds))) = some ds := nr rfl
theorem lstAt_eq (ρ : Sl) (i : Nat) : lstAt ρ i = lsS (sget ρ i) := by unfold lstAt lsS sget; rfl
def callRH (ρ : Sl) (i : Nat) : RG → RE D
  | .ok d h => .ok d (sput ρ i (.own (.lst h)))
  | .ex x h => .ex x (sput ρ i (.own (.lst h)))
  | .bad => .bad
theorem callRH_o (ρ : Sl) (i : Nat) (d : D) (h : List D) : callRH ρ i (.ok d h) = .ok d (sput ρ i (.own (.lst h))) := nr rfl
theorem callRH_x (ρ : Sl) (i : Nat) (x : Ex) (h : List D) : callRH ρ i (.ex x h) = .ex x (sput ρ i (.own (.lst h))) := nr rfl
def callRG (F : List D → List D → RG) (ρ : Sl) (i : Nat) (ds : List D) : Option (List D) → RE D
  | some hd => callRH ρ i (F hd ds)
  | none => .bad
theorem callRG_o (F : List D → List D → RG) (ρ : Sl) (i : Nat) (ds hd : List D) : callRG F ρ i ds (some hd) = callRH ρ i (F hd ds) := nr rfl
def callRE (F : List D → List D → RG) (i : Nat) : RE (List D) → RE D
  | .ok ds ρ => callRG F ρ i ds (lsS (sget ρ i))
  | .ex x ρ => .ex x ρ
  | .bad => .bad
theorem callRE_o (F : List D → List D → RG) (i : Nat) (ds : List D) (ρ : Sl) : callRE F i (.ok ds ρ) = callRG F ρ i ds (lsS (sget ρ i)) := nr rfl
theorem callRE_x (F : List D → List D → RG) (i : Nat) (x : Ex) (ρ : Sl) : callRE F i (.ex x ρ) = .ex x ρ := nr rfl
def callRS (F : List D → List D → RG) (i : Nat) (as : List Ag) (ρ : Sl) : Option (List D) → RE D
  | some _ => callRE F i (evA as ρ)
  | none => .bad
theorem callRS_o (F : List D → List D → RG) (i : Nat) (as : List Ag) (ρ : Sl) (hd : List D) : callRS F i as ρ (some hd) = callRE F i (evA as ρ) := nr rfl
theorem y_callR (F : List D → List D → RG) (i : Nat) (as : List Ag) (ρ : Sl) : fCallR F i as ρ = callRS F i as ρ (lsS (sget ρ i)) := by
  unfold fCallR
  rw [lstAt_eq]
  cases lsS (sget ρ i) with
  | none => rfl
  | some hd =>
    show (evA as ρ).bd _ = callRE F i (evA as ρ)
    cases evA as ρ with
    | ok ds ρ1 =>
      show (match lstAt ρ1 i with | some hd => _ | none => _) = callRG F ρ1 i ds (lsS (sget ρ1 i))
      rw [lstAt_eq]
      cases lsS (sget ρ1 i) with
      | none => rfl
      | some hd => show (match F hd ds with | .ok d h => _ | .ex x h => _ | .bad => _) = callRH ρ1 i (F hd ds); cases F hd ds <;> rfl
    | _ => rfl
/-! statements that change a list -/
def appG (ρ : Sl) (i : Nat) (d : D) : Option (List D) → RS
  | some ds => if ds.length < bigL then .nx (sput ρ i (.own (.lst (ds ++ [d])))) else .bad
  | none => .bad
theorem appG_o (ρ : Sl) (i : Nat) (d : D) (ds : List D) (h : ds.length < 16777216) : appG ρ i d (some ds) = .nx (sput ρ i (.own (.lst (ds ++ [d])))) := if_pos h
def appS (i : Nat) : RE D → RS
  | .ok d ρ => appG ρ i d (lsS (sget ρ i))
  | .ex x ρ => .ex x ρ
  | .bad => .bad
theorem appS_o (i : Nat) (d : D) (ρ : Sl) : appS i (.ok d ρ) = appG ρ i d (lsS (sget ρ i)) := nr rfl
theorem appS_x (i : Nat) (x : Ex) (ρ : Sl) : appS i (.ex x ρ) = .ex x ρ := nr rfl
def appT (i : Nat) (f : FE) (ρ : Sl) : Option (List D) → RS
  | some _ => appS i (f ρ)
  | none => .bad
theorem appT_o (i : Nat) (f : FE) (ρ : Sl) (ds : List D) : appT i f ρ (some ds) = appS i (f ρ) := nr rfl
theorem y_append (i : Nat) (f : FE) (ρ : Sl) : sAppend i f ρ = appT i f ρ (lsS (sget ρ i)) := by
  unfold sAppend
  rw [lstAt_eq]
  cases lsS (sget ρ i) with
  | none => rfl
  | some ds =>
    show (f ρ).bs _ = appS i (f ρ)
    cases f ρ with
    | ok d ρ1 =>
      show (match lstAt ρ1 i with | some ds => _ | none => _) = appG ρ1 i d (lsS (sget ρ1 i))
      rw [lstAt_eq]
      cases lsS (sget ρ1 i) <;> rfl
    | _ => rfl
def extG (ρ : Sl) (i : Nat) : D → Option (List D) → RS
  | .lst es, some ds => if ds.length + es.length ≤ bigL then .nx (sput ρ i (.own (.lst (ds ++ es)))) else .bad
  | _, _ => .bad
theorem extG_o (ρ : Sl) (i : Nat) (es ds : List D) (h : ds.length + es.length ≤ 16777216) : extG ρ i (.lst es) (some ds) = .nx (sput ρ i (.own (.lst (ds ++ es)))) := if_pos h
def extS (i : Nat) : RE D → RS
  | .ok d ρ => extG ρ i d (lsS (sget ρ i))
  | .ex x ρ => .ex x ρ
  | .bad => .bad
theorem extS_o (i : Nat) (d : D) (ρ : Sl) : extS i (.ok d ρ) = extG ρ i d (lsS (sget ρ i)) := nr rfl
def extT (i : Nat) (f : FE) (ρ : Sl) : Option (List D) → RS
  | some _ => extS i (f ρ)
  | none => .bad
theorem extT_o (i : Nat) (f : FE) (ρ : Sl) (ds : List D) : extT i f ρ (some ds) = extS i (f ρ) := nr rfl
theorem y_extend (i : Nat) (f : FE) (ρ : Sl) : sExtend i f ρ = extT i f ρ (lsS (sget ρ i)) := by
  unfold sExtend
  rw [lstAt_eq]
  cases lsS (sget ρ i) with
  | none => rfl
  | some ds =>
    show (f ρ).bs _ = extS i (f ρ)
    cases f ρ with
    | ok d ρ1 =>
      show (match d, lstAt ρ1 i with | .lst es, some ds => _ | _, _ => _) = extG ρ1 i d (lsS (sget ρ1 i))
      rw [lstAt_eq]
      cases lsS (sget ρ1 i) <;> cases d <;> rfl
    | _ => rfl
def putH (ρ : Sl) (i : Nat) (ds : List D) (d : D) : Option Nat → RS
  | some m => .nx (sput ρ i (.own (.lst (ds.set m d))))
  | none => .bad
theorem putH_o (ρ : Sl) (i : Nat) (d : D) (m : Nat) (ds : List D) : putH ρ i ds d (some m) = .nx (sput ρ i (.own (.lst (ds.set m d)))) := nr rfl
def putG (ρ : Sl) (i : Nat) (d : D) : D → Option (List D) → RS
  | .int n, some ds => putH ρ i ds d (L2.ixN ds.length n)
  | _, _ => .bad
theorem putG_o (ρ : Sl) (i : Nat) (d : D) (n : Int) (ds : List D) : putG ρ i d (.int n) (some ds) = putH ρ i ds d (L2.ixN ds.length n) := nr rfl
def putK (i : Nat) (d : D) : RE D → RS
  | .ok k ρ => putG ρ i d k (lsS (sget ρ i))
  | .ex x ρ => .ex x ρ
  | .bad => .bad
theorem putK_o (i : Nat) (d k : D) (ρ : Sl) : putK i d (.ok k ρ) = putG ρ i d k (lsS (sget ρ i)) := nr rfl
def putT (i : Nat) (d : D) (fi : FE) (ρ : Sl) : Option (List D) → RS
  | some _ => putK i d (fi ρ)
  | none => .bad
theorem putT_o (i : Nat) (d : D) (fi : FE) (ρ : Sl) (ds : List D) : putT i d fi ρ (some ds) = putK i d (fi ρ) := nr rfl
def putS (i : Nat) (fi : FE) : RE D → RS
  | .ok d ρ => putT i d fi ρ (lsS (sget ρ i))
  | .ex x ρ => .ex x ρ
  | .bad => .bad
theorem putS_o (i : Nat) (fi : FE) (d : D) (ρ : Sl) : putS i fi (.ok d ρ) = putT i d fi ρ (lsS (sget ρ i)) := nr rfl
theorem putS_x (i : Nat) (fi : FE) (x : Ex) (ρ : Sl) : putS i fi (.ex x ρ) = .ex x ρ := nr rfl
theorem y_put (i : Nat) (f fi : FE) (ρ : Sl) : sPut i f fi ρ = putS i fi (f ρ) := by
  unfold sPut
  cases f ρ with
  | ok d ρ1 =>
    show (if (lstAt ρ1 i).isSome = true then _ else _) = putT i d fi ρ1 (lsS (sget ρ1 i))
    rw [lstAt_eq]
    cases lsS (sget ρ1 i) with
    | none => rfl
    | some ds =>
      show (fi ρ1).bs _ = putK i d (fi ρ1)
      cases fi ρ1 with
      | ok k ρ2 =>
        show (match k, lstAt ρ2 i with | .int n, some ds => _ | _, _ => _) = putG ρ2 i d k (lsS (sget ρ2 i))
        rw [lstAt_eq]
        cases lsS (sget ρ2 i) <;> cases k <;> rfl
      | _ => rfl
  | _ => rfl
def nxO (ρ : Sl) (i : Nat) : Option D → RS
  | some z => .nx (sput ρ i (.val z))
  | none => .bad
theorem nxO_o (ρ : Sl) (i : Nat) (z : D) : nxO ρ i (some z) = .nx (sput ρ i (.val z)) := nr rfl
def augF (i : Nat) (b : List D → Option D) (d : D) : RE D → RS
  | .ok e ρ => nxO ρ i (b [d, e])
  | .ex x ρ => .ex x ρ
  | .bad => .bad
theorem augF_o (i : Nat) (b : List D → Option D) (d e : D) (ρ : Sl) : augF i b d (.ok e ρ) = nxO ρ i (b [d, e]) := nr rfl
def augG (i : Nat) (b : List D → Option D) (f : FE) (ρ : Sl) : Option Slot → RS
  | some (.val d) => if d.scal = true then augF i b d (f ρ) else .bad
  | _ => .bad
theorem augG_o (i : Nat) (b : List D → Option D) (f : FE) (ρ : Sl) (n : Int) : augG i b f ρ (some (.val (.int n))) = augF i b (.int n) (f ρ) := nr rfl
theorem y_aug (i : Nat) (b : List D → Option D) (f : FE) (ρ : Sl) : sAug i b f ρ = augG i b f ρ (sget ρ i) := by
  unfold sAug augG sget
  cases ρ[i]? with
  | none => rfl
  | some s => cases s with
    | val d =>
      show (if d.scal = true then _ else _) = (if d.scal = true then _ else _)
      congr 1
      cases f ρ with
      | ok e ρ1 => show (match b [d, e] with | some z => _ | none => _) = nxO ρ1 i (b [d, e]); cases b [d, e] <;> rfl
      | _ => rfl
    | _ => rfl
/-! a, b = .. -/
def parG (i k : Nat) (ow ow' : Bool) (d : D) : RE D → RS
  | .ok e ρ => .nx (sput (sput ρ i (if ow = true then .own d else .val d)) k (if ow' = true then .own e else .val e))
  | .ex x ρ => .ex x ρ
  | .bad => .bad
def parS (i k : Nat) (ow ow' : Bool) (f' : FE) : RE D → RS
  | .ok d ρ => parG i k ow ow' d (f' ρ)
  | .ex x ρ => .ex x ρ
  | .bad => .bad
theorem parS_o (i k : Nat) (ow ow' : Bool) (f' : FE) (d : D) (ρ : Sl) : parS i k ow ow' f' (.ok d ρ) = parG i k ow ow' d (f' ρ) := nr rfl
theorem parS_x (i k : Nat) (ow ow' : Bool) (f' : FE) (x : Ex) (ρ : Sl) : parS i k ow ow' f' (.ex x ρ) = .ex x ρ := nr rfl
theorem parG_vv (i k : Nat) (d e : D) (ρ : Sl) : parG i k false false d (.ok e ρ) = .nx (sput (sput ρ i (.val d)) k (.val e)) := nr rfl
theorem parG_vn (i k : Nat) (d e : D) (ρ : Sl) : parG i k false true d (.ok e ρ) = .nx (sput (sput ρ i (.val d)) k (.own e)) := nr rfl
theorem parG_nv (i k : Nat) (d e : D) (ρ : Sl) : parG i k true false d (.ok e ρ) = .nx (sput (sput ρ i (.own d)) k (.val e)) := nr rfl
theorem parG_nn (i k : Nat) (d e : D) (ρ : Sl) : parG i k true true d (.ok e ρ) = .nx (sput (sput ρ i (.own d)) k (.own e)) := nr rfl
theorem parG_x (i k : Nat) (ow ow' : Bool) (d : D) (x : Ex) (ρ : Sl) : parG i k ow ow' d (.ex x ρ) = .ex x ρ := nr rfl
theorem y_parvv (i k : Nat) (f f' : FE) (ρ : Sl) : sPar i k (.v f) (.v f') ρ = parS i k false false f' (f ρ) := by
  unfold sPar
  show (f ρ).bs _ = _
  cases f ρ with
  | ok d ρ1 => show (f' ρ1).bs _ = parG i k _ _ d (f' ρ1); cases f' ρ1 <;> rfl
  | _ => rfl
theorem y_parvn (i k : Nat) (f f' : FE) (ρ : Sl) : sPar i k (.v f) (.n f') ρ = parS i k false true f' (f ρ) := by
  unfold sPar
  show (f ρ).bs _ = _
  cases f ρ with
  | ok d ρ1 => show (f' ρ1).bs _ = parG i k _ _ d (f' ρ1); cases f' ρ1 <;> rfl
  | _ => rfl
theorem y_parnv (i k : Nat) (f f' : FE) (ρ : Sl) : sPar i k (.n f) (.v f') ρ = parS i k true false f' (f ρ) := by
  unfold sPar
  show (f ρ).bs _ = _
  cases f ρ with
  | ok d ρ1 => show (f' ρ1).bs _ = parG i k _ _ d (f' ρ1); cases f' ρ1 <;> rfl
  | _ => rfl
theorem y_parnn (i k : Nat) (f f' : FE) (ρ : Sl) : sPar i k (.n f) (.n f') ρ = parS i k true true f' (f ρ) := by
  unfold sPar
  show (f ρ).bs _ = _
  cases f ρ with
  | ok d ρ1 => show (f' ρ1).bs _ = parG i k _ _ d (f' ρ1); cases f' ρ1 <;> rfl
  | _ => rfl
def par3S (i k l : Nat) : RE (List D) → RS
  | .ok [x, y, z] ρ => .nx (sput (sput (sput ρ i (.val x)) k (.val y)) l (.val z))
  | .ok _ _ => .bad
  | .ex x ρ => .ex x ρ
  | .bad => .bad
theorem par3S_o (i k l : Nat) (x y z : D) (ρ : Sl) : par3S i k l (.ok [x, y, z] ρ) = .nx (sput (sput (sput ρ i (.val x)) k (.val y)) l (.val z)) := nr rfl
theorem y_par3 (i k l : Nat) (as : List Ag) (ρ : Sl) : sPar3 i k l as ρ = par3S i k l (evA as ρ) := by
  unfold sPar3 par3S
  cases evA as ρ with
  | ok ds ρ1 => match ds with
    | [] => rfl
    | [_] => rfl
    | [_, _] => rfl
    | [_, _, _] => rfl
    | _ :: _ :: _ :: _ :: _ => rfl
  | _ => rfl
def unpG : Option Sl → RS
  | some ρ => .nx ρ
  | none => .bad
theorem unpG_o (ρ : Sl) : unpG (some ρ) = .nx ρ := nr rfl
def unpS (tg : Tg) : RE D → RS
  | .ok d ρ => unpG (tg d ρ)
  | .ex x ρ => .ex x ρ
  | .bad => .bad
theorem unpS_o (tg : Tg) (d : D) (ρ : Sl) : unpS tg (.ok d ρ) = unpG (tg d ρ) := nr rfl
theorem unpS_x (tg : Tg) (x : Ex) (ρ : Sl) : unpS tg (.ex x ρ) = .ex x ρ := nr rfl
theorem y_unp (f : FE) (tg : Tg) (ρ : Sl) : sUnp f tg ρ = unpS tg (f ρ) := by
  unfold sUnp
  cases f ρ with
  | ok d ρ1 => show (match tg d ρ1 with | some ρ2 => _ | none => _) = unpG (tg d ρ1); cases tg d ρ1 <;> rfl
  | _ => rfl
/-! targets -/
theorem y_tgN (i : Nat) (d : D) (ρ : Sl) : tgName i d ρ = some (sput ρ i (.val d)) := nr rfl
theorem y_tgT (f : List D → Sl → Option Sl) (ds : List D) (ρ : Sl) : tgTup f (.tup ds) ρ = f ds ρ := nr rfl
def tgR (fr : List D → Sl → Option Sl) (ds : List D) : Option Sl → Option Sl
  | some ρ => fr ds ρ
  | none => none
theorem tgR_o (fr : List D → Sl → Option Sl) (ds : List D) (ρ : Sl) : tgR fr ds (some ρ) = fr ds ρ := nr rfl
theorem y_tgC (f : Tg) (fr : List D → Sl → Option Sl) (d : D) (ds : List D) (ρ : Sl) : tgCons f fr (d :: ds) ρ = tgR fr ds (f d ρ) := by
  show (f d ρ).bind (fr ds) = _
  cases f d ρ <;> rfl
theorem y_tg0 (ρ : Sl) : tgNil [] ρ = some ρ := nr rfl
/-! chains, slices, walks -/
def chH (b' : List D → Option D) (y : D) : RE D → RE D
  | .ok z ρ => ofE ρ (b' [y, z])
  | .ex x ρ => .ex x ρ
  | .bad => .bad
theorem chH_o (b' : List D → Option D) (y z : D) (ρ : Sl) : chH b' y (.ok z ρ) = ofE ρ (b' [y, z]) := nr rfl
def chG (b' : List D → Option D) (f3 : FE) (y : D) (ρ : Sl) : Option D → RE D
  | some (.bl true) => chH b' y (f3 ρ)
  | some (.bl false) => .ok (.bl false) ρ
  | _ => .bad
theorem chG_t (b' : List D → Option D) (f3 : FE) (y : D) (ρ : Sl) : chG b' f3 y ρ (some (.bl true)) = chH b' y (f3 ρ) := nr rfl
theorem chG_f (b' : List D → Option D) (f3 : FE) (y : D) (ρ : Sl) : chG b' f3 y ρ (some (.bl false)) = .ok (.bl false) ρ := nr rfl
theorem chG_dt (b' : List D → Option D) (f3 : FE) (y : D) (ρ : Sl) {p : Prop} [Decidable p] (h : p) : chG b' f3 y ρ (some (.bl (decide p))) = chH b' y (f3 ρ) := by rw [decide_eq_true h]; rfl
theorem chG_df (b' : List D → Option D) (f3 : FE) (y : D) (ρ : Sl) {p : Prop} [Decidable p] (h : ¬ p) : chG b' f3 y ρ (some (.bl (decide p))) = .ok (.bl false) ρ := by rw [decide_eq_false h]; rfl
def chF (b b' : List D → Option D) (f3 : FE) (x : D) : RE D → RE D
  | .ok y ρ => chG b' f3 y ρ (b [x, y])
  | .ex x ρ => .ex x ρ
  | .bad => .bad
theorem chF_o (b b' : List D → Option D) (f3 : FE) (x y : D) (ρ : Sl) : chF b b' f3 x (.ok y ρ) = chG b' f3 y ρ (b [x, y]) := nr rfl
def chE (b b' : List D → Option D) (f2 f3 : FE) : RE D → RE D
  | .ok x ρ => chF b b' f3 x (f2 ρ)
  | .ex x ρ => .ex x ρ
  | .bad => .bad
theorem chE_o (b b' : List D → Option D) (f2 f3 : FE) (x : D) (ρ : Sl) : chE b b' f2 f3 (.ok x ρ) = chF b b' f3 x (f2 ρ) := nr rfl
theorem y_chain (b b' : List D → Option D) (f1 f2 f3 : FE) (ρ : Sl) : fChain b b' f1 f2 f3 ρ = chE b b' f2 f3 (f1 ρ) := by
  unfold fChain
  cases f1 ρ with
  | ok x ρ1 =>
    show (f2 ρ1).bd _ = chF b b' f3 x (f2 ρ1)
    cases f2 ρ1 with
    | ok y ρ2 =>
      show (match b [x, y] with | some (.bl true) => _ | some (.bl false) => _ | _ => _) = chG b' f3 y ρ2 (b [x, y])
      cases b [x, y] with
      | none => rfl
      | some d => cases d with
        | bl k => cases k with
          | false => rfl
          | true =>
            show (f3 ρ2).bd _ = chH b' y (f3 ρ2)
            cases f3 ρ2 with
            | ok z ρ3 => show RE.of (b' [y, z]) ρ3 = ofE ρ3 (b' [y, z]); cases b' [y, z] <;> rfl
            | _ => rfl
        | _ => rfl
    | _ => rfl
  | _ => rfl
theorem y_oNo (ρ : Sl) : oNo ρ = .ok none ρ := nr rfl
def exI : RE D → RE (Option Int)
  | .ok (.int i) ρ => .ok (some i) ρ
  | .ok _ _ => .bad
  | .ex x ρ => .ex x ρ
  | .bad => .bad
theorem exI_o (i : Int) (ρ : Sl) : exI (.ok (.int i) ρ) = .ok (some i) ρ := nr rfl
theorem y_oEx (f : FE) (ρ : Sl) : oEx f ρ = exI (f ρ) := by
  unfold oEx exI
  cases f ρ with
  | ok d ρ => cases d <;> rfl
  | _ => rfl
def slH (b : D → Option Int → Option Int → Option D) (d : D) (l : Option Int) : RE (Option Int) → RE D
  | .ok h ρ => ofE ρ (b d l h)
  | .ex x ρ => .ex x ρ
  | .bad => .bad
theorem slH_o (b : D → Option Int → Option Int → Option D) (d : D) (l h : Option Int) (ρ : Sl) : slH b d l (.ok h ρ) = ofE ρ (b d l h) := nr rfl
def slL (b : D → Option Int → Option Int → Option D) (hi : Sl → RE (Option Int)) (d : D) : RE (Option Int) → RE D
  | .ok l ρ => slH b d l (hi ρ)
  | .ex x ρ => .ex x ρ
  | .bad => .bad
theorem slL_o (b : D → Option Int → Option Int → Option D) (hi : Sl → RE (Option Int)) (d : D) (l : Option Int) (ρ : Sl) : slL b hi d (.ok l ρ) = slH b d l (hi ρ) := nr rfl
def slE (b : D → Option Int → Option Int → Option D) (lo hi : Sl → RE (Option Int)) : RE D → RE D
  | .ok d ρ => slL b hi d (lo ρ)
  | .ex x ρ => .ex x ρ
  | .bad => .bad
theorem slE_o (b : D → Option Int → Option Int → Option D) (lo hi : Sl → RE (Option Int)) (d : D) (ρ : Sl) : slE b lo hi (.ok d ρ) = slL b hi d (lo ρ) := nr rfl
theorem y_sl (b : D → Option Int → Option Int → Option D) (f : FE) (lo hi : Sl → RE (Option Int)) (ρ : Sl) : fSl b f lo hi ρ = slE b lo hi (f ρ) := by
  unfold fSl
  cases f ρ with
  | ok d ρ1 =>
    show (lo ρ1).bd _ = slL b hi d (lo ρ1)
    cases lo ρ1 with
    | ok l ρ2 =>
      show (hi ρ2).bd _ = slH b d l (hi ρ2)
      cases hi ρ2 with
      | ok h ρ3 => show RE.of (b d l h) ρ3 = ofE ρ3 (b d l h); cases b d l h <;> rfl
      | _ => rfl
    | _ => rfl
  | _ => rfl
def svG (b : D → Option Int → Option Int → Option D) (l h : Option Int) (ρ : Sl) : Option Slot → RE D
  | some (.val d) => ofE ρ (b d l h)
  | some (.own d) => ofE ρ (b d l h)
  | _ => .bad
theorem svG_v (b : D → Option Int → Option Int → Option D) (l h : Option Int) (ρ : Sl) (d : D) : svG b l h ρ (some (.val d)) = ofE ρ (b d l h) := nr rfl
theorem svG_w (b : D → Option Int → Option Int → Option D) (l h : Option Int) (ρ : Sl) (d : D) : svG b l h ρ (some (.own d)) = ofE ρ (b d l h) := nr rfl
def svH (b : D → Option Int → Option Int → Option D) (i : Nat) (l : Option Int) : RE (Option Int) → RE D
  | .ok h ρ => svG b l h ρ (sget ρ i)
  | .ex x ρ => .ex x ρ
  | .bad => .bad
theorem svH_o (b : D → Option Int → Option Int → Option D) (i : Nat) (l h : Option Int) (ρ : Sl) : svH b i l (.ok h ρ) = svG b l h ρ (sget ρ i) := nr rfl
def svL (b : D → Option Int → Option Int → Option D) (i : Nat) (hi : Sl → RE (Option Int)) : RE (Option Int) → RE D
  | .ok l ρ => svH b i l (hi ρ)
  | .ex x ρ => .ex x ρ
  | .bad => .bad
theorem svL_o (b : D → Option Int → Option Int → Option D) (i : Nat) (hi : Sl → RE (Option Int)) (l : Option Int) (ρ : Sl) : svL b i hi (.ok l ρ) = svH b i l (hi ρ) := nr rfl
def svS (b : D → Option Int → Option Int → Option D) (i : Nat) (lo hi : Sl → RE (Option Int)) (ρ : Sl) : Option Slot → RE D
  | some (.val _) => svL b i hi (lo ρ)
  | some (.own _) => svL b i hi (lo ρ)
  | _ => .bad
theorem svS_v (b : D → Option Int → Option Int → Option D) (i : Nat) (lo hi : Sl → RE (Option Int)) (ρ : Sl) (d : D) : svS b i lo hi ρ (some (.val d)) = svL b i hi (lo ρ) := nr rfl
theorem svS_w (b : D → Option Int → Option Int → Option D) (i : Nat) (lo hi : Sl → RE (Option Int)) (ρ : Sl) (d : D) : svS b i lo hi ρ (some (.own d)) = svL b i hi (lo ρ) := nr rfl
theorem y_slV (b : D → Option Int → Option Int → Option D) (i : Nat) (lo hi : Sl → RE (Option Int)) (ρ : Sl) : fSlV b i lo hi ρ = svS b i lo hi ρ (sget ρ i) := by
  have key : (lo ρ).bd (fun l ρ2 => (hi ρ2).bd fun h ρ3 => match ρ3[i]? with
    | some (.val d) => RE.of (b d l h) ρ3
    | some (.own d) => .of (b d l h) ρ3
    | _ => .bad) = svL b i hi (lo ρ) := by
    cases lo ρ with
    | ok l ρ2 =>
      show (hi ρ2).bd _ = svH b i l (hi ρ2)
      cases hi ρ2 with
      | ok h ρ3 =>
        show (match ρ3[i]? with | some (.val d) => RE.of (b d l h) ρ3 | some (.own d) => .of (b d l h) ρ3 | _ => .bad) = svG b l h ρ3 (sget ρ3 i)
        unfold svG sget
        cases ρ3[i]? with
        | none => rfl
        | some s => cases s with
          | val d => show RE.of (b d l h) ρ3 = ofE ρ3 (b d l h); cases b d l h <;> rfl
          | own d => show RE.of (b d l h) ρ3 = ofE ρ3 (b d l h); cases b d l h <;> rfl
          | _ => rfl
      | _ => rfl
    | _ => rfl
  unfold fSlV isSet svS sget
  cases ρ[i]? with
  | none => rfl
  | some s => cases s <;> first | rfl | exact key
def seqE : RE D → RE (List D)
  | .ok d ρ => ofL ρ d.seq
  | .ex x ρ => .ex x ρ
  | .bad => .bad
theorem seqE_o (d : D) (ρ : Sl) : seqE (.ok d ρ) = ofL ρ d.seq := nr rfl
theorem y_fseq (f : FE) (ρ : Sl) : fSeq f ρ = seqE (f ρ) := by
  unfold fSeq
  cases f ρ with
  | ok d ρ1 => show RE.of d.seq ρ1 = ofL ρ1 d.seq; cases d.seq <;> rfl
  | _ => rfl
def rng1E : RE (List D) → RE (List D)
  | .ok [.int n] ρ => if rngOk n = true then .ok (rngD 0 n.toNat) ρ else .bad
  | .ok _ _ => .bad
  | .ex x ρ => .ex x ρ
  | .bad => .bad
theorem rng1E_o (n : Int) (ρ : Sl) (h : n < 4611686018427387904) (h0 : -4611686018427387904 ≤ n) : rng1E (.ok [.int n] ρ) = .ok (rngD 0 n.toNat) ρ := if_pos (decide_eq_true ⟨h0, h⟩)
theorem y_rng1 (a : Ag) (ρ : Sl) : fRng1 a ρ = rng1E (evA [a] ρ) := by
  unfold fRng1
  cases evA [a] ρ with
  | ok ds ρ1 => match ds with
    | [] => rfl
    | [d] => cases d <;> rfl
    | d :: _ :: _ => cases d <;> rfl
  | _ => rfl
def rng2E : RE (List D) → RE (List D)
  | .ok [.int m, .int n] ρ => if (rngOk m && rngOk n) = true then .ok (rngD m (n - m).toNat) ρ else .bad
  | .ok _ _ => .bad
  | .ex x ρ => .ex x ρ
  | .bad => .bad
theorem rng2E_o (m n : Int) (ρ : Sl) (h : n < 4611686018427387904) (h0 : -4611686018427387904 ≤ n) (h1 : m < 4611686018427387904) (h2 : -4611686018427387904 ≤ m) : rng2E (.ok [.int m, .int n] ρ) = .ok (rngD m (n - m).toNat) ρ :=
  if_pos (by rw [show rngOk m = true from decide_eq_true ⟨h2, h1⟩, show rngOk n = true from decide_eq_true ⟨h0, h⟩]; rfl)
theorem y_rng2 (a b : Ag) (ρ : Sl) : fRng2 a b ρ = rng2E (evA [a, b] ρ) := by
  unfold fRng2
  cases evA [a, b] ρ with
  | ok ds ρ1 => match ds with
    | [] => rfl
    | [d] => cases d <;> rfl
    | [d, e] => cases d <;> cases e <;> rfl
    | d :: e :: _ :: _ => cases d <;> cases e <;> rfl
  | _ => rfl
def enE (bs : List Nat) : RE (List D) → RE (List D)
  | .ok [d] ρ => ofL (freezeR ρ bs) (d.seq.map (enD 0))
  | .ok _ _ => .bad
  | .ex x ρ => .ex x ρ
  | .bad => .bad
theorem enE_o (bs : List Nat) (d : D) (ρ : Sl) : enE bs (.ok [d] ρ) = ofL (freezeR ρ bs) (d.seq.map (enD 0)) := nr rfl
theorem y_en (a : Ag) (ρ : Sl) : fEn a ρ = enE (bsOf [a]) (evA [a] ρ) := by
  unfold fEn
  cases evA [a] ρ with
  | ok ds ρ1 =>
    match ds with
    | [] => rfl
    | [d] => show RE.of (d.seq.map (enD 0)) _ = ofL _ (d.seq.map (enD 0)); cases d.seq <;> rfl
    | _ :: _ :: _ => rfl
  | _ => rfl
def zipE : RE (List D) → RE (List D)
  | .ok ds ρ => ofL ρ (zipB ds)
  | .ex x ρ => .ex x ρ
  | .bad => .bad
theorem zipE_o (ds : List D) (ρ : Sl) : zipE (.ok ds ρ) = ofL ρ (zipB ds) := nr rfl
theorem y_zip (f f' : FE) (ρ : Sl) : fZip f f' ρ = zipE (evA [.e f, .e f'] ρ) := by
  unfold fZip
  cases evA [.e f, .e f'] ρ with
  | ok ds ρ1 => show RE.of (zipB ds) ρ1 = ofL ρ1 (zipB ds); cases zipB ds <;> rfl
  | _ => rfl
def mtH (b : List D → Option D) (xs : List D) : RE D → RE D
  | .ok y ρ => ofE ρ (b [.lst xs, y])
  | .ex x ρ => .ex x ρ
  | .bad => .bad
theorem mtH_o (b : List D → Option D) (xs : List D) (y : D) (ρ : Sl) : mtH b xs (.ok y ρ) = ofE ρ (b [.lst xs, y]) := nr rfl
def mtE (b : List D → Option D) (f' : FE) : RE D → RE D
  | .ok (.lst xs) ρ => mtH b xs (f' ρ)
  | .ok _ _ => .bad
  | .ex x ρ => .ex x ρ
  | .bad => .bad
theorem mtE_o (b : List D → Option D) (f' : FE) (xs : List D) (ρ : Sl) : mtE b f' (.ok (.lst xs) ρ) = mtH b xs (f' ρ) := nr rfl
theorem y_mt (b : List D → Option D) (f f' : FE) (ρ : Sl) : fMt b f f' ρ = mtE b f' (f ρ) := by
  unfold fMt
  cases f ρ with
  | ok d ρ1 => cases d with
    | lst xs =>
      show (f' ρ1).bd _ = mtH b xs (f' ρ1)
      cases f' ρ1 with
      | ok y ρ2 => show RE.of (b [.lst xs, y]) ρ2 = ofE ρ2 (b [.lst xs, y]); cases b [.lst xs, y] <;> rfl
      | _ => rfl
    | _ => rfl
  | _ => rfl
/-! the end of a def -/
def finP : RS → RF
  | .nx _ => .ok .non
  | .rt d _ => .ok d
  | .ex x _ => .ex x
  | _ => .bad
def lstG (d : D) : Option (List D) → RG
  | some h => .ok d h
  | none => .bad
def lstX (x : Ex) : Option (List D) → RG
  | some h => .ex x h
  | none => .bad
def finR : RS → RG
  | .nx ρ => lstG .non (lsS (sget ρ 0))
  | .rt d ρ => lstG d (lsS (sget ρ 0))
  | .ex x ρ => lstX x (lsS (sget ρ 0))
  | _ => .bad
theorem y_runP (n : Nat) (b : FS) (ds : List D) : runP n b ds = finP (b (entS n ds)) := by rw [← ent_eq]; unfold runP finP; rfl
theorem y_runR (n : Nat) (b : FS) (hd ds : List D) : runR (n + 1) b hd ds = finR (b (.own (.lst hd) :: entS n ds)) := by
  rw [← ent_eq]
  unfold runR finR lstG lstX
  simp only [lstAt_eq]
  rfl
theorem y_finPn (ρ : Sl) : finP (.nx ρ) = .ok .non := nr rfl
theorem y_finPr (d : D) (ρ : Sl) : finP (.rt d ρ) = .ok d := nr rfl
theorem y_finPx (x : Ex) (ρ : Sl) : finP (.ex x ρ) = .ex x := nr rfl
theorem y_finRn (ρ : Sl) : finR (.nx ρ) = lstG .non (lsS (sget ρ 0)) := nr rfl
theorem y_finRr (d : D) (ρ : Sl) : finR (.rt d ρ) = lstG d (lsS (sget ρ 0)) := nr rfl
theorem y_finRx (x : Ex) (ρ : Sl) : finR (.ex x ρ) = lstX x (lsS (sget ρ 0)) := nr rfl
theorem y_lstG (d : D) (h : List D) : lstG d (some h) = .ok d h := nr rfl
theorem y_lstX (x : Ex) (h : List D) : lstX x (some h) = .ex x h := nr rfl
/-! defs that give a new container -/
def finN : RE D → RF
  | .ok d _ => .ok d
  | .ex x _ => .ex x
  | .bad => .bad
theorem y_runN (n : Nat) (b : FE) (ds : List D) : DL.runN n b ds = finN (b (entS n ds)) := by rw [← ent_eq]; unfold DL.runN finN; rfl
theorem y_finNo (d : D) (ρ : Sl) : finN (.ok d ρ) = .ok d := nr rfl
theorem y_finNx (x : Ex) (ρ : Sl) : finN (.ex x ρ) = .ex x := nr rfl
def sqN (f' : FE) : RS → RE D
  | .nx ρ => f' ρ
  | .ex x ρ => .ex x ρ
  | _ => .bad
theorem y_seqN (f : FS) (f' : FE) (ρ : Sl) : sSeqN f f' ρ = sqN f' (f ρ) := by unfold sSeqN sqN; cases f ρ <;> rfl
theorem sqN_o (f' : FE) (ρ : Sl) : sqN f' (.nx ρ) = f' ρ := nr rfl
theorem sqN_x (f' : FE) (x : Ex) (ρ : Sl) : sqN f' (.ex x ρ) = .ex x ρ := nr rfl
/-! lambdas -/
def hid : Slot → Slot
  | .own _ => .emp
  | s => s
def hideN : Option Nat → Sl → Sl
  | _, [] => []
  | some 0, s :: r => s :: hideN none r
  | some (k + 1), s :: r => hid s :: hideN (some k) r
  | none, s :: r => hid s :: hideN none r
theorem hide_none : ∀ (ρ : Sl) (j k : Nat), k < j → (ρ.zipIdx j).map (hideS k) = hideN none ρ
  | [], _, _, _ => rfl
  | s :: r, j, k, h => by
    simp only [List.zipIdx_cons, List.map_cons, hideN]
    rw [hide_none r (j + 1) k (by omega)]
    congr 1
    unfold hideS hid
    cases s <;> simp
    intro e; omega
theorem hide_some : ∀ (ρ : Sl) (j k : Nat), (ρ.zipIdx j).map (hideS (j + k)) = hideN (some k) ρ
  | [], _, _ => rfl
  | s :: r, j, 0 => by
    simp only [List.zipIdx_cons, List.map_cons, hideN]
    rw [hide_none r (j + 1) (j + 0) (by omega)]
    congr 1
    unfold hideS
    cases s <;> simp
  | s :: r, j, k + 1 => by
    simp only [List.zipIdx_cons, List.map_cons, hideN]
    rw [show j + (k + 1) = j + 1 + k by omega, hide_some r (j + 1) k]
    congr 1
    unfold hideS hid
    cases s <;> simp
    intro e; omega
theorem hn_0 (o : Option Nat) : hideN o [] = [] := by cases o with
  | none => rfl
  | some k => cases k <;> rfl
theorem hn_z (s : Slot) (r : Sl) : hideN (some 0) (s :: r) = s :: hideN none r := nr rfl
theorem hn_s (k : Nat) (s : Slot) (r : Sl) : hideN (some (k + 1)) (s :: r) = hid s :: hideN (some k) r := nr rfl
theorem hn_n (s : Slot) (r : Sl) : hideN none (s :: r) = hid s :: hideN none r := nr rfl
theorem y_hide (k : Nat) (ρ : Sl) : hideBut k ρ = hideN (some k) ρ := by
  have := hide_some ρ 0 k
  rw [Nat.zero_add] at this
  exact this
theorem y_hd (d : D) : hid (.own d) = .emp := nr rfl
theorem y_hdv (d : D) : hid (.val d) = .val d := nr rfl
theorem y_hde : hid .emp = .emp := nr rfl
def outG (k : Nat) : RE D → RG
  | .ok d ρ => lstG d (lsS (sget ρ k))
  | .ex x ρ => lstX x (lsS (sget ρ k))
  | .bad => .bad
theorem outG_o (k : Nat) (d : D) (ρ : Sl) : outG k (.ok d ρ) = lstG d (lsS (sget ρ k)) := nr rfl
theorem outG_x (k : Nat) (x : Ex) (ρ : Sl) : outG k (.ex x ρ) = lstX x (lsS (sget ρ k)) := nr rfl
def lamH (k : Nat) (ρ : Sl) : RG → RE D
  | .ok d h => .ok d (sput ρ k (.own (.lst h)))
  | _ => .bad
theorem lamH_o (k : Nat) (ρ : Sl) (d : D) (h : List D) : lamH k ρ (.ok d h) = .ok d (sput ρ k (.own (.lst h))) := nr rfl
def lamF (R : RG → RG) (k : Nat) (f : FE) (ρ : Sl) (ρ' : Sl) : RE D := lamH k ρ (R (outG k (f ρ')))
theorem lamF_o (R : RG → RG) (k : Nat) (f : FE) (ρ : Sl) (s : Slot) (r : Sl) : lamF R k f ρ (s :: r) = lamH k ρ (R (outG k (f (s :: r)))) := nr rfl
def lamG (R : RG → RG) (k : Nat) (f : FE) (ρ : Sl) : Option (List D) → RE D
  | some _ => lamF R k f ρ (hideN (some k) ρ)
  | none => .bad
theorem lamG_o (R : RG → RG) (k : Nat) (f : FE) (ρ : Sl) (ds : List D) : lamG R k f ρ (some ds) = lamF R k f ρ (hideN (some k) ρ) := nr rfl
def lamS (R : RG → RG) (k : Nat) (f : FE) (ρ : Sl) : RE D := lamG R k f ρ (lsS (sget ρ k))
theorem lamS_o (R : RG → RG) (k : Nat) (f : FE) (s : Slot) (r : Sl) : lamS R k f (s :: r) = lamG R k f (s :: r) (lsS (sget (s :: r) k)) := nr rfl
theorem y_lamE (R : RG → RG) (k : Nat) (vs : List Nat) (f : FE) (ρ : Sl) : fLamE R k vs f ρ = lamS R k f (freezeR ρ vs) := by
  unfold fLamE lamS
  rw [lstAt_eq, y_hide]
  have : ∀ r, outcE k r = outG k r := fun r => by
    unfold outcE outG lstG lstX
    cases r <;> simp only [lstAt_eq] <;> rfl
  rw [this]
  cases lsS (sget (freezeR ρ vs) k) with
  | none => rfl
  | some ds =>
    show (match R (outG k (f (hideN (some k) (freezeR ρ vs)))) with | .ok d h => _ | _ => _) = lamH k (freezeR ρ vs) (R (outG k (f (hideN (some k) (freezeR ρ vs)))))
    cases R (outG k (f (hideN (some k) (freezeR ρ vs)))) <;> rfl
/-! builtins -/
theorem z_addI (i j : Int) : addB [.int i, .int j] = some (.int (i + j)) := nr rfl
theorem z_addT {x y : List D} (h : x.length + y.length ≤ 16777216) : addB [.tup x, .tup y] = some (.tup (x ++ y)) := if_pos h
theorem z_addL {x y : List D} (h : x.length + y.length ≤ 16777216) : addB [.lst x, .lst y] = some (.lst (x ++ y)) := if_pos h
theorem z_addLL {x y : List D} (h : x.length + y.length ≤ 16777216) : addL [.lst x, .lst y] = some (.lst (x ++ y)) := if_pos h
theorem z_sub (i j : Int) : subB [.int i, .int j] = some (.int (i - j)) := nr rfl
theorem z_cmp (p : Int → Int → Bool) (i j : Int) : cmpB p [.int i, .int j] = some (.bl (p i j)) := nr rfl
theorem z_lt (i j : Int) : cLt [.int i, .int j] = some (.bl (decide (i < j))) := nr rfl
theorem z_le (i j : Int) : cLe [.int i, .int j] = some (.bl (decide (i ≤ j))) := nr rfl
theorem z_neg (i : Int) : negB [.int i] = some (.int (-i)) := nr rfl
theorem z_int (i : Int) : intB [.int i] = some (.int i) := nr rfl
theorem z_aug (i j : Int) : augB [.int i, .int j] = some (.int (i + j)) := nr rfl
theorem z_abs (i : Int) : absB [.int i] = some (.int (if i < 0 then -i else i)) := nr rfl
theorem z_max (i j : Int) : maxA [.int i, .int j] = some (.int (if j > i then j else i)) := nr rfl
theorem z_min (i j : Int) : minA [.int i, .int j] = some (.int (if j < i then j else i)) := nr rfl
theorem z_div {i j : Int} (h : 0 < j) (h2 : j < 18446744073709551616) : divB [.int i, .int j] = some (.int (i.fdiv j)) := by
  show (if divOk j = true then _ else _) = _
  rw [if_pos (divOk_of h h2)]
theorem z_mod {i j : Int} (h : j ≠ 0) : modB [.int i, .int j] = some (.int (i.fmod j)) := by
  show (if j ≠ 0 then _ else _) = _
  rw [if_pos h]
theorem z_mulr {i j : Int} (h : j.natAbs < 18446744073709551616) : mulC [.int i, .int j] = some (.int (i * j)) := by
  show (if mulOk i j = true then _ else _) = _
  rw [if_pos (mo_r h)]
theorem z_mull {i j : Int} (h : i.natAbs < 18446744073709551616) : mulC [.int i, .int j] = some (.int (i * j)) := by
  show (if mulOk i j = true then _ else _) = _
  rw [if_pos (mo_l h)]
theorem z_tup {ds : List D} (h : ds.length ≤ 16777216) : tupB ds = some (.tup ds) := if_pos h
theorem z_lst {ds : List D} (h : ds.length ≤ 16777216) : lstB ds = some (.lst ds) := if_pos h
theorem z_lenL (ds : List D) : lenS [.lst ds] = some (.int ds.length) := nr rfl
theorem z_lenT (ds : List D) : lenS [.tup ds] = some (.int ds.length) := nr rfl
theorem z_lenF (ds : List D) : lenS [.frl ds] = some (.int ds.length) := nr rfl
theorem z_tupL (ds : List D) : tupleB [.lst ds] = some (.tup ds) := nr rfl
theorem z_tupT (ds : List D) : tupleB [.tup ds] = some (.tup ds) := nr rfl
theorem z_listL (ds : List D) : listB [.lst ds] = some (.lst ds) := nr rfl
theorem z_listT (ds : List D) : listB [.tup ds] = some (.lst ds) := nr rfl
theorem z_eqI (a b : Int) : eqD false [.int a, .int b] = some (.bl (decide (a = b))) := eqI a b
theorem z_neI (a b : Int) : eqD true [.int a, .int b] = some (.bl (decide (a ≠ b))) := by
  rw [neI]
  by_cases h : a = b <;> simp [h]
theorem z_eqB (a b : Bool) : eqD false [.bl a, .bl b] = some (.bl (decide (a = b))) := eqB a b
theorem z_neB (a b : Bool) : eqD true [.bl a, .bl b] = some (.bl (!decide (a = b))) := neB a b
theorem z_eqS (x y : Str) : eqD false [.str x, .str y] = some (.bl (decide (x = y))) := by simp [eqD]
theorem z_neS (x y : Str) : eqD true [.str x, .str y] = some (.bl (!decide (x = y))) := by simp [eqD]
theorem z_eqSs (x : Str) : eqD false [.str x, .str x] = some (.bl true) := by simp [eqD]
theorem z_neSs (x : Str) : eqD true [.str x, .str x] = some (.bl false) := by simp [eqD]
theorem z_isN (n : Bool) : isNB n [.non, .non] = some (.bl (if n then false else true)) := by cases n <;> rfl
theorem z_isi (T : Ty) (d : D) : isiB T [d] = (isTy T d).map .bl := nr rfl
theorem z_isis (Ts : List Ty) (d : D) : isisB Ts [d] = (isTys Ts d).map .bl := nr rfl
theorem z_ixL {ds : List D} {i : Int} : ixB [.lst ds, .int i] = atD ds i := nr rfl
theorem z_ixT {ds : List D} {i : Int} : ixB [.tup ds, .int i] = atD ds i := nr rfl
theorem z_ixF {ds : List D} {i : Int} : ixB [.frl ds, .int i] = atD ds i := nr rfl
theorem z_at {ds : List D} {i : Int} (h0 : 0 ≤ i) (h : i < ds.length) : atD ds i = ds[i.toNat]? := by
  unfold atD L2.ixN
  rw [if_pos h0, if_pos (by omega)]
  rfl
theorem z_some {α β : Type} (f : α → β) (a : α) : (some a).map f = some (f a) := nr rfl
theorem z_bind {α β : Type} (f : α → Option β) (a : α) : (some a).bind f = f a := nr rfl
theorem z_isSome {α : Type} (a : α) : (some a).isSome = true := nr rfl
theorem z_seqL (ds : List D) : D.seq (.lst ds) = some ds := nr rfl
theorem z_seqT (ds : List D) : D.seq (.tup ds) = some ds := nr rfl
theorem z_seqF (ds : List D) : D.seq (.frl ds) = some ds := nr rfl
theorem z_scI (i : Int) : D.scal (.int i) = true := nr rfl
theorem z_flN : D.flat .non = true := nr rfl
theorem z_flB (b : Bool) : D.flat (.bl b) = true := nr rfl
theorem z_flI (i : Int) : D.flat (.int i) = true := nr rfl
theorem z_flS (i : Str) : D.flat (.str i) = true := nr rfl
theorem z_flL (ds : List D) : D.flat (.lst ds) = false := nr rfl
theorem z_flT (ds : List D) : D.flat (.tup ds) = D.flats ds := nr rfl
theorem z_fl0 : D.flats [] = true := nr rfl
theorem z_flc (d : D) (ds : List D) : D.flats (d :: ds) = (d.flat && D.flats ds) := nr rfl
theorem z_rng {i : Int} (h0 : -1000000 ≤ i) (h1 : i < 4611686018427387904) : rngOk i = true := by
  unfold rngOk
  exact decide_eq_true (by omega)
theorem z_pow {i j : Int} (h : powOk i j = true) : powB [.int i, .int j] = some (.int (i ^ j.toNat)) := by
  show (if powOk i j = true then _ else _) = _
  rw [if_pos h]
end DL

namespace DL
open PySem PySem.Spec PyProof.Rows L2
/-! ### loops -/
section
variable {α σ : Type} {tg : Tg} {b : FS} {c : FT}
/-- a loop that goes on -/
theorem lp_go (I : σ → Sl → Prop) (enc : α → D) (step : σ → α → σ) : ∀ (xs : List α) (s : σ) (ρ : Sl), I s ρ → (∀ s x ρ, x ∈ xs → I s ρ → ∃ ρ1 ρ2, tg (enc x) ρ = some ρ1 ∧ (b ρ1 = .nx ρ2 ∨ b ρ1 = .ct ρ2) ∧ I (step s x) ρ2) →
    ∃ ρ', fLoop tg b (xs.map enc) ρ = .nx ρ' ∧ I (xs.foldl step s) ρ'
  | [], s, ρ, hI, _ => ⟨ρ, rfl, hI⟩
  | x :: xs, s, ρ, hI, h => by
    obtain ⟨ρ1, ρ2, h1, h2, h3⟩ := h s x ρ List.mem_cons_self hI
    obtain ⟨ρ', e, i⟩ := lp_go I enc step xs (step s x) ρ2 h3 fun s y ρ m => h s y ρ (List.mem_cons_of_mem _ m)
    refine ⟨ρ', ?_, i⟩
    simp only [List.map_cons, fLoop, h1]
    rcases h2 with h2 | h2 <;> simp only [h2] <;> exact e
/-- what a turn does -/
inductive Oc (σ : Type) where
  | go (s : σ) | brk (s : σ) | ret (d : D) | exc (x : Ex)
def ocRun (step : σ → α → Oc σ) : List α → σ → Oc σ
  | [], s => .go s
  | x :: xs, s => match step s x with
    | .go s => ocRun step xs s
    | .brk s => .go s
    | .ret d => .ret d
    | .exc x => .exc x
/-- the end of a loop, of a turn -/
def ocEnd (I : σ → Sl → Prop) : Oc σ → RS → Prop
  | .go s, r => ∃ ρ, r = .nx ρ ∧ I s ρ
  | .ret d, r => ∃ ρ, r = .rt d ρ
  | .exc x, r => ∃ ρ, r = .ex x ρ
  | .brk _, _ => False
def ocTurn (I : σ → Sl → Prop) : Oc σ → RS → Prop
  | .go s, r => ∃ ρ, (r = .nx ρ ∨ r = .ct ρ) ∧ I s ρ
  | .brk s, r => ∃ ρ, r = .bk ρ ∧ I s ρ
  | .ret d, r => ∃ ρ, r = .rt d ρ
  | .exc x, r => ∃ ρ, r = .ex x ρ
theorem lp_oc (I : σ → Sl → Prop) (enc : α → D) (step : σ → α → Oc σ) : ∀ (xs : List α) (s : σ) (ρ : Sl), I s ρ → (∀ s x ρ, x ∈ xs → I s ρ → ∃ ρ1, tg (enc x) ρ = some ρ1 ∧ ocTurn I (step s x) (b ρ1)) →
    ocEnd I (ocRun step xs s) (fLoop tg b (xs.map enc) ρ)
  | [], s, ρ, hI, _ => ⟨ρ, rfl, hI⟩
  | x :: xs, s, ρ, hI, h => by
    obtain ⟨ρ1, h1, h2⟩ := h s x ρ List.mem_cons_self hI
    simp only [List.map_cons, fLoop, h1, ocRun]
    cases e : step s x with
    | go s' =>
      rw [e] at h2
      obtain ⟨ρ2, h2, h3⟩ := h2
      have := lp_oc I enc step xs s' ρ2 h3 fun s y ρ m => h s y ρ (List.mem_cons_of_mem _ m)
      rcases h2 with h2 | h2 <;> simp only [h2] <;> exact this
    | brk s' =>
      rw [e] at h2
      obtain ⟨ρ2, h2, h3⟩ := h2
      simp only [h2]
      exact ⟨_, rfl, h3⟩
    | ret d =>
      rw [e] at h2
      obtain ⟨ρ2, h2⟩ := h2
      simp only [h2]
      exact ⟨_, rfl⟩
    | exc d =>
      rw [e] at h2
      obtain ⟨ρ2, h2⟩ := h2
      simp only [h2]
      exact ⟨_, rfl⟩
/-- a loop whose turns keep an invariant, over any data -/
theorem lp_inv (I : Sl → Prop) : ∀ (ds : List D) (ρ : Sl), I ρ → (∀ d ρ, d ∈ ds → I ρ → ∃ ρ1 ρ2, tg d ρ = some ρ1 ∧ (b ρ1 = .nx ρ2 ∨ b ρ1 = .ct ρ2) ∧ I ρ2) → ∃ ρ', fLoop tg b ds ρ = .nx ρ' ∧ I ρ'
  | [], ρ, hI, _ => ⟨ρ, rfl, hI⟩
  | x :: xs, ρ, hI, h => by
    obtain ⟨ρ1, ρ2, h1, h2, h3⟩ := h x ρ List.mem_cons_self hI
    obtain ⟨ρ', e, i⟩ := lp_inv I xs ρ2 h3 fun y ρ m => h y ρ (List.mem_cons_of_mem _ m)
    refine ⟨ρ', ?_, i⟩
    simp only [fLoop, h1]
    rcases h2 with h2 | h2 <;> simp only [h2] <;> exact e
def iter {σ : Type} (f : σ → σ) : Nat → σ → σ
  | 0, s => s
  | n + 1, s => iter f n (f s)
/-- while, by a state that a test tells to go on -/
theorem wl_go (I : σ → Sl → Prop) (go : σ → Bool) (step : σ → σ) (m : σ → Nat) : ∀ (fuel : Nat) (s : σ) (ρ : Sl), I s ρ → m s < fuel → (∀ s ρ, I s ρ → ∃ ρ1, c ρ = .ok (go s) ρ1 ∧ (go s = false → I s ρ1) ∧ (go s = true → ∃ ρ2, (b ρ1 = .nx ρ2 ∨ b ρ1 = .ct ρ2) ∧ I (step s) ρ2 ∧ m (step s) < m s)) →
    ∃ s' ρ' k, wLoop c b fuel ρ = .nx ρ' ∧ I s' ρ' ∧ go s' = false ∧ k ≤ m s ∧ s' = iter step k s ∧ ∀ j, j < k → go (iter step j s) = true
  | 0, _, _, _, h, _ => absurd h (Nat.not_lt_zero _)
  | f + 1, s, ρ, hI, hm, h => by
    obtain ⟨ρ1, h1, h2, h3⟩ := h s ρ hI
    cases e : go s with
    | false =>
      refine ⟨s, ρ1, 0, ?_, h2 e, e, Nat.zero_le _, rfl, fun j hj => absurd hj (Nat.not_lt_zero _)⟩
      simp [wLoop, h1, e]
    | true =>
      obtain ⟨ρ2, h4, h5, h6⟩ := h3 e
      obtain ⟨s', ρ', k, e1, e2, e3, e4, e5, e6⟩ := wl_go I go step m f (step s) ρ2 h5 (by omega) h
      refine ⟨s', ρ', k + 1, ?_, e2, e3, by omega, e5, fun j hj => ?_⟩
      · simp only [wLoop, h1, e, x_bs_ok, if_true]
        rcases h4 with h4 | h4 <;> simp only [h4] <;> exact e1
      · cases j with
        | zero => exact e
        | succ j => exact e6 j (by omega)
end
/-! ### comprehensions over typed lists -/
section
variable {α : Type} {it : Sl → RE (List D)} {tg : Tg} {c : FT} {f : FE} {vs : List Nat} {ρ ρ1 : Sl}
theorem cp_map (enc : α → D) (e : α → D) (xs : List α) (hit : it ρ = .ok (xs.map enc) ρ1) (hl : xs.length ≤ 16777216)
    (hb : ∀ x ∈ xs, ∃ ρd, tg (enc x) (wipeR ρ1 vs) = some ρd ∧ f ρd = .ok (e x) ρd ∧ wipeR ρd vs = wipeR ρ1 vs) (hno : noOwn ρ1 vs = true := by rfl) (hback : backR ρ1 (wipeR ρ1 vs) vs = ρ1 := by rfl) :
    fComp it tg cYes f vs ρ = .ok (.lst (xs.map e)) ρ1 := by
  have key : ∀ (xs : List α) (racc : List D), (∀ x ∈ xs, ∃ ρd, tg (enc x) (wipeR ρ1 vs) = some ρd ∧ f ρd = .ok (e x) ρd ∧ wipeR ρd vs = wipeR ρ1 vs) → cLoop tg cYes f vs (xs.map enc) racc (wipeR ρ1 vs) = .ok (racc.reverse ++ xs.map e) (wipeR ρ1 vs) := by
    intro xs
    induction xs with
    | nil => intro racc _; simp [cLoop]
    | cons x xs ih =>
      intro racc h
      obtain ⟨ρd, h1, h2, h3⟩ := h x List.mem_cons_self
      have cy : ∀ ρ, cYes ρ = .ok true ρ := fun _ => rfl
      simp only [List.map_cons, cLoop, h1, cy, h2, h3]
      rw [ih (e x :: racc) fun y m => h y (List.mem_cons_of_mem _ m)]
      simp
  unfold fComp
  rw [hit]
  simp only [RE.bd, hno, List.length_map, decide_eq_true (show xs.length ≤ bigL from hl), Bool.and_self, if_true]
  rw [key xs [] hb]
  simp only [List.reverse_nil, List.nil_append, hback]
theorem cp_fil (enc : α → D) (p : α → Bool) (e : α → D) (xs : List α) (hit : it ρ = .ok (xs.map enc) ρ1) (hl : xs.length ≤ 16777216)
    (hb : ∀ x ∈ xs, ∃ ρd, tg (enc x) (wipeR ρ1 vs) = some ρd ∧ c ρd = .ok (p x) ρd ∧ (p x = true → f ρd = .ok (e x) ρd) ∧ wipeR ρd vs = wipeR ρ1 vs) (hno : noOwn ρ1 vs = true := by rfl) (hback : backR ρ1 (wipeR ρ1 vs) vs = ρ1 := by rfl) :
    fComp it tg c f vs ρ = .ok (.lst ((xs.filter p).map e)) ρ1 := by
  have key : ∀ (xs : List α) (racc : List D), (∀ x ∈ xs, ∃ ρd, tg (enc x) (wipeR ρ1 vs) = some ρd ∧ c ρd = .ok (p x) ρd ∧ (p x = true → f ρd = .ok (e x) ρd) ∧ wipeR ρd vs = wipeR ρ1 vs) → cLoop tg c f vs (xs.map enc) racc (wipeR ρ1 vs) = .ok (racc.reverse ++ (xs.filter p).map e) (wipeR ρ1 vs) := by
    intro xs
    induction xs with
    | nil => intro racc _; simp [cLoop]
    | cons x xs ih =>
      intro racc h
      obtain ⟨ρd, h1, h2, h3, h4⟩ := h x List.mem_cons_self
      have ih' := fun racc => ih racc fun y m => h y (List.mem_cons_of_mem _ m)
      simp only [List.map_cons, cLoop, h1, h2]
      cases q : p x with
      | true =>
        simp only [h3 q, h4, ih', List.filter_cons, q, if_true]
        simp
      | false => simp [h4, ih', q]
  unfold fComp
  rw [hit]
  simp only [RE.bd, hno, List.length_map, decide_eq_true (show xs.length ≤ bigL from hl), Bool.and_self, if_true]
  rw [key xs [] hb]
  simp only [List.reverse_nil, List.nil_append, hback]
end
end DL
namespace DL
open PySem
section
variable {tg : Tg} {b : FS} {c : FT} {L : RS}
def stO (I : Sl → Prop) : RS → Prop
  | .nx ρ => I ρ
  | .ct ρ => I ρ
  | _ => False
theorem stO_n (I : Sl → Prop) (ρ : Sl) : stO I (.nx ρ) = I ρ := rfl
theorem stO_c (I : Sl → Prop) (ρ : Sl) : stO I (.ct ρ) = I ρ := rfl
def tgO (b : FS) (I : Sl → Prop) : Option Sl → Prop
  | some ρ => stO I (b ρ)
  | none => False
theorem tgO_o (b : FS) (I : Sl → Prop) (ρ : Sl) : tgO b I (some ρ) = stO I (b ρ) := rfl
theorem stO_ok {I : Sl → Prop} {r : RS} (h : stO I r) : ∃ ρ2, (r = .nx ρ2 ∨ r = .ct ρ2) ∧ I ρ2 := by
  cases r with
  | nx ρ => exact ⟨ρ, .inl rfl, h⟩
  | ct ρ => exact ⟨ρ, .inr rfl, h⟩
  | _ => exact h.elim
theorem tgO_ok {I : Sl → Prop} {o : Option Sl} (h : tgO b I o) : ∃ ρ1 ρ2, o = some ρ1 ∧ (b ρ1 = .nx ρ2 ∨ b ρ1 = .ct ρ2) ∧ I ρ2 := by
  cases o with
  | none => exact h.elim
  | some ρ =>
    obtain ⟨ρ2, h1, h2⟩ := stO_ok h
    exact ⟨ρ, ρ2, rfl, h1, h2⟩
/-- over a range: `generalize hL : fLoop _ _ _ _ = L`, then this -/
theorem gl_rng' (I : Nat → Sl → Prop) : ∀ (n : Nat) (lo : Int) (k : Nat) (ρ : Sl), I k ρ → (∀ j ρ, j < n → I (k + j) ρ → ∃ ρ1 ρ2, tg (.int (lo + j)) ρ = some ρ1 ∧ (b ρ1 = .nx ρ2 ∨ b ρ1 = .ct ρ2) ∧ I (k + j + 1) ρ2) → ∃ ρ', fLoop tg b (rngD lo n) ρ = .nx ρ' ∧ I (k + n) ρ'
  | 0, lo, k, ρ, h, _ => ⟨ρ, rfl, h⟩
  | n + 1, lo, k, ρ, h, st => by
    obtain ⟨ρ1, ρ2, h1, h2, h3⟩ := st 0 ρ (by omega) h
    obtain ⟨ρ', e, i⟩ := gl_rng' I n (lo + 1) (k + 1) ρ2 h3 fun j ρ hj hi => by
      have := st (j + 1) ρ (by omega) (by rw [show k + (j + 1) = k + 1 + j by omega]; exact hi)
      rw [show lo + ((j + 1 : Nat) : Int) = lo + 1 + (j : Nat) by omega, show k + (j + 1) + 1 = k + 1 + j + 1 by omega] at this
      exact this
    refine ⟨ρ', ?_, by rw [show k + (n + 1) = k + 1 + n by omega]; exact i⟩
    rw [show lo + ((0 : Nat) : Int) = lo by omega] at h1
    simp only [rngD, fLoop, h1]
    rcases h2 with h2 | h2 <;> simp only [h2] <;> exact e
theorem gl_rng {n : Nat} {lo : Int} {ρ : Sl} (hL : fLoop tg b (rngD lo n) ρ = L) (I : Nat → Sl → Prop) (h : I 0 ρ) (st : ∀ j ρ, j < n → I j ρ → tgO b (I (j + 1)) (tg (.int (lo + j)) ρ)) : ∃ ρ', L = .nx ρ' ∧ I n ρ' := by
  have := gl_rng' (tg := tg) (b := b) I n lo 0 ρ h fun j ρ hj hi => by
    rw [Nat.zero_add] at hi ⊢
    exact tgO_ok (st j ρ hj hi)
  rw [Nat.zero_add, hL] at this
  exact this
/-- over any data, counted -/
theorem gl_cnt' (I : Nat → Sl → Prop) : ∀ (ds : List D) (k : Nat) (ρ : Sl), I k ρ → (∀ k d ρ, d ∈ ds → I k ρ → ∃ ρ1 ρ2, tg d ρ = some ρ1 ∧ (b ρ1 = .nx ρ2 ∨ b ρ1 = .ct ρ2) ∧ I (k + 1) ρ2) → ∃ ρ', fLoop tg b ds ρ = .nx ρ' ∧ I (k + ds.length) ρ'
  | [], k, ρ, h, _ => ⟨ρ, rfl, h⟩
  | d :: ds, k, ρ, h, st => by
    obtain ⟨ρ1, ρ2, h1, h2, h3⟩ := st k d ρ List.mem_cons_self h
    obtain ⟨ρ', e, i⟩ := gl_cnt' I ds (k + 1) ρ2 h3 fun k d ρ m => st k d ρ (List.mem_cons_of_mem _ m)
    refine ⟨ρ', ?_, by rw [List.length_cons, show k + (ds.length + 1) = k + 1 + ds.length by omega]; exact i⟩
    simp only [fLoop, h1]
    rcases h2 with h2 | h2 <;> simp only [h2] <;> exact e
theorem gl_inv {ds : List D} {ρ : Sl} (hL : fLoop tg b ds ρ = L) (I : Sl → Prop) (h : I ρ) (st : ∀ d ρ, d ∈ ds → I ρ → tgO b I (tg d ρ)) : ∃ ρ', L = .nx ρ' ∧ I ρ' := by
  rw [← hL]
  exact lp_inv I ds ρ h fun d ρ m i => tgO_ok (st d ρ m i)
theorem gl_go {α σ : Type} {xs : List α} {enc : α → D} {ρ : Sl} (hL : fLoop tg b (xs.map enc) ρ = L) (I : σ → Sl → Prop) (step : σ → α → σ) (s : σ) (h : I s ρ) (st : ∀ s x ρ, x ∈ xs → I s ρ → tgO b (I (step s x)) (tg (enc x) ρ)) : ∃ ρ', L = .nx ρ' ∧ I (xs.foldl step s) ρ' := by
  rw [← hL]
  exact lp_go I enc step xs s ρ h fun s x ρ m i => tgO_ok (st s x ρ m i)
def tgC {σ : Type} (b : FS) (I : σ → Sl → Prop) (o : Oc σ) : Option Sl → Prop
  | some ρ => ocTurn I o (b ρ)
  | none => False
theorem tgC_o {σ : Type} (b : FS) (I : σ → Sl → Prop) (o : Oc σ) (ρ : Sl) : tgC b I o (some ρ) = ocTurn I o (b ρ) := rfl
theorem oc_go {σ : Type} (I : σ → Sl → Prop) (s : σ) (ρ : Sl) : ocTurn I (.go s) (.nx ρ) = I s ρ := by
  refine propext ⟨fun ⟨ρ', h, i⟩ => ?_, fun h => ⟨ρ, .inl rfl, h⟩⟩
  rcases h with h | h <;> cases h
  exact i
theorem oc_gc {σ : Type} (I : σ → Sl → Prop) (s : σ) (ρ : Sl) : ocTurn I (.go s) (.ct ρ) = I s ρ := by
  refine propext ⟨fun ⟨ρ', h, i⟩ => ?_, fun h => ⟨ρ, .inr rfl, h⟩⟩
  rcases h with h | h <;> cases h
  exact i
theorem oc_br {σ : Type} (I : σ → Sl → Prop) (s : σ) (ρ : Sl) : ocTurn I (.brk s) (.bk ρ) = I s ρ :=
  propext ⟨fun ⟨_, h, i⟩ => by cases h; exact i, fun h => ⟨ρ, rfl, h⟩⟩
theorem oc_rt {σ : Type} (I : σ → Sl → Prop) (d e : D) (ρ : Sl) : ocTurn I (.ret d) (.rt e ρ) = (e = d) :=
  propext ⟨fun ⟨_, h⟩ => by cases h; rfl, fun h => ⟨ρ, by rw [h]⟩⟩
theorem oc_ex {σ : Type} (I : σ → Sl → Prop) (d e : Ex) (ρ : Sl) : ocTurn I (.exc d) (.ex e ρ) = (e = d) :=
  propext ⟨fun ⟨_, h⟩ => by cases h; rfl, fun h => ⟨ρ, by rw [h]⟩⟩
theorem tgC_ok {σ : Type} {I : σ → Sl → Prop} {o : Oc σ} {p : Option Sl} (h : tgC b I o p) : ∃ ρ1, p = some ρ1 ∧ ocTurn I o (b ρ1) := by
  cases p with
  | none => exact h.elim
  | some ρ => exact ⟨ρ, rfl, h⟩
theorem gl_oc {α σ : Type} {xs : List α} {enc : α → D} {ρ : Sl} (hL : fLoop tg b (xs.map enc) ρ = L) (I : σ → Sl → Prop) (step : σ → α → Oc σ) (s : σ) (h : I s ρ) (st : ∀ s x ρ, x ∈ xs → I s ρ → tgC b I (step s x) (tg (enc x) ρ)) : ocEnd I (ocRun step xs s) L := by
  rw [← hL]
  exact lp_oc I enc step xs s ρ h fun s x ρ m i => tgC_ok (st s x ρ m i)
end
/-! comprehensions: `generalize hC : fComp _ _ _ _ _ _ = C`, then these -/
section
variable {α : Type} {it : Sl → RE (List D)} {tg : Tg} {c : FT} {f : FE} {vs : List Nat} {ρ ρ1 : Sl} {C : RE D}
theorem gc_map (hC : fComp it tg cYes f vs ρ = C) (enc : α → D) (e : α → D) (xs : List α) (ρ1 : Sl) (hit : it ρ = .ok (xs.map enc) ρ1) (hl : xs.length ≤ 16777216)
    (hb : ∀ x ∈ xs, ∃ ρd, tg (enc x) (wipeR ρ1 vs) = some ρd ∧ f ρd = .ok (e x) ρd ∧ wipeR ρd vs = wipeR ρ1 vs) (hno : noOwn ρ1 vs = true := by rfl) (hback : backR ρ1 (wipeR ρ1 vs) vs = ρ1 := by rfl) :
    C = .ok (.lst (xs.map e)) ρ1 := by rw [← hC]; exact cp_map enc e xs hit hl hb hno hback
theorem gc_fil (hC : fComp it tg c f vs ρ = C) (enc : α → D) (p : α → Bool) (e : α → D) (xs : List α) (ρ1 : Sl) (hit : it ρ = .ok (xs.map enc) ρ1) (hl : xs.length ≤ 16777216)
    (hb : ∀ x ∈ xs, ∃ ρd, tg (enc x) (wipeR ρ1 vs) = some ρd ∧ c ρd = .ok (p x) ρd ∧ (p x = true → f ρd = .ok (e x) ρd) ∧ wipeR ρd vs = wipeR ρ1 vs) (hno : noOwn ρ1 vs = true := by rfl) (hback : backR ρ1 (wipeR ρ1 vs) vs = ρ1 := by rfl) :
    C = .ok (.lst ((xs.filter p).map e)) ρ1 := by rw [← hC]; exact cp_fil enc p e xs hit hl hb hno hback
def feO (Q : D → Sl → Prop) : RE D → Prop
  | .ok d ρ => Q d ρ
  | _ => False
theorem feO_o (Q : D → Sl → Prop) (d : D) (ρ : Sl) : feO Q (.ok d ρ) = Q d ρ := rfl
def tgF (f : FE) (Q : D → Sl → Prop) : Option Sl → Prop
  | some ρ => feO Q (f ρ)
  | none => False
theorem tgF_o (f : FE) (Q : D → Sl → Prop) (ρ : Sl) : tgF f Q (some ρ) = feO Q (f ρ) := rfl
theorem tgF_ok {Q : D → Sl → Prop} {o : Option Sl} (h : tgF f Q o) : ∃ ρd x ρ2, o = some ρd ∧ f ρd = .ok x ρ2 ∧ Q x ρ2 := by
  cases o with
  | none => exact h.elim
  | some ρ =>
    have h : feO Q (f ρ) := h
    cases e : f ρ with
    | ok x ρ2 => rw [e] at h; exact ⟨ρ, x, ρ2, rfl, e, h⟩
    | ex x ρ2 => rw [e] at h; exact h.elim
    | bad => rw [e] at h; exact h.elim
theorem gc_st {ds : List D} (hC : fComp it tg cYes f vs ρ = C) (ρ1 : Sl) (I : Sl → Prop) (P : D → D → Prop) (hit : it ρ = .ok ds ρ1) (hl : ds.length ≤ bigL) (hI : I (wipeR ρ1 vs))
    (st : ∀ d ∈ ds, ∀ ρ, I ρ → tgF f (fun x ρ2 => P d x ∧ I (wipeR ρ2 vs)) (tg d ρ)) (hno : noOwn ρ1 vs = true := by rfl) :
    ∃ xs ρ2, C = .ok (.lst xs) (backR ρ1 ρ2 vs) ∧ I ρ2 ∧ Side P ds xs := by rw [← hC]; exact fComp_st I P hit hl hI (fun d m ρ i => tgF_ok (st d m ρ i)) hno
end
end DL

namespace DL
open PySem PySem.Spec PyProof.Rows L2 HT
/-! ### x[::-1] -/
section
variable {prog : Program} {w : World} {A : Around} {E : Value → Shared → Prop} {s : Shared}
theorem fm_some {α β : Type} {f : α → Option β} {g : α → β} : ∀ (l : List α), (∀ x ∈ l, f x = some (g x)) → l.filterMap f = l.map g
  | [], _ => rfl
  | x :: l, h => by
    rw [List.filterMap_cons, h x List.mem_cons_self, List.map_cons, fm_some l fun y m => h y (List.mem_cons_of_mem _ m)]
theorem rev_pick (xs : Array Value) : ((List.range xs.size).filterMap fun (m : Nat) => xs[(((xs.size : Int) - 1) + (m : Int) * (-1)).toNat]?).toArray = xs.toList.reverse.toArray := by
  congr 1
  rw [fm_some (g := fun m => xs.toList.reverse.getD m .none) _ fun m hm => ?_]
  · apply List.ext_getElem?
    intro i
    rw [List.getElem?_map]
    by_cases h : i < xs.size
    · rw [List.getElem?_range h]
      have h' : i < xs.toList.reverse.length := by simpa using h
      rw [List.getElem?_eq_getElem h']
      simp only [Option.map_some, List.getD_eq_getElem?_getD, List.getElem?_eq_getElem h', Option.getD_some]
    · rw [List.getElem?_eq_none (by simpa using h), List.getElem?_eq_none (by simpa using h)]
      rfl
  · have h := List.mem_range.mp hm
    have h' : m < xs.toList.reverse.length := by simpa using h
    have e : (((xs.size : Int) - 1) + (m : Int) * (-1)).toNat = xs.size - 1 - m := by omega
    rw [e, List.getD_eq_getElem?_getD, List.getElem?_eq_getElem h', Option.getD_some, List.getElem_reverse, Array.getElem?_eq_getElem (by omega)]
    simp
theorem sliceApplied_rev {sl : Addr} {vl vu vs : Value} {n : Nat} {Q : Int × Int × Nat → Shared → Prop} (hs : s.heap.IsSliceOf sl vl vu vs) (pl : IsPart vl none) (pu : IsPart vu none) (ps : IsPart vs (some (-1)))
    (h : Q ((n : Int) - 1, -1, n) s) : wpAny (model prog w) A (Builtin.Slice.sliceApplied (.ref sl) (pure (n : Int))) Q E s := by
  obtain ⟨os, hos, hcs, hds⟩ := id hs
  unfold Builtin.Slice.sliceApplied Builtin.Slice.sliceFields
  refine wpAny_bind (wpAny_bind (wpAny_field hos hds (x := vl) rfl (wpAny_bind (wpAny_field hos hds (x := vu) rfl (wpAny_bind (wpAny_field hos hds (x := vs) rfl (wpAny_pure ?_)))))))
  refine wpAny_bind (slicePart_ ps ?_)
  show wpAny _ _ (if ((-1 : Int) == 0) = true then _ else _) _ _ s
  rw [if_neg (by decide)]
  refine wpAny_bind (slicePart_ pl (wpAny_bind (slicePart_ pu (wpAny_bind (wpAny_pure ?_)))))
  show wpAny _ _ (match Builtin.Slice.sliceAdjust none none (-1) (n : Int) with | (lo, hi) => pure (lo, (-1 : Int), Builtin.Slice.slicePlaces lo hi (-1))) _ _ s
  have e : Builtin.Slice.sliceAdjust none none (-1) (n : Int) = ((n : Int) - 1, -1) := rfl
  rw [e]
  have e2 : Builtin.Slice.slicePlaces ((n : Int) - 1) (-1) (-1) = n := by
    unfold Builtin.Slice.slicePlaces
    have h1 : ¬ ((-1 : Int) > 0) := by omega
    simp only [h1, if_false]
    split
    · rw [show -(-1 : Int) = 1 from rfl, Int.ediv_one]; omega
    · omega
  show wpAny _ _ (pure ((n : Int) - 1, (-1 : Int), Builtin.Slice.slicePlaces ((n : Int) - 1) (-1) (-1))) _ _ s
  rw [e2]
  exact wpAny_pure h
theorem getItem_tuple_rev {t sl : Addr} {items : Array Value} {vl vu vs : Value} {Q : Value → Shared → Prop} (ht : IsTup s.heap t items) (hs : s.heap.IsSliceOf sl vl vu vs) (pl : IsPart vl none) (pu : IsPart vu none) (ps : IsPart vs (some (-1)))
    (h : Q (.ref s.heap.objs.size) { s with heap := s.heap.push { cls := .type "tuple", data := .seq items.toList.reverse.toArray } })
    (hsz : items.size ≤ sizeLine) : wpAny (model prog w) A (getItem (.ref t) (.ref sl)) Q E s := by
  have htake : sizeOk (.seq items.toList.reverse.toArray) := by
    show items.toList.reverse.toArray.size ≤ sizeLine
    rw [List.size_toArray, List.length_reverse, Array.length_toList]
    omega
  obtain ⟨os, hos, hcs, hds⟩ := id hs
  have hTs : s.TypeIs (.ref sl) "slice" := ⟨os, hos, hcs⟩
  unfold getItem
  try with_reducible refine wpAny_holding ?_
  first | refine wpAny_bind (wpAny_pure ?_) | skip
  refine wpAny_bind (wpAny_sequenceKey ht.typeIs (by decide) ?_)
  refine wpAny_bind (wpAny_callSpecial?_slot (name := Str.ofString "__getitem__") ht.typeIs PyProof.Rows.slot_tuple_getitem
    (wpAny_call_entry PyProof.Rows.slot_tuple_getitem ht.typeIs entry_tuple_getitem ?_ (args_tuple_getitem _ _)))
  show wpAny _ _ (Builtin.Tuple.tupleItemsOf (.ref t) >>= _) _ _ s
  refine wpAny_bind (tupleItemsOf_ ht ?_)
  refine wpAny_bind (wpAny_typeOf hTs ?_)
  rw [if_pos (by decide)]
  refine wpAny_bind (sliceApplied_rev hs pl pu ps ?_)
  have hno : ¬ ((((items.size : Int) - 1) == 0 && (-1 : Int) == 1 && items.size == items.size) = true) := by
    intro q
    rw [Bool.and_eq_true, Bool.and_eq_true] at q
    exact absurd q.1.2 (by decide)
  show wpAny _ _ (if (((items.size : Int) - 1) == 0 && (-1 : Int) == 1 && items.size == items.size) = true then _ else _) _ _ s
  rw [if_neg hno, rev_pick]
  first
    | exact wpAny_bind (m := Builtin.Tuple.tupleExact _) (wpAny_newObj_type (wpAny_pure ⟨_, rfl, wpAny_pure h⟩) htake)
    | exact wpAny_bind (m := Builtin.Tuple.tupleExact _) (wpAny_newObj_type (wpAny_bind (wpAny_pure (wpAny_pure ⟨_, rfl, wpAny_pure h⟩))) htake)
    | exact wpAny_bind (wpAny_bind (m := Builtin.Tuple.tupleExact _) (wpAny_newObj_type (wpAny_pure (wpAny_pure ⟨_, rfl, wpAny_pure h⟩)) htake))
    | exact wpAny_bind (wpAny_bind (m := Builtin.Tuple.tupleExact _) (wpAny_newObj_type (wpAny_pure ⟨_, rfl, wpAny_pure h⟩) htake))
end
def rRev (K : PySem.W.Frag) : List V → Hp → VK → Prop := fun vs H Q => ∃ (a : Addr) (xs : List V), vs = [V.ref a] ∧
  ((SqL K H a xs ∧ ∀ p, H p = none → Q (.ref p) (upd H p (.lst xs.reverse))) ∨ (SqT K H a xs ∧ ∀ p, H p = none → Q (.ref p) (upd H p (.tup xs.reverse))))
theorem pe_rev {X : Cx} {e : Expr} {te : TE} {k : Nat} {p1 p2 p3 pos : Pos} (he : PE X e te) : PE X (.Subscript e (.Slice none none (some (.UnaryOp .USub (.Constant (.int 1) k p1) p2)) p3) pos) (tCB (rRev X.K) (tCons te tNil)) := by
  refine ⟨fun pins s σ H Q I h => ?_⟩
  refine Subscript_ (thn (he.run pins s σ H _ I h) fun v s1 ⟨x, H1, I1, r1, q1⟩ => ?_)
  obtain ⟨a, xs, ex, q⟩ := q1
  cases ex
  cases r1
  have hst : PO X (some (.UnaryOp .USub (.Constant (.int 1) k p1) p2)) (tPart (tUn (rU fun i => .int (-i)) (tC (.int 1)))) := po_some (pe_un un_neg pe_int)
  refine wpAny_Slice (thn (po_none.run pins s1 σ H1 (fun o H2 => o = none ∧ H2 = H1) I1 ⟨rfl, rfl⟩) fun vl s2 ⟨l, H2, I2, pl, el, e2⟩ => ?_)
  subst el e2
  refine thn (po_none.run pins s2 σ H2 (fun o H3 => o = none ∧ H3 = H2) I2 ⟨rfl, rfl⟩) fun vu s3 ⟨u, H3, I3, pu, eu, e3⟩ => ?_
  subst eu e3
  refine thn (hst.run pins s3 σ H3 (fun o H4 => o = some (-1) ∧ H4 = H3) I3 ⟨1, rfl, -1, rfl, rfl, rfl⟩) fun vs s4 ⟨o, H4, I4, ps, eo, e4⟩ => ?_
  subst eo e4
  have I5 : Inv X pins σ H4 { s4 with heap := s4.heap.push { cls := .type "slice", data := .fields #[vl, vu, vs] } } := I4.kept (t' := s4.toks) fun b ob q => Heap.get?_push_of_some _ q
  rcases q with ⟨hx, q⟩ | ⟨hx, q⟩
  · obtain ⟨its, r, ht, hz⟩ := I5.list hx
    have hlen := r.length
    show wpAny (model X.prog X.w) X.A (subscriptTail e (.Slice none none (some (.UnaryOp .USub (.Constant (.int 1) k p1) p2)) p3) (.ref a) (.ref s4.heap.objs.size)) (EP X pins σ Q) X.xe { s4 with heap := s4.heap.push { cls := .type "slice", data := .fields #[vl, vu, vs] } }
    refine tail_any (ops := [.ref a, .ref s4.heap.objs.size]) ht.isList.typeIs (PySem.slot_list_getitem.lookup) ?_ (by with_unfolding_all rfl)
    refine wpAny_getItem_list_slice ht.isList (Heap.IsSliceOf.new _ vl vu vs) pl pu ps (by decide) ?_ (by rw [List.size_toArray]; omega)
    rw [PySem.W.krv_pick]
    refine ⟨.ref _, _, I5.laid (t' := s4.toks) (o := .lst xs.reverse) (fun b ob q => Heap.get?_push_of_some _ q) (Nat.le_refl _) ?_, rfl, q _ (I5.hok.fresh (Nat.le_refl _))⟩
    exact ⟨by rw [List.length_reverse]; exact hz, _, 0, r.reverse, Heap.get?_push_size _ rfl⟩
  · obtain ⟨its, r, ht, hz⟩ := I5.tuple hx
    have hlen := r.length
    show wpAny (model X.prog X.w) X.A (subscriptTail e (.Slice none none (some (.UnaryOp .USub (.Constant (.int 1) k p1) p2)) p3) (.ref a) (.ref s4.heap.objs.size)) (EP X pins σ Q) X.xe { s4 with heap := s4.heap.push { cls := .type "slice", data := .fields #[vl, vu, vs] } }
    refine tail_any (ops := [.ref a, .ref s4.heap.objs.size]) ht.typeIs (PyProof.Rows.slot_tuple_getitem.lookup) ?_ (by with_unfolding_all rfl)
    refine getItem_tuple_rev ht (Heap.IsSliceOf.new _ vl vu vs) pl pu ps ?_ (by rw [List.size_toArray]; omega)
    refine ⟨.ref _, _, I5.laid (t' := s4.toks) (o := .tup xs.reverse) (fun b ob q => Heap.get?_push_of_some _ q) (Nat.le_refl _) ?_, rfl, q _ (I5.hok.fresh (Nat.le_refl _))⟩
    exact ⟨by rw [List.length_reverse]; exact hz, _, r.reverse, IsTup.new _ _⟩
def revB : List D → Option D
  | [.lst xs] => some (.lst xs.reverse)
  | [.frl xs] => some (.lst xs.reverse)
  | [.tup xs] => some (.tup xs.reverse)
  | _ => none
def revL : List D → Option D
  | [d] => d.ls.map fun xs => .lst xs.reverse
  | _ => none
theorem Rps.rev {K : PySem.W.Frag} {Z : Addr → Prop} {H : Hp} : ∀ {ds : List D} {vs : List V}, Rps K Z H vs ds → Rps K Z H vs.reverse ds.reverse
  | [], _, h => by rw [show _ = [] from h]; exact rfl
  | d :: ds, _, h => by
    obtain ⟨v, r, rfl, h1, h2⟩ := h
    rw [List.reverse_cons, List.reverse_cons]
    exact (Rps.rev h2).app ⟨v, [], rfl, h1, rfl⟩
theorem bn_rev {K : PySem.W.Frag} : BnOk K (rRev K) revL := by
  intro Z H vs ds d Q hz hr hb q
  unfold revL at hb
  split at hb
  · rw [Option.map_eq_some_iff] at hb
    obtain ⟨xs, e1, rfl⟩ := hb
    obtain ⟨v, rfl, h⟩ := hr.one
    obtain ⟨a, us, rfl, s, r⟩ := h.ls e1
    exact ⟨a, us, rfl, .inl ⟨s, fun p hp => q p _ hp ⟨_, rfl, Rps.rev r⟩⟩⟩
  · cases hb
theorem bi_rev {K : PySem.W.Frag} : BiOk K (rRev K) revB := by
  intro Z H vs ds d Q hz hr hb q
  have ls : ∀ {d0 : D} {xs : List D}, Rqs K Z H vs [d0] → d0.ls = some xs → d = .lst xs.reverse → rRev K vs H Q := fun {d0 xs} hr e1 e2 => by
    subst e2
    obtain ⟨v, rfl, h⟩ := hr.one
    obtain ⟨a, us, rfl, s, r⟩ := h.ls e1
    refine ⟨a, us, rfl, .inl ⟨s, fun p hp => q _ _ (Grow.upd hp) ⟨p, _, rfl, ⟨fun z => ?_, upd_same⟩, ?_⟩⟩⟩
    · obtain ⟨o, e⟩ := hz p z; rw [hp] at e; cases e
    · exact Rps.keep (fun _ z => z) (fun a o e _ => Grow.upd hp a o e) _ _ (Rps.rev r)
  unfold revB at hb
  split at hb
  · cases hb; exact ls hr rfl rfl
  · cases hb; exact ls hr rfl rfl
  · cases hb
    obtain ⟨v, rfl, h⟩ := hr.one
    obtain ⟨a, us, rfl, s, r⟩ := h.tup
    refine ⟨a, us, rfl, .inr ⟨s.sq, fun p hp => q _ _ (Grow.upd hp) ⟨p, _, rfl, .inl ⟨fun z => ?_, .inl upd_same⟩, ?_⟩⟩⟩
    · obtain ⟨o, e⟩ := hz p z; rw [hp] at e; cases e
    · exact Rps.keep (fun _ z => z) (fun a o e _ => Grow.upd hp a o e) _ _ (Rps.rev r)
  · cases hb
section
variable {s : SC} {e : Expr} {a : Ag} {k : Nat} {p1 p2 p3 pos : Pos}
theorem de_rev (h : DAg s e a) : DE s (.Subscript e (.Slice none none (some (.UnaryOp .USub (.Constant (.int 1) k p1) p2)) p3) pos) (fApp revB [a]) := fun W =>
  let ⟨t', q3, q4⟩ := h W
  ⟨_, tr_app bi_rev (tra_cons q3 tra_nil), fun y i k => pe_rev (q4 y i k)⟩
theorem dn_rev (h : DAg s e a) : DN s (.Subscript e (.Slice none none (some (.UnaryOp .USub (.Constant (.int 1) k p1) p2)) p3) pos) (fApp revL [a]) := fun W =>
  let ⟨t', q3, q4⟩ := h W
  ⟨_, trn_app bn_rev (tra_cons q3 tra_nil), fun y i k => pe_rev (q4 y i k)⟩
end
theorem z_revL (ds : List D) : revB [.lst ds] = some (.lst ds.reverse) := nr rfl
theorem z_revT (ds : List D) : revB [.tup ds] = some (.tup ds.reverse) := nr rfl
theorem z_revLL (ds : List D) : revL [.lst ds] = some (.lst ds.reverse) := nr rfl
end DL

set_option exponentiation.threshold 9000
namespace DL
open PySem
def isI : D → Bool
  | .int _ => true
  | _ => false
def wi (d : D) (a b : Int) : Bool := match d with
  | .int i => decide (a ≤ i) && decide (i ≤ b)
  | _ => false
def siz (d : D) (a b : Int) : Bool := match d with
  | .tup xs => decide (a ≤ xs.length) && decide ((xs.length : Int) ≤ b)
  | _ => false
theorem siz2 {d : D} (h : siz d 2 2 = true) : ∃ x y, d = .tup [x, y] := by
  unfold siz at h
  split at h
  · rename_i xs
    simp at h
    match xs, h with
    | [x, y], _ => exact ⟨x, y, rfl⟩
    | [], h => simp at h
    | [_], h => simp at h
    | _ :: _ :: _ :: _, h => simp at h; omega
  · cases h
theorem rng_mem : ∀ (k : Nat) (lo : Int) (d : D), d ∈ rngD lo k → ∃ t, d = .int t ∧ lo ≤ t ∧ t < lo + k
  | 0, lo, d, h => by simp [rngD] at h
  | k + 1, lo, d, h => by
    simp only [rngD, List.mem_cons] at h
    rcases h with rfl | h
    · exact ⟨lo, rfl, by omega, by omega⟩
    · obtain ⟨t, e, h1, h2⟩ := rng_mem k (lo + 1) d h
      exact ⟨t, e, by omega, by omega⟩
mutual
def pl : D → Bool
  | .non => true
  | .bl _ => true
  | .int _ => true
  | .str _ => true
  | .tup xs => pls xs && decide (xs.length ≤ bigL)
  | .lst xs => pls xs && decide (xs.length ≤ bigL)
  | _ => false
def pls : List D → Bool
  | [] => true
  | d :: r => pl d && pls r
end
theorem pls_mem {x : D} : ∀ {xs : List D}, pls xs = true → x ∈ xs → pl x = true
  | d :: r, h, m => by
    simp only [pls, Bool.and_eq_true] at h
    rcases List.mem_cons.mp m with rfl | m
    · exact h.1
    · exact pls_mem h.2 m
theorem dps_mem {x : D} : ∀ {xs : List D}, x ∈ xs → x.dp ≤ D.dps xs
  | d :: r, m => by
    simp only [D.dps]
    rcases List.mem_cons.mp m with rfl | m
    · omega
    · have := dps_mem m; omega
theorem blsD_true (ds : List D) : blsD (ds.map fun _ => D.bl true) = some (ds.map fun _ => true) := blsD_mapb (fun _ => true) ds
def HandOk (h : List D) : Prop := ∃ (cs : List Int) (a b c e : Int), (∀ z ∈ cs, 0 ≤ z) ∧ 0 ≤ a ∧ 0 ≤ b ∧ h = [.lst (cs.map .int), .int a, .int b, .int c, .int e]
theorem cut_ints (ns : List Int) (lo hi : Option Int) : ∃ ms : List Int, cutD (ns.map .int) lo hi = ms.map .int ∧ ms.length ≤ ns.length := by
  refine ⟨(ns.drop (HT.sIx ns.length 0 lo)).take (HT.sIx ns.length ns.length hi - HT.sIx ns.length 0 lo), ?_, ?_⟩
  · simp only [cutD, List.length_map, List.map_take, List.map_drop]
  · rw [List.length_take, List.length_drop]; omega
def ab (i : Int) : Int := if i < 0 then -i else i
def P2 (n : Nat) : Nat := 2 ^ n
theorem P2_add (m n : Nat) : P2 m * P2 n = P2 (m + n) := (Nat.pow_add 2 m n).symm
theorem P2_pos (n : Nat) : 0 < P2 n := Nat.two_pow_pos n
theorem P2_le {m n : Nat} (h : m ≤ n) : P2 m ≤ P2 n := Nat.pow_le_pow_right (by decide) h
theorem fmod_nat (x y : Nat) : Int.fmod (x : Int) (y : Int) = ((x % y : Nat) : Int) := by
  rw [Int.fmod_eq_emod_of_nonneg _ (by omega)]
  rfl
theorem gcd_loop {c : FT} {b : FS} (S : Int → Int → Sl) (hc : ∀ x y, c (S x y) = .ok (decide (0 < y)) (S x y)) (hb : ∀ x y, 0 < y → b (S x y) = .nx (S y (x.fmod y))) :
    ∀ (n : Nat) (x y : Nat) (fuel : Nat), y < P2 n → 2 * n + 1 ≤ fuel → wLoop c b fuel (S x y) = .nx (S (Nat.gcd x y : Nat) 0) := by
  have stop : ∀ (x fuel : Nat), 1 ≤ fuel → wLoop c b fuel (S x (0 : Nat)) = .nx (S x 0) := fun x fuel h => by
    obtain ⟨f, rfl⟩ : ∃ f, fuel = f + 1 := ⟨fuel - 1, by omega⟩
    simp [wLoop, hc]
  have step : ∀ (x y f : Nat), 0 < y → wLoop c b (f + 1) (S x y) = wLoop c b f (S y (x % y : Nat)) := fun x y f h => by
    have h' : (0 : Int) < y := by omega
    simp only [wLoop, hc, hb _ _ h', fmod_nat, decide_eq_true h', x_bs_ok, if_true]
  intro n
  induction n with
  | zero =>
    intro x y fuel h hf
    have : y = 0 := by have : y < 1 := h; omega
    subst this
    rw [stop x fuel (by omega), Nat.gcd_zero_right]
  | succ n ih =>
    intro x y fuel h hf
    by_cases y0 : y = 0
    · subst y0
      rw [stop x fuel (by omega), Nat.gcd_zero_right]
    · obtain ⟨f, rfl⟩ : ∃ f, fuel = f + 2 := ⟨fuel - 2, by omega⟩
      have yp : 0 < y := by omega
      have g1 : Nat.gcd x y = Nat.gcd y (x % y) := by rw [Nat.gcd_comm x y, Nat.gcd_rec y x, Nat.gcd_comm]
      rw [step x y (f + 1) yp, g1]
      by_cases r0 : x % y = 0
      · rw [r0, stop y (f + 1) (by omega), Nat.gcd_zero_right]
      · have rp : 0 < x % y := by omega
        have g2 : Nat.gcd y (x % y) = Nat.gcd (x % y) (y % (x % y)) := by rw [Nat.gcd_comm y (x % y), Nat.gcd_rec (x % y) y, Nat.gcd_comm]
        rw [step y (x % y) f rp, g2]
        refine ih _ _ _ ?_ (by omega)
        have h1 : y % (x % y) < x % y := Nat.mod_lt _ rp
        have h2 : x % y < y := Nat.mod_lt _ yp
        have h3 : (x % y) * 1 ≤ (x % y) * (y / (x % y)) := Nat.mul_le_mul_left _ (Nat.div_pos (Nat.le_of_lt h2) rp)
        have h4 := Nat.div_add_mod y (x % y)
        have h5 : P2 (n + 1) = 2 * P2 n := by unfold P2; rw [Nat.pow_succ, Nat.mul_comm]
        omega
theorem abs_nat (i : Int) : (if i < 0 then -i else i) = ((i.natAbs : Nat) : Int) := by split <;> omega
abbrev Fr := Int × Int
def fr (x : Fr) : D := .tup [.int x.1, .int x.2]
def low (a b : Int) : Fr := (a.fdiv (Int.gcd a b : Nat), b.fdiv (Int.gcd a b : Nat))
def sm (i : Int) : Bool := decide (i.natAbs < P2 4000)
def okF (x : Fr) : Bool := sm x.1 && (sm x.2 && decide (0 < x.2))
theorem sm_log {i : Int} (h : sm i = true) : i.natAbs.log2 < 4000 := by
  have h := of_decide_eq_true h
  by_cases z : i.natAbs = 0
  · rw [z]; decide
  · exact (Nat.log2_lt z).mpr h
theorem mo_s {i j : Int} (hi : sm i = true) (hj : sm j = true) : mulOk i j = true := by
  have a := sm_log hi
  have b := sm_log hj
  exact decide_eq_true (.inr (.inr (by omega)))
theorem sm_mul {i j : Int} (hi : sm i = true) (hj : sm j = true) : (i * j).natAbs < P2 8010 := by
  have a := of_decide_eq_true hi
  have b := of_decide_eq_true hj
  rw [Int.natAbs_mul]
  refine Nat.lt_of_lt_of_le (Nat.mul_lt_mul'' a b) ?_
  rw [P2_add]
  exact P2_le (by omega)
theorem gcd_div {a b : Int} (hb : 0 < b) (h : b.natAbs < P2 8010) : divOk ((Int.gcd a b : Nat) : Int) = true := by
  have le : Int.gcd a b ≤ b.natAbs := Nat.gcd_le_right _ (by omega)
  have pos : 0 < Int.gcd a b := Nat.gcd_pos_of_pos_right _ (by omega)
  refine decide_eq_true ⟨by omega, ?_⟩
  rw [Int.natAbs_natCast]
  exact Nat.lt_trans ((Nat.log2_lt (by omega)).mpr (show Int.gcd a b < P2 8010 from Nat.lt_of_le_of_lt le h)) (by omega)
def timesO (x y : Fr) : Option Fr := if (okF x && okF y) = true then some (low (x.1 * y.1) (x.2 * y.2)) else none
theorem okF_of {x : Fr} (h : okF x = true) : sm x.1 = true ∧ sm x.2 = true ∧ 0 < x.2 := by
  unfold okF at h
  simp only [Bool.and_eq_true, decide_eq_true_eq] at h
  exact h
theorem isI_of {d : D} (h : isI d = true) : ∃ i, d = .int i := by cases d <;> simp [isI] at h; exact ⟨_, rfl⟩
theorem wi_of {d : D} {a b : Int} (h : wi d a b = true) : ∃ i, d = .int i ∧ a ≤ i ∧ i ≤ b := by
  unfold wi at h
  split at h
  · simp at h; exact ⟨_, rfl, h.1, h.2⟩
  · cases h
theorem wi_int (i a b : Int) : wi (.int i) a b = (decide (a ≤ i) && decide (i ≤ b)) := rfl
/-- all within -/
def aw : D → Int → Int → Bool
  | .tup xs, a, b => xs.all fun d => wi d a b
  | _, _, _ => false
theorem iI_lc (ds : List D) (g : D → Bool) : allB [.lst (ds.map fun d => .bl (g d))] = some (.bl (ds.all g)) := by
  show ((D.ls (.lst (ds.map fun d => .bl (g d)))).bind fun ds => (blsD ds).map fun bs => D.bl (bs.all id)) = _
  simp only [D.ls, Option.bind_some, blsD_mapb, Option.map_some, List.all_map]
  rfl
theorem all_lc {α : Type} (xs : List α) (g : α → Bool) : allB [.lst (xs.map fun d => .bl (g d))] = some (.bl (xs.all g)) := by
  have key : blsD (xs.map fun d => D.bl (g d)) = some (xs.map g) := by
    induction xs with
    | nil => rfl
    | cons x xs ih => simp [blsD, ih]
  show ((D.ls (.lst (xs.map fun d => .bl (g d)))).bind fun ds => (blsD ds).map fun bs => D.bl (bs.all id)) = _
  simp only [D.ls, Option.bind_some, key, Option.map_some, List.all_map]
  rfl
theorem z_at0 (x : D) (r : List D) : atD (x :: r) 0 = some x := by simp [atD, L2.ixN]
theorem z_at1 (x y : D) (r : List D) : atD (x :: y :: r) 1 = some y := by
  have : (1 : Int) < (r.length : Int) + 1 + 1 := by omega
  simp [atD, L2.ixN, this]
theorem z_at2 (x y z : D) (r : List D) : atD (x :: y :: z :: r) 2 = some z := by
  have : (2 : Int) < (r.length : Int) + 1 + 1 + 1 := by omega
  simp [atD, L2.ixN, this]
theorem z_at3 (x y z u : D) (r : List D) : atD (x :: y :: z :: u :: r) 3 = some u := by
  have : (3 : Int) < (r.length : Int) + 1 + 1 + 1 + 1 := by omega
  simp [atD, L2.ixN, this]
theorem z_at4 (x y z u v : D) (r : List D) : atD (x :: y :: z :: u :: v :: r) 4 = some v := by
  have : (4 : Int) < (r.length : Int) + 1 + 1 + 1 + 1 + 1 := by omega
  simp [atD, L2.ixN, this]
theorem z_atl (r : List D) (x : D) : atD (r ++ [x]) (-1) = some x := by
  unfold atD L2.ixN
  rw [if_neg (by omega), if_pos (by rw [List.length_append, List.length_singleton]; omega)]
  have : (((r ++ [x]).length : Int) + -1).toNat = r.length := by rw [List.length_append, List.length_singleton]; omega
  show (r ++ [x])[((-1 : Int) + ((r ++ [x]).length : Int)).toNat]? = some x
  rw [show (-1 : Int) + ((r ++ [x]).length : Int) = ((r ++ [x]).length : Int) + -1 by omega, this]
  simp
theorem z_ixN {k : Nat} {n : Int} (h0 : 0 ≤ n) (h : n < k) : L2.ixN k n = some n.toNat := by
  unfold L2.ixN
  rw [if_pos h0, if_pos (by omega)]
theorem z_powI (i : Int) (k : Nat) (h : i.natAbs < 18446744073709551616) (h2 : k ≤ 1000000) : powB [.int i, .int k] = some (.int (i ^ k)) := by
  have : powOk i k = true := by unfold powOk; exact decide_eq_true ⟨by omega, by omega, h⟩
  show (if powOk i k = true then _ else _) = _
  rw [if_pos this]
  rfl
theorem z_pow6 : powB [.int 10, .int 6] = some (.int 1000000) := by simp [powB, i2, powOk]
theorem z_pow18 : powB [.int 10, .int 18] = some (.int 1000000000000000000) := by simp [powB, i2, powOk]
theorem z_pow30 : powB [.int 10, .int 30] = some (.int 1000000000000000000000000000000) := by simp [powB, i2, powOk]
theorem z_pow36 : powB [.int 10, .int 36] = some (.int 1000000000000000000000000000000000000) := by simp [powB, i2, powOk]
theorem z_mulf {x y p : Int} (h : 0 < p) (h2 : p ≤ 18446744073709551616) : mulC [.int (x.fmod p), .int y] = some (.int (x.fmod p * y)) := by
  show (if mulOk _ _ = true then _ else _) = _
  rw [if_pos (mo_f h h2)]
end DL

namespace DL
open PySem
/-! ### slices -/
theorem z_cutN (xs : List D) : cutD xs none none = xs := cutD_whole ⟨rfl, rfl⟩
theorem sIx_p {n d : Nat} {v : Int} (h : 0 ≤ v) : HT.sIx n d (some v) = min v.toNat n := by
  unfold HT.sIx
  show (if v < 0 then _ else _) = _
  rw [if_neg (by omega)]
theorem z_cutT (xs : List D) {n : Int} (h : 0 ≤ n) : cutD xs none (some n) = xs.take n.toNat := by
  unfold cutD
  rw [sIx_p h]
  show (xs.drop 0).take (min n.toNat xs.length - 0) = _
  rw [List.drop_zero, Nat.sub_zero]
  by_cases q : n.toNat ≤ xs.length
  · rw [Nat.min_eq_left q]
  · rw [Nat.min_eq_right (by omega), List.take_length, List.take_of_length_le (by omega)]
theorem z_cutD (xs : List D) {n : Int} (h : 0 ≤ n) : cutD xs (some n) none = xs.drop n.toNat := by
  unfold cutD
  rw [sIx_p h]
  show (xs.drop (min n.toNat xs.length)).take (xs.length - min n.toNat xs.length) = _
  by_cases q : n.toNat ≤ xs.length
  · rw [Nat.min_eq_left q, List.take_of_length_le (by rw [List.length_drop]; omega)]
  · rw [Nat.min_eq_right (by omega), List.drop_of_length_le (Nat.le_refl _), List.drop_of_length_le (by omega), List.take_nil]
theorem z_slL (xs : List D) (lo hi : Option Int) : slB (.lst xs) lo hi = some (.lst (cutD xs lo hi)) := nr rfl
theorem z_slF (xs : List D) (lo hi : Option Int) : slB (.frl xs) lo hi = some (.lst (cutD xs lo hi)) := nr rfl
theorem z_slT (xs : List D) (lo hi : Option Int) : slB (.tup xs) lo hi = some (.tup (cutD xs lo hi)) := nr rfl
/-! ### equality of typed data -/
structure Enc {α : Type} [DecidableEq α] (enc : α → D) (py : α → PyData) (k : Nat) : Prop where
  tp : ∀ a, toPy (enc a) = some (py a)
  lay : ∀ a, (py a).canLay0 = true
  dp : ∀ a, (py a).depth ≤ k
  eq : ∀ a b, PyData.eqv (py a) (py b) = decide (a = b)
  ns : ∀ a x, enc a ≠ .str x
theorem enc_int : Enc D.int PyData.int 0 := ⟨fun _ => rfl, fun a => by simp only [PyData.canLay0], fun a => by simp only [PyData.depth]; omega, fun a b => by
  simp only [PyData.eqv]
  rfl, fun a x e => by cases e⟩
theorem enc_toPys {α : Type} [DecidableEq α] {enc : α → D} {py : α → PyData} {k : Nat} (E : Enc enc py k) : ∀ xs : List α, toPys (xs.map enc) = some (xs.map py)
  | [] => rfl
  | x :: xs => by simp only [List.map_cons, toPys, E.tp, enc_toPys E xs]
theorem enc_lays {α : Type} [DecidableEq α] {enc : α → D} {py : α → PyData} {k : Nat} (E : Enc enc py k) : ∀ xs : List α, PyData.canLayAll0 (xs.map py) = true
  | [] => rfl
  | x :: xs => by simp only [List.map_cons, PyData.canLayAll0, E.lay, enc_lays E xs, Bool.and_self]
theorem enc_dps {α : Type} [DecidableEq α] {enc : α → D} {py : α → PyData} {k : Nat} (E : Enc enc py k) : ∀ xs : List α, PyData.depthAll (xs.map py) ≤ k
  | [] => by simp [PyData.depthAll]
  | x :: xs => by
    have h1 := E.dp x
    have h2 := enc_dps E xs
    simp only [List.map_cons, PyData.depthAll]
    omega
theorem enc_eqs {α : Type} [DecidableEq α] {enc : α → D} {py : α → PyData} {k : Nat} (E : Enc enc py k) : ∀ xs ys : List α, PyData.eqvAll (xs.map py) (ys.map py) = decide (xs = ys)
  | [], [] => by simp [PyData.eqvAll]
  | [], _ :: _ => by simp [PyData.eqvAll]
  | _ :: _, [] => by simp [PyData.eqvAll]
  | x :: xs, y :: ys => by
    simp only [List.map_cons, PyData.eqvAll, E.eq, enc_eqs E xs ys]
    rw [Bool.eq_iff_iff]
    simp
theorem enc_tup {α : Type} [DecidableEq α] {enc : α → D} {py : α → PyData} {k : Nat} (E : Enc enc py k) : Enc (fun xs : List α => D.tup (xs.map enc)) (fun xs => .tuple (xs.map py)) (k + 1) :=
  ⟨fun xs => by simp only [toPy, enc_toPys E, Option.map_some], fun xs => by simp only [PyData.canLay0]; exact enc_lays E xs, fun xs => by
    have := enc_dps E xs
    simp only [PyData.depth]
    omega, fun xs ys => by simp only [PyData.eqv]; exact enc_eqs E xs ys, fun a x e => by cases e⟩
theorem enc_lst {α : Type} [DecidableEq α] {enc : α → D} {py : α → PyData} {k : Nat} (E : Enc enc py k) : Enc (fun xs : List α => D.lst (xs.map enc)) (fun xs => .list (xs.map py)) (k + 1) :=
  ⟨fun xs => by simp only [toPy, enc_toPys E, Option.map_some], fun xs => by simp only [PyData.canLay0]; exact enc_lays E xs, fun xs => by
    have := enc_dps E xs
    simp only [PyData.depth]
    omega, fun xs ys => by simp only [PyData.eqv]; exact enc_eqs E xs ys, fun a x e => by cases e⟩
theorem enc_pair {α β : Type} [DecidableEq α] [DecidableEq β] {e1 : α → D} {p1 : α → PyData} {e2 : β → D} {p2 : β → PyData} {k1 k2 k : Nat} (E1 : Enc e1 p1 k1) (E2 : Enc e2 p2 k2) (h1 : k1 < k) (h2 : k2 < k) :
    Enc (fun p : α × β => D.tup [e1 p.1, e2 p.2]) (fun p => .tuple [p1 p.1, p2 p.2]) k :=
  ⟨fun p => by simp only [toPy, toPys, E1.tp, E2.tp, Option.map_some], fun p => by simp only [PyData.canLay0, PyData.canLayAll0, E1.lay, E2.lay, Bool.and_self], fun p => by
    have a := E1.dp p.1
    have b := E2.dp p.2
    simp only [PyData.depth, PyData.depthAll]
    omega, fun p q => by
      simp only [PyData.eqv, PyData.eqvAll, E1.eq, E2.eq, Bool.and_true]
      rw [Bool.eq_iff_iff]
      simp [Prod.ext_iff], fun a x e => by cases e⟩
theorem enc_eqD {α : Type} [DecidableEq α] {enc : α → D} {py : α → PyData} {k : Nat} (E : Enc enc py k) (hk : k ≤ 64) (n : Bool) (a b : α) : eqD n [enc a, enc b] = some (.bl (if n = true then !decide (a = b) else decide (a = b))) := by
  have sh : ∀ a, SeqAt.shaped (py a) = true := fun a => by
    show ((py a).canLay0 && decide ((py a).depth ≤ 64)) = true
    rw [E.lay, decide_eq_true (Nat.le_trans (E.dp a) hk)]
    rfl
  unfold eqD
  split
  · rename_i h
    simp only [List.cons.injEq] at h
    exact absurd h.1 (E.ns a _)
  · rename_i h
    simp only [List.cons.injEq, and_true] at h
    obtain ⟨rfl, rfl⟩ := h
    simp only [E.tp, sh, Bool.and_self, if_true, E.eq]
  · rename_i h1 h2
    exact absurd rfl (h2 _ _)
theorem z_eqT (xs ys : List Int) : eqD false [.tup (xs.map .int), .tup (ys.map .int)] = some (.bl (decide (xs = ys))) := enc_eqD (enc_tup enc_int) (by decide) false xs ys
theorem z_neT (xs ys : List Int) : eqD true [.tup (xs.map .int), .tup (ys.map .int)] = some (.bl (decide (xs ≠ ys))) := by
  rw [enc_eqD (enc_tup enc_int) (by decide) true xs ys]
  simp
theorem z_eqL (xs ys : List Int) : eqD false [.lst (xs.map .int), .lst (ys.map .int)] = some (.bl (decide (xs = ys))) := enc_eqD (enc_lst enc_int) (by decide) false xs ys
theorem z_neL (xs ys : List Int) : eqD true [.lst (xs.map .int), .lst (ys.map .int)] = some (.bl (decide (xs ≠ ys))) := by
  rw [enc_eqD (enc_lst enc_int) (by decide) true xs ys]
  simp
/-- ranges as typed lists -/
theorem rng_map : ∀ (n : Nat) (lo : Int), rngD lo n = (List.range n).map fun i => D.int (lo + (i : Nat))
  | 0, lo => rfl
  | n + 1, lo => by
    rw [rngD, rng_map n (lo + 1), List.range_succ_eq_map, List.map_cons, List.map_map]
    congr 1
    · simp
    · apply List.map_congr_left
      intro i _
      show D.int _ = D.int _
      congr 1
      show lo + 1 + (i : Int) = lo + ((i + 1 : Nat) : Int)
      omega
theorem rng_map0 (n : Nat) : rngD 0 n = (List.range n).map fun i => D.int (i : Nat) := by
  rw [rng_map]
  apply List.map_congr_left
  intro i _
  rw [Int.zero_add]
end DL
namespace DL
open PySem
theorem frz_no : ∀ (bs : List Nat) (ρ : Sl), noOwn ρ bs = true → freezeR ρ bs = ρ
  | [], ρ, _ => rfl
  | i :: r, ρ, h => by
    have h : ((match ρ[i]? with | some (.own _) => false | _ => true) && noOwn ρ r) = true := h
    rw [Bool.and_eq_true] at h
    rw [y_frz, frz_no r ρ h.2]
    unfold frzG sget
    split
    · rename_i d e
      rw [e] at h
      exact Bool.noConfusion (show false = true from h.1)
    · rfl
theorem frzI_n {ρ : Sl} {bs : List Nat} {b : Bool} (h : noOwn ρ bs = true) : frzI ρ bs b = ρ := by
  cases b
  · exact frz_no bs ρ h
  · rfl
theorem z_flm : ∀ xs : List Int, D.flats (xs.map D.int) = true
  | [] => rfl
  | x :: xs => by simp [D.flats, D.flat, z_flm xs]
theorem nq_ints : ∀ xs : List Int, D.nqs (xs.map D.int) = true
  | [] => rfl
  | x :: xs => by simp [D.nqs, D.nq, nq_ints xs]
end DL
namespace DL
open PySem
theorem eq_refl' {d : D} {p : PyData} (hp : toPy d = some p) (hs : SeqAt.shaped p = true) : eqD false [d, d] = some (.bl true) ∧ eqD true [d, d] = some (.bl false) := by
  have r := SeqAt.eqv_refl _ (SeqAt.canLay_of_shaped hs)
  constructor
  · unfold eqD
    split
    · rename_i h
      simp only [List.cons.injEq, and_true] at h
      obtain ⟨rfl, h⟩ := h
      cases h
      simp
    · rename_i h
      simp only [List.cons.injEq, and_true] at h
      obtain ⟨rfl, rfl⟩ := h
      simp only [hp, hs, r, Bool.and_self, if_true]
      rfl
    · rename_i h1 h2
      exact absurd rfl (h2 _ _)
  · unfold eqD
    split
    · rename_i h
      simp only [List.cons.injEq, and_true] at h
      obtain ⟨rfl, h⟩ := h
      cases h
      simp
    · rename_i h
      simp only [List.cons.injEq, and_true] at h
      obtain ⟨rfl, rfl⟩ := h
      simp only [hp, hs, r, Bool.and_self, if_true]
      rfl
    · rename_i h1 h2
      exact absurd rfl (h2 _ _)
end DL

namespace DL
open PySem PySem.Spec PyProof.Rows L2
/-! ### x.pop(k), x.pop(), x.insert(k, e) -/
def popD (ds : List D) (n : Int) : Option (D × List D) := if ds.length ≤ bigL then (ixN ds.length n).bind fun m => (ds[m]?).map fun y => (y, ds.eraseIdx m) else none
def fPopAt (i : Nat) (f : FE) : FE := fun ρ => if (lstAt ρ i).isSome = true then (f ρ).bd fun k ρ1 => match k, lstAt ρ1 i with
    | .int n, some ds => match popD ds n with
      | some (y, es) => .ok y (ρ1.set i (.own (.lst es)))
      | none => .bad
    | _, _ => .bad
  else .bad
def fPop (i : Nat) : FE := fun ρ => match lstAt ρ i with
  | some ds => match ds[ds.length - 1]? with
    | some y => .ok y (ρ.set i (.own (.lst (ds.take (ds.length - 1)))))
    | none => .bad
  | none => .bad
def sInsert (i : Nat) (fk f : FE) : FS := fun ρ => if (lstAt ρ i).isSome = true then (fk ρ).bs fun k ρ1 => (f ρ1).bs fun d ρ2 => match k, lstAt ρ2 i with
    | .int n, some ds => if (decide (ds.length < bigL) && (decide (0 ≤ n) && decide (n < 9223372036854775808))) = true then .nx (ρ2.set i (.own (.lst (ds.take n.toNat ++ [d] ++ ds.drop n.toNat)))) else .bad
    | _, _ => .bad
  else .bad
section
variable {g : G} {W : WX}
theorem av_set {ρ : Sl} {σ : L2.St} {Z : Addr → Prop} {i : Nat} {d e : D} (hi : ρ[i]? = some (.own d)) {a : Addr} (h : Av Z (ρ.set i (.own e)) σ a) : Av Z ρ σ a := by
  rcases h with h | ⟨k, d', h1, h2⟩
  · exact .inl h
  · by_cases q : i = k
    · subst q
      exact .inr ⟨i, d, hi, h2⟩
    · rw [List.getElem?_set_ne q] at h1
      exact .inr ⟨k, d', h1, h2⟩
theorem Rps.erase {K : PySem.W.Frag} {Z : Addr → Prop} {H : Hp} : ∀ {ds : List D} {vs : List V} (m : Nat), Rps K Z H vs ds → Rps K Z H (vs.eraseIdx m) (ds.eraseIdx m)
  | [], _, m, h => by rw [show _ = [] from h]; exact rfl
  | d :: ds, _, 0, h => by
    obtain ⟨v, r, rfl, h1, h2⟩ := h
    exact h2
  | d :: ds, _, m + 1, h => by
    obtain ⟨v, r, rfl, h1, h2⟩ := h
    exact ⟨v, _, rfl, h1, Rps.erase m h2⟩
theorem pop_step {C : JC} {ρ : Sl} {σ : L2.St} {H : Hp} {i : Nat} {a : Addr} {vs : List V} {ds es : List D} {y : D} {n : Int} {Q : VK} (j : J g C ρ σ H) (hi : ρ[i]? = some (.own (.lst ds))) (ha : σ[i]? = some (some (.ref a))) (hl : H a = some (.lst vs)) (r : Rps g.K (Av C.Z ρ σ) H vs ds) (hp : popD ds n = some (y, es))
    (p : PostG g W (repV g) C σ Q (.ok y (ρ.set i (.own (.lst es))))) : ∃ (k : Nat) (v : V), vs.length ≤ sizeLine ∧ seqIndex? n vs.length = some k ∧ -(vs.length : Int) ≤ n ∧ n < vs.length ∧ vs[k]? = some v ∧ Q v (upd H a (.lst (vs.eraseIdx k))) := by
  unfold popD at hp
  split at hp
  case isFalse => cases hp
  rename_i hz
  rw [Option.bind_eq_some_iff] at hp
  obtain ⟨m, hm, hp⟩ := hp
  rw [Option.map_eq_some_iff] at hp
  obtain ⟨y', hy, hp⟩ := hp
  cases hp
  obtain ⟨v, hv, rv⟩ := r.get' hy
  rw [← r.length] at hm
  obtain ⟨q1, q2, q3, q4⟩ := ixN_seq hm
  refine ⟨m, v, by rw [r.length, ← bigL_eq]; exact hz, q1, q3, q4, hv, p v _ (j.setL hi ha (r.erase m)) ?_⟩
  have := j.cont (o := .lst (vs.eraseIdx m)) hi ha (vs := [v]) (ds := [y]) ⟨v, [], rfl, rv, rfl⟩
  obtain ⟨v', _, e, rv', _⟩ := this
  cases e
  exact Rp.gen (fun b nz ⟨o, eo⟩ => ⟨fun z => nz (av_set hi z), fun o e => e⟩) _ _ rv'
theorem tr_popAt {i : Nat} {t : TE} {f : FE} (h : TrE g W t f) : TrE g W (tBM g.K "list" rPopAt (tVar i) (tCons t tNil)) (fPopAt i f) := by
  intro C ρ σ H Q j p
  unfold fPopAt at p
  split at p
  · rename_i hs
    obtain ⟨ds0, e0⟩ := Option.isSome_iff_exists.mp hs
    obtain ⟨a, vs0, ha, hl0, r0⟩ := j.ownL (lstAt_some e0)
    refine ⟨_, ha, .inl ⟨rfl, vs0, SqL.of hl0⟩, ?_⟩
    refine h.step j (fun k ρ1 e1 v H1 j1 k1 r1 => ?_) (fun x ρ1 e1 cls dd H1 j1 r1 => ?_) (fun e1 => ?_)
    · simp only [e1, RE.bd] at p
      split at p
      · rename_i n ds e2
        split at p
        · rename_i y es hp
          obtain ⟨b, vs, hb, hl, r⟩ := j1.ownL (lstAt_some e2)
          rw [ha] at hb; cases hb
          obtain ⟨m, w, hz, q1, q2, q3, q4, q5⟩ := pop_step j1 (lstAt_some e2) ha hl r hp p
          have hv : v = .int n := r1
          subst hv
          refine ⟨a, vs, n, m, w, rfl, rfl, hl, ?_, ?_, q1, q4, q5⟩
          · rw [sizeLine_eq] at hz; omega
          · rw [sizeLine_eq] at hz; omega
        · exact p.elim
      · exact p.elim
    · simp only [e1, RE.bd] at p; exact p _ _ _ j1 r1
    · simp only [e1, RE.bd] at p; exact p
  · exact p.elim
theorem tr_pop {i : Nat} : TrE g W (tBM0 g.K "list" rPop (tVar i)) (fPop i) := by
  intro C ρ σ H Q j p
  unfold fPop at p
  split at p
  · rename_i ds e2
    split at p
    · rename_i y hy
      obtain ⟨a, vs, ha, hl, r⟩ := j.ownL (lstAt_some e2)
      obtain ⟨v, hv, rv⟩ := r.get' hy
      rw [← r.length] at hv p
      refine ⟨_, ha, .inl ⟨rfl, vs, SqL.of hl⟩, a, vs, v, rfl, rfl, hl, hv, ?_⟩
      rw [List.dropLast_eq_take]
      refine p v _ (j.setL (lstAt_some e2) ha (r.take _)) ?_
      have := j.cont (o := .lst (vs.take (vs.length - 1))) (lstAt_some e2) ha (vs := [v]) (ds := [y]) ⟨v, [], rfl, rv, rfl⟩
      obtain ⟨v', _, e, rv', _⟩ := this
      cases e
      exact Rp.gen (fun b nz ⟨o, eo⟩ => ⟨fun z => nz (av_set (lstAt_some e2) z), fun o e => e⟩) _ _ rv'
    · exact p.elim
  · exact p.elim
theorem trs_insert {i : Nat} {tk t : TE} {fk f : FE} (hk : TrE g W tk fk) (h : TrE g W t f) : TrS g W (tDrop (tBM g.K "list" (fun x vs H Q => ∃ (l : Addr) (xs : List V) (i : Int) (y : V), x = .ref l ∧ vs = [.int i, y] ∧ H l = some (.lst xs) ∧ xs.length < sizeLine ∧ 0 ≤ i ∧ i < 2 ^ 63 ∧
    Q .non (upd H l (.lst (xs.take i.toNat ++ [y] ++ xs.drop i.toNat)))) (tVar i) (tCons tk (tCons t tNil)))) (sInsert i fk f) := by
  intro C ρ σ H D' j p
  unfold sInsert at p
  split at p
  · rename_i hs
    obtain ⟨ds0, e0⟩ := Option.isSome_iff_exists.mp hs
    obtain ⟨a, vs0, ha, hl0, r0⟩ := j.ownL (lstAt_some e0)
    refine ⟨_, ha, .inl ⟨rfl, vs0, SqL.of hl0⟩, ?_⟩
    refine PostG.st hk j p fun k ρ1 v H1 j1 k1 r1 p1 => ?_
    refine PostG.st h j1 p1 fun d ρ2 w H2 j2 k2 r2 p2 => ?_
    split at p2
    · rename_i n ds e1
      split at p2
      · rename_i hlen
        rw [Bool.and_eq_true, Bool.and_eq_true, decide_eq_true_eq, decide_eq_true_eq, decide_eq_true_eq, bigL_eq] at hlen
        obtain ⟨b, vs, hb, hl, r⟩ := j2.ownL (lstAt_some e1)
        rw [ha] at hb; cases hb
        have hv : v = .int n := r1
        subst hv
        exact ⟨a, vs, n, w, rfl, rfl, hl, by rw [r.length]; exact hlen.1, hlen.2.1, hlen.2.2, p2 _ _ (j2.setL (lstAt_some e1) ha (((r.take n.toNat).app (es := [d]) (us := [w]) ⟨w, [], rfl, r2, rfl⟩).app (r.drop n.toNat)))⟩
      · exact p2.elim
    · exact p2.elim
  · exact p.elim
end
section
variable {s : SC}
theorem de_popAt {i : Nat} {x : Str} {e : Expr} {f : FE} {p1 p2 p3 : Pos} (h : DE s e f) (hN : s.N[i]? = some x := by rfl) (hv : Vis s.sc x := by first | exact Or.inl rfl | exact Or.inr (Or.inl rfl) | exact Or.inr (Or.inr rfl)) (hd : (x == ("__debug__" : Str)) = false := by decide) (hcd : (x == ("__classdict__" : Str)) = false := by decide)
    (hf : ∀ env, ((backTo p3 (starEach (e :: []) env)).all (fun x => !x.1) && (backToKw p3 (keywordEach [] env)).all (fun x => x.1.isSome)
      && decide ((e :: []).length + ([] : List Keyword).length + (if ([] : List Keyword).isEmpty then 0 else 1) < 30)) = true := by intro _; rfl) (hs : ∀ env, starEach (e :: []) env = (false, eval e env) :: starEach [] env := by intro _; rfl) (hl : (p2.endLine == p3.line) = true := by rfl) : DE s (.Call (.Attribute (.Name x p1) "pop" p2) [e] [] p3) (fPopAt i f) := fun W =>
  let ⟨t, q1, q2⟩ := h W
  ⟨_, tr_popAt q1, fun y fi k => pe_bm PySem.F.plainAttrs_list PySem.F.slot_list_pop PySem.F.type_list_pop mt_popAt (pe_var hN hv hd hcd) (pa_cons (q2 y fi k) pa_nil (hs _)) (hs := hs _) (hline := hl) (hfew := hf _)⟩
theorem de_pop {i : Nat} {x : Str} {p1 p2 p3 : Pos} (hN : s.N[i]? = some x := by rfl) (hv : Vis s.sc x := by first | exact Or.inl rfl | exact Or.inr (Or.inl rfl) | exact Or.inr (Or.inr rfl)) (hd : (x == ("__debug__" : Str)) = false := by decide) (hcd : (x == ("__classdict__" : Str)) = false := by decide)
    (hl : (p2.endLine == p3.line) = true := by rfl) : DE s (.Call (.Attribute (.Name x p1) "pop" p2) [] [] p3) (fPop i) := fun W =>
  ⟨_, tr_pop, fun y fi k => pe_bm0 PySem.F.plainAttrs_list PySem.F.slot_list_pop PySem.F.type_list_pop mt_pop (pe_var hN hv hd hcd) (hline := hl)⟩
theorem ds_insert {i : Nat} {x : Str} {ek e : Expr} {fk f : FE} {p1 p2 p3 pos : Pos} (hk : DE s ek fk) (h : DE s e f) (hN : s.N[i]? = some x := by rfl) (hv : Vis s.sc x := by first | exact Or.inl rfl | exact Or.inr (Or.inl rfl) | exact Or.inr (Or.inr rfl)) (hd : (x == ("__debug__" : Str)) = false := by decide) (hcd : (x == ("__classdict__" : Str)) = false := by decide)
    (hf : ∀ env, ((backTo p3 (starEach (ek :: e :: []) env)).all (fun x => !x.1) && (backToKw p3 (keywordEach [] env)).all (fun x => x.1.isSome)
      && decide ((ek :: e :: []).length + ([] : List Keyword).length + (if ([] : List Keyword).isEmpty then 0 else 1) < 30)) = true := by intro _; rfl) (hs : ∀ env, starEach (ek :: e :: []) env = (false, eval ek env) :: starEach [e] env := by intro _; rfl) (hs2 : ∀ env, starEach (e :: []) env = (false, eval e env) :: starEach [] env := by intro _; rfl)
    (hp : ∀ env, (backTo p3 (starEach [e] env)).any (·.1) = false := by intro _; rfl) (hl : (p2.endLine == p3.line) = true := by rfl) : DS s (.Expr (.Call (.Attribute (.Name x p1) "insert" p2) [ek, e] [] p3) pos) (sInsert i fk f) := fun W =>
  let ⟨tk, q3, q4⟩ := hk W; let ⟨t, q1, q2⟩ := h W
  ⟨_, trs_insert q3 q1, fun y fi k => ps_expr (pe_bm PySem.F.plainAttrs_list PySem.F.slot_list_insert PySem.F.type_list_insert mt_insert (pe_var hN hv hd hcd) (pa_cons (q4 y fi k) (pa_cons (q2 y fi k) pa_nil (hs2 _)) (hs _)) (hs := hs _) (hline := hl) (hfew := hf _) (hplain := hp _))⟩
end
end DL
namespace DL
open PySem
theorem y_pop (i : Nat) (ρ : Sl) : fPop i ρ = (match lsS (sget ρ i) with
  | some ds => match ds[ds.length - 1]? with
    | some y => .ok y (sput ρ i (.own (.lst (ds.take (ds.length - 1)))))
    | none => .bad
  | none => .bad) := by unfold fPop; rw [lstAt_eq]; rfl
def popH (ρ : Sl) (i : Nat) : Option (D × List D) → RE D
  | some p => .ok p.1 (sput ρ i (.own (.lst p.2)))
  | none => .bad
theorem popH_o (ρ : Sl) (i : Nat) (y : D) (es : List D) : popH ρ i (some (y, es)) = .ok y (sput ρ i (.own (.lst es))) := nr rfl
def popG (ρ : Sl) (i : Nat) : D → Option (List D) → RE D
  | .int n, some ds => popH ρ i (popD ds n)
  | _, _ => .bad
theorem popG_o (ρ : Sl) (i : Nat) (n : Int) (ds : List D) : popG ρ i (.int n) (some ds) = popH ρ i (popD ds n) := nr rfl
def popS (i : Nat) : RE D → RE D
  | .ok k ρ => popG ρ i k (lsS (sget ρ i))
  | .ex x ρ => .ex x ρ
  | .bad => .bad
theorem popS_o (i : Nat) (k : D) (ρ : Sl) : popS i (.ok k ρ) = popG ρ i k (lsS (sget ρ i)) := nr rfl
def popT (i : Nat) (f : FE) (ρ : Sl) : Option (List D) → RE D
  | some _ => popS i (f ρ)
  | none => .bad
theorem popT_o (i : Nat) (f : FE) (ρ : Sl) (ds : List D) : popT i f ρ (some ds) = popS i (f ρ) := nr rfl
theorem y_popAt (i : Nat) (f : FE) (ρ : Sl) : fPopAt i f ρ = popT i f ρ (lsS (sget ρ i)) := by
  unfold fPopAt
  rw [lstAt_eq]
  cases lsS (sget ρ i) with
  | none => rfl
  | some ds =>
    show (f ρ).bd _ = popS i (f ρ)
    cases f ρ with
    | ok k ρ1 =>
      show (match k, lstAt ρ1 i with | .int n, some ds => _ | _, _ => _) = popG ρ1 i k (lsS (sget ρ1 i))
      rw [lstAt_eq]
      cases lsS (sget ρ1 i) with
      | none => cases k <;> rfl
      | some es => cases k with
        | int n => show (match popD es n with | some (y, es) => _ | none => _) = popH ρ1 i (popD es n); cases popD es n <;> rfl
        | _ => rfl
    | _ => rfl
theorem popD_ok {ds : List D} {n : Int} (hl : ds.length ≤ 16777216) (h0 : 0 ≤ n) (h : n < ds.length) : ∃ y es, popD ds n = some (y, es) ∧ y ∈ ds ∧ (∀ x ∈ es, x ∈ ds) ∧ es.length + 1 = ds.length := by
  have hi : n.toNat < ds.length := by omega
  refine ⟨ds[n.toNat], ds.eraseIdx n.toNat, ?_, List.getElem_mem hi, fun x hx => List.mem_of_mem_eraseIdx hx, by rw [List.length_eraseIdx_of_lt hi]; omega⟩
  unfold popD
  rw [if_pos (by exact hl), z_ixN h0 h]
  simp [hi]
end DL
namespace DL
open PySem
def lpB (tg : Tg) (b : FS) (ds : List D) : RS → RS
  | .nx ρ => fLoop tg b ds ρ
  | .ct ρ => fLoop tg b ds ρ
  | .bk ρ => .nx ρ
  | .rt d ρ => .rt d ρ
  | .ex x ρ => .ex x ρ
  | .bad => .bad
def lpT (tg : Tg) (b : FS) (ds : List D) : Option Sl → RS
  | some ρ => lpB tg b ds (b ρ)
  | none => .bad
theorem lpT_o (tg : Tg) (b : FS) (ds : List D) (ρ : Sl) : lpT tg b ds (some ρ) = lpB tg b ds (b ρ) := nr rfl
theorem lpB_n (tg : Tg) (b : FS) (ds : List D) (ρ : Sl) : lpB tg b ds (.nx ρ) = fLoop tg b ds ρ := nr rfl
theorem lpB_c (tg : Tg) (b : FS) (ds : List D) (ρ : Sl) : lpB tg b ds (.ct ρ) = fLoop tg b ds ρ := nr rfl
theorem lpB_b (tg : Tg) (b : FS) (ds : List D) (ρ : Sl) : lpB tg b ds (.bk ρ) = .nx ρ := nr rfl
theorem lpB_r (tg : Tg) (b : FS) (ds : List D) (d : D) (ρ : Sl) : lpB tg b ds (.rt d ρ) = .rt d ρ := nr rfl
theorem lpB_x (tg : Tg) (b : FS) (ds : List D) (x : Ex) (ρ : Sl) : lpB tg b ds (.ex x ρ) = .ex x ρ := nr rfl
/-- given by hand where a short written row is walked -/
theorem y_lp0 (tg : Tg) (b : FS) (ρ : Sl) : fLoop tg b [] ρ = .nx ρ := nr rfl
theorem y_lpc (tg : Tg) (b : FS) (d : D) (ds : List D) (ρ : Sl) : fLoop tg b (d :: ds) ρ = lpT tg b ds (tg d ρ) := by
  show (match tg d ρ with | none => _ | some ρ1 => _) = _
  cases tg d ρ with
  | none => rfl
  | some ρ1 => show (match b ρ1 with | .nx ρ2 => _ | .ct ρ2 => _ | .bk ρ2 => _ | .rt d ρ2 => _ | .ex x ρ2 => _ | .bad => _) = lpB tg b ds (b ρ1); cases b ρ1 <;> rfl
/-! repr -/
theorem z_repr {d : D} (h1 : (toPy d).isSome = true) (h2 : d.okR = true) (h3 : d.sz ≤ 16777216) (h4 : d.dp ≤ 60) : reprB [d] = some (.str d.shw) := by
  have : (isE d || ((toPy d).isSome && d.okR && decide (d.sz ≤ bigL) && decide (d.dp ≤ 60))) = true := by
    rw [h1, h2, decide_eq_true (show d.sz ≤ bigL from h3), decide_eq_true h4]; simp
  show (if _ then _ else _) = _
  rw [if_pos this]
theorem z_reprB (b : Bool) : reprB [.bl b] = some (.str (D.bl b).shw) := z_repr rfl rfl (by simp [D.sz]) (by simp [D.dp])
theorem toPys_ints (xs : List Int) : toPys (xs.map D.int) = some (xs.map PyData.int) := enc_toPys enc_int xs
theorem okRs_ints {xs : List Int} (h : ∀ x ∈ xs, x.natAbs < 10 ^ 300) : D.okRs (xs.map D.int) = true := by
  induction xs with
  | nil => rfl
  | cons x xs ih => simp only [List.map_cons, D.okRs, D.okR, decide_eq_true (h x List.mem_cons_self), ih fun y m => h y (List.mem_cons_of_mem _ m), Bool.and_self]
theorem szs_ints (xs : List Int) : D.szs (xs.map D.int) = 304 * xs.length := by
  induction xs with
  | nil => rfl
  | cons x xs ih => simp only [List.map_cons, D.szs, D.sz, ih, List.length_cons]; omega
theorem dps_ints (xs : List Int) : D.dps (xs.map D.int) = 0 := by
  induction xs with
  | nil => rfl
  | cons x xs ih => simp [D.dps, D.dp, ih]
theorem z_reprT {xs : List Int} (h : ∀ x ∈ xs, x.natAbs < 10 ^ 300) (hl : xs.length ≤ 10000) : reprB [.tup (xs.map .int)] = some (.str (D.tup (xs.map .int)).shw) :=
  z_repr (by simp only [toPy, toPys_ints]; rfl) (by simp only [D.okR]; exact okRs_ints h) (by simp only [D.sz, szs_ints]; omega) (by simp only [D.dp, dps_ints]; omega)
theorem z_reprP {s : Str} {i : Int} (hs : (D.str s).okR = true) (hl : s.length ≤ 100) (h : i.natAbs < 10 ^ 300) : reprB [.tup [.str s, .int i]] = some (.str (D.tup [.str s, .int i]).shw) :=
  z_repr (by simp [toPy, toPys]) (by simp only [D.okR, D.okRs] at hs ⊢; rw [hs, decide_eq_true h]; rfl) (by simp only [D.sz, D.szs]; omega) (by simp [D.dp, D.dps])
end DL
namespace DL
open PySem
def teO (Q : Bool → Sl → Prop) : RE Bool → Prop
  | .ok v ρ => Q v ρ
  | _ => False
theorem teO_o (Q : Bool → Sl → Prop) (v : Bool) (ρ : Sl) : teO Q (.ok v ρ) = Q v ρ := rfl
theorem teO_ok {Q : Bool → Sl → Prop} {r : RE Bool} (h : teO Q r) : ∃ v ρ, r = .ok v ρ ∧ Q v ρ := by
  cases r with
  | ok v ρ => exact ⟨v, ρ, rfl, h⟩
  | _ => exact h.elim
/-- a while that counts down: `generalize hL : wLoop _ _ _ _ = L`, then this -/
theorem gw_cnt' {c : FT} {b : FS} (I : Nat → Sl → Prop) (hc : ∀ k ρ, I k ρ → teO (fun v ρ1 => v = decide (0 < k) ∧ I k ρ1) (c ρ)) (hb : ∀ k ρ, I (k + 1) ρ → stO (I k) (b ρ)) : ∀ (n fuel : Nat) (ρ : Sl), I n ρ → n < fuel → ∃ ρ', wLoop c b fuel ρ = .nx ρ' ∧ I 0 ρ'
  | _, 0, _, _, h => absurd h (Nat.not_lt_zero _)
  | 0, f + 1, ρ, hI, _ => by
    obtain ⟨v, ρ1, e, hv, i⟩ := teO_ok (hc 0 ρ hI)
    rw [show v = false from hv] at e
    exact ⟨ρ1, by simp [wLoop, e], i⟩
  | n + 1, f + 1, ρ, hI, hf => by
    obtain ⟨v, ρ1, e, hv, i⟩ := teO_ok (hc _ ρ hI)
    rw [show v = true by rw [hv]; exact decide_eq_true (by omega)] at e
    obtain ⟨ρ2, h1, h2⟩ := stO_ok (hb n ρ1 i)
    obtain ⟨ρ', e2, i2⟩ := gw_cnt' I hc hb n f ρ2 h2 (by omega)
    refine ⟨ρ', ?_, i2⟩
    simp only [wLoop, e, x_bs_ok, if_true]
    rcases h1 with h1 | h1 <;> simp only [h1] <;> exact e2
theorem gw_cnt {c : FT} {b : FS} {fuel : Nat} {ρ : Sl} {L : RS} (hL : wLoop c b fuel ρ = L) (I : Nat → Sl → Prop) (n : Nat) (h : I n ρ) (hf : n < fuel) (hc : ∀ k ρ, I k ρ → teO (fun v ρ1 => v = decide (0 < k) ∧ I k ρ1) (c ρ)) (hb : ∀ k ρ, I (k + 1) ρ → stO (I k) (b ρ)) : ∃ ρ', L = .nx ρ' ∧ I 0 ρ' := by
  rw [← hL]
  exact gw_cnt' I hc hb n fuel ρ h hf
theorem minI_all : ∀ (ns : List Int), ns ≠ [] → (decide (0 ≤ minI ns)) = ns.all fun s => decide (0 ≤ s)
  | [], h => absurd rfl h
  | [n], _ => by rw [Bool.eq_iff_iff]; simp [minI]; exact decide_eq_true_iff
  | n :: m :: r, _ => by
    have ih := minI_all (m :: r) (by simp)
    show decide (0 ≤ min n (minI (m :: r))) = (decide (0 ≤ n) && ((m :: r).all fun s => decide (0 ≤ s)))
    rw [← ih]
    by_cases a : 0 ≤ n <;> by_cases b : 0 ≤ minI (m :: r) <;> simp [a, b] <;> omega
end DL
namespace DL
open PySem
theorem gl_pre' {α : Type} {tg : Tg} {b : FS} {enc : α → D} {xs : List α} (I : List α → Sl → Prop) (st : ∀ pre x post ρ, xs = pre ++ x :: post → I pre ρ → tgO b (I (pre ++ [x])) (tg (enc x) ρ)) : ∀ (ys pre : List α) (ρ : Sl), xs = pre ++ ys → I pre ρ → ∃ ρ', fLoop tg b (ys.map enc) ρ = .nx ρ' ∧ I xs ρ'
  | [], pre, ρ, e, hI => ⟨ρ, rfl, by rw [e, List.append_nil]; exact hI⟩
  | y :: ys, pre, ρ, e, hI => by
    obtain ⟨ρ1, ρ2, h1, h2, h3⟩ := tgO_ok (st pre y ys ρ e hI)
    obtain ⟨ρ', e', i⟩ := gl_pre' I st ys (pre ++ [y]) ρ2 (by rw [e]; simp) h3
    refine ⟨ρ', ?_, i⟩
    simp only [List.map_cons, fLoop, h1]
    rcases h2 with h2 | h2 <;> simp only [h2] <;> exact e'
/-- the state told by what has been walked -/
theorem gl_pre {α : Type} {tg : Tg} {b : FS} {enc : α → D} {xs : List α} {ρ : Sl} {L : RS} (hL : fLoop tg b (xs.map enc) ρ = L) (I : List α → Sl → Prop) (h : I [] ρ) (st : ∀ pre x post ρ, xs = pre ++ x :: post → I pre ρ → tgO b (I (pre ++ [x])) (tg (enc x) ρ)) : ∃ ρ', L = .nx ρ' ∧ I xs ρ' := by
  rw [← hL]
  exact gl_pre' I st xs [] ρ rfl h
theorem zp_map {α β : Type} (e : α → D) (e' : β → D) : ∀ (xs : List α) (ys : List β), zpD (xs.map e) (ys.map e') = (xs.zip ys).map fun p => .tup [e p.1, e' p.2]
  | [], _ => by simp [zpD]
  | _ :: _, [] => by simp [zpD]
  | x :: xs, y :: ys => by simp [zpD, zp_map e e' xs ys]
theorem z_zipT (xs ys : List D) : zipB [.tup xs, .tup ys] = some (zpD xs ys) := nr rfl
theorem z_zipL (xs ys : List D) : zipB [.lst xs, .lst ys] = some (zpD xs ys) := nr rfl
theorem z_minL {ns : List Int} (h : ns ≠ []) : minA [.lst (ns.map D.int)] = some (.int (minI ns)) := by
  show ((D.ls (.lst (ns.map D.int))).bind fun ds => (intsD ds).bind fun ns => if ns.isEmpty then none else some (D.int (minI ns))) = _
  simp only [D.ls, Option.bind_some, intsD_map]
  rw [if_neg (by simpa using h)]
theorem z_sumT {ns : List Int} (h : ∀ x ∈ ns, x.natAbs < 4294967296) (hl : ns.length ≤ 1048576) : sumA [.tup (ns.map D.int)] = some (.int ns.sum) := by
  show ((intsD (ns.map D.int)).bind fun ns => if (ns.all small && decide (ns.length ≤ 1048576)) = true then some (D.int ns.sum) else none) = _
  rw [intsD_map]
  have : (ns.all small && decide (ns.length ≤ 1048576)) = true := by
    rw [Bool.and_eq_true]
    exact ⟨List.all_eq_true.mpr fun x m => decide_eq_true (h x m), decide_eq_true hl⟩
  show (if _ then _ else _) = _
  rw [if_pos this]
end DL
namespace DL
open PySem L2
theorem inV_ints (v : Int) (xs : List Int) : inV (toV (.int v)) ((xs.map D.int).map toV) = decide (v ∈ xs) := by
  unfold inV
  induction xs with
  | nil => simp
  | cons x xs ih =>
    simp only [List.map_cons, List.any_cons, ih]
    rw [Bool.eq_iff_iff]
    simp only [Bool.or_eq_true, decide_eq_true_eq, List.mem_cons]
    have : eqV (toV (.int x)) (toV (.int v)) = true ↔ v = x := by
      simp [toV, eqV]
      constructor <;> intro h <;> omega
    rw [this]
theorem flats_ints (xs : List Int) : ((xs.map D.int).all D.flatS && ((xs.map D.int).map toV).all flatV) = true := by
  induction xs with
  | nil => rfl
  | cons x xs ih =>
    simp only [List.map_cons, List.all_cons]
    simp only [Bool.and_eq_true] at ih ⊢
    exact ⟨⟨rfl, ih.1⟩, ⟨rfl, ih.2⟩⟩
theorem z_inB {n : Bool} {v : Int} {d : D} {xs : List Int} (h : d.seq = some (xs.map D.int)) : inB n [.int v, d] = some (.bl (if n then !decide (v ∈ xs) else decide (v ∈ xs))) := by
  show (d.seq.bind fun ds => if ((D.int v).flatS && ds.all D.flatS && (flatV (toV (.int v)) && (ds.map toV).all flatV)) = true then some (D.bl (if n = true then !inV (toV (.int v)) (ds.map toV) else inV (toV (.int v)) (ds.map toV))) else none) = _
  rw [h, Option.bind_some, inV_ints]
  have f := flats_ints xs
  rw [Bool.and_eq_true] at f
  have : ((D.int v).flatS && (xs.map D.int).all D.flatS && (flatV (toV (.int v)) && ((xs.map D.int).map toV).all flatV)) = true := by
    rw [f.1, f.2]; rfl
  rw [if_pos this]
theorem z_inT (v : Int) (xs : List Int) : inA false [.int v, .tup (xs.map D.int)] = some (.bl (decide (v ∈ xs))) := by unfold inA; rw [z_inB (n := false) (xs := xs) rfl]; rfl
theorem z_inL (v : Int) (xs : List Int) : inA false [.int v, .lst (xs.map D.int)] = some (.bl (decide (v ∈ xs))) := by unfold inA; rw [z_inB (n := false) (xs := xs) rfl]; rfl
theorem z_ninT (v : Int) (xs : List Int) : inA true [.int v, .tup (xs.map D.int)] = some (.bl (!decide (v ∈ xs))) := by unfold inA; rw [z_inB (n := true) (xs := xs) rfl]; rfl
theorem z_ninL (v : Int) (xs : List Int) : inA true [.int v, .lst (xs.map D.int)] = some (.bl (!decide (v ∈ xs))) := by unfold inA; rw [z_inB (n := true) (xs := xs) rfl]; rfl
end DL

namespace DL
open PySem PySem.Spec PyProof.Rows L2
/-! ### list(range(..)), tuple(range(..)) -/
def rRgL (tup : Bool) : List V → Hp → VK → Prop := fun vs H Q => (∃ n, vs = [.int n] ∧ RgOk 0 n ∧ ∀ q, H q = none → Q (.ref q) (upd H q (if tup = true then .tup (rgV 0 n) else .lst (rgV 0 n)))) ∨
  ∃ m n, vs = [.int m, .int n] ∧ RgOk m n ∧ ∀ q, H q = none → Q (.ref q) (upd H q (if tup = true then .tup (rgV m n) else .lst (rgV m n)))
theorem pe_tupRg1 {X : Cx} {e : Expr} {te : TE} {p pos p2 pos2 : Pos} (hc : X.calm = true) (hg : Gl X "tuple") (hm : X.mg "tuple" = none) (hg2 : Gl X "range") (hm2 : X.mg "range" = none) (he : PE X e te) (na : starEach [.Call (.Name "range" p2) [e] [] pos2] X.env = (false, eval (.Call (.Name "range" p2) [e] [] pos2) X.env) :: starEach [] X.env := by rfl)
    (nb : starEach [e] X.env = (false, eval e X.env) :: starEach [] X.env := by rfl) : PE X (.Call (.Name "tuple" p) [.Call (.Name "range" p2) [e] [] pos2] [] pos) (tCB (rRgL true) (tCons te tNil)) := by
  refine ⟨fun pins s σ H Q I h => (pe_tupRg (p := p) (pos := pos) hc hg hm (prg_1 (p := p2) (pos := pos2) hg2 hm2 he nb) na).run pins s σ H Q I ?_⟩
  have e : tTupRg (tRg1 te) σ H Q = tCB (rRgL true) (tCons te tNil) σ H Q := by
    show te σ H _ = te σ H _
    congr 1
    funext x H1
    refine propext ⟨fun ⟨n, e, ok, q⟩ => .inl ⟨n, by rw [e], ok, q⟩, fun h => ?_⟩
    rcases h with ⟨n, e, ok, q⟩ | ⟨m, n, e, _⟩
    · simp only [List.cons.injEq, and_true] at e
      exact ⟨n, e, ok, q⟩
    · simp at e
  rw [e]; exact h
theorem pe_lstRg1 {X : Cx} {e : Expr} {te : TE} {p pos p2 pos2 : Pos} (hc : X.calm = true) (hg : Gl X "list") (hm : X.mg "list" = none) (hg2 : Gl X "range") (hm2 : X.mg "range" = none) (he : PE X e te) (na : starEach [.Call (.Name "range" p2) [e] [] pos2] X.env = (false, eval (.Call (.Name "range" p2) [e] [] pos2) X.env) :: starEach [] X.env := by rfl)
    (nb : starEach [e] X.env = (false, eval e X.env) :: starEach [] X.env := by rfl) : PE X (.Call (.Name "list" p) [.Call (.Name "range" p2) [e] [] pos2] [] pos) (tCB (rRgL false) (tCons te tNil)) := by
  refine ⟨fun pins s σ H Q I h => (pe_listRg (p := p) (pos := pos) hc hg hm (prg_1 (p := p2) (pos := pos2) hg2 hm2 he nb) na).run pins s σ H Q I ?_⟩
  have e : tLstRg (tRg1 te) σ H Q = tCB (rRgL false) (tCons te tNil) σ H Q := by
    show te σ H _ = te σ H _
    congr 1
    funext x H1
    refine propext ⟨fun ⟨n, e, ok, q⟩ => .inl ⟨n, by rw [e], ok, q⟩, fun h => ?_⟩
    rcases h with ⟨n, e, ok, q⟩ | ⟨m, n, e, _⟩
    · simp only [List.cons.injEq, and_true] at e
      exact ⟨n, e, ok, q⟩
    · simp at e
  rw [e]; exact h
def rgOkB (m n : Int) : Bool := decide (-4611686018427387904 ≤ m ∧ m < 4611686018427387904 ∧ -4611686018427387904 ≤ n ∧ n < 4611686018427387904 ∧ (n - m).toNat ≤ 16777216)
def rgLB : List D → Option D
  | [.int n] => if rgOkB 0 n = true then some (.lst (rngD 0 n.toNat)) else none
  | _ => none
def rgTB : List D → Option D
  | [.int n] => if rgOkB 0 n = true then some (.tup (rngD 0 n.toNat)) else none
  | _ => none
theorem rps_rg {K : PySem.W.Frag} {Z : Addr → Prop} {H : Hp} (n : Int) : Rps K Z H (rgV 0 n) (rngD 0 n.toNat) := by
  unfold rgV
  rw [show (n - 0).toNat = n.toNat by rw [Int.sub_zero]]
  have : ∀ (k : Nat) (lo : Int), Rps K Z H ((List.range k).map fun i => V.int (lo + (i : Nat))) (rngD lo k) := by
    intro k
    induction k with
    | zero => intro lo; exact rfl
    | succ k ih =>
      intro lo
      rw [List.range_succ_eq_map, List.map_cons, List.map_map]
      refine ⟨_, _, rfl, by show V.int _ = V.int _; simp, ?_⟩
      have := ih (lo + 1)
      have e : ((fun i : Nat => V.int (lo + (i : Nat))) ∘ Nat.succ) = fun i : Nat => V.int (lo + 1 + (i : Nat)) := by
        funext i
        show V.int _ = V.int _
        congr 1
        rw [Nat.succ_eq_add_one]; omega
      rw [e]; exact this
  exact this _ 0
theorem bi_rgT {K : PySem.W.Frag} : BiOk K (rRgL true) rgTB := by
  intro Z H vs ds d Q hz hr hb q
  unfold rgTB at hb
  split at hb
  · rename_i n
    split at hb
    · rename_i ok
      cases hb
      obtain ⟨v, rfl, h⟩ := hr.one
      rw [h.int]
      have ok := of_decide_eq_true ok
      refine .inl ⟨n, rfl, ⟨ok.1, ok.2.1, ok.2.2.1, ok.2.2.2.1, ok.2.2.2.2⟩, fun p hp => q _ _ (Grow.upd hp) ⟨p, _, rfl, .inl ⟨fun z => ?_, .inl upd_same⟩, rps_rg n⟩⟩
      obtain ⟨o, e⟩ := hz p z; rw [hp] at e; cases e
    · cases hb
  · cases hb
theorem bn_rgL {K : PySem.W.Frag} : BnOk K (rRgL false) rgLB := by
  intro Z H vs ds d Q hz hr hb q
  unfold rgLB at hb
  split at hb
  · rename_i n
    split at hb
    · rename_i ok
      cases hb
      obtain ⟨v, rfl, h⟩ := hr.one
      rw [h.int]
      have ok := of_decide_eq_true ok
      exact .inl ⟨n, rfl, ⟨ok.1, ok.2.1, ok.2.2.1, ok.2.2.2.1, ok.2.2.2.2⟩, fun p hp => q p _ hp ⟨_, rfl, rps_rg n⟩⟩
    · cases hb
  · cases hb
section
variable {s : SC} {e : Expr} {a : Ag} {p pos p2 pos2 : Pos}
theorem de_tupRg (hm : s.mg "tuple" = none) (hm2 : s.mg "range" = none) (h : DAg s e a) (hc : s.calm = true := by rfl) (hg : s.sc.names.lookup ("tuple" : Str) = some .globalImplicit := by rfl) (hg2 : s.sc.names.lookup ("range" : Str) = some .globalImplicit := by rfl)
    (na : ∀ env, starEach [.Call (.Name "range" p2) [e] [] pos2] env = (false, eval (.Call (.Name "range" p2) [e] [] pos2) env) :: starEach [] env := by intro _; rfl) (nb : ∀ env, starEach [e] env = (false, eval e env) :: starEach [] env := by intro _; rfl) : DE s (.Call (.Name "tuple" p) [.Call (.Name "range" p2) [e] [] pos2] [] pos) (fApp rgTB [a]) := fun W =>
  let ⟨t', q3, q4⟩ := h W
  ⟨_, tr_app bi_rgT (tra_cons q3 tra_nil), fun y i k => pe_tupRg1 hc hg hm hg2 hm2 (q4 y i k) (na _) (nb _)⟩
theorem dn_lstRg (hm : s.mg "list" = none) (hm2 : s.mg "range" = none) (h : DAg s e a) (hc : s.calm = true := by rfl) (hg : s.sc.names.lookup ("list" : Str) = some .globalImplicit := by rfl) (hg2 : s.sc.names.lookup ("range" : Str) = some .globalImplicit := by rfl)
    (na : ∀ env, starEach [.Call (.Name "range" p2) [e] [] pos2] env = (false, eval (.Call (.Name "range" p2) [e] [] pos2) env) :: starEach [] env := by intro _; rfl) (nb : ∀ env, starEach [e] env = (false, eval e env) :: starEach [] env := by intro _; rfl) : DN s (.Call (.Name "list" p) [.Call (.Name "range" p2) [e] [] pos2] [] pos) (fApp rgLB [a]) := fun W =>
  let ⟨t', q3, q4⟩ := h W
  ⟨_, trn_app bn_rgL (tra_cons q3 tra_nil), fun y i k => pe_lstRg1 hc hg hm hg2 hm2 (q4 y i k) (na _) (nb _)⟩
end
theorem z_rgL {n : Int} (h0 : -1000000 ≤ n) (h : n ≤ 16777216) : rgLB [.int n] = some (.lst (rngD 0 n.toNat)) := if_pos (decide_eq_true ⟨by omega, by omega, by omega, by omega, by omega⟩)
theorem z_rgT {n : Int} (h0 : -1000000 ≤ n) (h : n ≤ 16777216) : rgTB [.int n] = some (.tup (rngD 0 n.toNat)) := if_pos (decide_eq_true ⟨by omega, by omega, by omega, by omega, by omega⟩)
/-! ### x -= e, x *= e, x //= e of ints -/
def augSub : List D → Option D := i2 fun i j => some (.int (i - j))
def augMul : List D → Option D := i2 fun i j => if (decide (i.natAbs < 18446744073709551616) || decide (j.natAbs < 18446744073709551616)) = true then some (.int (i * j)) else none
theorem bi_augSub {K : PySem.W.Frag} : BiOk K (r2 (rI0 fun i j => .int (i - j))) augSub := bi_i2 fun i j d H Q e => by cases e; exact ⟨rfl, fun q => ⟨i, j, rfl, rfl, q _ fun _ _ _ => rfl⟩⟩
theorem bi_augMul {K : PySem.W.Frag} : BiOk K (r2 (rI CMul fun i j => .int (i * j))) augMul := bi_i2 fun i j d H Q e => by
  split at e
  · rename_i h
    cases e
    refine ⟨rfl, fun q => ⟨i, j, rfl, rfl, ?_, q _ fun _ _ _ => rfl⟩⟩
    rw [Bool.or_eq_true, decide_eq_true_eq, decide_eq_true_eq] at h
    unfold CMul
    omega
  · cases e
section
variable {s : SC} {i : Nat} {x : Str} {e : Expr} {f : FE} {pos' pos : Pos}
theorem ds_augSub (h1 : St1 s i x) (h : DE s e f) : DS s (.AugAssign (.Name x pos') .Sub e pos) (sAug i augSub f) := ds_aug h1 (fun y => iop_sub) bi_augSub h
theorem ds_augMul (h1 : St1 s i x) (h : DE s e f) : DS s (.AugAssign (.Name x pos') .Mult e pos) (sAug i augMul f) := ds_aug h1 (fun y => iop_mul) bi_augMul h
theorem ds_augDiv (h1 : St1 s i x) (h : DE s e f) : DS s (.AugAssign (.Name x pos') .FloorDiv e pos) (sAug i divB f) := ds_aug h1 (fun y => iop_divD) bi_div h
end
theorem z_augS (i j : Int) : augSub [.int i, .int j] = some (.int (i - j)) := nr rfl
theorem z_augMl {i j : Int} (h : i.natAbs < 18446744073709551616) : augMul [.int i, .int j] = some (.int (i * j)) := by
  show (if _ then _ else _) = _
  rw [decide_eq_true h]; rfl
theorem z_augMr {i j : Int} (h : j.natAbs < 18446744073709551616) : augMul [.int i, .int j] = some (.int (i * j)) := by
  show (if _ then _ else _) = _
  rw [decide_eq_true h, Bool.or_true]; rfl
end DL

set_option maxHeartbeats 4000000
namespace L2
open PySem PySem.Spec PyProof.Rows
/-! ### tuple * 1: the same tuple -/
theorem tuple_mulW1 (l : Addr) (items : Array Value) (n : Nat) (dd : Option Addr) (sl : Array (Option Value)) (u : Tok) :
    Meets (Builtin.«tuple.__mul__» ⟨[.ref l, .int 1 u], []⟩) (fun _ R s => s.heap.get? l = some { cls := .type "tuple", dict := dd, data := .seq items n, slots := sl } ∧
      R (.ok (.ret (.ref l))) s) :=
  .of_wp fun prog w A R s h => by
    obtain ⟨hp, g, d, tk, os⟩ := s
    obtain ⟨hl, h⟩ := h
    have f1 := AutoSeq1.idx_int
    have c1 : (items.isEmpty || (1 : Int) == 1) = true := by rw [Bool.or_eq_true]; exact .inr rfl
    wp_walk using wpAny_loadPart' hl
    repeat (first
      | (refine wpAny_ite_true (decide_eq_true c1) ?_; wp_walk using wpAny_loadPart' hl)
      | (refine wpAny_ite_false (by decide) ?_; wp_walk using wpAny_loadPart' hl))
    exact ⟨_, rfl, h⟩
def rRepT1 (K : PySem.W.Frag) : R2 := fun x y H Q => ∃ l xs, x = .ref l ∧ y = .int 1 ∧ SqT K H l xs ∧ Q (.ref l) H
section
variable {X : Cx}
theorem op_repT1 : OpR X (binaryOp .Mult) (rRepT1 X.K) := by
  intro pins s σ H x y v u Q I rx ry h
  obtain ⟨l, xs, rfl, rfl, hT, q⟩ := h
  cases rx
  obtain ⟨t, rfl⟩ := ry
  obtain ⟨its, r, ⟨⟨cls, dd, data, sl⟩, ho, hc, n, hd⟩, hs⟩ := I.tuple hT
  simp only at hc hd
  subst hc hd
  exact wpAny_binaryOp_repeat_ref (T := "tuple") (U := "int") (by decide) ⟨_, ho, rfl⟩ (fun s' => typeIs_int s' 1 t) noFill_tuple_mul F.fills_int_mul F.slot_int_rmul repeat_tuple F.slot_int_index.lookup
    (call_meets F.slot_int_rmul (typeIs_int s 1 t) F.entry_int_rmul (F.args_int_rmul_2 _ _) (int_rmul_tuple 1 t l its.toArray n dd sl)
      ⟨ho, rfl, ⟨_, ho, rfl⟩, call_meets F.slot_tuple_mul ⟨_, ho, rfl⟩ F.entry_tuple_mul (F.args_tuple_mul_2 _ _) (tuple_mulW1 l its.toArray n dd sl t) ⟨ho, ⟨.ref l, _, I, rfl, q⟩⟩⟩)
end
end L2
namespace DL
open PySem PySem.Spec PyProof.Rows L2
def mulE (ds : List D) : Option D := match ds with
  | [.tup xs, .int 1] => some (.tup xs)
  | _ => mulC ds
theorem bi_mulE {K : PySem.W.Frag} : BiOk K (r2 fun x y H Q => (mulR K x y H Q ∨ rRepT K x y H Q) ∨ rRepT1 K x y H Q) mulE := by
  intro Z H vs ds d Q hz hr hb q
  unfold mulE at hb
  split at hb
  · rename_i xs
    obtain ⟨v, u, rfl, h1, h2⟩ := hr.two
    cases hb
    obtain ⟨a, ws, rfl, s, r⟩ := h1.tup
    exact .inr ⟨a, ws, rfl, h2.int, s.sq, q _ _ Grow.refl (h1.elim id fun ⟨_, _, t⟩ => t.elim)⟩
  · have z := bi_mulC (K := K) Z H vs ds d Q hz hr hb q
    obtain ⟨v, u, rfl⟩ : ∃ v u, vs = [v, u] := by
      match vs, z with
      | [v, u], _ => exact ⟨v, u, rfl⟩
    exact .inl z
theorem de_mulE {s : SC} {x z : Expr} {a c : Ag} {pos : Pos} (h1 : DAg s x a) (h2 : DAg s z c) : DE s (.BinOp x .Mult z pos) (fApp mulE [a, c]) := de_bin (fun y => (op_mulD.or op_repT).or op_repT1) bi_mulE h1 h2
theorem z_mulE1 {xs : List D} : mulE [.tup xs, .int 1] = some (.tup xs) := rfl
theorem z_mulEi {i j : Int} : mulE [.int i, .int j] = mulC [.int i, .int j] := rfl
theorem z_mulEl {xs : List D} {j : Int} : mulE [.lst xs, .int j] = mulC [.lst xs, .int j] := rfl
theorem z_mulEt {xs : List D} {k : Int} (h : 1 ≤ k) (h1 : k ≤ 1000) (h2 : 0 < xs.length) (h3 : xs.length ≤ 1000) : mulE [.tup xs, .int k] = some (.tup (repL xs k.toNat)) := by
  by_cases e : k = 1
  · subst e
    rw [z_mulE1]
    have e1 : repL xs (1 : Int).toNat = xs := by
      show (List.replicate 1 xs).flatten = xs
      simp
    rw [e1]
  · have e1 : mulE [.tup xs, .int k] = mulC [.tup xs, .int k] := by
      unfold mulE
      split
      · rename_i w
        simp only [List.cons.injEq, D.int.injEq, and_true] at w
        exact absurd w.2 e
      · rfl
    rw [e1]
    unfold mulC
    have h4 : (decide (2 ≤ k) && decide (k ≤ 1000) && decide (0 < xs.length) && decide (xs.length ≤ 1000)) = true := by
      simp only [Bool.and_eq_true, decide_eq_true_eq]
      omega
    simp only [h4, if_true]
theorem repL1 {d : D} {k : Nat} : repL [d] k = List.replicate k d := by
  induction k with
  | zero => rfl
  | succ k ih => show [d] ++ repL [d] k = _; rw [ih]; rfl
theorem z_mulE_1 {d : D} {k : Int} (h : 1 ≤ k) (h1 : k ≤ 1000) : mulE [.tup [d], .int k] = some (.tup (List.replicate k.toNat d)) := by rw [z_mulEt h h1 (by simp) (by simp), repL1]
end DL

set_option maxHeartbeats 2000000
namespace DL
open PySem PySem.Spec PyProof.Rows L2
/-! ### x[k] += e, on a list of integers -/
section
variable {X : Cx}
def rGetL (K : PySem.W.Frag) : V → V → Hp → VK → Prop := fun o i H Q => ∃ p xs k v, o = .ref p ∧ i = .int k ∧ SqL K H p xs ∧ 0 ≤ k ∧ atI xs k = some v ∧ Q v H
theorem get_list : PGet X (rGetL X.K) := by
  intro pins s σ H o i ov iv Q I ro ri h
  obtain ⟨p, xs, i, z, rfl, rfl, hq, h0, he, q⟩ := h
  cases ro
  obtain ⟨t, rfl⟩ := ri
  obtain ⟨its, r, pl, hz⟩ := I.list hq
  obtain ⟨j, h1, h2, h3, h4, h5⟩ := atI_get he
  obtain ⟨w, ew, rw'⟩ := r.get h2
  have hl := r.length
  have hn := line63
  have hj : i.toNat = j := by
    rw [seqIndex_of h0 h5] at h1
    exact Option.some.inj h1
  exact wpAny_getItem_list pl.isList h0 (by omega) (by rw [hj]; simpa using ew) ⟨z, H, I, rw', q⟩
end
section
variable {g : G} {W : WX} {C : Ck}
def sPutA (i : Nat) (p : Int → Int → Int) (fi fe : FE) : FS := fun ρ => if (lstAt ρ i).isSome = true then (fi ρ).bs fun k ρ1 => match k, lstAt ρ1 i with
    | .int n, some ds => if 0 ≤ n then match atD ds n with
      | some (.int a) => (fe ρ1).bs fun d ρ2 => match d, lstAt ρ2 i with
        | .int b, some ds2 => match ixN ds2.length n with
          | some m => .nx (ρ2.set i (.own (.lst (ds2.set m (.int (p a b))))))
          | none => .bad
        | _, _ => .bad
      | _ => .bad
      else .bad
    | _, _ => .bad
  else .bad
theorem trs_putA {i : Nat} {t ti : TE} {f fi : FE} {p : Int → Int → Int} (h : TrE g W t f) (hi : TrE g W ti fi) : TrS g W (tAugS (tVar i) ti t (rGetL g.K) (ipI p) rSetL) (sPutA i p fi f) := by
  intro C ρ σ H D' j q
  unfold sPutA at q
  split at q
  · rename_i hs
    obtain ⟨ds0, e0⟩ := Option.isSome_iff_exists.mp hs
    obtain ⟨a, vs0, ha, hl0, r0⟩ := j.ownL (lstAt_some e0)
    refine ⟨_, ha, ?_⟩
    refine PostG.st hi j q fun k ρ1 w H1 j1 k1 r1 p1 => ?_
    split at p1
    · rename_i n ds e1
      split at p1
      · rename_i hn
        split at p1
        · rename_i av ea
          obtain ⟨b, vs, hb, hl, r⟩ := j1.ownL (lstAt_some e1)
          rw [ha] at hb; cases hb
          unfold atD at ea
          rw [Option.bind_eq_some_iff] at ea
          obtain ⟨jj, ea1, ea2⟩ := ea
          obtain ⟨w2, e3, r3⟩ := r.get' ea2
          have e4 : atI vs n = some w2 := by unfold atI; rw [r.length, ea1]; exact e3
          have e5 : w2 = .int av := r3
          subst e5
          refine ⟨a, vs, n, .int av, rfl, r1, SqL.of hl, hn, e4, ?_⟩
          refine PostG.st h j1 p1 fun d ρ2 v H2 j2 k2 r2 p2 => ?_
          split at p2
          · rename_i bv ds2 e6
            split at p2
            · rename_i m em
              obtain ⟨b, vs2, hb, hl2, rr⟩ := j2.ownL (lstAt_some e6)
              rw [ha] at hb; cases hb
              have e7 : v = .int bv := r2
              refine ⟨av, bv, rfl, e7, ?_⟩
              exact ⟨a, vs2, n, m, rfl, r1, hl2, by rw [rr.length]; exact em, p2 _ _ (j2.setL (lstAt_some e6) ha (rr.set (show Rp _ _ _ (V.int (p av bv)) (D.int (p av bv)) from rfl) m))⟩
            · exact p2.elim
          · exact p2.elim
        · exact p1.elim
      · exact p1.elim
    · exact p1.elim
  · exact q.elim
end
section
variable {s : SC} {i : Nat} {x : Str} {e k : Expr} {f fk : FE} {p1 p2 pos : Pos}
theorem ds_putAdd (h : DE s e f) (hk : DE s k fk) (hN : s.N[i]? = some x := by rfl) (hv : Vis s.sc x := by first | exact Or.inl rfl | exact Or.inr (Or.inl rfl) | exact Or.inr (Or.inr rfl)) (hd : (x == ("__debug__" : Str)) = false := by decide) (hcd : (x == ("__classdict__" : Str)) = false := by decide)
    (ha : ∀ ov iv new, augStore k ov iv new = (do holding [new, ov, iv] (setItem ov iv new); release [new, ov, iv] []; pure .next) := by intros; rfl) : DS s (.AugAssign (.Subscript (.Name x p1) k p2) .Add e pos) (sPutA i (fun a b => a + b) fk f) := fun W =>
  let ⟨t, q1, q2⟩ := h W; let ⟨u, q3, q4⟩ := hk W
  ⟨_, trs_putA q1 q3, fun y fi kk => ps_augS (pe_var hN hv hd hcd) (q4 y fi kk) get_list (q2 y fi kk) ip_add set_list ha⟩
theorem ds_putSub (h : DE s e f) (hk : DE s k fk) (hN : s.N[i]? = some x := by rfl) (hv : Vis s.sc x := by first | exact Or.inl rfl | exact Or.inr (Or.inl rfl) | exact Or.inr (Or.inr rfl)) (hd : (x == ("__debug__" : Str)) = false := by decide) (hcd : (x == ("__classdict__" : Str)) = false := by decide)
    (ha : ∀ ov iv new, augStore k ov iv new = (do holding [new, ov, iv] (setItem ov iv new); release [new, ov, iv] []; pure .next) := by intros; rfl) : DS s (.AugAssign (.Subscript (.Name x p1) k p2) .Sub e pos) (sPutA i (fun a b => a - b) fk f) := fun W =>
  let ⟨t, q1, q2⟩ := h W; let ⟨u, q3, q4⟩ := hk W
  ⟨_, trs_putA q1 q3, fun y fi kk => ps_augS (pe_var hN hv hd hcd) (q4 y fi kk) get_list (q2 y fi kk) ip_sub set_list ha⟩
end
end DL

set_option maxHeartbeats 2000000
namespace DL
open PySem PySem.Spec PyProof.Rows L2
/-! ### a lambda with one default value: lambda of=0: .. -/
abbrev fnD (qual : Str) (pa : Arguments) (bo : Expr) (sc : Scope) (cl : List (Str × Addr)) (pm cdv ct dv : Value) : FuncData :=
  { PySem.W.kla_fn "<lambda>" qual pa bo sc cl pm cdv ct with defaults := dv }
abbrev objD (qual : Str) (pa : Arguments) (bo : Expr) (sc : Scope) (cl : List (Str × Addr)) (pm : Value) (c2 : Value) (ct dv : Value) : Obj :=
  { cls := .type "function", data := .func (fnD qual pa bo sc cl pm c2 ct dv) }
section
variable {M : Model} {A : Around} {E : Value → Shared → Prop} {s : Shared} {qual : Str} {params : Arguments} {body : Expr} {scope : Scope} {env : Env} {c P : Addr} {ps : Array Value} {pos : Pos} {fl : Nat} {mg : Str → Option Value}
  {clos : List (Str × Addr)} {Q : Value → Shared → Prop} {dV : Value}
theorem tailD (hcl : closureFor scope env = pure clos) (ge : env.globals = mainGlobals) (hg : s.heap.Ns mainGlobals mg) (hcode : env.code = .ref c) (C : PySem.W.CodeHd s.heap c P) (hP : s.heap.get? P = some (PySem.W.tabObj ps)) (ht : TriplesOk ps.toList)
    (hnf : codeAmong pos ps.toList = none) (hgP : mainGlobals ≠ P) (hb : s.heap.BuiltinsAt mg P)
    (h : ∀ c' ctv h' tk, Heap.ExtBut P s.heap h' → s.heap.objs.size ≤ c' → c' < h'.objs.size → h'.CodeRec (.ref c') qual → h'.get? P = some (PySem.W.tabObj (ps ++ #[rawInt pos.line, rawInt pos.col, .ref c'])) →
      Q (.ref h'.objs.size) { s with heap := h'.push (objD qual params body scope clos ((mg "__name__").getD .none) (.ref c') ctv dV), toks := tk }) :
    wpAny M A (makeTail "<lambda>" qual params (.expr body) scope env dV .none none pos fl) Q E s := by
  obtain ⟨bm, ob, b1, b2, _, b3, b4, b5, b6, b7⟩ := hb
  unfold makeTail
  rw [hcl, ge]
  refine wpAny_bind (wpAny_pure ?_)
  by_cases z : clos = []
  · subst z
    simp only [List.isEmpty_nil, if_true]
    refine wpAny_bind (wpAny_pure (wpAny_bind (wpAny_functionCodeX hcode (C.code hP ht) (C.tab hP) hnf fun c' h' tk hx hge hlt _ hrec htb _ => ?_)))
    have hg' := hg.extBut hx hgP
    refine wpAny_bind (wpAny_builtinsFor hg' b1 b2 (hx _ _ b3 b4) b5 b6 b7 (wpAny_bind (wpAny_nsGet hg' (wpAny_bind (wpAny_pure (wpAny_newObj_type (h c' .none h' tk hx hge hlt hrec htb.2) (by size_fits)))))))
  · have z2 : clos.isEmpty = false := by cases clos with | nil => exact absurd rfl z | cons _ _ => rfl
    simp only [z2, Bool.false_eq_true, if_false]
    refine wpAny_bind (wpAny_newTextTuple ?_)
    have kp : ∀ (o : Obj) b x, s.heap.get? b = some x → (s.heap.push o).get? b = some x := fun o b x e => Heap.get?_push_of_some _ e
    refine wpAny_bind (wpAny_functionCodeX hcode ((C.keeps (kp _)).code (kp _ _ _ hP) ht) ((C.keeps (kp _)).tab (kp _ _ _ hP)) hnf fun c' h' tk hx hge hlt _ hrec htb _ => ?_)
    have hg' := (hg.push _).extBut hx hgP
    have hx2 : Heap.ExtBut P s.heap h' := fun b o n e => hx b o n (kp _ _ _ e)
    refine wpAny_bind (wpAny_builtinsFor hg' b1 b2 (hx2 _ _ b3 b4) b5 b6 b7 (wpAny_bind (wpAny_nsGet hg' (wpAny_bind (wpAny_pure (wpAny_newObj_type (h c' _ h' tk hx2 (Nat.le_trans (by rw [Heap.size_push]; omega) hge) hlt hrec htb.2) (by size_fits)))))))
theorem tailDhit {cv : Value} (hcl : closureFor scope env = pure clos) (ge : env.globals = mainGlobals) (hg : s.heap.Ns mainGlobals mg) (hcode : env.code = .ref c) (C : PySem.W.CodeHd s.heap c P) (hP : s.heap.get? P = some (PySem.W.tabObj ps)) (ht : TriplesOk ps.toList)
    (hf : codeAmong pos ps.toList = some cv) (hb : s.heap.BuiltinsAt mg P)
    (h : ∀ (ctv : Value) (h' : Heap) (tk : Tok), (∀ b o, s.heap.get? b = some o → h'.get? b = some o) → s.heap.objs.size ≤ h'.objs.size →
      Q (.ref h'.objs.size) { s with heap := h'.push (objD qual params body scope clos ((mg "__name__").getD .none) cv ctv dV), toks := tk }) :
    wpAny M A (makeTail "<lambda>" qual params (.expr body) scope env dV .none none pos fl) Q E s := by
  obtain ⟨bm, ob, b1, b2, _, b3, b4, b5, b6, b7⟩ := hb
  unfold makeTail
  rw [hcl, ge]
  refine wpAny_bind (wpAny_pure ?_)
  by_cases z : clos = []
  · subst z
    simp only [List.isEmpty_nil, if_true]
    refine wpAny_bind (wpAny_pure (wpAny_bind (wpAny_functionCode_hit hcode (C.code hP ht) hf ?_)))
    exact wpAny_bind (wpAny_builtinsFor hg b1 b2 b4 b5 b6 b7 (wpAny_bind (wpAny_nsGet hg (wpAny_bind (wpAny_pure (wpAny_newObj_type (h .none s.heap s.toks (fun _ _ e => e) (Nat.le_refl _)) (by size_fits)))))))
  · have z2 : clos.isEmpty = false := by cases clos with | nil => exact absurd rfl z | cons _ _ => rfl
    simp only [z2, Bool.false_eq_true, if_false]
    refine wpAny_bind (wpAny_newTextTuple ?_)
    have kp : ∀ (o : Obj) b x, s.heap.get? b = some x → (s.heap.push o).get? b = some x := fun o b x e => Heap.get?_push_of_some _ e
    refine wpAny_bind (wpAny_functionCode_hit hcode ((C.keeps (kp _)).code (kp _ _ _ hP) ht) hf ?_)
    have sz : ∀ o : Obj, s.heap.objs.size ≤ (s.heap.push o).objs.size := fun o => by rw [Heap.size_push]; omega
    exact wpAny_bind (wpAny_builtinsFor (hg.push _) b1 b2 (kp _ _ _ b4) b5 b6 b7 (wpAny_bind (wpAny_nsGet (hg.push _) (wpAny_bind (wpAny_pure (wpAny_newObj_type (h _ _ s.toks (kp _) (sz _)) (by size_fits)))))))
end
/-- the scope of such a lambda: its one own name d is no slot of the maker -/
structure LamSD (N : List Str) (d : Str) (sc scope : Scope) : Prop where
  kind : scope.kind = .function
  co : scope.isCoroutine = false
  gen : scope.isGenerator = false
  cell : ∀ y ∈ scope.names, y.2 ≠ .cell
  loc : ∀ y ∈ scope.names, y.2 = .local → y.1 = d
  at_ : scope.names.lookup d = some .local
  free : ∀ y ∈ scope.names, y.2 = .free → sc.names.lookup y.1 = some .cell ∨ sc.names.lookup y.1 = some .free
  out : d ∉ N
def lamSDB (N : List Str) (d : Str) (sc scope : Scope) : Bool :=
  decide (scope.kind = .function) && !scope.isCoroutine && !scope.isGenerator && (scope.names.all fun y => !decide (y.2 = .cell) && (!decide (y.2 = .local) || decide (y.1 = d)) && (!decide (y.2 = .free) || decide (sc.names.lookup y.1 = some .cell) || decide (sc.names.lookup y.1 = some .free))) &&
    decide (scope.names.lookup d = some .local) && !N.contains d
theorem lamSD_by {N : List Str} {d : Str} {sc scope : Scope} (h : lamSDB N d sc scope = true) : LamSD N d sc scope := by
  unfold lamSDB at h
  simp only [Bool.and_eq_true, Bool.or_eq_true, Bool.not_eq_true', decide_eq_true_eq, decide_eq_false_iff_not, List.all_eq_true] at h
  obtain ⟨⟨⟨⟨⟨h1, h2⟩, h3⟩, h4⟩, h5⟩, h6⟩ := h
  refine ⟨h1, h2, h3, fun y hy => (h4 y hy).1.1, fun y hy e => ?_, h5, fun y hy e => ?_, fun z => ?_⟩
  · rcases (h4 y hy).1.2 with z | z
    · exact absurd e z
    · exact z
  · rcases (h4 y hy).2 with (z | z) | z
    · exact absurd e z
    · exact .inl z
    · exact .inr z
  · rw [List.contains_iff_mem.mpr z] at h6; cases h6
theorem LamSD.has {X : Cx} {N : List Str} {d : Str} {scope : Scope} (L : LamSD N d X.env.scope scope) (ok : X.Ok) : ∀ y ∈ scope.names, y.2 = .free → ∃ c, X.env.cells.lookup y.1 = some c := fun y hy e => by
  rcases L.free y hy e with k | k
  · exact ok.has _ (.inl k)
  · exact ok.has _ (.inr k)
section
variable {X : Cx} {pins : List (Addr × Obj)} {σ : L2.St} {H HZ : Hp} {s s1 : Shared}
theorem mkLamD {dj : Int} {dk : Nat} {dp : Pos} {c P : Addr} {pa : Arguments} {bo : Expr} {sc : Scope} {at_ : Pos} {E Q : Value → Shared → Prop} (I : Inv X pins σ H s) (B : LamX.TabB X.base X.mg c P) (code : X.env.code = .ref c) (T : LamX.TabS H P (X.env.qual ++ "<lambda>"))
    (dfl : defaultsOf pa X.env = ([eval (.Constant (.int dj) dk dp) X.env], [])) (fr : ∀ y ∈ sc.names, y.2 = .free → ∃ c, X.env.cells.lookup y.1 = some c)
    (go : ∀ (f c2 : Addr) (pm ct : Value) (H1 : Hp) (st : Shared) (t : Addr) (u : Value), Inv X pins σ H1 st → (∀ b o, b ≠ P → H b = some o → H1 b = some o) → LamX.TabS H1 P (X.env.qual ++ "<lambda>") →
      st.heap.get? f = some (objD (X.env.qual ++ "<lambda>") pa bo sc (cloFrom X.env.cells sc.names []) pm (.ref c2) ct (.ref t)) → st.heap.get? t = some { cls := .type "tuple", data := .seq #[u] } → H1 t = none → t ∉ frs X.stack →
      H1 f = none → f ∉ frs X.stack → H1 c2 = some (LamX.CodeO c2 (X.env.qual ++ "<lambda>")) → Q (.ref f) st) :
    wpAny (model X.prog X.w) X.A (eval (.Lambda pa bo sc at_) X.env) Q E s := by
  obtain ⟨ps, hp, tr, am⟩ := T
  rw [arm_eval_Lambda, dfl]
  show wpAny _ _ (do let dv ← evalAll [eval (.Constant (.int dj) dk dp) X.env]; let kdv ← holding dv (evalAllOpt []); makeFunction "<lambda>" (X.env.qual ++ "<lambda>") pa (.expr bo) sc X.env dv kdv [] at_ at_.line) Q E s
  refine wpAny_bind (wpAny_evalAll_cons (wpAny_Constant_int (wpAny_evalAll_nil (wpAny_bind (wpAny_holding (wpAny_pure ?_))))))
  rw [makeFunction_eq]
  simp only [List.zip_nil_right, List.filterMap_nil, List.isEmpty_nil, List.isEmpty_cons, Bool.false_eq_true, if_false, if_true, pure_bind]
  refine wpAny_bind (wpAny_newTextTuple ?_)
  have I0 : Inv X pins σ H { s with heap := s.heap.push { cls := .type "tuple", data := .seq #[.int dj s.toks] }, toks := s.toks + 1 } := I.kept fun b o q => Heap.get?_push_of_some _ q
  have sz0 : s.heap.objs.size < (s.heap.push { cls := .type "tuple", data := .seq #[.int dj s.toks] }).objs.size := by rw [Heap.size_push]; omega
  have ht0 : (s.heap.push { cls := .type "tuple", data := .seq #[.int dj s.toks] }).get? s.heap.objs.size = some { cls := .type "tuple", data := .seq #[.int dj s.toks] } := Heap.get?_push_size _ rfl
  have Ht : H s.heap.objs.size = none := I.hok.fresh (Nat.le_refl _)
  have tP : s.heap.objs.size ≠ P := fun q => by rw [← q, Ht] at hp; cases hp
  have away : ∀ g, s.heap.objs.size ≤ g → g ∉ frs X.stack := fun g hg z => by
    rcases List.mem_cons.mp (I.stkSub _ z) with q | q
    · have below := I.lt
      rw [← q] at below
      exact absurd below (Nat.not_lt.mpr hg)
    · exact I.nofs hg q
  have tr0 := away _ (Nat.le_refl _)
  show wpAny (model X.prog X.w) X.A (makeTail "<lambda>" (X.env.qual ++ "<lambda>") pa (.expr bo) sc X.env (.ref s.heap.objs.size) .none none at_ at_.line) Q E { s with heap := s.heap.push { cls := .type "tuple", data := .seq #[.int dj s.toks] }, toks := s.toks + 1 }
  generalize hs0 : ({ s with heap := s.heap.push { cls := .type "tuple", data := .seq #[.int dj s.toks] }, toks := s.toks + 1 } : Shared) = s0 at I0
  have eh : s0.heap = s.heap.push { cls := .type "tuple", data := .seq #[.int dj s.toks] } := by rw [← hs0]
  rw [← eh] at ht0 sz0
  generalize s.heap.objs.size = t at *
  have pB := B.bm.keeps I0.bk
  have pG := I0.hok P _ hp
  cases hc : codeAmong at_ ps.toList with
  | some cv =>
    obtain ⟨c2, rfl, hco⟩ := am at_ cv hc
    refine tailDhit (mg := X.mg) (c := c) (P := P) (ps := ps) (closure_ok fr) I0.ok.glob (I0.mod.glob.keeps I0.bk) code (B.code.keeps I0.bk) pG tr hc pB fun ct h2 tk ext hsz => ?_
    have J : Inv X pins σ H { s0 with heap := h2.push (objD (X.env.qual ++ "<lambda>") pa bo sc (cloFrom X.env.cells sc.names []) ((X.mg "__name__").getD .none) (.ref c2) ct (.ref t)), toks := tk } := I0.kept fun b o q => Heap.get?_push_of_some _ (ext b o q)
    exact go h2.objs.size c2 ((X.mg "__name__").getD .none) ct H _ t _ J (fun _ _ _ q => q) ⟨ps, hp, tr, am⟩ (Heap.get?_push_size _ rfl) (Heap.get?_push_of_some _ (ext _ _ ht0)) Ht tr0 (I0.hok.fresh hsz) (away _ (by omega)) hco
  | none =>
    refine tailD (mg := X.mg) (c := c) (P := P) (ps := ps) (closure_ok fr) I0.ok.glob (I0.mod.glob.keeps I0.bk) code (B.code.keeps I0.bk) pG tr hc B.gP pB fun c2 ct h2 tk ext ge lt rc htb => ?_
    obtain ⟨c3, oc, vs, tt, ec, hoc, hd, hv⟩ := rc
    cases ec
    have sz : s0.heap.objs.size ≤ h2.objs.size := Nat.le_trans ge (Nat.le_of_lt lt)
    have n2 : H c2 = none := I0.hok.fresh ge
    have nP : P ≠ c2 := ne_of_none hp n2
    have J := LamX.inv_table (t' := tk) (more := #[rawInt at_.line, rawInt at_.col, .ref c2]) (h' := h2.push (objD (X.env.qual ++ "<lambda>") pa bo sc (cloFrom X.env.cells sc.names []) ((X.mg "__name__").getD .none) (.ref c2) ct (.ref t))) I0 hp
      (fun b o nb q => Heap.get?_push_of_some _ (ext b o nb q)) (Heap.get?_push_of_some _ htb) ge ⟨oc, vs, tt, Heap.get?_push_of_some _ hoc, hd, hv⟩
    have keep : ∀ b o, b ≠ P → H b = some o → upd (upd H P (.tbl (ps ++ #[rawInt at_.line, rawInt at_.col, .ref c2]))) c2 (LamX.CodeO c2 (X.env.qual ++ "<lambda>")) b = some o := fun b o nb q => by
      rw [upd_ne (ne_of_none q n2), upd_ne nb]; exact q
    have nF : h2.objs.size ≠ P := Nat.ne_of_gt (Nat.lt_of_lt_of_le (Heap.lt_size pG) sz)
    refine go h2.objs.size c2 ((X.mg "__name__").getD .none) ct _ _ t _ J keep ?_ (Heap.get?_push_size _ rfl) (Heap.get?_push_of_some _ (ext _ _ tP ht0)) ?_ tr0 ?_ (away _ (by omega)) upd_same
    · refine ⟨_, by rw [upd_ne nP, upd_same], ?_, fun p2 cw hw => ?_⟩
      · rw [Array.toList_append]; exact PySem.TriplesOk_snoc _ _ _ _ tr
      · rw [Array.toList_append] at hw
        rcases LamX.among_app _ tr hw with z | z
        · obtain ⟨c0, e1, e2⟩ := am p2 cw z
          refine ⟨c0, e1, keep _ _ (fun q => ?_) e2⟩
          rw [q, hp] at e2
          exact LamX.codeO_ne _ (Option.some.inj e2).symm
        · exact ⟨c2, z, upd_same⟩
    · rw [upd_ne (show t ≠ c2 by omega), upd_ne tP]
      exact Ht
    · rw [upd_ne (Nat.ne_of_gt lt), upd_ne nF]
      exact I0.hok.fresh sz
/-- the frame of such a lambda -/
theorem startD {A : Around} {outer : List Env} {E : XK} {scope : Scope} {f c' : Addr} {h₁ : Heap} {tk : Nat} {d : Str} {u : Value} (I : Inv X pins σ H s) (L : LamSD X.N d X.env.scope scope) (e0 : Env0 X.prog X.w X.K X.mg X.base A outer s1 HZ) (hd : A.handled = none)
    (un : Un (frs X.stack) [] H HZ s.heap s1.heap) (hns : h₁.Ns s1.heap.objs.size fun y => ([(d, u)] : List (Str × Value)).reverse.lookup y) (kp : ∀ b o, s1.heap.get? b = some o → h₁.get? b = some o) :
    Inv (LamX.lamCx X A outer s1 HZ E scope f c') [] σ HZ { s1 with heap := h₁, toks := tk } := by
  have up : ∀ {y c}, (cloFrom X.env.cells scope.names []).lookup y = some c → X.env.cells.lookup y = some c := fun {y c} e => by
    rcases cloFrom_mem (PySem.mem_of_lookup e) with hm | ⟨h1, h2⟩
    · cases hm
    · obtain ⟨c1, hc⟩ := L.has I.ok _ h1 rfl
      have hc : X.env.cells.lookup y = some c1 := hc
      have e2 : c = c1 := by rw [h2, hc] <;> rfl
      rw [e2]
      exact hc
  have dn : ∀ {y}, scope.names.lookup y = some .free → ∃ c, (cloFrom X.env.cells scope.names []).lookup y = some c := fun {y} hl =>
    mem_lookup (cloFrom_has (cells := X.env.cells) (acc := []) (PySem.mem_of_lookup hl))
  have cl : ∀ {c : Addr} {v : Option Value}, H c = none → s.heap.IsCell c v → h₁.IsCell c v := fun {c v} n ⟨o, ho, hd⟩ => by
    obtain ⟨sl, q⟩ := un.any ho n (by simp)
    exact ⟨_, kp _ _ q, hd⟩
  have no : ∀ b : Addr, b ∉ (LamX.lamCx X A outer s1 HZ E scope f c').ex := fun b z => absurd (show b ∈ ([] : List Addr) from z) (by simp)
  refine ⟨⟨e0.mod, L.kind, rfl, rfl, Nat.le_refl _, fun y z c e1 e2 => I.ok.inj y z c (up e1) (up e2), fun y hy => ?_, fun y c z _ => ?_, fun _ => hd, Around.frames_deeper e0.frames, .inr ⟨rfl, rfl⟩, fun b z => absurd z (no b), e0.bs, e0.bsz, fun b _ _ => no b,
      fun b z => absurd z (no b), e0.funs, e0.frf⟩,
    rfl, e0.bare, Un.kept kp, ⟨_, hns, fun i y v e1 e2 e3 => ?_⟩, fun y c e => ?_, e0.hok.fresh (Nat.le_refl _), fun y c e => ?_, fun q hq => absurd (show q ∈ ([] : List (Addr × Obj)) ++ [] from hq) (by simp), e0.hok.kept kp, I.len⟩
  · have hy : scope.names.lookup y = some .cell ∨ scope.names.lookup y = some .free := hy
    rcases hy with hy | hy
    · exact absurd rfl (L.cell _ (PySem.mem_of_lookup hy))
    · exact dn hy
  · have z : false = true := z
    cases z
  · have e3 : Vis scope y := e3
    have e1 : X.N[i]? = some y := e1
    rcases e3 with k | k | k
    · exact absurd (List.mem_of_getElem? e1) (by rw [show y = d from L.loc _ (PySem.mem_of_lookup k) rfl]; exact L.out)
    · exact absurd rfl (L.cell _ (PySem.mem_of_lookup k))
    · obtain ⟨m, hn, hl⟩ := I.loc
      have hvis : Vis X.env.scope y := (L.free _ (PySem.mem_of_lookup k) rfl).elim (fun k => .inr (.inl k)) (fun k => .inr (.inr k))
      obtain ⟨w', r, q⟩ := hl i y v e1 e2 hvis
      obtain ⟨c2, h2⟩ := dn k
      refine ⟨w', r, .inr ⟨.inr k, c2, h2, ?_⟩⟩
      have c1 := up h2
      rcases q with ⟨k', _⟩ | ⟨_, c3, e', z⟩
      · have k' : X.env.scope.names.lookup y = some .local := k'
        rcases L.free _ (PySem.mem_of_lookup k) rfl with k2 | k2 <;> rw [show X.env.scope.names.lookup y = _ from k2] at k' <;> cases k'
      · rw [c1] at e'
        cases e'
        exact cl (I.freeC y _ c1) z
  · obtain ⟨w', z⟩ := I.cell y c (up e)
    exact ⟨w', cl (I.freeC y c (up e)) z⟩
  · obtain ⟨v, o, ho, hd⟩ := I.cell y c (up e)
    exact un.free c o ho (I.freeC y c (up e)) (by simp)
/-- it is called -/
theorem actD {E0 : XK} {CXg : CXT} {N2 : List Str} {q2 : Str} {sg : Scope} {g f c2 t : Addr} {u0 : Value} {dn : Str} {cd pm ct : Value} {pa : Arguments} {bo : Expr} {sc : Scope} {k : Nat} {a : Str} {pn : List (Addr × Obj)} {xe : Value → Shared → Prop} {W : WX} {tb : XK → TE} {p1 p2 : Pos}
    (I : Inv X pins σ H s) (L : LamSD X.N dn X.env.scope sc) (hf : s.heap.get? f = some (objD (X.env.qual ++ "<lambda>") pa bo sc (cloFrom X.env.cells sc.names []) pm (.ref c2) ct (.ref t))) (ht : s.heap.get? t = some { cls := .type "tuple", data := .seq #[u0] }) (htn : H t = none) (htr : t ∉ frs X.stack) (hn : H f = none) (hr : f ∉ frs X.stack)
    (bnd : ∃ kk, bindArgs (fnD (X.env.qual ++ "<lambda>") pa bo sc (cloFrom X.env.cells sc.names []) pm (.ref c2) ct (.ref t)) ⟨[], []⟩ = seqItems? (.ref t) >>= kk ∧ ∀ u, kk (some #[u]) = pure [(dn, u)])
    (tk : Takes ((cxOf CXg X.prog X.w X.K X.mg X.base N2 q2 sg g cd X.A X.stack s H E0).tr pn xe) W) (rm : Room (k + 1) (X.A.deeper (envOfC q2 sg s.heap.objs.size g cd)))
    (body : ∀ (E : XK) (A : Around) (outer : List Env) (s : Shared) (H : Hp), A.guards = X.A.guards → Room k (A.deeper (LamX.lamEnv X sc s.heap.objs.size f c2)) → PE (LamX.lamCx X A outer s H E sc f c2) bo (tb E))
    (hN : N2[0]? = some a) (hv : Vis sg a) (hd : (a == ("__debug__" : Str)) = false) (hcd : (a == ("__classdict__" : Str)) = false) :
    PE ((cxOf CXg X.prog X.w X.K X.mg X.base N2 q2 sg g cd X.A X.stack s H E0).tr pn xe) (.Call (.Name a p1) [] [] p2)
      ((LamI.mk f c2 (X.env.qual ++ "<lambda>") fun E H Q => tb E σ H Q).act W) := by
  obtain ⟨kk, bk, bv⟩ := bnd
  constructor
  intro pinsZ sZ τ HZ Q IZ ⟨e0, eC, hb⟩
  apply wpAny_Call_Name_kw
  refine thn ((pe_var (pos := p1) (i := 0) hN hv hd hcd).run pinsZ sZ τ HZ (fun v H1 => v = .ref f ∧ H1 = HZ) IZ ⟨.ref f, e0, rfl, rfl⟩) fun u s1 ⟨v, H1, I1, r1, y⟩ => ?_
  obtain ⟨rfl, eH⟩ := y
  subst eH
  obtain rfl : u = Value.ref f := r1
  have o1 := I1.base.keep f _ hf hn hr (fun z => nomatch (show f ∈ ([] : List Addr) from z))
  have o2 := I1.base.keep t _ ht htn htr (fun z => nomatch (show t ∈ ([] : List Addr) from z))
  apply PySem.W.callWith_F0 ⟨_, _, _, _, o1⟩
  obtain ⟨⟨oc, vs, tt, hoc, hdc, hvc⟩, _, _⟩ := I1.hok c2 _ eC
  have un : Un (frs X.stack) [] H H1 s.heap s1.heap := I1.base
  have run : codeAny (model X.prog X.w) (X.A.deeper (envOfC q2 sg s.heap.objs.size g cd)) (.call (.ref f) ⟨[], []⟩) (CR (L2.CX X.prog X.w) (envOfC q2 sg s.heap.objs.size g cd :: X.stack) X.prog X.w H1 s1 Q (WE W τ)) s1 := by
    apply PySem.W.kla_callFunE rm.depth o1 rfl L.co L.gen rfl ⟨c2, oc, vs, tt, rfl, hoc, hdc, hvc⟩
    rw [bk]
    refine wpAny_bind (wpAny_seqItems o2 rfl ?_)
    rw [bv]
    refine wpAny_pure (wpAny_newFunctionEnv (fun y hy => L.cell y hy) (fun y hy => by rw [List.mem_singleton.mp hy]; exact L.at_) (fun h3 ns hsb => ⟨I1.nolimit.fresh _ hsb, ?_⟩) L.kind)
    have kp : ∀ b o, s1.heap.get? b = some o → h3.get? b = some o := fun b o q => hsb.extBut b o (Nat.ne_of_lt (Heap.lt_size q)) (Heap.get?_push_of_some _ q)
    have J := startD (E := WE W τ) (tk := s1.toks + ([(dn, u0)] : List (Str × Value)).length) (c' := c2) (f := f) I L I1.env0 rm.hd un ns kp
    refine PySem.W.kla_codeExpr (wpAny_mono ((body (WE W τ) (X.A.deeper (envOfC q2 sg s.heap.objs.size g cd)) _ s1 H1 rfl (rm.deeper _)).run [] _ _ H1 Q J hb) (fun v s3 hq => ?_) fun _ _ z => z)
    obtain ⟨w3, H3, J3, rv, q⟩ := hq
    exact ⟨w3, H3, J3.os, J3.bare, J3.base, J3.hok, rv, q⟩
  have px := passAt tk τ
  refine wpAny_call (codeAny_mono run fun r s3 hq => ?_)
  match r, hq with
  | .error e, hq => exact px pinsZ H1 s1 e s3 I1 hq
  | .ok (.ret u), hq => exact I1.after hq
  | .ok .next, hq => exact hq.elim
  | .ok .brk, hq => exact hq.elim
  | .ok .cont, hq => exact hq.elim
end
section
variable {s : SC}
theorem de_lamED {dn : Str} {dj : Int} {dk : Nat} {dp : Pos} {x : Str} {c P0 : Addr} {q : Str} {k kb n : Nat} {b : RG → Sl → RG} {pa : Arguments} {bo : Expr} {sc : Scope} {fb : FE} {p lp pos : Pos} (kh : Nat) (vs : List Nat) (Cl : CalLE s.P s.w s.K s.mg s.base x k n b) (hbd : DE (s.lamS sc kb) bo fb) (mk : s.mkr = some (c, P0, q)) (hT : (P0, q) ∈ s.T) (uq : ∀ p ∈ s.T, p.1 = P0 → p = (P0, q))
    (hk : kb + 1 ≤ k) (hk2 : k + 1 ≤ s.k) (L : LamSD s.N dn s.sc sc) (bnd : ∀ (q : Str) (cl : List (Str × Addr)) (pm cv ctv : Value) (T : Addr), ∃ kk, bindArgs (fnD q pa bo sc cl pm cv ctv (.ref T)) ⟨[], []⟩ = seqItems? (.ref T) >>= kk ∧ ∀ u, kk (some #[u]) = pure [(dn, u)])
    (hdef : ∀ env, defaultsOf pa env = ([eval (.Constant (.int dj) dk dp) env], []) := by intro _; rfl) (hg : s.sc.names.lookup x = some .globalImplicit := by rfl) (he : s.e = none := by rfl) (hlf : s.lf = none := by rfl) (hc : s.calm = true := by rfl) (hdb : (x == ("__debug__" : Str)) = false := by decide)
    : DE s (.Call (.Name x p) [.Lambda pa bo sc lp] [] pos) (fLamE (fun o => runLE n (b o)) kh vs fb) := fun W => by
  obtain ⟨a, N, sg, g, pg, bg, fd, F⟩ := Cl
  have hx : ∀ E : XK, ∃ t, TrE (s.lamS sc kb).g (fun cls d _ H => E cls d H) t fb ∧ ∀ y, Fit (s.lamS sc kb) y → Takes ((s.lamS sc kb).cx y) (fun cls d _ H => E cls d H) → PE ((s.lamS sc kb).cx y) bo t := fun E => hbd fun cls d _ H => E cls d H
  refine ⟨tLamG s P0 q N sg bg k (fun E => (hx E).choose) W, ?_, fun y fi tk => ?_⟩
  · intro C ρ σ H Q j p
    refine ⟨j.tab _ (by rw [j.gt]; exact hT), fun f c2 H1 ke tab hf hco => ?_⟩
    have j1 : J s.g C ρ σ H1 := j.table hT uq ke tab
    have jf : J s.g C (freezeR ρ vs) σ H1 := j1.freezes vs
    have ge : s.g.e = none := by show (s.e <|> s.lf) = none; rw [he, hlf]; rfl
    unfold fLamE at p
    generalize freezeR ρ vs = ρf at jf p
    cases e0 : lstAt ρf kh with
    | none => rw [e0] at p; exact p.elim
    | some hd =>
    rw [e0] at p
    simp only at p
    obtain ⟨a0, hv, hσ, hl0, r0⟩ := jf.ownL (lstAt_some e0)
    have oa : own ρf σ a0 := ⟨kh, _, lstAt_some e0, hσ⟩
    have ok : LamOkE s.K s.mg H1 (Av C.Z ρf σ) a0 ⟨f, c2, q, fun E H Q => (hx E).choose σ H Q⟩ (outcE kh (fb (hideBut kh ρf))) := by
      refine ⟨hco, fun HZ gr Z E Q2 dom hz za r => ?_⟩
      have o1 : ∀ {b}, own (hideBut kh ρf) σ b → b = a0 := fun {b} o => by
        obtain ⟨d, _, h2⟩ := own_hide o
        rw [hσ] at h2; cases h2; rfl
      have st : ∀ b, ¬ Av C.Z ρf σ b → (∃ o, H1 b = some o) → ¬ Av (fun b => (Z b ∨ Av C.Z ρf σ b) ∧ b ≠ a0) (hideBut kh ρf) σ b ∧ ∀ o, H1 b = some o → HZ b = some o := fun b n e => by
        refine ⟨fun y => ?_, fun o q => gr b o q⟩
        rcases y with ⟨y, nb⟩ | y
        · rcases y with y | y
          · rcases hz b y with y2 | y2
            · obtain ⟨o, e⟩ := e; rw [y2] at e; cases e
            · exact n y2
          · exact n y
        · exact n (by rw [o1 y]; exact .inr oa)
      have jl : J (s.lamS sc kb).g ⟨HZ, fun b => b = a0, fun b => (Z b ∨ Av C.Z ρf σ b) ∧ b ≠ a0, none, []⟩ (hideBut kh ρf) σ HZ := by
        refine ⟨?_, fun i s' h => ?_, fun i m d e b h1 h2 _ _ => ?_, fun b o e _ => e, fun b o e => ⟨o, e⟩, fun b y => ⟨?_, fun o => y.2 (o1 o)⟩, fun b e => (by cases e), (fun p hp => (nomatch hp)), (fun p hp => (nomatch hp)), (fun p hp => (nomatch hp)), rfl, HbOk.none rfl⟩
        · unfold hideBut; rw [List.length_map, List.length_zipIdx]; exact jf.len
        · rcases hide_at h with ⟨d, rfl, rfl, h1⟩ | rfl | ⟨n, h1⟩
          · obtain ⟨b, q1, q2, q3⟩ := jf.slot i _ h1
            rw [hσ] at q1; cases q1
            exact ⟨a0, hσ, Tp.gen (fun b n e => st b n e) (fun o e => gr _ _ e) q2, .inr rfl⟩
          · trivial
          · have y := jf.slot i _ h1
            cases s' with
            | emp => trivial
            | exc => obtain ⟨b, e, _⟩ := y; rw [ge] at e; cases e
            | own d => exact absurd rfl (n d)
            | val d =>
              obtain ⟨v, q1, q2⟩ := y
              exact ⟨v, q1, Rp.gen (fun b n e => st b n e) _ _ q2⟩
        · have kk : ∀ {m : Nat} {x : D}, (hideBut kh ρf)[m]? = some (.own x) → m = kh := fun {m x} h => by
            rcases hide_at h with ⟨d, _, e, _⟩ | z | ⟨n, _⟩
            · exact e
            · cases z
            · exact absurd rfl (n x)
          rw [kk h1, kk h2]
        · rcases y.1 with z | z
          · exact dom b z
          · exact (jf.avSome z).imp fun o e => gr b o e
      have le : ∀ {ρ2 : Sl} {h}, lstAt ρ2 kh = some h → ∀ b, Z b → Av (fun b => (Z b ∨ Av C.Z ρf σ b) ∧ b ≠ a0) ρ2 σ b := fun {ρ2 h} e b z => by
        by_cases hb : b = a0
        · exact .inr ⟨kh, _, lstAt_some e, by rw [hb]; exact hσ⟩
        · exact .inl ⟨.inl z, hb⟩
      have at0 : ∀ {ρ2 : Sl} {H2 h}, J (s.lamS sc kb).g ⟨HZ, fun b => b = a0, fun b => (Z b ∨ Av C.Z ρf σ b) ∧ b ≠ a0, none, []⟩ ρ2 σ H2 → lstAt ρ2 kh = some h → ∃ us, H2 a0 = some (.lst us) ∧ Rps s.K Z H2 us h := fun {ρ2 H2 h} k e => by
        obtain ⟨c, us, h1, h2, h3⟩ := k.ownL (lstAt_some e)
        rw [hσ] at h1; cases h1
        exact ⟨us, h2, Rps.keep (le e) (fun _ _ e _ => e) _ _ h3⟩
      have md : ∀ {ρ2 : Sl} {H2}, J (s.lamS sc kb).g ⟨HZ, fun b => b = a0, fun b => (Z b ∨ Av C.Z ρf σ b) ∧ b ≠ a0, none, []⟩ ρ2 σ H2 → Mod a0 HZ H2 := fun k b o e n => k.ext b o e n
      refine (hx E).choose_spec.1 _ _ σ HZ Q2 jl ?_
      unfold outcE at r
      cases e : fb (hideBut kh ρf) with
      | ok d ρ2 =>
        rw [e] at r
        simp only at r
        cases e2 : lstAt ρ2 kh with
        | none => rw [e2] at r; exact r.elim
        | some h =>
          rw [e2] at r
          exact fun v H2 k rv => let ⟨us, q1, q2⟩ := at0 k e2; r v H2 us (md k) q1 q2 (Rp.keep (le e2) (fun _ _ e _ => e) _ _ rv)
      | ex x ρ2 =>
        rw [e] at r
        simp only at r
        cases e2 : lstAt ρ2 kh with
        | none => rw [e2] at r; exact r.elim
        | some h =>
          rw [e2] at r
          exact fun cls dd H2 k rx => let ⟨us, q1, q2⟩ := at0 k e2; r cls dd H2 us (md k) q1 q2 rx
      | bad => rw [e] at r; exact r.elim
    obtain ⟨tc, h1, h2⟩ := F.go _ H1 (Av C.Z ρf σ) a0 _ (.inr oa) ok (fun cls d _ H => WE W σ cls d H)
    refine ⟨Av C.Z ρf σ, tc, h2, ?_⟩
    have N0 : 0 < N.length := (List.getElem?_eq_some_iff.mp F.at0).1
    have no : ∀ {ρ2 : Sl} {σ2 : L2.St} (b : Addr), own (Slot.exc :: List.replicate (n - 1) .emp) σ2 b → False := fun {ρ2 σ2} b ⟨i, d, h1, _⟩ => by
      cases i with
      | zero => cases h1
      | succ i =>
        rw [List.getElem?_cons_succ, List.getElem?_replicate] at h1
        split at h1 <;> cases h1
    have j0 : J (scL s.P s.w s.K s.mg s.base N sg k ⟨f, c2, q, fun E H Q => (hx E).choose σ H Q⟩ H1 (Av C.Z ρf σ)).g ⟨H1, fun _ => False, Av C.Z ρf σ, none, []⟩ (.exc :: List.replicate (n - 1) .emp) (L2.start N [.ref f]) H1 := by
      refine ⟨?_, fun i s' h => ?_, fun i k d e b h1 h2 h3 h4 => (no (ρ2 := []) b ⟨i, d, h1, h3⟩).elim, fun a o e _ => e, fun a o e => ⟨o, e⟩, fun a z => ⟨jf.avSome z, no (ρ2 := []) a⟩, fun a e => (by cases e), (fun p hp => (nomatch hp)), (fun p hp => (nomatch hp)), (fun p hp => (nomatch hp)), rfl, fun B z e => ?_⟩
      · have := F.ln
        unfold L2.start
        simp
        omega
      · cases i with
        | zero => cases h; exact ⟨f, rfl, start_at (v := .ref f) rfl⟩
        | succ i =>
          rw [List.getElem?_cons_succ, List.getElem?_replicate] at h
          split at h
          · cases h; trivial
          · cases h
      · cases e
        exact ⟨rfl, fun a o e => ⟨e, o, e⟩, fun a z => z.elim, fun a z => .inr z⟩
    refine h1 _ _ H1 _ j0 ?_
    unfold runLE at p
    cases e : b (outcE kh (fb (hideBut kh ρf))) (.exc :: List.replicate (n - 1) .emp) with
    | ok d h =>
      rw [e] at p
      exact fun v H' hv' md ha rr rv => p v H' (jf.writeG (lstAt_some e0) hσ md ⟨hv', ha, rr⟩) (Rp.keep (fun b z => (av_setOwn (lstAt_some e0)).mp z) (fun _ _ e _ => e) _ _ rv)
    | ex x h => rw [e] at p; exact p.elim
    | bad => rw [e] at p; exact p.elim
  · obtain ⟨TB, code, eq⟩ := fi.mka c P0 q mk
    subst eq
    obtain ⟨oc, od, dV, kV, doc, pm, an, cd, ct, osl, rfl, lk, hcd, _, _⟩ := F.fn.ex
    have room := (fi.room.resolve_right (by rw [hc]; decide)).mono hk2
    refine ⟨fun pins st σ H Q I h => ?_⟩
    obtain ⟨tH, h⟩ := h
    refine wpAny_Call_Name_kw (ld_glob I hg F.gm ?_ hdb)
    refine PySem.W.callWith_K (h₀ := s.base) I.ok.mod.kin F.fn.kp ?_ (by rfl) (by rfl)
    show wpAny _ _ (spliced ((false, eval (.Lambda pa bo sc lp) (s.cx y).env) :: backTo pos (starEach [] (s.cx y).env))) _ _ st
    refine Calls.spliced_cons (mkLamD (X := s.cx y) I TB code tH (hdef _) (L.has (X := s.cx y) I.ok) fun f c2 pm' ct' H1 st1 t ito I1 ke tab hf ht htn htr hfn hfr hco => ?_)
    refine Calls.spliced_nil ⟨I1.kIn, ?_⟩
    obtain ⟨z, tc, hp, hz⟩ := h f c2 H1 ke tab hfn hco
    have run : codeAny (model s.P s.w) (s.cx y).A (.call (.ref g) ⟨[.ref f], []⟩) (CR (L2.CX s.P s.w) (s.cx y).stack s.P s.w H1 st1 Q (WE W σ)) st1 := by
      refine LamX.run_ofS (N := N) (ps := [a]) (us := [.ref f]) (vs := [.ref f]) lk hcd F.sc room I1.env0 (F.bi st1 [.ref f] I1.kIn rfl) (.cons rfl .nil) rfl fun hr => ?_
      refine ⟨tc, hp (cxOf (L2.CX s.P s.w) s.P s.w s.K s.mg s.base N x sg g cd (s.cx y).A (s.cx y).stack st1 H1 (WE W σ)) ?_ (takes_of rfl rfl rfl rfl), hz⟩
      refine ⟨fi.gd, .inl hr, hr.units, Nat.lt_of_le_of_lt (Nat.add_le_add_left (Nat.le_trans (by decide) (Nat.le_add_left 200 (16 * k))) _) (by have := hr.un; rw [Nat.add_assoc] at this; exact this), PassesOwn.leaving, fun _ => ⟨rfl, rfl⟩, fun _ => rfl, fun r z => (by cases z), fun L2 z => ?_, fun c P q z => (by cases z), fun a z => (by cases z)⟩
      cases z
      intro pn xe W2 tk2 a2 p1 p2 hN hv hd hcd2
      refine actD (X := s.cx y) (k := kb) (tb := fun E => (hx E).choose) I1 L hf ht htn htr hfn hfr (bnd _ _ _ _ _ _) tk2 (hr.mono hk) (fun E A outer st2 H2 ga rm => (hx E).choose_spec.2 _ (fit_lam (ga.trans fi.gd) rm) (takes_of rfl rfl rfl rfl)) hN hv hd hcd2
    have px := passAt tk σ
    refine wpAny_call (codeAny_mono run fun r s3 hq => ?_)
    match r, hq with
    | .error e, hq => exact px pins H1 st1 e s3 I1 hq
    | .ok (.ret u), hq => exact I1.after hq
    | .ok .next, hq => exact hq.elim
    | .ok .brk, hq => exact hq.elim
    | .ok .cont, hq => exact hq.elim
end
end DL

namespace DL
open PySem PySem.Spec PyProof.Rows L2
/-! What no run of this law comes to: any code, told as `bad` (nothing is promised). -/
def fBad {α : Type} : Sl → RE α := fun _ => .bad
def sBad : FS := fun _ => .bad
section
variable {s : SC}
theorem de_bad (e : Expr) : DE s e fBad := fun W => ⟨fun _ _ _ => False, fun _ _ _ _ _ _ p => p, fun _ _ _ => ⟨fun _ _ _ _ _ _ h => h.elim⟩⟩
/-- name = [..] where name is a cell -/
theorem ds_newC {i : Nat} {x : Str} {e : Expr} {f : FE} {pos' pos : Pos} (h1 : St1 s i x) (h : DN s e f) (hs : ∀ v, swapsWith e (some (.Name x pos')) pos.line (s.cx v).env = pure false := by intro _; rfl) : DS s (.Assign [.Name x pos'] e pos) (sNew i f) := fun W =>
  let ⟨t, q1, q2⟩ := h W
  ⟨_, trs_new h1.m q1, fun y fi k => ps_set h1.nd h1.ix h1.loc (q2 y fi k) (hs y) (h1.fn fi)⟩
theorem ds_bad (st : Stmt) : DS s st sBad := fun W => ⟨fun _ _ _ => False, fun _ _ _ _ _ _ p => p, fun _ _ _ => ⟨fun _ _ _ _ _ _ h => h.elim⟩⟩
end
theorem x_fBad {α : Type} (ρ : Sl) : (fBad ρ : RE α) = .bad := rfl
theorem x_sBad (ρ : Sl) : sBad ρ = .bad := rfl
end DL

namespace DL
open PySem PySem.Spec PyProof.Rows L2
/-! zip of two rows, each a list or a tuple -/
def SqX (t : Bool) (K : PySem.W.Frag) (H : Hp) (a : Addr) (xs : List V) : Prop := match t with
  | true => SqT K H a xs
  | false => SqL K H a xs
def StX (t : Bool) (h : Heap) (it a : Addr) (k : Nat) : Prop := match t with
  | true => h.IsTupleIter it a k
  | false => h.IsListIter it a k
def HsX (t : Bool) (h : Heap) (a : Addr) (its : Array Value) : Prop := match t with
  | true => h.IsTuple a its
  | false => h.IsList a its
theorem StX.keep {t : Bool} {h h' : Heap} {it a : Addr} {k : Nat} (s : StX t h it a k) (e : ∀ o, h.get? it = some o → h'.get? it = some o) : StX t h' it a k := by
  cases t with
  | true => exact Heap.IsTupleIter.at s e
  | false => exact Heap.IsListIter.at s e
theorem HsX.keep {t : Bool} {h h' : Heap} {a : Addr} {its : Array Value} (s : HsX t h a its) (e : ∀ o, h.get? a = some o → h'.get? a = some o) : HsX t h' a its := by
  cases t with
  | true => exact Heap.IsTuple.at s e
  | false => exact Heap.IsList.at s e
theorem StX.obj {t : Bool} {h : Heap} {it a : Addr} {k : Nat} (s : StX t h it a k) : ∃ o, h.get? it = some o ∧ ∀ v, o.data ≠ .cell v := by
  cases t with
  | true => obtain ⟨o, e, _, d⟩ := s; exact ⟨o, e, fun v q => by rw [d] at q; cases q⟩
  | false => obtain ⟨o, e, _, d⟩ := s; exact ⟨o, e, fun v q => by rw [d] at q; cases q⟩
theorem HsX.lt {t : Bool} {h : Heap} {a : Addr} {its : Array Value} (s : HsX t h a its) : a < h.objs.size := by
  cases t with
  | true => obtain ⟨o, e, _⟩ := s; exact Heap.lt_size e
  | false => obtain ⟨o, e, _⟩ := s; exact Heap.lt_size e
theorem sqx_ok {t : Bool} {X : Cx} {pins : List (Addr × Obj)} {σ : L2.St} {H : Hp} {s : Shared} {a : Addr} {xs : List V} (I : Inv X pins σ H s) (h : SqX t X.K H a xs) : ∃ its : List Value, Vals xs its ∧ HsX t s.heap a its.toArray := by
  cases t with
  | true => obtain ⟨its, r, p, _⟩ := I.tuple h; exact ⟨its, r, p⟩
  | false => obtain ⟨its, r, p, _⟩ := I.list h; exact ⟨its, r, p.isList⟩
theorem sqx_inj {t : Bool} {X : Cx} {pins : List (Addr × Obj)} {σ : L2.St} {H : Hp} {s : Shared} {a : Addr} {xs ys : List V} (I : Inv X pins σ H s) (h : SqX t X.K H a xs) (h' : SqX t X.K H a ys) : xs = ys := by
  cases t with
  | true => exact I.tuple_inj h h'
  | false => exact I.list_inj h h'
/-- a row's iterator from its i-th turn on -/
theorem drawsX {prog : Program} {w : World} {A : Around} (hh : A.handled = none) (t : Bool) (it l : Addr) (hne : l ≠ it) (items : Array Value) (i : Nat) :
    Draws prog w A it [it, l] (items.size - i) (fun k v => items[i + k]? = some v) (fun k h => StX t h it l (i + k) ∧ HsX t h l items) where
  live := fun _ _ st => let ⟨o, ho, _⟩ := st.1.obj; ⟨o, ho⟩
  frame := fun _ _ _ st hk => ⟨st.1.keep fun o e => hk it (by simp) o e, st.2.keep fun o e => hk l (by simp) o e⟩
  item := fun k s Q E hi st hQ => by
    have hx : items[i + k]? = some items[i + k] := Array.getElem?_eq_getElem (by omega)
    cases t with
    | true => exact wpAny_nextOf_tuple_item st.1 st.2 hx fun h' hit' hs' => hQ _ h' s.toks hx ⟨hit', Heap.IsTuple.extBut st.2 hs'.extBut hne⟩ hs'
    | false => exact wpAny_nextOf_list_item st.1 st.2 hx fun h' hit' hs' => hQ _ h' s.toks hx ⟨hit', Heap.IsList.extBut st.2 hs'.extBut hne⟩ hs'
  done := fun s Q E st hE => by
    have hx : items[i + (items.size - i)]? = none := Array.getElem?_eq_none (by omega)
    cases t with
    | true => exact wpAny_nextOf_tuple_end hh st.1 st.2 hx hE
    | false => exact wpAny_nextOf_list_end hh st.1 st.2 hx hE
/-- the rows at a and b as they stand at each turn, the items in new pairs -/
def ItzM (t u : Bool) (K : PySem.W.Frag) (a b : Addr) : It :=
  ⟨fun i H => ∃ (xs ys : List V) (x y : V), SqX t K H a xs ∧ SqX u K H b ys ∧ xs[i]? = some x ∧ ys[i]? = some y,
    fun i H v H' => ∃ T x y, v = .ref T ∧ H T = none ∧ H' = upd H T (.tup [x, y]) ∧ (∀ xs, SqX t K H a xs → xs[i]? = some x) ∧ ∀ ys, SqX u K H b ys → ys[i]? = some y,
    fun i H => ∃ xs ys : List V, SqX t K H a xs ∧ SqX u K H b ys ∧ (xs.length ≤ i ∨ ys.length ≤ i)⟩
theorem turn_zipM {t u : Bool} {P : Program} {w : World} {K : PySem.W.Frag} {elts : List Expr} {kk : Nat} {tpos : Pos} {a b z TI TO i1 i2 : Addr} (D : ZipSep2 z TI TO i1 i2 [i1, a] [i2, b]) (na : a ≠ i1) (nb : b ≠ i2) :
    Turn P w K (.Tuple elts kk tpos) (ItzM t u K a b) [z, TI, TO, i1, i2] z (fun i h => IsZip h z TI TO .none ∧ IsTupOf2 h TI (.ref i1) (.ref i2) ∧ (∃ x y, IsTupOf2 h TO x y) ∧ StX t h i1 a i ∧ StX u h i2 b i) where
  mem := by simp
  obj := fun i h st c hc => by
    obtain ⟨hz, hTI, ⟨x, y, hTO⟩, h1, h2⟩ := st
    have e' : c = z ∨ c = TI ∨ c = TO ∨ c = i1 ∨ c = i2 := by simpa using hc
    rcases e' with q | q | q | q | q
    · rw [q]; exact ⟨_, hz, fun v q => nomatch q⟩
    · rw [q]; exact ⟨_, hTI, fun v q => nomatch q⟩
    · rw [q]; exact ⟨_, hTO, fun v q => nomatch q⟩
    · rw [q]; exact h1.obj
    · rw [q]; exact h2.obj
  keep := fun i h h' st k => by
    obtain ⟨hz, hTI, ⟨x, y, hTO⟩, h1, h2⟩ := st
    exact ⟨k z (by simp) _ hz, k TI (by simp) _ hTI, ⟨x, y, k TO (by simp) _ hTO⟩, h1.keep fun o q => k i1 (by simp) o q, h2.keep fun o q => k i2 (by simp) o q⟩
  item := by
    intro X hP hw hK hc i pins s σ H E I hf st hg
    subst hP hw hK
    obtain ⟨hz, hTI, ⟨x0, y0, hTO⟩, h1, h2⟩ := st
    obtain ⟨xs, ys, x, y, hqx, hqy, hx, hy⟩ := hg
    obtain ⟨its, rv, p⟩ := sqx_ok I hqx
    obtain ⟨its2, rv2, p2⟩ := sqx_ok I hqy
    obtain ⟨v, hv, rx⟩ := rv.get hx
    obtain ⟨v2, hv2, rx2⟩ := rv2.get hy
    have hzl : z < s.heap.objs.size := Heap.lt_size hz
    have hh : X.A.in1.handled = none := I.ok.hd hc
    have i12 : i1 ≠ i2 := fun e => D.sep1_2 (by rw [e]; exact D.mem2)
    have gi : i < its.length := by
      rcases Nat.lt_or_ge i its.length with q | q
      · exact q
      · rw [List.getElem?_eq_none q] at hv; cases hv
    have gi2 : i < its2.length := by
      rcases Nat.lt_or_ge i its2.length with q | q
      · exact q
      · rw [List.getElem?_eq_none q] at hv2; cases hv2
    refine wpAny_pyNext_zipD2_item D (drawsX hh t i1 a na its.toArray i) (drawsX hh u i2 b nb its2.toArray i) (i := 0) hz hTI hTO ⟨h1, p⟩ ⟨h2, p2⟩ (by simp; omega) (by simp; omega) fun x1 x2 h' tk y1 y2 z' TO' st1 st2 hT hsz hk => ?_
    have ex1 : x1 = v := by
      have q : its[i]? = some x1 := by simpa using y1
      rw [hv] at q; exact (Option.some.inj q).symm
    have ex2 : x2 = v2 := by
      have q : its2[i]? = some x2 := by simpa using y2
      rw [hv2] at q; exact (Option.some.inj q).symm
    subst ex1 ex2
    refine ⟨_, rfl, wpAny_letOwnedTupleGo_zip (s := { s with heap := h', toks := tk }) z' fun h'' z'' sb => ?_⟩
    have hT2 : h''.get? s.heap.objs.size = some { cls := .type "tuple", data := .seq #[x1, x2] } := (sb.2 _ (Nat.ne_of_gt hzl)).trans hT
    have new : ObjOk X.prog X.w (upd H s.heap.objs.size (.tup [x, y])) h'' s.heap.objs.size (.tup [x, y]) :=
      ⟨by show 2 ≤ sizeLine; decide, [x1, x2], .cons rx (.cons rx2 .nil), ⟨_, hT2, rfl, _, rfl⟩⟩
    have I1 : Inv X pins σ (upd H s.heap.objs.size (.tup [x, y])) { s with heap := h'', toks := tk } :=
      I.turnedNew (t' := tk) (ch := [z, TI, TO, i1, i2]) (fun c o hb q => (sb.2 c (fun q' => hb (by simp [q']))).trans (hk c o (fun q' => hb (by simp [q'])) (fun q' => hb (by simp [q'])) (fun q' => hb (by simp [q'])) (fun q' => hb (by simp [q'])) q)) hf (Nat.le_refl _) new
    refine ⟨.ref s.heap.objs.size, _, I1, rfl, ⟨_, x, y, rfl, I.hok.fresh (Nat.le_refl _), rfl, fun l hl => by rw [sqx_inj I hl hqx]; exact hx, fun l hl => by rw [sqx_inj I hl hqy]; exact hy⟩, ⟨z'', ?_, ⟨x1, x2, ?_⟩, ?_, ?_⟩, fun c hcm => ?_⟩
    · exact (sb.2 _ D.TIz).trans (hk _ _ D.TIz D.TITO D.TIi1 D.TIi2 hTI)
    · exact (sb.2 _ D.TOz).trans TO'
    · exact st1.1.keep fun o q => (sb.2 _ (Ne.symm D.zi1)).trans q
    · exact st2.1.keep fun o q => (sb.2 _ (Ne.symm D.zi2)).trans q
    · have hlt : c < s.heap.objs.size := by
        have e' : c = z ∨ c = TI ∨ c = TO ∨ c = i1 ∨ c = i2 := by simpa using hcm
        rcases e' with q | q | q | q | q
        · rw [q]; exact hzl
        · rw [q]; exact Heap.lt_size hTI
        · rw [q]; exact Heap.lt_size hTO
        · rw [q]; obtain ⟨_, e1, _⟩ := h1.obj; exact Heap.lt_size e1
        · rw [q]; obtain ⟨_, e2, _⟩ := h2.obj; exact Heap.lt_size e2
      rw [upd_ne (Nat.ne_of_lt hlt)]
      exact (hf c hcm).1
  done := by
    intro X hP hw hK hc i pins s σ H E I hf st hg
    subst hP hw hK
    obtain ⟨hz, hTI, ⟨x0, y0, hTO⟩, h1, h2⟩ := st
    obtain ⟨xs, ys, hqx, hqy, hend⟩ := hg
    obtain ⟨its, rv, p⟩ := sqx_ok I hqx
    obtain ⟨its2, rv2, p2⟩ := sqx_ok I hqy
    have l1 := rv.length
    have l2 := rv2.length
    have hh : X.A.in1.handled = none := I.ok.hd hc
    exact wpAny_pyNext_zipD2_end D (drawsX hh t i1 a na its.toArray i) (drawsX hh u i2 b nb its2.toArray i) (i := 0) hz hTI hTO ⟨h1, p⟩ ⟨h2, p2⟩ (Nat.zero_le _) (Nat.zero_le _) (by simp; omega) fun h' tk hk => ⟨rfl, I.turnedL (t' := tk) (ch := [z, TI, TO, i1, i2]) (fun c o hb q =>
      hk c o (fun q' => hb (by simp [q'])) (fun q' => hb (by simp [q'])) (fun q' => hb (by simp [q'])) (fun q' => hb (by simp [q'])) q) hf⟩
  self := fun A i s Q E st h => wpAny_pyIter_zip st.1 h
theorem beginsX (t : Bool) (a : Addr) (its : Array Value) : ∃ o, Begins (.ref a) o (fun h => HsX t h a its) ∧ ∀ h it, h.get? it = some o → StX t h it a 0 := by
  cases t with
  | true => exact ⟨_, begins_tuple a its, fun h it e => ⟨_, e, rfl, rfl⟩⟩
  | false => exact ⟨_, begins_list a its, fun h it e => ⟨_, e, rfl, rfl⟩⟩
def iZipM (K : PySem.W.Frag) (ta : TA) : TI := fun σ H R => ta σ H fun vs H1 => ∃ t u a b xs ys, vs = [.ref a, .ref b] ∧ SqX t K H1 a xs ∧ SqX u K H1 b ys ∧ R (ItzM t u K a b) H1
theorem pi_zipM {X : Cx} {e e2 : Expr} {ta : TA} {p pos tpos : Pos} {elts : List Expr} {kk : Nat} (hg : Gl X "zip") (hm : X.mg "zip" = none) (ha : PA X [e, e2] ta)
    (hs : starEach [e, e2] X.env = (false, eval e X.env) :: starEach [e2] X.env := by rfl) (hpl : (backTo pos (starEach [e2] X.env)).any (·.1) = false := by rfl) :
    PI X (.Tuple elts kk tpos) (.Call (.Name "zip" p) [e, e2] [] pos) (iZipM X.K ta) := by
  refine ⟨fun pins s σ H R I h => ?_⟩
  refine Call_ (ld_blt I hg hm PyProof.Rows.boot_zip (PyProof.Rows.callWith_type1 (thn (ha.run pos pins s σ H _ I h) fun us s1 ⟨vs, H1, I1, r1, q1⟩ => ?_) hs hpl))
  obtain ⟨t, u, a, b, xs, ys, ex, hqx, hqy, q⟩ := q1
  subst ex
  cases r1 with
  | cons r rr =>
    cases rr with
    | cons r' rr =>
      cases rr
      cases r
      cases r'
      have fresh5 : ∀ c, c ∈ [s1.heap.objs.size + 4, s1.heap.objs.size + 2, s1.heap.objs.size + 3, s1.heap.objs.size, s1.heap.objs.size + 1] → FpOk X pins H1 c := fun c hcm => by
        have hle : s1.heap.objs.size ≤ c := by
          simp only [List.mem_cons, List.not_mem_nil, or_false] at hcm
          rcases hcm with z | z | z | z | z <;> (rw [z]; first | exact Nat.le_refl _ | exact Nat.le_add_right _ _)
        exact I1.fpOk hle (I1.hok.fresh hle)
      obtain ⟨its, rv, p1⟩ := sqx_ok I1 hqx
      obtain ⟨its2, rv2, p2⟩ := sqx_ok I1 hqy
      obtain ⟨o1, b1, g1⟩ := beginsX t a its.toArray
      obtain ⟨o2, b2, g2⟩ := beginsX u b its2.toArray
      refine zip_begins2 b1 b2 p1 p2 fun h' hz hTI hTO h1 h2 hsz hk => wpAny_pyIter_zip hz ?_
      have I2 : Inv X pins σ H1 { s1 with heap := h' } := I1.kept (t' := s1.toks) hk
      refine ⟨s1.heap.objs.size + 4, [s1.heap.objs.size + 4, s1.heap.objs.size + 2, s1.heap.objs.size + 3, s1.heap.objs.size, s1.heap.objs.size + 1], _, _, H1, rfl, I2,
        turn_zipM (zip_sep2 (fp1 := [a]) (fp2 := [b]) (fun c hc => by rw [List.mem_singleton.mp hc]; exact p1.lt) (fun c hc => by rw [List.mem_singleton.mp hc]; exact p2.lt)) (Nat.ne_of_lt p1.lt) (Nat.ne_of_lt (Nat.lt_succ_of_lt p2.lt)), ⟨hz, hTI, ⟨_, _, hTO⟩, g1 _ _ h1, g2 _ _ h2⟩, fresh5, q⟩
/-- zip(x, y): each a list or a tuple -/
def zipM : List D → Option (List D)
  | [x, y] => match x.seq, y.seq with
    | some xs, some ys => some (zpD xs ys)
    | _, _ => none
  | _ => none
def fZipM (f f' : FE) : Sl → RE (List D) := fun ρ => (evA [.e f, .e f'] ρ).bd fun ds ρ' => .of (zipM ds) ρ'
def kdT : D → Bool
  | .tup _ => true
  | _ => false
theorem rp_sqx {K : PySem.W.Frag} {Z : Addr → Prop} {H : Hp} {v : V} {d : D} {ds : List D} (h : Rp K Z H v d) (e : d.seq = some ds) : ∃ a vs, v = .ref a ∧ SqX (kdT d) K H a vs ∧ Rps K Z H vs ds := by
  cases d with
  | tup xs => cases e; obtain ⟨a, vs, e, s, r⟩ := id h; exact ⟨a, vs, e, s.sq, r⟩
  | lst xs => obtain ⟨a, vs, e, s, r⟩ := Rq.ls (.inl h) (ds := ds) e; exact ⟨a, vs, e, s, r⟩
  | frl xs => obtain ⟨a, vs, e, s, r⟩ := Rq.ls (.inl h) (ds := ds) e; exact ⟨a, vs, e, s, r⟩
  | _ => cases e
section
variable {g : G} {W : WX}
theorem tri_zipM {t : TA} {f f' : FE} (h : TrA g W t [.e f, .e f']) : TrI g W (iZipM g.K t) (fZipM f f') := by
  intro C ρ σ H R j p
  refine h.step j (fun ds ρ1 e1 vs H1 j1 k1 r0 => ?_) (fun x ρ1 e1 cls dd H1 j1 r1 => ?_) (fun e1 => ?_)
  · simp only [fZipM, RE.bd, e1] at p
    match ds, evA_len _ _ _ _ e1 with
    | [d, e], _ =>
      obtain ⟨v, u, rfl, rv, ru⟩ : ∃ v u, vs = [v, u] ∧ Rp g.K (Av C.Z ρ1 σ) H1 v d ∧ Rp g.K (Av C.Z ρ1 σ) H1 u e := by
        obtain ⟨v, r, e, q, u, r', e', q', z⟩ := rpBs_rps r0
        rw [show r' = [] from z] at e'
        exact ⟨v, u, by rw [e, e'], q, q'⟩
      cases e5 : d.seq with
      | none => simp only [zipM, e5] at p; exact p.elim
      | some xs =>
        cases e6 : e.seq with
        | none => simp only [zipM, e5, e6] at p; exact p.elim
        | some ys =>
          simp only [zipM, e5, e6] at p
          obtain ⟨a, us, rfl, s1, q1⟩ := rp_sqx rv e5
          obtain ⟨b, ws, rfl, s2, q2⟩ := rp_sqx ru e6
          refine ⟨_, _, a, b, us, ws, rfl, s1, s2, p _ H1 j1 (itok_zip fun i A H2 k1 k2 k3 => ?_)⟩
          obtain ⟨a', us', e3, s3, q3⟩ := rp_sqx (Rp.gen (it_keep (C := C) k1 k2) _ _ rv) e5
          obtain ⟨b', ws', e4, s4, q4⟩ := rp_sqx (Rp.gen (it_keep (C := C) k1 k2) _ _ ru) e6
          cases e3; cases e4
          refine ⟨us', ws', q3, q4, fun x y h1 h2 => ⟨⟨us', ws', x, y, s3, s4, h1, h2⟩, fun z H' yl => ?_⟩, fun hs => ⟨us', ws', s3, s4, hs⟩⟩
          obtain ⟨T, x', y', rfl, hT, rfl, z1, z2⟩ := yl
          have w1 := z1 us' s3
          have w2 := z2 ws' s4
          rw [h1] at w1; rw [h2] at w2
          cases w1; cases w2
          exact ⟨T, rfl, hT, rfl⟩
  · simp only [fZipM, RE.bd, e1] at p
    exact p _ _ _ j1 r1
  · simp only [fZipM, RE.bd, e1] at p
end
section
variable {s : SC}
theorem di_zipM {es : List Expr} {kk : Nat} {e e2 : Expr} {f f' : FE} {tp p pos : Pos} (hm : s.mg "zip" = none) (h : DE s e f) (h' : DE s e2 f') (hg : s.sc.names.lookup ("zip" : Str) = some .globalImplicit := by rfl)
    (hs : ∀ env, starEach [e, e2] env = (false, eval e env) :: starEach [e2] env := by intro _; rfl) (hs2 : ∀ env, starEach [e2] env = (false, eval e2 env) :: starEach [] env := by intro _; rfl) (hpl : ∀ env, (backTo pos (starEach [e2] env)).any (·.1) = false := by intro _; rfl) :
    DI s (.Tuple es kk tp) (.Call (.Name "zip" p) [e, e2] [] pos) (fZipM f f') := fun W =>
  let ⟨t, q1, q2⟩ := h W; let ⟨u, q3, q4⟩ := h' W
  ⟨_, tri_zipM (tra_cons (a := .e f) q1 (tra_cons (a := .e f') q3 tra_nil)), fun y fi k => pi_zipM hg hm (pa_cons (q2 y fi k) (pa_cons (q4 y fi k) pa_nil (hs2 _)) (hs _)) (hs _) (hpl _)⟩
end
/-! reckoning -/
def zipME : RE (List D) → RE (List D)
  | .ok ds ρ => ofL ρ (zipM ds)
  | .ex x ρ => .ex x ρ
  | .bad => .bad
theorem zipME_o (ds : List D) (ρ : Sl) : zipME (.ok ds ρ) = ofL ρ (zipM ds) := rfl
theorem y_zipM (f f' : FE) (ρ : Sl) : fZipM f f' ρ = zipME (evA [.e f, .e f'] ρ) := by
  unfold fZipM zipME RE.bd
  cases evA [.e f, .e f'] ρ with
  | ok ds ρ => simp only [ofL, RE.of]; cases zipM ds <;> rfl
  | ex x ρ => rfl
  | bad => rfl
theorem z_zipM {x y : D} {xs ys : List D} (h1 : x.seq = some xs) (h2 : y.seq = some ys) : zipM [x, y] = some (zpD xs ys) := by simp only [zipM, h1, h2]
theorem z_zipMtl (xs ys : List D) : zipM [.tup xs, .lst ys] = some (zpD xs ys) := rfl
theorem z_zipMlt (xs ys : List D) : zipM [.lst xs, .tup ys] = some (zpD xs ys) := rfl
theorem z_zipMtt (xs ys : List D) : zipM [.tup xs, .tup ys] = some (zpD xs ys) := rfl
theorem z_zipMll (xs ys : List D) : zipM [.lst xs, .lst ys] = some (zpD xs ys) := rfl
end DL

set_option exponentiation.threshold 9000
namespace DL
open PySem
/-! words taken out of the laws' texts: loops that return at a known turn, enumerate, max, sum, repr of plain data -/
theorem lp_ret {tg : Tg} {b : FS} (I : Nat → Sl → Prop) {d : D} {lo : Int} {K : Nat} (st : ∀ j ρ, j < K → I j ρ → tgO b (I (j + 1)) (tg (.int (lo + (j : Nat))) ρ)) (rt : ∀ ρ, I K ρ → tgC b (fun (_ : Nat) _ => True) (.ret d) (tg (.int (lo + (K : Nat))) ρ)) :
    ∀ (n a : Nat) (ρ : Sl), I a ρ → a ≤ K → K < a + n → ∃ ρ', fLoop tg b (rngD (lo + (a : Nat)) n) ρ = .rt d ρ'
  | 0, a, ρ, _, h1, h2 => by omega
  | n + 1, a, ρ, hI, h1, h2 => by
    by_cases q : a = K
    · subst q
      obtain ⟨ρ1, e1, ρ2, e2⟩ := tgC_ok (rt ρ hI)
      exact ⟨ρ2, by simp only [rngD, fLoop, e1, e2]⟩
    · obtain ⟨ρ1, ρ2, e1, e2, e3⟩ := tgO_ok (st a ρ (by omega) hI)
      obtain ⟨ρ', h⟩ := lp_ret I st rt n (a + 1) ρ2 e3 (by omega) (by omega)
      refine ⟨ρ', ?_⟩
      rw [show lo + ((a + 1 : Nat) : Int) = lo + (a : Nat) + 1 by omega] at h
      rcases e2 with e2 | e2 <;> simp only [rngD, fLoop, e1, e2] <;> exact h
theorem gl_ret {tg : Tg} {b : FS} {n : Nat} {lo : Int} {ρ : Sl} {L : RS} (hL : fLoop tg b (rngD lo n) ρ = L) (I : Nat → Sl → Prop) (d : D) (K : Nat) (hI : I 0 ρ) (hK : K < n) (st : ∀ j ρ, j < K → I j ρ → tgO b (I (j + 1)) (tg (.int (lo + (j : Nat))) ρ)) (rt : ∀ ρ, I K ρ → tgC b (fun (_ : Nat) _ => True) (.ret d) (tg (.int (lo + (K : Nat))) ρ)) : ∃ ρ', L = .rt d ρ' := by
  obtain ⟨ρ', h⟩ := lp_ret I st rt n 0 ρ hI (Nat.zero_le _) (by omega)
  rw [show lo + ((0 : Nat) : Int) = lo by omega, hL] at h
  exact ⟨ρ', h⟩
theorem en_map {α : Type} (e : α → D) : ∀ (xs : List α) (k : Nat), enD k (xs.map e) = (xs.zipIdx k).map fun p => .tup [.int (p.2 : Nat), e p.1]
  | [], k => rfl
  | x :: xs, k => by
    rw [List.map_cons, List.zipIdx_cons, List.map_cons, ← en_map e xs (k + 1)]
    rfl
theorem z_maxL {ns : List Int} (h : ns ≠ []) : maxA [.lst (ns.map D.int)] = some (.int (maxI ns)) := by
  have e := intsD_map ns
  cases ns with
  | nil => exact absurd rfl h
  | cons a r => simp only [maxA, maxB, D.ls, e, Option.bind_some, List.isEmpty_cons, Bool.false_eq_true, if_false]
theorem rng_len : ∀ (n : Nat) (lo : Int), (rngD lo n).length = n
  | 0, _ => rfl
  | n + 1, lo => by simp [rngD, rng_len n]
structure Rpr (d : D) (n k : Nat) : Prop where
  p : (toPy d).isSome = true
  o : d.okR = true
  s : d.sz ≤ n
  d : d.dp ≤ k
theorem rq_int {i : Int} (h : i.natAbs < 1000000000000000000) : Rpr (.int i) 302 0 :=
  ⟨rfl, by simp only [D.okR, decide_eq_true_eq]; exact Nat.lt_of_lt_of_le h (by decide +kernel), Nat.le_refl _, Nat.le_refl _⟩
theorem rqs {n k : Nat} : ∀ {ds : List D}, (∀ d ∈ ds, Rpr d n k) → (toPys ds).isSome = true ∧ D.okRs ds = true ∧ D.szs ds ≤ (n + 2) * ds.length ∧ D.dps ds ≤ k
  | [], _ => ⟨rfl, rfl, by simp [D.szs], by simp [D.dps]⟩
  | d :: ds, h => by
    have a := h d List.mem_cons_self
    obtain ⟨b1, b2, b3, b4⟩ := rqs (ds := ds) fun d m => h d (List.mem_cons_of_mem _ m)
    obtain ⟨p, hp⟩ := Option.isSome_iff_exists.mp a.p
    obtain ⟨ps, hps⟩ := Option.isSome_iff_exists.mp b1
    refine ⟨by simp [toPys, hp, hps], by simp [D.okRs, a.o, b2], ?_, ?_⟩
    · have := a.s
      simp only [D.szs, List.length_cons, Nat.mul_add, Nat.mul_one]
      omega
    · have := a.d
      simp only [D.dps]
      omega
theorem rq_tup {ds : List D} {n k l : Nat} (h : ∀ d ∈ ds, Rpr d n k) (hl : ds.length ≤ l) : Rpr (.tup ds) ((n + 2) * l + 3) (k + 1) := by
  obtain ⟨b1, b2, b3, b4⟩ := rqs h
  have := Nat.mul_le_mul_left (n + 2) hl
  exact ⟨by simp [toPy, b1], by simp [D.okR, b2], by simp only [D.sz]; omega, by simp only [D.dp]; omega⟩
theorem rq_lst {ds : List D} {n k l : Nat} (h : ∀ d ∈ ds, Rpr d n k) (hl : ds.length ≤ l) : Rpr (.lst ds) ((n + 2) * l + 3) (k + 1) := by
  obtain ⟨b1, b2, b3, b4⟩ := rqs h
  have := Nat.mul_le_mul_left (n + 2) hl
  exact ⟨by simp [toPy, b1], by simp [D.okR, b2], by simp only [D.sz]; omega, by simp only [D.dp]; omega⟩
theorem Rpr.mono {d : D} {n k n' k' : Nat} (h : Rpr d n k) (h1 : n ≤ n') (h2 : k ≤ k') : Rpr d n' k' := ⟨h.p, h.o, Nat.le_trans h.s h1, Nat.le_trans h.d h2⟩
theorem z_sumL (ns : List Int) : sumA [.lst (ns.map D.int)] = some (.int ns.sum) := by
  show ((D.ls (.lst (ns.map D.int))).bind fun ds => (intsD ds).map fun ns => D.int ns.sum) = _
  simp only [D.ls, Option.bind_some, intsD_map, Option.map_some]
theorem rng_getD {α : Type} (xs : List α) (d : α) : (List.range xs.length).map (fun k => xs.getD k d) = xs := by
  refine List.ext_getElem (by simp) fun i h1 h2 => ?_
  simp [List.getD_eq_getElem?_getD, List.getElem?_eq_getElem h2]
end DL

namespace DL
open PySem PySem.Spec PyProof.Rows L2
/-! defs as values: a name of one's own that holds one of several defs is called -/
def FvOk (mg : Str → Option Value) (fv : Str → Addr) (xs : List Str) : Prop := ∀ x ∈ xs, mg x = some (.ref (fv x))
/-- the def at the address that the i-th name holds -/
def heldAt (ρ : Sl) (i : Nat) : Option Addr := match ρ[i]? with
  | some (.val (.opq (.ref a))) => some a
  | _ => none
def tabAt (tab : List (Addr × (List D → RF))) (a : Addr) : Option (List D → RF) := match tab with
  | [] => none
  | (b, F) :: r => if b = a then some F else tabAt r a
def fCallV (i : Nat) (tab : List (Addr × (List D → RF))) (as : List Ag) : FE := fun ρ => match (heldAt ρ i).bind (tabAt tab) with
  | some F => fCall F as ρ
  | none => .bad
/-- each def of the table keeps its promise -/
def TabOk (s : SC) (n : Nat) (tab : List (Addr × (List D → RF))) : Prop := ∀ a F, tabAt tab a = some F → ∃ x k ps, Cal s.P s.w s.K s.mg s.base x k ps (spP s.K s.mg n F) ∧ s.mg x = some (.ref a) ∧ k ≤ s.k
theorem tab_nil {s : SC} {n : Nat} : TabOk s n [] := fun a F h => by cases h
theorem tab_cons {s : SC} {n k : Nat} {x : Str} {ps : List Str} {F : List D → RF} {a : Addr} {r : List (Addr × (List D → RF))} (C : Cal s.P s.w s.K s.mg s.base x k ps (spP s.K s.mg n F)) (hm : s.mg x = some (.ref a)) (h : TabOk s n r) (hkk : k ≤ s.k := by exact Nat.le_of_ble_eq_true rfl) : TabOk s n ((a, F) :: r) := fun b G e => by
  unfold tabAt at e
  split at e
  · rename_i q; cases e; subst q; exact ⟨x, k, ps, C, hm, hkk⟩
  · exact h b G e
def tCallV (i : Nat) (s : SC) (n : Nat) (tab : List (Addr × (List D → RF))) (W : WX) (t : TA) : TE := fun σ H Q => ∃ a F, σ[i]? = some (some (.ref a)) ∧ tabAt tab a = some F ∧ tCallS (spP s.K s.mg n F) (WE W) t σ H Q
section
variable {s : SC}
theorem de_callV {x : Str} {n : Nat} (i : Nat) {tab : List (Addr × (List D → RF))} {e : Expr} {es : List Expr} {as : List Ag} {p pos : Pos} (T : TabOk s n tab)
    (ha : DA s (e :: es) as) (hn : as.length = n := by rfl) (hN : s.N[i]? = some x := by rfl) (hv : Vis s.sc x := by first | exact Or.inl rfl | exact Or.inr (Or.inl rfl) | exact Or.inr (Or.inr rfl)) (hc : s.calm = true := by rfl)
    (hdb : (x == ("__debug__" : Str)) = false := by decide) (hcd : (x == ("__classdict__" : Str)) = false := by decide)
    (he : ∀ env, starEach (e :: es) env = (false, eval e env) :: starEach es env := by intro _; rfl) (hpl : ∀ env, (backTo pos (starEach es env)).any (·.1) = false := by intro _; rfl) : DE s (.Call (.Name x p) (e :: es) [] pos) (fCallV i tab as) := fun W => by
  obtain ⟨t, q1, q2⟩ := ha W
  refine ⟨tCallV i s n tab W t, fun C ρ σ H Q j pp => ?_, fun y fi kk => ⟨fun pins st σ H Q I h => ?_⟩⟩
  · unfold fCallV at pp
    cases e1 : (heldAt ρ i).bind (tabAt tab) with
    | none => rw [e1] at pp; exact pp.elim
    | some F =>
      rw [e1] at pp
      obtain ⟨a, e2, e3⟩ := Option.bind_eq_some_iff.mp e1
      have e4 : ρ[i]? = some (.val (.opq (.ref a))) := by
        unfold heldAt at e2
        split at e2
        · rename_i b hb; cases e2; exact hb
        · cases e2
      obtain ⟨v, h1, h2⟩ := j.slot i _ e4
      have h3 : v = .ref a := h2
      subst h3
      exact ⟨a, F, h1, e3, tr_call (g := s.g) q1 n hn C ρ σ H Q j pp⟩
  · obtain ⟨a, F, hs, hF, ht⟩ := h
    obtain ⟨z, k, ps, ⟨f, fd, G, hm, hk, hb⟩, hm2, hkk⟩ := T a F hF
    have ef : f = a := by
      have : s.mg z = some (.ref f) := hm
      rw [hm2] at this; cases this; rfl
    subst ef
    refine wpAny_Call_Name_kw (thn ((pe_var (pos := p) hN hv hdb hcd).run pins st σ H (fun v H1 => v = .ref f ∧ H1 = H) I ⟨.ref f, hs, rfl, rfl⟩) fun u s1 ⟨v, H1, I1, r1, q1'⟩ => ?_)
    obtain ⟨rfl, rfl⟩ := q1'
    cases r1
    exact PySem.W.callWith_K (h₀ := s.base) I.ok.mod.kin hk (thn ((q2 y fi kk).run pos pins s1 σ _ _ I1 ht) fun us s2 z => let ⟨vs, H2, I2, r, q⟩ := z; ⟨I2.kIn, go_fnG G fi.gd ((fi.room.resolve_right (by rw [hc]; decide)).mono hkk) hb (passAt kk σ) I2 r q⟩) (he _) (hpl _)
/-- a def as a value -/
theorem de_fv {x : Str} {a : Addr} {pos : Pos} (hm : s.mg x = some (.ref a)) (hg : s.sc.names.lookup x = some .globalImplicit := by rfl) (hd : (x == ("__debug__" : Str)) = false := by decide) : DE s (.Name x pos) (fC (.opq (.ref a))) := de_go hm hg hd
end
/-- two defs of two names lie apart -/
theorem fund_ne {K : PySem.W.Frag} {x y : Str} {p1 p2 : Arguments} {b1 b2 : List Stmt} {s1 s2 : Scope} {f g : Addr} {fd gd : FuncData} (h1 : FunD K x x p1 b1 s1 [] [] f fd) (h2 : FunD K y y p2 b2 s2 [] [] g gd) (h : x ≠ y) : f ≠ g := fun e => by
  subst e
  obtain ⟨oc, od, dV, kV, doc, pm, an, cdv, ct, osl, e1, l1, _⟩ := h1.ex
  obtain ⟨oc', od', dV', kV', doc', pm', an', cdv', ct', osl', e2, l2, _⟩ := h2.ex
  rw [l1] at l2
  cases l2
  rw [e1] at e2
  exact h (congrArg FuncData.name e2)
/-! reckoning -/
theorem y_callV (i : Nat) (tab : List (Addr × (List D → RF))) (as : List Ag) (ρ : Sl) {F : List D → RF} (h : (heldAt ρ i).bind (tabAt tab) = some F) : fCallV i tab as ρ = fCall F as ρ := by
  unfold fCallV; rw [h]
end DL

namespace DL
open PySem
/-! reckoning: defs as values; comprehensions whose test draws -/
def cvT (as : List Ag) (ρ : Sl) : Option (List D → RF) → RE D
  | some F => fCall F as ρ
  | none => .bad
def cvS (tab : List (Addr × (List D → RF))) (as : List Ag) (ρ : Sl) : Option Slot → RE D
  | some (.val (.opq (.ref a))) => cvT as ρ (tabAt tab a)
  | _ => .bad
theorem cvT_o (as : List Ag) (ρ : Sl) (F : List D → RF) : cvT as ρ (some F) = fCall F as ρ := rfl
theorem cvS_o (tab : List (Addr × (List D → RF))) (as : List Ag) (ρ : Sl) (a : Addr) : cvS tab as ρ (some (.val (.opq (.ref a)))) = cvT as ρ (tabAt tab a) := rfl
theorem y_cv (i : Nat) (tab : List (Addr × (List D → RF))) (as : List Ag) (ρ : Sl) : fCallV i tab as ρ = cvS tab as ρ (sget ρ i) := by
  unfold fCallV heldAt
  rw [show sget ρ i = ρ[i]? from rfl]
  cases ρ[i]? with
  | none => rfl
  | some s =>
    cases s with
    | val d =>
      cases d with
      | opq v => cases v <;> first | rfl | (simp only [Option.bind, cvS, cvT]; cases tabAt tab _ <;> rfl)
      | _ => rfl
    | _ => rfl
/-- a comprehension that keeps some of its own items, by a test that changes the state -/
theorem cLoop_sub {tg : Tg} {c : FT} {f : FE} {vs : List Nat} (I : Sl → Prop) : ∀ (ds acc : List D) (ρ : Sl), I ρ →
    (∀ d ∈ ds, ∀ ρ, I ρ → ∃ ρ1 b ρ2, tg d ρ = some ρ1 ∧ c ρ1 = .ok b ρ2 ∧ (b = false → I (wipeR ρ2 vs)) ∧ (b = true → ∃ ρ3, f ρ2 = .ok d ρ3 ∧ I (wipeR ρ3 vs))) →
    ∃ xs ρ2, cLoop tg c f vs ds acc ρ = .ok (acc.reverse ++ xs) ρ2 ∧ I ρ2 ∧ xs.Sublist ds
  | [], acc, ρ, hI, _ => ⟨[], ρ, by simp [cLoop], hI, List.Sublist.slnil⟩
  | d :: ds, acc, ρ, hI, st => by
    obtain ⟨ρ1, b, ρ2, e1, e2, h1, h2⟩ := st d List.mem_cons_self ρ hI
    have st' := fun d' (m : d' ∈ ds) => st d' (List.mem_cons_of_mem _ m)
    cases b with
    | false =>
      obtain ⟨xs, ρ4, e, i, s⟩ := cLoop_sub I ds acc _ (h1 rfl) st'
      exact ⟨xs, ρ4, by simp only [cLoop, e1, e2, e], i, s.cons d⟩
    | true =>
      obtain ⟨ρ3, e3, i3⟩ := h2 rfl
      obtain ⟨xs, ρ4, e, i, s⟩ := cLoop_sub I ds (d :: acc) _ i3 st'
      exact ⟨d :: xs, ρ4, by simp only [cLoop, e1, e2, e3, e, List.reverse_cons, List.append_assoc, List.singleton_append], i, s.cons₂ d⟩
def sbO (f : FE) (I : Sl → Prop) (vs : List Nat) (d : D) : RE Bool → Prop
  | .ok true ρ => feO (fun x ρ3 => x = d ∧ I (wipeR ρ3 vs)) (f ρ)
  | .ok false ρ => I (wipeR ρ vs)
  | _ => False
def sbT (c : FT) (f : FE) (I : Sl → Prop) (vs : List Nat) (d : D) : Option Sl → Prop
  | some ρ => sbO f I vs d (c ρ)
  | none => False
theorem sbT_o (c : FT) (f : FE) (I : Sl → Prop) (vs : List Nat) (d : D) (ρ : Sl) : sbT c f I vs d (some ρ) = sbO f I vs d (c ρ) := rfl
theorem sbO_t (f : FE) (I : Sl → Prop) (vs : List Nat) (d : D) (ρ : Sl) : sbO f I vs d (.ok true ρ) = feO (fun x ρ3 => x = d ∧ I (wipeR ρ3 vs)) (f ρ) := rfl
theorem sbO_f (f : FE) (I : Sl → Prop) (vs : List Nat) (d : D) (ρ : Sl) : sbO f I vs d (.ok false ρ) = I (wipeR ρ vs) := rfl
theorem sbO_dt (f : FE) (I : Sl → Prop) (vs : List Nat) (d : D) {p : Prop} [Decidable p] (h : p) (ρ : Sl) : sbO f I vs d (.ok (decide p) ρ) = feO (fun x ρ3 => x = d ∧ I (wipeR ρ3 vs)) (f ρ) := by rw [decide_eq_true h]; rfl
theorem sbO_df (f : FE) (I : Sl → Prop) (vs : List Nat) (d : D) {p : Prop} [Decidable p] (h : ¬ p) (ρ : Sl) : sbO f I vs d (.ok (decide p) ρ) = I (wipeR ρ vs) := by rw [decide_eq_false h]; rfl
theorem sbT_ok {c : FT} {f : FE} {I : Sl → Prop} {vs : List Nat} {d : D} {o : Option Sl} (h : sbT c f I vs d o) : ∃ ρ1 b ρ2, o = some ρ1 ∧ c ρ1 = .ok b ρ2 ∧ (b = false → I (wipeR ρ2 vs)) ∧ (b = true → ∃ ρ3, f ρ2 = .ok d ρ3 ∧ I (wipeR ρ3 vs)) := by
  cases o with
  | none => exact h.elim
  | some ρ1 =>
    have h : sbO f I vs d (c ρ1) := h
    cases e : c ρ1 with
    | ok b ρ2 =>
      rw [e] at h
      cases b with
      | false => exact ⟨ρ1, false, ρ2, rfl, e, fun _ => h, fun z => by cases z⟩
      | true =>
        refine ⟨ρ1, true, ρ2, rfl, e, fun z => by (cases z), fun _ => ?_⟩
        have h' : feO (fun x ρ3 => x = d ∧ I (wipeR ρ3 vs)) (f ρ2) := h
        cases e2 : f ρ2 with
        | ok x ρ3 => rw [e2] at h'; obtain ⟨rfl, q⟩ := h'; exact ⟨ρ3, rfl, q⟩
        | ex x ρ3 => rw [e2] at h'; exact h'.elim
        | bad => rw [e2] at h'; exact h'.elim
    | ex x ρ2 => rw [e] at h; exact h.elim
    | bad => rw [e] at h; exact h.elim
theorem gc_sub {it : Sl → RE (List D)} {tg : Tg} {c : FT} {f : FE} {vs : List Nat} {ρ : Sl} {ds : List D} {C : RE D} (hC : fComp it tg c f vs ρ = C) (ρ1 : Sl) (I : Sl → Prop) (hit : it ρ = .ok ds ρ1) (hl : ds.length ≤ bigL) (hI : I (wipeR ρ1 vs))
    (st : ∀ d ∈ ds, ∀ ρ, I ρ → sbT c f I vs d (tg d ρ)) (hno : noOwn ρ1 vs = true := by rfl) :
    ∃ xs ρ2, C = .ok (.lst xs) (backR ρ1 ρ2 vs) ∧ I ρ2 ∧ xs.Sublist ds := by
  obtain ⟨xs, ρ2, e, i, s⟩ := cLoop_sub (tg := tg) (c := c) (f := f) (vs := vs) I ds [] (wipeR ρ1 vs) hI fun d hd ρ hρ => sbT_ok (st d hd ρ hρ)
  refine ⟨xs, ρ2, ?_, i, s⟩
  rw [← hC]
  unfold fComp
  rw [hit]
  simp only [x_bd_ok, hno, decide_eq_true hl, Bool.and_self, if_true, e, List.reverse_nil, List.nil_append]
theorem intsD_some : ∀ {xs : List D} {ns : List Int}, intsD xs = some ns → xs = ns.map D.int
  | [], ns, h => by cases h; rfl
  | x :: xs, ns, h => by
    cases x with
    | int i =>
      cases e : intsD xs with
      | none => simp [intsD, e] at h
      | some ms =>
        simp [intsD, e] at h
        rw [← h, intsD_some e]; rfl
    | _ => simp [intsD] at h
/-- the whole numbers of the tuple that a call tells -/
def getT : RF → List Int
  | .ok (.tup xs) => (intsD xs).getD []
  | _ => []
theorem getT_of {r : RF} {n : Int} {ns : List Int} (h : getT r = n :: ns) : r = .ok (.tup ((n :: ns).map .int)) := by
  unfold getT at h
  split at h
  · rename_i xs
    cases e : intsD xs with
    | none => rw [e] at h; cases h
    | some ms => rw [e] at h; rw [intsD_some e]; simp at h; rw [h]
  · cases h
/-- is a tuple in a list of tuples -/
theorem z_inEnc {α : Type} [DecidableEq α] {enc : α → D} {py : α → PyData} {k : Nat} (E : Enc enc py k) (hk : k ≤ 60) (hf : ∀ a, (enc a).flatS = false) (a : α) (xs : List α) : inA false [enc a, .lst (xs.map enc)] = some (.bl (decide (a ∈ xs))) := by
  have e1 : inB false [enc a, .lst (xs.map enc)] = none := by
    unfold inB
    simp only [D.seq, Option.bind_some, hf, Bool.false_and, Bool.false_eq_true, if_false]
  have e2 : (D.ls (.lst (xs.map enc))).bind toPys = some (xs.map py) := by
    show toPys (xs.map enc) = _
    exact enc_toPys E xs
  have s1 : SeqAt.shaped (py a) = true := by
    show ((py a).canLay0 && decide ((py a).depth ≤ 64)) = true
    rw [E.lay, decide_eq_true (Nat.le_trans (E.dp a) (by omega))]; rfl
  have s2 : SeqAt.shaped (.list (xs.map py)) = true := by
    show ((PyData.list (xs.map py)).canLay0 && decide ((PyData.list (xs.map py)).depth ≤ 64)) = true
    have := enc_dps E xs
    have h1 : (PyData.list (xs.map py)).canLay0 = true := by simp only [PyData.canLay0]; exact enc_lays E xs
    have h2 : (PyData.list (xs.map py)).depth ≤ 64 := by simp only [PyData.depth]; omega
    rw [h1, decide_eq_true h2]; rfl
  have s3 : (xs.map py).any (fun z => PyData.eqv z (py a)) = decide (a ∈ xs) := by
    rw [List.any_map]
    by_cases q : a ∈ xs
    · rw [decide_eq_true q]
      exact List.any_eq_true.mpr ⟨a, q, by show PyData.eqv (py a) (py a) = true; rw [E.eq]; exact decide_eq_true rfl⟩
    · rw [decide_eq_false q]
      refine List.any_eq_false.mpr fun z hz => ?_
      show ¬ PyData.eqv (py z) (py a) = true
      rw [E.eq, decide_eq_true_eq]
      intro e; subst e; exact q hz
  unfold inA
  rw [e1]
  simp only [E.tp, e2, s1, s2, Bool.and_self, if_true, s3, Bool.false_eq_true, if_false]
end DL

/-! ### set(xs) of a list of ints; sorted(set(xs)), len(set(xs)) -/
namespace L2
open PySem PySem.Spec PyProof.Rows
section
variable {P : Program} {w : World} {A : Around} {E : Value → Shared → Prop} {s : Shared}
/-- a fresh set, led where no text tells the order -/
abbrev set00 (w : World) : Obj := { cls := .type "set", dict := none, data := .set #[] 0 (.fresh 0 0 (!w.params.followText "set-order")) }
set_option maxRecDepth 100000 in
set_option maxHeartbeats 3200000 in
theorem call_set_lstI {l : Addr} {items : Array Value} (ns : List Int) {Q : Value → Shared → Prop} (hh : A.handled = none) (hl : s.heap.IsList l items) (hit : IntsAre items.toList ns) (hb : ns.length + 1 < scanBound)
    (h : ∀ (h' : Heap) (tk c : Nat), SetR w h' s.heap.objs.size (fun j => decide (j ∈ ns)) c → c ≤ ns.length → (∀ b o, s.heap.get? b = some o → h'.get? b = some o) → Q (.ref s.heap.objs.size) { s with heap := h', toks := tk }) :
    wpAny (model P w) A (call (.type "set") [.ref l]) Q E s := by
  have hisz : items.size = ns.length := by have q := IntsAre.length hit; rwa [Array.length_toList] at q
  obtain ⟨c, tl, hmro⟩ := F.called_set.mro
  have hmade := F.called_set.made
  have hsub := F.called_set.sub
  refine wpAny_call (codeAny_of_tree ?_)
  show wpAny _ _ (callAny (.type "set") _) _ _ _
  refine wpAny_pure ⟨Code.quiet_builtin _ (by decide +kernel), codeAny_builtin F.entry_type_call ?_⟩
  rw [Around.under_plain (weight_type_call_type "set" [.ref l] []) rfl]
  have h1 := F.called_set.notType
  have h2 := F.called_set.canCreate
  have hct := F.typeCall_set_1 (.ref l)
  repeat (any_goals (first | assumption | wp_step))
  refine codeAny_mono (code_set_led1 (.ref l) (E := E) (Q₁ := fun obj s₁ => obj = .ref s.heap.objs.size ∧ s₁ = { s with heap := s.heap.push (set00 w) }) ⟨rfl, rfl⟩) fun r s₁ hr => ?_
  match r, hr with
  | .ok (.ret obj), hr =>
    obtain ⟨rfl, rfl⟩ := hr
    have hS : (s.heap.push (set00 w)).get? s.heap.objs.size = some (set00 w) := Heap.get?_push_size _ rfl
    have hT : Shared.TypeIs { s with heap := s.heap.push (set00 w) } (.ref s.heap.objs.size) "set" := ⟨_, hS, rfl⟩
    have hli := F.called_set.init.lookup
    have hbi := F.called_set.init.bind (.ref s.heap.objs.size)
    repeat (any_goals (first | assumption | wp_step))
    refine codeAny_mono (codeAny_call_builtin (R := wants (fun r s₂ => r = .none ∧ ∃ h' tk c, s₂ = { s with heap := h', toks := tk } ∧ SetR w h' s.heap.objs.size (fun j => decide (j ∈ ns)) c ∧ c ≤ ns.length ∧
          (∀ b o, s.heap.get? b = some o → h'.get? b = some o)) E) F.called_set.init.plain F.entry_set_init (check_set_init_1 hT ?_)) fun r₂ s₂ hr₂ => ?_
    · obtain ⟨⟨ocls, odict, odata, oslots⟩, hol, hcl, nl, hdl⟩ := hl
      cases hcl; cases hdl
      have hol' : (s.heap.push (set00 w)).get? l = some { cls := .type "list", dict := odict, data := .seq items nl, slots := oslots } := Heap.get?_push_of_some _ hol
      have hsls := F.sub_list_set
      have hslf := F.sub_list_frozenset
      have hne : (Value.type "list" == Value.type "dict") = false := by decide
      have hl1 : (s.heap.push (set00 w)).IsList l items := ⟨_, hol', rfl, nl, rfl⟩
      have hlt : l < s.heap.objs.size := Heap.lt_size hol
      unfold Builtin.«set.__init__» noKeywords Builtin.Frozenset.updateFrom
      generalize hPI : pyIter = PI
      wp_walk
      subst hPI
      refine wpAny_pyIter_list hl1 (wpAny_bind (wpAny_runValue ?_))
      have hz : (s.heap.push (set00 w)).objs.size = s.heap.objs.size + 1 := Heap.size_push ..
      have hneI : l ≠ (s.heap.push (set00 w)).objs.size := by rw [hz]; exact Nat.ne_of_lt (Nat.lt_succ_of_lt hlt)
      refine set_update_ints ((Walks.list (by simp [hh]) _ l hneI items).toS) s.heap.objs.size (by simp only [List.mem_cons, List.mem_singleton, List.not_mem_nil, or_false, not_or]; exact ⟨by rw [hz]; exact Nat.ne_of_lt (Nat.lt_succ_self _), Nat.ne_of_gt hlt⟩) ns hisz hb (fun i v hv => ?_)
        (items.size - 0) 0 _ (by omega) (Nat.zero_le _) ⟨⟨_, Heap.get?_push_size _ rfl, rfl, rfl⟩, hl1.push _⟩ ⟨0, Nat.le_refl 0, setR_new_at (Heap.get?_push_of_some _ hS)⟩ fun s' c' hm hc' hS' => ?_
      · have hi : i < ns.length := by rw [← hisz]; exact (Array.getElem?_eq_some_iff.mp hv).1
        obtain ⟨t, e⟩ := PyProof.Rows.IntsAre.int_at hit i v (by rw [Array.getElem?_toList]; exact hv)
        exact ⟨ns[i], t, List.getElem?_eq_getElem hi, by rw [e, List.getD_eq_getElem?_getD, List.getElem?_eq_getElem hi] <;> rfl⟩
      · obtain ⟨h', g2, d', tk', os'⟩ := s'
        cases (show g2 = s.gens from hm.gens); cases (show d' = s.drawn from hm.drawn); cases (show os' = s.os from hm.os)
        show wpAny _ _ _ _ _ _
        refine wpAny_pure ?_
        show wpAny _ _ (ret Value.none) _ _ _
        refine wpAny_pure ⟨rfl, h', tk', c', rfl, hS', by omega, fun b o e => ?_⟩
        have hb0 : b < s.heap.objs.size := Heap.lt_size e
        exact hm.heap b o (by simp only [List.mem_cons, List.mem_singleton, List.not_mem_nil, or_false, not_or]; exact ⟨Nat.ne_of_lt hb0, by rw [hz]; exact Nat.ne_of_lt (Nat.lt_succ_of_lt hb0)⟩) (Heap.get?_push_of_some _ (Heap.get?_push_of_some _ e))
    · match r₂, hr₂ with
      | .ok (.ret r), hr₂ =>
        obtain ⟨rfl, h', tk, c, rfl, hS', hc, hk'⟩ := hr₂
        repeat (any_goals (first | assumption | wp_step))
        exact h _ _ _ hS' hc hk'
      | .error e, hr₂ => exact hr₂
  | .error e, hr => exact hr
end
end L2


namespace DL
open PySem PySem.Spec PyProof.Rows L2
/-- set(xs), xs a list of ints -/
def rSetI (K : PySem.W.Frag) (w : World) : List V → Hp → VK → Prop := fun xs H Q => ∃ (l : Addr) (ns : List Int), xs = [V.ref l] ∧ SqL K H l (ns.map V.int) ∧ ns.length < 64 ∧
  ∀ a c, H a = none → c ≤ ns.length → Q (.ref a) (upd H a (SetO w a (fun j => decide (j ∈ ns)) c))
theorem cr_setI {X : Cx} (hc : X.calm = true) : CallR X (.type "set") (rSetI X.K X.w) := by
  intro pins s σ H xs us Q I r h
  obtain ⟨l, ns, rfl, hl, hf, q⟩ := h
  rw [Vals.ref1 r]
  obtain ⟨its, rv, pl, hz⟩ := I.list hl
  have hn : H s.heap.objs.size = none := I.hok.fresh (Nat.le_refl _)
  refine call_set_lstI ns (I.ok.hd hc) pl.isList (by simpa using rv.ints) (by unfold scanBound; omega) fun h' tk c R hc k => ?_
  exact ⟨.ref s.heap.objs.size, upd H s.heap.objs.size (SetO X.w s.heap.objs.size (fun j => decide (j ∈ ns)) c), I.laid (t' := tk) k (Nat.le_refl _) (setO_new R), rfl, q _ c hn hc⟩
/-! ### the numbers of a list, rising, each once -/
def insU (n : Int) : List Int → List Int
  | [] => [n]
  | x :: r => if n < x then n :: x :: r else if n = x then x :: r else x :: insU n r
def setI : List Int → List Int
  | [] => []
  | n :: r => insU n (setI r)
theorem insU_mem (n : Int) : ∀ (r : List Int) (k : Int), k ∈ insU n r ↔ k = n ∨ k ∈ r
  | [], k => by simp [insU]
  | x :: r, k => by
    unfold insU
    split
    · simp
    · split
      · rename_i h; subst h; simp
      · rw [List.mem_cons, insU_mem n r k, List.mem_cons]
        exact ⟨fun h => by rcases h with h | h | h; exact .inr (.inl h); exact .inl h; exact .inr (.inr h), fun h => by rcases h with h | h | h; exact .inr (.inl h); exact .inl h; exact .inr (.inr h)⟩
theorem setI_mem : ∀ (ns : List Int) (k : Int), k ∈ setI ns ↔ k ∈ ns
  | [], k => by simp [setI]
  | n :: r, k => by unfold setI; rw [insU_mem, setI_mem r k, List.mem_cons]
theorem insU_lt (n : Int) : ∀ r : List Int, r.Pairwise (· < ·) → (insU n r).Pairwise (· < ·)
  | [], _ => by simp [insU]
  | x :: r, h => by
    obtain ⟨h1, h2⟩ := List.pairwise_cons.mp h
    unfold insU
    split
    · rename_i c
      refine List.pairwise_cons.mpr ⟨fun y hy => ?_, h⟩
      rcases List.mem_cons.mp hy with rfl | hy
      · exact c
      · have := h1 y hy; omega
    · split
      · exact h
      · refine List.pairwise_cons.mpr ⟨fun y hy => ?_, insU_lt n r h2⟩
        rcases (insU_mem n r y).mp hy with rfl | hy
        · omega
        · exact h1 y hy
theorem setI_lt : ∀ ns : List Int, (setI ns).Pairwise (· < ·)
  | [] => List.Pairwise.nil
  | n :: r => insU_lt n _ (setI_lt r)
theorem lt_unique : ∀ {xs ys : List Int}, xs.Pairwise (· < ·) → ys.Pairwise (· < ·) → (∀ k, k ∈ xs ↔ k ∈ ys) → xs = ys
  | [], [], _, _, _ => rfl
  | [], y :: ys, _, _, h => absurd ((h y).mpr List.mem_cons_self) (by simp)
  | x :: xs, [], _, _, h => absurd ((h x).mp List.mem_cons_self) (by simp)
  | x :: xs, y :: ys, hx, hy, h => by
    obtain ⟨a1, a2⟩ := List.pairwise_cons.mp hx
    obtain ⟨b1, b2⟩ := List.pairwise_cons.mp hy
    have e : x = y := by
      rcases List.mem_cons.mp ((h x).mp List.mem_cons_self) with q | q
      · exact q
      · rcases List.mem_cons.mp ((h y).mpr List.mem_cons_self) with p | p
        · exact p.symm
        · have := a1 y p; have := b1 x q; omega
    subst e
    refine congrArg (x :: ·) (lt_unique a2 b2 fun k => ⟨fun q => ?_, fun q => ?_⟩)
    · rcases List.mem_cons.mp ((h k).mp (List.mem_cons_of_mem _ q)) with e | e
      · have := a1 k q; omega
      · exact e
    · rcases List.mem_cons.mp ((h k).mpr (List.mem_cons_of_mem _ q)) with e | e
      · have := b1 k q; omega
      · exact e
/-! ### sorted(set(xs)) -/
def rSS (K : PySem.W.Frag) (w : World) : List V → Hp → VK → Prop := fun vs H Q => rSetI K w vs H fun v H1 => rSortedSet w [v] H1 Q
def setB : List D → Option D
  | [d] => d.ls.bind fun ds => (intsD ds).bind fun ns => if decide (ns.length < 64) = true then some (.lst ((setI ns).map .int)) else none
  | _ => none
/-- a new container, after other new ones -/
def BmOk (K : PySem.W.Frag) (r : List V → Hp → VK → Prop) (b : List D → Option D) : Prop :=
  ∀ Z H vs ds d Q, (∀ a, Z a → ∃ o, H a = some o) → Rqs K Z H vs ds → b ds = some d → (∀ H1 a o, Grow H H1 → H1 a = none → NewC K Z H1 o d → Q (.ref a) (upd H1 a o)) → r vs H Q
theorem bm_set {K : PySem.W.Frag} {w : World} : BmOk K (rSS K w) setB := by
  intro Z H vs ds d Q hz hr hb q
  unfold setB at hb
  split at hb
  · obtain ⟨v, rfl, h⟩ := hr.one
    rw [Option.bind_eq_some_iff] at hb
    obtain ⟨es, e, hb⟩ := hb
    rw [Option.bind_eq_some_iff] at hb
    obtain ⟨ns, e2, hb⟩ := hb
    split at hb
    · rename_i hlen
      cases hb
      have hlen := of_decide_eq_true hlen
      obtain ⟨l, us, rfl, s, r⟩ := h.ls e
      have := rps_ints e2 r
      subst this
      refine ⟨l, ns, rfl, s, hlen, fun a c ha hc => ⟨a, _, c, rfl, upd_same, by omega, fun ms p hs hm _ hp => ?_⟩⟩
      have : ms = setI ns := lt_unique hs (setI_lt ns) fun k => by rw [hm k, setI_mem, decide_eq_true_eq]
      subst this
      exact q _ p _ (Grow.upd ha) hp ⟨_, rfl, rps_of_ints _⟩
    · cases hb
  · cases hb
section
variable {g : G} {W : WX}
theorem trm_app {r : List V → Hp → VK → Prop} {b : List D → Option D} {t : TA} {as : List Ag} (h : BmOk g.K r b) (ha : TrA g W t as) : TrN g W (tCB r t) (fApp b as) := by
  intro C ρ σ H Q j p
  refine ha.step j (fun ds ρ1 e1 vs H1 j1 k1 r1 => ?_) (fun x ρ1 e1 cls dd H1 j1 r1 => ?_) (fun e1 => ?_)
  · cases e2 : b ds with
    | none => simp only [fApp, RE.bd, RE.of, e1, e2] at p; exact p.elim
    | some d =>
      simp only [fApp, RE.bd, RE.of, e1, e2] at p
      refine h _ H1 vs ds d Q (fun a z => j1.avSome z) (r1.rq j1) e2 fun H2 a o gr hn tp => ?_
      have j2 := j1.grow gr
      have jp := j2.plus (o := o) hn
      refine p a _ jp ((tp.tp hn).keep (fun b z => ?_) (fun _ _ e _ => e) (fun _ e => e)) ?_ ?_
      · rcases z with (z | z) | z
        · exact .inl (.inl z)
        · exact .inr z
        · exact .inl (.inr z)
      · cases e : C.H0 a with
        | none => rfl
        | some u =>
          obtain ⟨x, q⟩ := j2.ex a u e
          rw [hn] at q; cases q
      · intro z
        obtain ⟨u, e⟩ := j2.zSome z
        rw [hn] at e; cases e
  · simp only [fApp, RE.bd, e1] at p
    exact p _ _ _ j1 r1
  · simp only [fApp, RE.bd, e1] at p
    exact p
end
theorem pe_sset {X : Cx} {e : Expr} {te : TE} {p pos p2 pos2 : Pos} (hc : X.calm = true) (hg : Gl X "sorted") (hm : X.mg "sorted" = none) (hg2 : Gl X "set") (hm2 : X.mg "set" = none) (he : PE X e te)
    (na : starEach [.Call (.Name "set" p2) [e] [] pos2] X.env = (false, eval (.Call (.Name "set" p2) [e] [] pos2) X.env) :: starEach [] X.env := by rfl)
    (nb : starEach [e] X.env = (false, eval e X.env) :: starEach [] X.env := by rfl) : PE X (.Call (.Name "sorted" p) [.Call (.Name "set" p2) [e] [] pos2] [] pos) (tCB (rSS X.K X.w) (tCons te tNil)) := by
  have h1 : PE X (.Call (.Name "set" p2) [e] [] pos2) (tCB (rSetI X.K X.w) (tCons te tNil)) := pe_callTy (cr_setI hc) hg2 hm2 PyProof.Rows.boot_set (pa_cons he pa_nil nb) (he := nb)
  have h2 : PE X (.Call (.Name "sorted" p) [.Call (.Name "set" p2) [e] [] pos2] [] pos) (tCB (rSortedSet X.w) (tCons (tCB (rSetI X.K X.w) (tCons te tNil)) tNil)) := pe_callB (cr_sortedSet hc) hg hm boot_sorted (pa_cons h1 pa_nil na) (he := na)
  exact ⟨fun pins s σ H Q I h => h2.run pins s σ H Q I h⟩
section
variable {s : SC} {e : Expr} {a : Ag} {p pos p2 pos2 : Pos}
theorem dn_sset (hm : s.mg "sorted" = none) (hm2 : s.mg "set" = none) (h : DAg s e a) (hc : s.calm = true := by rfl) (hg : s.sc.names.lookup ("sorted" : Str) = some .globalImplicit := by rfl) (hg2 : s.sc.names.lookup ("set" : Str) = some .globalImplicit := by rfl)
    (na : ∀ env, starEach [.Call (.Name "set" p2) [e] [] pos2] env = (false, eval (.Call (.Name "set" p2) [e] [] pos2) env) :: starEach [] env := by intro _; rfl) (nb : ∀ env, starEach [e] env = (false, eval e env) :: starEach [] env := by intro _; rfl) : DN s (.Call (.Name "sorted" p) [.Call (.Name "set" p2) [e] [] pos2] [] pos) (fApp setB [a]) := fun W =>
  let ⟨t', q3, q4⟩ := h W
  ⟨_, trm_app bm_set (tra_cons q3 tra_nil), fun y i k => pe_sset hc hg hm hg2 hm2 (q4 y i k) (na _) (nb _)⟩
end
theorem z_set {xs : List D} {ns : List Int} (e : intsD xs = some ns) (h : ns.length < 64) : setB [.lst xs] = some (.lst ((setI ns).map .int)) := by
  show (intsD xs).bind _ = _
  rw [e]; exact if_pos (decide_eq_true h)
/-! ### len(set(xs)) -/
theorem setR_len {w : World} {h : Heap} {a : Addr} {ns : List Int} {c : Nat} (R : SetR w h a (fun j => decide (j ∈ ns)) c) : c = (setI ns).length := by
  obtain ⟨o, es, ep, t, ho, hex, hd, g, nd, hm, hb, hf, hn, _⟩ := R
  have pm : (es.toList.map keyOf).Perm (setI ns) := (List.perm_ext_iff_of_nodup nd ((setI_lt ns).imp fun h => Int.ne_of_lt h)).mpr fun k => by rw [← hm k, setI_mem, decide_eq_true_eq]
  rw [← hn, ← pm.length_eq, List.length_map, Array.length_toList]
def rLenSet (w : World) : List V → Hp → VK → Prop := fun vs H Q => ∃ (a : Addr) (ns : List Int) (n : Nat), vs = [V.ref a] ∧ H a = some (SetO w a (fun j => decide (j ∈ ns)) n) ∧ n < 64 ∧ Q (.int (setI ns).length) H
theorem cr_lenSet {X : Cx} : CallR X (.builtin "len") (rLenSet X.w) := by
  intro pins s σ H vs us Q I r h
  obtain ⟨a, ns, n, rfl, ha, h64, q⟩ := h
  have R := setO_get I ha
  have e := setR_len R
  obtain ⟨o, es, ep, t, ho, hex, hd, g, nd, hm, hb, hf, hn, _⟩ := R
  rw [Vals.ref1 r]
  refine call_len_set ho hex hd hf (by rw [hn] <;> omega) ⟨.int (setI ns).length, H, I.tok _, ⟨_, by rw [hn, e]⟩, q⟩
def rLS (K : PySem.W.Frag) (w : World) : List V → Hp → VK → Prop := fun vs H Q => rSetI K w vs H fun v H1 => rLenSet w [v] H1 Q
def lsetB : List D → Option D
  | [d] => d.ls.bind fun ds => (intsD ds).bind fun ns => if decide (ns.length < 64) = true then some (.int (setI ns).length) else none
  | _ => none
theorem bi_lset {K : PySem.W.Frag} {w : World} : BiOk K (rLS K w) lsetB := by
  intro Z H vs ds d Q hz hr hb q
  unfold lsetB at hb
  split at hb
  · obtain ⟨v, rfl, h⟩ := hr.one
    rw [Option.bind_eq_some_iff] at hb
    obtain ⟨es, e, hb⟩ := hb
    rw [Option.bind_eq_some_iff] at hb
    obtain ⟨ns, e2, hb⟩ := hb
    split at hb
    · rename_i hlen
      cases hb
      have hlen := of_decide_eq_true hlen
      obtain ⟨l, us, rfl, s, r⟩ := h.ls e
      have := rps_ints e2 r
      subst this
      exact ⟨l, ns, rfl, s, hlen, fun a c ha hc => ⟨a, ns, c, rfl, upd_same, by omega, q _ _ (Grow.upd ha) rfl⟩⟩
    · cases hb
  · cases hb
theorem pe_lset {X : Cx} {e : Expr} {te : TE} {p pos p2 pos2 : Pos} (hc : X.calm = true) (hg : Gl X "len") (hm : X.mg "len" = none) (hg2 : Gl X "set") (hm2 : X.mg "set" = none) (he : PE X e te)
    (na : starEach [.Call (.Name "set" p2) [e] [] pos2] X.env = (false, eval (.Call (.Name "set" p2) [e] [] pos2) X.env) :: starEach [] X.env := by rfl)
    (nb : starEach [e] X.env = (false, eval e X.env) :: starEach [] X.env := by rfl) : PE X (.Call (.Name "len" p) [.Call (.Name "set" p2) [e] [] pos2] [] pos) (tCB (rLS X.K X.w) (tCons te tNil)) := by
  have h1 : PE X (.Call (.Name "set" p2) [e] [] pos2) (tCB (rSetI X.K X.w) (tCons te tNil)) := pe_callTy (cr_setI hc) hg2 hm2 PyProof.Rows.boot_set (pa_cons he pa_nil nb) (he := nb)
  have h2 : PE X (.Call (.Name "len" p) [.Call (.Name "set" p2) [e] [] pos2] [] pos) (tCB (rLenSet X.w) (tCons (tCB (rSetI X.K X.w) (tCons te tNil)) tNil)) := pe_callB cr_lenSet hg hm boot_len (pa_cons h1 pa_nil na) (he := na)
  exact ⟨fun pins s σ H Q I h => h2.run pins s σ H Q I h⟩
section
variable {s : SC} {e : Expr} {a : Ag} {p pos p2 pos2 : Pos}
theorem de_lset (hm : s.mg "len" = none) (hm2 : s.mg "set" = none) (h : DAg s e a) (hc : s.calm = true := by rfl) (hg : s.sc.names.lookup ("len" : Str) = some .globalImplicit := by rfl) (hg2 : s.sc.names.lookup ("set" : Str) = some .globalImplicit := by rfl)
    (na : ∀ env, starEach [.Call (.Name "set" p2) [e] [] pos2] env = (false, eval (.Call (.Name "set" p2) [e] [] pos2) env) :: starEach [] env := by intro _; rfl) (nb : ∀ env, starEach [e] env = (false, eval e env) :: starEach [] env := by intro _; rfl) : DE s (.Call (.Name "len" p) [.Call (.Name "set" p2) [e] [] pos2] [] pos) (fApp lsetB [a]) := fun W =>
  let ⟨t', q3, q4⟩ := h W
  ⟨_, tr_app bi_lset (tra_cons q3 tra_nil), fun y i k => pe_lset hc hg hm hg2 hm2 (q4 y i k) (na _) (nb _)⟩
end
theorem z_lset {xs : List D} {ns : List Int} (e : intsD xs = some ns) (h : ns.length < 64) : lsetB [.lst xs] = some (.int (setI ns).length) := by
  show (intsD xs).bind _ = _
  rw [e]; exact if_pos (decide_eq_true h)
end DL

namespace DL
open PySem PySem.Spec PyProof.Rows L2
/-! ### a call without arguments -/
section
variable {X : Cx} {k : Nat} {f : Addr} {fd : FuncData} {ps : List Str} {sp : List V → Hp → VK → XK → Prop} {x : Str} {p pos : Pos}
theorem pe_callG0 {E : L2.St → XK} (F : FnG X.prog X.w X.K X.mg X.base k f fd ps sp) (gd : X.A.guards = some []) (hr : Room k X.A) (hg : Gl X x) (hm : X.mg x = some (.ref f)) (hk : PySem.W.keepIn X.K (.ref f) = true) (hb : Binds X.K fd ps []) (hx : ∀ σ, PassesAt (L2.CX X.prog X.w) X σ (E σ))
    (hdb : (x == ("__debug__" : Str)) = false) : PE X (.Call (.Name x p) [] [] pos) (tCallS sp E tNil) :=
  ⟨fun pins st σ H Q I h => wpAny_Call_Name_kw (ld_glob I hg hm (PySem.W.callWith_K0 I.kIn hk (go_fnG F gd hr hb (hx σ) I (.nil) h)) hdb)⟩
end
/-! ### a, b, c = x, y, [..] -/
def sPar3N (i k l : Nat) (x y z : FE) : FS := fun ρ => (x ρ).bs fun d ρ1 => (y ρ1).bs fun e ρ2 => (z ρ2).bs fun c ρ3 => .nx (((ρ3.set i (.val d)).set k (.val e)).set l (.own c))
section
variable {g : G} {W : WX} {C : JC} {ρ ρ' : Sl} {σ σ' : L2.St} {H H' : Hp}
theorem par3_go {i k l : Nat} {ta tb tc : TE} {x y z : FE} {D' : Ends} {R : V → V → V → Hp → Prop} (hi : g.m = false ∨ i ≠ 0) (hk : g.m = false ∨ k ≠ 0) (hl : g.m = false ∨ l ≠ 0) (ha : TrE g W ta x) (hb : TrE g W tb y) (hc : TrN g W tc z) (j : J g C ρ σ H) (p : PostS g W C D' (sPar3N i k l x y z ρ))
    (hR : ∀ v u w H2, D'.nx (((σ.set i (some v)).set k (some u)).set l (some w)) H2 → R v u w H2) : ta σ H fun v H1 => tb σ H1 fun u H2 => tc σ H2 fun w H3 => R v u w H3 := by
  unfold sPar3N at p
  refine ha.step j (fun d ρ1 e1 v H1 j1 k1 r1 => ?_) (fun x ρ1 e1 cls dd H1 j1 r1 => ?_) (fun e1 => ?_)
  · simp only [e1, RE.bs] at p
    refine hb.step j1 (fun e ρ2 e2 u H2 j2 k2 r2 => ?_) (fun x ρ1 e2 cls dd H1 j1 r1 => ?_) (fun e2 => ?_)
    · simp only [e2] at p
      have r1' := J.carry j1 k2 _ _ r1
      refine hc.step j2 (fun c ρ3 e3 a H3 j3 k3 t3 h0 hn nz => ?_) (fun x ρ1 e3 cls dd H1 j1 r1 => ?_) (fun e3 => ?_)
      · simp only [e3] at p
        have cN : ∀ {v : V} {d : D}, Rp g.K (Av C.Z ρ2 σ) H2 v d → Rp g.K (Av (C.plus a).Z ρ3 σ) H3 v d := fun {v d} r => Rp.gen (fun b n e => by
            refine ⟨fun z => ?_, fun o q => k3.ext b o q fun z => z.elim (fun z => n (.inr z)) fun ⟨p, hp, e5⟩ => n (.inl (e5 ▸ j2.tz p hp))⟩
            rcases z with (z | z) | z
            · exact n (.inl z)
            · obtain ⟨o, e⟩ := e; rw [z, hn] at e; cases e
            · obtain ⟨m, d', h1, h2, h3, h4⟩ := k3.ownTop z
              have h4 : H2 b = none ∨ own ρ2 σ b ∨ ∃ p ∈ C.T, p.1 = b := h4
              rcases h4 with h4 | h4 | ⟨p, hp, e5⟩
              · obtain ⟨u, e⟩ := e; rw [e] at h4; cases h4
              · exact n (.inr h4)
              · exact n (.inl (e5 ▸ j2.tz p hp))) _ _ r
        have le : ∀ {m : Nat} {d : D} {u : V} {ρ : Sl} {σ : L2.St} (b : Addr), Av (C.plus a).Z (ρ.set m (.val d)) (σ.set m (some u)) b → Av (C.plus a).Z ρ σ b := fun {m d u ρ σ} b z => z.imp id fun z => by
          obtain ⟨n, e, hm, h1, h2⟩ := own_set (d := d) (fun _ z => by cases z) z
          rw [List.getElem?_set_ne (Ne.symm hm)] at h2
          exact ⟨n, e, h1, h2⟩
        refine hR _ _ _ _ (p _ _ ?_)
        have j4 := j3.setV (i := i) hi (cN r1')
        have j5 := j4.setV (i := k) hk (Rp.keep le (fun _ _ e _ => e) _ _ (cN r2))
        exact j5.setN hl (t3.keep (fun b z => le b (le b z)) (fun _ _ e _ => e) (fun _ e => e)) h0 nz
      · simp only [e3] at p; exact p _ _ _ _ j1 r1
      · simp only [e3] at p; exact p
    · simp only [e2] at p; exact p _ _ _ _ j1 r1
    · simp only [e2] at p; exact p
  · simp only [RE.bs, e1] at p; exact p _ _ _ _ j1 r1
  · simp only [RE.bs, e1] at p; exact p
theorem trs_par3n {i k l : Nat} {ta tb tc : TE} {x y z : FE} (hi : g.m = false ∨ i ≠ 0) (hk : g.m = false ∨ k ≠ 0) (hl : g.m = false ∨ l ≠ 0) (ha : TrE g W ta x) (hb : TrE g W tb y) (hc : TrN g W tc z) :
    TrS g W (tPar3 i k l (tCons ta (tCons tb (tCons tc tNil)))) (sPar3N i k l x y z) := fun C ρ σ H D' j p =>
  par3_go (R := fun v u w H2 => ∃ v' u' w', [v, u, w] = [v', u', w'] ∧ D'.nx (((σ.set i (some v')).set k (some u')).set l (some w')) H2) hi hk hl ha hb hc j p fun v u w H2 q => ⟨v, u, w, rfl, q⟩
theorem trs_par3nT {i k l : Nat} {ta tb tc : TE} {x y z : FE} (hi : g.m = false ∨ i ≠ 0) (hk : g.m = false ∨ k ≠ 0) (hl : g.m = false ∨ l ≠ 0) (ha : TrE g W ta x) (hb : TrE g W tb y) (hc : TrN g W tc z) :
    TrS g W (tAsg (tTup (tCons ta (tCons tb (tCons tc tNil)))) (gTup g.K 3 (gCons (gName i) (gCons (gName k) (gCons (gName l) gNil))))) (sPar3N i k l x y z) := fun C ρ σ H D' j p =>
  par3_go (D' := { nx := fun σ2 H2 => ∀ l o, H2 l = none → D'.nx σ2 (upd H2 l o), rt := D'.rt, bk := D'.bk, ct := D'.ct })
    (R := fun v u w H2 => [v, u, w].length ≤ sizeLine ∧ ∀ q, H2 q = none → gTup g.K 3 (gCons (gName i) (gCons (gName k) (gCons (gName l) gNil))) (.ref q) σ (upd H2 q (.tup [v, u, w])) D'.nx) hi hk hl ha hb hc j
    (by
      cases e : sPar3N i k l x y z ρ with
      | nx ρ' => rw [e] at p; exact fun σ2 H2 j2 l o hl => p σ2 _ (j2.grow (Grow.upd hl))
      | rt d ρ' => rw [e] at p; exact p
      | bk ρ' => rw [e] at p; exact p
      | ct ρ' => rw [e] at p; exact p
      | ex x ρ' => rw [e] at p; exact p
      | bad => rw [e] at p; exact p)
    fun v u w H2 q => ⟨by rw [sizeLine_eq]; show 3 ≤ _; omega, fun m hm => ⟨m, [v, u, w], rfl, .inl (.inl upd_same), rfl, v, [u, w], rfl, u, [w], rfl, w, [], rfl, rfl, q m _ hm⟩⟩
end
section
variable {s : SC}
theorem de_call0 {x : Str} {ps : List Str} {k : Nat} {F : List D → RF} {p pos : Pos} (C : Cal s.P s.w s.K s.mg s.base x k ps (spP s.K s.mg 0 F))
    (hkk : k ≤ s.k := by exact Nat.le_of_ble_eq_true rfl) (hc : s.calm = true := by rfl) (hg : s.sc.names.lookup x = some .globalImplicit := by rfl) (hdb : (x == ("__debug__" : Str)) = false := by decide) : DE s (.Call (.Name x p) [] [] pos) (fCall F []) := fun W =>
  let ⟨_, _, G, hm, hk, hb⟩ := C
  ⟨_, tr_call tra_nil 0 rfl, fun y i kk => pe_callG0 G i.gd ((i.room.resolve_right (by rw [hc]; decide)).mono hkk) hg hm hk hb (fun σ => passAt kk σ) hdb⟩
theorem ds_par3n {i k l : Nat} {x y z : Str} {e1 e2 e3 : Expr} {f1 f2 f3 : FE} {px py pz pt pt2 pos : Pos} {kt k2} (h1 : St1 s i x) (h2 : St1 s k y) (h3 : St1 s l z) (ha : DE s e1 f1) (hb : DE s e2 f2) (hn : DN s e3 f3)
    (hw : ∀ v, swappedStores [.Tuple [.Name x px, .Name y py, .Name z pz] kt pt] (.Tuple [e1, e2, e3] k2 pt2) (s.cx v).env = pure (some [x, y, z])) (hik : i ≠ k := by decide) (hil : i ≠ l := by decide) (hkl : k ≠ l := by decide)
    (hx : s.sc.names.lookup x = some .local := by rfl) (hy : s.sc.names.lookup y = some .local := by rfl) (hz : s.sc.names.lookup z = some .local := by rfl) (hc : s.calm = true := by rfl)
    (hs : ∀ env, swapsWithSole [.Tuple [.Name x px, .Name y py, .Name z pz] kt pt] (.Tuple [e1, e2, e3] k2 pt2) pos.line env = pure false := by intro _; rfl)
    (s1 : ∀ env, starEach [e1, e2, e3] env = (false, eval e1 env) :: starEach [e2, e3] env := by intro _; rfl) (s2 : ∀ env, starEach [e2, e3] env = (false, eval e2 env) :: starEach [e3] env := by intro _; rfl) (s3 : ∀ env, starEach [e3] env = (false, eval e3 env) :: starEach [] env := by intro _; rfl) :
    DS s (.Assign [.Tuple [.Name x px, .Name y py, .Name z pz] kt pt] (.Tuple [e1, e2, e3] k2 pt2) pos) (sPar3N i k l f1 f2 f3) := fun W =>
  let ⟨_, q1, q2⟩ := ha W; let ⟨_, q3, q4⟩ := hb W; let ⟨_, q5, q6⟩ := hn W
  ⟨_, trs_par3n h1.m h2.m h3.m q1 q3 q5, fun v fi kk => ps_par3 hc h1.nd h1.ix h2.ix h3.ix hik hil hkl hx hy hz (pa_cons (q2 v fi kk) (pa_cons (q4 v fi kk) (pa_cons (q6 v fi kk) pa_nil (s3 _)) (s2 _)) (s1 _)) (hw v) (hs _)⟩
theorem ds_par3nT {i k l : Nat} {x y z : Str} {e1 e2 e3 : Expr} {f1 f2 f3 : FE} {px py pz pt pt2 pos : Pos} {kt k2} (h1 : St1 s i x) (h2 : St1 s k y) (h3 : St1 s l z) (ha : DE s e1 f1) (hb : DE s e2 f2) (hn3 : DN s e3 f3) (hc : s.calm = true := by rfl)
    (hs : ∀ env, swapsWithSole [.Tuple [.Name x px, .Name y py, .Name z pz] kt pt] (.Tuple [e1, e2, e3] k2 pt2) pos.line env = pure false := by intro _; rfl) (hw : ∀ v, swappedStores [.Tuple [.Name x px, .Name y py, .Name z pz] kt pt] (.Tuple [e1, e2, e3] k2 pt2) (s.cx v).env = pure none := by intro _; rfl)
    (hq : ∀ env, (assignEach [.Tuple [.Name x px, .Name y py, .Name z pz] kt pt] env).map (·.2) = [assign (.Tuple [.Name x px, .Name y py, .Name z pz] kt pt) env] := by intro _; rfl) (g1 : ∀ env, (assignEach [.Name x px, .Name y py, .Name z pz] env).map (·.2) = assign (.Name x px) env :: (assignEach [.Name y py, .Name z pz] env).map (·.2) := by intro _; rfl)
    (g2 : ∀ env, (assignEach [.Name y py, .Name z pz] env).map (·.2) = assign (.Name y py) env :: (assignEach [.Name z pz] env).map (·.2) := by intro _; rfl) (g3 : ∀ env, (assignEach [.Name z pz] env).map (·.2) = assign (.Name z pz) env :: (assignEach [] env).map (·.2) := by intro _; rfl)
    (hn : ∀ env, (assignEach [.Name x px, .Name y py, .Name z pz] env).length = 3 := by intro _; rfl) (hst : ∀ env, (assignEach [.Name x px, .Name y py, .Name z pz] env).findIdx? (·.1) = none := by intro _; rfl)
    (s1 : ∀ env, starEach [e1, e2, e3] env = (false, eval e1 env) :: starEach [e2, e3] env := by intro _; rfl) (s2 : ∀ env, starEach [e2, e3] env = (false, eval e2 env) :: starEach [e3] env := by intro _; rfl) (s3 : ∀ env, starEach [e3] env = (false, eval e3 env) :: starEach [] env := by intro _; rfl) :
    DS s (.Assign [.Tuple [.Name x px, .Name y py, .Name z pz] kt pt] (.Tuple [e1, e2, e3] k2 pt2) pos) (sPar3N i k l f1 f2 f3) := fun W =>
  let ⟨_, q1, q2⟩ := ha W; let ⟨_, q3, q4⟩ := hb W; let ⟨_, q5, q6⟩ := hn3 W
  ⟨_, trs_par3nT h1.m h2.m h3.m q1 q3 q5, fun v fi kk => ps_asg (pe_tup (pa_cons (q2 v fi kk) (pa_cons (q4 v fi kk) (pa_cons (q6 v fi kk) pa_nil (s3 _)) (s2 _)) (s1 _))) (pg_tup hc (pgs_cons (pg_name h1.nd h1.ix h1.loc (h1.fn fi)) (pgs_cons (pg_name h2.nd h2.ix h2.loc (h2.fn fi)) (pgs_cons (pg_name h3.nd h3.ix h3.loc (h3.fn fi)) pgs_nil (g3 _)) (g2 _)) (g1 _)) (hn _) (hst _)) (hs _) (hw v) (hq _)⟩
end
/-! ### reckoning -/
def p3C (i k l : Nat) (d e : D) : RE D → RS
  | .ok c ρ => .nx (((ρ.set i (.val d)).set k (.val e)).set l (.own c))
  | .ex x ρ => .ex x ρ
  | .bad => .bad
def p3B (i k l : Nat) (d : D) (z : FE) : RE D → RS
  | .ok e ρ => p3C i k l d e (z ρ)
  | .ex x ρ => .ex x ρ
  | .bad => .bad
def p3A (i k l : Nat) (y z : FE) : RE D → RS
  | .ok d ρ => p3B i k l d z (y ρ)
  | .ex x ρ => .ex x ρ
  | .bad => .bad
theorem y_par3n (i k l : Nat) (x y z : FE) (ρ : Sl) : sPar3N i k l x y z ρ = p3A i k l y z (x ρ) := by
  unfold sPar3N p3A
  cases x ρ with
  | ok d ρ1 =>
    show (y ρ1).bs _ = p3B i k l d z (y ρ1)
    unfold p3B
    cases y ρ1 with
    | ok e ρ2 =>
      show (z ρ2).bs _ = p3C i k l d e (z ρ2)
      unfold p3C
      cases z ρ2 <;> rfl
    | ex _ _ => rfl
    | bad => rfl
  | ex _ _ => rfl
  | bad => rfl
theorem p3A_o (i k l : Nat) (y z : FE) (d : D) (ρ : Sl) : p3A i k l y z (.ok d ρ) = p3B i k l d z (y ρ) := rfl
theorem p3B_o (i k l : Nat) (d : D) (z : FE) (e : D) (ρ : Sl) : p3B i k l d z (.ok e ρ) = p3C i k l d e (z ρ) := rfl
theorem p3C_o (i k l : Nat) (d e c : D) (ρ : Sl) : p3C i k l d e (.ok c ρ) = .nx (((ρ.set i (.val d)).set k (.val e)).set l (.own c)) := rfl
end DL

namespace K11
open PySem PySem.Spec PyProof.Rows L2 DL
def top (i : Nat) : Stmt := PySem.Challenge.pw_wayriddles_k11_whole_hands_told_back.main.body.getD i (.Pass ⟨0, 0, 0, 0⟩)
abbrev errs : List Str := ["NoPlace", "NoTime"]
abbrev owns : List Str := ["NoPlace", "NoTime"]
abbrev etys : List String := ["ValueError"]
structure TX (K : PySem.W.Frag) (mg : Str → Option Value) (fv : Str → Addr) : Prop where
  b_ValueError : mg "ValueError" = none
  b_abs : mg "abs" = none
  b_all : mg "all" = none
  b_bool : mg "bool" = none
  b_int : mg "int" = none
  b_isinstance : mg "isinstance" = none
  b_len : mg "len" = none
  b_list : mg "list" = none
  b_range : mg "range" = none
  b_str : mg "str" = none
  b_tuple : mg "tuple" = none
  b_zip : mg "zip" = none
  e_NoPlace : ExcD K mg "NoPlace"
  e_NoTime : ExcD K mg "NoTime"
  er : ErrOk K mg errs owns etys "RiddleError"
  i_HOURS : IntD mg "HOURS" 12
  s_OFF_WORD : StrD mg "OFF_WORD" "off"
  s_TIME_WORD : StrD mg "TIME_WORD" "time"
  t_TURNS : TupD K mg "TURNS" [1, 12, 720]
  hf : FvOk mg fv ["hour_told", "nearest_time"]
def FvNe (fv : Str → Addr) : Prop := fv "hour_told" ≠ fv "nearest_time"
/-! _law_hand -/
abbrev N__law_hand : List Str := ["script", "cells", "cell"]
theorem nd__law_hand : N__law_hand.Nodup := by decide +kernel
def b__law_hand : FE := sSeqN (sNew 1 (fComp (fSeq (fSlV slB 0 (oNo) (oEx (fC (.int 63))))) (tgName 2) (cYes) (fApp absB [.e (fApp intB [.b 2])]) [2])) (fApp lstB [.e (fVar 1), .e (fC (.int 0)), .e (fC (.int 0)), .e (fApp addB [.e (fC (.int 67)), .e (fApp mulC [.e (fC (.int 7)), .e (fApp lenS [.b 1])])]), .e (fC (.int 0))])
def F__law_hand : List D → RF := runN 3 b__law_hand
/-! common -/
abbrev N_common : List Str := ["one", "other"]
theorem nd_common : N_common.Nodup := by decide +kernel
def fuel_common : Nat := 50000
def b_common : FS := sSeq (sPar 0 1 (.v (fApp absB [.b 0])) (.v (fApp absB [.b 1]))) (sSeq (wLoop (fT (fApp (cmpB fun i j => decide (j < i)) [.b 1, .e (fC (.int 0))])) (sPar 0 1 (.v (fVar 1)) (.v (fApp modB [.b 0, .b 1]))) fuel_common) (sRet (fVar 0)))
def F_common : List D → RF := runP 2 b_common
/-! fraction -/
abbrev N_fraction : List Str := ["top", "bottom", "part"]
theorem nd_fraction : N_fraction.Nodup := by decide +kernel
def b_fraction : FS := sSeq (sSet 2 (fIf (fT (fApp (cmpB fun i j => decide (j < i)) [.b 1, .e (fC (.int 0))])) (fCall F_common [.b 0, .b 1]) (fApp negB [.e (fCall F_common [.b 0, .b 1])]))) (sRet (fApp tupB [.e (fApp divB [.b 0, .b 2]), .e (fApp divB [.b 1, .b 2])]))
def F_fraction : List D → RF := runP 3 b_fraction
/-! all_exchanged -/
abbrev N_all_exchanged : List Str := ["many", "turn"]
theorem nd_all_exchanged : N_all_exchanged.Nodup := by decide +kernel
def b_all_exchanged : FS := sSeq (sSet 0 (fApp subB [.e (fApp mulC [.e (fC (.int 12)), .e (fC (.int 12))]), .e (fC (.int 1))])) (sRet (fComp (fRng1 (.b 0)) (tgName 1) (cYes) (fCall F_fraction [.e (fApp mulC [.e (fC (.int 12)), .b 1]), .b 0]) [1]))
def F_all_exchanged : List D → RF := runP 2 b_all_exchanged
/-! is_sized -/
abbrev N_is_sized : List Str := ["thing", "least", "most"]
theorem nd_is_sized : N_is_sized.Nodup := by decide +kernel
def b_is_sized : FS := sRet (fAndV (fApp (isiB .tuple) [.b 0]) (fChain cLe cLe (fVar 1) (fApp lenS [.b 0]) (fVar 2)))
def F_is_sized : List D → RF := runP 3 b_is_sized
/-! is_integer -/
abbrev N_is_integer : List Str := ["thing"]
theorem nd_is_integer : N_is_integer.Nodup := by decide +kernel
def b_is_integer : FS := sRet (fAndV (fApp (isiB .int) [.b 0]) (fNotV (fApp (isiB .bool) [.b 0])))
def F_is_integer : List D → RF := runP 1 b_is_integer
/-! is_fraction -/
abbrev N_is_fraction : List Str := ["thing", "one"]
theorem nd_is_fraction : N_is_fraction.Nodup := by decide +kernel
def b_is_fraction : FS := sSeq (sIf (fOr (fNot (fT (fCall F_is_sized [.b 0, .e (fC (.int 2)), .e (fC (.int 2))]))) (fOr (fNot (fT (fApp allB [.e (fComp (fSeq (fVar 0)) (tgName 1) (cYes) (fCall F_is_integer [.b 1]) [1])]))) (fT (fApp (cmpB fun i j => decide (i < j)) [.e (fApp ixB [.b 0, .e (fC (.int 1))]), .e (fC (.int 1))])))) (sRet (fC (.bl false))) (sNext)) (sRet (fApp (eqD false) [.e (fCall F_common [.e (fApp ixB [.b 0, .e (fC (.int 0))]), .e (fApp ixB [.b 0, .e (fC (.int 1))])]), .e (fC (.int 1))]))
def F_is_fraction : List D → RF := runP 2 b_is_fraction
/-! check_place -/
abbrev N_check_place : List Str := ["place"]
theorem nd_check_place : N_check_place.Nodup := by decide +kernel
def b_check_place : FS := sIf (fOr (fNot (fT (fCall F_is_fraction [.b 0]))) (fNot (fT (fChain cLe cLt (fC (.int 0)) (fApp ixB [.b 0, .e (fC (.int 0))]) (fApp ixB [.b 0, .e (fC (.int 1))]))))) (sRaise "NoPlace") (sNext)
def F_check_place : List D → RF := runP 1 b_check_place
/-! minus -/
abbrev N_minus : List Str := ["one", "other"]
theorem nd_minus : N_minus.Nodup := by decide +kernel
def b_minus : FS := sRet (fCall F_fraction [.e (fApp subB [.e (fApp mulC [.e (fApp ixB [.b 0, .e (fC (.int 0))]), .e (fApp ixB [.b 1, .e (fC (.int 1))])]), .e (fApp mulC [.e (fApp ixB [.b 1, .e (fC (.int 0))]), .e (fApp ixB [.b 0, .e (fC (.int 1))])])]), .e (fApp mulC [.e (fApp ixB [.b 0, .e (fC (.int 1))]), .e (fApp ixB [.b 1, .e (fC (.int 1))])])])
def F_minus : List D → RF := runP 2 b_minus
/-! whole_below -/
abbrev N_whole_below : List Str := ["one"]
theorem nd_whole_below : N_whole_below.Nodup := by decide +kernel
def b_whole_below : FS := sRet (fApp divB [.e (fApp ixB [.b 0, .e (fC (.int 0))]), .e (fApp ixB [.b 0, .e (fC (.int 1))])])
def F_whole_below : List D → RF := runP 1 b_whole_below
/-! round_place -/
abbrev N_round_place : List Str := ["one"]
theorem nd_round_place : N_round_place.Nodup := by decide +kernel
def b_round_place : FS := sRet (fCall F_minus [.b 0, .e (fApp tupB [.e (fCall F_whole_below [.b 0]), .e (fC (.int 1))])])
def F_round_place : List D → RF := runP 1 b_round_place
/-! times -/
abbrev N_times : List Str := ["one", "other"]
theorem nd_times : N_times.Nodup := by decide +kernel
def b_times : FS := sRet (fCall F_fraction [.e (fApp mulC [.e (fApp ixB [.b 0, .e (fC (.int 0))]), .e (fApp ixB [.b 1, .e (fC (.int 0))])]), .e (fApp mulC [.e (fApp ixB [.b 0, .e (fC (.int 1))]), .e (fApp ixB [.b 1, .e (fC (.int 1))])])])
def F_times : List D → RF := runP 2 b_times
/-! off_by -/
abbrev N_off_by : List Str := ["hour", "minute"]
theorem nd_off_by : N_off_by.Nodup := by decide +kernel
def b_off_by : FS := sRet (fCall F_round_place [.e (fCall F_minus [.e (fCall F_times [.b 0, .e (fApp tupB [.e (fC (.int 12)), .e (fC (.int 1))])]), .b 1])])
def F_off_by : List D → RF := runP 2 b_off_by
/-! hour_told -/
abbrev N_hour_told : List Str := ["hour", "minute", "off"]
theorem nd_hour_told : N_hour_told.Nodup := by decide +kernel
def b_hour_told : FS := sSeq (sExpr (fCall F_check_place [.b 0])) (sSeq (sExpr (fCall F_check_place [.b 1])) (sSeq (sSet 2 (fCall F_off_by [.b 0, .b 1])) (sRet (fIf (fT (fApp (eqD false) [.e (fApp ixB [.b 2, .e (fC (.int 0))]), .e (fC (.int 0))])) (fApp tupB [.e (fC (.str "time")), .e (fCall F_times [.b 0, .e (fApp tupB [.e (fC (.int 12)), .e (fC (.int 1))])])]) (fApp tupB [.e (fC (.str "off")), .e (fVar 2)])))))
def F_hour_told : List D → RF := runP 3 b_hour_told
/-! is_time -/
abbrev N_is_time : List Str := ["thing"]
theorem nd_is_time : N_is_time.Nodup := by decide +kernel
def b_is_time : FS := sRet (fAndV (fCall F_is_fraction [.b 0]) (fAndV (fApp (cmpB fun i j => decide (j ≤ i)) [.e (fApp ixB [.b 0, .e (fC (.int 0))]), .e (fC (.int 0))]) (fApp (cmpB fun i j => decide (i < j)) [.e (fApp ixB [.b 0, .e (fC (.int 0))]), .e (fApp mulC [.e (fC (.int 12)), .e (fApp ixB [.b 0, .e (fC (.int 1))])])])))
def F_is_time : List D → RF := runP 1 b_is_time
/-! check_time -/
abbrev N_check_time : List Str := ["time"]
theorem nd_check_time : N_check_time.Nodup := by decide +kernel
def b_check_time : FS := sIf (fNot (fT (fCall F_is_time [.b 0]))) (sRaise "NoTime") (sNext)
def F_check_time : List D → RF := runP 1 b_check_time
/-! hand_place -/
abbrev N_hand_place : List Str := ["hand", "time"]
theorem nd_hand_place : N_hand_place.Nodup := by decide +kernel
def b_hand_place : FS := sRet (fCall F_round_place [.e (fCall F_times [.b 1, .e (fCall F_fraction [.e (fApp ixB [.e (fC (.tup [.int 1, .int 12, .int 720])), .b 0]), .e (fC (.int 12))])])])
def F_hand_place : List D → RF := runP 2 b_hand_place
/-! exchanged -/
abbrev N_exchanged : List Str := ["time", "hour", "minute"]
theorem nd_exchanged : N_exchanged.Nodup := by decide +kernel
def b_exchanged : FS := sSeq (sExpr (fCall F_check_time [.b 0])) (sSeq (sPar 1 2 (.v (fCall F_hand_place [.e (fC (.int 0)), .b 0])) (.v (fCall F_hand_place [.e (fC (.int 1)), .b 0]))) (sRet (fIf (fT (fApp (eqD false) [.e (fApp ixB [.e (fCall F_off_by [.b 2, .b 1]), .e (fC (.int 0))]), .e (fC (.int 0))])) (fCall F_times [.b 2, .e (fApp tupB [.e (fC (.int 12)), .e (fC (.int 1))])]) (fC .non))))
def F_exchanged : List D → RF := runP 3 b_exchanged
/-! _law_is -/
abbrev N__law_is : List Str := ["got", "due", "one", "other"]
theorem nd__law_is : N__law_is.Nodup := by decide +kernel
def b__law_is (G : List D → RF) : FS := sSeq (sIf (fT (fApp (isisB [.tuple, .list]) [.b 1])) (sSeq (sIf (fT (fApp (eqD true) [.e (fApp (isiB .tuple) [.b 0]), .e (fApp (isiB .tuple) [.b 1])])) (sRet (fC (.bl false))) (sNext)) (sSeq (sIf (fOr (fT (fApp (eqD true) [.e (fApp (isiB .list) [.b 0]), .e (fApp (isiB .list) [.b 1])])) (fT (fApp (eqD true) [.e (fApp lenS [.b 0]), .e (fApp lenS [.b 1])]))) (sRet (fC (.bl false))) (sNext)) (sRet (fApp allB [.e (fComp (fZipM (fVar 0) (fVar 1)) (tgTup (tgCons (tgName 2) (tgCons (tgName 3) (tgNil)))) (cYes) (fCall G [.b 2, .b 3]) [2, 3])])))) (sNext)) (sSeq (sIf (fOr (fT (fApp (isNB false) [.b 1, .e (fC .non)])) (fT (fApp (isNB false) [.b 0, .e (fC .non)]))) (sRet (fAndV (fApp (isNB false) [.b 1, .e (fC .non)]) (fApp (isNB false) [.b 0, .e (fC .non)]))) (sNext)) (sSeq (sIf (fT (fApp (eqD true) [.e (fApp (isiB .bool) [.b 0]), .e (fApp (isiB .bool) [.b 1])])) (sRet (fC (.bl false))) (sNext)) (sRet (fAndV (fApp (eqD false) [.e (fApp (isiB .str) [.b 0]), .e (fApp (isiB .str) [.b 1])]) (fApp (eqD false) [.b 0, .b 1])))))
def F__law_is : Nat → List D → RF
  | 0 => fun _ => .bad
  | n + 1 => runP 4 (b__law_is (F__law_is n))
/-! plus -/
abbrev N_plus : List Str := ["one", "other"]
theorem nd_plus : N_plus.Nodup := by decide +kernel
def b_plus : FS := sRet (fCall F_fraction [.e (fApp addB [.e (fApp mulC [.e (fApp ixB [.b 0, .e (fC (.int 0))]), .e (fApp ixB [.b 1, .e (fC (.int 1))])]), .e (fApp mulC [.e (fApp ixB [.b 1, .e (fC (.int 0))]), .e (fApp ixB [.b 0, .e (fC (.int 1))])])]), .e (fApp mulC [.e (fApp ixB [.b 0, .e (fC (.int 1))]), .e (fApp ixB [.b 1, .e (fC (.int 1))])])])
def F_plus : List D → RF := runP 2 b_plus
/-! is_less -/
abbrev N_is_less : List Str := ["one", "other"]
theorem nd_is_less : N_is_less.Nodup := by decide +kernel
def b_is_less : FS := sRet (fApp (cmpB fun i j => decide (i < j)) [.e (fApp mulC [.e (fApp ixB [.b 0, .e (fC (.int 0))]), .e (fApp ixB [.b 1, .e (fC (.int 1))])]), .e (fApp mulC [.e (fApp ixB [.b 1, .e (fC (.int 0))]), .e (fApp ixB [.b 0, .e (fC (.int 1))])])])
def F_is_less : List D → RF := runP 2 b_is_less
/-! nearest_time -/
abbrev N_nearest_time : List Str := ["hour", "minute", "best", "turn", "time", "gap", "back", "near"]
theorem nd_nearest_time : N_nearest_time.Nodup := by decide +kernel
def b_nearest_time : FS := sSeq (sExpr (fCall F_check_place [.b 0])) (sSeq (sExpr (fCall F_check_place [.b 1])) (sSeq (sSet 2 (fC .non)) (sSeq (sFor (fRng1 (.e (fC (.int 12)))) (tgName 3) (sSeq (sSet 4 (fCall F_plus [.e (fApp tupB [.e (fVar 3), .e (fC (.int 1))]), .b 1])) (sSeq (sSet 5 (fCall F_round_place [.e (fCall F_minus [.e (fCall F_hand_place [.e (fC (.int 0)), .b 4]), .b 0])])) (sSeq (sSet 6 (fCall F_round_place [.e (fCall F_minus [.e (fApp tupB [.e (fC (.int 1)), .e (fC (.int 1))]), .b 5])])) (sSeq (sSet 7 (fIf (fT (fCall F_is_less [.b 6, .b 5])) (fVar 6) (fVar 5))) (sIf (fOr (fT (fApp (isNB false) [.b 2, .e (fC .non)])) (fT (fCall F_is_less [.b 7, .e (fApp ixB [.b 2, .e (fC (.int 0))])]))) (sSet 2 (fApp tupB [.e (fVar 7), .e (fVar 4)])) (sNext))))))) (sRet (fApp ixB [.b 2, .e (fC (.int 1))])))))
def F_nearest_time : List D → RF := runP 8 b_nearest_time
/-! _law_cut -/
abbrev N__law_cut : List Str := ["top", "bottom", "one", "other", "sign"]
theorem nd__law_cut : N__law_cut.Nodup := by decide +kernel
def fuel__law_cut : Nat := 50000
def b__law_cut : FS := sSeq (sPar 2 3 (.v (fApp absB [.b 0])) (.v (fApp absB [.b 1]))) (sSeq (wLoop (fT (fApp (eqD true) [.b 3, .e (fC (.int 0))])) (sPar 2 3 (.v (fVar 3)) (.v (fApp modB [.e (fApp intB [.b 2]), .b 3]))) fuel__law_cut) (sSeq (sSet 4 (fIf (fT (fApp (cmpB fun i j => decide (j < i)) [.b 1, .e (fC (.int 0))])) (fVar 2) (fApp subB [.e (fC (.int 0)), .b 2]))) (sRet (fApp tupB [.e (fApp divB [.b 0, .b 4]), .e (fApp divB [.b 1, .b 4])]))))
def F__law_cut : List D → RF := runP 5 b__law_cut
/-! _law_draw -/
abbrev N__law_draw : List Str := ["hand", "many", "cell", "digit", "number"]
theorem nd__law_draw : N__law_draw.Nodup := by decide +kernel
def b__law_draw : FS := sSeq (sIf (fAnd (fT (fApp (eqD false) [.e (fApp ixB [.b 0, .e (fC (.int 2))]), .e (fC (.int 0))])) (fT (fApp (cmpB fun i j => decide (i < j)) [.e (fApp ixB [.b 0, .e (fC (.int 1))]), .e (fApp lenS [.e (fApp ixB [.b 0, .e (fC (.int 0))])])]))) (sSeq (sSet 2 (fApp ixB [.e (fApp ixB [.b 0, .e (fC (.int 0))]), .e (fApp ixB [.b 0, .e (fC (.int 1))])])) (sSeq (sPut 0 (fApp addB [.e (fApp ixB [.b 0, .e (fC (.int 1))]), .e (fC (.int 1))]) (fC (.int 1))) (sSeq (sPut 0 (fApp modB [.e (fApp intB [.e (fApp addB [.e (fApp addB [.e (fApp mulC [.e (fApp ixB [.b 0, .e (fC (.int 3))]), .e (fC (.int 69621))]), .b 2]), .e (fC (.int 19))])]), .e (fC (.int 2147483629))]) (fC (.int 3))) (sIf (fT (fApp (cmpB fun i j => decide (j ≤ i)) [.b 2, .e (fApp powB [.e (fC (.int 10)), .e (fC (.int 18))])])) (sPut 0 (fVar 2) (fC (.int 2))) (sNext))))) (sNext)) (sSeq (sIf (fT (fApp (cmpB fun i j => decide (j < i)) [.e (fApp ixB [.b 0, .e (fC (.int 2))]), .e (fC (.int 0))])) (sSeq (sSet 3 (fApp modB [.e (fApp intB [.e (fApp ixB [.b 0, .e (fC (.int 2))])]), .b 1])) (sSeq (sPut 0 (fApp divB [.e (fApp ixB [.b 0, .e (fC (.int 2))]), .b 1]) (fC (.int 2))) (sRet (fVar 3)))) (sNext)) (sSeq (sPut 0 (fApp addB [.e (fApp ixB [.b 0, .e (fC (.int 4))]), .e (fC (.int 1))]) (fC (.int 4))) (sSeq (sSet 4 (fApp modB [.e (fApp intB [.e (fApp mulC [.e (fApp intB [.e (fApp addB [.e (fApp ixB [.b 0, .e (fC (.int 3))]), .e (fApp mulC [.e (fC (.int 7919)), .e (fApp ixB [.b 0, .e (fC (.int 4))])])])]), .e (fC (.int 48271))])]), .e (fC (.int 2147483647))])) (sSeq (sSet 4 (fApp modB [.e (fApp intB [.e (fApp mulC [.b 4, .e (fApp addB [.e (fApp divB [.b 4, .e (fC (.int 1009))]), .e (fC (.int 69621))])])]), .e (fC (.int 2147483647))])) (sSeq (sSet 4 (fApp modB [.e (fApp intB [.e (fApp mulC [.b 4, .e (fApp addB [.e (fApp divB [.b 4, .e (fC (.int 2003))]), .e (fC (.int 40692))])])]), .e (fC (.int 2147483399))])) (sRet (fApp modB [.e (fApp intB [.e (fApp divB [.b 4, .e (fC (.int 16))])]), .b 1])))))))
def F__law_draw : List D → List D → RG := runR 5 b__law_draw
/-! _law_some -/
abbrev N__law_some : List Str := ["hand", "things"]
theorem nd__law_some : N__law_some.Nodup := by decide +kernel
def b__law_some : FS := sRet (fApp ixB [.b 1, .e (fCallR F__law_draw 0 [.e (fApp lenS [.b 1])])])
def F__law_some : List D → List D → RG := runR 2 b__law_some
/-! _law_time -/
abbrev N__law_time : List Str := ["hand", "bottom"]
theorem nd__law_time : N__law_time.Nodup := by decide +kernel
def b__law_time : FS := sSeq (sSet 1 (fCallR F__law_some 0 [.e (fApp lstB [.e (fC (.int 1)), .e (fC (.int 2)), .e (fC (.int 11)), .e (fC (.int 13)), .e (fC (.int 59)), .e (fC (.int 60)), .e (fC (.int 143)), .e (fC (.int 719)), .e (fC (.int 3600)), .e (fApp addB [.e (fC (.int 1)), .e (fCallR F__law_draw 0 [.e (fC (.int 9000))])])])])) (sRet (fCall F__law_cut [.e (fCallR F__law_draw 0 [.e (fApp mulC [.e (fC (.int 12)), .b 1])]), .b 1]))
def F__law_time : List D → List D → RG := runR 2 b__law_time
/-! _law_times -/
abbrev N__law_times : List Str := ["one", "other"]
theorem nd__law_times : N__law_times.Nodup := by decide +kernel
def b__law_times : FS := sRet (fCall F__law_cut [.e (fApp mulC [.e (fApp ixB [.b 0, .e (fC (.int 0))]), .e (fApp ixB [.b 1, .e (fC (.int 0))])]), .e (fApp mulC [.e (fApp ixB [.b 0, .e (fC (.int 1))]), .e (fApp ixB [.b 1, .e (fC (.int 1))])])])
def F__law_times : List D → RF := runP 2 b__law_times
/-! _law_rest -/
abbrev N__law_rest : List Str := ["one"]
theorem nd__law_rest : N__law_rest.Nodup := by decide +kernel
def b__law_rest : FS := sRet (fApp tupB [.e (fApp modB [.e (fApp intB [.e (fApp ixB [.b 0, .e (fC (.int 0))])]), .e (fApp ixB [.b 0, .e (fC (.int 1))])]), .e (fApp ixB [.b 0, .e (fC (.int 1))])])
def F__law_rest : List D → RF := runP 1 b__law_rest
/-! _law_minus -/
abbrev N__law_minus : List Str := ["one", "other"]
theorem nd__law_minus : N__law_minus.Nodup := by decide +kernel
def b__law_minus : FS := sRet (fCall F__law_cut [.e (fApp subB [.e (fApp mulC [.e (fApp ixB [.b 0, .e (fC (.int 0))]), .e (fApp ixB [.b 1, .e (fC (.int 1))])]), .e (fApp mulC [.e (fApp ixB [.b 1, .e (fC (.int 0))]), .e (fApp ixB [.b 0, .e (fC (.int 1))])])]), .e (fApp mulC [.e (fApp ixB [.b 0, .e (fC (.int 1))]), .e (fApp ixB [.b 1, .e (fC (.int 1))])])])
def F__law_minus : List D → RF := runP 2 b__law_minus
/-! _law_told -/
abbrev N__law_told : List Str := ["hour", "minute", "time", "off"]
theorem nd__law_told : N__law_told.Nodup := by decide +kernel
def b__law_told : FS := sSeq (sSet 2 (fCall F__law_times [.e (fApp tupB [.e (fC (.int 12)), .e (fC (.int 1))]), .b 0])) (sSeq (sSet 3 (fCall F__law_rest [.e (fCall F__law_minus [.b 2, .b 1])])) (sRet (fIf (fT (fApp (eqD false) [.b 3, .e (fApp tupB [.e (fC (.int 0)), .e (fC (.int 1))])])) (fApp tupB [.e (fC (.str "time")), .e (fVar 2)]) (fApp tupB [.e (fC (.str "off")), .e (fVar 3)]))))
def F__law_told : List D → RF := runP 4 b__law_told
/-! _law_place -/
abbrev N__law_place : List Str := ["hand", "bottom"]
theorem nd__law_place : N__law_place.Nodup := by decide +kernel
def b__law_place : FS := sSeq (sSet 1 (fCallR F__law_some 0 [.e (fApp lstB [.e (fC (.int 1)), .e (fC (.int 2)), .e (fC (.int 4)), .e (fC (.int 12)), .e (fC (.int 60)), .e (fC (.int 143)), .e (fApp addB [.e (fC (.int 1)), .e (fCallR F__law_draw 0 [.e (fC (.int 900))])])])])) (sRet (fCall F__law_cut [.e (fCallR F__law_draw 0 [.e (fVar 1)]), .b 1]))
def F__law_place : List D → List D → RG := runR 2 b__law_place
/-! _law_bent -/
abbrev N__law_bent : List Str := ["hand", "told", "word", "body", "place", "some"]
theorem nd__law_bent : N__law_bent.Nodup := by decide +kernel
def b__law_bent : FS := sSeq (sUnp (fVar 1) (tgTup (tgCons (tgName 2) (tgCons (tgName 3) (tgNil))))) (sSeq (sSet 4 (fCallR F__law_place 0 [])) (sSeq (sSet 5 (fApp lstB [.e (fVar 1), .e (fApp tupB [.e (fVar 2), .e (fVar 4)]), .e (fApp tupB [.e (fC (.str "off")), .e (fVar 3)]), .e (fApp tupB [.e (fC (.str "time")), .e (fVar 3)]), .e (fApp tupB [.e (fC (.str "off")), .e (fVar 4)]), .e (fSlV slB 1 (oNo) (oEx (fC (.int 1)))), .e (fApp addB [.b 1, .e (fApp tupB [.e (fC (.int 0))])]), .e (fApp listB [.b 1])])) (sSeq (sSet 5 (fApp addB [.b 5, .e (fApp lstB [.e (fApp tupB [.e (fVar 2), .e (fApp listB [.b 3])]), .e (fApp tupB [.e (fVar 2), .e (fApp tupB [.e (fApp mulC [.e (fC (.int 2)), .e (fApp ixB [.b 3, .e (fC (.int 0))])]), .e (fApp mulC [.e (fC (.int 2)), .e (fApp ixB [.b 3, .e (fC (.int 1))])])])]), .e (fApp tupB [.e (fVar 2), .e (fC .non)]), .e (fApp tupB [.e (fVar 2), .e (fApp revB [.b 3])]), .e (fC .non)])])) (sRet (fCallR F__law_some 0 [.e (fApp addB [.b 5, .e (fApp lstB [.e (fApp tupB [.e (fC (.str "?")), .e (fVar 3)]), .e (fApp tupB [.e (fC .non), .e (fVar 3)]), .e (fC (.int 0)), .e (fC (.dicK [] [])), .e (fApp tupB [.e (fVar 2), .e (fApp tupB [.e (fC (.int 0)), .e (fC (.int 1))])]), .e (fApp tupB [.e (fVar 2), .e (fApp tupB [.e (fC (.int 1)), .e (fC (.int 1))])]), .e (fApp tupB [.e (fVar 2), .e (fC (.int 0))])])])])))))
def F__law_bent : List D → List D → RG := runR 6 b__law_bent
/-! _law_plus -/
abbrev N__law_plus : List Str := ["one", "other"]
theorem nd__law_plus : N__law_plus.Nodup := by decide +kernel
def b__law_plus : FS := sRet (fCall F__law_cut [.e (fApp addB [.e (fApp mulC [.e (fApp ixB [.b 0, .e (fC (.int 0))]), .e (fApp ixB [.b 1, .e (fC (.int 1))])]), .e (fApp mulC [.e (fApp ixB [.b 1, .e (fC (.int 0))]), .e (fApp ixB [.b 0, .e (fC (.int 1))])])]), .e (fApp mulC [.e (fApp ixB [.b 0, .e (fC (.int 1))]), .e (fApp ixB [.b 1, .e (fC (.int 1))])])])
def F__law_plus : List D → RF := runP 2 b__law_plus
/-! _law_less -/
abbrev N__law_less : List Str := ["one", "other"]
theorem nd__law_less : N__law_less.Nodup := by decide +kernel
def b__law_less : FS := sRet (fApp (cmpB fun i j => decide (i < j)) [.e (fApp mulC [.e (fApp ixB [.b 0, .e (fC (.int 0))]), .e (fApp ixB [.b 1, .e (fC (.int 1))])]), .e (fApp mulC [.e (fApp ixB [.b 1, .e (fC (.int 0))]), .e (fApp ixB [.b 0, .e (fC (.int 1))])])])
def F__law_less : List D → RF := runP 2 b__law_less
/-! _law_far -/
abbrev N__law_far : List Str := ["one", "other", "gap", "back"]
theorem nd__law_far : N__law_far.Nodup := by decide +kernel
def b__law_far : FS := sSeq (sSet 2 (fCall F__law_rest [.e (fCall F__law_minus [.b 0, .b 1])])) (sSeq (sSet 3 (fCall F__law_minus [.e (fApp tupB [.e (fC (.int 1)), .e (fC (.int 1))]), .b 2])) (sRet (fIf (fT (fCall F__law_less [.b 2, .b 3])) (fVar 2) (fVar 3))))
def F__law_far : List D → RF := runP 4 b__law_far
/-! _law_nearest -/
abbrev N__law_nearest : List Str := ["hour", "minute", "best", "turn", "time", "far"]
theorem nd__law_nearest : N__law_nearest.Nodup := by decide +kernel
def b__law_nearest : FS := sSeq (sSet 2 (fC .non)) (sSeq (sFor (fRng1 (.e (fC (.int 12)))) (tgName 3) (sSeq (sSet 4 (fCall F__law_plus [.e (fApp tupB [.e (fVar 3), .e (fC (.int 1))]), .b 1])) (sSeq (sSet 5 (fCall F__law_far [.e (fCall F__law_cut [.e (fApp ixB [.b 4, .e (fC (.int 0))]), .e (fApp mulC [.e (fC (.int 12)), .e (fApp ixB [.b 4, .e (fC (.int 1))])])]), .b 0])) (sIf (fOr (fT (fApp (isNB false) [.b 2, .e (fC .non)])) (fT (fCall F__law_less [.b 5, .e (fApp ixB [.b 2, .e (fC (.int 0))])]))) (sSet 2 (fApp tupB [.e (fVar 5), .e (fVar 4)])) (sNext))))) (sRet (fApp ixB [.b 2, .e (fC (.int 1))])))
def F__law_nearest : List D → RF := runP 6 b__law_nearest
/-! _law_exchanged -/
abbrev N__law_exchanged : List Str := ["time", "minute", "other", "rest"]
theorem nd__law_exchanged : N__law_exchanged.Nodup := by decide +kernel
def b__law_exchanged : FS := sSeq (sSet 1 (fCall F__law_cut [.e (fApp modB [.e (fApp intB [.e (fApp ixB [.b 0, .e (fC (.int 0))])]), .e (fApp ixB [.b 0, .e (fC (.int 1))])]), .e (fApp ixB [.b 0, .e (fC (.int 1))])])) (sSeq (sSet 2 (fCall F__law_times [.e (fApp tupB [.e (fC (.int 12)), .e (fC (.int 1))]), .b 1])) (sSeq (sSet 3 (fCall F__law_cut [.e (fApp modB [.e (fApp intB [.e (fApp ixB [.b 2, .e (fC (.int 0))])]), .e (fApp ixB [.b 2, .e (fC (.int 1))])]), .e (fApp ixB [.b 2, .e (fC (.int 1))])])) (sRet (fIf (fT (fApp (eqD false) [.b 3, .e (fCall F__law_cut [.e (fApp ixB [.b 0, .e (fC (.int 0))]), .e (fApp mulC [.e (fC (.int 12)), .e (fApp ixB [.b 0, .e (fC (.int 1))])])])])) (fVar 2) (fC .non)))))
def F__law_exchanged : List D → RF := runP 4 b__law_exchanged
/-! is_hour_told -/
abbrev N_is_hour_told : List Str := ["hour", "minute", "thing", "told"]
theorem nd_is_hour_told : N_is_hour_told.Nodup := by decide +kernel
def b_is_hour_told : FS := sSeq (sSet 3 (fCall F_hour_told [.b 0, .b 1])) (sSeq (sIf (fOr (fNot (fT (fCall F_is_sized [.b 2, .e (fC (.int 2)), .e (fC (.int 2))]))) (fNot (fT (fApp (isiB .str) [.e (fApp ixB [.b 2, .e (fC (.int 0))])])))) (sRet (fC (.bl false))) (sNext)) (sRet (fAndV (fApp (eqD false) [.e (fApp ixB [.b 2, .e (fC (.int 0))]), .e (fApp ixB [.b 3, .e (fC (.int 0))])]) (fAndV (fCall F_is_fraction [.e (fApp ixB [.b 2, .e (fC (.int 1))])]) (fApp (eqD false) [.e (fApp ixB [.b 2, .e (fC (.int 1))]), .e (fApp ixB [.b 3, .e (fC (.int 1))])])))))
def F_is_hour_told : List D → RF := runP 4 b_is_hour_told
/-! _law_is_right -/
abbrev N__law_is_right : List Str := ["hand", "time", "hour", "minute", "due", "turn", "thing", "near", "other"]
theorem nd__law_is_right : N__law_is_right.Nodup := by decide +kernel
def b__law_is_right : FS := sSeq (sSet 1 (fCallR F__law_time 0 [])) (sSeq (sPar 2 3 (.v (fCallR F__law_place 0 [])) (.v (fCallR F__law_place 0 []))) (sSeq (sIf (fT (fApp (eqD false) [.e (fCallR F__law_draw 0 [.e (fC (.int 2))]), .e (fC (.int 0))])) (sSeq (sPar 2 3 (.v (fCall F__law_cut [.e (fApp ixB [.b 1, .e (fC (.int 0))]), .e (fApp mulC [.e (fC (.int 12)), .e (fApp ixB [.b 1, .e (fC (.int 1))])])])) (.v (fCall F__law_cut [.e (fApp modB [.e (fApp intB [.e (fApp ixB [.b 1, .e (fC (.int 0))])]), .e (fApp ixB [.b 1, .e (fC (.int 1))])]), .e (fApp ixB [.b 1, .e (fC (.int 1))])]))) (sIf (fNot (fT (fCall (F__law_is 9) [.e (fCall F_hour_told [.b 2, .b 3]), .e (fApp tupB [.e (fC (.str "time")), .e (fVar 1)])]))) (sRet (fC (.bl false))) (sNext))) (sNext)) (sSeq (sSet 4 (fCall F__law_told [.b 2, .b 3])) (sSeq (sIf (fNot (fT (fCall (F__law_is 9) [.e (fCall F_hour_told [.b 2, .b 3]), .b 4]))) (sRet (fC (.bl false))) (sNext)) (sSeq (sFor (fRng1 (.e (fC (.int 6)))) (tgName 5) (sSeq (sSet 6 (fIf (fT (fApp (cmpB fun i j => decide (j < i)) [.b 5, .e (fC (.int 0))])) (fCallR F__law_bent 0 [.e (fVar 4)]) (fVar 4))) (sIf (fNot (fT (fCall (F__law_is 9) [.e (fCall F_is_hour_told [.b 2, .b 3, .b 6]), .e (fCall (F__law_is 9) [.b 6, .b 4])]))) (sRet (fC (.bl false))) (sNext)))) (sSeq (sSet 7 (fCall F_nearest_time [.b 2, .b 3])) (sSeq (sIf (fNot (fT (fCall (F__law_is 9) [.b 7, .e (fCall F__law_nearest [.b 2, .b 3])]))) (sRet (fC (.bl false))) (sNext)) (sSeq (sIf (fAnd (fT (fApp (eqD false) [.e (fApp ixB [.b 4, .e (fC (.int 0))]), .e (fC (.str "time"))])) (fT (fApp (eqD true) [.b 7, .e (fApp ixB [.b 4, .e (fC (.int 1))])]))) (sRet (fC (.bl false))) (sNext)) (sSeq (sSet 1 (fCallR F__law_some 0 [.e (fApp lstB [.e (fVar 1), .e (fCall F__law_cut [.e (fApp mulC [.e (fC (.int 12)), .e (fCallR F__law_draw 0 [.e (fC (.int 143))])]), .e (fC (.int 143))])])])) (sSeq (sSet 8 (fCall F_exchanged [.b 1])) (sSeq (sIf (fNot (fT (fCall (F__law_is 9) [.b 8, .e (fCall F__law_exchanged [.b 1])]))) (sRet (fC (.bl false))) (sNext)) (sRet (fOrV (fApp (isNB false) [.b 8, .e (fC .non)]) (fApp (eqD false) [.e (fCall F_exchanged [.b 8]), .b 1]))))))))))))))
def F__law_is_right : List D → List D → RG := runR 9 b__law_is_right
/-! _law_no_place -/
abbrev N__law_no_place : List Str := ["hand"]
theorem nd__law_no_place : N__law_no_place.Nodup := by decide +kernel
def b__law_no_place : FS := sRet (fCallR F__law_some 0 [.e (fApp lstB [.e (fC .non), .e (fC (.int 0)), .e (fApp tupB [.e (fC (.int 1)), .e (fC (.int 1))]), .e (fApp tupB [.e (fApp negB [.e (fC (.int 1))]), .e (fC (.int 2))]), .e (fApp tupB [.e (fC (.int 2)), .e (fC (.int 4))]), .e (fApp tupB [.e (fC (.int 3))]), .e (fApp lstB [.e (fC (.int 1)), .e (fC (.int 2))]), .e (fApp tupB [.e (fC (.bl true)), .e (fC (.int 2))]), .e (fApp tupB [.e (fC (.int 1)), .e (fC (.int 0))]), .e (fC (.str "?")), .e (fApp tupB [.e (fC (.int 5)), .e (fC (.int 4))]), .e (fC (.dicK [] []))])])
def F__law_no_place : List D → List D → RG := runR 1 b__law_no_place
/-! _law_no_time -/
abbrev N__law_no_time : List Str := ["hand", "some"]
theorem nd__law_no_time : N__law_no_time.Nodup := by decide +kernel
def b__law_no_time : FS := sSeq (sSet 1 (fApp lstB [.e (fC .non), .e (fC (.int 0)), .e (fC (.int 3)), .e (fApp tupB [.e (fC (.int 12)), .e (fC (.int 1))]), .e (fApp tupB [.e (fApp negB [.e (fC (.int 1))]), .e (fC (.int 2))]), .e (fApp tupB [.e (fC (.int 2)), .e (fC (.int 4))]), .e (fApp tupB [.e (fC (.int 3))]), .e (fApp lstB [.e (fC (.int 1)), .e (fC (.int 2))]), .e (fApp tupB [.e (fC (.bl true)), .e (fC (.int 2))]), .e (fApp tupB [.e (fC (.int 1)), .e (fC (.int 0))]), .e (fC (.str "?")), .e (fApp tupB [.e (fC (.int 1)), .e (fC (.int 2)), .e (fC (.int 3))]), .e (fC (.dicK [] []))])) (sRet (fCallR F__law_some 0 [.e (fVar 1)]))
def F__law_no_time : List D → List D → RG := runR 2 b__law_no_time
/-! _law_word -/
abbrev N__law_word : List Str := ["call", "found", "error", "flags", "words", "is_one"]
theorem nd__law_word : N__law_word.Nodup := by decide +kernel
def b__law_word (o : RG) : Sl → RG := fThen (sSet 1 (fC (.str "let"))) (fTryE errs 2 (fun nm => sSeq (sSet 3 (fApp lstB [.e (fIsE 2 (decide (nm = "NoPlace"))), .e (fIsE 2 (decide (nm = "NoTime")))])) (sSeq (sSet 4 (fApp lstB [.e (fC (.str "place")), .e (fC (.str "time"))])) (sSeq (sSet 5 (fAndV (fApp (eqD false) [.e (fMt cntB (fVar 3) (fC (.bl true))), .e (fC (.int 1))]) (fIsE 2 true))) (sSet 1 (fIf (fT (fVar 5)) (fApp ixB [.b 4, .e (fMt idxB (fVar 3) (fC (.bl true)))]) (fC (.str "other"))))))) (sRet (fVar 1)) o)
def R__law_word (o : RG) : RG := runLE 6 (b__law_word o)
/-! _law_are_refused -/
abbrev N__law_are_refused : List Str := ["hand", "bad", "wrong", "words", "call"]
theorem nd__law_are_refused : N__law_are_refused.Nodup := by decide +kernel
def b__law_are_refused (fv : Str → Addr) : FS := sSeq (sPar3N 1 2 3 (fCallR F__law_no_place 0 []) (fCallR F__law_no_place 0 []) (fApp lstB [])) (sSeq (sFor (fSeq (fApp tupB [.e (fC (.opq (.ref (fv "hour_told")))), .e (fC (.opq (.ref (fv "nearest_time"))))])) (tgName 4) (sSeq (sAppend 3 (fLamE R__law_word 0 [4, 1, 2] (fCallV 4 [(fv "hour_told", F_hour_told), (fv "nearest_time", F_nearest_time)] [.b 1, .b 2]))) (sSeq (sAppend 3 (fLamE R__law_word 0 [4, 1] (fCallV 4 [(fv "hour_told", F_hour_told), (fv "nearest_time", F_nearest_time)] [.b 1, .e (fApp tupB [.e (fC (.int 0)), .e (fC (.int 1))])]))) (sAppend 3 (fLamE R__law_word 0 [4, 2] (fCallV 4 [(fv "hour_told", F_hour_told), (fv "nearest_time", F_nearest_time)] [.e (fApp tupB [.e (fC (.int 1)), .e (fC (.int 2))]), .b 2])))))) (sSeq (sAppend 3 (fLamE R__law_word 0 [1] (fCall F_is_hour_told [.b 1, .e (fApp tupB [.e (fC (.int 0)), .e (fC (.int 1))]), .e (fC .non)]))) (sSeq (sAppend 3 (fLamE R__law_word 0 [1] (fCall F_is_hour_told [.e (fApp tupB [.e (fC (.int 0)), .e (fC (.int 1))]), .b 1, .e (fC .non)]))) (sSeq (sAppend 3 (fLamE R__law_word 0 [] (fCall F_exchanged [.e (fCallR F__law_no_time 0 [])]))) (sRet (fApp (eqD false) [.b 3, .e (fApp addB [.e (fApp mulC [.e (fApp lstB [.e (fC (.str "place"))]), .e (fC (.int 8))]), .e (fApp lstB [.e (fC (.str "time"))])])]))))))
def F__law_are_refused (fv : Str → Addr) : List D → List D → RG := runR 5 (b__law_are_refused fv)
/-! law -/
abbrev N_law : List Str := ["script", "hand", "told", "due", "every", "turn", "time"]
theorem nd_law : N_law.Nodup := by decide +kernel
def b_law (fv : Str → Addr) : FS := sSeq (sNew 1 (fCallN F__law_hand [.b 0])) (sSeq (sSet 2 (fApp lstB [.e (fCall F_hour_told [.e (fApp tupB [.e (fC (.int 1)), .e (fC (.int 4))]), .e (fApp tupB [.e (fC (.int 0)), .e (fC (.int 1))])]), .e (fCall F_hour_told [.e (fApp tupB [.e (fC (.int 1)), .e (fC (.int 4))]), .e (fApp tupB [.e (fC (.int 1)), .e (fC (.int 4))])]), .e (fCall F_exchanged [.e (fApp tupB [.e (fC (.int 12)), .e (fC (.int 11))])]), .e (fCall F_exchanged [.e (fApp tupB [.e (fC (.int 1)), .e (fC (.int 1))])])])) (sSeq (sSet 2 (fApp addB [.b 2, .e (fApp lstB [.e (fCall F_nearest_time [.e (fApp tupB [.e (fC (.int 0)), .e (fC (.int 1))]), .e (fApp tupB [.e (fC (.int 1)), .e (fC (.int 2))])]), .e (fCall F_nearest_time [.e (fApp tupB [.e (fC (.int 1)), .e (fC (.int 2))]), .e (fApp tupB [.e (fC (.int 0)), .e (fC (.int 1))])]), .e (fCall F_exchanged [.e (fApp tupB [.e (fC (.int 12)), .e (fC (.int 143))])])])])) (sSeq (sSet 3 (fApp lstB [.e (fApp tupB [.e (fC (.str "time")), .e (fApp tupB [.e (fC (.int 3)), .e (fC (.int 1))])]), .e (fApp tupB [.e (fC (.str "off")), .e (fApp tupB [.e (fC (.int 3)), .e (fC (.int 4))])]), .e (fApp tupB [.e (fC (.int 12)), .e (fC (.int 11))]), .e (fC .non), .e (fApp tupB [.e (fC (.int 1)), .e (fC (.int 2))]), .e (fApp tupB [.e (fC (.int 6)), .e (fC (.int 1))]), .e (fApp tupB [.e (fC (.int 144)), .e (fC (.int 143))])])) (sSeq (sIf (fNot (fT (fCall (F__law_is 9) [.b 2, .b 3]))) (sRet (fC (.bl false))) (sNext)) (sSeq (sSet 4 (fCall F_all_exchanged [])) (sSeq (sIf (fNot (fT (fCall (F__law_is 9) [.e (fApp listB [.b 4]), .e (fComp (fRng1 (.e (fC (.int 143)))) (tgName 5) (cYes) (fCall F__law_cut [.e (fApp mulC [.e (fC (.int 12)), .b 5]), .e (fC (.int 143))]) [5])]))) (sRet (fC (.bl false))) (sNext)) (sSeq (sIf (fT (fApp (eqD true) [.e (fApp lenS [.e (fComp (fSeq (fVar 4)) (tgName 6) (fT (fApp (eqD false) [.e (fCall F_exchanged [.b 6]), .b 6])) (fVar 6) [6])]), .e (fC (.int 11))])) (sRet (fC (.bl false))) (sNext)) (sRet (fApp allB [.e (fComp (fRng1 (.e (fC (.int 6)))) (tgName 5) (cYes) (fAndV (fCallR F__law_is_right 1 []) (fCallR (F__law_are_refused fv) 1 [])) [5])])))))))))
def F_law (fv : Str → Addr) : List D → RF := runP 7 (b_law fv)
section
variable {P : Program} {w : World} {K : PySem.W.Frag} {mg : Str → Option Value} {base : Heap} {fv : Str → Addr}
abbrev FnP (K : PySem.W.Frag) (x : Str) (i : Nat) (f : Addr) (fd : FuncData) : Prop := FunD K x x (defArgs (top i)) (defBody (top i)) (defScope (top i)) [] [] f fd
theorem sc__law_hand : FnScope N__law_hand ["script"] (defScope (top 32)) := ⟨rfl, rfl, rfl, nd__law_hand, rfl, by decide +kernel, by decide +kernel⟩
set_option maxHeartbeats 4000000 in
theorem d__law_hand (T : TX K mg fv)  : DNs (scOf P w K mg base N__law_hand (defScope (top 32)) 0 false) (defBody (top 32)) b__law_hand := dns_cons (ds_comp [("cell", 2)] ⟨nd__law_hand, rfl, Or.inl rfl, Or.inl rfl⟩ (di_seq (de_slV 0 (do_no) (do_ex (de_int)))) (dg_name ⟨nd__law_hand, rfl, Or.inl rfl, Or.inl rfl⟩) (dif_nil) (de_abs T.b_abs (da_cons (da_e (de_int1 T.b_int (da_cons (da_b 2) (da_nil)))) (da_nil))) (by kernel_rfl) rfl (fun v => by rfl) (hm := Or.inl rfl)) (dns_ret (dn_lst (da_cons (da_e (de_var 1)) (da_cons (da_e (de_int)) (da_cons (da_e (de_int)) (da_cons (da_e (de_add (da_e (de_int)) (da_e (de_mulC (da_e (de_int)) (da_e (de_len T.b_len (da_cons (da_b 1) (da_nil)))))))) (da_cons (da_e (de_int)) (da_nil))))))))
theorem p__law_hand (T : TX K mg fv)  {f : Addr} {fd : FuncData} (F : FnP K "_law_hand" 32 f fd) (hm : mg "_law_hand" = some (.ref f)) : Cal P w K mg base "_law_hand" 1 ["script"] (spN K mg 1 F__law_hand) := fn_N F hm sc__law_hand (d__law_hand T ) (fun _ _ _ _ _ _ us hl => match us, hl with | [_], _ => rfl)
theorem sc_common : FnScope N_common ["one", "other"] (defScope (top 3)) := ⟨rfl, rfl, rfl, nd_common, rfl, by decide +kernel, by decide +kernel⟩
set_option maxHeartbeats 4000000 in
theorem d_common (T : TX K mg fv)  : DSs (scOf P w K mg base N_common (defScope (top 3)) 0 false) (defBody (top 3)) b_common := ds_cons (ds_par (u := .v (fApp absB [.b 0])) (v := .v (fApp absB [.b 1])) ⟨nd_common, rfl, Or.inl rfl, Or.inl rfl⟩ ⟨nd_common, rfl, Or.inl rfl, Or.inl rfl⟩ (de_abs T.b_abs (da_cons (da_b 0) (da_nil))) (de_abs T.b_abs (da_cons (da_b 1) (da_nil))) (fun y => by rfl)) (ds_cons (ds_while fuel_common (dt_gt (da_b 1) (da_e (de_int))) (ds_one (ds_par (u := .v (fVar 1)) (v := .v (fApp modB [.b 0, .b 1])) ⟨nd_common, rfl, Or.inl rfl, Or.inl rfl⟩ ⟨nd_common, rfl, Or.inl rfl, Or.inl rfl⟩ (de_var 1) (de_mod (da_b 0) (da_b 1)) (fun y => by rfl)))) (ds_one (ds_ret (de_var 0))))
theorem p_common (T : TX K mg fv)  {f : Addr} {fd : FuncData} (F : FnP K "common" 3 f fd) (hm : mg "common" = some (.ref f)) : Cal P w K mg base "common" 1 ["one", "other"] (spP K mg 2 F_common) := fn_P F hm sc_common (d_common T ) (fun _ _ _ _ _ _ us hl => match us, hl with | [_, _], _ => rfl)
theorem sc_fraction : FnScope N_fraction ["top", "bottom"] (defScope (top 4)) := ⟨rfl, rfl, rfl, nd_fraction, rfl, by decide +kernel, by decide +kernel⟩
set_option maxHeartbeats 4000000 in
theorem d_fraction (T : TX K mg fv) (c_common : Cal P w K mg base "common" 1 ["one", "other"] (spP K mg 2 F_common)) : DSs (scOf P w K mg base N_fraction (defScope (top 4)) 1 false) (defBody (top 4)) b_fraction := ds_cons (ds_set ⟨nd_fraction, rfl, Or.inl rfl, Or.inl rfl⟩ (de_if (dt_gt (da_b 1) (da_e (de_int))) (de_call c_common (da_cons (da_b 0) (da_cons (da_b 1) (da_nil)))) (de_neg (da_e (de_call c_common (da_cons (da_b 0) (da_cons (da_b 1) (da_nil)))))))) (ds_one (ds_ret (de_tup (da_cons (da_e (de_div (da_b 0) (da_b 2))) (da_cons (da_e (de_div (da_b 1) (da_b 2))) (da_nil))))))
theorem p_fraction (T : TX K mg fv) (c_common : Cal P w K mg base "common" 1 ["one", "other"] (spP K mg 2 F_common)) {f : Addr} {fd : FuncData} (F : FnP K "fraction" 4 f fd) (hm : mg "fraction" = some (.ref f)) : Cal P w K mg base "fraction" 2 ["top", "bottom"] (spP K mg 2 F_fraction) := fn_P F hm sc_fraction (d_fraction T c_common) (fun _ _ _ _ _ _ us hl => match us, hl with | [_, _], _ => rfl)
theorem sc_all_exchanged : FnScope N_all_exchanged [] (defScope (top 30)) := ⟨rfl, rfl, rfl, nd_all_exchanged, rfl, by decide +kernel, by decide +kernel⟩
set_option maxHeartbeats 4000000 in
theorem d_all_exchanged (T : TX K mg fv) (c_fraction : Cal P w K mg base "fraction" 2 ["top", "bottom"] (spP K mg 2 F_fraction)) : DSs (scOf P w K mg base N_all_exchanged (defScope (top 30)) 2 false) (defBody (top 30)) b_all_exchanged := ds_cons (ds_set ⟨nd_all_exchanged, rfl, Or.inr ⟨rfl, .inl rfl⟩, Or.inl rfl⟩ (de_sub (da_e (de_mulC (da_e (de_giD T.i_HOURS)) (da_e (de_giD T.i_HOURS)))) (da_e (de_int)))) (ds_one (ds_ret (DN.e (dn_comp [("turn", 1)] (di_rng1 T.b_range (da_b 0)) (dg_name ⟨nd_all_exchanged, rfl, Or.inl rfl, Or.inl rfl⟩) (dif_nil) (de_call c_fraction (da_cons (da_e (de_mulC (da_e (de_giD T.i_HOURS)) (da_b 1))) (da_cons (da_b 0) (da_nil)))) nd_all_exchanged (by kernel_rfl) (hm := Or.inl rfl)))))
theorem p_all_exchanged (T : TX K mg fv) (c_fraction : Cal P w K mg base "fraction" 2 ["top", "bottom"] (spP K mg 2 F_fraction)) {f : Addr} {fd : FuncData} (F : FnP K "all_exchanged" 30 f fd) (hm : mg "all_exchanged" = some (.ref f)) : Cal P w K mg base "all_exchanged" 3 [] (spP K mg 0 F_all_exchanged) := fn_P F hm sc_all_exchanged (d_all_exchanged T c_fraction) (fun _ _ _ _ _ _ us hl => match us, hl with | [], _ => rfl)
theorem sc_is_sized : FnScope N_is_sized ["thing", "least", "most"] (defScope (top 2)) := ⟨rfl, rfl, rfl, nd_is_sized, rfl, by decide +kernel, by decide +kernel⟩
set_option maxHeartbeats 4000000 in
theorem d_is_sized (T : TX K mg fv)  : DSs (scOf P w K mg base N_is_sized (defScope (top 2)) 0 false) (defBody (top 2)) b_is_sized := ds_one (ds_ret (de_and (de_isi .tuple (da_b 0) T.b_isinstance T.b_tuple) (de_one (de_lele (de_var 1) (de_len T.b_len (da_cons (da_b 0) (da_nil))) (de_var 2)))))
theorem p_is_sized (T : TX K mg fv)  {f : Addr} {fd : FuncData} (F : FnP K "is_sized" 2 f fd) (hm : mg "is_sized" = some (.ref f)) : Cal P w K mg base "is_sized" 1 ["thing", "least", "most"] (spP K mg 3 F_is_sized) := fn_P F hm sc_is_sized (d_is_sized T ) (fun _ _ _ _ _ _ us hl => match us, hl with | [_, _, _], _ => rfl)
theorem sc_is_integer : FnScope N_is_integer ["thing"] (defScope (top 1)) := ⟨rfl, rfl, rfl, nd_is_integer, rfl, by decide +kernel, by decide +kernel⟩
set_option maxHeartbeats 4000000 in
theorem d_is_integer (T : TX K mg fv)  : DSs (scOf P w K mg base N_is_integer (defScope (top 1)) 0 false) (defBody (top 1)) b_is_integer := ds_one (ds_ret (de_and (de_isi .int (da_b 0) T.b_isinstance T.b_int) (de_one (de_not (de_isi .bool (da_b 0) T.b_isinstance T.b_bool)))))
theorem p_is_integer (T : TX K mg fv)  {f : Addr} {fd : FuncData} (F : FnP K "is_integer" 1 f fd) (hm : mg "is_integer" = some (.ref f)) : Cal P w K mg base "is_integer" 1 ["thing"] (spP K mg 1 F_is_integer) := fn_P F hm sc_is_integer (d_is_integer T ) (fun _ _ _ _ _ _ us hl => match us, hl with | [_], _ => rfl)
theorem sc_is_fraction : FnScope N_is_fraction ["thing"] (defScope (top 5)) := ⟨rfl, rfl, rfl, nd_is_fraction, rfl, by decide +kernel, by decide +kernel⟩
set_option maxHeartbeats 4000000 in
theorem d_is_fraction (T : TX K mg fv) (c_is_sized : Cal P w K mg base "is_sized" 1 ["thing", "least", "most"] (spP K mg 3 F_is_sized)) (c_is_integer : Cal P w K mg base "is_integer" 1 ["thing"] (spP K mg 1 F_is_integer)) (c_common : Cal P w K mg base "common" 1 ["one", "other"] (spP K mg 2 F_common)) : DSs (scOf P w K mg base N_is_fraction (defScope (top 5)) 1 false) (defBody (top 5)) b_is_fraction := ds_cons (ds_if (DW.t (dw_or (dt_not (dt_val (de_call c_is_sized (da_cons (da_b 0) (da_cons (da_e (de_int)) (da_cons (da_e (de_int)) (da_nil))))))) (dw_or (dt_not (dt_val (de_all T.b_all (da_cons (da_e (DN.e (dn_comp [("one", 1)] (di_seq (de_var 0)) (dg_name ⟨nd_is_fraction, rfl, Or.inl rfl, Or.inl rfl⟩) (dif_nil) (de_call c_is_integer (da_cons (da_b 1) (da_nil))) nd_is_fraction (by kernel_rfl) (hm := Or.inl rfl)))) (da_nil))))) (dw_or1 (dt_lt (da_e (de_ix (da_b 0) (da_e (de_int)))) (da_e (de_int))))))) (ds_one (ds_ret (de_bl))) (ds_nil)) (ds_one (ds_ret (de_eq (da_e (de_call c_common (da_cons (da_e (de_ix (da_b 0) (da_e (de_int)))) (da_cons (da_e (de_ix (da_b 0) (da_e (de_int)))) (da_nil))))) (da_e (de_int)))))
theorem p_is_fraction (T : TX K mg fv) (c_is_sized : Cal P w K mg base "is_sized" 1 ["thing", "least", "most"] (spP K mg 3 F_is_sized)) (c_is_integer : Cal P w K mg base "is_integer" 1 ["thing"] (spP K mg 1 F_is_integer)) (c_common : Cal P w K mg base "common" 1 ["one", "other"] (spP K mg 2 F_common)) {f : Addr} {fd : FuncData} (F : FnP K "is_fraction" 5 f fd) (hm : mg "is_fraction" = some (.ref f)) : Cal P w K mg base "is_fraction" 2 ["thing"] (spP K mg 1 F_is_fraction) := fn_P F hm sc_is_fraction (d_is_fraction T c_is_sized c_is_integer c_common) (fun _ _ _ _ _ _ us hl => match us, hl with | [_], _ => rfl)
theorem sc_check_place : FnScope N_check_place ["place"] (defScope (top 23)) := ⟨rfl, rfl, rfl, nd_check_place, rfl, by decide +kernel, by decide +kernel⟩
set_option maxHeartbeats 4000000 in
theorem d_check_place (T : TX K mg fv) (c_is_fraction : Cal P w K mg base "is_fraction" 2 ["thing"] (spP K mg 1 F_is_fraction)) : DSs (scOf P w K mg base N_check_place (defScope (top 23)) 2 false) (defBody (top 23)) b_check_place := ds_one (ds_if (DW.t (dw_or (dt_not (dt_val (de_call c_is_fraction (da_cons (da_b 0) (da_nil))))) (dw_or1 (dt_not (dt_lelt (de_int) (de_ix (da_b 0) (da_e (de_int))) (de_ix (da_b 0) (da_e (de_int)))))))) (ds_one (ds_raiseD T.e_NoPlace)) (ds_nil))
theorem p_check_place (T : TX K mg fv) (c_is_fraction : Cal P w K mg base "is_fraction" 2 ["thing"] (spP K mg 1 F_is_fraction)) {f : Addr} {fd : FuncData} (F : FnP K "check_place" 23 f fd) (hm : mg "check_place" = some (.ref f)) : Cal P w K mg base "check_place" 3 ["place"] (spP K mg 1 F_check_place) := fn_P F hm sc_check_place (d_check_place T c_is_fraction) (fun _ _ _ _ _ _ us hl => match us, hl with | [_], _ => rfl)
theorem sc_minus : FnScope N_minus ["one", "other"] (defScope (top 7)) := ⟨rfl, rfl, rfl, nd_minus, rfl, by decide +kernel, by decide +kernel⟩
set_option maxHeartbeats 4000000 in
theorem d_minus (T : TX K mg fv) (c_fraction : Cal P w K mg base "fraction" 2 ["top", "bottom"] (spP K mg 2 F_fraction)) : DSs (scOf P w K mg base N_minus (defScope (top 7)) 2 false) (defBody (top 7)) b_minus := ds_one (ds_ret (de_call c_fraction (da_cons (da_e (de_sub (da_e (de_mulC (da_e (de_ix (da_b 0) (da_e (de_int)))) (da_e (de_ix (da_b 1) (da_e (de_int)))))) (da_e (de_mulC (da_e (de_ix (da_b 1) (da_e (de_int)))) (da_e (de_ix (da_b 0) (da_e (de_int)))))))) (da_cons (da_e (de_mulC (da_e (de_ix (da_b 0) (da_e (de_int)))) (da_e (de_ix (da_b 1) (da_e (de_int)))))) (da_nil)))))
theorem p_minus (T : TX K mg fv) (c_fraction : Cal P w K mg base "fraction" 2 ["top", "bottom"] (spP K mg 2 F_fraction)) {f : Addr} {fd : FuncData} (F : FnP K "minus" 7 f fd) (hm : mg "minus" = some (.ref f)) : Cal P w K mg base "minus" 3 ["one", "other"] (spP K mg 2 F_minus) := fn_P F hm sc_minus (d_minus T c_fraction) (fun _ _ _ _ _ _ us hl => match us, hl with | [_, _], _ => rfl)
theorem sc_whole_below : FnScope N_whole_below ["one"] (defScope (top 19)) := ⟨rfl, rfl, rfl, nd_whole_below, rfl, by decide +kernel, by decide +kernel⟩
set_option maxHeartbeats 4000000 in
theorem d_whole_below (T : TX K mg fv)  : DSs (scOf P w K mg base N_whole_below (defScope (top 19)) 0 false) (defBody (top 19)) b_whole_below := ds_one (ds_ret (de_div (da_e (de_ix (da_b 0) (da_e (de_int)))) (da_e (de_ix (da_b 0) (da_e (de_int))))))
theorem p_whole_below (T : TX K mg fv)  {f : Addr} {fd : FuncData} (F : FnP K "whole_below" 19 f fd) (hm : mg "whole_below" = some (.ref f)) : Cal P w K mg base "whole_below" 1 ["one"] (spP K mg 1 F_whole_below) := fn_P F hm sc_whole_below (d_whole_below T ) (fun _ _ _ _ _ _ us hl => match us, hl with | [_], _ => rfl)
theorem sc_round_place : FnScope N_round_place ["one"] (defScope (top 20)) := ⟨rfl, rfl, rfl, nd_round_place, rfl, by decide +kernel, by decide +kernel⟩
set_option maxHeartbeats 4000000 in
theorem d_round_place (T : TX K mg fv) (c_minus : Cal P w K mg base "minus" 3 ["one", "other"] (spP K mg 2 F_minus)) (c_whole_below : Cal P w K mg base "whole_below" 1 ["one"] (spP K mg 1 F_whole_below)) : DSs (scOf P w K mg base N_round_place (defScope (top 20)) 3 false) (defBody (top 20)) b_round_place := ds_one (ds_ret (de_call c_minus (da_cons (da_b 0) (da_cons (da_e (de_tup (da_cons (da_e (de_call c_whole_below (da_cons (da_b 0) (da_nil)))) (da_cons (da_e (de_int)) (da_nil))))) (da_nil)))))
theorem p_round_place (T : TX K mg fv) (c_minus : Cal P w K mg base "minus" 3 ["one", "other"] (spP K mg 2 F_minus)) (c_whole_below : Cal P w K mg base "whole_below" 1 ["one"] (spP K mg 1 F_whole_below)) {f : Addr} {fd : FuncData} (F : FnP K "round_place" 20 f fd) (hm : mg "round_place" = some (.ref f)) : Cal P w K mg base "round_place" 4 ["one"] (spP K mg 1 F_round_place) := fn_P F hm sc_round_place (d_round_place T c_minus c_whole_below) (fun _ _ _ _ _ _ us hl => match us, hl with | [_], _ => rfl)
theorem sc_times : FnScope N_times ["one", "other"] (defScope (top 8)) := ⟨rfl, rfl, rfl, nd_times, rfl, by decide +kernel, by decide +kernel⟩
set_option maxHeartbeats 4000000 in
theorem d_times (T : TX K mg fv) (c_fraction : Cal P w K mg base "fraction" 2 ["top", "bottom"] (spP K mg 2 F_fraction)) : DSs (scOf P w K mg base N_times (defScope (top 8)) 2 false) (defBody (top 8)) b_times := ds_one (ds_ret (de_call c_fraction (da_cons (da_e (de_mulC (da_e (de_ix (da_b 0) (da_e (de_int)))) (da_e (de_ix (da_b 1) (da_e (de_int)))))) (da_cons (da_e (de_mulC (da_e (de_ix (da_b 0) (da_e (de_int)))) (da_e (de_ix (da_b 1) (da_e (de_int)))))) (da_nil)))))
theorem p_times (T : TX K mg fv) (c_fraction : Cal P w K mg base "fraction" 2 ["top", "bottom"] (spP K mg 2 F_fraction)) {f : Addr} {fd : FuncData} (F : FnP K "times" 8 f fd) (hm : mg "times" = some (.ref f)) : Cal P w K mg base "times" 3 ["one", "other"] (spP K mg 2 F_times) := fn_P F hm sc_times (d_times T c_fraction) (fun _ _ _ _ _ _ us hl => match us, hl with | [_, _], _ => rfl)
theorem sc_off_by : FnScope N_off_by ["hour", "minute"] (defScope (top 25)) := ⟨rfl, rfl, rfl, nd_off_by, rfl, by decide +kernel, by decide +kernel⟩
set_option maxHeartbeats 4000000 in
theorem d_off_by (T : TX K mg fv) (c_round_place : Cal P w K mg base "round_place" 4 ["one"] (spP K mg 1 F_round_place)) (c_minus : Cal P w K mg base "minus" 3 ["one", "other"] (spP K mg 2 F_minus)) (c_times : Cal P w K mg base "times" 3 ["one", "other"] (spP K mg 2 F_times)) : DSs (scOf P w K mg base N_off_by (defScope (top 25)) 4 false) (defBody (top 25)) b_off_by := ds_one (ds_ret (de_call c_round_place (da_cons (da_e (de_call c_minus (da_cons (da_e (de_call c_times (da_cons (da_b 0) (da_cons (da_e (de_tup (da_cons (da_e (de_giD T.i_HOURS)) (da_cons (da_e (de_int)) (da_nil))))) (da_nil))))) (da_cons (da_b 1) (da_nil))))) (da_nil))))
theorem p_off_by (T : TX K mg fv) (c_round_place : Cal P w K mg base "round_place" 4 ["one"] (spP K mg 1 F_round_place)) (c_minus : Cal P w K mg base "minus" 3 ["one", "other"] (spP K mg 2 F_minus)) (c_times : Cal P w K mg base "times" 3 ["one", "other"] (spP K mg 2 F_times)) {f : Addr} {fd : FuncData} (F : FnP K "off_by" 25 f fd) (hm : mg "off_by" = some (.ref f)) : Cal P w K mg base "off_by" 5 ["hour", "minute"] (spP K mg 2 F_off_by) := fn_P F hm sc_off_by (d_off_by T c_round_place c_minus c_times) (fun _ _ _ _ _ _ us hl => match us, hl with | [_, _], _ => rfl)
theorem sc_hour_told : FnScope N_hour_told ["hour", "minute"] (defScope (top 26)) := ⟨rfl, rfl, rfl, nd_hour_told, rfl, by decide +kernel, by decide +kernel⟩
set_option maxHeartbeats 4000000 in
theorem d_hour_told (T : TX K mg fv) (c_check_place : Cal P w K mg base "check_place" 3 ["place"] (spP K mg 1 F_check_place)) (c_off_by : Cal P w K mg base "off_by" 5 ["hour", "minute"] (spP K mg 2 F_off_by)) (c_times : Cal P w K mg base "times" 3 ["one", "other"] (spP K mg 2 F_times)) : DSs (scOf P w K mg base N_hour_told (defScope (top 26)) 5 false) (defBody (top 26)) b_hour_told := ds_cons (ds_expr (de_call c_check_place (da_cons (da_b 0) (da_nil)))) (ds_cons (ds_expr (de_call c_check_place (da_cons (da_b 1) (da_nil)))) (ds_cons (ds_set ⟨nd_hour_told, rfl, Or.inl rfl, Or.inl rfl⟩ (de_call c_off_by (da_cons (da_b 0) (da_cons (da_b 1) (da_nil))))) (ds_one (ds_ret (de_if (dt_eq (da_e (de_ix (da_b 2) (da_e (de_int)))) (da_e (de_int))) (de_tup (da_cons (da_e (de_gsD T.s_TIME_WORD)) (da_cons (da_e (de_call c_times (da_cons (da_b 0) (da_cons (da_e (de_tup (da_cons (da_e (de_giD T.i_HOURS)) (da_cons (da_e (de_int)) (da_nil))))) (da_nil))))) (da_nil)))) (de_tup (da_cons (da_e (de_gsD T.s_OFF_WORD)) (da_cons (da_e (de_var 2)) (da_nil)))))))))
theorem p_hour_told (T : TX K mg fv) (c_check_place : Cal P w K mg base "check_place" 3 ["place"] (spP K mg 1 F_check_place)) (c_off_by : Cal P w K mg base "off_by" 5 ["hour", "minute"] (spP K mg 2 F_off_by)) (c_times : Cal P w K mg base "times" 3 ["one", "other"] (spP K mg 2 F_times)) {f : Addr} {fd : FuncData} (F : FnP K "hour_told" 26 f fd) (hm : mg "hour_told" = some (.ref f)) : Cal P w K mg base "hour_told" 6 ["hour", "minute"] (spP K mg 2 F_hour_told) := fn_P F hm sc_hour_told (d_hour_told T c_check_place c_off_by c_times) (fun _ _ _ _ _ _ us hl => match us, hl with | [_, _], _ => rfl)
theorem sc_is_time : FnScope N_is_time ["thing"] (defScope (top 21)) := ⟨rfl, rfl, rfl, nd_is_time, rfl, by decide +kernel, by decide +kernel⟩
set_option maxHeartbeats 4000000 in
theorem d_is_time (T : TX K mg fv) (c_is_fraction : Cal P w K mg base "is_fraction" 2 ["thing"] (spP K mg 1 F_is_fraction)) : DSs (scOf P w K mg base N_is_time (defScope (top 21)) 2 false) (defBody (top 21)) b_is_time := ds_one (ds_ret (de_and (de_call c_is_fraction (da_cons (da_b 0) (da_nil))) (de_and (de_ge (da_e (de_ix (da_b 0) (da_e (de_int)))) (da_e (de_int))) (de_one (de_lt (da_e (de_ix (da_b 0) (da_e (de_int)))) (da_e (de_mulC (da_e (de_giD T.i_HOURS)) (da_e (de_ix (da_b 0) (da_e (de_int)))))))))))
theorem p_is_time (T : TX K mg fv) (c_is_fraction : Cal P w K mg base "is_fraction" 2 ["thing"] (spP K mg 1 F_is_fraction)) {f : Addr} {fd : FuncData} (F : FnP K "is_time" 21 f fd) (hm : mg "is_time" = some (.ref f)) : Cal P w K mg base "is_time" 3 ["thing"] (spP K mg 1 F_is_time) := fn_P F hm sc_is_time (d_is_time T c_is_fraction) (fun _ _ _ _ _ _ us hl => match us, hl with | [_], _ => rfl)
theorem sc_check_time : FnScope N_check_time ["time"] (defScope (top 22)) := ⟨rfl, rfl, rfl, nd_check_time, rfl, by decide +kernel, by decide +kernel⟩
set_option maxHeartbeats 4000000 in
theorem d_check_time (T : TX K mg fv) (c_is_time : Cal P w K mg base "is_time" 3 ["thing"] (spP K mg 1 F_is_time)) : DSs (scOf P w K mg base N_check_time (defScope (top 22)) 3 false) (defBody (top 22)) b_check_time := ds_one (ds_if (dt_not (dt_val (de_call c_is_time (da_cons (da_b 0) (da_nil))))) (ds_one (ds_raiseD T.e_NoTime)) (ds_nil))
theorem p_check_time (T : TX K mg fv) (c_is_time : Cal P w K mg base "is_time" 3 ["thing"] (spP K mg 1 F_is_time)) {f : Addr} {fd : FuncData} (F : FnP K "check_time" 22 f fd) (hm : mg "check_time" = some (.ref f)) : Cal P w K mg base "check_time" 4 ["time"] (spP K mg 1 F_check_time) := fn_P F hm sc_check_time (d_check_time T c_is_time) (fun _ _ _ _ _ _ us hl => match us, hl with | [_], _ => rfl)
theorem sc_hand_place : FnScope N_hand_place ["hand", "time"] (defScope (top 24)) := ⟨rfl, rfl, rfl, nd_hand_place, rfl, by decide +kernel, by decide +kernel⟩
set_option maxHeartbeats 4000000 in
theorem d_hand_place (T : TX K mg fv) (c_round_place : Cal P w K mg base "round_place" 4 ["one"] (spP K mg 1 F_round_place)) (c_times : Cal P w K mg base "times" 3 ["one", "other"] (spP K mg 2 F_times)) (c_fraction : Cal P w K mg base "fraction" 2 ["top", "bottom"] (spP K mg 2 F_fraction)) : DSs (scOf P w K mg base N_hand_place (defScope (top 24)) 4 false) (defBody (top 24)) b_hand_place := ds_one (ds_ret (de_call c_round_place (da_cons (da_e (de_call c_times (da_cons (da_b 1) (da_cons (da_e (de_call c_fraction (da_cons (da_e (de_ix (da_e (de_gtD (ns := [1, 12, 720]) T.t_TURNS)) (da_b 0))) (da_cons (da_e (de_giD T.i_HOURS)) (da_nil))))) (da_nil))))) (da_nil))))
theorem p_hand_place (T : TX K mg fv) (c_round_place : Cal P w K mg base "round_place" 4 ["one"] (spP K mg 1 F_round_place)) (c_times : Cal P w K mg base "times" 3 ["one", "other"] (spP K mg 2 F_times)) (c_fraction : Cal P w K mg base "fraction" 2 ["top", "bottom"] (spP K mg 2 F_fraction)) {f : Addr} {fd : FuncData} (F : FnP K "hand_place" 24 f fd) (hm : mg "hand_place" = some (.ref f)) : Cal P w K mg base "hand_place" 5 ["hand", "time"] (spP K mg 2 F_hand_place) := fn_P F hm sc_hand_place (d_hand_place T c_round_place c_times c_fraction) (fun _ _ _ _ _ _ us hl => match us, hl with | [_, _], _ => rfl)
theorem sc_exchanged : FnScope N_exchanged ["time"] (defScope (top 29)) := ⟨rfl, rfl, rfl, nd_exchanged, rfl, by decide +kernel, by decide +kernel⟩
set_option maxHeartbeats 4000000 in
theorem d_exchanged (T : TX K mg fv) (c_check_time : Cal P w K mg base "check_time" 4 ["time"] (spP K mg 1 F_check_time)) (c_hand_place : Cal P w K mg base "hand_place" 5 ["hand", "time"] (spP K mg 2 F_hand_place)) (c_off_by : Cal P w K mg base "off_by" 5 ["hour", "minute"] (spP K mg 2 F_off_by)) (c_times : Cal P w K mg base "times" 3 ["one", "other"] (spP K mg 2 F_times)) : DSs (scOf P w K mg base N_exchanged (defScope (top 29)) 5 false) (defBody (top 29)) b_exchanged := ds_cons (ds_expr (de_call c_check_time (da_cons (da_b 0) (da_nil)))) (ds_cons (ds_par (u := .v (fCall F_hand_place [.e (fC (.int 0)), .b 0])) (v := .v (fCall F_hand_place [.e (fC (.int 1)), .b 0])) ⟨nd_exchanged, rfl, Or.inl rfl, Or.inl rfl⟩ ⟨nd_exchanged, rfl, Or.inl rfl, Or.inl rfl⟩ (de_call c_hand_place (da_cons (da_e (de_int)) (da_cons (da_b 0) (da_nil)))) (de_call c_hand_place (da_cons (da_e (de_int)) (da_cons (da_b 0) (da_nil)))) (fun y => by rfl)) (ds_one (ds_ret (de_if (dt_eq (da_e (de_ix (da_e (de_call c_off_by (da_cons (da_b 2) (da_cons (da_b 1) (da_nil))))) (da_e (de_int)))) (da_e (de_int))) (de_call c_times (da_cons (da_b 2) (da_cons (da_e (de_tup (da_cons (da_e (de_giD T.i_HOURS)) (da_cons (da_e (de_int)) (da_nil))))) (da_nil)))) (de_non)))))
theorem p_exchanged (T : TX K mg fv) (c_check_time : Cal P w K mg base "check_time" 4 ["time"] (spP K mg 1 F_check_time)) (c_hand_place : Cal P w K mg base "hand_place" 5 ["hand", "time"] (spP K mg 2 F_hand_place)) (c_off_by : Cal P w K mg base "off_by" 5 ["hour", "minute"] (spP K mg 2 F_off_by)) (c_times : Cal P w K mg base "times" 3 ["one", "other"] (spP K mg 2 F_times)) {f : Addr} {fd : FuncData} (F : FnP K "exchanged" 29 f fd) (hm : mg "exchanged" = some (.ref f)) : Cal P w K mg base "exchanged" 6 ["time"] (spP K mg 1 F_exchanged) := fn_P F hm sc_exchanged (d_exchanged T c_check_time c_hand_place c_off_by c_times) (fun _ _ _ _ _ _ us hl => match us, hl with | [_], _ => rfl)
theorem sc__law_is : FnScope N__law_is ["got", "due"] (defScope (top 35)) := ⟨rfl, rfl, rfl, nd__law_is, rfl, by decide +kernel, by decide +kernel⟩
set_option maxHeartbeats 4000000 in
theorem d__law_is (T : TX K mg fv) {n : Nat} (c__law_is : Cal P w K mg base "_law_is" (0 + n) ["got", "due"] (spP K mg 2 (F__law_is n))) : DSs (scOf P w K mg base N__law_is (defScope (top 35)) (0 + n) false) (defBody (top 35)) (b__law_is (F__law_is n)) := ds_cons (ds_if (dt_val (de_isis (da_b 1) T.b_isinstance (dtys_cons .tuple T.b_tuple (dtys_cons .list T.b_list (dtys_nil))))) (ds_cons (ds_if (dt_ne (da_e (de_isi .tuple (da_b 0) T.b_isinstance T.b_tuple)) (da_e (de_isi .tuple (da_b 1) T.b_isinstance T.b_tuple))) (ds_one (ds_ret (de_bl))) (ds_nil)) (ds_cons (ds_if (DW.t (dw_or (dt_ne (da_e (de_isi .list (da_b 0) T.b_isinstance T.b_list)) (da_e (de_isi .list (da_b 1) T.b_isinstance T.b_list))) (dw_or1 (dt_ne (da_e (de_len T.b_len (da_cons (da_b 0) (da_nil)))) (da_e (de_len T.b_len (da_cons (da_b 1) (da_nil)))))))) (ds_one (ds_ret (de_bl))) (ds_nil)) (ds_one (ds_ret (de_all T.b_all (da_cons (da_e (DN.e (dn_comp [("one", 2), ("other", 3)] (di_zipM T.b_zip (de_var 0) (de_var 1)) (dg_tup (dgs_name ⟨nd__law_is, rfl, Or.inl rfl, Or.inl rfl⟩ (dgs_name ⟨nd__law_is, rfl, Or.inl rfl, Or.inl rfl⟩ (dgs_nil)))) (dif_nil) (de_call c__law_is (da_cons (da_b 2) (da_cons (da_b 3) (da_nil))) (hkk := Nat.le_refl _)) nd__law_is (by kernel_rfl) (hm := Or.inl rfl)))) (da_nil))))))) (ds_nil)) (ds_cons (ds_if (DW.t (dw_or (dt_is (da_b 1) (da_e (de_non))) (dw_or1 (dt_is (da_b 0) (da_e (de_non)))))) (ds_one (ds_ret (de_and (de_is (da_b 1) (da_e (de_non))) (de_one (de_is (da_b 0) (da_e (de_non))))))) (ds_nil)) (ds_cons (ds_if (dt_ne (da_e (de_isi .bool (da_b 0) T.b_isinstance T.b_bool)) (da_e (de_isi .bool (da_b 1) T.b_isinstance T.b_bool))) (ds_one (ds_ret (de_bl))) (ds_nil)) (ds_one (ds_ret (de_and (de_eq (da_e (de_isi .str (da_b 0) T.b_isinstance T.b_str)) (da_e (de_isi .str (da_b 1) T.b_isinstance T.b_str))) (de_one (de_eq (da_b 0) (da_b 1))))))))
theorem p__law_is (T : TX K mg fv)  {f : Addr} {fd : FuncData} (F : FnP K "_law_is" 35 f fd) (hm : mg "_law_is" = some (.ref f)) : ∀ n : Nat, Cal P w K mg base "_law_is" (0 + n) ["got", "due"] (spP K mg 2 (F__law_is n))
  | 0 => fn_0 F hm (fun _ _ _ _ _ _ us hl => match us, hl with | [_, _], _ => rfl)
  | n + 1 => have c__law_is := p__law_is T  F hm n; fn_P F hm sc__law_is (d__law_is T c__law_is) (fun _ _ _ _ _ _ us hl => match us, hl with | [_, _], _ => rfl)
theorem sc_plus : FnScope N_plus ["one", "other"] (defScope (top 6)) := ⟨rfl, rfl, rfl, nd_plus, rfl, by decide +kernel, by decide +kernel⟩
set_option maxHeartbeats 4000000 in
theorem d_plus (T : TX K mg fv) (c_fraction : Cal P w K mg base "fraction" 2 ["top", "bottom"] (spP K mg 2 F_fraction)) : DSs (scOf P w K mg base N_plus (defScope (top 6)) 2 false) (defBody (top 6)) b_plus := ds_one (ds_ret (de_call c_fraction (da_cons (da_e (de_add (da_e (de_mulC (da_e (de_ix (da_b 0) (da_e (de_int)))) (da_e (de_ix (da_b 1) (da_e (de_int)))))) (da_e (de_mulC (da_e (de_ix (da_b 1) (da_e (de_int)))) (da_e (de_ix (da_b 0) (da_e (de_int)))))))) (da_cons (da_e (de_mulC (da_e (de_ix (da_b 0) (da_e (de_int)))) (da_e (de_ix (da_b 1) (da_e (de_int)))))) (da_nil)))))
theorem p_plus (T : TX K mg fv) (c_fraction : Cal P w K mg base "fraction" 2 ["top", "bottom"] (spP K mg 2 F_fraction)) {f : Addr} {fd : FuncData} (F : FnP K "plus" 6 f fd) (hm : mg "plus" = some (.ref f)) : Cal P w K mg base "plus" 3 ["one", "other"] (spP K mg 2 F_plus) := fn_P F hm sc_plus (d_plus T c_fraction) (fun _ _ _ _ _ _ us hl => match us, hl with | [_, _], _ => rfl)
theorem sc_is_less : FnScope N_is_less ["one", "other"] (defScope (top 9)) := ⟨rfl, rfl, rfl, nd_is_less, rfl, by decide +kernel, by decide +kernel⟩
set_option maxHeartbeats 4000000 in
theorem d_is_less (T : TX K mg fv)  : DSs (scOf P w K mg base N_is_less (defScope (top 9)) 0 false) (defBody (top 9)) b_is_less := ds_one (ds_ret (de_lt (da_e (de_mulC (da_e (de_ix (da_b 0) (da_e (de_int)))) (da_e (de_ix (da_b 1) (da_e (de_int)))))) (da_e (de_mulC (da_e (de_ix (da_b 1) (da_e (de_int)))) (da_e (de_ix (da_b 0) (da_e (de_int))))))))
theorem p_is_less (T : TX K mg fv)  {f : Addr} {fd : FuncData} (F : FnP K "is_less" 9 f fd) (hm : mg "is_less" = some (.ref f)) : Cal P w K mg base "is_less" 1 ["one", "other"] (spP K mg 2 F_is_less) := fn_P F hm sc_is_less (d_is_less T ) (fun _ _ _ _ _ _ us hl => match us, hl with | [_, _], _ => rfl)
theorem sc_nearest_time : FnScope N_nearest_time ["hour", "minute"] (defScope (top 28)) := ⟨rfl, rfl, rfl, nd_nearest_time, rfl, by decide +kernel, by decide +kernel⟩
set_option maxHeartbeats 4000000 in
theorem d_nearest_time (T : TX K mg fv) (c_check_place : Cal P w K mg base "check_place" 3 ["place"] (spP K mg 1 F_check_place)) (c_plus : Cal P w K mg base "plus" 3 ["one", "other"] (spP K mg 2 F_plus)) (c_round_place : Cal P w K mg base "round_place" 4 ["one"] (spP K mg 1 F_round_place)) (c_minus : Cal P w K mg base "minus" 3 ["one", "other"] (spP K mg 2 F_minus)) (c_hand_place : Cal P w K mg base "hand_place" 5 ["hand", "time"] (spP K mg 2 F_hand_place)) (c_is_less : Cal P w K mg base "is_less" 1 ["one", "other"] (spP K mg 2 F_is_less)) : DSs (scOf P w K mg base N_nearest_time (defScope (top 28)) 5 false) (defBody (top 28)) b_nearest_time := ds_cons (ds_expr (de_call c_check_place (da_cons (da_b 0) (da_nil)))) (ds_cons (ds_expr (de_call c_check_place (da_cons (da_b 1) (da_nil)))) (ds_cons (ds_set ⟨nd_nearest_time, rfl, Or.inl rfl, Or.inl rfl⟩ (de_non)) (ds_cons (ds_for (di_rng1 T.b_range (da_e (de_giD T.i_HOURS))) (dg_name ⟨nd_nearest_time, rfl, Or.inl rfl, Or.inl rfl⟩) (ds_cons (ds_set ⟨nd_nearest_time, rfl, Or.inl rfl, Or.inl rfl⟩ (de_call c_plus (da_cons (da_e (de_tup (da_cons (da_e (de_var 3)) (da_cons (da_e (de_int)) (da_nil))))) (da_cons (da_b 1) (da_nil))))) (ds_cons (ds_set ⟨nd_nearest_time, rfl, Or.inl rfl, Or.inl rfl⟩ (de_call c_round_place (da_cons (da_e (de_call c_minus (da_cons (da_e (de_call c_hand_place (da_cons (da_e (de_int)) (da_cons (da_b 4) (da_nil))))) (da_cons (da_b 0) (da_nil))))) (da_nil)))) (ds_cons (ds_set ⟨nd_nearest_time, rfl, Or.inl rfl, Or.inl rfl⟩ (de_call c_round_place (da_cons (da_e (de_call c_minus (da_cons (da_e (de_tup (da_cons (da_e (de_int)) (da_cons (da_e (de_int)) (da_nil))))) (da_cons (da_b 5) (da_nil))))) (da_nil)))) (ds_cons (ds_set ⟨nd_nearest_time, rfl, Or.inl rfl, Or.inl rfl⟩ (de_if (dt_val (de_call c_is_less (da_cons (da_b 6) (da_cons (da_b 5) (da_nil))))) (de_var 6) (de_var 5))) (ds_one (ds_if (DW.t (dw_or (dt_is (da_b 2) (da_e (de_non))) (dw_or1 (dt_val (de_call c_is_less (da_cons (da_b 7) (da_cons (da_e (de_ix (da_b 2) (da_e (de_int)))) (da_nil)))))))) (ds_one (ds_set ⟨nd_nearest_time, rfl, Or.inl rfl, Or.inl rfl⟩ (de_tup (da_cons (da_e (de_var 7)) (da_cons (da_e (de_var 4)) (da_nil)))))) (ds_nil)))))))) (ds_one (ds_ret (de_ix (da_b 2) (da_e (de_int))))))))
theorem p_nearest_time (T : TX K mg fv) (c_check_place : Cal P w K mg base "check_place" 3 ["place"] (spP K mg 1 F_check_place)) (c_plus : Cal P w K mg base "plus" 3 ["one", "other"] (spP K mg 2 F_plus)) (c_round_place : Cal P w K mg base "round_place" 4 ["one"] (spP K mg 1 F_round_place)) (c_minus : Cal P w K mg base "minus" 3 ["one", "other"] (spP K mg 2 F_minus)) (c_hand_place : Cal P w K mg base "hand_place" 5 ["hand", "time"] (spP K mg 2 F_hand_place)) (c_is_less : Cal P w K mg base "is_less" 1 ["one", "other"] (spP K mg 2 F_is_less)) {f : Addr} {fd : FuncData} (F : FnP K "nearest_time" 28 f fd) (hm : mg "nearest_time" = some (.ref f)) : Cal P w K mg base "nearest_time" 6 ["hour", "minute"] (spP K mg 2 F_nearest_time) := fn_P F hm sc_nearest_time (d_nearest_time T c_check_place c_plus c_round_place c_minus c_hand_place c_is_less) (fun _ _ _ _ _ _ us hl => match us, hl with | [_, _], _ => rfl)
theorem sc__law_cut : FnScope N__law_cut ["top", "bottom"] (defScope (top 36)) := ⟨rfl, rfl, rfl, nd__law_cut, rfl, by decide +kernel, by decide +kernel⟩
set_option maxHeartbeats 4000000 in
theorem d__law_cut (T : TX K mg fv)  : DSs (scOf P w K mg base N__law_cut (defScope (top 36)) 0 false) (defBody (top 36)) b__law_cut := ds_cons (ds_par (u := .v (fApp absB [.b 0])) (v := .v (fApp absB [.b 1])) ⟨nd__law_cut, rfl, Or.inl rfl, Or.inl rfl⟩ ⟨nd__law_cut, rfl, Or.inl rfl, Or.inl rfl⟩ (de_abs T.b_abs (da_cons (da_b 0) (da_nil))) (de_abs T.b_abs (da_cons (da_b 1) (da_nil))) (fun y => by rfl)) (ds_cons (ds_while fuel__law_cut (dt_ne (da_b 3) (da_e (de_int))) (ds_one (ds_par (u := .v (fVar 3)) (v := .v (fApp modB [.e (fApp intB [.b 2]), .b 3])) ⟨nd__law_cut, rfl, Or.inl rfl, Or.inl rfl⟩ ⟨nd__law_cut, rfl, Or.inl rfl, Or.inl rfl⟩ (de_var 3) (de_mod (da_e (de_int1 T.b_int (da_cons (da_b 2) (da_nil)))) (da_b 3)) (fun y => by rfl)))) (ds_cons (ds_set ⟨nd__law_cut, rfl, Or.inl rfl, Or.inl rfl⟩ (de_if (dt_gt (da_b 1) (da_e (de_int))) (de_var 2) (de_sub (da_e (de_int)) (da_b 2)))) (ds_one (ds_ret (de_tup (da_cons (da_e (de_div (da_b 0) (da_b 4))) (da_cons (da_e (de_div (da_b 1) (da_b 4))) (da_nil))))))))
theorem p__law_cut (T : TX K mg fv)  {f : Addr} {fd : FuncData} (F : FnP K "_law_cut" 36 f fd) (hm : mg "_law_cut" = some (.ref f)) : Cal P w K mg base "_law_cut" 1 ["top", "bottom"] (spP K mg 2 F__law_cut) := fn_P F hm sc__law_cut (d__law_cut T ) (fun _ _ _ _ _ _ us hl => match us, hl with | [_, _], _ => rfl)
theorem sc__law_draw : FnScope N__law_draw ["hand", "many"] (defScope (top 33)) := ⟨rfl, rfl, rfl, nd__law_draw, rfl, by decide +kernel, by decide +kernel⟩
set_option maxHeartbeats 4000000 in
theorem d__law_draw (T : TX K mg fv)  : DSs (scOf P w K mg base N__law_draw (defScope (top 33)) 0 true) (defBody (top 33)) b__law_draw := ds_cons (ds_if (DW.t (dw_and (dt_eq (da_e (de_ix (da_b 0) (da_e (de_int)))) (da_e (de_int))) (dw_and1 (dt_lt (da_e (de_ix (da_b 0) (da_e (de_int)))) (da_e (de_len T.b_len (da_cons (da_e (de_ix (da_b 0) (da_e (de_int)))) (da_nil)))))))) (ds_cons (ds_set ⟨nd__law_draw, rfl, Or.inl rfl, Or.inr (by decide)⟩ (de_ix (da_e (de_ix (da_b 0) (da_e (de_int)))) (da_e (de_ix (da_b 0) (da_e (de_int)))))) (ds_cons (ds_put (i := 0) (de_add (da_e (de_ix (da_b 0) (da_e (de_int)))) (da_e (de_int))) (de_int)) (ds_cons (ds_put (i := 0) (de_mod (da_e (de_int1 T.b_int (da_cons (da_e (de_add (da_e (de_add (da_e (de_mulC (da_e (de_ix (da_b 0) (da_e (de_int)))) (da_e (de_int)))) (da_b 2))) (da_e (de_int)))) (da_nil)))) (da_e (de_int))) (de_int)) (ds_one (ds_if (dt_ge (da_b 2) (da_e (de_pow (da_e (de_int)) (da_e (de_int))))) (ds_one (ds_put (i := 0) (de_var 2) (de_int))) (ds_nil)))))) (ds_nil)) (ds_cons (ds_if (dt_gt (da_e (de_ix (da_b 0) (da_e (de_int)))) (da_e (de_int))) (ds_cons (ds_set ⟨nd__law_draw, rfl, Or.inl rfl, Or.inr (by decide)⟩ (de_mod (da_e (de_int1 T.b_int (da_cons (da_e (de_ix (da_b 0) (da_e (de_int)))) (da_nil)))) (da_b 1))) (ds_cons (ds_put (i := 0) (de_div (da_e (de_ix (da_b 0) (da_e (de_int)))) (da_b 1)) (de_int)) (ds_one (ds_ret (de_var 3))))) (ds_nil)) (ds_cons (ds_put (i := 0) (de_add (da_e (de_ix (da_b 0) (da_e (de_int)))) (da_e (de_int))) (de_int)) (ds_cons (ds_set ⟨nd__law_draw, rfl, Or.inl rfl, Or.inr (by decide)⟩ (de_mod (da_e (de_int1 T.b_int (da_cons (da_e (de_mulC (da_e (de_int1 T.b_int (da_cons (da_e (de_add (da_e (de_ix (da_b 0) (da_e (de_int)))) (da_e (de_mulC (da_e (de_int)) (da_e (de_ix (da_b 0) (da_e (de_int)))))))) (da_nil)))) (da_e (de_int)))) (da_nil)))) (da_e (de_int)))) (ds_cons (ds_set ⟨nd__law_draw, rfl, Or.inl rfl, Or.inr (by decide)⟩ (de_mod (da_e (de_int1 T.b_int (da_cons (da_e (de_mulC (da_b 4) (da_e (de_add (da_e (de_div (da_b 4) (da_e (de_int)))) (da_e (de_int)))))) (da_nil)))) (da_e (de_int)))) (ds_cons (ds_set ⟨nd__law_draw, rfl, Or.inl rfl, Or.inr (by decide)⟩ (de_mod (da_e (de_int1 T.b_int (da_cons (da_e (de_mulC (da_b 4) (da_e (de_add (da_e (de_div (da_b 4) (da_e (de_int)))) (da_e (de_int)))))) (da_nil)))) (da_e (de_int)))) (ds_one (ds_ret (de_mod (da_e (de_int1 T.b_int (da_cons (da_e (de_div (da_b 4) (da_e (de_int)))) (da_nil)))) (da_b 1)))))))))
theorem p__law_draw (T : TX K mg fv)  {f : Addr} {fd : FuncData} (F : FnP K "_law_draw" 33 f fd) (hm : mg "_law_draw" = some (.ref f)) : Cal P w K mg base "_law_draw" 1 ["hand", "many"] (spR K mg 2 F__law_draw) := fn_R F hm sc__law_draw (d__law_draw T ) (fun _ _ _ _ _ _ us hl => match us, hl with | [_, _], _ => rfl)
theorem sc__law_some : FnScope N__law_some ["hand", "things"] (defScope (top 34)) := ⟨rfl, rfl, rfl, nd__law_some, rfl, by decide +kernel, by decide +kernel⟩
set_option maxHeartbeats 4000000 in
theorem d__law_some (T : TX K mg fv) (c__law_draw : Cal P w K mg base "_law_draw" 1 ["hand", "many"] (spR K mg 2 F__law_draw)) : DSs (scOf P w K mg base N__law_some (defScope (top 34)) 1 true) (defBody (top 34)) b__law_some := ds_one (ds_ret (de_ix (da_b 1) (da_e (de_callR 0 c__law_draw (da_cons (da_e (de_len T.b_len (da_cons (da_b 1) (da_nil)))) (da_nil))))))
theorem p__law_some (T : TX K mg fv) (c__law_draw : Cal P w K mg base "_law_draw" 1 ["hand", "many"] (spR K mg 2 F__law_draw)) {f : Addr} {fd : FuncData} (F : FnP K "_law_some" 34 f fd) (hm : mg "_law_some" = some (.ref f)) : Cal P w K mg base "_law_some" 2 ["hand", "things"] (spR K mg 2 F__law_some) := fn_R F hm sc__law_some (d__law_some T c__law_draw) (fun _ _ _ _ _ _ us hl => match us, hl with | [_, _], _ => rfl)
theorem sc__law_time : FnScope N__law_time ["hand"] (defScope (top 42)) := ⟨rfl, rfl, rfl, nd__law_time, rfl, by decide +kernel, by decide +kernel⟩
set_option maxHeartbeats 4000000 in
theorem d__law_time (T : TX K mg fv) (c__law_some : Cal P w K mg base "_law_some" 2 ["hand", "things"] (spR K mg 2 F__law_some)) (c__law_draw : Cal P w K mg base "_law_draw" 1 ["hand", "many"] (spR K mg 2 F__law_draw)) (c__law_cut : Cal P w K mg base "_law_cut" 1 ["top", "bottom"] (spP K mg 2 F__law_cut)) : DSs (scOf P w K mg base N__law_time (defScope (top 42)) 2 true) (defBody (top 42)) b__law_time := ds_cons (ds_set ⟨nd__law_time, rfl, Or.inl rfl, Or.inr (by decide)⟩ (de_callR 0 c__law_some (da_cons (da_e (DN.e (dn_lst (da_cons (da_e (de_int)) (da_cons (da_e (de_int)) (da_cons (da_e (de_int)) (da_cons (da_e (de_int)) (da_cons (da_e (de_int)) (da_cons (da_e (de_int)) (da_cons (da_e (de_int)) (da_cons (da_e (de_int)) (da_cons (da_e (de_int)) (da_cons (da_e (de_add (da_e (de_int)) (da_e (de_callR 0 c__law_draw (da_cons (da_e (de_int)) (da_nil)))))) (da_nil)))))))))))))) (da_nil)))) (ds_one (ds_ret (de_call c__law_cut (da_cons (da_e (de_callR 0 c__law_draw (da_cons (da_e (de_mulC (da_e (de_int)) (da_b 1))) (da_nil)))) (da_cons (da_b 1) (da_nil))))))
theorem p__law_time (T : TX K mg fv) (c__law_some : Cal P w K mg base "_law_some" 2 ["hand", "things"] (spR K mg 2 F__law_some)) (c__law_draw : Cal P w K mg base "_law_draw" 1 ["hand", "many"] (spR K mg 2 F__law_draw)) (c__law_cut : Cal P w K mg base "_law_cut" 1 ["top", "bottom"] (spP K mg 2 F__law_cut)) {f : Addr} {fd : FuncData} (F : FnP K "_law_time" 42 f fd) (hm : mg "_law_time" = some (.ref f)) : Cal P w K mg base "_law_time" 3 ["hand"] (spR K mg 1 F__law_time) := fn_R F hm sc__law_time (d__law_time T c__law_some c__law_draw c__law_cut) (fun _ _ _ _ _ _ us hl => match us, hl with | [_], _ => rfl)
theorem sc__law_times : FnScope N__law_times ["one", "other"] (defScope (top 39)) := ⟨rfl, rfl, rfl, nd__law_times, rfl, by decide +kernel, by decide +kernel⟩
set_option maxHeartbeats 4000000 in
theorem d__law_times (T : TX K mg fv) (c__law_cut : Cal P w K mg base "_law_cut" 1 ["top", "bottom"] (spP K mg 2 F__law_cut)) : DSs (scOf P w K mg base N__law_times (defScope (top 39)) 1 false) (defBody (top 39)) b__law_times := ds_one (ds_ret (de_call c__law_cut (da_cons (da_e (de_mulC (da_e (de_ix (da_b 0) (da_e (de_int)))) (da_e (de_ix (da_b 1) (da_e (de_int)))))) (da_cons (da_e (de_mulC (da_e (de_ix (da_b 0) (da_e (de_int)))) (da_e (de_ix (da_b 1) (da_e (de_int)))))) (da_nil)))))
theorem p__law_times (T : TX K mg fv) (c__law_cut : Cal P w K mg base "_law_cut" 1 ["top", "bottom"] (spP K mg 2 F__law_cut)) {f : Addr} {fd : FuncData} (F : FnP K "_law_times" 39 f fd) (hm : mg "_law_times" = some (.ref f)) : Cal P w K mg base "_law_times" 2 ["one", "other"] (spP K mg 2 F__law_times) := fn_P F hm sc__law_times (d__law_times T c__law_cut) (fun _ _ _ _ _ _ us hl => match us, hl with | [_, _], _ => rfl)
theorem sc__law_rest : FnScope N__law_rest ["one"] (defScope (top 41)) := ⟨rfl, rfl, rfl, nd__law_rest, rfl, by decide +kernel, by decide +kernel⟩
set_option maxHeartbeats 4000000 in
theorem d__law_rest (T : TX K mg fv)  : DSs (scOf P w K mg base N__law_rest (defScope (top 41)) 0 false) (defBody (top 41)) b__law_rest := ds_one (ds_ret (de_tup (da_cons (da_e (de_mod (da_e (de_int1 T.b_int (da_cons (da_e (de_ix (da_b 0) (da_e (de_int)))) (da_nil)))) (da_e (de_ix (da_b 0) (da_e (de_int)))))) (da_cons (da_e (de_ix (da_b 0) (da_e (de_int)))) (da_nil)))))
theorem p__law_rest (T : TX K mg fv)  {f : Addr} {fd : FuncData} (F : FnP K "_law_rest" 41 f fd) (hm : mg "_law_rest" = some (.ref f)) : Cal P w K mg base "_law_rest" 1 ["one"] (spP K mg 1 F__law_rest) := fn_P F hm sc__law_rest (d__law_rest T ) (fun _ _ _ _ _ _ us hl => match us, hl with | [_], _ => rfl)
theorem sc__law_minus : FnScope N__law_minus ["one", "other"] (defScope (top 38)) := ⟨rfl, rfl, rfl, nd__law_minus, rfl, by decide +kernel, by decide +kernel⟩
set_option maxHeartbeats 4000000 in
theorem d__law_minus (T : TX K mg fv) (c__law_cut : Cal P w K mg base "_law_cut" 1 ["top", "bottom"] (spP K mg 2 F__law_cut)) : DSs (scOf P w K mg base N__law_minus (defScope (top 38)) 1 false) (defBody (top 38)) b__law_minus := ds_one (ds_ret (de_call c__law_cut (da_cons (da_e (de_sub (da_e (de_mulC (da_e (de_ix (da_b 0) (da_e (de_int)))) (da_e (de_ix (da_b 1) (da_e (de_int)))))) (da_e (de_mulC (da_e (de_ix (da_b 1) (da_e (de_int)))) (da_e (de_ix (da_b 0) (da_e (de_int)))))))) (da_cons (da_e (de_mulC (da_e (de_ix (da_b 0) (da_e (de_int)))) (da_e (de_ix (da_b 1) (da_e (de_int)))))) (da_nil)))))
theorem p__law_minus (T : TX K mg fv) (c__law_cut : Cal P w K mg base "_law_cut" 1 ["top", "bottom"] (spP K mg 2 F__law_cut)) {f : Addr} {fd : FuncData} (F : FnP K "_law_minus" 38 f fd) (hm : mg "_law_minus" = some (.ref f)) : Cal P w K mg base "_law_minus" 2 ["one", "other"] (spP K mg 2 F__law_minus) := fn_P F hm sc__law_minus (d__law_minus T c__law_cut) (fun _ _ _ _ _ _ us hl => match us, hl with | [_, _], _ => rfl)
theorem sc__law_told : FnScope N__law_told ["hour", "minute"] (defScope (top 47)) := ⟨rfl, rfl, rfl, nd__law_told, rfl, by decide +kernel, by decide +kernel⟩
set_option maxHeartbeats 4000000 in
theorem d__law_told (T : TX K mg fv) (c__law_times : Cal P w K mg base "_law_times" 2 ["one", "other"] (spP K mg 2 F__law_times)) (c__law_rest : Cal P w K mg base "_law_rest" 1 ["one"] (spP K mg 1 F__law_rest)) (c__law_minus : Cal P w K mg base "_law_minus" 2 ["one", "other"] (spP K mg 2 F__law_minus)) : DSs (scOf P w K mg base N__law_told (defScope (top 47)) 2 false) (defBody (top 47)) b__law_told := ds_cons (ds_set ⟨nd__law_told, rfl, Or.inl rfl, Or.inl rfl⟩ (de_call c__law_times (da_cons (da_e (de_tup (da_cons (da_e (de_int)) (da_cons (da_e (de_int)) (da_nil))))) (da_cons (da_b 0) (da_nil))))) (ds_cons (ds_set ⟨nd__law_told, rfl, Or.inl rfl, Or.inl rfl⟩ (de_call c__law_rest (da_cons (da_e (de_call c__law_minus (da_cons (da_b 2) (da_cons (da_b 1) (da_nil))))) (da_nil)))) (ds_one (ds_ret (de_if (dt_eq (da_b 3) (da_e (de_tup (da_cons (da_e (de_int)) (da_cons (da_e (de_int)) (da_nil)))))) (de_tup (da_cons (da_e (de_str)) (da_cons (da_e (de_var 2)) (da_nil)))) (de_tup (da_cons (da_e (de_str)) (da_cons (da_e (de_var 3)) (da_nil))))))))
theorem p__law_told (T : TX K mg fv) (c__law_times : Cal P w K mg base "_law_times" 2 ["one", "other"] (spP K mg 2 F__law_times)) (c__law_rest : Cal P w K mg base "_law_rest" 1 ["one"] (spP K mg 1 F__law_rest)) (c__law_minus : Cal P w K mg base "_law_minus" 2 ["one", "other"] (spP K mg 2 F__law_minus)) {f : Addr} {fd : FuncData} (F : FnP K "_law_told" 47 f fd) (hm : mg "_law_told" = some (.ref f)) : Cal P w K mg base "_law_told" 3 ["hour", "minute"] (spP K mg 2 F__law_told) := fn_P F hm sc__law_told (d__law_told T c__law_times c__law_rest c__law_minus) (fun _ _ _ _ _ _ us hl => match us, hl with | [_, _], _ => rfl)
theorem sc__law_place : FnScope N__law_place ["hand"] (defScope (top 43)) := ⟨rfl, rfl, rfl, nd__law_place, rfl, by decide +kernel, by decide +kernel⟩
set_option maxHeartbeats 4000000 in
theorem d__law_place (T : TX K mg fv) (c__law_some : Cal P w K mg base "_law_some" 2 ["hand", "things"] (spR K mg 2 F__law_some)) (c__law_draw : Cal P w K mg base "_law_draw" 1 ["hand", "many"] (spR K mg 2 F__law_draw)) (c__law_cut : Cal P w K mg base "_law_cut" 1 ["top", "bottom"] (spP K mg 2 F__law_cut)) : DSs (scOf P w K mg base N__law_place (defScope (top 43)) 2 true) (defBody (top 43)) b__law_place := ds_cons (ds_set ⟨nd__law_place, rfl, Or.inl rfl, Or.inr (by decide)⟩ (de_callR 0 c__law_some (da_cons (da_e (DN.e (dn_lst (da_cons (da_e (de_int)) (da_cons (da_e (de_int)) (da_cons (da_e (de_int)) (da_cons (da_e (de_int)) (da_cons (da_e (de_int)) (da_cons (da_e (de_int)) (da_cons (da_e (de_add (da_e (de_int)) (da_e (de_callR 0 c__law_draw (da_cons (da_e (de_int)) (da_nil)))))) (da_nil))))))))))) (da_nil)))) (ds_one (ds_ret (de_call c__law_cut (da_cons (da_e (de_callR 0 c__law_draw (da_cons (da_e (de_var 1)) (da_nil)))) (da_cons (da_b 1) (da_nil))))))
theorem p__law_place (T : TX K mg fv) (c__law_some : Cal P w K mg base "_law_some" 2 ["hand", "things"] (spR K mg 2 F__law_some)) (c__law_draw : Cal P w K mg base "_law_draw" 1 ["hand", "many"] (spR K mg 2 F__law_draw)) (c__law_cut : Cal P w K mg base "_law_cut" 1 ["top", "bottom"] (spP K mg 2 F__law_cut)) {f : Addr} {fd : FuncData} (F : FnP K "_law_place" 43 f fd) (hm : mg "_law_place" = some (.ref f)) : Cal P w K mg base "_law_place" 3 ["hand"] (spR K mg 1 F__law_place) := fn_R F hm sc__law_place (d__law_place T c__law_some c__law_draw c__law_cut) (fun _ _ _ _ _ _ us hl => match us, hl with | [_], _ => rfl)
theorem sc__law_bent : FnScope N__law_bent ["hand", "told"] (defScope (top 51)) := ⟨rfl, rfl, rfl, nd__law_bent, rfl, by decide +kernel, by decide +kernel⟩
set_option maxHeartbeats 4000000 in
theorem d__law_bent (T : TX K mg fv) (c__law_place : Cal P w K mg base "_law_place" 3 ["hand"] (spR K mg 1 F__law_place)) (c__law_some : Cal P w K mg base "_law_some" 2 ["hand", "things"] (spR K mg 2 F__law_some)) : DSs (scOf P w K mg base N__law_bent (defScope (top 51)) 3 true) (defBody (top 51)) b__law_bent := ds_cons (ds_unp (de_var 1) (dg_tup (dgs_name ⟨nd__law_bent, rfl, Or.inl rfl, Or.inr (by decide)⟩ (dgs_name ⟨nd__law_bent, rfl, Or.inl rfl, Or.inr (by decide)⟩ (dgs_nil))))) (ds_cons (ds_set ⟨nd__law_bent, rfl, Or.inl rfl, Or.inr (by decide)⟩ (de_callR 0 c__law_place (da_nil))) (ds_cons (ds_set ⟨nd__law_bent, rfl, Or.inl rfl, Or.inr (by decide)⟩ (DN.e (dn_lst (da_cons (da_e (de_var 1)) (da_cons (da_e (de_tup (da_cons (da_e (de_var 2)) (da_cons (da_e (de_var 4)) (da_nil))))) (da_cons (da_e (de_tup (da_cons (da_e (de_str)) (da_cons (da_e (de_var 3)) (da_nil))))) (da_cons (da_e (de_tup (da_cons (da_e (de_str)) (da_cons (da_e (de_var 3)) (da_nil))))) (da_cons (da_e (de_tup (da_cons (da_e (de_str)) (da_cons (da_e (de_var 4)) (da_nil))))) (da_cons (da_e (de_slV 1 (do_no) (do_ex (de_int)))) (da_cons (da_e (de_add (da_b 1) (da_e (de_tup (da_cons (da_e (de_int)) (da_nil)))))) (da_cons (da_e (DN.e (dn_list T.b_list (da_cons (da_b 1) (da_nil))))) (da_nil)))))))))))) (ds_cons (ds_set ⟨nd__law_bent, rfl, Or.inl rfl, Or.inr (by decide)⟩ (de_add (da_b 5) (da_e (DN.e (dn_lst (da_cons (da_e (de_tup (da_cons (da_e (de_var 2)) (da_cons (da_e (DN.e (dn_list T.b_list (da_cons (da_b 3) (da_nil))))) (da_nil))))) (da_cons (da_e (de_tup (da_cons (da_e (de_var 2)) (da_cons (da_e (de_tup (da_cons (da_e (de_mulC (da_e (de_int)) (da_e (de_ix (da_b 3) (da_e (de_int)))))) (da_cons (da_e (de_mulC (da_e (de_int)) (da_e (de_ix (da_b 3) (da_e (de_int)))))) (da_nil))))) (da_nil))))) (da_cons (da_e (de_tup (da_cons (da_e (de_var 2)) (da_cons (da_e (de_non)) (da_nil))))) (da_cons (da_e (de_tup (da_cons (da_e (de_var 2)) (da_cons (da_e (de_rev (da_b 3))) (da_nil))))) (da_cons (da_e (de_non)) (da_nil))))))))))) (ds_one (ds_ret (de_callR 0 c__law_some (da_cons (da_e (de_add (da_b 5) (da_e (DN.e (dn_lst (da_cons (da_e (de_tup (da_cons (da_e (de_str)) (da_cons (da_e (de_var 3)) (da_nil))))) (da_cons (da_e (de_tup (da_cons (da_e (de_non)) (da_cons (da_e (de_var 3)) (da_nil))))) (da_cons (da_e (de_int)) (da_cons (da_e (DN.e (dn_dic0))) (da_cons (da_e (de_tup (da_cons (da_e (de_var 2)) (da_cons (da_e (de_tup (da_cons (da_e (de_int)) (da_cons (da_e (de_int)) (da_nil))))) (da_nil))))) (da_cons (da_e (de_tup (da_cons (da_e (de_var 2)) (da_cons (da_e (de_tup (da_cons (da_e (de_int)) (da_cons (da_e (de_int)) (da_nil))))) (da_nil))))) (da_cons (da_e (de_tup (da_cons (da_e (de_var 2)) (da_cons (da_e (de_int)) (da_nil))))) (da_nil))))))))))))) (da_nil))))))))
theorem p__law_bent (T : TX K mg fv) (c__law_place : Cal P w K mg base "_law_place" 3 ["hand"] (spR K mg 1 F__law_place)) (c__law_some : Cal P w K mg base "_law_some" 2 ["hand", "things"] (spR K mg 2 F__law_some)) {f : Addr} {fd : FuncData} (F : FnP K "_law_bent" 51 f fd) (hm : mg "_law_bent" = some (.ref f)) : Cal P w K mg base "_law_bent" 4 ["hand", "told"] (spR K mg 2 F__law_bent) := fn_R F hm sc__law_bent (d__law_bent T c__law_place c__law_some) (fun _ _ _ _ _ _ us hl => match us, hl with | [_, _], _ => rfl)
theorem sc__law_plus : FnScope N__law_plus ["one", "other"] (defScope (top 37)) := ⟨rfl, rfl, rfl, nd__law_plus, rfl, by decide +kernel, by decide +kernel⟩
set_option maxHeartbeats 4000000 in
theorem d__law_plus (T : TX K mg fv) (c__law_cut : Cal P w K mg base "_law_cut" 1 ["top", "bottom"] (spP K mg 2 F__law_cut)) : DSs (scOf P w K mg base N__law_plus (defScope (top 37)) 1 false) (defBody (top 37)) b__law_plus := ds_one (ds_ret (de_call c__law_cut (da_cons (da_e (de_add (da_e (de_mulC (da_e (de_ix (da_b 0) (da_e (de_int)))) (da_e (de_ix (da_b 1) (da_e (de_int)))))) (da_e (de_mulC (da_e (de_ix (da_b 1) (da_e (de_int)))) (da_e (de_ix (da_b 0) (da_e (de_int)))))))) (da_cons (da_e (de_mulC (da_e (de_ix (da_b 0) (da_e (de_int)))) (da_e (de_ix (da_b 1) (da_e (de_int)))))) (da_nil)))))
theorem p__law_plus (T : TX K mg fv) (c__law_cut : Cal P w K mg base "_law_cut" 1 ["top", "bottom"] (spP K mg 2 F__law_cut)) {f : Addr} {fd : FuncData} (F : FnP K "_law_plus" 37 f fd) (hm : mg "_law_plus" = some (.ref f)) : Cal P w K mg base "_law_plus" 2 ["one", "other"] (spP K mg 2 F__law_plus) := fn_P F hm sc__law_plus (d__law_plus T c__law_cut) (fun _ _ _ _ _ _ us hl => match us, hl with | [_, _], _ => rfl)
theorem sc__law_less : FnScope N__law_less ["one", "other"] (defScope (top 40)) := ⟨rfl, rfl, rfl, nd__law_less, rfl, by decide +kernel, by decide +kernel⟩
set_option maxHeartbeats 4000000 in
theorem d__law_less (T : TX K mg fv)  : DSs (scOf P w K mg base N__law_less (defScope (top 40)) 0 false) (defBody (top 40)) b__law_less := ds_one (ds_ret (de_lt (da_e (de_mulC (da_e (de_ix (da_b 0) (da_e (de_int)))) (da_e (de_ix (da_b 1) (da_e (de_int)))))) (da_e (de_mulC (da_e (de_ix (da_b 1) (da_e (de_int)))) (da_e (de_ix (da_b 0) (da_e (de_int))))))))
theorem p__law_less (T : TX K mg fv)  {f : Addr} {fd : FuncData} (F : FnP K "_law_less" 40 f fd) (hm : mg "_law_less" = some (.ref f)) : Cal P w K mg base "_law_less" 1 ["one", "other"] (spP K mg 2 F__law_less) := fn_P F hm sc__law_less (d__law_less T ) (fun _ _ _ _ _ _ us hl => match us, hl with | [_, _], _ => rfl)
theorem sc__law_far : FnScope N__law_far ["one", "other"] (defScope (top 48)) := ⟨rfl, rfl, rfl, nd__law_far, rfl, by decide +kernel, by decide +kernel⟩
set_option maxHeartbeats 4000000 in
theorem d__law_far (T : TX K mg fv) (c__law_rest : Cal P w K mg base "_law_rest" 1 ["one"] (spP K mg 1 F__law_rest)) (c__law_minus : Cal P w K mg base "_law_minus" 2 ["one", "other"] (spP K mg 2 F__law_minus)) (c__law_less : Cal P w K mg base "_law_less" 1 ["one", "other"] (spP K mg 2 F__law_less)) : DSs (scOf P w K mg base N__law_far (defScope (top 48)) 2 false) (defBody (top 48)) b__law_far := ds_cons (ds_set ⟨nd__law_far, rfl, Or.inl rfl, Or.inl rfl⟩ (de_call c__law_rest (da_cons (da_e (de_call c__law_minus (da_cons (da_b 0) (da_cons (da_b 1) (da_nil))))) (da_nil)))) (ds_cons (ds_set ⟨nd__law_far, rfl, Or.inl rfl, Or.inl rfl⟩ (de_call c__law_minus (da_cons (da_e (de_tup (da_cons (da_e (de_int)) (da_cons (da_e (de_int)) (da_nil))))) (da_cons (da_b 2) (da_nil))))) (ds_one (ds_ret (de_if (dt_val (de_call c__law_less (da_cons (da_b 2) (da_cons (da_b 3) (da_nil))))) (de_var 2) (de_var 3)))))
theorem p__law_far (T : TX K mg fv) (c__law_rest : Cal P w K mg base "_law_rest" 1 ["one"] (spP K mg 1 F__law_rest)) (c__law_minus : Cal P w K mg base "_law_minus" 2 ["one", "other"] (spP K mg 2 F__law_minus)) (c__law_less : Cal P w K mg base "_law_less" 1 ["one", "other"] (spP K mg 2 F__law_less)) {f : Addr} {fd : FuncData} (F : FnP K "_law_far" 48 f fd) (hm : mg "_law_far" = some (.ref f)) : Cal P w K mg base "_law_far" 3 ["one", "other"] (spP K mg 2 F__law_far) := fn_P F hm sc__law_far (d__law_far T c__law_rest c__law_minus c__law_less) (fun _ _ _ _ _ _ us hl => match us, hl with | [_, _], _ => rfl)
theorem sc__law_nearest : FnScope N__law_nearest ["hour", "minute"] (defScope (top 49)) := ⟨rfl, rfl, rfl, nd__law_nearest, rfl, by decide +kernel, by decide +kernel⟩
set_option maxHeartbeats 4000000 in
theorem d__law_nearest (T : TX K mg fv) (c__law_plus : Cal P w K mg base "_law_plus" 2 ["one", "other"] (spP K mg 2 F__law_plus)) (c__law_far : Cal P w K mg base "_law_far" 3 ["one", "other"] (spP K mg 2 F__law_far)) (c__law_cut : Cal P w K mg base "_law_cut" 1 ["top", "bottom"] (spP K mg 2 F__law_cut)) (c__law_less : Cal P w K mg base "_law_less" 1 ["one", "other"] (spP K mg 2 F__law_less)) : DSs (scOf P w K mg base N__law_nearest (defScope (top 49)) 3 false) (defBody (top 49)) b__law_nearest := ds_cons (ds_set ⟨nd__law_nearest, rfl, Or.inl rfl, Or.inl rfl⟩ (de_non)) (ds_cons (ds_for (di_rng1 T.b_range (da_e (de_int))) (dg_name ⟨nd__law_nearest, rfl, Or.inl rfl, Or.inl rfl⟩) (ds_cons (ds_set ⟨nd__law_nearest, rfl, Or.inl rfl, Or.inl rfl⟩ (de_call c__law_plus (da_cons (da_e (de_tup (da_cons (da_e (de_var 3)) (da_cons (da_e (de_int)) (da_nil))))) (da_cons (da_b 1) (da_nil))))) (ds_cons (ds_set ⟨nd__law_nearest, rfl, Or.inl rfl, Or.inl rfl⟩ (de_call c__law_far (da_cons (da_e (de_call c__law_cut (da_cons (da_e (de_ix (da_b 4) (da_e (de_int)))) (da_cons (da_e (de_mulC (da_e (de_int)) (da_e (de_ix (da_b 4) (da_e (de_int)))))) (da_nil))))) (da_cons (da_b 0) (da_nil))))) (ds_one (ds_if (DW.t (dw_or (dt_is (da_b 2) (da_e (de_non))) (dw_or1 (dt_val (de_call c__law_less (da_cons (da_b 5) (da_cons (da_e (de_ix (da_b 2) (da_e (de_int)))) (da_nil)))))))) (ds_one (ds_set ⟨nd__law_nearest, rfl, Or.inl rfl, Or.inl rfl⟩ (de_tup (da_cons (da_e (de_var 5)) (da_cons (da_e (de_var 4)) (da_nil)))))) (ds_nil)))))) (ds_one (ds_ret (de_ix (da_b 2) (da_e (de_int))))))
theorem p__law_nearest (T : TX K mg fv) (c__law_plus : Cal P w K mg base "_law_plus" 2 ["one", "other"] (spP K mg 2 F__law_plus)) (c__law_far : Cal P w K mg base "_law_far" 3 ["one", "other"] (spP K mg 2 F__law_far)) (c__law_cut : Cal P w K mg base "_law_cut" 1 ["top", "bottom"] (spP K mg 2 F__law_cut)) (c__law_less : Cal P w K mg base "_law_less" 1 ["one", "other"] (spP K mg 2 F__law_less)) {f : Addr} {fd : FuncData} (F : FnP K "_law_nearest" 49 f fd) (hm : mg "_law_nearest" = some (.ref f)) : Cal P w K mg base "_law_nearest" 4 ["hour", "minute"] (spP K mg 2 F__law_nearest) := fn_P F hm sc__law_nearest (d__law_nearest T c__law_plus c__law_far c__law_cut c__law_less) (fun _ _ _ _ _ _ us hl => match us, hl with | [_, _], _ => rfl)
theorem sc__law_exchanged : FnScope N__law_exchanged ["time"] (defScope (top 50)) := ⟨rfl, rfl, rfl, nd__law_exchanged, rfl, by decide +kernel, by decide +kernel⟩
set_option maxHeartbeats 4000000 in
theorem d__law_exchanged (T : TX K mg fv) (c__law_cut : Cal P w K mg base "_law_cut" 1 ["top", "bottom"] (spP K mg 2 F__law_cut)) (c__law_times : Cal P w K mg base "_law_times" 2 ["one", "other"] (spP K mg 2 F__law_times)) : DSs (scOf P w K mg base N__law_exchanged (defScope (top 50)) 2 false) (defBody (top 50)) b__law_exchanged := ds_cons (ds_set ⟨nd__law_exchanged, rfl, Or.inl rfl, Or.inl rfl⟩ (de_call c__law_cut (da_cons (da_e (de_mod (da_e (de_int1 T.b_int (da_cons (da_e (de_ix (da_b 0) (da_e (de_int)))) (da_nil)))) (da_e (de_ix (da_b 0) (da_e (de_int)))))) (da_cons (da_e (de_ix (da_b 0) (da_e (de_int)))) (da_nil))))) (ds_cons (ds_set ⟨nd__law_exchanged, rfl, Or.inl rfl, Or.inl rfl⟩ (de_call c__law_times (da_cons (da_e (de_tup (da_cons (da_e (de_int)) (da_cons (da_e (de_int)) (da_nil))))) (da_cons (da_b 1) (da_nil))))) (ds_cons (ds_set ⟨nd__law_exchanged, rfl, Or.inl rfl, Or.inl rfl⟩ (de_call c__law_cut (da_cons (da_e (de_mod (da_e (de_int1 T.b_int (da_cons (da_e (de_ix (da_b 2) (da_e (de_int)))) (da_nil)))) (da_e (de_ix (da_b 2) (da_e (de_int)))))) (da_cons (da_e (de_ix (da_b 2) (da_e (de_int)))) (da_nil))))) (ds_one (ds_ret (de_if (dt_eq (da_b 3) (da_e (de_call c__law_cut (da_cons (da_e (de_ix (da_b 0) (da_e (de_int)))) (da_cons (da_e (de_mulC (da_e (de_int)) (da_e (de_ix (da_b 0) (da_e (de_int)))))) (da_nil)))))) (de_var 2) (de_non))))))
theorem p__law_exchanged (T : TX K mg fv) (c__law_cut : Cal P w K mg base "_law_cut" 1 ["top", "bottom"] (spP K mg 2 F__law_cut)) (c__law_times : Cal P w K mg base "_law_times" 2 ["one", "other"] (spP K mg 2 F__law_times)) {f : Addr} {fd : FuncData} (F : FnP K "_law_exchanged" 50 f fd) (hm : mg "_law_exchanged" = some (.ref f)) : Cal P w K mg base "_law_exchanged" 3 ["time"] (spP K mg 1 F__law_exchanged) := fn_P F hm sc__law_exchanged (d__law_exchanged T c__law_cut c__law_times) (fun _ _ _ _ _ _ us hl => match us, hl with | [_], _ => rfl)
theorem sc_is_hour_told : FnScope N_is_hour_told ["hour", "minute", "thing"] (defScope (top 27)) := ⟨rfl, rfl, rfl, nd_is_hour_told, rfl, by decide +kernel, by decide +kernel⟩
set_option maxHeartbeats 4000000 in
theorem d_is_hour_told (T : TX K mg fv) (c_hour_told : Cal P w K mg base "hour_told" 6 ["hour", "minute"] (spP K mg 2 F_hour_told)) (c_is_sized : Cal P w K mg base "is_sized" 1 ["thing", "least", "most"] (spP K mg 3 F_is_sized)) (c_is_fraction : Cal P w K mg base "is_fraction" 2 ["thing"] (spP K mg 1 F_is_fraction)) : DSs (scOf P w K mg base N_is_hour_told (defScope (top 27)) 6 false) (defBody (top 27)) b_is_hour_told := ds_cons (ds_set ⟨nd_is_hour_told, rfl, Or.inl rfl, Or.inl rfl⟩ (de_call c_hour_told (da_cons (da_b 0) (da_cons (da_b 1) (da_nil))))) (ds_cons (ds_if (DW.t (dw_or (dt_not (dt_val (de_call c_is_sized (da_cons (da_b 2) (da_cons (da_e (de_int)) (da_cons (da_e (de_int)) (da_nil))))))) (dw_or1 (dt_not (dt_val (de_isi .str (da_e (de_ix (da_b 2) (da_e (de_int)))) T.b_isinstance T.b_str)))))) (ds_one (ds_ret (de_bl))) (ds_nil)) (ds_one (ds_ret (de_and (de_eq (da_e (de_ix (da_b 2) (da_e (de_int)))) (da_e (de_ix (da_b 3) (da_e (de_int))))) (de_and (de_call c_is_fraction (da_cons (da_e (de_ix (da_b 2) (da_e (de_int)))) (da_nil))) (de_one (de_eq (da_e (de_ix (da_b 2) (da_e (de_int)))) (da_e (de_ix (da_b 3) (da_e (de_int)))))))))))
theorem p_is_hour_told (T : TX K mg fv) (c_hour_told : Cal P w K mg base "hour_told" 6 ["hour", "minute"] (spP K mg 2 F_hour_told)) (c_is_sized : Cal P w K mg base "is_sized" 1 ["thing", "least", "most"] (spP K mg 3 F_is_sized)) (c_is_fraction : Cal P w K mg base "is_fraction" 2 ["thing"] (spP K mg 1 F_is_fraction)) {f : Addr} {fd : FuncData} (F : FnP K "is_hour_told" 27 f fd) (hm : mg "is_hour_told" = some (.ref f)) : Cal P w K mg base "is_hour_told" 7 ["hour", "minute", "thing"] (spP K mg 3 F_is_hour_told) := fn_P F hm sc_is_hour_told (d_is_hour_told T c_hour_told c_is_sized c_is_fraction) (fun _ _ _ _ _ _ us hl => match us, hl with | [_, _, _], _ => rfl)
theorem sc__law_is_right : FnScope N__law_is_right ["hand"] (defScope (top 52)) := ⟨rfl, rfl, rfl, nd__law_is_right, rfl, by decide +kernel, by decide +kernel⟩
set_option maxHeartbeats 4000000 in
theorem d__law_is_right (T : TX K mg fv) (c__law_time : Cal P w K mg base "_law_time" 3 ["hand"] (spR K mg 1 F__law_time)) (c__law_place : Cal P w K mg base "_law_place" 3 ["hand"] (spR K mg 1 F__law_place)) (c__law_draw : Cal P w K mg base "_law_draw" 1 ["hand", "many"] (spR K mg 2 F__law_draw)) (c__law_cut : Cal P w K mg base "_law_cut" 1 ["top", "bottom"] (spP K mg 2 F__law_cut)) (c__law_is : Cal P w K mg base "_law_is" (0 + 9) ["got", "due"] (spP K mg 2 (F__law_is 9))) (c_hour_told : Cal P w K mg base "hour_told" 6 ["hour", "minute"] (spP K mg 2 F_hour_told)) (c__law_told : Cal P w K mg base "_law_told" 3 ["hour", "minute"] (spP K mg 2 F__law_told)) (c__law_bent : Cal P w K mg base "_law_bent" 4 ["hand", "told"] (spR K mg 2 F__law_bent)) (c_is_hour_told : Cal P w K mg base "is_hour_told" 7 ["hour", "minute", "thing"] (spP K mg 3 F_is_hour_told)) (c_nearest_time : Cal P w K mg base "nearest_time" 6 ["hour", "minute"] (spP K mg 2 F_nearest_time)) (c__law_nearest : Cal P w K mg base "_law_nearest" 4 ["hour", "minute"] (spP K mg 2 F__law_nearest)) (c__law_some : Cal P w K mg base "_law_some" 2 ["hand", "things"] (spR K mg 2 F__law_some)) (c_exchanged : Cal P w K mg base "exchanged" 6 ["time"] (spP K mg 1 F_exchanged)) (c__law_exchanged : Cal P w K mg base "_law_exchanged" 3 ["time"] (spP K mg 1 F__law_exchanged)) : DSs (scOf P w K mg base N__law_is_right (defScope (top 52)) 11 true) (defBody (top 52)) b__law_is_right := ds_cons (ds_set ⟨nd__law_is_right, rfl, Or.inl rfl, Or.inr (by decide)⟩ (de_callR 0 c__law_time (da_nil))) (ds_cons (ds_par (u := .v (fCallR F__law_place 0 [])) (v := .v (fCallR F__law_place 0 [])) ⟨nd__law_is_right, rfl, Or.inl rfl, Or.inr (by decide)⟩ ⟨nd__law_is_right, rfl, Or.inl rfl, Or.inr (by decide)⟩ (de_callR 0 c__law_place (da_nil)) (de_callR 0 c__law_place (da_nil)) (fun y => by rfl)) (ds_cons (ds_if (dt_eq (da_e (de_callR 0 c__law_draw (da_cons (da_e (de_int)) (da_nil)))) (da_e (de_int))) (ds_cons (ds_par (u := .v (fCall F__law_cut [.e (fApp ixB [.b 1, .e (fC (.int 0))]), .e (fApp mulC [.e (fC (.int 12)), .e (fApp ixB [.b 1, .e (fC (.int 1))])])])) (v := .v (fCall F__law_cut [.e (fApp modB [.e (fApp intB [.e (fApp ixB [.b 1, .e (fC (.int 0))])]), .e (fApp ixB [.b 1, .e (fC (.int 1))])]), .e (fApp ixB [.b 1, .e (fC (.int 1))])])) ⟨nd__law_is_right, rfl, Or.inl rfl, Or.inr (by decide)⟩ ⟨nd__law_is_right, rfl, Or.inl rfl, Or.inr (by decide)⟩ (de_call c__law_cut (da_cons (da_e (de_ix (da_b 1) (da_e (de_int)))) (da_cons (da_e (de_mulC (da_e (de_int)) (da_e (de_ix (da_b 1) (da_e (de_int)))))) (da_nil)))) (de_call c__law_cut (da_cons (da_e (de_mod (da_e (de_int1 T.b_int (da_cons (da_e (de_ix (da_b 1) (da_e (de_int)))) (da_nil)))) (da_e (de_ix (da_b 1) (da_e (de_int)))))) (da_cons (da_e (de_ix (da_b 1) (da_e (de_int)))) (da_nil)))) (fun y => by rfl)) (ds_one (ds_if (dt_not (dt_val (de_call c__law_is (da_cons (da_e (de_call c_hour_told (da_cons (da_b 2) (da_cons (da_b 3) (da_nil))))) (da_cons (da_e (de_tup (da_cons (da_e (de_str)) (da_cons (da_e (de_var 1)) (da_nil))))) (da_nil)))))) (ds_one (ds_ret (de_bl))) (ds_nil)))) (ds_nil)) (ds_cons (ds_set ⟨nd__law_is_right, rfl, Or.inl rfl, Or.inr (by decide)⟩ (de_call c__law_told (da_cons (da_b 2) (da_cons (da_b 3) (da_nil))))) (ds_cons (ds_if (dt_not (dt_val (de_call c__law_is (da_cons (da_e (de_call c_hour_told (da_cons (da_b 2) (da_cons (da_b 3) (da_nil))))) (da_cons (da_b 4) (da_nil)))))) (ds_one (ds_ret (de_bl))) (ds_nil)) (ds_cons (ds_for (di_rng1 T.b_range (da_e (de_int))) (dg_name ⟨nd__law_is_right, rfl, Or.inl rfl, Or.inr (by decide)⟩) (ds_cons (ds_set ⟨nd__law_is_right, rfl, Or.inl rfl, Or.inr (by decide)⟩ (de_if (dt_gt (da_b 5) (da_e (de_int))) (de_callR 0 c__law_bent (da_cons (da_e (de_var 4)) (da_nil))) (de_var 4))) (ds_one (ds_if (dt_not (dt_val (de_call c__law_is (da_cons (da_e (de_call c_is_hour_told (da_cons (da_b 2) (da_cons (da_b 3) (da_cons (da_b 6) (da_nil)))))) (da_cons (da_e (de_call c__law_is (da_cons (da_b 6) (da_cons (da_b 4) (da_nil))))) (da_nil)))))) (ds_one (ds_ret (de_bl))) (ds_nil))))) (ds_cons (ds_set ⟨nd__law_is_right, rfl, Or.inl rfl, Or.inr (by decide)⟩ (de_call c_nearest_time (da_cons (da_b 2) (da_cons (da_b 3) (da_nil))))) (ds_cons (ds_if (dt_not (dt_val (de_call c__law_is (da_cons (da_b 7) (da_cons (da_e (de_call c__law_nearest (da_cons (da_b 2) (da_cons (da_b 3) (da_nil))))) (da_nil)))))) (ds_one (ds_ret (de_bl))) (ds_nil)) (ds_cons (ds_if (DW.t (dw_and (dt_eq (da_e (de_ix (da_b 4) (da_e (de_int)))) (da_e (de_str))) (dw_and1 (dt_ne (da_b 7) (da_e (de_ix (da_b 4) (da_e (de_int)))))))) (ds_one (ds_ret (de_bl))) (ds_nil)) (ds_cons (ds_set ⟨nd__law_is_right, rfl, Or.inl rfl, Or.inr (by decide)⟩ (de_callR 0 c__law_some (da_cons (da_e (DN.e (dn_lst (da_cons (da_e (de_var 1)) (da_cons (da_e (de_call c__law_cut (da_cons (da_e (de_mulC (da_e (de_int)) (da_e (de_callR 0 c__law_draw (da_cons (da_e (de_int)) (da_nil)))))) (da_cons (da_e (de_int)) (da_nil))))) (da_nil)))))) (da_nil)))) (ds_cons (ds_set ⟨nd__law_is_right, rfl, Or.inl rfl, Or.inr (by decide)⟩ (de_call c_exchanged (da_cons (da_b 1) (da_nil)))) (ds_cons (ds_if (dt_not (dt_val (de_call c__law_is (da_cons (da_b 8) (da_cons (da_e (de_call c__law_exchanged (da_cons (da_b 1) (da_nil)))) (da_nil)))))) (ds_one (ds_ret (de_bl))) (ds_nil)) (ds_one (ds_ret (de_or (de_is (da_b 8) (da_e (de_non))) (de_one (de_eq (da_e (de_call c_exchanged (da_cons (da_b 8) (da_nil)))) (da_b 1)))))))))))))))))
theorem p__law_is_right (T : TX K mg fv) (c__law_time : Cal P w K mg base "_law_time" 3 ["hand"] (spR K mg 1 F__law_time)) (c__law_place : Cal P w K mg base "_law_place" 3 ["hand"] (spR K mg 1 F__law_place)) (c__law_draw : Cal P w K mg base "_law_draw" 1 ["hand", "many"] (spR K mg 2 F__law_draw)) (c__law_cut : Cal P w K mg base "_law_cut" 1 ["top", "bottom"] (spP K mg 2 F__law_cut)) (c__law_is : Cal P w K mg base "_law_is" (0 + 9) ["got", "due"] (spP K mg 2 (F__law_is 9))) (c_hour_told : Cal P w K mg base "hour_told" 6 ["hour", "minute"] (spP K mg 2 F_hour_told)) (c__law_told : Cal P w K mg base "_law_told" 3 ["hour", "minute"] (spP K mg 2 F__law_told)) (c__law_bent : Cal P w K mg base "_law_bent" 4 ["hand", "told"] (spR K mg 2 F__law_bent)) (c_is_hour_told : Cal P w K mg base "is_hour_told" 7 ["hour", "minute", "thing"] (spP K mg 3 F_is_hour_told)) (c_nearest_time : Cal P w K mg base "nearest_time" 6 ["hour", "minute"] (spP K mg 2 F_nearest_time)) (c__law_nearest : Cal P w K mg base "_law_nearest" 4 ["hour", "minute"] (spP K mg 2 F__law_nearest)) (c__law_some : Cal P w K mg base "_law_some" 2 ["hand", "things"] (spR K mg 2 F__law_some)) (c_exchanged : Cal P w K mg base "exchanged" 6 ["time"] (spP K mg 1 F_exchanged)) (c__law_exchanged : Cal P w K mg base "_law_exchanged" 3 ["time"] (spP K mg 1 F__law_exchanged)) {f : Addr} {fd : FuncData} (F : FnP K "_law_is_right" 52 f fd) (hm : mg "_law_is_right" = some (.ref f)) : Cal P w K mg base "_law_is_right" 12 ["hand"] (spR K mg 1 F__law_is_right) := fn_R F hm sc__law_is_right (d__law_is_right T c__law_time c__law_place c__law_draw c__law_cut c__law_is c_hour_told c__law_told c__law_bent c_is_hour_told c_nearest_time c__law_nearest c__law_some c_exchanged c__law_exchanged) (fun _ _ _ _ _ _ us hl => match us, hl with | [_], _ => rfl)
theorem sc__law_no_place : FnScope N__law_no_place ["hand"] (defScope (top 45)) := ⟨rfl, rfl, rfl, nd__law_no_place, rfl, by decide +kernel, by decide +kernel⟩
set_option maxHeartbeats 4000000 in
theorem d__law_no_place (T : TX K mg fv) (c__law_some : Cal P w K mg base "_law_some" 2 ["hand", "things"] (spR K mg 2 F__law_some)) : DSs (scOf P w K mg base N__law_no_place (defScope (top 45)) 2 true) (defBody (top 45)) b__law_no_place := ds_one (ds_ret (de_callR 0 c__law_some (da_cons (da_e (DN.e (dn_lst (da_cons (da_e (de_non)) (da_cons (da_e (de_int)) (da_cons (da_e (de_tup (da_cons (da_e (de_int)) (da_cons (da_e (de_int)) (da_nil))))) (da_cons (da_e (de_tup (da_cons (da_e (de_neg (da_e (de_int)))) (da_cons (da_e (de_int)) (da_nil))))) (da_cons (da_e (de_tup (da_cons (da_e (de_int)) (da_cons (da_e (de_int)) (da_nil))))) (da_cons (da_e (de_tup (da_cons (da_e (de_int)) (da_nil)))) (da_cons (da_e (DN.e (dn_lst (da_cons (da_e (de_int)) (da_cons (da_e (de_int)) (da_nil)))))) (da_cons (da_e (de_tup (da_cons (da_e (de_bl)) (da_cons (da_e (de_int)) (da_nil))))) (da_cons (da_e (de_tup (da_cons (da_e (de_int)) (da_cons (da_e (de_int)) (da_nil))))) (da_cons (da_e (de_str)) (da_cons (da_e (de_tup (da_cons (da_e (de_int)) (da_cons (da_e (de_int)) (da_nil))))) (da_cons (da_e (DN.e (dn_dic0))) (da_nil)))))))))))))))) (da_nil))))
theorem p__law_no_place (T : TX K mg fv) (c__law_some : Cal P w K mg base "_law_some" 2 ["hand", "things"] (spR K mg 2 F__law_some)) {f : Addr} {fd : FuncData} (F : FnP K "_law_no_place" 45 f fd) (hm : mg "_law_no_place" = some (.ref f)) : Cal P w K mg base "_law_no_place" 3 ["hand"] (spR K mg 1 F__law_no_place) := fn_R F hm sc__law_no_place (d__law_no_place T c__law_some) (fun _ _ _ _ _ _ us hl => match us, hl with | [_], _ => rfl)
theorem sc__law_no_time : FnScope N__law_no_time ["hand"] (defScope (top 44)) := ⟨rfl, rfl, rfl, nd__law_no_time, rfl, by decide +kernel, by decide +kernel⟩
set_option maxHeartbeats 4000000 in
theorem d__law_no_time (T : TX K mg fv) (c__law_some : Cal P w K mg base "_law_some" 2 ["hand", "things"] (spR K mg 2 F__law_some)) : DSs (scOf P w K mg base N__law_no_time (defScope (top 44)) 2 true) (defBody (top 44)) b__law_no_time := ds_cons (ds_set ⟨nd__law_no_time, rfl, Or.inl rfl, Or.inr (by decide)⟩ (DN.e (dn_lst (da_cons (da_e (de_non)) (da_cons (da_e (de_int)) (da_cons (da_e (de_int)) (da_cons (da_e (de_tup (da_cons (da_e (de_int)) (da_cons (da_e (de_int)) (da_nil))))) (da_cons (da_e (de_tup (da_cons (da_e (de_neg (da_e (de_int)))) (da_cons (da_e (de_int)) (da_nil))))) (da_cons (da_e (de_tup (da_cons (da_e (de_int)) (da_cons (da_e (de_int)) (da_nil))))) (da_cons (da_e (de_tup (da_cons (da_e (de_int)) (da_nil)))) (da_cons (da_e (DN.e (dn_lst (da_cons (da_e (de_int)) (da_cons (da_e (de_int)) (da_nil)))))) (da_cons (da_e (de_tup (da_cons (da_e (de_bl)) (da_cons (da_e (de_int)) (da_nil))))) (da_cons (da_e (de_tup (da_cons (da_e (de_int)) (da_cons (da_e (de_int)) (da_nil))))) (da_cons (da_e (de_str)) (da_cons (da_e (de_tup (da_cons (da_e (de_int)) (da_cons (da_e (de_int)) (da_cons (da_e (de_int)) (da_nil)))))) (da_cons (da_e (DN.e (dn_dic0))) (da_nil))))))))))))))))) (ds_one (ds_ret (de_callR 0 c__law_some (da_cons (da_e (de_var 1)) (da_nil)))))
theorem p__law_no_time (T : TX K mg fv) (c__law_some : Cal P w K mg base "_law_some" 2 ["hand", "things"] (spR K mg 2 F__law_some)) {f : Addr} {fd : FuncData} (F : FnP K "_law_no_time" 44 f fd) (hm : mg "_law_no_time" = some (.ref f)) : Cal P w K mg base "_law_no_time" 3 ["hand"] (spR K mg 1 F__law_no_time) := fn_R F hm sc__law_no_time (d__law_no_time T c__law_some) (fun _ _ _ _ _ _ us hl => match us, hl with | [_], _ => rfl)
theorem sc__law_word : FnScope N__law_word ["call"] (defScope (top 46)) := ⟨rfl, rfl, rfl, nd__law_word, rfl, by decide +kernel, by decide +kernel⟩
set_option maxHeartbeats 4000000 in
theorem d__law_word (T : TX K mg fv)  {L : LamI} {B : Hp} {z : Addr → Prop} {a0 : Addr} {o : RG} (hz : z a0) (ok : LamOkE K mg B z a0 L o) : DSE (scL P w K mg base N__law_word (defScope (top 46)) 8 L B z) B z a0 (defBody (top 46)) (b__law_word o) := dsE_cons (ds_set ⟨nd__law_word, rfl, Or.inl rfl, Or.inl rfl⟩ (de_str)) (dsE_try (ns := errs) (i := 2) (n := "error") (o := o) rfl rfl rfl hz ok rfl ⟨rfl, by decide, T.er.root⟩ (fun a nm hn A hA => ds_cons (ds_set ⟨nd__law_word, rfl, Or.inl rfl, Or.inl rfl⟩ (DN.e (dn_lst (da_cons (da_e (let ⟨_, h1, h2⟩ := T.er.own nm hn A hA "NoPlace" (by decide); de_isE 2 rfl rfl rfl (T.er.ex nm hn A hA) (clsVal_own h1) h2 T.b_isinstance)) (da_cons (da_e (let ⟨_, h1, h2⟩ := T.er.own nm hn A hA "NoTime" (by decide); de_isE 2 rfl rfl rfl (T.er.ex nm hn A hA) (clsVal_own h1) h2 T.b_isinstance)) (da_nil)))))) (ds_cons (ds_set ⟨nd__law_word, rfl, Or.inl rfl, Or.inl rfl⟩ (DN.e (dn_lst (da_cons (da_e (de_str)) (da_cons (da_e (de_str)) (da_nil)))))) (ds_cons (ds_set ⟨nd__law_word, rfl, Or.inl rfl, Or.inl rfl⟩ (de_and (de_eq (da_e (de_count (de_var 3) (de_bl))) (da_e (de_int))) (de_one (de_isE 2 rfl rfl rfl (T.er.ex nm hn A hA) (clsVal_ty T.b_ValueError (T := "ValueError") rfl) (T.er.tys nm hn A hA "ValueError" (by decide)) T.b_isinstance)))) (ds_one (ds_set ⟨nd__law_word, rfl, Or.inl rfl, Or.inl rfl⟩ (de_if (dt_val (de_var 5)) (de_ix (da_b 4) (da_e (de_index (de_var 3) (de_bl)))) (de_str))))))) (ds_one (ds_ret (de_var 1))) (hnd := nd__law_word))
theorem p__law_word (T : TX K mg fv)  {f : Addr} {fd : FuncData} (F : FnP K "_law_word" 46 f fd) (hm : mg "_law_word" = some (.ref f)) : CalLE P w K mg base "_law_word" 8 6 b__law_word := fn_LE (N := N__law_word) F hm sc__law_word (fun L B z a0 o hz ok => d__law_word T  hz ok) (fun _ _ _ _ _ _ us hl => match us, hl with | [_], _ => rfl)
theorem sc__law_are_refused : FnScope N__law_are_refused ["hand"] (defScope (top 53)) := ⟨rfl, rfl, rfl, nd__law_are_refused, rfl, by decide +kernel, by decide +kernel⟩
set_option maxHeartbeats 4000000 in
theorem d__law_are_refused {TT : List (Addr × Str)} (T : TX K mg fv) (c__law_no_place : Cal P w K mg base "_law_no_place" 3 ["hand"] (spR K mg 1 F__law_no_place)) (c__law_word : CalLE P w K mg base "_law_word" 8 6 b__law_word) (c_nearest_time : Cal P w K mg base "nearest_time" 6 ["hour", "minute"] (spP K mg 2 F_nearest_time)) (c_hour_told : Cal P w K mg base "hour_told" 6 ["hour", "minute"] (spP K mg 2 F_hour_told)) (c_is_hour_told : Cal P w K mg base "is_hour_told" 7 ["hour", "minute", "thing"] (spP K mg 3 F_is_hour_told)) (c_exchanged : Cal P w K mg base "exchanged" 6 ["time"] (spP K mg 1 F_exchanged)) (c__law_no_time : Cal P w K mg base "_law_no_time" 3 ["hand"] (spR K mg 1 F__law_no_time)) {c P0 : Addr} (hT : (P0, ("_law_are_refused" : Str) ++ ".<locals>." ++ "<lambda>") ∈ TT) (uq : ∀ p ∈ TT, p.1 = P0 → p = (P0, ("_law_are_refused" : Str) ++ ".<locals>." ++ "<lambda>")) : DSs (scT P w K mg base N__law_are_refused (defScope (top 53)) 9 true TT (some (c, P0, ("_law_are_refused" : Str) ++ ".<locals>." ++ "<lambda>"))) (defBody (top 53)) (b__law_are_refused fv) := ds_cons (ds_par3nT ⟨nd__law_are_refused, rfl, Or.inr ⟨rfl, .inl rfl⟩, Or.inr (by decide)⟩ ⟨nd__law_are_refused, rfl, Or.inr ⟨rfl, .inl rfl⟩, Or.inr (by decide)⟩ ⟨nd__law_are_refused, rfl, Or.inl rfl, Or.inr (by decide)⟩ (de_callR 0 c__law_no_place (da_nil)) (de_callR 0 c__law_no_place (da_nil)) (dn_lst (da_nil))) (ds_cons (ds_for (di_seq (de_tup (da_cons (da_e (de_fv (T.hf "hour_told" (by decide)))) (da_cons (da_e (de_fv (T.hf "nearest_time" (by decide)))) (da_nil))))) (dg_name ⟨nd__law_are_refused, rfl, Or.inr ⟨rfl, .inl rfl⟩, Or.inr (by decide)⟩) (ds_cons (ds_append (i := 3) (de_lamE 0 [4, 1, 2] (kb := 7) c__law_word (de_callV (n := 2) 4 (tab_cons c_hour_told (T.hf "hour_told" (by decide)) (tab_cons c_nearest_time (T.hf "nearest_time" (by decide)) (tab_nil))) (da_cons (da_b 1) (da_cons (da_b 2) (da_nil)))) rfl hT uq (Nat.le_refl _) (by exact Nat.le_of_ble_eq_true rfl) (LamX.lamS_by (by kernel_rfl)) (fun _ _ _ _ _ => rfl))) (ds_cons (ds_append (i := 3) (de_lamE 0 [4, 1] (kb := 7) c__law_word (de_callV (n := 2) 4 (tab_cons c_hour_told (T.hf "hour_told" (by decide)) (tab_cons c_nearest_time (T.hf "nearest_time" (by decide)) (tab_nil))) (da_cons (da_b 1) (da_cons (da_e (de_tup (da_cons (da_e (de_int)) (da_cons (da_e (de_int)) (da_nil))))) (da_nil)))) rfl hT uq (Nat.le_refl _) (by exact Nat.le_of_ble_eq_true rfl) (LamX.lamS_by (by kernel_rfl)) (fun _ _ _ _ _ => rfl))) (ds_one (ds_append (i := 3) (de_lamE 0 [4, 2] (kb := 7) c__law_word (de_callV (n := 2) 4 (tab_cons c_hour_told (T.hf "hour_told" (by decide)) (tab_cons c_nearest_time (T.hf "nearest_time" (by decide)) (tab_nil))) (da_cons (da_e (de_tup (da_cons (da_e (de_int)) (da_cons (da_e (de_int)) (da_nil))))) (da_cons (da_b 2) (da_nil)))) rfl hT uq (Nat.le_refl _) (by exact Nat.le_of_ble_eq_true rfl) (LamX.lamS_by (by kernel_rfl)) (fun _ _ _ _ _ => rfl))))))) (ds_cons (ds_append (i := 3) (de_lamE 0 [1] (kb := 7) c__law_word (de_call c_is_hour_told (da_cons (da_b 1) (da_cons (da_e (de_tup (da_cons (da_e (de_int)) (da_cons (da_e (de_int)) (da_nil))))) (da_cons (da_e (de_non)) (da_nil))))) rfl hT uq (Nat.le_refl _) (by exact Nat.le_of_ble_eq_true rfl) (LamX.lamS_by (by kernel_rfl)) (fun _ _ _ _ _ => rfl))) (ds_cons (ds_append (i := 3) (de_lamE 0 [1] (kb := 7) c__law_word (de_call c_is_hour_told (da_cons (da_e (de_tup (da_cons (da_e (de_int)) (da_cons (da_e (de_int)) (da_nil))))) (da_cons (da_b 1) (da_cons (da_e (de_non)) (da_nil))))) rfl hT uq (Nat.le_refl _) (by exact Nat.le_of_ble_eq_true rfl) (LamX.lamS_by (by kernel_rfl)) (fun _ _ _ _ _ => rfl))) (ds_cons (ds_append (i := 3) (de_lamE 0 [] (kb := 7) c__law_word (de_call c_exchanged (da_cons (da_e (de_callR 0 c__law_no_time (da_nil))) (da_nil))) rfl hT uq (Nat.le_refl _) (by exact Nat.le_of_ble_eq_true rfl) (LamX.lamS_by (by kernel_rfl)) (fun _ _ _ _ _ => rfl))) (ds_one (ds_ret (de_eq (da_b 3) (da_e (de_add (da_e (de_mulC (da_e (DN.e (dn_lst (da_cons (da_e (de_str)) (da_nil))))) (da_e (de_int)))) (da_e (DN.e (dn_lst (da_cons (da_e (de_str)) (da_nil))))))))))))))
theorem p__law_are_refused {TT : List (Addr × Str)} (T : TX K mg fv) (c__law_no_place : Cal P w K mg base "_law_no_place" 3 ["hand"] (spR K mg 1 F__law_no_place)) (c__law_word : CalLE P w K mg base "_law_word" 8 6 b__law_word) (c_nearest_time : Cal P w K mg base "nearest_time" 6 ["hour", "minute"] (spP K mg 2 F_nearest_time)) (c_hour_told : Cal P w K mg base "hour_told" 6 ["hour", "minute"] (spP K mg 2 F_hour_told)) (c_is_hour_told : Cal P w K mg base "is_hour_told" 7 ["hour", "minute", "thing"] (spP K mg 3 F_is_hour_told)) (c_exchanged : Cal P w K mg base "exchanged" 6 ["time"] (spP K mg 1 F_exchanged)) (c__law_no_time : Cal P w K mg base "_law_no_time" 3 ["hand"] (spR K mg 1 F__law_no_time)) {f : Addr} {fd : FuncData} (F : FnP K "_law_are_refused" 53 f fd) (hm : mg "_law_are_refused" = some (.ref f)) {c P0 : Addr} (hT : (P0, ("_law_are_refused" : Str) ++ ".<locals>." ++ "<lambda>") ∈ TT) (uq : ∀ p ∈ TT, p.1 = P0 → p = (P0, ("_law_are_refused" : Str) ++ ".<locals>." ++ "<lambda>")) (hc : fd.code = .ref c) (TB : LamX.TabB base mg c P0) : Cal P w K mg base "_law_are_refused" 10 ["hand"] (spRT K mg TT 1 (F__law_are_refused fv)) := fn_RT F hm sc__law_are_refused (mkOk_some hc TB) (d__law_are_refused T c__law_no_place c__law_word c_nearest_time c_hour_told c_is_hour_told c_exchanged c__law_no_time hT uq) (fun _ _ _ _ _ _ us hl => match us, hl with | [_], _ => rfl)
theorem sc_law : FnScope N_law ["script"] (defScope (top 54)) := ⟨rfl, rfl, rfl, nd_law, rfl, by decide +kernel, by decide +kernel⟩
set_option maxHeartbeats 4000000 in
theorem d_law {TT : List (Addr × Str)} (T : TX K mg fv) (c__law_hand : Cal P w K mg base "_law_hand" 1 ["script"] (spN K mg 1 F__law_hand)) (c_hour_told : Cal P w K mg base "hour_told" 6 ["hour", "minute"] (spP K mg 2 F_hour_told)) (c_exchanged : Cal P w K mg base "exchanged" 6 ["time"] (spP K mg 1 F_exchanged)) (c_nearest_time : Cal P w K mg base "nearest_time" 6 ["hour", "minute"] (spP K mg 2 F_nearest_time)) (c__law_is : Cal P w K mg base "_law_is" (0 + 9) ["got", "due"] (spP K mg 2 (F__law_is 9))) (c_all_exchanged : Cal P w K mg base "all_exchanged" 3 [] (spP K mg 0 F_all_exchanged)) (c__law_cut : Cal P w K mg base "_law_cut" 1 ["top", "bottom"] (spP K mg 2 F__law_cut)) (c__law_is_right : Cal P w K mg base "_law_is_right" 12 ["hand"] (spR K mg 1 F__law_is_right)) (c__law_are_refused : Cal P w K mg base "_law_are_refused" 10 ["hand"] (spRT K mg TT 1 (F__law_are_refused fv))) : DSs (scT P w K mg base N_law (defScope (top 54)) 12 false TT none) (defBody (top 54)) (b_law fv) := ds_cons (ds_new ⟨nd_law, rfl, Or.inr ⟨rfl, .inl rfl⟩, Or.inl rfl⟩ (dn_callN c__law_hand (da_cons (da_b 0) (da_nil)))) (ds_cons (ds_set ⟨nd_law, rfl, Or.inl rfl, Or.inl rfl⟩ (DN.e (dn_lst (da_cons (da_e (de_call c_hour_told (da_cons (da_e (de_tup (da_cons (da_e (de_int)) (da_cons (da_e (de_int)) (da_nil))))) (da_cons (da_e (de_tup (da_cons (da_e (de_int)) (da_cons (da_e (de_int)) (da_nil))))) (da_nil))))) (da_cons (da_e (de_call c_hour_told (da_cons (da_e (de_tup (da_cons (da_e (de_int)) (da_cons (da_e (de_int)) (da_nil))))) (da_cons (da_e (de_tup (da_cons (da_e (de_int)) (da_cons (da_e (de_int)) (da_nil))))) (da_nil))))) (da_cons (da_e (de_call c_exchanged (da_cons (da_e (de_tup (da_cons (da_e (de_int)) (da_cons (da_e (de_int)) (da_nil))))) (da_nil)))) (da_cons (da_e (de_call c_exchanged (da_cons (da_e (de_tup (da_cons (da_e (de_int)) (da_cons (da_e (de_int)) (da_nil))))) (da_nil)))) (da_nil)))))))) (ds_cons (ds_set ⟨nd_law, rfl, Or.inl rfl, Or.inl rfl⟩ (de_add (da_b 2) (da_e (DN.e (dn_lst (da_cons (da_e (de_call c_nearest_time (da_cons (da_e (de_tup (da_cons (da_e (de_int)) (da_cons (da_e (de_int)) (da_nil))))) (da_cons (da_e (de_tup (da_cons (da_e (de_int)) (da_cons (da_e (de_int)) (da_nil))))) (da_nil))))) (da_cons (da_e (de_call c_nearest_time (da_cons (da_e (de_tup (da_cons (da_e (de_int)) (da_cons (da_e (de_int)) (da_nil))))) (da_cons (da_e (de_tup (da_cons (da_e (de_int)) (da_cons (da_e (de_int)) (da_nil))))) (da_nil))))) (da_cons (da_e (de_call c_exchanged (da_cons (da_e (de_tup (da_cons (da_e (de_int)) (da_cons (da_e (de_int)) (da_nil))))) (da_nil)))) (da_nil))))))))) (ds_cons (ds_set ⟨nd_law, rfl, Or.inl rfl, Or.inl rfl⟩ (DN.e (dn_lst (da_cons (da_e (de_tup (da_cons (da_e (de_str)) (da_cons (da_e (de_tup (da_cons (da_e (de_int)) (da_cons (da_e (de_int)) (da_nil))))) (da_nil))))) (da_cons (da_e (de_tup (da_cons (da_e (de_str)) (da_cons (da_e (de_tup (da_cons (da_e (de_int)) (da_cons (da_e (de_int)) (da_nil))))) (da_nil))))) (da_cons (da_e (de_tup (da_cons (da_e (de_int)) (da_cons (da_e (de_int)) (da_nil))))) (da_cons (da_e (de_non)) (da_cons (da_e (de_tup (da_cons (da_e (de_int)) (da_cons (da_e (de_int)) (da_nil))))) (da_cons (da_e (de_tup (da_cons (da_e (de_int)) (da_cons (da_e (de_int)) (da_nil))))) (da_cons (da_e (de_tup (da_cons (da_e (de_int)) (da_cons (da_e (de_int)) (da_nil))))) (da_nil))))))))))) (ds_cons (ds_if (dt_not (dt_val (de_call c__law_is (da_cons (da_b 2) (da_cons (da_b 3) (da_nil)))))) (ds_one (ds_ret (de_bl))) (ds_nil)) (ds_cons (ds_set ⟨nd_law, rfl, Or.inl rfl, Or.inl rfl⟩ (de_call0 c_all_exchanged)) (ds_cons (ds_if (dt_not (dt_val (de_call c__law_is (da_cons (da_e (DN.e (dn_list T.b_list (da_cons (da_b 4) (da_nil))))) (da_cons (da_e (DN.e (dn_comp [("turn", 5)] (di_rng1 T.b_range (da_e (de_int))) (dg_name ⟨nd_law, rfl, Or.inl rfl, Or.inl rfl⟩) (dif_nil) (de_call c__law_cut (da_cons (da_e (de_mulC (da_e (de_int)) (da_b 5))) (da_cons (da_e (de_int)) (da_nil)))) nd_law (by kernel_rfl) (hm := Or.inl rfl)))) (da_nil)))))) (ds_one (ds_ret (de_bl))) (ds_nil)) (ds_cons (ds_if (dt_ne (da_e (de_len T.b_len (da_cons (da_e (DN.e (dn_comp [("time", 6)] (di_seq (de_var 4)) (dg_name ⟨nd_law, rfl, Or.inl rfl, Or.inl rfl⟩) (dif_one (dt_eq (da_e (de_call c_exchanged (da_cons (da_b 6) (da_nil)))) (da_b 6))) (de_var 6) nd_law (by kernel_rfl) (hm := Or.inl rfl)))) (da_nil)))) (da_e (de_int))) (ds_one (ds_ret (de_bl))) (ds_nil)) (ds_one (ds_ret (de_all T.b_all (da_cons (da_e (DN.e (dn_comp [("turn", 5)] (di_rng1 T.b_range (da_e (de_int))) (dg_name ⟨nd_law, rfl, Or.inl rfl, Or.inl rfl⟩) (dif_nil) (de_and (de_callR 1 c__law_is_right (da_nil)) (de_one (de_callRT 1 c__law_are_refused (da_nil)))) nd_law (by kernel_rfl) (hm := Or.inl rfl)))) (da_nil))))))))))))
end
end K11

namespace K11
open PySem DL
local macro_rules | `(tactic| simp_arith [$xs,*]) => `(tactic| simp (config := {maxSteps := 400000}) (disch := (first | assumption | omega | (simp only [List.length_append, List.length_cons, List.length_nil, List.length_map, List.length_take, List.length_drop, List.length_reverse, List.length_replicate]; omega) | decide | rfl | (simp only [noOwn, List.all_cons, List.all_nil, List.getElem?_cons_zero, List.getElem?_cons_succ, Bool.and_self]))) only [↓y_set, ↓y_new, ↓y_ret, ↓y_expr, ↓y_for, ↓y_retN, ↓y_next, ↓y_break, ↓y_cont, ↓y_raise, ↓y_seq, ↓y_sif, ↓y_if, ↓y_and, ↓y_or, ↓y_andV, ↓y_orV, ↓y_not, ↓y_notV, ↓y_T, ↓y_nil, ↓y_e, ↓y_b, ↓y_app, ↓y_var, ↓y_fC, ↓y_call, ↓y_callN, ↓y_callR, ↓y_append, ↓y_extend, ↓y_put, ↓y_aug, ↓y_parvv, ↓y_parvn, ↓y_parnv, ↓y_parnn, ↓y_par3, ↓y_par3n, p3A_o, p3B_o, p3C_o, ↓y_unp, ↓y_chain, ↓y_oNo, ↓y_oEx, ↓y_sl, ↓y_slV, ↓y_fseq, ↓y_rng1, ↓y_rng2, ↓y_en, ↓y_zip, ↓y_mt, ↓y_runP, ↓y_runR, ↓y_runN, ↓y_seqN, ↓y_lamE, ↓y_popAt, sget_z, sget_s, sput_z, sput_s, emps_z, emps_s, ent_z, ent_s, setS_x, setS_o, newS_x, newS_o, retS_x, retS_o, expS_x, expS_o, forS_x, forS_o, q_nx, q_rt, q_ex, q_bk, q_ct, ifS_t, ifS_f, ifS_x, ifS_dt, ifS_df, ifE_t, ifE_f, ifE_x, ifE_dt, ifE_df, andE_t, andE_f, andE_x, andE_dt, andE_df, orE_t, orE_f, orE_x, orE_dt, orE_df, anvE_t, anvE_f, anvE_x, anvE_dt, anvE_df, orvE_t, orvE_f, orvE_x, orvE_dt, orvE_df, notE_t, notE_f, notE_d, notE_x, ntvE_t, ntvE_f, ntvE_d, ntvE_x, tE_o, tE_x, cnsE_o, cnsE_x, argE_o, argE_x, rdB_v, rdB_w, brwE_o, brwE_x, brwS_v, brwS_w, ofE_o, ofL_o, appE_o, appE_x, varS_v, varS_w, bs_0, bs_e, bs_b, y_frz0, y_frz, y_frzo, y_frzv, y_frze, frzI_t, frzI_f, frzI_0, callG_o, callG_x, callE_o, callE_x, callNG_o, callNG_x, callNE_o, callNE_x, y_ls, callRH_o, callRH_x, callRG_o, callRE_o, callRE_x, callRS_o, appG_o, appS_o, appS_x, appT_o, extG_o, extS_o, extT_o, putH_o, putG_o, putK_o, putT_o, putS_o, putS_x, nxO_o, augF_o, augG_o, parS_o, parS_x, parG_vv, parG_vn, parG_nv, parG_nn, parG_x, par3S_o, unpG_o, unpS_o, unpS_x, y_tgN, y_tgT, tgR_o, y_tgC, y_tg0, chH_o, chG_t, chG_f, chG_dt, chG_df, chF_o, chE_o, exI_o, slH_o, slL_o, slE_o, svG_v, svG_w, svH_o, svL_o, svS_v, svS_w, seqE_o, rng1E_o, rng2E_o, enE_o, zipE_o, ↓y_zipM, zipME_o, z_zipMtl, z_zipMlt, z_zipMtt, z_zipMll, ↓y_cv, cvS_o, cvT_o, sbT_o, sbO_t, sbO_f, sbO_dt, sbO_df, mtH_o, mtE_o, y_finPn, y_finPr, y_finPx, y_finRn, y_finRr, y_finRx, y_lstG, y_lstX, y_finNo, y_finNx, sqN_o, sqN_x, hn_0, hn_z, hn_s, hn_n, y_hd, y_hdv, y_hde, outG_o, outG_x, lamH_o, lamF_o, lamG_o, lamS_o, z_addI, z_addT, z_addL, z_addLL, z_sub, z_cmp, z_lt, z_le, z_neg, z_int, z_aug, z_abs, z_max, z_min, z_div, z_mod, z_mulr, z_mull, z_tup, z_lst, z_lenL, z_lenT, z_lenF, z_tupL, z_tupT, z_listL, z_listT, z_eqI, z_neI, z_eqB, z_neB, z_eqSs, z_neSs, z_isi, z_isis, z_ixL, z_ixT, z_ixF, z_seqL, z_seqT, z_seqF, z_scI, z_flN, z_flB, z_flI, z_flS, z_flL, z_flT, z_fl0, z_flc, z_rng, List.map_cons, List.map_nil, List.length_cons, List.length_nil, List.cons_append, List.nil_append, Option.map_some, Option.isSome_some, isTy, isTys, Bool.and_true, Bool.true_and, Bool.and_false, Bool.false_and, Bool.not_true, Bool.not_false, decide_true, decide_false, not_true_eq_false, not_false_eq_true, Int.reduceToNat, Int.reduceAdd, Int.reduceSub, Int.reduceMul, Int.reduceNeg, Int.reduceLT, Int.reduceLE, Nat.zero_add, Nat.reduceAdd, tgO_o, stO_n, stO_c, tgC_o, oc_go, oc_gc, oc_br, oc_rt, oc_ex, tgF_o, feO_o, Int.toNat_natCast, z_rgL, z_rgT, z_augS, z_augMl, z_augMr, z_inT, z_inL, z_zipT, z_zipL, teO_o, lpT_o, lpB_n, lpB_c, lpB_b, lpB_r, lpB_x, popH_o, popG_o, popS_o, popT_o, frzI_n, z_flm, z_cutN, z_cutT, z_cutD, z_slL, z_slF, z_slT, z_eqT, z_neT, z_eqL, z_neL, z_mulf, z_at0, z_at1, z_at2, z_at3, z_at4, z_atl, z_ixN, z_pow6, z_pow18, z_pow30, z_pow36, z_revL, z_revT, z_revLL, List.set_cons_zero, List.set_cons_succ, List.getElem?_cons_zero, List.getElem?_cons_succ, $xs,*])
theorem F_int (d : D) (h : d.nq = true) : F_is_integer [d] = .ok (.bl (isI d)) := by
  cases d <;> first
    | (cases h; done)
    | rfl
theorem z_divW {i j : Int} (h : 0 < j) (h2 : j < 1000000000000000000000000000000000000) : divB [.int i, .int j] = some (.int (i.fdiv j)) := by
  have e : divOk j = true := by
    unfold divOk
    refine decide_eq_true ⟨by omega, ?_⟩
    have a : j.natAbs < 2 ^ 200 := by
      have e : (1000000000000000000000000000000000000 : Nat) < 2 ^ 200 := by decide +kernel
      omega
    have := (Nat.log2_lt (by omega)).mpr a
    omega
  show (if divOk j = true then _ else _) = _
  rw [if_pos e]
theorem draw_ok (h : List D) (hh : HandOk h) (m : Int) (hm : 0 < m) (hm2 : m < 1000000000000000000000000000000000000) : ∃ r h', F__law_draw h [.int m] = .ok (.int r) h' ∧ 0 ≤ r ∧ r < m ∧ HandOk h' := by
  obtain ⟨cs, a, b, c, e, hc, ha, hb, rfl⟩ := hh
  have fin : ∀ x : Int, 0 ≤ x.fmod m ∧ x.fmod m < m := fun x => ⟨Int.fmod_nonneg_of_pos x hm, Int.fmod_lt_of_pos x hm⟩
  have gt0 : ∀ x : Int, 0 ≤ x → 0 ≤ x.fdiv m := fun x hx => Int.fdiv_nonneg hx (by omega)
  unfold F__law_draw b__law_draw
  by_cases hb0 : b = 0
  · subst hb0
    by_cases hal : a < cs.length
    · have hai : a.toNat < cs.length := by omega
      have hz0 : 0 ≤ cs[a.toNat] := hc _ (List.getElem_mem hai)
      have hz : atD (cs.map D.int) a = some (.int cs[a.toNat]) := by
        rw [z_at ha (by simpa using hal), List.getElem?_map, List.getElem?_eq_getElem hai]
        rfl
      by_cases hbig : 1000000000000000000 ≤ cs[a.toNat]
      · simp_arith [hz, Int.toNat_zero, Int.toNat_one, z_divW]
        exact ⟨_, _, rfl, (fin _).1, (fin _).2, cs, _, _, _, _, hc, by omega, gt0 _ hz0, rfl⟩
      · simp_arith [hz, mo_f, z_divW]
        exact ⟨_, _, rfl, (fin _).1, (fin _).2, cs, _, _, _, _, hc, by omega, by omega, rfl⟩
    · simp_arith [z_divW]
      exact ⟨_, _, rfl, (fin _).1, (fin _).2, cs, _, _, _, _, hc, ha, by omega, rfl⟩
  · simp_arith [z_divW]
    exact ⟨_, _, rfl, (fin _).1, (fin _).2, cs, _, _, _, _, hc, ha, gt0 b hb, rfl⟩

theorem any_ok (h : List D) (hh : HandOk h) (xs : List D) (h0 : 0 < xs.length) (hl : xs.length < 1000) : ∃ x h', F__law_some h [.lst xs] = .ok x h' ∧ x ∈ xs ∧ HandOk h' := by
  obtain ⟨r, h', e, r0, r1, k⟩ := draw_ok h hh xs.length (by omega) (by omega)
  have ri : r.toNat < xs.length := by omega
  have ha : atD xs r = some xs[r.toNat] := by rw [z_at r0 r1, List.getElem?_eq_getElem ri]
  refine ⟨xs[r.toNat], h', ?_, List.getElem_mem ri, k⟩
  unfold F__law_some b__law_some
  simp_arith [e, ha]
theorem hand_ok (ns : List Int) (hl : ns.length ≤ 63) : ∃ h, F__law_hand [.frl (ns.map .int)] = .ok (.lst h) ∧ HandOk h := by
  obtain ⟨ms, e, lm⟩ := cut_ints ns none (some 63)
  refine ⟨[.lst (ms.map fun i => .int (ab i)), .int 0, .int 0, .int (67 + 7 * (ms.length : Int)), .int 0], ?_, ms.map ab, 0, 0, _, _, ?_, by omega, by omega, by rw [List.map_map]; rfl⟩
  · unfold F__law_hand b__law_hand
    simp_arith []
    generalize hC : fComp _ _ _ _ _ _ = C
    have := gc_map hC D.int (fun i => .int (ab i)) ms [.val (.frl (ns.map .int)), .emp, .emp] (by
      have : slB (.frl (ns.map .int)) none (some 63) = some (.lst (ms.map .int)) := by show some (D.lst (cutD _ _ _)) = _; rw [e]
      simp_arith [this]) (by omega) fun x hx => ⟨_, rfl, by simp_arith [wipeR, ab], rfl⟩
    subst this
    simp_arith [List.length_map]
  · intro z hz
    obtain ⟨i, _, rfl⟩ := List.mem_map.mp hz
    unfold ab; split <;> omega
end K11

namespace K10
open PySem DL
theorem gcd_pos' {a b : Int} (hb : 0 < b) : 0 < Int.gcd a b := Nat.gcd_pos_of_pos_right _ (by omega)
theorem fdiv_pos (a g : Int) (hg : 0 ≤ g) : a.fdiv g = a / g := Int.fdiv_eq_ediv_of_nonneg _ hg
theorem fmod_pos (a g : Int) (hg : 0 ≤ g) : a.fmod g = a % g := Int.fmod_eq_emod_of_nonneg _ hg
/-- what low gives -/
theorem low_parts (a b : Int) (hb : 0 < b) : ∃ g : Int, 0 < g ∧ a = g * (low a b).1 ∧ b = g * (low a b).2 ∧ Int.gcd (low a b).1 (low a b).2 = 1 ∧ 0 < (low a b).2 := by
  have g0 := gcd_pos' (a := a) hb
  refine ⟨(Int.gcd a b : Nat), by omega, ?_, ?_, ?_, ?_⟩
  · show a = _ * a.fdiv _
    rw [fdiv_pos _ _ (by omega), Int.mul_ediv_cancel' (Int.gcd_dvd_left ..)]
  · show b = _ * b.fdiv _
    rw [fdiv_pos _ _ (by omega), Int.mul_ediv_cancel' (Int.gcd_dvd_right ..)]
  · show Int.gcd (a.fdiv _) (b.fdiv _) = 1
    rw [fdiv_pos _ _ (by omega), fdiv_pos _ _ (by omega)]
    exact Int.gcd_ediv_gcd_ediv_gcd g0
  · show 0 < b.fdiv _
    rw [fdiv_pos _ _ (by omega)]
    exact Int.ediv_pos_of_pos_of_dvd hb (by omega) (Int.gcd_dvd_right ..)
theorem low_cop {a b : Int} (h : Int.gcd a b = 1) : low a b = (a, b) := by
  unfold low
  rw [h]
  show (a.fdiv 1, b.fdiv 1) = _
  rw [Int.fdiv_one, Int.fdiv_one]
theorem low_mul (k a b : Int) (hk : 0 < k) (hb : 0 < b) : low (k * a) (k * b) = low a b := by
  unfold low
  have e : ((Int.gcd (k * a) (k * b) : Nat) : Int) = k * (Int.gcd a b : Nat) := by
    rw [Int.gcd_mul_left, Int.natCast_mul, Int.natAbs_of_nonneg (by omega)]
  have g0 := gcd_pos' (a := a) hb
  have p : 0 ≤ k * (Int.gcd a b : Nat) := Int.mul_nonneg (by omega) (by omega)
  rw [e, fdiv_pos _ _ p, fdiv_pos _ _ p, fdiv_pos _ _ (by omega), fdiv_pos _ _ (by omega), Int.mul_ediv_mul_of_pos _ _ hk, Int.mul_ediv_mul_of_pos _ _ hk]
theorem low_cross {a b c d : Int} (hb : 0 < b) (hd : 0 < d) (h : a * d = c * b) : low a b = low c d := by
  rw [← low_mul d a b hd hb, ← low_mul b c d hb hd, show d * a = b * c by rw [Int.mul_comm d a, h, Int.mul_comm], Int.mul_comm d b]
theorem low_low (a b : Int) (hb : 0 < b) : low (low a b).1 (low a b).2 = low a b := by
  obtain ⟨g, _, _, _, h, _⟩ := low_parts a b hb
  rw [low_cop h]
theorem low_sub (a b c d : Int) (hb : 0 < b) (hd : 0 < d) : low ((low a b).1 * (low c d).2 - (low c d).1 * (low a b).2) ((low a b).2 * (low c d).2) = low (a * d - c * b) (b * d) := by
  obtain ⟨g, g0, e1, e2, _, p⟩ := low_parts a b hb
  obtain ⟨k, k0, e3, e4, _, q⟩ := low_parts c d hd
  generalize low a b = x at *
  generalize low c d = y at *
  subst e1; subst e2; subst e3; subst e4
  rw [← low_mul (g * k) _ _ (Int.mul_pos g0 k0) (Int.mul_pos p q)]
  congr 1 <;> grind
theorem low_add' (a b c d : Int) (hb : 0 < b) (hd : 0 < d) : low ((low a b).1 * (low c d).2 + (low c d).1 * (low a b).2) ((low a b).2 * (low c d).2) = low (a * d + c * b) (b * d) := by
  obtain ⟨g, g0, e1, e2, _, p⟩ := low_parts a b hb
  obtain ⟨k, k0, e3, e4, _, q⟩ := low_parts c d hd
  generalize low a b = x at *
  generalize low c d = y at *
  subst e1; subst e2; subst e3; subst e4
  rw [← low_mul (g * k) _ _ (Int.mul_pos g0 k0) (Int.mul_pos p q)]
  congr 1 <;> grind
theorem low_tim (a b c d : Int) (hb : 0 < b) (hd : 0 < d) : low ((low a b).1 * (low c d).1) ((low a b).2 * (low c d).2) = low (a * c) (b * d) := by
  obtain ⟨g, g0, e1, e2, _, p⟩ := low_parts a b hb
  obtain ⟨k, k0, e3, e4, _, q⟩ := low_parts c d hd
  generalize low a b = x at *
  generalize low c d = y at *
  subst e1; subst e2; subst e3; subst e4
  rw [← low_mul (g * k) _ _ (Int.mul_pos g0 k0) (Int.mul_pos p q)]
  congr 1 <;> grind
theorem gcd_fmod {a b : Int} (hb : 0 < b) (h : Int.gcd a b = 1) : Int.gcd (a.fmod b) b = 1 := by
  rw [fmod_pos _ _ (by omega), Int.gcd_comm, Int.emod_def, Int.gcd_sub_mul_left_right, Int.gcd_comm]; exact h
/-- the rest round of a fraction -/
theorem low_fmod (a b : Int) (hb : 0 < b) : low (a.fmod b) b = ((low a b).1.fmod (low a b).2, (low a b).2) := by
  obtain ⟨g, g0, e1, e2, h, p⟩ := low_parts a b hb
  generalize low a b = x at *
  have e : a.fmod b = g * x.1.fmod x.2 := by
    rw [e1, e2, fmod_pos _ _ (by rw [← e2]; omega), fmod_pos _ _ (by omega), Int.mul_emod_mul_of_pos _ _ g0]
  rw [e]
  conv => lhs; rw [e2]
  rw [low_mul _ _ _ g0 p, low_cop (gcd_fmod p h)]
theorem gap_two (t b : Int) (hb : 0 < b) : (12 * t.fmod b - t).fmod (12 * b) = (11 * t).fmod (12 * b) := by
  rw [fmod_pos _ _ (by omega), fmod_pos _ _ (by omega), fmod_pos _ _ (by omega)]
  have h := Int.emod_add_mul_ediv t b
  have e : 12 * (t % b) - t = 11 * t + (12 * b) * (-(t / b)) := by
    have : t % b = t - b * (t / b) := by omega
    rw [this]; grind
  rw [e, Int.add_mul_emod_self_left]
end K10

namespace K11
open PySem DL
local macro_rules | `(tactic| simp_arith [$xs,*]) => `(tactic| simp (config := {maxSteps := 400000}) (disch := (first | assumption | omega | (simp only [List.length_append, List.length_cons, List.length_nil, List.length_map, List.length_take, List.length_drop, List.length_reverse, List.length_replicate]; omega) | decide | rfl | (simp only [noOwn, List.all_cons, List.all_nil, List.getElem?_cons_zero, List.getElem?_cons_succ, Bool.and_self]))) only [↓y_set, ↓y_new, ↓y_ret, ↓y_expr, ↓y_for, ↓y_retN, ↓y_next, ↓y_break, ↓y_cont, ↓y_raise, ↓y_seq, ↓y_sif, ↓y_if, ↓y_and, ↓y_or, ↓y_andV, ↓y_orV, ↓y_not, ↓y_notV, ↓y_T, ↓y_nil, ↓y_e, ↓y_b, ↓y_app, ↓y_var, ↓y_fC, ↓y_call, ↓y_callN, ↓y_callR, ↓y_append, ↓y_extend, ↓y_put, ↓y_aug, ↓y_parvv, ↓y_parvn, ↓y_parnv, ↓y_parnn, ↓y_par3, ↓y_par3n, p3A_o, p3B_o, p3C_o, ↓y_unp, ↓y_chain, ↓y_oNo, ↓y_oEx, ↓y_sl, ↓y_slV, ↓y_fseq, ↓y_rng1, ↓y_rng2, ↓y_en, ↓y_zip, ↓y_mt, ↓y_runP, ↓y_runR, ↓y_runN, ↓y_seqN, ↓y_lamE, ↓y_popAt, sget_z, sget_s, sput_z, sput_s, emps_z, emps_s, ent_z, ent_s, setS_x, setS_o, newS_x, newS_o, retS_x, retS_o, expS_x, expS_o, forS_x, forS_o, q_nx, q_rt, q_ex, q_bk, q_ct, ifS_t, ifS_f, ifS_x, ifS_dt, ifS_df, ifE_t, ifE_f, ifE_x, ifE_dt, ifE_df, andE_t, andE_f, andE_x, andE_dt, andE_df, orE_t, orE_f, orE_x, orE_dt, orE_df, anvE_t, anvE_f, anvE_x, anvE_dt, anvE_df, orvE_t, orvE_f, orvE_x, orvE_dt, orvE_df, notE_t, notE_f, notE_d, notE_x, ntvE_t, ntvE_f, ntvE_d, ntvE_x, tE_o, tE_x, cnsE_o, cnsE_x, argE_o, argE_x, rdB_v, rdB_w, brwE_o, brwE_x, brwS_v, brwS_w, ofE_o, ofL_o, appE_o, appE_x, varS_v, varS_w, bs_0, bs_e, bs_b, y_frz0, y_frz, y_frzo, y_frzv, y_frze, frzI_t, frzI_f, frzI_0, callG_o, callG_x, callE_o, callE_x, callNG_o, callNG_x, callNE_o, callNE_x, y_ls, callRH_o, callRH_x, callRG_o, callRE_o, callRE_x, callRS_o, appG_o, appS_o, appS_x, appT_o, extG_o, extS_o, extT_o, putH_o, putG_o, putK_o, putT_o, putS_o, putS_x, nxO_o, augF_o, augG_o, parS_o, parS_x, parG_vv, parG_vn, parG_nv, parG_nn, parG_x, par3S_o, unpG_o, unpS_o, unpS_x, y_tgN, y_tgT, tgR_o, y_tgC, y_tg0, chH_o, chG_t, chG_f, chG_dt, chG_df, chF_o, chE_o, exI_o, slH_o, slL_o, slE_o, svG_v, svG_w, svH_o, svL_o, svS_v, svS_w, seqE_o, rng1E_o, rng2E_o, enE_o, zipE_o, ↓y_zipM, zipME_o, z_zipMtl, z_zipMlt, z_zipMtt, z_zipMll, ↓y_cv, cvS_o, cvT_o, sbT_o, sbO_t, sbO_f, sbO_dt, sbO_df, mtH_o, mtE_o, y_finPn, y_finPr, y_finPx, y_finRn, y_finRr, y_finRx, y_lstG, y_lstX, y_finNo, y_finNx, sqN_o, sqN_x, hn_0, hn_z, hn_s, hn_n, y_hd, y_hdv, y_hde, outG_o, outG_x, lamH_o, lamF_o, lamG_o, lamS_o, z_addI, z_addT, z_addL, z_addLL, z_sub, z_cmp, z_lt, z_le, z_neg, z_int, z_aug, z_abs, z_max, z_min, z_div, z_mod, z_mulr, z_mull, z_tup, z_lst, z_lenL, z_lenT, z_lenF, z_tupL, z_tupT, z_listL, z_listT, z_eqI, z_neI, z_eqB, z_neB, z_eqSs, z_neSs, z_isi, z_isis, z_ixL, z_ixT, z_ixF, z_seqL, z_seqT, z_seqF, z_scI, z_flN, z_flB, z_flI, z_flS, z_flL, z_flT, z_fl0, z_flc, z_rng, List.map_cons, List.map_nil, List.length_cons, List.length_nil, List.cons_append, List.nil_append, Option.map_some, Option.isSome_some, isTy, isTys, Bool.and_true, Bool.true_and, Bool.and_false, Bool.false_and, Bool.not_true, Bool.not_false, decide_true, decide_false, not_true_eq_false, not_false_eq_true, Int.reduceToNat, Int.reduceAdd, Int.reduceSub, Int.reduceMul, Int.reduceNeg, Int.reduceLT, Int.reduceLE, Nat.zero_add, Nat.reduceAdd, tgO_o, stO_n, stO_c, tgC_o, oc_go, oc_gc, oc_br, oc_rt, oc_ex, tgF_o, feO_o, Int.toNat_natCast, z_rgL, z_rgT, z_augS, z_augMl, z_augMr, z_inT, z_inL, z_zipT, z_zipL, teO_o, lpT_o, lpB_n, lpB_c, lpB_b, lpB_r, lpB_x, popH_o, popG_o, popS_o, popT_o, frzI_n, z_flm, z_cutN, z_cutT, z_cutD, z_slL, z_slF, z_slT, z_eqT, z_neT, z_eqL, z_neL, z_mulf, z_at0, z_at1, z_at2, z_at3, z_at4, z_atl, z_ixN, z_pow6, z_pow18, z_pow30, z_pow36, z_revL, z_revT, z_revLL, List.set_cons_zero, List.set_cons_succ, List.getElem?_cons_zero, List.getElem?_cons_succ, $xs,*])
open K10
theorem P_common (a b : Int) (h : b.natAbs < P2 8010) : F_common [.int a, .int b] = .ok (.int (Int.gcd a b : Nat)) := by
  have l := gcd_loop (c := fT (fApp (cmpB fun i j => decide (j < i)) [.b 1, .e (fC (.int 0))])) (b := sPar 0 1 (.v (fVar 1)) (.v (fApp modB [.b 0, .b 1]))) (fun x y => [.val (.int x), .val (.int y)])
    (fun x y => by simp [x_b, isSet, cmpB, i2]) (fun x y h => by
      have : y ≠ 0 := by omega
      simp [sPar, Sd.f, Sd.sl, x_var, x_b, isSet, modB, i2, this]) 8010 a.natAbs b.natAbs fuel_common h (by show 16021 ≤ 50000; omega)
  simp only [F_common, runP, b_common, rho0]
  simp [sPar, Sd.f, Sd.sl, x_b, isSet, absB, abs_nat, l, x_var, Int.gcd]
theorem P_fraction (a b : Int) (hb : 0 < b) (h : b.natAbs < P2 8010) : F_fraction [.int a, .int b] = .ok (fr (low a b)) := by
  have e := P_common a b h
  have d := gcd_div (a := a) hb h
  simp only [F_fraction, runP, b_fraction, rho0]
  simp [sSet, x_b, x_var, isSet, cmpB, i2, hb, fCall, e, D.flat, divB, d, tupB, bigL, fr, low]
theorem gcd_loop0 {c : FT} {b : FS} (S : Int → Int → Sl) (hc : ∀ x y, 0 ≤ y → c (S x y) = .ok (decide (0 < y)) (S x y)) (hb : ∀ x y, 0 < y → b (S x y) = .nx (S y (x.fmod y))) :
    ∀ (n : Nat) (x y : Nat) (fuel : Nat), y < P2 n → 2 * n + 1 ≤ fuel → wLoop c b fuel (S x y) = .nx (S (Nat.gcd x y : Nat) 0) := by
  have stop : ∀ (x fuel : Nat), 1 ≤ fuel → wLoop c b fuel (S x (0 : Nat)) = .nx (S x 0) := fun x fuel h => by
    obtain ⟨f, rfl⟩ : ∃ f, fuel = f + 1 := ⟨fuel - 1, by omega⟩
    have := hc x 0 (by omega)
    simp only [wLoop]
    simp [this]
  have step : ∀ (x y f : Nat), 0 < y → wLoop c b (f + 1) (S x y) = wLoop c b f (S y (x % y : Nat)) := fun x y f h => by
    have h' : (0 : Int) < y := by omega
    simp only [wLoop, hc _ _ (Int.natCast_nonneg y), hb _ _ h', fmod_nat, decide_eq_true h', x_bs_ok, if_true]
  intro n
  induction n with
  | zero =>
    intro x y fuel h hf
    have : y = 0 := by have : y < 1 := h; omega
    subst this
    rw [stop x fuel (by omega), Nat.gcd_zero_right]
  | succ n ih =>
    intro x y fuel h hf
    by_cases y0 : y = 0
    · subst y0
      rw [stop x fuel (by omega), Nat.gcd_zero_right]
    · obtain ⟨f, rfl⟩ : ∃ f, fuel = f + 2 := ⟨fuel - 2, by omega⟩
      have yp : 0 < y := by omega
      have g1 : Nat.gcd x y = Nat.gcd y (x % y) := by rw [Nat.gcd_comm x y, Nat.gcd_rec y x, Nat.gcd_comm]
      rw [step x y (f + 1) yp, g1]
      by_cases r0 : x % y = 0
      · rw [r0, stop y (f + 1) (by omega), Nat.gcd_zero_right]
      · have rp : 0 < x % y := by omega
        have g2 : Nat.gcd y (x % y) = Nat.gcd (x % y) (y % (x % y)) := by rw [Nat.gcd_comm y (x % y), Nat.gcd_rec (x % y) y, Nat.gcd_comm]
        rw [step y (x % y) f rp, g2]
        refine ih _ _ _ ?_ (by omega)
        have h1 : y % (x % y) < x % y := Nat.mod_lt _ rp
        have h2 : x % y < y := Nat.mod_lt _ yp
        have h3 : (x % y) * 1 ≤ (x % y) * (y / (x % y)) := Nat.mul_le_mul_left _ (Nat.div_pos (Nat.le_of_lt h2) rp)
        have h4 := Nat.div_add_mod y (x % y)
        have h5 : P2 (n + 1) = 2 * P2 n := by unfold P2; rw [Nat.pow_succ, Nat.mul_comm]
        omega
theorem L_cut (a b : Int) (hb : 0 < b) (h : b.natAbs < P2 8010) : F__law_cut [.int a, .int b] = .ok (fr (low a b)) := by
  have l := gcd_loop0 (c := fT (fApp (eqD true) [.b 3, .e (fC (.int 0))])) (b := sPar 2 3 (.v (fVar 3)) (.v (fApp modB [.e (fApp intB [.b 2]), .b 3]))) (fun x y => [.val (.int a), .val (.int b), .val (.int x), .val (.int y), .emp])
    (fun x y y0 => by
      have : (decide (0 < y)) = !decide (y = 0) := by
        by_cases q : y = 0
        · simp [q]
        · simp [q]; omega
      rw [this]
      simp [x_b, isSet, neI]) (fun x y h => by
      have : y ≠ 0 := by omega
      simp [sPar, Sd.f, Sd.sl, x_var, x_b, isSet, modB, intB, i2, this]) 8010 a.natAbs b.natAbs fuel__law_cut h (by show 16021 ≤ 50000; omega)
  have d := gcd_div (a := a) hb h
  unfold Int.gcd at d
  simp only [F__law_cut, runP, b__law_cut, rho0]
  simp [sPar, Sd.f, Sd.sl, x_b, isSet, absB, abs_nat, l, x_var, sSet, cmpB, i2, hb, divB, d, tupB, bigL, fr, low, Int.gcd]

theorem p2_of {b : Int} (h0 : 0 < b) (h : b < 1000000000000000000000000000000) : b.natAbs < P2 8010 := by
  refine Nat.lt_of_lt_of_le (m := 2 ^ 100) ?_ (P2_le (m := 100) (by omega))
  have : (1000000000000000000000000000000 : Nat) ≤ 2 ^ 100 := by decide +kernel
  omega
/-- a small fraction -/
structure Sm (a b : Int) : Prop where
  b0 : 0 < b
  b1 : b < 1000000000000
  a0 : -1000000000000 < a
  a1 : a < 1000000000000
theorem mul_lt {a b : Int} (a0 : -1000000000000 < a) (a1 : a < 1000000000000) (b0 : 0 < b) (b1 : b < 1000000000000) : -1000000000000000000000000 < a * b ∧ a * b < 1000000000000000000000000 := by
  constructor
  · have h1 : (-1000000000000) * b ≤ a * b := Int.mul_le_mul_of_nonneg_right (by omega) (by omega)
    omega
  · have h1 : a * b ≤ 1000000000000 * b := Int.mul_le_mul_of_nonneg_right (by omega) (by omega)
    omega
theorem low_sm {a b : Int} (h : Sm a b) : Sm (low a b).1 (low a b).2 := by
  obtain ⟨g, g0, e1, e2, _, p⟩ := low_parts a b h.b0
  generalize low a b = x at *
  obtain ⟨h1, h2, h3, h4⟩ := h
  have q2 : 1 * x.2 ≤ g * x.2 := Int.mul_le_mul_of_nonneg_right (by omega) (by omega)
  have q1 : x.1.natAbs ≤ a.natAbs := by
    rw [e1, Int.natAbs_mul]
    exact Nat.le_mul_of_pos_left _ (by omega)
  exact ⟨p, by omega, by omega, by omega⟩
section
variable {a b c d : Int}
theorem P_minus (h : Sm a b) (k : Sm c d) : F_minus [fr (a, b), fr (c, d)] = .ok (fr (low (a * d - c * b) (b * d))) := by
  obtain ⟨h1, h2, h3, h4⟩ := h
  obtain ⟨k1, k2, k3, k4⟩ := k
  have e := P_fraction (a * d - c * b) (b * d) (Int.mul_pos h1 k1) (p2_of (Int.mul_pos h1 k1) (by have := mul_lt (a := b) (by omega) h2 k1 k2; omega))
  unfold F_minus b_minus fr
  simp_arith [z_mull, e, fr]
theorem P_plus (h : Sm a b) (k : Sm c d) : F_plus [fr (a, b), fr (c, d)] = .ok (fr (low (a * d + c * b) (b * d))) := by
  obtain ⟨h1, h2, h3, h4⟩ := h
  obtain ⟨k1, k2, k3, k4⟩ := k
  have e := P_fraction (a * d + c * b) (b * d) (Int.mul_pos h1 k1) (p2_of (Int.mul_pos h1 k1) (by have := mul_lt (a := b) (by omega) h2 k1 k2; omega))
  unfold F_plus b_plus fr
  simp_arith [z_mull, e, fr]
theorem P_times (h : Sm a b) (k : Sm c d) : F_times [fr (a, b), fr (c, d)] = .ok (fr (low (a * c) (b * d))) := by
  obtain ⟨h1, h2, h3, h4⟩ := h
  obtain ⟨k1, k2, k3, k4⟩ := k
  have e := P_fraction (a * c) (b * d) (Int.mul_pos h1 k1) (p2_of (Int.mul_pos h1 k1) (by have := mul_lt (a := b) (by omega) h2 k1 k2; omega))
  unfold F_times b_times fr
  simp_arith [z_mull, e, fr]
theorem L_minus (h : Sm a b) (k : Sm c d) : F__law_minus [fr (a, b), fr (c, d)] = .ok (fr (low (a * d - c * b) (b * d))) := by
  obtain ⟨h1, h2, h3, h4⟩ := h
  obtain ⟨k1, k2, k3, k4⟩ := k
  have e := L_cut (a * d - c * b) (b * d) (Int.mul_pos h1 k1) (p2_of (Int.mul_pos h1 k1) (by have := mul_lt (a := b) (by omega) h2 k1 k2; omega))
  unfold F__law_minus b__law_minus fr
  simp_arith [z_mull, e, fr]
theorem L_rest (h : 0 < b) : F__law_rest [fr (a, b)] = .ok (fr (a.fmod b, b)) := by
  unfold F__law_rest b__law_rest fr
  simp_arith []
theorem P_less (h : Sm a b) (k : Sm c d) : F_is_less [fr (a, b), fr (c, d)] = .ok (.bl (decide (a * d < c * b))) := by
  obtain ⟨h1, h2, h3, h4⟩ := h
  obtain ⟨k1, k2, k3, k4⟩ := k
  unfold F_is_less b_is_less fr
  simp_arith [z_mull]
theorem P_round (h : Sm a b) (g : Int.gcd a b = 1) : F_round_place [fr (a, b)] = .ok (fr (a.fmod b, b)) := by
  obtain ⟨h1, h2, h3, h4⟩ := h
  have ew : a.fdiv b = a / b := fdiv_pos _ _ (by omega)
  have hd := Int.emod_add_mul_ediv a b
  have em : a * 1 - a.fdiv b * b = a.fmod b := by
    rw [ew, fmod_pos _ _ (by omega), Int.mul_one, Int.mul_comm]; omega
  have w1 := Int.natAbs_ediv_le_natAbs a b
  have e := P_minus (a := a) (b := b) (c := a.fdiv b) (d := 1) ⟨h1, h2, h3, h4⟩ ⟨by omega, by omega, by rw [ew]; omega, by rw [ew]; omega⟩
  rw [em, Int.mul_one, low_cop (gcd_fmod h1 g)] at e
  have e0 : F_whole_below [fr (a, b)] = .ok (.int (a.fdiv b)) := by
    unfold F_whole_below b_whole_below fr
    simp_arith [z_divW]
  unfold fr at e e0
  unfold F_round_place b_round_place fr
  simp_arith [e, e0]
theorem L_plus (h : Sm a b) (k : Sm c d) : F__law_plus [fr (a, b), fr (c, d)] = .ok (fr (low (a * d + c * b) (b * d))) := by
  obtain ⟨h1, h2, h3, h4⟩ := h
  obtain ⟨k1, k2, k3, k4⟩ := k
  have e := L_cut (a * d + c * b) (b * d) (Int.mul_pos h1 k1) (p2_of (Int.mul_pos h1 k1) (by have := mul_lt (a := b) (by omega) h2 k1 k2; omega))
  unfold F__law_plus b__law_plus fr
  simp_arith [z_mull, e, fr]
theorem L_times (h : Sm a b) (k : Sm c d) : F__law_times [fr (a, b), fr (c, d)] = .ok (fr (low (a * c) (b * d))) := by
  obtain ⟨h1, h2, h3, h4⟩ := h
  obtain ⟨k1, k2, k3, k4⟩ := k
  have e := L_cut (a * c) (b * d) (Int.mul_pos h1 k1) (p2_of (Int.mul_pos h1 k1) (by have := mul_lt (a := b) (by omega) h2 k1 k2; omega))
  unfold F__law_times b__law_times fr
  simp_arith [z_mull, e, fr]
theorem L_less (h : Sm a b) (k : Sm c d) : F__law_less [fr (a, b), fr (c, d)] = .ok (.bl (decide (a * d < c * b))) := by
  obtain ⟨h1, h2, h3, h4⟩ := h
  obtain ⟨k1, k2, k3, k4⟩ := k
  unfold F__law_less b__law_less fr
  simp_arith [z_mull]
end
end K11

namespace K11
open PySem DL
local macro_rules | `(tactic| simp_arith [$xs,*]) => `(tactic| simp (config := {maxSteps := 400000}) (disch := (first | assumption | omega | (simp only [List.length_append, List.length_cons, List.length_nil, List.length_map, List.length_take, List.length_drop, List.length_reverse, List.length_replicate]; omega) | decide | rfl | (simp only [noOwn, List.all_cons, List.all_nil, List.getElem?_cons_zero, List.getElem?_cons_succ, Bool.and_self]))) only [↓y_set, ↓y_new, ↓y_ret, ↓y_expr, ↓y_for, ↓y_retN, ↓y_next, ↓y_break, ↓y_cont, ↓y_raise, ↓y_seq, ↓y_sif, ↓y_if, ↓y_and, ↓y_or, ↓y_andV, ↓y_orV, ↓y_not, ↓y_notV, ↓y_T, ↓y_nil, ↓y_e, ↓y_b, ↓y_app, ↓y_var, ↓y_fC, ↓y_call, ↓y_callN, ↓y_callR, ↓y_append, ↓y_extend, ↓y_put, ↓y_aug, ↓y_parvv, ↓y_parvn, ↓y_parnv, ↓y_parnn, ↓y_par3, ↓y_par3n, p3A_o, p3B_o, p3C_o, ↓y_unp, ↓y_chain, ↓y_oNo, ↓y_oEx, ↓y_sl, ↓y_slV, ↓y_fseq, ↓y_rng1, ↓y_rng2, ↓y_en, ↓y_zip, ↓y_mt, ↓y_runP, ↓y_runR, ↓y_runN, ↓y_seqN, ↓y_lamE, ↓y_popAt, sget_z, sget_s, sput_z, sput_s, emps_z, emps_s, ent_z, ent_s, setS_x, setS_o, newS_x, newS_o, retS_x, retS_o, expS_x, expS_o, forS_x, forS_o, q_nx, q_rt, q_ex, q_bk, q_ct, ifS_t, ifS_f, ifS_x, ifS_dt, ifS_df, ifE_t, ifE_f, ifE_x, ifE_dt, ifE_df, andE_t, andE_f, andE_x, andE_dt, andE_df, orE_t, orE_f, orE_x, orE_dt, orE_df, anvE_t, anvE_f, anvE_x, anvE_dt, anvE_df, orvE_t, orvE_f, orvE_x, orvE_dt, orvE_df, notE_t, notE_f, notE_d, notE_x, ntvE_t, ntvE_f, ntvE_d, ntvE_x, tE_o, tE_x, cnsE_o, cnsE_x, argE_o, argE_x, rdB_v, rdB_w, brwE_o, brwE_x, brwS_v, brwS_w, ofE_o, ofL_o, appE_o, appE_x, varS_v, varS_w, bs_0, bs_e, bs_b, y_frz0, y_frz, y_frzo, y_frzv, y_frze, frzI_t, frzI_f, frzI_0, callG_o, callG_x, callE_o, callE_x, callNG_o, callNG_x, callNE_o, callNE_x, y_ls, callRH_o, callRH_x, callRG_o, callRE_o, callRE_x, callRS_o, appG_o, appS_o, appS_x, appT_o, extG_o, extS_o, extT_o, putH_o, putG_o, putK_o, putT_o, putS_o, putS_x, nxO_o, augF_o, augG_o, parS_o, parS_x, parG_vv, parG_vn, parG_nv, parG_nn, parG_x, par3S_o, unpG_o, unpS_o, unpS_x, y_tgN, y_tgT, tgR_o, y_tgC, y_tg0, chH_o, chG_t, chG_f, chG_dt, chG_df, chF_o, chE_o, exI_o, slH_o, slL_o, slE_o, svG_v, svG_w, svH_o, svL_o, svS_v, svS_w, seqE_o, rng1E_o, rng2E_o, enE_o, zipE_o, ↓y_zipM, zipME_o, z_zipMtl, z_zipMlt, z_zipMtt, z_zipMll, ↓y_cv, cvS_o, cvT_o, sbT_o, sbO_t, sbO_f, sbO_dt, sbO_df, mtH_o, mtE_o, y_finPn, y_finPr, y_finPx, y_finRn, y_finRr, y_finRx, y_lstG, y_lstX, y_finNo, y_finNx, sqN_o, sqN_x, hn_0, hn_z, hn_s, hn_n, y_hd, y_hdv, y_hde, outG_o, outG_x, lamH_o, lamF_o, lamG_o, lamS_o, z_addI, z_addT, z_addL, z_addLL, z_sub, z_cmp, z_lt, z_le, z_neg, z_int, z_aug, z_abs, z_max, z_min, z_div, z_mod, z_mulr, z_mull, z_tup, z_lst, z_lenL, z_lenT, z_lenF, z_tupL, z_tupT, z_listL, z_listT, z_eqI, z_neI, z_eqB, z_neB, z_eqSs, z_neSs, z_isi, z_isis, z_ixL, z_ixT, z_ixF, z_seqL, z_seqT, z_seqF, z_scI, z_flN, z_flB, z_flI, z_flS, z_flL, z_flT, z_fl0, z_flc, z_rng, List.map_cons, List.map_nil, List.length_cons, List.length_nil, List.cons_append, List.nil_append, Option.map_some, Option.isSome_some, isTy, isTys, Bool.and_true, Bool.true_and, Bool.and_false, Bool.false_and, Bool.not_true, Bool.not_false, decide_true, decide_false, not_true_eq_false, not_false_eq_true, Int.reduceToNat, Int.reduceAdd, Int.reduceSub, Int.reduceMul, Int.reduceNeg, Int.reduceLT, Int.reduceLE, Nat.zero_add, Nat.reduceAdd, tgO_o, stO_n, stO_c, tgC_o, oc_go, oc_gc, oc_br, oc_rt, oc_ex, tgF_o, feO_o, Int.toNat_natCast, z_rgL, z_rgT, z_augS, z_augMl, z_augMr, z_inT, z_inL, z_zipT, z_zipL, teO_o, lpT_o, lpB_n, lpB_c, lpB_b, lpB_r, lpB_x, popH_o, popG_o, popS_o, popT_o, frzI_n, z_flm, z_cutN, z_cutT, z_cutD, z_slL, z_slF, z_slT, z_eqT, z_neT, z_eqL, z_neL, z_mulf, z_at0, z_at1, z_at2, z_at3, z_at4, z_atl, z_ixN, z_pow6, z_pow18, z_pow30, z_pow36, z_revL, z_revT, z_revLL, List.set_cons_zero, List.set_cons_succ, List.getElem?_cons_zero, List.getElem?_cons_succ, $xs,*])
open K10
theorem F_siz2 (d : D) (h : d.nq = true) : F_is_sized [d, .int 2, .int 2] = .ok (.bl (siz d 2 2)) := by
  cases d <;> first
    | (cases h; done)
    | rfl
    | skip
  rename_i xs
  unfold F_is_sized b_is_sized
  by_cases q : (2 : Int) ≤ xs.length <;> simp_arith [siz, q]
/-- two whole numbers -/
def twoI : D → Option (Int × Int)
  | .tup [.int x, .int y] => some (x, y)
  | _ => none
/-- a pair of things that are no defs -/
def nqP (d : D) : Prop := d.nq = true ∧ ∀ x y, d = .tup [x, y] → x.nq = true ∧ y.nq = true
theorem all2 (x y : D) : allB [.lst [.bl (isI x), .bl (isI y)]] = some (.bl (isI x && isI y)) := by
  have := iI_lc [x, y] isI
  simpa using this
def fracB (x y : Int) : Bool := decide (1 ≤ y) && decide (Int.gcd x y = 1)
theorem F_frac {x y : Int} (hy : y.natAbs < P2 8010) : F_is_fraction [.tup [.int x, .int y]] = .ok (.bl (fracB x y)) := by
  have e1 := F_siz2 (.tup [.int x, .int y]) rfl
  have es : siz (.tup [.int x, .int y]) 2 2 = true := rfl
  rw [es] at e1
  have e2 := P_common x y hy
  unfold F_is_fraction b_is_fraction
  simp_arith [e1]
  generalize hC : fComp _ _ _ _ _ _ = C
  have := gc_map hC id (fun d => .bl (isI d)) [D.int x, D.int y] [.val (.tup [.int x, .int y]), .emp] (by simp_arith [id]) (by simp) (fun d hm => ⟨_, rfl, by
    have hq : d.nq = true := by
      simp only [List.mem_cons, List.not_mem_nil, or_false] at hm
      rcases hm with rfl | rfl <;> rfl
    simp_arith [wipeR, F_int d hq, id], rfl⟩)
  subst this
  simp_arith [all2]
  by_cases h1 : y < 1
  · have : fracB x y = false := by unfold fracB; rw [decide_eq_false (by omega)]; rfl
    rw [this]
    simp_arith [show (isI (.int x) && isI (.int y)) = true from rfl]
  · have : fracB x y = decide (((Int.gcd x y : Nat) : Int) = 1) := by
      unfold fracB; rw [decide_eq_true (by omega), Bool.true_and]
      exact decide_eq_decide.mpr (by omega)
    rw [this]
    simp_arith [e2, show (isI (.int x) && isI (.int y)) = true from rfl]
theorem F_nofrac (d : D) (h : nqP d) (h2 : twoI d = none) : F_is_fraction [d] = .ok (.bl false) := by
  have e1 := F_siz2 d h.1
  unfold F_is_fraction b_is_fraction
  by_cases s : siz d 2 2 = true
  · obtain ⟨x, y, rfl⟩ := siz2 s
    obtain ⟨hx, hy⟩ := h.2 x y rfl
    rw [s] at e1
    simp_arith [e1]
    generalize hC : fComp _ _ _ _ _ _ = C
    have := gc_map hC id (fun d => .bl (isI d)) [x, y] [.val (.tup [x, y]), .emp] (by simp_arith [id]) (by simp) (fun d hm => ⟨_, rfl, by
      have hq : d.nq = true := by
        simp only [List.mem_cons, List.not_mem_nil, or_false] at hm
        rcases hm with rfl | rfl
        · exact hx
        · exact hy
      simp_arith [wipeR, F_int d hq, id], rfl⟩)
    subst this
    have no : (isI x && isI y) = false := by
      cases q : (isI x && isI y) with
      | false => rfl
      | true =>
        rw [Bool.and_eq_true] at q
        obtain ⟨i, rfl⟩ := isI_of q.1
        obtain ⟨j, rfl⟩ := isI_of q.2
        cases h2
    simp_arith [all2, no]
  · rw [Bool.not_eq_true] at s
    rw [s] at e1
    simp_arith [e1]
def timeB (x y : Int) : Bool := fracB x y && (decide (0 ≤ x) && decide (x < 12 * y))
theorem F_time {x y : Int} (hy : y.natAbs < P2 8010) : F_is_time [.tup [.int x, .int y]] = .ok (.bl (timeB x y)) := by
  have e := F_frac (x := x) hy
  unfold F_is_time b_is_time timeB
  cases q : fracB x y with
  | false => rw [q] at e; simp_arith [e]
  | true =>
    rw [q] at e
    by_cases q2 : 0 ≤ x <;> simp_arith [e, q2]
theorem F_notime (d : D) (h : nqP d) (h2 : twoI d = none) : F_is_time [d] = .ok (.bl false) := by
  have e := F_nofrac d h h2
  unfold F_is_time b_is_time
  simp_arith [e]
end K11

namespace K11
open PySem DL
local macro_rules | `(tactic| simp_arith [$xs,*]) => `(tactic| simp (config := {maxSteps := 400000}) (disch := (first | assumption | omega | (simp only [List.length_append, List.length_cons, List.length_nil, List.length_map, List.length_take, List.length_drop, List.length_reverse, List.length_replicate]; omega) | decide | rfl | (simp only [noOwn, List.all_cons, List.all_nil, List.getElem?_cons_zero, List.getElem?_cons_succ, Bool.and_self]))) only [↓y_set, ↓y_new, ↓y_ret, ↓y_expr, ↓y_for, ↓y_retN, ↓y_next, ↓y_break, ↓y_cont, ↓y_raise, ↓y_seq, ↓y_sif, ↓y_if, ↓y_and, ↓y_or, ↓y_andV, ↓y_orV, ↓y_not, ↓y_notV, ↓y_T, ↓y_nil, ↓y_e, ↓y_b, ↓y_app, ↓y_var, ↓y_fC, ↓y_call, ↓y_callN, ↓y_callR, ↓y_append, ↓y_extend, ↓y_put, ↓y_aug, ↓y_parvv, ↓y_parvn, ↓y_parnv, ↓y_parnn, ↓y_par3, ↓y_par3n, p3A_o, p3B_o, p3C_o, ↓y_unp, ↓y_chain, ↓y_oNo, ↓y_oEx, ↓y_sl, ↓y_slV, ↓y_fseq, ↓y_rng1, ↓y_rng2, ↓y_en, ↓y_zip, ↓y_mt, ↓y_runP, ↓y_runR, ↓y_runN, ↓y_seqN, ↓y_lamE, ↓y_popAt, sget_z, sget_s, sput_z, sput_s, emps_z, emps_s, ent_z, ent_s, setS_x, setS_o, newS_x, newS_o, retS_x, retS_o, expS_x, expS_o, forS_x, forS_o, q_nx, q_rt, q_ex, q_bk, q_ct, ifS_t, ifS_f, ifS_x, ifS_dt, ifS_df, ifE_t, ifE_f, ifE_x, ifE_dt, ifE_df, andE_t, andE_f, andE_x, andE_dt, andE_df, orE_t, orE_f, orE_x, orE_dt, orE_df, anvE_t, anvE_f, anvE_x, anvE_dt, anvE_df, orvE_t, orvE_f, orvE_x, orvE_dt, orvE_df, notE_t, notE_f, notE_d, notE_x, ntvE_t, ntvE_f, ntvE_d, ntvE_x, tE_o, tE_x, cnsE_o, cnsE_x, argE_o, argE_x, rdB_v, rdB_w, brwE_o, brwE_x, brwS_v, brwS_w, ofE_o, ofL_o, appE_o, appE_x, varS_v, varS_w, bs_0, bs_e, bs_b, y_frz0, y_frz, y_frzo, y_frzv, y_frze, frzI_t, frzI_f, frzI_0, callG_o, callG_x, callE_o, callE_x, callNG_o, callNG_x, callNE_o, callNE_x, y_ls, callRH_o, callRH_x, callRG_o, callRE_o, callRE_x, callRS_o, appG_o, appS_o, appS_x, appT_o, extG_o, extS_o, extT_o, putH_o, putG_o, putK_o, putT_o, putS_o, putS_x, nxO_o, augF_o, augG_o, parS_o, parS_x, parG_vv, parG_vn, parG_nv, parG_nn, parG_x, par3S_o, unpG_o, unpS_o, unpS_x, y_tgN, y_tgT, tgR_o, y_tgC, y_tg0, chH_o, chG_t, chG_f, chG_dt, chG_df, chF_o, chE_o, exI_o, slH_o, slL_o, slE_o, svG_v, svG_w, svH_o, svL_o, svS_v, svS_w, seqE_o, rng1E_o, rng2E_o, enE_o, zipE_o, ↓y_zipM, zipME_o, z_zipMtl, z_zipMlt, z_zipMtt, z_zipMll, ↓y_cv, cvS_o, cvT_o, sbT_o, sbO_t, sbO_f, sbO_dt, sbO_df, mtH_o, mtE_o, y_finPn, y_finPr, y_finPx, y_finRn, y_finRr, y_finRx, y_lstG, y_lstX, y_finNo, y_finNx, sqN_o, sqN_x, hn_0, hn_z, hn_s, hn_n, y_hd, y_hdv, y_hde, outG_o, outG_x, lamH_o, lamF_o, lamG_o, lamS_o, z_addI, z_addT, z_addL, z_addLL, z_sub, z_cmp, z_lt, z_le, z_neg, z_int, z_aug, z_abs, z_max, z_min, z_div, z_mod, z_mulr, z_mull, z_tup, z_lst, z_lenL, z_lenT, z_lenF, z_tupL, z_tupT, z_listL, z_listT, z_eqI, z_neI, z_eqB, z_neB, z_eqSs, z_neSs, z_isi, z_isis, z_ixL, z_ixT, z_ixF, z_seqL, z_seqT, z_seqF, z_scI, z_flN, z_flB, z_flI, z_flS, z_flL, z_flT, z_fl0, z_flc, z_rng, List.map_cons, List.map_nil, List.length_cons, List.length_nil, List.cons_append, List.nil_append, Option.map_some, Option.isSome_some, isTy, isTys, Bool.and_true, Bool.true_and, Bool.and_false, Bool.false_and, Bool.not_true, Bool.not_false, decide_true, decide_false, not_true_eq_false, not_false_eq_true, Int.reduceToNat, Int.reduceAdd, Int.reduceSub, Int.reduceMul, Int.reduceNeg, Int.reduceLT, Int.reduceLE, Nat.zero_add, Nat.reduceAdd, tgO_o, stO_n, stO_c, tgC_o, oc_go, oc_gc, oc_br, oc_rt, oc_ex, tgF_o, feO_o, Int.toNat_natCast, z_rgL, z_rgT, z_augS, z_augMl, z_augMr, z_inT, z_inL, z_zipT, z_zipL, teO_o, lpT_o, lpB_n, lpB_c, lpB_b, lpB_r, lpB_x, popH_o, popG_o, popS_o, popT_o, frzI_n, z_flm, z_cutN, z_cutT, z_cutD, z_slL, z_slF, z_slT, z_eqT, z_neT, z_eqL, z_neL, z_mulf, z_at0, z_at1, z_at2, z_at3, z_at4, z_atl, z_ixN, z_pow6, z_pow18, z_pow30, z_pow36, z_revL, z_revT, z_revLL, List.set_cons_zero, List.set_cons_succ, List.getElem?_cons_zero, List.getElem?_cons_succ, $xs,*])
open K10
theorem enc_fr : Enc fr (fun x => .tuple [.int x.1, .int x.2]) 1 := ⟨fun _ => rfl, fun x => (enc_tup enc_int).lay [x.1, x.2], fun x => (enc_tup enc_int).dp [x.1, x.2], fun a b => by
  refine ((enc_tup enc_int).eq [a.1, a.2] [b.1, b.2]).trans (decide_eq_decide.mpr ⟨fun h => ?_, fun h => by rw [h]⟩)
  simp only [List.cons.injEq, and_true] at h
  exact Prod.ext h.1 h.2, fun a x e => by cases e⟩
/-- a time: a fraction in lowest terms from 0 to 12 -/
structure Tm (t b : Int) : Prop where
  b0 : 0 < b
  b1 : b < 16000
  t0 : 0 ≤ t
  t1 : t < 12 * b
  g : Int.gcd t b = 1
theorem Tm.sm {t b : Int} (h : Tm t b) : Sm t b := by
  obtain ⟨h1, h2, h3, h4, _⟩ := h
  exact ⟨h1, by omega, by omega, by omega⟩
theorem P_roundL {a b : Int} (h : Sm a b) : F_round_place [fr (low a b)] = .ok (fr (low (a.fmod b) b)) := by
  obtain ⟨g, g0, e1, e2, c, p⟩ := low_parts a b h.b0
  rw [low_fmod _ _ h.b0]
  exact P_round (low_sm h) c
theorem P_hand {k T u v t b : Int} (hk : ixB [.tup [.int 1, .int 12, .int 720], .int k] = some (.int T)) (hf : F_fraction [.int T, .int 12] = .ok (fr (u, v))) (s : Sm u v) (h : Sm t b) (h2 : Sm (t * u) (b * v)) :
    F_hand_place [.int k, fr (t, b)] = .ok (fr (low ((t * u).fmod (b * v)) (b * v))) := by
  have e1 := P_times h s
  have e2 := P_roundL h2
  unfold F_hand_place b_hand_place
  simp_arith [hk, hf, e1, e2]
section
variable {t b : Int}
theorem P_h0 (h : Tm t b) : F_hand_place [.int 0, fr (t, b)] = .ok (fr (low t (12 * b))) := by
  have e1 : F_fraction [.int 1, .int 12] = .ok (fr (1, 12)) := by
    have := P_fraction 1 12 (by decide) (p2_of (by decide) (by decide))
    rwa [show low 1 12 = (1, 12) by decide +kernel] at this
  have e := P_hand (k := 0) rfl e1 ⟨by decide, by decide, by decide, by decide⟩ h.sm ⟨by have := h.b0; omega, by have := h.b1; omega, by have := h.t0; omega, by have := h.t1; have := h.b1; omega⟩
  rw [e, Int.mul_one, Int.mul_comm b 12]
  rw [fmod_pos _ _ (by have := h.b0; omega), Int.emod_eq_of_lt h.t0 h.t1]
theorem P_h1 (h : Tm t b) : F_hand_place [.int 1, fr (t, b)] = .ok (fr (low (t.fmod b) b)) := by
  have e1 : F_fraction [.int 12, .int 12] = .ok (fr (1, 1)) := by
    have := P_fraction 12 12 (by decide) (p2_of (by decide) (by decide))
    rwa [show low 12 12 = (1, 1) by decide +kernel] at this
  have e := P_hand (k := 1) rfl e1 ⟨by decide, by decide, by decide, by decide⟩ h.sm (by rw [Int.mul_one, Int.mul_one]; exact h.sm)
  rw [e, Int.mul_one, Int.mul_one]
theorem P_h2 (h : Tm t b) : F_hand_place [.int 2, fr (t, b)] = .ok (fr (low ((60 * t).fmod b) b)) := by
  have e1 : F_fraction [.int 720, .int 12] = .ok (fr (60, 1)) := by
    have := P_fraction 720 12 (by decide) (p2_of (by decide) (by decide))
    rwa [show low 720 12 = (60, 1) by decide +kernel] at this
  have e := P_hand (k := 2) rfl e1 ⟨by decide, by decide, by decide, by decide⟩ h.sm (by obtain ⟨h1, h2, h3, h4, _⟩ := h; exact ⟨by omega, by omega, by omega, by omega⟩)
  rw [e, Int.mul_one, Int.mul_comm t 60]
theorem is_time_ok (h : Tm t b) : F_is_time [fr (t, b)] = .ok (.bl true) := by
  have e := F_time (x := t) (y := b) (p2_of h.b0 (by have := h.b1; omega))
  have : timeB t b = true := by
    unfold timeB fracB
    rw [decide_eq_true h.t0, decide_eq_true h.t1, decide_eq_true h.g, decide_eq_true (show 1 ≤ b by have := h.b0; omega)]
    rfl
  rw [this] at e
  exact e
theorem check_time_ok (h : Tm t b) : F_check_time [fr (t, b)] = .ok .non := by
  have e := is_time_ok h
  unfold F_check_time b_check_time
  simp_arith [e]
end
theorem zp_self : ∀ xs : List D, zpD xs xs = xs.map fun d => .tup [d, d]
  | [] => by simp [zpD]
  | x :: xs => by simp [zpD, zp_self xs]
theorem all_true {α : Type} (xs : List α) : allB [.lst (xs.map fun _ => .bl true)] = some (.bl true) := by
  rw [all_lc xs fun _ => true]
  simp
theorem is_refl : ∀ (k : Nat) (d : D), pl d = true → d.dp < k → F__law_is k [d, d] = .ok (.bl true)
  | 0, _, _, h => absurd h (Nat.not_lt_zero _)
  | k + 1, d, h, hd => by
    show runP 4 (b__law_is (F__law_is k)) [d, d] = _
    unfold b__law_is
    cases d with
    | tup xs =>
      simp only [pl, Bool.and_eq_true, decide_eq_true_eq] at h
      have hl : xs.length ≤ 16777216 := h.2
      simp only [D.dp] at hd
      simp_arith []
      generalize hC : fComp _ _ _ _ _ _ = C
      have := gc_map hC (fun d : D => .tup [d, d]) (fun _ => D.bl true) xs [.val (.tup xs), .val (.tup xs), .emp, .emp] (by simp_arith [zp_self]) (by omega) (fun x hm => ⟨_, rfl, by
        have ih := is_refl k x (pls_mem h.1 hm) (by have := dps_mem hm; omega)
        simp_arith [wipeR, ih], rfl⟩)
      subst this
      simp_arith [all_true]
    | lst xs =>
      simp only [pl, Bool.and_eq_true, decide_eq_true_eq] at h
      have hl : xs.length ≤ 16777216 := h.2
      simp only [D.dp] at hd
      simp_arith []
      generalize hC : fComp _ _ _ _ _ _ = C
      have := gc_map hC (fun d : D => .tup [d, d]) (fun _ => D.bl true) xs [.val (.lst xs), .val (.lst xs), .emp, .emp] (by simp_arith [zp_self]) (by omega) (fun x hm => ⟨_, rfl, by
        have ih := is_refl k x (pls_mem h.1 hm) (by have := dps_mem hm; omega)
        simp_arith [wipeR, ih], rfl⟩)
      subst this
      simp_arith [all_true]
    | non => rfl
    | int i => simp_arith [show isNB false [.int i, .non] = some (.bl false) from rfl]
    | bl b => simp_arith [show isNB false [.bl b, .non] = some (.bl false) from rfl]
    | str x => simp_arith [show isNB false [.str x, .non] = some (.bl false) from rfl]
    | _ => cases h

/-- a place round: a fraction in lowest terms from 0 to 1 -/
structure Pl (g h : Int) : Prop where
  b0 : 0 < h
  b1 : h < 200000
  t0 : 0 ≤ g
  t1 : g < h
  g : Int.gcd g h = 1
theorem Pl.sm {g h : Int} (p : Pl g h) : Sm g h := by
  obtain ⟨h1, h2, h3, h4, _⟩ := p
  exact ⟨h1, by omega, by omega, by omega⟩
theorem check_place_ok {g h : Int} (p : Pl g h) : F_check_place [fr (g, h)] = .ok .non := by
  obtain ⟨h1, h2, h3, h4, h5⟩ := p
  have e := F_frac (x := g) (y := h) (p2_of h1 (by omega))
  have : fracB g h = true := by unfold fracB; rw [decide_eq_true h5, decide_eq_true (show 1 ≤ h by omega)]; rfl
  rw [this] at e
  unfold F_check_place b_check_place fr
  simp_arith [e]
theorem fr_i0 (x : Fr) : ixB [fr x, .int 0] = some (.int x.1) := by unfold fr; exact z_ixT.trans (z_at0 _ _)
theorem fr_i1 (x : Fr) : ixB [fr x, .int 1] = some (.int x.2) := by unfold fr; exact z_ixT.trans (z_at1 _ _ _)
theorem fr_eq (x : Fr) : eqD false [fr x, fr x] = some (.bl true) := by
  have := enc_eqD enc_fr (by decide) false x x
  simpa using this
theorem frs_ne (xs : List Fr) : eqD true [.lst (xs.map fr), .lst (xs.map fr)] = some (.bl false) := by
  have := enc_eqD (enc_lst enc_fr) (by decide) true xs xs
  simpa using this
theorem low_tm {x c : Int} (h0 : 0 < c) (h1 : c < 16000) (x0 : 0 ≤ x) (x1 : x < 12 * c) : Tm (low x c).1 (low x c).2 := by
  have s := low_sm (a := x) (b := c) ⟨h0, by omega, by omega, by omega⟩
  obtain ⟨g, g0, e1, e2, c1, p⟩ := low_parts x c h0
  generalize low x c = y at *
  have q0 : 0 ≤ y.1 := by
    rcases Int.lt_or_le y.1 0 with q | q
    · have := Int.mul_neg_of_pos_of_neg g0 q; omega
    · exact q
  have q1 : y.1 < 12 * y.2 := by
    rcases Int.lt_or_le y.1 (12 * y.2) with q | q
    · exact q
    · have := Int.mul_le_mul_of_nonneg_left q (show 0 ≤ g by omega)
      have e : g * (12 * y.2) = 12 * (g * y.2) := by grind
      omega
  have q2 : 1 * y.2 ≤ g * y.2 := Int.mul_le_mul_of_nonneg_right (by omega) (by omega)
  exact ⟨p, by omega, q0, q1, c1⟩
theorem low_pl {x c M : Int} (hM : M ≤ 200000) (h0 : 0 < c) (h1 : c < M) (x0 : 0 ≤ x) (x1 : x < c) : Pl (low x c).1 (low x c).2 ∧ (low x c).2 < M := by
  obtain ⟨g, g0, e1, e2, c1, p⟩ := low_parts x c h0
  generalize low x c = y at *
  have q0 : 0 ≤ y.1 := by
    rcases Int.lt_or_le y.1 0 with q | q
    · have := Int.mul_neg_of_pos_of_neg g0 q; omega
    · exact q
  have q1 : y.1 < y.2 := by
    rcases Int.lt_or_le y.1 y.2 with q | q
    · exact q
    · have := Int.mul_le_mul_of_nonneg_left q (show 0 ≤ g by omega)
      omega
  have q2 : 1 * y.2 ≤ g * y.2 := Int.mul_le_mul_of_nonneg_right (by omega) (by omega)
  exact ⟨⟨p, by omega, q0, q1, c1⟩, by omega⟩
theorem time_ok (h : List D) (hh : HandOk h) : ∃ t b h', F__law_time h [] = .ok (fr (t, b)) h' ∧ Tm t b ∧ HandOk h' := by
  obtain ⟨r, h1, e1, r0, r1, hh1⟩ := draw_ok h hh 9000 (by omega) (by omega)
  obtain ⟨c, h2, e2, m2, hh2⟩ := any_ok h1 hh1 [.int 1, .int 2, .int 11, .int 13, .int 59, .int 60, .int 143, .int 719, .int 3600, .int (1 + r)] (by simp) (by simp)
  obtain ⟨c, rfl, c0, c1⟩ : ∃ i : Int, c = .int i ∧ 0 < i ∧ i < 16000 := by
    simp only [List.mem_cons, List.not_mem_nil, or_false] at m2
    rcases m2 with rfl | rfl | rfl | rfl | rfl | rfl | rfl | rfl | rfl | rfl <;> exact ⟨_, rfl, by omega, by omega⟩
  obtain ⟨x, h3, e3, x0, x1, hh3⟩ := draw_ok h2 hh2 (12 * c) (by omega) (by omega)
  have e4 := L_cut x c c0 (p2_of c0 (by omega))
  refine ⟨_, _, h3, ?_, low_tm c0 c1 x0 x1, hh3⟩
  unfold F__law_time b__law_time
  simp_arith [e1, e2, e3, e4, z_mull]
theorem place_ok (h : List D) (hh : HandOk h) : ∃ t b h', F__law_place h [] = .ok (fr (t, b)) h' ∧ Pl t b ∧ b < 10000 ∧ HandOk h' := by
  obtain ⟨r, h1, e1, r0, r1, hh1⟩ := draw_ok h hh 900 (by omega) (by omega)
  obtain ⟨c, h2, e2, m2, hh2⟩ := any_ok h1 hh1 [.int 1, .int 2, .int 4, .int 12, .int 60, .int 143, .int (1 + r)] (by simp) (by simp)
  obtain ⟨c, rfl, c0, c1⟩ : ∃ i : Int, c = .int i ∧ 0 < i ∧ i < 10000 := by
    simp only [List.mem_cons, List.not_mem_nil, or_false] at m2
    rcases m2 with rfl | rfl | rfl | rfl | rfl | rfl | rfl <;> exact ⟨_, rfl, by omega, by omega⟩
  obtain ⟨x, h3, e3, x0, x1, hh3⟩ := draw_ok h2 hh2 c (by omega) (by omega)
  have e4 := L_cut x c c0 (p2_of c0 (by omega))
  have p := low_pl (M := 10000) (by decide) c0 c1 x0 x1
  refine ⟨_, _, h3, ?_, p.1, p.2, hh3⟩
  unfold F__law_place b__law_place
  simp_arith [e1, e2, e3, e4]
end K11

namespace K11
open PySem DL
open K10
/-- how far x / y is ahead of u / v, round -/
def offF (x y u v : Int) : Fr := low ((x * v - u * y).fmod (y * v)) (y * v)
theorem low_zero {a b : Int} (hb : 0 < b) : (low a b).1 = 0 ↔ a = 0 := by
  obtain ⟨g, g0, e1, e2, c, p⟩ := low_parts a b hb
  constructor
  · intro h; rw [h] at e1; omega
  · intro h
    rw [h] at e1
    rcases Int.mul_eq_zero.mp e1.symm with q | q
    · omega
    · rw [h]; exact q
theorem dvd_cop {y v w : Int} (h : y ∣ v * w) (g : Int.gcd y w = 1) : y ∣ v := Int.natAbs_dvd_natAbs.mp (Nat.Coprime.dvd_of_dvd_mul_right (show Nat.Coprime y.natAbs w.natAbs from g) (by rw [← Int.natAbs_mul]; exact Int.natAbs_dvd_natAbs.mpr h))
theorem off_zero {x y u v : Int} (hy : 0 < y) (hv : 0 < v) (g1 : Int.gcd x y = 1) (g2 : Int.gcd u v = 1) (u0 : 0 ≤ u) (u1 : u < v) : (offF x y u v).1 = 0 ↔ (x.fmod y, y) = (u, v) := by
  have yv : 0 < y * v := Int.mul_pos hy hv
  unfold offF
  rw [low_zero yv, fmod_pos _ _ (by omega), fmod_pos _ _ (by omega)]
  constructor
  · intro h
    obtain ⟨k, hk⟩ := Int.dvd_of_emod_eq_zero h
    have e : u * y = v * (x - y * k) := by grind
    have gx : Int.gcd y (x - y * k) = 1 := by rw [Int.gcd_sub_mul_left_right, Int.gcd_comm]; exact g1
    have d1 : y ∣ v := dvd_cop (show y ∣ v * (x - y * k) by rw [← e]; exact Int.dvd_mul_left ..) gx
    have d2 : v ∣ y := dvd_cop (show v ∣ y * u by rw [Int.mul_comm, e]; exact Int.dvd_mul_right ..) (by rw [Int.gcd_comm]; exact g2)
    have ey : y = v := Int.le_antisymm (Int.le_of_dvd hv d1) (Int.le_of_dvd hy d2)
    subst ey
    have eu : u = x - y * k := by
      have : y * u = y * (x - y * k) := by rw [← e, Int.mul_comm]
      exact Int.eq_of_mul_eq_mul_left (by omega) this
    have ex : x = u + y * k := by omega
    rw [ex, Int.add_mul_emod_self_left, Int.emod_eq_of_lt u0 u1]
  · intro h
    cases h
    have hd := Int.emod_add_mul_ediv x y
    have : x * y - x % y * y = y * y * (x / y) := by
      have : x % y = x - y * (x / y) := by omega
      rw [this]; grind
    rw [this, Int.mul_emod_right]
theorem off_same (a b : Int) (hb : 0 < b) : offF a b a b = (0, 1) := by
  unfold offF
  have bb : 0 < b * b := Int.mul_pos hb hb
  rw [Int.sub_self, fmod_pos _ _ (by omega), Int.zero_emod]
  have h := (low_zero (a := 0) bb).mpr rfl
  obtain ⟨g, g0, e1, e2, c, p⟩ := low_parts 0 (b * b) bb
  rw [h] at c
  have q : (low 0 (b * b)).2 = 1 := by
    rw [Int.gcd_zero_left] at c; omega
  exact Prod.ext h q
theorem zero_one {x : Fr} (h : x.1 = 0) (g : Int.gcd x.1 x.2 = 1) (p : 0 < x.2) : x = (0, 1) := by
  rw [h, Int.gcd_zero_left] at g
  exact Prod.ext h (by show x.2 = 1; omega)
def lessF (y x : Fr) : Bool := decide (y.1 * x.2 < x.1 * y.2)
/-- the nearer way round -/
def backP (g : Fr) : Fr := low ((1 * g.2 - g.1 * 1).fmod (1 * g.2)) (1 * g.2)
def backL (g : Fr) : Fr := low (1 * g.2 - g.1 * 1) (1 * g.2)
def nearP (g : Fr) : Fr := if lessF (backP g) g = true then backP g else g
def nearL (g : Fr) : Fr := if lessF g (backL g) = true then g else backL g
structure Rd (g : Fr) : Prop where
  p : 0 < g.2
  g0 : 0 ≤ g.1
  g1 : g.1 < g.2
  c : Int.gcd g.1 g.2 = 1
theorem backL_eq {g : Fr} (r : Rd g) : backL g = (g.2 - g.1, g.2) := by
  unfold backL
  rw [Int.one_mul, Int.mul_one]
  refine low_cop ?_
  have e : g.2 - g.1 = -g.1 + g.2 * 1 := by omega
  rw [Int.gcd_comm, e, Int.gcd_add_mul_left_right, Int.gcd_neg, Int.gcd_comm]
  exact r.c
theorem backP_eq {g : Fr} (r : Rd g) : backP g = if g.1 = 0 then (0, 1) else (g.2 - g.1, g.2) := by
  split
  · rename_i h
    have e := zero_one h r.c r.p
    rw [e]; decide
  · rename_i h
    have := backL_eq r
    unfold backL at this
    unfold backP
    have g0 := r.g0
    have g1 := r.g1
    rw [fmod_pos _ _ (by omega), Int.emod_eq_of_lt (by omega) (by omega)]
    exact this
theorem near_same {g : Fr} (r : Rd g) : nearP g = nearL g := by
  unfold nearP nearL
  rw [backP_eq r, backL_eq r]
  by_cases h : g.1 = 0
  · have e := zero_one h r.c r.p
    rw [e]; decide
  · rw [if_neg h]
    obtain ⟨p, g0, g1, c⟩ := r
    obtain ⟨x, y⟩ := g
    unfold lessF
    show (if decide ((y - x) * y < x * y) = true then ((y - x, y) : Fr) else (x, y)) = if decide (x * y < (y - x) * y) = true then (x, y) else (y - x, y)
    have k : ∀ a b : Int, (a * y < b * y) ↔ a < b := fun a b => ⟨fun h => Int.lt_of_mul_lt_mul_right h (show 0 ≤ y by exact Int.le_of_lt p), fun h => Int.mul_lt_mul_of_pos_right h p⟩
    simp only [k, decide_eq_true_eq]
    by_cases h1 : y - x < x
    · rw [if_pos h1, if_neg (by omega)]
    · rw [if_neg h1]
      by_cases h2 : x < y - x
      · rw [if_pos h2]
      · rw [if_neg h2]
        have : x = y - x := by omega
        rw [← this]
theorem near_pos {g : Fr} (r : Rd g) : (nearL g).1 = 0 ↔ g.1 = 0 := by
  unfold nearL
  rw [backL_eq r]
  obtain ⟨p, g0, g1, c⟩ := r
  split
  · exact Iff.rfl
  · rename_i h
    unfold lessF at h
    show g.2 - g.1 = 0 ↔ _
    constructor
    · omega
    · intro e
      exfalso; apply h
      rw [e]
      have := Int.mul_pos p p
      refine decide_eq_true ?_
      show 0 * g.2 < (g.2 - 0) * g.2
      rw [Int.zero_mul, Int.sub_zero]; exact this
theorem near_rd {g : Fr} (r : Rd g) : 0 ≤ (nearL g).1 ∧ (nearL g).1 ≤ g.2 ∧ (nearL g).2 = g.2 := by
  unfold nearL
  rw [backL_eq r]
  obtain ⟨p, g0, g1, c⟩ := r
  split
  · exact ⟨g0, by omega, rfl⟩
  · exact ⟨by show 0 ≤ g.2 - g.1; omega, by show g.2 - g.1 ≤ _; omega, rfl⟩
/-! ### the best of all -/
abbrev Bt := Option (Fr × Fr)
def stepF (nr tm : Int → Fr) (s : Bt) (k : Int) : Bt := match s with
  | none => some (nr k, tm k)
  | some (n, t) => if lessF (nr k) n = true then some (nr k, tm k) else some (n, t)
theorem fold_best (nr tm : Int → Fr) (k0 : Int) (h0 : (nr k0).1 = 0) (hp : ∀ k, 0 < (nr k).2) : ∀ (ks : List Int) (s : Bt), (∀ k ∈ ks, 0 ≤ (nr k).1 ∧ (k ≠ k0 → 0 < (nr k).1)) →
    ((∃ n, s = some (n, tm k0) ∧ n.1 = 0 ∧ 0 < n.2) ∨ (k0 ∈ ks ∧ (s = none ∨ ∃ n t, s = some (n, t) ∧ 0 < n.1 ∧ 0 < n.2))) → ∃ n, ks.foldl (stepF nr tm) s = some (n, tm k0)
  | [], s, _, h => by
    rcases h with ⟨n, e, _⟩ | ⟨h, _⟩
    · exact ⟨n, e⟩
    · cases h
  | k :: ks, s, hk, h => by
    rw [List.foldl_cons]
    have hk1 := hk k List.mem_cons_self
    have hk2 : ∀ k ∈ ks, 0 ≤ (nr k).1 ∧ (k ≠ k0 → 0 < (nr k).1) := fun k m => hk k (List.mem_cons_of_mem _ m)
    refine fold_best nr tm k0 h0 hp ks _ hk2 ?_
    rcases h with ⟨n, rfl, n0, n1⟩ | ⟨m, h⟩
    · refine .inl ⟨n, ?_, n0, n1⟩
      show (if lessF (nr k) n = true then _ else _) = _
      rw [if_neg]
      unfold lessF
      rw [decide_eq_true_eq, n0, Int.zero_mul]
      have := Int.mul_nonneg hk1.1 (show 0 ≤ n.2 by omega)
      omega
    · by_cases e : k = k0
      · subst e
        refine .inl ⟨nr k, ?_, h0, hp k⟩
        rcases h with rfl | ⟨n, t, rfl, n0, n1⟩
        · rfl
        · show (if lessF (nr k) n = true then _ else _) = _
          rw [if_pos]
          unfold lessF
          rw [decide_eq_true_eq, h0, Int.zero_mul]
          exact Int.mul_pos n0 (hp k)
      · refine .inr ⟨?_, .inr ?_⟩
        · rcases List.mem_cons.mp m with q | q
          · exact absurd q.symm e
          · exact q
        · rcases h with rfl | ⟨n, t, rfl, n0, n1⟩
          · exact ⟨_, _, rfl, hk1.2 e, hp k⟩
          · show ∃ n' t', (if lessF (nr k) n = true then _ else _) = _ ∧ _
            split
            · exact ⟨_, _, rfl, hk1.2 e, hp k⟩
            · exact ⟨_, _, rfl, n0, n1⟩
end K11

namespace K11
open PySem DL
local macro_rules | `(tactic| simp_arith [$xs,*]) => `(tactic| simp (config := {maxSteps := 400000}) (disch := (first | assumption | omega | (simp only [List.length_append, List.length_cons, List.length_nil, List.length_map, List.length_take, List.length_drop, List.length_reverse, List.length_replicate]; omega) | decide | rfl | (simp only [noOwn, List.all_cons, List.all_nil, List.getElem?_cons_zero, List.getElem?_cons_succ, Bool.and_self]))) only [↓y_set, ↓y_new, ↓y_ret, ↓y_expr, ↓y_for, ↓y_retN, ↓y_next, ↓y_break, ↓y_cont, ↓y_raise, ↓y_seq, ↓y_sif, ↓y_if, ↓y_and, ↓y_or, ↓y_andV, ↓y_orV, ↓y_not, ↓y_notV, ↓y_T, ↓y_nil, ↓y_e, ↓y_b, ↓y_app, ↓y_var, ↓y_fC, ↓y_call, ↓y_callN, ↓y_callR, ↓y_append, ↓y_extend, ↓y_put, ↓y_aug, ↓y_parvv, ↓y_parvn, ↓y_parnv, ↓y_parnn, ↓y_par3, ↓y_par3n, p3A_o, p3B_o, p3C_o, ↓y_unp, ↓y_chain, ↓y_oNo, ↓y_oEx, ↓y_sl, ↓y_slV, ↓y_fseq, ↓y_rng1, ↓y_rng2, ↓y_en, ↓y_zip, ↓y_mt, ↓y_runP, ↓y_runR, ↓y_runN, ↓y_seqN, ↓y_lamE, ↓y_popAt, sget_z, sget_s, sput_z, sput_s, emps_z, emps_s, ent_z, ent_s, setS_x, setS_o, newS_x, newS_o, retS_x, retS_o, expS_x, expS_o, forS_x, forS_o, q_nx, q_rt, q_ex, q_bk, q_ct, ifS_t, ifS_f, ifS_x, ifS_dt, ifS_df, ifE_t, ifE_f, ifE_x, ifE_dt, ifE_df, andE_t, andE_f, andE_x, andE_dt, andE_df, orE_t, orE_f, orE_x, orE_dt, orE_df, anvE_t, anvE_f, anvE_x, anvE_dt, anvE_df, orvE_t, orvE_f, orvE_x, orvE_dt, orvE_df, notE_t, notE_f, notE_d, notE_x, ntvE_t, ntvE_f, ntvE_d, ntvE_x, tE_o, tE_x, cnsE_o, cnsE_x, argE_o, argE_x, rdB_v, rdB_w, brwE_o, brwE_x, brwS_v, brwS_w, ofE_o, ofL_o, appE_o, appE_x, varS_v, varS_w, bs_0, bs_e, bs_b, y_frz0, y_frz, y_frzo, y_frzv, y_frze, frzI_t, frzI_f, frzI_0, callG_o, callG_x, callE_o, callE_x, callNG_o, callNG_x, callNE_o, callNE_x, y_ls, callRH_o, callRH_x, callRG_o, callRE_o, callRE_x, callRS_o, appG_o, appS_o, appS_x, appT_o, extG_o, extS_o, extT_o, putH_o, putG_o, putK_o, putT_o, putS_o, putS_x, nxO_o, augF_o, augG_o, parS_o, parS_x, parG_vv, parG_vn, parG_nv, parG_nn, parG_x, par3S_o, unpG_o, unpS_o, unpS_x, y_tgN, y_tgT, tgR_o, y_tgC, y_tg0, chH_o, chG_t, chG_f, chG_dt, chG_df, chF_o, chE_o, exI_o, slH_o, slL_o, slE_o, svG_v, svG_w, svH_o, svL_o, svS_v, svS_w, seqE_o, rng1E_o, rng2E_o, enE_o, zipE_o, ↓y_zipM, zipME_o, z_zipMtl, z_zipMlt, z_zipMtt, z_zipMll, ↓y_cv, cvS_o, cvT_o, sbT_o, sbO_t, sbO_f, sbO_dt, sbO_df, mtH_o, mtE_o, y_finPn, y_finPr, y_finPx, y_finRn, y_finRr, y_finRx, y_lstG, y_lstX, y_finNo, y_finNx, sqN_o, sqN_x, hn_0, hn_z, hn_s, hn_n, y_hd, y_hdv, y_hde, outG_o, outG_x, lamH_o, lamF_o, lamG_o, lamS_o, z_addI, z_addT, z_addL, z_addLL, z_sub, z_cmp, z_lt, z_le, z_neg, z_int, z_aug, z_abs, z_max, z_min, z_div, z_mod, z_mulr, z_mull, z_tup, z_lst, z_lenL, z_lenT, z_lenF, z_tupL, z_tupT, z_listL, z_listT, z_eqI, z_neI, z_eqB, z_neB, z_eqSs, z_neSs, z_isi, z_isis, z_ixL, z_ixT, z_ixF, z_seqL, z_seqT, z_seqF, z_scI, z_flN, z_flB, z_flI, z_flS, z_flL, z_flT, z_fl0, z_flc, z_rng, List.map_cons, List.map_nil, List.length_cons, List.length_nil, List.cons_append, List.nil_append, Option.map_some, Option.isSome_some, isTy, isTys, Bool.and_true, Bool.true_and, Bool.and_false, Bool.false_and, Bool.not_true, Bool.not_false, decide_true, decide_false, not_true_eq_false, not_false_eq_true, Int.reduceToNat, Int.reduceAdd, Int.reduceSub, Int.reduceMul, Int.reduceNeg, Int.reduceLT, Int.reduceLE, Nat.zero_add, Nat.reduceAdd, tgO_o, stO_n, stO_c, tgC_o, oc_go, oc_gc, oc_br, oc_rt, oc_ex, tgF_o, feO_o, Int.toNat_natCast, z_rgL, z_rgT, z_augS, z_augMl, z_augMr, z_inT, z_inL, z_zipT, z_zipL, teO_o, lpT_o, lpB_n, lpB_c, lpB_b, lpB_r, lpB_x, popH_o, popG_o, popS_o, popT_o, frzI_n, z_flm, z_cutN, z_cutT, z_cutD, z_slL, z_slF, z_slT, z_eqT, z_neT, z_eqL, z_neL, z_mulf, z_at0, z_at1, z_at2, z_at3, z_at4, z_atl, z_ixN, z_pow6, z_pow18, z_pow30, z_pow36, z_revL, z_revT, z_revLL, List.set_cons_zero, List.set_cons_succ, List.getElem?_cons_zero, List.getElem?_cons_succ, $xs,*])
open K10
theorem mulb {x y X Y : Int} (x0 : 0 ≤ x) (x1 : x ≤ X) (y0 : 0 ≤ y) (y1 : y ≤ Y) : 0 ≤ x * y ∧ x * y ≤ X * Y :=
  ⟨Int.mul_nonneg x0 y0, Int.mul_le_mul x1 y1 y0 (by omega)⟩
theorem low_rng {x c M : Int} (h0 : 0 < c) (h1 : c < M) (x0 : 0 ≤ x) (x1 : x < 12 * c) : 0 < (low x c).2 ∧ (low x c).2 < M ∧ 0 ≤ (low x c).1 ∧ (low x c).1 < 12 * (low x c).2 ∧ Int.gcd (low x c).1 (low x c).2 = 1 := by
  obtain ⟨g, g0, e1, e2, c1, p⟩ := low_parts x c h0
  generalize low x c = y at *
  have q0 : 0 ≤ y.1 := by
    rcases Int.lt_or_le y.1 0 with q | q
    · have := Int.mul_neg_of_pos_of_neg g0 q; omega
    · exact q
  have q1 : y.1 < 12 * y.2 := by
    rcases Int.lt_or_le y.1 (12 * y.2) with q | q
    · exact q
    · have := Int.mul_le_mul_of_nonneg_left q (show 0 ≤ g by omega)
      have e : g * (12 * y.2) = 12 * (g * y.2) := by grind
      omega
  have q2 : 1 * y.2 ≤ g * y.2 := Int.mul_le_mul_of_nonneg_right (by omega) (by omega)
  exact ⟨p, by omega, q0, q1, c1⟩
/-- a time with a wide bottom -/
structure Tw (x y : Int) : Prop where
  b0 : 0 < y
  b1 : y < 200000
  t0 : 0 ≤ x
  t1 : x < 12 * y
  g : Int.gcd x y = 1
theorem Tw.sm {x y : Int} (p : Tw x y) : Sm x y := by
  obtain ⟨h1, h2, h3, h4, _⟩ := p
  exact ⟨h1, by omega, by omega, by omega⟩
theorem t12 {a b : Int} (p : Pl a b) : Tw (low (12 * a) b).1 (low (12 * a) b).2 := by
  obtain ⟨h1, h2, h3, h4, _⟩ := p
  obtain ⟨r1, r2, r3, r4, r5⟩ := low_rng (M := 200000) h1 h2 (show 0 ≤ 12 * a by omega) (by omega)
  exact ⟨r1, r2, r3, r4, r5⟩
theorem Tm.tw {t b : Int} (h : Tm t b) : Tw t b := ⟨h.b0, by have := h.b1; omega, h.t0, h.t1, h.g⟩
theorem Pl.tw {t b : Int} (h : Pl t b) : Tw t b := ⟨h.b0, h.b1, h.t0, by have := h.t1; have := h.b0; omega, h.g⟩
section
variable {x y u v a b : Int}
theorem sm_off (t : Tw x y) (p : Pl u v) : Sm (x * v - u * y) (y * v) := by
  obtain ⟨h1, h2, h3, h4, _⟩ := t
  obtain ⟨k1, k2, k3, k4, _⟩ := p
  have m1 := mulb (x := y) (X := 200000) (y := v) (Y := 200000) (by omega) (by omega) (by omega) (by omega)
  have m2 := mulb (x := x) (X := 2400000) (y := v) (Y := 200000) (by omega) (by omega) (by omega) (by omega)
  have m3 := mulb (x := u) (X := 200000) (y := y) (Y := 200000) (by omega) (by omega) (by omega) (by omega)
  exact ⟨Int.mul_pos h1 k1, by omega, by omega, by omega⟩
theorem off_rd (t : Tw x y) (p : Pl u v) : Rd (offF x y u v) ∧ (offF x y u v).2 < 1000000000000 := by
  have s := sm_off t p
  obtain ⟨g, g0, e1, e2, c, q⟩ := low_parts ((x * v - u * y).fmod (y * v)) (y * v) s.b0
  have m0 := Int.fmod_nonneg_of_pos (x * v - u * y) s.b0
  have m1 := Int.fmod_lt_of_pos (x * v - u * y) s.b0
  have e : low ((x * v - u * y).fmod (y * v)) (y * v) = offF x y u v := rfl
  rw [e] at e1 e2 c q
  have b1 := s.b1
  generalize offF x y u v = z at *
  have q2 : 1 * z.2 ≤ g * z.2 := Int.mul_le_mul_of_nonneg_right (by omega) (by omega)
  refine ⟨⟨q, ?_, ?_, c⟩, by omega⟩
  · rcases Int.lt_or_le z.1 0 with h | h
    · have := Int.mul_neg_of_pos_of_neg g0 h; omega
    · exact h
  · rcases Int.lt_or_le z.1 z.2 with h | h
    · exact h
    · have := Int.mul_le_mul_of_nonneg_left h (show 0 ≤ g by omega)
      omega
/-- round of a less b, in the program and in the law -/
theorem P_gapR (t : Tw x y) (p : Pl u v) : ∃ z, F_minus [fr (x, y), fr (u, v)] = .ok z ∧ F_round_place [z] = .ok (fr (offF x y u v)) :=
  ⟨_, P_minus t.sm p.sm, P_roundL (sm_off t p)⟩
theorem L_gapR (t : Tw x y) (p : Pl u v) : ∃ z, F__law_minus [fr (x, y), fr (u, v)] = .ok z ∧ F__law_rest [z] = .ok (fr (offF x y u v)) := by
  have s := sm_off t p
  refine ⟨_, L_minus t.sm p.sm, ?_⟩
  unfold offF
  rw [low_fmod _ _ s.b0]
  exact L_rest (low_sm s).b0
theorem P_t12 (p : Pl a b) : F_times [fr (a, b), .tup [.int 12, .int 1]] = .ok (fr (low (12 * a) b)) := by
  have := P_times p.sm (c := 12) (d := 1) ⟨by decide, by decide, by decide, by decide⟩
  rw [Int.mul_one, Int.mul_comm a 12] at this
  exact this
theorem L_t12 (p : Pl a b) : F__law_times [.tup [.int 12, .int 1], fr (a, b)] = .ok (fr (low (12 * a) b)) := by
  have := L_times (a := 12) (b := 1) ⟨by decide, by decide, by decide, by decide⟩ p.sm
  rw [Int.one_mul] at this
  exact this
theorem P_off (p : Pl a b) (q : Pl u v) : F_off_by [fr (a, b), fr (u, v)] = .ok (fr (offF (low (12 * a) b).1 (low (12 * a) b).2 u v)) := by
  have e1 := P_t12 p
  obtain ⟨z, e2, e3⟩ := P_gapR (t12 p) q
  have e2' : F_minus [fr (low (12 * a) b), fr (u, v)] = .ok z := e2
  unfold F_off_by b_off_by
  simp_arith [e1, e2', e3]
/-- what is told of both hands -/
def offH (a b u v : Int) : Fr := offF (low (12 * a) b).1 (low (12 * a) b).2 u v
def wordF (a b u v : Int) : Str := if (offH a b u v).1 = 0 then "time" else "off"
def bodyF (a b u v : Int) : Fr := if (offH a b u v).1 = 0 then low (12 * a) b else offH a b u v
theorem P_told (p : Pl a b) (q : Pl u v) : F_hour_told [fr (a, b), fr (u, v)] = .ok (.tup [.str (wordF a b u v), fr (bodyF a b u v)]) := by
  have e1 := check_place_ok p
  have e2 := check_place_ok q
  have e3 := P_off p q
  have e4 := P_t12 p
  have i0 := fr_i0 (offF (low (12 * a) b).1 (low (12 * a) b).2 u v)
  unfold F_hour_told b_hour_told wordF bodyF offH
  by_cases h : (offF (low (12 * a) b).1 (low (12 * a) b).2 u v).1 = 0
  · rw [if_pos h, if_pos h]
    rw [h] at i0
    simp_arith [e1, e2, e3, e4, i0]
  · rw [if_neg h, if_neg h]
    simp_arith [e1, e2, e3, e4, i0]
theorem L_told (p : Pl a b) (q : Pl u v) : F__law_told [fr (a, b), fr (u, v)] = .ok (.tup [.str (wordF a b u v), fr (bodyF a b u v)]) := by
  have e4 := L_t12 p
  obtain ⟨z, e2, e3⟩ := L_gapR (t12 p) q
  have e2' : F__law_minus [fr (low (12 * a) b), fr (u, v)] = .ok z := e2
  obtain ⟨r, _⟩ := off_rd (t12 p) q
  have en : eqD false [fr (offF (low (12 * a) b).1 (low (12 * a) b).2 u v), .tup [.int 0, .int 1]] = some (.bl (decide ((offF (low (12 * a) b).1 (low (12 * a) b).2 u v).1 = 0))) := by
    have := enc_eqD enc_fr (by decide) false (offF (low (12 * a) b).1 (low (12 * a) b).2 u v) (0, 1)
    refine this.trans (congrArg (fun b => some (D.bl b)) ?_)
    simp only [Bool.false_eq_true, if_false]
    exact decide_eq_decide.mpr ⟨fun h => by rw [h], fun h => zero_one h r.c r.p⟩
  unfold F__law_told b__law_told wordF bodyF offH
  by_cases h : (offF (low (12 * a) b).1 (low (12 * a) b).2 u v).1 = 0
  · rw [if_pos h, if_pos h]
    rw [decide_eq_true h] at en
    simp_arith [e4, e2', e3, en]
  · rw [if_neg h, if_neg h]
    rw [decide_eq_false h] at en
    simp_arith [e4, e2', e3, en]
end
end K11

namespace K11
open PySem DL
local macro_rules | `(tactic| simp_arith [$xs,*]) => `(tactic| simp (config := {maxSteps := 400000}) (disch := (first | assumption | omega | (simp only [List.length_append, List.length_cons, List.length_nil, List.length_map, List.length_take, List.length_drop, List.length_reverse, List.length_replicate]; omega) | decide | rfl | (simp only [noOwn, List.all_cons, List.all_nil, List.getElem?_cons_zero, List.getElem?_cons_succ, Bool.and_self]))) only [↓y_set, ↓y_new, ↓y_ret, ↓y_expr, ↓y_for, ↓y_retN, ↓y_next, ↓y_break, ↓y_cont, ↓y_raise, ↓y_seq, ↓y_sif, ↓y_if, ↓y_and, ↓y_or, ↓y_andV, ↓y_orV, ↓y_not, ↓y_notV, ↓y_T, ↓y_nil, ↓y_e, ↓y_b, ↓y_app, ↓y_var, ↓y_fC, ↓y_call, ↓y_callN, ↓y_callR, ↓y_append, ↓y_extend, ↓y_put, ↓y_aug, ↓y_parvv, ↓y_parvn, ↓y_parnv, ↓y_parnn, ↓y_par3, ↓y_par3n, p3A_o, p3B_o, p3C_o, ↓y_unp, ↓y_chain, ↓y_oNo, ↓y_oEx, ↓y_sl, ↓y_slV, ↓y_fseq, ↓y_rng1, ↓y_rng2, ↓y_en, ↓y_zip, ↓y_mt, ↓y_runP, ↓y_runR, ↓y_runN, ↓y_seqN, ↓y_lamE, ↓y_popAt, sget_z, sget_s, sput_z, sput_s, emps_z, emps_s, ent_z, ent_s, setS_x, setS_o, newS_x, newS_o, retS_x, retS_o, expS_x, expS_o, forS_x, forS_o, q_nx, q_rt, q_ex, q_bk, q_ct, ifS_t, ifS_f, ifS_x, ifS_dt, ifS_df, ifE_t, ifE_f, ifE_x, ifE_dt, ifE_df, andE_t, andE_f, andE_x, andE_dt, andE_df, orE_t, orE_f, orE_x, orE_dt, orE_df, anvE_t, anvE_f, anvE_x, anvE_dt, anvE_df, orvE_t, orvE_f, orvE_x, orvE_dt, orvE_df, notE_t, notE_f, notE_d, notE_x, ntvE_t, ntvE_f, ntvE_d, ntvE_x, tE_o, tE_x, cnsE_o, cnsE_x, argE_o, argE_x, rdB_v, rdB_w, brwE_o, brwE_x, brwS_v, brwS_w, ofE_o, ofL_o, appE_o, appE_x, varS_v, varS_w, bs_0, bs_e, bs_b, y_frz0, y_frz, y_frzo, y_frzv, y_frze, frzI_t, frzI_f, frzI_0, callG_o, callG_x, callE_o, callE_x, callNG_o, callNG_x, callNE_o, callNE_x, y_ls, callRH_o, callRH_x, callRG_o, callRE_o, callRE_x, callRS_o, appG_o, appS_o, appS_x, appT_o, extG_o, extS_o, extT_o, putH_o, putG_o, putK_o, putT_o, putS_o, putS_x, nxO_o, augF_o, augG_o, parS_o, parS_x, parG_vv, parG_vn, parG_nv, parG_nn, parG_x, par3S_o, unpG_o, unpS_o, unpS_x, y_tgN, y_tgT, tgR_o, y_tgC, y_tg0, chH_o, chG_t, chG_f, chG_dt, chG_df, chF_o, chE_o, exI_o, slH_o, slL_o, slE_o, svG_v, svG_w, svH_o, svL_o, svS_v, svS_w, seqE_o, rng1E_o, rng2E_o, enE_o, zipE_o, ↓y_zipM, zipME_o, z_zipMtl, z_zipMlt, z_zipMtt, z_zipMll, ↓y_cv, cvS_o, cvT_o, sbT_o, sbO_t, sbO_f, sbO_dt, sbO_df, mtH_o, mtE_o, y_finPn, y_finPr, y_finPx, y_finRn, y_finRr, y_finRx, y_lstG, y_lstX, y_finNo, y_finNx, sqN_o, sqN_x, hn_0, hn_z, hn_s, hn_n, y_hd, y_hdv, y_hde, outG_o, outG_x, lamH_o, lamF_o, lamG_o, lamS_o, z_addI, z_addT, z_addL, z_addLL, z_sub, z_cmp, z_lt, z_le, z_neg, z_int, z_aug, z_abs, z_max, z_min, z_div, z_mod, z_mulr, z_mull, z_tup, z_lst, z_lenL, z_lenT, z_lenF, z_tupL, z_tupT, z_listL, z_listT, z_eqI, z_neI, z_eqB, z_neB, z_eqSs, z_neSs, z_isi, z_isis, z_ixL, z_ixT, z_ixF, z_seqL, z_seqT, z_seqF, z_scI, z_flN, z_flB, z_flI, z_flS, z_flL, z_flT, z_fl0, z_flc, z_rng, List.map_cons, List.map_nil, List.length_cons, List.length_nil, List.cons_append, List.nil_append, Option.map_some, Option.isSome_some, isTy, isTys, Bool.and_true, Bool.true_and, Bool.and_false, Bool.false_and, Bool.not_true, Bool.not_false, decide_true, decide_false, not_true_eq_false, not_false_eq_true, Int.reduceToNat, Int.reduceAdd, Int.reduceSub, Int.reduceMul, Int.reduceNeg, Int.reduceLT, Int.reduceLE, Nat.zero_add, Nat.reduceAdd, tgO_o, stO_n, stO_c, tgC_o, oc_go, oc_gc, oc_br, oc_rt, oc_ex, tgF_o, feO_o, Int.toNat_natCast, z_rgL, z_rgT, z_augS, z_augMl, z_augMr, z_inT, z_inL, z_zipT, z_zipL, teO_o, lpT_o, lpB_n, lpB_c, lpB_b, lpB_r, lpB_x, popH_o, popG_o, popS_o, popT_o, frzI_n, z_flm, z_cutN, z_cutT, z_cutD, z_slL, z_slF, z_slT, z_eqT, z_neT, z_eqL, z_neL, z_mulf, z_at0, z_at1, z_at2, z_at3, z_at4, z_atl, z_ixN, z_pow6, z_pow18, z_pow30, z_pow36, z_revL, z_revT, z_revLL, List.set_cons_zero, List.set_cons_succ, List.getElem?_cons_zero, List.getElem?_cons_succ, $xs,*])
open K10
def minF (t b : Int) : Fr := low (t.fmod b) b
def hourF (t b : Int) : Fr := low t (12 * b)
def exchF (t b : Int) : Option Fr := if (offH (minF t b).1 (minF t b).2 (hourF t b).1 (hourF t b).2).1 = 0 then some (low (12 * (minF t b).1) (minF t b).2) else none
def encO : Option Fr → D
  | none => .non
  | some x => fr x
section
variable {t b : Int}
theorem min_pl (h : Tm t b) : Pl (minF t b).1 (minF t b).2 ∧ (minF t b).2 < 16000 := by
  obtain ⟨h1, h2, h3, h4, _⟩ := h
  have := low_pl (x := t.fmod b) (c := b) (M := 16000) (by decide) h1 h2 (Int.fmod_nonneg_of_pos _ h1) (Int.fmod_lt_of_pos _ h1)
  exact this
theorem min_eq (h : Tm t b) : minF t b = (t.fmod b, b) := low_cop (gcd_fmod h.b0 h.g)
theorem hour_pl (h : Tm t b) : Pl (hourF t b).1 (hourF t b).2 := by
  obtain ⟨h1, h2, h3, h4, _⟩ := h
  exact (low_pl (x := t) (c := 12 * b) (M := 200000) (by decide) (by omega) (by omega) h3 h4).1
theorem P_exch (h : Tm t b) : F_exchanged [fr (t, b)] = .ok (encO (exchF t b)) := by
  have e0 := check_time_ok h
  have e1 : F_hand_place [.int 0, fr (t, b)] = .ok (fr (hourF t b)) := P_h0 h
  have e2 : F_hand_place [.int 1, fr (t, b)] = .ok (fr (minF t b)) := P_h1 h
  have e3 : F_off_by [fr (minF t b), fr (hourF t b)] = .ok (fr (offH (minF t b).1 (minF t b).2 (hourF t b).1 (hourF t b).2)) := P_off (min_pl h).1 (hour_pl h)
  have e4 : F_times [fr (minF t b), .tup [.int 12, .int 1]] = .ok (fr (low (12 * (minF t b).1) (minF t b).2)) := P_t12 (min_pl h).1
  have i0 := fr_i0 (offH (minF t b).1 (minF t b).2 (hourF t b).1 (hourF t b).2)
  unfold F_exchanged b_exchanged exchF
  by_cases q : (offH (minF t b).1 (minF t b).2 (hourF t b).1 (hourF t b).2).1 = 0
  · rw [if_pos q]
    rw [q] at i0
    simp_arith [e0, e1, e2, e3, e4, i0, encO]
  · rw [if_neg q]
    simp_arith [e0, e1, e2, e3, e4, i0, encO]
theorem exch_iff (h : Tm t b) : (offH (minF t b).1 (minF t b).2 (hourF t b).1 (hourF t b).2).1 = 0 ↔ ((low (12 * (minF t b).1) (minF t b).2).1.fmod (low (12 * (minF t b).1) (minF t b).2).2, (low (12 * (minF t b).1) (minF t b).2).2) = hourF t b := by
  have p := t12 (min_pl h).1
  have q := hour_pl h
  exact off_zero p.b0 q.b0 p.g q.g q.t0 q.t1
theorem L_exch (h : Tm t b) : F__law_exchanged [fr (t, b)] = .ok (encO (exchF t b)) := by
  have i0 := fr_i0 (t, b)
  have i1 := fr_i1 (t, b)
  have q := h
  obtain ⟨h1, h2, h3, h4, h5⟩ := h
  have e1 : F__law_cut [.int (t.fmod b), .int b] = .ok (fr (minF t b)) := L_cut _ _ h1 (p2_of h1 (by omega))
  have e2 : F__law_times [.tup [.int 12, .int 1], fr (minF t b)] = .ok (fr (low (12 * (minF t b).1) (minF t b).2)) := L_t12 (min_pl q).1
  have p := t12 (min_pl q).1
  have x := exch_iff q
  unfold exchF
  generalize hy : low (12 * (minF t b).1) (minF t b).2 = y at *
  have e3 := L_cut (y.1.fmod y.2) y.2 p.b0 (p2_of p.b0 (by have := p.b1; omega))
  rw [low_cop (gcd_fmod p.b0 p.g)] at e3
  have e4 : F__law_cut [.int t, .int (12 * b)] = .ok (fr (hourF t b)) := L_cut _ _ (by omega) (p2_of (by omega) (by omega))
  have y0 := fr_i0 y
  have y1 := fr_i1 y
  have yp := p.b0
  have en : eqD false [fr (y.1.fmod y.2, y.2), fr (hourF t b)] = some (.bl (decide ((offH (minF t b).1 (minF t b).2 (hourF t b).1 (hourF t b).2).1 = 0))) := by
    have := enc_eqD enc_fr (by decide) false (y.1.fmod y.2, y.2) (hourF t b)
    refine this.trans (congrArg (fun b => some (D.bl b)) ?_)
    simp only [Bool.false_eq_true, if_false]
    exact decide_eq_decide.mpr x.symm
  unfold F__law_exchanged b__law_exchanged
  by_cases c : (offH (minF t b).1 (minF t b).2 (hourF t b).1 (hourF t b).2).1 = 0
  · rw [if_pos c]
    rw [decide_eq_true c] at en
    simp_arith [i0, i1, e1, e2, e3, e4, y0, y1, en, z_mull, encO]
  · rw [if_neg c]
    rw [decide_eq_false c] at en
    simp_arith [i0, i1, e1, e2, e3, e4, y0, y1, en, z_mull, encO]
/-- to exchange twice leads back -/
theorem exch_back (h : Tm t b) {o : Fr} (e : exchF t b = some o) : Tm o.1 o.2 ∧ exchF o.1 o.2 = some (t, b) := by
  have x := exch_iff h
  unfold exchF at e
  split at e
  · rename_i c
    have x := x.mp c
    have ho := Option.some.inj e
    have mp := (min_pl h).1
    have ml := (min_pl h).2
    have me := min_eq h
    have p := t12 mp
    obtain ⟨m1, m2, m3, m4, m5⟩ := mp
    obtain ⟨r1, r2, r3, r4, r5⟩ := low_rng (M := 16000) m1 ml (show 0 ≤ 12 * (minF t b).1 by omega) (by omega)
    have hx : (o.1.fmod o.2, o.2) = hourF t b := by rw [← ho]; exact x
    have ht : Tm o.1 o.2 := by rw [← ho]; exact ⟨r1, r2, r3, r4, r5⟩
    refine ⟨ht, ?_⟩
    have a1 : minF o.1 o.2 = hourF t b := by rw [min_eq ht]; exact hx
    have a2 : hourF o.1 o.2 = minF t b := by
      have c1 : low o.1 (12 * o.2) = low (minF t b).1 (minF t b).2 := by
        obtain ⟨g, g0, e1, e2, _, _⟩ := low_parts (12 * (minF t b).1) (minF t b).2 m1
        rw [ho] at e1 e2
        refine low_cross (by have := ht.b0; omega) m1 (Int.eq_of_mul_eq_mul_left (a := g) (by omega) ?_)
        have s1 : g * (o.1 * (minF t b).2) = (g * o.1) * (minF t b).2 := by grind
        have s2 : g * ((minF t b).1 * (12 * o.2)) = 12 * (minF t b).1 * (g * o.2) := by grind
        rw [s1, s2, ← e1, ← e2]
      show low o.1 (12 * o.2) = _
      rw [c1, low_cop m5]
    have a3 : low (12 * (hourF t b).1) (hourF t b).2 = (t, b) := by
      have hp := hour_pl h
      have c1 : low (12 * (hourF t b).1) (hourF t b).2 = low t b := by
        obtain ⟨g, g0, e1, e2, _, _⟩ := low_parts t (12 * b) (by have := h.b0; omega)
        have e1 : t = g * (hourF t b).1 := e1
        have e2 : 12 * b = g * (hourF t b).2 := e2
        refine low_cross hp.b0 h.b0 (Int.eq_of_mul_eq_mul_left (a := g) (by omega) ?_)
        have s1 : g * (12 * (hourF t b).1 * b) = 12 * (g * (hourF t b).1) * b := by grind
        have s2 : g * (t * (hourF t b).2) = t * (g * (hourF t b).2) := by grind
        rw [s1, s2, ← e1, ← e2]; grind
      rw [c1, low_cop h.g]
    have y := exch_iff ht
    have yes : (offH (minF o.1 o.2).1 (minF o.1 o.2).2 (hourF o.1 o.2).1 (hourF o.1 o.2).2).1 = 0 := y.mpr (by rw [a1, a2, a3, me])
    unfold exchF
    rw [if_pos yes, a1, a3]
  · cases e
end
end K11

namespace K11
open PySem DL
local macro_rules | `(tactic| simp_arith [$xs,*]) => `(tactic| simp (config := {maxSteps := 400000}) (disch := (first | assumption | omega | (simp only [List.length_append, List.length_cons, List.length_nil, List.length_map, List.length_take, List.length_drop, List.length_reverse, List.length_replicate]; omega) | decide | rfl | (simp only [noOwn, List.all_cons, List.all_nil, List.getElem?_cons_zero, List.getElem?_cons_succ, Bool.and_self]))) only [↓y_set, ↓y_new, ↓y_ret, ↓y_expr, ↓y_for, ↓y_retN, ↓y_next, ↓y_break, ↓y_cont, ↓y_raise, ↓y_seq, ↓y_sif, ↓y_if, ↓y_and, ↓y_or, ↓y_andV, ↓y_orV, ↓y_not, ↓y_notV, ↓y_T, ↓y_nil, ↓y_e, ↓y_b, ↓y_app, ↓y_var, ↓y_fC, ↓y_call, ↓y_callN, ↓y_callR, ↓y_append, ↓y_extend, ↓y_put, ↓y_aug, ↓y_parvv, ↓y_parvn, ↓y_parnv, ↓y_parnn, ↓y_par3, ↓y_par3n, p3A_o, p3B_o, p3C_o, ↓y_unp, ↓y_chain, ↓y_oNo, ↓y_oEx, ↓y_sl, ↓y_slV, ↓y_fseq, ↓y_rng1, ↓y_rng2, ↓y_en, ↓y_zip, ↓y_mt, ↓y_runP, ↓y_runR, ↓y_runN, ↓y_seqN, ↓y_lamE, ↓y_popAt, sget_z, sget_s, sput_z, sput_s, emps_z, emps_s, ent_z, ent_s, setS_x, setS_o, newS_x, newS_o, retS_x, retS_o, expS_x, expS_o, forS_x, forS_o, q_nx, q_rt, q_ex, q_bk, q_ct, ifS_t, ifS_f, ifS_x, ifS_dt, ifS_df, ifE_t, ifE_f, ifE_x, ifE_dt, ifE_df, andE_t, andE_f, andE_x, andE_dt, andE_df, orE_t, orE_f, orE_x, orE_dt, orE_df, anvE_t, anvE_f, anvE_x, anvE_dt, anvE_df, orvE_t, orvE_f, orvE_x, orvE_dt, orvE_df, notE_t, notE_f, notE_d, notE_x, ntvE_t, ntvE_f, ntvE_d, ntvE_x, tE_o, tE_x, cnsE_o, cnsE_x, argE_o, argE_x, rdB_v, rdB_w, brwE_o, brwE_x, brwS_v, brwS_w, ofE_o, ofL_o, appE_o, appE_x, varS_v, varS_w, bs_0, bs_e, bs_b, y_frz0, y_frz, y_frzo, y_frzv, y_frze, frzI_t, frzI_f, frzI_0, callG_o, callG_x, callE_o, callE_x, callNG_o, callNG_x, callNE_o, callNE_x, y_ls, callRH_o, callRH_x, callRG_o, callRE_o, callRE_x, callRS_o, appG_o, appS_o, appS_x, appT_o, extG_o, extS_o, extT_o, putH_o, putG_o, putK_o, putT_o, putS_o, putS_x, nxO_o, augF_o, augG_o, parS_o, parS_x, parG_vv, parG_vn, parG_nv, parG_nn, parG_x, par3S_o, unpG_o, unpS_o, unpS_x, y_tgN, y_tgT, tgR_o, y_tgC, y_tg0, chH_o, chG_t, chG_f, chG_dt, chG_df, chF_o, chE_o, exI_o, slH_o, slL_o, slE_o, svG_v, svG_w, svH_o, svL_o, svS_v, svS_w, seqE_o, rng1E_o, rng2E_o, enE_o, zipE_o, ↓y_zipM, zipME_o, z_zipMtl, z_zipMlt, z_zipMtt, z_zipMll, ↓y_cv, cvS_o, cvT_o, sbT_o, sbO_t, sbO_f, sbO_dt, sbO_df, mtH_o, mtE_o, y_finPn, y_finPr, y_finPx, y_finRn, y_finRr, y_finRx, y_lstG, y_lstX, y_finNo, y_finNx, sqN_o, sqN_x, hn_0, hn_z, hn_s, hn_n, y_hd, y_hdv, y_hde, outG_o, outG_x, lamH_o, lamF_o, lamG_o, lamS_o, z_addI, z_addT, z_addL, z_addLL, z_sub, z_cmp, z_lt, z_le, z_neg, z_int, z_aug, z_abs, z_max, z_min, z_div, z_mod, z_mulr, z_mull, z_tup, z_lst, z_lenL, z_lenT, z_lenF, z_tupL, z_tupT, z_listL, z_listT, z_eqI, z_neI, z_eqB, z_neB, z_eqSs, z_neSs, z_isi, z_isis, z_ixL, z_ixT, z_ixF, z_seqL, z_seqT, z_seqF, z_scI, z_flN, z_flB, z_flI, z_flS, z_flL, z_flT, z_fl0, z_flc, z_rng, List.map_cons, List.map_nil, List.length_cons, List.length_nil, List.cons_append, List.nil_append, Option.map_some, Option.isSome_some, isTy, isTys, Bool.and_true, Bool.true_and, Bool.and_false, Bool.false_and, Bool.not_true, Bool.not_false, decide_true, decide_false, not_true_eq_false, not_false_eq_true, Int.reduceToNat, Int.reduceAdd, Int.reduceSub, Int.reduceMul, Int.reduceNeg, Int.reduceLT, Int.reduceLE, Nat.zero_add, Nat.reduceAdd, tgO_o, stO_n, stO_c, tgC_o, oc_go, oc_gc, oc_br, oc_rt, oc_ex, tgF_o, feO_o, Int.toNat_natCast, z_rgL, z_rgT, z_augS, z_augMl, z_augMr, z_inT, z_inL, z_zipT, z_zipL, teO_o, lpT_o, lpB_n, lpB_c, lpB_b, lpB_r, lpB_x, popH_o, popG_o, popS_o, popT_o, frzI_n, z_flm, z_cutN, z_cutT, z_cutD, z_slL, z_slF, z_slT, z_eqT, z_neT, z_eqL, z_neL, z_mulf, z_at0, z_at1, z_at2, z_at3, z_at4, z_atl, z_ixN, z_pow6, z_pow18, z_pow30, z_pow36, z_revL, z_revT, z_revLL, List.set_cons_zero, List.set_cons_succ, List.getElem?_cons_zero, List.getElem?_cons_succ, $xs,*])
open K10
def encB : Bt → D
  | none => .non
  | some (n, t) => .tup [fr n, fr t]
def twelve : List Int := [0, 1, 2, 3, 4, 5, 6, 7, 8, 9, 10, 11]
theorem twelve_mem {k : Int} (h : k ∈ twelve) : 0 ≤ k ∧ k ≤ 11 := by
  simp only [twelve, List.mem_cons, List.not_mem_nil, or_false] at h
  omega
theorem mem_twelve {k : Int} (h : 0 ≤ k) (h2 : k ≤ 11) : k ∈ twelve := by
  simp only [twelve, List.mem_cons, List.not_mem_nil, or_false]
  omega
theorem rng12 : rngD 0 12 = twelve.map D.int := by rfl
def timeF (c d k : Int) : Fr := (k * d + c, d)
def gapK (a b c d k : Int) : Fr := offF (hourF (k * d + c) d).1 (hourF (k * d + c) d).2 a b
def nearF (a b c d k : Int) : Fr := nearL (gapK a b c d k)
def SmF (x : Fr) : Prop := Sm x.1 x.2
section
variable {a b c d k : Int}
theorem time_tm (p : Pl c d) (hd : d < 16000) (k0 : 0 ≤ k) (k1 : k ≤ 11) : Tm (k * d + c) d := by
  obtain ⟨h1, h2, h3, h4, h5⟩ := p
  have m := mulb (x := k) (X := 11) (y := d) (Y := d) k0 k1 (by omega) (Int.le_refl _)
  refine ⟨h1, hd, by omega, by omega, ?_⟩
  rw [Int.gcd_comm, Int.add_comm, Int.mul_comm k, Int.gcd_add_mul_left_right, Int.gcd_comm]; exact h5
theorem gap_rd (q : Pl a b) (p : Pl c d) (hd : d < 16000) (k0 : 0 ≤ k) (k1 : k ≤ 11) : Rd (gapK a b c d k) ∧ (gapK a b c d k).2 < 1000000000000 := off_rd (hour_pl (time_tm p hd k0 k1)).tw q
theorem P_time (p : Pl c d) (hd : d < 16000) (k0 : 0 ≤ k) (k1 : k ≤ 11) : F_plus [.tup [.int k, .int 1], fr (c, d)] = .ok (fr (timeF c d k)) := by
  have := P_plus (a := k) (b := 1) ⟨by omega, by omega, by omega, by omega⟩ p.sm
  rw [Int.one_mul, Int.mul_one, low_cop (time_tm p hd k0 k1).g] at this
  exact this
theorem L_time (p : Pl c d) (hd : d < 16000) (k0 : 0 ≤ k) (k1 : k ≤ 11) : F__law_plus [.tup [.int k, .int 1], fr (c, d)] = .ok (fr (timeF c d k)) := by
  have := L_plus (a := k) (b := 1) ⟨by omega, by omega, by omega, by omega⟩ p.sm
  rw [Int.one_mul, Int.mul_one, low_cop (time_tm p hd k0 k1).g] at this
  exact this
theorem rd_sm {g : Fr} (r : Rd g) (h : g.2 < 1000000000000) : Sm g.1 g.2 := ⟨r.p, h, by have := r.g0; omega, by have := r.g1; omega⟩
theorem near_sm {g : Fr} (r : Rd g) (h : g.2 < 1000000000000) : SmF (nearL g) := by
  obtain ⟨n1, n2, n3⟩ := near_rd r
  have := r.p
  by_cases q : (nearL g).1 < 1000000000000
  · exact ⟨by omega, by omega, by omega, q⟩
  · omega
theorem P_near1 {g : Fr} (r : Rd g) (h : g.2 < 1000000000000) : F_minus [.tup [.int 1, .int 1], fr g] = .ok (fr (backL g)) ∧ F_round_place [fr (backL g)] = .ok (fr (backP g)) ∧ F_is_less [fr (backP g), fr g] = .ok (.bl (lessF (backP g) g)) := by
  have s := rd_sm r h
  have r1 := r.g0
  have r2 := r.g1
  have s1 : Sm (1 * g.2 - g.1 * 1) (1 * g.2) := ⟨by have := s.b0; omega, by omega, by omega, by omega⟩
  have s2 : Sm ((1 * g.2 - g.1 * 1).fmod (1 * g.2)) (1 * g.2) := by
    have m0 := Int.fmod_nonneg_of_pos (1 * g.2 - g.1 * 1) s1.b0
    have m1 := Int.fmod_lt_of_pos (1 * g.2 - g.1 * 1) s1.b0
    exact ⟨s1.b0, s1.b1, by omega, by omega⟩
  exact ⟨P_minus (a := 1) (b := 1) ⟨by decide, by decide, by decide, by decide⟩ s, P_roundL s1, P_less (low_sm s2) s⟩
theorem L_far1 {g : Fr} (r : Rd g) (h : g.2 < 1000000000000) : F__law_minus [.tup [.int 1, .int 1], fr g] = .ok (fr (backL g)) ∧ F__law_less [fr g, fr (backL g)] = .ok (.bl (lessF g (backL g))) := by
  have s := rd_sm r h
  have r1 := r.g0
  have r2 := r.g1
  have s1 : Sm (1 * g.2 - g.1 * 1) (1 * g.2) := ⟨by have := s.b0; omega, by omega, by omega, by omega⟩
  exact ⟨L_minus (a := 1) (b := 1) ⟨by decide, by decide, by decide, by decide⟩ s, L_less s (low_sm s1)⟩
theorem L_far (q : Pl a b) (p : Pl c d) (hd : d < 16000) (k0 : 0 ≤ k) (k1 : k ≤ 11) : F__law_far [fr (hourF (k * d + c) d), fr (a, b)] = .ok (fr (nearF a b c d k)) := by
  obtain ⟨z, e1, e2⟩ := L_gapR (hour_pl (time_tm p hd k0 k1)).tw q
  have e1' : F__law_minus [fr (hourF (k * d + c) d), fr (a, b)] = .ok z := e1
  have e2' : F__law_rest [z] = .ok (fr (gapK a b c d k)) := e2
  obtain ⟨r, h⟩ := gap_rd q p hd k0 k1
  obtain ⟨e3, e4⟩ := L_far1 r h
  unfold F__law_far b__law_far nearF nearL
  cases c : lessF (gapK a b c d k) (backL (gapK a b c d k)) with
  | true => rw [c] at e4; simp_arith [e1', e2', e3, e4, if_true]
  | false => rw [c] at e4; simp_arith [e1', e2', e3, e4, Bool.false_eq_true, if_false]
theorem fold_some (nr tm : Int → Fr) : ∀ (ks : List Int) (n t : Fr), ∃ n' t', ks.foldl (stepF nr tm) (some (n, t)) = some (n', t')
  | [], n, t => ⟨n, t, rfl⟩
  | k :: ks, n, t => by
    rw [List.foldl_cons]
    show ∃ n' t', ks.foldl (stepF nr tm) (if lessF (nr k) n = true then _ else _) = _
    split
    · exact fold_some nr tm ks _ _
    · exact fold_some nr tm ks _ _
def bestF (a b c d : Int) : Bt := twelve.foldl (stepF (nearF a b c d) (timeF c d)) none
theorem best_some (a b c d : Int) : ∃ n t, bestF a b c d = some (n, t) := by
  unfold bestF twelve
  generalize nearF a b c d = nr
  generalize timeF c d = tm
  rw [List.foldl_cons, show stepF nr tm none 0 = some (nr 0, tm 0) from rfl]
  exact fold_some nr tm _ _ _
def bestT (a b c d : Int) : Fr := match bestF a b c d with
  | some (_, t) => t
  | none => (0, 1)
theorem isN_non : isNB false [.non, .non] = some (.bl true) := rfl
theorem isN_tup (xs : List D) : isNB false [.tup xs, .non] = some (.bl false) := rfl
theorem P_nearest (q : Pl a b) (p : Pl c d) (hd : d < 16000) : F_nearest_time [fr (a, b), fr (c, d)] = .ok (fr (bestT a b c d)) := by
  have e1 := check_place_ok q
  have e2 := check_place_ok p
  unfold F_nearest_time b_nearest_time
  simp_arith [e1, e2, rng12]
  generalize hL : fLoop _ _ _ _ = L
  obtain ⟨ρ', rfl, j3, j4, j5, j6, j7, rfl, _⟩ := gl_go hL (fun (s : Bt) ρ => ∃ j3 j4 j5 j6 j7, ρ = [.val (fr (a, b)), .val (fr (c, d)), .val (encB s), j3, j4, j5, j6, j7] ∧ ∀ n t, s = some (n, t) → SmF n) (stepF (nearF a b c d) (timeF c d)) none ⟨_, _, _, _, _, rfl, fun _ _ e => by cases e⟩ (by
    rintro s k ρ hk ⟨j3, j4, j5, j6, j7, rfl, hs⟩
    obtain ⟨k0, k1⟩ := twelve_mem hk
    have t1 := P_time p hd k0 k1
    have t2 : F_hand_place [.int 0, fr (timeF c d k)] = .ok (fr (hourF (k * d + c) d)) := P_h0 (time_tm p hd k0 k1)
    obtain ⟨z, t3, t4⟩ := P_gapR (hour_pl (time_tm p hd k0 k1)).tw q
    have t3' : F_minus [fr (hourF (k * d + c) d), fr (a, b)] = .ok z := t3
    have t4' : F_round_place [z] = .ok (fr (gapK a b c d k)) := t4
    obtain ⟨r, h⟩ := gap_rd q p hd k0 k1
    obtain ⟨t5, t6, t7⟩ := P_near1 r h
    have ns : SmF (nearF a b c d k) := near_sm r h
    have fin : ∀ (j3 j4 j5 j6 j7 : Slot), (∃ k3 k4 k5 k6 k7, [Slot.val (fr (a, b)), .val (fr (c, d)), .val (encB (some (nearF a b c d k, timeF c d k))), j3, j4, j5, j6, j7] = [.val (fr (a, b)), .val (fr (c, d)), .val (encB (some (nearF a b c d k, timeF c d k))), k3, k4, k5, k6, k7] ∧ ∀ n t, some (nearF a b c d k, timeF c d k) = some (n, t) → SmF n) := fun j3 j4 j5 j6 j7 => ⟨_, _, _, _, _, rfl, fun n t e => by cases e; exact ns⟩
    have nd : (if lessF (backP (gapK a b c d k)) (gapK a b c d k) = true then backP (gapK a b c d k) else gapK a b c d k) = nearF a b c d k := near_same r
    cases s with
    | none =>
      show tgO _ (fun ρ => ∃ j3 j4 j5 j6 j7, ρ = [.val (fr (a, b)), .val (fr (c, d)), .val (encB (some (nearF a b c d k, timeF c d k))), j3, j4, j5, j6, j7] ∧ ∀ n t, some (nearF a b c d k, timeF c d k) = some (n, t) → SmF n) _
      clear hL
      generalize nearF a b c d k = X at *
      cases l : lessF (backP (gapK a b c d k)) (gapK a b c d k) with
      | true =>
        rw [l] at t7 nd
        simp only [if_true] at nd
        subst nd
        simp_arith [t1, t2, t3', t4', t5, t6, t7, encB, isN_non]
        exact fin _ _ _ _ _
      | false =>
        rw [l] at t7 nd
        simp only [Bool.false_eq_true, if_false] at nd
        subst nd
        simp_arith [t1, t2, t3', t4', t5, t6, t7, encB, isN_non]
        exact fin _ _ _ _ _
    | some s =>
      obtain ⟨n, t⟩ := s
      have hn := hs n t rfl
      have t8 : F_is_less [fr (nearF a b c d k), fr n] = .ok (.bl (lessF (nearF a b c d k) n)) := P_less ns hn
      show tgO _ (fun ρ => ∃ j3 j4 j5 j6 j7, ρ = [.val (fr (a, b)), .val (fr (c, d)), .val (encB (if lessF (nearF a b c d k) n = true then some (nearF a b c d k, timeF c d k) else some (n, t))), j3, j4, j5, j6, j7] ∧ ∀ n' t', (if lessF (nearF a b c d k) n = true then some (nearF a b c d k, timeF c d k) else some (n, t)) = some (n', t') → SmF n') _
      have ok : ∀ n' t', (if lessF (nearF a b c d k) n = true then some (nearF a b c d k, timeF c d k) else some (n, t)) = some (n', t') → SmF n' := by
        intro n' t' e
        split at e
        · cases e; exact ns
        · cases e; exact hn
      clear hL
      generalize nearF a b c d k = X at *
      cases l : lessF (backP (gapK a b c d k)) (gapK a b c d k) with
      | true =>
        rw [l] at t7 nd
        simp only [if_true] at nd
        subst nd
        cases l2 : lessF (backP (gapK a b c d k)) n with
        | true =>
          rw [l2] at t8 ok
          simp_arith [t1, t2, t3', t4', t5, t6, t7, encB, isN_tup, t8, if_true]
          exact ⟨_, _, _, _, _, rfl, ok⟩
        | false =>
          rw [l2] at t8 ok
          simp_arith [t1, t2, t3', t4', t5, t6, t7, encB, isN_tup, t8, Bool.false_eq_true, if_false]
          exact ⟨_, _, _, _, _, rfl, ok⟩
      | false =>
        rw [l] at t7 nd
        simp only [Bool.false_eq_true, if_false] at nd
        subst nd
        cases l2 : lessF (gapK a b c d k) n with
        | true =>
          rw [l2] at t8 ok
          simp_arith [t1, t2, t3', t4', t5, t6, t7, encB, isN_tup, t8, if_true]
          exact ⟨_, _, _, _, _, rfl, ok⟩
        | false =>
          rw [l2] at t8 ok
          simp_arith [t1, t2, t3', t4', t5, t6, t7, encB, isN_tup, t8, Bool.false_eq_true, if_false]
          exact ⟨_, _, _, _, _, rfl, ok⟩)
  have eb : twelve.foldl (stepF (nearF a b c d) (timeF c d)) none = bestF a b c d := rfl
  rw [eb]
  obtain ⟨n, t, e⟩ := best_some a b c d
  unfold bestT
  rw [e]
  simp_arith [encB]
end
end K11

namespace K11
open PySem DL
local macro_rules | `(tactic| simp_arith [$xs,*]) => `(tactic| simp (config := {maxSteps := 400000}) (disch := (first | assumption | omega | (simp only [List.length_append, List.length_cons, List.length_nil, List.length_map, List.length_take, List.length_drop, List.length_reverse, List.length_replicate]; omega) | decide | rfl | (simp only [noOwn, List.all_cons, List.all_nil, List.getElem?_cons_zero, List.getElem?_cons_succ, Bool.and_self]))) only [↓y_set, ↓y_new, ↓y_ret, ↓y_expr, ↓y_for, ↓y_retN, ↓y_next, ↓y_break, ↓y_cont, ↓y_raise, ↓y_seq, ↓y_sif, ↓y_if, ↓y_and, ↓y_or, ↓y_andV, ↓y_orV, ↓y_not, ↓y_notV, ↓y_T, ↓y_nil, ↓y_e, ↓y_b, ↓y_app, ↓y_var, ↓y_fC, ↓y_call, ↓y_callN, ↓y_callR, ↓y_append, ↓y_extend, ↓y_put, ↓y_aug, ↓y_parvv, ↓y_parvn, ↓y_parnv, ↓y_parnn, ↓y_par3, ↓y_par3n, p3A_o, p3B_o, p3C_o, ↓y_unp, ↓y_chain, ↓y_oNo, ↓y_oEx, ↓y_sl, ↓y_slV, ↓y_fseq, ↓y_rng1, ↓y_rng2, ↓y_en, ↓y_zip, ↓y_mt, ↓y_runP, ↓y_runR, ↓y_runN, ↓y_seqN, ↓y_lamE, ↓y_popAt, sget_z, sget_s, sput_z, sput_s, emps_z, emps_s, ent_z, ent_s, setS_x, setS_o, newS_x, newS_o, retS_x, retS_o, expS_x, expS_o, forS_x, forS_o, q_nx, q_rt, q_ex, q_bk, q_ct, ifS_t, ifS_f, ifS_x, ifS_dt, ifS_df, ifE_t, ifE_f, ifE_x, ifE_dt, ifE_df, andE_t, andE_f, andE_x, andE_dt, andE_df, orE_t, orE_f, orE_x, orE_dt, orE_df, anvE_t, anvE_f, anvE_x, anvE_dt, anvE_df, orvE_t, orvE_f, orvE_x, orvE_dt, orvE_df, notE_t, notE_f, notE_d, notE_x, ntvE_t, ntvE_f, ntvE_d, ntvE_x, tE_o, tE_x, cnsE_o, cnsE_x, argE_o, argE_x, rdB_v, rdB_w, brwE_o, brwE_x, brwS_v, brwS_w, ofE_o, ofL_o, appE_o, appE_x, varS_v, varS_w, bs_0, bs_e, bs_b, y_frz0, y_frz, y_frzo, y_frzv, y_frze, frzI_t, frzI_f, frzI_0, callG_o, callG_x, callE_o, callE_x, callNG_o, callNG_x, callNE_o, callNE_x, y_ls, callRH_o, callRH_x, callRG_o, callRE_o, callRE_x, callRS_o, appG_o, appS_o, appS_x, appT_o, extG_o, extS_o, extT_o, putH_o, putG_o, putK_o, putT_o, putS_o, putS_x, nxO_o, augF_o, augG_o, parS_o, parS_x, parG_vv, parG_vn, parG_nv, parG_nn, parG_x, par3S_o, unpG_o, unpS_o, unpS_x, y_tgN, y_tgT, tgR_o, y_tgC, y_tg0, chH_o, chG_t, chG_f, chG_dt, chG_df, chF_o, chE_o, exI_o, slH_o, slL_o, slE_o, svG_v, svG_w, svH_o, svL_o, svS_v, svS_w, seqE_o, rng1E_o, rng2E_o, enE_o, zipE_o, ↓y_zipM, zipME_o, z_zipMtl, z_zipMlt, z_zipMtt, z_zipMll, ↓y_cv, cvS_o, cvT_o, sbT_o, sbO_t, sbO_f, sbO_dt, sbO_df, mtH_o, mtE_o, y_finPn, y_finPr, y_finPx, y_finRn, y_finRr, y_finRx, y_lstG, y_lstX, y_finNo, y_finNx, sqN_o, sqN_x, hn_0, hn_z, hn_s, hn_n, y_hd, y_hdv, y_hde, outG_o, outG_x, lamH_o, lamF_o, lamG_o, lamS_o, z_addI, z_addT, z_addL, z_addLL, z_sub, z_cmp, z_lt, z_le, z_neg, z_int, z_aug, z_abs, z_max, z_min, z_div, z_mod, z_mulr, z_mull, z_tup, z_lst, z_lenL, z_lenT, z_lenF, z_tupL, z_tupT, z_listL, z_listT, z_eqI, z_neI, z_eqB, z_neB, z_eqSs, z_neSs, z_isi, z_isis, z_ixL, z_ixT, z_ixF, z_seqL, z_seqT, z_seqF, z_scI, z_flN, z_flB, z_flI, z_flS, z_flL, z_flT, z_fl0, z_flc, z_rng, List.map_cons, List.map_nil, List.length_cons, List.length_nil, List.cons_append, List.nil_append, Option.map_some, Option.isSome_some, isTy, isTys, Bool.and_true, Bool.true_and, Bool.and_false, Bool.false_and, Bool.not_true, Bool.not_false, decide_true, decide_false, not_true_eq_false, not_false_eq_true, Int.reduceToNat, Int.reduceAdd, Int.reduceSub, Int.reduceMul, Int.reduceNeg, Int.reduceLT, Int.reduceLE, Nat.zero_add, Nat.reduceAdd, tgO_o, stO_n, stO_c, tgC_o, oc_go, oc_gc, oc_br, oc_rt, oc_ex, tgF_o, feO_o, Int.toNat_natCast, z_rgL, z_rgT, z_augS, z_augMl, z_augMr, z_inT, z_inL, z_zipT, z_zipL, teO_o, lpT_o, lpB_n, lpB_c, lpB_b, lpB_r, lpB_x, popH_o, popG_o, popS_o, popT_o, frzI_n, z_flm, z_cutN, z_cutT, z_cutD, z_slL, z_slF, z_slT, z_eqT, z_neT, z_eqL, z_neL, z_mulf, z_at0, z_at1, z_at2, z_at3, z_at4, z_atl, z_ixN, z_pow6, z_pow18, z_pow30, z_pow36, z_revL, z_revT, z_revLL, List.set_cons_zero, List.set_cons_succ, List.getElem?_cons_zero, List.getElem?_cons_succ, $xs,*])
open K10
section
variable {a b c d k : Int}
theorem L_nearest (q : Pl a b) (p : Pl c d) (hd : d < 16000) : F__law_nearest [fr (a, b), fr (c, d)] = .ok (fr (bestT a b c d)) := by
  unfold F__law_nearest b__law_nearest
  simp_arith [rng12]
  generalize hL : fLoop _ _ _ _ = L
  obtain ⟨ρ', rfl, j3, j4, j5, rfl, _⟩ := gl_go hL (fun (s : Bt) ρ => ∃ j3 j4 j5, ρ = [.val (fr (a, b)), .val (fr (c, d)), .val (encB s), j3, j4, j5] ∧ ∀ n t, s = some (n, t) → SmF n) (stepF (nearF a b c d) (timeF c d)) none ⟨_, _, _, rfl, fun _ _ e => by cases e⟩ (by
    rintro s k ρ hk ⟨j3, j4, j5, rfl, hs⟩
    obtain ⟨k0, k1⟩ := twelve_mem hk
    have t1 := L_time p hd k0 k1
    have tm := time_tm p hd k0 k1
    have t2 : F__law_cut [.int (k * d + c), .int (12 * d)] = .ok (fr (hourF (k * d + c) d)) := L_cut _ _ (by have := tm.b0; omega) (p2_of (by have := tm.b0; omega) (by have := tm.b1; omega))
    have t3 := L_far q p hd k0 k1
    obtain ⟨r, h⟩ := gap_rd q p hd k0 k1
    have ns : SmF (nearF a b c d k) := near_sm r h
    have i0 : ixB [fr (timeF c d k), .int 0] = some (.int (k * d + c)) := fr_i0 (timeF c d k)
    have i1 : ixB [fr (timeF c d k), .int 1] = some (.int d) := fr_i1 (timeF c d k)
    cases s with
    | none =>
      show tgO _ (fun ρ => ∃ j3 j4 j5, ρ = [.val (fr (a, b)), .val (fr (c, d)), .val (encB (some (nearF a b c d k, timeF c d k))), j3, j4, j5] ∧ ∀ n t, some (nearF a b c d k, timeF c d k) = some (n, t) → SmF n) _
      simp_arith [t1, i0, i1, z_mull, t2, t3, encB, isN_non]
      exact ⟨_, _, _, rfl, fun n t e => by cases e; exact ns⟩
    | some s =>
      obtain ⟨n, t⟩ := s
      have hn := hs n t rfl
      have t8 : F__law_less [fr (nearF a b c d k), fr n] = .ok (.bl (lessF (nearF a b c d k) n)) := L_less ns hn
      show tgO _ (fun ρ => ∃ j3 j4 j5, ρ = [.val (fr (a, b)), .val (fr (c, d)), .val (encB (if lessF (nearF a b c d k) n = true then some (nearF a b c d k, timeF c d k) else some (n, t))), j3, j4, j5] ∧ ∀ n' t', (if lessF (nearF a b c d k) n = true then some (nearF a b c d k, timeF c d k) else some (n, t)) = some (n', t') → SmF n') _
      have ok : ∀ n' t', (if lessF (nearF a b c d k) n = true then some (nearF a b c d k, timeF c d k) else some (n, t)) = some (n', t') → SmF n' := by
        intro n' t' e
        split at e
        · cases e; exact ns
        · cases e; exact hn
      cases l2 : lessF (nearF a b c d k) n with
      | true =>
        rw [l2] at t8 ok
        simp_arith [t1, i0, i1, z_mull, t2, t3, encB, isN_tup, t8, if_true]
        exact ⟨_, _, _, rfl, ok⟩
      | false =>
        rw [l2] at t8 ok
        simp_arith [t1, i0, i1, z_mull, t2, t3, encB, isN_tup, t8, Bool.false_eq_true, if_false]
        exact ⟨_, _, _, rfl, ok⟩)
  have eb : twelve.foldl (stepF (nearF a b c d) (timeF c d)) none = bestF a b c d := rfl
  rw [eb]
  obtain ⟨n, t, e⟩ := best_some a b c d
  unfold bestT
  rw [e]
  simp_arith [encB]
theorem near2_pos {g : Fr} (h : 0 < g.2) : 0 < (nearL g).2 := by
  unfold nearL
  split
  · exact h
  · unfold backL
    obtain ⟨_, _, _, _, _, p⟩ := low_parts (1 * g.2 - g.1 * 1) (1 * g.2) (by omega)
    exact p
theorem hour2_pos {t y : Int} (h : 0 < y) : 0 < (hourF t y).2 := by
  obtain ⟨_, _, _, _, _, p⟩ := low_parts t (12 * y) (by omega)
  exact p
/-- where both hands stand right, the nearest time is the time -/
theorem best_at (q : Pl a b) (p : Pl c d) (hd : d < 16000) (h : (offH a b c d).1 = 0) : bestT a b c d = low (12 * a) b := by
  have tw := t12 q
  have e := (off_zero tw.b0 p.b0 tw.g p.g p.t0 p.t1).mp h
  obtain ⟨g, g0, e1, e2, _, _⟩ := low_parts (12 * a) b q.b0
  obtain ⟨w1, w2, w3, w4, w5⟩ := tw
  have hpos : ∀ k, 0 < (nearF a b c d k).2 := fun k => near2_pos (by
    unfold gapK offF
    obtain ⟨_, _, _, _, _, r⟩ := low_parts (((hourF (k * d + c) d).1 * b - a * (hourF (k * d + c) d).2).fmod ((hourF (k * d + c) d).2 * b)) ((hourF (k * d + c) d).2 * b) (Int.mul_pos (hour2_pos p.b0) q.b0)
    exact r)
  generalize low (12 * a) b = y at *
  simp only [Prod.mk.injEq] at e
  obtain ⟨ec, ed⟩ := e
  rw [fmod_pos _ _ (by omega)] at ec
  have hm := Int.emod_add_mul_ediv y.1 y.2
  have k0 : 0 ≤ y.1 / y.2 := Int.ediv_nonneg w3 (by omega)
  have k1 : y.1 / y.2 < 12 := Int.ediv_lt_of_lt_mul w1 w4
  generalize y.1 / y.2 = k at *
  have ey : k * d + c = y.1 := by rw [← ed, ← ec, Int.mul_comm k]; omega
  have hk : hourF (k * d + c) d = (a, b) := by
    rw [ey, ← ed]
    have : low y.1 (12 * y.2) = low a b := low_cross (by omega) q.b0 (Int.eq_of_mul_eq_mul_left (a := g) (by omega) (by
      have s1 : g * (y.1 * b) = (g * y.1) * b := by grind
      have s2 : g * (a * (12 * y.2)) = 12 * a * (g * y.2) := by grind
      rw [s1, s2, ← e1, ← e2]))
    exact this.trans (low_cop q.g)
  have z0 : (nearF a b c d k).1 = 0 := by
    obtain ⟨r, _⟩ := gap_rd q p hd k0 (by omega)
    refine (near_pos r).mpr ?_
    unfold gapK
    rw [hk, off_same a b q.b0]
  obtain ⟨n, hb⟩ := fold_best (nearF a b c d) (timeF c d) k z0 hpos twelve none (fun k' hk' => by
    obtain ⟨m0, m1⟩ := twelve_mem hk'
    obtain ⟨r, _⟩ := gap_rd q p hd m0 m1
    obtain ⟨n1, _, _⟩ := near_rd r
    refine ⟨n1, fun ne => ?_⟩
    rcases Int.lt_or_le 0 (nearF a b c d k').1 with h | h
    · exact h
    · exfalso
      have h0 : (nearF a b c d k').1 = 0 := by have : 0 ≤ (nearF a b c d k').1 := n1; omega
      have g1 := (near_pos r).mp h0
      have hp := hour_pl (time_tm p hd m0 m1)
      have o := (off_zero hp.b0 q.b0 hp.g q.g q.t0 q.t1).mp g1
      rw [fmod_pos _ _ (by have := hp.b0; omega), Int.emod_eq_of_lt hp.t0 hp.t1] at o
      have o : hourF (k' * d + c) d = (a, b) := o
      obtain ⟨g1, _, u1, u2, _, _⟩ := low_parts (k' * d + c) (12 * d) (by have := p.b0; omega)
      obtain ⟨g2, _, v1, v2, _, _⟩ := low_parts (k * d + c) (12 * d) (by have := p.b0; omega)
      have o1 : low (k' * d + c) (12 * d) = (a, b) := o
      have o2 : low (k * d + c) (12 * d) = (a, b) := hk
      rw [o1] at u1 u2
      rw [o2] at v1 v2
      have gg : g1 = g2 := Int.eq_of_mul_eq_mul_right (a := b) (by have := q.b0; omega) (by rw [← u2, ← v2])
      rw [gg, ← v1] at u1
      exact ne (Int.eq_of_mul_eq_mul_right (a := d) (by have := p.b0; omega) (by omega))) (.inr ⟨mem_twelve k0 (by omega), .inl rfl⟩)
  have eb : bestF a b c d = some (n, timeF c d k) := hb
  unfold bestT
  rw [eb]
  show (k * d + c, d) = y
  rw [ey, ← ed]
end
end K11

namespace K11
open PySem DL
local macro_rules | `(tactic| simp_arith [$xs,*]) => `(tactic| simp (config := {maxSteps := 400000}) (disch := (first | assumption | omega | (simp only [List.length_append, List.length_cons, List.length_nil, List.length_map, List.length_take, List.length_drop, List.length_reverse, List.length_replicate]; omega) | decide | rfl | (simp only [noOwn, List.all_cons, List.all_nil, List.getElem?_cons_zero, List.getElem?_cons_succ, Bool.and_self]))) only [↓y_set, ↓y_new, ↓y_ret, ↓y_expr, ↓y_for, ↓y_retN, ↓y_next, ↓y_break, ↓y_cont, ↓y_raise, ↓y_seq, ↓y_sif, ↓y_if, ↓y_and, ↓y_or, ↓y_andV, ↓y_orV, ↓y_not, ↓y_notV, ↓y_T, ↓y_nil, ↓y_e, ↓y_b, ↓y_app, ↓y_var, ↓y_fC, ↓y_call, ↓y_callN, ↓y_callR, ↓y_append, ↓y_extend, ↓y_put, ↓y_aug, ↓y_parvv, ↓y_parvn, ↓y_parnv, ↓y_parnn, ↓y_par3, ↓y_par3n, p3A_o, p3B_o, p3C_o, ↓y_unp, ↓y_chain, ↓y_oNo, ↓y_oEx, ↓y_sl, ↓y_slV, ↓y_fseq, ↓y_rng1, ↓y_rng2, ↓y_en, ↓y_zip, ↓y_mt, ↓y_runP, ↓y_runR, ↓y_runN, ↓y_seqN, ↓y_lamE, ↓y_popAt, sget_z, sget_s, sput_z, sput_s, emps_z, emps_s, ent_z, ent_s, setS_x, setS_o, newS_x, newS_o, retS_x, retS_o, expS_x, expS_o, forS_x, forS_o, q_nx, q_rt, q_ex, q_bk, q_ct, ifS_t, ifS_f, ifS_x, ifS_dt, ifS_df, ifE_t, ifE_f, ifE_x, ifE_dt, ifE_df, andE_t, andE_f, andE_x, andE_dt, andE_df, orE_t, orE_f, orE_x, orE_dt, orE_df, anvE_t, anvE_f, anvE_x, anvE_dt, anvE_df, orvE_t, orvE_f, orvE_x, orvE_dt, orvE_df, notE_t, notE_f, notE_d, notE_x, ntvE_t, ntvE_f, ntvE_d, ntvE_x, tE_o, tE_x, cnsE_o, cnsE_x, argE_o, argE_x, rdB_v, rdB_w, brwE_o, brwE_x, brwS_v, brwS_w, ofE_o, ofL_o, appE_o, appE_x, varS_v, varS_w, bs_0, bs_e, bs_b, y_frz0, y_frz, y_frzo, y_frzv, y_frze, frzI_t, frzI_f, frzI_0, callG_o, callG_x, callE_o, callE_x, callNG_o, callNG_x, callNE_o, callNE_x, y_ls, callRH_o, callRH_x, callRG_o, callRE_o, callRE_x, callRS_o, appG_o, appS_o, appS_x, appT_o, extG_o, extS_o, extT_o, putH_o, putG_o, putK_o, putT_o, putS_o, putS_x, nxO_o, augF_o, augG_o, parS_o, parS_x, parG_vv, parG_vn, parG_nv, parG_nn, parG_x, par3S_o, unpG_o, unpS_o, unpS_x, y_tgN, y_tgT, tgR_o, y_tgC, y_tg0, chH_o, chG_t, chG_f, chG_dt, chG_df, chF_o, chE_o, exI_o, slH_o, slL_o, slE_o, svG_v, svG_w, svH_o, svL_o, svS_v, svS_w, seqE_o, rng1E_o, rng2E_o, enE_o, zipE_o, ↓y_zipM, zipME_o, z_zipMtl, z_zipMlt, z_zipMtt, z_zipMll, ↓y_cv, cvS_o, cvT_o, sbT_o, sbO_t, sbO_f, sbO_dt, sbO_df, mtH_o, mtE_o, y_finPn, y_finPr, y_finPx, y_finRn, y_finRr, y_finRx, y_lstG, y_lstX, y_finNo, y_finNx, sqN_o, sqN_x, hn_0, hn_z, hn_s, hn_n, y_hd, y_hdv, y_hde, outG_o, outG_x, lamH_o, lamF_o, lamG_o, lamS_o, z_addI, z_addT, z_addL, z_addLL, z_sub, z_cmp, z_lt, z_le, z_neg, z_int, z_aug, z_abs, z_max, z_min, z_div, z_mod, z_mulr, z_mull, z_tup, z_lst, z_lenL, z_lenT, z_lenF, z_tupL, z_tupT, z_listL, z_listT, z_eqI, z_neI, z_eqB, z_neB, z_eqSs, z_neSs, z_isi, z_isis, z_ixL, z_ixT, z_ixF, z_seqL, z_seqT, z_seqF, z_scI, z_flN, z_flB, z_flI, z_flS, z_flL, z_flT, z_fl0, z_flc, z_rng, List.map_cons, List.map_nil, List.length_cons, List.length_nil, List.cons_append, List.nil_append, Option.map_some, Option.isSome_some, isTy, isTys, Bool.and_true, Bool.true_and, Bool.and_false, Bool.false_and, Bool.not_true, Bool.not_false, decide_true, decide_false, not_true_eq_false, not_false_eq_true, Int.reduceToNat, Int.reduceAdd, Int.reduceSub, Int.reduceMul, Int.reduceNeg, Int.reduceLT, Int.reduceLE, Nat.zero_add, Nat.reduceAdd, tgO_o, stO_n, stO_c, tgC_o, oc_go, oc_gc, oc_br, oc_rt, oc_ex, tgF_o, feO_o, Int.toNat_natCast, z_rgL, z_rgT, z_augS, z_augMl, z_augMr, z_inT, z_inL, z_zipT, z_zipL, teO_o, lpT_o, lpB_n, lpB_c, lpB_b, lpB_r, lpB_x, popH_o, popG_o, popS_o, popT_o, frzI_n, z_flm, z_cutN, z_cutT, z_cutD, z_slL, z_slF, z_slT, z_eqT, z_neT, z_eqL, z_neL, z_mulf, z_at0, z_at1, z_at2, z_at3, z_at4, z_atl, z_ixN, z_pow6, z_pow18, z_pow30, z_pow36, z_revL, z_revT, z_revLL, List.set_cons_zero, List.set_cons_succ, List.getElem?_cons_zero, List.getElem?_cons_succ, $xs,*])
open K10
theorem is_int (n : Nat) (i j : Int) : F__law_is (n + 1) [.int i, .int j] = .ok (.bl (decide (i = j))) := by
  show runP 4 (b__law_is (F__law_is n)) [.int i, .int j] = _
  unfold b__law_is
  simp_arith [show isNB false [.int i, .non] = some (.bl false) from rfl, show isNB false [.int j, .non] = some (.bl false) from rfl]
theorem eqS2 (x y : Str) : eqD false [.str x, .str y] = some (.bl (decide (x = y))) := by simp [eqD]
theorem is_str (n : Nat) (x y : Str) : F__law_is (n + 1) [.str x, .str y] = .ok (.bl (decide (x = y))) := by
  show runP 4 (b__law_is (F__law_is n)) [.str x, .str y] = _
  unfold b__law_is
  simp_arith [show isNB false [.str x, .non] = some (.bl false) from rfl, show isNB false [.str y, .non] = some (.bl false) from rfl, eqS2]
theorem all_2 (x y : Bool) : allB [.lst [.bl x, .bl y]] = some (.bl (x && y)) := by
  have := all_lc [x, y] id
  simpa using this
theorem is_pair (n : Nat) {p q r s : D} {x y : Bool} (h1 : F__law_is n [p, r] = .ok (.bl x)) (h2 : F__law_is n [q, s] = .ok (.bl y)) : F__law_is (n + 1) [.tup [p, q], .tup [r, s]] = .ok (.bl (x && y)) := by
  show runP 4 (b__law_is (F__law_is n)) [.tup [p, q], .tup [r, s]] = _
  unfold b__law_is
  simp_arith []
  generalize hC : fComp _ _ _ _ _ _ = C
  have := gc_map hC (fun z : D × D × Bool => .tup [z.1, z.2.1]) (fun z => .bl z.2.2) [(p, r, x), (q, s, y)] [.val (.tup [p, q]), .val (.tup [r, s]), .emp, .emp] (by simp_arith [zpD]) (by simp) (fun z hm => ⟨_, rfl, by
    simp only [List.mem_cons, List.not_mem_nil, or_false] at hm
    rcases hm with rfl | rfl
    · simp_arith [wipeR, h1]
    · simp_arith [wipeR, h2], rfl⟩)
  subst this
  simp_arith [all_2]
theorem is_frs (n : Nat) (x y : Fr) : F__law_is (n + 2) [fr x, fr y] = .ok (.bl (decide (x = y))) := by
  have := is_pair (n + 1) (is_int n x.1 y.1) (is_int n x.2 y.2)
  refine this.trans ?_
  congr 2
  rw [Bool.eq_iff_iff]
  simp only [Bool.and_eq_true, decide_eq_true_eq]
  exact ⟨fun h => Prod.ext h.1 h.2, fun h => by rw [h]; exact ⟨rfl, rfl⟩⟩
/-- no tuple of two: refused by both -/
theorem is_odd (n : Nat) {d : D} {xs : List D} (h : siz d xs.length xs.length = false) (hn : d.nq = true) : F__law_is (n + 1) [d, .tup xs] = .ok (.bl false) := by
  show runP 4 (b__law_is (F__law_is n)) [d, .tup xs] = _
  unfold b__law_is
  cases d <;> first
    | (cases hn; done)
    | rfl
    | skip
  rename_i ys
  have : ¬ ((ys.length : Int) = xs.length) := fun e => by
    have h' : (decide ((xs.length : Int) ≤ ys.length) && decide ((ys.length : Int) ≤ xs.length)) = false := h
    rw [e] at h'
    simp at h'
  simp_arith []
section
variable {a b u v : Int}
/-- both hands, what is told of them -/
structure Due (a b u v : Int) (w : Str) (y : Fr) : Prop where
  told : F_hour_told [fr (a, b), fr (u, v)] = .ok (.tup [.str w, fr y])
  g : Int.gcd y.1 y.2 = 1
  p : 0 < y.2
def due (w : Str) (y : Fr) : D := .tup [.str w, fr y]
def Alike (a b u v : Int) (w : Str) (y : Fr) (d : D) : Prop := ∃ r, F_is_hour_told [fr (a, b), fr (u, v), d] = .ok (.bl r) ∧ F__law_is 9 [d, due w y] = .ok (.bl r)
theorem frac_fr (x : Fr) (h : x.2.natAbs < P2 8010) : F_is_fraction [fr x] = .ok (.bl (fracB x.1 x.2)) := F_frac h
theorem al_odd {w : Str} {y : Fr} (U : Due a b u v w y) {d : DL.D} (h : siz d 2 2 = false) (hn : d.nq = true) : Alike a b u v w y d := by
  have e0 := U.told
  have e1 := F_siz2 d hn
  rw [h] at e1
  refine ⟨false, ?_, is_odd 8 h hn⟩
  unfold F_is_hour_told b_is_hour_told
  simp_arith [e0, e1]
theorem al_non {w : Str} {y : Fr} (U : Due a b u v w y) {d : DL.D} (hn : d.nq = true) (hl : ∃ r, F__law_is 8 [d, fr y] = .ok (.bl r)) : Alike a b u v w y (.tup [.non, d]) := by
  have e0 := U.told
  have e1 := F_siz2 (.tup [.non, d]) (by simp only [D.nq, D.nqs, hn, Bool.and_self])
  have es : siz (.tup [.non, d]) 2 2 = true := rfl
  rw [es] at e1
  obtain ⟨r, hl⟩ := hl
  have hp := is_pair 8 (show F__law_is 8 [.non, .str w] = .ok (.bl false) from rfl) hl
  rw [Bool.false_and] at hp
  refine ⟨false, ?_, hp⟩
  unfold F_is_hour_told b_is_hour_told
  simp_arith [e0, e1]
theorem al_fr {w : Str} {y : Fr} (U : Due a b u v w y) (w' : Str) (x : Fr) (hx : x.2.natAbs < P2 8010) : Alike a b u v w y (.tup [.str w', fr x]) := by
  have e0 := U.told
  have e1 := F_siz2 (.tup [.str w', fr x]) rfl
  have es : siz (.tup [.str w', fr x]) 2 2 = true := rfl
  rw [es] at e1
  have e2 := frac_fr x hx
  refine ⟨decide (w' = w) && decide (x = y), ?_, is_pair 8 (is_str 7 w' w) (is_frs 6 x y)⟩
  have en : eqD false [fr x, fr y] = some (.bl (decide (x = y))) := by
    have := enc_eqD enc_fr (by decide) false x y
    refine this.trans (congrArg (fun b => some (DL.D.bl b)) ?_)
    simp only [Bool.false_eq_true, if_false]
  unfold F_is_hour_told b_is_hour_told
  by_cases hw : w' = w
  · rw [decide_eq_true hw, Bool.true_and]
    subst hw
    cases hf : fracB x.1 x.2 with
    | true =>
      rw [hf] at e2
      simp_arith [e0, e1, e2, en]
    | false =>
      rw [hf] at e2
      have ne : ¬ x = y := fun e => by
        subst e
        unfold fracB at hf
        rw [decide_eq_true U.g, decide_eq_true (show 1 ≤ x.2 by have := U.p; omega)] at hf
        cases hf
      rw [decide_eq_false ne]
      simp_arith [e0, e1, e2]
  · have h2 := eqS2 w' w
    rw [decide_eq_false hw] at h2 ⊢
    rw [Bool.false_and]
    simp_arith [e0, e1, h2]
theorem al_no {w : Str} {y : Fr} (U : Due a b u v w y) (w' : Str) {d : DL.D} (h : nqP d) (h2 : twoI d = none) (hl : F__law_is 8 [d, fr y] = .ok (.bl false)) : Alike a b u v w y (.tup [.str w', d]) := by
  have e0 := U.told
  have e1 := F_siz2 (.tup [.str w', d]) (by simp only [D.nq, D.nqs, h.1, Bool.and_self])
  have es : siz (.tup [.str w', d]) 2 2 = true := rfl
  rw [es] at e1
  have e2 := F_nofrac d h h2
  have hp := is_pair 8 (is_str 7 w' w) hl
  rw [Bool.and_false] at hp
  refine ⟨false, ?_, hp⟩
  unfold F_is_hour_told b_is_hour_told
  by_cases hw : w' = w
  · subst hw
    simp_arith [e0, e1, e2]
  · have h2 := eqS2 w' w
    rw [decide_eq_false hw] at h2
    simp_arith [e0, e1, h2]
end
end K11

namespace K11
open PySem DL
local macro_rules | `(tactic| simp_arith [$xs,*]) => `(tactic| simp (config := {maxSteps := 400000}) (disch := (first | assumption | omega | (simp only [List.length_append, List.length_cons, List.length_nil, List.length_map, List.length_take, List.length_drop, List.length_reverse, List.length_replicate]; omega) | decide | rfl | (simp only [noOwn, List.all_cons, List.all_nil, List.getElem?_cons_zero, List.getElem?_cons_succ, Bool.and_self]))) only [↓y_set, ↓y_new, ↓y_ret, ↓y_expr, ↓y_for, ↓y_retN, ↓y_next, ↓y_break, ↓y_cont, ↓y_raise, ↓y_seq, ↓y_sif, ↓y_if, ↓y_and, ↓y_or, ↓y_andV, ↓y_orV, ↓y_not, ↓y_notV, ↓y_T, ↓y_nil, ↓y_e, ↓y_b, ↓y_app, ↓y_var, ↓y_fC, ↓y_call, ↓y_callN, ↓y_callR, ↓y_append, ↓y_extend, ↓y_put, ↓y_aug, ↓y_parvv, ↓y_parvn, ↓y_parnv, ↓y_parnn, ↓y_par3, ↓y_par3n, p3A_o, p3B_o, p3C_o, ↓y_unp, ↓y_chain, ↓y_oNo, ↓y_oEx, ↓y_sl, ↓y_slV, ↓y_fseq, ↓y_rng1, ↓y_rng2, ↓y_en, ↓y_zip, ↓y_mt, ↓y_runP, ↓y_runR, ↓y_runN, ↓y_seqN, ↓y_lamE, ↓y_popAt, sget_z, sget_s, sput_z, sput_s, emps_z, emps_s, ent_z, ent_s, setS_x, setS_o, newS_x, newS_o, retS_x, retS_o, expS_x, expS_o, forS_x, forS_o, q_nx, q_rt, q_ex, q_bk, q_ct, ifS_t, ifS_f, ifS_x, ifS_dt, ifS_df, ifE_t, ifE_f, ifE_x, ifE_dt, ifE_df, andE_t, andE_f, andE_x, andE_dt, andE_df, orE_t, orE_f, orE_x, orE_dt, orE_df, anvE_t, anvE_f, anvE_x, anvE_dt, anvE_df, orvE_t, orvE_f, orvE_x, orvE_dt, orvE_df, notE_t, notE_f, notE_d, notE_x, ntvE_t, ntvE_f, ntvE_d, ntvE_x, tE_o, tE_x, cnsE_o, cnsE_x, argE_o, argE_x, rdB_v, rdB_w, brwE_o, brwE_x, brwS_v, brwS_w, ofE_o, ofL_o, appE_o, appE_x, varS_v, varS_w, bs_0, bs_e, bs_b, y_frz0, y_frz, y_frzo, y_frzv, y_frze, frzI_t, frzI_f, frzI_0, callG_o, callG_x, callE_o, callE_x, callNG_o, callNG_x, callNE_o, callNE_x, y_ls, callRH_o, callRH_x, callRG_o, callRE_o, callRE_x, callRS_o, appG_o, appS_o, appS_x, appT_o, extG_o, extS_o, extT_o, putH_o, putG_o, putK_o, putT_o, putS_o, putS_x, nxO_o, augF_o, augG_o, parS_o, parS_x, parG_vv, parG_vn, parG_nv, parG_nn, parG_x, par3S_o, unpG_o, unpS_o, unpS_x, y_tgN, y_tgT, tgR_o, y_tgC, y_tg0, chH_o, chG_t, chG_f, chG_dt, chG_df, chF_o, chE_o, exI_o, slH_o, slL_o, slE_o, svG_v, svG_w, svH_o, svL_o, svS_v, svS_w, seqE_o, rng1E_o, rng2E_o, enE_o, zipE_o, ↓y_zipM, zipME_o, z_zipMtl, z_zipMlt, z_zipMtt, z_zipMll, ↓y_cv, cvS_o, cvT_o, sbT_o, sbO_t, sbO_f, sbO_dt, sbO_df, mtH_o, mtE_o, y_finPn, y_finPr, y_finPx, y_finRn, y_finRr, y_finRx, y_lstG, y_lstX, y_finNo, y_finNx, sqN_o, sqN_x, hn_0, hn_z, hn_s, hn_n, y_hd, y_hdv, y_hde, outG_o, outG_x, lamH_o, lamF_o, lamG_o, lamS_o, z_addI, z_addT, z_addL, z_addLL, z_sub, z_cmp, z_lt, z_le, z_neg, z_int, z_aug, z_abs, z_max, z_min, z_div, z_mod, z_mulr, z_mull, z_tup, z_lst, z_lenL, z_lenT, z_lenF, z_tupL, z_tupT, z_listL, z_listT, z_eqI, z_neI, z_eqB, z_neB, z_eqSs, z_neSs, z_isi, z_isis, z_ixL, z_ixT, z_ixF, z_seqL, z_seqT, z_seqF, z_scI, z_flN, z_flB, z_flI, z_flS, z_flL, z_flT, z_fl0, z_flc, z_rng, List.map_cons, List.map_nil, List.length_cons, List.length_nil, List.cons_append, List.nil_append, Option.map_some, Option.isSome_some, isTy, isTys, Bool.and_true, Bool.true_and, Bool.and_false, Bool.false_and, Bool.not_true, Bool.not_false, decide_true, decide_false, not_true_eq_false, not_false_eq_true, Int.reduceToNat, Int.reduceAdd, Int.reduceSub, Int.reduceMul, Int.reduceNeg, Int.reduceLT, Int.reduceLE, Nat.zero_add, Nat.reduceAdd, tgO_o, stO_n, stO_c, tgC_o, oc_go, oc_gc, oc_br, oc_rt, oc_ex, tgF_o, feO_o, Int.toNat_natCast, z_rgL, z_rgT, z_augS, z_augMl, z_augMr, z_inT, z_inL, z_zipT, z_zipL, teO_o, lpT_o, lpB_n, lpB_c, lpB_b, lpB_r, lpB_x, popH_o, popG_o, popS_o, popT_o, frzI_n, z_flm, z_cutN, z_cutT, z_cutD, z_slL, z_slF, z_slT, z_eqT, z_neT, z_eqL, z_neL, z_mulf, z_at0, z_at1, z_at2, z_at3, z_at4, z_atl, z_ixN, z_pow6, z_pow18, z_pow30, z_pow36, z_revL, z_revT, z_revLL, List.set_cons_zero, List.set_cons_succ, List.getElem?_cons_zero, List.getElem?_cons_succ, $xs,*])
open K10
theorem p2_big {n : Nat} (h : n < 100000000000000) : n < P2 8010 :=
  Nat.lt_of_lt_of_le (m := 2 ^ 100) (by have : (100000000000000 : Nat) ≤ 2 ^ 100 := by decide +kernel
                                        omega) (P2_le (m := 100) (by omega))
section
variable {a b u v : Int}
theorem bent_ok (h : List D) (hh : HandOk h) {w : Str} {y : Fr} (U : Due a b u v w y) (h1 : y.1.natAbs < 10000000000000) (h2 : y.2.natAbs < 10000000000000) : ∃ d h', F__law_bent h [.tup [.str w, fr y]] = .ok d h' ∧ Alike a b u v w y d ∧ HandOk h' := by
  obtain ⟨p, q, g1, e1, P, hq, hg1⟩ := place_ok h hh
  have pq := P.t1
  have pp := P.b0
  have p0 := P.t0
  obtain ⟨y1, y2⟩ := y
  simp only at h1 h2
  obtain ⟨d, g2, e2, m2, hg2⟩ := any_ok g1 hg1 [.tup [.str w, .tup [.int y1, .int y2]], .tup [.str w, .tup [.int p, .int q]], .tup [.str "off", .tup [.int y1, .int y2]], .tup [.str "time", .tup [.int y1, .int y2]], .tup [.str "off", .tup [.int p, .int q]], .tup [.str w], .tup [.str w, .tup [.int y1, .int y2], .int 0], .lst [.str w, .tup [.int y1, .int y2]],
    .tup [.str w, .lst [.int y1, .int y2]], .tup [.str w, .tup [.int (2 * y1), .int (2 * y2)]], .tup [.str w, .non], .tup [.str w, .tup [.int y2, .int y1]], .non, .tup [.str "?", .tup [.int y1, .int y2]], .tup [.non, .tup [.int y1, .int y2]], .int 0, .dicK [] [], .tup [.str w, .tup [.int 0, .int 1]], .tup [.str w, .tup [.int 1, .int 1]], .tup [.str w, .int 0]] (by simp) (by simp)
  refine ⟨d, g2, ?_, ?_, hg2⟩
  · have s1 : slB (.tup [.str w, .tup [.int y1, .int y2]]) none (some 1) = some (.tup [.str w]) := rfl
    have s2 : revB [.tup [.int y1, .int y2]] = some (.tup [.int y2, .int y1]) := rfl
    unfold fr at e1
    unfold F__law_bent b__law_bent fr
    simp_arith [e1, s1, s2, e2]
  · have F : ∀ (w' : Str) (x : Fr), x.2.natAbs < 100000000000000 → Alike a b u v w (y1, y2) (.tup [.str w', .tup [.int x.1, .int x.2]]) := fun w' x hx => al_fr U w' x (p2_big hx)
    simp only [List.mem_cons, List.not_mem_nil, or_false] at m2
    rcases m2 with rfl | rfl | rfl | rfl | rfl | rfl | rfl | rfl | rfl | rfl | rfl | rfl | rfl | rfl | rfl | rfl | rfl | rfl | rfl | rfl
    · exact F w (y1, y2) (by show y2.natAbs < _; omega)
    · exact F w (p, q) (by show q.natAbs < _; omega)
    · exact F "off" (y1, y2) (by show y2.natAbs < _; omega)
    · exact F "time" (y1, y2) (by show y2.natAbs < _; omega)
    · exact F "off" (p, q) (by show q.natAbs < _; omega)
    · exact al_odd U rfl rfl
    · exact al_odd U rfl rfl
    · exact al_odd U rfl rfl
    · exact al_no U w ⟨rfl, fun x y e => by cases e⟩ rfl (is_odd 7 rfl rfl)
    · exact F w (2 * y1, 2 * y2) (by show (2 * y2).natAbs < _; omega)
    · exact al_no U w ⟨rfl, fun x y e => by cases e⟩ rfl (is_odd 7 rfl rfl)
    · exact F w (y2, y1) (by show y1.natAbs < _; omega)
    · exact al_odd U rfl rfl
    · exact F "?" (y1, y2) (by show y2.natAbs < _; omega)
    · exact al_non U rfl ⟨_, is_frs 6 (y1, y2) (y1, y2)⟩
    · exact al_odd U rfl rfl
    · exact al_odd U rfl rfl
    · exact F w (0, 1) (by show (1 : Int).natAbs < _; decide)
    · exact F w (1, 1) (by show (1 : Int).natAbs < _; decide)
    · exact al_no U w ⟨rfl, fun x y e => by cases e⟩ rfl (is_odd 7 rfl rfl)
end
theorem is_b (b : Bool) : F__law_is 9 [.bl b, .bl b] = .ok (.bl true) := is_refl 9 _ rfl (by simp [D.dp])
theorem is_fr (x : Fr) : F__law_is 9 [fr x, fr x] = .ok (.bl true) := is_refl 9 _ (by simp [fr, pl, pls]; decide) (by simp [fr, D.dp, D.dps])
theorem is_due (w : Str) (x : Fr) : F__law_is 9 [.tup [.str w, fr x], .tup [.str w, fr x]] = .ok (.bl true) := is_refl 9 _ (by simp [fr, pl, pls]; decide) (by simp [fr, D.dp, D.dps])
theorem is_encO (o : Option Fr) : F__law_is 9 [encO o, encO o] = .ok (.bl true) := by
  cases o with
  | none => exact is_refl 9 _ rfl (by simp [encO, D.dp])
  | some x => exact is_fr x
section
variable {a b c d : Int}
theorem due_ok (q : Pl a b) (p : Pl c d) : Due a b c d (wordF a b c d) (bodyF a b c d) ∧ (bodyF a b c d).1.natAbs < 10000000000000 ∧ (bodyF a b c d).2.natAbs < 10000000000000 := by
  have t := t12 q
  obtain ⟨r, h⟩ := off_rd t p
  have e := P_told q p
  unfold bodyF at *
  by_cases z : (offH a b c d).1 = 0
  · rw [if_pos z] at e ⊢
    obtain ⟨t1, t2, t3, t4, t5⟩ := t
    exact ⟨⟨e, t5, t1⟩, by omega, by omega⟩
  · rw [if_neg z] at e ⊢
    have r1 := r.p
    have r2 := r.g0
    have r3 := r.g1
    unfold offH at *
    exact ⟨⟨e, r.c, r.p⟩, by omega, by omega⟩
end
end K11

namespace K11
open PySem DL
local macro_rules | `(tactic| simp_arith [$xs,*]) => `(tactic| simp (config := {maxSteps := 400000}) (disch := (first | assumption | omega | (simp only [List.length_append, List.length_cons, List.length_nil, List.length_map, List.length_take, List.length_drop, List.length_reverse, List.length_replicate]; omega) | decide | rfl | (simp only [noOwn, List.all_cons, List.all_nil, List.getElem?_cons_zero, List.getElem?_cons_succ, Bool.and_self]))) only [↓y_set, ↓y_new, ↓y_ret, ↓y_expr, ↓y_for, ↓y_retN, ↓y_next, ↓y_break, ↓y_cont, ↓y_raise, ↓y_seq, ↓y_sif, ↓y_if, ↓y_and, ↓y_or, ↓y_andV, ↓y_orV, ↓y_not, ↓y_notV, ↓y_T, ↓y_nil, ↓y_e, ↓y_b, ↓y_app, ↓y_var, ↓y_fC, ↓y_call, ↓y_callN, ↓y_callR, ↓y_append, ↓y_extend, ↓y_put, ↓y_aug, ↓y_parvv, ↓y_parvn, ↓y_parnv, ↓y_parnn, ↓y_par3, ↓y_par3n, p3A_o, p3B_o, p3C_o, ↓y_unp, ↓y_chain, ↓y_oNo, ↓y_oEx, ↓y_sl, ↓y_slV, ↓y_fseq, ↓y_rng1, ↓y_rng2, ↓y_en, ↓y_zip, ↓y_mt, ↓y_runP, ↓y_runR, ↓y_runN, ↓y_seqN, ↓y_lamE, ↓y_popAt, sget_z, sget_s, sput_z, sput_s, emps_z, emps_s, ent_z, ent_s, setS_x, setS_o, newS_x, newS_o, retS_x, retS_o, expS_x, expS_o, forS_x, forS_o, q_nx, q_rt, q_ex, q_bk, q_ct, ifS_t, ifS_f, ifS_x, ifS_dt, ifS_df, ifE_t, ifE_f, ifE_x, ifE_dt, ifE_df, andE_t, andE_f, andE_x, andE_dt, andE_df, orE_t, orE_f, orE_x, orE_dt, orE_df, anvE_t, anvE_f, anvE_x, anvE_dt, anvE_df, orvE_t, orvE_f, orvE_x, orvE_dt, orvE_df, notE_t, notE_f, notE_d, notE_x, ntvE_t, ntvE_f, ntvE_d, ntvE_x, tE_o, tE_x, cnsE_o, cnsE_x, argE_o, argE_x, rdB_v, rdB_w, brwE_o, brwE_x, brwS_v, brwS_w, ofE_o, ofL_o, appE_o, appE_x, varS_v, varS_w, bs_0, bs_e, bs_b, y_frz0, y_frz, y_frzo, y_frzv, y_frze, frzI_t, frzI_f, frzI_0, callG_o, callG_x, callE_o, callE_x, callNG_o, callNG_x, callNE_o, callNE_x, y_ls, callRH_o, callRH_x, callRG_o, callRE_o, callRE_x, callRS_o, appG_o, appS_o, appS_x, appT_o, extG_o, extS_o, extT_o, putH_o, putG_o, putK_o, putT_o, putS_o, putS_x, nxO_o, augF_o, augG_o, parS_o, parS_x, parG_vv, parG_vn, parG_nv, parG_nn, parG_x, par3S_o, unpG_o, unpS_o, unpS_x, y_tgN, y_tgT, tgR_o, y_tgC, y_tg0, chH_o, chG_t, chG_f, chG_dt, chG_df, chF_o, chE_o, exI_o, slH_o, slL_o, slE_o, svG_v, svG_w, svH_o, svL_o, svS_v, svS_w, seqE_o, rng1E_o, rng2E_o, enE_o, zipE_o, ↓y_zipM, zipME_o, z_zipMtl, z_zipMlt, z_zipMtt, z_zipMll, ↓y_cv, cvS_o, cvT_o, sbT_o, sbO_t, sbO_f, sbO_dt, sbO_df, mtH_o, mtE_o, y_finPn, y_finPr, y_finPx, y_finRn, y_finRr, y_finRx, y_lstG, y_lstX, y_finNo, y_finNx, sqN_o, sqN_x, hn_0, hn_z, hn_s, hn_n, y_hd, y_hdv, y_hde, outG_o, outG_x, lamH_o, lamF_o, lamG_o, lamS_o, z_addI, z_addT, z_addL, z_addLL, z_sub, z_cmp, z_lt, z_le, z_neg, z_int, z_aug, z_abs, z_max, z_min, z_div, z_mod, z_mulr, z_mull, z_tup, z_lst, z_lenL, z_lenT, z_lenF, z_tupL, z_tupT, z_listL, z_listT, z_eqI, z_neI, z_eqB, z_neB, z_eqSs, z_neSs, z_isi, z_isis, z_ixL, z_ixT, z_ixF, z_seqL, z_seqT, z_seqF, z_scI, z_flN, z_flB, z_flI, z_flS, z_flL, z_flT, z_fl0, z_flc, z_rng, List.map_cons, List.map_nil, List.length_cons, List.length_nil, List.cons_append, List.nil_append, Option.map_some, Option.isSome_some, isTy, isTys, Bool.and_true, Bool.true_and, Bool.and_false, Bool.false_and, Bool.not_true, Bool.not_false, decide_true, decide_false, not_true_eq_false, not_false_eq_true, Int.reduceToNat, Int.reduceAdd, Int.reduceSub, Int.reduceMul, Int.reduceNeg, Int.reduceLT, Int.reduceLE, Nat.zero_add, Nat.reduceAdd, tgO_o, stO_n, stO_c, tgC_o, oc_go, oc_gc, oc_br, oc_rt, oc_ex, tgF_o, feO_o, Int.toNat_natCast, z_rgL, z_rgT, z_augS, z_augMl, z_augMr, z_inT, z_inL, z_zipT, z_zipL, teO_o, lpT_o, lpB_n, lpB_c, lpB_b, lpB_r, lpB_x, popH_o, popG_o, popS_o, popT_o, frzI_n, z_flm, z_cutN, z_cutT, z_cutD, z_slL, z_slF, z_slT, z_eqT, z_neT, z_eqL, z_neL, z_mulf, z_at0, z_at1, z_at2, z_at3, z_at4, z_atl, z_ixN, z_pow6, z_pow18, z_pow30, z_pow36, z_revL, z_revT, z_revLL, List.set_cons_zero, List.set_cons_succ, List.getElem?_cons_zero, List.getElem?_cons_succ, $xs,*])
open K10
theorem word_time {a b c d : Int} (h : (offH a b c d).1 = 0) : wordF a b c d = "time" := if_pos h
theorem word_off {a b c d : Int} (h : ¬ (offH a b c d).1 = 0) : wordF a b c d = "off" := if_neg h
/-- as the hands of a time stand -/
theorem hands_ok {t b : Int} (T : Tm t b) : (offH (hourF t b).1 (hourF t b).2 (minF t b).1 (minF t b).2).1 = 0 ∧ low (12 * (hourF t b).1) (hourF t b).2 = (t, b) := by
  have hp := hour_pl T
  have mp := (min_pl T).1
  have a3 : low (12 * (hourF t b).1) (hourF t b).2 = (t, b) := by
    have c1 : low (12 * (hourF t b).1) (hourF t b).2 = low t b := by
      obtain ⟨g, g0, e1, e2, _, _⟩ := low_parts t (12 * b) (by have := T.b0; omega)
      have e1 : t = g * (hourF t b).1 := e1
      have e2 : 12 * b = g * (hourF t b).2 := e2
      refine low_cross hp.b0 T.b0 (Int.eq_of_mul_eq_mul_left (a := g) (by omega) ?_)
      have s1 : g * (12 * (hourF t b).1 * b) = 12 * (g * (hourF t b).1) * b := by grind
      have s2 : g * (t * (hourF t b).2) = t * (g * (hourF t b).2) := by grind
      rw [s1, s2, ← e1, ← e2]; grind
    rw [c1, low_cop T.g]
  refine ⟨?_, a3⟩
  unfold offH
  rw [a3]
  exact (off_zero T.b0 mp.b0 T.g mp.g mp.t0 mp.t1).mpr (min_eq T).symm
theorem L_right (h : List D) (hh : HandOk h) : ∃ h', F__law_is_right h [] = .ok (.bl true) h' ∧ HandOk h' := by
  obtain ⟨t, b, h1, e1, T, hh1⟩ := time_ok h hh
  obtain ⟨p1, q1, h2, e2, P1, hq1, hh2⟩ := place_ok h1 hh1
  obtain ⟨p2, q2, h3, e3, P2, hq2, hh3⟩ := place_ok h2 hh2
  obtain ⟨r, h4, e4, r0, r1, hh4⟩ := draw_ok h3 hh3 2 (by omega) (by omega)
  unfold F__law_is_right b__law_is_right
  simp_arith [e1, e2, e3, e4]
  generalize hS : ifS _ _ _ = S
  obtain ⟨a, a', c, c', rfl, Q, P, hd⟩ : ∃ a a' c c', S = .nx [.own (.lst h4), .val (fr (t, b)), .val (fr (a, a')), .val (fr (c, c')), .emp, .emp, .emp, .emp, .emp] ∧ Pl a a' ∧ Pl c c' ∧ c' < 16000 := by
    subst hS
    by_cases z : r = 0
    · have i0 := fr_i0 (t, b)
      have i1 := fr_i1 (t, b)
      have tb := T.b0
      have tb1 := T.b1
      have c1 : F__law_cut [.int t, .int (12 * b)] = .ok (fr (hourF t b)) := L_cut _ _ (by omega) (p2_of (by omega) (by omega))
      have c2 : F__law_cut [.int (t.fmod b), .int b] = .ok (fr (minF t b)) := L_cut _ _ tb (p2_of tb (by omega))
      obtain ⟨z0, z1⟩ := hands_ok T
      have c3 := P_told (hour_pl T) (min_pl T).1
      have eb : bodyF (hourF t b).1 (hourF t b).2 (minF t b).1 (minF t b).2 = (t, b) := by unfold bodyF; rw [if_pos z0, z1]
      rw [word_time z0, eb] at c3
      have c3' : F_hour_told [fr (hourF t b), fr (minF t b)] = .ok (.tup [.str "time", fr (t, b)]) := c3
      have c4 := is_due "time" (t, b)
      refine ⟨(hourF t b).1, (hourF t b).2, (minF t b).1, (minF t b).2, ?_, hour_pl T, (min_pl T).1, (min_pl T).2⟩
      simp_arith [z, i0, i1, c1, c2, c3', c4, z_mull]
    · refine ⟨p1, q1, p2, q2, ?_, P1, P2, by omega⟩
      simp_arith [z]
  obtain ⟨U, u1, u2⟩ := due_ok Q P
  have f1 := L_told Q P
  have f2 := U.told
  have f3 := is_due (wordF a a' c c') (bodyF a a' c c')
  simp_arith [f1, f2, f3]
  generalize hL : fLoop _ _ _ _ = L
  obtain ⟨ρ', rfl, h5, j5, j6, rfl, hh5⟩ := gl_inv hL (fun ρ => ∃ h j5 j6, ρ = [.own (.lst h), .val (fr (t, b)), .val (fr (a, a')), .val (fr (c, c')), .val (.tup [.str (wordF a a' c c'), fr (bodyF a a' c c')]), j5, j6, .emp, .emp] ∧ HandOk h) ⟨_, _, _, rfl, hh4⟩ (by
    rintro d ρ hdm ⟨h, j5, j6, rfl, hh⟩
    obtain ⟨k, rfl, k0, k1⟩ := rng_mem 6 0 d hdm
    by_cases z : 0 < k
    · obtain ⟨th, g1, b1, ⟨x, b2, b3⟩, hg1⟩ := bent_ok h hh U u1 u2
      have b3' : F__law_is 9 [th, .tup [.str (wordF a a' c c'), fr (bodyF a a' c c')]] = .ok (.bl x) := b3
      have b4 := is_b x
      simp_arith [b1, b2, b3', b4]
      exact ⟨_, _, _, rfl, hg1⟩
    · obtain ⟨x, b2, b3⟩ := al_fr U (wordF a a' c c') (bodyF a a' c c') (p2_big (by omega))
      have b3' : F__law_is 9 [.tup [.str (wordF a a' c c'), fr (bodyF a a' c c')], .tup [.str (wordF a a' c c'), fr (bodyF a a' c c')]] = .ok (.bl x) := b3
      have b4 := is_b x
      simp_arith [b2, b3', b4]
      exact ⟨_, _, _, rfl, hh⟩)
  have f4 := P_nearest Q P hd
  have f5 := L_nearest Q P hd
  have f6 := is_fr (bestT a a' c c')
  have fst : ∀ w (x : D), ixB [.tup [.str w, x], .int 0] = some (.str w) := fun w x => z_ixT.trans (z_at0 _ _)
  simp_arith [f4, f5, f6]
  generalize hS : ifS _ _ _ = S
  obtain rfl : S = .nx [.own (.lst h5), .val (fr (t, b)), .val (fr (a, a')), .val (fr (c, c')), .val (.tup [.str (wordF a a' c c'), fr (bodyF a a' c c')]), j5, j6, .val (fr (bestT a a' c c')), .emp] := by
    subst hS
    by_cases z : (offH a a' c c').1 = 0
    · have w := word_time z
      have eb : bodyF a a' c c' = bestT a a' c c' := by unfold bodyF; rw [if_pos z, best_at Q P hd z]
      have ne : eqD true [fr (bestT a a' c c'), fr (bestT a a' c c')] = some (.bl false) := by
        have := enc_eqD enc_fr (by decide) true (bestT a a' c c') (bestT a a' c c')
        simpa using this
      rw [w, eb]
      simp_arith [eqS2, ne]
    · have w := word_off z
      rw [w]
      simp_arith [eqS2, show decide (("off" : Str) = "time") = false from rfl]
  obtain ⟨r2, h6, e6, r20, r21, hh6⟩ := draw_ok h5 hh5 143 (by omega) (by omega)
  have c5 := L_cut (12 * r2) 143 (by omega) (p2_of (by omega) (by omega))
  obtain ⟨x, h7, e7, m7, hh7⟩ := any_ok h6 hh6 [fr (t, b), fr (low (12 * r2) 143)] (by simp) (by simp)
  obtain ⟨t', b', rfl, T'⟩ : ∃ t' b', x = fr (t', b') ∧ Tm t' b' := by
    simp only [List.mem_cons, List.not_mem_nil, or_false] at m7
    rcases m7 with rfl | rfl
    · exact ⟨t, b, rfl, T⟩
    · exact ⟨_, _, rfl, low_tm (by omega) (by omega) (by omega) (by omega)⟩
  have f7 := P_exch T'
  have f8 := L_exch T'
  have f9 := is_encO (exchF t' b')
  refine ⟨h7, ?_, hh7⟩
  simp_arith [e6, c5, e7, f7, f8, f9]
  cases ex : exchF t' b' with
  | none => simp_arith [encO, isN_non]
  | some o =>
    obtain ⟨T2, ex2⟩ := exch_back T' ex
    have f10 := P_exch T2
    rw [ex2] at f10
    have f10' : F_exchanged [fr o] = .ok (fr (t', b')) := f10
    have f11 : isNB false [fr o, .non] = some (.bl false) := rfl
    have f12 : eqD false [fr (t', b'), fr (t', b')] = some (.bl true) := by
      have := enc_eqD enc_fr (by decide) false (t', b') (t', b')
      simpa using this
    simp_arith [encO, f11, f10', f12]
end K11

namespace K11
open PySem DL
local macro_rules | `(tactic| simp_arith [$xs,*]) => `(tactic| simp (config := {maxSteps := 400000}) (disch := (first | assumption | omega | (simp only [List.length_append, List.length_cons, List.length_nil, List.length_map, List.length_take, List.length_drop, List.length_reverse, List.length_replicate]; omega) | decide | rfl | (simp only [noOwn, List.all_cons, List.all_nil, List.getElem?_cons_zero, List.getElem?_cons_succ, Bool.and_self]))) only [↓y_set, ↓y_new, ↓y_ret, ↓y_expr, ↓y_for, ↓y_retN, ↓y_next, ↓y_break, ↓y_cont, ↓y_raise, ↓y_seq, ↓y_sif, ↓y_if, ↓y_and, ↓y_or, ↓y_andV, ↓y_orV, ↓y_not, ↓y_notV, ↓y_T, ↓y_nil, ↓y_e, ↓y_b, ↓y_app, ↓y_var, ↓y_fC, ↓y_call, ↓y_callN, ↓y_callR, ↓y_append, ↓y_extend, ↓y_put, ↓y_aug, ↓y_parvv, ↓y_parvn, ↓y_parnv, ↓y_parnn, ↓y_par3, ↓y_par3n, p3A_o, p3B_o, p3C_o, ↓y_unp, ↓y_chain, ↓y_oNo, ↓y_oEx, ↓y_sl, ↓y_slV, ↓y_fseq, ↓y_rng1, ↓y_rng2, ↓y_en, ↓y_zip, ↓y_mt, ↓y_runP, ↓y_runR, ↓y_runN, ↓y_seqN, ↓y_lamE, ↓y_popAt, sget_z, sget_s, sput_z, sput_s, emps_z, emps_s, ent_z, ent_s, setS_x, setS_o, newS_x, newS_o, retS_x, retS_o, expS_x, expS_o, forS_x, forS_o, q_nx, q_rt, q_ex, q_bk, q_ct, ifS_t, ifS_f, ifS_x, ifS_dt, ifS_df, ifE_t, ifE_f, ifE_x, ifE_dt, ifE_df, andE_t, andE_f, andE_x, andE_dt, andE_df, orE_t, orE_f, orE_x, orE_dt, orE_df, anvE_t, anvE_f, anvE_x, anvE_dt, anvE_df, orvE_t, orvE_f, orvE_x, orvE_dt, orvE_df, notE_t, notE_f, notE_d, notE_x, ntvE_t, ntvE_f, ntvE_d, ntvE_x, tE_o, tE_x, cnsE_o, cnsE_x, argE_o, argE_x, rdB_v, rdB_w, brwE_o, brwE_x, brwS_v, brwS_w, ofE_o, ofL_o, appE_o, appE_x, varS_v, varS_w, bs_0, bs_e, bs_b, y_frz0, y_frz, y_frzo, y_frzv, y_frze, frzI_t, frzI_f, frzI_0, callG_o, callG_x, callE_o, callE_x, callNG_o, callNG_x, callNE_o, callNE_x, y_ls, callRH_o, callRH_x, callRG_o, callRE_o, callRE_x, callRS_o, appG_o, appS_o, appS_x, appT_o, extG_o, extS_o, extT_o, putH_o, putG_o, putK_o, putT_o, putS_o, putS_x, nxO_o, augF_o, augG_o, parS_o, parS_x, parG_vv, parG_vn, parG_nv, parG_nn, parG_x, par3S_o, unpG_o, unpS_o, unpS_x, y_tgN, y_tgT, tgR_o, y_tgC, y_tg0, chH_o, chG_t, chG_f, chG_dt, chG_df, chF_o, chE_o, exI_o, slH_o, slL_o, slE_o, svG_v, svG_w, svH_o, svL_o, svS_v, svS_w, seqE_o, rng1E_o, rng2E_o, enE_o, zipE_o, ↓y_zipM, zipME_o, z_zipMtl, z_zipMlt, z_zipMtt, z_zipMll, ↓y_cv, cvS_o, cvT_o, sbT_o, sbO_t, sbO_f, sbO_dt, sbO_df, mtH_o, mtE_o, y_finPn, y_finPr, y_finPx, y_finRn, y_finRr, y_finRx, y_lstG, y_lstX, y_finNo, y_finNx, sqN_o, sqN_x, hn_0, hn_z, hn_s, hn_n, y_hd, y_hdv, y_hde, outG_o, outG_x, lamH_o, lamF_o, lamG_o, lamS_o, z_addI, z_addT, z_addL, z_addLL, z_sub, z_cmp, z_lt, z_le, z_neg, z_int, z_aug, z_abs, z_max, z_min, z_div, z_mod, z_mulr, z_mull, z_tup, z_lst, z_lenL, z_lenT, z_lenF, z_tupL, z_tupT, z_listL, z_listT, z_eqI, z_neI, z_eqB, z_neB, z_eqSs, z_neSs, z_isi, z_isis, z_ixL, z_ixT, z_ixF, z_seqL, z_seqT, z_seqF, z_scI, z_flN, z_flB, z_flI, z_flS, z_flL, z_flT, z_fl0, z_flc, z_rng, List.map_cons, List.map_nil, List.length_cons, List.length_nil, List.cons_append, List.nil_append, Option.map_some, Option.isSome_some, isTy, isTys, Bool.and_true, Bool.true_and, Bool.and_false, Bool.false_and, Bool.not_true, Bool.not_false, decide_true, decide_false, not_true_eq_false, not_false_eq_true, Int.reduceToNat, Int.reduceAdd, Int.reduceSub, Int.reduceMul, Int.reduceNeg, Int.reduceLT, Int.reduceLE, Nat.zero_add, Nat.reduceAdd, tgO_o, stO_n, stO_c, tgC_o, oc_go, oc_gc, oc_br, oc_rt, oc_ex, tgF_o, feO_o, Int.toNat_natCast, z_rgL, z_rgT, z_augS, z_augMl, z_augMr, z_inT, z_inL, z_zipT, z_zipL, teO_o, lpT_o, lpB_n, lpB_c, lpB_b, lpB_r, lpB_x, popH_o, popG_o, popS_o, popT_o, frzI_n, z_flm, z_cutN, z_cutT, z_cutD, z_slL, z_slF, z_slT, z_eqT, z_neT, z_eqL, z_neL, z_mulf, z_at0, z_at1, z_at2, z_at3, z_at4, z_atl, z_ixN, z_pow6, z_pow18, z_pow30, z_pow36, z_revL, z_revT, z_revLL, List.set_cons_zero, List.set_cons_succ, List.getElem?_cons_zero, List.getElem?_cons_succ, $xs,*])
open K10
theorem w_ti (h : List D) : R__law_word (.ex ⟨"NoTime", []⟩ h) = .ok (.str "time") h := by rfl
theorem w_pl (h : List D) : R__law_word (.ex ⟨"NoPlace", []⟩ h) = .ok (.str "place") h := by rfl
def noT : List D := [.non, .int 0, .int 3, .tup [.int 12, .int 1], .tup [.int (-1), .int 2], .tup [.int 2, .int 4], .tup [.int 3], .lst [.int 1, .int 2], .tup [.bl true, .int 2], .tup [.int 1, .int 0], .str "?", .tup [.int 1, .int 2, .int 3], .dicK [] []]
def noP : List D := [.non, .int 0, .tup [.int 1, .int 1], .tup [.int (-1), .int 2], .tup [.int 2, .int 4], .tup [.int 3], .lst [.int 1, .int 2], .tup [.bl true, .int 2], .tup [.int 1, .int 0], .str "?", .tup [.int 5, .int 4], .dicK [] []]
theorem noT_ex : ∀ d ∈ noT, F_check_time [d] = .ex ⟨"NoTime", []⟩ := by
  intro d hd
  simp only [noT, List.mem_cons, List.not_mem_nil, or_false] at hd
  rcases hd with rfl | rfl | rfl | rfl | rfl | rfl | rfl | rfl | rfl | rfl | rfl | rfl | rfl <;> kernel_rfl
theorem noP_ex : ∀ d ∈ noP, F_check_place [d] = .ex ⟨"NoPlace", []⟩ := by
  intro d hd
  simp only [noP, List.mem_cons, List.not_mem_nil, or_false] at hd
  rcases hd with rfl | rfl | rfl | rfl | rfl | rfl | rfl | rfl | rfl | rfl | rfl | rfl <;> kernel_rfl
theorem noplace_ok (h : List D) (hh : HandOk h) : ∃ d h', F__law_no_place h [] = .ok d h' ∧ d ∈ noP ∧ HandOk h' := by
  obtain ⟨x, h1, e1, m1, hh1⟩ := any_ok h hh noP (by decide) (by decide)
  refine ⟨x, h1, ?_, m1, hh1⟩
  unfold noP at e1
  unfold F__law_no_place b__law_no_place
  simp_arith [e1]
theorem L_refused (fv : Str → Addr) (hne : FvNe fv) (h : List D) (hh : HandOk h) : ∃ h', F__law_are_refused fv h [] = .ok (.bl true) h' ∧ HandOk h' := by
  obtain ⟨bad, h1, e1, m1, hh1⟩ := noplace_ok h hh
  obtain ⟨wr, h2, e2, m2, hh2⟩ := noplace_ok h1 hh1
  obtain ⟨nt, h3, e3, m3, hh3⟩ := any_ok h2 hh2 noT (by decide) (by decide)
  have x1 := noP_ex bad m1
  have x2 := noP_ex wr m2
  have x3 := noT_ex nt m3
  have x4 : F_check_place [.tup [.int 0, .int 1]] = .ok .non := by kernel_rfl
  have x5 : F_check_place [.tup [.int 1, .int 2]] = .ok .non := by kernel_rfl
  have f2 : F__law_no_time h2 [] = .ok nt h3 := by
    unfold noT at e3
    unfold F__law_no_time b__law_no_time
    simp_arith [e3]
  have s1 : ∀ d, F_hour_told [bad, d] = .ex ⟨"NoPlace", []⟩ := fun d => by unfold F_hour_told b_hour_told; simp_arith [x1]
  have s2 : ∀ d, F_nearest_time [bad, d] = .ex ⟨"NoPlace", []⟩ := fun d => by unfold F_nearest_time b_nearest_time; simp_arith [x1]
  have s3 : F_hour_told [.tup [.int 1, .int 2], wr] = .ex ⟨"NoPlace", []⟩ := by unfold F_hour_told b_hour_told; simp_arith [x5, x2]
  have s4 : F_nearest_time [.tup [.int 1, .int 2], wr] = .ex ⟨"NoPlace", []⟩ := by unfold F_nearest_time b_nearest_time; simp_arith [x5, x2]
  have s5 : F_hour_told [.tup [.int 0, .int 1], bad] = .ex ⟨"NoPlace", []⟩ := by unfold F_hour_told b_hour_told; simp_arith [x4, x1]
  have s6 : F_is_hour_told [bad, .tup [.int 0, .int 1], .non] = .ex ⟨"NoPlace", []⟩ := by unfold F_is_hour_told b_is_hour_told; simp_arith [s1]
  have s7 : F_is_hour_told [.tup [.int 0, .int 1], bad, .non] = .ex ⟨"NoPlace", []⟩ := by unfold F_is_hour_told b_is_hour_told; simp_arith [s5]
  have s8 : F_exchanged [nt] = .ex ⟨"NoTime", []⟩ := by unfold F_exchanged b_exchanged; simp_arith [x3]
  have hne' : ¬ fv "hour_told" = fv "nearest_time" := hne
  have t1 : tabAt [(fv "hour_told", F_hour_told), (fv "nearest_time", F_nearest_time)] (fv "hour_told") = some F_hour_told := by simp [tabAt]
  have t2 : tabAt [(fv "hour_told", F_hour_told), (fv "nearest_time", F_nearest_time)] (fv "nearest_time") = some F_nearest_time := by simp [tabAt, hne']
  have p1 : mulC [.lst [.str "place"], .int 8] = some (.lst [.str "place", .str "place", .str "place", .str "place", .str "place", .str "place", .str "place", .str "place"]) := by rfl
  have ew := (eq_refl' (d := .lst [.str "place", .str "place", .str "place", .str "place", .str "place", .str "place", .str "place", .str "place", .str "time"]) (p := .list [.str "place", .str "place", .str "place", .str "place", .str "place", .str "place", .str "place", .str "place", .str "time"]) (by simp [toPy, toPys]) (by decide +kernel)).1
  refine ⟨h3, ?_, hh3⟩
  unfold F__law_are_refused b__law_are_refused
  simp_arith [e1, e2, f2, y_lpc, y_lp0, t1, t2, s1, s2, s3, s4, s6, s7, s8, w_ti, w_pl, p1, ew]
/-! ### all that can be exchanged -/
def ints143 : List Int := (List.range 143).map fun i : Nat => (i : Int)
theorem rng143 : rngD 0 143 = ints143.map D.int := by kernel_rfl
theorem mem143 {k : Int} (h : k ∈ ints143) : 0 ≤ k ∧ k < 143 := by
  obtain ⟨i, hi, rfl⟩ := List.mem_map.mp h
  have := List.mem_range.mp hi
  omega
def every : List Fr := ints143.map fun k => low (12 * k) 143
theorem every_tm : ∀ x ∈ every, Tm x.1 x.2 := fun x hx => by
  obtain ⟨k, hk, rfl⟩ := List.mem_map.mp hx
  obtain ⟨k0, k1⟩ := mem143 hk
  exact low_tm (by decide) (by decide) (by omega) (by omega)
theorem P_every : F_all_exchanged [] = .ok (.lst (every.map fr)) := by
  unfold F_all_exchanged b_all_exchanged
  simp_arith []
  generalize hC : fComp _ _ _ _ _ _ = C
  have := gc_map hC D.int (fun k => fr (low (12 * k) 143)) ints143 [.val (.int 143), .emp] (by simp_arith [rng143]) (by simp [ints143]) (fun k hm => ⟨_, rfl, by
    obtain ⟨k0, k1⟩ := mem143 hm
    have e := P_fraction (12 * k) 143 (by decide) (p2_of (by decide) (by decide))
    simp_arith [wipeR, e], rfl⟩)
  subst this
  have : ints143.map (fun k => fr (low (12 * k) 143)) = every.map fr := by unfold every; rw [List.map_map]; rfl
  simp_arith [this]
theorem pls_fr : ∀ xs : List Fr, pls (xs.map fr) = true
  | [] => rfl
  | x :: xs => by
    rw [List.map_cons]
    unfold pls
    rw [pls_fr xs, Bool.and_true]
    rfl
theorem dps_fr : ∀ xs : List Fr, D.dps (xs.map fr) ≤ 1
  | [] => by simp [D.dps]
  | x :: xs => by
    have := dps_fr xs
    simp [D.dps, fr, D.dp]; omega
theorem is_frl (xs : List Fr) (h : xs.length < 1000) : F__law_is 9 [.lst (xs.map fr), .lst (xs.map fr)] = .ok (.bl true) := is_refl 9 _ (by
  simp only [pl, pls_fr, Bool.true_and]
  exact decide_eq_true (by rw [List.length_map]; unfold bigL; omega)) (by
  have := dps_fr xs
  simp only [D.dp]; omega)
theorem non_fr (x : Fr) : eqD false [.non, fr x] = some (.bl false) := by
  have s2 : SeqAt.shaped (.tuple [.int x.1, .int x.2]) = true := by
    show ((PyData.tuple [.int x.1, .int x.2]).canLay0 && decide ((PyData.tuple [.int x.1, .int x.2]).depth ≤ 64)) = true
    rw [enc_fr.lay x, decide_eq_true (Nat.le_trans (enc_fr.dp x) (by decide))]; rfl
  have s1 : SeqAt.shaped .none = true := by decide +kernel
  simp [eqD, fr, toPy, toPys, s1, s2, PyData.eqv]
theorem count11 : ((every.filter fun x => decide (exchF x.1 x.2 = some x)).length) = 11 := by decide +kernel
theorem law_pure (fv : Str → Addr) (hne : FvNe fv) (ns : List Int) (hl : ns.length ≤ 63) (hb : ∀ z ∈ ns, Builtin.Int.intBits z ≤ 1048576) : F_law fv [.frl (ns.map D.int)] = .ok (.bl true) := by
  obtain ⟨h, e, hh⟩ := hand_ok ns hl
  have k1 : F_hour_told [.tup [.int 1, .int 4], .tup [.int 0, .int 1]] = .ok (.tup [.str "time", .tup [.int 3, .int 1]]) := by kernel_rfl
  have k2 : F_hour_told [.tup [.int 1, .int 4], .tup [.int 1, .int 4]] = .ok (.tup [.str "off", .tup [.int 3, .int 4]]) := by kernel_rfl
  have k3 : F_exchanged [.tup [.int 12, .int 11]] = .ok (.tup [.int 12, .int 11]) := by kernel_rfl
  have k4 : F_exchanged [.tup [.int 1, .int 1]] = .ok .non := by kernel_rfl
  have k5 : F_nearest_time [.tup [.int 0, .int 1], .tup [.int 1, .int 2]] = .ok (.tup [.int 1, .int 2]) := by kernel_rfl
  have k6 : F_nearest_time [.tup [.int 1, .int 2], .tup [.int 0, .int 1]] = .ok (.tup [.int 6, .int 1]) := by kernel_rfl
  have k7 : F_exchanged [.tup [.int 12, .int 143]] = .ok (.tup [.int 144, .int 143]) := by kernel_rfl
  have d1 : F__law_is 9 [.lst [.tup [.str "time", .tup [.int 3, .int 1]], .tup [.str "off", .tup [.int 3, .int 4]], .tup [.int 12, .int 11], .non, .tup [.int 1, .int 2], .tup [.int 6, .int 1], .tup [.int 144, .int 143]], .lst [.tup [.str "time", .tup [.int 3, .int 1]], .tup [.str "off", .tup [.int 3, .int 4]], .tup [.int 12, .int 11], .non, .tup [.int 1, .int 2], .tup [.int 6, .int 1], .tup [.int 144, .int 143]]] = .ok (.bl true) := by kernel_rfl
  have d2 := is_frl every (by simp [every, ints143])
  unfold F_law b_law
  simp_arith [e, k1, k2, k3, k4, k5, k6, k7, d1, P_every]
  generalize hC : fComp _ _ _ _ _ _ = C
  have := gc_map hC D.int (fun k => fr (low (12 * k) 143)) ints143 _ (by simp_arith [rng143]; rfl) (by simp [ints143]) (fun k hm => ⟨_, rfl, by
    obtain ⟨k0, k1⟩ := mem143 hm
    have e := L_cut (12 * k) 143 (by decide) (p2_of (by decide) (by decide))
    simp_arith [wipeR, e], rfl⟩)
  subst this
  have em : ints143.map (fun k => fr (low (12 * k) 143)) = every.map fr := by unfold every; rw [List.map_map]; rfl
  simp_arith [em, d2]
  generalize hC : fComp _ _ _ _ _ _ = C
  have := gc_fil hC fr (fun x => decide (exchF x.1 x.2 = some x)) fr every _ (by simp_arith []; rfl) (by simp [every, ints143]) (fun x hm => by
    have T := every_tm x hm
    have e := P_exch T
    have e' : F_exchanged [fr x] = .ok (encO (exchF x.1 x.2)) := e
    have en : eqD false [encO (exchF x.1 x.2), fr x] = some (.bl (decide (exchF x.1 x.2 = some x))) := by
      cases exchF x.1 x.2 with
      | none => simpa [encO] using non_fr x
      | some o =>
        have := enc_eqD enc_fr (by decide) false o x
        simpa [encO] using this
    exact ⟨_, rfl, by simp_arith [wipeR, e', en], fun _ => by simp_arith [wipeR], rfl⟩)
  subst this
  have cn : ((List.filter (fun x => decide (exchF x.1 x.2 = some x)) every).map fr).length = 11 := by rw [List.length_map]; exact count11
  have cz : lenS [.lst ((List.filter (fun x => decide (exchF x.1 x.2 = some x)) every).map fr)] = some (.int 11) := by rw [z_lenL, cn]; rfl
  simp_arith [cz]
  generalize hC : fComp _ _ _ _ _ _ = C
  obtain ⟨xs, ρ2, rfl, ⟨h1, j, rfl, hh1⟩, sd⟩ := gc_st (ds := rngD 0 6) hC [.val (.frl (ns.map D.int)), .own (.lst h), .val (.lst [.tup [.str "time", .tup [.int 3, .int 1]], .tup [.str "off", .tup [.int 3, .int 4]], .tup [.int 12, .int 11], .non, .tup [.int 1, .int 2], .tup [.int 6, .int 1], .tup [.int 144, .int 143]]), .val (.lst [.tup [.str "time", .tup [.int 3, .int 1]], .tup [.str "off", .tup [.int 3, .int 4]], .tup [.int 12, .int 11], .non, .tup [.int 1, .int 2], .tup [.int 6, .int 1], .tup [.int 144, .int 143]]), .val (.lst (every.map fr)), .emp, .emp]
    (fun ρ => ∃ h j, ρ = [.val (.frl (ns.map D.int)), .own (.lst h), .val (.lst [.tup [.str "time", .tup [.int 3, .int 1]], .tup [.str "off", .tup [.int 3, .int 4]], .tup [.int 12, .int 11], .non, .tup [.int 1, .int 2], .tup [.int 6, .int 1], .tup [.int 144, .int 143]]), .val (.lst [.tup [.str "time", .tup [.int 3, .int 1]], .tup [.str "off", .tup [.int 3, .int 4]], .tup [.int 12, .int 11], .non, .tup [.int 1, .int 2], .tup [.int 6, .int 1], .tup [.int 144, .int 143]]), .val (.lst (every.map fr)), j, .emp] ∧ HandOk h) (fun _ x => x = .bl true) (by simp_arith []) (by decide) ⟨_, _, rfl, hh⟩ (by
    rintro d hd ρ ⟨h, j, rfl, hh⟩
    obtain ⟨h1, e1, hh1⟩ := L_right h hh
    obtain ⟨h2, e2, hh2⟩ := L_refused fv hne h1 hh1
    simp_arith [e1, e2]
    exact ⟨trivial, _, _, rfl, hh2⟩)
  have ex : xs = xs.map fun _ => D.bl true := by
    have h := sd.right (Q := fun x => x = D.bl true) fun _ _ _ p => p
    conv => lhs; rw [← List.map_id' xs]
    exact List.map_congr_left fun x hx => h x hx
  have al : allB [D.lst xs] = some (.bl true) := by rw [ex, all_lc xs fun _ => true]; simp
  simp only [backR, List.getElem?_cons_succ, List.getElem?_cons_zero, List.set_cons_succ, List.set_cons_zero]
  simp_arith [al]
end K11

namespace K11
open PySem PySem.Spec PyProof.Rows L2 DL
def dd__law_hand : He.DefD := ⟨("_law_hand", none), "_law_hand", "_law_hand", defArgs (top 32), defBody (top 32), defScope (top 32), [], []⟩
def dd_common : He.DefD := ⟨("common", none), "common", "common", defArgs (top 3), defBody (top 3), defScope (top 3), [], []⟩
def dd_fraction : He.DefD := ⟨("fraction", none), "fraction", "fraction", defArgs (top 4), defBody (top 4), defScope (top 4), [], []⟩
def dd_all_exchanged : He.DefD := ⟨("all_exchanged", none), "all_exchanged", "all_exchanged", defArgs (top 30), defBody (top 30), defScope (top 30), [], []⟩
def dd_is_sized : He.DefD := ⟨("is_sized", none), "is_sized", "is_sized", defArgs (top 2), defBody (top 2), defScope (top 2), [], []⟩
def dd_is_integer : He.DefD := ⟨("is_integer", none), "is_integer", "is_integer", defArgs (top 1), defBody (top 1), defScope (top 1), [], []⟩
def dd_is_fraction : He.DefD := ⟨("is_fraction", none), "is_fraction", "is_fraction", defArgs (top 5), defBody (top 5), defScope (top 5), [], []⟩
def dd_check_place : He.DefD := ⟨("check_place", none), "check_place", "check_place", defArgs (top 23), defBody (top 23), defScope (top 23), [], []⟩
def dd_minus : He.DefD := ⟨("minus", none), "minus", "minus", defArgs (top 7), defBody (top 7), defScope (top 7), [], []⟩
def dd_whole_below : He.DefD := ⟨("whole_below", none), "whole_below", "whole_below", defArgs (top 19), defBody (top 19), defScope (top 19), [], []⟩
def dd_round_place : He.DefD := ⟨("round_place", none), "round_place", "round_place", defArgs (top 20), defBody (top 20), defScope (top 20), [], []⟩
def dd_times : He.DefD := ⟨("times", none), "times", "times", defArgs (top 8), defBody (top 8), defScope (top 8), [], []⟩
def dd_off_by : He.DefD := ⟨("off_by", none), "off_by", "off_by", defArgs (top 25), defBody (top 25), defScope (top 25), [], []⟩
def dd_hour_told : He.DefD := ⟨("hour_told", none), "hour_told", "hour_told", defArgs (top 26), defBody (top 26), defScope (top 26), [], []⟩
def dd_is_time : He.DefD := ⟨("is_time", none), "is_time", "is_time", defArgs (top 21), defBody (top 21), defScope (top 21), [], []⟩
def dd_check_time : He.DefD := ⟨("check_time", none), "check_time", "check_time", defArgs (top 22), defBody (top 22), defScope (top 22), [], []⟩
def dd_hand_place : He.DefD := ⟨("hand_place", none), "hand_place", "hand_place", defArgs (top 24), defBody (top 24), defScope (top 24), [], []⟩
def dd_exchanged : He.DefD := ⟨("exchanged", none), "exchanged", "exchanged", defArgs (top 29), defBody (top 29), defScope (top 29), [], []⟩
def dd__law_is : He.DefD := ⟨("_law_is", none), "_law_is", "_law_is", defArgs (top 35), defBody (top 35), defScope (top 35), [], []⟩
def dd_plus : He.DefD := ⟨("plus", none), "plus", "plus", defArgs (top 6), defBody (top 6), defScope (top 6), [], []⟩
def dd_is_less : He.DefD := ⟨("is_less", none), "is_less", "is_less", defArgs (top 9), defBody (top 9), defScope (top 9), [], []⟩
def dd_nearest_time : He.DefD := ⟨("nearest_time", none), "nearest_time", "nearest_time", defArgs (top 28), defBody (top 28), defScope (top 28), [], []⟩
def dd__law_cut : He.DefD := ⟨("_law_cut", none), "_law_cut", "_law_cut", defArgs (top 36), defBody (top 36), defScope (top 36), [], []⟩
def dd__law_draw : He.DefD := ⟨("_law_draw", none), "_law_draw", "_law_draw", defArgs (top 33), defBody (top 33), defScope (top 33), [], []⟩
def dd__law_some : He.DefD := ⟨("_law_some", none), "_law_some", "_law_some", defArgs (top 34), defBody (top 34), defScope (top 34), [], []⟩
def dd__law_time : He.DefD := ⟨("_law_time", none), "_law_time", "_law_time", defArgs (top 42), defBody (top 42), defScope (top 42), [], []⟩
def dd__law_times : He.DefD := ⟨("_law_times", none), "_law_times", "_law_times", defArgs (top 39), defBody (top 39), defScope (top 39), [], []⟩
def dd__law_rest : He.DefD := ⟨("_law_rest", none), "_law_rest", "_law_rest", defArgs (top 41), defBody (top 41), defScope (top 41), [], []⟩
def dd__law_minus : He.DefD := ⟨("_law_minus", none), "_law_minus", "_law_minus", defArgs (top 38), defBody (top 38), defScope (top 38), [], []⟩
def dd__law_told : He.DefD := ⟨("_law_told", none), "_law_told", "_law_told", defArgs (top 47), defBody (top 47), defScope (top 47), [], []⟩
def dd__law_place : He.DefD := ⟨("_law_place", none), "_law_place", "_law_place", defArgs (top 43), defBody (top 43), defScope (top 43), [], []⟩
def dd__law_bent : He.DefD := ⟨("_law_bent", none), "_law_bent", "_law_bent", defArgs (top 51), defBody (top 51), defScope (top 51), [], []⟩
def dd__law_plus : He.DefD := ⟨("_law_plus", none), "_law_plus", "_law_plus", defArgs (top 37), defBody (top 37), defScope (top 37), [], []⟩
def dd__law_less : He.DefD := ⟨("_law_less", none), "_law_less", "_law_less", defArgs (top 40), defBody (top 40), defScope (top 40), [], []⟩
def dd__law_far : He.DefD := ⟨("_law_far", none), "_law_far", "_law_far", defArgs (top 48), defBody (top 48), defScope (top 48), [], []⟩
def dd__law_nearest : He.DefD := ⟨("_law_nearest", none), "_law_nearest", "_law_nearest", defArgs (top 49), defBody (top 49), defScope (top 49), [], []⟩
def dd__law_exchanged : He.DefD := ⟨("_law_exchanged", none), "_law_exchanged", "_law_exchanged", defArgs (top 50), defBody (top 50), defScope (top 50), [], []⟩
def dd_is_hour_told : He.DefD := ⟨("is_hour_told", none), "is_hour_told", "is_hour_told", defArgs (top 27), defBody (top 27), defScope (top 27), [], []⟩
def dd__law_is_right : He.DefD := ⟨("_law_is_right", none), "_law_is_right", "_law_is_right", defArgs (top 52), defBody (top 52), defScope (top 52), [], []⟩
def dd__law_no_place : He.DefD := ⟨("_law_no_place", none), "_law_no_place", "_law_no_place", defArgs (top 45), defBody (top 45), defScope (top 45), [], []⟩
def dd__law_no_time : He.DefD := ⟨("_law_no_time", none), "_law_no_time", "_law_no_time", defArgs (top 44), defBody (top 44), defScope (top 44), [], []⟩
def dd__law_word : He.DefD := ⟨("_law_word", none), "_law_word", "_law_word", defArgs (top 46), defBody (top 46), defScope (top 46), [], []⟩
def dd__law_are_refused : He.DefD := ⟨("_law_are_refused", none), "_law_are_refused", "_law_are_refused", defArgs (top 53), defBody (top 53), defScope (top 53), [], []⟩
def dd_law : He.DefD := ⟨("law", none), "law", "law", defArgs (top 54), defBody (top 54), defScope (top 54), [], []⟩
def fn : List He.DefD := [dd__law_hand, dd_common, dd_fraction, dd_all_exchanged, dd_is_sized, dd_is_integer, dd_is_fraction, dd_check_place, dd_minus, dd_whole_below, dd_round_place, dd_times, dd_off_by, dd_hour_told, dd_is_time, dd_check_time, dd_hand_place, dd_exchanged, dd__law_is, dd_plus, dd_is_less, dd_nearest_time, dd__law_cut, dd__law_draw, dd__law_some, dd__law_time, dd__law_times, dd__law_rest, dd__law_minus, dd__law_told, dd__law_place, dd__law_bent, dd__law_plus, dd__law_less, dd__law_far, dd__law_nearest, dd__law_exchanged, dd_is_hour_told, dd__law_is_right, dd__law_no_place, dd__law_no_time, dd__law_word, dd__law_are_refused, dd_law]
def fa : List He.Fa := [.glo "_law_hand", .glo "common", .glo "fraction", .glo "all_exchanged", .glo "is_sized", .glo "is_integer", .glo "is_fraction", .glo "check_place", .glo "minus", .glo "whole_below", .glo "round_place", .glo "times", .glo "off_by", .glo "hour_told", .glo "is_time", .glo "check_time", .glo "hand_place", .glo "exchanged", .glo "_law_is", .glo "plus", .glo "is_less", .glo "nearest_time", .glo "_law_cut", .glo "_law_draw", .glo "_law_some", .glo "_law_time", .glo "_law_times", .glo "_law_rest", .glo "_law_minus", .glo "_law_told", .glo "_law_place", .glo "_law_bent", .glo "_law_plus", .glo "_law_less", .glo "_law_far", .glo "_law_nearest", .glo "_law_exchanged", .glo "is_hour_told", .glo "_law_is_right", .glo "_law_no_place", .glo "_law_no_time", .glo "_law_word", .glo "_law_are_refused", .glo "law", .free "ValueError", .free "abs", .free "all", .free "bool", .free "int", .free "isinstance", .free "len", .free "list", .free "range", .free "str", .free "tuple", .free "zip", .glo "NoPlace", .exc "NoPlace", .glo "NoTime", .exc "NoTime", .glo "RiddleError", .int "HOURS" 12, .str "OFF_WORD" "off", .str "TIME_WORD" "time", .glo "TURNS"]
abbrev R : PySem.W.OpenRow := PySem.W.OpenLaw.row PySem.Challenge.rw_wayriddles_k11_whole_hands_told_back
def exB (K : PySem.W.Frag) : Bool := errB errs owns etys "RiddleError" K && (He.tupB K "TURNS" [.int 1, .int 12, .int 720] && (true))
def tf : List He.Defn := [("_law_are_refused", none)]
abbrev hk : PySem.W.Hook := He.hookX 4 fa fn [] tf exB
def ob (s : PySem.W.SharedT) : He.AlX := He.obsX 4 fa fn [] tf exB (HandSHeadRun.getT s)
theorem ob_eq (s : PySem.W.SharedT) : ob s = hk.obs s.abs := He.obsX_eq (HandSHeadRun.getT_eq s)
def lo0 : List Str := ["is_integer", "is_sized", "common", "fraction", "is_fraction", "plus", "minus", "times", "is_less", "RiddleError", "NoPlace", "NoTime", "HOURS", "TIME_WORD", "OFF_WORD", "TURNS", "whole_below", "round_place", "is_time", "check_time", "check_place", "hand_place", "off_by", "hour_told", "is_hour_told", "nearest_time", "exchanged", "all_exchanged", "_law_hand", "_law_draw"]
def lo1 : List Str := ["_law_some", "_law_is", "_law_cut", "_law_plus", "_law_minus", "_law_times", "_law_less", "_law_rest", "_law_time", "_law_place", "_law_no_time", "_law_no_place", "_law_word", "_law_told", "_law_far", "_law_nearest", "_law_exchanged", "_law_bent", "_law_is_right", "_law_are_refused"]
def loose : List Str := lo0 ++ lo1
set_option maxRecDepth 1000000 in
theorem run (w : World) : HandSHeadRun.RunEq R (PySem.W.view R.prog [54]) hk ob 40000 loose w := by
  intro os
  kernel_rfl
def T0 (K : PySem.W.Frag) : List (Addr × Str) := [((He.cT K ("_law_are_refused", none)).2, ("_law_are_refused" : Str) ++ ".<locals>." ++ "<lambda>")]
def mkl (K : PySem.W.Frag) : List (Addr × Addr) := [He.cT K ("_law_are_refused", none)]
theorem facts {P : Program} {w : World} {K : PySem.W.Frag} {h : Heap} {mg : Str → Option Value} {f : Addr} (X : K.In h) (G : h.Ns mainGlobals mg) (hfa : mg ("law" : Str) = some (.ref f)) (cx : He.SaysX fa fn [] tf exB w h K) :
    ∃ fd : FuncData, (∀ (s : Shared) (v : Value), BindsTo s fd ⟨[v], []⟩ [("script", v)]) ∧ ∀ base : Heap, K.In base → base.Ns mainGlobals mg → (∀ p ∈ mkl K, LamX.TabB base mg p.1 p.2) → FnG P w K mg base 13 f fd ["script"] (spPT K mg (T0 K) 1 (F_law (He.ga K))) := by
  have c := cx.t.d
  obtain ⟨fd__law_hand, f__law_hand⟩ := c.def_ 0 (d := dd__law_hand) rfl
  obtain ⟨fd_common, f_common⟩ := c.def_ 1 (d := dd_common) rfl
  obtain ⟨fd_fraction, f_fraction⟩ := c.def_ 2 (d := dd_fraction) rfl
  obtain ⟨fd_all_exchanged, f_all_exchanged⟩ := c.def_ 3 (d := dd_all_exchanged) rfl
  obtain ⟨fd_is_sized, f_is_sized⟩ := c.def_ 4 (d := dd_is_sized) rfl
  obtain ⟨fd_is_integer, f_is_integer⟩ := c.def_ 5 (d := dd_is_integer) rfl
  obtain ⟨fd_is_fraction, f_is_fraction⟩ := c.def_ 6 (d := dd_is_fraction) rfl
  obtain ⟨fd_check_place, f_check_place⟩ := c.def_ 7 (d := dd_check_place) rfl
  obtain ⟨fd_minus, f_minus⟩ := c.def_ 8 (d := dd_minus) rfl
  obtain ⟨fd_whole_below, f_whole_below⟩ := c.def_ 9 (d := dd_whole_below) rfl
  obtain ⟨fd_round_place, f_round_place⟩ := c.def_ 10 (d := dd_round_place) rfl
  obtain ⟨fd_times, f_times⟩ := c.def_ 11 (d := dd_times) rfl
  obtain ⟨fd_off_by, f_off_by⟩ := c.def_ 12 (d := dd_off_by) rfl
  obtain ⟨fd_hour_told, f_hour_told⟩ := c.def_ 13 (d := dd_hour_told) rfl
  obtain ⟨fd_is_time, f_is_time⟩ := c.def_ 14 (d := dd_is_time) rfl
  obtain ⟨fd_check_time, f_check_time⟩ := c.def_ 15 (d := dd_check_time) rfl
  obtain ⟨fd_hand_place, f_hand_place⟩ := c.def_ 16 (d := dd_hand_place) rfl
  obtain ⟨fd_exchanged, f_exchanged⟩ := c.def_ 17 (d := dd_exchanged) rfl
  obtain ⟨fd__law_is, f__law_is⟩ := c.def_ 18 (d := dd__law_is) rfl
  obtain ⟨fd_plus, f_plus⟩ := c.def_ 19 (d := dd_plus) rfl
  obtain ⟨fd_is_less, f_is_less⟩ := c.def_ 20 (d := dd_is_less) rfl
  obtain ⟨fd_nearest_time, f_nearest_time⟩ := c.def_ 21 (d := dd_nearest_time) rfl
  obtain ⟨fd__law_cut, f__law_cut⟩ := c.def_ 22 (d := dd__law_cut) rfl
  obtain ⟨fd__law_draw, f__law_draw⟩ := c.def_ 23 (d := dd__law_draw) rfl
  obtain ⟨fd__law_some, f__law_some⟩ := c.def_ 24 (d := dd__law_some) rfl
  obtain ⟨fd__law_time, f__law_time⟩ := c.def_ 25 (d := dd__law_time) rfl
  obtain ⟨fd__law_times, f__law_times⟩ := c.def_ 26 (d := dd__law_times) rfl
  obtain ⟨fd__law_rest, f__law_rest⟩ := c.def_ 27 (d := dd__law_rest) rfl
  obtain ⟨fd__law_minus, f__law_minus⟩ := c.def_ 28 (d := dd__law_minus) rfl
  obtain ⟨fd__law_told, f__law_told⟩ := c.def_ 29 (d := dd__law_told) rfl
  obtain ⟨fd__law_place, f__law_place⟩ := c.def_ 30 (d := dd__law_place) rfl
  obtain ⟨fd__law_bent, f__law_bent⟩ := c.def_ 31 (d := dd__law_bent) rfl
  obtain ⟨fd__law_plus, f__law_plus⟩ := c.def_ 32 (d := dd__law_plus) rfl
  obtain ⟨fd__law_less, f__law_less⟩ := c.def_ 33 (d := dd__law_less) rfl
  obtain ⟨fd__law_far, f__law_far⟩ := c.def_ 34 (d := dd__law_far) rfl
  obtain ⟨fd__law_nearest, f__law_nearest⟩ := c.def_ 35 (d := dd__law_nearest) rfl
  obtain ⟨fd__law_exchanged, f__law_exchanged⟩ := c.def_ 36 (d := dd__law_exchanged) rfl
  obtain ⟨fd_is_hour_told, f_is_hour_told⟩ := c.def_ 37 (d := dd_is_hour_told) rfl
  obtain ⟨fd__law_is_right, f__law_is_right⟩ := c.def_ 38 (d := dd__law_is_right) rfl
  obtain ⟨fd__law_no_place, f__law_no_place⟩ := c.def_ 39 (d := dd__law_no_place) rfl
  obtain ⟨fd__law_no_time, f__law_no_time⟩ := c.def_ 40 (d := dd__law_no_time) rfl
  obtain ⟨fd__law_word, f__law_word⟩ := c.def_ 41 (d := dd__law_word) rfl
  obtain ⟨fd__law_are_refused, f__law_are_refused⟩ := c.def_ 42 (d := dd__law_are_refused) rfl
  obtain ⟨fd_law, f_law⟩ := c.def_ 43 (d := dd_law) rfl
  have m__law_hand := He.glo_ok X G (c.fact 0 (f := .glo "_law_hand") rfl)
  have m_common := He.glo_ok X G (c.fact 1 (f := .glo "common") rfl)
  have m_fraction := He.glo_ok X G (c.fact 2 (f := .glo "fraction") rfl)
  have m_all_exchanged := He.glo_ok X G (c.fact 3 (f := .glo "all_exchanged") rfl)
  have m_is_sized := He.glo_ok X G (c.fact 4 (f := .glo "is_sized") rfl)
  have m_is_integer := He.glo_ok X G (c.fact 5 (f := .glo "is_integer") rfl)
  have m_is_fraction := He.glo_ok X G (c.fact 6 (f := .glo "is_fraction") rfl)
  have m_check_place := He.glo_ok X G (c.fact 7 (f := .glo "check_place") rfl)
  have m_minus := He.glo_ok X G (c.fact 8 (f := .glo "minus") rfl)
  have m_whole_below := He.glo_ok X G (c.fact 9 (f := .glo "whole_below") rfl)
  have m_round_place := He.glo_ok X G (c.fact 10 (f := .glo "round_place") rfl)
  have m_times := He.glo_ok X G (c.fact 11 (f := .glo "times") rfl)
  have m_off_by := He.glo_ok X G (c.fact 12 (f := .glo "off_by") rfl)
  have m_hour_told := He.glo_ok X G (c.fact 13 (f := .glo "hour_told") rfl)
  have m_is_time := He.glo_ok X G (c.fact 14 (f := .glo "is_time") rfl)
  have m_check_time := He.glo_ok X G (c.fact 15 (f := .glo "check_time") rfl)
  have m_hand_place := He.glo_ok X G (c.fact 16 (f := .glo "hand_place") rfl)
  have m_exchanged := He.glo_ok X G (c.fact 17 (f := .glo "exchanged") rfl)
  have m__law_is := He.glo_ok X G (c.fact 18 (f := .glo "_law_is") rfl)
  have m_plus := He.glo_ok X G (c.fact 19 (f := .glo "plus") rfl)
  have m_is_less := He.glo_ok X G (c.fact 20 (f := .glo "is_less") rfl)
  have m_nearest_time := He.glo_ok X G (c.fact 21 (f := .glo "nearest_time") rfl)
  have m__law_cut := He.glo_ok X G (c.fact 22 (f := .glo "_law_cut") rfl)
  have m__law_draw := He.glo_ok X G (c.fact 23 (f := .glo "_law_draw") rfl)
  have m__law_some := He.glo_ok X G (c.fact 24 (f := .glo "_law_some") rfl)
  have m__law_time := He.glo_ok X G (c.fact 25 (f := .glo "_law_time") rfl)
  have m__law_times := He.glo_ok X G (c.fact 26 (f := .glo "_law_times") rfl)
  have m__law_rest := He.glo_ok X G (c.fact 27 (f := .glo "_law_rest") rfl)
  have m__law_minus := He.glo_ok X G (c.fact 28 (f := .glo "_law_minus") rfl)
  have m__law_told := He.glo_ok X G (c.fact 29 (f := .glo "_law_told") rfl)
  have m__law_place := He.glo_ok X G (c.fact 30 (f := .glo "_law_place") rfl)
  have m__law_bent := He.glo_ok X G (c.fact 31 (f := .glo "_law_bent") rfl)
  have m__law_plus := He.glo_ok X G (c.fact 32 (f := .glo "_law_plus") rfl)
  have m__law_less := He.glo_ok X G (c.fact 33 (f := .glo "_law_less") rfl)
  have m__law_far := He.glo_ok X G (c.fact 34 (f := .glo "_law_far") rfl)
  have m__law_nearest := He.glo_ok X G (c.fact 35 (f := .glo "_law_nearest") rfl)
  have m__law_exchanged := He.glo_ok X G (c.fact 36 (f := .glo "_law_exchanged") rfl)
  have m_is_hour_told := He.glo_ok X G (c.fact 37 (f := .glo "is_hour_told") rfl)
  have m__law_is_right := He.glo_ok X G (c.fact 38 (f := .glo "_law_is_right") rfl)
  have m__law_no_place := He.glo_ok X G (c.fact 39 (f := .glo "_law_no_place") rfl)
  have m__law_no_time := He.glo_ok X G (c.fact 40 (f := .glo "_law_no_time") rfl)
  have m__law_word := He.glo_ok X G (c.fact 41 (f := .glo "_law_word") rfl)
  have m__law_are_refused := He.glo_ok X G (c.fact 42 (f := .glo "_law_are_refused") rfl)
  have m_law := He.glo_ok X G (c.fact 43 (f := .glo "law") rfl)
  have e := hfa.symm.trans m_law
  cases e
  have mo0 : exB K = true := cx.more
  have ex0 := (He.ba mo0).1
  have mo1 := (He.ba mo0).2
  have ex1 := (He.ba mo1).1
  have mo2 := (He.ba mo1).2
  have g_NoPlace := He.glo_ok X G (c.fact 56 (f := .glo "NoPlace") rfl)
  have g_NoTime := He.glo_ok X G (c.fact 58 (f := .glo "NoTime") rfl)
  have g_NoPlace := He.glo_ok X G (c.fact 56 (f := .glo "NoPlace") rfl)
  have g_NoTime := He.glo_ok X G (c.fact 58 (f := .glo "NoTime") rfl)
  have g_RiddleError := He.glo_ok X G (c.fact 60 (f := .glo "RiddleError") rfl)
  have T : TX K mg (He.ga K) := ⟨He.free_ok X G (c.fact 44 (f := .free "ValueError") rfl),
    He.free_ok X G (c.fact 45 (f := .free "abs") rfl),
    He.free_ok X G (c.fact 46 (f := .free "all") rfl),
    He.free_ok X G (c.fact 47 (f := .free "bool") rfl),
    He.free_ok X G (c.fact 48 (f := .free "int") rfl),
    He.free_ok X G (c.fact 49 (f := .free "isinstance") rfl),
    He.free_ok X G (c.fact 50 (f := .free "len") rfl),
    He.free_ok X G (c.fact 51 (f := .free "list") rfl),
    He.free_ok X G (c.fact 52 (f := .free "range") rfl),
    He.free_ok X G (c.fact 53 (f := .free "str") rfl),
    He.free_ok X G (c.fact 54 (f := .free "tuple") rfl),
    He.free_ok X G (c.fact 55 (f := .free "zip") rfl),
    excD_of X G (c.fact 56 (f := .glo "NoPlace") rfl) (c.fact 57 (f := .exc "NoPlace") rfl),
    excD_of X G (c.fact 58 (f := .glo "NoTime") rfl) (c.fact 59 (f := .exc "NoTime") rfl),
    errOk_of ex0 (by simp only [errs, owns, List.forall_mem_cons, List.not_mem_nil, false_implies, implies_true, and_true]; exact ⟨g_NoPlace, g_NoTime⟩) (by simp only [errs, owns, List.forall_mem_cons, List.not_mem_nil, false_implies, implies_true, and_true]; exact ⟨g_NoPlace, g_NoTime⟩) g_RiddleError,
    intD_of X G (c.fact 61 (f := .int "HOURS" 12) rfl),
    strD_of X G (c.fact 62 (f := .str "OFF_WORD" "off") rfl),
    strD_of X G (c.fact 63 (f := .str "TIME_WORD" "time") rfl),
    tupD_of (He.glo_ok X G (c.fact 64 (f := .glo "TURNS") rfl)) ex1,
    (fun x hx => by
      simp only [List.mem_cons, List.not_mem_nil, or_false] at hx
      rcases hx with rfl | rfl
      · exact m_hour_told
      · exact m_nearest_time)⟩
  refine ⟨fd_law, fun s v => FunD.bindsA (ps := ["script"]) f_law (fun _ _ _ _ _ _ us hl => match us, hl with | [_], _ => rfl) s [v] rfl, fun base _ _ tb => ?_⟩
  have uq__law_are_refused : ∀ p ∈ T0 K, p.1 = (He.cT K ("_law_are_refused", none)).2 → p = ((He.cT K ("_law_are_refused", none)).2, ("_law_are_refused" : Str) ++ ".<locals>." ++ "<lambda>") := fun p hp e2 => by
    simp only [T0, List.mem_cons, List.not_mem_nil, or_false] at hp
    exact hp
  have c__law_hand := p__law_hand (P := P) (w := w) (base := base) T  f__law_hand m__law_hand
  have c_common := p_common (P := P) (w := w) (base := base) T  f_common m_common
  have c_fraction := p_fraction (P := P) (w := w) (base := base) T c_common f_fraction m_fraction
  have c_all_exchanged := p_all_exchanged (P := P) (w := w) (base := base) T c_fraction f_all_exchanged m_all_exchanged
  have c_is_sized := p_is_sized (P := P) (w := w) (base := base) T  f_is_sized m_is_sized
  have c_is_integer := p_is_integer (P := P) (w := w) (base := base) T  f_is_integer m_is_integer
  have c_is_fraction := p_is_fraction (P := P) (w := w) (base := base) T c_is_sized c_is_integer c_common f_is_fraction m_is_fraction
  have c_check_place := p_check_place (P := P) (w := w) (base := base) T c_is_fraction f_check_place m_check_place
  have c_minus := p_minus (P := P) (w := w) (base := base) T c_fraction f_minus m_minus
  have c_whole_below := p_whole_below (P := P) (w := w) (base := base) T  f_whole_below m_whole_below
  have c_round_place := p_round_place (P := P) (w := w) (base := base) T c_minus c_whole_below f_round_place m_round_place
  have c_times := p_times (P := P) (w := w) (base := base) T c_fraction f_times m_times
  have c_off_by := p_off_by (P := P) (w := w) (base := base) T c_round_place c_minus c_times f_off_by m_off_by
  have c_hour_told := p_hour_told (P := P) (w := w) (base := base) T c_check_place c_off_by c_times f_hour_told m_hour_told
  have c_is_time := p_is_time (P := P) (w := w) (base := base) T c_is_fraction f_is_time m_is_time
  have c_check_time := p_check_time (P := P) (w := w) (base := base) T c_is_time f_check_time m_check_time
  have c_hand_place := p_hand_place (P := P) (w := w) (base := base) T c_round_place c_times c_fraction f_hand_place m_hand_place
  have c_exchanged := p_exchanged (P := P) (w := w) (base := base) T c_check_time c_hand_place c_off_by c_times f_exchanged m_exchanged
  have c__law_is := p__law_is (P := P) (w := w) (base := base) T  f__law_is m__law_is 9
  have c_plus := p_plus (P := P) (w := w) (base := base) T c_fraction f_plus m_plus
  have c_is_less := p_is_less (P := P) (w := w) (base := base) T  f_is_less m_is_less
  have c_nearest_time := p_nearest_time (P := P) (w := w) (base := base) T c_check_place c_plus c_round_place c_minus c_hand_place c_is_less f_nearest_time m_nearest_time
  have c__law_cut := p__law_cut (P := P) (w := w) (base := base) T  f__law_cut m__law_cut
  have c__law_draw := p__law_draw (P := P) (w := w) (base := base) T  f__law_draw m__law_draw
  have c__law_some := p__law_some (P := P) (w := w) (base := base) T c__law_draw f__law_some m__law_some
  have c__law_time := p__law_time (P := P) (w := w) (base := base) T c__law_some c__law_draw c__law_cut f__law_time m__law_time
  have c__law_times := p__law_times (P := P) (w := w) (base := base) T c__law_cut f__law_times m__law_times
  have c__law_rest := p__law_rest (P := P) (w := w) (base := base) T  f__law_rest m__law_rest
  have c__law_minus := p__law_minus (P := P) (w := w) (base := base) T c__law_cut f__law_minus m__law_minus
  have c__law_told := p__law_told (P := P) (w := w) (base := base) T c__law_times c__law_rest c__law_minus f__law_told m__law_told
  have c__law_place := p__law_place (P := P) (w := w) (base := base) T c__law_some c__law_draw c__law_cut f__law_place m__law_place
  have c__law_bent := p__law_bent (P := P) (w := w) (base := base) T c__law_place c__law_some f__law_bent m__law_bent
  have c__law_plus := p__law_plus (P := P) (w := w) (base := base) T c__law_cut f__law_plus m__law_plus
  have c__law_less := p__law_less (P := P) (w := w) (base := base) T  f__law_less m__law_less
  have c__law_far := p__law_far (P := P) (w := w) (base := base) T c__law_rest c__law_minus c__law_less f__law_far m__law_far
  have c__law_nearest := p__law_nearest (P := P) (w := w) (base := base) T c__law_plus c__law_far c__law_cut c__law_less f__law_nearest m__law_nearest
  have c__law_exchanged := p__law_exchanged (P := P) (w := w) (base := base) T c__law_cut c__law_times f__law_exchanged m__law_exchanged
  have c_is_hour_told := p_is_hour_told (P := P) (w := w) (base := base) T c_hour_told c_is_sized c_is_fraction f_is_hour_told m_is_hour_told
  have c__law_is_right := p__law_is_right (P := P) (w := w) (base := base) T c__law_time c__law_place c__law_draw c__law_cut c__law_is c_hour_told c__law_told c__law_bent c_is_hour_told c_nearest_time c__law_nearest c__law_some c_exchanged c__law_exchanged f__law_is_right m__law_is_right
  have c__law_no_place := p__law_no_place (P := P) (w := w) (base := base) T c__law_some f__law_no_place m__law_no_place
  have c__law_no_time := p__law_no_time (P := P) (w := w) (base := base) T c__law_some f__law_no_time m__law_no_time
  have c__law_word := p__law_word (P := P) (w := w) (base := base) T  f__law_word m__law_word
  have c__law_are_refused := p__law_are_refused (P := P) (w := w) (base := base) (TT := T0 K) T c__law_no_place c__law_word c_nearest_time c_hour_told c_is_hour_told c_exchanged c__law_no_time f__law_are_refused m__law_are_refused List.mem_cons_self (uq__law_are_refused) (code_ref (p := ("_law_are_refused", none)) f__law_are_refused) (tb _ List.mem_cons_self)
  exact fnG_PT f_law sc_law mkOk_none (d_law (TT := T0 K) T c__law_hand c_hour_told c_exchanged c_nearest_time c__law_is c_all_exchanged c__law_cut c__law_is_right c__law_are_refused)
theorem fvne {w : World} {K : PySem.W.Frag} {h : Heap} (cx : He.SaysX fa fn [] tf exB w h K) : FvNe (He.ga K) := by
  have c := cx.t.d
  obtain ⟨fd_hour_told, f_hour_told⟩ := c.def_ 13 (d := dd_hour_told) rfl
  obtain ⟨fd_nearest_time, f_nearest_time⟩ := c.def_ 21 (d := dd_nearest_time) rfl
  exact fund_ne f_hour_told f_nearest_time (by decide)
end K11
open PySem PySem.W PySem.Calls PyProof.Rows L2 DL in
set_option maxRecDepth 100000 in
set_option maxHeartbeats 0 in
theorem PySem.Challenge.cw_wayriddles_k11_whole_hands_told_back_holds : PySem.Challenge.rw_wayriddles_k11_whole_hands_told_back.Holds := by
  w_on; o_law
  refine HandSHeadRun.head_any (r := OpenLaw.row PySem.Challenge.rw_wayriddles_k11_whole_hands_told_back) (q := view (OpenLaw.row PySem.Challenge.rw_wayriddles_k11_whole_hands_told_back).prog [54]) (H := K11.hk) (ob := K11.ob) (M := 40000) (loose := K11.loose) (d := HandSHeadRun.topDef (OpenLaw.row PySem.Challenge.rw_wayriddles_k11_whole_hands_told_back).prog 54) (kwd := []) K11.ob_eq
    (by kernel_rfl) (fun s => by kernel_rfl) K11.run (by kernel_rfl) (by kernel_rfl) (by kernel_rfl) (by rfl) (by first | assumption | decide +kernel) (by decide +kernel) ⟨rfl, rfl, rfl, rfl, rfl, by decide +kernel⟩ ?hw ?hc
  case hw => w_witness2
  case hc =>
    refine DL.walk_G (l := PySem.Challenge.rw_wayriddles_k11_whole_hands_told_back) (n := 63) (k := 13) (x := "script") rfl (by decide) (by kernel_rfl) ⟨rfl, by decide, by decide⟩ ?F
    intro w mg fa h Y G hmg0
    obtain ⟨K, KX, c⟩ := Y
    have hmg : mg ("law" : PySem.Str) = some (.ref fa) := by
      have e : (HandSHeadRun.topDef (OpenLaw.row PySem.Challenge.rw_wayriddles_k11_whole_hands_told_back).prog 54).name = ("law" : PySem.Str) := by kernel_rfl
      rw [← e]
      exact hmg0
    obtain ⟨fd, hb, hF⟩ := K11.facts (P := (PySem.Challenge.rw_wayriddles_k11_whole_hands_told_back).prog) (w := w) KX G hmg c
    have one : ∀ p ∈ K11.mkl K, ∃ q ∈ K11.tf, p = He.cT K q := fun p hp => by
      simp only [K11.mkl, List.mem_cons, List.not_mem_nil, or_false] at hp
      rcases hp with rfl
      · exact ⟨("_law_are_refused", none), by decide, rfl⟩
    refine ⟨K, KX, fd, K11.mkl K, DL.spPT K mg (K11.T0 K) 1 (K11.F_law (He.ga K)), (fun p hp => ?h1), (fun p hp => ?h2), (fun p hp => ?h3), hb, fun H a ns hl hbits tb z => ?h4, fun base h1 h2 htb => hF base h1 h2 htb⟩
    case h1 => obtain ⟨q, hq, rfl⟩ := one p hp; exact c.empty q hq
    case h2 => obtain ⟨q, hq, rfl⟩ := one p hp; exact c.out q hq
    case h3 => obtain ⟨q, hq, rfl⟩ := one p hp; exact PySem.W.codeHd_of_K KX (c.hd q hq)
    case h4 =>
      refine DL.law_spT (cs := K11.mkl K) (fun p hp => ?_) (K11.law_pure (He.ga K) (K11.fvne c) ns hl hbits) tb z
      simp only [K11.T0, List.mem_cons, List.not_mem_nil, or_false] at hp
      rcases hp with rfl
      · exact ⟨(He.cT K ("_law_are_refused", none)).1, List.mem_cons_self⟩

