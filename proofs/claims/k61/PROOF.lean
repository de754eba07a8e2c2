import PyProof.Rows.All
import Wide.All
import OpenK.AllK
import Wide.FinOn
import HandS.ForMost
import HandS.ForExc
import HandS.Conv
import HandS.TupAny
import HandS.IsInst
import HandS.Style
import HandS.Wide
import HandS.SortInts
import HandS.SortRule
import HandS.Rev
import HandS.Zip
import KE.OsSort
import HandS.CallSlots
import HandS.EndBits
import KE.GoesEnum
import HandS.SetFor
import HandS.Strs
import KE.DataMinMax
import KE.SortData
import PySem.Challenge.RW_calmhouse_k61_wish_paper
set_option Elab.async false
set_option linter.all false
set_option maxRecDepth 100000
set_option maxHeartbeats 4000000
/-! VS1: plain data trees, how they stand in the abstract heap, who owns what. -/
namespace VS
open PySem PySem.Spec L2
/-- said by computing, but no step for dsimp -/
theorem eqr {α : Sort _} {a b : α} (h : a = b) : a = b := h

inductive D where
  | non
  | bl (b : Bool)
  | int (i : Int)
  | str (s : Str)
  | tup (xs : List D)
  | lst (xs : List D)
  | dct (ks : List Key) (vs : List D)
  | ins (c : Nat) (vs : List D)
  | scr (xs : List D)

abbrev Pz := Addr → Prop
/-- a list, a tuple that stays as it is for ever: its cell is in Z, or an object of the module -/
def FzL (K : PySem.W.Frag) (Z : Pz) (H : Hp) (a : Addr) (xs : List V) : Prop :=
  (Z a ∧ Rd H a (.lst xs)) ∨
    ∃ (o : Obj) (its : Array Value) (n : Nat), K.lookup a = some o ∧ o.cls = .type "list" ∧ o.dict = none ∧ o.data = .seq its n ∧ its.size ≤ sizeLine ∧ Vals xs its.toList
def FzT (K : PySem.W.Frag) (Z : Pz) (H : Hp) (a : Addr) (xs : List V) : Prop :=
  (Z a ∧ Rd H a (.tup xs)) ∨
    ∃ (o : Obj) (its : Array Value) (n : Nat), K.lookup a = some o ∧ o.cls = .type "tuple" ∧ o.data = .seq its n ∧ its.size ≤ sizeLine ∧ Vals xs its.toList

section
variable (K : PySem.W.Frag)
mutual
/-- the value v is the tree d; the cells of its upper k floors are owned: they stand in the list -/
inductive Rp (Z : Pz) (H : Hp) : V → D → Nat → List Addr → Prop
  | non (k : Nat) : Rp Z H .non .non k []
  | bl (b : Bool) (k : Nat) : Rp Z H (.bl b) (.bl b) k []
  | int (i : Int) (k : Nat) : Rp Z H (.int i) (.int i) k []
  | str (x : Str) (k : Nat) : Rp Z H (.str x) (.str x) k []
  | tup {a : Addr} {xs : List V} {ds : List D} (k : Nat) : Z a → H a = some (.tup xs) → RpAll Z H xs ds 0 [] → Rp Z H (.ref a) (.tup ds) k []
  | lst0 {a : Addr} {xs : List V} {ds : List D} : Z a → H a = some (.lst xs) → RpAll Z H xs ds 0 [] → Rp Z H (.ref a) (.lst ds) 0 []
  | scr {a : Addr} {xs : List V} {ds : List D} (k : Nat) : (FzL K Z H a xs ∨ FzT K Z H a xs) → RpAll Z H xs ds 0 [] → Rp Z H (.ref a) (.scr ds) k []
  | lstS {a : Addr} {xs : List V} {ds : List D} {k : Nat} {o : List Addr} : H a = some (.lst xs) → RpAll Z H xs ds k o → Rp Z H (.ref a) (.lst ds) (k + 1) (a :: o)
  | dct0 {a : Addr} {ks : List Key} {xs : List V} {ds : List D} : Z a → H a = some (.dK (ks.zip xs)) → ks.length = xs.length → RpAll Z H xs ds 0 [] → Rp Z H (.ref a) (.dct ks ds) 0 []
  | dctS {a : Addr} {ks : List Key} {xs : List V} {ds : List D} {k : Nat} {o : List Addr} : H a = some (.dK (ks.zip xs)) → ks.length = xs.length → RpAll Z H xs ds k o → Rp Z H (.ref a) (.dct ks ds) (k + 1) (a :: o)
inductive RpAll (Z : Pz) (H : Hp) : List V → List D → Nat → List Addr → Prop
  | nil (k : Nat) : RpAll Z H [] [] k []
  | cons {v : V} {d : D} {vs : List V} {ds : List D} {k : Nat} {o p : List Addr} : Rp Z H v d k o → RpAll Z H vs ds k p → RpAll Z H (v :: vs) (d :: ds) k (o ++ p)
end
end

section
variable {K : PySem.W.Frag} {Z Z' F F' : Pz} {H H' : Hp}
theorem FzL.keep {a : Addr} {xs : List V} (h : FzL K Z H a xs) (hz : ∀ a, Z a → Z' a ∧ H' a = H a) : FzL K Z' H' a xs := by
  rcases h with ⟨z, r⟩ | h
  · obtain ⟨z', e⟩ := hz a z
    refine .inl ⟨z', ?_⟩
    rcases r with r | ⟨o, r⟩
    · exact .inl (e.trans r)
    · exact .inr ⟨o, e.trans r⟩
  · exact .inr h
theorem FzT.keep {a : Addr} {xs : List V} (h : FzT K Z H a xs) (hz : ∀ a, Z a → Z' a ∧ H' a = H a) : FzT K Z' H' a xs := by
  rcases h with ⟨z, r⟩ | h
  · obtain ⟨z', e⟩ := hz a z
    refine .inl ⟨z', ?_⟩
    rcases r with r | ⟨o, r⟩
    · exact .inl (e.trans r)
    · exact .inr ⟨o, e.trans r⟩
  · exact .inr h
theorem FzL.sq {a : Addr} {xs : List V} (h : FzL K Z H a xs) : SqL K H a xs := by
  rcases h with ⟨_, r⟩ | h
  · exact .inl r
  · exact .inr h
theorem FzT.sq {a : Addr} {xs : List V} (h : FzT K Z H a xs) : SqT K H a xs := by
  rcases h with ⟨_, r⟩ | h
  · exact .inl r
  · exact .inr h
mutual
theorem Rp.keep {v : V} {d : D} {k : Nat} {o : List Addr} (hz : ∀ a, Z a → Z' a ∧ H' a = H a) (ho : ∀ a ∈ o, H' a = H a) : Rp K Z H v d k o → Rp K Z' H' v d k o
  | .non k => .non k
  | .bl b k => .bl b k
  | .int i k => .int i k
  | .str x k => .str x k
  | .tup k z h r => .tup k (hz _ z).1 ((hz _ z).2.trans h) (RpAll.keep hz (fun _ z => nomatch z) r)
  | .lst0 z h r => .lst0 (hz _ z).1 ((hz _ z).2.trans h) (RpAll.keep hz (fun _ z => nomatch z) r)
  | .scr k h r => .scr k (h.elim (fun h => .inl (h.keep hz)) fun h => .inr (h.keep hz)) (RpAll.keep hz (fun _ z => nomatch z) r)
  | .lstS h r => .lstS ((ho _ List.mem_cons_self).trans h) (RpAll.keep hz (fun a m => ho a (List.mem_cons_of_mem _ m)) r)
  | .dct0 z h l r => .dct0 (hz _ z).1 ((hz _ z).2.trans h) l (RpAll.keep hz (fun _ z => nomatch z) r)
  | .dctS h l r => .dctS ((ho _ List.mem_cons_self).trans h) l (RpAll.keep hz (fun a m => ho a (List.mem_cons_of_mem _ m)) r)
theorem RpAll.keep {vs : List V} {ds : List D} {k : Nat} {o : List Addr} (hz : ∀ a, Z a → Z' a ∧ H' a = H a) (ho : ∀ a ∈ o, H' a = H a) : RpAll K Z H vs ds k o → RpAll K Z' H' vs ds k o
  | .nil k => .nil k
  | .cons h r => .cons (Rp.keep hz (fun a m => ho a (List.mem_append_left _ m)) h) (RpAll.keep hz (fun a m => ho a (List.mem_append_right _ m)) r)
end
mutual
/-- what is owned is frozen -/
theorem Rp.freeze {v : V} {d : D} {k : Nat} {o : List Addr} (hz : ∀ a, Z a → Z' a) (ho : ∀ a ∈ o, Z' a) : Rp K Z H v d k o → Rp K Z' H v d 0 []
  | .non k => .non 0
  | .bl b k => .bl b 0
  | .int i k => .int i 0
  | .str x k => .str x 0
  | .tup k z h r => .tup 0 (hz _ z) h (RpAll.freeze hz (fun _ z => absurd z List.not_mem_nil) r)
  | .lst0 z h r => .lst0 (hz _ z) h (RpAll.freeze hz (fun _ z => absurd z List.not_mem_nil) r)
  | .scr k h r => .scr 0 (h.elim (fun h => .inl (h.keep fun a z => ⟨hz a z, rfl⟩)) fun h => .inr (h.keep fun a z => ⟨hz a z, rfl⟩)) (RpAll.freeze hz (fun _ z => absurd z List.not_mem_nil) r)
  | .lstS h r => .lst0 (ho _ List.mem_cons_self) h (RpAll.freeze hz (fun a m => ho a (List.mem_cons_of_mem _ m)) r)
  | .dct0 z h l r => .dct0 (hz _ z) h l (RpAll.freeze hz (fun _ z => absurd z List.not_mem_nil) r)
  | .dctS h l r => .dct0 (ho _ List.mem_cons_self) h l (RpAll.freeze hz (fun a m => ho a (List.mem_cons_of_mem _ m)) r)
theorem RpAll.freeze {vs : List V} {ds : List D} {k : Nat} {o : List Addr} (hz : ∀ a, Z a → Z' a) (ho : ∀ a ∈ o, Z' a) : RpAll K Z H vs ds k o → RpAll K Z' H vs ds 0 []
  | .nil k => .nil 0
  | .cons h r => .cons (o := []) (p := []) (Rp.freeze hz (fun a m => ho a (List.mem_append_left _ m)) h) (RpAll.freeze hz (fun a m => ho a (List.mem_append_right _ m)) r)
end
theorem RpAll.length {vs : List V} {ds : List D} {k : Nat} {o : List Addr} : RpAll K Z H vs ds k o → vs.length = ds.length
  | .nil k => rfl
  | .cons h r => by rw [List.length_cons, List.length_cons, RpAll.length r]
theorem RpAll.nil0 {vs : List V} {ds : List D} {o : List Addr} (h : RpAll K Z H vs ds 0 o) : o = [] := by
  have hR : ∀ {v : V} {d : D} {o : List Addr}, Rp K Z H v d 0 o → o = [] := fun h => by cases h <;> rfl
  induction vs generalizing ds o with
  | nil => cases h; rfl
  | cons v vs ih =>
    cases h with
    | cons h1 h2 => rw [hR h1, ih h2]; rfl
theorem Rp.nil0 {v : V} {d : D} {o : List Addr} (h : Rp K Z H v d 0 o) : o = [] := by cases h <;> rfl

/-! ### the state: what is frozen (Z), what is somebody else's (F) -/
structure Ok0 (Z F : Pz) (H : Hp) : Prop where
  z : ∀ a, Z a → ∃ o, H a = some o
  f : ∀ a, F a → (∃ o, H a = some o) ∧ ¬ Z a
structure Ext (F Z : Pz) (H : Hp) (Z' : Pz) (H' : Hp) : Prop where
  z : ∀ a, Z a → Z' a ∧ H' a = H a
  f : ∀ a, F a → H' a = H a
theorem Ext.refl : Ext F Z H Z H := ⟨fun _ z => ⟨z, rfl⟩, fun _ _ => rfl⟩
theorem Ext.trans {Z2 : Pz} {H2 : Hp} (a : Ext F Z H Z' H') (b : Ext F Z' H' Z2 H2) : Ext F Z H Z2 H2 :=
  ⟨fun x z => ⟨(b.z x (a.z x z).1).1, (b.z x (a.z x z).1).2.trans (a.z x z).2⟩, fun x f => (b.f x f).trans (a.f x f)⟩
theorem Ext.mono (a : Ext F Z H Z' H') (h : ∀ x, F' x → F x) : Ext F' Z H Z' H' := ⟨a.z, fun x f => a.f x (h x f)⟩
abbrev uni (F : Pz) (o : List Addr) : Pz := fun a => F a ∨ a ∈ o

abbrev SD := List (Option (D × Nat))
inductive Slots (K : PySem.W.Frag) (Z : Pz) (H : Hp) : St → SD → List Addr → Prop
  | nil : Slots K Z H [] [] []
  | skip {x : Option V} {σ : St} {sd : SD} {o : List Addr} : Slots K Z H σ sd o → Slots K Z H (x :: σ) (none :: sd) o
  | cons {v : V} {d : D} {k : Nat} {σ : St} {sd : SD} {o p : List Addr} : Rp K Z H v d k o → Slots K Z H σ sd p → Slots K Z H (some v :: σ) (some (d, k) :: sd) (o ++ p)
theorem Slots.keep {σ : St} {sd : SD} {o : List Addr} (hz : ∀ a, Z a → Z' a ∧ H' a = H a) (h : Slots K Z H σ sd o) (ho : ∀ a ∈ o, H' a = H a) : Slots K Z' H' σ sd o := by
  induction h with
  | nil => exact .nil
  | skip _ ih => exact .skip (ih ho)
  | cons r _ ih => exact .cons (r.keep hz fun a m => ho a (List.mem_append_left _ m)) (ih fun a m => ho a (List.mem_append_right _ m))
theorem Slots.length {σ : St} {sd : SD} {o : List Addr} (h : Slots K Z H σ sd o) : σ.length = sd.length := by
  induction h with
  | nil => rfl
  | skip _ ih => rw [List.length_cons, List.length_cons, ih]
  | cons _ _ ih => rw [List.length_cons, List.length_cons, ih]
/-- entry i, and the rest without it -/
theorem Slots.take {σ : St} {sd : SD} {o : List Addr} {i : Nat} {d : D} {k : Nat} (h : Slots K Z H σ sd o) (e : sd[i]? = some (some (d, k))) :
    ∃ v p q, σ[i]? = some (some v) ∧ Rp K Z H v d k p ∧ Slots K Z H σ (sd.set i none) q ∧ (p ++ q).Perm o := by
  induction h generalizing i with
  | nil => cases e
  | @skip x σ sd o h ih =>
    cases i with
    | zero => cases e
    | succ i =>
      obtain ⟨v, p, q, e1, r, s, pm⟩ := ih e
      exact ⟨v, p, q, e1, r, .skip s, pm⟩
  | @cons v d' k' σ sd o p r h ih =>
    cases i with
    | zero =>
      cases e
      exact ⟨v, o, p, rfl, r, .skip h, .refl _⟩
    | succ i =>
      obtain ⟨v', p', q', e1, r', s, pm⟩ := ih e
      refine ⟨v', p', o ++ q', e1, r', .cons r s, ?_⟩
      have e2 : (p' ++ (o ++ q')).Perm (o ++ (p' ++ q')) := by
        rw [← List.append_assoc, ← List.append_assoc]
        exact List.Perm.append_right q' List.perm_append_comm
      exact e2.trans (List.Perm.append_left o pm)
/-- entry i is forgotten -/
theorem Slots.drop {σ : St} {sd : SD} {o : List Addr} (i : Nat) (h : Slots K Z H σ sd o) : ∃ q, Slots K Z H σ (sd.set i none) q ∧ (∀ a ∈ q, a ∈ o) ∧ (o.Nodup → q.Nodup) := by
  induction h generalizing i with
  | nil => exact ⟨[], .nil, fun _ z => z, fun z => z⟩
  | @skip x σ sd o h ih =>
    cases i with
    | zero => exact ⟨o, .skip h, fun _ z => z, fun z => z⟩
    | succ i =>
      obtain ⟨q, s, m, n⟩ := ih i
      exact ⟨q, .skip s, m, n⟩
  | @cons v d' k' σ sd o p r h ih =>
    cases i with
    | zero => exact ⟨p, .skip h, fun a m => List.mem_append_right _ m, fun n => (List.nodup_append.mp n).2.1⟩
    | succ i =>
      obtain ⟨q, s, m, n⟩ := ih i
      refine ⟨o ++ q, .cons r s, fun a z => ?_, fun z => ?_⟩
      · rcases List.mem_append.mp z with z | z
        · exact List.mem_append_left _ z
        · exact List.mem_append_right _ (m a z)
      · obtain ⟨n1, n2, n3⟩ := List.nodup_append.mp z
        exact List.nodup_append.mpr ⟨n1, n n2, fun a ha b hb => n3 a ha b (m b hb)⟩
/-- an entry is put where none stood -/
theorem Slots.put {σ : St} {sd : SD} {o p : List Addr} {i : Nat} {v : V} {d : D} {k : Nat} (h : Slots K Z H σ sd o) (r : Rp K Z H v d k p) (hi : sd[i]? = some none) :
    ∃ q, Slots K Z H (σ.set i (some v)) (sd.set i (some (d, k))) q ∧ (p ++ o).Perm q := by
  induction h generalizing i with
  | nil => cases hi
  | @skip x σ sd o h ih =>
    cases i with
    | zero => exact ⟨p ++ o, .cons r h, .refl _⟩
    | succ i =>
      obtain ⟨q, s, pm⟩ := ih hi
      exact ⟨q, .skip s, pm⟩
  | @cons v' d' k' σ sd o p' r' h ih =>
    cases i with
    | zero => cases hi
    | succ i =>
      obtain ⟨q, s, pm⟩ := ih hi
      refine ⟨o ++ q, .cons r' s, ?_⟩
      have e2 : (p ++ (o ++ p')).Perm (o ++ (p ++ p')) := by
        rw [← List.append_assoc, ← List.append_assoc]
        exact List.Perm.append_right p' List.perm_append_comm
      exact e2.trans (List.Perm.append_left o pm)

structure Ok (K : PySem.W.Frag) (Z F : Pz) (H : Hp) (σ : St) (sd : SD) : Prop where
  ex : ∃ o, Slots K Z H σ sd o ∧ o.Nodup ∧ (∀ a ∈ o, ¬ F a) ∧ Ok0 Z (uni F o) H
theorem Ok.base {σ : St} {sd : SD} (h : Ok K Z F H σ sd) : Ok0 Z F H := by
  obtain ⟨o, _, _, _, b⟩ := h.ex
  exact ⟨b.z, fun a f => b.f a (.inl f)⟩
theorem Ok.length {σ : St} {sd : SD} (h : Ok K Z F H σ sd) : σ.length = sd.length := by
  obtain ⟨o, s, _⟩ := h.ex
  exact s.length
/-- entry i is taken out: it is the frame's now -/
theorem Ok.take {σ : St} {sd : SD} {i : Nat} {d : D} {k : Nat} (h : Ok K Z F H σ sd) (e : sd[i]? = some (some (d, k))) :
    ∃ v p, σ[i]? = some (some v) ∧ Rp K Z H v d k p ∧ p.Nodup ∧ (∀ a ∈ p, ¬ F a) ∧ Ok K Z (uni F p) H σ (sd.set i none) := by
  obtain ⟨o, s, nd, nf, b⟩ := h.ex
  obtain ⟨v, p, q, e1, r, s', pm⟩ := s.take e
  have nd' := pm.nodup_iff.mpr nd
  obtain ⟨n1, n2, n3⟩ := List.nodup_append.mp nd'
  have mem : ∀ a, a ∈ o ↔ a ∈ p ∨ a ∈ q := fun a => by rw [← List.mem_append]; exact pm.mem_iff.symm
  refine ⟨v, p, e1, r, n1, fun a m => nf a ((mem a).mpr (.inl m)), ⟨q, s', n2, fun a m z => ?_, b.z, fun a f => b.f a ?_⟩⟩
  · rcases z with z | z
    · exact nf a ((mem a).mpr (.inr m)) z
    · exact n3 a z a m rfl
  · rcases f with (f | f) | f
    · exact .inl f
    · exact .inr ((mem a).mpr (.inl f))
    · exact .inr ((mem a).mpr (.inr f))
/-- what the frame holds is put into slot i -/
theorem Ok.put {σ : St} {sd : SD} {i : Nat} {v : V} {d : D} {k : Nat} {p : List Addr} (h : Ok K Z (uni F p) H σ sd) (r : Rp K Z H v d k p) (nd : p.Nodup) (nf : ∀ a ∈ p, ¬ F a) (hi : i < sd.length) :
    Ok K Z F H (σ.set i (some v)) (sd.set i (some (d, k))) := by
  obtain ⟨o, s, nd1, nf1, b⟩ := h.ex
  obtain ⟨o2, s2, m2, nd2⟩ := s.drop i
  have hi2 : (sd.set i none)[i]? = some none := by rw [List.getElem?_set_self hi]
  obtain ⟨q, s3, pm⟩ := s2.put r hi2
  rw [List.set_set] at s3
  refine ⟨q, s3, pm.nodup_iff.mp (List.nodup_append.mpr ⟨nd, nd2 nd1, fun a ha b hb e => ?_⟩), fun a m => ?_, b.z, fun a f => b.f a ?_⟩
  · subst e
    exact nf1 a (m2 a hb) (.inr ha)
  · rcases List.mem_append.mp (pm.mem_iff.mpr m) with m | m
    · exact nf a m
    · exact fun z => nf1 a (m2 a m) (.inl z)
  · rcases f with f | f
    · exact .inl (.inl f)
    · rcases List.mem_append.mp (pm.mem_iff.mpr f) with m | m
      · exact .inl (.inr m)
      · exact .inr (m2 a m)
/-- the same, the slot's name too is as before (an entry comes back) -/
theorem Ok.back {σ : St} {sd : SD} {i : Nat} {v : V} {d : D} {k : Nat} {p : List Addr} (h : Ok K Z (uni F p) H σ sd) (r : Rp K Z H v d k p) (nd : p.Nodup) (nf : ∀ a ∈ p, ¬ F a) (hi : σ[i]? = some (some v)) :
    Ok K Z F H σ (sd.set i (some (d, k))) := by
  have hl : i < σ.length := (List.getElem?_eq_some_iff.mp hi).1
  have q := h.put r nd nf (by rw [← h.length]; exact hl)
  have e : σ.set i (some v) = σ := by
    obtain ⟨hi1, hi2⟩ := List.getElem?_eq_some_iff.mp hi
    rw [← hi2]
    exact List.set_getElem_self hi1
  rw [e] at q
  exact q
theorem Ok.forget {σ : St} {sd : SD} (i : Nat) (h : Ok K Z F H σ sd) : Ok K Z F H σ (sd.set i none) := by
  obtain ⟨o, s, nd, nf, b⟩ := h.ex
  obtain ⟨q, s2, m2, nd2⟩ := s.drop i
  exact ⟨q, s2, nd2 nd, fun a m => nf a (m2 a m), b.z, fun a f => b.f a (f.elim .inl fun m => .inr (m2 a m))⟩
/-- the world went on, the frame and what is frozen stand -/
theorem Ok.ext {σ : St} {sd : SD} (h : Ok K Z F H σ sd) : ∃ o, (∀ a ∈ o, ¬ F a) ∧ Ok0 Z (uni F o) H ∧ ∀ {Z' H' F'}, Ext (uni F o) Z H Z' H' → (∀ a ∈ o, ¬ F' a) → Ok0 Z' (uni F' o) H' → Ok K Z' F' H' σ sd := by
  obtain ⟨o, s, nd, nf, b⟩ := h.ex
  exact ⟨o, nf, b, fun x nf' b' => ⟨o, s.keep x.z fun a m => x.f a (.inr m), nd, nf', b'⟩⟩
/-- what the frame holds at p is frozen -/
theorem Ok.freeze {σ : St} {sd : SD} {p : List Addr} (h : Ok K Z (uni F p) H σ sd) (nf : ∀ a ∈ p, ¬ F a) : Ok K (uni Z p) F H σ sd := by
  obtain ⟨o, s, nd, nf1, b⟩ := h.ex
  refine ⟨o, s.keep (fun a z => ⟨.inl z, rfl⟩) fun _ _ => rfl, nd, fun a m z => nf1 a m (.inl z), fun a z => ?_, fun a f => ?_⟩
  · rcases z with z | z
    · exact b.z a z
    · exact (b.f a (.inl (.inr z))).1
  · rcases f with f | f
    · refine ⟨(b.f a (.inl (.inl f))).1, fun z => ?_⟩
      rcases z with z | z
      · exact (b.f a (.inl (.inl f))).2 z
      · exact nf a z f
    · refine ⟨(b.f a (.inr f)).1, fun z => ?_⟩
      rcases z with z | z
      · exact (b.f a (.inr f)).2 z
      · exact nf1 a f (.inr z)
theorem Ext.uni {p : List Addr} : Ext F Z H (VS.uni Z p) H := ⟨fun _ z => ⟨.inl z, rfl⟩, fun _ _ => rfl⟩
/-- the frame is made smaller -/
theorem Ok.less {σ : St} {sd : SD} (h : Ok K Z F H σ sd) (hf : ∀ a, F' a → F a) : Ok K Z F' H σ sd := by
  obtain ⟨o, s, nd, nf, b⟩ := h.ex
  exact ⟨o, s, nd, fun a m z => nf a m (hf a z), b.z, fun a f => b.f a (f.elim (fun z => .inl (hf a z)) .inr)⟩
/-- a new cell, the frame's -/
theorem Ok.new {σ : St} {sd : SD} {p : Addr} {o : HO} (h : Ok K Z F H σ sd) (hp : H p = none) : Ok K Z (uni F [p]) (upd H p o) σ sd ∧ Ext F Z H Z (upd H p o) ∧ ¬ F p ∧ ¬ Z p := by
  obtain ⟨ow, s, nd, nf, b⟩ := h.ex
  have hz : ¬ Z p := fun z => by
    obtain ⟨o, e⟩ := b.z p z
    rw [hp] at e; cases e
  have hf : ¬ (VS.uni F ow) p := fun z => by
    obtain ⟨⟨o, e⟩, _⟩ := b.f p z
    rw [hp] at e; cases e
  have kz : ∀ a, Z a → Z a ∧ upd H p o a = H a := fun a z => ⟨z, upd_ne fun e => hz (e ▸ z)⟩
  refine ⟨⟨ow, s.keep kz (fun a m => upd_ne fun e => hf (.inr (e ▸ m))), nd, fun a m z => ?_, fun a z => ?_, fun a f => ?_⟩, ⟨kz, fun a f => upd_ne fun e => hf (.inl (e ▸ f))⟩, fun z => hf (.inl z), hz⟩
  · rcases z with z | z
    · exact nf a m z
    · rw [List.mem_singleton] at z
      exact hf (.inr (z ▸ m))
  · rw [(kz a z).2]; exact b.z a z
  · by_cases e : a = p
    · rw [e]
      exact ⟨⟨o, upd_same⟩, hz⟩
    · rw [upd_ne e]
      refine b.f a ?_
      rcases f with (f | f) | f
      · exact .inl f
      · rw [List.mem_singleton] at f
        exact absurd f e
      · exact .inr f
/-- a cell of the frame's changes -/
theorem Ok.write {σ : St} {sd : SD} {p : Addr} {o : HO} (h : Ok K Z F H σ sd) (hp : F p) : Ok K Z F (upd H p o) σ sd ∧ ∀ a, Z a → Z a ∧ upd H p o a = H a := by
  obtain ⟨ow, s, nd, nf, b⟩ := h.ex
  have hz : ¬ Z p := (b.f p (.inl hp)).2
  have kz : ∀ a, Z a → Z a ∧ upd H p o a = H a := fun a z => ⟨z, upd_ne fun e => hz (e ▸ z)⟩
  refine ⟨⟨ow, s.keep kz (fun a m => upd_ne fun e => nf a m (e ▸ hp)), nd, nf, fun a z => ?_, fun a f => ?_⟩, kz⟩
  · rw [(kz a z).2]; exact b.z a z
  · by_cases e : a = p
    · rw [e]
      exact ⟨⟨o, upd_same⟩, hz⟩
    · rw [upd_ne e]
      exact b.f a f
end
end VS
/-! VS2: expressions: what they give on plain data, and that the model's run gives the same. -/
namespace VS
open PySem PySem.Spec L2

/-! ### the semantics on plain data -/
structure Exn where
  cls : Str
  fld : Option (Str × D)
inductive R (α : Type) where
  | ok (a : α) (sd : SD)
  | exc (x : Exn) (sd : SD)
  | stuck
abbrev Ev := SD → R (D × Nat)
abbrev Ea := SD → R (List D)
abbrev Et := SD → R Bool
def R.bind {α β : Type} (r : R α) (g : α → SD → R β) : R β := match r with
  | .ok a sd => g a sd
  | .exc x sd => .exc x sd
  | .stuck => .stuck
@[simp] theorem R.bind_ok {α β : Type} (a : α) (sd : SD) (g : α → SD → R β) : (R.ok a sd).bind g = g a sd := eqr rfl
@[simp] theorem R.bind_exc {α β : Type} (x : Exn) (sd : SD) (g : α → SD → R β) : (R.exc x sd : R α).bind g = .exc x sd := eqr rfl
@[simp] theorem R.bind_stuck {α β : Type} (g : α → SD → R β) : (R.stuck : R α).bind g = .stuck := eqr rfl
def lift {α : Type} (o : Option α) (sd : SD) : R α := match o with
  | some a => .ok a sd
  | none => .stuck
@[simp] theorem lift_some {α : Type} (a : α) (sd : SD) : lift (some a) sd = .ok a sd := eqr rfl
@[simp] theorem lift_none {α : Type} (sd : SD) : lift (none : Option α) sd = .stuck := eqr rfl
def cst (d : D) : Ev := fun sd => .ok (d, 0) sd
/-- a name's value, frozen from now on -/
def rdv (i : Nat) : Ev := fun sd => match sd[i]? with
  | some (some (d, _)) => .ok (d, 0) (sd.set i (some (d, 0)))
  | _ => .stuck
/-- a name's value, moved out -/
def mvv (i : Nat) : Ev := fun sd => match sd[i]? with
  | some (some w) => .ok w (sd.set i none)
  | _ => .stuck
def op1 (g : D → Option (D × Nat)) (f : Ev) : Ev := fun sd => (f sd).bind fun x sd1 => lift (g x.1) sd1
def op2 (g : D → D → Option (D × Nat)) (f1 f2 : Ev) : Ev := fun sd => (f1 sd).bind fun x sd1 => (f2 sd1).bind fun y sd2 => lift (g x.1 y.1) sd2
def opN (g : List D → Option (D × Nat)) (fs : Ea) : Ev := fun sd => (fs sd).bind fun xs sd1 => lift (g xs) sd1
def tst (f : Ev) : Et := fun sd => (f sd).bind fun x sd1 => match x.1 with
  | .bl b => .ok b sd1
  | _ => .stuck
def tv (f : Et) : Ev := fun sd => (f sd).bind fun b sd1 => .ok (.bl b, 0) sd1
def tAnd' (f g : Et) : Et := fun sd => (f sd).bind fun b sd1 => if b then g sd1 else .ok false sd1
def tOr' (f g : Et) : Et := fun sd => (f sd).bind fun b sd1 => if b then .ok true sd1 else g sd1
def tNot' (f : Et) : Et := fun sd => (f sd).bind fun b sd1 => .ok (!b) sd1
def chn (g g' : D → D → Option (D × Nat)) (f1 f2 f3 : Ev) : Et := fun sd => (f1 sd).bind fun x sd1 => (f2 sd1).bind fun y sd2 => match g x.1 y.1 with
  | some (.bl true, _) => (f3 sd2).bind fun z sd3 => match g' y.1 z.1 with
    | some (.bl b, _) => .ok b sd3
    | _ => .stuck
  | some (.bl false, _) => .ok false sd2
  | _ => .stuck
def aNil : Ea := fun sd => .ok [] sd
def aCons (f : Ev) (fs : Ea) : Ea := fun sd => (f sd).bind fun x sd1 => (fs sd1).bind fun xs sd2 => .ok (x.1 :: xs) sd2

/-! ### what the run promises -/
/-- a fresh piece of heap: all that was tracked stands; what is newly frozen, newly owned was free -/
structure Gr (Z : Pz) (H : Hp) (Z' : Pz) (H' : Hp) (o : List Addr) : Prop where
  keep : ∀ a u, H a = some u → H' a = some u
  zz : ∀ a, Z a → Z' a
  zn : ∀ a, Z' a → Z a ∨ (H a = none ∧ ∃ u, H' a = some u)
  on : ∀ a ∈ o, H a = none ∧ (∃ u, H' a = some u) ∧ ¬ Z' a
  nd : o.Nodup
theorem Gr.refl {Z : Pz} {H : Hp} : Gr Z H Z H [] := ⟨fun _ _ e => e, fun _ z => z, fun _ z => .inl z, fun _ z => absurd z List.not_mem_nil, .nil⟩
section
variable {K : PySem.W.Frag} {Z Z' F F' : Pz} {H H' : Hp} {σ : St} {sd : SD} {o : List Addr}
theorem Gr.ext (g : Gr Z H Z' H' o) (h : Ok0 Z F H) : Ext F Z H Z' H' :=
  ⟨fun a z => ⟨g.zz a z, by obtain ⟨u, e⟩ := h.z a z; rw [g.keep a u e, e]⟩, fun a f => by obtain ⟨⟨u, e⟩, _⟩ := h.f a f; rw [g.keep a u e, e]⟩
theorem Gr.nf (g : Gr Z H Z' H' o) (h : Ok0 Z F H) : ∀ a ∈ o, ¬ F a := fun a m f => by
  obtain ⟨⟨u, e⟩, _⟩ := h.f a f
  rw [(g.on a m).1] at e; cases e
theorem Gr.ok0 (g : Gr Z H Z' H' o) (h : Ok0 Z F H) : Ok0 Z' (uni F o) H' := by
  refine ⟨fun a z => ?_, fun a f => ?_⟩
  · rcases g.zn a z with z | ⟨_, e⟩
    · obtain ⟨u, e⟩ := h.z a z
      exact ⟨u, g.keep a u e⟩
    · exact e
  · rcases f with f | f
    · obtain ⟨⟨u, e⟩, nz⟩ := h.f a f
      refine ⟨⟨u, g.keep a u e⟩, fun z => ?_⟩
      rcases g.zn a z with z | ⟨z, _⟩
      · exact nz z
      · rw [z] at e; cases e
    · exact ⟨(g.on a f).2.1, (g.on a f).2.2⟩
theorem Gr.ok (g : Gr Z H Z' H' o) (h : Ok K Z F H σ sd) : Ok K Z' (uni F o) H' σ sd := by
  obtain ⟨w, s, nd, nf, b⟩ := h.ex
  have e := g.ext b
  have b' := g.ok0 b
  refine ⟨w, s.keep e.z fun a m => e.f a (.inr m), nd, fun a m z => ?_, b'.z, fun a f => b'.f a ?_⟩
  · rcases z with z | z
    · exact nf a m z
    · exact g.nf b a z (.inr m)
  · rcases f with (f | f) | f
    · exact .inl (.inl f)
    · exact .inr f
    · exact .inl (.inr f)
theorem Gr.cell {p : Addr} {u : HO} (h : ∀ a, Z a → ∃ o, H a = some o) (hp : H p = none) : Gr Z H Z (upd H p u) [p] := by
  refine ⟨fun a v e => ?_, fun _ z => z, fun _ z => .inl z, fun a m => ?_, by simp⟩
  · rw [upd_ne (ne_of_none e hp)]; exact e
  · rw [List.mem_singleton] at m
    subst m
    refine ⟨hp, ⟨u, upd_same⟩, fun z => ?_⟩
    obtain ⟨v, e⟩ := h a z
    rw [hp] at e; cases e
theorem Gr.fz {p : Addr} {u : HO} (hp : H p = none) : Gr Z H (fun a => Z a ∨ a = p) (upd H p u) [] := by
  refine ⟨fun a v e => ?_, fun _ z => .inl z, fun a z => ?_, fun a m => absurd m List.not_mem_nil, .nil⟩
  · rw [upd_ne (ne_of_none e hp)]; exact e
  · rcases z with z | z
    · exact .inl z
    · subst z
      exact .inr ⟨hp, u, upd_same⟩
theorem Gr.rp {v : V} {d : D} {p : List Addr} (g : Gr Z H Z' H' o) (hz : ∀ a, Z a → ∃ u, H a = some u) (r : Rp K Z H v d 0 p) : Rp K Z' H' v d 0 p := by
  cases r.nil0
  exact r.keep (fun a z => ⟨g.zz a z, by obtain ⟨u, e⟩ := hz a z; rw [g.keep a u e, e]⟩) fun a m => absurd m List.not_mem_nil
theorem Gr.rpAll {vs : List V} {ds : List D} {p : List Addr} (g : Gr Z H Z' H' o) (hz : ∀ a, Z a → ∃ u, H a = some u) (r : RpAll K Z H vs ds 0 p) : RpAll K Z' H' vs ds 0 p := by
  cases r.nil0
  exact r.keep (fun a z => ⟨g.zz a z, by obtain ⟨u, e⟩ := hz a z; rw [g.keep a u e, e]⟩) fun a m => absurd m List.not_mem_nil
end

abbrev Mg := Str → Option Value
/-- an exception as it lies behind the raise -/
def ExcAt (K : PySem.W.Frag) (mg : Mg) (Z : Pz) (H : Hp) (x : Exn) (c : Value) (dd : Option Addr) : Prop :=
  (∃ C, c = .ref C ∧ mg x.cls = some (.ref C)) ∧ match x.fld with
    | none => True
    | some (f, d) => ∃ a v, dd = some a ∧ Z a ∧ H a = some (.xd [(f, v)]) ∧ Rp K Z H v d 0 []
section
variable (K : PySem.W.Frag) (mg : Mg) (W : WX)
def excP (Z F : Pz) (σ : St) (H : Hp) (x : Exn) (sd' : SD) : Prop :=
  ∀ c dd Z' H', ExcAt K mg Z' H' x c dd → Ok K Z' F H' σ sd' → Ext F Z H Z' H' → W c dd σ H'
def eP (Z F : Pz) (σ : St) (H : Hp) (r : R (D × Nat)) (Q : VK) : Prop := match r with
  | .ok w sd' => ∀ v Z' H' o, Rp K Z' H' v w.1 w.2 o → o.Nodup → (∀ a ∈ o, ¬ F a) → Ok K Z' (uni F o) H' σ sd' → Ext F Z H Z' H' → Q v H'
  | .exc x sd' => excP K mg W Z F σ H x sd'
  | .stuck => False
def aP (Z F : Pz) (σ : St) (H : Hp) (r : R (List D)) (Q : List V → Hp → Prop) : Prop := match r with
  | .ok ds sd' => ∀ vs Z' H', RpAll K Z' H' vs ds 0 [] → Ok K Z' F H' σ sd' → Ext F Z H Z' H' → Q vs H'
  | .exc x sd' => excP K mg W Z F σ H x sd'
  | .stuck => False
def tP (Z F : Pz) (σ : St) (H : Hp) (r : R Bool) (Q : Bool → Hp → Prop) : Prop := match r with
  | .ok b sd' => ∀ Z' H', Ok K Z' F H' σ sd' → Ext F Z H Z' H' → Q b H'
  | .exc x sd' => excP K mg W Z F σ H x sd'
  | .stuck => False
def tE (f : Ev) : TE := fun σ H Q => ∃ Z F sd, Ok K Z F H σ sd ∧ eP K mg W Z F σ H (f sd) Q
def tA (f : Ea) : TA := fun σ H Q => ∃ Z F sd, Ok K Z F H σ sd ∧ aP K mg W Z F σ H (f sd) Q
def tT (f : Et) : TT := fun σ H Q => ∃ Z F sd, Ok K Z F H σ sd ∧ tP K mg W Z F σ H (f sd) Q
end
def SE (X : Cx) (W : WX) (e : Expr) (f : Ev) : Prop := PE X e (tE X.K X.mg W f)
def SA (X : Cx) (W : WX) (es : List Expr) (f : Ea) : Prop := PA X es (tA X.K X.mg W f)
def ST (X : Cx) (W : WX) (e : Expr) (f : Et) : Prop := PT X e (tT X.K X.mg W f)
def SW (X : Cx) (W : WX) (e : Expr) (f : Et) : Prop := PW X e (tT X.K X.mg W f)
theorem PE.imp {X : Cx} {e : Expr} {t t' : TE} (h : PE X e t) (w : ∀ σ H Q, t' σ H Q → t σ H Q) : PE X e t' := ⟨fun pins s σ H Q I q => h.run pins s σ H Q I (w σ H Q q)⟩
theorem PA.imp {X : Cx} {e : List Expr} {t t' : TA} (h : PA X e t) (w : ∀ σ H Q, t' σ H Q → t σ H Q) : PA X e t' := ⟨fun pos pins s σ H Q I q => h.run pos pins s σ H Q I (w σ H Q q)⟩
theorem PT.imp {X : Cx} {e : Expr} {t t' : TT} (h : PT X e t) (w : ∀ σ H Q, t' σ H Q → t σ H Q) : PT X e t' := ⟨fun pins s σ H Q I q => h.run pins s σ H Q I (w σ H Q q)⟩
theorem PW.imp {X : Cx} {e : Expr} {t t' : TT} (h : PW X e t) (w : ∀ σ H Q, t' σ H Q → t σ H Q) : PW X e t' := ⟨fun wh pins s σ H Q I q => h.run wh pins s σ H Q I (w σ H Q q)⟩

section
variable {K : PySem.W.Frag} {mg : Mg} {W : WX} {Z Z1 F : Pz} {H H1 : Hp} {σ : St}
theorem excP.go {x : Exn} {sd : SD} {o : List Addr} (h : excP K mg W Z F σ H x sd) (e : Ext F Z H Z1 H1) : excP K mg W Z1 (uni F o) σ H1 x sd :=
  fun c dd Z2 H2 a ok e2 => h c dd Z2 H2 a (ok.less fun _ z => .inl z) (e.trans (e2.mono fun _ z => .inl z))
theorem excP.go0 {x : Exn} {sd : SD} (h : excP K mg W Z F σ H x sd) (e : Ext F Z H Z1 H1) : excP K mg W Z1 F σ H1 x sd :=
  fun c dd Z2 H2 a ok e2 => h c dd Z2 H2 a ok (e.trans e2)
/-- THE SEQUENCE: an expression, then what its (frozen) value is wanted for -/
theorem eP.seq {f : Ev} {Q : VK} {sd : SD} {G : D → SD → Prop} (ok : Ok K Z F H σ sd)
    (hok : ∀ w sd1, f sd = .ok w sd1 → ∀ v Z1 H1, Rp K Z1 H1 v w.1 0 [] → Ok K Z1 F H1 σ sd1 → Ext F Z H Z1 H1 → Q v H1)
    (hex : ∀ x sd1, f sd = .exc x sd1 → excP K mg W Z F σ H x sd1) (hst : f sd = .stuck → False) : tE K mg W f σ H Q := by
  refine ⟨Z, F, sd, ok, ?_⟩
  cases e : f sd with
  | ok w sd1 =>
    intro v Z1 H1 o r nd nf ok1 x1
    exact hok w sd1 e v (uni Z1 o) H1 (r.freeze (fun _ z => .inl z) fun _ m => .inr m) (ok1.freeze nf) (x1.trans .uni)
  | exc x sd1 => exact hex x sd1 e
  | stuck => exact hst e
/-- .. its value with what it owns -/
theorem eP.seqO {f : Ev} {Q : VK} {sd : SD} (ok : Ok K Z F H σ sd)
    (hok : ∀ w sd1, f sd = .ok w sd1 → ∀ v Z1 H1 o, Rp K Z1 H1 v w.1 w.2 o → o.Nodup → (∀ a ∈ o, ¬ F a) → Ok K Z1 (uni F o) H1 σ sd1 → Ext F Z H Z1 H1 → Q v H1)
    (hex : ∀ x sd1, f sd = .exc x sd1 → excP K mg W Z F σ H x sd1) (hst : f sd = .stuck → False) : tE K mg W f σ H Q := by
  refine ⟨Z, F, sd, ok, ?_⟩
  cases e : f sd with
  | ok w sd1 => exact hok w sd1 e
  | exc x sd1 => exact hex x sd1 e
  | stuck => exact hst e
theorem aP.seq {f : Ea} {Q : List V → Hp → Prop} {sd : SD} (ok : Ok K Z F H σ sd)
    (hok : ∀ ds sd1, f sd = .ok ds sd1 → ∀ vs Z1 H1, RpAll K Z1 H1 vs ds 0 [] → Ok K Z1 F H1 σ sd1 → Ext F Z H Z1 H1 → Q vs H1)
    (hex : ∀ x sd1, f sd = .exc x sd1 → excP K mg W Z F σ H x sd1) (hst : f sd = .stuck → False) : tA K mg W f σ H Q := by
  refine ⟨Z, F, sd, ok, ?_⟩
  cases e : f sd with
  | ok w sd1 => exact hok w sd1 e
  | exc x sd1 => exact hex x sd1 e
  | stuck => exact hst e
theorem tP.seq {f : Et} {Q : Bool → Hp → Prop} {sd : SD} (ok : Ok K Z F H σ sd)
    (hok : ∀ b sd1, f sd = .ok b sd1 → ∀ Z1 H1, Ok K Z1 F H1 σ sd1 → Ext F Z H Z1 H1 → Q b H1)
    (hex : ∀ x sd1, f sd = .exc x sd1 → excP K mg W Z F σ H x sd1) (hst : f sd = .stuck → False) : tT K mg W f σ H Q := by
  refine ⟨Z, F, sd, ok, ?_⟩
  cases e : f sd with
  | ok w sd1 => exact hok w sd1 e
  | exc x sd1 => exact hex x sd1 e
  | stuck => exact hst e
/-- the end: a value that grew -/
theorem eP.fin {w : D × Nat} {sd : SD} {Q : VK} {Z0 : Pz} {H0 : Hp} {v : V} {Z' : Pz} {H' : Hp} {o : List Addr} (h : eP K mg W Z0 F σ H0 (.ok w sd) Q) (e : Ext F Z0 H0 Z H) (ok : Ok K Z F H σ sd) (g : Gr Z H Z' H' o) (r : Rp K Z' H' v w.1 w.2 o) : Q v H' :=
  h v Z' H' o r g.nd (g.nf ok.base) (g.ok ok) (e.trans (g.ext ok.base))
end

/-! ### names and constants -/
section
variable {X : Cx} {W : WX} {pos : Pos}
theorem se_of {e : Expr} {t : TE} {f : Ev} (h : PE X e t) (w : ∀ σ H Q, tE X.K X.mg W f σ H Q → t σ H Q) : SE X W e f := PE.imp h w
theorem se_cst {e : Expr} {v : V} {d : D} (h : PE X e (tC v)) (r : ∀ Z H, Rp X.K Z H v d 0 []) : SE X W e (cst d) := by
  refine PE.imp h fun σ H Q ⟨Z, F, sd, ok, q⟩ => ?_
  exact q v Z H [] (r Z H) .nil (fun _ m => absurd m List.not_mem_nil) (ok.less fun a z => z.elim id fun m => absurd m List.not_mem_nil) .refl
theorem se_int {i j} : SE X W (.Constant (.int i) j pos) (cst (.int i)) := se_cst pe_int fun _ _ => .int _ _
theorem se_bl {b j} : SE X W (.Constant (.bool b) j pos) (cst (.bl b)) := se_cst pe_bl fun _ _ => .bl _ _
theorem se_non {j} : SE X W (.Constant .none j pos) (cst .non) := se_cst pe_non fun _ _ => .non _
theorem se_str {x j} : SE X W (.Constant (.str x) j pos) (cst (.str x)) := se_cst pe_str fun _ _ => .str _ _
theorem Ok.unnil {K : PySem.W.Frag} {Z F : Pz} {H : Hp} {σ : St} {sd : SD} (ok : Ok K Z F H σ sd) : Ok K Z (uni F []) H σ sd := ok.less fun a z => z.elim id fun m => absurd m List.not_mem_nil
theorem se_rdv (i : Nat) {x : Str} (hN : X.N[i]? = some x := by rfl) (hv : Vis X.env.scope x := by first | exact Or.inl rfl | exact Or.inr (Or.inl rfl) | exact Or.inr (Or.inr rfl)) (hd : (x == ("__debug__" : Str)) = false := by decide)
    (hcd : (x == ("__classdict__" : Str)) = false := by decide) : SE X W (.Name x pos) (rdv i) := by
  refine PE.imp (pe_var hN hv hd hcd) fun σ H Q ⟨Z, F, sd, ok, q⟩ => ?_
  unfold rdv at q
  split at q
  · rename_i d k e
    obtain ⟨v, p, e1, r, nd, nf, ok1⟩ := ok.take e
    refine ⟨v, e1, ?_⟩
    have ok2 := ok1.freeze nf
    have r2 : Rp X.K (uni Z p) H v d 0 [] := r.freeze (fun _ z => .inl z) fun _ m => .inr m
    have ok3 := Ok.back (p := []) ok2.unnil r2 .nil (fun _ m => absurd m List.not_mem_nil) e1
    rw [List.set_set] at ok3
    exact q v (uni Z p) H [] r2 .nil (fun _ m => absurd m List.not_mem_nil) ok3.unnil .uni
  · exact q.elim
theorem se_mvv (i : Nat) {x : Str} (hN : X.N[i]? = some x := by rfl) (hv : Vis X.env.scope x := by first | exact Or.inl rfl | exact Or.inr (Or.inl rfl) | exact Or.inr (Or.inr rfl)) (hd : (x == ("__debug__" : Str)) = false := by decide)
    (hcd : (x == ("__classdict__" : Str)) = false := by decide) : SE X W (.Name x pos) (mvv i) := by
  refine PE.imp (pe_var hN hv hd hcd) fun σ H Q ⟨Z, F, sd, ok, q⟩ => ?_
  unfold mvv at q
  split at q
  · rename_i w e
    obtain ⟨d, k⟩ := w
    obtain ⟨v, p, e1, r, nd, nf, ok1⟩ := ok.take e
    exact ⟨v, e1, q v Z H p r nd nf ok1 .refl⟩
  · exact q.elim

/-! ### operators by values -/
def Vr1 (K : PySem.W.Frag) (r : V → Hp → VK → Prop) (g : D → Option (D × Nat)) : Prop := ∀ (Z : Pz) (H : Hp) (x : V) (d : D) (w : D × Nat) (Q : VK), (∀ a, Z a → ∃ o, H a = some o) → Rp K Z H x d 0 [] → g d = some w →
  (∀ v Z' H' o, Gr Z H Z' H' o → Rp K Z' H' v w.1 w.2 o → Q v H') → r x H Q
def Vr2 (K : PySem.W.Frag) (r : R2) (g : D → D → Option (D × Nat)) : Prop := ∀ (Z : Pz) (H : Hp) (x y : V) (d e : D) (w : D × Nat) (Q : VK), (∀ a, Z a → ∃ o, H a = some o) → Rp K Z H x d 0 [] → Rp K Z H y e 0 [] → g d e = some w →
  (∀ v Z' H' o, Gr Z H Z' H' o → Rp K Z' H' v w.1 w.2 o → Q v H') → r x y H Q
def VrN (K : PySem.W.Frag) (r : List V → Hp → VK → Prop) (g : List D → Option (D × Nat)) : Prop := ∀ (Z : Pz) (H : Hp) (xs : List V) (ds : List D) (w : D × Nat) (Q : VK), (∀ a, Z a → ∃ o, H a = some o) → RpAll K Z H xs ds 0 [] → g ds = some w →
  (∀ v Z' H' o, Gr Z H Z' H' o → Rp K Z' H' v w.1 w.2 o → Q v H') → r xs H Q
variable {a b c : Expr} {es : List Expr} {fa fb fc : Ev} {fs : Ea}
theorem tE_op2 {K : PySem.W.Frag} {mg : Mg} {r : R2} {g : D → D → Option (D × Nat)} (hg : Vr2 K r g) {σ : St} {H : Hp} {Q : VK} (h : tE K mg W (op2 g fa fb) σ H Q) : tOp r (tE K mg W fa) (tE K mg W fb) σ H Q := by
  obtain ⟨Z, F, sd, ok, q⟩ := h
  refine eP.seq (G := fun _ _ => True) ok (fun w1 sd1 e1 v1 Z1 H1 r1 ok1 x1 => ?_) (fun x sd1 e1 => ?_) (fun e1 => ?_)
  · refine eP.seq (G := fun _ _ => True) ok1 (fun w2 sd2 e2 v2 Z2 H2 r2 ok2 x2 => ?_) (fun x sd2 e2 => ?_) (fun e2 => ?_)
    · have r1' : Rp K Z2 H2 v1 w1.1 0 [] := r1.keep x2.z fun _ m => absurd m List.not_mem_nil
      unfold op2 at q
      rw [e1, R.bind_ok, e2, R.bind_ok] at q
      cases eg : g w1.1 w2.1 with
      | none => rw [eg] at q; exact q.elim
      | some w =>
        rw [eg, lift_some] at q
        exact hg Z2 H2 v1 v2 _ _ w Q ok2.base.z r1' r2 eg fun v Z' H' o gr rv => eP.fin q (x1.trans x2) ok2 gr rv
    · unfold op2 at q
      rw [e1, R.bind_ok, e2, R.bind_exc] at q
      exact excP.go0 q x1
    · unfold op2 at q
      rw [e1, R.bind_ok, e2, R.bind_stuck] at q
      exact q
  · unfold op2 at q
    rw [e1, R.bind_exc] at q
    exact q
  · unfold op2 at q
    rw [e1, R.bind_stuck] at q
    exact q
theorem se_op {op : Operator} {r : R2} {g : D → D → Option (D × Nat)} (ho : OpR X (binaryOp op) r) (hg : Vr2 X.K r g) (ha : SE X W a fa) (hb : SE X W b fb) : SE X W (.BinOp a op b pos) (op2 g fa fb) :=
  PE.imp (pe_op ho ha hb) fun σ H Q h => tE_op2 hg h
theorem se_cmp {op : CmpOp} {r : R2} {g : D → D → Option (D × Nat)} (ho : OpR X (compareOp op) r) (hg : Vr2 X.K r g) (ha : SE X W a fa) (hb : SE X W b fb) (hm : behindInMarks op b = false := by first | exact nomark _ | rfl) : SE X W (.Compare a [op] [b] pos) (op2 g fa fb) :=
  PE.imp (pe_cmpR ho ha hb hm) fun σ H Q h => tE_op2 hg h
theorem tT_tst {K : PySem.W.Frag} {mg : Mg} {f : Ev} {t : TE} (ht : ∀ σ H Q, tE K mg W f σ H Q → t σ H Q) {σ : St} {H : Hp} {Q : Bool → Hp → Prop} (h : tT K mg W (tst f) σ H Q) : tTest t σ H Q := by
  obtain ⟨Z, F, sd, ok, q⟩ := h
  refine ht _ _ _ (eP.seq (G := fun _ _ => True) ok (fun w1 sd1 e1 v1 Z1 H1 r1 ok1 x1 => ?_) (fun x sd1 e1 => ?_) (fun e1 => ?_))
  · unfold tst at q
    rw [e1, R.bind_ok] at q
    split at q
    · rename_i b eb
      rw [eb] at r1
      cases r1
      exact ⟨b, rfl, q Z1 H1 ok1 x1⟩
    · exact q.elim
  · unfold tst at q
    rw [e1, R.bind_exc] at q
    exact q
  · unfold tst at q
    rw [e1, R.bind_stuck] at q
    exact q
theorem st_cmp {op : CmpOp} {r : R2} {g : D → D → Option (D × Nat)} (ho : OpR X (compareOp op) r) (hg : Vr2 X.K r g) (ha : SE X W a fa) (hb : SE X W b fb) (hm : behindInMarks op b = false := by first | exact nomark _ | rfl) : ST X W (.Compare a [op] [b] pos) (tst (op2 g fa fb)) :=
  PT.imp (pt_cmpR ho ha hb hm) fun σ H Q h => tT_tst (fun σ H Q h => tE_op2 hg h) h
theorem st_val (ha : SE X W a fa) (he : ∀ whole, isTrue a X.env whole = (do let v ← whole; standAt a.pos; holding [v] (truthy v)) := by intro _; rfl) : ST X W a (tst fa) :=
  PT.imp (pt_val ha he) fun σ H Q h => tT_tst (fun _ _ _ h => h) h
theorem se_un {op : UnaryOp} {r : V → Hp → VK → Prop} {g : D → Option (D × Nat)} (ho : UnR X (unaryOp op) r) (hg : Vr1 X.K r g) (ha : SE X W a fa) : SE X W (.UnaryOp op a pos) (op1 g fa) := by
  refine PE.imp (pe_un ho ha) fun σ H Q ⟨Z, F, sd, ok, q⟩ => ?_
  refine eP.seq (G := fun _ _ => True) ok (fun w1 sd1 e1 v1 Z1 H1 r1 ok1 x1 => ?_) (fun x sd1 e1 => ?_) (fun e1 => ?_)
  · unfold op1 at q
    rw [e1, R.bind_ok] at q
    cases eg : g w1.1 with
    | none => rw [eg] at q; exact q.elim
    | some w =>
      rw [eg, lift_some] at q
      exact hg Z1 H1 v1 _ w Q ok1.base.z r1 eg fun v Z' H' o gr rv => eP.fin q x1 ok1 gr rv
  · unfold op1 at q
    rw [e1, R.bind_exc] at q
    exact q
  · unfold op1 at q
    rw [e1, R.bind_stuck] at q
    exact q

/-! ### and, or, not -/
theorem sw_and1 {f : Et} (h : ST X W a f) : SW X W (.BoolOp .And [a] pos) f := pw_and1 h
theorem sw_or1 {f : Et} (h : ST X W a f) : SW X W (.BoolOp .Or [a] pos) f := pw_or1 h
theorem tT_and {K : PySem.W.Frag} {mg : Mg} {f g : Et} {σ : St} {H : Hp} {Q : Bool → Hp → Prop} (h : tT K mg W (tAnd' f g) σ H Q) : tAnd (tT K mg W f) (tT K mg W g) σ H Q := by
  obtain ⟨Z, F, sd, ok, q⟩ := h
  refine tP.seq ok (fun b sd1 e1 Z1 H1 ok1 x1 => ?_) (fun x sd1 e1 => ?_) (fun e1 => ?_)
  · unfold tAnd' at q
    rw [e1, R.bind_ok] at q
    cases b with
    | true =>
      refine tP.seq ok1 (fun b sd2 e2 Z2 H2 ok2 x2 => ?_) (fun x sd2 e2 => ?_) (fun e2 => ?_)
      · simp only [if_true] at q; rw [e2] at q; exact q Z2 H2 ok2 (x1.trans x2)
      · simp only [if_true] at q; rw [e2] at q; exact excP.go0 q x1
      · simp only [if_true] at q; rw [e2] at q; exact q
    | false => exact q Z1 H1 ok1 x1
  · unfold tAnd' at q; rw [e1] at q; exact q
  · unfold tAnd' at q; rw [e1] at q; exact q
theorem tT_or {K : PySem.W.Frag} {mg : Mg} {f g : Et} {σ : St} {H : Hp} {Q : Bool → Hp → Prop} (h : tT K mg W (tOr' f g) σ H Q) : tOr (tT K mg W f) (tT K mg W g) σ H Q := by
  obtain ⟨Z, F, sd, ok, q⟩ := h
  refine tP.seq ok (fun b sd1 e1 Z1 H1 ok1 x1 => ?_) (fun x sd1 e1 => ?_) (fun e1 => ?_)
  · unfold tOr' at q
    rw [e1, R.bind_ok] at q
    cases b with
    | false =>
      refine tP.seq ok1 (fun b sd2 e2 Z2 H2 ok2 x2 => ?_) (fun x sd2 e2 => ?_) (fun e2 => ?_)
      · simp only [Bool.false_eq_true, if_false] at q; rw [e2] at q; exact q Z2 H2 ok2 (x1.trans x2)
      · simp only [Bool.false_eq_true, if_false] at q; rw [e2] at q; exact excP.go0 q x1
      · simp only [Bool.false_eq_true, if_false] at q; rw [e2] at q; exact q
    | true => exact q Z1 H1 ok1 x1
  · unfold tOr' at q; rw [e1] at q; exact q
  · unfold tOr' at q; rw [e1] at q; exact q
theorem sw_and {rest : List Expr} {f g : Et} (ha : ST X W a f) (hb : SW X W (.BoolOp .And (b :: rest) pos) g) : SW X W (.BoolOp .And (a :: b :: rest) pos) (tAnd' f g) := PW.imp (pw_and ha hb) fun _ _ _ h => tT_and h
theorem sw_or {rest : List Expr} {f g : Et} (ha : ST X W a f) (hb : SW X W (.BoolOp .Or (b :: rest) pos) g) : SW X W (.BoolOp .Or (a :: b :: rest) pos) (tOr' f g) := PW.imp (pw_or ha hb) fun _ _ _ h => tT_or h
theorem st_w {f : Et} (h : SW X W a f) : ST X W a f := h.pt
theorem st_not {f : Et} (h : ST X W a f) : ST X W (.UnaryOp .Not a pos) (tNot' f) := by
  refine PT.imp (pt_not h) fun σ H Q ⟨Z, F, sd, ok, q⟩ => ?_
  refine tP.seq ok (fun b sd1 e1 Z1 H1 ok1 x1 => ?_) (fun x sd1 e1 => ?_) (fun e1 => ?_)
  · unfold tNot' at q; rw [e1] at q; exact q Z1 H1 ok1 x1
  · unfold tNot' at q; rw [e1] at q; exact q
  · unfold tNot' at q; rw [e1] at q; exact q
/-- .. as values -/
def vAnd (f g : Ev) : Ev := fun sd => (f sd).bind fun x sd1 => match x.1 with
  | .bl true => g sd1
  | .bl false => .ok (.bl false, 0) sd1
  | _ => .stuck
def vOr (f g : Ev) : Ev := fun sd => (f sd).bind fun x sd1 => match x.1 with
  | .bl true => .ok (.bl true, 0) sd1
  | .bl false => g sd1
  | _ => .stuck
def vNot (f : Ev) : Ev := fun sd => (f sd).bind fun x sd1 => match x.1 with
  | .bl b => .ok (.bl (!b), 0) sd1
  | _ => .stuck
theorem se_one {op} (h : SE X W a fa) : SE X W (.BoolOp op [a] pos) fa := pe_one h
theorem eP.pure {K : PySem.W.Frag} {mg : Mg} {Z0 Z F : Pz} {H0 H : Hp} {σ : St} {d : D} {v : V} {sd : SD} {Q : VK} (q : eP K mg W Z0 F σ H0 (.ok (d, 0) sd) Q) (x : Ext F Z0 H0 Z H) (ok : Ok K Z F H σ sd) (r : Rp K Z H v d 0 []) : Q v H :=
  q v Z H [] r .nil (fun _ m => absurd m List.not_mem_nil) ok.unnil x
theorem se_and {rest : List Expr} (ha : SE X W a fa) (hb : SE X W (.BoolOp .And (b :: rest) pos) fb) : SE X W (.BoolOp .And (a :: b :: rest) pos) (vAnd fa fb) := by
  refine PE.imp (pe_and ha hb) fun σ H Q ⟨Z, F, sd, ok, q⟩ => ?_
  refine eP.seq (G := fun _ _ => True) ok (fun w1 sd1 e1 v1 Z1 H1 r1 ok1 x1 => ?_) (fun x sd1 e1 => ?_) (fun e1 => ?_)
  · unfold vAnd at q
    rw [e1, R.bind_ok] at q
    split at q
    · rename_i eb
      rw [eb] at r1
      cases r1
      refine ⟨true, rfl, ?_⟩
      rw [if_pos rfl]
      refine eP.seqO ok1 (fun w2 sd2 e2 v2 Z2 H2 o2 r2 nd2 nf2 ok2 x2 => ?_) (fun x sd2 e2 => ?_) (fun e2 => ?_)
      · rw [e2] at q; exact q v2 Z2 H2 o2 r2 nd2 nf2 ok2 (x1.trans x2)
      · rw [e2] at q; exact excP.go0 q x1
      · rw [e2] at q; exact q
    · rename_i eb
      rw [eb] at r1
      cases r1
      refine ⟨false, rfl, ?_⟩
      rw [if_neg Bool.false_ne_true]
      exact q.pure x1 ok1 (.bl _ _)
    · exact q.elim
  · unfold vAnd at q; rw [e1] at q; exact q
  · unfold vAnd at q; rw [e1] at q; exact q
theorem se_or {rest : List Expr} (ha : SE X W a fa) (hb : SE X W (.BoolOp .Or (b :: rest) pos) fb) : SE X W (.BoolOp .Or (a :: b :: rest) pos) (vOr fa fb) := by
  refine PE.imp (pe_or ha hb) fun σ H Q ⟨Z, F, sd, ok, q⟩ => ?_
  refine eP.seq (G := fun _ _ => True) ok (fun w1 sd1 e1 v1 Z1 H1 r1 ok1 x1 => ?_) (fun x sd1 e1 => ?_) (fun e1 => ?_)
  · unfold vOr at q
    rw [e1, R.bind_ok] at q
    split at q
    · rename_i eb
      rw [eb] at r1
      cases r1
      refine ⟨true, rfl, ?_⟩
      rw [if_pos rfl]
      exact q.pure x1 ok1 (.bl _ _)
    · rename_i eb
      rw [eb] at r1
      cases r1
      refine ⟨false, rfl, ?_⟩
      rw [if_neg Bool.false_ne_true]
      refine eP.seqO ok1 (fun w2 sd2 e2 v2 Z2 H2 o2 r2 nd2 nf2 ok2 x2 => ?_) (fun x sd2 e2 => ?_) (fun e2 => ?_)
      · rw [e2] at q; exact q v2 Z2 H2 o2 r2 nd2 nf2 ok2 (x1.trans x2)
      · rw [e2] at q; exact excP.go0 q x1
      · rw [e2] at q; exact q
    · exact q.elim
  · unfold vOr at q; rw [e1] at q; exact q
  · unfold vOr at q; rw [e1] at q; exact q
theorem se_not (ha : SE X W a fa) : SE X W (.UnaryOp .Not a pos) (vNot fa) := by
  refine PE.imp (pe_not ha) fun σ H Q ⟨Z, F, sd, ok, q⟩ => ?_
  refine eP.seq (G := fun _ _ => True) ok (fun w1 sd1 e1 v1 Z1 H1 r1 ok1 x1 => ?_) (fun x sd1 e1 => ?_) (fun e1 => ?_)
  · unfold vNot at q
    rw [e1, R.bind_ok] at q
    split at q
    · rename_i bb eb
      rw [eb] at r1
      cases r1
      exact ⟨bb, rfl, q.pure x1 ok1 (.bl _ _)⟩
    · exact q.elim
  · unfold vNot at q; rw [e1] at q; exact q
  · unfold vNot at q; rw [e1] at q; exact q

/-! ### chains of two comparisons -/
/-- a comparison's rule, as it answers -/
def VrC (K : PySem.W.Frag) (r : R2) (g : D → D → Option (D × Nat)) : Prop := Vr2 K r g
theorem tE_chnV {K : PySem.W.Frag} {mg : Mg} {r r' : R2} {g g' : D → D → Option (D × Nat)} (hg : Vr2 K r g) (hg' : Vr2 K r' g') {σ : St} {H : Hp} {Q : VK} (h : tE K mg W (tv (chn g g' fa fb fc)) σ H Q) :
    tChain r r' (tE K mg W fa) (tE K mg W fb) (tE K mg W fc) σ H Q := by
  obtain ⟨Z, F, sd, ok, q⟩ := h
  refine eP.seq (G := fun _ _ => True) ok (fun w1 sd1 e1 v1 Z1 H1 r1 ok1 x1 => ?_) (fun x sd1 e1 => ?_) (fun e1 => ?_)
  · refine eP.seq (G := fun _ _ => True) ok1 (fun w2 sd2 e2 v2 Z2 H2 r2 ok2 x2 => ?_) (fun x sd2 e2 => ?_) (fun e2 => ?_)
    · have r1' : Rp K Z2 H2 v1 w1.1 0 [] := r1.keep x2.z fun _ m => absurd m List.not_mem_nil
      unfold tv chn at q
      rw [e1, R.bind_ok, e2, R.bind_ok] at q
      have x12 := x1.trans x2
      cases eg : g w1.1 w2.1 with
      | none => rw [eg] at q; exact q.elim
      | some w =>
        rw [eg] at q
        refine hg Z2 H2 v1 v2 _ _ w _ ok2.base.z r1' r2 eg fun v Z3 H3 o gr rv => ?_
        have okg := gr.ok ok2
        have xg := gr.ext ok2.base
        obtain ⟨wd, wk⟩ := w
        cases rv with
        | bl k3 =>
          refine ⟨k3, rfl, ?_⟩
          have ok3 := okg.less (F' := F) fun _ z => .inl z
          cases k3 with
          | true =>
            rw [if_pos rfl]
            refine eP.seq (G := fun _ _ => True) ok3 (fun w4 sd4 e4 v4 Z4 H4 r4 ok4 x4 => ?_) (fun x sd4 e4 => ?_) (fun e4 => ?_)
            · simp only [e4, R.bind_ok] at q
              have r2' : Rp K Z4 H4 v2 w2.1 0 [] := r2.keep (xg.trans x4).z fun _ m => absurd m List.not_mem_nil
              cases eg4 : g' w2.1 w4.1 with
              | none => rw [eg4] at q; exact q.elim
              | some w5 =>
                rw [eg4] at q
                refine hg' Z4 H4 v2 v4 _ _ w5 _ ok4.base.z r2' r4 eg4 fun v Z5 H5 o5 gr5 rv5 => ?_
                obtain ⟨wd5, wk5⟩ := w5
                cases rv5 with
                | bl b5 => exact eP.pure q (((x12.trans xg).trans x4).trans (gr5.ext ok4.base)) ((gr5.ok ok4).less fun _ z => .inl z) (.bl _ _)
                | _ => exact q.elim
            · simp only [e4, R.bind_exc] at q
              exact excP.go0 q (x12.trans xg)
            · simp only [e4, R.bind_stuck] at q
              exact q
          | false =>
            rw [if_neg Bool.false_ne_true]
            exact eP.pure q (x12.trans xg) ok3 (.bl _ _)
        | _ => exact q.elim
    · unfold tv chn at q
      rw [e1, R.bind_ok, e2, R.bind_exc] at q
      exact excP.go0 q x1
    · unfold tv chn at q
      rw [e1, R.bind_ok, e2, R.bind_stuck] at q
      exact q
  · unfold tv chn at q
    rw [e1, R.bind_exc] at q
    exact q
  · unfold tv chn at q
    rw [e1, R.bind_stuck] at q
    exact q
theorem tE_tv {K : PySem.W.Frag} {mg : Mg} {f : Et} {σ : St} {H : Hp} {Q : Bool → Hp → Prop} (h : tT K mg W f σ H Q) : tE K mg W (tv f) σ H (fun x H' => ∃ k, x = .bl k ∧ Q k H') := by
  obtain ⟨Z, F, sd, ok, q⟩ := h
  refine ⟨Z, F, sd, ok, ?_⟩
  unfold tv
  cases e : f sd with
  | ok b sd1 =>
    rw [e] at q
    intro v Z1 H1 o r nd nf ok1 x1
    cases r
    exact ⟨b, rfl, q Z1 H1 (ok1.less fun _ z => .inl z) x1⟩
  | exc x sd1 => rw [e] at q; exact q
  | stuck => rw [e] at q; exact q
theorem st_chn {op op' : CmpOp} {r r' : R2} {g g' : D → D → Option (D × Nat)} (ho : OpR X (compareOp op) r) (ho' : OpR X (compareOp op') r') (hg : Vr2 X.K r g) (hg' : Vr2 X.K r' g') (ha : SE X W a fa) (hb : SE X W b fb) (hc : SE X W c fc)
    (hm : lastMarks [op, op'] [b, c] = false := by with_unfolding_all rfl) : ST X W (.Compare a [op, op'] [b, c] pos) (chn g g' fa fb fc) :=
  PT.imp (pt_chain ho ho' ha hb hc hm) fun σ H Q h => tE_chnV hg hg' (tE_tv h)
theorem se_chn {op op' : CmpOp} {r r' : R2} {g g' : D → D → Option (D × Nat)} (ho : OpR X (compareOp op) r) (ho' : OpR X (compareOp op') r') (hg : Vr2 X.K r g) (hg' : Vr2 X.K r' g') (ha : SE X W a fa) (hb : SE X W b fb) (hc : SE X W c fc)
    (hm : lastMarks [op, op'] [b, c] = false := by with_unfolding_all rfl) : SE X W (.Compare a [op, op'] [b, c] pos) (tv (chn g g' fa fb fc)) :=
  PE.imp (pe_chain ho ho' ha hb hc hm) fun σ H Q h => tE_chnV hg hg' h

/-! ### arguments -/
theorem sa_nil : SA X W [] aNil := PA.imp pa_nil fun σ H Q ⟨Z, F, sd, ok, q⟩ => q [] Z H (.nil 0) ok .refl
theorem sa_cons (ha : SE X W a fa) (hs : SA X W es fs) (hst : starEach (a :: es) X.env = (false, eval a X.env) :: starEach es X.env := by rfl) : SA X W (a :: es) (aCons fa fs) := by
  refine PA.imp (pa_cons ha hs hst) fun σ H Q ⟨Z, F, sd, ok, q⟩ => ?_
  refine eP.seq (G := fun _ _ => True) ok (fun w1 sd1 e1 v1 Z1 H1 r1 ok1 x1 => ?_) (fun x sd1 e1 => ?_) (fun e1 => ?_)
  · refine aP.seq ok1 (fun ds sd2 e2 vs Z2 H2 r2 ok2 x2 => ?_) (fun x sd2 e2 => ?_) (fun e2 => ?_)
    · unfold aCons at q
      rw [e1, R.bind_ok, e2, R.bind_ok] at q
      exact q (v1 :: vs) Z2 H2 (.cons (o := []) (p := []) (r1.keep x2.z fun _ m => absurd m List.not_mem_nil) r2) ok2 (x1.trans x2)
    · unfold aCons at q
      rw [e1, R.bind_ok, e2, R.bind_exc] at q
      exact excP.go0 q x1
    · unfold aCons at q
      rw [e1, R.bind_ok, e2, R.bind_stuck] at q
      exact q
  · unfold aCons at q; rw [e1] at q; exact q
  · unfold aCons at q; rw [e1] at q; exact q
theorem tA_opN {K : PySem.W.Frag} {mg : Mg} {r : List V → Hp → VK → Prop} {g : List D → Option (D × Nat)} (hg : VrN K r g) {σ : St} {H : Hp} {Q : VK} (h : tE K mg W (opN g fs) σ H Q) : tA K mg W fs σ H (fun xs H1 => r xs H1 Q) := by
  obtain ⟨Z, F, sd, ok, q⟩ := h
  refine aP.seq ok (fun ds sd2 e2 vs Z2 H2 r2 ok2 x2 => ?_) (fun x sd2 e2 => ?_) (fun e2 => ?_)
  · unfold opN at q
    rw [e2, R.bind_ok] at q
    cases eg : g ds with
    | none => rw [eg] at q; exact q.elim
    | some w =>
      rw [eg, lift_some] at q
      exact hg Z2 H2 vs _ w Q ok2.base.z r2 eg fun v Z' H' o gr rv => eP.fin q x2 ok2 gr rv
  · unfold opN at q; rw [e2] at q; exact q
  · unfold opN at q; rw [e2] at q; exact q
/-- a built-in, called by name -/
theorem se_callB {x : Str} {id : String} {p : Pos} {r : List V → Hp → VK → Prop} {g : List D → Option (D × Nat)} (hc : CallR X (.builtin id) r) (hr : VrN X.K r g) (hg : Gl X x) (hm : X.mg x = none) (hv : bootBuiltins x = some (.builtin id)) (ha : SA X W (a :: es) fs)
    (hn : x ≠ "__name__" := by decide) (hdb : (x == ("__debug__" : Str)) = false := by decide) (he : starEach (a :: es) X.env = (false, eval a X.env) :: starEach es X.env := by rfl) (hpl : (backTo pos (starEach es X.env)).any (·.1) = false := by rfl) :
    SE X W (.Call (.Name x p) (a :: es) [] pos) (opN g fs) :=
  PE.imp (pe_callB hc hg hm hv ha hn hdb he hpl) fun σ H Q h => tA_opN hr h
theorem se_callTy {x : Str} {T : String} {p : Pos} {r : List V → Hp → VK → Prop} {g : List D → Option (D × Nat)} (hc : CallR X (.type T) r) (hr : VrN X.K r g) (hg : Gl X x) (hm : X.mg x = none) (hv : bootBuiltins x = some (.type T)) (ha : SA X W (a :: es) fs)
    (hn : x ≠ "__name__" := by decide) (hdb : (x == ("__debug__" : Str)) = false := by decide) (he : starEach (a :: es) X.env = (false, eval a X.env) :: starEach es X.env := by rfl) (hpl : (backTo pos (starEach es X.env)).any (·.1) = false := by rfl) :
    SE X W (.Call (.Name x p) (a :: es) [] pos) (opN g fs) :=
  PE.imp (pe_callTy hc hg hm hv ha hn hdb he hpl) fun σ H Q h => tA_opN hr h

/-! ### displays -/
def dTup (fs : Ea) : Ev := opN (fun ds => if ds.length ≤ sizeLine then some (.tup ds, 0) else none) fs
def dLst (fs : Ea) : Ev := opN (fun ds => if ds.length ≤ sizeLine then some (.lst ds, 1) else none) fs
theorem se_tup {x1} (h : SA X W es fs) : SE X W (.Tuple es x1 pos) (dTup fs) := by
  refine PE.imp (pe_tup h) fun σ H Q hq => tA_opN (r := fun xs H1 Q => xs.length ≤ sizeLine ∧ ∀ p, H1 p = none → Q (.ref p) (upd H1 p (.tup xs))) (fun Z H xs ds w Q hz r eg k => ?_) hq
  split at eg
  · rename_i hl
    cases eg
    refine ⟨by rw [r.length]; exact hl, fun p hp => k (.ref p) (fun a => Z a ∨ a = p) _ [] (Gr.fz hp) ?_⟩
    exact .tup 0 (.inr rfl) upd_same (Gr.rpAll (Gr.fz hp) hz r)
  · cases eg
theorem se_lst (h : SA X W es fs) : SE X W (.List es pos) (dLst fs) := by
  refine PE.imp (pe_lst h) fun σ H Q hq => tA_opN (r := fun xs H1 Q => xs.length ≤ sizeLine ∧ ∀ p, H1 p = none → Q (.ref p) (upd H1 p (.lst xs))) (fun Z H xs ds w Q hz r eg k => ?_) hq
  split at eg
  · rename_i hl
    cases eg
    refine ⟨by rw [r.length]; exact hl, fun p hp => k (.ref p) Z _ [p] (Gr.cell hz hp) ?_⟩
    exact .lstS (o := []) upd_same (Gr.rpAll (Gr.cell hz hp) hz r)
  · cases eg
end
end VS
/-! VS3: operators, comparisons, built-ins by values. -/
namespace VS
open PySem PySem.Spec L2

section
variable {K : PySem.W.Frag} {Z Z' : Pz} {H H' : Hp}
theorem VrN.mk1 {r : List V → Hp → VK → Prop} {g : List D → Option (D × Nat)} {g1 : D → Option (D × Nat)} (hg : ∀ ds w, g ds = some w → ∃ d, ds = [d] ∧ g1 d = some w)
    (h : ∀ Z H x d w Q, (∀ a, Z a → ∃ o, H a = some o) → Rp K Z H x d 0 [] → g1 d = some w → (∀ v Z' H' o, Gr Z H Z' H' o → Rp K Z' H' v w.1 w.2 o → Q v H') → r [x] H Q) : VrN K r g := by
  intro Z H xs ds w Q hz ra eg k
  obtain ⟨d, rfl, e1⟩ := hg ds w eg
  generalize e0 : ([] : List Addr) = o0 at ra
  cases ra with
  | cons r1 r2 =>
    cases r2
    cases r1.nil0
    exact h Z H _ d w Q hz r1 e1 k
theorem VrN.mk2 {r : List V → Hp → VK → Prop} {g : List D → Option (D × Nat)} {g2 : D → D → Option (D × Nat)} (hg : ∀ ds w, g ds = some w → ∃ d e, ds = [d, e] ∧ g2 d e = some w)
    (h : Vr2 K (fun x y H Q => r [x, y] H Q) g2) : VrN K r g := by
  intro Z H xs ds w Q hz ra eg k
  obtain ⟨d, e, rfl, e1⟩ := hg ds w eg
  generalize e0 : ([] : List Addr) = o0 at ra
  cases ra with
  | cons r1 r2 =>
    cases r2 with
    | cons r3 r4 =>
      cases r4
      cases r1.nil0
      cases r3.nil0
      exact h Z H _ _ d e w Q hz r1 r3 e1 k
def un1 (g : D → Option (D × Nat)) : List D → Option (D × Nat)
  | [d] => g d
  | _ => none
def un2 (g : D → D → Option (D × Nat)) : List D → Option (D × Nat)
  | [d, e] => g d e
  | _ => none
@[simp] theorem un1_one (g : D → Option (D × Nat)) (d : D) : un1 g [d] = g d := eqr rfl
@[simp] theorem un2_two (g : D → D → Option (D × Nat)) (d e : D) : un2 g [d, e] = g d e := eqr rfl
theorem VrN.un1 {r : List V → Hp → VK → Prop} {g : D → Option (D × Nat)} (h : Vr1 K (fun x H Q => r [x] H Q) g) : VrN K r (un1 g) :=
  VrN.mk1 (g1 := g) (fun ds w e => by
    unfold VS.un1 at e
    split at e
    · exact ⟨_, rfl, e⟩
    · cases e) fun Z H x d w Q hz r1 e1 k => h Z H x d w Q hz r1 e1 k
theorem VrN.un2 {r : List V → Hp → VK → Prop} {g : D → D → Option (D × Nat)} (h : Vr2 K (fun x y H Q => r [x, y] H Q) g) : VrN K r (un2 g) :=
  VrN.mk2 (g2 := g) (fun ds w e => by
    unfold VS.un2 at e
    split at e
    · exact ⟨_, _, rfl, e⟩
    · cases e) h
theorem Gr.q {Q : VK} {v : V} {d : D} {k : Nat} (h : ∀ v' Z' H' o, Gr Z H Z' H' o → Rp K Z' H' v' d k o → Q v' H') (r : Rp K Z H v d k []) : Q v H := h v Z H [] Gr.refl r
/-- a value of no cells of its own -/
theorem Rp.up {v : V} {d : D} {k : Nat} (r : Rp K Z H v d 0 []) : ∀ {w : D × Nat}, w = (d, 0) → Rp K Z H v w.1 w.2 [] := fun e => e ▸ r

/-! ### arithmetic -/
def gAdd : D → D → Option (D × Nat)
  | .int i, .int j => some (.int (i + j), 0)
  | .lst xs, .lst ys => if xs.length + ys.length ≤ sizeLine then some (.lst (xs ++ ys), 1) else none
  | .tup xs, .tup ys => if xs.length + ys.length ≤ sizeLine then some (.tup (xs ++ ys), 0) else none
  | .str x, .str y => if x.length + y.length ≤ sizeLine then some (.str (x ++ y), 0) else none
  | _, _ => none
def gSub : D → D → Option (D × Nat)
  | .int i, .int j => some (.int (i - j), 0)
  | _, _ => none
def mulOk (i j : Int) : Bool := decide (i.natAbs.log2 + j.natAbs.log2 < 100000000)
def gMul : D → D → Option (D × Nat)
  | .int i, .int j => if mulOk i j then some (.int (i * j), 0) else none
  | .lst xs, .int k => if k < 2 ^ 62 ∧ -(2 ^ 62) ≤ k ∧ xs.length * k.toNat ≤ sizeLine then some (.lst (List.replicate k.toNat xs).flatten, 1) else none
  | _, _ => none
def gFdiv : D → D → Option (D × Nat)
  | .int i, .int j => if 0 < j ∧ j.natAbs.log2 < 9000 then some (.int (i / j), 0) else none
  | _, _ => none
def gMod : D → D → Option (D × Nat)
  | .int i, .int j => if 0 < j then some (.int (i % j), 0) else none
  | _, _ => none
def gPow : D → D → Option (D × Nat)
  | .int i, .int j => if 0 ≤ j ∧ j ≤ 1000000 ∧ i.natAbs < 2 ^ 64 then some (.int (i ^ j.toNat), 0) else none
  | _, _ => none
def gNeg : D → Option (D × Nat)
  | .int i => some (.int (-i), 0)
  | _ => none
def cI (p : Int → Int → Bool) : D → D → Option (D × Nat)
  | .int i, .int j => some (.bl (p i j), 0)
  | _, _ => none
abbrev gLt := cI fun i j => decide (i < j)
abbrev gLe := cI fun i j => decide (i ≤ j)
abbrev gGt := cI fun i j => decide (j < i)
abbrev gGe := cI fun i j => decide (j ≤ i)
@[simp] theorem gAdd_int (i j : Int) : gAdd (.int i) (.int j) = some (.int (i + j), 0) := eqr rfl
@[simp] theorem gAdd_lst (xs ys : List D) : gAdd (.lst xs) (.lst ys) = if xs.length + ys.length ≤ sizeLine then some (.lst (xs ++ ys), 1) else none := eqr rfl
@[simp] theorem gAdd_tup (xs ys : List D) : gAdd (.tup xs) (.tup ys) = if xs.length + ys.length ≤ sizeLine then some (.tup (xs ++ ys), 0) else none := eqr rfl
@[simp] theorem gAdd_str (x y : Str) : gAdd (.str x) (.str y) = if x.length + y.length ≤ sizeLine then some (.str (x ++ y), 0) else none := eqr rfl
@[simp] theorem gSub_int (i j : Int) : gSub (.int i) (.int j) = some (.int (i - j), 0) := eqr rfl
@[simp] theorem gMul_int (i j : Int) : gMul (.int i) (.int j) = if mulOk i j then some (.int (i * j), 0) else none := eqr rfl
@[simp] theorem gMul_lst (xs : List D) (k : Int) : gMul (.lst xs) (.int k) = if k < 2 ^ 62 ∧ -(2 ^ 62) ≤ k ∧ xs.length * k.toNat ≤ sizeLine then some (.lst (List.replicate k.toNat xs).flatten, 1) else none := eqr rfl
@[simp] theorem gFdiv_int (i j : Int) : gFdiv (.int i) (.int j) = if 0 < j ∧ j.natAbs.log2 < 9000 then some (.int (i / j), 0) else none := eqr rfl
@[simp] theorem gMod_int (i j : Int) : gMod (.int i) (.int j) = if 0 < j then some (.int (i % j), 0) else none := eqr rfl
@[simp] theorem gPow_int (i j : Int) : gPow (.int i) (.int j) = if 0 ≤ j ∧ j ≤ 1000000 ∧ i.natAbs < 2 ^ 64 then some (.int (i ^ j.toNat), 0) else none := eqr rfl
@[simp] theorem gNeg_int (i : Int) : gNeg (.int i) = some (.int (-i), 0) := eqr rfl
@[simp] theorem cI_int (p : Int → Int → Bool) (i j : Int) : cI p (.int i) (.int j) = some (.bl (p i j), 0) := eqr rfl
theorem ite_some {c : Prop} [Decidable c] {α : Type} {a : α} {w : α} (h : (if c then some a else none) = some w) : c ∧ a = w := by
  split at h
  · rename_i hc; exact ⟨hc, Option.some.inj h⟩
  · cases h
theorem RpAll.app {xs ys : List V} {ds es : List D} (h : RpAll K Z H xs ds 0 []) (h' : RpAll K Z H ys es 0 []) : RpAll K Z H (xs ++ ys) (ds ++ es) 0 [] := by
  induction xs generalizing ds with
  | nil => generalize e0 : ([] : List Addr) = o0 at h; cases h; exact h'
  | cons x xs ih =>
    generalize e0 : ([] : List Addr) = o0 at h
    cases h with
    | cons r1 r2 =>
      cases r1.nil0
      cases r2.nil0
      exact .cons (o := []) (p := []) r1 (ih r2)
theorem RpAll.uncons {v : V} {vs : List V} {d : D} {ds : List D} (h : RpAll K Z H (v :: vs) (d :: ds) 0 []) : Rp K Z H v d 0 [] ∧ RpAll K Z H vs ds 0 [] := by
  generalize e0 : ([] : List Addr) = o0 at h
  cases h with
  | cons r1 r2 =>
    cases r1.nil0
    cases r2.nil0
    exact ⟨r1, r2⟩
theorem RpAll.get {xs : List V} {ds : List D} {i : Nat} {d : D} (h : RpAll K Z H xs ds 0 []) (e : ds[i]? = some d) : ∃ v, xs[i]? = some v ∧ Rp K Z H v d 0 [] := by
  induction xs generalizing ds i with
  | nil =>
    have := h.length
    cases ds with
    | nil => cases e
    | cons _ _ => cases this
  | cons x xs ih =>
    cases ds with
    | nil => have := h.length; cases this
    | cons d' ds =>
      obtain ⟨r1, r2⟩ := h.uncons
      cases i with
      | zero => cases e; exact ⟨x, rfl, r1⟩
      | succ i => exact ih r2 e
theorem RpAll.mk {xs : List V} {ds : List D} (hl : xs.length = ds.length) (h : ∀ (i : Nat) (v : V) (d : D), xs[i]? = some v → ds[i]? = some d → Rp K Z H v d 0 []) : RpAll K Z H xs ds 0 [] := by
  induction xs generalizing ds with
  | nil =>
    cases ds with
    | nil => exact .nil 0
    | cons _ _ => cases hl
  | cons x xs ih =>
    cases ds with
    | nil => cases hl
    | cons d ds => exact .cons (o := []) (p := []) (h 0 x d rfl rfl) (ih (by simpa using hl) fun i v e h1 h2 => h (i + 1) v e h1 h2)
theorem RpAll.get2 {xs : List V} {ds : List D} {i : Nat} {v : V} (h : RpAll K Z H xs ds 0 []) (e : xs[i]? = some v) : ∃ d, ds[i]? = some d ∧ Rp K Z H v d 0 [] := by
  have hl := h.length
  obtain ⟨hi, ev⟩ := List.getElem?_eq_some_iff.mp e
  have hi2 : i < ds.length := by omega
  have eg : ds[i]? = some ds[i] := List.getElem?_eq_getElem hi2
  refine ⟨ds[i], eg, ?_⟩
  obtain ⟨v', e', r⟩ := h.get eg
  rw [e] at e'
  cases e'
  exact r
theorem RpAll.take {xs : List V} {ds : List D} (n : Nat) (h : RpAll K Z H xs ds 0 []) : RpAll K Z H (xs.take n) (ds.take n) 0 [] :=
  .mk (by rw [List.length_take, List.length_take, h.length]) fun i v d h1 h2 => by
    rw [List.getElem?_take] at h1 h2
    split at h1
    · rename_i hi
      rw [if_pos hi] at h2
      obtain ⟨v', e', r⟩ := h.get h2
      rw [h1] at e'; cases e'; exact r
    · cases h1
theorem RpAll.drop {xs : List V} {ds : List D} (n : Nat) (h : RpAll K Z H xs ds 0 []) : RpAll K Z H (xs.drop n) (ds.drop n) 0 [] :=
  .mk (by rw [List.length_drop, List.length_drop, h.length]) fun i v d h1 h2 => by
    rw [List.getElem?_drop] at h1 h2
    obtain ⟨v', e', r⟩ := h.get h2
    rw [h1] at e'; cases e'; exact r
theorem RpAll.rev {xs : List V} {ds : List D} (h : RpAll K Z H xs ds 0 []) : RpAll K Z H xs.reverse ds.reverse 0 [] :=
  .mk (by rw [List.length_reverse, List.length_reverse, h.length]) fun i v d h1 h2 => by
    have hl := h.length
    obtain ⟨hi, _⟩ := List.getElem?_eq_some_iff.mp h1
    rw [List.length_reverse] at hi
    rw [List.getElem?_reverse hi] at h1
    rw [List.getElem?_reverse (by omega), ← hl] at h2
    obtain ⟨v', e', r⟩ := h.get h2
    rw [h1] at e'; cases e'; exact r
theorem RpAll.rep {xs : List V} {ds : List D} (n : Nat) (h : RpAll K Z H xs ds 0 []) : RpAll K Z H (List.replicate n xs).flatten (List.replicate n ds).flatten 0 [] := by
  induction n with
  | zero => exact .nil 0
  | succ n ih =>
    rw [List.replicate_succ, List.replicate_succ, List.flatten_cons, List.flatten_cons]
    exact h.app ih

theorem vr_add : Vr2 K (fun x y H Q => rI0 (fun i j => .int (i + j)) x y H Q ∨ rCat x y H Q ∨ rCatA K x y H Q ∨ (∃ i j, x = .str i ∧ y = .str j ∧ i.length + j.length ≤ sizeLine ∧ Q (.str (i ++ j)) H)) gAdd := by
  intro Z H x y d e w Q hz rx ry eg k
  unfold gAdd at eg
  split at eg
  · cases eg
    cases rx
    cases ry
    exact .inl ⟨_, _, rfl, rfl, Gr.q k (.int _ _)⟩
  · rename_i xs ys
    obtain ⟨hl, rfl⟩ := ite_some eg
    generalize e0 : ([] : List Addr) = o0 at rx ry
    cases rx with
    | lst0 z1 h1 r1 =>
      cases ry with
      | lst0 z2 h2 r2 =>
        refine .inr (.inl ⟨_, _, _, _, rfl, rfl, h1, h2, by rw [r1.length, r2.length]; exact hl, fun p hp => k (.ref p) Z _ [p] (Gr.cell hz hp) ?_⟩)
        exact .lstS (o := []) upd_same (Gr.rpAll (Gr.cell hz hp) hz (r1.app r2))
  · rename_i xs ys
    obtain ⟨hl, rfl⟩ := ite_some eg
    generalize e0 : ([] : List Addr) = o0 at rx ry
    cases rx with
    | tup _ z1 h1 r1 =>
      cases ry with
      | tup _ z2 h2 r2 =>
        refine .inr (.inr (.inl ⟨_, _, _, _, rfl, rfl, .of h1, .of h2, by rw [r1.length, r2.length]; exact hl, fun e1 => ?_, fun _ e1 => ?_, fun _ _ p hp => ?_⟩))
        · have el : xs = [] := by
            have := r1.length
            rw [e1] at this
            exact List.length_eq_zero_iff.mp this.symm
          refine Gr.q k ?_
          rw [el, List.nil_append]
          exact .tup 0 z2 h2 r2
        · have el : ys = [] := by
            have := r2.length
            rw [e1] at this
            exact List.length_eq_zero_iff.mp this.symm
          refine Gr.q k ?_
          rw [el, List.append_nil]
          exact .tup 0 z1 h1 r1
        · exact k (.ref p) (fun a => Z a ∨ a = p) _ [] (Gr.fz hp) (.tup 0 (.inr rfl) upd_same (Gr.rpAll (Gr.fz hp) hz (r1.app r2)))
  · obtain ⟨hl, rfl⟩ := ite_some eg
    cases rx
    cases ry
    exact .inr (.inr (.inr ⟨_, _, rfl, rfl, hl, Gr.q k (.str _ _)⟩))
  · cases eg
theorem oAdd {X : Cx} : OpR X (binaryOp .Add) (fun x y H Q => rI0 (fun i j => .int (i + j)) x y H Q ∨ rCat x y H Q ∨ rCatA X.K x y H Q ∨ (∃ i j, x = .str i ∧ y = .str j ∧ i.length + j.length ≤ sizeLine ∧ Q (.str (i ++ j)) H)) :=
  op_add.or (op_cat.or (op_catA.or op_add_str))
theorem vr_sub : Vr2 K (rI0 fun i j => .int (i - j)) gSub := by
  intro Z H x y d e w Q hz rx ry eg k
  unfold gSub at eg
  split at eg
  · cases eg
    cases rx
    cases ry
    exact ⟨_, _, rfl, rfl, Gr.q k (.int _ _)⟩
  · cases eg
def CMulV (i j : Int) : Prop := i.natAbs.log2 + j.natAbs.log2 < 100000000
theorem CMulV.ok {i j : Int} (h : CMulV i j) : IntMulOk i j := by
  have b : ∀ x : Int, Builtin.Int.intBits x ≤ x.natAbs.log2 + 1 := fun x => by
    unfold Builtin.Int.intBits
    split <;> omega
  have h1 := b i
  have h2 := b j
  have h3 : i.natAbs.log2 + j.natAbs.log2 < 100000000 := h
  have e : bitsLine = 134217728 := by decide
  unfold IntMulOk
  intro z
  rw [Bool.and_eq_true] at z
  have z2 := z.2
  unfold Builtin.Int.intTooBig at z2
  have z3 := of_decide_eq_true z2
  rw [e] at z3
  omega
theorem op_mulV {X : Cx} : OpR X (binaryOp .Mult) (rI CMulV fun i j => .int (i * j)) := opI fun _ _ _ _ _ _ _ hc q => PyProof.Rows.mul_int q hc.ok
theorem vr_mul : Vr2 K (fun x y H Q => rI CMulV (fun i j => .int (i * j)) x y H Q ∨ rRep x y H Q) gMul := by
  intro Z H x y d e w Q hz rx ry eg k
  unfold gMul at eg
  split at eg
  · obtain ⟨hl, rfl⟩ := ite_some eg
    cases rx
    cases ry
    have hm : _ < 100000000 := of_decide_eq_true hl
    exact .inl ⟨_, _, rfl, rfl, hm, Gr.q k (.int _ _)⟩
  · rename_i xs j
    obtain ⟨⟨h1, h2, h3⟩, rfl⟩ := ite_some eg
    generalize e0 : ([] : List Addr) = o0 at rx
    cases ry
    cases rx with
    | lst0 z1 h r1 =>
      refine .inr ⟨_, _, _, rfl, rfl, h, by omega, by omega, by rw [r1.length]; exact h3, fun p hp => k (.ref p) Z _ [p] (Gr.cell hz hp) ?_⟩
      exact .lstS (o := []) upd_same (Gr.rpAll (Gr.cell hz hp) hz (r1.rep _))
  · cases eg
theorem oMul {X : Cx} : OpR X (binaryOp .Mult) (fun x y H Q => rI CMulV (fun i j => .int (i * j)) x y H Q ∨ rRep x y H Q) := op_mulV.or op_rep
theorem vr_fdiv : Vr2 K (rI CDivW fun i j => .int (i / j)) gFdiv := by
  intro Z H x y d e w Q hz rx ry eg k
  unfold gFdiv at eg
  split at eg
  · obtain ⟨hl, rfl⟩ := ite_some eg
    cases rx
    cases ry
    exact ⟨_, _, rfl, rfl, hl, Gr.q k (.int _ _)⟩
  · cases eg
theorem vr_mod : Vr2 K (rI (fun _ j => 0 < j) fun i j => .int (i % j)) gMod := by
  intro Z H x y d e w Q hz rx ry eg k
  unfold gMod at eg
  split at eg
  · obtain ⟨hl, rfl⟩ := ite_some eg
    cases rx
    cases ry
    exact ⟨_, _, rfl, rfl, hl, Gr.q k (.int _ _)⟩
  · cases eg
theorem vr_pow : Vr2 K (rI CPow fun i j => .int (i ^ j.toNat)) gPow := by
  intro Z H x y d e w Q hz rx ry eg k
  unfold gPow at eg
  split at eg
  · obtain ⟨hl, rfl⟩ := ite_some eg
    cases rx
    cases ry
    exact ⟨_, _, rfl, rfl, hl, Gr.q k (.int _ _)⟩
  · cases eg
theorem vr_neg : Vr1 K (rU fun i => .int (-i)) gNeg := by
  intro Z H x d w Q hz rx eg k
  unfold gNeg at eg
  split at eg
  · cases eg
    cases rx
    exact ⟨_, rfl, Gr.q k (.int _ _)⟩
  · cases eg
theorem vr_cI {p : Int → Int → Bool} : Vr2 K (rI0 fun i j => .bl (p i j)) (cI p) := by
  intro Z H x y d e w Q hz rx ry eg k
  unfold cI at eg
  split at eg
  · cases eg
    cases rx
    cases ry
    exact ⟨_, _, rfl, rfl, Gr.q k (.bl _ _)⟩
  · cases eg

/-! ### == -/
mutual
def toPy : D → Option PyData
  | .non => some .none
  | .bl b => some (.bool b)
  | .int i => some (.int i)
  | .str s => some (.str s)
  | .tup xs => (toPys xs).map .tuple
  | .lst xs => (toPys xs).map .list
  | .dct _ _ => none
  | .ins _ _ => none
  | .scr _ => none
def toPys : List D → Option (List PyData)
  | [] => some []
  | d :: ds => match toPy d, toPys ds with
    | some p, some ps => some (p :: ps)
    | _, _ => none
end
mutual
theorem Rp.dp {v : V} {d : D} {k : Nat} {o : List Addr} {p : PyData} : Rp K Z H v d k o → toPy d = some p → Dp K H v p
  | .non _, e => by cases e; exact .non
  | .bl b _, e => by cases e; exact .bl b
  | .int i _, e => by cases e; exact .int i
  | .str x _, e => by cases e; exact .str x
  | .tup _ z h r, e => by
    simp only [toPy] at e
    obtain ⟨ps, e1, rfl⟩ := Option.map_eq_some_iff.mp e
    exact .tup (.of h) (RpAll.dp r e1)
  | .lst0 z h r, e => by
    simp only [toPy] at e
    obtain ⟨ps, e1, rfl⟩ := Option.map_eq_some_iff.mp e
    exact .lst (.of h) (RpAll.dp r e1)
  | .lstS h r, e => by
    simp only [toPy] at e
    obtain ⟨ps, e1, rfl⟩ := Option.map_eq_some_iff.mp e
    exact .lst (.of h) (RpAll.dp r e1)
  | .scr _ h r, e => by cases e
  | .dct0 _ _ _ _, e => by cases e
  | .dctS _ _ _, e => by cases e
theorem RpAll.dp {vs : List V} {ds : List D} {k : Nat} {o : List Addr} {ps : List PyData} : RpAll K Z H vs ds k o → toPys ds = some ps → DpAll K H vs ps
  | .nil _, e => by cases e; exact .nil
  | .cons h r, e => by
    simp only [toPys] at e
    split at e
    · rename_i p ps' e1 e2
      cases e
      exact .cons (Rp.dp h e1) (RpAll.dp r e2)
    · cases e
end
mutual
/-- data that may be compared: its depth, its texts -/
def okd : Nat → D → Bool
  | _, .non => true
  | _, .bl _ => true
  | _, .int _ => true
  | _, .str s => PyData.strOk s
  | n + 1, .tup xs => okds n xs
  | n + 1, .lst xs => okds n xs
  | _, _ => false
def okds : Nat → List D → Bool
  | _, [] => true
  | n, d :: ds => okd n d && okds n ds
end
mutual
def eqv : D → D → Bool
  | .non, .non => true
  | .bl a, .bl b => a == b
  | .bl a, .int j => (if a then 1 else 0) == j
  | .int i, .bl b => i == (if b then 1 else 0)
  | .int i, .int j => i == j
  | .str x, .str y => x == y
  | .lst xs, .lst ys => eqvs xs ys
  | .tup xs, .tup ys => eqvs xs ys
  | _, _ => false
def eqvs : List D → List D → Bool
  | [], [] => true
  | x :: xs, y :: ys => eqv x y && eqvs xs ys
  | _, _ => false
end
mutual
theorem okd_py : ∀ (n : Nat) (d : D), okd n d = true → ∃ p, toPy d = some p ∧ p.canLay0 = true ∧ p.depth ≤ n
  | _, .non, _ => ⟨_, rfl, rfl, by simp [PyData.depth]⟩
  | _, .bl _, _ => ⟨_, rfl, rfl, by simp [PyData.depth]⟩
  | _, .int _, _ => ⟨_, rfl, rfl, by simp [PyData.depth]⟩
  | _, .str s, h => ⟨_, rfl, by simpa [okd, PyData.canLay0] using h, by simp [PyData.depth]⟩
  | 0, .tup xs, h => by simp [okd] at h
  | 0, .lst xs, h => by simp [okd] at h
  | n + 1, .tup xs, h => by
    obtain ⟨ps, e, c, l⟩ := okds_py n xs (by simpa [okd] using h)
    exact ⟨.tuple ps, by simp [toPy, e], by simpa [PyData.canLay0] using c, by simp only [PyData.depth]; omega⟩
  | n + 1, .lst xs, h => by
    obtain ⟨ps, e, c, l⟩ := okds_py n xs (by simpa [okd] using h)
    exact ⟨.list ps, by simp [toPy, e], by simpa [PyData.canLay0] using c, by simp only [PyData.depth]; omega⟩
  | 0, .dct _ _, h => by simp [okd] at h
  | n + 1, .dct _ _, h => by simp [okd] at h
  | 0, .ins _ _, h => by simp [okd] at h
  | n + 1, .ins _ _, h => by simp [okd] at h
  | 0, .scr _, h => by simp [okd] at h
  | n + 1, .scr _, h => by simp [okd] at h
theorem okds_py : ∀ (n : Nat) (ds : List D), okds n ds = true → ∃ ps, toPys ds = some ps ∧ PyData.canLayAll0 ps = true ∧ PyData.depthAll ps ≤ n
  | n, [], _ => ⟨[], rfl, rfl, by simp [PyData.depthAll]⟩
  | n, d :: ds, h => by
    simp only [okds, Bool.and_eq_true] at h
    obtain ⟨p, e1, c1, l1⟩ := okd_py n d h.1
    obtain ⟨ps, e2, c2, l2⟩ := okds_py n ds h.2
    exact ⟨p :: ps, by simp [toPys, e1, e2], by simp [PyData.canLayAll0, c1, c2], by simp only [PyData.depthAll]; omega⟩
end

mutual
theorem eqv_py : ∀ (d e : D) (p q : PyData), toPy d = some p → toPy e = some q → PyData.eqv p q = eqv d e
  | .tup xs, e, p, q, h1, h2 => by
    simp only [toPy] at h1
    obtain ⟨ps, e1, rfl⟩ := Option.map_eq_some_iff.mp h1
    cases e with
    | tup ys =>
      simp only [toPy] at h2
      obtain ⟨qs, e2, rfl⟩ := Option.map_eq_some_iff.mp h2
      simp only [PyData.eqv, eqv]
      exact eqvs_py xs ys ps qs e1 e2
    | lst ys =>
      simp only [toPy] at h2
      obtain ⟨qs, e2, rfl⟩ := Option.map_eq_some_iff.mp h2
      simp [PyData.eqv, eqv]
    | _ => simp [toPy] at h2 <;> (try subst h2) <;> simp [PyData.eqv, eqv]
  | .lst xs, e, p, q, h1, h2 => by
    simp only [toPy] at h1
    obtain ⟨ps, e1, rfl⟩ := Option.map_eq_some_iff.mp h1
    cases e with
    | lst ys =>
      simp only [toPy] at h2
      obtain ⟨qs, e2, rfl⟩ := Option.map_eq_some_iff.mp h2
      simp only [PyData.eqv, eqv]
      exact eqvs_py xs ys ps qs e1 e2
    | tup ys =>
      simp only [toPy] at h2
      obtain ⟨qs, e2, rfl⟩ := Option.map_eq_some_iff.mp h2
      simp [PyData.eqv, eqv]
    | _ => simp [toPy] at h2 <;> (try subst h2) <;> simp [PyData.eqv, eqv]
  | .non, e, p, q, h1, h2 => by
    cases h1
    cases e <;> simp only [toPy, Option.map_eq_some_iff, Option.some.injEq, reduceCtorEq] at h2 <;> first | (obtain ⟨a, b, rfl⟩ := h2; simp [PyData.eqv, eqv]) | (subst h2; simp [PyData.eqv, eqv])
  | .bl _, e, p, q, h1, h2 => by
    cases h1
    cases e <;> simp only [toPy, Option.map_eq_some_iff, Option.some.injEq, reduceCtorEq] at h2 <;> first | (obtain ⟨a, b, rfl⟩ := h2; simp [PyData.eqv, eqv]) | (subst h2; simp [PyData.eqv, eqv])
  | .int _, e, p, q, h1, h2 => by
    cases h1
    cases e <;> simp only [toPy, Option.map_eq_some_iff, Option.some.injEq, reduceCtorEq] at h2 <;> first | (obtain ⟨a, b, rfl⟩ := h2; simp [PyData.eqv, eqv]) | (subst h2; simp [PyData.eqv, eqv])
  | .str _, e, p, q, h1, h2 => by
    cases h1
    cases e <;> simp only [toPy, Option.map_eq_some_iff, Option.some.injEq, reduceCtorEq] at h2 <;> first | (obtain ⟨a, b, rfl⟩ := h2; simp [PyData.eqv, eqv]) | (subst h2; simp [PyData.eqv, eqv])
  | .dct _ _, _, _, _, h1, _ => by cases h1
  | .ins _ _, _, _, _, h1, _ => by cases h1
  | .scr _, _, _, _, h1, _ => by cases h1
theorem eqvs_py : ∀ (ds es : List D) (ps qs : List PyData), toPys ds = some ps → toPys es = some qs → PyData.eqvAll ps qs = eqvs ds es
  | [], [], _, _, h1, h2 => by cases h1; cases h2; simp [PyData.eqvAll, eqvs]
  | [], e :: es, _, _, h1, h2 => by
    cases h1
    simp only [toPys] at h2
    split at h2
    · cases h2; simp [PyData.eqvAll, eqvs]
    · cases h2
  | d :: ds, [], _, _, h1, h2 => by
    cases h2
    simp only [toPys] at h1
    split at h1
    · cases h1; simp [PyData.eqvAll, eqvs]
    · cases h1
  | d :: ds, e :: es, _, _, h1, h2 => by
    simp only [toPys] at h1 h2
    split at h1
    · rename_i p ps e1 e2
      cases h1
      split at h2
      · rename_i q qs e3 e4
        cases h2
        simp only [PyData.eqvAll, eqvs]
        rw [eqv_py d e p q e1 e3, eqvs_py ds es ps qs e2 e4]
      · cases h2
    · cases h1
end
/-- == of scalars -/
def scl : D → D → Option Bool
  | .int i, .int j => some (decide (i = j))
  | .bl a, .bl b => some (decide (a = b))
  | .str x, .str y => some (decide (x = y))
  | .non, .non => some true
  | .int _, .non => some false
  | .non, .int _ => some false
  | .str _, .non => some false
  | .non, .str _ => some false
  | .bl _, .non => some false
  | .non, .bl _ => some false
  | .int _, .str _ => some false
  | .str _, .int _ => some false
  | _, _ => none
def gEq (d e : D) : Option (D × Nat) := match scl d e with
  | some b => some (.bl b, 0)
  | none => if okd 30 d && okd 30 e then some (.bl (eqv d e), 0) else none
def gNe (d e : D) : Option (D × Nat) := match scl d e with
  | some b => some (.bl (!b), 0)
  | none => if okd 30 d && okd 30 e then some (.bl (!eqv d e), 0) else none
theorem scl_ok {x y : V} {d e : D} {k l : Nat} {o p : List Addr} {b : Bool} (rx : Rp K Z H x d k o) (ry : Rp K Z H y e l p) (h : scl d e = some b) : scal x y = true ∧ decide (x = y) = b := by
  cases rx <;> cases ry <;> simp [scl] at h <;> subst h <;> simp [scal]
theorem vr_eq : Vr2 K (fun x y H Q => rEq x y H Q ∨ rEqD K x y H Q) gEq := by
  intro Z H x y d e w Q hz rx ry eg k
  unfold gEq at eg
  split at eg
  · rename_i b eb
    cases eg
    obtain ⟨h1, h2⟩ := scl_ok rx ry eb
    refine .inl ⟨h1, ?_⟩
    rw [h2]
    exact Gr.q k (.bl _ _)
  · obtain ⟨ho, rfl⟩ := ite_some eg
    rw [Bool.and_eq_true] at ho
    obtain ⟨p, e1, c1, l1⟩ := okd_py 30 d ho.1
    obtain ⟨q, e2, c2, l2⟩ := okd_py 30 e ho.2
    refine .inr ⟨p, q, rx.dp e1, ry.dp e2, ?_, ?_, ?_⟩
    · unfold SeqAt.shaped; rw [c1, Bool.true_and]; exact decide_eq_true (by omega)
    · unfold SeqAt.shaped; rw [c2, Bool.true_and]; exact decide_eq_true (by omega)
    · rw [eqv_py d e p q e1 e2]
      exact Gr.q k (.bl _ _)
theorem vr_ne : Vr2 K (fun x y H Q => rNe x y H Q ∨ rNeD K x y H Q) gNe := by
  intro Z H x y d e w Q hz rx ry eg k
  unfold gNe at eg
  split at eg
  · rename_i b eb
    cases eg
    obtain ⟨h1, h2⟩ := scl_ok rx ry eb
    refine .inl ⟨h1, ?_⟩
    rw [h2]
    exact Gr.q k (.bl _ _)
  · obtain ⟨ho, rfl⟩ := ite_some eg
    rw [Bool.and_eq_true] at ho
    obtain ⟨p, e1, c1, l1⟩ := okd_py 30 d ho.1
    obtain ⟨q, e2, c2, l2⟩ := okd_py 30 e ho.2
    refine .inr ⟨p, q, rx.dp e1, ry.dp e2, ?_, ?_, ?_⟩
    · unfold SeqAt.shaped; rw [c1, Bool.true_and]; exact decide_eq_true (by omega)
    · unfold SeqAt.shaped; rw [c2, Bool.true_and]; exact decide_eq_true (by omega)
    · rw [eqv_py d e p q e1 e2]
      exact Gr.q k (.bl _ _)
theorem oEq {X : Cx} (hu : X.A.units + 64 < cLine) : OpR X (compareOp .Eq) (fun x y H Q => rEq x y H Q ∨ rEqD X.K x y H Q) := op_eq.or (op_eqD hu)
theorem oNe {X : Cx} (hu : X.A.units + 64 < cLine) : OpR X (compareOp .NotEq) (fun x y H Q => rNe x y H Q ∨ rNeD X.K x y H Q) := op_ne.or (op_neD hu)

/-! ### is None, is True -/
def gIs (neg : Bool) : D → D → Option (D × Nat)
  | d, .non => some (.bl (match d with | .non => !neg | _ => neg), 0)
  | .bl a, .bl b => some (.bl (if neg then !decide (a = b) else decide (a = b)), 0)
  | _, _ => none
theorem vr_is : Vr2 K (fun x y H Q => (y = .non ∧ Q (.bl (decide (x = .non))) H) ∨ rIsB x y H Q) (gIs false) := by
  intro Z H x y d e w Q hz rx ry eg k
  cases ry <;> simp only [gIs] at eg
  · cases eg
    refine .inl ⟨rfl, ?_⟩
    cases rx <;> exact Gr.q k (.bl _ _)
  · cases rx <;> simp only [gIs, Option.some.injEq, reduceCtorEq] at eg
    subst eg
    exact .inr ⟨_, _, rfl, rfl, Gr.q k (.bl _ _)⟩
  all_goals cases eg
theorem vr_isn : Vr2 K (fun x y H Q => (y = .non ∧ Q (.bl (!decide (x = .non))) H) ∨ rNotB x y H Q) (gIs true) := by
  intro Z H x y d e w Q hz rx ry eg k
  cases ry <;> simp only [gIs] at eg
  · cases eg
    refine .inl ⟨rfl, ?_⟩
    cases rx <;> exact Gr.q k (.bl _ _)
  · cases rx <;> simp only [gIs, Option.some.injEq, reduceCtorEq] at eg
    subst eg
    exact .inr ⟨_, _, rfl, rfl, Gr.q k (.bl _ _)⟩
  all_goals cases eg
theorem oIs {X : Cx} : OpR X (compareOp .Is) (fun x y H Q => (y = .non ∧ Q (.bl (decide (x = .non))) H) ∨ rIsB x y H Q) := op_isN.or op_isBl
theorem oIsn {X : Cx} : OpR X (compareOp .IsNot) (fun x y H Q => (y = .non ∧ Q (.bl (!decide (x = .non))) H) ∨ rNotB x y H Q) := op_notN.or op_notBl

/-! ### in -/
def flat : D → Bool
  | .non => true
  | .bl _ => true
  | .int _ => true
  | .str _ => true
  | _ => false
def inD (d : D) (ds : List D) : Bool := ds.any fun e => eqv e d
def gIn (neg : Bool) : D → D → Option (D × Nat)
  | d, .lst ds => if flat d ∧ ds.all flat then some (.bl (if neg then !inD d ds else inD d ds), 0) else none
  | d, .tup ds => if flat d ∧ ds.all flat then some (.bl (if neg then !inD d ds else inD d ds), 0) else none
  | d, .scr ds => if flat d ∧ ds.all flat then some (.bl (if neg then !inD d ds else inD d ds), 0) else none
  | _, _ => none
theorem Rp.flat {v : V} {d : D} {k : Nat} {o : List Addr} (r : Rp K Z H v d k o) (f : VS.flat d = true) : flatV v = true := by
  cases r <;> first | rfl | (simp [VS.flat] at f)
theorem RpAll.flats {vs : List V} {ds : List D} (r : RpAll K Z H vs ds 0 []) (f : ds.all VS.flat = true) : vs.all flatV = true := by
  induction vs generalizing ds with
  | nil => rfl
  | cons v vs ih =>
    cases ds with
    | nil => have := r.length; cases this
    | cons d ds =>
      obtain ⟨r1, r2⟩ := r.uncons
      rw [List.all_cons, Bool.and_eq_true] at f ⊢
      exact ⟨r1.flat f.1, ih r2 f.2⟩
theorem eqV_eqv {x y : V} {d e : D} {k l : Nat} {o p : List Addr} (rx : Rp K Z H x d k o) (ry : Rp K Z H y e l p) (f : VS.flat d = true) (f' : VS.flat e = true) : eqV y x = eqv e d := by
  cases rx <;> cases ry <;> first | rfl | (simp [VS.flat] at f) | (simp [VS.flat] at f') | simp [eqV, eqv]
theorem inV_inD {x : V} {d : D} {vs : List V} {ds : List D} (rx : Rp K Z H x d 0 []) (r : RpAll K Z H vs ds 0 []) (f : VS.flat d = true) (fs : ds.all VS.flat = true) : inV x vs = inD d ds := by
  induction vs generalizing ds with
  | nil =>
    cases ds with
    | nil => rfl
    | cons _ _ => have := r.length; cases this
  | cons v vs ih =>
    cases ds with
    | nil => have := r.length; cases this
    | cons d' ds =>
      obtain ⟨r1, r2⟩ := r.uncons
      rw [List.all_cons, Bool.and_eq_true] at fs
      have := ih r2 fs.2
      unfold inV inD at this ⊢
      rw [List.any_cons, List.any_cons, this, eqV_eqv rx r1 f fs.1]
theorem vr_in (neg : Bool) : Vr2 K (rIn K neg) (gIn neg) := by
  intro Z H x y d e w Q hz rx ry eg k
  generalize e0 : ([] : List Addr) = o0 at ry
  cases ry <;> simp only [gIn, reduceCtorEq] at eg
  · rename_i z h r
    obtain ⟨⟨h1, h2⟩, rfl⟩ := ite_some eg
    refine ⟨_, _, rfl, .inr (.of h), rx.flat h1, r.flats h2, ?_⟩
    rw [inV_inD rx r h1 h2]
    exact Gr.q k (.bl _ _)
  · rename_i z h r
    obtain ⟨⟨h1, h2⟩, rfl⟩ := ite_some eg
    refine ⟨_, _, rfl, .inl (.of h), rx.flat h1, r.flats h2, ?_⟩
    rw [inV_inD rx r h1 h2]
    exact Gr.q k (.bl _ _)
  · rename_i h r
    obtain ⟨⟨h1, h2⟩, rfl⟩ := ite_some eg
    refine ⟨_, _, rfl, h.elim (fun h => .inl h.sq) fun h => .inr h.sq, rx.flat h1, r.flats h2, ?_⟩
    rw [inV_inD rx r h1 h2]
    exact Gr.q k (.bl _ _)

/-! ### an item, a slice -/
def gIx : D → D → Option (D × Nat)
  | .lst ds, .int i => (atI ds i).map fun d => (d, 0)
  | .tup ds, .int i => (atI ds i).map fun d => (d, 0)
  | .scr ds, .int i => (atI ds i).map fun d => (d, 0)
  | _, _ => none
theorem RpAll.atI {vs : List V} {ds : List D} {i : Int} {d : D} (r : RpAll K Z H vs ds 0 []) (e : L2.atI ds i = some d) : ∃ v, L2.atI vs i = some v ∧ Rp K Z H v d 0 [] := by
  unfold L2.atI at e ⊢
  rw [r.length]
  cases h : ixN ds.length i with
  | none => rw [h] at e; cases e
  | some j =>
    rw [h] at e
    exact r.get e
theorem vr_ix : Vr2 K (rIx K) gIx := by
  intro Z H x y d e w Q hz rx ry eg k
  generalize e0 : ([] : List Addr) = o0 at rx
  cases rx <;> cases ry <;> simp only [gIx, reduceCtorEq] at eg
  · rename_i z h r _
    obtain ⟨d', e1, rfl⟩ := Option.map_eq_some_iff.mp eg
    obtain ⟨v, e2, rv⟩ := r.atI e1
    exact .inr (.inl ⟨_, _, _, v, rfl, rfl, .of h, e2, Gr.q k rv⟩)
  · rename_i z h r _
    obtain ⟨d', e1, rfl⟩ := Option.map_eq_some_iff.mp eg
    obtain ⟨v, e2, rv⟩ := r.atI e1
    exact .inl ⟨_, _, _, v, rfl, rfl, .of h, e2, Gr.q k rv⟩
  · rename_i h r _
    obtain ⟨d', e1, rfl⟩ := Option.map_eq_some_iff.mp eg
    obtain ⟨v, e2, rv⟩ := r.atI e1
    rcases h with h | h
    · exact .inl ⟨_, _, _, v, rfl, rfl, h.sq, e2, Gr.q k rv⟩
    · exact .inr (.inl ⟨_, _, _, v, rfl, rfl, h.sq, e2, Gr.q k rv⟩)
def cutD (xs : List D) (lo hi : Option Int) : List D := (xs.drop (HT.sIx xs.length 0 lo)).take (HT.sIx xs.length xs.length hi - HT.sIx xs.length 0 lo)
theorem RpAll.cut {vs : List V} {ds : List D} (r : RpAll K Z H vs ds 0 []) (lo hi : Option Int) : RpAll K Z H (cutV vs lo hi) (cutD ds lo hi) 0 [] := by
  unfold cutV cutD
  rw [r.length]
  exact (r.drop _).take _
def gSl : D → Option Int → Option Int → Option (D × Nat)
  | .lst ds, lo, hi => some (.lst (cutD ds lo hi), 1)
  | .tup ds, lo, hi => some (.tup (cutD ds lo hi), 0)
  | _, _, _ => none
end
end VS
/-! VS4: slices, built-in calls, borrowed reads. -/
namespace VS
open PySem PySem.Spec L2

section
variable {K : PySem.W.Frag} {Z Z' : Pz} {H H' : Hp}
/-! ### rows of ints, of pairs of ints -/
def intsOf : List D → Option (List Int)
  | [] => some []
  | .int i :: ds => (intsOf ds).map (i :: ·)
  | _ :: _ => none
@[simp] theorem intsOf_map (ns : List Int) : intsOf (ns.map .int) = some ns := by
  induction ns with
  | nil => rfl
  | cons n ns ih => simp [intsOf, ih]
theorem intsOf_some {ds : List D} {ns : List Int} (h : intsOf ds = some ns) : ds = ns.map .int := by
  induction ds generalizing ns with
  | nil => cases h; rfl
  | cons d ds ih =>
    cases d <;> simp [intsOf] at h
    obtain ⟨a, h1, h2⟩ := h
    rw [ih h1, ← h2]
    rfl
theorem RpAll.ints {vs : List V} {ns : List Int} (r : RpAll K Z H vs (ns.map .int) 0 []) : vs = ns.map V.int := by
  induction vs generalizing ns with
  | nil =>
    cases ns with
    | nil => rfl
    | cons _ _ => have := r.length; cases this
  | cons v vs ih =>
    cases ns with
    | nil => have := r.length; cases this
    | cons n ns =>
      obtain ⟨r1, r2⟩ := r.uncons
      cases r1
      rw [ih r2]
      rfl
theorem RpAll.of_ints (ns : List Int) : RpAll K Z H (ns.map V.int) (ns.map .int) 0 [] := by
  induction ns with
  | nil => exact .nil 0
  | cons n ns ih => exact .cons (o := []) (p := []) (.int n 0) ih
def pairsOf : List D → Option (List (Int × Int))
  | [] => some []
  | .tup [.int i, .int j] :: ds => (pairsOf ds).map ((i, j) :: ·)
  | _ :: _ => none
def prD (p : Int × Int) : D := .tup [.int p.1, .int p.2]
@[simp] theorem pairsOf_map (ps : List (Int × Int)) : pairsOf (ps.map prD) = some ps := by
  induction ps with
  | nil => rfl
  | cons n ns ih => simp [prD, pairsOf] ; simpa [prD] using ih
theorem pairsOf_some {ds : List D} {ps : List (Int × Int)} (h : pairsOf ds = some ps) : ds = ps.map prD := by
  induction ds generalizing ps with
  | nil => cases h; rfl
  | cons d ds ih =>
    unfold pairsOf at h
    split at h
    · cases ‹_ :: _ = []›
    · rename_i i j ds' e
      cases e
      obtain ⟨a, h1, h2⟩ := Option.map_eq_some_iff.mp h
      rw [ih h1, ← h2]
      rfl
    · cases h

/-! ### slices -/
theorem vr_sl : ∀ (Z : Pz) (H : Hp) (x : V) (d : D) (lo hi : Option Int) (w : D × Nat) (Q : VK), (∀ a, Z a → ∃ o, H a = some o) → Rp K Z H x d 0 [] → gSl d lo hi = some w →
    (∀ v Z' H' o, Gr Z H Z' H' o → Rp K Z' H' v w.1 w.2 o → Q v H') → (rSlL K x lo hi H Q ∨ rSlA K x lo hi H Q) := by
  intro Z H x d lo hi w Q hz rx eg k
  generalize e0 : ([] : List Addr) = o0 at rx
  cases rx <;> simp only [gSl, reduceCtorEq] at eg
  · rename_i a xs ds z h r
    cases eg
    refine .inr ⟨_, _, rfl, .of h, fun e => ?_, fun _ p hp => ?_⟩
    · refine Gr.q k ?_
      have : cutD ds lo hi = ds := by
        unfold cutD
        rw [← r.length, e.1, e.2, List.drop_zero, Nat.sub_zero, r.length, List.take_length]
      rw [this]
      exact .tup 0 z h r
    · exact k (.ref p) (fun a => Z a ∨ a = p) _ [] (Gr.fz hp) (.tup 0 (.inr rfl) upd_same (Gr.rpAll (Gr.fz hp) hz (r.cut lo hi)))
  · rename_i z h r
    cases eg
    refine .inl ⟨_, _, rfl, .of h, fun p hp => ?_⟩
    exact k (.ref p) Z _ [p] (Gr.cell hz hp) (.lstS (o := []) upd_same (Gr.rpAll (Gr.cell hz hp) hz (r.cut lo hi)))
theorem sl_all {X : Cx} : SlR X (fun x lo hi H Q => rSlL X.K x lo hi H Q ∨ rSlA X.K x lo hi H Q) := sl_list.or sl_tupA

/-! ### built-ins -/
def gLen : D → Option (D × Nat)
  | .lst ds => some (.int ds.length, 0)
  | .tup ds => some (.int ds.length, 0)
  | .scr ds => some (.int ds.length, 0)
  | .str s => if s.length ≤ sizeLine then some (.int s.length, 0) else none
  | _ => none
theorem vr_len : VrN K (fun xs H Q => (∃ p ys, xs = [.ref p] ∧ (SqL K H p ys ∨ SqT K H p ys) ∧ Q (.int ys.length) H) ∨ (∃ z, xs = [.str z] ∧ z.length ≤ sizeLine ∧ Q (.int z.length) H)) (un1 gLen) := by
  refine VrN.un1 fun Z H x d w Q hz rx eg k => ?_
  generalize e0 : ([] : List Addr) = o0 at rx
  cases rx <;> simp only [gLen, reduceCtorEq, Option.some.injEq] at eg
  · obtain ⟨hl, rfl⟩ := ite_some eg
    exact .inr ⟨_, rfl, hl, Gr.q k (.int _ _)⟩
  · rename_i z h r
    subst eg
    exact .inl ⟨_, _, rfl, .inr (.of h), Gr.q k (by rw [r.length]; exact .int _ _)⟩
  · rename_i z h r
    subst eg
    exact .inl ⟨_, _, rfl, .inl (.of h), Gr.q k (by rw [r.length]; exact .int _ _)⟩
  · rename_i h r
    subst eg
    exact .inl ⟨_, _, rfl, h.elim (fun h => .inl h.sq) fun h => .inr h.sq, Gr.q k (by rw [r.length]; exact .int _ _)⟩
theorem cLen {X : Cx} : CallR X (.builtin "len") (fun xs H Q => (∃ p ys, xs = [.ref p] ∧ (SqL X.K H p ys ∨ SqT X.K H p ys) ∧ Q (.int ys.length) H) ∨ (∃ z, xs = [.str z] ∧ z.length ≤ sizeLine ∧ Q (.int z.length) H)) := call_len_seq.or call_len_str
def gList : D → Option (D × Nat)
  | .lst ds => some (.lst ds, 1)
  | .tup ds => some (.lst ds, 1)
  | _ => none
theorem vr_list : VrN K (fun xs H Q => ∃ p ys, xs = [.ref p] ∧ (SqL K H p ys ∨ SqT K H p ys) ∧ ∀ l, H l = none → Q (.ref l) (upd H l (.lst ys))) (un1 gList) := by
  refine VrN.un1 fun Z H x d w Q hz rx eg k => ?_
  generalize e0 : ([] : List Addr) = o0 at rx
  cases rx <;> simp only [gList, reduceCtorEq, Option.some.injEq] at eg
  · rename_i z h r
    subst eg
    exact ⟨_, _, rfl, .inr (.of h), fun p hp => k (.ref p) Z _ [p] (Gr.cell hz hp) (.lstS (o := []) upd_same (Gr.rpAll (Gr.cell hz hp) hz r))⟩
  · rename_i z h r
    subst eg
    exact ⟨_, _, rfl, .inl (.of h), fun p hp => k (.ref p) Z _ [p] (Gr.cell hz hp) (.lstS (o := []) upd_same (Gr.rpAll (Gr.cell hz hp) hz r))⟩
def gTuple : D → Option (D × Nat)
  | .lst ds => some (.tup ds, 0)
  | .tup ds => some (.tup ds, 0)
  | _ => none
theorem vr_tuple : VrN K (fun xs H Q => ∃ p ys, xs = [.ref p] ∧ ((SqL K H p ys ∧ ∀ l, H l = none → Q (.ref l) (upd H l (.tup ys))) ∨ (SqT K H p ys ∧ Q (.ref p) H))) (un1 gTuple) := by
  refine VrN.un1 fun Z H x d w Q hz rx eg k => ?_
  generalize e0 : ([] : List Addr) = o0 at rx
  cases rx <;> simp only [gTuple, reduceCtorEq, Option.some.injEq] at eg
  · rename_i z h r
    subst eg
    exact ⟨_, _, rfl, .inr ⟨.of h, Gr.q k (.tup 0 z h r)⟩⟩
  · rename_i z h r
    subst eg
    exact ⟨_, _, rfl, .inl ⟨.of h, fun p hp => k (.ref p) (fun a => Z a ∨ a = p) _ [] (Gr.fz hp) (.tup 0 (.inr rfl) upd_same (Gr.rpAll (Gr.fz hp) hz r))⟩⟩
def gInt : D → Option (D × Nat)
  | .int i => some (.int i, 0)
  | .bl b => some (.int (if b then 1 else 0), 0)
  | _ => none
theorem vr_int : VrN K (fun xs H Q => (∃ i, xs = [.int i] ∧ Q (.int i) H) ∨ ∃ k, xs = [.bl k] ∧ Q (.int (if k then 1 else 0)) H) (un1 gInt) := by
  refine VrN.un1 fun Z H x d w Q hz rx eg k => ?_
  cases rx <;> simp only [gInt, reduceCtorEq, Option.some.injEq] at eg
  · subst eg; exact .inr ⟨_, rfl, Gr.q k (.int _ _)⟩
  · subst eg; exact .inl ⟨_, rfl, Gr.q k (.int _ _)⟩
def gStr : D → Option (D × Nat)
  | .int i => if i.natAbs.log2 < 1920 then some (.str (toString i : String), 0) else none
  | _ => none
theorem vr_str : VrN K (fun xs H Q => ∃ i, xs = [.int i] ∧ i.natAbs.log2 < 1920 ∧ Q (.str (toString i : String)) H) (un1 gStr) := by
  refine VrN.un1 fun Z H x d w Q hz rx eg k => ?_
  cases rx <;> simp only [gStr, reduceCtorEq] at eg
  obtain ⟨h, rfl⟩ := ite_some eg
  exact ⟨_, rfl, h, Gr.q k (.str _ _)⟩
def gMax2 : D → D → Option (D × Nat)
  | .int i, .int j => some (.int (max i j), 0)
  | _, _ => none
def gMin2 : D → D → Option (D × Nat)
  | .int i, .int j => some (.int (min i j), 0)
  | _, _ => none
def gMin1 : D → Option (D × Nat)
  | .lst ds => match intsOf ds with
    | some (n :: ns) => some (.int (ns.foldl min n), 0)
    | _ => none
  | _ => none
def gMax1 : D → Option (D × Nat)
  | .lst ds => match intsOf ds with
    | some (n :: ns) => some (.int (ns.foldl max n), 0)
    | _ => none
  | _ => none
def gMin : List D → Option (D × Nat)
  | [d] => gMin1 d
  | [d, e] => gMin2 d e
  | _ => none
def gMax : List D → Option (D × Nat)
  | [d] => gMax1 d
  | [d, e] => gMax2 d e
  | _ => none
theorem foldl_min_le (ns : List Int) : ∀ n, (ns.foldl min n = n ∨ ns.foldl min n ∈ ns) ∧ ns.foldl min n ≤ n ∧ ∀ y ∈ ns, ns.foldl min n ≤ y := by
  induction ns with
  | nil => intro n; simp
  | cons a ns ih =>
    intro n
    obtain ⟨h1, h2, h3⟩ := ih (min n a)
    rw [List.foldl_cons]
    refine ⟨?_, by omega, fun y hy => ?_⟩
    · rcases h1 with h | h
      · rw [h]
        by_cases c : n ≤ a
        · exact .inl (Int.min_eq_left c)
        · exact .inr (by rw [Int.min_eq_right (by omega)]; exact List.mem_cons_self)
      · exact .inr (List.mem_cons_of_mem _ h)
    · rcases List.mem_cons.mp hy with rfl | hy
      · omega
      · exact h3 y hy
theorem foldl_max_ge (ns : List Int) : ∀ n, (ns.foldl max n = n ∨ ns.foldl max n ∈ ns) ∧ n ≤ ns.foldl max n ∧ ∀ y ∈ ns, y ≤ ns.foldl max n := by
  induction ns with
  | nil => intro n; simp
  | cons a ns ih =>
    intro n
    obtain ⟨h1, h2, h3⟩ := ih (max n a)
    rw [List.foldl_cons]
    refine ⟨?_, by omega, fun y hy => ?_⟩
    · rcases h1 with h | h
      · rw [h]
        by_cases c : n ≤ a
        · exact .inr (by rw [Int.max_eq_right c]; exact List.mem_cons_self)
        · exact .inl (Int.max_eq_left (by omega))
      · exact .inr (List.mem_cons_of_mem _ h)
    · rcases List.mem_cons.mp hy with rfl | hy
      · omega
      · exact h3 y hy
theorem vr_min : VrN K (fun xs H Q => rMin K xs H Q ∨ ∃ i j, xs = [.int i, .int j] ∧ Q (.int (if j < i then j else i)) H) gMin := by
  intro Z H xs ds w Q hz ra eg k
  unfold gMin at eg
  split at eg
  · rename_i d
    cases d <;> simp only [gMin1, reduceCtorEq] at eg
    split at eg
    · rename_i ds n ns e
      cases eg
      have e1 := intsOf_some e
      subst e1
      cases xs with
      | nil => have := ra.length; cases this
      | cons x xs =>
        obtain ⟨r1, r2⟩ := ra.uncons
        cases xs with
        | cons _ _ => have := r2.length; cases this
        | nil =>
          generalize e0 : ([] : List Addr) = o0 at r1
          cases r1 with
          | lst0 z h r =>
            have ev := r.ints
            subst ev
            obtain ⟨h1, h2, h3⟩ := foldl_min_le ns n
            refine .inl ⟨_, n :: ns, rfl, .of h, by simp, fun m hm hle => ?_⟩
            have em : m = ns.foldl min n := by
              have a1 : ns.foldl min n ∈ n :: ns := by
                rcases h1 with h | h
                · rw [h]; exact List.mem_cons_self
                · exact List.mem_cons_of_mem _ h
              have a2 := hle _ a1
              have a3 : ns.foldl min n ≤ m := by
                rcases List.mem_cons.mp hm with rfl | hm
                · exact h2
                · exact h3 m hm
              omega
            rw [em]
            exact Gr.q k (.int _ _)
    · cases eg
  · rename_i d e
    cases xs with
    | nil => have := ra.length; cases this
    | cons x xs =>
      obtain ⟨r1, ra2⟩ := ra.uncons
      clear ra
      cases xs with
      | nil => have := ra2.length; cases this
      | cons y xs =>
        obtain ⟨r2, ra3⟩ := ra2.uncons
        clear ra2
        cases xs with
        | cons _ _ => have := ra3.length; cases this
        | nil =>
          clear ra3
          unfold gMin2 at eg
          split at eg
          · rename_i i j
            cases eg
            cases r1
            cases r2
            refine .inr ⟨i, j, rfl, Gr.q k ?_⟩
            have : (if j < i then j else i) = min i j := by split <;> omega
            rw [this]
            exact .int _ _
          · cases eg
  · cases eg
theorem vr_max : VrN K (fun xs H Q => rMax K xs H Q ∨ ∃ i j, xs = [.int i, .int j] ∧ Q (.int (if j > i then j else i)) H) gMax := by
  intro Z H xs ds w Q hz ra eg k
  unfold gMax at eg
  split at eg
  · rename_i d
    cases d <;> simp only [gMax1, reduceCtorEq] at eg
    split at eg
    · rename_i ds n ns e
      cases eg
      have e1 := intsOf_some e
      subst e1
      cases xs with
      | nil => have := ra.length; cases this
      | cons x xs =>
        obtain ⟨r1, r2⟩ := ra.uncons
        cases xs with
        | cons _ _ => have := r2.length; cases this
        | nil =>
          generalize e0 : ([] : List Addr) = o0 at r1
          cases r1 with
          | lst0 z h r =>
            have ev := r.ints
            subst ev
            obtain ⟨h1, h2, h3⟩ := foldl_max_ge ns n
            refine .inl ⟨_, n :: ns, rfl, .of h, by simp, fun m hm hle => ?_⟩
            have em : m = ns.foldl max n := by
              have a1 : ns.foldl max n ∈ n :: ns := by
                rcases h1 with h | h
                · rw [h]; exact List.mem_cons_self
                · exact List.mem_cons_of_mem _ h
              have a2 := hle _ a1
              have a3 : m ≤ ns.foldl max n := by
                rcases List.mem_cons.mp hm with rfl | hm
                · exact h2
                · exact h3 m hm
              omega
            rw [em]
            exact Gr.q k (.int _ _)
    · cases eg
  · rename_i d e
    cases xs with
    | nil => have := ra.length; cases this
    | cons x xs =>
      obtain ⟨r1, ra2⟩ := ra.uncons
      clear ra
      cases xs with
      | nil => have := ra2.length; cases this
      | cons y xs =>
        obtain ⟨r2, ra3⟩ := ra2.uncons
        clear ra2
        cases xs with
        | cons _ _ => have := ra3.length; cases this
        | nil =>
          clear ra3
          unfold gMax2 at eg
          split at eg
          · rename_i i j
            cases eg
            cases r1
            cases r2
            refine .inr ⟨i, j, rfl, Gr.q k ?_⟩
            have : (if j > i then j else i) = max i j := by split <;> omega
            rw [this]
            exact .int _ _
          · cases eg
  · cases eg
theorem cMin {X : Cx} (hc : X.calm = true) : CallR X (.builtin "min") (fun xs H Q => rMin X.K xs H Q ∨ ∃ i j, xs = [.int i, .int j] ∧ Q (.int (if j < i then j else i)) H) := (cr_min hc).or (call_min2 hc)
theorem cMax {X : Cx} (hc : X.calm = true) : CallR X (.builtin "max") (fun xs H Q => rMax X.K xs H Q ∨ ∃ i j, xs = [.int i, .int j] ∧ Q (.int (if j > i then j else i)) H) := (cr_max hc).or (call_max2 hc)
def gSum : D → Option (D × Nat)
  | .lst ds => (intsOf ds).map fun ns => (.int ns.sum, 0)
  | _ => none
theorem vr_sum : VrN K (rSum K) (un1 gSum) := by
  refine VrN.un1 fun Z H x d w Q hz rx eg k => ?_
  generalize e0 : ([] : List Addr) = o0 at rx
  cases rx <;> simp only [gSum, reduceCtorEq] at eg
  obtain ⟨ns, e, rfl⟩ := Option.map_eq_some_iff.mp eg
  rename_i z h r
  have e1 := intsOf_some e
  subst e1
  have ev := r.ints
  subst ev
  exact ⟨_, ns, rfl, .of h, Gr.q k (.int _ _)⟩

/-! ### sorted -/
def srtI (ns : List Int) : List Int := ns.mergeSort fun x y => decide (x ≤ y)
def lexLe (p q : Int × Int) : Bool := decide (p.1 < q.1) || (decide (p.1 = q.1) && decide (p.2 ≤ q.2))
def srtP (ps : List (Int × Int)) : List (Int × Int) := ps.mergeSort lexLe
def gSorted : D → Option (D × Nat)
  | .lst ds => match intsOf ds with
    | some ns => some (.lst ((srtI ns).map .int), 1)
    | none => match pairsOf ds with
      | some ps => some (.lst ((srtP ps).map prD), 1)
      | none => none
  | _ => none
theorem lexLe_iff {p q : Int × Int} : lexLe p q = true ↔ p.1 < q.1 ∨ (p.1 = q.1 ∧ p.2 ≤ q.2) := by
  unfold lexLe
  rw [Bool.or_eq_true, Bool.and_eq_true, decide_eq_true_eq, decide_eq_true_eq, decide_eq_true_eq]
theorem srtP_perm (ps : List (Int × Int)) : (srtP ps).Perm ps := List.mergeSort_perm _ _
theorem srtP_sorted (ps : List (Int × Int)) : (srtP ps).Pairwise (fun p q => lexLe p q = true) := by
  refine List.pairwise_mergeSort (le := lexLe) (fun a b c h1 h2 => ?_) (fun a b => ?_) ps
  · rw [lexLe_iff] at h1 h2 ⊢
    omega
  · rw [Bool.or_eq_true, lexLe_iff, lexLe_iff]
    omega
theorem srtP_uniq {ps qs : List (Int × Int)} (hp : qs.Perm ps) (hs : qs.Pairwise (fun p q => lexLe p q = true)) : qs = srtP ps := by
  refine List.Perm.eq_of_pairwise (fun x y _ _ h1 h2 => ?_) hs (srtP_sorted ps) (hp.trans (srtP_perm ps).symm)
  rw [lexLe_iff] at h1 h2
  obtain ⟨a, b⟩ := x
  obtain ⟨c, d⟩ := y
  simp only at h1 h2
  have e1 : a = c := by omega
  have e2 : b = d := by omega
  rw [e1, e2]
/-- how a pair's cell reads -/
theorem pair_cell {v : V} {p : Int × Int} (r : Rp K Z H v (prD p) 0 []) : ∃ t, v = .ref t ∧ H t = some (.tup [.int p.1, .int p.2]) ∧ Z t := by
  unfold prD at r
  generalize e0 : ([] : List Addr) = o0 at r
  cases r with
  | tup _ z h r =>
    have := RpAll.ints (ns := [p.1, p.2]) r
    subst this
    exact ⟨_, rfl, h, z⟩
theorem vr_sorted : VrN K (fun xs H Q => rSortedI K xs H Q ∨ rSortedPO K xs H Q) (un1 gSorted) := by
  refine VrN.un1 fun Z H x d w Q hz rx eg k => ?_
  generalize e0 : ([] : List Addr) = o0 at rx
  cases rx <;> simp only [gSorted, reduceCtorEq] at eg
  rename_i a xs ds z h r
  split at eg
  · rename_i ns e
    cases eg
    have e1 := intsOf_some e
    subst e1
    have ev := r.ints
    subst ev
    refine .inl ⟨_, ns, rfl, .of h, fun ns' p hp hs hn => ?_⟩
    have e2 : ns' = srtI ns := PySem.W.os_sorted_mergeSort hp hs
    subst e2
    exact k (.ref p) Z _ [p] (Gr.cell hz hn) (.lstS (o := []) upd_same (RpAll.of_ints _))
  · split at eg
    · rename_i ps e
      cases eg
      have e1 := pairsOf_some e
      subst e1
      -- each value's pair
      have hget : ∀ x ∈ xs, ∃ q ∈ ps, ∃ t, x = V.ref t ∧ H t = some (.tup [.int q.1, .int q.2]) ∧ Z t := fun x hx => by
        obtain ⟨i, hi⟩ := List.getElem?_of_mem hx
        obtain ⟨d, e2, r2⟩ := r.get2 hi
        rw [List.getElem?_map] at e2
        obtain ⟨q, e3, rfl⟩ := Option.map_eq_some_iff.mp e2
        obtain ⟨t, h1, h2, h3⟩ := pair_cell r2
        exact ⟨q, List.mem_of_getElem? e3, t, h1, h2, h3⟩
      let kf : V → Int × Int := fun v => match v with
        | .ref t => match H t with
          | some (.tup [.int i, .int j]) => (i, j)
          | _ => (0, 0)
        | _ => (0, 0)
      have hk : ∀ x t i j, x = V.ref t → H t = some (.tup [.int i, .int j]) → kf x = (i, j) := fun x t i j e1 e2 => by
        subst e1
        show (match H t with | some (.tup [.int i, .int j]) => (i, j) | _ => (0, 0)) = (i, j)
        rw [e2]
      refine .inr ⟨_, xs, kf, rfl, .of h, fun x hx => ?_, fun ys p hs hb hn => ?_⟩
      · obtain ⟨q, _, t, h1, h2, _⟩ := hget x hx
        rw [hk x t q.1 q.2 h1 h2]
        exact ⟨t, h1, h2⟩
      · have ep : (ys.map kf).Perm ps := by
          have e2 : xs.map kf = ps := by
            refine List.ext_getElem? fun i => ?_
            rw [List.getElem?_map]
            cases e3 : xs[i]? with
            | none =>
              have hl := r.length
              rw [List.length_map] at hl
              rw [List.getElem?_eq_none_iff] at e3
              exact (List.getElem?_eq_none_iff.mpr (by omega)).symm
            | some x =>
              obtain ⟨d, e4, r2⟩ := r.get2 e3
              rw [List.getElem?_map] at e4
              obtain ⟨q, e5, rfl⟩ := Option.map_eq_some_iff.mp e4
              obtain ⟨t, h1, h2, _⟩ := pair_cell r2
              rw [e5]
              show some (kf x) = some q
              rw [hk x t q.1 q.2 h1 h2]
          rw [← e2]
          exact hb.perm.map kf
        have es : (ys.map kf).Pairwise (fun p q => lexLe p q = true) := by
          refine List.pairwise_map.mpr (List.Pairwise.imp (fun {a b} hab => ?_) hs)
          rw [lexLe_iff]
          have := SrtO.lexB_no.mp (by simpa using hab)
          omega
        have eu := srtP_uniq ep es
        rw [← eu] at k
        refine k (.ref p) Z _ [p] (Gr.cell hz hn) (.lstS (o := []) upd_same ?_)
        refine .mk (by simp) fun i v d e1 e2 => ?_
        rw [List.map_map, List.getElem?_map, e1] at e2
        cases e2
        obtain ⟨q, _, t, h1, h2, h3⟩ := hget v (hb.perm.mem_iff.mp (List.mem_of_getElem? e1))
        show Rp K Z _ v (prD (kf v)) 0 []
        rw [hk v t q.1 q.2 h1 h2]
        subst h1
        have ht : t ≠ p := ne_of_none h2 hn
        exact .tup 0 h3 (by rw [upd_ne ht]; exact h2) (RpAll.of_ints [q.1, q.2])
    · cases eg
theorem cSorted {X : Cx} : CallR X (.builtin "sorted") (fun xs H Q => rSortedI X.K xs H Q ∨ rSortedPO X.K xs H Q) := cr_sortedI.or cr_sortedPO
end
end VS
/-! VS5: targets, what is walked, list comprehensions, calls of the text's own defs. -/
namespace VS
open PySem PySem.Spec L2

/-! ### isinstance -/
def tyN : D → String
  | .non => "NoneType"
  | .bl _ => "bool"
  | .int _ => "int"
  | .str _ => "str"
  | .tup _ => "tuple"
  | .lst _ => "list"
  | .dct _ _ => "dict"
  | .ins _ _ => "object"
  | .scr _ => "?"
def isiD (T : String) (d : D) : Bool := tyN d == T || (tyN d == "bool" && T == "int")
def okTy : List String := ["bool", "int", "str", "tuple", "list", "dict"]
def gIsi (T : String) : D → Option (D × Nat)
  | .ins _ _ => none
  | .scr _ => none
  | d => some (.bl (isiD T d), 0)
theorem kitB_ok : (["NoneType", "bool", "int", "str", "tuple", "list", "dict"].all fun t => okTy.all fun T => decide (kitB t T = some (t == T || (t == "bool" && T == "int")))) = true := by decide +kernel
theorem kitB_of {t T : String} (h : t ∈ ["NoneType", "bool", "int", "str", "tuple", "list", "dict"]) (h' : T ∈ okTy) : kitB t T = some (t == T || (t == "bool" && T == "int")) := by
  have q := kitB_ok
  rw [List.all_eq_true] at q
  have q2 := q t h
  rw [List.all_eq_true] at q2
  exact of_decide_eq_true (q2 T h')
section
variable {X : Cx} {W : WX} {pos p q : Pos} {a : Expr} {fa : Ev}
theorem Rp.tyX {K : PySem.W.Frag} {Z : Pz} {H : Hp} {v : V} {d : D} (r : Rp K Z H v d 0 []) {w : D × Nat} {T : String} (h : gIsi T d = some w) : TyX K H v (.type (tyN d)) ∧ tyN d ∈ ["NoneType", "bool", "int", "str", "tuple", "list", "dict"] ∧ w = (.bl (isiD T d), 0) := by
  generalize e0 : ([] : List Addr) = o0 at r
  cases r with
  | non => cases h; exact ⟨.base .non, by decide, rfl⟩
  | bl b => cases h; exact ⟨.base (.bl b), by simp [tyN], rfl⟩
  | int i => cases h; exact ⟨.base (.int i), by simp [tyN], rfl⟩
  | str s => cases h; exact ⟨.base (.str s), by simp [tyN], rfl⟩
  | tup _ z e r => cases h; exact ⟨.base (.tup e), by simp [tyN], rfl⟩
  | lst0 z e r => cases h; exact ⟨.base (.lst e), by simp [tyN], rfl⟩
  | scr => cases h
  | dct0 z e l r => cases h; exact ⟨.base (.dK e), by simp [tyN], rfl⟩
theorem se_isi {T : String} {x : Str} (ha : SE X W a fa) (hg : Gl X "isinstance") (hm : X.mg "isinstance" = none) (hgT : Gl X x) (hmT : X.mg x = none) (hT : bootBuiltins x = some (.type T)) (hok : T ∈ okTy := by decide) (hnT : x ≠ "__name__" := by decide) (hdT : (x == ("__debug__" : Str)) = false := by decide)
    (hst : starEach [a, .Name x q] X.env = (false, eval a X.env) :: starEach [.Name x q] X.env := by rfl) (hst2 : starEach [.Name x q] X.env = (false, eval (.Name x q) X.env) :: starEach [] X.env := by rfl) (hpl : (backTo pos (starEach [.Name x q] X.env)).any (·.1) = false := by rfl) :
    SE X W (.Call (.Name "isinstance" p) [a, .Name x q] [] pos) (op1 (gIsi T) fa) := by
  have hb : PE X (.Name x q) (tC (.ty T)) := pe_bltn hgT hmT hT rfl hnT hdT
  refine PE.imp (pe_callB (call_isi (X := X)) hg hm (by decide +kernel) (pa_cons ha (pa_cons hb pa_nil hst2) hst) (by decide) (by decide) hst hpl) fun σ H Q ⟨Z, F, sd, ok, h⟩ => ?_
  refine eP.seq (G := fun _ _ => True) ok (fun w1 sd1 e1 v1 Z1 H1 r1 ok1 x1 => ?_) (fun x sd1 e1 => ?_) (fun e1 => ?_)
  · unfold op1 at h
    rw [e1, R.bind_ok] at h
    cases eg : gIsi T w1.1 with
    | none => rw [eg] at h; exact h.elim
    | some w =>
      rw [eg, lift_some] at h
      obtain ⟨ty, hm, rfl⟩ := r1.tyX eg
      exact ⟨v1, .ty T, _, _, _, rfl, .ty T, ty, kit_ty (kitB_of hm hok), h.pure x1 ok1 (.bl _ _)⟩
  · unfold op1 at h; rw [e1] at h; exact h
  · unfold op1 at h; rw [e1] at h; exact h

/-! ### an item of what a name holds, a slice -/
theorem se_ix {b : Expr} {fb : Ev} (ha : SE X W a fa) (hb : SE X W b fb) (hs : PlainIx b := by exact fun _ _ => rfl) : SE X W (.Subscript a b pos) (op2 gIx fa fb) :=
  PE.imp (pe_ix ix_seq ha hb hs) fun _ _ _ h => tE_op2 vr_ix h
/-- x[i], x a name: its row stays as it is (what lies deeper is frozen) -/
def ixv (i : Nat) (fb : Ev) : Ev := fun sd => match sd[i]? with
  | some (some _) => (fb sd).bind fun y sd1 => match sd1[i]? with
    | some (some (d, k)) => match gIx d y.1 with
      | some w => .ok (w.1, 0) (sd1.set i (some (d, min k 1)))
      | none => .stuck
    | _ => .stuck
  | _ => .stuck
theorem Ok.slot {K : PySem.W.Frag} {Z F : Pz} {H : Hp} {σ : St} {sd : SD} {i : Nat} {w : D × Nat} (ok : Ok K Z F H σ sd) (e : sd[i]? = some (some w)) : ∃ v, σ[i]? = some (some v) := by
  obtain ⟨v, p, e1, _⟩ := ok.take (d := w.1) (k := w.2) e
  exact ⟨v, e1⟩
theorem Rp.open1 {K : PySem.W.Frag} {Z : Pz} {H : Hp} {v : V} {d : D} {k : Nat} {p : List Addr} (r : Rp K Z H v d k p) (nd : p.Nodup) :
    ∃ q1 q2, Rp K (uni Z q2) H v d (min k 1) q1 ∧ (∀ a, a ∈ p ↔ a ∈ q1 ∨ a ∈ q2) ∧ q1.Nodup ∧ (∀ a ∈ q1, a ∉ q2) := by
  cases r with
  | non => exact ⟨[], [], .non _, by simp, .nil, by simp⟩
  | bl b => exact ⟨[], [], .bl _ _, by simp, .nil, by simp⟩
  | int b => exact ⟨[], [], .int _ _, by simp, .nil, by simp⟩
  | str b => exact ⟨[], [], .str _ _, by simp, .nil, by simp⟩
  | tup _ z h r => exact ⟨[], [], .tup _ (.inl z) h (r.freeze (fun _ z => .inl z) fun a m => absurd m List.not_mem_nil), by simp, .nil, by simp⟩
  | lst0 z h r => exact ⟨[], [], .lst0 (.inl z) h (r.freeze (fun _ z => .inl z) fun a m => absurd m List.not_mem_nil), by simp, .nil, by simp⟩
  | scr _ h r => exact ⟨[], [], (Rp.scr _ h r).keep (fun a z => ⟨.inl z, rfl⟩) fun a m => rfl, by simp, .nil, by simp⟩
  | dct0 z h l r => exact ⟨[], [], .dct0 (.inl z) h l (r.freeze (fun _ z => .inl z) fun a m => absurd m List.not_mem_nil), by simp, .nil, by simp⟩
  | @lstS a xs ds k' o h r =>
    refine ⟨[a], o, ?_, by simp, by simp, fun b m => ?_⟩
    · have e : min (k' + 1) 1 = 0 + 1 := by omega
      rw [e]
      exact .lstS (o := []) h (r.freeze (fun _ z => .inl z) fun a m => .inr m)
    · rw [List.mem_singleton] at m
      rw [m]
      exact (List.nodup_cons.mp nd).1
  | @dctS a ks xs ds k' o h l r =>
    refine ⟨[a], o, ?_, by simp, by simp, fun b m => ?_⟩
    · have e : min (k' + 1) 1 = 0 + 1 := by omega
      rw [e]
      exact .dctS (o := []) h l (r.freeze (fun _ z => .inl z) fun a m => .inr m)
    · rw [List.mem_singleton] at m
      rw [m]
      exact (List.nodup_cons.mp nd).1
theorem min_idem (k : Nat) : min (min k 1) 1 = min k 1 := by omega
/-- a slot's row is opened one floor deep: what lies under it is frozen -/
theorem Ok.open1 {K : PySem.W.Frag} {Z F : Pz} {H : Hp} {σ : St} {sd : SD} {i : Nat} {d : D} {k : Nat} (ok : Ok K Z F H σ sd) (e : sd[i]? = some (some (d, k))) :
    ∃ v Z1 q1, σ[i]? = some (some v) ∧ Rp K Z1 H v d (min k 1) q1 ∧ q1.Nodup ∧ (∀ a ∈ q1, ¬ F a) ∧ Ok K Z1 (uni F q1) H σ (sd.set i none) ∧ (∀ a, Z a → Z1 a) ∧ (∀ a, F a → ¬ Z1 a) := by
  obtain ⟨v, p, e1, r, nd, nf, ok1⟩ := ok.take e
  obtain ⟨q1, q2, r1, m, nd1, dj⟩ := r.open1 nd
  have ok2 : Ok K Z (uni (uni F q1) q2) H σ (sd.set i none) := ok1.less fun a z => by
    rcases z with (z | z) | z
    · exact .inl z
    · exact .inr ((m a).mpr (.inl z))
    · exact .inr ((m a).mpr (.inr z))
  have ok3 := ok2.freeze fun a z f => by
    rcases f with f | f
    · exact nf a ((m a).mpr (.inr z)) f
    · exact dj a f z
  refine ⟨v, uni Z q2, q1, e1, r1, nd1, fun a z => nf a ((m a).mpr (.inl z)), ok3, fun a z => .inl z, fun a f z => ?_⟩
  rcases z with z | z
  · exact (ok.base.f a f).2 z
  · exact nf a ((m a).mpr (.inr z)) f
/-- an item of an opened row -/
theorem Rp.item {K : PySem.W.Frag} {Z : Pz} {H : Hp} {v y : V} {d e : D} {k l : Nat} {p : List Addr} {w : D × Nat} {Q : VK} (r : Rp K Z H v d (min k 1) p) (ry : Rp K Z H y e 0 []) (eg : gIx d e = some w) (h : ∀ u, Rp K Z H u w.1 0 [] → Q u H) : rIx K v y H Q := by
  cases ry <;> (try (cases d <;> simp [gIx] at eg; done))
  rename_i j
  generalize e0 : min k 1 = k1 at r
  cases r with
  | tup _ z hh r =>
    obtain ⟨d', e1, rfl⟩ := Option.map_eq_some_iff.mp eg
    obtain ⟨u, e2, ru⟩ := r.atI e1
    exact .inr (.inl ⟨_, _, _, u, rfl, rfl, .of hh, e2, h u ru⟩)
  | lst0 z hh r =>
    obtain ⟨d', e1, rfl⟩ := Option.map_eq_some_iff.mp eg
    obtain ⟨u, e2, ru⟩ := r.atI e1
    exact .inl ⟨_, _, _, u, rfl, rfl, .of hh, e2, h u ru⟩
  | scr _ hh r =>
    obtain ⟨d', e1, rfl⟩ := Option.map_eq_some_iff.mp eg
    obtain ⟨u, e2, ru⟩ := r.atI e1
    rcases hh with hh | hh
    · exact .inl ⟨_, _, _, u, rfl, rfl, hh.sq, e2, h u ru⟩
    · exact .inr (.inl ⟨_, _, _, u, rfl, rfl, hh.sq, e2, h u ru⟩)
  | @lstS a xs ds k' o hh r =>
    have e3 : k' = 0 := by omega
    subst e3
    cases r.nil0
    obtain ⟨d', e1, rfl⟩ := Option.map_eq_some_iff.mp eg
    obtain ⟨u, e2, ru⟩ := r.atI e1
    exact .inl ⟨_, _, _, u, rfl, rfl, .of hh, e2, h u ru⟩
  | non => simp [gIx] at eg
  | bl => simp [gIx] at eg
  | int => simp [gIx] at eg
  | str => simp [gIx] at eg
  | dct0 => simp [gIx] at eg
  | dctS => simp [gIx] at eg
theorem se_ixv (i : Nat) {x : Str} {px : Pos} {b : Expr} {fb : Ev} (hb : SE X W b fb) (hs : PlainIx b := by exact fun _ _ => rfl) (hN : X.N[i]? = some x := by rfl) (hv : Vis X.env.scope x := by first | exact Or.inl rfl | exact Or.inr (Or.inl rfl) | exact Or.inr (Or.inr rfl))
    (hd : (x == ("__debug__" : Str)) = false := by decide) (hcd : (x == ("__classdict__" : Str)) = false := by decide) : SE X W (.Subscript (.Name x px) b pos) (ixv i fb) := by
  refine PE.imp (pe_ix ix_seq (pe_var hN hv hd hcd) hb hs) fun σ H Q ⟨Z, F, sd, ok, h⟩ => ?_
  unfold ixv at h
  split at h
  · rename_i w0 e0
    obtain ⟨v, e1⟩ := ok.slot e0
    refine ⟨v, e1, ?_⟩
    refine eP.seq (G := fun _ _ => True) ok (fun w1 sd1 e2 y Z1 H1 ry ok1 x1 => ?_) (fun x sd1 e2 => ?_) (fun e2 => ?_)
    · rw [e2, R.bind_ok] at h
      split at h
      · rename_i d k e3
        split at h
        · rename_i w eg
          obtain ⟨v', Z2, q1, e4, r2, nd2, nf2, ok2, z12, fz⟩ := ok1.open1 e3
          rw [e1] at e4
          cases e4
          have ry2 : Rp X.K Z2 H1 y w1.1 0 [] := ry.keep (fun a z => ⟨z12 a z, rfl⟩) fun a m => absurd m List.not_mem_nil
          refine r2.item (l := 0) ry2 eg fun u ru => ?_
          have ok3 := ok2.back r2 nd2 nf2 e1
          rw [List.set_set] at ok3
          exact h.pure (x1.trans ⟨fun a z => ⟨z12 a z, rfl⟩, fun _ _ => rfl⟩) ok3 ru
        · exact h.elim
      · exact h.elim
    · rw [e2] at h; exact h
    · rw [e2] at h; exact h
  · exact h.elim

/-! ### a name that is only looked at: len(x), e in x .. -/
def scD : D → Bool
  | .non => true
  | .bl _ => true
  | .int _ => true
  | .str _ => true
  | _ => false
theorem Rp.sc {K : PySem.W.Frag} {Z Z' : Pz} {H H' : Hp} {v : V} {d : D} {k : Nat} {o : List Addr} (r : Rp K Z H v d k o) (h : scD d = true) : Rp K Z' H' v d 0 [] := by
  cases r <;> first | (simp [scD] at h; done) | constructor
/-- as if x were frozen for the while -/
theorem Ok.peek {K : PySem.W.Frag} {mg : Mg} {Z0 Z F : Pz} {H0 H : Hp} {σ : St} {sd : SD} {i : Nat} {d e : D} {k : Nat} {Q : VK} (ok : Ok K Z F H σ sd) (x0 : Ext F Z0 H0 Z H) (ei : sd[i]? = some (some (d, k))) (hs : scD e = true) (h : eP K mg W Z0 F σ H0 (.ok (e, 0) sd) Q) :
    ∃ v Z1, σ[i]? = some (some v) ∧ Rp K Z1 H v d 0 [] ∧ (∀ a, Z a → Z1 a) ∧ (∀ a, Z1 a → ∃ o, H a = some o) ∧ ∀ u Z' H' o, Gr Z1 H Z' H' o → ∀ l, Rp K Z' H' u e l o → Q u H' := by
  obtain ⟨v, p, e1, r, nd, nf, ok1⟩ := ok.take ei
  have hp : ∀ a ∈ p, (∃ o, H a = some o) ∧ ¬ Z a := fun a m => ok1.base.f a (.inr m)
  refine ⟨v, uni Z p, e1, r.freeze (fun _ z => .inl z) fun _ m => .inr m, fun _ z => .inl z, fun a z => ?_, fun u Z' H' o g l ru => ?_⟩
  · rcases z with z | z
    · exact ok.base.z a z
    · exact (hp a z).1
  · have g2 : Gr Z H (fun a => Z' a ∧ a ∉ p) H' o := by
      refine ⟨g.keep, fun a z => ⟨g.zz a (.inl z), fun m => (hp a m).2 z⟩, fun a z => ?_, fun a m => ⟨(g.on a m).1, (g.on a m).2.1, fun z => (g.on a m).2.2 z.1⟩, g.nd⟩
      rcases g.zn a z.1 with (q | q) | q
      · exact .inl q
      · exact absurd q z.2
      · exact .inr q
    have ok2 := (g2.ok ok).less (F' := F) fun _ z => .inl z
    exact h.pure (x0.trans (g2.ext ok.base)) ok2 (ru.sc hs)
def bor1 (g : D → Option (D × Nat)) (i : Nat) : Ev := fun sd => match sd[i]? with
  | some (some (d, _)) => match g d with
    | some (e, 0) => if scD e then .ok (e, 0) sd else .stuck
    | _ => .stuck
  | _ => .stuck
/-- f(x), x a name -/
theorem se_borB {x y : Str} {id : String} {r : List V → Hp → VK → Prop} {g : D → Option (D × Nat)} (i : Nat) (hc : CallR X (.builtin id) r) (hr : VrN X.K r (un1 g)) (hg : Gl X x) (hm : X.mg x = none) (hv : bootBuiltins x = some (.builtin id))
    (hN : X.N[i]? = some y := by rfl) (hvy : Vis X.env.scope y := by first | exact Or.inl rfl | exact Or.inr (Or.inl rfl) | exact Or.inr (Or.inr rfl)) (hd : (y == ("__debug__" : Str)) = false := by decide) (hcd : (y == ("__classdict__" : Str)) = false := by decide)
    (hn : x ≠ "__name__" := by decide) (hdb : (x == ("__debug__" : Str)) = false := by decide) (he : starEach [.Name y q] X.env = (false, eval (.Name y q) X.env) :: starEach [] X.env := by rfl) (hpl : (backTo pos (starEach [] X.env)).any (·.1) = false := by rfl) :
    SE X W (.Call (.Name x p) [.Name y q] [] pos) (bor1 g i) := by
  refine PE.imp (pe_callB hc hg hm hv (pa_cons (pe_var hN hvy hd hcd) pa_nil he) hn hdb he hpl) fun σ H Q ⟨Z, F, sd, ok, h⟩ => ?_
  unfold bor1 at h
  split at h
  · rename_i d k ei
    split at h
    · rename_i e eg
      split at h
      · rename_i hs
        obtain ⟨v, Z1, e1, rv, _, hz, fin⟩ := ok.peek .refl ei hs h
        refine ⟨v, e1, ?_⟩
        exact hr Z1 H [v] [d] (e, 0) Q hz (.cons (o := []) (p := []) rv (.nil 0)) eg fun u Z' H' o gr ru => fin u Z' H' o gr _ ru
      · exact h.elim
    · exact h.elim
  · exact h.elim
def bor2 (g : D → D → Option (D × Nat)) (fa : Ev) (i : Nat) : Ev := fun sd => (fa sd).bind fun x sd1 => match sd1[i]? with
  | some (some (d, _)) => match g x.1 d with
    | some (e, 0) => if scD e then .ok (e, 0) sd1 else .stuck
    | _ => .stuck
  | _ => .stuck
theorem tE_bor2 {K : PySem.W.Frag} {mg : Mg} {r : R2} {g : D → D → Option (D × Nat)} {i : Nat} (hg : Vr2 K r g) {σ : St} {H : Hp} {Q : VK} (h : tE K mg W (bor2 g fa i) σ H Q) : tOp r (tE K mg W fa) (tVar i) σ H Q := by
  obtain ⟨Z, F, sd, ok, h⟩ := h
  unfold bor2 at h
  refine eP.seq (G := fun _ _ => True) ok (fun w1 sd1 e2 y Z1 H1 ry ok1 x1 => ?_) (fun x sd1 e2 => ?_) (fun e2 => ?_)
  · rw [e2, R.bind_ok] at h
    split at h
    · rename_i d k ei
      split at h
      · rename_i e eg
        split at h
        · rename_i hs
          obtain ⟨v, Z2, e1, rv, zz, hz, fin⟩ := ok1.peek x1 ei hs h
          refine ⟨v, e1, ?_⟩
          have ry2 : Rp K Z2 H1 y w1.1 0 [] := ry.keep (fun a z => ⟨zz a z, rfl⟩) fun a m => absurd m List.not_mem_nil
          exact hg Z2 H1 y v w1.1 d (e, 0) Q hz ry2 rv eg fun u Z' H' o gr ru => fin u Z' H' o gr _ ru
        · exact h.elim
      · exact h.elim
    · exact h.elim
  · rw [e2] at h; exact h
  · rw [e2] at h; exact h
/-- e in x, x a name -/
theorem se_bor2 {op : CmpOp} {r : R2} {g : D → D → Option (D × Nat)} {y : Str} (i : Nat) (ho : OpR X (compareOp op) r) (hg : Vr2 X.K r g) (ha : SE X W a fa)
    (hN : X.N[i]? = some y := by rfl) (hvy : Vis X.env.scope y := by first | exact Or.inl rfl | exact Or.inr (Or.inl rfl) | exact Or.inr (Or.inr rfl)) (hd : (y == ("__debug__" : Str)) = false := by decide) (hcd : (y == ("__classdict__" : Str)) = false := by decide)
    (hm : behindInMarks op (.Name y q) = false := by first | exact nomark _ | rfl) : SE X W (.Compare a [op] [.Name y q] pos) (bor2 g fa i) :=
  PE.imp (pe_cmpR ho ha (pe_var hN hvy hd hcd) hm) fun _ _ _ h => tE_bor2 hg h
theorem st_bor2 {op : CmpOp} {r : R2} {g : D → D → Option (D × Nat)} {y : Str} (i : Nat) (ho : OpR X (compareOp op) r) (hg : Vr2 X.K r g) (ha : SE X W a fa)
    (hN : X.N[i]? = some y := by rfl) (hvy : Vis X.env.scope y := by first | exact Or.inl rfl | exact Or.inr (Or.inl rfl) | exact Or.inr (Or.inr rfl)) (hd : (y == ("__debug__" : Str)) = false := by decide) (hcd : (y == ("__classdict__" : Str)) = false := by decide)
    (hm : behindInMarks op (.Name y q) = false := by first | exact nomark _ | rfl) : ST X W (.Compare a [op] [.Name y q] pos) (tst (bor2 g fa i)) :=
  PT.imp (pt_cmpR ho ha (pe_var hN hvy hd hcd) hm) fun _ _ _ h => tT_tst (fun _ _ _ h => tE_bor2 hg h) h
end
end VS
/-! VS6: slices, targets, what is walked, list comprehensions, calls of own defs. -/
namespace VS
open PySem PySem.Spec L2

/-! ### slices -/
abbrev Eo := SD → R (Option Int)
def poN : Eo := fun sd => .ok none sd
def poS (f : Ev) : Eo := fun sd => (f sd).bind fun x sd1 => match x.1 with
  | .int i => .ok (some i) sd1
  | _ => .stuck
def slE (fa : Ev) (fl fh : Eo) : Ev := fun sd => (fa sd).bind fun x sd1 => (fl sd1).bind fun l sd2 => (fh sd2).bind fun h sd3 => lift (gSl x.1 l h) sd3
section
variable (K : PySem.W.Frag) (mg : Mg) (W : WX)
def oP (Z F : Pz) (σ : St) (H : Hp) (r : R (Option Int)) (Q : Option Int → Hp → Prop) : Prop := match r with
  | .ok b sd' => ∀ Z' H', Ok K Z' F H' σ sd' → Ext F Z H Z' H' → Q b H'
  | .exc x sd' => excP K mg W Z F σ H x sd'
  | .stuck => False
def tO (f : Eo) : TO := fun σ H Q => ∃ Z F sd, Ok K Z F H σ sd ∧ oP K mg W Z F σ H (f sd) Q
end
section
variable {K : PySem.W.Frag} {mg : Mg} {W : WX} {Z Z1 F : Pz} {H H1 : Hp} {σ : St}
theorem oP.seq {f : Eo} {Q : Option Int → Hp → Prop} {sd : SD} (ok : Ok K Z F H σ sd)
    (hok : ∀ b sd1, f sd = .ok b sd1 → ∀ Z1 H1, Ok K Z1 F H1 σ sd1 → Ext F Z H Z1 H1 → Q b H1)
    (hex : ∀ x sd1, f sd = .exc x sd1 → excP K mg W Z F σ H x sd1) (hst : f sd = .stuck → False) : tO K mg W f σ H Q := by
  refine ⟨Z, F, sd, ok, ?_⟩
  cases e : f sd with
  | ok w sd1 => exact hok w sd1 e
  | exc x sd1 => exact hex x sd1 e
  | stuck => exact hst e
end
def SO (X : Cx) (W : WX) (e : Option Expr) (f : Eo) : Prop := PO X e (tO X.K X.mg W f)
theorem PO.imp {X : Cx} {e : Option Expr} {t t' : TO} (h : PO X e t) (w : ∀ σ H Q, t' σ H Q → t σ H Q) : PO X e t' := by
  refine ⟨?_⟩
  intros
  exact h.run _ _ _ _ _ (by assumption) (w _ _ _ (by assumption))
section
variable {X : Cx} {W : WX} {pos p q : Pos} {a b : Expr} {fa fb : Ev}
theorem so_none : SO X W none poN := PO.imp po_none fun σ H Q ⟨Z, F, sd, ok, h⟩ => h Z H ok .refl
theorem so_some (h : SE X W a fa) : SO X W (some a) (poS fa) := PO.imp (po_some h) fun σ H Q ⟨Z, F, sd, ok, h⟩ => by
  unfold poS at h
  refine eP.seq (G := fun _ _ => True) ok (fun w1 sd1 e2 y Z1 H1 ry ok1 x1 => ?_) (fun x sd1 e2 => ?_) (fun e2 => ?_)
  · rw [e2, R.bind_ok] at h
    split at h
    · rename_i i ei
      rw [ei] at ry
      cases ry
      exact ⟨i, rfl, h Z1 H1 ok1 x1⟩
    · exact h.elim
  · rw [e2] at h; exact h
  · rw [e2] at h; exact h
theorem se_sl {lo hi : Option Expr} {fl fh : Eo} {p2 : Pos} (ha : SE X W a fa) (hl : SO X W lo fl) (hh : SO X W hi fh) : SE X W (.Subscript a (.Slice lo hi none p2) pos) (slE fa fl fh) := by
  refine PE.imp (pe_slice sl_all ha hl hh) fun σ H Q ⟨Z, F, sd, ok, h⟩ => ?_
  unfold slE at h
  refine eP.seq (G := fun _ _ => True) ok (fun w1 sd1 e1 y Z1 H1 ry ok1 x1 => ?_) (fun x sd1 e2 => ?_) (fun e2 => ?_)
  · rw [e1, R.bind_ok] at h
    refine oP.seq ok1 (fun l sd2 e2 Z2 H2 ok2 x2 => ?_) (fun x sd2 e2 => ?_) (fun e2 => ?_)
    · rw [e2, R.bind_ok] at h
      refine oP.seq ok2 (fun u sd3 e3 Z3 H3 ok3 x3 => ?_) (fun x sd3 e3 => ?_) (fun e3 => ?_)
      · rw [e3, R.bind_ok] at h
        have ry3 : Rp X.K Z3 H3 y w1.1 0 [] := ry.keep (x2.trans x3).z fun _ m => absurd m List.not_mem_nil
        cases eg : gSl w1.1 l u with
        | none => rw [eg] at h; exact h.elim
        | some w =>
          rw [eg, lift_some] at h
          exact vr_sl Z3 H3 y _ l u w Q ok3.base.z ry3 eg fun v Z' H' o gr rv => eP.fin h ((x1.trans x2).trans x3) ok3 gr rv
      · rw [e3] at h; exact excP.go0 h (x1.trans x2)
      · rw [e3] at h; exact h
    · rw [e2] at h; exact excP.go0 h x1
    · rw [e2] at h; exact h
  · rw [e2] at h; exact h
  · rw [e2] at h; exact h
end

/-! ### targets: the slots vs are set, nothing else -/
abbrev Tg := D → SD → Option SD
def gN (i : Nat) : Tg := fun d sd => some (sd.set i (some (d, 0)))
def gNs : List Tg → List D → SD → Option SD
  | [], [], sd => some sd
  | g :: gs, d :: ds, sd => (g d sd).bind fun sd1 => gNs gs ds sd1
  | _, _, _ => none
def gT (gs : List Tg) : Tg := fun d sd => match d with
  | .tup ds => gNs gs ds sd
  | .lst ds => none
  | _ => none
/-- σ' is σ but for the slots vs -/
def Dif (vs : List Nat) (σ σ' : St) : Prop := σ'.length = σ.length ∧ ∀ i, i ∉ vs → σ'[i]? = σ[i]?
theorem Dif.refl {vs : List Nat} {σ : St} : Dif vs σ σ := ⟨rfl, fun _ _ => rfl⟩
theorem Dif.trans {vs : List Nat} {σ σ1 σ2 : St} (a : Dif vs σ σ1) (b : Dif vs σ1 σ2) : Dif vs σ σ2 := ⟨b.1.trans a.1, fun i h => (b.2 i h).trans (a.2 i h)⟩
theorem Dif.mono {vs ws : List Nat} {σ σ' : St} (a : Dif vs σ σ') (h : ∀ i ∈ vs, i ∈ ws) : Dif ws σ σ' := ⟨a.1, fun i n => a.2 i fun m => n (h i m)⟩
theorem wipe_at {σ : St} {vs : List Nat} {i : Nat} : (wipe σ vs)[i]? = if i ∈ vs then (if i < σ.length then some none else none) else σ[i]? := by
  induction vs with
  | nil => simp [wipe]
  | cons v vs ih =>
    unfold wipe
    by_cases h : v = i
    · subst h
      rw [if_pos List.mem_cons_self]
      by_cases hl : v < σ.length
      · rw [List.getElem?_set_self (by rw [wipe_length]; exact hl), if_pos hl]
      · rw [if_neg hl]
        exact List.getElem?_eq_none (by rw [List.length_set, wipe_length]; omega)
    · rw [List.getElem?_set_ne h, ih]
      have : i ∈ v :: vs ↔ i ∈ vs := by simp [Ne.symm h]
      by_cases m : i ∈ vs
      · rw [if_pos m, if_pos (this.mpr m)]
      · rw [if_neg m, if_neg fun z => m (this.mp z)]
theorem Dif.wipe {vs : List Nat} {σ σ' : St} (a : Dif vs σ σ') : wipe σ' vs = wipe σ vs := by
  refine List.ext_getElem? fun i => ?_
  rw [wipe_at, wipe_at, a.1]
  by_cases m : i ∈ vs
  · rw [if_pos m, if_pos m]
  · rw [if_neg m, if_neg m]
    exact a.2 i m
section
variable (K : PySem.W.Frag)
def gP (vs : List Nat) (g : Tg) : TG := fun v σ H Q => ∃ Z F sd d, Ok K Z F H σ sd ∧ Rp K Z H v d 0 [] ∧ match g d sd with
  | some sd' => ∀ σ', Ok K Z F H σ' sd' → Dif vs σ σ' → Q σ' H
  | none => False
def gPs (vs : List Nat) (gs : List Tg) : TGs := fun us σ H Q => ∃ Z F sd ds, Ok K Z F H σ sd ∧ RpAll K Z H us ds 0 [] ∧ match gNs gs ds sd with
  | some sd' => ∀ σ', Ok K Z F H σ' sd' → Dif vs σ σ' → Q σ' H
  | none => False
end
def SG (X : Cx) (vs : List Nat) (e : Expr) (g : Tg) : Prop := PG X e (gP X.K vs g)
def SGs (X : Cx) (vs : List Nat) (es : List Expr) (gs : List Tg) : Prop := PGs X es (gPs X.K vs gs)
theorem PG.imp {X : Cx} {e : Expr} {t t' : TG} (h : PG X e t) (w : ∀ v σ H Q, t' v σ H Q → t v σ H Q) : PG X e t' := ⟨fun pins s σ H v u Q I r q => h.run pins s σ H v u Q I r (w _ _ _ _ q)⟩
theorem PGs.imp {X : Cx} {e : List Expr} {t t' : TGs} (h : PGs X e t) (w : ∀ v σ H Q, t' v σ H Q → t v σ H Q) : PGs X e t' := ⟨fun pins s σ H v u Q I r q => h.run pins s σ H v u Q I r (w _ _ _ _ q)⟩
theorem Ok.store {K : PySem.W.Frag} {Z F : Pz} {H : Hp} {σ : St} {sd : SD} {i : Nat} {v : V} {d : D} {k : Nat} {p : List Addr} (h : Ok K Z (uni F p) H σ sd) (r : Rp K Z H v d k p) (nd : p.Nodup) (nf : ∀ a ∈ p, ¬ F a) : Ok K Z F H (σ.set i (some v)) (sd.set i (some (d, k))) := by
  by_cases hi : i < sd.length
  · exact h.put r nd nf hi
  · have e1 : sd.set i (some (d, k)) = sd := List.set_eq_of_length_le (by omega)
    have e2 : σ.set i (some v) = σ := List.set_eq_of_length_le (by have := h.length; omega)
    rw [e1, e2]
    exact h.less fun _ z => .inl z
theorem Dif.set {σ : St} {i : Nat} {v : Option V} {vs : List Nat} (h : i ∈ vs) : Dif vs σ (σ.set i v) := ⟨List.length_set, fun j n => List.getElem?_set_ne fun e => n (by rw [← e]; exact h)⟩
section
variable {X : Cx} {pos : Pos}
theorem sg_n (i : Nat) {x : Str} {vs : List Nat} (hN : X.N.Nodup) (hi : X.N[i]? = some x := by rfl) (hx : Loc X.env.scope x := by first | exact Or.inl rfl | exact Or.inr rfl) (hf : X.fn x = true ∨ X.env.scope.names.lookup x = some .local := by first | exact .inl rfl | exact .inr rfl) (hv : i ∈ vs := by decide) : SG X vs (.Name x pos) (gN i) := by
  refine PG.imp (pg_name hN hi hx hf) fun v σ H Q ⟨Z, F, sd, d, ok, r, h⟩ => ?_
  exact h _ (ok.unnil.store r .nil fun _ m => absurd m List.not_mem_nil) (.set hv)
theorem sgs_nil {vs : List Nat} : SGs X vs [] [] := by
  refine PGs.imp pgs_nil fun us σ H Q ⟨Z, F, sd, ds, ok, r, h⟩ => ?_
  cases ds with
  | nil =>
    cases us with
    | nil => exact ⟨rfl, h σ ok .refl⟩
    | cons _ _ => have := r.length; cases this
  | cons _ _ => exact h.elim
theorem sgs_cons {e : Expr} {es : List Expr} {vs : List Nat} {g : Tg} {gs : List Tg} (h1 : SG X vs e g) (h2 : SGs X vs es gs) (hs : (assignEach (e :: es) X.env).map (·.2) = assign e X.env :: (assignEach es X.env).map (·.2) := by rfl) : SGs X vs (e :: es) (g :: gs) := by
  refine PGs.imp (pgs_cons h1 h2 hs) fun us σ H Q ⟨Z, F, sd, ds, ok, r, h⟩ => ?_
  cases ds with
  | nil => exact h.elim
  | cons d ds =>
    cases us with
    | nil => have := r.length; cases this
    | cons u us =>
      obtain ⟨r1, r2⟩ := r.uncons
      simp only [gNs] at h
      refine ⟨u, us, rfl, Z, F, sd, d, ok, r1, ?_⟩
      cases eg : g d sd with
      | none => rw [eg] at h; exact h
      | some sd1 =>
        rw [eg] at h
        intro σ1 ok1 df1
        refine ⟨Z, F, sd1, ds, ok1, r2, ?_⟩
        simp only [Option.bind_some] at h
        cases eg2 : gNs gs ds sd1 with
        | none => rw [eg2] at h; exact h
        | some sd2 =>
          rw [eg2] at h
          exact fun σ2 ok2 df2 => h σ2 ok2 (df1.trans df2)
theorem gNs_len : ∀ {gs : List Tg} {ds : List D} {sd sd' : SD}, gNs gs ds sd = some sd' → gs.length = ds.length
  | [], [], _, _, _ => rfl
  | g :: gs, d :: ds, sd, sd', h => by
    simp only [gNs] at h
    obtain ⟨sd1, _, h2⟩ := Option.bind_eq_some_iff.mp h
    rw [List.length_cons, List.length_cons, gNs_len h2]
  | [], _ :: _, _, _, h => by simp [gNs] at h
  | _ :: _, [], _, _, h => by simp [gNs] at h
theorem sg_t {es : List Expr} {k : Nat} {vs : List Nat} {gs : List Tg} (hc : X.calm = true) (h : SGs X vs es gs) (hn : (assignEach es X.env).length = gs.length := by rfl) (hst : (assignEach es X.env).findIdx? (·.1) = none := by rfl) : SG X vs (.Tuple es k pos) (gT gs) := by
  refine PG.imp (pg_tup (n := gs.length) hc h hn hst) fun v σ H Q ⟨Z, F, sd, d, ok, r, hh⟩ => ?_
  unfold gT at hh
  split at hh
  · rename_i ds sd' e
    split at e
    · rename_i ds
      generalize e0 : ([] : List Addr) = o0 at r
      cases r with
      | tup _ z hc' ra =>
        refine ⟨_, _, rfl, .of hc', ?_, Z, F, sd, ds, ok, ra, ?_⟩
        · rw [ra.length, gNs_len e]
        · rw [e]; exact hh
    · cases e
    · cases e
  · exact hh.elim
end

/-! ### what is walked -/
abbrev Ei := SD → R (List D)
/-- the iterator's turns are the items -/
def ItOk (K : PySem.W.Frag) (J : It) (items : List D) (Z0 : Pz) (H0 : Hp) : Prop := ∀ (i : Nat) (Z : Pz) (H : Hp), (∀ a, Z0 a → Z a ∧ H a = H0 a) → (∀ a, Z a → ∃ o, H a = some o) →
  (items.length ≤ i → J.stop i H) ∧ ∀ d, items[i]? = some d → J.go i H ∧ ∀ x H', J.yld i H x H' → ∃ Z', Gr Z H Z' H' [] ∧ Rp K Z' H' x d 0 []
section
variable (K : PySem.W.Frag) (mg : Mg) (W : WX)
def iP (Z F : Pz) (σ : St) (H : Hp) (r : R (List D)) (R' : It → Hp → Prop) : Prop := match r with
  | .ok items sd' => ∀ J Z' H', ItOk K J items Z' H' → Ok K Z' F H' σ sd' → Ext F Z H Z' H' → R' J H'
  | .exc x sd' => excP K mg W Z F σ H x sd'
  | .stuck => False
def tI (f : Ei) : TI := fun σ H R' => ∃ Z F sd, Ok K Z F H σ sd ∧ iP K mg W Z F σ H (f sd) R'
end
def SI (X : Cx) (W : WX) (tg iter : Expr) (f : Ei) : Prop := PI X tg iter (tI X.K X.mg W f)
theorem PI.imp {X : Cx} {tg iter : Expr} {t t' : TI} (h : PI X tg iter t) (w : ∀ σ H R', t' σ H R' → t σ H R') : PI X tg iter t' := ⟨fun pins s σ H R' I q => h.run pins s σ H R' I (w _ _ _ q)⟩
/-- a list or tuple walked -/
def iAny (f : Ev) : Ei := fun sd => (f sd).bind fun x sd1 => match x.1 with
  | .lst ds => .ok ds sd1
  | .tup ds => .ok ds sd1
  | _ => .stuck
def rngD (lo : Int) (n : Nat) : List D := (List.range n).map fun (i : Nat) => .int (lo + (i : Int))
def iR1 (f : Ev) : Ei := fun sd => (f sd).bind fun x sd1 => match x.1 with
  | .int n => if -(2 ^ 62) ≤ n ∧ n < 2 ^ 62 then .ok (rngD 0 n.toNat) sd1 else .stuck
  | _ => .stuck
def iR2 (f g : Ev) : Ei := fun sd => (f sd).bind fun x sd1 => (g sd1).bind fun y sd2 => match x.1, y.1 with
  | .int m, .int n => if -(2 ^ 62) ≤ m ∧ m < 2 ^ 62 ∧ -(2 ^ 62) ≤ n ∧ n < 2 ^ 62 then .ok (rngD m (n - m).toNat) sd2 else .stuck
  | _, _ => .stuck
def enumFrom : Nat → List D → List D
  | _, [] => []
  | i, d :: ds => .tup [.int i, d] :: enumFrom (i + 1) ds
theorem enumFrom_at : ∀ (ds : List D) (j i : Nat), (enumFrom j ds)[i]? = (ds[i]?).map fun d => .tup [.int ((j + i : Nat) : Int), d]
  | [], _, _ => by simp [enumFrom]
  | d :: ds, j, 0 => by simp [enumFrom]
  | d :: ds, j, i + 1 => by
    simp only [enumFrom, List.getElem?_cons_succ]
    rw [enumFrom_at ds (j + 1) i]
    have : j + 1 + i = j + (i + 1) := by omega
    rw [this]
theorem enumFrom_len : ∀ (ds : List D) (j : Nat), (enumFrom j ds).length = ds.length
  | [], _ => rfl
  | d :: ds, j => by simp [enumFrom, enumFrom_len ds]
def iEnumL (f : Ev) : Ei := fun sd => (f sd).bind fun x sd1 => match x.1 with
  | .lst ds => .ok (enumFrom 0 ds) sd1
  | _ => .stuck
def iRev' (f : Ev) : Ei := fun sd => (f sd).bind fun x sd1 => match x.1 with
  | .lst ds => .ok ds.reverse sd1
  | .tup ds => .ok ds.reverse sd1
  | _ => .stuck
section
variable {K : PySem.W.Frag} {mg : Mg} {W : WX} {Z Z' F : Pz} {H H' : Hp} {σ : St}
theorem ItOk.lst {a : Addr} {xs : List V} {ds : List D} (z : Z a) (h : H a = some (.lst xs)) (r : RpAll K Z H xs ds 0 []) : ItOk K (Itl K a) ds Z H := by
  intro i Z2 H2 st hz
  obtain ⟨z2, e2⟩ := st a z
  have h2 : SqL K H2 a xs := .of (e2.trans h)
  refine ⟨fun hi => ⟨xs, h2, by rw [r.length]; exact hi⟩, fun d hd => ?_⟩
  obtain ⟨v, hv, rv⟩ := r.get hd
  refine ⟨⟨xs, v, h2, hv⟩, fun x H' y => ?_⟩
  obtain ⟨e, y⟩ := y
  subst e
  have := y xs h2
  rw [hv] at this
  cases this
  exact ⟨Z2, .refl, rv.keep st fun a m => absurd m List.not_mem_nil⟩
theorem ItOk.tup {a : Addr} {xs : List V} {ds : List D} (z : Z a) (h : H a = some (.tup xs)) (r : RpAll K Z H xs ds 0 []) : ItOk K (Itt K a) ds Z H := by
  intro i Z2 H2 st hz
  obtain ⟨z2, e2⟩ := st a z
  have h2 : SqT K H2 a xs := .of (e2.trans h)
  refine ⟨fun hi => ⟨xs, h2, by rw [r.length]; exact hi⟩, fun d hd => ?_⟩
  obtain ⟨v, hv, rv⟩ := r.get hd
  refine ⟨⟨xs, v, h2, hv⟩, fun x H' y => ?_⟩
  obtain ⟨e, y⟩ := y
  subst e
  have := y xs h2
  rw [hv] at this
  cases this
  exact ⟨Z2, .refl, rv.keep st fun a m => absurd m List.not_mem_nil⟩
theorem ItOk.rng (lo : Int) (n : Nat) : ItOk K (Itr lo n) (rngD lo n) Z H := by
  intro i Z2 H2 st hz
  unfold rngD
  refine ⟨fun hi => by rw [List.length_map, List.length_range] at hi; exact hi, fun d hd => ?_⟩
  rw [List.getElem?_map] at hd
  obtain ⟨j, e1, rfl⟩ := Option.map_eq_some_iff.mp hd
  obtain ⟨hj, e3⟩ := List.getElem?_eq_some_iff.mp e1
  rw [List.length_range] at hj
  rw [List.getElem_range] at e3
  subst e3
  refine ⟨hj, fun x H' y => ?_⟩
  obtain ⟨e, y⟩ := y
  subst e
  subst y
  exact ⟨Z2, .refl, .int _ _⟩
theorem ItOk.enum {a : Addr} {xs : List V} {ds : List D} (z : Z a) (h : H a = some (.lst xs)) (r : RpAll K Z H xs ds 0 []) : ItOk K (Ite K a) (enumFrom 0 ds) Z H := by
  intro i Z2 H2 st hz
  obtain ⟨z2, e2⟩ := st a z
  have h2 : SqL K H2 a xs := .of (e2.trans h)
  refine ⟨fun hi => ⟨xs, h2, by rw [enumFrom_len] at hi; rw [r.length]; exact hi⟩, fun d hd => ?_⟩
  rw [enumFrom_at] at hd
  obtain ⟨d', hd', rfl⟩ := Option.map_eq_some_iff.mp hd
  obtain ⟨v, hv, rv⟩ := r.get hd'
  refine ⟨⟨xs, v, h2, hv⟩, fun x H' y => ?_⟩
  obtain ⟨T, u, rfl, hT, e, y⟩ := y
  subst e
  have := y xs h2
  rw [hv] at this
  cases this
  have rv2 : Rp K Z2 H2 v d' 0 [] := rv.keep st fun a m => absurd m List.not_mem_nil
  refine ⟨fun a => Z2 a ∨ a = T, Gr.fz hT, .tup 0 (.inr rfl) upd_same ?_⟩
  rw [Nat.zero_add]
  exact .cons (o := []) (p := []) (.int _ _) (.cons (o := []) (p := []) (Gr.rp (Gr.fz hT) hz rv2) (.nil 0))
theorem ItOk.revL {a : Addr} {xs : List V} {ds : List D} (z : Z a) (h : H a = some (.lst xs)) (r : RpAll K Z H xs ds 0 []) : ItOk K (Itv K a xs.length) ds.reverse Z H := by
  intro i Z2 H2 st hz
  obtain ⟨z2, e2⟩ := st a z
  have h2 : SqL K H2 a xs := .of (e2.trans h)
  have rr := r.rev
  refine ⟨fun hi => ?_, fun d hd => ?_⟩
  · rw [List.length_reverse] at hi
    show xs.length ≤ i
    rw [r.length]; exact hi
  · obtain ⟨v, hv, rv⟩ := rr.get hd
    obtain ⟨hi, _⟩ := List.getElem?_eq_some_iff.mp hv
    rw [List.length_reverse] at hi
    rw [List.getElem?_reverse hi] at hv
    refine ⟨⟨hi, xs, v, h2, hv⟩, fun x H' y => ?_⟩
    obtain ⟨e, y⟩ := y
    subst e
    have := y xs h2
    rw [hv] at this
    cases this
    exact ⟨Z2, .refl, rv.keep st fun a m => absurd m List.not_mem_nil⟩
end
section
variable {X : Cx} {W : WX} {pos p q : Pos} {tg a b : Expr} {fa fb : Ev}
theorem si_any (ha : SE X W a fa) : SI X W tg a (iAny fa) := by
  refine ⟨fun pins s σ H R' I ⟨Z, F, sd, ok, h⟩ => ?_⟩
  unfold iAny at h
  cases e : fa sd with
  | ok w sd1 =>
    rw [e, R.bind_ok] at h
    split at h
    · rename_i ds ew
      refine (pi_list ha).run pins s σ H R' I ?_
      refine eP.seq (G := fun _ _ => True) ok (fun w1 sd1' e1 y Z1 H1 ry ok1 x1 => ?_) (fun x sd1 e2 => ?_) (fun e2 => ?_)
      · rw [e] at e1; cases e1
        rw [ew] at ry
        generalize e0 : ([] : List Addr) = o0 at ry
        cases ry with
        | lst0 z hh r => exact ⟨_, rfl, ⟨_, .of hh⟩, h _ Z1 H1 (ItOk.lst z hh r) ok1 x1⟩
      · rw [e] at e2; cases e2
      · rw [e] at e2; cases e2
    · rename_i ds ew
      refine (pi_tup ha).run pins s σ H R' I ?_
      refine eP.seq (G := fun _ _ => True) ok (fun w1 sd1' e1 y Z1 H1 ry ok1 x1 => ?_) (fun x sd1 e2 => ?_) (fun e2 => ?_)
      · rw [e] at e1; cases e1
        rw [ew] at ry
        generalize e0 : ([] : List Addr) = o0 at ry
        cases ry with
        | tup _ z hh r => exact ⟨_, rfl, ⟨_, .of hh⟩, h _ Z1 H1 (ItOk.tup z hh r) ok1 x1⟩
      · rw [e] at e2; cases e2
      · rw [e] at e2; cases e2
    · exact h.elim
  | exc x sd1 =>
    rw [e] at h
    refine (pi_list ha).run pins s σ H R' I (eP.seq (G := fun _ _ => True) ok (fun w1 sd1' e1 => ?_) (fun x sd1 e2 => ?_) (fun e2 => ?_))
    · rw [e] at e1; cases e1
    · rw [e] at e2; cases e2; exact h
    · rw [e] at e2; cases e2
  | stuck => rw [e] at h; exact h.elim
theorem si_r1 (ha : SE X W a fa) (hg : Gl X "range") (hm : X.mg "range" = none) (hst : starEach [a] X.env = (false, eval a X.env) :: starEach [] X.env := by rfl) (hs : starEach [a] X.env = [(false, eval a X.env)] := by rfl) : SI X W tg (.Call (.Name "range" p) [a] [] pos) (iR1 fa) := by
  refine PI.imp (pi_range1 hg hm (pa_cons ha pa_nil hst) hs) fun σ H R' ⟨Z, F, sd, ok, h⟩ => ?_
  unfold iR1 at h
  refine eP.seq (G := fun _ _ => True) ok (fun w1 sd1 e1 y Z1 H1 ry ok1 x1 => ?_) (fun x sd1 e2 => ?_) (fun e2 => ?_)
  · rw [e1, R.bind_ok] at h
    split at h
    · rename_i n en
      rw [en] at ry
      cases ry
      split at h
      · rename_i hn
        exact ⟨n, rfl, hn.1, hn.2, h _ Z1 H1 (ItOk.rng 0 n.toNat) ok1 x1⟩
      · exact h.elim
    · exact h.elim
  · rw [e2] at h; exact h
  · rw [e2] at h; exact h
theorem si_r2 (ha : SE X W a fa) (hb : SE X W b fb) (hg : Gl X "range") (hm : X.mg "range" = none) (hst : starEach [a, b] X.env = (false, eval a X.env) :: starEach [b] X.env := by rfl) (hst2 : starEach [b] X.env = (false, eval b X.env) :: starEach [] X.env := by rfl)
    (hs : starEach [a, b] X.env = [(false, eval a X.env), (false, eval b X.env)] := by rfl) (hs2 : starEach [b] X.env = [(false, eval b X.env)] := by rfl) : SI X W tg (.Call (.Name "range" p) [a, b] [] pos) (iR2 fa fb) := by
  refine PI.imp (pi_range2 hg hm (pa_cons ha (pa_cons hb pa_nil hst2) hst) hs hs2) fun σ H R' ⟨Z, F, sd, ok, h⟩ => ?_
  unfold iR2 at h
  refine eP.seq (G := fun _ _ => True) ok (fun w1 sd1 e1 y Z1 H1 ry ok1 x1 => ?_) (fun x sd1 e2 => ?_) (fun e2 => ?_)
  · rw [e1, R.bind_ok] at h
    refine eP.seq (G := fun _ _ => True) ok1 (fun w2 sd2 e2 y2 Z2 H2 ry2 ok2 x2 => ?_) (fun x sd1 e2 => ?_) (fun e2 => ?_)
    · rw [e2, R.bind_ok] at h
      split at h
      · rename_i m n em en
        rw [em] at ry
        rw [en] at ry2
        cases ry
        cases ry2
        split at h
        · rename_i hn
          exact ⟨m, n, rfl, ⟨hn.1, hn.2.1, hn.2.2.1, hn.2.2.2⟩, h _ Z2 H2 (ItOk.rng m _) ok2 (x1.trans x2)⟩
        · exact h.elim
      · exact h.elim
    · rw [e2] at h; exact excP.go0 h x1
    · rw [e2] at h; exact h
  · rw [e2] at h; exact h
  · rw [e2] at h; exact h
theorem si_enumL {elts : List Expr} {kk : Nat} {tpos : Pos} (ha : SE X W a fa) (hg : Gl X "enumerate") (hm : X.mg "enumerate" = none) (hst : starEach [a] X.env = (false, eval a X.env) :: starEach [] X.env := by rfl) (hs : starEach [a] X.env = [(false, eval a X.env)] := by rfl) :
    SI X W (.Tuple elts kk tpos) (.Call (.Name "enumerate" p) [a] [] pos) (iEnumL fa) := by
  refine PI.imp (pi_enum hg hm (pa_cons ha pa_nil hst) hs) fun σ H R' ⟨Z, F, sd, ok, h⟩ => ?_
  unfold iEnumL at h
  refine eP.seq (G := fun _ _ => True) ok (fun w1 sd1 e1 y Z1 H1 ry ok1 x1 => ?_) (fun x sd1 e2 => ?_) (fun e2 => ?_)
  · rw [e1, R.bind_ok] at h
    split at h
    · rename_i ds en
      rw [en] at ry
      generalize e0 : ([] : List Addr) = o0 at ry
      cases ry with
      | lst0 z hh r => exact ⟨_, _, rfl, .of hh, h _ Z1 H1 (ItOk.enum z hh r) ok1 x1⟩
    · exact h.elim
  · rw [e2] at h; exact h
  · rw [e2] at h; exact h
end

/-! ### list comprehensions -/
def wp (sd : SD) : List Nat → SD
  | [] => sd
  | v :: vs => (wp sd vs).set v none
def lcGo (vs : List Nat) (g : Tg) (ft : Et) (fe : Ev) : List D → SD → List D → R (List D)
  | [], sd, acc => .ok acc sd
  | d :: ds, sd, acc => match g d (wp sd vs) with
    | none => .stuck
    | some sd1 => match ft sd1 with
      | .ok true sd2 => match fe sd2 with
        | .ok y sd3 => if acc.length < sizeLine then lcGo vs g ft fe ds sd3 (acc ++ [y.1]) else .stuck
        | _ => .stuck
      | .ok false sd2 => lcGo vs g ft fe ds sd2 acc
      | _ => .stuck
def lcS (vs : List Nat) (fi : Ei) (g : Tg) (ft : Et) (fe : Ev) : Ev := fun sd => (fi sd).bind fun items sd1 => (lcGo vs g ft fe items sd1 []).bind fun out sd2 => .ok (.lst out, 1) (wp sd2 vs)
def W0 : WX := fun _ _ _ _ => False
def tYes' : Et := fun sd => .ok true sd
section
variable {K : PySem.W.Frag} {mg : Mg} {Z Z' F : Pz} {H H' : Hp} {σ : St} {sd : SD}
theorem Ok.wipe (ok : Ok K Z F H σ sd) : ∀ vs : List Nat, Ok K Z F H (L2.wipe σ vs) (wp sd vs)
  | [] => ok
  | v :: vs => by
    unfold L2.wipe wp
    have o1 := (Ok.wipe ok vs).forget v
    obtain ⟨o, s, nd, nf, b⟩ := o1.ex
    refine ⟨o, ?_, nd, nf, b⟩
    have hg : ∀ {σ : St} {sd : SD} {i : Nat} {o : List Addr}, Slots K Z H σ sd o → (sd[i]? = some none ∨ sd[i]? = none) → Slots K Z H (σ.set i none) sd o := by
      intro σ sd i o s
      induction s generalizing i with
      | nil => intro _; exact .nil
      | skip _ ih =>
        intro h
        cases i with
        | zero => exact .skip (by assumption)
        | succ i => exact .skip (ih h)
      | cons r _ ih =>
        intro h
        cases i with
        | zero => rcases h with h | h <;> cases h
        | succ i => exact .cons r (ih h)
    refine hg s ?_
    by_cases hl : v < (wp sd vs).length
    · exact .inl (by rw [List.getElem?_set_self hl])
    · exact .inr (List.getElem?_eq_none (by rw [List.length_set]; omega))
theorem Ok.unwipe {vs : List Nat} (ok : Ok K Z F H (L2.wipe σ vs) (wp sd vs)) : Ok K Z F H σ (wp sd vs) := by
  obtain ⟨o, s, nd, nf, b⟩ := ok.ex
  refine ⟨o, ?_, nd, nf, b⟩
  have hn : ∀ i ∈ vs, (wp sd vs)[i]? = some none ∨ (wp sd vs)[i]? = none := by
    intro i
    induction vs with
    | nil => intro h; cases h
    | cons v vs ih =>
      intro h
      unfold wp
      by_cases e : v = i
      · subst e
        by_cases hl : v < (wp sd vs).length
        · exact .inl (by rw [List.getElem?_set_self hl])
        · exact .inr (List.getElem?_eq_none (by rw [List.length_set]; omega))
      · rw [List.getElem?_set_ne e]
        rcases List.mem_cons.mp h with h | h
        · exact absurd h.symm e
        · by_cases hl : i < (wp sd vs).length
          · cases q : (wp sd vs)[i]? with
            | none => exact .inr rfl
            | some x =>
              cases x with
              | none => exact .inl rfl
              | some w =>
                exfalso
                have : ∀ (vs : List Nat), i ∈ vs → (wp sd vs)[i]? = some (some w) → False := by
                  intro vs
                  induction vs with
                  | nil => intro h; cases h
                  | cons u us ih2 =>
                    intro h q
                    unfold wp at q
                    by_cases e2 : u = i
                    · subst e2
                      by_cases hl : u < (wp sd us).length
                      · rw [List.getElem?_set_self hl] at q; cases q
                      · rw [List.getElem?_eq_none (by rw [List.length_set]; omega)] at q; cases q
                    · rw [List.getElem?_set_ne e2] at q
                      rcases List.mem_cons.mp h with h | h
                      · exact e2 h.symm
                      · exact ih2 h q
                exact this vs h q
          · exact .inr (List.getElem?_eq_none (by omega))
  have hg : ∀ {τ : St} {sd : SD} {o : List Addr}, Slots K Z H τ sd o → ∀ ρ : St, ρ.length = τ.length → (∀ (i : Nat) (w : D × Nat), sd[i]? = some (some w) → ρ[i]? = τ[i]?) → Slots K Z H ρ sd o := by
    intro τ sd o s
    induction s with
    | nil =>
      intro ρ hl _
      cases ρ with
      | nil => exact .nil
      | cons _ _ => cases hl
    | skip _ ih =>
      intro ρ hl h
      cases ρ with
      | nil => cases hl
      | cons r ρ => exact .skip (ih ρ (by simpa using hl) fun i w e => h (i + 1) w e)
    | cons r _ ih =>
      intro ρ hl h
      cases ρ with
      | nil => cases hl
      | cons x ρ =>
        have e := h 0 _ rfl
        cases e
        exact .cons r (ih ρ (by simpa using hl) fun i w e => h (i + 1) w e)
  refine hg s σ (wipe_length σ vs).symm fun i w e => ?_
  rw [wipe_at]
  by_cases m : i ∈ vs
  · rcases hn i m with q | q <;> (rw [q] at e; cases e)
  · rw [if_neg m]
end
section
variable {X : Cx} {W : WX}
theorem wipe_wipe {σ : St} {vs : List Nat} : wipe (wipe σ vs) vs = wipe σ vs := by
  refine List.ext_getElem? fun i => ?_
  rw [wipe_at, wipe_at, wipe_length]
  by_cases m : i ∈ vs
  · rw [if_pos m, if_pos m]
  · rw [if_neg m]
/-- what stands between two turns of a comprehension -/
structure LcI (K : PySem.W.Frag) (Z1 F : Pz) (H1 : Hp) (Z0 : Pz) (H0 : Hp) (p : Addr) (σw : St) (sdw : SD) (accD : List D) (Z' : Pz) (H' : Hp) : Prop where
  ok : Ok K Z' (uni F [p]) H' σw sdw
  ext : Ext F Z0 H0 Z' H'
  st : ∀ a, Z1 a → Z' a ∧ H' a = H1 a
  at_ : ∃ acc, H' p = some (.lst acc) ∧ RpAll K Z' H' acc accD 0 []
theorem lc_sound {vs : List Nat} {fi : Ei} {g : Tg} {ft : Et} {fe : Ev} {K : PySem.W.Frag} {mg : Mg} {σ : St} {H : Hp} {Q : VK} (h : tE K mg W (lcS vs fi g ft fe) σ H Q) : tLc (tI K mg W fi) (gP K vs g) (tT K mg W0 ft) (tE K mg W0 fe) vs σ H Q := by
  obtain ⟨Z, F, sd, ok, h⟩ := h
  refine ⟨Z, F, sd, ok, ?_⟩
  unfold lcS at h
  cases e : fi sd with
  | stuck => rw [e] at h; exact h.elim
  | exc x sd1 => rw [e] at h; exact h
  | ok items sd1 =>
    rw [e, R.bind_ok] at h
    intro J Z1 H1 it ok1 x1 p hp
    obtain ⟨okp, xp, nFp, nZp⟩ := ok1.new (o := .lst []) hp
    refine ⟨fun i m H' => m = items.length - i ∧ i ≤ items.length ∧ ∃ Z' sd' accD, LcI K Z1 F H1 Z H p (wipe σ vs) (wp sd' vs) accD Z' H' ∧
      eP K mg W Z F σ H ((lcGo vs g ft fe (items.drop i) sd' accD).bind fun out sd2 => .ok (.lst out, 1) (wp sd2 vs)) Q, ⟨_, rfl, Nat.zero_le _, Z1, sd1, [], ⟨okp.wipe vs, x1.trans xp, fun a z => xp.z a z, [], upd_same, .nil 0⟩, h⟩, ?_⟩
    rintro i m H' ⟨rfl, hi, Z', sd', accD, I, h'⟩
    obtain ⟨hstop, hgo⟩ := it i Z' H' I.st I.ok.base.z
    obtain ⟨acc, hacc, racc⟩ := I.at_
    by_cases hlt : i < items.length
    · refine .inr ?_
      have ed : items[i]? = some items[i] := List.getElem?_eq_getElem hlt
      obtain ⟨jg, jy⟩ := hgo _ ed
      refine ⟨jg, fun H' => ∃ Z' sd' accD, LcI K Z1 F H1 Z H p (wipe σ vs) (wp sd' vs) accD Z' H' ∧ eP K mg W Z F σ H ((lcGo vs g ft fe (items.drop (i + 1)) sd' accD).bind fun out sd2 => .ok (.lst out, 1) (wp sd2 vs)) Q,
        fun H' hN => ⟨items.length - (i + 1), by omega, rfl, hlt, hN⟩, fun x H2 y => ?_⟩
      obtain ⟨Z2, gr, rx⟩ := jy x H2 y
      have edrop : items.drop i = items[i] :: items.drop (i + 1) := List.drop_eq_getElem_cons hlt
      rw [edrop] at h'
      have ok2 : Ok K Z2 (uni F [p]) H2 (wipe σ vs) (wp sd' vs) := (gr.ok I.ok).less fun _ z => .inl z
      have x2 : Ext (uni F [p]) Z' H' Z2 H2 := gr.ext I.ok.base
      refine ⟨Z2, uni F [p], wp sd' vs, items[i], ok2, rx, ?_⟩
      unfold lcGo at h'
      cases eg : g items[i] (wp sd' vs) with
      | none => rw [eg] at h'; exact h'.elim
      | some sd2 =>
        rw [eg] at h'
        intro σ2 ok3 df
        have ew : wipe σ2 vs = wipe σ vs := df.wipe.trans wipe_wipe
        refine ⟨ew, ?_⟩
        refine tP.seq ok3 (fun b sd3 e3 Z3 H3 ok4 x3 => ?_) (fun x sd3 e3 => ?_) (fun e3 => ?_)
        · have x23 := x2.trans x3
          cases b with
          | false =>
            simp only [e3] at h'
            refine ⟨Z3, sd3, accD, ⟨?_, I.ext.trans (x23.mono fun _ z => .inl z), fun a z => ?_, acc, ?_, racc.keep x23.z fun a m => absurd m List.not_mem_nil⟩, h'⟩
            · rw [← ew]; exact ok4.wipe vs
            · have a1 := I.st a z
              have a2 := x23.z a a1.1
              exact ⟨a2.1, a2.2.trans a1.2⟩
            · rw [x23.f p (.inr List.mem_cons_self)]; exact hacc
          | true =>
            simp only [e3] at h'
            refine eP.seq (G := fun _ _ => True) ok4 (fun w sd4 e4 v Z4 H4 rv ok5 x4 => ?_) (fun x sd4 e4 => ?_) (fun e4 => ?_)
            · simp only [e4] at h'
              have x24 := x23.trans x4
              have hacc4 : H4 p = some (.lst acc) := by rw [x24.f p (.inr List.mem_cons_self)]; exact hacc
              split at h'
              · rename_i hl
                obtain ⟨okw, kw⟩ := ok5.write (o := .lst (acc ++ [v])) (p := p) (.inr List.mem_cons_self)
                have racc4 := racc.keep x24.z fun a m => absurd m List.not_mem_nil
                refine ⟨acc, hacc4, by rw [racc.length]; exact hl, Z4, sd4, accD ++ [w.1], ⟨?_, ?_, fun a z => ?_, _, upd_same, ?_⟩, h'⟩
                · rw [← ew]; exact okw.wipe vs
                · refine (I.ext.trans (x24.mono fun _ z => .inl z)).trans ⟨kw, fun a f => upd_ne fun e => ?_⟩
                  rw [e] at f
                  exact nFp f
                · have a1 := I.st a z
                  have a2 := x24.z a a1.1
                  have a3 := kw a a2.1
                  exact ⟨a3.1, a3.2.trans (a2.2.trans a1.2)⟩
                · exact (racc4.app (.cons (o := []) (p := []) rv (.nil 0))).keep kw fun a m => absurd m List.not_mem_nil
              · exact h'.elim
            · simp only [e4] at h'; exact h'.elim
            · simp only [e4] at h'; exact h'.elim
        · simp only [e3] at h'; exact h'.elim
        · simp only [e3] at h'; exact h'.elim
    · refine .inl ⟨hstop (by omega), ?_⟩
      have e0 : items.drop i = [] := List.drop_eq_nil_of_le (by omega)
      rw [e0] at h'
      refine h' (.ref p) Z' H' [p] (.lstS (o := []) hacc racc) (by simp) (fun a m => ?_) I.ok.unwipe I.ext
      rw [List.mem_singleton] at m
      rw [m]
      exact nFp
theorem takesW0 {X : Cx} : Takes X W0 := takes0
theorem st_yes : PTs X [] (tT X.K X.mg W0 tYes') := ⟨fun pins s σ H Q I ⟨Z, F, sd, ok, h⟩ => pts_nil.run pins s σ H Q I (h Z H ok .refl)⟩
theorem st_one {c : Expr} {f : Et} (h : ST X W0 c f) : PTs X [c] (tT X.K X.mg W0 f) := pts_one h
theorem tLc_imp {wi : TI} {g : TG} {tt : TT} {te : TE} {vs : List Nat} {f : Ev} {e : Expr} (h : PE X e (tLc wi g tt te vs)) (w : ∀ σ H Q, tE X.K X.mg W f σ H Q → tLc wi g tt te vs σ H Q) : SE X W e f := PE.imp h w
/-- [e for tg in iter if ..] -/
theorem se_lc {elt tg iter : Expr} {ifs : List Expr} {scope : Scope} {own : List (Str × Nat)} {pos : Pos} {fi : Ei} {g : Tg} {ft : Et} {fe : Ev} (hc : X.calm = true) (hN : X.N.Nodup) (hi : SI X W tg iter fi) (ok : BlkOk X.N X.env.scope scope own)
    (hg : ∀ (s : Shared) (H : Hp) (C : Addr) (cl : List (Str × Addr)) (fp : List Addr), SG (X.blk s H scope (compEnvC scope cl C X.env) fp) (own.map (·.2)) tg g)
    (ht : ∀ (s : Shared) (H : Hp) (C : Addr) (cl : List (Str × Addr)) (fp : List Addr), PTs (X.blk s H scope (compEnvC scope cl C X.env) fp) ifs (tT X.K X.mg W0 ft))
    (he : ∀ (s : Shared) (H : Hp) (C : Addr) (cl : List (Str × Addr)) (fp : List Addr), SE (X.blk s H scope (compEnvC scope cl C X.env) fp) W0 elt fe) (hs : ∀ x, foldedSetIterable iter X.env x = pure x := by intro _; rfl) :
    SE X W (.ListComp elt [⟨tg, iter, ifs, 0⟩] scope pos) (lcS (own.map (·.2)) fi g ft fe) :=
  PE.imp (pe_lc (wi := tI X.K X.mg W fi) (g := gP X.K (own.map fun x : Str × Nat => x.2) g) (tt := tT X.K X.mg W0 ft) (te := tE X.K X.mg W0 fe) hc hN hi ok hg ht he hs) fun _ _ _ h => lc_sound h
end
end VS
/-! VS7: statements; defs and their calls. -/
namespace VS
open PySem PySem.Spec L2
open PyProof.Rows (envOfC)

/-! ### statements on plain data -/
inductive O where
  | nx (sd : SD)
  | rt (w : D × Nat) (sd : SD)
  | bk (sd : SD)
  | ct (sd : SD)
  | ex (x : Exn) (sd : SD)
  | stuck
abbrev Sm := SD → O
def O.go (o : O) (f : SD → O) : O := match o with
  | .nx sd => f sd
  | o => o
@[simp] theorem O.go_nx (sd : SD) (f : SD → O) : (O.nx sd).go f = f sd := eqr rfl
@[simp] theorem O.go_rt (w : D × Nat) (sd : SD) (f : SD → O) : (O.rt w sd).go f = .rt w sd := eqr rfl
@[simp] theorem O.go_bk (sd : SD) (f : SD → O) : (O.bk sd).go f = .bk sd := eqr rfl
@[simp] theorem O.go_ct (sd : SD) (f : SD → O) : (O.ct sd).go f = .ct sd := eqr rfl
@[simp] theorem O.go_ex (x : Exn) (sd : SD) (f : SD → O) : (O.ex x sd).go f = .ex x sd := eqr rfl
@[simp] theorem O.go_stuck (f : SD → O) : (O.stuck).go f = .stuck := eqr rfl
def R.run {α : Type} (r : R α) (f : α → SD → O) : O := match r with
  | .ok a sd => f a sd
  | .exc x sd => .ex x sd
  | .stuck => .stuck
@[simp] theorem R.run_ok {α : Type} (a : α) (sd : SD) (g : α → SD → O) : (R.ok a sd).run g = g a sd := eqr rfl
@[simp] theorem R.run_exc {α : Type} (x : Exn) (sd : SD) (g : α → SD → O) : (R.exc x sd : R α).run g = .ex x sd := eqr rfl
@[simp] theorem R.run_stuck {α : Type} (g : α → SD → O) : (R.stuck : R α).run g = .stuck := eqr rfl
def zSeq (f g : Sm) : Sm := fun sd => (f sd).go g
def zNil : Sm := fun sd => .nx sd
def zSet (i : Nat) (f : Ev) : Sm := fun sd => (f sd).run fun w sd1 => .nx (sd1.set i (some w))
def zTg (g : Tg) (f : Ev) : Sm := fun sd => (f sd).run fun w sd1 => match g w.1 sd1 with
  | some sd2 => .nx sd2
  | none => .stuck
def zDrop (f : Ev) : Sm := fun sd => (f sd).run fun _ sd1 => .nx sd1
def zRet (f : Ev) : Sm := fun sd => (f sd).run fun w sd1 => .rt w sd1
def zRetN : Sm := fun sd => .rt (.non, 0) sd
def zIf (c : Et) (f g : Sm) : Sm := fun sd => (c sd).run fun b sd1 => if b then f sd1 else g sd1
def zBk : Sm := fun sd => .bk sd
def zCt : Sm := fun sd => .ct sd
def zNever : Sm := fun _ => .stuck
/-- x.append(e), the row owned -/
def zApp (i : Nat) (f : Ev) : Sm := fun sd => match sd[i]? with
  | some (some (.lst _, _)) => (f sd).run fun w sd1 => match sd1[i]? with
    | some (some (.lst ds, 1)) => if ds.length < sizeLine then .nx (sd1.set i (some (.lst (ds ++ [w.1]), 1))) else .stuck
    | _ => .stuck
  | _ => .stuck
/-- x[e] = f, the row owned -/
def zPut (i : Nat) (fi f : Ev) : Sm := fun sd => (f sd).run fun w sd1 => match sd1[i]? with
  | some (some _) => (fi sd1).run fun y sd2 => match sd2[i]?, y.1 with
    | some (some (.lst ds, 1)), .int j => match ixN ds.length j with
      | some n => .nx (sd2.set i (some (.lst (ds.set n w.1), 1)))
      | none => .stuck
    | _, _ => .stuck
  | _ => .stuck
def forGo (ws : List Nat) (g : Tg) (body : Sm) : List D → SD → O
  | [], sd => .nx sd
  | d :: ds, sd => match g d sd with
    | none => .stuck
    | some sd1 => match body sd1 with
      | .nx sd2 => forGo ws g body ds (wp sd2 ws)
      | .ct sd2 => forGo ws g body ds (wp sd2 ws)
      | .bk sd2 => .nx (wp sd2 ws)
      | o => o
/-- for: the slots ws are forgotten behind each turn -/
def zFor (ws : List Nat) (fi : Ei) (g : Tg) (body : Sm) : Sm := fun sd => (fi sd).run fun items sd1 => forGo ws g body items sd1
def whGo (ws : List Nat) (c : Et) (body : Sm) : Nat → SD → O
  | 0, _ => .stuck
  | n + 1, sd => (c sd).run fun b sd1 => if b then (match body sd1 with
      | .nx sd2 => whGo ws c body n (wp sd2 ws)
      | .ct sd2 => whGo ws c body n (wp sd2 ws)
      | .bk sd2 => .nx (wp sd2 ws)
      | o => o) else .nx sd1
def zWhile (n : Nat) (ws : List Nat) (c : Et) (body : Sm) : Sm := fun sd => whGo ws c body n sd

section
variable (K : PySem.W.Frag) (mg : Mg) (W : WX)
def sP (Z F : Pz) (H : Hp) (o : O) (D : Ends) : Prop := match o with
  | .nx sd' => ∀ σ' Z' H', Ok K Z' F H' σ' sd' → Ext F Z H Z' H' → D.nx σ' H'
  | .bk sd' => ∀ σ' Z' H', Ok K Z' F H' σ' sd' → Ext F Z H Z' H' → D.bk σ' H'
  | .ct sd' => ∀ σ' Z' H', Ok K Z' F H' σ' sd' → Ext F Z H Z' H' → D.ct σ' H'
  | .rt w sd' => ∀ v Z' H' o σ', Rp K Z' H' v w.1 w.2 o → o.Nodup → (∀ a ∈ o, ¬ F a) → Ok K Z' (uni F o) H' σ' sd' → Ext F Z H Z' H' → D.rt v H'
  | .ex x sd' => ∀ σ', excP K mg W Z F σ' H x sd'
  | .stuck => False
def tS (f : Sm) : TS := fun D σ H => ∃ Z F sd, Ok K Z F H σ sd ∧ sP K mg W Z F H (f sd) D
end
def SS (X : Cx) (W : WX) (st : Stmt) (f : Sm) : Prop := PS X st (tS X.K X.mg W f)
def SSs (X : Cx) (W : WX) (sts : List Stmt) (f : Sm) : Prop := PSs X sts (tS X.K X.mg W f)
theorem PS.imp {X : Cx} {e : Stmt} {t t' : TS} (h : PS X e t) (w : ∀ D σ H, t' D σ H → t D σ H) : PS X e t' := ⟨fun pins s σ H D I q => h.run pins s σ H D I (w _ _ _ q)⟩
theorem PSs.imp {X : Cx} {e : List Stmt} {t t' : TS} (h : PSs X e t) (w : ∀ D σ H, t' D σ H → t D σ H) : PSs X e t' := ⟨fun pins s σ H D I q => h.run pins s σ H D I (w _ _ _ q)⟩
section
variable {K : PySem.W.Frag} {mg : Mg} {W : WX} {Z Z1 F : Pz} {H H1 : Hp} {σ : St}
theorem sP.go {o : O} {D : Ends} (h : sP K mg W Z F H o D) (x : Ext F Z H Z1 H1) : sP K mg W Z1 F H1 o D := by
  cases o with
  | nx sd => exact fun σ' Z' H' ok x' => h σ' Z' H' ok (x.trans x')
  | bk sd => exact fun σ' Z' H' ok x' => h σ' Z' H' ok (x.trans x')
  | ct sd => exact fun σ' Z' H' ok x' => h σ' Z' H' ok (x.trans x')
  | rt w sd => exact fun v Z' H' o σ' r nd nf ok x' => h v Z' H' o σ' r nd nf ok (x.trans x')
  | ex e sd => exact fun σ' => (h σ').go0 x
  | stuck => exact h
theorem sP.imp {o : O} {D D' : Ends} (h : sP K mg W Z F H o D) (hn : ∀ σ H, D.nx σ H → D'.nx σ H) (hb : ∀ σ H, D.bk σ H → D'.bk σ H) (hc : ∀ σ H, D.ct σ H → D'.ct σ H) (hr : ∀ v H, D.rt v H → D'.rt v H) : sP K mg W Z F H o D' := by
  cases o with
  | nx sd => exact fun σ' Z' H' ok x' => hn _ _ (h σ' Z' H' ok x')
  | bk sd => exact fun σ' Z' H' ok x' => hb _ _ (h σ' Z' H' ok x')
  | ct sd => exact fun σ' Z' H' ok x' => hc _ _ (h σ' Z' H' ok x')
  | rt w sd => exact fun v Z' H' o σ' r nd nf ok x' => hr _ _ (h v Z' H' o σ' r nd nf ok x')
  | ex e sd => exact h
  | stuck => exact h
end
section
variable {X : Cx} {W : WX} {pos p q : Pos} {a b c : Expr} {fa fb : Ev} {st : Stmt} {rest : List Stmt} {f g : Sm}
theorem ss_one (h : SS X W st f) : SSs X W [st] f := pss_one h
theorem ss_nil : SSs X W [] zNil := PSs.imp pss_nil fun D σ H ⟨Z, F, sd, ok, h⟩ => h σ Z H ok .refl
theorem ss_cons (h1 : SS X W st f) (h2 : SSs X W rest g) : SSs X W (st :: rest) (zSeq f g) := by
  refine PSs.imp (pss_cons h1 h2) fun D σ H ⟨Z, F, sd, ok, h⟩ => ?_
  refine ⟨Z, F, sd, ok, ?_⟩
  unfold zSeq at h
  cases e : f sd with
  | nx sd1 =>
    rw [e] at h
    exact fun σ' Z' H' ok' x => ⟨Z', F, sd1, ok', h.go x⟩
  | rt w sd1 => rw [e] at h; exact h
  | bk sd1 => rw [e] at h; exact h
  | ct sd1 => rw [e] at h; exact h
  | ex x sd1 => rw [e] at h; exact h
  | stuck => rw [e] at h; exact h
theorem ss_pass : SS X W (.Pass pos) zNil := PS.imp ps_pass fun D σ H ⟨Z, F, sd, ok, h⟩ => h σ Z H ok .refl
theorem ss_break : SS X W (.Break pos) zBk := PS.imp ps_break fun D σ H ⟨Z, F, sd, ok, h⟩ => h σ Z H ok .refl
theorem ss_continue : SS X W (.Continue pos) zCt := PS.imp ps_continue fun D σ H ⟨Z, F, sd, ok, h⟩ => h σ Z H ok .refl
theorem ss_never : SS X W st zNever := PS.imp ps_never fun D σ H ⟨Z, F, sd, ok, h⟩ => h.elim
theorem ss_set (i : Nat) {x : Str} {pos' : Pos} (he : SE X W a fa) (hN : X.N.Nodup) (hi : X.N[i]? = some x := by rfl) (hx : Loc X.env.scope x := by first | exact Or.inl rfl | exact Or.inr rfl) (hs : swapsWith a (some (.Name x pos')) pos.line X.env = pure false := by rfl)
    (hf : X.fn x = true ∨ X.env.scope.names.lookup x = some .local := by first | exact .inl rfl | exact .inr rfl) : SS X W (.Assign [.Name x pos'] a pos) (zSet i fa) := by
  refine PS.imp (ps_set hN hi hx he hs hf) fun D σ H ⟨Z, F, sd, ok, h⟩ => ?_
  unfold zSet at h
  refine eP.seqO ok (fun w sd1 e v Z1 H1 o r nd nf ok1 x1 => ?_) (fun x sd1 e => ?_) (fun e => ?_)
  · rw [e, R.run_ok] at h
    exact h _ Z1 H1 (ok1.store r nd nf) x1
  · rw [e] at h; exact h σ
  · rw [e] at h; exact h
/-- name = [..] on one line -/
theorem ss_setLc (i : Nat) {y : Str} {py : Pos} {elt tg iter : Expr} {ifs : List Expr} {scope : Scope} {own : List (Str × Nat)} {spos : Pos} {fi : Ei} {gg : Tg} {ft : Et} {fe : Ev} (hc : X.calm = true) (hN : X.N.Nodup) (hy : X.N[i]? = some y) (hyl : X.env.scope.names.lookup y = some .local)
    (hsw : swapsWith (.ListComp elt [⟨tg, iter, ifs, 0⟩] scope pos) (some (.Name y py)) spos.line X.env = pure true) (hi : SI X W tg iter fi) (ok : BlkOk X.N X.env.scope scope own)
    (hg : ∀ (s : Shared) (H : Hp) (C : Addr) (cl : List (Str × Addr)) (fp : List Addr), SG (X.blk s H scope (compEnvC scope cl C X.env) fp) (own.map (·.2)) tg gg)
    (ht : ∀ (s : Shared) (H : Hp) (C : Addr) (cl : List (Str × Addr)) (fp : List Addr), PTs (X.blk s H scope (compEnvC scope cl C X.env) fp) ifs (tT X.K X.mg W0 ft))
    (he : ∀ (s : Shared) (H : Hp) (C : Addr) (cl : List (Str × Addr)) (fp : List Addr), SE (X.blk s H scope (compEnvC scope cl C X.env) fp) W0 elt fe) (hs : ∀ x, foldedSetIterable iter X.env x = pure x := by intro _; rfl) :
    SS X W (.Assign [.Name y py] (.ListComp elt [⟨tg, iter, ifs, 0⟩] scope pos) spos) (zSet i (lcS (own.map (·.2)) fi gg ft fe)) := by
  refine PS.imp (ps_setLc (wi := tI X.K X.mg W fi) (g := gP X.K (own.map fun x : Str × Nat => x.2) gg) (tt := tT X.K X.mg W0 ft) (te := tE X.K X.mg W0 fe) hc hN hy hyl hsw hi ok hg ht he hs) fun D σ H ⟨Z, F, sd, okk, h⟩ => ?_
  refine lc_sound ?_
  unfold zSet at h
  refine eP.seqO okk (fun w sd1 e v Z1 H1 o r nd nf ok1 x1 => ?_) (fun x sd1 e => ?_) (fun e => ?_)
  · rw [e, R.run_ok] at h
    exact h _ Z1 H1 (ok1.store r nd nf) x1
  · rw [e] at h; exact h σ
  · rw [e] at h; exact h
theorem ss_tg {tg : Expr} {gg : Tg} {vs : List Nat} (he : SE X W a fa) (hg : SG X vs tg gg) (hs : swapsWithSole [tg] a pos.line X.env = pure false := by rfl) (hw : swappedStores [tg] a X.env = pure none := by rfl)
    (h1 : (assignEach [tg] X.env).map (·.2) = [assign tg X.env] := by rfl) : SS X W (.Assign [tg] a pos) (zTg gg fa) := by
  refine PS.imp (ps_asg he hg hs hw h1) fun D σ H ⟨Z, F, sd, ok, h⟩ => ?_
  unfold zTg at h
  refine eP.seq (G := fun _ _ => True) ok (fun w sd1 e v Z1 H1 r ok1 x1 => ?_) (fun x sd1 e => ?_) (fun e => ?_)
  · rw [e, R.run_ok] at h
    refine ⟨Z1, F, sd1, w.1, ok1, r, ?_⟩
    cases eg : gg w.1 sd1 with
    | none => rw [eg] at h; exact h.elim
    | some sd2 =>
      rw [eg] at h
      exact fun σ' ok' _ => h σ' Z1 H1 ok' x1
  · rw [e] at h; exact h σ
  · rw [e] at h; exact h
theorem ss_drop (he : SE X W a fa) (hs : swapsWith a none pos.line X.env = pure false := by rfl) : SS X W (.Expr a pos) (zDrop fa) := by
  refine PS.imp (ps_expr he hs) fun D σ H ⟨Z, F, sd, ok, h⟩ => ?_
  unfold zDrop at h
  refine eP.seq (G := fun _ _ => True) ok (fun w sd1 e v Z1 H1 r ok1 x1 => ?_) (fun x sd1 e => ?_) (fun e => ?_)
  · rw [e, R.run_ok] at h
    exact h σ Z1 H1 ok1 x1
  · rw [e] at h; exact h σ
  · rw [e] at h; exact h
theorem ss_ret (he : SE X W a fa) : SS X W (.Return (some a) pos) (zRet fa) := by
  refine PS.imp (ps_ret he) fun D σ H ⟨Z, F, sd, ok, h⟩ => ?_
  unfold zRet at h
  refine eP.seqO ok (fun w sd1 e v Z1 H1 o r nd nf ok1 x1 => ?_) (fun x sd1 e => ?_) (fun e => ?_)
  · rw [e, R.run_ok] at h
    exact h v Z1 H1 o σ r nd nf ok1 x1
  · rw [e] at h; exact h σ
  · rw [e] at h; exact h
theorem ss_retN : SS X W (.Return none pos) zRetN := PS.imp ps_retN fun D σ H ⟨Z, F, sd, ok, h⟩ => h .non Z H [] σ (.non _) .nil (fun _ m => absurd m List.not_mem_nil) ok.unnil .refl
theorem ss_if {A B : List Stmt} {fc : Et} (hc : ST X W c fc) (ha : SSs X W A f) (hb : SSs X W B g) : SS X W (.If c A B pos) (zIf fc f g) := by
  refine PS.imp (ps_if hc ha hb) fun D σ H ⟨Z, F, sd, ok, h⟩ => ?_
  unfold zIf at h
  refine tP.seq ok (fun b sd1 e Z1 H1 ok1 x1 => ?_) (fun x sd1 e => ?_) (fun e => ?_)
  · rw [e, R.run_ok] at h
    cases b with
    | true => exact ⟨Z1, F, sd1, ok1, h.go x1⟩
    | false => exact ⟨Z1, F, sd1, ok1, h.go x1⟩
  · rw [e] at h; exact h σ
  · rw [e] at h; exact h
/-! rows that are changed -/
theorem lst1 {K : PySem.W.Frag} {Z : Pz} {H : Hp} {v : V} {ds : List D} {p : List Addr} (r : Rp K Z H v (.lst ds) 1 p) : ∃ a xs, v = .ref a ∧ p = [a] ∧ H a = some (.lst xs) ∧ RpAll K Z H xs ds 0 [] := by
  generalize e1 : (1 : Nat) = k at r
  generalize e2 : D.lst ds = d at r
  cases r <;> cases e2
  · cases e1
  · rename_i a xs k' o h r
    have : k' = 0 := by omega
    subst this
    cases r.nil0
    exact ⟨a, xs, rfl, rfl, h, r⟩
theorem Ok.isLst {K : PySem.W.Frag} {Z F : Pz} {H : Hp} {σ : St} {sd : SD} {i : Nat} {ds : List D} {k : Nat} (ok : Ok K Z F H σ sd) (e : sd[i]? = some (some (.lst ds, k))) : ∃ a xs, σ[i]? = some (some (.ref a)) ∧ H a = some (.lst xs) := by
  obtain ⟨v, p, e1, r, _⟩ := ok.take e
  generalize e2 : D.lst ds = d at r
  cases r <;> cases e2
  · exact ⟨_, _, e1, by assumption⟩
  · exact ⟨_, _, e1, by assumption⟩
theorem ss_app (i : Nat) {x : Str} {px pa : Pos} (he : SE X W a fa) (hN : X.N[i]? = some x := by rfl) (hv : Vis X.env.scope x := by first | exact Or.inl rfl | exact Or.inr (Or.inl rfl) | exact Or.inr (Or.inr rfl)) (hd : (x == ("__debug__" : Str)) = false := by decide) (hcd : (x == ("__classdict__" : Str)) = false := by decide)
    (hbase : attributeBase (.Name x px) "append" X.env (eval (.Name x px) X.env) = eval (.Name x px) X.env := by rfl)
    (hfew : ((backTo p (starEach [a] X.env)).all (fun x => !x.1) && (backToKw p (keywordEach [] X.env)).all (fun x => x.1.isSome)
      && decide ([a].length + ([] : List Keyword).length + (if ([] : List Keyword).isEmpty then 0 else 1) < 30)) = true := by rfl)
    (hline : (pa.endLine == p.line) = true := by rfl) (hst : starEach [a] X.env = (false, eval a X.env) :: starEach [] X.env := by rfl) (hpl : (backTo p (starEach [] X.env)).any (·.1) = false := by rfl)
    (hs : swapsWith (.Call (.Attribute (.Name x px) "append" pa) [a] [] p) none pos.line X.env = pure false := by rfl) : SS X W (.Expr (.Call (.Attribute (.Name x px) "append" pa) [a] [] p) pos) (zApp i fa) := by
  refine PS.imp (ps_expr (pe_bm PySem.F.plainAttrs_list PySem.F.slot_list_append PySem.F.type_list_append mt_append (pe_var hN hv hd hcd) (pa_cons he pa_nil hst) hbase hfew hline hst hpl) hs) fun D σ H ⟨Z, F, sd, ok, h⟩ => ?_
  unfold zApp at h
  split at h
  · rename_i ds0 k0 e0
    obtain ⟨l, xs0, e1, hl0⟩ := ok.isLst e0
    refine ⟨.ref l, e1, .inl ⟨rfl, xs0, .of hl0⟩, ?_⟩
    refine eP.seq (G := fun _ _ => True) ok (fun w sd1 e y Z1 H1 r ok1 x1 => ?_) (fun x sd1 e => ?_) (fun e => ?_)
    · rw [e, R.run_ok] at h
      split at h
      · rename_i ds e2
        obtain ⟨v', q, e3, rr, nd, nf, ok2⟩ := ok1.take e2
        rw [e1] at e3
        cases e3
        obtain ⟨l', xs, el, rfl, hl, ra⟩ := lst1 rr
        cases el
        split at h
        · rename_i hz
          refine ⟨l, xs, y, rfl, rfl, hl, by rw [ra.length]; exact hz, ?_⟩
          obtain ⟨ok3, kz⟩ := ok2.write (o := .lst (xs ++ [y])) (p := l) (.inr List.mem_cons_self)
          have ra2 := (ra.app (.cons (o := []) (p := []) r (.nil 0))).keep kz fun a m => absurd m List.not_mem_nil
          have ok4 := ok3.back (.lstS (o := []) upd_same ra2) (by simp) nf e1
          rw [List.set_set] at ok4
          refine h σ Z1 _ ok4 (x1.trans ⟨kz, fun a f => upd_ne fun e => ?_⟩)
          rw [e] at f
          exact nf l List.mem_cons_self f
        · exact h.elim
      · exact h.elim
    · rw [e] at h; exact h σ
    · rw [e] at h; exact h
  · exact h.elim
theorem RpAll.put {K : PySem.W.Frag} {Z : Pz} {H : Hp} {xs : List V} {ds : List D} {v : V} {d : D} (n : Nat) (h : RpAll K Z H xs ds 0 []) (r : Rp K Z H v d 0 []) : RpAll K Z H (xs.set n v) (ds.set n d) 0 [] :=
  .mk (by rw [List.length_set, List.length_set, h.length]) fun i u e h1 h2 => by
    by_cases hi : n = i
    · subst hi
      have hl := h.length
      by_cases hn : n < xs.length
      · rw [List.getElem?_set_self hn] at h1
        rw [List.getElem?_set_self (by omega)] at h2
        cases h1; cases h2
        exact r
      · rw [List.getElem?_eq_none (by rw [List.length_set]; omega)] at h1; cases h1
    · rw [List.getElem?_set_ne hi] at h1 h2
      obtain ⟨v', e', r⟩ := h.get h2
      rw [h1] at e'; cases e'; exact r
theorem ss_put (i : Nat) {x : Str} {px tp : Pos} (hb : SE X W b fb) (he : SE X W a fa) (hN : X.N[i]? = some x := by rfl) (hv : Vis X.env.scope x := by first | exact Or.inl rfl | exact Or.inr (Or.inl rfl) | exact Or.inr (Or.inr rfl)) (hd : (x == ("__debug__" : Str)) = false := by decide) (hcd : (x == ("__classdict__" : Str)) = false := by decide)
    (ha : ∀ v, assign (.Subscript (.Name x px) b tp) X.env v = (do
      let ov ← holding [v] (eval (.Name x px) X.env)
      let iv ← holding [v, ov] (eval b X.env)
      standAt tp
      holding [v, ov, iv] (setItem ov iv v)
      release [v, ov, iv] []) := by intro _; rfl) (hs : swapsWithSole [.Subscript (.Name x px) b tp] a pos.line X.env = pure false := by rfl) (hw : swappedStores [.Subscript (.Name x px) b tp] a X.env = pure none := by rfl)
    (h1 : (assignEach [.Subscript (.Name x px) b tp] X.env).map (·.2) = [assign (.Subscript (.Name x px) b tp) X.env] := by rfl) : SS X W (.Assign [.Subscript (.Name x px) b tp] a pos) (zPut i fb fa) := by
  refine PS.imp (ps_asg he (pg_sub (pe_var hN hv hd hcd) hb set_list ha) hs hw h1) fun D σ H ⟨Z, F, sd, ok, h⟩ => ?_
  unfold zPut at h
  refine eP.seq (G := fun _ _ => True) ok (fun w sd1 e y Z1 H1 r ok1 x1 => ?_) (fun x sd1 e => ?_) (fun e => ?_)
  · rw [e, R.run_ok] at h
    split at h
    · rename_i w0 e0
      obtain ⟨v, e1⟩ := ok1.slot e0
      refine ⟨v, e1, ?_⟩
      refine eP.seq (G := fun _ _ => True) ok1 (fun w2 sd2 e2 y2 Z2 H2 r2 ok2 x2 => ?_) (fun x sd1 e => ?_) (fun e => ?_)
      · rw [e2, R.run_ok] at h
        split at h
        · rename_i ds j e3 ej
          rw [ej] at r2
          cases r2
          obtain ⟨v', q, e4, rr, nd, nf, ok3⟩ := ok2.take e3
          rw [e1] at e4
          cases e4
          obtain ⟨l, xs, rfl, rfl, hl, ra⟩ := lst1 rr
          split at h
          · rename_i n en
            refine ⟨l, xs, j, n, rfl, rfl, hl, by rw [ra.length]; exact en, ?_⟩
            obtain ⟨ok4, kz⟩ := ok3.write (o := .lst (xs.set n y)) (p := l) (.inr List.mem_cons_self)
            have r' : Rp X.K Z2 H2 y w.1 0 [] := r.keep x2.z fun a m => absurd m List.not_mem_nil
            have ra2 := (ra.put n r').keep kz fun a m => absurd m List.not_mem_nil
            have ok5 := ok4.back (.lstS (o := []) upd_same ra2) (by simp) nf e1
            rw [List.set_set] at ok5
            refine h σ Z2 _ ok5 ((x1.trans x2).trans ⟨kz, fun a f => upd_ne fun e => ?_⟩)
            rw [e] at f
            exact nf l List.mem_cons_self f
          · exact h.elim
        · exact h.elim
      · rw [e] at h; exact (h σ).go0 x1
      · rw [e] at h; exact h
    · exact h.elim
  · rw [e] at h; exact h σ
  · rw [e] at h; exact h

/-! ### loops -/
theorem ss_for {tg iter : Expr} {body : List Stmt} {fi : Ei} {gg : Tg} {vs ws : List Nat} (hp : PassesOwn (model X.prog X.w) X.A X.env X.xe) (hc : X.calm = true) (hi : SI X W tg iter fi) (hg : SG X vs tg gg) (hb : SSs X W body f) (hs : ∀ x, foldedSetIterable iter X.env x = pure x := by intro _; rfl) :
    SS X W (.For tg iter body [] pos) (zFor ws fi gg f) := by
  refine PS.imp (ps_for hp hc hi hg hb hs) fun D σ H ⟨Z, F, sd, ok, h⟩ => ?_
  refine ⟨Z, F, sd, ok, ?_⟩
  unfold zFor at h
  cases e : fi sd with
  | stuck => rw [e] at h; exact h
  | exc x sd1 => rw [e] at h; exact h σ
  | ok items sd1 =>
    rw [e, R.run_ok] at h
    intro J Z1 H1 it ok1 x1
    refine ⟨fun i m σ' H' => m = items.length - i ∧ ∃ Z' sd', Ok X.K Z' F H' σ' sd' ∧ Ext F Z H Z' H' ∧ (∀ a, Z1 a → Z' a ∧ H' a = H1 a) ∧ sP X.K X.mg W Z F H (forGo ws gg f (items.drop i) sd') D, ⟨_, rfl, Z1, sd1, ok1, x1, fun a z => ⟨z, rfl⟩, h⟩, ?_⟩
    rintro i m σ' H' ⟨rfl, Z', sd', ok', x', st', h'⟩
    obtain ⟨hstop, hgo⟩ := it i Z' H' st' ok'.base.z
    by_cases hlt : i < items.length
    · have ed : items[i]? = some items[i] := List.getElem?_eq_getElem hlt
      obtain ⟨jg, jy⟩ := hgo _ ed
      refine .inr ⟨jg, fun σ2 H2 => ∃ Z' sd', Ok X.K Z' F H2 σ2 sd' ∧ Ext F Z H Z' H2 ∧ (∀ a, Z1 a → Z' a ∧ H2 a = H1 a) ∧ sP X.K X.mg W Z F H (forGo ws gg f (items.drop (i + 1)) sd') D, fun σ2 H2 hN => ⟨items.length - (i + 1), by omega, rfl, hN⟩, fun x H2 y => ?_⟩
      obtain ⟨Z2, gr, rx⟩ := jy x H2 y
      have edrop : items.drop i = items[i] :: items.drop (i + 1) := List.drop_eq_getElem_cons hlt
      rw [edrop] at h'
      have ok2 : Ok X.K Z2 F H2 σ' sd' := (gr.ok ok').less fun _ z => .inl z
      have x2 : Ext F Z' H' Z2 H2 := gr.ext ok'.base
      refine ⟨Z2, F, sd', items[i], ok2, rx, ?_⟩
      unfold forGo at h'
      cases eg : gg items[i] sd' with
      | none => rw [eg] at h'; exact h'.elim
      | some sd2 =>
        rw [eg] at h'
        intro σ2 ok3 df
        refine ⟨Z2, F, sd2, ok3, ?_⟩
        have again : ∀ sd3, sP X.K X.mg W Z F H (forGo ws gg f (items.drop (i + 1)) (wp sd3 ws)) D → ∀ σ3 Z3 H3, Ok X.K Z3 F H3 σ3 sd3 → Ext F Z2 H2 Z3 H3 →
            ∃ Z' sd', Ok X.K Z' F H3 σ3 sd' ∧ Ext F Z H Z' H3 ∧ (∀ a, Z1 a → Z' a ∧ H3 a = H1 a) ∧ sP X.K X.mg W Z F H (forGo ws gg f (items.drop (i + 1)) sd') D := by
          intro sd3 h3 σ3 Z3 H3 ok4 x3
          refine ⟨Z3, wp sd3 ws, (ok4.wipe ws).unwipe, (x'.trans x2).trans x3, fun a z => ?_, h3⟩
          have a1 := st' a z
          have a2 := (x2.trans x3).z a a1.1
          exact ⟨a2.1, a2.2.trans a1.2⟩
        cases eb : f sd2 with
        | nx sd3 => simp only [eb] at h'; exact again sd3 h'
        | ct sd3 => simp only [eb] at h'; exact again sd3 h'
        | bk sd3 => simp only [eb] at h'; exact fun σ3 Z3 H3 ok4 x3 => h' σ3 Z3 H3 (ok4.wipe ws).unwipe ((x'.trans x2).trans x3)
        | rt w sd3 => simp only [eb] at h'; exact fun v Z3 H3 o σ3 r nd nf ok4 x3 => h' v Z3 H3 o σ3 r nd nf ok4 ((x'.trans x2).trans x3)
        | ex x sd3 => simp only [eb] at h'; exact fun σ3 => (h' σ3).go0 (x'.trans x2)
        | stuck => simp only [eb] at h'; exact h'
    · refine .inl ⟨hstop (by omega), ?_⟩
      have e0 : items.drop i = [] := List.drop_eq_nil_of_le (by omega)
      rw [e0] at h'
      exact h' σ' Z' H' ok' x'
theorem ss_while (n : Nat) {body : List Stmt} {fc : Et} {ws : List Nat} (hp : PassesOwn (model X.prog X.w) X.A X.env X.xe) (hc : ST X W c fc) (hb : SSs X W body f) : SS X W (.While c body [] pos) (zWhile n ws fc f) := by
  refine PS.imp (ps_while hp hc hb) fun D σ H ⟨Z, F, sd, ok, h⟩ => ?_
  unfold zWhile at h
  refine ⟨fun m σ' H' => ∃ Z' sd', Ok X.K Z' F H' σ' sd' ∧ Ext F Z H Z' H' ∧ sP X.K X.mg W Z F H (whGo ws fc f m sd') D, ⟨n, Z, sd, ok, .refl, h⟩, ?_⟩
  rintro m σ' H' ⟨Z', sd', ok', x', h'⟩
  cases m with
  | zero => exact h'.elim
  | succ m =>
    unfold whGo at h'
    refine tP.seq ok' (fun b sd1 e Z1 H1 ok1 x1 => ?_) (fun x sd1 e => ?_) (fun e => ?_)
    · rw [e, R.run_ok] at h'
      have x1' := x'.trans x1
      cases b with
      | false => exact h' σ' Z1 H1 ok1 x1'
      | true =>
        refine ⟨fun σ2 H2 => ∃ Z' sd', Ok X.K Z' F H2 σ2 sd' ∧ Ext F Z H Z' H2 ∧ sP X.K X.mg W Z F H (whGo ws fc f m sd') D, fun σ2 H2 hN => ⟨m, by omega, hN⟩, ?_⟩
        refine ⟨Z1, F, sd1, ok1, ?_⟩
        simp only [if_true] at h'
        cases eb : f sd1 with
        | nx sd3 => simp only [eb] at h'; exact fun σ3 Z3 H3 ok4 x3 => ⟨Z3, wp sd3 ws, (ok4.wipe ws).unwipe, x1'.trans x3, h'⟩
        | ct sd3 => simp only [eb] at h'; exact fun σ3 Z3 H3 ok4 x3 => ⟨Z3, wp sd3 ws, (ok4.wipe ws).unwipe, x1'.trans x3, h'⟩
        | bk sd3 => simp only [eb] at h'; exact fun σ3 Z3 H3 ok4 x3 => h' σ3 Z3 H3 (ok4.wipe ws).unwipe (x1'.trans x3)
        | rt w sd3 => simp only [eb] at h'; exact fun v Z3 H3 o σ3 r nd nf ok4 x3 => h' v Z3 H3 o σ3 r nd nf ok4 (x1'.trans x3)
        | ex x sd3 => simp only [eb] at h'; exact fun σ3 => (h' σ3).go0 x1'
        | stuck => simp only [eb] at h'; exact h'
    · rw [e] at h'; exact (h' σ').go0 x'
    · rw [e] at h'; exact h'
end

/-! ### defs -/
inductive FR where
  | ok (w : D × Nat)
  | exc (x : Exn)
  | stuck
abbrev Fn := List (D × Nat) → FR
def O.fr : O → FR
  | .nx _ => .ok (.non, 0)
  | .rt w _ => .ok w
  | .ex x _ => .exc x
  | _ => .stuck
/-- what a def is worth, by its body -/
def fnOf (N : Nat) (body : Sm) : Fn := fun ws => (body (ws.map some ++ List.replicate (N - ws.length) none)).fr
section
variable (K : PySem.W.Frag) (mg : Mg)
/-- the promise -/
def spF (n : Nat) (f : Fn) : Sp := fun vs H Q E => ∃ (Z F : Pz) (ws : List (D × Nat)) (o : List Addr), vs.length = n ∧ Slots K Z H (vs.map some) (ws.map some) o ∧ o.Nodup ∧ (∀ a ∈ o, ¬ F a) ∧ Ok0 Z (uni F o) H ∧ match f ws with
  | .ok w => ∀ v Z' H' o', Rp K Z' H' v w.1 w.2 o' → o'.Nodup → (∀ a ∈ o', ¬ F a) → Ok0 Z' (uni F o') H' → Ext F Z H Z' H' → Q v H'
  | .exc x => ∀ c dd Z' H', ExcAt K mg Z' H' x c dd → Ok0 Z' F H' → Ext F Z H Z' H' → E c dd H'
  | .stuck => False
end
theorem Slots.fill {K : PySem.W.Frag} {Z : Pz} {H : Hp} {σ : St} {sd : SD} {o : List Addr} (h : Slots K Z H σ sd o) (m : Nat) : Slots K Z H (σ ++ List.replicate m none) (sd ++ List.replicate m none) o := by
  induction h with
  | nil =>
    rw [List.nil_append, List.nil_append]
    induction m with
    | zero => exact .nil
    | succ m ih => exact .skip ih
  | skip _ ih => exact .skip ih
  | cons r _ ih => exact .cons r ih
section
variable {P : Program} {w : World} {K : PySem.W.Frag} {mg : Mg} {base : Heap}
/-- THE RULE: a def keeps the promise that its body's semantics makes -/
theorem fn_ok {x qual : Str} {st : Stmt} {f : Addr} {fd : FuncData} {N ps : List Str} {k : Nat} {body : Sm} (Fu : Fun K x qual st f fd) (S : FnScope N ps (defScope st))
    (hbody : ∀ (cdv : Value) (A : Around) (outer : List Env) (s : Shared) (H : Hp) (E : XK), Room k (A.deeper (envOfC qual (defScope st) s.heap.objs.size f cdv)) →
      SSs (cxOf (L2.CX P w) P w K mg base N qual (defScope st) f cdv A outer s H E) (fun c d _ H' => E c d H') (defBody st) body) : FnOk P w K mg base (L2.CX P w) (k + 1) f fd ps (spF K mg ps.length (fnOf N.length body)) := by
  refine Fu.okX S (fun vs H Q E h => ?_) (fun cdv A outer s H vs Q E hr h => ⟨_, hbody cdv A outer s H E hr, ?_⟩)
  · obtain ⟨_, _, _, _, h, _⟩ := h
    exact h
  · obtain ⟨Z, F, ws, o, hl, s0, nd, nf, b, h⟩ := h
    have hlen : vs.length = ws.length := by
      have := s0.length
      simpa using this
    refine ⟨Z, F, ws.map some ++ List.replicate (N.length - ws.length) none, ⟨o, ?_, nd, nf, b⟩, ?_⟩
    · unfold L2.start
      rw [hlen]
      exact s0.fill _
    · unfold fnOf at h
      cases e : body (ws.map some ++ List.replicate (N.length - ws.length) none) with
      | nx sd1 =>
        rw [e] at h
        exact fun σ' Z' H' ok x => h .non Z' H' [] (.non _) .nil (fun _ m => absurd m List.not_mem_nil) ok.unnil.base x
      | rt w1 sd1 =>
        rw [e] at h
        exact fun v Z' H' o' σ' r nd nf ok x => h v Z' H' o' r nd nf ok.base x
      | ex y sd1 =>
        rw [e] at h
        exact fun σ' c dd Z' H' a ok x => h c dd Z' H' a ok.base x
      | bk sd1 => rw [e] at h; exact h.elim
      | ct sd1 => rw [e] at h; exact h.elim
      | stuck => rw [e] at h; exact h.elim
/-- a def of the text, as its callers know it: its name, its level, its arguments' number, the values of its defaults, what it is worth -/
structure Def (P : Program) (w : World) (K : PySem.W.Frag) (mg : Mg) (base : Heap) (x : Str) (k : Nat) (n : Nat) (dfl : List D) (f : Fn) : Prop where
  ex : ∃ (fa : Addr) (fd : FuncData) (ps : List Str) (dvs : List V) (ds : List Value), mg x = some (.ref fa) ∧ PySem.W.keepIn K (.ref fa) = true ∧ Binds K fd ps ds ∧ Vals dvs ds ∧ (∀ Z H, RpAll K Z H dvs dfl 0 []) ∧ FnOk P w K mg base (L2.CX P w) k fa fd ps (spF K mg n f)
theorem Def.mono {x : Str} {j k n : Nat} {dfl : List D} {f : Fn} (h : Def P w K mg base x j n dfl f) (le : j ≤ k) : Def P w K mg base x k n dfl f := by
  obtain ⟨fa, fd, ps, dvs, ds, h1, h2, h3, h4, h5, h6⟩ := h.ex
  exact ⟨fa, fd, ps, dvs, ds, h1, h2, h3, h4, h5, h6.mono le⟩
/-- another way to say what a def is worth -/
theorem Def.as {x : Str} {k n : Nat} {dfl : List D} {f g : Fn} (h : Def P w K mg base x k n dfl f) (e : ∀ ws, g ws ≠ .stuck → f ws = g ws) : Def P w K mg base x k n dfl g := by
  obtain ⟨fa, fd, ps, dvs, ds, h1, h2, h3, h4, h5, h6⟩ := h.ex
  refine ⟨fa, fd, ps, dvs, ds, h1, h2, h3, h4, h5, h6.imp fun vs H Q E ⟨Z, F, ws, o, a1, a2, a3, a4, a5, a6⟩ => ⟨Z, F, ws, o, a1, a2, a3, a4, a5, ?_⟩⟩
  have hne : g ws ≠ .stuck := fun z => by rw [z] at a6; exact a6
  rw [e ws hne]
  exact a6
end
/-- the arguments of a call: frozen (fz), or given away (mv) -/
abbrev Eg := SD → R (List (D × Nat))
def gNil : Eg := fun sd => .ok [] sd
def gFz (f : Ev) (fs : Eg) : Eg := fun sd => (f sd).bind fun x sd1 => (fs sd1).bind fun xs sd2 => .ok ((x.1, 0) :: xs) sd2
def gMv (f : Ev) (fs : Eg) : Eg := fun sd => (f sd).bind fun x sd1 => (fs sd1).bind fun xs sd2 => .ok (x :: xs) sd2
def FR.r (r : FR) (sd : SD) : R (D × Nat) := match r with
  | .ok w => .ok w sd
  | .exc x => .exc x sd
  | .stuck => .stuck
@[simp] theorem FR.r_ok (w : D × Nat) (sd : SD) : (FR.ok w).r sd = .ok w sd := eqr rfl
@[simp] theorem FR.r_exc (x : Exn) (sd : SD) : (FR.exc x).r sd = .exc x sd := eqr rfl
@[simp] theorem FR.r_stuck (sd : SD) : (FR.stuck).r sd = .stuck := eqr rfl
def cal (n : Nat) (f : Fn) (dfl : List D) (fs : Eg) : Ev := fun sd => (fs sd).bind fun xs sd1 => if (xs.length + dfl.length == n) = true then (f (xs ++ dfl.map fun d => (d, 0))).r sd1 else .stuck
section
variable (K : PySem.W.Frag) (mg : Mg) (W : WX)
def argP (Z F : Pz) (σ : St) (H : Hp) (r : R (List (D × Nat))) (Q : List V → Hp → Prop) : Prop := match r with
  | .ok ws sd' => ∀ vs Z' H' o, Slots K Z' H' (vs.map some) (ws.map some) o → o.Nodup → (∀ a ∈ o, ¬ F a) → Ok K Z' (uni F o) H' σ sd' → Ext F Z H Z' H' → Q vs H'
  | .exc x sd' => excP K mg W Z F σ H x sd'
  | .stuck => False
def tG (f : Eg) : TA := fun σ H Q => ∃ Z F sd, Ok K Z F H σ sd ∧ argP K mg W Z F σ H (f sd) Q
end
def SGa (X : Cx) (W : WX) (es : List Expr) (f : Eg) : Prop := PA X es (tG X.K X.mg W f)
section
variable {X : Cx} {W : WX} {pos p q : Pos} {a b c : Expr} {es : List Expr} {fa fb : Ev} {fs : Eg}
theorem sga_nil : SGa X W [] gNil := PA.imp pa_nil fun σ H Q ⟨Z, F, sd, ok, h⟩ => h [] Z H [] .nil .nil (fun _ m => absurd m List.not_mem_nil) ok.unnil .refl
theorem sga_fz (ha : SE X W a fa) (hs : SGa X W es fs) (hst : starEach (a :: es) X.env = (false, eval a X.env) :: starEach es X.env := by rfl) : SGa X W (a :: es) (gFz fa fs) := by
  refine PA.imp (pa_cons ha hs hst) fun σ H Q ⟨Z, F, sd, ok, h⟩ => ?_
  unfold gFz at h
  refine eP.seq (G := fun _ _ => True) ok (fun w sd1 e y Z1 H1 r ok1 x1 => ?_) (fun x sd1 e => ?_) (fun e => ?_)
  · rw [e, R.bind_ok] at h
    refine ⟨Z1, F, sd1, ok1, ?_⟩
    cases e2 : fs sd1 with
    | ok ws sd2 =>
      rw [e2, R.bind_ok] at h
      intro vs Z2 H2 o s nd nf ok2 x2
      exact h (y :: vs) Z2 H2 o (.cons (o := []) (r.keep x2.z fun a m => absurd m List.not_mem_nil) s) nd nf ok2 (x1.trans x2)
    | exc x sd2 => rw [e2] at h; exact excP.go0 h x1
    | stuck => rw [e2] at h; exact h
  · rw [e] at h; exact h
  · rw [e] at h; exact h
theorem sga_mv (ha : SE X W a fa) (hs : SGa X W es fs) (hst : starEach (a :: es) X.env = (false, eval a X.env) :: starEach es X.env := by rfl) : SGa X W (a :: es) (gMv fa fs) := by
  refine PA.imp (pa_cons ha hs hst) fun σ H Q ⟨Z, F, sd, ok, h⟩ => ?_
  unfold gMv at h
  refine eP.seqO ok (fun w sd1 e y Z1 H1 o1 r nd1 nf1 ok1 x1 => ?_) (fun x sd1 e => ?_) (fun e => ?_)
  · rw [e, R.bind_ok] at h
    refine ⟨Z1, uni F o1, sd1, ok1, ?_⟩
    cases e2 : fs sd1 with
    | ok ws sd2 =>
      rw [e2, R.bind_ok] at h
      intro vs Z2 H2 o s nd nf ok2 x2
      refine h (y :: vs) Z2 H2 (o1 ++ o) (.cons (r.keep x2.z fun a m => x2.f a (.inr m)) s) ?_ (fun a m => ?_) (ok2.less fun a z => ?_) (x1.trans (x2.mono fun _ z => .inl z))
      · exact List.nodup_append.mpr ⟨nd1, nd, fun a ha b hb e => nf b hb (.inr (e ▸ ha))⟩
      · rcases List.mem_append.mp m with m | m
        · exact nf1 a m
        · exact fun z => nf a m (.inl z)
      · rcases z with z | z
        · exact .inl (.inl z)
        · rcases List.mem_append.mp z with m | m
          · exact .inl (.inr m)
          · exact .inr m
    | exc x sd2 => rw [e2] at h; exact excP.go h x1
    | stuck => rw [e2] at h; exact h
  · rw [e] at h; exact h
  · rw [e] at h; exact h
theorem Slots.app {K : PySem.W.Frag} {Z : Pz} {H : Hp} {σ τ : St} {sd te : SD} {o p : List Addr} (h : Slots K Z H σ sd o) (h' : Slots K Z H τ te p) : Slots K Z H (σ ++ τ) (sd ++ te) (o ++ p) := by
  induction h with
  | nil => exact h'
  | skip _ ih => exact .skip ih
  | @cons v d k σ sd o p1 r _ ih => rw [List.append_assoc]; exact .cons r ih
theorem Slots.of_all {K : PySem.W.Frag} {Z : Pz} {H : Hp} {vs : List V} {ds : List D} (h : RpAll K Z H vs ds 0 []) : Slots K Z H (vs.map some) ((ds.map fun d => (d, 0)).map some) [] := by
  induction vs generalizing ds with
  | nil =>
    cases ds with
    | nil => exact .nil
    | cons _ _ => have := h.length; cases this
  | cons v vs ih =>
    cases ds with
    | nil => have := h.length; cases this
    | cons d ds =>
      obtain ⟨r1, r2⟩ := h.uncons
      exact .cons (o := []) r1 (ih r2)
/-- a call of one of the text's own defs -/
theorem se_call {x : Str} {k n : Nat} {dfl : List D} {f : Fn} (G : Def X.prog X.w X.K X.mg X.base x k n dfl f) (hr : Room k X.A) (tk : Takes X W) (ha : SGa X W (a :: es) fs) (hg : Gl X x := by rfl) (hdb : (x == ("__debug__" : Str)) = false := by decide)
    (he : starEach (a :: es) X.env = (false, eval a X.env) :: starEach es X.env := by rfl) (hpl : (backTo pos (starEach es X.env)).any (·.1) = false := by rfl) : SE X W (.Call (.Name x p) (a :: es) [] pos) (cal n f dfl fs) := by
  obtain ⟨fa, fd, ps, dvs, ds, h1, h2, h3, h4, h5, h6⟩ := G.ex
  refine PE.imp (pe_callSD h6 hr hg h1 h2 h3 h4 (fun σ => passAt tk σ) ha hdb he hpl) fun σ H Q ⟨Z, F, sd, ok, h⟩ => ?_
  refine ⟨Z, F, sd, ok, ?_⟩
  unfold cal at h
  cases e : fs sd with
  | stuck => rw [e] at h; exact h
  | exc y sd1 => rw [e] at h; exact h
  | ok ws sd1 =>
    rw [e, R.bind_ok] at h
    intro vs Z1 H1 o s nd nf ok1 x1
    obtain ⟨ow, ss, ndw, nfw, b⟩ := ok1.ex
    split at h
    case isFalse => exact h.elim
    rename_i hn
    have hlen : (vs ++ dvs).length = n := by
      have q1 := s.length
      have q2 := (h5 Z1 H1).length
      rw [List.length_map, List.length_map] at q1
      rw [List.length_append, q1, q2]
      exact beq_iff_eq.mp hn
    refine ⟨Z1, uni F ow, ws ++ dfl.map fun d => (d, 0), o, hlen, ?_, nd, fun a m z => ?_, ⟨b.z, fun a f => b.f a ?_⟩, ?_⟩
    · rw [List.map_append, List.map_append]
      have := s.app (Slots.of_all (h5 Z1 H1))
      rw [List.append_nil] at this
      exact this
    · rcases z with z | z
      · exact nf a m z
      · exact nfw a z (.inr m)
    · rcases f with (f | f) | f
      · exact .inl (.inl f)
      · exact .inr f
      · exact .inl (.inr f)
    · cases e2 : f (ws ++ dfl.map fun d => (d, 0)) with
      | ok w =>
        rw [e2, FR.r_ok] at h
        intro v Z2 H2 o2 r2 nd2 nf2 b2 x2
        refine h v Z2 H2 o2 r2 nd2 (fun a m z => nf2 a m (.inl z)) ⟨ow, ss.keep x2.z fun a m => x2.f a (.inr m), ndw, fun a m z => ?_, b2.z, fun a f => b2.f a ?_⟩ (x1.trans (x2.mono fun _ z => .inl z))
        · rcases z with z | z
          · exact nfw a m (.inl z)
          · exact nf2 a z (.inr m)
        · rcases f with (f | f) | f
          · exact .inl (.inl f)
          · exact .inr f
          · exact .inl (.inr f)
      | exc y =>
        rw [e2, FR.r_exc] at h
        intro c dd Z2 H2 ea b2 x2
        refine h c dd Z2 H2 ea ⟨ow, ss.keep x2.z fun a m => x2.f a (.inr m), ndw, fun a m z => nfw a m (.inl z), b2.z, b2.f⟩ (x1.trans (x2.mono fun _ z => .inl z))
      | stuck => rw [e2, FR.r_stuck] at h; exact h
end
end VS
/-! VS8: what the generated texts lean on. -/
namespace VS
open PySem PySem.Spec L2
open PyProof.Rows (envOfC)

/-- the top has written the def st under the name x -/
def HasFn (K : PySem.W.Frag) (x : Str) (st : Stmt) : Prop :=
  ∃ (f : Addr) (oc : Value) (od : Option Addr) (kV doc pm : Value) (an : Option Addr) (cdv ct : Value) (osl : Array (Option Value)),
    PySem.W.nsIn K mainGlobals x = some (some (.ref f)) ∧ K.lookup f = some ⟨oc, od, .func (PySem.W.fnOf x x (defArgs st) (defBody st) (defScope st) .none kV doc pm an cdv ct), osl⟩ ∧ PySem.W.codeIn K cdv x = true ∧ PySem.W.keepIn K (.ref f) = true
/-- .. as the defs use it -/
def IsFn (K : PySem.W.Frag) (mg : Mg) (x : Str) (st : Stmt) : Prop := ∃ f fd, mg x = some (.ref f) ∧ Fun K x x st f fd
theorem HasFn.is {K : PySem.W.Frag} {h : Heap} {mg : Mg} {x : Str} {st : Stmt} (a : HasFn K x st) (X : K.In h) (G : h.Ns mainGlobals mg) : IsFn K mg x st := by
  obtain ⟨f, oc, od, kV, doc, pm, an, cdv, ct, osl, h1, h2, h3, h4⟩ := a
  exact ⟨f, _, PySem.W.mg_of X G h1, fun_mk h2 h3 h4⟩
section
variable {P : Program} {w : World} {K : PySem.W.Frag} {mg : Mg} {base : Heap}
/-- the context of a def's body -/
abbrev cxD (P : Program) (w : World) (K : PySem.W.Frag) (mg : Mg) (base : Heap) (N : List Str) (x : Str) (st : Stmt) (f : Addr) (cdv : Value) (A : Around) (outer : List Env) (s : Shared) (H : Hp) (E : XK) : Cx := cxOf (L2.CX P w) P w K mg base N x (defScope st) f cdv A outer s H E
abbrev wxD (E : XK) : WX := fun c d _ H' => E c d H'
/-- what holds in every body -/
structure Cg (X : Cx) (W : WX) (k : Nat) : Prop where
  calm : X.calm = true
  nd : X.N.Nodup
  hp : PassesOwn (model X.prog X.w) X.A X.env X.xe
  tk : Takes X W
  hr : Room k X.A
theorem Cg.hu {X : Cx} {W : WX} {k : Nat} (c : Cg X W k) : X.A.units + 64 < cLine := c.hr.units
theorem cg_of {N : List Str} {x : Str} {st : Stmt} {f : Addr} {cdv : Value} {A : Around} {outer : List Env} {s : Shared} {H : Hp} {E : XK} {k : Nat} (nd : N.Nodup) (hr : Room k (A.deeper (envOfC x (defScope st) s.heap.objs.size f cdv))) : Cg (cxD P w K mg base N x st f cdv A outer s H E) (wxD E) k :=
  ⟨rfl, nd, passes_of (K := fun e s'' => L2.CX P w outer H s E e s'') (E₁ := fun e' s'' => L2.CX P w outer H s E e' s'') rfl, takes_of rfl rfl rfl rfl, hr⟩
theorem def_ok {x : Str} {st : Stmt} {N ps : List Str} {k : Nat} {body : Sm} (hf : IsFn K mg x st) (S : FnScope N ps (defScope st))
    (hb : ∀ (kV doc pm : Value) (an : Option Addr) (cdv ct : Value) (us : List Value), us.length = ps.length → bindArgs (PySem.W.fnOf x x (defArgs st) (defBody st) (defScope st) .none kV doc pm an cdv ct) ⟨us, []⟩ = pure (ps.zip us))
    (hbody : ∀ (f : Addr) (cdv : Value) (A : Around) (outer : List Env) (s : Shared) (H : Hp) (E : XK), Cg (cxD P w K mg base N x st f cdv A outer s H E) (wxD E) k →
      SSs (cxD P w K mg base N x st f cdv A outer s H E) (wxD E) (defBody st) body) : Def P w K mg base x (k + 1) ps.length [] (fnOf N.length body) := by
  obtain ⟨f, fd, h1, Fu⟩ := hf
  exact ⟨f, fd, ps, [], [], h1, Fu.kp, Fu.binds hb, .nil, fun _ _ => .nil 0, fn_ok Fu S fun cdv A outer s H E hr => hbody f cdv A outer s H E (cg_of S.nd hr)⟩
end
section
variable {X : Cx} {W : WX} {pos : Pos}
/-- a module's int -/
theorem se_globI {x : Str} {i : Int} (h : ∃ t, X.mg x = some (.int i t)) (hg : Gl X x := by rfl) (hd : (x == ("__debug__" : Str)) = false := by decide) : SE X W (.Name x pos) (cst (.int i)) := by
  obtain ⟨t, h⟩ := h
  exact se_cst (v := .int i) (pe_glob hg h ⟨t, rfl⟩ hd) fun _ _ => .int _ _
/-- facts of a block's body -/
theorem Cg.blk {k : Nat} (c : Cg X W k) : X.calm = true ∧ X.N.Nodup ∧ Room k X.A := ⟨c.calm, c.nd, c.hr⟩
end
/-- the law's own def, as the end wants it -/
theorem law_ok {P : Program} {w : World} {K : PySem.W.Frag} {mg : Mg} {st : Stmt} {N : List Str} {k : Nat} {body : Sm} {fa : Addr} (Good : Heap → Prop) (hf : IsFn K mg "law" st) (S : FnScope N ["script"] (defScope st))
    (hb : ∀ (kV doc pm : Value) (an : Option Addr) (cdv ct : Value) (us : List Value), us.length = (["script"] : List Str).length → bindArgs (PySem.W.fnOf "law" "law" (defArgs st) (defBody st) (defScope st) .none kV doc pm an cdv ct) ⟨us, []⟩ = pure ((["script"] : List Str).zip us))
    (hbody : ∀ (base : Heap), Good base → ∀ (f : Addr) (cdv : Value) (A : Around) (outer : List Env) (s : Shared) (H : Hp) (E : XK), Cg (cxD P w K mg base N "law" st f cdv A outer s H E) (wxD E) k →
      SSs (cxD P w K mg base N "law" st f cdv A outer s H E) (wxD E) (defBody st) body) (hfa : mg "law" = some (.ref fa)) :
    ∃ fd : FuncData, (∀ (s : Shared) (u : Value), BindsTo s fd ⟨[u], []⟩ [("script", u)]) ∧ ∀ base : Heap, Good base → FnOk P w K mg base (L2.CX P w) (k + 1) fa fd ["script"] (spF K mg 1 (fnOf N.length body)) := by
  obtain ⟨f, fd, h1, Fu⟩ := hf
  rw [hfa] at h1
  cases h1
  refine ⟨fd, fun s u => ?_, fun base g => fn_ok Fu S fun cdv A outer s H E hr => hbody base g fa cdv A outer s H E (cg_of S.nd hr)⟩
  obtain ⟨oc, od, kV, doc, pm, an, cdv, ct, osl, rfl, lk, hcd⟩ := Fu.ex
  exact .of_eq (hb kV doc pm an cdv ct [u] rfl)
/-- the promise of the law's own def: it raises nothing -/
def spL (K : PySem.W.Frag) (f : Fn) : Sp := fun vs H Q _ => ∃ (Z F : Pz) (ws : List (D × Nat)) (o : List Addr) (w : D × Nat), vs.length = 1 ∧ Slots K Z H (vs.map some) (ws.map some) o ∧ o.Nodup ∧ (∀ a ∈ o, ¬ F a) ∧ Ok0 Z (uni F o) H ∧ f ws = .ok w ∧
  ∀ v Z' H' o', Rp K Z' H' v w.1 w.2 o' → Q v H'
theorem spL_imp {K : PySem.W.Frag} {mg : Mg} {f : Fn} (vs : List V) (H : Hp) (Q : VK) (E : XK) (h : spL K f vs H Q E) : spF K mg 1 f vs H Q E := by
  obtain ⟨Z, F, ws, o, w, h1, h2, h3, h4, h5, h6, h7⟩ := h
  refine ⟨Z, F, ws, o, h1, h2, h3, h4, h5, ?_⟩
  rw [h6]
  exact fun v Z' H' o' r _ _ _ _ => h7 v Z' H' o' r
/-- the end of a law's row: the law's own def, on the script, gives True -/
theorem walk_law {l : PySem.W.OpenLaw} {q : Program} {loose : List Str} {XP : (Str → Option Value) → Heap → Prop} {YP : World → Heap → Prop} {d : DefRec} {K : Params → PySem.W.Frag} {k n : Nat} {f : Fn} (hn : l.most = some n) (hn2 : n ≤ sizeLine) (hdf : d.params.defaults = []) (hr : Room k callerA)
    (hY : ∀ (w : World) (h : Heap), YP w h → (K w.params).In h)
    (F : ∀ (w : World) (mg : Mg) (fa : Addr) (h : Heap), (K w.params).In h → h.Ns mainGlobals mg → mg d.name = some (.ref fa) →
      ∃ fd : FuncData, (∀ (s : Shared) (u : Value), BindsTo s fd ⟨[u], []⟩ [("script", u)]) ∧ ∀ base : Heap, (K w.params).In base → base.Ns mainGlobals mg → FnOk l.prog w (K w.params) mg base (L2.CX l.prog w) k fa fd ["script"] (spF (K w.params) mg 1 f))
    (hf : ∀ ns : List Int, ns.length ≤ n → (∀ z ∈ ns, Builtin.Int.intBits z ≤ 1048576) → ∃ k, f [(.scr (ns.map .int), 0)] = .ok (.bl true, k)) :
    PySem.W.WalkO q loose XP YP l.row.toRowW d [] (fun f vs => PySem.call f vs) := by
  refine L2.walk_ofB (n := n) (k := k) (x := "script") (CX := fun w => L2.CX l.prog w) (sp := fun w => spL (K w.params) f) hn hn2 hdf hr hY (fun w mg fa h KX G hmg => ?_) (fun w H a ns hl hb hO hS => ?_) fun w H s e s' h => ?_
  · obtain ⟨fd, h1, h2⟩ := F w mg fa h KX G hmg
    exact ⟨fd, h1, fun base g1 g2 => (h2 base g1 g2).imp spL_imp⟩
  · obtain ⟨k', e⟩ := hf ns hl hb
    refine ⟨fun b => ∃ o, H b = some o, fun _ => False, [(.scr (ns.map .int), 0)], [], _, rfl, ?_, .nil, fun _ m => absurd m List.not_mem_nil, ⟨fun _ z => z, fun a f => ?_⟩, e, fun v Z' H' o' r => ?_⟩
    · refine .cons (o := []) (.scr 0 (.inl ?_) (RpAll.of_ints ns)) .nil
      rcases hS with h | h
      · refine .inl ⟨?_, h⟩
        rcases h with h | ⟨o, h⟩
        · exact ⟨_, h⟩
        · exact ⟨_, h⟩
      · exact .inr h
    · rcases f with f | f
      · exact f.elim
      · exact absurd f List.not_mem_nil
    · cases r
      rfl
  · obtain ⟨_, _, _, _, _, _, _, _, _, _, _, _, z⟩ := h
    exact z
end VS
namespace VS
/-- enough turns for any while of these texts -/
def bigN : Nat := 1000000
end VS
/-! VS9: enumerate of a tuple, sorted(set(..)), least of pairs. -/
namespace VSE
open PySem
open Sem (wp)
open AutoSeq1 (wpAny_loadPart')
/-- what enumerate(t) makes -/
def enO (n : Nat) : Obj := { cls := .type "enumerate", data := .fields #[.none, .bool false, .ref n, rawInt 0, .none, .none] }
def tiO (t : Addr) : Obj := { cls := .type "tuple_iterator", data := .fields #[.ref t, .int 0 0] }
theorem enum_new_tuple (t : Addr) (items : Array Value) (n : Nat) (dct : Option Addr) (sl : Array (Option Value)) :
    Meets (Builtin.«enumerate.__new__» ⟨[.type "enumerate", .ref t], []⟩) (fun _ R s =>
      s.heap.get? t = some { cls := .type "tuple", dict := dct, data := .seq items n, slots := sl } ∧ R (.ok (.ret (.ref (s.heap.push (tiO t)).objs.size))) { s with heap := (s.heap.push (tiO t)).push (enO s.heap.objs.size) }) := by
  refine .of_wp fun prog w A R s h => ?_
  obtain ⟨hp, g, d, tk, os⟩ := s
  obtain ⟨ht, h⟩ := h
  have hsub := sub_enumerate
  have hT : Heap.IsTuple (Shared.heap ⟨hp, g, d, tk, os⟩) t items := ⟨_, ht, rfl, n, rfl⟩
  wp_walk using wpAny_loadPart' ht
  refine wpAny_stack_any fun st => wpAny_pure ?_
  split
  · rename_i c _ _ _ _ _
    cases (c == Value.type "enumerate") <;> (wp_walk using wpAny_loadPart' ht, wpAny_pyIter_tuple hT; exact ⟨_, rfl, h⟩)
  · wp_walk using wpAny_loadPart' ht, wpAny_pyIter_tuple hT
    exact ⟨_, rfl, h⟩
section
variable {prog : Program} {w : World} {A : Around} {E : Value → Shared → Prop} {s : Shared}
theorem call_enum_tuple {t : Addr} {items : Array Value} {Q : Value → Shared → Prop} (hT : s.heap.IsTuple t items)
    (h : ∀ h', IsEnum h' (s.heap.objs.size + 1) s.heap.objs.size 0 .none → h'.IsTupleIter s.heap.objs.size t 0 → (∀ b o, s.heap.get? b = some o → h'.get? b = some o) → Q (.ref (s.heap.objs.size + 1)) { s with heap := h' }) :
    wpAny (model prog w) A (call (.type "enumerate") [.ref t]) Q E s := by
  obtain ⟨⟨c, dct, dt, sl⟩, ht, hc, n, hd⟩ := hT
  replace hc : c = .type "tuple" := hc
  replace hd : dt = .seq items n := hd
  subst hc hd
  refine callType_new F.called_enumerate (by decide) (F.typeCall_enumerate_1 _) (F.newCall_enumerate_1 _) (fun obj => F.args_object_init_2 obj _) F.entry_enumerate_new (enum_new_tuple t items n dct sl) ⟨ht, ?_⟩
  have hz : (s.heap.push (tiO t)).objs.size = s.heap.objs.size + 1 := Heap.size_push ..
  have he : IsEnum ((s.heap.push (tiO t)).push (enO s.heap.objs.size)) (s.heap.objs.size + 1) s.heap.objs.size 0 .none := by
    have q := Heap.get?_push_size (s.heap.push (tiO t)) (o := enO s.heap.objs.size) rfl
    rw [hz] at q
    exact q
  show _ ∧ _
  rw [hz]
  exact ⟨⟨_, he, rfl⟩, h _ he ⟨_, Heap.get?_push_of_some _ (Heap.get?_push_size _ rfl), rfl, rfl⟩ fun b o x => Heap.get?_push_of_some _ (Heap.get?_push_of_some _ x)⟩
end
end VSE
namespace VS
open PySem PySem.Spec L2
/-! ### enumerate of a tuple -/
def IteT (K : PySem.W.Frag) (a : Addr) : It :=
  ⟨fun i H => ∃ (xs : List V) (x : V), SqT K H a xs ∧ xs[i]? = some x, fun i H v H' => ∃ T x, v = .ref T ∧ H T = none ∧ H' = upd H T (.tup [.int (i : Nat), x]) ∧ ∀ xs, SqT K H a xs → xs[i]? = some x, fun i H => ∃ xs : List V, SqT K H a xs ∧ xs.length ≤ i⟩
theorem turn_enumT {P : Program} {w : World} {K : PySem.W.Frag} {elts : List Expr} {kk : Nat} {tpos : Pos} (a e it : Addr) :
    Turn P w K (.Tuple elts kk tpos) (IteT K a) [e, it] e (fun i h => (∃ old, IsEnum h e it ((i : Nat) : Int) old) ∧ h.IsTupleIter it a i ∧ e ≠ it ∧ a ≠ it ∧ a ≠ e) where
  mem := by simp
  obj := fun i h st b hb => by
    obtain ⟨⟨old, he⟩, ⟨o, ho, hc, hd⟩, _⟩ := st
    rcases (by simpa using hb : b = e ∨ b = it) with z | z
    · subst z; exact ⟨_, he, fun v q => nomatch q⟩
    · subst z; exact ⟨o, ho, fun v q => by rw [hd] at q; cases q⟩
  keep := fun i h h' st k => by
    obtain ⟨⟨old, he⟩, hi, hne⟩ := st
    exact ⟨⟨old, k e (by simp) _ he⟩, hi.at fun o q => k it (by simp) o q, hne⟩
  item := by
    rintro X rfl rfl rfl hc i pins s σ H E I hf ⟨⟨old, he⟩, hit, hne, hai, hae⟩ ⟨xs, x, hq, hx⟩
    obtain ⟨its, rv, pt, hz⟩ := I.tuple hq
    obtain ⟨u, hu, ru⟩ := rv.get hx
    have hel : e < s.heap.objs.size := Heap.lt_size he
    have hil : it < s.heap.objs.size := by obtain ⟨_, z, _⟩ := hit; exact Heap.lt_size z
    have hlt : i < its.toArray.size := by
      obtain ⟨z, _⟩ := List.getElem?_eq_some_iff.mp hu
      simpa using z
    have D := Draws.tuple (prog := X.prog) (w := X.w) (A := X.A.in1) (show X.A.in1.handled = none from I.ok.hd hc) it a hai its.toArray
    refine wpAny_pyNext_enum_itemD D he ⟨hit, pt⟩ hlt hne (by simp [hne, Ne.symm hae]) fun x' h' tk hP ho hs' hT hsz hk => ?_
    have ex : x' = u := by
      have q : its.toArray[i]? = some x' := hP
      rw [List.getElem?_toArray, hu] at q
      exact (Option.some.inj q).symm
    subst ex
    refine ⟨_, rfl, wpAny_letOwnedTupleGo_enum (s := { s with heap := h', toks := tk + 1 }) ho fun h'' he' sb => ?_⟩
    have hT2 : h''.get? s.heap.objs.size = some { cls := .type "tuple", data := .seq #[.int i tk, x'] } := (sb.2 _ (Nat.ne_of_gt hel)).trans hT
    have new : ObjOk X.prog X.w (upd H s.heap.objs.size (.tup [.int (i : Nat), x])) h'' s.heap.objs.size (.tup [.int (i : Nat), x]) :=
      ⟨by show 2 ≤ sizeLine; decide, [.int i tk, x'], .cons ⟨_, rfl⟩ (.cons ru .nil), ⟨_, hT2, rfl, _, rfl⟩⟩
    have I1 : Inv X pins σ (upd H s.heap.objs.size (.tup [.int (i : Nat), x])) { s with heap := h'', toks := tk + 1 } := by
      refine I.turnedNew (ch := [e, it]) (fun b ob hb q => ?_) hf (Nat.le_refl _) new
      have hbe : b ≠ e := fun z => hb (by simp [z])
      exact (sb.2 b hbe).trans (hk b ob hbe (fun z => hb (by simp [z])) q)
    refine ⟨.ref s.heap.objs.size, _, I1, rfl, ⟨_, x, rfl, I.hok.fresh (Nat.le_refl _), rfl, fun ys hy => by rw [I.tuple_inj hy hq]; exact hx⟩, ⟨⟨x', ?_⟩, hs'.1.at fun o q => (sb.2 it (Ne.symm hne)).trans q, hne, hai, hae⟩, fun b hb => ?_⟩
    · have e1 : ((i + 1 : Nat) : Int) = (i : Int) + 1 := by omega
      rw [e1]; exact he'
    · have hb' : b < s.heap.objs.size := by
        rcases (by simpa using hb : b = e ∨ b = it) with z | z <;> (rw [z]; assumption)
      rw [upd_ne (Nat.ne_of_lt hb')]
      exact (hf b hb).1
  done := by
    rintro X rfl rfl rfl hc i pins s σ H E I hf ⟨⟨old, he⟩, hit, hne, hai, hae⟩ ⟨xs, hq, hx⟩
    obtain ⟨its, rv, pt, hz⟩ := I.tuple hq
    obtain ⟨f0, f1, f2, f3, f4, f5⟩ := hf it (by simp)
    have hno : its.toArray[i]? = none := by
      rw [List.getElem?_toArray]
      exact List.getElem?_eq_none (by rw [← rv.length]; exact hx)
    have hT : s.TypeIs (.ref e) "enumerate" := ⟨_, he, rfl⟩
    unfold pyNext
    refine wpAny_bind (wpAny_attempt (wpAny_callSpecial?_slot (name := Str.ofString "__next__") hT PySem.F.slot_enumerate_next
      (wpAny_call_entry PySem.F.slot_enumerate_next hT PySem.F.entry_enumerate_next ?_ (PySem.F.args_enumerate_next_1 _))))
    show wpAny _ _ (field (.ref e) 2 >>= _) _ _ _
    refine wpAny_bind (wpAny_field he rfl (x := .ref it) rfl ?_)
    refine wpAny_bind (wpAny_nextOf_tuple_end (show X.A.in1.handled = none from I.ok.hd hc) hit pt hno fun h' x he' hx' => ?_)
    obtain ⟨o, ho, hcl⟩ := hx'
    refine wpAny_bind (wpAny_isInstance (T := "StopIteration") (b := true) ⟨o, ho, hcl⟩ isSubtype_stop ?_)
    exact wpAny_pure ⟨rfl, I.turned (t' := s.toks) (fun b o hb q => he' b o hb q) f0 f1 f3 f4 f5⟩
  self := fun A i s Q E st h => by
    obtain ⟨⟨_, he⟩, _⟩ := st
    exact wpAny_pyIter_enum he h
theorem ItOk.enumT {K : PySem.W.Frag} {Z : Pz} {H : Hp} {a : Addr} {xs : List V} {ds : List D} (z : Z a) (h : H a = some (.tup xs)) (r : RpAll K Z H xs ds 0 []) : ItOk K (IteT K a) (enumFrom 0 ds) Z H := by
  intro i Z2 H2 st hz
  obtain ⟨z2, e2⟩ := st a z
  have h2 : SqT K H2 a xs := .of (e2.trans h)
  refine ⟨fun hi => ⟨xs, h2, by rw [enumFrom_len] at hi; rw [r.length]; exact hi⟩, fun d hd => ?_⟩
  rw [enumFrom_at] at hd
  obtain ⟨d', hd', rfl⟩ := Option.map_eq_some_iff.mp hd
  obtain ⟨v, hv, rv⟩ := r.get hd'
  refine ⟨⟨xs, v, h2, hv⟩, fun x H' y => ?_⟩
  obtain ⟨T, u, rfl, hT, e, y⟩ := y
  subst e
  have := y xs h2
  rw [hv] at this
  cases this
  have rv2 : Rp K Z2 H2 v d' 0 [] := rv.keep st fun a m => absurd m List.not_mem_nil
  refine ⟨fun a => Z2 a ∨ a = T, Gr.fz hT, .tup 0 (.inr rfl) upd_same ?_⟩
  rw [Nat.zero_add]
  exact .cons (o := []) (p := []) (.int _ _) (.cons (o := []) (p := []) (Gr.rp (Gr.fz hT) hz rv2) (.nil 0))
def iEnu (f : Ev) : Ei := fun sd => (f sd).bind fun x sd1 => match x.1 with
  | .lst ds => .ok (enumFrom 0 ds) sd1
  | .tup ds => .ok (enumFrom 0 ds) sd1
  | _ => .stuck
section
variable {X : Cx} {W : WX} {pos p q : Pos} {tg a b : Expr} {fa fb : Ev}
def iEnumT (K : PySem.W.Frag) (ta : TA) : TI := fun σ H R => ta σ H fun vs H1 => ∃ a xs, vs = [.ref a] ∧ SqT K H1 a xs ∧ R (IteT K a) H1
theorem pi_enumT {e : Expr} {ta : TA} {tpos : Pos} {elts : List Expr} {kk : Nat} (hg : Gl X "enumerate") (hm : X.mg "enumerate" = none) (ha : PA X [e] ta) (hs : starEach [e] X.env = [(false, eval e X.env)] := by rfl) :
    PI X (.Tuple elts kk tpos) (.Call (.Name "enumerate" p) [e] [] pos) (iEnumT X.K ta) := by
  refine ⟨fun pins s σ H R I h => ?_⟩
  refine PyProof.Rows.Call_ (ld_blt I hg hm PyProof.Rows.boot_enumerate (PyProof.Rows.callWith_type1 (thn (ha.run pos pins s σ H _ I h) fun us s1 hh => ?_) hs rfl))
  obtain ⟨vs, H1, I1, r1, a, xs, rfl, hq, q⟩ := hh
  cases r1 with
  | cons r rr =>
    cases rr
    cases r
    obtain ⟨its, rv, pt, hz⟩ := I1.tuple hq
    have hal : a < s1.heap.objs.size := pt.lt
    refine VSE.call_enum_tuple pt fun h' he hit hk => wpAny_pyIter_enum he ?_
    have I2 : Inv X pins σ H1 { s1 with heap := h' } := I1.kept (t' := s1.toks) hk
    refine ⟨s1.heap.objs.size + 1, [s1.heap.objs.size + 1, s1.heap.objs.size], _, _, H1, rfl, I2, turn_enumT a (s1.heap.objs.size + 1) s1.heap.objs.size, ⟨⟨.none, he⟩, hit, Nat.succ_ne_self _, Nat.ne_of_lt hal, Nat.ne_of_lt (Nat.lt_succ_of_lt hal)⟩, fun b hb => ?_, q⟩
    have hle : s1.heap.objs.size ≤ b := by
      rcases (by simpa using hb : b = s1.heap.objs.size + 1 ∨ b = s1.heap.objs.size) with z | z
      · rw [z]; exact Nat.le_add_right _ _
      · rw [z]; exact Nat.le_refl _
    exact I1.fpOk hle (I1.hok.fresh hle)
theorem si_enum {elts : List Expr} {kk : Nat} {tpos : Pos} (ha : SE X W a fa) (hg : Gl X "enumerate") (hm : X.mg "enumerate" = none) (hst : starEach [a] X.env = (false, eval a X.env) :: starEach [] X.env := by rfl) (hs : starEach [a] X.env = [(false, eval a X.env)] := by rfl) :
    SI X W (.Tuple elts kk tpos) (.Call (.Name "enumerate" p) [a] [] pos) (iEnu fa) := by
  refine ⟨fun pins s σ H R' I ⟨Z, F, sd, ok, h⟩ => ?_⟩
  unfold iEnu at h
  cases e : fa sd with
  | ok w sd1 =>
    rw [e, R.bind_ok] at h
    split at h
    · rename_i ds ew
      refine (pi_enum hg hm (pa_cons ha pa_nil hst) hs).run pins s σ H R' I ?_
      refine eP.seq (G := fun _ _ => True) ok (fun w1 sd1' e1 y Z1 H1 ry ok1 x1 => ?_) (fun x sd1 e2 => ?_) (fun e2 => ?_)
      · rw [e] at e1; cases e1
        rw [ew] at ry
        generalize e0 : ([] : List Addr) = o0 at ry
        cases ry with
        | lst0 z hh r => exact ⟨_, _, rfl, .of hh, h _ Z1 H1 (ItOk.enum z hh r) ok1 x1⟩
      · rw [e] at e2; cases e2
      · rw [e] at e2; cases e2
    · rename_i ds ew
      refine (pi_enumT hg hm (pa_cons ha pa_nil hst) hs).run pins s σ H R' I ?_
      refine eP.seq (G := fun _ _ => True) ok (fun w1 sd1' e1 y Z1 H1 ry ok1 x1 => ?_) (fun x sd1 e2 => ?_) (fun e2 => ?_)
      · rw [e] at e1; cases e1
        rw [ew] at ry
        generalize e0 : ([] : List Addr) = o0 at ry
        cases ry with
        | tup _ z hh r => exact ⟨_, _, rfl, .of hh, h _ Z1 H1 (ItOk.enumT z hh r) ok1 x1⟩
      · rw [e] at e2; cases e2
      · rw [e] at e2; cases e2
    · exact h.elim
  | exc x sd1 =>
    rw [e] at h
    refine (pi_enum hg hm (pa_cons ha pa_nil hst) hs).run pins s σ H R' I (eP.seq (G := fun _ _ => True) ok (fun w1 sd1' e1 => ?_) (fun x sd1 e2 => ?_) (fun e2 => ?_))
    · rw [e] at e1; cases e1
    · rw [e] at e2; cases e2; exact h
    · rw [e] at e2; cases e2
  | stuck => rw [e] at h; exact h.elim
end
end VS
/-! VS10: sorted(set(xs)) of a list of ints. -/
namespace VSS
open PySem PySem.Spec PyProof.Rows L2
abbrev es0 (w : World) : Obj := { cls := .type "set", dict := none, data := .set #[] 0 (.fresh 0 0 (!w.params.followText "set-order")) }
section
variable {P : Program} {w : World} {A : Around} {E : Value → Shared → Prop} {s : Shared}
/-- what stands behind set(l) -/
structure Made (w : World) (s : Shared) (ns : List Int) (h' : Heap) (c : Nat) : Prop where
  set : SetR w h' s.heap.objs.size (fun j => decide (j ∈ ns)) c
  few : c ≤ ns.length
  kept : ∀ b o, s.heap.get? b = some o → h'.get? b = some o
set_option maxHeartbeats 3200000 in
theorem set_of_list {l : Addr} {items : Array Value} (ns : List Int) {Q : Value → Shared → Prop} (hh : A.handled = none) (hl : s.heap.IsList l items) (hit : IntsAre items.toList ns) (hb : ns.length + 1 < scanBound)
    (k : ∀ (h' : Heap) (tk c : Nat), Made w s ns h' c → Q (.ref s.heap.objs.size) { s with heap := h', toks := tk }) : wpAny (model P w) A (call (.type "set") [.ref l]) Q E s := by
  have hlen : items.size = ns.length := by
    have z := IntsAre.length hit
    rwa [Array.length_toList] at z
  obtain ⟨c, tl, hmro⟩ := F.called_set.mro
  have hmade := F.called_set.made
  have hsub := F.called_set.sub
  have nt := F.called_set.notType
  have cc := F.called_set.canCreate
  have ct := F.typeCall_set_1 (.ref l)
  refine wpAny_call (codeAny_of_tree ?_)
  show wpAny _ _ (callAny (.type "set") _) _ _ _
  refine wpAny_pure ⟨Code.quiet_builtin _ (by decide +kernel), codeAny_builtin F.entry_type_call ?_⟩
  rw [Around.under_plain (weight_type_call_type "set" [.ref l] []) rfl]
  repeat (any_goals (first | assumption | wp_step))
  refine codeAny_mono (code_set_led1 (.ref l) (E := E) (Q₁ := fun v s₁ => v = .ref s.heap.objs.size ∧ s₁ = { s with heap := s.heap.push (es0 w) }) ⟨rfl, rfl⟩) fun r s₁ hr => ?_
  match r, hr with
  | .error e, hr => exact hr
  | .ok .next, hr => exact hr.elim
  | .ok .brk, hr => exact hr.elim
  | .ok .cont, hr => exact hr.elim
  | .ok (.ret v), hr =>
    obtain ⟨rfl, rfl⟩ := hr
    have hS : (s.heap.push (es0 w)).get? s.heap.objs.size = some (es0 w) := Heap.get?_push_size _ rfl
    have hT : Shared.TypeIs { s with heap := s.heap.push (es0 w) } (.ref s.heap.objs.size) "set" := ⟨_, hS, rfl⟩
    have li := F.called_set.init.lookup
    have bi := F.called_set.init.bind (.ref s.heap.objs.size)
    repeat (any_goals (first | assumption | wp_step))
    refine codeAny_mono (codeAny_call_builtin (R := wants (fun r s₂ => r = .none ∧ ∃ h' tk c, s₂ = { s with heap := h', toks := tk } ∧ Made w s ns h' c) E) F.called_set.init.plain F.entry_set_init (check_set_init_1 hT ?_)) fun r₂ s₂ hr₂ => ?_
    · obtain ⟨ol, hol, hcl, hdc, nl, hdl⟩ : ∃ ol, s.heap.get? l = some ol ∧ ol.cls = .type "list" ∧ True ∧ ∃ nl, ol.data = .seq items nl := by
        obtain ⟨ol, a1, a2, nl, a3⟩ := hl
        exact ⟨ol, a1, a2, trivial, nl, a3⟩
      obtain ⟨oc, od, odt, osl⟩ := ol
      simp only at hcl hdl
      subst hcl
      subst hdl
      have hol' : (s.heap.push (es0 w)).get? l = some { cls := .type "list", dict := od, data := .seq items nl, slots := osl } := Heap.get?_push_of_some _ hol
      have n1 := F.sub_list_set
      have n2 := F.sub_list_frozenset
      have n3 : (Value.type "list" == Value.type "dict") = false := by decide
      have hl1 : (s.heap.push (es0 w)).IsList l items := ⟨_, hol', rfl, nl, rfl⟩
      unfold Builtin.«set.__init__» noKeywords Builtin.Frozenset.updateFrom
      generalize hPI : pyIter = PI
      wp_walk
      subst hPI
      refine wpAny_pyIter_list hl1 ?_
      refine wpAny_bind (wpAny_runValue ?_)
      have llt : l < s.heap.objs.size := Heap.lt_size hol
      have hz : (s.heap.push (es0 w)).objs.size = s.heap.objs.size + 1 := Heap.size_push ..
      have lne : l ≠ (s.heap.push (es0 w)).objs.size := by rw [hz]; exact Nat.ne_of_lt (Nat.lt_succ_of_lt llt)
      have sfar : s.heap.objs.size ∉ [(s.heap.push (es0 w)).objs.size, l] := by
        rw [hz]
        simp only [List.mem_cons, List.not_mem_nil, or_false, not_or]
        exact ⟨Nat.ne_of_lt (Nat.lt_succ_self _), Nat.ne_of_gt llt⟩
      have vals : ∀ (i : Nat) (v : Value), items[i]? = some v → ∃ k t, ns[i]? = some k ∧ v = .int k t := fun i v hv => by
        have hi : i < ns.length := by rw [← hlen]; exact (Array.getElem?_eq_some_iff.mp hv).1
        obtain ⟨t, e⟩ := PyProof.Rows.IntsAre.int_at hit i v (by rw [Array.getElem?_toList]; exact hv)
        have e2 : ns.getD i 0 = ns[i] := by rw [List.getD_eq_getElem?_getD, List.getElem?_eq_getElem hi]; rfl
        exact ⟨ns[i], t, List.getElem?_eq_getElem hi, by rw [e, e2]⟩
      have h3 : A.in1.in1.in1.handled = none := by simp [hh]
      refine set_update_ints ((Walks.list h3 _ l lne items).toS) s.heap.objs.size sfar ns hlen hb vals (items.size - 0) 0 _ (by omega) (Nat.zero_le _) ⟨⟨_, Heap.get?_push_size _ rfl, rfl, rfl⟩, hl1.push _⟩ ?_ ?_
      · exact ⟨0, Nat.le_refl 0, setR_new_at (Heap.get?_push_of_some _ hS)⟩
      · intro s' c' hm hc' hS'
        obtain ⟨h', g2, d', tk', os'⟩ := s'
        have eg : g2 = s.gens := hm.gens
        have ed : d' = s.drawn := hm.drawn
        have eo : os' = s.os := hm.os
        subst eg; subst ed; subst eo
        show wpAny _ _ _ _ _ _
        refine wpAny_pure ?_
        show wpAny _ _ (ret Value.none) _ _ _
        rw [hlen] at hc'
        refine wpAny_pure ⟨rfl, h', tk', c', rfl, hS', hc', fun b o e => ?_⟩
        have b0 : b < s.heap.objs.size := Heap.lt_size e
        refine hm.heap b o ?_ (Heap.get?_push_of_some _ (Heap.get?_push_of_some _ e))
        simp only [List.mem_cons, List.mem_singleton, List.not_mem_nil, or_false, not_or]
        exact ⟨Nat.ne_of_lt b0, by rw [hz]; exact Nat.ne_of_lt (Nat.lt_succ_of_lt b0)⟩
    · match r₂, hr₂ with
      | .error e, z => exact z
      | .ok .next, z => exact z.elim
      | .ok .brk, z => exact z.elim
      | .ok .cont, z => exact z.elim
      | .ok (.ret v), z =>
        obtain ⟨rfl, h', tk, c', rfl, m⟩ := z
        repeat (any_goals (first | assumption | wp_step))
        exact k _ _ _ m
end
end VSS
/-! VS11: sorted(set(xs)); the least and the greatest of pairs. -/
namespace VS
open PySem PySem.Spec L2
section
variable {X : Cx}
def rSetL (w : World) (K : PySem.W.Frag) : List V → Hp → VK → Prop := fun xs H Q => ∃ (a : Addr) (ns : List Int), xs = [.ref a] ∧ SqL K H a (ns.map V.int) ∧ ns.length < 60 ∧
  ∀ p c, H p = none → c ≤ ns.length → Q (.ref p) (upd H p (SetO w p (fun j => decide (j ∈ ns)) c))
/-- set(xs), xs a list of a few ints -/
theorem call_setL (hc : X.calm = true) : CallR X (.type "set") (rSetL X.w X.K) := by
  intro pins s σ H xs us Q I r h
  obtain ⟨a, ns, rfl, hq, hl, k⟩ := h
  obtain ⟨u, rfl, ru⟩ := vals1 r
  cases ru
  obtain ⟨its, rv, pl, hz⟩ := I.list hq
  refine VSS.set_of_list ns (I.ok.hd hc) pl.isList (by simpa using rv.ints) (by unfold scanBound; omega) fun h' tk c m => ?_
  have I2 : Inv X pins σ (upd H s.heap.objs.size (SetO X.w s.heap.objs.size (fun j => decide (j ∈ ns)) c)) { s with heap := h', toks := tk } := I.laid m.kept (Nat.le_refl _) (setO_new m.set)
  exact ⟨.ref s.heap.objs.size, _, I2, rfl, k _ c I.fresh m.few⟩
/-- the ints of a row, each once, rising -/
def insU (n : Int) : List Int → List Int
  | [] => [n]
  | m :: ms => if n < m then n :: m :: ms else if n = m then m :: ms else m :: insU n ms
def srtU (ns : List Int) : List Int := ns.foldr insU []
theorem mem_insU (n k : Int) : ∀ ms : List Int, k ∈ insU n ms ↔ k = n ∨ k ∈ ms
  | [] => by simp [insU]
  | m :: ms => by
    unfold insU
    split
    · simp
    · split
      · rename_i h; subst h; simp
      · rw [List.mem_cons, mem_insU n k ms, List.mem_cons]
        constructor
        · rintro (h | h | h)
          · exact .inr (.inl h)
          · exact .inl h
          · exact .inr (.inr h)
        · rintro (h | h | h)
          · exact .inr (.inl h)
          · exact .inl h
          · exact .inr (.inr h)
theorem insU_up (n : Int) : ∀ ms : List Int, ms.Pairwise (· < ·) → (insU n ms).Pairwise (· < ·)
  | [], _ => by simp [insU]
  | m :: ms, h => by
    unfold insU
    have h1 := (List.pairwise_cons.mp h).1
    have h2 := (List.pairwise_cons.mp h).2
    split
    · rename_i hn
      refine List.pairwise_cons.mpr ⟨fun k hk => ?_, h⟩
      rcases List.mem_cons.mp hk with rfl | hk
      · exact hn
      · have := h1 k hk; omega
    · split
      · exact h
      · refine List.pairwise_cons.mpr ⟨fun k hk => ?_, insU_up n ms h2⟩
        rcases (mem_insU n k ms).mp hk with rfl | hk
        · omega
        · exact h1 k hk
theorem mem_srtU (k : Int) (ns : List Int) : k ∈ srtU ns ↔ k ∈ ns := by
  unfold srtU
  induction ns with
  | nil => simp
  | cons n ns ih => rw [List.foldr_cons, mem_insU, ih, List.mem_cons]
theorem srtU_up (ns : List Int) : (srtU ns).Pairwise (· < ·) := by
  unfold srtU
  induction ns with
  | nil => exact .nil
  | cons n ns ih => exact insU_up n _ ih
theorem up_uniq {a b : List Int} (ha : a.Pairwise (· < ·)) (hb : b.Pairwise (· < ·)) (h : ∀ k, k ∈ a ↔ k ∈ b) : a = b := by
  have na : a.Nodup := ha.imp fun h e => by omega
  have nb : b.Nodup := hb.imp fun h e => by omega
  refine List.Perm.eq_of_pairwise (fun x y _ _ h1 h2 => by omega) ha hb ((List.perm_ext_iff_of_nodup na nb).mpr h)
def gSortSet : D → Option (D × Nat)
  | .lst ds => match intsOf ds with
    | some ns => if ns.length < 60 then some (.lst ((srtU ns).map .int), 1) else none
    | none => none
  | _ => none
variable {W : WX} {pos p p2 q2 : Pos} {a : Expr} {fa : Ev}
/-- sorted(set(xs)) -/
theorem se_sortset (hc : X.calm = true) (ha : SE X W a fa) (hg : Gl X "sorted") (hm : X.mg "sorted" = none) (hg2 : Gl X "set") (hm2 : X.mg "set" = none)
    (he : starEach [a] X.env = (false, eval a X.env) :: starEach [] X.env := by rfl) (he2 : starEach [.Call (.Name "set" p2) [a] [] q2] X.env = (false, eval (.Call (.Name "set" p2) [a] [] q2) X.env) :: starEach [] X.env := by rfl)
    (hpl : (backTo q2 (starEach [] X.env)).any (·.1) = false := by rfl) (hpl2 : (backTo pos (starEach [] X.env)).any (·.1) = false := by rfl) : SE X W (.Call (.Name "sorted" p) [.Call (.Name "set" p2) [a] [] q2] [] pos) (op1 gSortSet fa) := by
  refine PE.imp (pe_callB (cr_sortedSet hc) hg hm (by decide +kernel) (pa_cons (pe_callTy (call_setL hc) hg2 hm2 PyProof.Rows.boot_set (pa_cons ha pa_nil he) (by decide) (by decide) he hpl) pa_nil he2) (by decide) (by decide) he2 hpl2) fun σ H Q ⟨Z, F, sd, ok, h⟩ => ?_
  unfold op1 at h
  refine eP.seq (G := fun _ _ => True) ok (fun w1 sd1 e1 y Z1 H1 ry ok1 x1 => ?_) (fun x sd1 e2 => ?_) (fun e2 => ?_)
  · rw [e1, R.bind_ok] at h
    cases eg : gSortSet w1.1 with
    | none => rw [eg] at h; exact h.elim
    | some w =>
      rw [eg, lift_some] at h
      unfold gSortSet at eg
      split at eg
      · rename_i ds ed
        split at eg
        · rename_i ns en
          obtain ⟨hl, rfl⟩ := ite_some eg
          rw [ed] at ry
          have es := intsOf_some en
          subst es
          generalize e0 : ([] : List Addr) = o0 at ry
          cases ry with
          | lst0 z hh r =>
            have ev := r.ints
            subst ev
            refine ⟨_, ns, rfl, .of hh, hl, fun p1 c hp1 hcl => ?_⟩
            have g1 : Gr Z1 H1 Z1 (upd H1 p1 (SetO X.w p1 (fun j => decide (j ∈ ns)) c)) [] :=
              ⟨fun b u e => by rw [upd_ne (ne_of_none e hp1)]; exact e, fun _ z => z, fun _ z => .inl z, fun _ m => absurd m List.not_mem_nil, .nil⟩
            refine ⟨p1, _, c, rfl, upd_same, by omega, fun out pp hup hmem hlen hnone => ?_⟩
            have eo : out = srtU ns := up_uniq hup (srtU_up ns) fun k => by rw [hmem k, mem_srtU]; exact decide_eq_true_iff
            subst eo
            have ok2 := (g1.ok ok1).less (F' := F) fun _ z => .inl z
            exact eP.fin h (x1.trans (g1.ext ok1.base)) ok2 (Gr.cell ok2.base.z hnone) (.lstS (o := []) upd_same (RpAll.of_ints _))
        · cases eg
      · cases eg
  · rw [e2] at h; exact h
  · rw [e2] at h; exact h
end
/-! ### min of pairs -/
def prPy (p : Int × Int) : PyData := .tuple [.int p.1, .int p.2]
def lexLt2 (p q : Int × Int) : Bool := decide (p.1 < q.1 ∨ (p.1 = q.1 ∧ p.2 < q.2))
def minP (p : Int × Int) (ps : List (Int × Int)) : Int × Int := ps.foldl (fun a y => if lexLt2 y a then y else a) p
theorem minD_pairs : ∀ (ps : List (Int × Int)) (p : Int × Int), PySem.W.minD (prPy p) (ps.map prPy) = prPy (minP p ps)
  | [], _ => rfl
  | q :: ps, p => by
    have e : PySem.W.dataLt (prPy q) (prPy p) = lexLt2 q p := PySem.W.dataLt_ii _ _ _ _
    have ih := minD_pairs ps (if lexLt2 q p then q else p)
    unfold PySem.W.minD minP at ih ⊢
    rw [List.map_cons, List.foldl_cons, List.foldl_cons, e, ← ih]
    split <;> rfl
theorem prPy_inj {p q : Int × Int} (h : prPy p = prPy q) : p = q := by
  unfold prPy at h
  injection h with h
  injection h with h1 h
  injection h with h2 _
  injection h1 with h1
  injection h2 with h2
  exact Prod.ext h1 h2
theorem alike_pairs (ps : List (Int × Int)) : PySem.W.AlikeAll (ps.map prPy) := by
  refine ⟨fun x hx y hy => ?_, fun x hx => ?_⟩
  · obtain ⟨p, _, rfl⟩ := List.mem_map.mp hx
    obtain ⟨q, _, rfl⟩ := List.mem_map.mp hy
    simp [prPy, PySem.W.alike, PySem.W.alikeAll]
  · obtain ⟨p, _, rfl⟩ := List.mem_map.mp hx
    simp [prPy]
theorem depth_pairs : ∀ ps : List (Int × Int), PyData.depthAll (ps.map prPy) ≤ 1
  | [] => by simp [PyData.depthAll]
  | p :: ps => by
    have := depth_pairs ps
    simp only [List.map_cons, PyData.depthAll, prPy, PyData.depth]
    omega
section
variable {X : Cx}
def rMinP (K : PySem.W.Frag) : List V → Hp → VK → Prop := fun vs H Q => ∃ (a : Addr) (xs : List V) (p : Int × Int) (ps : List (Int × Int)), vs = [V.ref a] ∧ SqL K H a xs ∧ DpAll K H xs ((p :: ps).map prPy) ∧ ∀ (i : Nat) v, xs[i]? = some v → (p :: ps)[i]? = some (minP p ps) → Q v H
theorem cr_minP (hc : X.calm = true) (hu : X.A.units + 64 < cLine) : CallR X (.builtin "min") (rMinP X.K) := by
  intro pins s σ H vs us Q I r h
  obtain ⟨a, xs, p, ps, rfl, hs, hd, k⟩ := h
  obtain ⟨its, rv, pl, hz⟩ := I.list hs
  rw [Vals.ref1 r]
  obtain ⟨as, hr⟩ := Dp.readsAll I _ _ its hd rv
  have hr' : ReadsAll s.heap its.toArray.toList (prPy p :: ps.map prPy) as := by simpa using hr
  have hn : its.toArray.size = (ps.map prPy).length + 1 := PySem.W.readsAll_len hr'
  have hdep := depth_pairs (p :: ps)
  refine call_min_walkH (PySem.W.iter_listW (A := X.A.in1) (I.ok.hd hc) pl.isList fun s₂ e Wk st hfp hw hk => ?_)
  refine ⟨_, _, _, _, _, _, _, s.heap, _, rfl, Wk, st, hfp, by omega, hw, hk, PySem.W.cmpIn_lt (A := X.A.in1) hr' (alike_pairs (p :: ps)) ?_, fun v s' hP m => ?_⟩
  · show X.A.units + 1 + _ < _
    have : PyData.depthAll (prPy p :: ps.map prPy) ≤ 1 := hdep
    omega
  obtain ⟨h', tk, rfl, hk'⟩ := PySem.W.moved_old e rfl m
  have e1 : its.toArray.size - 1 = (ps.map prPy).length := by omega
  have e2 := PySem.W.argBest_fold PySem.W.dataLt PyData.none (prPy p) (ps.map prPy) (ps.map prPy).length (Nat.le_refl _)
  rw [e1] at hP
  generalize argBest (fun i j => PySem.W.dataLt ((prPy p :: ps.map prPy).getD i .none) ((prPy p :: ps.map prPy).getD j .none)) (ps.map prPy).length = j at hP e2
  obtain ⟨hj, e2⟩ := e2
  rw [List.take_length] at e2
  have hjl : j < (p :: ps).length := by rw [List.length_map] at hj; simp only [List.length_cons]; omega
  have e3 : (prPy p :: ps.map prPy).getD j .none = prPy (p :: ps)[j] := by
    rw [List.getD_eq_getElem?_getD, ← List.map_cons (f := prPy), List.getElem?_map, List.getElem?_eq_getElem hjl]
    rfl
  rw [e3] at e2
  have e4 : (p :: ps)[j] = minP p ps := by
    refine prPy_inj (e2.trans ?_)
    have := minD_pairs ps p
    unfold PySem.W.minD at this
    exact this
  have hP' : its[j]? = some v := by simpa using hP
  have hjx : j < xs.length := by
    rw [rv.length]
    exact (List.getElem?_eq_some_iff.mp hP').1
  obtain ⟨u, hu1, hu2⟩ := rv.get (List.getElem?_eq_getElem hjx)
  rw [hP'] at hu1
  cases hu1
  refine ⟨xs[j], H, I.kept (t' := tk) hk', hu2, k j _ (List.getElem?_eq_getElem hjx) ?_⟩
  rw [List.getElem?_eq_getElem hjl, e4]
def gMinE : List D → Option (D × Nat)
  | [.lst ds] => match intsOf ds with
    | some (n :: ns) => some (.int (ns.foldl min n), 0)
    | some [] => none
    | none => match pairsOf ds with
      | some (p :: ps) => some (prD (minP p ps), 0)
      | _ => none
  | [.int i, .int j] => some (.int (min i j), 0)
  | _ => none
theorem toPy_pr (p : Int × Int) : toPy (prD p) = some (prPy p) := by simp [prD, prPy, toPy, toPys]
theorem toPys_pr : ∀ ps : List (Int × Int), toPys (ps.map prD) = some (ps.map prPy)
  | [] => rfl
  | p :: ps => by simp [toPys, toPy_pr, toPys_pr ps]
theorem vr_minE {K : PySem.W.Frag} : VrN K (fun xs H Q => (rMin K xs H Q ∨ ∃ i j, xs = [.int i, .int j] ∧ Q (.int (if j < i then j else i)) H) ∨ rMinP K xs H Q) gMinE := by
  intro Z H xs ds w Q hz ra eg k
  by_cases h : gMin ds = some w
  · exact .inl (vr_min Z H xs ds w Q hz ra h k)
  · unfold gMinE at eg
    split at eg
    · rename_i ds
      split at eg
      · rename_i n ns e
        exact absurd (by simp only [gMin, gMin1, e]; exact eg) h
      · cases eg
      · rename_i e
        split at eg
        · rename_i p ps e2
          cases eg
          refine .inr ?_
          cases xs with
          | nil => have := ra.length; cases this
          | cons x xs =>
            obtain ⟨r1, r2⟩ := ra.uncons
            cases xs with
            | cons _ _ => have := r2.length; cases this
            | nil =>
              have e3 := pairsOf_some e2
              subst e3
              generalize e0 : ([] : List Addr) = o0 at r1
              cases r1 with
              | lst0 z hh r =>
                refine ⟨_, _, p, ps, rfl, .of hh, r.dp (toPys_pr _), fun i v hv hi => Gr.q k ?_⟩
                obtain ⟨d, e4, rd⟩ := r.get2 hv
                rw [List.getElem?_map, hi] at e4
                cases e4
                exact rd
        · cases eg
    · exact absurd (by unfold gMin gMin2; exact eg) h
    · cases eg
theorem cMinE (hc : X.calm = true) (hu : X.A.units + 64 < cLine) : CallR X (.builtin "min") (fun xs H Q => (rMin X.K xs H Q ∨ ∃ i j, xs = [.int i, .int j] ∧ Q (.int (if j < i then j else i)) H) ∨ rMinP X.K xs H Q) := (cMin hc).or (cr_minP hc hu)
end
end VS
/-! VS12: calls that borrow: an owned row is handed over, only looked at, and is owned behind the call. -/
namespace VS
open PySem PySem.Spec L2
/-- an argument: a value, or the name at slot i that is only lent -/
inductive Ag where
  | w (x : D × Nat)
  | b (i : Nat)
abbrev Eb := SD → R (List Ag)
def bNil : Eb := fun sd => .ok [] sd
def bFz (f : Ev) (fs : Eb) : Eb := fun sd => (f sd).bind fun x sd1 => (fs sd1).bind fun xs sd2 => .ok (.w (x.1, 0) :: xs) sd2
def bMv (f : Ev) (fs : Eb) : Eb := fun sd => (f sd).bind fun x sd1 => (fs sd1).bind fun xs sd2 => .ok (.w x :: xs) sd2
def bBr (i : Nat) (fs : Eb) : Eb := fun sd => match sd[i]? with
  | some (some _) => (fs sd).bind fun xs sd2 => .ok (.b i :: xs) sd2
  | _ => .stuck
def rsv (sd : SD) : List Ag → Option (List (D × Nat))
  | [] => some []
  | .w x :: r => (rsv sd r).map fun l => x :: l
  | .b i :: r => match sd[i]? with
    | some (some (d, _)) => (rsv sd r).map fun l => (d, 0) :: l
    | _ => none
/-- the result holds nothing of what was lent -/
def okR : D → Nat → Bool
  | .non, _ => true
  | .bl _, _ => true
  | .int _, _ => true
  | .str _, _ => true
  | .lst ds, k + 1 => ds.all scD
  | _, _ => false
def calB (n : Nat) (f : Fn) (dfl : List D) (fs : Eb) : Ev := fun sd => (fs sd).bind fun ags sd1 => match rsv sd1 ags with
  | some xs => if (xs.length + dfl.length == n) = true then match f (xs ++ dfl.map fun d => (d, 0)) with
    | .ok w => if okR w.1 w.2 then .ok w sd1 else .stuck
    | _ => .stuck else .stuck
  | none => .stuck
inductive AgS (K : PySem.W.Frag) (Z : Pz) (H : Hp) (σ : St) : List V → List Ag → List Addr → Prop
  | nil : AgS K Z H σ [] [] []
  | w {v : V} {d : D} {k : Nat} {vs : List V} {as : List Ag} {o p : List Addr} : Rp K Z H v d k o → AgS K Z H σ vs as p → AgS K Z H σ (v :: vs) (.w (d, k) :: as) (o ++ p)
  | b {v : V} {i : Nat} {vs : List V} {as : List Ag} {p : List Addr} : σ[i]? = some (some v) → AgS K Z H σ vs as p → AgS K Z H σ (v :: vs) (.b i :: as) p
section
variable (K : PySem.W.Frag) (mg : Mg) (W : WX)
def argB (Z F : Pz) (σ : St) (H : Hp) (r : R (List Ag)) (Q : List V → Hp → Prop) : Prop := match r with
  | .ok ws sd' => ∀ vs Z' H' o, AgS K Z' H' σ vs ws o → o.Nodup → (∀ a ∈ o, ¬ F a) → Ok K Z' (uni F o) H' σ sd' → Ext F Z H Z' H' → Q vs H'
  | .exc x sd' => excP K mg W Z F σ H x sd'
  | .stuck => False
def tB (f : Eb) : TA := fun σ H Q => ∃ Z F sd, Ok K Z F H σ sd ∧ argB K mg W Z F σ H (f sd) Q
end
def SGb (X : Cx) (W : WX) (es : List Expr) (f : Eb) : Prop := PA X es (tB X.K X.mg W f)
theorem Slots.frz {K : PySem.W.Frag} {Z Z' : Pz} {H : Hp} {σ : St} {sd : SD} {o : List Addr} (h : Slots K Z H σ sd o) (hz : ∀ a, Z a → Z' a) (ho : ∀ a ∈ o, Z' a) {i : Nat} {d : D} {k : Nat} {v : V} (e : sd[i]? = some (some (d, k))) (ev : σ[i]? = some (some v)) : Rp K Z' H v d 0 [] := by
  obtain ⟨v', p, q, e1, r, s, pm⟩ := h.take e
  rw [ev] at e1
  cases e1
  exact r.freeze hz fun a m => ho a (pm.mem_iff.mp (List.mem_append_left _ m))
/-- the arguments are resolved -/
theorem AgS.res {K : PySem.W.Frag} {Z Z' : Pz} {H : Hp} {σ : St} {sd : SD} {ow : List Addr} (hs : Slots K Z H σ sd ow) (hz : ∀ a, Z a → Z' a) (ho : ∀ a ∈ ow, Z' a) {vs : List V} {as : List Ag} {o : List Addr} (h : AgS K Z H σ vs as o) {xs : List (D × Nat)} (e : rsv sd as = some xs) :
    Slots K Z' H (vs.map some) (xs.map some) o := by
  induction h generalizing xs with
  | nil => cases e; exact .nil
  | w r _ ih =>
    unfold rsv at e
    obtain ⟨l, e1, e2⟩ := Option.map_eq_some_iff.mp e
    subst e2
    exact .cons (r.keep (fun a z => ⟨hz a z, rfl⟩) fun _ _ => rfl) (ih e1)
  | b ev _ ih =>
    unfold rsv at e
    split at e
    · rename_i d k ei
      obtain ⟨l, e1, e2⟩ := Option.map_eq_some_iff.mp e
      subst e2
      exact .cons (o := []) (hs.frz hz ho ei ev) (ih e1)
    · cases e
theorem rp_sc {K : PySem.W.Frag} {Z Z' : Pz} {H H' : Hp} {v : V} {d : D} (k : Nat) (h : scD d = true) {j : Nat} {o : List Addr} (r : Rp K Z H v d j o) : Rp K Z' H' v d k [] ∧ o = [] := by
  cases r <;> first | (simp [scD] at h; done) | exact ⟨by constructor, rfl⟩
theorem rpAll_sc {K : PySem.W.Frag} {Z Z' : Pz} {H H' : Hp} {vs : List V} {ds : List D} (k : Nat) (h : ds.all scD = true) {j : Nat} {o : List Addr} (r : RpAll K Z H vs ds j o) : RpAll K Z' H' vs ds k [] ∧ o = [] := by
  induction vs generalizing ds o with
  | nil => cases r; exact ⟨.nil _, rfl⟩
  | cons v vs ih =>
    cases r with
    | cons r1 r2 =>
      rw [List.all_cons, Bool.and_eq_true] at h
      obtain ⟨q1, e1⟩ := rp_sc (Z' := Z') (H' := H') k h.1 r1
      obtain ⟨q2, e2⟩ := ih h.2 r2
      refine ⟨.cons (o := []) (p := []) q1 q2, ?_⟩
      rw [e1, e2]; rfl
theorem okR_rp {K : PySem.W.Frag} {Z Z' : Pz} {H : Hp} {v : V} {d : D} {k : Nat} {o : List Addr} (h : okR d k = true) (r : Rp K Z H v d k o) : Rp K Z' H v d k o := by
  cases r with
  | non => constructor
  | bl => constructor
  | int => constructor
  | str => constructor
  | lstS e q =>
    obtain ⟨q1, e1⟩ := rpAll_sc (Z' := Z') (H' := H) _ h q
    subst e1
    exact .lstS e q1
  | _ => cases h
section
variable {X : Cx} {W : WX} {pos p q : Pos} {a b c : Expr} {es : List Expr} {fa fb : Ev} {fs : Eb}
theorem sgb_nil : SGb X W [] bNil := PA.imp pa_nil fun σ H Q ⟨Z, F, sd, ok, h⟩ => h [] Z H [] .nil .nil (fun _ m => absurd m List.not_mem_nil) ok.unnil .refl
theorem AgS.keep {K : PySem.W.Frag} {Z Z' : Pz} {H H' : Hp} {σ : St} {vs : List V} {as : List Ag} {o : List Addr} (hz : ∀ a, Z a → Z' a ∧ H' a = H a) (ho : ∀ a ∈ o, H' a = H a) (h : AgS K Z H σ vs as o) : AgS K Z' H' σ vs as o := by
  induction h with
  | nil => exact .nil
  | w r _ ih => exact .w (r.keep hz fun a m => ho a (List.mem_append_left _ m)) (ih fun a m => ho a (List.mem_append_right _ m))
  | b e _ ih => exact .b e (ih ho)
theorem sgb_fz (ha : SE X W a fa) (hs : SGb X W es fs) (hst : starEach (a :: es) X.env = (false, eval a X.env) :: starEach es X.env := by rfl) : SGb X W (a :: es) (bFz fa fs) := by
  refine PA.imp (pa_cons ha hs hst) fun σ H Q ⟨Z, F, sd, ok, h⟩ => ?_
  unfold bFz at h
  refine eP.seq (G := fun _ _ => True) ok (fun w sd1 e y Z1 H1 r ok1 x1 => ?_) (fun x sd1 e => ?_) (fun e => ?_)
  · rw [e, R.bind_ok] at h
    refine ⟨Z1, F, sd1, ok1, ?_⟩
    cases e2 : fs sd1 with
    | ok ws sd2 =>
      rw [e2, R.bind_ok] at h
      intro vs Z2 H2 o s nd nf ok2 x2
      exact h (y :: vs) Z2 H2 o (.w (o := []) (r.keep x2.z fun a m => absurd m List.not_mem_nil) s) nd nf ok2 (x1.trans x2)
    | exc x sd2 => rw [e2] at h; exact excP.go0 h x1
    | stuck => rw [e2] at h; exact h
  · rw [e] at h; exact h
  · rw [e] at h; exact h
theorem sgb_mv (ha : SE X W a fa) (hs : SGb X W es fs) (hst : starEach (a :: es) X.env = (false, eval a X.env) :: starEach es X.env := by rfl) : SGb X W (a :: es) (bMv fa fs) := by
  refine PA.imp (pa_cons ha hs hst) fun σ H Q ⟨Z, F, sd, ok, h⟩ => ?_
  unfold bMv at h
  refine eP.seqO ok (fun w sd1 e y Z1 H1 o1 r nd1 nf1 ok1 x1 => ?_) (fun x sd1 e => ?_) (fun e => ?_)
  · rw [e, R.bind_ok] at h
    refine ⟨Z1, uni F o1, sd1, ok1, ?_⟩
    cases e2 : fs sd1 with
    | ok ws sd2 =>
      rw [e2, R.bind_ok] at h
      intro vs Z2 H2 o s nd nf ok2 x2
      refine h (y :: vs) Z2 H2 (o1 ++ o) (.w (r.keep x2.z fun a m => x2.f a (.inr m)) s) ?_ (fun a m => ?_) (ok2.less fun a z => ?_) (x1.trans (x2.mono fun _ z => .inl z))
      · exact List.nodup_append.mpr ⟨nd1, nd, fun a ha b hb e => nf b hb (.inr (e ▸ ha))⟩
      · rcases List.mem_append.mp m with m | m
        · exact nf1 a m
        · exact fun z => nf a m (.inl z)
      · rcases z with z | z
        · exact .inl (.inl z)
        · rcases List.mem_append.mp z with m | m
          · exact .inl (.inr m)
          · exact .inr m
    | exc x sd2 => rw [e2] at h; exact excP.go h x1
    | stuck => rw [e2] at h; exact h
  · rw [e] at h; exact h
  · rw [e] at h; exact h
theorem sgb_br (i : Nat) {x : Str} (hs : SGb X W es fs) (hN : X.N[i]? = some x := by rfl) (hv : Vis X.env.scope x := by first | exact Or.inl rfl | exact Or.inr (Or.inl rfl) | exact Or.inr (Or.inr rfl)) (hd : (x == ("__debug__" : Str)) = false := by decide)
    (hcd : (x == ("__classdict__" : Str)) = false := by decide) (hst : starEach (.Name x p :: es) X.env = (false, eval (.Name x p) X.env) :: starEach es X.env := by rfl) : SGb X W (.Name x p :: es) (bBr i fs) := by
  refine PA.imp (pa_cons (pe_var hN hv hd hcd) hs hst) fun σ H Q ⟨Z, F, sd, ok, h⟩ => ?_
  unfold bBr at h
  split at h
  · rename_i w0 e0
    obtain ⟨v, e1⟩ := ok.slot e0
    refine ⟨v, e1, Z, F, sd, ok, ?_⟩
    cases e2 : fs sd with
    | ok ws sd2 =>
      rw [e2, R.bind_ok] at h
      intro vs Z2 H2 o s nd nf ok2 x2
      exact h (v :: vs) Z2 H2 o (.b e1 s) nd nf ok2 x2
    | exc x sd2 => rw [e2] at h; exact h
    | stuck => rw [e2] at h; exact h
  · exact h.elim
theorem AgS.length {K : PySem.W.Frag} {Z : Pz} {H : Hp} {σ : St} {vs : List V} {as : List Ag} {o : List Addr} (h : AgS K Z H σ vs as o) : vs.length = as.length := by
  induction h with
  | nil => rfl
  | w _ _ ih => rw [List.length_cons, List.length_cons, ih]
  | b _ _ ih => rw [List.length_cons, List.length_cons, ih]
/-- a call that only looks at what it was lent -/
theorem se_callL {x : Str} {k n : Nat} {dfl : List D} {f : Fn} (G : Def X.prog X.w X.K X.mg X.base x k n dfl f) (hr : Room k X.A) (tk : Takes X W) (ha : SGb X W (a :: es) fs) (hg : Gl X x := by rfl) (hdb : (x == ("__debug__" : Str)) = false := by decide)
    (he : starEach (a :: es) X.env = (false, eval a X.env) :: starEach es X.env := by rfl) (hpl : (backTo pos (starEach es X.env)).any (·.1) = false := by rfl) : SE X W (.Call (.Name x p) (a :: es) [] pos) (calB n f dfl fs) := by
  obtain ⟨fa, fd, ps, dvs, ds, h1, h2, h3, h4, h5, h6⟩ := G.ex
  refine PE.imp (pe_callSD h6 hr hg h1 h2 h3 h4 (fun σ => passAt tk σ) ha hdb he hpl) fun σ H Q ⟨Z, F, sd, ok, h⟩ => ?_
  refine ⟨Z, F, sd, ok, ?_⟩
  unfold calB at h
  cases e : fs sd with
  | stuck => rw [e] at h; exact h
  | exc y sd1 => rw [e] at h; exact h
  | ok ags sd1 =>
    rw [e, R.bind_ok] at h
    intro vs Z1 H1 o s nd nf ok1 x1
    obtain ⟨ow, ss, ndw, nfw, b⟩ := ok1.ex
    split at h
    case h_2 => exact h.elim
    rename_i xs ers
    split at h
    case isFalse => exact h.elim
    rename_i hn
    have sx := s.res (Z' := uni Z1 ow) ss (fun _ z => .inl z) (fun _ m => .inr m) ers
    have hlen : (vs ++ dvs).length = n := by
      have q1 := sx.length
      have q2 := (h5 Z1 H1).length
      rw [List.length_map, List.length_map] at q1
      rw [List.length_append, q1, q2]
      exact beq_iff_eq.mp hn
    have no : ∀ a ∈ o, ¬ (a ∈ ow) := fun a m z => nfw a z (.inr m)
    refine ⟨uni Z1 ow, F, xs ++ dfl.map fun d => (d, 0), o, hlen, ?_, nd, nf, ⟨fun a z => ?_, fun a f => ?_⟩, ?_⟩
    · rw [List.map_append, List.map_append]
      have := sx.app (Slots.of_all (h5 (uni Z1 ow) H1))
      rw [List.append_nil] at this
      exact this
    · rcases z with z | z
      · exact b.z a z
      · exact (b.f a (.inr z)).1
    · have hf : uni (uni F o) ow a := .inl f
      refine ⟨(b.f a hf).1, fun z => ?_⟩
      rcases z with z | z
      · exact (b.f a hf).2 z
      · exact nfw a z f
    · cases e2 : f (xs ++ dfl.map fun d => (d, 0)) with
      | ok w =>
        rw [e2] at h
        dsimp only at h
        split at h
        case isFalse => exact h.elim
        rename_i hk
        intro v Z2 H2 o2 r2 nd2 nf2 b2 x2
        have hz : ∀ a, Z1 a → Z1 a ∧ H2 a = H1 a := fun a z => ⟨z, (x2.z a (.inl z)).2⟩
        have no2 : ∀ a ∈ ow, ¬ a ∈ o2 := fun a m z => (b2.f a (.inr z)).2 (x2.z a (.inr m)).1
        refine h v Z1 H2 o2 (okR_rp hk r2) nd2 nf2 ⟨ow, ss.keep hz fun a m => (x2.z a (.inr m)).2, ndw, fun a m z => ?_, fun a z => ?_, fun a f => ?_⟩ (x1.trans ⟨hz, x2.f⟩)
        · rcases z with z | z
          · exact nfw a m (.inl z)
          · exact no2 a m z
        · rw [(hz a z).2]; exact b.z a z
        · rcases f with (f | f) | f
          · exact ⟨(b2.f a (.inl f)).1, fun z => (b.f a (.inl (.inl f))).2 z⟩
          · exact ⟨(b2.f a (.inr f)).1, fun z => (b2.f a (.inr f)).2 (x2.z a (.inl z)).1⟩
          · refine ⟨?_, fun z => (b.f a (.inr f)).2 z⟩
            rw [(x2.z a (.inr f)).2]
            exact (b.f a (.inr f)).1
      | exc y => rw [e2] at h; exact h.elim
      | stuck => rw [e2] at h; exact h.elim
end
end VS
/-! VS13: a slot that is only read from now on is frozen at once. -/
namespace VS
open PySem PySem.Spec L2
def fzS (i : Nat) : Sm := fun sd => match sd[i]? with
  | some (some (d, _)) => .nx (sd.set i (some (d, 0)))
  | _ => .stuck
/-- f, then slot i is frozen -/
def zFrz (i : Nat) (f : Sm) : Sm := fun sd => (f sd).go (fzS i)
section
variable {X : Cx} {W : WX} {st : Stmt} {f : Sm}
theorem ss_frz (i : Nat) (h : SS X W st f) : SS X W st (zFrz i f) := by
  refine PS.imp h fun D σ H ⟨Z, F, sd, ok, q⟩ => ⟨Z, F, sd, ok, ?_⟩
  unfold zFrz at q
  cases e : f sd with
  | nx sd1 =>
    rw [e, O.go_nx] at q
    intro σ' Z' H' ok1 x1
    unfold fzS at q
    split at q
    · rename_i d k ei
      obtain ⟨v, p, e1, r, nd, nf, ok2⟩ := ok1.take ei
      have ok3 := ok2.freeze nf
      have r2 : Rp X.K (uni Z' p) H' v d 0 [] := r.freeze (fun _ z => .inl z) fun _ m => .inr m
      have ok4 := Ok.back (p := []) ok3.unnil r2 .nil (fun _ m => absurd m List.not_mem_nil) e1
      rw [List.set_set] at ok4
      exact q σ' (uni Z' p) H' ok4 (x1.trans .uni)
    · exact q.elim
  | bk sd1 => rw [e, O.go_bk] at q; exact q
  | ct sd1 => rw [e, O.go_ct] at q; exact q
  | rt w sd1 => rw [e, O.go_rt] at q; exact q
  | ex x sd1 => rw [e, O.go_ex] at q; exact q
  | stuck => rw [e, O.go_stuck] at q; exact q.elim
end
end VS
/-! VS14: the semantics evaluated: equations for simp, rules for loops. -/
namespace VS
open PySem PySem.Spec L2

/-! ### slots -/
def gtS (sd : SD) (i : Nat) : Option (D × Nat) := match sd[i]? with
  | some x => x
  | none => none
@[simp] theorem gtS_zero (a : Option (D × Nat)) (l : SD) : gtS (a :: l) 0 = a := eqr rfl
@[simp] theorem gtS_succ (a : Option (D × Nat)) (l : SD) (n : Nat) : gtS (a :: l) (n + 1) = gtS l n := by simp [gtS]
def wS (o : Option (D × Nat)) {α : Type} (y : α) (k : D → Nat → α) : α := match o with
  | some (d, n) => k d n
  | none => y
@[simp] theorem wS_some (d : D) (n : Nat) {α : Type} (y : α) (k : D → Nat → α) : wS (some (d, n)) y k = k d n := eqr rfl

/-! ### the ends of a run -/
def O.fin (o : O) (kn kb kc : SD → FR) : FR := match o with
  | .nx sd => kn sd
  | .rt w _ => .ok w
  | .bk sd => kb sd
  | .ct sd => kc sd
  | .ex x _ => .exc x
  | .stuck => .stuck
section
variable {kn kb kc : SD → FR}
@[simp] theorem O.fin_nx (sd : SD) : (O.nx sd).fin kn kb kc = kn sd := eqr rfl
@[simp] theorem O.fin_rt (w : D × Nat) (sd : SD) : (O.rt w sd).fin kn kb kc = .ok w := eqr rfl
@[simp] theorem O.fin_bk (sd : SD) : (O.bk sd).fin kn kb kc = kb sd := eqr rfl
@[simp] theorem O.fin_ct (sd : SD) : (O.ct sd).fin kn kb kc = kc sd := eqr rfl
@[simp] theorem O.fin_ex (x : Exn) (sd : SD) : (O.ex x sd).fin kn kb kc = .exc x := eqr rfl
@[simp] theorem O.fin_stuck : (O.stuck).fin kn kb kc = .stuck := eqr rfl
@[simp] theorem O.fin_ite {c : Prop} [Decidable c] (a b : O) : (if c then a else b).fin kn kb kc = if c then a.fin kn kb kc else b.fin kn kb kc := by split <;> rfl
end
def seqK (g : Sm) (kn kb kc : SD → FR) : SD → FR := fun sd => (g sd).fin kn kb kc
@[simp] theorem seqK_ap (g : Sm) (kn kb kc : SD → FR) (sd : SD) : seqK g kn kb kc sd = (g sd).fin kn kb kc := eqr rfl
@[simp] theorem O.fin_go (o : O) (g : Sm) (kn kb kc : SD → FR) : (o.go g).fin kn kb kc = o.fin (seqK g kn kb kc) kb kc := by cases o <;> rfl
@[simp] theorem O.go_ite {c : Prop} [Decidable c] (a b : O) (g : SD → O) : (if c then a else b).go g = if c then a.go g else b.go g := by split <;> rfl
@[simp] theorem R.bind_ite {α β : Type} {c : Prop} [Decidable c] (a b : R α) (g : α → SD → R β) : (if c then a else b).bind g = if c then a.bind g else b.bind g := by split <;> rfl
@[simp] theorem R.run_ite {α : Type} {c : Prop} [Decidable c] (a b : R α) (g : α → SD → O) : (if c then a else b).run g = if c then a.run g else b.run g := by split <;> rfl
theorem R.bind_bind {α β γ : Type} (r : R α) (g : α → SD → R β) (h : β → SD → R γ) : (r.bind g).bind h = r.bind fun a sd => (g a sd).bind h := by cases r <;> rfl

def kE (d : D × Nat) : SD → FR := fun _ => .ok d
@[simp] theorem kE_ap (d : D × Nat) (sd : SD) : kE d sd = .ok d := eqr rfl
def kS : SD → FR := fun _ => .stuck
@[simp] theorem kS_ap (sd : SD) : kS sd = .stuck := eqr rfl
def fill (N : Nat) (ws : List (D × Nat)) : SD := ws.map some ++ List.replicate (N - ws.length) none
theorem fnOf_ap (N : Nat) (body : Sm) (ws : List (D × Nat)) : fnOf N body ws = (body (fill N ws)).fin (kE (.non, 0)) kS kS := by
  unfold fnOf
  show (body (fill N ws)).fr = _
  cases body (fill N ws) <;> rfl

/-! ### expressions -/
section
variable (sd : SD)
@[simp] theorem cst_ap (d : D) : cst d sd = .ok (d, 0) sd := eqr rfl
@[simp] theorem rdv_ap (i : Nat) : rdv i sd = wS (gtS sd i) .stuck fun d _ => .ok (d, 0) (sd.set i (some (d, 0))) := by
  unfold rdv gtS wS
  cases e : sd[i]? with
  | none => rfl
  | some x => rcases x with _ | ⟨d, k⟩ <;> rfl
@[simp] theorem mvv_ap (i : Nat) : mvv i sd = wS (gtS sd i) .stuck fun d n => .ok (d, n) (sd.set i none) := by
  unfold mvv gtS wS
  cases e : sd[i]? with
  | none => rfl
  | some x => rcases x with _ | ⟨d, k⟩ <;> rfl
def op1K (g : D → Option (D × Nat)) : D × Nat → SD → R (D × Nat) := fun x sd => lift (g x.1) sd
@[simp] theorem op1K_ap (g : D → Option (D × Nat)) (d : D) (n : Nat) : op1K g (d, n) sd = lift (g d) sd := eqr rfl
@[simp] theorem op1_ap (g : D → Option (D × Nat)) (f : Ev) : op1 g f sd = (f sd).bind (op1K g) := eqr rfl
def op2J (g : D → D → Option (D × Nat)) (x : D) : D × Nat → SD → R (D × Nat) := fun y sd => lift (g x y.1) sd
@[simp] theorem op2J_ap (g : D → D → Option (D × Nat)) (x d : D) (n : Nat) : op2J g x (d, n) sd = lift (g x d) sd := eqr rfl
def op2K (g : D → D → Option (D × Nat)) (f : Ev) : D × Nat → SD → R (D × Nat) := fun x sd => (f sd).bind (op2J g x.1)
@[simp] theorem op2K_ap (g : D → D → Option (D × Nat)) (f : Ev) (d : D) (n : Nat) : op2K g f (d, n) sd = (f sd).bind (op2J g d) := eqr rfl
@[simp] theorem op2_ap (g : D → D → Option (D × Nat)) (f1 f2 : Ev) : op2 g f1 f2 sd = (f1 sd).bind (op2K g f2) := eqr rfl
def opNK (g : List D → Option (D × Nat)) : List D → SD → R (D × Nat) := fun xs sd => lift (g xs) sd
@[simp] theorem opNK_ap (g : List D → Option (D × Nat)) (xs : List D) : opNK g xs sd = lift (g xs) sd := eqr rfl
@[simp] theorem opN_ap (g : List D → Option (D × Nat)) (fs : Ea) : opN g fs sd = (fs sd).bind (opNK g) := eqr rfl
def tstK : D × Nat → SD → R Bool := fun x sd1 => match x.1 with
  | .bl b => .ok b sd1
  | _ => .stuck
@[simp] theorem tstK_bl (b : Bool) (n : Nat) : tstK (.bl b, n) sd = .ok b sd := eqr rfl
@[simp] theorem tst_ap (f : Ev) : tst f sd = (f sd).bind tstK := eqr rfl
def tvK : Bool → SD → R (D × Nat) := fun b sd1 => .ok (.bl b, 0) sd1
@[simp] theorem tvK_ap (b : Bool) : tvK b sd = .ok (.bl b, 0) sd := eqr rfl
@[simp] theorem tv_ap (f : Et) : tv f sd = (f sd).bind tvK := eqr rfl
def tAndK (g : Et) : Bool → SD → R Bool := fun b sd1 => if b then g sd1 else .ok false sd1
@[simp] theorem tAndK_ap (g : Et) (b : Bool) : tAndK g b sd = if b = true then g sd else .ok false sd := eqr rfl
@[simp] theorem tAnd_ap (f g : Et) : tAnd' f g sd = (f sd).bind (tAndK g) := eqr rfl
def tOrK (g : Et) : Bool → SD → R Bool := fun b sd1 => if b then .ok true sd1 else g sd1
@[simp] theorem tOrK_ap (g : Et) (b : Bool) : tOrK g b sd = if b = true then .ok true sd else g sd := eqr rfl
@[simp] theorem tOr_ap (f g : Et) : tOr' f g sd = (f sd).bind (tOrK g) := eqr rfl
def tNotK : Bool → SD → R Bool := fun b sd1 => .ok (!b) sd1
@[simp] theorem tNotK_ap (b : Bool) : tNotK b sd = .ok (!b) sd := eqr rfl
@[simp] theorem tNot_ap (f : Et) : tNot' f sd = (f sd).bind tNotK := eqr rfl
def chnI (g' : D → D → Option (D × Nat)) (y : D) : D × Nat → SD → R Bool := fun z sd3 => match g' y z.1 with
    | some (.bl b, _) => .ok b sd3
    | _ => .stuck
def chn2 (g' : D → D → Option (D × Nat)) (f3 : Ev) (y : D) (o : Option (D × Nat)) : SD → R Bool := fun sd => match o with
  | some (.bl true, _) => (f3 sd).bind (chnI g' y)
  | some (.bl false, _) => .ok false sd
  | _ => .stuck
def chnJ (g g' : D → D → Option (D × Nat)) (f3 : Ev) (x : D) : D × Nat → SD → R Bool := fun y sd2 => chn2 g' f3 y.1 (g x y.1) sd2
def chnK (g g' : D → D → Option (D × Nat)) (f2 f3 : Ev) : D × Nat → SD → R Bool := fun x sd1 => (f2 sd1).bind (chnJ g g' f3 x.1)
def obl (o : Option (D × Nat)) (sd : SD) : R Bool := match o with
    | some (.bl b, _) => .ok b sd
    | _ => .stuck
@[simp] theorem obl_bl (b : Bool) (n : Nat) : obl (some (.bl b, n)) sd = .ok b sd := eqr rfl
@[simp] theorem chnI_ap (g' : D → D → Option (D × Nat)) (y d : D) (n : Nat) : chnI g' y (d, n) sd = obl (g' y d) sd := eqr rfl
@[simp] theorem chn2_ap (g' : D → D → Option (D × Nat)) (f3 : Ev) (y : D) (b : Bool) (n : Nat) : chn2 g' f3 y (some (.bl b, n)) sd = if b = true then (f3 sd).bind (chnI g' y) else .ok false sd := by cases b <;> rfl
@[simp] theorem chnJ_ap (g g' : D → D → Option (D × Nat)) (f3 : Ev) (x d : D) (n : Nat) : chnJ g g' f3 x (d, n) sd = chn2 g' f3 d (g x d) sd := eqr rfl
@[simp] theorem chnK_ap (g g' : D → D → Option (D × Nat)) (f2 f3 : Ev) (d : D) (n : Nat) : chnK g g' f2 f3 (d, n) sd = (f2 sd).bind (chnJ g g' f3 d) := eqr rfl
@[simp] theorem chn_ap (g g' : D → D → Option (D × Nat)) (f1 f2 f3 : Ev) : chn g g' f1 f2 f3 sd = (f1 sd).bind (chnK g g' f2 f3) := by
  unfold chn chnK
  congr
@[simp] theorem aNil_ap : aNil sd = .ok [] sd := eqr rfl
def aConsJ (x : D) : List D → SD → R (List D) := fun xs sd2 => .ok (x :: xs) sd2
@[simp] theorem aConsJ_ap (x : D) (xs : List D) : aConsJ x xs sd = .ok (x :: xs) sd := eqr rfl
def aConsK (fs : Ea) : D × Nat → SD → R (List D) := fun x sd1 => (fs sd1).bind (aConsJ x.1)
@[simp] theorem aConsK_ap (fs : Ea) (d : D) (n : Nat) : aConsK fs (d, n) sd = (fs sd).bind (aConsJ d) := eqr rfl
@[simp] theorem aCons_ap (f : Ev) (fs : Ea) : aCons f fs sd = (f sd).bind (aConsK fs) := eqr rfl
def vAndK (g : Ev) : D × Nat → SD → R (D × Nat) := fun x sd1 => match x.1 with
  | .bl true => g sd1
  | .bl false => .ok (.bl false, 0) sd1
  | _ => .stuck
@[simp] theorem vAndK_bl (g : Ev) (b : Bool) (n : Nat) : vAndK g (.bl b, n) sd = if b = true then g sd else .ok (.bl false, 0) sd := by cases b <;> rfl
@[simp] theorem vAnd_ap (f g : Ev) : vAnd f g sd = (f sd).bind (vAndK g) := eqr rfl
def vOrK (g : Ev) : D × Nat → SD → R (D × Nat) := fun x sd1 => match x.1 with
  | .bl true => .ok (.bl true, 0) sd1
  | .bl false => g sd1
  | _ => .stuck
@[simp] theorem vOrK_bl (g : Ev) (b : Bool) (n : Nat) : vOrK g (.bl b, n) sd = if b = true then .ok (.bl true, 0) sd else g sd := by cases b <;> rfl
@[simp] theorem vOr_ap (f g : Ev) : vOr f g sd = (f sd).bind (vOrK g) := eqr rfl
def vNotK : D × Nat → SD → R (D × Nat) := fun x sd1 => match x.1 with
  | .bl b => .ok (.bl (!b), 0) sd1
  | _ => .stuck
@[simp] theorem vNotK_bl (b : Bool) (n : Nat) : vNotK (.bl b, n) sd = .ok (.bl (!b), 0) sd := eqr rfl
@[simp] theorem vNot_ap (f : Ev) : vNot f sd = (f sd).bind vNotK := eqr rfl
def dTupK : List D → SD → R (D × Nat) := fun ds sd => lift (if ds.length ≤ sizeLine then some (.tup ds, 0) else none) sd
@[simp] theorem dTup_ap (fs : Ea) : dTup fs sd = (fs sd).bind dTupK := eqr rfl
@[simp] theorem dTupK_nil : dTupK [] sd = .ok (.tup [], 0) sd := eqr rfl
@[simp] theorem dTupK_1 (a : D) : dTupK [a] sd = .ok (.tup [a], 0) sd := eqr rfl
@[simp] theorem dTupK_2 (a b : D) : dTupK [a, b] sd = .ok (.tup [a, b], 0) sd := eqr rfl
@[simp] theorem dTupK_3 (a b c : D) : dTupK [a, b, c] sd = .ok (.tup [a, b, c], 0) sd := eqr rfl
def dLstK : List D → SD → R (D × Nat) := fun ds sd => lift (if ds.length ≤ sizeLine then some (.lst ds, 1) else none) sd
@[simp] theorem dLst_ap (fs : Ea) : dLst fs sd = (fs sd).bind dLstK := eqr rfl
theorem dLstK_lt (ds : List D) (h : ds.length ≤ 1000) : dLstK ds sd = .ok (.lst ds, 1) sd := by
  unfold dLstK
  rw [if_pos (Nat.le_trans h (by decide))]
  rfl
@[simp] theorem dLstK_0  : dLstK [] sd = .ok (.lst [], 1) sd := dLstK_lt sd _ (show (0 : Nat) ≤ 1000 by decide)
@[simp] theorem dLstK_1 (a0 : D) : dLstK [a0] sd = .ok (.lst [a0], 1) sd := dLstK_lt sd _ (show (1 : Nat) ≤ 1000 by decide)
@[simp] theorem dLstK_2 (a0 a1 : D) : dLstK [a0, a1] sd = .ok (.lst [a0, a1], 1) sd := dLstK_lt sd _ (show (2 : Nat) ≤ 1000 by decide)
@[simp] theorem dLstK_3 (a0 a1 a2 : D) : dLstK [a0, a1, a2] sd = .ok (.lst [a0, a1, a2], 1) sd := dLstK_lt sd _ (show (3 : Nat) ≤ 1000 by decide)
@[simp] theorem dLstK_4 (a0 a1 a2 a3 : D) : dLstK [a0, a1, a2, a3] sd = .ok (.lst [a0, a1, a2, a3], 1) sd := dLstK_lt sd _ (show (4 : Nat) ≤ 1000 by decide)
@[simp] theorem dLstK_5 (a0 a1 a2 a3 a4 : D) : dLstK [a0, a1, a2, a3, a4] sd = .ok (.lst [a0, a1, a2, a3, a4], 1) sd := dLstK_lt sd _ (show (5 : Nat) ≤ 1000 by decide)
@[simp] theorem dLstK_6 (a0 a1 a2 a3 a4 a5 : D) : dLstK [a0, a1, a2, a3, a4, a5] sd = .ok (.lst [a0, a1, a2, a3, a4, a5], 1) sd := dLstK_lt sd _ (show (6 : Nat) ≤ 1000 by decide)
@[simp] theorem dLstK_7 (a0 a1 a2 a3 a4 a5 a6 : D) : dLstK [a0, a1, a2, a3, a4, a5, a6] sd = .ok (.lst [a0, a1, a2, a3, a4, a5, a6], 1) sd := dLstK_lt sd _ (show (7 : Nat) ≤ 1000 by decide)
@[simp] theorem dLstK_8 (a0 a1 a2 a3 a4 a5 a6 a7 : D) : dLstK [a0, a1, a2, a3, a4, a5, a6, a7] sd = .ok (.lst [a0, a1, a2, a3, a4, a5, a6, a7], 1) sd := dLstK_lt sd _ (show (8 : Nat) ≤ 1000 by decide)
@[simp] theorem dLstK_9 (a0 a1 a2 a3 a4 a5 a6 a7 a8 : D) : dLstK [a0, a1, a2, a3, a4, a5, a6, a7, a8] sd = .ok (.lst [a0, a1, a2, a3, a4, a5, a6, a7, a8], 1) sd := dLstK_lt sd _ (show (9 : Nat) ≤ 1000 by decide)
@[simp] theorem dLstK_10 (a0 a1 a2 a3 a4 a5 a6 a7 a8 a9 : D) : dLstK [a0, a1, a2, a3, a4, a5, a6, a7, a8, a9] sd = .ok (.lst [a0, a1, a2, a3, a4, a5, a6, a7, a8, a9], 1) sd := dLstK_lt sd _ (show (10 : Nat) ≤ 1000 by decide)
@[simp] theorem dLstK_11 (a0 a1 a2 a3 a4 a5 a6 a7 a8 a9 a10 : D) : dLstK [a0, a1, a2, a3, a4, a5, a6, a7, a8, a9, a10] sd = .ok (.lst [a0, a1, a2, a3, a4, a5, a6, a7, a8, a9, a10], 1) sd := dLstK_lt sd _ (show (11 : Nat) ≤ 1000 by decide)
@[simp] theorem dLstK_12 (a0 a1 a2 a3 a4 a5 a6 a7 a8 a9 a10 a11 : D) : dLstK [a0, a1, a2, a3, a4, a5, a6, a7, a8, a9, a10, a11] sd = .ok (.lst [a0, a1, a2, a3, a4, a5, a6, a7, a8, a9, a10, a11], 1) sd := dLstK_lt sd _ (show (12 : Nat) ≤ 1000 by decide)
@[simp] theorem dTupK_4 (a0 a1 a2 a3 : D) : dTupK [a0, a1, a2, a3] sd = .ok (.tup [a0, a1, a2, a3], 0) sd := eqr rfl
@[simp] theorem dTupK_5 (a0 a1 a2 a3 a4 : D) : dTupK [a0, a1, a2, a3, a4] sd = .ok (.tup [a0, a1, a2, a3, a4], 0) sd := eqr rfl
@[simp] theorem dTupK_6 (a0 a1 a2 a3 a4 a5 : D) : dTupK [a0, a1, a2, a3, a4, a5] sd = .ok (.tup [a0, a1, a2, a3, a4, a5], 0) sd := eqr rfl
@[simp] theorem dTupK_7 (a0 a1 a2 a3 a4 a5 a6 : D) : dTupK [a0, a1, a2, a3, a4, a5, a6] sd = .ok (.tup [a0, a1, a2, a3, a4, a5, a6], 0) sd := eqr rfl
@[simp] theorem dTupK_8 (a0 a1 a2 a3 a4 a5 a6 a7 : D) : dTupK [a0, a1, a2, a3, a4, a5, a6, a7] sd = .ok (.tup [a0, a1, a2, a3, a4, a5, a6, a7], 0) sd := eqr rfl
def ixvK (i : Nat) : D × Nat → SD → R (D × Nat) := fun y sd1 => wS (gtS sd1 i) .stuck fun d k => match gIx d y.1 with
      | some w => .ok (w.1, 0) (sd1.set i (some (d, min k 1)))
      | none => .stuck
def ixR (o : Option (D × Nat)) (sd : SD) : R (D × Nat) := match o with
  | some w => .ok (w.1, 0) sd
  | none => .stuck
@[simp] theorem ixR_some (w : D × Nat) : ixR (some w) sd = .ok (w.1, 0) sd := eqr rfl
@[simp] theorem ixvK_ap (i : Nat) (y : D) (n : Nat) : ixvK i (y, n) sd = wS (gtS sd i) .stuck fun d k => ixR (gIx d y) (sd.set i (some (d, min k 1))) := by
  unfold ixvK ixR
  congr
@[simp] theorem ixv_ap (i : Nat) (fb : Ev) : ixv i fb sd = wS (gtS sd i) .stuck fun _ _ => (fb sd).bind (ixvK i) := by
  unfold ixv
  have h : ∀ sd1 : SD, ∀ y : D × Nat, ixvK i y sd1 = match sd1[i]? with
    | some (some (d, k)) => match gIx d y.1 with
      | some w => .ok (w.1, 0) (sd1.set i (some (d, min k 1)))
      | none => .stuck
    | _ => .stuck := fun sd1 y => by
    unfold ixvK gtS wS
    cases e : sd1[i]? with
    | none => rfl
    | some x => rcases x with _ | ⟨d, k⟩ <;> rfl
  have h2 : ixvK i = fun y sd1 => match sd1[i]? with
    | some (some (d, k)) => match gIx d y.1 with
      | some w => .ok (w.1, 0) (sd1.set i (some (d, min k 1)))
      | none => .stuck
    | _ => .stuck := by funext y sd1; exact h sd1 y
  rw [h2]
  unfold gtS wS
  cases e : sd[i]? with
  | none => rfl
  | some x => rcases x with _ | ⟨d, k⟩ <;> rfl
def borR (o : Option (D × Nat)) (sd : SD) : R (D × Nat) := match o with
  | some (e, 0) => if scD e then .ok (e, 0) sd else .stuck
  | _ => .stuck
@[simp] theorem borR_int (i : Int) : borR (some (.int i, 0)) sd = .ok (.int i, 0) sd := eqr rfl
@[simp] theorem borR_bl (i : Bool) : borR (some (.bl i, 0)) sd = .ok (.bl i, 0) sd := eqr rfl
@[simp] theorem bor1_ap (g : D → Option (D × Nat)) (i : Nat) : bor1 g i sd = wS (gtS sd i) .stuck fun d _ => borR (g d) sd := by
  unfold bor1 gtS wS borR
  cases e : sd[i]? with
  | none => rfl
  | some x => rcases x with _ | ⟨d, k⟩ <;> rfl
def bor2K (g : D → D → Option (D × Nat)) (i : Nat) : D × Nat → SD → R (D × Nat) := fun x sd1 => wS (gtS sd1 i) .stuck fun d _ => borR (g x.1 d) sd1
@[simp] theorem bor2K_ap (g : D → D → Option (D × Nat)) (i : Nat) (d : D) (n : Nat) : bor2K g i (d, n) sd = wS (gtS sd i) .stuck fun e _ => borR (g d e) sd := eqr rfl
@[simp] theorem bor2_ap (g : D → D → Option (D × Nat)) (fa : Ev) (i : Nat) : bor2 g fa i sd = (fa sd).bind (bor2K g i) := by
  have : bor2K g i = fun x sd1 => match sd1[i]? with
    | some (some (d, _)) => match g x.1 d with
      | some (e, 0) => if scD e then .ok (e, 0) sd1 else .stuck
      | _ => .stuck
    | _ => .stuck := by
    funext x sd1
    unfold bor2K gtS wS borR
    cases e : sd1[i]? with
    | none => rfl
    | some x => rcases x with _ | ⟨d, k⟩ <;> rfl
  rw [this]; rfl
@[simp] theorem poN_ap : poN sd = .ok none sd := eqr rfl
def poSK : D × Nat → SD → R (Option Int) := fun x sd1 => match x.1 with
  | .int i => .ok (some i) sd1
  | _ => .stuck
@[simp] theorem poSK_ap (i : Int) (n : Nat) : poSK (.int i, n) sd = .ok (some i) sd := eqr rfl
@[simp] theorem poS_ap (f : Ev) : poS f sd = (f sd).bind poSK := eqr rfl
def slJ (x : D) (l : Option Int) : Option Int → SD → R (D × Nat) := fun h sd => lift (gSl x l h) sd
@[simp] theorem slJ_ap (x : D) (l h : Option Int) : slJ x l h sd = lift (gSl x l h) sd := eqr rfl
def slK2 (fh : Eo) (x : D) : Option Int → SD → R (D × Nat) := fun l sd => (fh sd).bind (slJ x l)
@[simp] theorem slK2_ap (fh : Eo) (x : D) (l : Option Int) : slK2 fh x l sd = (fh sd).bind (slJ x l) := eqr rfl
def slK (fl fh : Eo) : D × Nat → SD → R (D × Nat) := fun x sd => (fl sd).bind (slK2 fh x.1)
@[simp] theorem slK_ap (fl fh : Eo) (d : D) (n : Nat) : slK fl fh (d, n) sd = (fl sd).bind (slK2 fh d) := eqr rfl
@[simp] theorem slE_ap (fa : Ev) (fl fh : Eo) : slE fa fl fh sd = (fa sd).bind (slK fl fh) := eqr rfl
/-! ### targets -/
@[simp] theorem gN_ap (i : Nat) (d : D) : gN i d sd = some (sd.set i (some (d, 0))) := eqr rfl
@[simp] theorem gT_tup (gs : List Tg) (ds : List D) : gT gs (.tup ds) sd = gNs gs ds sd := eqr rfl
@[simp] theorem gNs_nil : gNs [] [] sd = some sd := eqr rfl
@[simp] theorem gNs_cons (g : Tg) (gs : List Tg) (d : D) (ds : List D) : gNs (g :: gs) (d :: ds) sd = (g d sd).bind (gNs gs ds) := eqr rfl
/-! ### iterations -/
def iAnyK : D × Nat → SD → R (List D) := fun x sd1 => match x.1 with
  | .lst ds => .ok ds sd1
  | .tup ds => .ok ds sd1
  | _ => .stuck
@[simp] theorem iAny_ap (f : Ev) : iAny f sd = (f sd).bind iAnyK := eqr rfl
@[simp] theorem iAnyK_lst (ds : List D) (n : Nat) : iAnyK (.lst ds, n) sd = .ok ds sd := eqr rfl
@[simp] theorem iAnyK_tup (ds : List D) (n : Nat) : iAnyK (.tup ds, n) sd = .ok ds sd := eqr rfl
def iR1K : D × Nat → SD → R (List D) := fun x sd1 => match x.1 with
  | .int n => if -(2 ^ 62) ≤ n ∧ n < 2 ^ 62 then .ok (rngD 0 n.toNat) sd1 else .stuck
  | _ => .stuck
@[simp] theorem iR1_ap (f : Ev) : iR1 f sd = (f sd).bind iR1K := eqr rfl
theorem iR1K_ok {n : Int} (m : Nat) (h1 : 0 ≤ n) (h2' : n ≤ 1000000) : iR1K (.int n, m) sd = .ok ((List.range n.toNat).map fun (i : Nat) => .int (i : Int)) sd := by
  show (if -(2 ^ 62) ≤ n ∧ n < 2 ^ 62 then R.ok (rngD 0 n.toNat) sd else R.stuck) = _
  have h2 : n < 2 ^ 62 := Int.lt_of_le_of_lt h2' (by decide)
  rw [if_pos ⟨Int.le_trans (by decide) h1, h2⟩]
  unfold rngD
  congr
  funext i
  rw [Int.zero_add]
def iR2J (x : D) : D × Nat → SD → R (List D) := fun y sd2 => match x, y.1 with
  | .int m, .int n => if -(2 ^ 62) ≤ m ∧ m < 2 ^ 62 ∧ -(2 ^ 62) ≤ n ∧ n < 2 ^ 62 then .ok (rngD m (n - m).toNat) sd2 else .stuck
  | _, _ => .stuck
def iR2K (g : Ev) : D × Nat → SD → R (List D) := fun x sd1 => (g sd1).bind (iR2J x.1)
@[simp] theorem iR2K_ap (g : Ev) (d : D) (n : Nat) : iR2K g (d, n) sd = (g sd).bind (iR2J d) := eqr rfl
@[simp] theorem iR2_ap (f g : Ev) : iR2 f g sd = (f sd).bind (iR2K g) := eqr rfl
theorem iR2J_ok {m n : Int} (k : Nat) (h1 : 0 ≤ m) (h2' : m ≤ 1000000) (h3 : 0 ≤ n) (h4' : n ≤ 1000000) : iR2J (.int m) (.int n, k) sd = .ok ((List.range (n - m).toNat).map fun (i : Nat) => .int (m + (i : Int))) sd := by
  show (if -(2 ^ 62) ≤ m ∧ m < 2 ^ 62 ∧ -(2 ^ 62) ≤ n ∧ n < 2 ^ 62 then R.ok (rngD m (n - m).toNat) sd else R.stuck) = _
  have h2 : m < 2 ^ 62 := Int.lt_of_le_of_lt h2' (by decide)
  have h4 : n < 2 ^ 62 := Int.lt_of_le_of_lt h4' (by decide)
  rw [if_pos ⟨Int.le_trans (by decide) h1, h2, Int.le_trans (by decide) h3, h4⟩]
  rfl
def iEnuK : D × Nat → SD → R (List D) := fun x sd1 => match x.1 with
  | .lst ds => .ok (enumFrom 0 ds) sd1
  | .tup ds => .ok (enumFrom 0 ds) sd1
  | _ => .stuck
@[simp] theorem iEnu_ap (f : Ev) : iEnu f sd = (f sd).bind iEnuK := eqr rfl
theorem enumFrom_map {α : Type} (enc : α → D) (l : List α) (j : Nat) : enumFrom j (l.map enc) = (l.zipIdx j).map fun p => .tup [.int (p.2 : Int), enc p.1] := by
  induction l generalizing j with
  | nil => rfl
  | cons a l ih => rw [List.map_cons, enumFrom, ih, List.zipIdx_cons, List.map_cons]
@[simp] theorem iEnuK_lst {α : Type} (enc : α → D) (l : List α) (n : Nat) : iEnuK (.lst (l.map enc), n) sd = .ok (l.zipIdx.map fun p => .tup [.int (p.2 : Int), enc p.1]) sd := by
  rw [← enumFrom_map]; rfl
@[simp] theorem iEnuK_tup {α : Type} (enc : α → D) (l : List α) (n : Nat) : iEnuK (.tup (l.map enc), n) sd = .ok (l.zipIdx.map fun p => .tup [.int (p.2 : Int), enc p.1]) sd := by
  rw [← enumFrom_map]; rfl
/-! ### calls -/
@[simp] theorem gNil_ap : gNil sd = .ok [] sd := eqr rfl
def gJ (x : D × Nat) : List (D × Nat) → SD → R (List (D × Nat)) := fun xs sd => .ok (x :: xs) sd
@[simp] theorem gJ_ap (x : D × Nat) (xs : List (D × Nat)) : gJ x xs sd = .ok (x :: xs) sd := eqr rfl
def gFzK (fs : Eg) : D × Nat → SD → R (List (D × Nat)) := fun x sd1 => (fs sd1).bind (gJ (x.1, 0))
@[simp] theorem gFzK_ap (fs : Eg) (d : D) (n : Nat) : gFzK fs (d, n) sd = (fs sd).bind (gJ (d, 0)) := eqr rfl
@[simp] theorem gFz_ap (f : Ev) (fs : Eg) : gFz f fs sd = (f sd).bind (gFzK fs) := eqr rfl
def gMvK (fs : Eg) : D × Nat → SD → R (List (D × Nat)) := fun x sd1 => (fs sd1).bind (gJ x)
@[simp] theorem gMvK_ap (fs : Eg) (x : D × Nat) : gMvK fs x sd = (fs sd).bind (gJ x) := eqr rfl
@[simp] theorem gMv_ap (f : Ev) (fs : Eg) : gMv f fs sd = (f sd).bind (gMvK fs) := eqr rfl
def calK (n : Nat) (f : Fn) (dfl : List D) : List (D × Nat) → SD → R (D × Nat) := fun xs sd1 => if (xs.length + dfl.length == n) = true then (f (xs ++ dfl.map fun d => (d, 0))).r sd1 else .stuck
@[simp] theorem cal_ap (n : Nat) (f : Fn) (dfl : List D) (fs : Eg) : cal n f dfl fs sd = (fs sd).bind (calK n f dfl) := eqr rfl
@[simp] theorem calK_1 (f : Fn) (a : D × Nat) : calK 1 f [] [a] sd = (f [a]).r sd := eqr rfl
@[simp] theorem calK_2 (f : Fn) (a b : D × Nat) : calK 2 f [] [a, b] sd = (f [a, b]).r sd := eqr rfl
@[simp] theorem calK_3 (f : Fn) (a b c : D × Nat) : calK 3 f [] [a, b, c] sd = (f [a, b, c]).r sd := eqr rfl
@[simp] theorem calK_4 (f : Fn) (a b c d : D × Nat) : calK 4 f [] [a, b, c, d] sd = (f [a, b, c, d]).r sd := eqr rfl
@[simp] theorem calK_5 (f : Fn) (a b c d e : D × Nat) : calK 5 f [] [a, b, c, d, e] sd = (f [a, b, c, d, e]).r sd := eqr rfl
@[simp] theorem calK_6 (f : Fn) (a b c d e g : D × Nat) : calK 6 f [] [a, b, c, d, e, g] sd = (f [a, b, c, d, e, g]).r sd := eqr rfl
@[simp] theorem calK_7 (f : Fn) (a b c d e g h : D × Nat) : calK 7 f [] [a, b, c, d, e, g, h] sd = (f [a, b, c, d, e, g, h]).r sd := eqr rfl
/-! calls that lend -/
@[simp] theorem bNil_ap : bNil sd = .ok [] sd := eqr rfl
def bJ (x : Ag) : List Ag → SD → R (List Ag) := fun xs sd => .ok (x :: xs) sd
@[simp] theorem bJ_ap (x : Ag) (xs : List Ag) : bJ x xs sd = .ok (x :: xs) sd := eqr rfl
def bFzK (fs : Eb) : D × Nat → SD → R (List Ag) := fun x sd1 => (fs sd1).bind (bJ (.w (x.1, 0)))
@[simp] theorem bFzK_ap (fs : Eb) (d : D) (n : Nat) : bFzK fs (d, n) sd = (fs sd).bind (bJ (.w (d, 0))) := eqr rfl
@[simp] theorem bFz_ap (f : Ev) (fs : Eb) : bFz f fs sd = (f sd).bind (bFzK fs) := eqr rfl
def bMvK (fs : Eb) : D × Nat → SD → R (List Ag) := fun x sd1 => (fs sd1).bind (bJ (.w x))
@[simp] theorem bMvK_ap (fs : Eb) (x : D × Nat) : bMvK fs x sd = (fs sd).bind (bJ (.w x)) := eqr rfl
@[simp] theorem bMv_ap (f : Ev) (fs : Eb) : bMv f fs sd = (f sd).bind (bMvK fs) := eqr rfl
@[simp] theorem bBr_ap (i : Nat) (fs : Eb) : bBr i fs sd = wS (gtS sd i) .stuck fun _ _ => (fs sd).bind (bJ (.b i)) := by
  unfold bBr gtS wS
  cases e : sd[i]? with
  | none => rfl
  | some x => rcases x with _ | ⟨d, k⟩ <;> rfl
@[simp] theorem rsv_nil : rsv sd [] = some [] := eqr rfl
@[simp] theorem rsv_w (x : D × Nat) (r : List Ag) : rsv sd (.w x :: r) = (rsv sd r).map fun l => x :: l := eqr rfl
@[simp] theorem rsv_b (i : Nat) (r : List Ag) : rsv sd (.b i :: r) = wS (gtS sd i) none fun d _ => (rsv sd r).map fun l => (d, 0) :: l := by
  show (match sd[i]? with
    | some (some (d, _)) => (rsv sd r).map fun l => (d, 0) :: l
    | _ => none) = _
  unfold gtS wS
  cases e : sd[i]? with
  | none => rfl
  | some x => rcases x with _ | ⟨d, k⟩ <;> rfl
def lendR (r : FR) (sd : SD) : R (D × Nat) := match r with
  | .ok w => if okR w.1 w.2 then .ok w sd else .stuck
  | _ => .stuck
@[simp] theorem lendR_int (i : Int) (n : Nat) : lendR (.ok (.int i, n)) sd = .ok (.int i, n) sd := eqr rfl
@[simp] theorem lendR_bl (i : Bool) (n : Nat) : lendR (.ok (.bl i, n)) sd = .ok (.bl i, n) sd := eqr rfl
@[simp] theorem lendR_str (i : Str) (n : Nat) : lendR (.ok (.str i, n)) sd = .ok (.str i, n) sd := eqr rfl
@[simp] theorem lendR_non (n : Nat) : lendR (.ok (.non, n)) sd = .ok (.non, n) sd := eqr rfl
def calBJ (n : Nat) (f : Fn) (dfl : List D) (o : Option (List (D × Nat))) (sd : SD) : R (D × Nat) := match o with
  | some xs => if (xs.length + dfl.length == n) = true then lendR (f (xs ++ dfl.map fun d => (d, 0))) sd else .stuck
  | none => .stuck
def calBK (n : Nat) (f : Fn) (dfl : List D) : List Ag → SD → R (D × Nat) := fun ags sd1 => calBJ n f dfl (rsv sd1 ags) sd1
@[simp] theorem calBK_ap (n : Nat) (f : Fn) (dfl : List D) (ags : List Ag) : calBK n f dfl ags sd = calBJ n f dfl (rsv sd ags) sd := eqr rfl
@[simp] theorem calB_ap (n : Nat) (f : Fn) (dfl : List D) (fs : Eb) : calB n f dfl fs sd = (fs sd).bind (calBK n f dfl) := by
  unfold calB calBK calBJ lendR
  congr
@[simp] theorem calBJ_1 (f : Fn) (a : D × Nat) : calBJ 1 f [] (some [a]) sd = lendR (f [a]) sd := eqr rfl
@[simp] theorem calBJ_2 (f : Fn) (a b : D × Nat) : calBJ 2 f [] (some [a, b]) sd = lendR (f [a, b]) sd := eqr rfl
@[simp] theorem calBJ_3 (f : Fn) (a b c : D × Nat) : calBJ 3 f [] (some [a, b, c]) sd = lendR (f [a, b, c]) sd := eqr rfl
@[simp] theorem calBJ_4 (f : Fn) (a b c d : D × Nat) : calBJ 4 f [] (some [a, b, c, d]) sd = lendR (f [a, b, c, d]) sd := eqr rfl
@[simp] theorem calBJ_5 (f : Fn) (a b c d e : D × Nat) : calBJ 5 f [] (some [a, b, c, d, e]) sd = lendR (f [a, b, c, d, e]) sd := eqr rfl
/-! ### statements -/
@[simp] theorem zSeq_ap (f g : Sm) : zSeq f g sd = (f sd).go g := eqr rfl
@[simp] theorem zNil_ap : zNil sd = .nx sd := eqr rfl
def zSetK (i : Nat) : D × Nat → SD → O := fun w sd1 => .nx (sd1.set i (some w))
@[simp] theorem zSetK_ap (i : Nat) (w : D × Nat) : zSetK i w sd = .nx (sd.set i (some w)) := eqr rfl
@[simp] theorem zSet_ap (i : Nat) (f : Ev) : zSet i f sd = (f sd).run (zSetK i) := eqr rfl
@[simp] theorem fzS_ap (i : Nat) : fzS i sd = wS (gtS sd i) .stuck fun d _ => .nx (sd.set i (some (d, 0))) := by
  unfold fzS gtS wS
  cases e : sd[i]? with
  | none => rfl
  | some x => rcases x with _ | ⟨d, k⟩ <;> rfl
@[simp] theorem zFrz_ap (i : Nat) (f : Sm) : zFrz i f sd = (f sd).go (fzS i) := eqr rfl
def tgO (o : Option SD) : O := match o with
  | some sd => .nx sd
  | none => .stuck
@[simp] theorem tgO_some : tgO (some sd) = .nx sd := eqr rfl
def zTgK (g : Tg) : D × Nat → SD → O := fun w sd1 => tgO (g w.1 sd1)
@[simp] theorem zTgK_ap (g : Tg) (d : D) (n : Nat) : zTgK g (d, n) sd = tgO (g d sd) := eqr rfl
@[simp] theorem zTg_ap (g : Tg) (f : Ev) : zTg g f sd = (f sd).run (zTgK g) := by
  unfold zTg zTgK tgO
  congr
def zDropK : D × Nat → SD → O := fun _ sd1 => .nx sd1
@[simp] theorem zDropK_ap (w : D × Nat) : zDropK w sd = .nx sd := eqr rfl
@[simp] theorem zDrop_ap (f : Ev) : zDrop f sd = (f sd).run zDropK := eqr rfl
def zRetK : D × Nat → SD → O := fun w sd1 => .rt w sd1
@[simp] theorem zRetK_ap (w : D × Nat) : zRetK w sd = .rt w sd := eqr rfl
@[simp] theorem zRet_ap (f : Ev) : zRet f sd = (f sd).run zRetK := eqr rfl
@[simp] theorem zRetN_ap : zRetN sd = .rt (.non, 0) sd := eqr rfl
def zIfK (f g : Sm) : Bool → SD → O := fun b sd1 => if b then f sd1 else g sd1
@[simp] theorem zIfK_ap (f g : Sm) (b : Bool) : zIfK f g b sd = if b = true then f sd else g sd := eqr rfl
@[simp] theorem zIf_ap (c : Et) (f g : Sm) : zIf c f g sd = (c sd).run (zIfK f g) := eqr rfl
@[simp] theorem zBk_ap : zBk sd = .bk sd := eqr rfl
@[simp] theorem zCt_ap : zCt sd = .ct sd := eqr rfl
@[simp] theorem zNever_ap : zNever sd = .stuck := eqr rfl
def appO (d : D) (n : Nat) (i : Nat) (w : D) (sd : SD) : O := match d, n with
  | .lst ds, 1 => if ds.length < sizeLine then .nx (sd.set i (some (.lst (ds ++ [w]), 1))) else .stuck
  | _, _ => .stuck
@[simp] theorem appO_lst (ds : List D) (i : Nat) (w : D) : appO (.lst ds) 1 i w sd = if ds.length < sizeLine then .nx (sd.set i (some (.lst (ds ++ [w]), 1))) else .stuck := eqr rfl
def zAppK (i : Nat) : D × Nat → SD → O := fun w sd1 => wS (gtS sd1 i) .stuck fun d n => appO d n i w.1 sd1
@[simp] theorem zAppK_ap (i : Nat) (d : D) (n : Nat) : zAppK i (d, n) sd = wS (gtS sd i) .stuck fun e n => appO e n i d sd := eqr rfl
theorem zApp_ap (i : Nat) (f : Ev) : zApp i f sd = match gtS sd i with
  | some (.lst _, _) => (f sd).run (zAppK i)
  | _ => .stuck := by
  have : zAppK i = fun w sd1 => match sd1[i]? with
    | some (some (.lst ds, 1)) => if ds.length < sizeLine then .nx (sd1.set i (some (.lst (ds ++ [w.1]), 1))) else .stuck
    | _ => .stuck := by
    funext w sd1
    unfold zAppK gtS wS appO
    cases e : sd1[i]? with
    | none => rfl
    | some x =>
      rcases x with _ | ⟨d, k⟩
      · rfl
      · cases d <;> first | rfl | (rcases k with _ | _ | k <;> rfl)
  rw [this]
  unfold zApp gtS
  cases e : sd[i]? with
  | none => rfl
  | some x =>
    rcases x with _ | ⟨d, k⟩
    · rfl
    · cases d <;> rfl
def lstC (o : Option (D × Nat)) (y : O) : O := match o with
  | some (.lst _, _) => y
  | _ => .stuck
@[simp] theorem lstC_some (ds : List D) (n : Nat) (y : O) : lstC (some (.lst ds, n)) y = y := eqr rfl
@[simp] theorem zApp_ap' (i : Nat) (f : Ev) : zApp i f sd = lstC (gtS sd i) ((f sd).run (zAppK i)) := zApp_ap sd i f
def putO (d : D) (n : Nat) (i : Nat) (y w : D) (sd : SD) : O := match d, n, y with
  | .lst ds, 1, .int j => match ixN ds.length j with
    | some n => .nx (sd.set i (some (.lst (ds.set n w), 1)))
    | none => .stuck
  | _, _, _ => .stuck
def optO (o : Option Nat) (f : Nat → SD) : O := match o with
  | some n => .nx (f n)
  | none => .stuck
@[simp] theorem optO_some (n : Nat) (f : Nat → SD) : optO (some n) f = .nx (f n) := eqr rfl
@[simp] theorem putO_lst (ds : List D) (i : Nat) (j : Int) (w : D) : putO (.lst ds) 1 i (.int j) w sd = optO (ixN ds.length j) fun n => sd.set i (some (.lst (ds.set n w), 1)) := by
  show (match ixN ds.length j with
    | some n => O.nx (sd.set i (some (D.lst (ds.set n w), 1)))
    | none => .stuck) = _
  unfold optO
  cases ixN ds.length j <;> rfl
def zPutJ (i : Nat) (w : D) : D × Nat → SD → O := fun y sd2 => wS (gtS sd2 i) .stuck fun d n => putO d n i y.1 w sd2
@[simp] theorem zPutJ_ap (i : Nat) (w y : D) (n : Nat) : zPutJ i w (y, n) sd = wS (gtS sd i) .stuck fun d n => putO d n i y w sd := eqr rfl
def zPutK (i : Nat) (fi : Ev) : D × Nat → SD → O := fun w sd1 => wS (gtS sd1 i) .stuck fun _ _ => (fi sd1).run (zPutJ i w.1)
@[simp] theorem zPutK_ap (i : Nat) (fi : Ev) (d : D) (n : Nat) : zPutK i fi (d, n) sd = wS (gtS sd i) .stuck fun _ _ => (fi sd).run (zPutJ i d) := eqr rfl
@[simp] theorem zPut_ap (i : Nat) (fi f : Ev) : zPut i fi f sd = (f sd).run (zPutK i fi) := by
  have h1 : ∀ w : D, zPutJ i w = fun y sd2 => match sd2[i]?, y.1 with
    | some (some (.lst ds, 1)), .int j => match ixN ds.length j with
      | some n => .nx (sd2.set i (some (.lst (ds.set n w), 1)))
      | none => .stuck
    | _, _ => .stuck := by
    intro w
    funext y sd2
    unfold zPutJ gtS wS
    cases e : sd2[i]? with
    | none => rfl
    | some x =>
      rcases x with _ | ⟨d, k⟩
      · rfl
      · obtain ⟨y1, y2⟩ := y
        cases d <;> first | rfl | (rcases k with _ | _ | k <;> first | rfl | (cases y1 <;> rfl))
  have h2 : zPutK i fi = fun w sd1 => match sd1[i]? with
    | some (some _) => (fi sd1).run (zPutJ i w.1)
    | _ => .stuck := by
    funext w sd1
    unfold zPutK gtS wS
    cases e : sd1[i]? with
    | none => rfl
    | some x => rcases x with _ | ⟨d, k⟩ <;> rfl
  rw [h2]
  simp only [h1]
  rfl
def zForK (ws : List Nat) (g : Tg) (body : Sm) : List D → SD → O := fun items sd1 => forGo ws g body items sd1
@[simp] theorem zForK_ap (ws : List Nat) (g : Tg) (body : Sm) (items : List D) : zForK ws g body items sd = forGo ws g body items sd := eqr rfl
@[simp] theorem zFor_ap (ws : List Nat) (fi : Ei) (g : Tg) (body : Sm) : zFor ws fi g body sd = (fi sd).run (zForK ws g body) := eqr rfl
@[simp] theorem wp_nil : wp sd [] = sd := eqr rfl
@[simp] theorem wp_cons (v : Nat) (vs : List Nat) : wp sd (v :: vs) = (wp sd vs).set v none := eqr rfl
end
/-! ### loops -/
def wpK (ws : List Nat) (K : SD → FR) : SD → FR := fun s => K (wp s ws)
@[simp] theorem wpK_ap (ws : List Nat) (K : SD → FR) (s : SD) : wpK ws K s = K (wp s ws) := eqr rfl
def goS (o : Option SD) (f : SD → FR) : FR := match o with
  | some s => f s
  | none => .stuck
@[simp] theorem goS_some (s : SD) (f : SD → FR) : goS (some s) f = f s := eqr rfl
def trnK (body : Sm) (ws : List Nat) (K Kb : SD → FR) : SD → FR := fun sd1 => (body sd1).fin (wpK ws K) (wpK ws Kb) (wpK ws K)
@[simp] theorem trnK_ap (body : Sm) (ws : List Nat) (K Kb : SD → FR) (s : SD) : trnK body ws K Kb s = (body s).fin (wpK ws K) (wpK ws Kb) (wpK ws K) := eqr rfl
def trn (ws : List Nat) (g : Tg) (body : Sm) (d : D) (S : SD) (K Kb : SD → FR) : FR := goS (g d S) (trnK body ws K Kb)
@[simp] theorem trn_ap (ws : List Nat) (g : Tg) (body : Sm) (d : D) (S : SD) (K Kb : SD → FR) : trn ws g body d S K Kb = goS (g d S) (trnK body ws K Kb) := eqr rfl
section
variable {ws : List Nat} {g : Tg} {body : Sm} {kn kb kc : SD → FR}
theorem forGo_nil (sd : SD) : (forGo ws g body [] sd).fin kn kb kc = kn sd := rfl
theorem forGo_cons (d : D) (ds : List D) (sd : SD) : (forGo ws g body (d :: ds) sd).fin kn kb kc = trn ws g body d sd (fun s => (forGo ws g body ds s).fin kn kb kc) kn := by
  unfold trn goS trnK wpK
  show O.fin (match g d sd with
    | none => .stuck
    | some sd1 => match body sd1 with
      | .nx sd2 => forGo ws g body ds (wp sd2 ws)
      | .ct sd2 => forGo ws g body ds (wp sd2 ws)
      | .bk sd2 => .nx (wp sd2 ws)
      | o => o) kn kb kc = _
  cases g d sd with
  | none => rfl
  | some s => dsimp only; cases body s <;> rfl
/-- the loop, told by what is left of it -/
theorem for_gen {α β : Type} (enc : α → D) (S : β → SD) (P : List α → β → Prop) (F : List α → β → FR) (h0 : ∀ b, P [] b → kn (S b) = F [] b)
    (hs : ∀ a l b (K : SD → FR), P (a :: l) b → (∀ b', P l b' → K (S b') = F l b') → trn ws g body (enc a) (S b) K kn = F (a :: l) b) (l : List α) (b : β) (hp : P l b) : (forGo ws g body (l.map enc) (S b)).fin kn kb kc = F l b := by
  induction l generalizing b with
  | nil => exact h0 b hp
  | cons a l ih =>
    rw [List.map_cons, forGo_cons]
    exact hs a l b _ hp fun b' p => ih b' p
/-- every turn checks, or gives w -/
theorem for_all {α : Type} (enc : α → D) (c : α → Bool) (S : SD) (w : D × Nat) (l : List α) (h : ∀ a ∈ l, ∀ K, trn ws g body (enc a) S K kn = if c a = true then K S else .ok w) :
    (forGo ws g body (l.map enc) S).fin kn kb kc = if l.all c = true then kn S else .ok w := by
  induction l with
  | nil => rfl
  | cons a l ih =>
    rw [List.map_cons, forGo_cons, h a List.mem_cons_self, List.all_cons]
    by_cases e : c a = true
    · rw [if_pos e, ih fun b m => h b (List.mem_cons_of_mem _ m), e, Bool.true_and]
    · rw [if_neg e]
      have : c a = false := by cases q : c a; rfl; exact absurd q e
      rw [this, Bool.false_and]
      rfl
theorem for_fold {α β : Type} (enc : α → D) (S : β → SD) (P : β → Prop) (f : β → α → β) (l : List α) (b : β) (hp : P b) (h : ∀ a ∈ l, ∀ b, P b → P (f b a) ∧ ∀ K, trn ws g body (enc a) (S b) K kn = K (S (f b a))) :
    (forGo ws g body (l.map enc) (S b)).fin kn kb kc = kn (S (l.foldl f b)) ∧ P (l.foldl f b) := by
  induction l generalizing b with
  | nil => exact ⟨rfl, hp⟩
  | cons a l ih =>
    obtain ⟨p, q⟩ := h a List.mem_cons_self b hp
    rw [List.map_cons, forGo_cons, q, List.foldl_cons]
    exact ih _ p fun a m => h a (List.mem_cons_of_mem _ m)
end
/-! ### comprehensions -/
def R.fis {α : Type} (r : R α) (k : α → SD → R (D × Nat)) : R (D × Nat) := match r with
  | .ok a sd => k a sd
  | _ => .stuck
@[simp] theorem R.fis_ok {α : Type} (a : α) (sd : SD) (k : α → SD → R (D × Nat)) : (R.ok a sd).fis k = k a sd := eqr rfl
@[simp] theorem R.fis_ite {α : Type} {c : Prop} [Decidable c] (a b : R α) (k : α → SD → R (D × Nat)) : (if c then a else b).fis k = if c then a.fis k else b.fis k := by split <;> rfl
def lcT2 (vs : List Nat) (K : Option D → SD → R (D × Nat)) : D × Nat → SD → R (D × Nat) := fun y sd3 => K (some y.1) (wp sd3 vs)
@[simp] theorem lcT2_ap (vs : List Nat) (K : Option D → SD → R (D × Nat)) (d : D) (n : Nat) (sd : SD) : lcT2 vs K (d, n) sd = K (some d) (wp sd vs) := eqr rfl
def lcT1 (vs : List Nat) (fe : Ev) (K : Option D → SD → R (D × Nat)) : Bool → SD → R (D × Nat) := fun b sd2 => if b then (fe sd2).fis (lcT2 vs K) else K none (wp sd2 vs)
@[simp] theorem lcT1_ap (vs : List Nat) (fe : Ev) (K : Option D → SD → R (D × Nat)) (b : Bool) (sd : SD) : lcT1 vs fe K b sd = if b = true then (fe sd).fis (lcT2 vs K) else K none (wp sd vs) := eqr rfl
def goR (o : Option SD) (f : SD → R (D × Nat)) : R (D × Nat) := match o with
  | some s => f s
  | none => .stuck
@[simp] theorem goR_some (s : SD) (f : SD → R (D × Nat)) : goR (some s) f = f s := eqr rfl
def lcT0 (vs : List Nat) (ft : Et) (fe : Ev) (K : Option D → SD → R (D × Nat)) : SD → R (D × Nat) := fun sd1 => (ft sd1).fis (lcT1 vs fe K)
@[simp] theorem lcT0_ap (vs : List Nat) (ft : Et) (fe : Ev) (K : Option D → SD → R (D × Nat)) (sd : SD) : lcT0 vs ft fe K sd = (ft sd).fis (lcT1 vs fe K) := eqr rfl
def lct (vs : List Nat) (g : Tg) (ft : Et) (fe : Ev) (d : D) (S : SD) (K : Option D → SD → R (D × Nat)) : R (D × Nat) := goR (g d S) (lcT0 vs ft fe K)
@[simp] theorem lct_ap (vs : List Nat) (g : Tg) (ft : Et) (fe : Ev) (d : D) (S : SD) (K : Option D → SD → R (D × Nat)) : lct vs g ft fe d S K = goR (g d S) (lcT0 vs ft fe K) := eqr rfl
def lcK (vs : List Nat) (g : Tg) (ft : Et) (fe : Ev) : List D → List D → SD → R (D × Nat)
  | [], acc, s => .ok (.lst acc, 1) s
  | d :: ds, acc, s => lct vs g ft fe d s fun o s' => match o with
    | some y => if acc.length < sizeLine then lcK vs g ft fe ds (acc ++ [y]) s' else .stuck
    | none => lcK vs g ft fe ds acc s'
theorem wp_at (sd : SD) (vs : List Nat) (i : Nat) : (wp sd vs)[i]? = if i ∈ vs then (sd[i]?).map fun _ => none else sd[i]? := by
  induction vs with
  | nil => simp
  | cons v vs ih =>
    rw [wp_cons, List.getElem?_set, ih]
    by_cases e : v = i
    · subst e
      have hl : (wp sd vs).length = sd.length := by
        clear ih
        induction vs with
        | nil => rfl
        | cons w vs ih => rw [wp_cons, List.length_set, ih]
      rw [if_pos rfl, hl, if_pos List.mem_cons_self]
      by_cases q : v < sd.length
      · rw [if_pos q, List.getElem?_eq_getElem q]; rfl
      · rw [if_neg q, List.getElem?_eq_none (Nat.le_of_not_lt q)]; rfl
    · rw [if_neg e]
      have : (i ∈ v :: vs) ↔ i ∈ vs := by
        constructor
        · intro m
          rcases List.mem_cons.mp m with m | m
          · exact absurd m.symm e
          · exact m
        · exact List.mem_cons_of_mem _
      simp only [this]
theorem wp_wp (sd : SD) (vs : List Nat) : wp (wp sd vs) vs = wp sd vs := by
  apply List.ext_getElem?
  intro i
  rw [wp_at, wp_at]
  split
  · cases sd[i]? <;> rfl
  · rfl
theorem lcGo_K (vs : List Nat) (g : Tg) (ft : Et) (fe : Ev) (ds : List D) : ∀ (acc : List D) (s : SD), ((lcGo vs g ft fe ds s acc).bind fun out sd2 => .ok (.lst out, 1) (wp sd2 vs)) = lcK vs g ft fe ds acc (wp s vs) := by
  induction ds with
  | nil => intro acc s; rfl
  | cons d ds ih =>
    intro acc s
    show (R.bind (match g d (wp s vs) with
      | none => .stuck
      | some sd1 => match ft sd1 with
        | .ok true sd2 => match fe sd2 with
          | .ok y sd3 => if acc.length < sizeLine then lcGo vs g ft fe ds sd3 (acc ++ [y.1]) else .stuck
          | _ => .stuck
        | .ok false sd2 => lcGo vs g ft fe ds sd2 acc
        | _ => .stuck) _) = lct vs g ft fe d (wp s vs) _
    unfold lct goR lcT0
    cases g d (wp s vs) with
    | none => rfl
    | some sd1 =>
      dsimp only
      cases ft sd1 with
      | stuck => rfl
      | exc x sd2 => rfl
      | ok b sd2 =>
        rw [R.fis_ok, lcT1_ap]
        cases b with
        | false =>
          rw [if_neg (by decide)]
          exact ih acc sd2
        | true =>
          rw [if_pos rfl]
          dsimp only
          cases fe sd2 with
          | stuck => rfl
          | exc x sd3 => rfl
          | ok y sd3 =>
            dsimp only
            rw [R.fis_ok]
            show _ = (if acc.length < sizeLine then lcK vs g ft fe ds (acc ++ [y.1]) (wp sd3 vs) else .stuck)
            by_cases q : acc.length < sizeLine
            · rw [if_pos q, if_pos q]
              exact ih (acc ++ [y.1]) sd3
            · rw [if_neg q, if_neg q]; rfl
def lcSK (vs : List Nat) (g : Tg) (ft : Et) (fe : Ev) : List D → SD → R (D × Nat) := fun items sd1 => lcK vs g ft fe items [] (wp sd1 vs)
@[simp] theorem lcSK_ap (vs : List Nat) (g : Tg) (ft : Et) (fe : Ev) (items : List D) (sd : SD) : lcSK vs g ft fe items sd = lcK vs g ft fe items [] (wp sd vs) := eqr rfl
@[simp] theorem lcS_ap (vs : List Nat) (fi : Ei) (g : Tg) (ft : Et) (fe : Ev) (sd : SD) : lcS vs fi g ft fe sd = (fi sd).bind (lcSK vs g ft fe) := by
  unfold lcS
  congr
  funext items sd1
  exact lcGo_K vs g ft fe items [] sd1
@[simp] theorem tYes_ap (sd : SD) : tYes' sd = .ok true sd := eqr rfl
section
variable {vs : List Nat} {g : Tg} {ft : Et} {fe : Ev}
theorem lcK_fm {α : Type} (enc : α → D) (o : α → Option D) (S : SD) (l : List α) : ∀ (acc : List D), acc.length + l.length ≤ sizeLine → (∀ a ∈ l, ∀ K, lct vs g ft fe (enc a) S K = K (o a) S) → lcK vs g ft fe (l.map enc) acc S = .ok (.lst (acc ++ l.filterMap o), 1) S := by
  induction l with
  | nil => intro acc _ _; rw [List.map_nil, List.filterMap_nil, List.append_nil]; rfl
  | cons a l ih =>
    intro acc hl h
    rw [List.map_cons]
    show lct vs g ft fe (enc a) S _ = _
    rw [h a List.mem_cons_self, List.filterMap_cons]
    rw [List.length_cons] at hl
    cases e : o a with
    | none => exact ih acc (by omega) fun b m => h b (List.mem_cons_of_mem _ m)
    | some y =>
      dsimp only
      rw [if_pos (by omega), ih (acc ++ [y]) (by rw [List.length_append, List.length_singleton]; omega) fun b m => h b (List.mem_cons_of_mem _ m)]
      rw [List.append_assoc]
      rfl
theorem lc_map {α : Type} (enc : α → D) (out : α → D) (S : SD) (l : List α) (hl : l.length ≤ sizeLine) (h : ∀ a ∈ l, ∀ K, lct vs g ft fe (enc a) S K = K (some (out a)) S) : lcK vs g ft fe (l.map enc) [] S = .ok (.lst (l.map out), 1) S := by
  rw [lcK_fm enc (fun a => some (out a)) S l [] (by simpa using hl) h, List.nil_append]
  congr
  exact congrFun (List.filterMap_eq_map (f := out)) l
theorem lc_flt {α : Type} (enc : α → D) (p : α → Bool) (out : α → D) (S : SD) (l : List α) (hl : l.length ≤ sizeLine) (h : ∀ a ∈ l, ∀ K, lct vs g ft fe (enc a) S K = if p a = true then K (some (out a)) S else K none S) : lcK vs g ft fe (l.map enc) [] S = .ok (.lst ((l.filter p).map out), 1) S := by
  rw [lcK_fm enc (fun a => if p a = true then some (out a) else none) S l [] (by simpa using hl) fun a m K => by rw [h a m]; split <;> rfl, List.nil_append]
  congr
  induction l with
  | nil => rfl
  | cons a l ih =>
    rw [List.filterMap_cons, List.filter_cons]
    have q := ih (by rw [List.length_cons] at hl; omega) fun b m => h b (List.mem_cons_of_mem _ m)
    by_cases e : p a = true
    · rw [if_pos e, if_pos e]
      dsimp only
      rw [List.map_cons, q]
    · rw [if_neg e, if_neg e]
      exact q
end
end VS
/-! VS15: values: what the operators give on numbers, rows of numbers, rows of pairs. -/
namespace VS
open PySem PySem.Spec L2
theorem line_big : (1000000 : Nat) ≤ sizeLine := by decide
theorem lt_line {n : Nat} (h : n < 1000000) : n < sizeLine := Nat.lt_of_lt_of_le h line_big
@[simp] theorem FR.r_ite {c : Prop} [Decidable c] (a b : FR) (sd : SD) : (if c then a else b).r sd = if c then a.r sd else b.r sd := by split <;> rfl
@[simp] theorem lendR_ite {c : Prop} [Decidable c] (a b : FR) (sd : SD) : lendR (if c then a else b) sd = if c then lendR a sd else lendR b sd := by split <;> rfl
@[simp] theorem isiD_1 (i : Int) : isiD "int" (.int i) = true := eqr rfl
@[simp] theorem isiD_2 (i : Int) : isiD "bool" (.int i) = false := eqr rfl
@[simp] theorem isiD_3 (i : Int) : isiD "tuple" (.int i) = false := eqr rfl
@[simp] theorem isiD_4 (i : Bool) : isiD "bool" (.bl i) = true := eqr rfl
@[simp] theorem isiD_5 (i : Bool) : isiD "int" (.bl i) = true := eqr rfl
@[simp] theorem isiD_6 (i : Str) : isiD "str" (.str i) = true := eqr rfl
@[simp] theorem isiD_7 (i : List D) : isiD "tuple" (.tup i) = true := eqr rfl
@[simp] theorem isiD_8 (i : List D) : isiD "tuple" (.lst i) = false := eqr rfl
@[simp] theorem isiD_9 (i : List D) : isiD "list" (.lst i) = true := eqr rfl
@[simp] theorem isiD_10 (i : Str) : isiD "tuple" (.str i) = false := eqr rfl
@[simp] theorem isiD_11 (i : Str) : isiD "int" (.str i) = false := eqr rfl
@[simp] theorem isiD_12 (i : List D) : isiD "int" (.tup i) = false := eqr rfl
@[simp] theorem isiD_13 (i : List D) : isiD "int" (.lst i) = false := eqr rfl
@[simp] theorem isiD_14 (i : List D) : isiD "bool" (.tup i) = false := eqr rfl
@[simp] theorem isiD_15 (i : List D) : isiD "bool" (.lst i) = false := eqr rfl
@[simp] theorem gIsi_int (T : String) (i : Int) : gIsi T (.int i) = some (.bl (isiD T (.int i)), 0) := eqr rfl
@[simp] theorem gIsi_bl (T : String) (i : Bool) : gIsi T (.bl i) = some (.bl (isiD T (.bl i)), 0) := eqr rfl
@[simp] theorem gIsi_str (T : String) (i : Str) : gIsi T (.str i) = some (.bl (isiD T (.str i)), 0) := eqr rfl
@[simp] theorem gIsi_tup (T : String) (i : List D) : gIsi T (.tup i) = some (.bl (isiD T (.tup i)), 0) := eqr rfl
@[simp] theorem gIsi_lst (T : String) (i : List D) : gIsi T (.lst i) = some (.bl (isiD T (.lst i)), 0) := eqr rfl
@[simp] theorem gIsi_non (T : String) : gIsi T .non = some (.bl (isiD T .non), 0) := eqr rfl
@[simp] theorem gLen_lst (ds : List D) : gLen (.lst ds) = some (.int ds.length, 0) := eqr rfl
@[simp] theorem gLen_tup (ds : List D) : gLen (.tup ds) = some (.int ds.length, 0) := eqr rfl
@[simp] theorem gLen_scr (ds : List D) : gLen (.scr ds) = some (.int ds.length, 0) := eqr rfl
@[simp] theorem gList_lst (ds : List D) : gList (.lst ds) = some (.lst ds, 1) := eqr rfl
@[simp] theorem gList_tup (ds : List D) : gList (.tup ds) = some (.lst ds, 1) := eqr rfl
@[simp] theorem gTuple_lst (ds : List D) : gTuple (.lst ds) = some (.tup ds, 0) := eqr rfl
@[simp] theorem gTuple_tup (ds : List D) : gTuple (.tup ds) = some (.tup ds, 0) := eqr rfl
@[simp] theorem gInt_int (i : Int) : gInt (.int i) = some (.int i, 0) := eqr rfl
@[simp] theorem gInt_bl (b : Bool) : gInt (.bl b) = some (.int (if b then 1 else 0), 0) := eqr rfl
@[simp] theorem gEq_int (i j : Int) : gEq (.int i) (.int j) = some (.bl (decide (i = j)), 0) := eqr rfl
@[simp] theorem gNe_int (i j : Int) : gNe (.int i) (.int j) = some (.bl (!decide (i = j)), 0) := eqr rfl
@[simp] theorem gEq_bl (i j : Bool) : gEq (.bl i) (.bl j) = some (.bl (decide (i = j)), 0) := eqr rfl
@[simp] theorem gEq_str (i j : Str) : gEq (.str i) (.str j) = some (.bl (decide (i = j)), 0) := eqr rfl
@[simp] theorem gIs_bl (neg a b : Bool) : gIs neg (.bl a) (.bl b) = some (.bl (if neg then !decide (a = b) else decide (a = b)), 0) := eqr rfl
@[simp] theorem gIs_non (neg : Bool) (i : Int) : gIs neg (.int i) .non = some (.bl neg, 0) := eqr rfl
theorem okd_pr (n : Nat) (p : Int × Int) : okd (n + 1) (prD p) = true := by simp [prD, okd, okds]
theorem eqv_pr (p q : Int × Int) : eqv (prD p) (prD q) = decide (p = q) := by
  obtain ⟨a, b⟩ := p
  obtain ⟨c, d⟩ := q
  simp only [prD, eqv, eqvs]
  by_cases h1 : a = c <;> by_cases h2 : b = d <;> simp [h1, h2]
@[simp] theorem gEq_pr (p q : Int × Int) : gEq (prD p) (prD q) = some (.bl (decide (p = q)), 0) := by
  show (if okd 30 (prD p) && okd 30 (prD q) then some (D.bl (eqv (prD p) (prD q)), 0) else none) = _
  rw [okd_pr, okd_pr, eqv_pr]; rfl
@[simp] theorem gNe_pr (p q : Int × Int) : gNe (prD p) (prD q) = some (.bl (!decide (p = q)), 0) := by
  show (if okd 30 (prD p) && okd 30 (prD q) then some (D.bl (!eqv (prD p) (prD q)), 0) else none) = _
  rw [okd_pr, okd_pr, eqv_pr]; rfl
@[simp] theorem gNe_pr2 (p q : Int × Int) : gNe (.tup [.int p.1, .int p.2]) (.tup [.int q.1, .int q.2]) = some (.bl (!decide (p = q)), 0) := gNe_pr p q
theorem flat_ints (ns : List Int) : (ns.map D.int).all flat = true := by
  rw [List.all_eq_true]
  intro x m
  obtain ⟨i, _, rfl⟩ := List.mem_map.mp m
  rfl
theorem inD_ints (i : Int) (ns : List Int) : inD (.int i) (ns.map .int) = decide (i ∈ ns) := by
  induction ns with
  | nil => rfl
  | cons n ns ih =>
    unfold inD at ih ⊢
    rw [List.map_cons, List.any_cons, ih]
    show ((n == i) || _) = _
    by_cases e : n = i
    · subst e; simp
    · have e2 : ¬ i = n := fun z => e z.symm
      simp [e, e2]
@[simp] theorem gIn_lst (neg : Bool) (i : Int) (ns : List Int) : gIn neg (.int i) (.lst (ns.map .int)) = some (.bl (if neg then !decide (i ∈ ns) else decide (i ∈ ns)), 0) := by
  show (if flat (.int i) ∧ (ns.map D.int).all flat then some (D.bl (if neg then !inD (.int i) (ns.map .int) else inD (.int i) (ns.map .int)), 0) else none) = _
  rw [if_pos ⟨rfl, flat_ints ns⟩, inD_ints]
@[simp] theorem gIn_tup (neg : Bool) (i : Int) (ns : List Int) : gIn neg (.int i) (.tup (ns.map .int)) = some (.bl (if neg then !decide (i ∈ ns) else decide (i ∈ ns)), 0) := by
  show (if flat (.int i) ∧ (ns.map D.int).all flat then some (D.bl (if neg then !inD (.int i) (ns.map .int) else inD (.int i) (ns.map .int)), 0) else none) = _
  rw [if_pos ⟨rfl, flat_ints ns⟩, inD_ints]
/-- an entry by its number -/
def gt {α : Type} [Inhabited α] (l : List α) (j : Int) : α := l.getD j.toNat default
theorem gt_mem {α : Type} [Inhabited α] {l : List α} {j : Int} (h0 : 0 ≤ j) (h1 : j < l.length) : gt l j ∈ l := by
  have : j.toNat < l.length := by omega
  unfold gt
  rw [List.getD_eq_getElem?_getD, List.getElem?_eq_getElem this]
  exact List.getElem_mem this
theorem gt_map {α β : Type} [Inhabited α] [Inhabited β] {l : List α} {j : Int} (f : α → β) (h0 : 0 ≤ j) (h1 : j < l.length) : gt (l.map f) j = f (gt l j) := by
  have : j.toNat < l.length := by omega
  unfold gt
  rw [List.getD_eq_getElem?_getD, List.getD_eq_getElem?_getD, List.getElem?_map, List.getElem?_eq_getElem this]
  rfl
theorem atI_map {α : Type} [Inhabited α] (enc : α → D) {l : List α} {j : Int} (h0 : 0 ≤ j) (h1 : j < l.length) : L2.atI (l.map enc) j = some (enc (gt l j)) := by
  have : j.toNat < l.length := by omega
  unfold L2.atI L2.ixN
  rw [List.length_map, if_pos h0, if_pos h1]
  show (l.map enc)[j.toNat]? = _
  rw [List.getElem?_map, List.getElem?_eq_getElem this]
  unfold gt
  rw [List.getD_eq_getElem?_getD, List.getElem?_eq_getElem this]
  rfl
section
variable {α : Type} [Inhabited α] (enc : α → D) {l : List α} {j : Int}
theorem gIx_lst (h0 : 0 ≤ j) (h1 : j < l.length) : gIx (.lst (l.map enc)) (.int j) = some (enc (gt l j), 0) := by
  show (L2.atI (l.map enc) j).map _ = _
  rw [atI_map enc h0 h1]; rfl
theorem gIx_tup (h0 : 0 ≤ j) (h1 : j < l.length) : gIx (.tup (l.map enc)) (.int j) = some (enc (gt l j), 0) := by
  show (L2.atI (l.map enc) j).map _ = _
  rw [atI_map enc h0 h1]; rfl
theorem gIx_scr (h0 : 0 ≤ j) (h1 : j < l.length) : gIx (.scr (l.map enc)) (.int j) = some (enc (gt l j), 0) := by
  show (L2.atI (l.map enc) j).map _ = _
  rw [atI_map enc h0 h1]; rfl
end
theorem ixN_ok {n : Nat} {j : Int} (h0 : 0 ≤ j) (h1 : j < n) : L2.ixN n j = some j.toNat := by
  unfold L2.ixN
  rw [if_pos h0, if_pos h1]
theorem atI_n (l : List D) (n : Nat) (h : n < l.length) : L2.atI l (n : Int) = l[n]? := by
  unfold L2.atI
  rw [ixN_ok (by omega) (by omega), Int.toNat_natCast]
  rfl
@[simp] theorem gIx_t3 (a b c d : D) (l : List D) : gIx (.tup (a :: b :: c :: d :: l)) (.int 3) = some (d, 0) := congrArg (Option.map fun d : D => (d, 0)) (atI_n (a :: b :: c :: d :: l) 3 (by simp))
@[simp] theorem gIx_t4 (a b c d e : D) (l : List D) : gIx (.tup (a :: b :: c :: d :: e :: l)) (.int 4) = some (e, 0) := congrArg (Option.map fun d : D => (d, 0)) (atI_n (a :: b :: c :: d :: e :: l) 4 (by simp))
@[simp] theorem gIx_t5 (a b c d e f : D) (l : List D) : gIx (.tup (a :: b :: c :: d :: e :: f :: l)) (.int 5) = some (f, 0) := congrArg (Option.map fun d : D => (d, 0)) (atI_n (a :: b :: c :: d :: e :: f :: l) 5 (by simp))
@[simp] theorem gIx_t6 (a b c d e f g : D) (l : List D) : gIx (.tup (a :: b :: c :: d :: e :: f :: g :: l)) (.int 6) = some (g, 0) := congrArg (Option.map fun d : D => (d, 0)) (atI_n (a :: b :: c :: d :: e :: f :: g :: l) 6 (by simp))
@[simp] theorem gIx_t7 (a b c d e f g h : D) (l : List D) : gIx (.tup (a :: b :: c :: d :: e :: f :: g :: h :: l)) (.int 7) = some (h, 0) := congrArg (Option.map fun d : D => (d, 0)) (atI_n (a :: b :: c :: d :: e :: f :: g :: h :: l) 7 (by simp))
@[simp] theorem gIx_l3 (a b c d : D) (l : List D) : gIx (.lst (a :: b :: c :: d :: l)) (.int 3) = some (d, 0) := congrArg (Option.map fun d : D => (d, 0)) (atI_n (a :: b :: c :: d :: l) 3 (by simp))
@[simp] theorem gIx_l4 (a b c d e : D) (l : List D) : gIx (.lst (a :: b :: c :: d :: e :: l)) (.int 4) = some (e, 0) := congrArg (Option.map fun d : D => (d, 0)) (atI_n (a :: b :: c :: d :: e :: l) 4 (by simp))
@[simp] theorem gIx_l5 (a b c d e f : D) (l : List D) : gIx (.lst (a :: b :: c :: d :: e :: f :: l)) (.int 5) = some (f, 0) := congrArg (Option.map fun d : D => (d, 0)) (atI_n (a :: b :: c :: d :: e :: f :: l) 5 (by simp))
@[simp] theorem gIx_l6 (a b c d e f g : D) (l : List D) : gIx (.lst (a :: b :: c :: d :: e :: f :: g :: l)) (.int 6) = some (g, 0) := congrArg (Option.map fun d : D => (d, 0)) (atI_n (a :: b :: c :: d :: e :: f :: g :: l) 6 (by simp))
@[simp] theorem gIx_l7 (a b c d e f g h : D) (l : List D) : gIx (.lst (a :: b :: c :: d :: e :: f :: g :: h :: l)) (.int 7) = some (h, 0) := congrArg (Option.map fun d : D => (d, 0)) (atI_n (a :: b :: c :: d :: e :: f :: g :: h :: l) 7 (by simp))
@[simp] theorem gIx_t0 (a : D) (l : List D) : gIx (.tup (a :: l)) (.int 0) = some (a, 0) := congrArg (Option.map fun d : D => (d, 0)) (atI_n (a :: l) 0 (Nat.zero_lt_succ _))
@[simp] theorem gIx_t1 (a b : D) (l : List D) : gIx (.tup (a :: b :: l)) (.int 1) = some (b, 0) := congrArg (Option.map fun d : D => (d, 0)) (atI_n (a :: b :: l) 1 (by simp))
@[simp] theorem gIx_t2 (a b c : D) (l : List D) : gIx (.tup (a :: b :: c :: l)) (.int 2) = some (c, 0) := congrArg (Option.map fun d : D => (d, 0)) (atI_n (a :: b :: c :: l) 2 (by simp))
@[simp] theorem gIx_l0 (a : D) (l : List D) : gIx (.lst (a :: l)) (.int 0) = some (a, 0) := congrArg (Option.map fun d : D => (d, 0)) (atI_n (a :: l) 0 (Nat.zero_lt_succ _))
@[simp] theorem gIx_l1 (a b : D) (l : List D) : gIx (.lst (a :: b :: l)) (.int 1) = some (b, 0) := congrArg (Option.map fun d : D => (d, 0)) (atI_n (a :: b :: l) 1 (by simp))
@[simp] theorem gIx_l2 (a b c : D) (l : List D) : gIx (.lst (a :: b :: c :: l)) (.int 2) = some (c, 0) := congrArg (Option.map fun d : D => (d, 0)) (atI_n (a :: b :: c :: l) 2 (by simp))
/-- a row, as a tuple or as a list -/
def eL (b : Bool) (xs : List D) : D := match b with
  | true => .tup xs
  | false => .lst xs
@[simp] theorem eL_true (xs : List D) : eL true xs = .tup xs := eqr rfl
@[simp] theorem eL_false (xs : List D) : eL false xs = .lst xs := eqr rfl
section
variable {b : Bool}
theorem gIx_eL {α : Type} [Inhabited α] (enc : α → D) {l : List α} {j : Int} (h0 : 0 ≤ j) (h1 : j < l.length) : gIx (eL b (l.map enc)) (.int j) = some (enc (gt l j), 0) := by
  cases b
  · exact gIx_lst enc h0 h1
  · exact gIx_tup enc h0 h1
@[simp] theorem gLen_eL (xs : List D) : gLen (eL b xs) = some (.int xs.length, 0) := by cases b <;> rfl
@[simp] theorem gList_eL (xs : List D) : gList (eL b xs) = some (.lst xs, 1) := by cases b <;> rfl
@[simp] theorem gTuple_eL (xs : List D) : gTuple (eL b xs) = some (.tup xs, 0) := by cases b <;> rfl
@[simp] theorem iAnyK_eL (xs : List D) (n : Nat) (sd : SD) : iAnyK (eL b xs, n) sd = .ok xs sd := by cases b <;> rfl
@[simp] theorem iEnuK_eL {α : Type} (enc : α → D) (l : List α) (n : Nat) (sd : SD) : iEnuK (eL b (l.map enc), n) sd = .ok (l.zipIdx.map fun p => .tup [.int (p.2 : Int), enc p.1]) sd := by
  cases b
  · exact iEnuK_lst sd enc l n
  · exact iEnuK_tup sd enc l n
@[simp] theorem gIn_eL (neg : Bool) (i : Int) (ns : List Int) : gIn neg (.int i) (eL b (ns.map .int)) = some (.bl (if neg then !decide (i ∈ ns) else decide (i ∈ ns)), 0) := by
  cases b
  · exact gIn_lst neg i ns
  · exact gIn_tup neg i ns
end
@[simp] theorem gMinE_ints (n : Int) (ns : List Int) : gMinE [.lst (.int n :: ns.map .int)] = some (.int (ns.foldl min n), 0) := by
  show (match intsOf ((n :: ns).map D.int) with
    | some (n :: ns) => some (D.int (ns.foldl min n), 0)
    | some [] => none
    | none => match pairsOf ((n :: ns).map D.int) with
      | some (p :: ps) => some (prD (minP p ps), 0)
      | _ => none) = _
  rw [intsOf_map]
@[simp] theorem gMax_ints (n : Int) (ns : List Int) : gMax [.lst (.int n :: ns.map .int)] = some (.int (ns.foldl max n), 0) := by
  show (match intsOf ((n :: ns).map D.int) with
    | some (n :: ns) => some (D.int (ns.foldl max n), 0)
    | _ => none) = _
  rw [intsOf_map]
section
variable {ws : List Nat} {g : Tg} {body : Sm} {kn kb kc : SD → FR}
theorem for_fold0 {α β : Type} (enc : α → D) (S : β → SD) (f : β → α → β) (l : List α) (b : β) (h : ∀ a ∈ l, ∀ b K, trn ws g body (enc a) (S b) K kn = K (S (f b a))) :
    (forGo ws g body (l.map enc) (S b)).fin kn kb kc = kn (S (l.foldl f b)) := (for_fold enc S (fun _ => True) f l b trivial fun a m b _ => ⟨trivial, h a m b⟩).1
theorem for_foldP {α β : Type} (enc : α → D) (S : β → SD) (P : β → Prop) (f : β → α → β) (l : List α) (b : β) (hp : P b) (h : ∀ a ∈ l, ∀ b, P b → P (f b a) ∧ ∀ K, trn ws g body (enc a) (S b) K kn = K (S (f b a))) :
    (forGo ws g body (l.map enc) (S b)).fin kn kb kc = kn (S (l.foldl f b)) := (for_fold enc S P f l b hp h).1
/-- a loop that gathers -/
theorem for_collect {α γ : Type} (enc : α → D) (S : List γ → SD) (h : α → Option γ) (l : List α) (acc : List γ) (hl : acc.length + l.length ≤ 1000000)
    (hs : ∀ a ∈ l, ∀ acc : List γ, acc.length < 1000000 → ∀ K, trn ws g body (enc a) (S acc) K kn = K (S (match h a with | some c => acc ++ [c] | none => acc))) :
    (forGo ws g body (l.map enc) (S acc)).fin kn kb kc = kn (S (acc ++ l.filterMap h)) := by
  induction l generalizing acc with
  | nil => rw [List.filterMap_nil, List.append_nil]; rfl
  | cons a l ih =>
    rw [List.length_cons] at hl
    rw [List.map_cons, forGo_cons, hs a List.mem_cons_self acc (by omega), List.filterMap_cons]
    cases h a with
    | none => exact ih acc (by omega) fun b m => hs b (List.mem_cons_of_mem _ m)
    | some c =>
      dsimp only
      rw [ih (acc ++ [c]) (by rw [List.length_append, List.length_singleton]; omega) fun b m => hs b (List.mem_cons_of_mem _ m), List.append_assoc]
      rfl
/-- a loop that keeps what is asked of its state; what it gives then is told for all such states -/
theorem for_inv {α β : Type} (enc : α → D) (S : β → SD) (I : Nat → β → Prop) (Q : FR → Prop) (l : List α) (b : β) (h0 : I 0 b)
    (hs : ∀ i a b, l[i]? = some a → I i b → ∀ K, (∀ b', I (i + 1) b' → Q (K (S b'))) → Q (trn ws g body (enc a) (S b) K kn)) (he : ∀ b, I l.length b → Q (kn (S b))) : Q ((forGo ws g body (l.map enc) (S b)).fin kn kb kc) := by
  induction l generalizing b I with
  | nil => exact he b h0
  | cons a l ih =>
    rw [List.map_cons, forGo_cons]
    exact hs 0 a b rfl h0 _ fun b' i => ih (fun j => I (j + 1)) b' i (fun j a b e hI => hs (j + 1) a b e hI) he
end
def cutA {α : Type} (xs : List α) (lo hi : Option Int) : List α := (xs.drop (HT.sIx xs.length 0 lo)).take (HT.sIx xs.length xs.length hi - HT.sIx xs.length 0 lo)
theorem cutD_map {α : Type} (enc : α → D) (l : List α) (lo hi : Option Int) : cutD (l.map enc) lo hi = (cutA l lo hi).map enc := by
  unfold cutD cutA
  rw [List.length_map, List.map_take, List.map_drop]
theorem cutA_len {α : Type} (l : List α) (lo hi : Option Int) : (cutA l lo hi).length ≤ l.length := by
  unfold cutA
  rw [List.length_take, List.length_drop]
  omega
theorem cutA_mem {α : Type} {l : List α} {lo hi : Option Int} {a : α} (h : a ∈ cutA l lo hi) : a ∈ l := List.mem_of_mem_drop (List.mem_of_mem_take h)
@[simp] theorem gSl_lst {α : Type} (enc : α → D) (l : List α) (lo hi : Option Int) : gSl (.lst (l.map enc)) lo hi = some (.lst ((cutA l lo hi).map enc), 1) := by
  rw [← cutD_map]; rfl
@[simp] theorem gSl_tup {α : Type} (enc : α → D) (l : List α) (lo hi : Option Int) : gSl (.tup (l.map enc)) lo hi = some (.tup ((cutA l lo hi).map enc), 0) := by
  rw [← cutD_map]; rfl
theorem gAdd_lstE {α : Type} (enc : α → D) (l l' : List α) (h : l.length + l'.length ≤ 1000000) : gAdd (.lst (l.map enc)) (.lst (l'.map enc)) = some (.lst ((l ++ l').map enc), 1) := by
  rw [gAdd_lst, if_pos (by rw [List.length_map, List.length_map]; exact Nat.le_trans h (by decide)), List.map_append]
end VS
namespace L61
open PySem PySem.Spec L2 VS
open PyProof.Rows (envOfC)
def topS (i : Nat) : Stmt := PySem.Challenge.pw_calmhouse_k61_wish_paper.main.body.getD i (.Pass ⟨0, 0, 0, 0⟩)

structure Txt (mg : Mg) : Prop where
  b_bool : mg "bool" = none
  b_enumerate : mg "enumerate" = none
  b_int : mg "int" = none
  b_isinstance : mg "isinstance" = none
  b_len : mg "len" = none
  b_list : mg "list" = none
  b_max : mg "max" = none
  b_min : mg "min" = none
  b_range : mg "range" = none
  b_set : mg "set" = none
  b_sorted : mg "sorted" = none
  b_str : mg "str" = none
  b_tuple : mg "tuple" = none
  c_MOST_EVENTS : ∃ t, mg "MOST_EVENTS" = some (.int 6 t)
  c_MOST_RESTS : ∃ t, mg "MOST_RESTS" = some (.int 60 t)

abbrev s_is_integer : Stmt := topS 7
def b_is_integer : Sm :=
    (zRet (vAnd (op1 (gIsi "int") (rdv 0)) (vNot (op1 (gIsi "bool") (rdv 0)))))
def f_is_integer : Fn := fnOf 1 b_is_integer
abbrev s_is_place : Stmt := topS 9
def b_is_place : Sm :=
    (zRet (vAnd (cal 1 f_is_integer [] (gFz (rdv 0) gNil)) (tv (chn gLe gLt (cst (.int 0)) (rdv 0) (rdv 1)))))
def f_is_place : Fn := fnOf 2 b_is_place
abbrev s_are_places : Stmt := topS 10
def b_are_places : Sm :=
    (zSeq (zSet 2 (op1 gNeg (cst (.int 1))))
    (zSeq (zFor [3] (iAny (rdv 0)) (gN 3)
    (zSeq (zIf (tOr' (tNot' (tst (cal 2 f_is_place [] (gFz (rdv 3) (gFz (rdv 1) gNil))))) (tst (op2 gLe (rdv 3) (rdv 2)))) (zRet (cst (.bl false))) zNil)
    (zSet 2 (rdv 3))))
    (zRet (cst (.bl true)))))
def f_are_places : Fn := fnOf 4 b_are_places
abbrev s_is_moves : Stmt := topS 11
def b_is_moves : Sm :=
    (zSeq (zSet 1 (bor1 gLen 0))
    (zSeq (zIf (tOr' (tNot' (chn gLe gLe (cst (.int 1)) (rdv 1) (cst (.int 60)))) (tst (op2 gGt (opN (un1 gLen) (aCons (ixv 0 (cst (.int 0))) aNil)) (cst (.int 6))))) (zRet (cst (.bl false))) zNil)
    (zSeq (zFor [2, 3, 4] (iAny (rdv 0)) (gN 2)
    (zSeq (zIf (tst (op2 gNe (bor1 gLen 2) (opN (un1 gLen) (aCons (ixv 0 (cst (.int 0))) aNil)))) (zRet (cst (.bl false))) zNil)
    (zFor [3, 4] (iAny (rdv 2)) (gT [(gN 3), (gN 4)])
    (zIf (tOr' (tNot' (tst (op1 (gIsi "bool") (rdv 4)))) (tNot' (tst (cal 2 f_are_places [] (gFz (rdv 3) (gFz (rdv 1) gNil)))))) (zRet (cst (.bl false))) zNil))))
    (zRet (cst (.bl true))))))
def f_is_moves : Fn := fnOf 5 b_is_moves
abbrev s_demand_question : Stmt := topS 12
def b_demand_question : Sm :=
    (zSeq (zIf (tNot' (tst (cal 1 f_is_moves [] (gFz (rdv 0) gNil)))) zNever zNil)
    (zSeq (zIf (tNot' (tst (cal 2 f_are_places [] (gFz (rdv 1) (gFz (bor1 gLen 0) gNil))))) zNever zNil)
    (zIf (tNot' (tst (cal 2 f_is_place [] (gFz (rdv 2) (gFz (bor1 gLen 0) gNil))))) zNever zNil)))
def f_demand_question : Fn := fnOf 3 b_demand_question
abbrev s_forcing_event : Stmt := topS 13
def b_forcing_event : Sm :=
    (zSeq (zFor [2, 3, 4, 5] (iEnu (rdv 0)) (gT [(gN 2), (gT [(gN 3), (gN 4)])])
    (zSeq (zFrz 5 (zSet 5 (lcS [6] (iAny (rdv 3)) (gN 6) (tst (op2 gLt (op2 gIx (ixv 1 (rdv 6)) (cst (.int 0))) (cst (.int 0)))) (rdv 6))))
    (zIf (tAnd' (tNot' (tst (rdv 4))) (tAnd' (tst (op2 gGt (bor1 gLen 3) (cst (.int 0)))) (tst (op2 gEq (bor1 gLen 5) (cst (.int 0)))))) (zRet (mvv 2)) zNil)))
    (zRet (op1 gNeg (cst (.int 1)))))
def f_forcing_event : Fn := fnOf 7 b_forcing_event
abbrev s_forced_plan : Stmt := topS 14
def b_forced_plan : Sm :=
    (zSeq (zSet 2 (lcS [3] (iAny (rdv 0)) (gN 3) tYes' (dTup (aCons (op1 gNeg (cst (.int 1))) (aCons (op1 gNeg (cst (.int 1))) aNil)))))
    (zSeq (zFor [4] (iAny (rdv 1)) (gN 4)
    (zPut 2 (rdv 4) (dTup (aCons (cst (.int 0)) (aCons (op1 gNeg (cst (.int 1))) aNil)))))
    (zSeq (zFor [5, 6, 7, 8, 9] (iR2 (cst (.int 1)) (bor1 gLen 0)) (gN 5)
    (zSeq (zSet 6 (dLst aNil))
    (zSeq (zFor [7, 8, 9] (iEnu (rdv 0)) (gT [(gN 7), (gN 8)])
    (zIf (tst (op2 gLt (op2 gIx (ixv 2 (rdv 7)) (cst (.int 0))) (cst (.int 0)))) (zSeq (zFrz 9 (zSet 9 (calB 2 f_forcing_event [] (bFz (rdv 8) (bBr 2 bNil)))))
    (zIf (tst (op2 gGe (rdv 9) (cst (.int 0)))) (zApp 6 (dTup (aCons (rdv 7) (aCons (rdv 9) aNil)))) zNil)) zNil))
    (zSeq (zIf (tst (op2 gEq (bor1 gLen 6) (cst (.int 0)))) zBk zNil)
    (zFor [7, 9] (iAny (rdv 6)) (gT [(gN 7), (gN 9)])
    (zPut 2 (rdv 7) (dTup (aCons (rdv 5) (aCons (rdv 9) aNil)))))))))
    (zRet (opN (un1 gTuple) (aCons (rdv 2) aNil))))))
def f_forced_plan : Fn := fnOf 10 b_forced_plan
abbrev s_wish_paper : Stmt := topS 15
def b_wish_paper : Sm :=
    (zSeq (zDrop (cal 3 f_demand_question [] (gFz (rdv 0) (gFz (rdv 1) (gFz (rdv 2) gNil)))))
    (zSeq (zFrz 3 (zSet 3 (cal 2 f_forced_plan [] (gFz (rdv 0) (gFz (rdv 1) gNil)))))
    (zSeq (zIf (tst (op2 gGe (op2 gIx (ixv 3 (rdv 2)) (cst (.int 0))) (cst (.int 0)))) (zRet (dTup (aCons (cst (.str "forced")) (aCons (rdv 3) aNil)))) zNil)
    (zRet (dTup (aCons (cst (.str "held")) (aCons (opN (un1 gTuple) (aCons (lcS [4] (iR1 (bor1 gLen 0)) (gN 4) (tst (op2 gLt (op2 gIx (ixv 3 (rdv 4)) (cst (.int 0))) (cst (.int 0)))) (rdv 4)) aNil)) aNil)))))))
def f_wish_paper : Fn := fnOf 5 b_wish_paper
abbrev s_pair_is_right : Stmt := topS 16
def b_pair_is_right : Sm :=
    (zSeq (zIf (tAnd' (tst (op2 gEq (rdv 2) (op1 gNeg (cst (.int 1))))) (tst (op2 gEq (rdv 3) (op1 gNeg (cst (.int 1)))))) (zRet (cst (.bl true))) zNil)
    (zSeq (zIf (tOr' (tst (op2 gLt (rdv 2) (cst (.int 1)))) (tNot' (tst (cal 2 f_is_place [] (gFz (rdv 3) (gFz (opN (un1 gLen) (aCons (ixv 0 (rdv 4)) aNil)) gNil)))))) (zRet (cst (.bl false))) zNil)
    (zSeq (zTg (gT [(gN 5), (gN 6)]) (op2 gIx (ixv 0 (rdv 4)) (rdv 3)))
    (zSeq (zIf (tOr' (tst (rdv 6)) (tst (op2 gEq (bor1 gLen 5) (cst (.int 0))))) (zRet (cst (.bl false))) zNil)
    (zSeq (zFor [7] (iAny (rdv 5)) (gN 7)
    (zIf (tNot' (chn gLe gLt (cst (.int 0)) (op2 gIx (ixv 1 (rdv 7)) (cst (.int 0))) (rdv 2))) (zRet (cst (.bl false))) zNil))
    (zRet (cst (.bl true))))))))
def f_pair_is_right : Fn := fnOf 8 b_pair_is_right
abbrev s_shows_plan : Stmt := topS 17
def b_shows_plan : Sm :=
    (zSeq (zIf (tOr' (tst (op2 gNe (bor1 gLen 3) (bor1 gLen 0))) (tNot' (tst (cal 2 f_is_place [] (gFz (rdv 2) (gFz (bor1 gLen 0) gNil)))))) (zRet (cst (.bl false))) zNil)
    (zSeq (zFor [4, 5, 6] (iEnu (rdv 3)) (gT [(gN 4), (gT [(gN 5), (gN 6)])])
    (zIf (tst (bor2 (gIn false) (rdv 4) 1)) (zIf (tOr' (tst (op2 gNe (rdv 5) (cst (.int 0)))) (tst (op2 gNe (rdv 6) (op1 gNeg (cst (.int 1)))))) (zRet (cst (.bl false))) zNil) (zIf (tNot' (tst (cal 5 f_pair_is_right [] (gFz (rdv 0) (gFz (rdv 3) (gFz (rdv 5) (gFz (rdv 6) (gFz (rdv 4) gNil)))))))) (zRet (cst (.bl false))) zNil)))
    (zRet (op2 gNe (op2 gIx (ixv 3 (rdv 2)) (cst (.int 0))) (op1 gNeg (cst (.int 1)))))))
def f_shows_plan : Fn := fnOf 7 b_shows_plan
abbrev s_holds_off : Stmt := topS 18
def b_holds_off : Sm :=
    (zSeq (zIf (tOr' (tst (rdv 1)) (tst (op2 gEq (bor1 gLen 0) (cst (.int 0))))) (zRet (cst (.bl true))) zNil)
    (zSeq (zFor [3] (iAny (rdv 0)) (gN 3)
    (zIf (tst (bor2 (gIn false) (rdv 3) 2)) (zRet (cst (.bl true))) zNil))
    (zRet (cst (.bl false)))))
def f_holds_off : Fn := fnOf 4 b_holds_off
abbrev s_shows_trap : Stmt := topS 19
def b_shows_trap : Sm :=
    (zSeq (zIf (tst (bor2 (gIn true) (rdv 2) 3)) (zRet (cst (.bl false))) zNil)
    (zSeq (zFor [4, 5, 6] (iAny (rdv 3)) (gN 4)
    (zSeq (zIf (tOr' (tNot' (tst (cal 2 f_is_place [] (gFz (rdv 4) (gFz (bor1 gLen 0) gNil))))) (tst (bor2 (gIn false) (rdv 4) 1))) (zRet (cst (.bl false))) zNil)
    (zFor [5, 6] (iAny (ixv 0 (rdv 4))) (gT [(gN 5), (gN 6)])
    (zIf (tNot' (tst (cal 3 f_holds_off [] (gFz (rdv 5) (gFz (rdv 6) (gFz (rdv 3) gNil)))))) (zRet (cst (.bl false))) zNil))))
    (zRet (cst (.bl true)))))
def f_shows_trap : Fn := fnOf 7 b_shows_trap
abbrev s__law_cell : Stmt := topS 21
def b__law_cell : Sm :=
    (zSeq (zIf (tst (op2 gLt (rdv 1) (bor1 gLen 0))) (zRet (ixv 0 (rdv 1))) zNil)
    (zRet (cst (.int 0))))
def f__law_cell : Fn := fnOf 2 b__law_cell
abbrev s__law_row : Stmt := topS 22
def b__law_row : Sm :=
    (zSeq (zSet 2 (rdv 0))
    (zSeq (zSet 3 (op2 gMod (opN (un1 gInt) (aCons (op2 gAdd (op2 gMul (rdv 0) (cst (.int 48271))) (cst (.int 12345))) aNil)) (cst (.int 2147483647))))
    (zSeq (zSet 4 (dLst aNil))
    (zSeq (zFor [5] (iAny (rdv 1)) (gN 5)
    (zIf (tst (op2 gGe (rdv 0) (op2 gPow (cst (.int 10)) (cst (.int 18))))) (zSeq (zApp 4 (op2 gMod (opN (un1 gInt) (aCons (rdv 2) aNil)) (rdv 5)))
    (zSet 2 (op2 gFdiv (rdv 2) (rdv 5)))) (zSeq (zSet 3 (op2 gMod (opN (un1 gInt) (aCons (op2 gAdd (op2 gMul (rdv 3) (cst (.int 16807))) (cst (.int 54321))) aNil)) (cst (.int 2147483647))))
    (zApp 4 (op2 gMod (op2 gFdiv (rdv 3) (cst (.int 64))) (rdv 5))))))
    (zRet (mvv 4))))))
def f__law_row : Fn := fnOf 6 b__law_row
abbrev s__law_targets : Stmt := topS 23
def b__law_targets : Sm :=
    (zSeq (zIf (tst (op2 gEq (ixv 0 (cst (.int 0))) (cst (.int 7)))) (zRet (lcS [2] (iR1 (rdv 1)) (gN 2) tYes' (rdv 2))) zNil)
    (zSeq (zSet 3 (op2 gIx (dLst (aCons (cst (.int 0)) (aCons (cst (.int 1)) (aCons (cst (.int 1)) (aCons (cst (.int 1)) (aCons (cst (.int 2)) (aCons (cst (.int 2)) (aCons (cst (.int 3)) aNil)))))))) (ixv 0 (cst (.int 0)))))
    (zRet (op1 gSortSet (lcS [4] (iAny (slE (rdv 0) (poS (cst (.int 1))) (poS (op2 gAdd (cst (.int 1)) (rdv 3))))) (gN 4) tYes' (op2 gMod (opN (un1 gInt) (aCons (rdv 4) aNil)) (rdv 1)))))))
def f__law_targets : Fn := fnOf 5 b__law_targets
abbrev s__law_moves : Stmt := topS 24
def b__law_moves : Sm :=
    (zSeq (zSet 3 (dLst aNil))
    (zSeq (zFor [4, 5, 6, 7] (iR1 (rdv 1)) (gN 4)
    (zSeq (zFrz 5 (zSet 5 (cal 2 f__law_row [] (gFz (op2 gAdd (cal 2 f__law_cell [] (gFz (rdv 0) (gFz (op2 gAdd (cst (.int 3)) (rdv 4)) gNil))) (op2 gMul (cst (.int 131)) (rdv 4))) (gFz (op2 gMul (dLst (aCons (cst (.int 8)) (aCons (cst (.int 60)) (aCons (cst (.int 60)) (aCons (cst (.int 60)) (aCons (cst (.int 5)) aNil)))))) (rdv 2)) gNil)))))
    (zSeq (zSet 6 (dLst aNil))
    (zSeq (zFor [7] (iR1 (rdv 2)) (gN 7)
    (zApp 6 (dTup (aCons (cal 2 f__law_targets [] (gFz (slE (rdv 5) (poS (op2 gMul (cst (.int 5)) (rdv 7))) (poS (op2 gAdd (op2 gMul (cst (.int 5)) (rdv 7)) (cst (.int 4))))) (gFz (rdv 1) gNil))) (aCons (op2 gEq (ixv 5 (op2 gAdd (op2 gMul (cst (.int 5)) (rdv 7)) (cst (.int 4)))) (cst (.int 1))) aNil)))))
    (zApp 3 (rdv 6))))))
    (zRet (mvv 3))))
def f__law_moves : Fn := fnOf 8 b__law_moves
abbrev s__law_chained : Stmt := topS 25
def b__law_chained : Sm :=
    (zSeq (zFrz 3 (zSet 3 (opN (un1 gSorted) (aCons (lcS [4] (iR1 (bor1 gLen 0)) (gN 4) tYes' (dTup (aCons (ixv 1 (rdv 4)) (aCons (rdv 4) aNil)))) aNil))))
    (zSeq (zFrz 5 (zSet 5 (lcS [6] (iAny (rdv 3)) (gN 6) tYes' (ixv 6 (cst (.int 1))))))
    (zSeq (zFor [7, 8, 9, 10, 11, 12, 13, 14] (iR2 (cst (.int 1)) (bor1 gLen 5)) (gN 7)
    (zSeq (zSet 8 (ixv 5 (rdv 7)))
    (zSeq (zSet 9 (op2 gMod (ixv 2 (rdv 7)) (opN (un1 gLen) (aCons (ixv 0 (rdv 8)) aNil))))
    (zSeq (zSet 10 (dLst aNil))
    (zSeq (zFor [11, 12, 13, 14] (iR1 (opN (un1 gLen) (aCons (ixv 0 (rdv 8)) aNil))) (gN 11)
    (zSeq (zTg (gT [(gN 12), (gN 13)]) (op2 gIx (ixv 0 (rdv 8)) (rdv 11)))
    (zIf (tst (op2 gEq (rdv 11) (rdv 9))) (zSeq (zFrz 14 (zSet 14 (dLst (aCons (ixv 5 (op2 gSub (rdv 7) (cst (.int 1)))) (aCons (ixv 5 (op2 gMod (opN (un1 gInt) (aCons (ixv 1 (rdv 7)) aNil)) (rdv 7))) aNil)))))
    (zApp 10 (dTup (aCons (op1 gSortSet (slE (rdv 14) poN (poS (op2 gAdd (cst (.int 1)) (op2 gMod (op2 gFdiv (ixv 2 (rdv 7)) (cst (.int 6))) (cst (.int 2))))))) (aCons (cst (.bl false)) aNil))))) (zApp 10 (dTup (aCons (op1 gSortSet (op2 gAdd (rdv 12) (dLst (aCons (ixv 5 (opN gMinE (aCons (op2 gAdd (rdv 7) (cst (.int 1))) (aCons (op2 gSub (bor1 gLen 5) (cst (.int 1))) aNil)))) aNil)))) (aCons (rdv 13) aNil)))))))
    (zPut 0 (rdv 8) (rdv 10)))))))
    (zRet (mvv 0)))))
def f__law_chained : Fn := fnOf 15 b__law_chained
abbrev s__law_copied : Stmt := topS 26
def b__law_copied : Sm :=
    (zSeq (zIf (tst (rdv 1)) (zRet (opN (un1 gTuple) (aCons (lcS [2] (iAny (rdv 0)) (gN 2) tYes' (opN (un1 gTuple) (aCons (lcS [3] (iAny (rdv 2)) (gN 3) tYes' (dTup (aCons (opN (un1 gTuple) (aCons (ixv 3 (cst (.int 0))) aNil)) (aCons (ixv 3 (cst (.int 1))) aNil)))) aNil))) aNil))) zNil)
    (zRet (lcS [2] (iAny (rdv 0)) (gN 2) tYes' (lcS [3] (iAny (rdv 2)) (gN 3) tYes' (dTup (aCons (opN (un1 gList) (aCons (ixv 3 (cst (.int 0))) aNil)) (aCons (ixv 3 (cst (.int 1))) aNil)))))))
def f__law_copied : Fn := fnOf 4 b__law_copied
abbrev s__law_is_integer : Stmt := topS 27
def b__law_is_integer : Sm :=
    (zRet (vAnd (op1 (gIsi "int") (rdv 0)) (vNot (op1 (gIsi "bool") (rdv 0)))))
def f__law_is_integer : Fn := fnOf 1 b__law_is_integer
abbrev s__law_plan_is_right : Stmt := topS 28
def b__law_plan_is_right : Sm :=
    (zSeq (zIf (tOr' (tst (op2 gNe (bor1 gLen 3) (bor1 gLen 0))) (tOr' (tNot' (chn gLe gLt (cst (.int 0)) (rdv 2) (bor1 gLen 0))) (tst (op2 gEq (op2 gIx (ixv 3 (rdv 2)) (cst (.int 0))) (op1 gNeg (cst (.int 1))))))) (zRet (cst (.bl false))) zNil)
    (zSeq (zFor [4, 5, 6, 7, 8, 9] (iR1 (bor1 gLen 0)) (gN 4)
    (zSeq (zTg (gT [(gN 5), (gN 6)]) (ixv 3 (rdv 4)))
    (zIf (tst (bor2 (gIn false) (rdv 4) 1)) (zIf (tOr' (tst (op2 gNe (rdv 5) (cst (.int 0)))) (tst (op2 gNe (rdv 6) (op1 gNeg (cst (.int 1)))))) (zRet (cst (.bl false))) zNil) (zIf (tOr' (tst (op2 gNe (rdv 5) (op1 gNeg (cst (.int 1))))) (tst (op2 gNe (rdv 6) (op1 gNeg (cst (.int 1)))))) (zSeq (zIf (tOr' (tst (op2 gLt (rdv 5) (cst (.int 1)))) (tNot' (chn gLe gLt (cst (.int 0)) (rdv 6) (opN (un1 gLen) (aCons (ixv 0 (rdv 4)) aNil))))) (zRet (cst (.bl false))) zNil)
    (zSeq (zTg (gT [(gN 7), (gN 8)]) (op2 gIx (ixv 0 (rdv 4)) (rdv 6)))
    (zSeq (zIf (tOr' (tst (rdv 8)) (tst (op2 gEq (bor1 gLen 7) (cst (.int 0))))) (zRet (cst (.bl false))) zNil)
    (zFor [9] (iAny (rdv 7)) (gN 9)
    (zIf (tNot' (chn gLe gLt (cst (.int 0)) (op2 gIx (ixv 3 (rdv 9)) (cst (.int 0))) (rdv 5))) (zRet (cst (.bl false))) zNil))))) zNil))))
    (zRet (cst (.bl true)))))
def f__law_plan_is_right : Fn := fnOf 10 b__law_plan_is_right
abbrev s__law_trap_is_right : Stmt := topS 29
def b__law_trap_is_right : Sm :=
    (zSeq (zIf (tst (bor2 (gIn true) (rdv 2) 3)) (zRet (cst (.bl false))) zNil)
    (zSeq (zFor [4, 5, 6] (iAny (rdv 3)) (gN 4)
    (zSeq (zIf (tOr' (tNot' (chn gLe gLt (cst (.int 0)) (rdv 4) (bor1 gLen 0))) (tst (bor2 (gIn false) (rdv 4) 1))) (zRet (cst (.bl false))) zNil)
    (zFor [5, 6] (iAny (ixv 0 (rdv 4))) (gT [(gN 5), (gN 6)])
    (zIf (tAnd' (tNot' (tst (rdv 6))) (tAnd' (tst (op2 gGt (bor1 gLen 5) (cst (.int 0)))) (tst (op2 gEq (opN (un1 gLen) (aCons (lcS [7] (iAny (rdv 5)) (gN 7) (tst (bor2 (gIn false) (rdv 7) 3)) (rdv 7)) aNil)) (cst (.int 0)))))) (zRet (cst (.bl false))) zNil))))
    (zRet (cst (.bl true)))))
def f__law_trap_is_right : Fn := fnOf 8 b__law_trap_is_right
abbrev s__law_best : Stmt := topS 30
def b__law_best : Sm :=
    (zSeq (zSet 2 (dTup (aCons (op1 gNeg (cst (.int 1))) (aCons (op1 gNeg (cst (.int 1))) aNil))))
    (zSeq (zFor [3, 4, 5, 6] (iR1 (bor1 gLen 0)) (gN 3)
    (zSeq (zTg (gT [(gN 4), (gN 5)]) (ixv 0 (rdv 3)))
    (zSeq (zFrz 6 (zSet 6 (lcS [7] (iAny (rdv 4)) (gN 7) tYes' (op2 gIx (ixv 1 (rdv 7)) (cst (.int 0))))))
    (zIf (tAnd' (tNot' (tst (rdv 5))) (tAnd' (tst (op2 gGt (bor1 gLen 6) (cst (.int 0)))) (tst (op2 gGe (opN gMinE (aCons (rdv 6) aNil)) (cst (.int 0)))))) (zIf (tOr' (tst (op2 gLt (ixv 2 (cst (.int 0))) (cst (.int 0)))) (tst (op2 gLt (op2 gAdd (opN gMax (aCons (rdv 6) aNil)) (cst (.int 1))) (ixv 2 (cst (.int 0)))))) (zSet 2 (dTup (aCons (op2 gAdd (opN gMax (aCons (rdv 6) aNil)) (cst (.int 1))) (aCons (rdv 3) aNil)))) zNil) zNil))))
    (zRet (mvv 2))))
def f__law_best : Fn := fnOf 8 b__law_best
abbrev s__law_plan_is_least : Stmt := topS 31
def b__law_plan_is_least : Sm :=
    (zSeq (zIf (tOr' (tNot' (tst (op1 (gIsi "tuple") (rdv 2)))) (tst (op2 gNe (bor1 gLen 2) (bor1 gLen 0)))) (zRet (cst (.bl false))) zNil)
    (zSeq (zFor [3, 4] (iR1 (bor1 gLen 0)) (gN 3)
    (zSeq (zSet 4 (ixv 2 (rdv 3)))
    (zSeq (zIf (tOr' (tNot' (tst (op1 (gIsi "tuple") (rdv 4)))) (tst (op2 gNe (bor1 gLen 4) (cst (.int 2))))) (zRet (cst (.bl false))) zNil)
    (zIf (tOr' (tNot' (tst (cal 1 f__law_is_integer [] (gFz (ixv 4 (cst (.int 0))) gNil)))) (tNot' (tst (cal 1 f__law_is_integer [] (gFz (ixv 4 (cst (.int 1))) gNil))))) (zRet (cst (.bl false))) zNil))))
    (zSeq (zFor [3] (iR1 (bor1 gLen 0)) (gN 3)
    (zIf (tst (bor2 (gIn false) (rdv 3) 1)) (zIf (tst (op2 gNe (ixv 2 (rdv 3)) (dTup (aCons (cst (.int 0)) (aCons (op1 gNeg (cst (.int 1))) aNil))))) (zRet (cst (.bl false))) zNil) (zIf (tst (op2 gNe (ixv 2 (rdv 3)) (cal 2 f__law_best [] (gFz (ixv 0 (rdv 3)) (gFz (rdv 2) gNil))))) (zRet (cst (.bl false))) zNil)))
    (zRet (cal 4 f__law_plan_is_right [] (gFz (rdv 0) (gFz (rdv 1) (gFz (ixv 1 (cst (.int 0))) (gFz (rdv 2) gNil)))))))))
def f__law_plan_is_least : Fn := fnOf 5 b__law_plan_is_least
abbrev s__law_is_paper : Stmt := topS 32
def b__law_is_paper : Sm :=
    (zSeq (zIf (tOr' (tNot' (tst (op1 (gIsi "tuple") (rdv 0)))) (tst (op2 gNe (bor1 gLen 0) (cst (.int 2))))) (zRet (cst (.bl false))) zNil)
    (zRet (vAnd (op1 (gIsi "str") (ixv 0 (cst (.int 0)))) (vAnd (op2 gEq (ixv 0 (cst (.int 0))) (rdv 1)) (op1 (gIsi "tuple") (ixv 0 (cst (.int 1))))))))
def f__law_is_paper : Fn := fnOf 2 b__law_is_paper
abbrev s__law_is_trap : Stmt := topS 33
def b__law_is_trap : Sm :=
    (zSeq (zIf (tOr' (tNot' (tst (cal 2 f__law_is_paper [] (gFz (rdv 0) (gFz (cst (.str "held")) gNil))))) (tst (op2 gNe (opN (un1 gLen) (aCons (ixv 0 (cst (.int 1))) aNil)) (bor1 gLen 1)))) (zRet (cst (.bl false))) zNil)
    (zSeq (zFor [2] (iR1 (bor1 gLen 1)) (gN 2)
    (zIf (tOr' (tNot' (tst (cal 1 f__law_is_integer [] (gFz (op2 gIx (ixv 0 (cst (.int 1))) (rdv 2)) gNil)))) (tst (op2 gNe (op2 gIx (ixv 0 (cst (.int 1))) (rdv 2)) (ixv 1 (rdv 2))))) (zRet (cst (.bl false))) zNil))
    (zRet (cst (.bl true)))))
def f__law_is_trap : Fn := fnOf 3 b__law_is_trap
abbrev s__law_is_plan : Stmt := topS 34
def b__law_is_plan : Sm :=
    (zRet (vAnd (cal 2 f__law_is_paper [] (gFz (rdv 0) (gFz (cst (.str "forced")) gNil))) (cal 3 f__law_plan_is_least [] (gFz (rdv 1) (gFz (rdv 2) (gFz (ixv 0 (cst (.int 1))) gNil))))))
def f__law_is_plan : Fn := fnOf 3 b__law_is_plan
abbrev s__law_says : Stmt := topS 35
def b__law_says : Sm :=
    (zRet (vAnd (op1 (gIsi "bool") (rdv 0)) (op2 gEq (rdv 0) (rdv 1))))
def f__law_says : Fn := fnOf 2 b__law_says
abbrev s__law_changed_plan : Stmt := topS 36
def b__law_changed_plan : Sm :=
    (zSeq (zSet 3 (op2 gMod (ixv 2 (cst (.int 0))) (bor1 gLen 0)))
    (zSeq (zSet 4 (op2 gMod (ixv 2 (cst (.int 1))) (bor1 gLen 0)))
    (zSeq (zSet 5 (opN (un1 gList) (aCons (rdv 0) aNil)))
    (zSeq (zIf (tst (op2 gEq (rdv 1) (cst (.int 0)))) (zPut 5 (rdv 3) (dTup (aCons (op2 gAdd (op2 gIx (ixv 0 (rdv 3)) (cst (.int 0))) (op2 gIx (dLst (aCons (cst (.int 1)) (aCons (op1 gNeg (cst (.int 1))) (aCons (cst (.int 2)) (aCons (op2 gPow (cst (.int 10)) (cst (.int 20))) aNil))))) (op2 gMod (ixv 2 (cst (.int 2))) (cst (.int 4))))) (aCons (op2 gIx (ixv 0 (rdv 3)) (cst (.int 1))) aNil)))) (zIf (tst (op2 gEq (rdv 1) (cst (.int 1)))) (zPut 5 (rdv 3) (dTup (aCons (op2 gIx (ixv 0 (rdv 3)) (cst (.int 0))) (aCons (op2 gSub (op2 gMod (ixv 2 (cst (.int 2))) (cst (.int 9))) (cst (.int 2))) aNil)))) (zIf (tst (op2 gEq (rdv 1) (cst (.int 2)))) (zSeq (zPut 5 (rdv 3) (ixv 0 (rdv 4)))
    (zPut 5 (rdv 4) (ixv 0 (rdv 3)))) (zIf (tst (op2 gEq (rdv 1) (cst (.int 3)))) (zPut 5 (rdv 3) (op2 gIx (dLst (aCons (dTup (aCons (op1 gNeg (cst (.int 1))) (aCons (op1 gNeg (cst (.int 1))) aNil))) (aCons (dTup (aCons (cst (.int 0)) (aCons (op1 gNeg (cst (.int 1))) aNil))) (aCons (dTup (aCons (cst (.int 1)) (aCons (cst (.int 0)) aNil))) aNil)))) (op2 gMod (ixv 2 (cst (.int 2))) (cst (.int 3))))) (zIf (tst (op2 gEq (rdv 1) (cst (.int 4)))) (zSet 5 (op2 gAdd (slE (rdv 5) poN (poS (rdv 3))) (slE (rdv 5) (poS (op2 gAdd (rdv 3) (cst (.int 1)))) poN))) (zIf (tst (op2 gEq (rdv 1) (cst (.int 5)))) (zSet 5 (op2 gAdd (rdv 5) (dLst (aCons (ixv 0 (rdv 3)) aNil)))) zNil))))))
    (zRet (mvv 5))))))
def f__law_changed_plan : Fn := fnOf 6 b__law_changed_plan
abbrev s__law_changed_trap : Stmt := topS 37
def b__law_changed_trap : Sm :=
    (zSeq (zSet 4 (op2 gMod (ixv 2 (cst (.int 0))) (op2 gAdd (bor1 gLen 0) (cst (.int 1)))))
    (zSeq (zFrz 5 (zSet 5 (opN (un1 gList) (aCons (rdv 0) aNil))))
    (zSeq (zIf (tOr' (tst (op2 gEq (rdv 1) (cst (.int 0)))) (tst (op2 gEq (rdv 1) (cst (.int 1))))) (zFrz 5 (zSet 5 (op2 gAdd (slE (rdv 5) poN (poS (rdv 4))) (slE (rdv 5) (poS (op2 gAdd (rdv 4) (cst (.int 1)))) poN)))) (zIf (tOr' (tst (op2 gEq (rdv 1) (cst (.int 2)))) (tst (op2 gEq (rdv 1) (cst (.int 3))))) (zFrz 5 (zSet 5 (op2 gAdd (op2 gAdd (slE (rdv 5) poN (poS (rdv 4))) (dLst (aCons (op2 gMod (ixv 2 (cst (.int 1))) (rdv 3)) aNil))) (slE (rdv 5) (poS (rdv 4)) poN)))) (zIf (tst (op2 gEq (rdv 1) (cst (.int 4)))) (zFrz 5 (zSet 5 (op2 gAdd (op2 gAdd (slE (rdv 5) poN (poS (rdv 4))) (dLst (aCons (op2 gIx (dLst (aCons (op1 gNeg (cst (.int 1))) (aCons (rdv 3) (aCons (op2 gPow (cst (.int 10)) (cst (.int 20))) aNil)))) (op2 gMod (ixv 2 (cst (.int 2))) (cst (.int 3)))) aNil))) (slE (rdv 5) (poS (rdv 4)) poN)))) zNil)))
    (zRet (mvv 5)))))
def f__law_changed_trap : Fn := fnOf 6 b__law_changed_trap
abbrev s__law_judges_agree : Stmt := topS 38
def b__law_judges_agree : Sm :=
    (zSeq (zFrz 6 (zSet 6 (dLst (aCons (rdv 2) (aCons (op2 gMod (ixv 5 (cst (.int 3))) (bor1 gLen 0)) (aCons (op1 gNeg (cst (.int 1))) (aCons (bor1 gLen 0) aNil)))))))
    (zSeq (zFrz 7 (zSet 7 (cal 3 f__law_changed_plan [] (gFz (rdv 3) (gFz (ixv 5 (cst (.int 0))) (gFz (slE (rdv 5) (poS (cst (.int 4))) (poS (cst (.int 7)))) gNil))))))
    (zSeq (zFrz 8 (zSet 8 (cal 4 f__law_changed_trap [] (gFz (rdv 4) (gFz (ixv 5 (cst (.int 1))) (gFz (slE (rdv 5) (poS (cst (.int 7))) (poS (cst (.int 10)))) (gFz (bor1 gLen 0) gNil)))))))
    (zSeq (zFor [9, 10] (iAny (dLst (aCons (ixv 6 (cst (.int 0))) (aCons (ixv 6 (cst (.int 1))) (aCons (ixv 6 (op2 gAdd (cst (.int 2)) (op2 gMod (ixv 5 (cst (.int 2))) (cst (.int 2))))) aNil))))) (gN 9)
    (zSeq (zFor [10] (iAny (dLst (aCons (opN (un1 gList) (aCons (rdv 3) aNil)) (aCons (rdv 7) aNil)))) (gN 10)
    (zIf (tNot' (tst (cal 2 f__law_says [] (gFz (cal 4 f_shows_plan [] (gFz (rdv 0) (gFz (rdv 1) (gFz (rdv 9) (gFz (rdv 10) gNil))))) (gFz (cal 4 f__law_plan_is_right [] (gFz (rdv 0) (gFz (rdv 1) (gFz (rdv 9) (gFz (rdv 10) gNil))))) gNil))))) (zRet (cst (.bl false))) zNil))
    (zFor [10] (iAny (dLst (aCons (opN (un1 gList) (aCons (rdv 4) aNil)) (aCons (rdv 8) aNil)))) (gN 10)
    (zIf (tNot' (tst (cal 2 f__law_says [] (gFz (cal 4 f_shows_trap [] (gFz (rdv 0) (gFz (rdv 1) (gFz (rdv 9) (gFz (rdv 10) gNil))))) (gFz (cal 4 f__law_trap_is_right [] (gFz (rdv 0) (gFz (rdv 1) (gFz (rdv 9) (gFz (rdv 10) gNil))))) gNil))))) (zRet (cst (.bl false))) zNil))))
    (zRet (cst (.bl true)))))))
def f__law_judges_agree : Fn := fnOf 11 b__law_judges_agree
abbrev s_law : Stmt := topS 39
def t_law_17 : Sm :=
    (zSeq (zFrz 17 (zSet 17 (lcS [7] (iR1 (rdv 2)) (gN 7) (tst (op2 gEq (op2 gIx (ixv 15 (rdv 7)) (cst (.int 0))) (op1 gNeg (cst (.int 1))))) (rdv 7))))
    (zSeq (zFrz 18 (zSet 18 (opN (un1 gList) (aCons (rdv 12) aNil))))
    (zSeq (zFrz 19 (zSet 19 (cal 3 f_wish_paper [] (gFz (rdv 14) (gFz (rdv 18) (gFz (rdv 13) gNil))))))
    (zSeq (zIf (tst (bor2 (gIn false) (rdv 13) 17)) (zIf (tOr' (tNot' (tst (cal 4 f__law_trap_is_right [] (gFz (rdv 4) (gFz (rdv 12) (gFz (rdv 13) (gFz (rdv 17) gNil))))))) (tNot' (tst (cal 2 f__law_is_trap [] (gFz (rdv 19) (gFz (rdv 17) gNil)))))) (zRet (cst (.bl false))) zNil) (zIf (tNot' (tst (cal 3 f__law_is_plan [] (gFz (rdv 19) (gFz (rdv 4) (gFz (rdv 12) gNil)))))) (zRet (cst (.bl false))) zNil))
    (zSeq (zIf (tNot' (tst (cal 6 f__law_judges_agree [] (gFz (rdv 14) (gFz (rdv 18) (gFz (rdv 13) (gFz (rdv 15) (gFz (rdv 17) (gFz (slE (rdv 1) (poS (cst (.int 8))) poN) gNil))))))))) (zRet (cst (.bl false))) zNil)
    (zRet (vAnd (op2 gEq (rdv 14) (cal 2 f__law_copied [] (gFz (rdv 4) (gFz (op2 gEq (ixv 1 (cst (.int 5))) (cst (.int 1))) gNil)))) (op2 gEq (rdv 18) (rdv 12)))))))))
def t_law_14 : Sm :=
    (zSeq (zIf (tst (op2 (gIs true) (cal 1 f_is_moves [] (gFz (rdv 14) gNil)) (cst (.bl true)))) (zRet (cst (.bl false))) zNil)
    (zSeq (zSet 15 (opN (un1 gTuple) (aCons (lcS [7] (iR1 (rdv 2)) (gN 7) tYes' (dTup (aCons (op1 gNeg (cst (.int 1))) (aCons (op1 gNeg (cst (.int 1))) aNil)))) aNil)))
    (zSeq (zIf (tst (op2 gGt (bor1 gLen 12) (cst (.int 0)))) (zSeq (zFrz 16 (zSet 16 (cal 3 f_wish_paper [] (gFz (rdv 14) (gFz (opN (un1 gList) (aCons (rdv 12) aNil)) (gFz (ixv 12 (cst (.int 0))) gNil))))))
    (zSeq (zIf (tNot' (tst (cal 3 f__law_is_plan [] (gFz (rdv 16) (gFz (rdv 4) (gFz (rdv 12) gNil)))))) (zRet (cst (.bl false))) zNil)
    (zSet 15 (ixv 16 (cst (.int 1)))))) zNil)
    t_law_17)))
def t_law_11 : Sm :=
    (zSeq (zFrz 12 (zSet 12 (lcS [7] (iR1 (rdv 2)) (gN 7) (tst (op2 gEq (ixv 10 (rdv 7)) (cst (.int 1)))) (rdv 7))))
    (zSeq (zSet 13 (op2 gMod (ixv 1 (cst (.int 6))) (rdv 2)))
    (zSeq (zFrz 14 (zSet 14 (cal 2 f__law_copied [] (gFz (rdv 4) (gFz (op2 gEq (ixv 1 (cst (.int 5))) (cst (.int 1))) gNil)))))
    t_law_14)))
def t_law_8 : Sm :=
    (zSeq (zSet 9 (op2 gIx (dLst (aCons (cst (.int 2)) (aCons (cst (.int 5)) (aCons (cst (.int 12)) aNil)))) (ixv 1 (cst (.int 7)))))
    (zSeq (zFrz 10 (zSet 10 (cal 2 f__law_row [] (gFz (cal 2 f__law_cell [] (gFz (rdv 0) (gFz (cst (.int 1)) gNil))) (gFz (lcS [7] (iR1 (rdv 2)) (gN 7) tYes' (rdv 9)) gNil)))))
    (zSeq (zIf (tAnd' (tst (rdv 5)) (tst (op2 gEq (ixv 1 (cst (.int 7))) (cst (.int 2))))) (zSeq (zSet 11 (op2 gIx (opN gMinE (aCons (lcS [7] (iR1 (rdv 2)) (gN 7) tYes' (dTup (aCons (op2 gFdiv (ixv 6 (rdv 7)) (cst (.int 12))) (aCons (rdv 7) aNil)))) aNil)) (cst (.int 1))))
    (zFrz 10 (zSet 10 (lcS [7] (iR1 (rdv 2)) (gN 7) tYes' (opN (un1 gInt) (aCons (op2 gEq (rdv 7) (rdv 11)) aNil)))))) zNil)
    t_law_11)))
def t_law_4 : Sm :=
    (zSeq (zSet 4 (cal 3 f__law_moves [] (gFz (rdv 0) (gFz (rdv 2) (gFz (rdv 3) gNil)))))
    (zSeq (zSet 5 (vAnd (op2 gEq (ixv 1 (cst (.int 4))) (cst (.int 1))) (op2 gGt (rdv 3) (cst (.int 0)))))
    (zSeq (zFrz 6 (zSet 6 (cal 2 f__law_row [] (gFz (cal 2 f__law_cell [] (gFz (rdv 0) (gFz (cst (.int 2)) gNil))) (gFz (lcS [7] (iR1 (rdv 2)) (gN 7) tYes' (cst (.int 12000))) gNil)))))
    (zSeq (zIf (tst (rdv 5)) (zSet 4 (cal 3 f__law_chained [] (gMv (mvv 4) (gFz (lcS [8] (iAny (rdv 6)) (gN 8) tYes' (op2 gFdiv (rdv 8) (cst (.int 12)))) (gFz (lcS [8] (iAny (rdv 6)) (gN 8) tYes' (op2 gMod (opN (un1 gInt) (aCons (rdv 8) aNil)) (cst (.int 12)))) gNil))))) zNil)
    t_law_8))))
def b_law : Sm :=
    (zSeq (zFrz 1 (zSet 1 (cal 2 f__law_row [] (gFz (cal 2 f__law_cell [] (gFz (rdv 0) (gFz (cst (.int 0)) gNil))) (gFz (op2 gAdd (dLst (aCons (cst (.int 4)) (aCons (cst (.int 40)) (aCons (cst (.int 16)) (aCons (cst (.int 7)) (aCons (cst (.int 2)) (aCons (cst (.int 2)) (aCons (cst (.int 60)) (aCons (cst (.int 3)) aNil))))))))) (dLst (aCons (cst (.int 6)) (aCons (cst (.int 5)) (aCons (cst (.int 2)) (aCons (cst (.int 60)) (aCons (cst (.int 60)) (aCons (cst (.int 60)) (aCons (cst (.int 12)) (aCons (cst (.int 60)) (aCons (cst (.int 60)) (aCons (cst (.int 6)) aNil)))))))))))) gNil)))))
    (zSeq (zSet 2 (op2 gAdd (cst (.int 1)) (ixv 1 (cst (.int 2)))))
    (zSeq (zSet 3 (ixv 1 (cst (.int 3))))
    (zSeq (zIf (tst (op2 gEq (ixv 1 (cst (.int 0))) (cst (.int 0)))) (zSeq (zSet 2 (op2 gAdd (cst (.int 1)) (ixv 1 (cst (.int 1)))))
    (zSet 3 (op2 gAdd (cst (.int 1)) (op2 gMod (ixv 1 (cst (.int 3))) (cst (.int 2)))))) zNil)
    t_law_4))))
def f_law : Fn := fnOf 20 b_law
section
variable {P : Program} {w : World} {K : PySem.W.Frag} {mg : Mg} {base : Heap}
theorem sc_is_integer : FnScope ["value"] ["value"] (defScope s_is_integer) := ⟨rfl, rfl, rfl, by decide +kernel, rfl, by decide +kernel, by decide +kernel⟩
theorem ok_is_integer (T : Txt mg) (hf : IsFn K mg "is_integer" s_is_integer)  : Def P w K mg base "is_integer" 1 1 [] f_is_integer := by
  refine def_ok (k := 0) (body := b_is_integer) hf sc_is_integer (fun _ _ _ _ _ _ us hl => match us, hl with | [_], _ => rfl) fun f cdv A outer s H E C => ?_
  exact (ss_one (ss_ret (se_and (se_isi (T := "int") (se_rdv 0) rfl T.b_isinstance rfl T.b_int (by decide +kernel)) (se_one (se_not (se_isi (T := "bool") (se_rdv 0) rfl T.b_isinstance rfl T.b_bool (by decide +kernel)))))))
theorem sc_is_place : FnScope ["value", "size"] ["value", "size"] (defScope s_is_place) := ⟨rfl, rfl, rfl, by decide +kernel, rfl, by decide +kernel, by decide +kernel⟩
theorem ok_is_place (T : Txt mg) (hf : IsFn K mg "is_place" s_is_place) (G_is_integer : Def P w K mg base "is_integer" 1 1 [] f_is_integer) : Def P w K mg base "is_place" 2 2 [] f_is_place := by
  refine def_ok (k := 1) (body := b_is_place) hf sc_is_place (fun _ _ _ _ _ _ us hl => match us, hl with | [_, _], _ => rfl) fun f cdv A outer s H E C => ?_
  exact (ss_one (ss_ret (se_and (se_call G_is_integer (C.hr.mono (by decide)) C.tk (sga_fz (se_rdv 0) sga_nil)) (se_one (se_chn op_le op_lt vr_cI vr_cI se_int (se_rdv 0) (se_rdv 1))))))
theorem sc_are_places : FnScope ["row", "size", "last", "value"] ["row", "size"] (defScope s_are_places) := ⟨rfl, rfl, rfl, by decide +kernel, rfl, by decide +kernel, by decide +kernel⟩
theorem ok_are_places (T : Txt mg) (hf : IsFn K mg "are_places" s_are_places) (G_is_place : Def P w K mg base "is_place" 2 2 [] f_is_place) : Def P w K mg base "are_places" 3 2 [] f_are_places := by
  refine def_ok (k := 2) (body := b_are_places) hf sc_are_places (fun _ _ _ _ _ _ us hl => match us, hl with | [_, _], _ => rfl) fun f cdv A outer s H E C => ?_
  exact (ss_cons (ss_set 2 (se_un un_neg vr_neg se_int) C.nd)
    (ss_cons (ss_for (vs := [3]) (ws := [3]) C.hp C.calm (si_any (se_rdv 0)) (sg_n 3 C.nd)
    (ss_cons (ss_if (st_w (sw_or (st_not (st_val (se_call G_is_place (C.hr.mono (by decide)) C.tk (sga_fz (se_rdv 3) (sga_fz (se_rdv 1) sga_nil))))) (sw_or1 (st_cmp op_le vr_cI (se_rdv 3) (se_rdv 2))))) (ss_one (ss_ret se_bl)) ss_nil)
    (ss_one (ss_set 2 (se_rdv 3) C.nd))))
    (ss_one (ss_ret se_bl))))
theorem sc_is_moves : FnScope ["moves", "size", "row", "targets", "endless"] ["moves"] (defScope s_is_moves) := ⟨rfl, rfl, rfl, by decide +kernel, rfl, by decide +kernel, by decide +kernel⟩
theorem ok_is_moves (T : Txt mg) (hf : IsFn K mg "is_moves" s_is_moves) (G_are_places : Def P w K mg base "are_places" 3 2 [] f_are_places) : Def P w K mg base "is_moves" 4 1 [] f_is_moves := by
  refine def_ok (k := 3) (body := b_is_moves) hf sc_is_moves (fun _ _ _ _ _ _ us hl => match us, hl with | [_], _ => rfl) fun f cdv A outer s H E C => ?_
  exact (ss_cons (ss_set 1 (se_borB 0 cLen vr_len rfl T.b_len (by decide +kernel)) C.nd)
    (ss_cons (ss_if (st_w (sw_or (st_not (st_chn op_le op_le vr_cI vr_cI se_int (se_rdv 1) (se_globI T.c_MOST_RESTS))) (sw_or1 (st_cmp op_gt vr_cI (se_callB cLen vr_len rfl T.b_len (by decide +kernel) (sa_cons (se_ixv 0 se_int) sa_nil)) (se_globI T.c_MOST_EVENTS))))) (ss_one (ss_ret se_bl)) ss_nil)
    (ss_cons (ss_for (vs := [2]) (ws := [2, 3, 4]) C.hp C.calm (si_any (se_rdv 0)) (sg_n 2 C.nd)
    (ss_cons (ss_if (st_cmp (oNe C.hu) vr_ne (se_borB 2 cLen vr_len rfl T.b_len (by decide +kernel)) (se_callB cLen vr_len rfl T.b_len (by decide +kernel) (sa_cons (se_ixv 0 se_int) sa_nil))) (ss_one (ss_ret se_bl)) ss_nil)
    (ss_one (ss_for (vs := [3, 4]) (ws := [3, 4]) C.hp C.calm (si_any (se_rdv 2)) (sg_t C.calm (sgs_cons (sg_n 3 C.nd) (sgs_cons (sg_n 4 C.nd) sgs_nil)))
    (ss_one (ss_if (st_w (sw_or (st_not (st_val (se_isi (T := "bool") (se_rdv 4) rfl T.b_isinstance rfl T.b_bool (by decide +kernel)))) (sw_or1 (st_not (st_val (se_call G_are_places (C.hr.mono (by decide)) C.tk (sga_fz (se_rdv 3) (sga_fz (se_rdv 1) sga_nil)))))))) (ss_one (ss_ret se_bl)) ss_nil))))))
    (ss_one (ss_ret se_bl)))))
theorem sc_demand_question : FnScope ["moves", "goals", "start"] ["moves", "goals", "start"] (defScope s_demand_question) := ⟨rfl, rfl, rfl, by decide +kernel, rfl, by decide +kernel, by decide +kernel⟩
theorem ok_demand_question (T : Txt mg) (hf : IsFn K mg "demand_question" s_demand_question) (G_is_place : Def P w K mg base "is_place" 2 2 [] f_is_place) (G_are_places : Def P w K mg base "are_places" 3 2 [] f_are_places) (G_is_moves : Def P w K mg base "is_moves" 4 1 [] f_is_moves) : Def P w K mg base "demand_question" 5 3 [] f_demand_question := by
  refine def_ok (k := 4) (body := b_demand_question) hf sc_demand_question (fun _ _ _ _ _ _ us hl => match us, hl with | [_, _, _], _ => rfl) fun f cdv A outer s H E C => ?_
  exact (ss_cons (ss_if (st_not (st_val (se_call G_is_moves (C.hr.mono (by decide)) C.tk (sga_fz (se_rdv 0) sga_nil)))) (ss_one ss_never) ss_nil)
    (ss_cons (ss_if (st_not (st_val (se_call G_are_places (C.hr.mono (by decide)) C.tk (sga_fz (se_rdv 1) (sga_fz (se_borB 0 cLen vr_len rfl T.b_len (by decide +kernel)) sga_nil))))) (ss_one ss_never) ss_nil)
    (ss_one (ss_if (st_not (st_val (se_call G_is_place (C.hr.mono (by decide)) C.tk (sga_fz (se_rdv 2) (sga_fz (se_borB 0 cLen vr_len rfl T.b_len (by decide +kernel)) sga_nil))))) (ss_one ss_never) ss_nil))))
theorem sc_forcing_event : FnScope ["row", "plan", "event", "targets", "endless", "missing", "after"] ["row", "plan"] (defScope s_forcing_event) := ⟨rfl, rfl, rfl, by decide +kernel, rfl, by decide +kernel, by decide +kernel⟩
theorem ok_forcing_event (T : Txt mg) (hf : IsFn K mg "forcing_event" s_forcing_event)  : Def P w K mg base "forcing_event" 1 2 [] f_forcing_event := by
  refine def_ok (k := 0) (body := b_forcing_event) hf sc_forcing_event (fun _ _ _ _ _ _ us hl => match us, hl with | [_, _], _ => rfl) fun f cdv A outer s H E C => ?_
  exact (ss_cons (ss_for (vs := [2, 3, 4]) (ws := [2, 3, 4, 5]) C.hp C.calm (si_enum (se_rdv 0) rfl T.b_enumerate) (sg_t C.calm (sgs_cons (sg_n 2 C.nd) (sgs_cons (sg_t C.calm (sgs_cons (sg_n 3 C.nd) (sgs_cons (sg_n 4 C.nd) sgs_nil))) sgs_nil)))
    (ss_cons (ss_frz 5 (ss_setLc 5 (own := [("after", 6)]) C.calm C.nd rfl rfl (sw_true rfl rfl rfl (by decide +kernel)) (si_any (se_rdv 3)) (blkOk_by (by kernel_rfl)) (fun _ _ _ _ _ => (sg_n 6 C.nd)) (fun _ _ _ _ _ => (st_one (st_cmp op_lt vr_cI (se_ix (se_ixv 1 (se_rdv 6)) se_int) se_int))) (fun _ _ _ _ _ => (se_rdv 6))))
    (ss_one (ss_if (st_w (sw_and (st_not (st_val (se_rdv 4))) (sw_and (st_cmp op_gt vr_cI (se_borB 3 cLen vr_len rfl T.b_len (by decide +kernel)) se_int) (sw_and1 (st_cmp (oEq C.hu) vr_eq (se_borB 5 cLen vr_len rfl T.b_len (by decide +kernel)) se_int))))) (ss_one (ss_ret (se_mvv 2))) ss_nil))))
    (ss_one (ss_ret (se_un un_neg vr_neg se_int))))
theorem sc_forced_plan : FnScope ["moves", "goals", "plan", "_", "goal", "rank", "found", "rest", "row", "event"] ["moves", "goals"] (defScope s_forced_plan) := ⟨rfl, rfl, rfl, by decide +kernel, rfl, by decide +kernel, by decide +kernel⟩
theorem ok_forced_plan (T : Txt mg) (hf : IsFn K mg "forced_plan" s_forced_plan) (G_forcing_event : Def P w K mg base "forcing_event" 1 2 [] f_forcing_event) : Def P w K mg base "forced_plan" 2 2 [] f_forced_plan := by
  refine def_ok (k := 1) (body := b_forced_plan) hf sc_forced_plan (fun _ _ _ _ _ _ us hl => match us, hl with | [_, _], _ => rfl) fun f cdv A outer s H E C => ?_
  exact (ss_cons (ss_setLc 2 (own := [("_", 3)]) C.calm C.nd rfl rfl (sw_true rfl rfl rfl (by decide +kernel)) (si_any (se_rdv 0)) (blkOk_by (by kernel_rfl)) (fun _ _ _ _ _ => (sg_n 3 C.nd)) (fun _ _ _ _ _ => st_yes) (fun _ _ _ _ _ => (se_tup (sa_cons (se_un un_neg vr_neg se_int) (sa_cons (se_un un_neg vr_neg se_int) sa_nil)))))
    (ss_cons (ss_for (vs := [4]) (ws := [4]) C.hp C.calm (si_any (se_rdv 1)) (sg_n 4 C.nd)
    (ss_one (ss_put 2 (se_rdv 4) (se_tup (sa_cons se_int (sa_cons (se_un un_neg vr_neg se_int) sa_nil))))))
    (ss_cons (ss_for (vs := [5]) (ws := [5, 6, 7, 8, 9]) C.hp C.calm (si_r2 se_int (se_borB 0 cLen vr_len rfl T.b_len (by decide +kernel)) rfl T.b_range) (sg_n 5 C.nd)
    (ss_cons (ss_set 6 (se_lst sa_nil) C.nd)
    (ss_cons (ss_for (vs := [7, 8]) (ws := [7, 8, 9]) C.hp C.calm (si_enum (se_rdv 0) rfl T.b_enumerate) (sg_t C.calm (sgs_cons (sg_n 7 C.nd) (sgs_cons (sg_n 8 C.nd) sgs_nil)))
    (ss_one (ss_if (st_cmp op_lt vr_cI (se_ix (se_ixv 2 (se_rdv 7)) se_int) se_int) (ss_cons (ss_frz 9 (ss_set 9 (se_callL G_forcing_event (C.hr.mono (by decide)) C.tk (sgb_fz (se_rdv 8) (sgb_br 2 sgb_nil))) C.nd))
    (ss_one (ss_if (st_cmp op_ge vr_cI (se_rdv 9) se_int) (ss_one (ss_app 6 (se_tup (sa_cons (se_rdv 7) (sa_cons (se_rdv 9) sa_nil))))) ss_nil))) ss_nil)))
    (ss_cons (ss_if (st_cmp (oEq C.hu) vr_eq (se_borB 6 cLen vr_len rfl T.b_len (by decide +kernel)) se_int) (ss_one ss_break) ss_nil)
    (ss_one (ss_for (vs := [7, 9]) (ws := [7, 9]) C.hp C.calm (si_any (se_rdv 6)) (sg_t C.calm (sgs_cons (sg_n 7 C.nd) (sgs_cons (sg_n 9 C.nd) sgs_nil)))
    (ss_one (ss_put 2 (se_rdv 7) (se_tup (sa_cons (se_rdv 5) (sa_cons (se_rdv 9) sa_nil)))))))))))
    (ss_one (ss_ret (se_callTy call_tuple_of vr_tuple rfl T.b_tuple (by decide +kernel) (sa_cons (se_rdv 2) sa_nil)))))))
theorem sc_wish_paper : FnScope ["moves", "goals", "start", "plan", "rest"] ["moves", "goals", "start"] (defScope s_wish_paper) := ⟨rfl, rfl, rfl, by decide +kernel, rfl, by decide +kernel, by decide +kernel⟩
theorem ok_wish_paper (T : Txt mg) (hf : IsFn K mg "wish_paper" s_wish_paper) (G_demand_question : Def P w K mg base "demand_question" 5 3 [] f_demand_question) (G_forced_plan : Def P w K mg base "forced_plan" 2 2 [] f_forced_plan) : Def P w K mg base "wish_paper" 6 3 [] f_wish_paper := by
  refine def_ok (k := 5) (body := b_wish_paper) hf sc_wish_paper (fun _ _ _ _ _ _ us hl => match us, hl with | [_, _, _], _ => rfl) fun f cdv A outer s H E C => ?_
  exact (ss_cons (ss_drop (se_call G_demand_question (C.hr.mono (by decide)) C.tk (sga_fz (se_rdv 0) (sga_fz (se_rdv 1) (sga_fz (se_rdv 2) sga_nil)))))
    (ss_cons (ss_frz 3 (ss_set 3 (se_call G_forced_plan (C.hr.mono (by decide)) C.tk (sga_fz (se_rdv 0) (sga_fz (se_rdv 1) sga_nil))) C.nd))
    (ss_cons (ss_if (st_cmp op_ge vr_cI (se_ix (se_ixv 3 (se_rdv 2)) se_int) se_int) (ss_one (ss_ret (se_tup (sa_cons se_str (sa_cons (se_rdv 3) sa_nil))))) ss_nil)
    (ss_one (ss_ret (se_tup (sa_cons se_str (sa_cons (se_callTy call_tuple_of vr_tuple rfl T.b_tuple (by decide +kernel) (sa_cons (se_lc (own := [("rest", 4)]) C.calm C.nd (si_r1 (se_borB 0 cLen vr_len rfl T.b_len (by decide +kernel)) rfl T.b_range) (blkOk_by (by kernel_rfl)) (fun _ _ _ _ _ => (sg_n 4 C.nd)) (fun _ _ _ _ _ => (st_one (st_cmp op_lt vr_cI (se_ix (se_ixv 3 (se_rdv 4)) se_int) se_int))) (fun _ _ _ _ _ => (se_rdv 4))) sa_nil)) sa_nil))))))))
theorem sc_pair_is_right : FnScope ["moves", "plan", "rank", "event", "rest", "targets", "endless", "after"] ["moves", "plan", "rank", "event", "rest"] (defScope s_pair_is_right) := ⟨rfl, rfl, rfl, by decide +kernel, rfl, by decide +kernel, by decide +kernel⟩
theorem ok_pair_is_right (T : Txt mg) (hf : IsFn K mg "pair_is_right" s_pair_is_right) (G_is_place : Def P w K mg base "is_place" 2 2 [] f_is_place) : Def P w K mg base "pair_is_right" 3 5 [] f_pair_is_right := by
  refine def_ok (k := 2) (body := b_pair_is_right) hf sc_pair_is_right (fun _ _ _ _ _ _ us hl => match us, hl with | [_, _, _, _, _], _ => rfl) fun f cdv A outer s H E C => ?_
  exact (ss_cons (ss_if (st_w (sw_and (st_cmp (oEq C.hu) vr_eq (se_rdv 2) (se_un un_neg vr_neg se_int)) (sw_and1 (st_cmp (oEq C.hu) vr_eq (se_rdv 3) (se_un un_neg vr_neg se_int))))) (ss_one (ss_ret se_bl)) ss_nil)
    (ss_cons (ss_if (st_w (sw_or (st_cmp op_lt vr_cI (se_rdv 2) se_int) (sw_or1 (st_not (st_val (se_call G_is_place (C.hr.mono (by decide)) C.tk (sga_fz (se_rdv 3) (sga_fz (se_callB cLen vr_len rfl T.b_len (by decide +kernel) (sa_cons (se_ixv 0 (se_rdv 4)) sa_nil)) sga_nil)))))))) (ss_one (ss_ret se_bl)) ss_nil)
    (ss_cons (ss_tg (vs := [5, 6]) (se_ix (se_ixv 0 (se_rdv 4)) (se_rdv 3)) (sg_t C.calm (sgs_cons (sg_n 5 C.nd) (sgs_cons (sg_n 6 C.nd) sgs_nil))))
    (ss_cons (ss_if (st_w (sw_or (st_val (se_rdv 6)) (sw_or1 (st_cmp (oEq C.hu) vr_eq (se_borB 5 cLen vr_len rfl T.b_len (by decide +kernel)) se_int)))) (ss_one (ss_ret se_bl)) ss_nil)
    (ss_cons (ss_for (vs := [7]) (ws := [7]) C.hp C.calm (si_any (se_rdv 5)) (sg_n 7 C.nd)
    (ss_one (ss_if (st_not (st_chn op_le op_lt vr_cI vr_cI se_int (se_ix (se_ixv 1 (se_rdv 7)) se_int) (se_rdv 2))) (ss_one (ss_ret se_bl)) ss_nil)))
    (ss_one (ss_ret se_bl)))))))
theorem sc_shows_plan : FnScope ["moves", "goals", "start", "plan", "rest", "rank", "event"] ["moves", "goals", "start", "plan"] (defScope s_shows_plan) := ⟨rfl, rfl, rfl, by decide +kernel, rfl, by decide +kernel, by decide +kernel⟩
theorem ok_shows_plan (T : Txt mg) (hf : IsFn K mg "shows_plan" s_shows_plan) (G_is_place : Def P w K mg base "is_place" 2 2 [] f_is_place) (G_pair_is_right : Def P w K mg base "pair_is_right" 3 5 [] f_pair_is_right) : Def P w K mg base "shows_plan" 4 4 [] f_shows_plan := by
  refine def_ok (k := 3) (body := b_shows_plan) hf sc_shows_plan (fun _ _ _ _ _ _ us hl => match us, hl with | [_, _, _, _], _ => rfl) fun f cdv A outer s H E C => ?_
  exact (ss_cons (ss_if (st_w (sw_or (st_cmp (oNe C.hu) vr_ne (se_borB 3 cLen vr_len rfl T.b_len (by decide +kernel)) (se_borB 0 cLen vr_len rfl T.b_len (by decide +kernel))) (sw_or1 (st_not (st_val (se_call G_is_place (C.hr.mono (by decide)) C.tk (sga_fz (se_rdv 2) (sga_fz (se_borB 0 cLen vr_len rfl T.b_len (by decide +kernel)) sga_nil)))))))) (ss_one (ss_ret se_bl)) ss_nil)
    (ss_cons (ss_for (vs := [4, 5, 6]) (ws := [4, 5, 6]) C.hp C.calm (si_enum (se_rdv 3) rfl T.b_enumerate) (sg_t C.calm (sgs_cons (sg_n 4 C.nd) (sgs_cons (sg_t C.calm (sgs_cons (sg_n 5 C.nd) (sgs_cons (sg_n 6 C.nd) sgs_nil))) sgs_nil)))
    (ss_one (ss_if (st_bor2 1 op_in_seq (vr_in false) (se_rdv 4)) (ss_one (ss_if (st_w (sw_or (st_cmp (oNe C.hu) vr_ne (se_rdv 5) se_int) (sw_or1 (st_cmp (oNe C.hu) vr_ne (se_rdv 6) (se_un un_neg vr_neg se_int))))) (ss_one (ss_ret se_bl)) ss_nil)) (ss_one (ss_if (st_not (st_val (se_call G_pair_is_right (C.hr.mono (by decide)) C.tk (sga_fz (se_rdv 0) (sga_fz (se_rdv 3) (sga_fz (se_rdv 5) (sga_fz (se_rdv 6) (sga_fz (se_rdv 4) sga_nil)))))))) (ss_one (ss_ret se_bl)) ss_nil)))))
    (ss_one (ss_ret (se_cmp (oNe C.hu) vr_ne (se_ix (se_ixv 3 (se_rdv 2)) se_int) (se_un un_neg vr_neg se_int))))))
theorem sc_holds_off : FnScope ["targets", "endless", "trap", "after"] ["targets", "endless", "trap"] (defScope s_holds_off) := ⟨rfl, rfl, rfl, by decide +kernel, rfl, by decide +kernel, by decide +kernel⟩
theorem ok_holds_off (T : Txt mg) (hf : IsFn K mg "holds_off" s_holds_off)  : Def P w K mg base "holds_off" 1 3 [] f_holds_off := by
  refine def_ok (k := 0) (body := b_holds_off) hf sc_holds_off (fun _ _ _ _ _ _ us hl => match us, hl with | [_, _, _], _ => rfl) fun f cdv A outer s H E C => ?_
  exact (ss_cons (ss_if (st_w (sw_or (st_val (se_rdv 1)) (sw_or1 (st_cmp (oEq C.hu) vr_eq (se_borB 0 cLen vr_len rfl T.b_len (by decide +kernel)) se_int)))) (ss_one (ss_ret se_bl)) ss_nil)
    (ss_cons (ss_for (vs := [3]) (ws := [3]) C.hp C.calm (si_any (se_rdv 0)) (sg_n 3 C.nd)
    (ss_one (ss_if (st_bor2 2 op_in_seq (vr_in false) (se_rdv 3)) (ss_one (ss_ret se_bl)) ss_nil)))
    (ss_one (ss_ret se_bl))))
theorem sc_shows_trap : FnScope ["moves", "goals", "start", "trap", "rest", "targets", "endless"] ["moves", "goals", "start", "trap"] (defScope s_shows_trap) := ⟨rfl, rfl, rfl, by decide +kernel, rfl, by decide +kernel, by decide +kernel⟩
theorem ok_shows_trap (T : Txt mg) (hf : IsFn K mg "shows_trap" s_shows_trap) (G_is_place : Def P w K mg base "is_place" 2 2 [] f_is_place) (G_holds_off : Def P w K mg base "holds_off" 1 3 [] f_holds_off) : Def P w K mg base "shows_trap" 3 4 [] f_shows_trap := by
  refine def_ok (k := 2) (body := b_shows_trap) hf sc_shows_trap (fun _ _ _ _ _ _ us hl => match us, hl with | [_, _, _, _], _ => rfl) fun f cdv A outer s H E C => ?_
  exact (ss_cons (ss_if (st_bor2 3 op_notIn_seq (vr_in true) (se_rdv 2)) (ss_one (ss_ret se_bl)) ss_nil)
    (ss_cons (ss_for (vs := [4]) (ws := [4, 5, 6]) C.hp C.calm (si_any (se_rdv 3)) (sg_n 4 C.nd)
    (ss_cons (ss_if (st_w (sw_or (st_not (st_val (se_call G_is_place (C.hr.mono (by decide)) C.tk (sga_fz (se_rdv 4) (sga_fz (se_borB 0 cLen vr_len rfl T.b_len (by decide +kernel)) sga_nil))))) (sw_or1 (st_bor2 1 op_in_seq (vr_in false) (se_rdv 4))))) (ss_one (ss_ret se_bl)) ss_nil)
    (ss_one (ss_for (vs := [5, 6]) (ws := [5, 6]) C.hp C.calm (si_any (se_ixv 0 (se_rdv 4))) (sg_t C.calm (sgs_cons (sg_n 5 C.nd) (sgs_cons (sg_n 6 C.nd) sgs_nil)))
    (ss_one (ss_if (st_not (st_val (se_call G_holds_off (C.hr.mono (by decide)) C.tk (sga_fz (se_rdv 5) (sga_fz (se_rdv 6) (sga_fz (se_rdv 3) sga_nil)))))) (ss_one (ss_ret se_bl)) ss_nil))))))
    (ss_one (ss_ret se_bl))))
theorem sc__law_cell : FnScope ["script", "k"] ["script", "k"] (defScope s__law_cell) := ⟨rfl, rfl, rfl, by decide +kernel, rfl, by decide +kernel, by decide +kernel⟩
theorem ok__law_cell (T : Txt mg) (hf : IsFn K mg "_law_cell" s__law_cell)  : Def P w K mg base "_law_cell" 1 2 [] f__law_cell := by
  refine def_ok (k := 0) (body := b__law_cell) hf sc__law_cell (fun _ _ _ _ _ _ us hl => match us, hl with | [_, _], _ => rfl) fun f cdv A outer s H E C => ?_
  exact (ss_cons (ss_if (st_cmp op_lt vr_cI (se_rdv 1) (se_borB 0 cLen vr_len rfl T.b_len (by decide +kernel))) (ss_one (ss_ret (se_ixv 0 (se_rdv 1)))) ss_nil)
    (ss_one (ss_ret se_int)))
theorem sc__law_row : FnScope ["cell", "sizes", "rest", "mixed", "numbers", "size"] ["cell", "sizes"] (defScope s__law_row) := ⟨rfl, rfl, rfl, by decide +kernel, rfl, by decide +kernel, by decide +kernel⟩
theorem ok__law_row (T : Txt mg) (hf : IsFn K mg "_law_row" s__law_row)  : Def P w K mg base "_law_row" 1 2 [] f__law_row := by
  refine def_ok (k := 0) (body := b__law_row) hf sc__law_row (fun _ _ _ _ _ _ us hl => match us, hl with | [_, _], _ => rfl) fun f cdv A outer s H E C => ?_
  exact (ss_cons (ss_set 2 (se_rdv 0) C.nd)
    (ss_cons (ss_set 3 (se_op op_mod vr_mod (se_callTy call_int1 vr_int rfl T.b_int (by decide +kernel) (sa_cons (se_op oAdd vr_add (se_op oMul vr_mul (se_rdv 0) se_int) se_int) sa_nil)) se_int) C.nd)
    (ss_cons (ss_set 4 (se_lst sa_nil) C.nd)
    (ss_cons (ss_for (vs := [5]) (ws := [5]) C.hp C.calm (si_any (se_rdv 1)) (sg_n 5 C.nd)
    (ss_one (ss_if (st_cmp op_ge vr_cI (se_rdv 0) (se_op op_pow vr_pow se_int se_int)) (ss_cons (ss_app 4 (se_op op_mod vr_mod (se_callTy call_int1 vr_int rfl T.b_int (by decide +kernel) (sa_cons (se_rdv 2) sa_nil)) (se_rdv 5)))
    (ss_one (ss_set 2 (se_op op_fdivW vr_fdiv (se_rdv 2) (se_rdv 5)) C.nd))) (ss_cons (ss_set 3 (se_op op_mod vr_mod (se_callTy call_int1 vr_int rfl T.b_int (by decide +kernel) (sa_cons (se_op oAdd vr_add (se_op oMul vr_mul (se_rdv 3) se_int) se_int) sa_nil)) se_int) C.nd)
    (ss_one (ss_app 4 (se_op op_mod vr_mod (se_op op_fdivW vr_fdiv (se_rdv 3) se_int) (se_rdv 5))))))))
    (ss_one (ss_ret (se_mvv 4)))))))
theorem sc__law_targets : FnScope ["row", "size", "k", "count", "place"] ["row", "size"] (defScope s__law_targets) := ⟨rfl, rfl, rfl, by decide +kernel, rfl, by decide +kernel, by decide +kernel⟩
theorem ok__law_targets (T : Txt mg) (hf : IsFn K mg "_law_targets" s__law_targets)  : Def P w K mg base "_law_targets" 1 2 [] f__law_targets := by
  refine def_ok (k := 0) (body := b__law_targets) hf sc__law_targets (fun _ _ _ _ _ _ us hl => match us, hl with | [_, _], _ => rfl) fun f cdv A outer s H E C => ?_
  exact (ss_cons (ss_if (st_cmp (oEq C.hu) vr_eq (se_ixv 0 se_int) se_int) (ss_one (ss_ret (se_lc (own := [("k", 2)]) C.calm C.nd (si_r1 (se_rdv 1) rfl T.b_range) (blkOk_by (by kernel_rfl)) (fun _ _ _ _ _ => (sg_n 2 C.nd)) (fun _ _ _ _ _ => st_yes) (fun _ _ _ _ _ => (se_rdv 2))))) ss_nil)
    (ss_cons (ss_set 3 (se_ix (se_lst (sa_cons se_int (sa_cons se_int (sa_cons se_int (sa_cons se_int (sa_cons se_int (sa_cons se_int (sa_cons se_int sa_nil)))))))) (se_ixv 0 se_int)) C.nd)
    (ss_one (ss_ret (se_sortset C.calm (se_lc (own := [("place", 4)]) C.calm C.nd (si_any (se_sl (se_rdv 0) (so_some se_int) (so_some (se_op oAdd vr_add se_int (se_rdv 3))))) (blkOk_by (by kernel_rfl)) (fun _ _ _ _ _ => (sg_n 4 C.nd)) (fun _ _ _ _ _ => st_yes) (fun _ _ _ _ _ => (se_op op_mod vr_mod (se_callTy call_int1 vr_int rfl T.b_int (by decide +kernel) (sa_cons (se_rdv 4) sa_nil)) (se_rdv 1)))) rfl T.b_sorted rfl T.b_set)))))
theorem sc__law_moves : FnScope ["script", "size", "many", "moves", "k", "row", "pairs", "m"] ["script", "size", "many"] (defScope s__law_moves) := ⟨rfl, rfl, rfl, by decide +kernel, rfl, by decide +kernel, by decide +kernel⟩
theorem ok__law_moves (T : Txt mg) (hf : IsFn K mg "_law_moves" s__law_moves) (G__law_cell : Def P w K mg base "_law_cell" 1 2 [] f__law_cell) (G__law_row : Def P w K mg base "_law_row" 1 2 [] f__law_row) (G__law_targets : Def P w K mg base "_law_targets" 1 2 [] f__law_targets) : Def P w K mg base "_law_moves" 2 3 [] f__law_moves := by
  refine def_ok (k := 1) (body := b__law_moves) hf sc__law_moves (fun _ _ _ _ _ _ us hl => match us, hl with | [_, _, _], _ => rfl) fun f cdv A outer s H E C => ?_
  exact (ss_cons (ss_set 3 (se_lst sa_nil) C.nd)
    (ss_cons (ss_for (vs := [4]) (ws := [4, 5, 6, 7]) C.hp C.calm (si_r1 (se_rdv 1) rfl T.b_range) (sg_n 4 C.nd)
    (ss_cons (ss_frz 5 (ss_set 5 (se_call G__law_row (C.hr.mono (by decide)) C.tk (sga_fz (se_op oAdd vr_add (se_call G__law_cell (C.hr.mono (by decide)) C.tk (sga_fz (se_rdv 0) (sga_fz (se_op oAdd vr_add se_int (se_rdv 4)) sga_nil))) (se_op oMul vr_mul se_int (se_rdv 4))) (sga_fz (se_op oMul vr_mul (se_lst (sa_cons se_int (sa_cons se_int (sa_cons se_int (sa_cons se_int (sa_cons se_int sa_nil)))))) (se_rdv 2)) sga_nil))) C.nd))
    (ss_cons (ss_set 6 (se_lst sa_nil) C.nd)
    (ss_cons (ss_for (vs := [7]) (ws := [7]) C.hp C.calm (si_r1 (se_rdv 2) rfl T.b_range) (sg_n 7 C.nd)
    (ss_one (ss_app 6 (se_tup (sa_cons (se_call G__law_targets (C.hr.mono (by decide)) C.tk (sga_fz (se_sl (se_rdv 5) (so_some (se_op oMul vr_mul se_int (se_rdv 7))) (so_some (se_op oAdd vr_add (se_op oMul vr_mul se_int (se_rdv 7)) se_int))) (sga_fz (se_rdv 1) sga_nil))) (sa_cons (se_cmp (oEq C.hu) vr_eq (se_ixv 5 (se_op oAdd vr_add (se_op oMul vr_mul se_int (se_rdv 7)) se_int)) se_int) sa_nil))))))
    (ss_one (ss_app 3 (se_rdv 6)))))))
    (ss_one (ss_ret (se_mvv 3)))))
theorem sc__law_chained : FnScope ["moves", "keys", "events", "ranked", "k", "line", "pair", "at", "rest", "good", "pairs", "m", "targets", "endless", "earlier"] ["moves", "keys", "events"] (defScope s__law_chained) := ⟨rfl, rfl, rfl, by decide +kernel, rfl, by decide +kernel, by decide +kernel⟩
theorem ok__law_chained (T : Txt mg) (hf : IsFn K mg "_law_chained" s__law_chained)  : Def P w K mg base "_law_chained" 1 3 [] f__law_chained := by
  refine def_ok (k := 0) (body := b__law_chained) hf sc__law_chained (fun _ _ _ _ _ _ us hl => match us, hl with | [_, _, _], _ => rfl) fun f cdv A outer s H E C => ?_
  exact (ss_cons (ss_frz 3 (ss_set 3 (se_callB cSorted vr_sorted rfl T.b_sorted (by decide +kernel) (sa_cons (se_lc (own := [("k", 4)]) C.calm C.nd (si_r1 (se_borB 0 cLen vr_len rfl T.b_len (by decide +kernel)) rfl T.b_range) (blkOk_by (by kernel_rfl)) (fun _ _ _ _ _ => (sg_n 4 C.nd)) (fun _ _ _ _ _ => st_yes) (fun _ _ _ _ _ => (se_tup (sa_cons (se_ixv 1 (se_rdv 4)) (sa_cons (se_rdv 4) sa_nil))))) sa_nil)) C.nd))
    (ss_cons (ss_frz 5 (ss_setLc 5 (own := [("pair", 6)]) C.calm C.nd rfl rfl (sw_true rfl rfl rfl (by decide +kernel)) (si_any (se_rdv 3)) (blkOk_by (by kernel_rfl)) (fun _ _ _ _ _ => (sg_n 6 C.nd)) (fun _ _ _ _ _ => st_yes) (fun _ _ _ _ _ => (se_ixv 6 se_int))))
    (ss_cons (ss_for (vs := [7]) (ws := [7, 8, 9, 10, 11, 12, 13, 14]) C.hp C.calm (si_r2 se_int (se_borB 5 cLen vr_len rfl T.b_len (by decide +kernel)) rfl T.b_range) (sg_n 7 C.nd)
    (ss_cons (ss_set 8 (se_ixv 5 (se_rdv 7)) C.nd)
    (ss_cons (ss_set 9 (se_op op_mod vr_mod (se_ixv 2 (se_rdv 7)) (se_callB cLen vr_len rfl T.b_len (by decide +kernel) (sa_cons (se_ixv 0 (se_rdv 8)) sa_nil))) C.nd)
    (ss_cons (ss_set 10 (se_lst sa_nil) C.nd)
    (ss_cons (ss_for (vs := [11]) (ws := [11, 12, 13, 14]) C.hp C.calm (si_r1 (se_callB cLen vr_len rfl T.b_len (by decide +kernel) (sa_cons (se_ixv 0 (se_rdv 8)) sa_nil)) rfl T.b_range) (sg_n 11 C.nd)
    (ss_cons (ss_tg (vs := [12, 13]) (se_ix (se_ixv 0 (se_rdv 8)) (se_rdv 11)) (sg_t C.calm (sgs_cons (sg_n 12 C.nd) (sgs_cons (sg_n 13 C.nd) sgs_nil))))
    (ss_one (ss_if (st_cmp (oEq C.hu) vr_eq (se_rdv 11) (se_rdv 9)) (ss_cons (ss_frz 14 (ss_set 14 (se_lst (sa_cons (se_ixv 5 (se_op op_sub vr_sub (se_rdv 7) se_int)) (sa_cons (se_ixv 5 (se_op op_mod vr_mod (se_callTy call_int1 vr_int rfl T.b_int (by decide +kernel) (sa_cons (se_ixv 1 (se_rdv 7)) sa_nil)) (se_rdv 7))) sa_nil))) C.nd))
    (ss_one (ss_app 10 (se_tup (sa_cons (se_sortset C.calm (se_sl (se_rdv 14) so_none (so_some (se_op oAdd vr_add se_int (se_op op_mod vr_mod (se_op op_fdivW vr_fdiv (se_ixv 2 (se_rdv 7)) se_int) se_int)))) rfl T.b_sorted rfl T.b_set) (sa_cons se_bl sa_nil)))))) (ss_one (ss_app 10 (se_tup (sa_cons (se_sortset C.calm (se_op oAdd vr_add (se_rdv 12) (se_lst (sa_cons (se_ixv 5 (se_callB (cMinE C.calm C.hu) vr_minE rfl T.b_min (by decide +kernel) (sa_cons (se_op oAdd vr_add (se_rdv 7) se_int) (sa_cons (se_op op_sub vr_sub (se_borB 5 cLen vr_len rfl T.b_len (by decide +kernel)) se_int) sa_nil)))) sa_nil))) rfl T.b_sorted rfl T.b_set) (sa_cons (se_rdv 13) sa_nil)))))))))
    (ss_one (ss_put 0 (se_rdv 8) (se_rdv 10))))))))
    (ss_one (ss_ret (se_mvv 0))))))
theorem sc__law_copied : FnScope ["moves", "as_tuples", "row", "pair"] ["moves", "as_tuples"] (defScope s__law_copied) := ⟨rfl, rfl, rfl, by decide +kernel, rfl, by decide +kernel, by decide +kernel⟩
theorem ok__law_copied (T : Txt mg) (hf : IsFn K mg "_law_copied" s__law_copied)  : Def P w K mg base "_law_copied" 1 2 [] f__law_copied := by
  refine def_ok (k := 0) (body := b__law_copied) hf sc__law_copied (fun _ _ _ _ _ _ us hl => match us, hl with | [_, _], _ => rfl) fun f cdv A outer s H E C => ?_
  exact (ss_cons (ss_if (st_val (se_rdv 1)) (ss_one (ss_ret (se_callTy call_tuple_of vr_tuple rfl T.b_tuple (by decide +kernel) (sa_cons (se_lc (own := [("row", 2)]) C.calm C.nd (si_any (se_rdv 0)) (blkOk_by (by kernel_rfl)) (fun _ _ _ _ _ => (sg_n 2 C.nd)) (fun _ _ _ _ _ => st_yes) (fun _ _ _ _ _ => (se_callTy call_tuple_of vr_tuple rfl T.b_tuple (by decide +kernel) (sa_cons (se_lc (own := [("pair", 3)]) C.calm C.nd (si_any (se_rdv 2)) (blkOk_by (by kernel_rfl)) (fun _ _ _ _ _ => (sg_n 3 C.nd)) (fun _ _ _ _ _ => st_yes) (fun _ _ _ _ _ => (se_tup (sa_cons (se_callTy call_tuple_of vr_tuple rfl T.b_tuple (by decide +kernel) (sa_cons (se_ixv 3 se_int) sa_nil)) (sa_cons (se_ixv 3 se_int) sa_nil))))) sa_nil)))) sa_nil)))) ss_nil)
    (ss_one (ss_ret (se_lc (own := [("row", 2)]) C.calm C.nd (si_any (se_rdv 0)) (blkOk_by (by kernel_rfl)) (fun _ _ _ _ _ => (sg_n 2 C.nd)) (fun _ _ _ _ _ => st_yes) (fun _ _ _ _ _ => (se_lc (own := [("pair", 3)]) C.calm C.nd (si_any (se_rdv 2)) (blkOk_by (by kernel_rfl)) (fun _ _ _ _ _ => (sg_n 3 C.nd)) (fun _ _ _ _ _ => st_yes) (fun _ _ _ _ _ => (se_tup (sa_cons (se_callTy call_list_of vr_list rfl T.b_list (by decide +kernel) (sa_cons (se_ixv 3 se_int) sa_nil)) (sa_cons (se_ixv 3 se_int) sa_nil))))))))))
theorem sc__law_is_integer : FnScope ["value"] ["value"] (defScope s__law_is_integer) := ⟨rfl, rfl, rfl, by decide +kernel, rfl, by decide +kernel, by decide +kernel⟩
theorem ok__law_is_integer (T : Txt mg) (hf : IsFn K mg "_law_is_integer" s__law_is_integer)  : Def P w K mg base "_law_is_integer" 1 1 [] f__law_is_integer := by
  refine def_ok (k := 0) (body := b__law_is_integer) hf sc__law_is_integer (fun _ _ _ _ _ _ us hl => match us, hl with | [_], _ => rfl) fun f cdv A outer s H E C => ?_
  exact (ss_one (ss_ret (se_and (se_isi (T := "int") (se_rdv 0) rfl T.b_isinstance rfl T.b_int (by decide +kernel)) (se_one (se_not (se_isi (T := "bool") (se_rdv 0) rfl T.b_isinstance rfl T.b_bool (by decide +kernel)))))))
theorem sc__law_plan_is_right : FnScope ["moves", "goals", "start", "plan", "rest", "rank", "event", "targets", "endless", "after"] ["moves", "goals", "start", "plan"] (defScope s__law_plan_is_right) := ⟨rfl, rfl, rfl, by decide +kernel, rfl, by decide +kernel, by decide +kernel⟩
theorem ok__law_plan_is_right (T : Txt mg) (hf : IsFn K mg "_law_plan_is_right" s__law_plan_is_right)  : Def P w K mg base "_law_plan_is_right" 1 4 [] f__law_plan_is_right := by
  refine def_ok (k := 0) (body := b__law_plan_is_right) hf sc__law_plan_is_right (fun _ _ _ _ _ _ us hl => match us, hl with | [_, _, _, _], _ => rfl) fun f cdv A outer s H E C => ?_
  exact (ss_cons (ss_if (st_w (sw_or (st_cmp (oNe C.hu) vr_ne (se_borB 3 cLen vr_len rfl T.b_len (by decide +kernel)) (se_borB 0 cLen vr_len rfl T.b_len (by decide +kernel))) (sw_or (st_not (st_chn op_le op_lt vr_cI vr_cI se_int (se_rdv 2) (se_borB 0 cLen vr_len rfl T.b_len (by decide +kernel)))) (sw_or1 (st_cmp (oEq C.hu) vr_eq (se_ix (se_ixv 3 (se_rdv 2)) se_int) (se_un un_neg vr_neg se_int)))))) (ss_one (ss_ret se_bl)) ss_nil)
    (ss_cons (ss_for (vs := [4]) (ws := [4, 5, 6, 7, 8, 9]) C.hp C.calm (si_r1 (se_borB 0 cLen vr_len rfl T.b_len (by decide +kernel)) rfl T.b_range) (sg_n 4 C.nd)
    (ss_cons (ss_tg (vs := [5, 6]) (se_ixv 3 (se_rdv 4)) (sg_t C.calm (sgs_cons (sg_n 5 C.nd) (sgs_cons (sg_n 6 C.nd) sgs_nil))))
    (ss_one (ss_if (st_bor2 1 op_in_seq (vr_in false) (se_rdv 4)) (ss_one (ss_if (st_w (sw_or (st_cmp (oNe C.hu) vr_ne (se_rdv 5) se_int) (sw_or1 (st_cmp (oNe C.hu) vr_ne (se_rdv 6) (se_un un_neg vr_neg se_int))))) (ss_one (ss_ret se_bl)) ss_nil)) (ss_one (ss_if (st_w (sw_or (st_cmp (oNe C.hu) vr_ne (se_rdv 5) (se_un un_neg vr_neg se_int)) (sw_or1 (st_cmp (oNe C.hu) vr_ne (se_rdv 6) (se_un un_neg vr_neg se_int))))) (ss_cons (ss_if (st_w (sw_or (st_cmp op_lt vr_cI (se_rdv 5) se_int) (sw_or1 (st_not (st_chn op_le op_lt vr_cI vr_cI se_int (se_rdv 6) (se_callB cLen vr_len rfl T.b_len (by decide +kernel) (sa_cons (se_ixv 0 (se_rdv 4)) sa_nil))))))) (ss_one (ss_ret se_bl)) ss_nil)
    (ss_cons (ss_tg (vs := [7, 8]) (se_ix (se_ixv 0 (se_rdv 4)) (se_rdv 6)) (sg_t C.calm (sgs_cons (sg_n 7 C.nd) (sgs_cons (sg_n 8 C.nd) sgs_nil))))
    (ss_cons (ss_if (st_w (sw_or (st_val (se_rdv 8)) (sw_or1 (st_cmp (oEq C.hu) vr_eq (se_borB 7 cLen vr_len rfl T.b_len (by decide +kernel)) se_int)))) (ss_one (ss_ret se_bl)) ss_nil)
    (ss_one (ss_for (vs := [9]) (ws := [9]) C.hp C.calm (si_any (se_rdv 7)) (sg_n 9 C.nd)
    (ss_one (ss_if (st_not (st_chn op_le op_lt vr_cI vr_cI se_int (se_ix (se_ixv 3 (se_rdv 9)) se_int) (se_rdv 5))) (ss_one (ss_ret se_bl)) ss_nil))))))) ss_nil))))))
    (ss_one (ss_ret se_bl))))
theorem sc__law_trap_is_right : FnScope ["moves", "goals", "start", "trap", "rest", "targets", "endless", "after"] ["moves", "goals", "start", "trap"] (defScope s__law_trap_is_right) := ⟨rfl, rfl, rfl, by decide +kernel, rfl, by decide +kernel, by decide +kernel⟩
theorem ok__law_trap_is_right (T : Txt mg) (hf : IsFn K mg "_law_trap_is_right" s__law_trap_is_right)  : Def P w K mg base "_law_trap_is_right" 1 4 [] f__law_trap_is_right := by
  refine def_ok (k := 0) (body := b__law_trap_is_right) hf sc__law_trap_is_right (fun _ _ _ _ _ _ us hl => match us, hl with | [_, _, _, _], _ => rfl) fun f cdv A outer s H E C => ?_
  exact (ss_cons (ss_if (st_bor2 3 op_notIn_seq (vr_in true) (se_rdv 2)) (ss_one (ss_ret se_bl)) ss_nil)
    (ss_cons (ss_for (vs := [4]) (ws := [4, 5, 6]) C.hp C.calm (si_any (se_rdv 3)) (sg_n 4 C.nd)
    (ss_cons (ss_if (st_w (sw_or (st_not (st_chn op_le op_lt vr_cI vr_cI se_int (se_rdv 4) (se_borB 0 cLen vr_len rfl T.b_len (by decide +kernel)))) (sw_or1 (st_bor2 1 op_in_seq (vr_in false) (se_rdv 4))))) (ss_one (ss_ret se_bl)) ss_nil)
    (ss_one (ss_for (vs := [5, 6]) (ws := [5, 6]) C.hp C.calm (si_any (se_ixv 0 (se_rdv 4))) (sg_t C.calm (sgs_cons (sg_n 5 C.nd) (sgs_cons (sg_n 6 C.nd) sgs_nil)))
    (ss_one (ss_if (st_w (sw_and (st_not (st_val (se_rdv 6))) (sw_and (st_cmp op_gt vr_cI (se_borB 5 cLen vr_len rfl T.b_len (by decide +kernel)) se_int) (sw_and1 (st_cmp (oEq C.hu) vr_eq (se_callB cLen vr_len rfl T.b_len (by decide +kernel) (sa_cons (se_lc (own := [("after", 7)]) C.calm C.nd (si_any (se_rdv 5)) (blkOk_by (by kernel_rfl)) (fun _ _ _ _ _ => (sg_n 7 C.nd)) (fun _ _ _ _ _ => (st_one (st_bor2 3 op_in_seq (vr_in false) (se_rdv 7)))) (fun _ _ _ _ _ => (se_rdv 7))) sa_nil)) se_int))))) (ss_one (ss_ret se_bl)) ss_nil))))))
    (ss_one (ss_ret se_bl))))
theorem sc__law_best : FnScope ["row", "plan", "best", "event", "targets", "endless", "ranks", "after"] ["row", "plan"] (defScope s__law_best) := ⟨rfl, rfl, rfl, by decide +kernel, rfl, by decide +kernel, by decide +kernel⟩
theorem ok__law_best (T : Txt mg) (hf : IsFn K mg "_law_best" s__law_best)  : Def P w K mg base "_law_best" 1 2 [] f__law_best := by
  refine def_ok (k := 0) (body := b__law_best) hf sc__law_best (fun _ _ _ _ _ _ us hl => match us, hl with | [_, _], _ => rfl) fun f cdv A outer s H E C => ?_
  exact (ss_cons (ss_set 2 (se_tup (sa_cons (se_un un_neg vr_neg se_int) (sa_cons (se_un un_neg vr_neg se_int) sa_nil))) C.nd)
    (ss_cons (ss_for (vs := [3]) (ws := [3, 4, 5, 6]) C.hp C.calm (si_r1 (se_borB 0 cLen vr_len rfl T.b_len (by decide +kernel)) rfl T.b_range) (sg_n 3 C.nd)
    (ss_cons (ss_tg (vs := [4, 5]) (se_ixv 0 (se_rdv 3)) (sg_t C.calm (sgs_cons (sg_n 4 C.nd) (sgs_cons (sg_n 5 C.nd) sgs_nil))))
    (ss_cons (ss_frz 6 (ss_setLc 6 (own := [("after", 7)]) C.calm C.nd rfl rfl (sw_true rfl rfl rfl (by decide +kernel)) (si_any (se_rdv 4)) (blkOk_by (by kernel_rfl)) (fun _ _ _ _ _ => (sg_n 7 C.nd)) (fun _ _ _ _ _ => st_yes) (fun _ _ _ _ _ => (se_ix (se_ixv 1 (se_rdv 7)) se_int))))
    (ss_one (ss_if (st_w (sw_and (st_not (st_val (se_rdv 5))) (sw_and (st_cmp op_gt vr_cI (se_borB 6 cLen vr_len rfl T.b_len (by decide +kernel)) se_int) (sw_and1 (st_cmp op_ge vr_cI (se_callB (cMinE C.calm C.hu) vr_minE rfl T.b_min (by decide +kernel) (sa_cons (se_rdv 6) sa_nil)) se_int))))) (ss_one (ss_if (st_w (sw_or (st_cmp op_lt vr_cI (se_ixv 2 se_int) se_int) (sw_or1 (st_cmp op_lt vr_cI (se_op oAdd vr_add (se_callB (cMax C.calm) vr_max rfl T.b_max (by decide +kernel) (sa_cons (se_rdv 6) sa_nil)) se_int) (se_ixv 2 se_int))))) (ss_one (ss_set 2 (se_tup (sa_cons (se_op oAdd vr_add (se_callB (cMax C.calm) vr_max rfl T.b_max (by decide +kernel) (sa_cons (se_rdv 6) sa_nil)) se_int) (sa_cons (se_rdv 3) sa_nil))) C.nd)) ss_nil)) ss_nil)))))
    (ss_one (ss_ret (se_mvv 2)))))
theorem sc__law_plan_is_least : FnScope ["moves", "goals", "plan", "rest", "pair"] ["moves", "goals", "plan"] (defScope s__law_plan_is_least) := ⟨rfl, rfl, rfl, by decide +kernel, rfl, by decide +kernel, by decide +kernel⟩
theorem ok__law_plan_is_least (T : Txt mg) (hf : IsFn K mg "_law_plan_is_least" s__law_plan_is_least) (G__law_is_integer : Def P w K mg base "_law_is_integer" 1 1 [] f__law_is_integer) (G__law_plan_is_right : Def P w K mg base "_law_plan_is_right" 1 4 [] f__law_plan_is_right) (G__law_best : Def P w K mg base "_law_best" 1 2 [] f__law_best) : Def P w K mg base "_law_plan_is_least" 2 3 [] f__law_plan_is_least := by
  refine def_ok (k := 1) (body := b__law_plan_is_least) hf sc__law_plan_is_least (fun _ _ _ _ _ _ us hl => match us, hl with | [_, _, _], _ => rfl) fun f cdv A outer s H E C => ?_
  exact (ss_cons (ss_if (st_w (sw_or (st_not (st_val (se_isi (T := "tuple") (se_rdv 2) rfl T.b_isinstance rfl T.b_tuple (by decide +kernel)))) (sw_or1 (st_cmp (oNe C.hu) vr_ne (se_borB 2 cLen vr_len rfl T.b_len (by decide +kernel)) (se_borB 0 cLen vr_len rfl T.b_len (by decide +kernel)))))) (ss_one (ss_ret se_bl)) ss_nil)
    (ss_cons (ss_for (vs := [3]) (ws := [3, 4]) C.hp C.calm (si_r1 (se_borB 0 cLen vr_len rfl T.b_len (by decide +kernel)) rfl T.b_range) (sg_n 3 C.nd)
    (ss_cons (ss_set 4 (se_ixv 2 (se_rdv 3)) C.nd)
    (ss_cons (ss_if (st_w (sw_or (st_not (st_val (se_isi (T := "tuple") (se_rdv 4) rfl T.b_isinstance rfl T.b_tuple (by decide +kernel)))) (sw_or1 (st_cmp (oNe C.hu) vr_ne (se_borB 4 cLen vr_len rfl T.b_len (by decide +kernel)) se_int)))) (ss_one (ss_ret se_bl)) ss_nil)
    (ss_one (ss_if (st_w (sw_or (st_not (st_val (se_call G__law_is_integer (C.hr.mono (by decide)) C.tk (sga_fz (se_ixv 4 se_int) sga_nil)))) (sw_or1 (st_not (st_val (se_call G__law_is_integer (C.hr.mono (by decide)) C.tk (sga_fz (se_ixv 4 se_int) sga_nil))))))) (ss_one (ss_ret se_bl)) ss_nil)))))
    (ss_cons (ss_for (vs := [3]) (ws := [3]) C.hp C.calm (si_r1 (se_borB 0 cLen vr_len rfl T.b_len (by decide +kernel)) rfl T.b_range) (sg_n 3 C.nd)
    (ss_one (ss_if (st_bor2 1 op_in_seq (vr_in false) (se_rdv 3)) (ss_one (ss_if (st_cmp (oNe C.hu) vr_ne (se_ixv 2 (se_rdv 3)) (se_tup (sa_cons se_int (sa_cons (se_un un_neg vr_neg se_int) sa_nil)))) (ss_one (ss_ret se_bl)) ss_nil)) (ss_one (ss_if (st_cmp (oNe C.hu) vr_ne (se_ixv 2 (se_rdv 3)) (se_call G__law_best (C.hr.mono (by decide)) C.tk (sga_fz (se_ixv 0 (se_rdv 3)) (sga_fz (se_rdv 2) sga_nil)))) (ss_one (ss_ret se_bl)) ss_nil)))))
    (ss_one (ss_ret (se_call G__law_plan_is_right (C.hr.mono (by decide)) C.tk (sga_fz (se_rdv 0) (sga_fz (se_rdv 1) (sga_fz (se_ixv 1 se_int) (sga_fz (se_rdv 2) sga_nil))))))))))
theorem sc__law_is_paper : FnScope ["actual", "word"] ["actual", "word"] (defScope s__law_is_paper) := ⟨rfl, rfl, rfl, by decide +kernel, rfl, by decide +kernel, by decide +kernel⟩
theorem ok__law_is_paper (T : Txt mg) (hf : IsFn K mg "_law_is_paper" s__law_is_paper)  : Def P w K mg base "_law_is_paper" 1 2 [] f__law_is_paper := by
  refine def_ok (k := 0) (body := b__law_is_paper) hf sc__law_is_paper (fun _ _ _ _ _ _ us hl => match us, hl with | [_, _], _ => rfl) fun f cdv A outer s H E C => ?_
  exact (ss_cons (ss_if (st_w (sw_or (st_not (st_val (se_isi (T := "tuple") (se_rdv 0) rfl T.b_isinstance rfl T.b_tuple (by decide +kernel)))) (sw_or1 (st_cmp (oNe C.hu) vr_ne (se_borB 0 cLen vr_len rfl T.b_len (by decide +kernel)) se_int)))) (ss_one (ss_ret se_bl)) ss_nil)
    (ss_one (ss_ret (se_and (se_isi (T := "str") (se_ixv 0 se_int) rfl T.b_isinstance rfl T.b_str (by decide +kernel)) (se_and (se_cmp (oEq C.hu) vr_eq (se_ixv 0 se_int) (se_rdv 1)) (se_one (se_isi (T := "tuple") (se_ixv 0 se_int) rfl T.b_isinstance rfl T.b_tuple (by decide +kernel))))))))
theorem sc__law_is_trap : FnScope ["actual", "trap", "k"] ["actual", "trap"] (defScope s__law_is_trap) := ⟨rfl, rfl, rfl, by decide +kernel, rfl, by decide +kernel, by decide +kernel⟩
theorem ok__law_is_trap (T : Txt mg) (hf : IsFn K mg "_law_is_trap" s__law_is_trap) (G__law_is_integer : Def P w K mg base "_law_is_integer" 1 1 [] f__law_is_integer) (G__law_is_paper : Def P w K mg base "_law_is_paper" 1 2 [] f__law_is_paper) : Def P w K mg base "_law_is_trap" 2 2 [] f__law_is_trap := by
  refine def_ok (k := 1) (body := b__law_is_trap) hf sc__law_is_trap (fun _ _ _ _ _ _ us hl => match us, hl with | [_, _], _ => rfl) fun f cdv A outer s H E C => ?_
  exact (ss_cons (ss_if (st_w (sw_or (st_not (st_val (se_call G__law_is_paper (C.hr.mono (by decide)) C.tk (sga_fz (se_rdv 0) (sga_fz se_str sga_nil))))) (sw_or1 (st_cmp (oNe C.hu) vr_ne (se_callB cLen vr_len rfl T.b_len (by decide +kernel) (sa_cons (se_ixv 0 se_int) sa_nil)) (se_borB 1 cLen vr_len rfl T.b_len (by decide +kernel)))))) (ss_one (ss_ret se_bl)) ss_nil)
    (ss_cons (ss_for (vs := [2]) (ws := [2]) C.hp C.calm (si_r1 (se_borB 1 cLen vr_len rfl T.b_len (by decide +kernel)) rfl T.b_range) (sg_n 2 C.nd)
    (ss_one (ss_if (st_w (sw_or (st_not (st_val (se_call G__law_is_integer (C.hr.mono (by decide)) C.tk (sga_fz (se_ix (se_ixv 0 se_int) (se_rdv 2)) sga_nil)))) (sw_or1 (st_cmp (oNe C.hu) vr_ne (se_ix (se_ixv 0 se_int) (se_rdv 2)) (se_ixv 1 (se_rdv 2)))))) (ss_one (ss_ret se_bl)) ss_nil)))
    (ss_one (ss_ret se_bl))))
theorem sc__law_is_plan : FnScope ["actual", "moves", "goals"] ["actual", "moves", "goals"] (defScope s__law_is_plan) := ⟨rfl, rfl, rfl, by decide +kernel, rfl, by decide +kernel, by decide +kernel⟩
theorem ok__law_is_plan (T : Txt mg) (hf : IsFn K mg "_law_is_plan" s__law_is_plan) (G__law_plan_is_least : Def P w K mg base "_law_plan_is_least" 2 3 [] f__law_plan_is_least) (G__law_is_paper : Def P w K mg base "_law_is_paper" 1 2 [] f__law_is_paper) : Def P w K mg base "_law_is_plan" 3 3 [] f__law_is_plan := by
  refine def_ok (k := 2) (body := b__law_is_plan) hf sc__law_is_plan (fun _ _ _ _ _ _ us hl => match us, hl with | [_, _, _], _ => rfl) fun f cdv A outer s H E C => ?_
  exact (ss_one (ss_ret (se_and (se_call G__law_is_paper (C.hr.mono (by decide)) C.tk (sga_fz (se_rdv 0) (sga_fz se_str sga_nil))) (se_one (se_call G__law_plan_is_least (C.hr.mono (by decide)) C.tk (sga_fz (se_rdv 1) (sga_fz (se_rdv 2) (sga_fz (se_ixv 0 se_int) sga_nil))))))))
theorem sc__law_says : FnScope ["actual", "due"] ["actual", "due"] (defScope s__law_says) := ⟨rfl, rfl, rfl, by decide +kernel, rfl, by decide +kernel, by decide +kernel⟩
theorem ok__law_says (T : Txt mg) (hf : IsFn K mg "_law_says" s__law_says)  : Def P w K mg base "_law_says" 1 2 [] f__law_says := by
  refine def_ok (k := 0) (body := b__law_says) hf sc__law_says (fun _ _ _ _ _ _ us hl => match us, hl with | [_, _], _ => rfl) fun f cdv A outer s H E C => ?_
  exact (ss_one (ss_ret (se_and (se_isi (T := "bool") (se_rdv 0) rfl T.b_isinstance rfl T.b_bool (by decide +kernel)) (se_one (se_cmp (oEq C.hu) vr_eq (se_rdv 0) (se_rdv 1))))))
theorem sc__law_changed_plan : FnScope ["plan", "change", "numbers", "at", "other", "rows"] ["plan", "change", "numbers"] (defScope s__law_changed_plan) := ⟨rfl, rfl, rfl, by decide +kernel, rfl, by decide +kernel, by decide +kernel⟩
theorem ok__law_changed_plan (T : Txt mg) (hf : IsFn K mg "_law_changed_plan" s__law_changed_plan)  : Def P w K mg base "_law_changed_plan" 1 3 [] f__law_changed_plan := by
  refine def_ok (k := 0) (body := b__law_changed_plan) hf sc__law_changed_plan (fun _ _ _ _ _ _ us hl => match us, hl with | [_, _, _], _ => rfl) fun f cdv A outer s H E C => ?_
  exact (ss_cons (ss_set 3 (se_op op_mod vr_mod (se_ixv 2 se_int) (se_borB 0 cLen vr_len rfl T.b_len (by decide +kernel))) C.nd)
    (ss_cons (ss_set 4 (se_op op_mod vr_mod (se_ixv 2 se_int) (se_borB 0 cLen vr_len rfl T.b_len (by decide +kernel))) C.nd)
    (ss_cons (ss_set 5 (se_callTy call_list_of vr_list rfl T.b_list (by decide +kernel) (sa_cons (se_rdv 0) sa_nil)) C.nd)
    (ss_cons (ss_if (st_cmp (oEq C.hu) vr_eq (se_rdv 1) se_int) (ss_one (ss_put 5 (se_rdv 3) (se_tup (sa_cons (se_op oAdd vr_add (se_ix (se_ixv 0 (se_rdv 3)) se_int) (se_ix (se_lst (sa_cons se_int (sa_cons (se_un un_neg vr_neg se_int) (sa_cons se_int (sa_cons (se_op op_pow vr_pow se_int se_int) sa_nil))))) (se_op op_mod vr_mod (se_ixv 2 se_int) se_int))) (sa_cons (se_ix (se_ixv 0 (se_rdv 3)) se_int) sa_nil))))) (ss_one (ss_if (st_cmp (oEq C.hu) vr_eq (se_rdv 1) se_int) (ss_one (ss_put 5 (se_rdv 3) (se_tup (sa_cons (se_ix (se_ixv 0 (se_rdv 3)) se_int) (sa_cons (se_op op_sub vr_sub (se_op op_mod vr_mod (se_ixv 2 se_int) se_int) se_int) sa_nil))))) (ss_one (ss_if (st_cmp (oEq C.hu) vr_eq (se_rdv 1) se_int) (ss_cons (ss_put 5 (se_rdv 3) (se_ixv 0 (se_rdv 4)))
    (ss_one (ss_put 5 (se_rdv 4) (se_ixv 0 (se_rdv 3))))) (ss_one (ss_if (st_cmp (oEq C.hu) vr_eq (se_rdv 1) se_int) (ss_one (ss_put 5 (se_rdv 3) (se_ix (se_lst (sa_cons (se_tup (sa_cons (se_un un_neg vr_neg se_int) (sa_cons (se_un un_neg vr_neg se_int) sa_nil))) (sa_cons (se_tup (sa_cons se_int (sa_cons (se_un un_neg vr_neg se_int) sa_nil))) (sa_cons (se_tup (sa_cons se_int (sa_cons se_int sa_nil))) sa_nil)))) (se_op op_mod vr_mod (se_ixv 2 se_int) se_int)))) (ss_one (ss_if (st_cmp (oEq C.hu) vr_eq (se_rdv 1) se_int) (ss_one (ss_set 5 (se_op oAdd vr_add (se_sl (se_rdv 5) so_none (so_some (se_rdv 3))) (se_sl (se_rdv 5) (so_some (se_op oAdd vr_add (se_rdv 3) se_int)) so_none)) C.nd)) (ss_one (ss_if (st_cmp (oEq C.hu) vr_eq (se_rdv 1) se_int) (ss_one (ss_set 5 (se_op oAdd vr_add (se_rdv 5) (se_lst (sa_cons (se_ixv 0 (se_rdv 3)) sa_nil))) C.nd)) ss_nil)))))))))))
    (ss_one (ss_ret (se_mvv 5)))))))
theorem sc__law_changed_trap : FnScope ["trap", "change", "numbers", "size", "at", "rows"] ["trap", "change", "numbers", "size"] (defScope s__law_changed_trap) := ⟨rfl, rfl, rfl, by decide +kernel, rfl, by decide +kernel, by decide +kernel⟩
theorem ok__law_changed_trap (T : Txt mg) (hf : IsFn K mg "_law_changed_trap" s__law_changed_trap)  : Def P w K mg base "_law_changed_trap" 1 4 [] f__law_changed_trap := by
  refine def_ok (k := 0) (body := b__law_changed_trap) hf sc__law_changed_trap (fun _ _ _ _ _ _ us hl => match us, hl with | [_, _, _, _], _ => rfl) fun f cdv A outer s H E C => ?_
  exact (ss_cons (ss_set 4 (se_op op_mod vr_mod (se_ixv 2 se_int) (se_op oAdd vr_add (se_borB 0 cLen vr_len rfl T.b_len (by decide +kernel)) se_int)) C.nd)
    (ss_cons (ss_frz 5 (ss_set 5 (se_callTy call_list_of vr_list rfl T.b_list (by decide +kernel) (sa_cons (se_rdv 0) sa_nil)) C.nd))
    (ss_cons (ss_if (st_w (sw_or (st_cmp (oEq C.hu) vr_eq (se_rdv 1) se_int) (sw_or1 (st_cmp (oEq C.hu) vr_eq (se_rdv 1) se_int)))) (ss_one (ss_frz 5 (ss_set 5 (se_op oAdd vr_add (se_sl (se_rdv 5) so_none (so_some (se_rdv 4))) (se_sl (se_rdv 5) (so_some (se_op oAdd vr_add (se_rdv 4) se_int)) so_none)) C.nd))) (ss_one (ss_if (st_w (sw_or (st_cmp (oEq C.hu) vr_eq (se_rdv 1) se_int) (sw_or1 (st_cmp (oEq C.hu) vr_eq (se_rdv 1) se_int)))) (ss_one (ss_frz 5 (ss_set 5 (se_op oAdd vr_add (se_op oAdd vr_add (se_sl (se_rdv 5) so_none (so_some (se_rdv 4))) (se_lst (sa_cons (se_op op_mod vr_mod (se_ixv 2 se_int) (se_rdv 3)) sa_nil))) (se_sl (se_rdv 5) (so_some (se_rdv 4)) so_none)) C.nd))) (ss_one (ss_if (st_cmp (oEq C.hu) vr_eq (se_rdv 1) se_int) (ss_one (ss_frz 5 (ss_set 5 (se_op oAdd vr_add (se_op oAdd vr_add (se_sl (se_rdv 5) so_none (so_some (se_rdv 4))) (se_lst (sa_cons (se_ix (se_lst (sa_cons (se_un un_neg vr_neg se_int) (sa_cons (se_rdv 3) (sa_cons (se_op op_pow vr_pow se_int se_int) sa_nil)))) (se_op op_mod vr_mod (se_ixv 2 se_int) se_int)) sa_nil))) (se_sl (se_rdv 5) (so_some (se_rdv 4)) so_none)) C.nd))) ss_nil)))))
    (ss_one (ss_ret (se_mvv 5))))))
theorem sc__law_judges_agree : FnScope ["moves", "goals", "start", "plan", "trap", "row", "starts", "other", "held", "place", "told"] ["moves", "goals", "start", "plan", "trap", "row"] (defScope s__law_judges_agree) := ⟨rfl, rfl, rfl, by decide +kernel, rfl, by decide +kernel, by decide +kernel⟩
theorem ok__law_judges_agree (T : Txt mg) (hf : IsFn K mg "_law_judges_agree" s__law_judges_agree) (G_shows_plan : Def P w K mg base "shows_plan" 4 4 [] f_shows_plan) (G_shows_trap : Def P w K mg base "shows_trap" 3 4 [] f_shows_trap) (G__law_plan_is_right : Def P w K mg base "_law_plan_is_right" 1 4 [] f__law_plan_is_right) (G__law_trap_is_right : Def P w K mg base "_law_trap_is_right" 1 4 [] f__law_trap_is_right) (G__law_says : Def P w K mg base "_law_says" 1 2 [] f__law_says) (G__law_changed_plan : Def P w K mg base "_law_changed_plan" 1 3 [] f__law_changed_plan) (G__law_changed_trap : Def P w K mg base "_law_changed_trap" 1 4 [] f__law_changed_trap) : Def P w K mg base "_law_judges_agree" 5 6 [] f__law_judges_agree := by
  refine def_ok (k := 4) (body := b__law_judges_agree) hf sc__law_judges_agree (fun _ _ _ _ _ _ us hl => match us, hl with | [_, _, _, _, _, _], _ => rfl) fun f cdv A outer s H E C => ?_
  exact (ss_cons (ss_frz 6 (ss_set 6 (se_lst (sa_cons (se_rdv 2) (sa_cons (se_op op_mod vr_mod (se_ixv 5 se_int) (se_borB 0 cLen vr_len rfl T.b_len (by decide +kernel))) (sa_cons (se_un un_neg vr_neg se_int) (sa_cons (se_borB 0 cLen vr_len rfl T.b_len (by decide +kernel)) sa_nil))))) C.nd))
    (ss_cons (ss_frz 7 (ss_set 7 (se_call G__law_changed_plan (C.hr.mono (by decide)) C.tk (sga_fz (se_rdv 3) (sga_fz (se_ixv 5 se_int) (sga_fz (se_sl (se_rdv 5) (so_some se_int) (so_some se_int)) sga_nil)))) C.nd))
    (ss_cons (ss_frz 8 (ss_set 8 (se_call G__law_changed_trap (C.hr.mono (by decide)) C.tk (sga_fz (se_rdv 4) (sga_fz (se_ixv 5 se_int) (sga_fz (se_sl (se_rdv 5) (so_some se_int) (so_some se_int)) (sga_fz (se_borB 0 cLen vr_len rfl T.b_len (by decide +kernel)) sga_nil))))) C.nd))
    (ss_cons (ss_for (vs := [9]) (ws := [9, 10]) C.hp C.calm (si_any (se_lst (sa_cons (se_ixv 6 se_int) (sa_cons (se_ixv 6 se_int) (sa_cons (se_ixv 6 (se_op oAdd vr_add se_int (se_op op_mod vr_mod (se_ixv 5 se_int) se_int))) sa_nil))))) (sg_n 9 C.nd)
    (ss_cons (ss_for (vs := [10]) (ws := [10]) C.hp C.calm (si_any (se_lst (sa_cons (se_callTy call_list_of vr_list rfl T.b_list (by decide +kernel) (sa_cons (se_rdv 3) sa_nil)) (sa_cons (se_rdv 7) sa_nil)))) (sg_n 10 C.nd)
    (ss_one (ss_if (st_not (st_val (se_call G__law_says (C.hr.mono (by decide)) C.tk (sga_fz (se_call G_shows_plan (C.hr.mono (by decide)) C.tk (sga_fz (se_rdv 0) (sga_fz (se_rdv 1) (sga_fz (se_rdv 9) (sga_fz (se_rdv 10) sga_nil))))) (sga_fz (se_call G__law_plan_is_right (C.hr.mono (by decide)) C.tk (sga_fz (se_rdv 0) (sga_fz (se_rdv 1) (sga_fz (se_rdv 9) (sga_fz (se_rdv 10) sga_nil))))) sga_nil))))) (ss_one (ss_ret se_bl)) ss_nil)))
    (ss_one (ss_for (vs := [10]) (ws := [10]) C.hp C.calm (si_any (se_lst (sa_cons (se_callTy call_list_of vr_list rfl T.b_list (by decide +kernel) (sa_cons (se_rdv 4) sa_nil)) (sa_cons (se_rdv 8) sa_nil)))) (sg_n 10 C.nd)
    (ss_one (ss_if (st_not (st_val (se_call G__law_says (C.hr.mono (by decide)) C.tk (sga_fz (se_call G_shows_trap (C.hr.mono (by decide)) C.tk (sga_fz (se_rdv 0) (sga_fz (se_rdv 1) (sga_fz (se_rdv 9) (sga_fz (se_rdv 10) sga_nil))))) (sga_fz (se_call G__law_trap_is_right (C.hr.mono (by decide)) C.tk (sga_fz (se_rdv 0) (sga_fz (se_rdv 1) (sga_fz (se_rdv 9) (sga_fz (se_rdv 10) sga_nil))))) sga_nil))))) (ss_one (ss_ret se_bl)) ss_nil))))))
    (ss_one (ss_ret se_bl))))))
theorem sc_law : FnScope ["script", "shape", "size", "many", "moves", "chained", "keys", "k", "key", "share", "marks", "best", "goals", "start", "handed", "plan", "first", "trap", "given", "second"] ["script"] (defScope s_law) := ⟨rfl, rfl, rfl, by decide +kernel, rfl, by decide +kernel, by decide +kernel⟩
end
/-- what the top has written -/
structure Facts (K : PySem.W.Frag) (mg : Mg) : Prop where
  T : Txt mg
  h_is_integer : IsFn K mg "is_integer" s_is_integer
  h_is_place : IsFn K mg "is_place" s_is_place
  h_are_places : IsFn K mg "are_places" s_are_places
  h_is_moves : IsFn K mg "is_moves" s_is_moves
  h_demand_question : IsFn K mg "demand_question" s_demand_question
  h_forcing_event : IsFn K mg "forcing_event" s_forcing_event
  h_forced_plan : IsFn K mg "forced_plan" s_forced_plan
  h_wish_paper : IsFn K mg "wish_paper" s_wish_paper
  h_pair_is_right : IsFn K mg "pair_is_right" s_pair_is_right
  h_shows_plan : IsFn K mg "shows_plan" s_shows_plan
  h_holds_off : IsFn K mg "holds_off" s_holds_off
  h_shows_trap : IsFn K mg "shows_trap" s_shows_trap
  h__law_cell : IsFn K mg "_law_cell" s__law_cell
  h__law_row : IsFn K mg "_law_row" s__law_row
  h__law_targets : IsFn K mg "_law_targets" s__law_targets
  h__law_moves : IsFn K mg "_law_moves" s__law_moves
  h__law_chained : IsFn K mg "_law_chained" s__law_chained
  h__law_copied : IsFn K mg "_law_copied" s__law_copied
  h__law_is_integer : IsFn K mg "_law_is_integer" s__law_is_integer
  h__law_plan_is_right : IsFn K mg "_law_plan_is_right" s__law_plan_is_right
  h__law_trap_is_right : IsFn K mg "_law_trap_is_right" s__law_trap_is_right
  h__law_best : IsFn K mg "_law_best" s__law_best
  h__law_plan_is_least : IsFn K mg "_law_plan_is_least" s__law_plan_is_least
  h__law_is_paper : IsFn K mg "_law_is_paper" s__law_is_paper
  h__law_is_trap : IsFn K mg "_law_is_trap" s__law_is_trap
  h__law_is_plan : IsFn K mg "_law_is_plan" s__law_is_plan
  h__law_says : IsFn K mg "_law_says" s__law_says
  h__law_changed_plan : IsFn K mg "_law_changed_plan" s__law_changed_plan
  h__law_changed_trap : IsFn K mg "_law_changed_trap" s__law_changed_trap
  h__law_judges_agree : IsFn K mg "_law_judges_agree" s__law_judges_agree
  h_law : IsFn K mg "law" s_law
section
variable {P : Program} {w : World} {K : PySem.W.Frag} {mg : Mg} {base : Heap}
theorem g_is_integer (Fa : Facts K mg) : Def P w K mg base "is_integer" 1 1 [] f_is_integer := ok_is_integer Fa.T Fa.h_is_integer 
theorem g_is_place (Fa : Facts K mg) : Def P w K mg base "is_place" 2 2 [] f_is_place := ok_is_place Fa.T Fa.h_is_place (g_is_integer Fa)
theorem g_are_places (Fa : Facts K mg) : Def P w K mg base "are_places" 3 2 [] f_are_places := ok_are_places Fa.T Fa.h_are_places (g_is_place Fa)
theorem g_is_moves (Fa : Facts K mg) : Def P w K mg base "is_moves" 4 1 [] f_is_moves := ok_is_moves Fa.T Fa.h_is_moves (g_are_places Fa)
theorem g_demand_question (Fa : Facts K mg) : Def P w K mg base "demand_question" 5 3 [] f_demand_question := ok_demand_question Fa.T Fa.h_demand_question (g_is_place Fa) (g_are_places Fa) (g_is_moves Fa)
theorem g_forcing_event (Fa : Facts K mg) : Def P w K mg base "forcing_event" 1 2 [] f_forcing_event := ok_forcing_event Fa.T Fa.h_forcing_event 
theorem g_forced_plan (Fa : Facts K mg) : Def P w K mg base "forced_plan" 2 2 [] f_forced_plan := ok_forced_plan Fa.T Fa.h_forced_plan (g_forcing_event Fa)
theorem g_wish_paper (Fa : Facts K mg) : Def P w K mg base "wish_paper" 6 3 [] f_wish_paper := ok_wish_paper Fa.T Fa.h_wish_paper (g_demand_question Fa) (g_forced_plan Fa)
theorem g_pair_is_right (Fa : Facts K mg) : Def P w K mg base "pair_is_right" 3 5 [] f_pair_is_right := ok_pair_is_right Fa.T Fa.h_pair_is_right (g_is_place Fa)
theorem g_shows_plan (Fa : Facts K mg) : Def P w K mg base "shows_plan" 4 4 [] f_shows_plan := ok_shows_plan Fa.T Fa.h_shows_plan (g_is_place Fa) (g_pair_is_right Fa)
theorem g_holds_off (Fa : Facts K mg) : Def P w K mg base "holds_off" 1 3 [] f_holds_off := ok_holds_off Fa.T Fa.h_holds_off 
theorem g_shows_trap (Fa : Facts K mg) : Def P w K mg base "shows_trap" 3 4 [] f_shows_trap := ok_shows_trap Fa.T Fa.h_shows_trap (g_is_place Fa) (g_holds_off Fa)
theorem g__law_cell (Fa : Facts K mg) : Def P w K mg base "_law_cell" 1 2 [] f__law_cell := ok__law_cell Fa.T Fa.h__law_cell 
theorem g__law_row (Fa : Facts K mg) : Def P w K mg base "_law_row" 1 2 [] f__law_row := ok__law_row Fa.T Fa.h__law_row 
theorem g__law_targets (Fa : Facts K mg) : Def P w K mg base "_law_targets" 1 2 [] f__law_targets := ok__law_targets Fa.T Fa.h__law_targets 
theorem g__law_moves (Fa : Facts K mg) : Def P w K mg base "_law_moves" 2 3 [] f__law_moves := ok__law_moves Fa.T Fa.h__law_moves (g__law_cell Fa) (g__law_row Fa) (g__law_targets Fa)
theorem g__law_chained (Fa : Facts K mg) : Def P w K mg base "_law_chained" 1 3 [] f__law_chained := ok__law_chained Fa.T Fa.h__law_chained 
theorem g__law_copied (Fa : Facts K mg) : Def P w K mg base "_law_copied" 1 2 [] f__law_copied := ok__law_copied Fa.T Fa.h__law_copied 
theorem g__law_is_integer (Fa : Facts K mg) : Def P w K mg base "_law_is_integer" 1 1 [] f__law_is_integer := ok__law_is_integer Fa.T Fa.h__law_is_integer 
theorem g__law_plan_is_right (Fa : Facts K mg) : Def P w K mg base "_law_plan_is_right" 1 4 [] f__law_plan_is_right := ok__law_plan_is_right Fa.T Fa.h__law_plan_is_right 
theorem g__law_trap_is_right (Fa : Facts K mg) : Def P w K mg base "_law_trap_is_right" 1 4 [] f__law_trap_is_right := ok__law_trap_is_right Fa.T Fa.h__law_trap_is_right 
theorem g__law_best (Fa : Facts K mg) : Def P w K mg base "_law_best" 1 2 [] f__law_best := ok__law_best Fa.T Fa.h__law_best 
theorem g__law_plan_is_least (Fa : Facts K mg) : Def P w K mg base "_law_plan_is_least" 2 3 [] f__law_plan_is_least := ok__law_plan_is_least Fa.T Fa.h__law_plan_is_least (g__law_is_integer Fa) (g__law_plan_is_right Fa) (g__law_best Fa)
theorem g__law_is_paper (Fa : Facts K mg) : Def P w K mg base "_law_is_paper" 1 2 [] f__law_is_paper := ok__law_is_paper Fa.T Fa.h__law_is_paper 
theorem g__law_is_trap (Fa : Facts K mg) : Def P w K mg base "_law_is_trap" 2 2 [] f__law_is_trap := ok__law_is_trap Fa.T Fa.h__law_is_trap (g__law_is_integer Fa) (g__law_is_paper Fa)
theorem g__law_is_plan (Fa : Facts K mg) : Def P w K mg base "_law_is_plan" 3 3 [] f__law_is_plan := ok__law_is_plan Fa.T Fa.h__law_is_plan (g__law_plan_is_least Fa) (g__law_is_paper Fa)
theorem g__law_says (Fa : Facts K mg) : Def P w K mg base "_law_says" 1 2 [] f__law_says := ok__law_says Fa.T Fa.h__law_says 
theorem g__law_changed_plan (Fa : Facts K mg) : Def P w K mg base "_law_changed_plan" 1 3 [] f__law_changed_plan := ok__law_changed_plan Fa.T Fa.h__law_changed_plan 
theorem g__law_changed_trap (Fa : Facts K mg) : Def P w K mg base "_law_changed_trap" 1 4 [] f__law_changed_trap := ok__law_changed_trap Fa.T Fa.h__law_changed_trap 
theorem g__law_judges_agree (Fa : Facts K mg) : Def P w K mg base "_law_judges_agree" 5 6 [] f__law_judges_agree := ok__law_judges_agree Fa.T Fa.h__law_judges_agree (g_shows_plan Fa) (g_shows_trap Fa) (g__law_plan_is_right Fa) (g__law_trap_is_right Fa) (g__law_says Fa) (g__law_changed_plan Fa) (g__law_changed_trap Fa)
theorem law_fn (Fa : Facts K mg) {fa : Addr} (hfa : mg "law" = some (.ref fa)) : ∃ fd : FuncData, (∀ (s : Shared) (u : Value), BindsTo s fd ⟨[u], []⟩ [("script", u)]) ∧ ∀ base : Heap, True → FnOk P w K mg base (L2.CX P w) 7 fa fd ["script"] (spF K mg 1 f_law) := by
  have T := Fa.T
  have hb : ∀ (base : Heap), True → ∀ (f : Addr) (cdv : Value) (A : Around) (outer : List Env) (s : Shared) (H : Hp) (E : XK), Cg (cxD P w K mg base ["script", "shape", "size", "many", "moves", "chained", "keys", "k", "key", "share", "marks", "best", "goals", "start", "handed", "plan", "first", "trap", "given", "second"] "law" s_law f cdv A outer s H E) (wxD E) 6 → SSs (cxD P w K mg base ["script", "shape", "size", "many", "moves", "chained", "keys", "k", "key", "share", "marks", "best", "goals", "start", "handed", "plan", "first", "trap", "given", "second"] "law" s_law f cdv A outer s H E) (wxD E) (defBody s_law) b_law := by
    intro base _ f cdv A outer s H E C
    have G_is_moves : Def P w K mg base "is_moves" 4 1 [] f_is_moves := g_is_moves Fa
    have G_wish_paper : Def P w K mg base "wish_paper" 6 3 [] f_wish_paper := g_wish_paper Fa
    have G__law_cell : Def P w K mg base "_law_cell" 1 2 [] f__law_cell := g__law_cell Fa
    have G__law_row : Def P w K mg base "_law_row" 1 2 [] f__law_row := g__law_row Fa
    have G__law_moves : Def P w K mg base "_law_moves" 2 3 [] f__law_moves := g__law_moves Fa
    have G__law_chained : Def P w K mg base "_law_chained" 1 3 [] f__law_chained := g__law_chained Fa
    have G__law_copied : Def P w K mg base "_law_copied" 1 2 [] f__law_copied := g__law_copied Fa
    have G__law_trap_is_right : Def P w K mg base "_law_trap_is_right" 1 4 [] f__law_trap_is_right := g__law_trap_is_right Fa
    have G__law_is_trap : Def P w K mg base "_law_is_trap" 2 2 [] f__law_is_trap := g__law_is_trap Fa
    have G__law_is_plan : Def P w K mg base "_law_is_plan" 3 3 [] f__law_is_plan := g__law_is_plan Fa
    have G__law_judges_agree : Def P w K mg base "_law_judges_agree" 5 6 [] f__law_judges_agree := g__law_judges_agree Fa
    exact (ss_cons (ss_frz 1 (ss_set 1 (se_call G__law_row (C.hr.mono (by decide)) C.tk (sga_fz (se_call G__law_cell (C.hr.mono (by decide)) C.tk (sga_fz (se_rdv 0) (sga_fz se_int sga_nil))) (sga_fz (se_op oAdd vr_add (se_lst (sa_cons se_int (sa_cons se_int (sa_cons se_int (sa_cons se_int (sa_cons se_int (sa_cons se_int (sa_cons se_int (sa_cons se_int sa_nil))))))))) (se_lst (sa_cons se_int (sa_cons se_int (sa_cons se_int (sa_cons se_int (sa_cons se_int (sa_cons se_int (sa_cons se_int (sa_cons se_int (sa_cons se_int (sa_cons se_int sa_nil)))))))))))) sga_nil))) C.nd))
        (ss_cons (ss_set 2 (se_op oAdd vr_add se_int (se_ixv 1 se_int)) C.nd)
        (ss_cons (ss_set 3 (se_ixv 1 se_int) C.nd)
        (ss_cons (ss_if (st_cmp (oEq C.hu) vr_eq (se_ixv 1 se_int) se_int) (ss_cons (ss_set 2 (se_op oAdd vr_add se_int (se_ixv 1 se_int)) C.nd)
        (ss_one (ss_set 3 (se_op oAdd vr_add se_int (se_op op_mod vr_mod (se_ixv 1 se_int) se_int)) C.nd))) ss_nil)
        (ss_cons (ss_set 4 (se_call G__law_moves (C.hr.mono (by decide)) C.tk (sga_fz (se_rdv 0) (sga_fz (se_rdv 2) (sga_fz (se_rdv 3) sga_nil)))) C.nd)
        (ss_cons (ss_set 5 (se_and (se_cmp (oEq C.hu) vr_eq (se_ixv 1 se_int) se_int) (se_one (se_cmp op_gt vr_cI (se_rdv 3) se_int))) C.nd)
        (ss_cons (ss_frz 6 (ss_set 6 (se_call G__law_row (C.hr.mono (by decide)) C.tk (sga_fz (se_call G__law_cell (C.hr.mono (by decide)) C.tk (sga_fz (se_rdv 0) (sga_fz se_int sga_nil))) (sga_fz (se_lc (own := [("k", 7)]) C.calm C.nd (si_r1 (se_rdv 2) rfl T.b_range) (blkOk_by (by kernel_rfl)) (fun _ _ _ _ _ => (sg_n 7 C.nd)) (fun _ _ _ _ _ => st_yes) (fun _ _ _ _ _ => se_int)) sga_nil))) C.nd))
        (ss_cons (ss_if (st_val (se_rdv 5)) (ss_one (ss_set 4 (se_call G__law_chained (C.hr.mono (by decide)) C.tk (sga_mv (se_mvv 4) (sga_fz (se_lc (own := [("key", 8)]) C.calm C.nd (si_any (se_rdv 6)) (blkOk_by (by kernel_rfl)) (fun _ _ _ _ _ => (sg_n 8 C.nd)) (fun _ _ _ _ _ => st_yes) (fun _ _ _ _ _ => (se_op op_fdivW vr_fdiv (se_rdv 8) se_int))) (sga_fz (se_lc (own := [("key", 8)]) C.calm C.nd (si_any (se_rdv 6)) (blkOk_by (by kernel_rfl)) (fun _ _ _ _ _ => (sg_n 8 C.nd)) (fun _ _ _ _ _ => st_yes) (fun _ _ _ _ _ => (se_op op_mod vr_mod (se_callTy call_int1 vr_int rfl T.b_int (by decide +kernel) (sa_cons (se_rdv 8) sa_nil)) se_int))) sga_nil)))) C.nd)) ss_nil)
        (ss_cons (ss_set 9 (se_ix (se_lst (sa_cons se_int (sa_cons se_int (sa_cons se_int sa_nil)))) (se_ixv 1 se_int)) C.nd)
        (ss_cons (ss_frz 10 (ss_set 10 (se_call G__law_row (C.hr.mono (by decide)) C.tk (sga_fz (se_call G__law_cell (C.hr.mono (by decide)) C.tk (sga_fz (se_rdv 0) (sga_fz se_int sga_nil))) (sga_fz (se_lc (own := [("k", 7)]) C.calm C.nd (si_r1 (se_rdv 2) rfl T.b_range) (blkOk_by (by kernel_rfl)) (fun _ _ _ _ _ => (sg_n 7 C.nd)) (fun _ _ _ _ _ => st_yes) (fun _ _ _ _ _ => (se_rdv 9))) sga_nil))) C.nd))
        (ss_cons (ss_if (st_w (sw_and (st_val (se_rdv 5)) (sw_and1 (st_cmp (oEq C.hu) vr_eq (se_ixv 1 se_int) se_int)))) (ss_cons (ss_set 11 (se_ix (se_callB (cMinE C.calm C.hu) vr_minE rfl T.b_min (by decide +kernel) (sa_cons (se_lc (own := [("k", 7)]) C.calm C.nd (si_r1 (se_rdv 2) rfl T.b_range) (blkOk_by (by kernel_rfl)) (fun _ _ _ _ _ => (sg_n 7 C.nd)) (fun _ _ _ _ _ => st_yes) (fun _ _ _ _ _ => (se_tup (sa_cons (se_op op_fdivW vr_fdiv (se_ixv 6 (se_rdv 7)) se_int) (sa_cons (se_rdv 7) sa_nil))))) sa_nil)) se_int) C.nd)
        (ss_one (ss_frz 10 (ss_set 10 (se_lc (own := [("k", 7)]) C.calm C.nd (si_r1 (se_rdv 2) rfl T.b_range) (blkOk_by (by kernel_rfl)) (fun _ _ _ _ _ => (sg_n 7 C.nd)) (fun _ _ _ _ _ => st_yes) (fun _ _ _ _ _ => (se_callTy call_int1 vr_int rfl T.b_int (by decide +kernel) (sa_cons (se_cmp (oEq C.hu) vr_eq (se_rdv 7) (se_rdv 11)) sa_nil)))) C.nd)))) ss_nil)
        (ss_cons (ss_frz 12 (ss_setLc 12 (own := [("k", 7)]) C.calm C.nd rfl rfl (sw_true rfl rfl rfl (by decide +kernel)) (si_r1 (se_rdv 2) rfl T.b_range) (blkOk_by (by kernel_rfl)) (fun _ _ _ _ _ => (sg_n 7 C.nd)) (fun _ _ _ _ _ => (st_one (st_cmp (oEq C.hu) vr_eq (se_ixv 10 (se_rdv 7)) se_int))) (fun _ _ _ _ _ => (se_rdv 7))))
        (ss_cons (ss_set 13 (se_op op_mod vr_mod (se_ixv 1 se_int) (se_rdv 2)) C.nd)
        (ss_cons (ss_frz 14 (ss_set 14 (se_call G__law_copied (C.hr.mono (by decide)) C.tk (sga_fz (se_rdv 4) (sga_fz (se_cmp (oEq C.hu) vr_eq (se_ixv 1 se_int) se_int) sga_nil))) C.nd))
        (ss_cons (ss_if (st_cmp oIsn vr_isn (se_call G_is_moves (C.hr.mono (by decide)) C.tk (sga_fz (se_rdv 14) sga_nil)) se_bl) (ss_one (ss_ret se_bl)) ss_nil)
        (ss_cons (ss_set 15 (se_callTy call_tuple_of vr_tuple rfl T.b_tuple (by decide +kernel) (sa_cons (se_lc (own := [("k", 7)]) C.calm C.nd (si_r1 (se_rdv 2) rfl T.b_range) (blkOk_by (by kernel_rfl)) (fun _ _ _ _ _ => (sg_n 7 C.nd)) (fun _ _ _ _ _ => st_yes) (fun _ _ _ _ _ => (se_tup (sa_cons (se_un un_neg vr_neg se_int) (sa_cons (se_un un_neg vr_neg se_int) sa_nil))))) sa_nil)) C.nd)
        (ss_cons (ss_if (st_cmp op_gt vr_cI (se_borB 12 cLen vr_len rfl T.b_len (by decide +kernel)) se_int) (ss_cons (ss_frz 16 (ss_set 16 (se_call G_wish_paper (C.hr.mono (by decide)) C.tk (sga_fz (se_rdv 14) (sga_fz (se_callTy call_list_of vr_list rfl T.b_list (by decide +kernel) (sa_cons (se_rdv 12) sa_nil)) (sga_fz (se_ixv 12 se_int) sga_nil)))) C.nd))
        (ss_cons (ss_if (st_not (st_val (se_call G__law_is_plan (C.hr.mono (by decide)) C.tk (sga_fz (se_rdv 16) (sga_fz (se_rdv 4) (sga_fz (se_rdv 12) sga_nil)))))) (ss_one (ss_ret se_bl)) ss_nil)
        (ss_one (ss_set 15 (se_ixv 16 se_int) C.nd)))) ss_nil)
        (ss_cons (ss_frz 17 (ss_setLc 17 (own := [("k", 7)]) C.calm C.nd rfl rfl (sw_true rfl rfl rfl (by decide +kernel)) (si_r1 (se_rdv 2) rfl T.b_range) (blkOk_by (by kernel_rfl)) (fun _ _ _ _ _ => (sg_n 7 C.nd)) (fun _ _ _ _ _ => (st_one (st_cmp (oEq C.hu) vr_eq (se_ix (se_ixv 15 (se_rdv 7)) se_int) (se_un un_neg vr_neg se_int)))) (fun _ _ _ _ _ => (se_rdv 7))))
        (ss_cons (ss_frz 18 (ss_set 18 (se_callTy call_list_of vr_list rfl T.b_list (by decide +kernel) (sa_cons (se_rdv 12) sa_nil)) C.nd))
        (ss_cons (ss_frz 19 (ss_set 19 (se_call G_wish_paper (C.hr.mono (by decide)) C.tk (sga_fz (se_rdv 14) (sga_fz (se_rdv 18) (sga_fz (se_rdv 13) sga_nil)))) C.nd))
        (ss_cons (ss_if (st_bor2 17 op_in_seq (vr_in false) (se_rdv 13)) (ss_one (ss_if (st_w (sw_or (st_not (st_val (se_call G__law_trap_is_right (C.hr.mono (by decide)) C.tk (sga_fz (se_rdv 4) (sga_fz (se_rdv 12) (sga_fz (se_rdv 13) (sga_fz (se_rdv 17) sga_nil))))))) (sw_or1 (st_not (st_val (se_call G__law_is_trap (C.hr.mono (by decide)) C.tk (sga_fz (se_rdv 19) (sga_fz (se_rdv 17) sga_nil)))))))) (ss_one (ss_ret se_bl)) ss_nil)) (ss_one (ss_if (st_not (st_val (se_call G__law_is_plan (C.hr.mono (by decide)) C.tk (sga_fz (se_rdv 19) (sga_fz (se_rdv 4) (sga_fz (se_rdv 12) sga_nil)))))) (ss_one (ss_ret se_bl)) ss_nil)))
        (ss_cons (ss_if (st_not (st_val (se_call G__law_judges_agree (C.hr.mono (by decide)) C.tk (sga_fz (se_rdv 14) (sga_fz (se_rdv 18) (sga_fz (se_rdv 13) (sga_fz (se_rdv 15) (sga_fz (se_rdv 17) (sga_fz (se_sl (se_rdv 1) (so_some se_int) so_none) sga_nil))))))))) (ss_one (ss_ret se_bl)) ss_nil)
        (ss_one (ss_ret (se_and (se_cmp (oEq C.hu) vr_eq (se_rdv 14) (se_call G__law_copied (C.hr.mono (by decide)) C.tk (sga_fz (se_rdv 4) (sga_fz (se_cmp (oEq C.hu) vr_eq (se_ixv 1 se_int) se_int) sga_nil)))) (se_one (se_cmp (oEq C.hu) vr_eq (se_rdv 18) (se_rdv 12))))))))))))))))))))))))))))
  exact law_ok (k := 6) (N := ["script", "shape", "size", "many", "moves", "chained", "keys", "k", "key", "share", "marks", "best", "goals", "start", "handed", "plan", "first", "trap", "given", "second"]) (st := s_law) (body := b_law) (fun _ => True) Fa.h_law sc_law (fun _ _ _ _ _ _ us hl => match us, hl with | [_], _ => rfl) hb hfa
theorem facts_mk {h : Heap} (X : K.In h) (G : h.Ns mainGlobals mg)
    {x0 : Addr} {od0 an0 : Option Addr} {sl0 : Array (Option Value)} {oc0 kV0 dc0 pm0 cd0 ct0 : Value}
    {x1 : Addr} {od1 an1 : Option Addr} {sl1 : Array (Option Value)} {oc1 kV1 dc1 pm1 cd1 ct1 : Value}
    {x2 : Addr} {od2 an2 : Option Addr} {sl2 : Array (Option Value)} {oc2 kV2 dc2 pm2 cd2 ct2 : Value}
    {x3 : Addr} {od3 an3 : Option Addr} {sl3 : Array (Option Value)} {oc3 kV3 dc3 pm3 cd3 ct3 : Value}
    {x4 : Addr} {od4 an4 : Option Addr} {sl4 : Array (Option Value)} {oc4 kV4 dc4 pm4 cd4 ct4 : Value}
    {x5 : Addr} {od5 an5 : Option Addr} {sl5 : Array (Option Value)} {oc5 kV5 dc5 pm5 cd5 ct5 : Value}
    {x6 : Addr} {od6 an6 : Option Addr} {sl6 : Array (Option Value)} {oc6 kV6 dc6 pm6 cd6 ct6 : Value}
    {x7 : Addr} {od7 an7 : Option Addr} {sl7 : Array (Option Value)} {oc7 kV7 dc7 pm7 cd7 ct7 : Value}
    {x8 : Addr} {od8 an8 : Option Addr} {sl8 : Array (Option Value)} {oc8 kV8 dc8 pm8 cd8 ct8 : Value}
    {x9 : Addr} {od9 an9 : Option Addr} {sl9 : Array (Option Value)} {oc9 kV9 dc9 pm9 cd9 ct9 : Value}
    {x10 : Addr} {od10 an10 : Option Addr} {sl10 : Array (Option Value)} {oc10 kV10 dc10 pm10 cd10 ct10 : Value}
    {x11 : Addr} {od11 an11 : Option Addr} {sl11 : Array (Option Value)} {oc11 kV11 dc11 pm11 cd11 ct11 : Value}
    {x12 : Addr} {od12 an12 : Option Addr} {sl12 : Array (Option Value)} {oc12 kV12 dc12 pm12 cd12 ct12 : Value}
    {x13 : Addr} {od13 an13 : Option Addr} {sl13 : Array (Option Value)} {oc13 kV13 dc13 pm13 cd13 ct13 : Value}
    {x14 : Addr} {od14 an14 : Option Addr} {sl14 : Array (Option Value)} {oc14 kV14 dc14 pm14 cd14 ct14 : Value}
    {x15 : Addr} {od15 an15 : Option Addr} {sl15 : Array (Option Value)} {oc15 kV15 dc15 pm15 cd15 ct15 : Value}
    {x16 : Addr} {od16 an16 : Option Addr} {sl16 : Array (Option Value)} {oc16 kV16 dc16 pm16 cd16 ct16 : Value}
    {x17 : Addr} {od17 an17 : Option Addr} {sl17 : Array (Option Value)} {oc17 kV17 dc17 pm17 cd17 ct17 : Value}
    {x18 : Addr} {od18 an18 : Option Addr} {sl18 : Array (Option Value)} {oc18 kV18 dc18 pm18 cd18 ct18 : Value}
    {x19 : Addr} {od19 an19 : Option Addr} {sl19 : Array (Option Value)} {oc19 kV19 dc19 pm19 cd19 ct19 : Value}
    {x20 : Addr} {od20 an20 : Option Addr} {sl20 : Array (Option Value)} {oc20 kV20 dc20 pm20 cd20 ct20 : Value}
    {x21 : Addr} {od21 an21 : Option Addr} {sl21 : Array (Option Value)} {oc21 kV21 dc21 pm21 cd21 ct21 : Value}
    {x22 : Addr} {od22 an22 : Option Addr} {sl22 : Array (Option Value)} {oc22 kV22 dc22 pm22 cd22 ct22 : Value}
    {x23 : Addr} {od23 an23 : Option Addr} {sl23 : Array (Option Value)} {oc23 kV23 dc23 pm23 cd23 ct23 : Value}
    {x24 : Addr} {od24 an24 : Option Addr} {sl24 : Array (Option Value)} {oc24 kV24 dc24 pm24 cd24 ct24 : Value}
    {x25 : Addr} {od25 an25 : Option Addr} {sl25 : Array (Option Value)} {oc25 kV25 dc25 pm25 cd25 ct25 : Value}
    {x26 : Addr} {od26 an26 : Option Addr} {sl26 : Array (Option Value)} {oc26 kV26 dc26 pm26 cd26 ct26 : Value}
    {x27 : Addr} {od27 an27 : Option Addr} {sl27 : Array (Option Value)} {oc27 kV27 dc27 pm27 cd27 ct27 : Value}
    {x28 : Addr} {od28 an28 : Option Addr} {sl28 : Array (Option Value)} {oc28 kV28 dc28 pm28 cd28 ct28 : Value}
    {x29 : Addr} {od29 an29 : Option Addr} {sl29 : Array (Option Value)} {oc29 kV29 dc29 pm29 cd29 ct29 : Value}
    {x30 : Addr} {od30 an30 : Option Addr} {sl30 : Array (Option Value)} {oc30 kV30 dc30 pm30 cd30 ct30 : Value}
    (a_is_integer : PySem.W.nsIn K mainGlobals "is_integer" = some (some (.ref x0)))
    (l_is_integer : K.lookup x0 = some ⟨oc0, od0, .func (PySem.W.fnOf "is_integer" "is_integer" (defArgs s_is_integer) (defBody s_is_integer) (defScope s_is_integer) .none kV0 dc0 pm0 an0 cd0 ct0), sl0⟩)
    (c_is_integer : PySem.W.codeIn K cd0 "is_integer" = true)
    (k_is_integer : PySem.W.keepIn K (.ref x0) = true)
    (a_is_place : PySem.W.nsIn K mainGlobals "is_place" = some (some (.ref x1)))
    (l_is_place : K.lookup x1 = some ⟨oc1, od1, .func (PySem.W.fnOf "is_place" "is_place" (defArgs s_is_place) (defBody s_is_place) (defScope s_is_place) .none kV1 dc1 pm1 an1 cd1 ct1), sl1⟩)
    (c_is_place : PySem.W.codeIn K cd1 "is_place" = true)
    (k_is_place : PySem.W.keepIn K (.ref x1) = true)
    (a_are_places : PySem.W.nsIn K mainGlobals "are_places" = some (some (.ref x2)))
    (l_are_places : K.lookup x2 = some ⟨oc2, od2, .func (PySem.W.fnOf "are_places" "are_places" (defArgs s_are_places) (defBody s_are_places) (defScope s_are_places) .none kV2 dc2 pm2 an2 cd2 ct2), sl2⟩)
    (c_are_places : PySem.W.codeIn K cd2 "are_places" = true)
    (k_are_places : PySem.W.keepIn K (.ref x2) = true)
    (a_is_moves : PySem.W.nsIn K mainGlobals "is_moves" = some (some (.ref x3)))
    (l_is_moves : K.lookup x3 = some ⟨oc3, od3, .func (PySem.W.fnOf "is_moves" "is_moves" (defArgs s_is_moves) (defBody s_is_moves) (defScope s_is_moves) .none kV3 dc3 pm3 an3 cd3 ct3), sl3⟩)
    (c_is_moves : PySem.W.codeIn K cd3 "is_moves" = true)
    (k_is_moves : PySem.W.keepIn K (.ref x3) = true)
    (a_demand_question : PySem.W.nsIn K mainGlobals "demand_question" = some (some (.ref x4)))
    (l_demand_question : K.lookup x4 = some ⟨oc4, od4, .func (PySem.W.fnOf "demand_question" "demand_question" (defArgs s_demand_question) (defBody s_demand_question) (defScope s_demand_question) .none kV4 dc4 pm4 an4 cd4 ct4), sl4⟩)
    (c_demand_question : PySem.W.codeIn K cd4 "demand_question" = true)
    (k_demand_question : PySem.W.keepIn K (.ref x4) = true)
    (a_forcing_event : PySem.W.nsIn K mainGlobals "forcing_event" = some (some (.ref x5)))
    (l_forcing_event : K.lookup x5 = some ⟨oc5, od5, .func (PySem.W.fnOf "forcing_event" "forcing_event" (defArgs s_forcing_event) (defBody s_forcing_event) (defScope s_forcing_event) .none kV5 dc5 pm5 an5 cd5 ct5), sl5⟩)
    (c_forcing_event : PySem.W.codeIn K cd5 "forcing_event" = true)
    (k_forcing_event : PySem.W.keepIn K (.ref x5) = true)
    (a_forced_plan : PySem.W.nsIn K mainGlobals "forced_plan" = some (some (.ref x6)))
    (l_forced_plan : K.lookup x6 = some ⟨oc6, od6, .func (PySem.W.fnOf "forced_plan" "forced_plan" (defArgs s_forced_plan) (defBody s_forced_plan) (defScope s_forced_plan) .none kV6 dc6 pm6 an6 cd6 ct6), sl6⟩)
    (c_forced_plan : PySem.W.codeIn K cd6 "forced_plan" = true)
    (k_forced_plan : PySem.W.keepIn K (.ref x6) = true)
    (a_wish_paper : PySem.W.nsIn K mainGlobals "wish_paper" = some (some (.ref x7)))
    (l_wish_paper : K.lookup x7 = some ⟨oc7, od7, .func (PySem.W.fnOf "wish_paper" "wish_paper" (defArgs s_wish_paper) (defBody s_wish_paper) (defScope s_wish_paper) .none kV7 dc7 pm7 an7 cd7 ct7), sl7⟩)
    (c_wish_paper : PySem.W.codeIn K cd7 "wish_paper" = true)
    (k_wish_paper : PySem.W.keepIn K (.ref x7) = true)
    (a_pair_is_right : PySem.W.nsIn K mainGlobals "pair_is_right" = some (some (.ref x8)))
    (l_pair_is_right : K.lookup x8 = some ⟨oc8, od8, .func (PySem.W.fnOf "pair_is_right" "pair_is_right" (defArgs s_pair_is_right) (defBody s_pair_is_right) (defScope s_pair_is_right) .none kV8 dc8 pm8 an8 cd8 ct8), sl8⟩)
    (c_pair_is_right : PySem.W.codeIn K cd8 "pair_is_right" = true)
    (k_pair_is_right : PySem.W.keepIn K (.ref x8) = true)
    (a_shows_plan : PySem.W.nsIn K mainGlobals "shows_plan" = some (some (.ref x9)))
    (l_shows_plan : K.lookup x9 = some ⟨oc9, od9, .func (PySem.W.fnOf "shows_plan" "shows_plan" (defArgs s_shows_plan) (defBody s_shows_plan) (defScope s_shows_plan) .none kV9 dc9 pm9 an9 cd9 ct9), sl9⟩)
    (c_shows_plan : PySem.W.codeIn K cd9 "shows_plan" = true)
    (k_shows_plan : PySem.W.keepIn K (.ref x9) = true)
    (a_holds_off : PySem.W.nsIn K mainGlobals "holds_off" = some (some (.ref x10)))
    (l_holds_off : K.lookup x10 = some ⟨oc10, od10, .func (PySem.W.fnOf "holds_off" "holds_off" (defArgs s_holds_off) (defBody s_holds_off) (defScope s_holds_off) .none kV10 dc10 pm10 an10 cd10 ct10), sl10⟩)
    (c_holds_off : PySem.W.codeIn K cd10 "holds_off" = true)
    (k_holds_off : PySem.W.keepIn K (.ref x10) = true)
    (a_shows_trap : PySem.W.nsIn K mainGlobals "shows_trap" = some (some (.ref x11)))
    (l_shows_trap : K.lookup x11 = some ⟨oc11, od11, .func (PySem.W.fnOf "shows_trap" "shows_trap" (defArgs s_shows_trap) (defBody s_shows_trap) (defScope s_shows_trap) .none kV11 dc11 pm11 an11 cd11 ct11), sl11⟩)
    (c_shows_trap : PySem.W.codeIn K cd11 "shows_trap" = true)
    (k_shows_trap : PySem.W.keepIn K (.ref x11) = true)
    (a__law_cell : PySem.W.nsIn K mainGlobals "_law_cell" = some (some (.ref x12)))
    (l__law_cell : K.lookup x12 = some ⟨oc12, od12, .func (PySem.W.fnOf "_law_cell" "_law_cell" (defArgs s__law_cell) (defBody s__law_cell) (defScope s__law_cell) .none kV12 dc12 pm12 an12 cd12 ct12), sl12⟩)
    (c__law_cell : PySem.W.codeIn K cd12 "_law_cell" = true)
    (k__law_cell : PySem.W.keepIn K (.ref x12) = true)
    (a__law_row : PySem.W.nsIn K mainGlobals "_law_row" = some (some (.ref x13)))
    (l__law_row : K.lookup x13 = some ⟨oc13, od13, .func (PySem.W.fnOf "_law_row" "_law_row" (defArgs s__law_row) (defBody s__law_row) (defScope s__law_row) .none kV13 dc13 pm13 an13 cd13 ct13), sl13⟩)
    (c__law_row : PySem.W.codeIn K cd13 "_law_row" = true)
    (k__law_row : PySem.W.keepIn K (.ref x13) = true)
    (a__law_targets : PySem.W.nsIn K mainGlobals "_law_targets" = some (some (.ref x14)))
    (l__law_targets : K.lookup x14 = some ⟨oc14, od14, .func (PySem.W.fnOf "_law_targets" "_law_targets" (defArgs s__law_targets) (defBody s__law_targets) (defScope s__law_targets) .none kV14 dc14 pm14 an14 cd14 ct14), sl14⟩)
    (c__law_targets : PySem.W.codeIn K cd14 "_law_targets" = true)
    (k__law_targets : PySem.W.keepIn K (.ref x14) = true)
    (a__law_moves : PySem.W.nsIn K mainGlobals "_law_moves" = some (some (.ref x15)))
    (l__law_moves : K.lookup x15 = some ⟨oc15, od15, .func (PySem.W.fnOf "_law_moves" "_law_moves" (defArgs s__law_moves) (defBody s__law_moves) (defScope s__law_moves) .none kV15 dc15 pm15 an15 cd15 ct15), sl15⟩)
    (c__law_moves : PySem.W.codeIn K cd15 "_law_moves" = true)
    (k__law_moves : PySem.W.keepIn K (.ref x15) = true)
    (a__law_chained : PySem.W.nsIn K mainGlobals "_law_chained" = some (some (.ref x16)))
    (l__law_chained : K.lookup x16 = some ⟨oc16, od16, .func (PySem.W.fnOf "_law_chained" "_law_chained" (defArgs s__law_chained) (defBody s__law_chained) (defScope s__law_chained) .none kV16 dc16 pm16 an16 cd16 ct16), sl16⟩)
    (c__law_chained : PySem.W.codeIn K cd16 "_law_chained" = true)
    (k__law_chained : PySem.W.keepIn K (.ref x16) = true)
    (a__law_copied : PySem.W.nsIn K mainGlobals "_law_copied" = some (some (.ref x17)))
    (l__law_copied : K.lookup x17 = some ⟨oc17, od17, .func (PySem.W.fnOf "_law_copied" "_law_copied" (defArgs s__law_copied) (defBody s__law_copied) (defScope s__law_copied) .none kV17 dc17 pm17 an17 cd17 ct17), sl17⟩)
    (c__law_copied : PySem.W.codeIn K cd17 "_law_copied" = true)
    (k__law_copied : PySem.W.keepIn K (.ref x17) = true)
    (a__law_is_integer : PySem.W.nsIn K mainGlobals "_law_is_integer" = some (some (.ref x18)))
    (l__law_is_integer : K.lookup x18 = some ⟨oc18, od18, .func (PySem.W.fnOf "_law_is_integer" "_law_is_integer" (defArgs s__law_is_integer) (defBody s__law_is_integer) (defScope s__law_is_integer) .none kV18 dc18 pm18 an18 cd18 ct18), sl18⟩)
    (c__law_is_integer : PySem.W.codeIn K cd18 "_law_is_integer" = true)
    (k__law_is_integer : PySem.W.keepIn K (.ref x18) = true)
    (a__law_plan_is_right : PySem.W.nsIn K mainGlobals "_law_plan_is_right" = some (some (.ref x19)))
    (l__law_plan_is_right : K.lookup x19 = some ⟨oc19, od19, .func (PySem.W.fnOf "_law_plan_is_right" "_law_plan_is_right" (defArgs s__law_plan_is_right) (defBody s__law_plan_is_right) (defScope s__law_plan_is_right) .none kV19 dc19 pm19 an19 cd19 ct19), sl19⟩)
    (c__law_plan_is_right : PySem.W.codeIn K cd19 "_law_plan_is_right" = true)
    (k__law_plan_is_right : PySem.W.keepIn K (.ref x19) = true)
    (a__law_trap_is_right : PySem.W.nsIn K mainGlobals "_law_trap_is_right" = some (some (.ref x20)))
    (l__law_trap_is_right : K.lookup x20 = some ⟨oc20, od20, .func (PySem.W.fnOf "_law_trap_is_right" "_law_trap_is_right" (defArgs s__law_trap_is_right) (defBody s__law_trap_is_right) (defScope s__law_trap_is_right) .none kV20 dc20 pm20 an20 cd20 ct20), sl20⟩)
    (c__law_trap_is_right : PySem.W.codeIn K cd20 "_law_trap_is_right" = true)
    (k__law_trap_is_right : PySem.W.keepIn K (.ref x20) = true)
    (a__law_best : PySem.W.nsIn K mainGlobals "_law_best" = some (some (.ref x21)))
    (l__law_best : K.lookup x21 = some ⟨oc21, od21, .func (PySem.W.fnOf "_law_best" "_law_best" (defArgs s__law_best) (defBody s__law_best) (defScope s__law_best) .none kV21 dc21 pm21 an21 cd21 ct21), sl21⟩)
    (c__law_best : PySem.W.codeIn K cd21 "_law_best" = true)
    (k__law_best : PySem.W.keepIn K (.ref x21) = true)
    (a__law_plan_is_least : PySem.W.nsIn K mainGlobals "_law_plan_is_least" = some (some (.ref x22)))
    (l__law_plan_is_least : K.lookup x22 = some ⟨oc22, od22, .func (PySem.W.fnOf "_law_plan_is_least" "_law_plan_is_least" (defArgs s__law_plan_is_least) (defBody s__law_plan_is_least) (defScope s__law_plan_is_least) .none kV22 dc22 pm22 an22 cd22 ct22), sl22⟩)
    (c__law_plan_is_least : PySem.W.codeIn K cd22 "_law_plan_is_least" = true)
    (k__law_plan_is_least : PySem.W.keepIn K (.ref x22) = true)
    (a__law_is_paper : PySem.W.nsIn K mainGlobals "_law_is_paper" = some (some (.ref x23)))
    (l__law_is_paper : K.lookup x23 = some ⟨oc23, od23, .func (PySem.W.fnOf "_law_is_paper" "_law_is_paper" (defArgs s__law_is_paper) (defBody s__law_is_paper) (defScope s__law_is_paper) .none kV23 dc23 pm23 an23 cd23 ct23), sl23⟩)
    (c__law_is_paper : PySem.W.codeIn K cd23 "_law_is_paper" = true)
    (k__law_is_paper : PySem.W.keepIn K (.ref x23) = true)
    (a__law_is_trap : PySem.W.nsIn K mainGlobals "_law_is_trap" = some (some (.ref x24)))
    (l__law_is_trap : K.lookup x24 = some ⟨oc24, od24, .func (PySem.W.fnOf "_law_is_trap" "_law_is_trap" (defArgs s__law_is_trap) (defBody s__law_is_trap) (defScope s__law_is_trap) .none kV24 dc24 pm24 an24 cd24 ct24), sl24⟩)
    (c__law_is_trap : PySem.W.codeIn K cd24 "_law_is_trap" = true)
    (k__law_is_trap : PySem.W.keepIn K (.ref x24) = true)
    (a__law_is_plan : PySem.W.nsIn K mainGlobals "_law_is_plan" = some (some (.ref x25)))
    (l__law_is_plan : K.lookup x25 = some ⟨oc25, od25, .func (PySem.W.fnOf "_law_is_plan" "_law_is_plan" (defArgs s__law_is_plan) (defBody s__law_is_plan) (defScope s__law_is_plan) .none kV25 dc25 pm25 an25 cd25 ct25), sl25⟩)
    (c__law_is_plan : PySem.W.codeIn K cd25 "_law_is_plan" = true)
    (k__law_is_plan : PySem.W.keepIn K (.ref x25) = true)
    (a__law_says : PySem.W.nsIn K mainGlobals "_law_says" = some (some (.ref x26)))
    (l__law_says : K.lookup x26 = some ⟨oc26, od26, .func (PySem.W.fnOf "_law_says" "_law_says" (defArgs s__law_says) (defBody s__law_says) (defScope s__law_says) .none kV26 dc26 pm26 an26 cd26 ct26), sl26⟩)
    (c__law_says : PySem.W.codeIn K cd26 "_law_says" = true)
    (k__law_says : PySem.W.keepIn K (.ref x26) = true)
    (a__law_changed_plan : PySem.W.nsIn K mainGlobals "_law_changed_plan" = some (some (.ref x27)))
    (l__law_changed_plan : K.lookup x27 = some ⟨oc27, od27, .func (PySem.W.fnOf "_law_changed_plan" "_law_changed_plan" (defArgs s__law_changed_plan) (defBody s__law_changed_plan) (defScope s__law_changed_plan) .none kV27 dc27 pm27 an27 cd27 ct27), sl27⟩)
    (c__law_changed_plan : PySem.W.codeIn K cd27 "_law_changed_plan" = true)
    (k__law_changed_plan : PySem.W.keepIn K (.ref x27) = true)
    (a__law_changed_trap : PySem.W.nsIn K mainGlobals "_law_changed_trap" = some (some (.ref x28)))
    (l__law_changed_trap : K.lookup x28 = some ⟨oc28, od28, .func (PySem.W.fnOf "_law_changed_trap" "_law_changed_trap" (defArgs s__law_changed_trap) (defBody s__law_changed_trap) (defScope s__law_changed_trap) .none kV28 dc28 pm28 an28 cd28 ct28), sl28⟩)
    (c__law_changed_trap : PySem.W.codeIn K cd28 "_law_changed_trap" = true)
    (k__law_changed_trap : PySem.W.keepIn K (.ref x28) = true)
    (a__law_judges_agree : PySem.W.nsIn K mainGlobals "_law_judges_agree" = some (some (.ref x29)))
    (l__law_judges_agree : K.lookup x29 = some ⟨oc29, od29, .func (PySem.W.fnOf "_law_judges_agree" "_law_judges_agree" (defArgs s__law_judges_agree) (defBody s__law_judges_agree) (defScope s__law_judges_agree) .none kV29 dc29 pm29 an29 cd29 ct29), sl29⟩)
    (c__law_judges_agree : PySem.W.codeIn K cd29 "_law_judges_agree" = true)
    (k__law_judges_agree : PySem.W.keepIn K (.ref x29) = true)
    (a_law : PySem.W.nsIn K mainGlobals "law" = some (some (.ref x30)))
    (l_law : K.lookup x30 = some ⟨oc30, od30, .func (PySem.W.fnOf "law" "law" (defArgs s_law) (defBody s_law) (defScope s_law) .none kV30 dc30 pm30 an30 cd30 ct30), sl30⟩)
    (c_law : PySem.W.codeIn K cd30 "law" = true)
    (k_law : PySem.W.keepIn K (.ref x30) = true)
    (b_bool : PySem.W.nsIn K mainGlobals "bool" = some none)
    (b_enumerate : PySem.W.nsIn K mainGlobals "enumerate" = some none)
    (b_int : PySem.W.nsIn K mainGlobals "int" = some none)
    (b_isinstance : PySem.W.nsIn K mainGlobals "isinstance" = some none)
    (b_len : PySem.W.nsIn K mainGlobals "len" = some none)
    (b_list : PySem.W.nsIn K mainGlobals "list" = some none)
    (b_max : PySem.W.nsIn K mainGlobals "max" = some none)
    (b_min : PySem.W.nsIn K mainGlobals "min" = some none)
    (b_range : PySem.W.nsIn K mainGlobals "range" = some none)
    (b_set : PySem.W.nsIn K mainGlobals "set" = some none)
    (b_sorted : PySem.W.nsIn K mainGlobals "sorted" = some none)
    (b_str : PySem.W.nsIn K mainGlobals "str" = some none)
    (b_tuple : PySem.W.nsIn K mainGlobals "tuple" = some none)
    {t_MOST_EVENTS : Tok} (e_MOST_EVENTS : PySem.W.nsIn K mainGlobals "MOST_EVENTS" = some (some (.int 6 t_MOST_EVENTS)))
    {t_MOST_RESTS : Tok} (e_MOST_RESTS : PySem.W.nsIn K mainGlobals "MOST_RESTS" = some (some (.int 60 t_MOST_RESTS))) : Facts K mg where
  T := { b_bool := PySem.W.mg_none_of X G b_bool, b_enumerate := PySem.W.mg_none_of X G b_enumerate, b_int := PySem.W.mg_none_of X G b_int, b_isinstance := PySem.W.mg_none_of X G b_isinstance, b_len := PySem.W.mg_none_of X G b_len, b_list := PySem.W.mg_none_of X G b_list, b_max := PySem.W.mg_none_of X G b_max, b_min := PySem.W.mg_none_of X G b_min, b_range := PySem.W.mg_none_of X G b_range, b_set := PySem.W.mg_none_of X G b_set, b_sorted := PySem.W.mg_none_of X G b_sorted, b_str := PySem.W.mg_none_of X G b_str, b_tuple := PySem.W.mg_none_of X G b_tuple, c_MOST_EVENTS := ⟨_, PySem.W.mg_of X G e_MOST_EVENTS⟩, c_MOST_RESTS := ⟨_, PySem.W.mg_of X G e_MOST_RESTS⟩ }
  h_is_integer := HasFn.is ⟨_, _, _, _, _, _, _, _, _, _, a_is_integer, l_is_integer, c_is_integer, k_is_integer⟩ X G
  h_is_place := HasFn.is ⟨_, _, _, _, _, _, _, _, _, _, a_is_place, l_is_place, c_is_place, k_is_place⟩ X G
  h_are_places := HasFn.is ⟨_, _, _, _, _, _, _, _, _, _, a_are_places, l_are_places, c_are_places, k_are_places⟩ X G
  h_is_moves := HasFn.is ⟨_, _, _, _, _, _, _, _, _, _, a_is_moves, l_is_moves, c_is_moves, k_is_moves⟩ X G
  h_demand_question := HasFn.is ⟨_, _, _, _, _, _, _, _, _, _, a_demand_question, l_demand_question, c_demand_question, k_demand_question⟩ X G
  h_forcing_event := HasFn.is ⟨_, _, _, _, _, _, _, _, _, _, a_forcing_event, l_forcing_event, c_forcing_event, k_forcing_event⟩ X G
  h_forced_plan := HasFn.is ⟨_, _, _, _, _, _, _, _, _, _, a_forced_plan, l_forced_plan, c_forced_plan, k_forced_plan⟩ X G
  h_wish_paper := HasFn.is ⟨_, _, _, _, _, _, _, _, _, _, a_wish_paper, l_wish_paper, c_wish_paper, k_wish_paper⟩ X G
  h_pair_is_right := HasFn.is ⟨_, _, _, _, _, _, _, _, _, _, a_pair_is_right, l_pair_is_right, c_pair_is_right, k_pair_is_right⟩ X G
  h_shows_plan := HasFn.is ⟨_, _, _, _, _, _, _, _, _, _, a_shows_plan, l_shows_plan, c_shows_plan, k_shows_plan⟩ X G
  h_holds_off := HasFn.is ⟨_, _, _, _, _, _, _, _, _, _, a_holds_off, l_holds_off, c_holds_off, k_holds_off⟩ X G
  h_shows_trap := HasFn.is ⟨_, _, _, _, _, _, _, _, _, _, a_shows_trap, l_shows_trap, c_shows_trap, k_shows_trap⟩ X G
  h__law_cell := HasFn.is ⟨_, _, _, _, _, _, _, _, _, _, a__law_cell, l__law_cell, c__law_cell, k__law_cell⟩ X G
  h__law_row := HasFn.is ⟨_, _, _, _, _, _, _, _, _, _, a__law_row, l__law_row, c__law_row, k__law_row⟩ X G
  h__law_targets := HasFn.is ⟨_, _, _, _, _, _, _, _, _, _, a__law_targets, l__law_targets, c__law_targets, k__law_targets⟩ X G
  h__law_moves := HasFn.is ⟨_, _, _, _, _, _, _, _, _, _, a__law_moves, l__law_moves, c__law_moves, k__law_moves⟩ X G
  h__law_chained := HasFn.is ⟨_, _, _, _, _, _, _, _, _, _, a__law_chained, l__law_chained, c__law_chained, k__law_chained⟩ X G
  h__law_copied := HasFn.is ⟨_, _, _, _, _, _, _, _, _, _, a__law_copied, l__law_copied, c__law_copied, k__law_copied⟩ X G
  h__law_is_integer := HasFn.is ⟨_, _, _, _, _, _, _, _, _, _, a__law_is_integer, l__law_is_integer, c__law_is_integer, k__law_is_integer⟩ X G
  h__law_plan_is_right := HasFn.is ⟨_, _, _, _, _, _, _, _, _, _, a__law_plan_is_right, l__law_plan_is_right, c__law_plan_is_right, k__law_plan_is_right⟩ X G
  h__law_trap_is_right := HasFn.is ⟨_, _, _, _, _, _, _, _, _, _, a__law_trap_is_right, l__law_trap_is_right, c__law_trap_is_right, k__law_trap_is_right⟩ X G
  h__law_best := HasFn.is ⟨_, _, _, _, _, _, _, _, _, _, a__law_best, l__law_best, c__law_best, k__law_best⟩ X G
  h__law_plan_is_least := HasFn.is ⟨_, _, _, _, _, _, _, _, _, _, a__law_plan_is_least, l__law_plan_is_least, c__law_plan_is_least, k__law_plan_is_least⟩ X G
  h__law_is_paper := HasFn.is ⟨_, _, _, _, _, _, _, _, _, _, a__law_is_paper, l__law_is_paper, c__law_is_paper, k__law_is_paper⟩ X G
  h__law_is_trap := HasFn.is ⟨_, _, _, _, _, _, _, _, _, _, a__law_is_trap, l__law_is_trap, c__law_is_trap, k__law_is_trap⟩ X G
  h__law_is_plan := HasFn.is ⟨_, _, _, _, _, _, _, _, _, _, a__law_is_plan, l__law_is_plan, c__law_is_plan, k__law_is_plan⟩ X G
  h__law_says := HasFn.is ⟨_, _, _, _, _, _, _, _, _, _, a__law_says, l__law_says, c__law_says, k__law_says⟩ X G
  h__law_changed_plan := HasFn.is ⟨_, _, _, _, _, _, _, _, _, _, a__law_changed_plan, l__law_changed_plan, c__law_changed_plan, k__law_changed_plan⟩ X G
  h__law_changed_trap := HasFn.is ⟨_, _, _, _, _, _, _, _, _, _, a__law_changed_trap, l__law_changed_trap, c__law_changed_trap, k__law_changed_trap⟩ X G
  h__law_judges_agree := HasFn.is ⟨_, _, _, _, _, _, _, _, _, _, a__law_judges_agree, l__law_judges_agree, c__law_judges_agree, k__law_judges_agree⟩ X G
  h_law := HasFn.is ⟨_, _, _, _, _, _, _, _, _, _, a_law, l_law, c_law, k_law⟩ X G
end
end L61
namespace L61
open PySem VS
abbrev Pr := List Int × Bool
abbrev Mv := List (List Pr)
abbrev Pl := List (Int × Int)
def eP (b : Bool) (p : Pr) : D := .tup [eL b (p.1.map .int), .bl p.2]
def eR (b : Bool) (r : List Pr) : D := eL b (r.map (eP b))
def eM (b : Bool) (mv : Mv) : D := eL b (mv.map (eR b))
structure VM (mv : Mv) (many : Nat) : Prop where
  sz : mv.length ≤ 1000
  mn : many ≤ 1000
  row : ∀ r ∈ mv, r.length = many
  asc : ∀ r ∈ mv, ∀ p ∈ r, p.1.Pairwise (· < ·)
  rng : ∀ r ∈ mv, ∀ p ∈ r, ∀ t ∈ p.1, 0 ≤ t ∧ t < (mv.length : Int)
theorem is_integer_s (i : Int) : f_is_integer [(.int i, 0)] = .ok (.bl true, 0) := by
  rw [f_is_integer, fnOf_ap]
  simp [b_is_integer, fill]
theorem is_place_s (i n : Int) : f_is_place [(.int i, 0), (.int n, 0)] = .ok (.bl (decide (0 ≤ i ∧ i < n)), 0) := by
  rw [f_is_place, fnOf_ap]
  by_cases h : 0 ≤ i <;> simp [b_is_place, fill, is_integer_s, h]
/-! the judge of plans -/
def evOk (plan : Pl) (rank : Int) (p : Pr) : Bool := !p.2 && !p.1.isEmpty && p.1.all fun t => decide (0 ≤ (gt plan t).1) && decide ((gt plan t).1 < rank)
def pairOk (mv : Mv) (plan : Pl) (rank event : Int) (r : Int) : Bool :=
  if rank = -1 ∧ event = -1 then true
  else if rank < 1 ∨ ¬ (0 ≤ event ∧ event < (gt mv r).length) then false else evOk plan rank (gt (gt mv r) event)
def restOk (mv : Mv) (goals : List Int) (plan : Pl) (r : Int) : Bool :=
  if r ∈ goals then decide ((gt plan r).1 = 0 ∧ (gt plan r).2 = -1) else pairOk mv plan (gt plan r).1 (gt plan r).2 r
def planOk (mv : Mv) (goals : List Int) (start : Int) (plan : Pl) : Bool :=
  decide (plan.length = mv.length) && decide (0 ≤ start ∧ start < mv.length) && decide ((gt plan start).1 ≠ -1) && (List.range mv.length).all fun (r : Nat) => restOk mv goals plan r
theorem VM.at_ {mv : Mv} {many : Nat} (V : VM mv many) {r : Int} (h0 : 0 ≤ r) (h1 : r < mv.length) : (gt mv r).length = many := V.row _ (gt_mem h0 h1)
theorem VM.ev {mv : Mv} {many : Nat} (V : VM mv many) {r e : Int} (h0 : 0 ≤ r) (h1 : r < mv.length) (h2 : 0 ≤ e) (h3 : e < (gt mv r).length) : ∀ t ∈ (gt (gt mv r) e).1, 0 ≤ t ∧ t < (mv.length : Int) := V.rng _ (gt_mem h0 h1) _ (gt_mem h2 h3)
theorem lpr_s (b c : Bool) (mv : Mv) (goals : List Int) (start : Int) (plan : Pl) (many : Nat) (V : VM mv many) :
    f__law_plan_is_right [(eM b mv, 0), (.lst (goals.map .int), 0), (.int start, 0), (eL c (plan.map prD), 0)] = .ok (.bl (planOk mv goals start plan), 0) := by
  rw [f__law_plan_is_right, fnOf_ap]
  have hsz := V.sz
  unfold planOk
  by_cases h1 : plan.length = mv.length
  case neg => simp [b__law_plan_is_right, fill, eM, h1]; omega
  by_cases h2 : 0 ≤ start ∧ start < mv.length
  case neg =>
    by_cases h3 : 0 ≤ start
    · have h4 : ¬ start < mv.length := fun z => h2 ⟨h3, z⟩
      simp [b__law_plan_is_right, fill, eM, h1, h3, h4]
    · simp [b__law_plan_is_right, fill, eM, h1, h3]
  obtain ⟨h3, h4⟩ := h2
  by_cases h5 : (gt plan start).1 = -1
  · simp (disch := omega) [b__law_plan_is_right, fill, eM, h1, h3, h4, h5, gIx_eL, prD]
  simp (disch := omega) [b__law_plan_is_right, fill, eM, h1, h3, h4, h5, gIx_eL, prD, iR1K_ok]
  rw [for_all (fun (i : Nat) => D.int i) (fun (i : Nat) => restOk mv goals plan i) (w := (.bl false, 0))]
  · by_cases g : (List.range mv.length).all (fun (r : Nat) => restOk mv goals plan r) = true <;> simp [g]
  · intro r hr K
    have hr1 : r < mv.length := List.mem_range.mp hr
    unfold restOk
    by_cases g : (r : Int) ∈ goals
    · simp (disch := omega) [g, h1, gIx_eL, prD]
      split <;> split <;> simp_all
    · have hev : ∀ e : Int, 0 ≤ e → e < (gt mv (r : Int)).length → ∀ t ∈ (gt (gt mv (r : Int)) e).1, 0 ≤ t ∧ t < (mv.length : Int) := fun e a1 a2 => V.ev (by omega) (by omega) a1 a2
      unfold pairOk
      generalize hk : (gt plan (r : Int)).1 = rank
      generalize he : (gt plan (r : Int)).2 = event
      by_cases q1 : rank = -1 ∧ event = -1
      · obtain ⟨q1, q2⟩ := q1
        simp (disch := omega) [g, h1, gIx_eL, prD, hk, he, q1, q2]
      have q2 : rank ≠ -1 ∨ event ≠ -1 := by omega
      by_cases q3 : rank < 1
      · by_cases q4 : rank = -1 <;> simp (disch := omega) [g, h1, gIx_eL, prD, hk, he, q1, q2, q3, q4]
      by_cases q4 : 0 ≤ event
      case neg =>
        have q5 : ¬ rank = -1 := by omega
        simp (disch := omega) [g, h1, gIx_eL, prD, hk, he, q3, q4, q5]
      have q5 : ¬ rank = -1 := by omega
      by_cases q6 : event < (gt mv (r : Int)).length
      case neg =>
        simp (disch := omega) [g, h1, gIx_eL, prD, hk, he, q3, q4, q5, q6, eR]
      have hev := hev event q4 q6
      unfold evOk
      generalize hp : gt (gt mv (r : Int)) event = p
      rw [hp] at hev
      obtain ⟨ts, en⟩ := p
      by_cases q7 : en = true
      · simp (disch := omega) [g, h1, gIx_eL, prD, hk, he, q3, q4, q5, q6, q7, eR, eP, hp]
      by_cases q8 : ts = []
      · simp (disch := omega) [g, h1, gIx_eL, prD, hk, he, q3, q4, q5, q6, q7, q8, eR, eP, hp]
      simp (disch := omega) [g, h1, gIx_eL, prD, hk, he, q3, q4, q5, q6, q7, q8, eR, eP, hp]
      rw [for_all D.int (fun t => decide (0 ≤ (gt plan t).1) && decide ((gt plan t).1 < rank)) (w := (.bl false, 0))]
      · simp
      · intro t ht K
        obtain ⟨t0, t1⟩ := hev t ht
        simp (disch := omega) [h1, gIx_eL, prD]
        by_cases z1 : 0 ≤ (gt plan t).1
        · by_cases z2 : (gt plan t).1 < rank
          · have z3 : ¬ rank ≤ (gt plan t).1 := by omega
            simp [z1, z2, z3]
          · have z3 : rank ≤ (gt plan t).1 := by omega
            simp [z1, z2, z3]
        · simp [z1]
theorem pair_is_right_s (b c : Bool) (mv : Mv) (plan : Pl) (rank event : Int) (r : Int) (many : Nat) (V : VM mv many) (h1 : plan.length = mv.length) (h3 : 0 ≤ r) (h4 : r < mv.length) :
    f_pair_is_right [(eM b mv, 0), (eL c (plan.map prD), 0), (.int rank, 0), (.int event, 0), (.int r, 0)] = .ok (.bl (pairOk mv plan rank event r), 0) := by
  rw [f_pair_is_right, fnOf_ap]
  unfold pairOk
  by_cases q1 : rank = -1 ∧ event = -1
  · obtain ⟨q1, q2⟩ := q1
    simp (disch := omega) [b_pair_is_right, fill, eM, q1, q2]
  by_cases q3 : rank < 1
  · by_cases q4 : rank = -1
    · have q5 : ¬ event = -1 := fun z => q1 ⟨q4, z⟩
      simp (disch := omega) [b_pair_is_right, fill, eM, q3, q4, q5, gIx_eL]
    · simp (disch := omega) [b_pair_is_right, fill, eM, q3, q4, gIx_eL]
  have q5 : ¬ rank = -1 := by omega
  by_cases q4 : 0 ≤ event ∧ event < (gt mv r).length
  case neg => simp (disch := omega) [b_pair_is_right, fill, eM, q3, q4, q5, gIx_eL, is_place_s, eR]
  have hev := V.ev h3 h4 q4.1 q4.2
  unfold evOk
  generalize hp : gt (gt mv r) event = p
  rw [hp] at hev
  obtain ⟨ts, en⟩ := p
  obtain ⟨q4, q6⟩ := q4
  by_cases q7 : en = true
  · simp (disch := omega) [b_pair_is_right, fill, eM, q3, q4, q6, q5, q7, gIx_eL, is_place_s, eR, eP, hp]
  by_cases q8 : ts = []
  · simp (disch := omega) [b_pair_is_right, fill, eM, q3, q4, q6, q5, q7, q8, gIx_eL, is_place_s, eR, eP, hp]
  simp (disch := omega) [b_pair_is_right, fill, eM, q3, q4, q6, q5, q7, q8, gIx_eL, is_place_s, eR, eP, hp]
  rw [for_all D.int (fun t => decide (0 ≤ (gt plan t).1) && decide ((gt plan t).1 < rank)) (w := (.bl false, 0))]
  · simp
    split <;> simp_all
  · intro t ht K
    obtain ⟨t0, t1⟩ := hev t ht
    simp (disch := omega) [h1, gIx_eL, prD]
    by_cases z1 : 0 ≤ (gt plan t).1
    · by_cases z2 : (gt plan t).1 < rank
      · have z3 : ¬ rank ≤ (gt plan t).1 := by omega
        simp [z1, z2, z3]
      · have z3 : rank ≤ (gt plan t).1 := by omega
        simp [z1, z2, z3]
    · simp [z1]
theorem all_zip {α : Type} [Inhabited α] (l : List α) (c : Nat → α → Bool) : (l.zipIdx.all fun p => c p.2 p.1) = (List.range l.length).all fun i => c i (gt l i) := by
  rw [Bool.eq_iff_iff, List.all_eq_true, List.all_eq_true]
  constructor
  · intro h i hi
    have hi' := List.mem_range.mp hi
    refine h (gt l i, i) ?_
    rw [List.mem_zipIdx_iff_getElem?]
    unfold gt
    rw [Int.toNat_natCast, List.getD_eq_getElem?_getD, List.getElem?_eq_getElem hi']
    rfl
  · intro h p hp
    rw [List.mem_zipIdx_iff_getElem?] at hp
    obtain ⟨h1, h2⟩ := List.getElem?_eq_some_iff.mp hp
    have := h p.2 (List.mem_range.mpr h1)
    unfold gt at this
    rw [Int.toNat_natCast, List.getD_eq_getElem?_getD, hp] at this
    exact this
theorem shows_plan_s (b c : Bool) (mv : Mv) (goals : List Int) (start : Int) (plan : Pl) (many : Nat) (V : VM mv many) :
    f_shows_plan [(eM b mv, 0), (.lst (goals.map .int), 0), (.int start, 0), (eL c (plan.map prD), 0)] = .ok (.bl (planOk mv goals start plan), 0) := by
  rw [f_shows_plan, fnOf_ap]
  have hsz := V.sz
  unfold planOk
  by_cases h1 : plan.length = mv.length
  case neg =>
    have h1' : ¬ (plan.length : Int) = mv.length := by omega
    simp [b_shows_plan, fill, eM, h1, h1']
  by_cases h2 : 0 ≤ start ∧ start < mv.length
  case neg => simp [b_shows_plan, fill, eM, h1, h2, is_place_s]
  obtain ⟨h3, h4⟩ := h2
  simp (disch := omega) [b_shows_plan, fill, eM, h1, h3, h4, is_place_s]
  rw [for_all (fun p : (Int × Int) × Nat => D.tup [.int p.2, prD p.1]) (fun p => restOk mv goals plan p.2) (w := (.bl false, 0))]
  · have e := all_zip plan fun i _ => restOk mv goals plan i
    rw [e, h1]
    by_cases g : (List.range mv.length).all (fun (r : Nat) => restOk mv goals plan r) = true <;> simp (disch := omega) [g, h1, gIx_eL, prD]
  · intro p hp K
    rw [List.mem_zipIdx_iff_getElem?] at hp
    obtain ⟨a1, a2⟩ := List.getElem?_eq_some_iff.mp hp
    have hp1 : p.1 = gt plan (p.2 : Int) := by
      unfold gt
      rw [Int.toNat_natCast, List.getD_eq_getElem?_getD, hp]; rfl
    obtain ⟨p1, r⟩ := p
    dsimp only at hp1 a1
    have hrr : (r : Int) < mv.length := by omega
    unfold restOk
    by_cases g : (r : Int) ∈ goals
    · simp (disch := omega) [g, h1, gIx_eL, prD, hp1]
      split <;> split <;> simp_all
    · simp (disch := omega) [g, h1, gIx_eL, prD, hp1]
      have q := pair_is_right_s b c mv plan (gt plan (r : Int)).1 (gt plan (r : Int)).2 r many V h1 (by omega) hrr
      simp only [eM, prD] at q
      simp [q]
      by_cases z : pairOk mv plan (gt plan (r : Int)).1 (gt plan (r : Int)).2 r = true <;> simp [z]
/-! the judge of traps -/
def offOk (trap : List Int) (p : Pr) : Bool := p.2 || p.1.isEmpty || p.1.any fun t => decide (t ∈ trap)
def heldOk (mv : Mv) (goals trap : List Int) (r : Int) : Bool := decide (0 ≤ r ∧ r < mv.length) && !decide (r ∈ goals) && (gt mv r).all (offOk trap)
def trapOk (mv : Mv) (goals : List Int) (start : Int) (trap : List Int) : Bool := decide (start ∈ trap) && trap.all (heldOk mv goals trap)
theorem holds_off_s (b c : Bool) (p : Pr) (trap : List Int) : f_holds_off [(eL b (p.1.map .int), 0), (.bl p.2, 0), (eL c (trap.map .int), 0)] = .ok (.bl (offOk trap p), 0) := by
  rw [f_holds_off, fnOf_ap]
  obtain ⟨ts, en⟩ := p
  unfold offOk
  by_cases q7 : en = true
  · simp [b_holds_off, fill, q7]
  by_cases q8 : ts = []
  · simp [b_holds_off, fill, q7, q8]
  simp [b_holds_off, fill, q7, q8]
  rw [for_all D.int (fun t => !decide (t ∈ trap)) (w := (.bl true, 0))]
  · by_cases g : ts.all (fun t => !decide (t ∈ trap)) = true
    · rw [if_pos g]
      rw [List.all_eq_true] at g
      simp
      exact ⟨q8, fun x hx => by simpa using g x hx⟩
    · rw [if_neg g]
      simp at g
      simp
      exact .inr g
  · intro t ht K
    by_cases z : t ∈ trap <;> simp [z]
theorem shows_trap_s (b c : Bool) (mv : Mv) (goals : List Int) (start : Int) (trap : List Int) (many : Nat) (V : VM mv many) :
    f_shows_trap [(eM b mv, 0), (.lst (goals.map .int), 0), (.int start, 0), (eL c (trap.map .int), 0)] = .ok (.bl (trapOk mv goals start trap), 0) := by
  rw [f_shows_trap, fnOf_ap]
  unfold trapOk
  by_cases h1 : start ∈ trap
  case neg => simp [b_shows_trap, fill, eM, h1]
  simp [b_shows_trap, fill, eM, h1]
  rw [for_all D.int (heldOk mv goals trap) (w := (.bl false, 0))]
  · by_cases g : trap.all (heldOk mv goals trap) = true <;> simp [g]
  · intro r hr K
    unfold heldOk
    by_cases h2 : 0 ≤ r ∧ r < mv.length
    case neg => simp [h2, is_place_s]
    by_cases h3 : r ∈ goals
    · simp [h2, h3, is_place_s]
    obtain ⟨h4, h5⟩ := h2
    simp (disch := omega) [h4, h5, h3, is_place_s, gIx_eL, eR]
    rw [for_all (eP b) (offOk trap) (w := (.bl false, 0))]
    · by_cases g : (gt mv r).all (offOk trap) = true <;> simp [g]
      exact fun z => absurd (z (by omega) (by omega)) h3
    · intro p hp K
      have q := holds_off_s b c p trap
      simp [eP, q]
      by_cases z : offOk trap p = true <;> simp [z]
theorem ltr_s (b c : Bool) (mv : Mv) (goals : List Int) (start : Int) (trap : List Int) (many : Nat) (V : VM mv many) (hm : ∀ r ∈ mv, ∀ p ∈ r, p.1.length ≤ 1000) :
    f__law_trap_is_right [(eM b mv, 0), (.lst (goals.map .int), 0), (.int start, 0), (eL c (trap.map .int), 0)] = .ok (.bl (trapOk mv goals start trap), 0) := by
  rw [f__law_trap_is_right, fnOf_ap]
  unfold trapOk
  by_cases h1 : start ∈ trap
  case neg => simp [b__law_trap_is_right, fill, eM, h1]
  simp [b__law_trap_is_right, fill, eM, h1]
  rw [for_all D.int (heldOk mv goals trap) (w := (.bl false, 0))]
  · by_cases g : trap.all (heldOk mv goals trap) = true <;> simp [g]
  · intro r hr K
    unfold heldOk
    by_cases h2 : 0 ≤ r
    case neg => simp [h2]
    by_cases h2' : r < mv.length
    case neg =>
      have : (mv.length : Int) ≤ r := by omega
      simp [h2, h2', this]
    by_cases h3 : r ∈ goals
    · simp [h2, h2', h3]
    simp (disch := omega) [h2, h2', h3, gIx_eL, eR]
    rw [for_all (eP b) (offOk trap) (w := (.bl false, 0))]
    · by_cases g : (gt mv r).all (offOk trap) = true <;> simp [g]
      exact fun z => absurd (z (by omega) (by omega)) h3
    · intro p hp K
      have hm2 := hm _ (gt_mem h2 h2') p hp
      obtain ⟨ts, en⟩ := p
      dsimp only at hm2
      unfold offOk
      by_cases q7 : en = true
      · simp [eP, q7]
      by_cases q8 : ts = []
      · simp [eP, q7, q8]
      have q9 : 0 < ts.length := List.length_pos_iff.mpr q8
      simp [eP, q7, q8, q9]
      rw [lc_flt D.int (fun t => decide (t ∈ trap)) D.int _ ts (Nat.le_trans hm2 (by decide))]
      · by_cases g : ∃ x, x ∈ ts ∧ x ∈ trap
        · obtain ⟨x, g1, g2⟩ := g
          have e : ¬ (ts.filter fun t => decide (t ∈ trap)) = [] := fun z => by
            rw [List.filter_eq_nil_iff] at z
            exact z x g1 (decide_eq_true g2)
          have e2 : ¬ ((ts.filter fun t => decide (t ∈ trap)).length : Int) = 0 := by
            have := List.length_pos_iff.mpr e
            omega
          have e3 : ∃ x, x ∈ ts ∧ x ∈ trap := ⟨x, g1, g2⟩
          simp [e2, e3]
          exact fun z => absurd g2 (z x g1)
        · have e : (ts.filter fun t => decide (t ∈ trap)) = [] := by
            rw [List.filter_eq_nil_iff]
            exact fun a m z => g ⟨a, m, of_decide_eq_true z⟩
          simp [e, g]
      · intro t ht K
        by_cases z : t ∈ trap <;> simp [z]
end L61
namespace L61
open PySem VS
theorem says_s (a b : Bool) : f__law_says [(.bl a, 0), (.bl b, 0)] = .ok (.bl (decide (a = b)), 0) := by
  rw [f__law_says, fnOf_ap]
  simp [b__law_says, fill]
theorem lint_s (i : Int) : f__law_is_integer [(.int i, 0)] = .ok (.bl true, 0) := by
  rw [f__law_is_integer, fnOf_ap]
  simp [b__law_is_integer, fill]
theorem paper_s (a w : Str) (xs : List D) : f__law_is_paper [(.tup [.str a, .tup xs], 0), (.str w, 0)] = .ok (.bl (decide (a = w)), 0) := by
  rw [f__law_is_paper, fnOf_ap]
  by_cases h : a = w <;> simp [b__law_is_paper, fill, h]
theorem istrap_s (t : List Int) (hl : t.length ≤ 1000) : f__law_is_trap [(.tup [.str "held", .tup (t.map .int)], 0), (.lst (t.map .int), 0)] = .ok (.bl true, 0) := by
  rw [f__law_is_trap, fnOf_ap]
  simp (disch := omega) [b__law_is_trap, fill, paper_s, iR1K_ok]
  rw [for_all (fun i : Nat => D.int i) (fun _ => true) (w := (.bl false, 0))]
  · simp
  · intro i hi K
    have := List.mem_range.mp hi
    simp (disch := omega) [lint_s, gIx_lst, gIx_tup]
def ranks (plan : Pl) (p : Pr) : List Int := p.1.map fun t => (gt plan t).1
def evR (plan : Pl) (p : Pr) : Option Int := if p.2 then none else match ranks plan p with
  | [] => none
  | n :: ns => if 0 ≤ ns.foldl min n then some (ns.foldl max n + 1) else none
def stepBest (plan : Pl) (row : List Pr) (best : Int × Int) (i : Nat) : Int × Int := match evR plan (gt row i) with
  | none => best
  | some m => if best.1 < 0 ∨ m < best.1 then (m, i) else best
def rowBest (plan : Pl) (row : List Pr) : Int × Int := (List.range row.length).foldl (stepBest plan row) (-1, -1)
theorem best_s (b c : Bool) (row : List Pr) (plan : Pl) (hr : row.length ≤ 1000) (hm : ∀ p ∈ row, p.1.length ≤ 1000) (ht : ∀ p ∈ row, ∀ t ∈ p.1, 0 ≤ t ∧ t < (plan.length : Int)) :
    f__law_best [(eR b row, 0), (eL c (plan.map prD), 0)] = .ok (prD (rowBest plan row), 0) := by
  rw [f__law_best, fnOf_ap]
  simp (disch := omega) [b__law_best, fill, eR, iR1K_ok]
  refine (for_fold0 (fun i : Nat => D.int i) (fun best => [some (eL b (List.map (eP b) row), 0), some (eL c (List.map prD plan), 0), some (prD best, 0), none, none, none, none, none]) (stepBest plan row) (List.range row.length) (-1, -1) ?_).trans ?_
  case refine_2 => simp [rowBest]
  · intro i hi best K
    have hi' := List.mem_range.mp hi
    unfold stepBest evR
    have hm2 := hm _ (gt_mem (l := row) (j := i) (by omega) (by omega))
    have ht2 := ht _ (gt_mem (l := row) (j := i) (by omega) (by omega))
    generalize hp : gt row (i : Int) = p
    rw [hp] at hm2 ht2
    obtain ⟨ts, en⟩ := p
    simp (disch := omega) [gIx_eL, eP, hp]
    rw [lc_map D.int (fun t => D.int (gt plan t).1) _ ts (Nat.le_trans hm2 (by decide))]
    · have e : List.map (fun t => D.int (gt plan t).1) ts = (ranks plan (ts, en)).map D.int := by simp [ranks]
      rw [e]
      generalize ranks plan (ts, en) = ns
      by_cases q7 : en = true
      · simp [q7]
      cases ns with
      | nil => simp [q7]
      | cons n ns =>
        by_cases q8 : 0 ≤ ns.foldl min n
        · by_cases q9 : best.1 < 0
          · simp [q7, gMinE_ints, gMax_ints, q8, q9, prD]
          · by_cases q10 : ns.foldl max n + 1 < best.1 <;> simp [q7, gMinE_ints, gMax_ints, q8, q9, q10, prD]
        · simp [q7, gMinE_ints, gMax_ints, q8]
    · intro t m K
      obtain ⟨t0, t1⟩ := ht2 t m
      simp (disch := omega) [gIx_eL, prD]
def leastOk (mv : Mv) (goals : List Int) (plan : Pl) (r : Nat) : Prop := gt plan (r : Int) = if (r : Int) ∈ goals then (0, -1) else rowBest plan (gt mv (r : Int))
theorem least_s (b : Bool) (mv : Mv) (goals : List Int) (plan : Pl) (many : Nat) (V : VM mv many) (hm : ∀ r ∈ mv, ∀ p ∈ r, p.1.length ≤ 1000) (hl : plan.length = mv.length) (hg : 0 < goals.length)
    (hb : ∀ r : Nat, r < mv.length → leastOk mv goals plan r) (hp : planOk mv goals (gt goals 0) plan = true) :
    f__law_plan_is_least [(eM b mv, 0), (.lst (goals.map .int), 0), (.tup (plan.map prD), 0)] = .ok (.bl true, 0) := by
  rw [f__law_plan_is_least, fnOf_ap]
  have hsz := V.sz
  simp (disch := omega) [b__law_plan_is_least, fill, eM, hl, iR1K_ok]
  rw [for_all (fun i : Nat => D.int i) (fun _ => true) (w := (.bl false, 0))]
  · simp (disch := omega) [iR1K_ok]
    rw [for_all (fun i : Nat => D.int i) (fun _ => true) (w := (.bl false, 0))]
    · have q := lpr_s b true mv goals (gt goals 0) plan many V
      simp only [eM, eL_true, hp] at q
      simp (disch := omega) [gIx_lst, q]
    · intro i hi K
      have hi' := List.mem_range.mp hi
      have q := hb i hi'
      unfold leastOk at q
      by_cases g : (i : Int) ∈ goals
      · rw [if_pos g] at q
        have e := gNe_pr (gt plan (i : Int)) (0, -1)
        simp only [prD, q] at e
        simp (disch := omega) [g, gIx_tup, prD, q, e]
      · rw [if_neg g] at q
        have e := best_s b true (gt mv (i : Int)) plan (by rw [V.at_ (by omega) (by omega)]; exact V.mn) (hm _ (gt_mem (by omega) (by omega))) (fun p m => by rw [hl]; exact V.rng _ (gt_mem (by omega) (by omega)) p m)
        simp only [eL_true] at e
        simp (disch := omega) [g, gIx_tup, gIx_eL, e, q]
  · intro i hi K
    have hi' := List.mem_range.mp hi
    simp (disch := omega) [gIx_tup, prD, lint_s]
theorem is_plan_s (b : Bool) (mv : Mv) (goals : List Int) (plan : Pl) (many : Nat) (V : VM mv many) (hm : ∀ r ∈ mv, ∀ p ∈ r, p.1.length ≤ 1000) (hl : plan.length = mv.length) (hg : 0 < goals.length)
    (hb : ∀ r : Nat, r < mv.length → leastOk mv goals plan r) (hp : planOk mv goals (gt goals 0) plan = true) :
    f__law_is_plan [(.tup [.str "forced", .tup (plan.map prD)], 0), (eM b mv, 0), (.lst (goals.map .int), 0)] = .ok (.bl true, 0) := by
  rw [f__law_is_plan, fnOf_ap]
  simp [b__law_is_plan, fill, paper_s, least_s b mv goals plan many V hm hl hg hb hp]
theorem chplan_s (plan : Pl) (change : Int) (ns : List Int) (hl : plan.length ≤ 1000) (h0 : 0 < plan.length) (hn : 3 ≤ ns.length) :
    ∃ rows : Pl, f__law_changed_plan [(.tup (plan.map prD), 0), (.int change, 0), (.lst (ns.map .int), 0)] = .ok (.lst (rows.map prD), 1) := by
  rw [f__law_changed_plan, fnOf_ap]
  have ha : 0 ≤ gt ns 0 % (plan.length : Int) := Int.emod_nonneg _ (by omega)
  have ha2 : gt ns 0 % (plan.length : Int) < plan.length := Int.emod_lt_of_pos _ (by omega)
  have hb : 0 ≤ gt ns 1 % (plan.length : Int) := Int.emod_nonneg _ (by omega)
  have hb2 : gt ns 1 % (plan.length : Int) < plan.length := Int.emod_lt_of_pos _ (by omega)
  have h0' : 0 < (plan.length : Int) := by omega
  have hx : ∀ (i j : Int), ∃ rows : Pl, (plan.map prD).set (gt ns 0 % (plan.length : Int)).toNat (.tup [.int i, .int j]) = rows.map prD := fun i j => ⟨plan.set (gt ns 0 % (plan.length : Int)).toNat (i, j), by rw [List.map_set]; rfl⟩
  by_cases c0 : change = 0
  · have e : gt ns 2 % 4 = 0 ∨ gt ns 2 % 4 = 1 ∨ gt ns 2 % 4 = 2 ∨ gt ns 2 % 4 = 3 := by omega
    rcases e with e | e | e | e <;> simp (disch := omega) [b__law_changed_plan, fill, gIx_lst, gIx_tup, h0, c0, e, prD, ixN_ok]
    all_goals exact hx _ _
  by_cases c1 : change = 1
  · simp (disch := omega) [b__law_changed_plan, fill, gIx_lst, gIx_tup, h0, c0, c1, prD, ixN_ok]
    exact hx _ _
  by_cases c2 : change = 2
  · simp (disch := omega) [b__law_changed_plan, fill, gIx_lst, gIx_tup, h0, c0, c1, c2, ixN_ok]
    exact ⟨(plan.set (gt ns 0 % (plan.length : Int)).toNat (gt plan (gt ns 1 % (plan.length : Int)))).set (gt ns 1 % (plan.length : Int)).toNat (gt plan (gt ns 0 % (plan.length : Int))), by rw [List.map_set, List.map_set]⟩
  by_cases c3 : change = 3
  · have e : gt ns 2 % 3 = 0 ∨ gt ns 2 % 3 = 1 ∨ gt ns 2 % 3 = 2 := by omega
    rcases e with e | e | e <;> simp (disch := omega) [b__law_changed_plan, fill, gIx_lst, gIx_tup, h0, c0, c1, c2, c3, e, prD, ixN_ok]
    all_goals exact hx _ _
  by_cases c4 : change = 4
  · have l1 := cutA_len plan none (some (gt ns 0 % (plan.length : Int)))
    have l2 := cutA_len plan (some (gt ns 0 % (plan.length : Int) + 1)) none
    simp (disch := omega) [b__law_changed_plan, fill, gIx_lst, gIx_tup, h0, c0, c1, c2, c3, c4, gAdd_lstE, ixN_ok, -List.map_append, -gAdd_lst]
    exact ⟨_, rfl⟩
  by_cases c5 : change = 5
  · have q := gAdd_lstE prD plan [gt plan (gt ns 0 % (plan.length : Int))] (by simp; omega)
    rw [List.map_singleton] at q
    simp (disch := omega) [b__law_changed_plan, fill, gIx_lst, gIx_tup, h0, c0, c1, c2, c3, c4, c5, q, ixN_ok, -List.map_append, -gAdd_lst]
    exact ⟨_, rfl⟩
  simp (disch := omega) [b__law_changed_plan, fill, gIx_lst, gIx_tup, h0, c0, c1, c2, c3, c4, c5, ixN_ok, -List.map_append]
  exact ⟨_, rfl⟩
theorem chtrap_s (trap : List Int) (change size : Int) (ns : List Int) (hl : trap.length ≤ 1000) (h0 : 0 < size) (hn : 3 ≤ ns.length) :
    ∃ (rows : List Int) (k : Nat), f__law_changed_trap [(.lst (trap.map .int), 0), (.int change, 0), (.lst (ns.map .int), 0), (.int size, 0)] = .ok (.lst (rows.map .int), k) := by
  rw [f__law_changed_trap, fnOf_ap]
  have h0' : 0 < (trap.length : Int) + 1 := by omega
  have ha : 0 ≤ gt ns 0 % ((trap.length : Int) + 1) := Int.emod_nonneg _ (by omega)
  have hx : ∀ l : List Int, ∃ (rows : List Int) (k : Nat), FR.ok (D.lst (l.map .int), 0) = .ok (.lst (rows.map .int), k) := fun l => ⟨l, 0, rfl⟩
  have l1 := cutA_len trap none (some (gt ns 0 % ((trap.length : Int) + 1)))
  have l2 := cutA_len trap (some (gt ns 0 % ((trap.length : Int) + 1) + 1)) none
  have l3 := cutA_len trap (some (gt ns 0 % ((trap.length : Int) + 1))) none
  have hs : ∀ x : Int, gAdd (.lst ((cutA trap none (some (gt ns 0 % ((trap.length : Int) + 1)))).map D.int)) (.lst [.int x]) = some (.lst ((cutA trap none (some (gt ns 0 % ((trap.length : Int) + 1))) ++ [x]).map .int), 1) := fun x => by
    have q := gAdd_lstE D.int (cutA trap none (some (gt ns 0 % ((trap.length : Int) + 1)))) [x] (by simp; omega)
    exact q
  have hs2 : ∀ x : Int, gAdd (.lst ((cutA trap none (some (gt ns 0 % ((trap.length : Int) + 1))) ++ [x]).map D.int)) (.lst ((cutA trap (some (gt ns 0 % ((trap.length : Int) + 1))) none).map D.int)) = some (.lst (((cutA trap none (some (gt ns 0 % ((trap.length : Int) + 1))) ++ [x]) ++ cutA trap (some (gt ns 0 % ((trap.length : Int) + 1))) none).map .int), 1) := fun x =>
    gAdd_lstE D.int _ _ (by rw [List.length_append, List.length_singleton]; omega)
  by_cases c0 : change = 0 ∨ change = 1
  · rcases c0 with c0 | c0 <;> simp (disch := omega) [b__law_changed_trap, fill, gIx_lst, h0', c0, gAdd_lstE, -List.map_append, -gAdd_lst]
    all_goals exact ⟨_, rfl⟩
  have c1 : ¬ change = 0 := fun z => c0 (.inl z)
  have c2 : ¬ change = 1 := fun z => c0 (.inr z)
  by_cases c3 : change = 2 ∨ change = 3
  · rcases c3 with c3 | c3 <;> simp (disch := omega) [b__law_changed_trap, fill, gIx_lst, h0', h0, c1, c2, c3, hs, hs2, -List.map_append, -gAdd_lst]
    all_goals exact ⟨_, rfl⟩
  have c4 : ¬ change = 2 := fun z => c3 (.inl z)
  have c5 : ¬ change = 3 := fun z => c3 (.inr z)
  by_cases c6 : change = 4
  · have e : gt ns 2 % 3 = 0 ∨ gt ns 2 % 3 = 1 ∨ gt ns 2 % 3 = 2 := by omega
    rcases e with e | e | e <;> simp (disch := omega) [b__law_changed_trap, fill, gIx_lst, h0', h0, c1, c2, c4, c5, c6, e, hs, hs2, -List.map_append, -gAdd_lst]
    all_goals exact ⟨_, rfl⟩
  simp (disch := omega) [b__law_changed_trap, fill, gIx_lst, h0', h0, c1, c2, c4, c5, c6, -List.map_append]
  exact ⟨_, rfl⟩
end L61
namespace L61
open PySem VS
theorem agree_s (b : Bool) (mv : Mv) (goals : List Int) (start : Int) (plan : Pl) (trap row : List Int) (many : Nat) (V : VM mv many) (hm : ∀ r ∈ mv, ∀ p ∈ r, p.1.length ≤ 1000) (hl : plan.length = mv.length) (h0 : 0 < mv.length) (ht : trap.length ≤ 1000) (hr : row.length = 10) :
    f__law_judges_agree [(eM b mv, 0), (.lst (goals.map .int), 0), (.int start, 0), (.tup (plan.map prD), 0), (.lst (trap.map .int), 0), (.lst (row.map .int), 0)] = .ok (.bl true, 0) := by
  have hsz := V.sz
  obtain ⟨rows, hrows⟩ := chplan_s plan (gt row 0) (cutA row (some 4) (some 7)) (by omega) (by omega) (by simp [cutA, hr, HT.sIx])
  obtain ⟨held, k, hheld⟩ := chtrap_s trap (gt row 1) mv.length (cutA row (some 7) (some 10)) ht (by omega) (by simp [cutA, hr, HT.sIx])
  have hz : ∀ (y : Int) (S : SD) (K : SD → FR), S = [some (eM b mv, 0), some (.lst (goals.map .int), 0)] ++ S.drop 2 → True := fun _ _ _ _ => trivial
  rw [f__law_judges_agree, fnOf_ap]
  have e : gt row 2 % 2 = 0 ∨ gt row 2 % 2 = 1 := by omega
  have lp := fun y pl => lpr_s b false mv goals y pl many V
  have sp := fun y pl => shows_plan_s b false mv goals y pl many V
  have lt := fun y tr => ltr_s b false mv goals y tr many V hm
  have st := fun y tr => shows_trap_s b false mv goals y tr many V
  simp only [eM, eL_false] at lp sp lt st hrows hheld
  rcases e with e | e
  all_goals
    simp (disch := omega) [b__law_judges_agree, fill, eM, gIx_lst, e, hrows, hheld, h0]
    first
    | refine (for_all D.int (fun _ => true) _ (.bl false, 0) [start, gt row 3 % (mv.length : Int), -1] (fun y hy K => ?_)).trans ?_
    | refine (for_all D.int (fun _ => true) _ (.bl false, 0) [start, gt row 3 % (mv.length : Int), (mv.length : Int)] (fun y hy K => ?_)).trans ?_
    · simp
      refine (for_all (fun pl : Pl => D.lst (pl.map prD)) (fun _ => true) _ (.bl false, 0) [plan, rows] (fun pl hpl K' => ?_)).trans ?_
      · simp [lp, sp, says_s]
      · simp
        refine (for_all (fun tr : List Int => D.lst (tr.map .int)) (fun _ => true) _ (.bl false, 0) [trap, held] (fun tr htr K' => ?_)).trans ?_
        · simp [lt, st, says_s]
        · simp
    · simp
end L61
namespace L61
open PySem VS
theorem are_places_s (b : Bool) (row : List Int) (n : Int) (ha : row.Pairwise (· < ·)) (hr : ∀ t ∈ row, 0 ≤ t ∧ t < n) : f_are_places [(eL b (row.map .int), 0), (.int n, 0)] = .ok (.bl true, 0) := by
  rw [f_are_places, fnOf_ap]
  simp [b_are_places, fill]
  refine for_gen D.int (fun last : Int => [some (eL b (List.map D.int row), 0), some (D.int n, 0), some (D.int last, 0), none]) (fun l last => l.Pairwise (· < ·) ∧ ∀ t ∈ l, last < t ∧ 0 ≤ t ∧ t < n) (fun _ _ => .ok (.bl true, 0)) ?_ ?_ row (-1) ⟨ha, fun t m => by have := hr t m; omega⟩
  · intro last _
    simp
  · intro a l last K ⟨h1, h2⟩ hk
    obtain ⟨q1, q2, q3⟩ := h2 a List.mem_cons_self
    have q4 : ¬ a ≤ last := by omega
    simp [is_place_s, q2, q3, q4]
    exact hk a ⟨(List.pairwise_cons.mp h1).2, fun t m => ⟨(List.pairwise_cons.mp h1).1 t m, (h2 t (List.mem_cons_of_mem _ m)).2⟩⟩
theorem is_moves_s (b : Bool) (mv : Mv) (many : Nat) (V : VM mv many) (h0 : 0 < mv.length) (h1 : mv.length ≤ 60) (h2 : many ≤ 6) : f_is_moves [(eM b mv, 0)] = .ok (.bl true, 0) := by
  rw [f_is_moves, fnOf_ap]
  have e0 : (gt mv 0).length = many := V.at_ (by omega) (by omega)
  have e1 : (1 : Int) ≤ mv.length := by omega
  have e2 : (mv.length : Int) ≤ 60 := by omega
  have e3 : ¬ (6 : Int) < many := by omega
  simp (disch := omega) [b_is_moves, fill, eM, gIx_eL, eR, e0, e1, e2, e3]
  rw [for_all (eR b) (fun _ => true) (w := (.bl false, 0))]
  · simp
  · intro row hrow K
    have e4 := V.row row hrow
    simp (disch := omega) [eR, gIx_eL, e0, e4]
    rw [for_all (eP b) (fun _ => true) (w := (.bl false, 0))]
    · simp
    · intro p hp K'
      have q := are_places_s b p.1 mv.length (V.asc row hrow p hp) (V.rng row hrow p hp)
      simp [eP, q]
theorem demand_s (b : Bool) (mv : Mv) (goals : List Int) (start : Int) (many : Nat) (V : VM mv many) (h0 : 0 < mv.length) (h1 : mv.length ≤ 60) (h2 : many ≤ 6) (ha : goals.Pairwise (· < ·)) (hr : ∀ t ∈ goals, 0 ≤ t ∧ t < (mv.length : Int)) (hs : 0 ≤ start ∧ start < mv.length) :
    f_demand_question [(eM b mv, 0), (.lst (goals.map .int), 0), (.int start, 0)] = .ok (.non, 0) := by
  rw [f_demand_question, fnOf_ap]
  have q1 := is_moves_s b mv many V h0 h1 h2
  have q2 := are_places_s false goals mv.length ha hr
  simp only [eM, eL_false] at q1 q2
  simp [b_demand_question, fill, eM, q1, q2, is_place_s, hs]
/-- the first event that leads into the plan -/
def leads (plan : Pl) (p : Pr) : Bool := !p.2 && !p.1.isEmpty && p.1.all fun t => decide (0 ≤ (gt plan t).1)
def forceEv (plan : Pl) (row : List Pr) : Int := match row.zipIdx.find? (fun p => leads plan p.1) with
  | some p => (p.2 : Int)
  | none => -1
theorem forcing_s (b c : Bool) (row : List Pr) (plan : Pl) (hm : ∀ p ∈ row, p.1.length ≤ 1000) (ht : ∀ p ∈ row, ∀ t ∈ p.1, 0 ≤ t ∧ t < (plan.length : Int)) :
    f_forcing_event [(eR b row, 0), (eL c (plan.map prD), 0)] = .ok (.int (forceEv plan row), 0) := by
  rw [f_forcing_event, fnOf_ap]
  simp [b_forcing_event, fill, eR]
  refine (for_gen (fun p : Pr × Nat => D.tup [D.int p.2, eP b p.1]) (fun _ : Unit => [some (eL b (List.map (eP b) row), 0), some (eL c (List.map prD plan), 0), none, none, none, none, none]) (fun l _ => ∀ p ∈ l, p.1 ∈ row)
    (fun l _ => .ok (.int (match l.find? (fun p => leads plan p.1) with | some p => (p.2 : Int) | none => -1), 0)) ?_ ?_ row.zipIdx () ?_)
  · intro _ _
    simp
  · rintro ⟨⟨ts, en⟩, i⟩ l _ K h1 hk
    have hm2 := hm _ (h1 _ List.mem_cons_self)
    have ht2 := ht _ (h1 _ List.mem_cons_self)
    dsimp only at hm2 ht2
    have hk' := hk () fun p m => h1 p (List.mem_cons_of_mem _ m)
    simp [eP]
    rw [lc_flt D.int (fun t => decide ((gt plan t).1 < 0)) D.int _ ts (Nat.le_trans hm2 (by decide))]
    · rw [List.find?_cons]
      by_cases q7 : en = true
      · have e : leads plan (ts, en) = false := by simp [leads, q7]
        simp [q7, e, hk']
        simp [q7] at e
        simp [e]
      by_cases q8 : ts = []
      · have e : leads plan (ts, en) = false := by simp [leads, q8]
        simp [q7, q8, hk'] at e ⊢
        simp [e]
      have q9 : 0 < ts.length := List.length_pos_iff.mpr q8
      by_cases q10 : (ts.filter fun t => decide ((gt plan t).1 < 0)) = []
      · have e : leads plan (ts, en) = true := by
          rw [List.filter_eq_nil_iff] at q10
          simp [leads, q7, q8]
          intro x m
          have := q10 x m
          simp at this
          exact this
        simp [q7, q10, q9] at e ⊢
        simp [e]
      · have e : leads plan (ts, en) = false := by
          cases h : leads plan (ts, en) with
          | false => rfl
          | true =>
            refine absurd ?_ q10
            rw [List.filter_eq_nil_iff]
            intro x m
            simp [leads, q7, q8] at h
            have := h x m
            simp
            exact this
        have q11 : ¬ ((ts.filter fun t => decide ((gt plan t).1 < 0)).length : Int) = 0 := by
          have := List.length_pos_iff.mpr q10
          omega
        simp [q7, q11, q9, hk'] at e ⊢
        simp [e]
        intro z
        refine absurd ?_ q10
        rw [List.filter_eq_nil_iff]
        intro x m
        simp
        exact z x m
    · intro t m K'
      obtain ⟨t0, t1⟩ := ht2 t m
      simp (disch := omega) [gIx_eL, prD]
  · intro p hp
    rw [List.mem_zipIdx_iff_getElem?] at hp
    exact List.mem_of_getElem? hp
end L61
namespace L61
open PySem VS
def foundL (mv : Mv) (pl : Pl) : List (Int × Int) := mv.zipIdx.filterMap fun p => if (gt pl (p.2 : Int)).1 < 0 ∧ 0 ≤ forceEv pl p.1 then some ((p.2 : Int), forceEv pl p.1) else none
def putAll (k : Int) (pl : Pl) (fs : List (Int × Int)) : Pl := fs.foldl (fun pl q => pl.set q.1.toNat (k, q.2)) pl
def rounds (mv : Mv) : List Nat → Pl → Pl
  | [], pl => pl
  | i :: is, pl => if foundL mv pl = [] then pl else rounds mv is (putAll (1 + (i : Int)) pl (foundL mv pl))
def plan0 (mv : Mv) (goals : List Int) : Pl := goals.foldl (fun pl g => pl.set g.toNat (0, -1)) (mv.map fun _ => (-1, -1))
def fPlan (mv : Mv) (goals : List Int) : Pl := rounds mv (List.range (mv.length - 1)) (plan0 mv goals)
theorem putAll_len (k : Int) (fs : List (Int × Int)) : ∀ pl : Pl, (putAll k pl fs).length = pl.length := by
  induction fs with
  | nil => intro pl; rfl
  | cons q fs ih =>
    intro pl
    show (putAll k (pl.set q.1.toNat (k, q.2)) fs).length = _
    rw [ih, List.length_set]
theorem plan0_len (mv : Mv) (goals : List Int) : (plan0 mv goals).length = mv.length := by
  unfold plan0
  have : ∀ pl : Pl, (goals.foldl (fun pl g => pl.set g.toNat (0, -1)) pl).length = pl.length := by
    induction goals with
    | nil => intro pl; rfl
    | cons g gs ih => intro pl; rw [List.foldl_cons, ih, List.length_set]
  rw [this, List.length_map]
theorem found_in {mv : Mv} {pl : Pl} {q : Int × Int} (h : q ∈ foundL mv pl) : ∃ r : Nat, r < mv.length ∧ q.1 = r ∧ q.2 = forceEv pl (gt mv (r : Int)) ∧ (gt pl (r : Int)).1 < 0 ∧ 0 ≤ q.2 := by
  obtain ⟨p, h1, h2⟩ := List.mem_filterMap.mp h
  rw [List.mem_zipIdx_iff_getElem?] at h1
  obtain ⟨a1, a2⟩ := List.getElem?_eq_some_iff.mp h1
  have a3 : gt mv (p.2 : Int) = p.1 := by
    unfold gt
    rw [Int.toNat_natCast, List.getD_eq_getElem?_getD, h1]; rfl
  split at h2
  · rename_i c
    cases h2
    exact ⟨p.2, a1, rfl, by rw [a3], c.1, c.2⟩
  · cases h2
theorem found_len (mv : Mv) (pl : Pl) : (foundL mv pl).length ≤ mv.length := by
  unfold foundL
  refine Nat.le_trans (List.length_filterMap_le _ _) ?_
  rw [List.length_zipIdx]
  exact Nat.le_refl _
theorem forced_s (b : Bool) (mv : Mv) (goals : List Int) (many : Nat) (V : VM mv many) (hm : ∀ r ∈ mv, ∀ p ∈ r, p.1.length ≤ 1000) (h0 : 0 < mv.length) (hr : ∀ t ∈ goals, 0 ≤ t ∧ t < (mv.length : Int)) :
    f_forced_plan [(eM b mv, 0), (.lst (goals.map .int), 0)] = .ok (.tup ((fPlan mv goals).map prD), 0) := by
  rw [f_forced_plan, fnOf_ap]
  have hsz := V.sz
  simp [b_forced_plan, fill, eM]
  rw [lc_map (eR b) (fun _ => D.tup [.int (-1), .int (-1)]) _ mv (Nat.le_trans hsz (by decide)) (fun a m K => by simp)]
  simp
  have e1 : mv.map (fun _ => D.tup [D.int (-1), D.int (-1)]) = (mv.map fun _ => ((-1, -1) : Int × Int)).map prD := by rw [List.map_map]; rfl
  rw [e1]
  refine (for_foldP D.int (fun pl : Pl => [some (eL b (List.map (eR b) mv), 0), some (D.lst (List.map D.int goals), 0), some (D.lst (List.map prD pl), 1), none, none, none, none, none, none, none]) (fun pl => pl.length = mv.length) (fun pl g => pl.set g.toNat (0, -1)) goals (mv.map fun _ => (-1, -1)) (List.length_map _) (fun g hg pl hpl => ⟨by rw [List.length_set]; exact hpl, fun K => ?_⟩)).trans ?_
  · obtain ⟨g0, g1⟩ := hr g hg
    simp (disch := omega) [ixN_ok, hpl]
    rfl
  simp (disch := omega) [iR2J_ok]
  have hl0 := plan0_len mv goals
  unfold fPlan
  show (forGo _ _ _ _ [_, _, some (D.lst ((plan0 mv goals).map prD), 1), _, _, _, _, _, _, _]).fin _ _ _ = _
  generalize plan0 mv goals = p0 at hl0 ⊢
  refine for_gen (fun i : Nat => D.int (1 + (i : Int))) (fun pl : Pl => [some (eL b (List.map (eR b) mv), 0), some (D.lst (List.map D.int goals), 0), some (D.lst (List.map prD pl), 1), none, none, none, none, none, none, none]) (fun _ pl => pl.length = mv.length) (fun l pl => .ok (.tup ((rounds mv l pl).map prD), 0)) ?_ ?_ (List.range (mv.length - 1)) p0 hl0
  · intro pl hpl
    simp [rounds]
  · intro i l pl K hpl hk
    simp
    refine (for_collect (fun p : List Pr × Nat => D.tup [D.int p.2, eR b p.1]) (fun acc : List (Int × Int) => [some (eL b (List.map (eR b) mv), 0), some (D.lst (List.map D.int goals), 0), some (D.lst (List.map prD pl), 1), none, none, some (D.int (1 + (i : Int)), 0), some (D.lst (acc.map prD), 1), none, none, none])
      (fun p => if (gt pl (p.2 : Int)).1 < 0 ∧ 0 ≤ forceEv pl p.1 then some ((p.2 : Int), forceEv pl p.1) else none) mv.zipIdx [] (by rw [List.length_zipIdx]; simp; omega) (fun p hp acc hacc K' => ?_)).trans ?_
    · rw [List.mem_zipIdx_iff_getElem?] at hp
      obtain ⟨a1, a2⟩ := List.getElem?_eq_some_iff.mp hp
      have a3 : p.1 ∈ mv := List.mem_of_getElem? hp
      obtain ⟨row, r⟩ := p
      dsimp only at a1 a3
      have q := forcing_s b false row pl (hm row a3) (fun p m t mt => by rw [hpl]; exact V.rng row a3 p m t mt)
      simp only [eL_false] at q
      simp (disch := omega) [gIx_lst, prD, hpl]
      by_cases c1 : (gt pl (r : Int)).1 < 0
      · by_cases c2 : 0 ≤ forceEv pl row
        · simp [c1, q, c2, lt_line hacc, prD]
        · simp [c1, q, c2, prD]
      · simp [c1, prD]
    show _ = FR.ok (D.tup (List.map prD (if foundL mv pl = [] then pl else rounds mv l (putAll (1 + (i : Int)) pl (foundL mv pl)))), 0)
    rw [List.nil_append]
    show seqK _ _ _ _ [_, _, _, _, _, _, some (D.lst ((foundL mv pl).map prD), 1), _, _, _] = _
    have hin := fun q => @found_in mv pl q
    have hfl := found_len mv pl
    generalize foundL mv pl = fs at hin hfl ⊢
    by_cases c : fs = []
    · simp [c]
    · have c2 : ¬ (fs.length : Int) = 0 := by
        have := List.length_pos_iff.mpr c
        omega
      simp [c, c2]
      refine (for_foldP prD (fun p2 : Pl => [some (eL b (List.map (eR b) mv), 0), some (D.lst (List.map D.int goals), 0), some (D.lst (List.map prD p2), 1), none, none, some (D.int (1 + (i : Int)), 0), some (D.lst (fs.map prD), 0), none, none, none]) (fun p2 => p2.length = mv.length) (fun pl q => pl.set q.1.toNat (1 + (i : Int), q.2)) fs pl hpl (fun q hq p2 hp2 => ⟨by rw [List.length_set]; exact hp2, fun K => ?_⟩)).trans ?_
      · obtain ⟨r, r1, r2, r3, r4, r5⟩ := hin q hq
        simp (disch := omega) [prD, ixN_ok, hp2]
      · simp
        exact hk _ ((putAll_len _ _ _).trans hpl)
end L61
namespace L61
open PySem VS
theorem gt_set {α : Type} [Inhabited α] (l : List α) (i : Nat) (a : α) (r : Nat) (h : i < l.length) : gt (l.set i a) (r : Int) = if r = i then a else gt l (r : Int) := by
  unfold gt
  rw [Int.toNat_natCast, List.getD_eq_getElem?_getD, List.getD_eq_getElem?_getD, List.getElem?_set]
  by_cases e : i = r
  · rw [if_pos e, if_pos e.symm, if_pos h]; rfl
  · rw [if_neg e, if_neg fun z => e z.symm]
/-- the event leads into ranks below j -/
structure Lt (pl : Pl) (p : Pr) (j : Int) : Prop where
  en : p.2 = false
  ne : p.1 ≠ []
  al : ∀ t ∈ p.1, 0 ≤ (gt pl t).1 ∧ (gt pl t).1 < j
theorem Lt.mono {pl : Pl} {p : Pr} {i j : Int} (h : Lt pl p i) (le : i ≤ j) : Lt pl p j := ⟨h.en, h.ne, fun t m => ⟨(h.al t m).1, Int.lt_of_lt_of_le (h.al t m).2 le⟩⟩
theorem leads_iff {pl : Pl} {p : Pr} : leads pl p = true ↔ p.2 = false ∧ p.1 ≠ [] ∧ ∀ t ∈ p.1, 0 ≤ (gt pl t).1 := by
  obtain ⟨ts, en⟩ := p
  cases ts <;> simp [leads]
theorem Lt.leads {pl : Pl} {p : Pr} {j : Int} (h : Lt pl p j) : leads pl p = true := leads_iff.mpr ⟨h.en, h.ne, fun t m => (h.al t m).1⟩
theorem foldl_max_ge (ns : List Int) : ∀ n, (ns.foldl max n = n ∨ ns.foldl max n ∈ ns) ∧ n ≤ ns.foldl max n ∧ ∀ y ∈ ns, y ≤ ns.foldl max n := by
  induction ns with
  | nil => intro n; exact ⟨.inl rfl, Int.le_refl _, fun _ m => absurd m List.not_mem_nil⟩
  | cons a ns ih =>
    intro n
    obtain ⟨h1, h2, h3⟩ := ih (max n a)
    rw [List.foldl_cons]
    refine ⟨?_, by omega, fun y m => ?_⟩
    · rcases h1 with h1 | h1
      · rw [h1]
        by_cases z : n ≤ a
        · right; rw [Int.max_eq_right z]; exact List.mem_cons_self
        · left; omega
      · exact .inr (List.mem_cons_of_mem _ h1)
    · rcases List.mem_cons.mp m with m | m
      · subst m; omega
      · exact h3 y m
theorem evR_some {pl : Pl} {p : Pr} {m : Int} (h : evR pl p = some m) : Lt pl p m ∧ ¬ Lt pl p (m - 1) := by
  unfold evR at h
  split at h
  · cases h
  rename_i en
  split at h
  · cases h
  · rename_i n ns e
    split at h
    · rename_i hm
      cases h
      obtain ⟨a1, a2, a3⟩ := foldl_min_le ns n
      obtain ⟨b1, b2, b3⟩ := foldl_max_ge ns n
      have e' : ∀ t ∈ p.1, (gt pl t).1 ∈ n :: ns := fun t m => by rw [← e]; exact List.mem_map.mpr ⟨t, m, rfl⟩
      refine ⟨⟨(by simpa using en), fun z => (by unfold ranks at e; rw [z] at e; cases e), fun t m => ?_⟩, fun z => ?_⟩
      · rcases List.mem_cons.mp (e' t m) with q | q
        · omega
        · have := a3 _ q
          have := b3 _ q
          omega
      · have hmem : ns.foldl max n ∈ n :: ns := by
          rcases b1 with b1 | b1
          · rw [b1]; exact List.mem_cons_self
          · exact List.mem_cons_of_mem _ b1
        rw [← e] at hmem
        obtain ⟨t, t1, t2⟩ := List.mem_map.mp hmem
        have := (z.al t t1).2
        omega
    · cases h
theorem evR_of {pl : Pl} {p : Pr} {j : Int} (h : Lt pl p j) : ∃ m, evR pl p = some m ∧ m ≤ j := by
  unfold evR
  rw [if_neg (by rw [h.en]; decide)]
  cases e : ranks pl p with
  | nil =>
    unfold ranks at e
    exact absurd (List.map_eq_nil_iff.mp e) h.ne
  | cons n ns =>
    dsimp only
    obtain ⟨a1, a2, a3⟩ := foldl_min_le ns n
    obtain ⟨b1, b2, b3⟩ := foldl_max_ge ns n
    have e' : ∀ x ∈ n :: ns, 0 ≤ x ∧ x < j := fun x m => by
      rw [← e] at m
      obtain ⟨t, t1, t2⟩ := List.mem_map.mp m
      rw [← t2]
      exact h.al t t1
    have hmin : 0 ≤ ns.foldl min n := by
      rcases a1 with a1 | a1
      · rw [a1]; exact (e' n List.mem_cons_self).1
      · exact (e' _ (List.mem_cons_of_mem _ a1)).1
    have hmax : ns.foldl max n < j := by
      rcases b1 with b1 | b1
      · rw [b1]; exact (e' n List.mem_cons_self).2
      · exact (e' _ (List.mem_cons_of_mem _ b1)).2
    rw [if_pos hmin]
    exact ⟨_, rfl, by omega⟩
theorem best_none {pl : Pl} {row : List Pr} (h : ∀ e : Nat, e < row.length → evR pl (gt row (e : Int)) = none) : rowBest pl row = (-1, -1) := by
  unfold rowBest
  have : ∀ l : List Nat, (∀ e ∈ l, e < row.length) → l.foldl (stepBest pl row) (-1, -1) = (-1, -1) := by
    intro l
    induction l with
    | nil => intro _; rfl
    | cons a l ih =>
      intro hl
      rw [List.foldl_cons]
      have : stepBest pl row (-1, -1) a = (-1, -1) := by unfold stepBest; rw [h a (hl a List.mem_cons_self)]
      rw [this]
      exact ih fun e m => hl e (List.mem_cons_of_mem _ m)
  exact this _ fun e m => List.mem_range.mp m
theorem best_some {pl : Pl} {row : List Pr} {j : Int} {e : Nat} (he : e < row.length) (h1 : evR pl (gt row (e : Int)) = some j) (h2 : ∀ e' : Nat, e' < e → ∀ m, evR pl (gt row (e' : Int)) = some m → j < m)
    (h3 : ∀ e' : Nat, e' < row.length → ∀ m, evR pl (gt row (e' : Int)) = some m → j ≤ m) (h4 : 0 ≤ j) : rowBest pl row = (j, (e : Int)) := by
  have key : ∀ n, n ≤ row.length → ((n ≤ e → ((List.range n).foldl (stepBest pl row) (-1, -1) = (-1, -1) ∨ j < ((List.range n).foldl (stepBest pl row) (-1, -1)).1)) ∧ (e < n → (List.range n).foldl (stepBest pl row) (-1, -1) = (j, (e : Int)))) := by
    intro n
    induction n with
    | zero => intro _; exact ⟨fun _ => .inl rfl, fun z => absurd z (by omega)⟩
    | succ n ih =>
      intro hn
      obtain ⟨i1, i2⟩ := ih (by omega)
      rw [List.range_succ, List.foldl_append, List.foldl_cons, List.foldl_nil]
      generalize (List.range n).foldl (stepBest pl row) (-1, -1) = best at i1 i2 ⊢
      unfold stepBest
      refine ⟨fun z => ?_, fun z => ?_⟩
      · have i1 := i1 (by omega)
        cases q : evR pl (gt row (n : Int)) with
        | none => exact i1
        | some m =>
          have := h2 n (by omega) m q
          dsimp only
          split
          · exact .inr this
          · exact i1
      · by_cases w : n = e
        · subst w
          rw [h1]
          dsimp only
          rcases i1 (Nat.le_refl _) with i1 | i1
          · rw [i1, if_pos (.inl (by decide))]
          · rw [if_pos (.inr i1)]
        · rw [i2 (by omega)]
          cases q : evR pl (gt row (n : Int)) with
          | none => rfl
          | some m =>
            have := h3 n (by omega) m q
            dsimp only
            rw [if_neg (by omega)]
  exact (key row.length (Nat.le_refl _)).2 he
/-- what stands when all ranks below k are given -/
structure Inv (mv : Mv) (goals : List Int) (k : Int) (pl : Pl) : Prop where
  len : pl.length = mv.length
  k1 : 1 ≤ k
  G : ∀ r : Nat, r < mv.length → (r : Int) ∈ goals → gt pl (r : Int) = (0, -1)
  N : ∀ r : Nat, r < mv.length → (r : Int) ∉ goals → gt pl (r : Int) = (-1, -1) ∨ ∃ (j : Int) (e : Nat), gt pl (r : Int) = (j, (e : Int)) ∧ 1 ≤ j ∧ j < k ∧ e < (gt mv (r : Int)).length ∧ Lt pl (gt (gt mv (r : Int)) (e : Int)) j ∧
    (∀ e' : Nat, e' < e → ¬ Lt pl (gt (gt mv (r : Int)) (e' : Int)) j) ∧ ∀ e' : Nat, e' < (gt mv (r : Int)).length → ¬ Lt pl (gt (gt mv (r : Int)) (e' : Int)) (j - 1)
  U : ∀ r : Nat, r < mv.length → (r : Int) ∉ goals → gt pl (r : Int) = (-1, -1) → ∀ e' : Nat, e' < (gt mv (r : Int)).length → ¬ Lt pl (gt (gt mv (r : Int)) (e' : Int)) (k - 1)
  C : goals ≠ [] → k ≤ (pl.countP fun q => decide (0 ≤ q.1) : Nat)
theorem Inv.lo {mv : Mv} {goals : List Int} {k : Int} {pl : Pl} (I : Inv mv goals k pl) (r : Nat) (h : r < mv.length) : (gt pl (r : Int) = (-1, -1) ∧ (r : Int) ∉ goals) ∨ (0 ≤ (gt pl (r : Int)).1 ∧ (gt pl (r : Int)).1 < k) := by
  have := I.k1
  by_cases g : (r : Int) ∈ goals
  · right; rw [I.G r h g]; exact ⟨by decide, by dsimp only; omega⟩
  · rcases I.N r h g with e | ⟨j, e, e1, e2, e3, _⟩
    · exact .inl ⟨e, g⟩
    · right; rw [e1]; exact ⟨by dsimp only; omega, e3⟩
theorem plan0_at (mv : Mv) (goals : List Int) (hr : ∀ t ∈ goals, 0 ≤ t ∧ t < (mv.length : Int)) (r : Nat) (h : r < mv.length) : gt (plan0 mv goals) (r : Int) = if (r : Int) ∈ goals then (0, -1) else (-1, -1) := by
  unfold plan0
  have key : ∀ (gs : List Int) (pl : Pl), (∀ t ∈ gs, 0 ≤ t ∧ t < (mv.length : Int)) → pl.length = mv.length → gt (gs.foldl (fun pl g => pl.set g.toNat (0, -1)) pl) (r : Int) = if (r : Int) ∈ gs then (0, -1) else gt pl (r : Int) := by
    intro gs
    induction gs with
    | nil => intro pl _ _; simp
    | cons g gs ih =>
      intro pl hg hpl
      obtain ⟨g0, g1⟩ := hg g List.mem_cons_self
      rw [List.foldl_cons, ih _ (fun t m => hg t (List.mem_cons_of_mem _ m)) (by rw [List.length_set]; exact hpl), gt_set _ _ _ _ (by omega)]
      by_cases e : (r : Int) ∈ gs
      · rw [if_pos e, if_pos (List.mem_cons_of_mem _ e)]
      · rw [if_neg e]
        by_cases e2 : r = g.toNat
        · rw [if_pos e2, if_pos]
          have : (r : Int) = g := by omega
          rw [this]; exact List.mem_cons_self
        · rw [if_neg e2, if_neg]
          intro z
          rcases List.mem_cons.mp z with z | z
          · exact e2 (by omega)
          · exact e z
  rw [key goals _ hr (List.length_map _)]
  have : gt (mv.map fun _ => ((-1, -1) : Int × Int)) (r : Int) = (-1, -1) := gt_map (fun _ => ((-1, -1) : Int × Int)) (by omega) (by omega)
  rw [this]
theorem inv0 (mv : Mv) (goals : List Int) (hr : ∀ t ∈ goals, 0 ≤ t ∧ t < (mv.length : Int)) : Inv mv goals 1 (plan0 mv goals) := by
  have hz : ∀ (p : Pr), ¬ Lt (plan0 mv goals) p (1 - 1) := fun p z => by
    cases e : p.1 with
    | nil => exact z.ne e
    | cons a l =>
      have := z.al a (by rw [e]; exact List.mem_cons_self)
      omega
  refine ⟨plan0_len mv goals, Int.le_refl _, fun r h g => by rw [plan0_at mv goals hr r h, if_pos g], fun r h g => .inl (by rw [plan0_at mv goals hr r h, if_neg g]), fun r h g _ e' _ => hz _, fun hne => ?_⟩
  cases e : goals with
  | nil => exact absurd e hne
  | cons g gs =>
    have h1 := hr g (by rw [e]; exact List.mem_cons_self)
    have h2 : gt (plan0 mv goals) ((g.toNat : Nat) : Int) = (0, -1) := by
      rw [plan0_at mv goals hr g.toNat (by omega), if_pos]
      have : ((g.toNat : Nat) : Int) = g := by omega
      rw [this, e]; exact List.mem_cons_self
    have h3 := gt_mem (l := plan0 mv goals) (j := ((g.toNat : Nat) : Int)) (by omega) (by rw [plan0_len]; omega)
    rw [h2] at h3
    rw [← e]
    have := List.countP_pos_iff (p := fun q : Int × Int => decide (0 ≤ q.1)) (l := plan0 mv goals)
    have := this.mpr ⟨_, h3, by decide⟩
    omega
end L61
namespace L61
open PySem VS
theorem gt_nat {α : Type} [Inhabited α] (l : List α) (i : Nat) (h : i < l.length) : gt l (i : Int) = l[i] := by
  unfold gt
  rw [Int.toNat_natCast, List.getD_eq_getElem?_getD, List.getElem?_eq_getElem h]; rfl
theorem force_spec (pl : Pl) (row : List Pr) : (forceEv pl row = -1 ∧ ∀ e : Nat, e < row.length → leads pl (gt row (e : Int)) = false) ∨
    ∃ e : Nat, e < row.length ∧ forceEv pl row = (e : Int) ∧ leads pl (gt row (e : Int)) = true ∧ ∀ e' : Nat, e' < e → leads pl (gt row (e' : Int)) = false := by
  unfold forceEv
  cases h : row.zipIdx.find? (fun p => leads pl p.1) with
  | none =>
    left
    refine ⟨rfl, fun e he => ?_⟩
    have := List.find?_eq_none.mp h (row[e], e) (by rw [List.mem_zipIdx_iff_getElem?]; exact List.getElem?_eq_getElem he)
    rw [gt_nat row e he]
    simpa using this
  | some p =>
    right
    obtain ⟨h1, i, hi, h2, h3⟩ := List.find?_eq_some_iff_getElem.mp h
    rw [List.length_zipIdx] at hi
    rw [List.getElem_zipIdx, Nat.zero_add] at h2
    subst h2
    refine ⟨i, hi, rfl, by rw [gt_nat row i hi]; exact h1, fun e' he' => ?_⟩
    have := h3 e' he'
    rw [List.getElem_zipIdx] at this
    rw [gt_nat row e' (by omega)]
    simpa using this
section
variable {k : Int} {h : Nat → Int} {n : Nat}
theorem putAll_hit (fs : List (Int × Int)) : ∀ pl : Pl, pl.length = n → (∀ q ∈ fs, ∃ i : Nat, i < n ∧ q = ((i : Int), h i)) → ∀ r : Nat, r < n → (∃ q ∈ fs, q.1 = (r : Int)) → gt (putAll k pl fs) (r : Int) = (k, h r) := by
  induction fs with
  | nil => intro pl _ _ r _ ⟨q, m, _⟩; exact absurd m List.not_mem_nil
  | cons q fs ih =>
    intro pl hl hq r hr hx
    show gt (putAll k (pl.set q.1.toNat (k, q.2)) fs) (r : Int) = _
    by_cases c : ∃ q ∈ fs, q.1 = (r : Int)
    · exact ih _ (by rw [List.length_set]; exact hl) (fun q m => hq q (List.mem_cons_of_mem _ m)) r hr c
    · obtain ⟨i, hi, e⟩ := hq q List.mem_cons_self
      have : ∀ (fs : List (Int × Int)) (pl : Pl), pl.length = n → (∀ q ∈ fs, ∃ i : Nat, i < n ∧ q = ((i : Int), h i)) → (∀ q ∈ fs, q.1 ≠ (r : Int)) → gt (putAll k pl fs) (r : Int) = gt pl (r : Int) := by
        intro fs
        induction fs with
        | nil => intro pl _ _ _; rfl
        | cons q fs ih2 =>
          intro pl hl hq hne
          show gt (putAll k (pl.set q.1.toNat (k, q.2)) fs) (r : Int) = _
          obtain ⟨i, hi, e⟩ := hq q List.mem_cons_self
          rw [ih2 _ (by rw [List.length_set]; exact hl) (fun q m => hq q (List.mem_cons_of_mem _ m)) fun q m => hne q (List.mem_cons_of_mem _ m), gt_set _ _ _ _ (by rw [e]; simp; omega), if_neg]
          intro z
          apply hne q List.mem_cons_self
          rw [e] at z ⊢
          simp at z
          simp [z]
      rw [this fs _ (by rw [List.length_set]; exact hl) (fun q m => hq q (List.mem_cons_of_mem _ m)) fun q m z => c ⟨q, m, z⟩, gt_set _ _ _ _ (by rw [e]; simp; omega), if_pos]
      · obtain ⟨q', m, e'⟩ := hx
        rcases List.mem_cons.mp m with m | m
        · subst m
          rw [e] at e' ⊢
          have : i = r := by have : (i : Int) = r := e'; omega
          rw [this]
        · exact absurd ⟨q', m, e'⟩ c
      · obtain ⟨q', m, e'⟩ := hx
        rcases List.mem_cons.mp m with m | m
        · subst m
          omega
        · exact absurd ⟨q', m, e'⟩ c
theorem putAll_miss (fs : List (Int × Int)) : ∀ pl : Pl, pl.length = n → (∀ q ∈ fs, ∃ i : Nat, i < n ∧ q = ((i : Int), h i)) → ∀ r : Nat, (∀ q ∈ fs, q.1 ≠ (r : Int)) → gt (putAll k pl fs) (r : Int) = gt pl (r : Int) := by
  induction fs with
  | nil => intro pl _ _ _ _; rfl
  | cons q fs ih2 =>
    intro pl hl hq r hne
    show gt (putAll k (pl.set q.1.toNat (k, q.2)) fs) (r : Int) = _
    obtain ⟨i, hi, e⟩ := hq q List.mem_cons_self
    rw [ih2 _ (by rw [List.length_set]; exact hl) (fun q m => hq q (List.mem_cons_of_mem _ m)) r fun q m => hne q (List.mem_cons_of_mem _ m), gt_set _ _ _ _ (by rw [e]; simp; omega), if_neg]
    intro z
    apply hne q List.mem_cons_self
    rw [e] at z ⊢
    simp at z
    simp [z]
theorem putAll_count (hk : 0 ≤ k) (fs : List (Int × Int)) : ∀ pl : Pl, (∀ q ∈ fs, 0 ≤ q.1 ∧ q.1 < pl.length) → pl.countP (fun q => decide (0 ≤ q.1)) ≤ (putAll k pl fs).countP (fun q => decide (0 ≤ q.1)) := by
  induction fs with
  | nil => intro pl _; exact Nat.le_refl _
  | cons q fs ih =>
    intro pl hq
    obtain ⟨q0, q1⟩ := hq q List.mem_cons_self
    refine Nat.le_trans ?_ (ih (pl.set q.1.toNat (k, q.2)) fun q m => by rw [List.length_set]; exact hq q (List.mem_cons_of_mem _ m))
    rw [List.countP_set (by omega), if_pos (c := decide (0 ≤ ((k, q.2) : Int × Int).1) = true) (decide_eq_true hk)]
    split <;> omega
theorem putAll_more (hk : 0 ≤ k) {fs : List (Int × Int)} (hne : fs ≠ []) {pl : Pl} (hq : ∀ q ∈ fs, 0 ≤ q.1 ∧ q.1 < pl.length) (hn : ∀ q ∈ fs, (gt pl q.1).1 < 0) : pl.countP (fun q => decide (0 ≤ q.1)) + 1 ≤ (putAll k pl fs).countP (fun q => decide (0 ≤ q.1)) := by
  cases fs with
  | nil => exact absurd rfl hne
  | cons q fs =>
    obtain ⟨q0, q1⟩ := hq q List.mem_cons_self
    have q2 := hn q List.mem_cons_self
    refine Nat.le_trans ?_ (putAll_count hk fs (pl.set q.1.toNat (k, q.2)) fun q m => by rw [List.length_set]; exact hq q (List.mem_cons_of_mem _ m))
    rw [List.countP_set (by omega), if_pos (c := decide (0 ≤ ((k, q.2) : Int × Int).1) = true) (decide_eq_true hk), if_neg]
    · omega
    · have : gt pl q.1 = pl[q.1.toNat]'(by omega) := by
        have := gt_nat pl q.1.toNat (by omega)
        rw [← this]
        congr
        omega
      rw [← this]
      simp
      exact q2
end
theorem found_of {mv : Mv} {pl : Pl} {r : Nat} (h : r < mv.length) (h1 : (gt pl (r : Int)).1 < 0) (h2 : 0 ≤ forceEv pl (gt mv (r : Int))) : ((r : Int), forceEv pl (gt mv (r : Int))) ∈ foundL mv pl := by
  refine List.mem_filterMap.mpr ⟨(mv[r], r), by rw [List.mem_zipIdx_iff_getElem?]; exact List.getElem?_eq_getElem h, ?_⟩
  rw [gt_nat mv r h] at h2 ⊢
  dsimp only
  rw [if_pos ⟨h1, h2⟩]
theorem inv_step {mv : Mv} {goals : List Int} {k : Int} {pl : Pl} {many : Nat} (V : VM mv many) (I : Inv mv goals k pl) (hne : foundL mv pl ≠ []) : Inv mv goals (k + 1) (putAll k pl (foundL mv pl)) := by
  have k1 := I.k1
  have hq : ∀ q ∈ foundL mv pl, ∃ i : Nat, i < mv.length ∧ q = ((i : Int), (fun i : Nat => forceEv pl (gt mv (i : Int))) i) := fun q m => by
    obtain ⟨r, r1, r2, r3, _⟩ := found_in m
    exact ⟨r, r1, Prod.ext r2 r3⟩
  have hit := fun r hr hx => putAll_hit (k := k) (foundL mv pl) pl I.len hq r hr hx
  have miss := fun r hx => putAll_miss (k := k) (foundL mv pl) pl I.len hq r hx
  have new : ∀ r : Nat, r < mv.length → (∃ q ∈ foundL mv pl, q.1 = (r : Int)) → (r : Int) ∉ goals ∧ gt pl (r : Int) = (-1, -1) ∧ 0 ≤ forceEv pl (gt mv (r : Int)) := fun r hr ⟨q, m, e⟩ => by
    obtain ⟨r', r1, r2, r3, r4, r5⟩ := found_in m
    have : r' = r := by omega
    subst this
    rcases I.lo r' hr with ⟨e1, e2⟩ | e1
    · exact ⟨e2, e1, by rw [← r3]; exact r5⟩
    · omega
  have same : ∀ r : Nat, r < mv.length → (gt (putAll k pl (foundL mv pl)) (r : Int) = gt pl (r : Int) ∧ ¬ ∃ q ∈ foundL mv pl, q.1 = (r : Int)) ∨ (gt pl (r : Int) = (-1, -1) ∧ (r : Int) ∉ goals ∧ gt (putAll k pl (foundL mv pl)) (r : Int) = (k, forceEv pl (gt mv (r : Int))) ∧ 0 ≤ forceEv pl (gt mv (r : Int))) := fun r hr => by
    by_cases c : ∃ q ∈ foundL mv pl, q.1 = (r : Int)
    · right
      obtain ⟨c1, c2, c3⟩ := new r hr c
      exact ⟨c2, c1, hit r hr c, c3⟩
    · exact .inl ⟨miss r fun q m z => c ⟨q, m, z⟩, c⟩
  have ltI : ∀ (p : Pr) (j : Int), (∀ t ∈ p.1, 0 ≤ t ∧ t < (mv.length : Int)) → j ≤ k → (Lt (putAll k pl (foundL mv pl)) p j ↔ Lt pl p j) := fun p j ht hj => by
    have at_ : ∀ t ∈ p.1, ((0 ≤ (gt (putAll k pl (foundL mv pl)) t).1 ∧ (gt (putAll k pl (foundL mv pl)) t).1 < j) ↔ (0 ≤ (gt pl t).1 ∧ (gt pl t).1 < j)) := fun t m => by
      obtain ⟨t0, t1⟩ := ht t m
      have et : ((t.toNat : Nat) : Int) = t := by omega
      have := same t.toNat (by omega)
      rw [et] at this
      rcases this with ⟨e, _⟩ | ⟨e1, _, e2, _⟩
      · rw [e]
      · rw [e1, e2]
        dsimp only
        omega
    exact ⟨fun z => ⟨z.en, z.ne, fun t m => (at_ t m).mp (z.al t m)⟩, fun z => ⟨z.en, z.ne, fun t m => (at_ t m).mpr (z.al t m)⟩⟩
  have tg : ∀ r : Nat, r < mv.length → ∀ e : Nat, e < (gt mv (r : Int)).length → ∀ t ∈ (gt (gt mv (r : Int)) (e : Int)).1, 0 ≤ t ∧ t < (mv.length : Int) := fun r hr e he => V.ev (by omega) (by omega) (by omega) (by omega)
  have ldLt : ∀ r : Nat, r < mv.length → ∀ e : Nat, e < (gt mv (r : Int)).length → leads pl (gt (gt mv (r : Int)) (e : Int)) = true → Lt pl (gt (gt mv (r : Int)) (e : Int)) k := fun r hr e he z => by
    obtain ⟨z1, z2, z3⟩ := leads_iff.mp z
    refine ⟨z1, z2, fun t m => ⟨z3 t m, ?_⟩⟩
    obtain ⟨t0, t1⟩ := tg r hr e he t m
    have et : ((t.toNat : Nat) : Int) = t := by omega
    have := I.lo t.toNat (by omega)
    rw [et] at this
    rcases this with ⟨q, _⟩ | ⟨_, q⟩
    · have := z3 t m
      rw [q] at this
      exact absurd this (by decide)
    · exact q
  refine ⟨by rw [putAll_len]; exact I.len, by omega, fun r hr g => ?_, fun r hr g => ?_, fun r hr g hu e' he' => ?_, fun hg => ?_⟩
  · rcases same r hr with ⟨e, _⟩ | ⟨_, e, _⟩
    · rw [e]; exact I.G r hr g
    · exact absurd g e
  · rcases same r hr with ⟨e, _⟩ | ⟨e1, _, e2, e3⟩
    · rw [e]
      rcases I.N r hr g with q | ⟨j, e1, a1, a2, a3, a4, a5, a6, a7⟩
      · exact .inl q
      · right
        refine ⟨j, e1, a1, a2, by omega, a4, (ltI _ _ (tg r hr e1 a4) (by omega)).mpr a5, fun e' he' z => a6 e' he' ((ltI _ _ (tg r hr e' (by omega)) (by omega)).mp z), fun e' he' z => a7 e' he' ((ltI _ _ (tg r hr e' he') (by omega)).mp z)⟩
    · right
      rcases force_spec pl (gt mv (r : Int)) with ⟨f1, _⟩ | ⟨e, f1, f2, f3, f4⟩
      · omega
      · refine ⟨k, e, by rw [e2, f2], k1, by omega, f1, (ltI _ _ (tg r hr e f1) (Int.le_refl _)).mpr (ldLt r hr e f1 f3), fun e' he' z => ?_, fun e' he' z => ?_⟩
        · have := ((ltI _ _ (tg r hr e' (by omega)) (Int.le_refl _)).mp z).leads
          rw [f4 e' he'] at this
          cases this
        · exact I.U r hr g e1 e' he' ((ltI _ _ (tg r hr e' he') (by omega)).mp z)
  · rcases same r hr with ⟨e, c⟩ | ⟨_, _, e2, _⟩
    · rw [e] at hu
      intro z
      have z2 := ((ltI _ _ (tg r hr e' he') (by omega)).mp z).leads
      apply c
      refine ⟨_, found_of hr (by rw [hu]; decide) ?_, rfl⟩
      rcases force_spec pl (gt mv (r : Int)) with ⟨_, f2⟩ | ⟨e, f1, f2, _⟩
      · rw [f2 e' he'] at z2; cases z2
      · omega
    · rw [e2] at hu
      have : k = -1 := congrArg Prod.fst hu
      omega
  · have := I.C hg
    have := putAll_more (k := k) (by omega) hne (pl := pl) (fun q m => by
      obtain ⟨r, r1, r2, _⟩ := found_in m
      rw [I.len]; omega) fun q m => by
      obtain ⟨r, r1, r2, r3, r4, _⟩ := found_in m
      rw [r2]; exact r4
    omega
/-- nothing leads on -/
structure Fin (mv : Mv) (goals : List Int) (pl : Pl) : Prop where
  ex : ∃ k, Inv mv goals k pl
  F : ∀ r : Nat, r < mv.length → (r : Int) ∉ goals → gt pl (r : Int) = (-1, -1) → ∀ e : Nat, e < (gt mv (r : Int)).length → leads pl (gt (gt mv (r : Int)) (e : Int)) = false
theorem fin_of {mv : Mv} {goals : List Int} {k : Int} {pl : Pl} (I : Inv mv goals k pl) (h : foundL mv pl = []) : Fin mv goals pl := by
  refine ⟨⟨k, I⟩, fun r hr g hu e he => ?_⟩
  rcases force_spec pl (gt mv (r : Int)) with ⟨_, f2⟩ | ⟨e', f1, f2, _⟩
  · exact f2 e he
  · have := found_of hr (by rw [hu]; decide) (by rw [f2]; omega : 0 ≤ forceEv pl (gt mv (r : Int)))
    rw [h] at this
    exact absurd this List.not_mem_nil
theorem rounds_fin {mv : Mv} {goals : List Int} {many : Nat} (V : VM mv many) (hr : ∀ t ∈ goals, 0 ≤ t ∧ t < (mv.length : Int)) : ∀ (n i : Nat) (pl : Pl), Inv mv goals (1 + (i : Int)) pl → (goals = [] → i = 0 ∧ n = mv.length - 1) → i + n = mv.length - 1 →
    Fin mv goals (rounds mv ((List.range n).map (i + ·)) pl) := by
  intro n
  induction n with
  | zero =>
    intro i pl I hg hn
    show Fin mv goals pl
    by_cases c : foundL mv pl = []
    · exact fin_of I c
    · have I2 := inv_step V I c
      by_cases g : goals = []
      · obtain ⟨g1, g2⟩ := hg g
        subst g1
        refine ⟨⟨_, I⟩, fun r h1 _ hu e he => ?_⟩
        cases z : leads pl (gt (gt mv (r : Int)) (e : Int)) with
        | false => rfl
        | true =>
          obtain ⟨z1, z2, z3⟩ := leads_iff.mp z
          cases e3 : (gt (gt mv (r : Int)) (e : Int)).1 with
          | nil => exact absurd e3 z2
          | cons t l =>
            have m : t ∈ (gt (gt mv (r : Int)) (e : Int)).1 := by rw [e3]; exact List.mem_cons_self
            obtain ⟨t0, t1⟩ := V.ev (r := (r : Int)) (e := (e : Int)) (by omega) (by omega) (by omega) (by omega) t m
            have et : ((t.toNat : Nat) : Int) = t := by omega
            have q := I.lo t.toNat (by omega)
            rw [et] at q
            have q2 := z3 t m
            rcases q with ⟨q, _⟩ | ⟨q, q'⟩
            · rw [q] at q2; exact absurd q2 (by decide)
            · -- rank 0 is a goal's
              have g1 : t ∉ goals := by rw [g]; exact List.not_mem_nil
              have q3 := I.N t.toNat (by omega)
              rw [et] at q3
              rcases q3 g1 with q3 | ⟨j, e4, a1, a2, a3, _⟩
              · rw [q3] at q2; exact absurd q2 (by decide)
              · omega
      · have := I2.C g
        have h1 := List.countP_le_length (p := fun q : Int × Int => decide (0 ≤ q.1)) (l := putAll (1 + (i : Int)) pl (foundL mv pl))
        rw [putAll_len, I.len] at h1
        have : 0 < mv.length := by
          obtain ⟨x, l, e⟩ := List.exists_cons_of_ne_nil g
          have := hr x (by rw [e]; exact List.mem_cons_self)
          omega
        omega
  | succ n ih =>
    intro i pl I hg hn
    have e : (List.range (n + 1)).map (i + ·) = i :: (List.range n).map (i + 1 + ·) := by
      rw [List.range_succ_eq_map, List.map_cons, List.map_map]
      congr 1
      apply List.map_congr_left
      intro a _
      show i + (a + 1) = i + 1 + a
      omega
    rw [e]
    unfold rounds
    by_cases c : foundL mv pl = []
    · rw [if_pos c]; exact fin_of I c
    · rw [if_neg c]
      refine ih (i + 1) _ ?_ ?_ (by omega)
      · have := inv_step V I c
        have e2 : (1 : Int) + ((i + 1 : Nat) : Int) = 1 + (i : Int) + 1 := by omega
        rw [e2]; exact this
      · intro g
        exfalso
        -- without a goal nothing is found
        have I2 := inv_step V I c
        obtain ⟨q, l, e3⟩ := List.exists_cons_of_ne_nil c
        obtain ⟨r, r1, r2, r3, r4, r5⟩ := found_in (mv := mv) (pl := pl) (q := q) (by rw [e3]; exact List.mem_cons_self)
        obtain ⟨g1, g2⟩ := hg g
        subst g1
        rcases force_spec pl (gt mv (r : Int)) with ⟨f1, _⟩ | ⟨e4, f1, f2, f3, f4⟩
        · omega
        obtain ⟨z1, z2, z3⟩ := leads_iff.mp f3
        cases e5 : (gt (gt mv (r : Int)) (e4 : Int)).1 with
        | nil => exact absurd e5 z2
        | cons t l =>
          have m : t ∈ (gt (gt mv (r : Int)) (e4 : Int)).1 := by rw [e5]; exact List.mem_cons_self
          obtain ⟨t0, t1⟩ := V.ev (r := (r : Int)) (e := (e4 : Int)) (by omega) (by omega) (by omega) (by omega) t m
          have et : ((t.toNat : Nat) : Int) = t := by omega
          have q2 := z3 t m
          have q3 := I.N t.toNat (by omega)
          rw [et] at q3
          rcases q3 (by rw [g]; exact List.not_mem_nil) with q3 | ⟨j, e4, a1, a2, a3, _⟩
          · rw [q3] at q2; exact absurd q2 (by decide)
          · omega
theorem plan_fin {mv : Mv} {goals : List Int} {many : Nat} (V : VM mv many) (hr : ∀ t ∈ goals, 0 ≤ t ∧ t < (mv.length : Int)) : Fin mv goals (fPlan mv goals) := by
  have := rounds_fin V hr (mv.length - 1) 0 (plan0 mv goals) (inv0 mv goals hr) (fun _ => ⟨rfl, rfl⟩) (by omega)
  have e : (List.range (mv.length - 1)).map (0 + ·) = List.range (mv.length - 1) := by
    have : (fun x : Nat => 0 + x) = id := by funext x; simp
    rw [this, List.map_id]
  rw [e] at this
  exact this
end L61
namespace L61
open PySem VS
section
variable {mv : Mv} {goals : List Int} {pl : Pl}
theorem Fin.len (h : Fin mv goals pl) : pl.length = mv.length := by obtain ⟨k, I⟩ := h.ex; exact I.len
theorem Fin.neg (h : Fin mv goals pl) {r : Nat} (hr : r < mv.length) : (gt pl (r : Int)).1 < 0 ↔ (gt pl (r : Int)).1 = -1 := by
  obtain ⟨k, I⟩ := h.ex
  rcases I.lo r hr with ⟨e, _⟩ | e
  · rw [e]; decide
  · omega
theorem Fin.least (h : Fin mv goals pl) (r : Nat) (hr : r < mv.length) : leastOk mv goals pl r := by
  obtain ⟨k, I⟩ := h.ex
  unfold leastOk
  by_cases g : (r : Int) ∈ goals
  · rw [if_pos g]; exact I.G r hr g
  · rw [if_neg g]
    rcases I.N r hr g with e | ⟨j, e, a1, a2, a3, a4, a5, a6, a7⟩
    · rw [best_none, e]
      intro e' he'
      cases q : evR pl (gt (gt mv (r : Int)) (e' : Int)) with
      | none => rfl
      | some m =>
        have := (evR_some q).1.leads
        rw [h.F r hr g e e' he'] at this
        cases this
    · have low : ∀ e' : Nat, e' < (gt mv (r : Int)).length → ∀ m, evR pl (gt (gt mv (r : Int)) (e' : Int)) = some m → j ≤ m := fun e' he' m q => by
        by_cases c : j ≤ m
        · exact c
        · exact absurd ((evR_some q).1.mono (by omega : m ≤ j - 1)) (a7 e' he')
      obtain ⟨m, m1, m2⟩ := evR_of a5
      have : m = j := by have := low e a4 m m1; omega
      subst this
      rw [a1, best_some a4 m1 (fun e' he' m' q => ?_) low (by omega)]
      by_cases c : m < m'
      · exact c
      · exact absurd ((evR_some q).1.mono (by omega : m' ≤ m)) (a6 e' he')
theorem Fin.right (h : Fin mv goals pl) (start : Int) (h0 : 0 ≤ start) (h1 : start < mv.length) (h2 : (gt pl start).1 ≠ -1) : planOk mv goals start pl = true := by
  obtain ⟨k, I⟩ := h.ex
  unfold planOk
  simp only [Bool.and_eq_true, decide_eq_true_eq, List.all_eq_true, List.mem_range]
  refine ⟨⟨⟨I.len, h0, h1⟩, h2⟩, fun r hr => ?_⟩
  unfold restOk
  by_cases g : (r : Int) ∈ goals
  · rw [if_pos g, I.G r hr g]; decide
  · rw [if_neg g]
    unfold pairOk
    rcases I.N r hr g with e | ⟨j, e, a1, a2, a3, a4, a5, a6, a7⟩
    · rw [e, if_pos ⟨rfl, rfl⟩]
    · rw [a1]
      dsimp only
      rw [if_neg (by omega), if_neg (by omega)]
      unfold evOk
      rw [a5.en]
      have ne := a5.ne
      simp only [Bool.and_eq_true, List.all_eq_true, decide_eq_true_eq, Bool.not_eq_true', Bool.not_false, List.isEmpty_eq_false_iff]
      exact ⟨⟨trivial, ne⟩, fun t m => a5.al t m⟩
/-- the rests that cannot be forced -/
def trapL (mv : Mv) (pl : Pl) : List Int := ((List.range mv.length).filter fun (r : Nat) => decide ((gt pl (r : Int)).1 = -1)).map fun (r : Nat) => (r : Int)
theorem mem_trap {t : Int} : t ∈ trapL mv pl ↔ 0 ≤ t ∧ t < mv.length ∧ (gt pl t).1 = -1 := by
  unfold trapL
  rw [List.mem_map]
  constructor
  · rintro ⟨r, h1, h2⟩
    rw [List.mem_filter, List.mem_range] at h1
    have := of_decide_eq_true h1.2
    subst h2
    exact ⟨by omega, by omega, this⟩
  · rintro ⟨h1, h2, h3⟩
    have e : ((t.toNat : Nat) : Int) = t := by omega
    refine ⟨t.toNat, ?_, e⟩
    rw [List.mem_filter, List.mem_range]
    exact ⟨by omega, decide_eq_true (by rw [e]; exact h3)⟩
theorem trap_len : (trapL mv pl).length ≤ mv.length := by
  unfold trapL
  rw [List.length_map]
  refine Nat.le_trans (List.length_filter_le _ _) ?_
  rw [List.length_range]
  exact Nat.le_refl _
theorem Fin.trap (h : Fin mv goals pl) {many : Nat} (V : VM mv many) (start : Int) (hs : start ∈ trapL mv pl) : trapOk mv goals start (trapL mv pl) = true := by
  obtain ⟨k, I⟩ := h.ex
  unfold trapOk
  rw [Bool.and_eq_true]
  refine ⟨decide_eq_true hs, ?_⟩
  rw [List.all_eq_true]
  intro r hr
  obtain ⟨r0, r1, r2⟩ := mem_trap.mp hr
  have er : ((r.toNat : Nat) : Int) = r := by omega
  have hg : r ∉ goals ∧ gt pl r = (-1, -1) := by
    have := I.lo r.toNat (by omega)
    rw [er] at this
    rcases this with ⟨e1, e2⟩ | e1
    · exact ⟨e2, e1⟩
    · omega
  unfold heldOk
  simp only [Bool.and_eq_true, decide_eq_true_eq, Bool.not_eq_true', decide_eq_false_iff_not, List.all_eq_true]
  refine ⟨⟨⟨r0, r1⟩, hg.1⟩, fun p hp => ?_⟩
  obtain ⟨e, he, e2⟩ := List.mem_iff_getElem.mp hp
  have hl := h.F r.toNat (by omega) (by rw [er]; exact hg.1) (by rw [er]; exact hg.2) e (by rw [er]; exact he)
  rw [er, gt_nat _ e he, e2] at hl
  unfold offOk
  cases h3 : p.2 with
  | true => rfl
  | false =>
    cases h4 : p.1.isEmpty with
    | true => rfl
    | false =>
      rw [Bool.false_or, Bool.false_or, List.any_eq_true]
      have h5 : ¬ ∀ t ∈ p.1, 0 ≤ (gt pl t).1 := fun z => by
        have := leads_iff.mpr ⟨h3, (by intro w; rw [w] at h4; cases h4), z⟩
        rw [hl] at this
        cases this
      obtain ⟨t, h6⟩ := Classical.not_forall.mp h5
      obtain ⟨m, h7⟩ := Classical.not_imp.mp h6
      obtain ⟨t0, t1⟩ := V.rng _ (gt_mem r0 r1) p hp t m
      have et : ((t.toNat : Nat) : Int) = t := by omega
      have := (h.neg (r := t.toNat) (by omega)).mp (by rw [et]; omega)
      rw [et] at this
      exact ⟨t, m, decide_eq_true (mem_trap.mpr ⟨t0, t1, this⟩)⟩
end
theorem plan_nil {mv : Mv} {many : Nat} (V : VM mv many) : fPlan mv [] = mv.map fun _ => (-1, -1) := by
  obtain ⟨k, I⟩ := (plan_fin (goals := []) V (fun t m => absurd m List.not_mem_nil)).ex
  have hp0 : plan0 mv [] = mv.map fun _ => (-1, -1) := rfl
  unfold fPlan
  rw [hp0]
  cases e : List.range (mv.length - 1) with
  | nil => rfl
  | cons i l =>
    unfold rounds
    rw [if_pos]
    cases c : foundL mv (mv.map fun _ => (-1, -1)) with
    | nil => rfl
    | cons q l' =>
      exfalso
      obtain ⟨r, r1, r2, r3, r4, r5⟩ := found_in (mv := mv) (pl := mv.map fun _ => (-1, -1)) (q := q) (by rw [c]; exact List.mem_cons_self)
      rcases force_spec (mv.map fun _ => (-1, -1)) (gt mv (r : Int)) with ⟨f1, _⟩ | ⟨e4, f1, f2, f3, f4⟩
      · omega
      obtain ⟨z1, z2, z3⟩ := leads_iff.mp f3
      cases e5 : (gt (gt mv (r : Int)) (e4 : Int)).1 with
      | nil => exact absurd e5 z2
      | cons t l =>
        have m : t ∈ (gt (gt mv (r : Int)) (e4 : Int)).1 := by rw [e5]; exact List.mem_cons_self
        obtain ⟨t0, t1⟩ := V.ev (r := (r : Int)) (e := (e4 : Int)) (by omega) (by omega) (by omega) (by omega) t m
        have q2 := z3 t m
        rw [gt_map (fun _ => ((-1, -1) : Int × Int)) t0 t1] at q2
        exact absurd q2 (by decide)
theorem wish_s (b : Bool) (mv : Mv) (goals : List Int) (start : Int) (many : Nat) (V : VM mv many) (hm : ∀ r ∈ mv, ∀ p ∈ r, p.1.length ≤ 1000) (h0 : 0 < mv.length) (h1 : mv.length ≤ 60) (h2 : many ≤ 6) (ha : goals.Pairwise (· < ·)) (hr : ∀ t ∈ goals, 0 ≤ t ∧ t < (mv.length : Int)) (hs : 0 ≤ start ∧ start < mv.length) :
    f_wish_paper [(eM b mv, 0), (.lst (goals.map .int), 0), (.int start, 0)] = .ok (if 0 ≤ (gt (fPlan mv goals) start).1 then .tup [.str "forced", .tup ((fPlan mv goals).map prD)] else .tup [.str "held", .tup ((trapL mv (fPlan mv goals)).map .int)], 0) := by
  rw [f_wish_paper, fnOf_ap]
  have q1 := demand_s b mv goals start many V h0 h1 h2 ha hr hs
  have q2 := forced_s b mv goals many V hm h0 hr
  have hF := plan_fin V hr
  have hl := hF.len
  obtain ⟨s0, s1⟩ := hs
  simp only [eM] at q1 q2
  generalize hP : fPlan mv goals = pl at q2 hF hl ⊢
  by_cases c : 0 ≤ (gt pl start).1
  · simp (disch := omega) [b_wish_paper, fill, eM, q1, q2, gIx_tup, hl, prD, c]
  · simp (disch := omega) [b_wish_paper, fill, eM, q1, q2, gIx_tup, hl, prD, c, iR1K_ok]
    have hsz := V.sz
    rw [lc_flt (fun r : Nat => D.int r) (fun r : Nat => decide ((gt pl (r : Int)).1 = -1)) (fun r : Nat => D.int r) _ (List.range mv.length) (by rw [List.length_range]; exact Nat.le_trans hsz (by decide))]
    · have e : List.map (fun r : Nat => D.int r) ((List.range mv.length).filter fun r : Nat => decide ((gt pl (r : Int)).1 = -1)) = (trapL mv pl).map D.int := by
        unfold trapL
        rw [List.map_map]; rfl
      rw [e]
      simp
    · intro r hr' K
      have hr2 := List.mem_range.mp hr'
      have := hF.neg hr2
      by_cases z : (gt pl (r : Int)).1 = -1
      · simp (disch := omega) [gIx_tup, hl, prD, z]
      · have z2 : ¬ (gt pl (r : Int)).1 < 0 := fun w => z (this.mp w)
        simp (disch := omega) [gIx_tup, hl, prD, z, z2]
end L61
namespace L61
open PySem VS
/-! ### drawing -/
theorem log_add (B : Nat) (a b : Int) (h1 : a.natAbs.log2 ≤ B) (h2 : b.natAbs < 2 ^ 17) (h3 : 17 ≤ B) : (a + b).natAbs.log2 ≤ B + 1 := by
  have e1 : a.natAbs < 2 ^ (B + 1) := Nat.lt_of_lt_of_le Nat.lt_log2_self (Nat.pow_le_pow_right (by decide) (by omega))
  have e2 : 2 ^ 17 ≤ 2 ^ (B + 1) := Nat.pow_le_pow_right (by decide) (by omega)
  have e3 : (a + b).natAbs < 2 ^ (B + 1 + 1) := by
    have : (a + b).natAbs ≤ a.natAbs + b.natAbs := Int.natAbs_add_le a b
    rw [Nat.pow_succ]
    omega
  by_cases z : (a + b).natAbs = 0
  · rw [z]; exact Nat.zero_le _
  · have := (Nat.log2_lt z).mpr e3
    omega
theorem bits_log {z : Int} {B : Nat} (h : Builtin.Int.intBits z ≤ B) : z.natAbs.log2 ≤ B := by
  unfold Builtin.Int.intBits at h
  split at h
  · rename_i e
    rw [beq_iff_eq] at e
    rw [e]; exact Nat.zero_le _
  · omega
theorem mul_small {i j : Int} (h : i.natAbs.log2 ≤ 2000000) (h2 : j.natAbs.log2 ≤ 100) : mulOk i j = true := by
  unfold mulOk
  rw [decide_eq_true_eq]
  omega
def cellV (ns : List Int) (k : Int) : Int := if k < ns.length then gt ns k else 0
theorem cell_s (ns : List Int) (k : Int) (hk : 0 ≤ k) : f__law_cell [(.scr (ns.map .int), 0), (.int k, 0)] = .ok (.int (cellV ns k), 0) := by
  rw [f__law_cell, fnOf_ap]
  unfold cellV
  by_cases c : k < ns.length
  · simp (disch := omega) [b__law_cell, fill, c, gIx_scr]
  · simp (disch := omega) [b__law_cell, fill, c]
theorem cell_log {ns : List Int} {B : Nat} (h : ∀ z ∈ ns, Builtin.Int.intBits z ≤ B) {k : Int} (hk : 0 ≤ k) : (cellV ns k).natAbs.log2 ≤ B := by
  unfold cellV
  split
  · rename_i c
    exact bits_log (h _ (gt_mem hk c))
  · exact Nat.zero_le _
theorem gt_snoc {α : Type} [Inhabited α] (l : List α) (a : α) (j : Nat) (h : j ≤ l.length) : gt (l ++ [a]) (j : Int) = if j = l.length then a else gt l (j : Int) := by
  unfold gt
  rw [Int.toNat_natCast, List.getD_eq_getElem?_getD, List.getD_eq_getElem?_getD]
  by_cases e : j = l.length
  · rw [if_pos e, e, List.getElem?_append_right (Nat.le_refl _), Nat.sub_self]; rfl
  · rw [if_neg e, List.getElem?_append_left (by omega)]
/-- a drawn row: as long as the sizes, each below its size -/
structure RowOk (sizes ns : List Int) : Prop where
  len : ns.length = sizes.length
  at_ : ∀ j : Nat, j < sizes.length → 0 ≤ gt ns (j : Int) ∧ gt ns (j : Int) < gt sizes (j : Int)
theorem row_s (b : Bool) (cell : Int) (sizes : List Int) (hc : cell.natAbs.log2 ≤ 2000000) (hl : sizes.length ≤ 1000) (hs : ∀ z ∈ sizes, 0 < z ∧ z ≤ 1000000) :
    ∃ ns : List Int, f__law_row [(.int cell, 0), (eL b (sizes.map .int), 0)] = .ok (.lst (ns.map .int), 1) ∧ RowOk sizes ns := by
  rw [f__law_row, fnOf_ap]
  have hm := mul_small (i := cell) (j := 48271) hc (by decide)
  simp [b__law_row, fill, hm]
  refine for_inv (β := Int × Int × List Int) D.int (fun s => [some (D.int cell, 0), some (eL b (sizes.map .int), 0), some (D.int s.1, 0), some (D.int s.2.1, 0), some (D.lst (s.2.2.map .int), 1), none])
    (fun i s => 0 ≤ s.2.1 ∧ s.2.1 < 2147483647 ∧ s.2.2.length = i ∧ ∀ j : Nat, j < i → 0 ≤ gt s.2.2 (j : Int) ∧ gt s.2.2 (j : Int) < gt sizes (j : Int)) (fun r => ∃ ns : List Int, r = .ok (.lst (ns.map .int), 1) ∧ RowOk sizes ns) sizes (cell, (cell * 48271 + 12345) % 2147483647, []) ?_ ?_ ?_
  · exact ⟨Int.emod_nonneg _ (by decide), Int.emod_lt_of_pos _ (by decide), rfl, fun j z => absurd z (Nat.not_lt_zero _)⟩
  · rintro i z ⟨rest, mixed, nums⟩ hz ⟨i1, i2, i3, i4⟩ K hk
    dsimp only at i1 i2 i3 i4 hk ⊢
    obtain ⟨z1, z2⟩ := hs z (List.mem_of_getElem? hz)
    have hi : i < sizes.length := (List.getElem?_eq_some_iff.mp hz).1
    have hz' : gt sizes (i : Int) = z := by
      unfold gt
      rw [Int.toNat_natCast, List.getD_eq_getElem?_getD, hz]; rfl
    have hlz : z.natAbs.log2 < 9000 := by
      have := (Nat.log2_lt (by omega)).mpr (by omega : z.natAbs < 2 ^ 20)
      omega
    have hln : nums.length < sizeLine := lt_line (by omega)
    have next : ∀ x : Int, ∀ j : Nat, j < i + 1 → 0 ≤ gt (nums ++ [x % z]) (j : Int) ∧ gt (nums ++ [x % z]) (j : Int) < gt sizes (j : Int) := fun x j hj => by
      rw [gt_snoc _ _ _ (by omega)]
      by_cases e : j = nums.length
      · rw [if_pos e]
        have : j = i := by omega
        subst this
        rw [hz']
        exact ⟨Int.emod_nonneg _ (by omega), Int.emod_lt_of_pos _ z1⟩
      · rw [if_neg e]
        exact i4 j (by omega)
    by_cases c : (1000000000000000000 : Int) ≤ cell
    · have q := hk (rest / z, mixed, nums ++ [rest % z]) ⟨i1, i2, by simp [i3], next rest⟩
      simp at q
      simp [c, z1, hlz, hln]
      exact q
    · have hm2 : mulOk mixed 16807 = true := mul_small (i := mixed) (j := 16807) (by
        by_cases w : mixed.natAbs = 0
        · rw [w]; exact Nat.zero_le _
        · have := (Nat.log2_lt w).mpr (by omega : mixed.natAbs < 2 ^ 31)
          omega) (by decide)
      have q := hk (rest, (mixed * 16807 + 54321) % 2147483647, nums ++ [(mixed * 16807 + 54321) % 2147483647 / 64 % z]) ⟨Int.emod_nonneg _ (by decide), Int.emod_lt_of_pos _ (by decide), by simp [i3], next _⟩
      simp at q
      have h64 : Nat.log2 64 < 9000 := by decide
      simp [c, z1, hlz, hln, hm2, h64]
      exact q
  · rintro ⟨rest, mixed, nums⟩ ⟨i1, i2, i3, i4⟩
    dsimp only at i3 i4 ⊢
    exact ⟨nums, by simp, i3, i4⟩
theorem up_len {l : List Int} : ∀ {n : Nat} {m : Int}, l.Pairwise (· < ·) → (∀ t ∈ l, m ≤ t ∧ t < m + n) → l.length ≤ n := by
  induction l with
  | nil => intro n m _ _; exact Nat.zero_le _
  | cons a l ih =>
    intro n m hp h
    obtain ⟨h1, h2⟩ := List.pairwise_cons.mp hp
    obtain ⟨a0, a1⟩ := h a List.mem_cons_self
    have := ih (n := n - 1) (m := m + 1) h2 (fun t mt => by
      have := h1 t mt
      have := h t (List.mem_cons_of_mem _ mt)
      omega)
    rw [List.length_cons]
    omega
/-- targets: ascending, in range -/
structure TgOk (size : Int) (ts : List Int) : Prop where
  up : ts.Pairwise (· < ·)
  rng : ∀ t ∈ ts, 0 ≤ t ∧ t < size
theorem TgOk.len {size : Int} {ts : List Int} (h : TgOk size ts) (h0 : 0 ≤ size) : ts.length ≤ size.toNat := up_len (m := 0) h.up fun t m => by have := h.rng t m; omega
theorem srtU_tg {size : Int} {l : List Int} (h : ∀ t ∈ l, 0 ≤ t ∧ t < size) : TgOk size (srtU l) := ⟨srtU_up l, fun t m => h t ((mem_srtU t l).mp m)⟩
theorem gSort_ints (l : List Int) (h : l.length < 60) : gSortSet (.lst (l.map .int)) = some (.lst ((srtU l).map .int), 1) := by
  show (match intsOf (l.map D.int) with
    | some ns => if ns.length < 60 then some (D.lst ((srtU ns).map .int), 1) else none
    | none => none) = _
  rw [intsOf_map]
  exact if_pos h
theorem targets_s (row : List Int) (size : Int) (hr : row.length = 4) (h0 : 0 ≤ gt row 0 ∧ gt row 0 < 8) (hs : 0 < size ∧ size ≤ 1000) :
    ∃ ts : List Int, f__law_targets [(.lst (row.map .int), 0), (.int size, 0)] = .ok (.lst (ts.map .int), 1) ∧ TgOk size ts := by
  rw [f__law_targets, fnOf_ap]
  obtain ⟨s0, s1⟩ := hs
  by_cases c : gt row 0 = 7
  · simp (disch := omega) [b__law_targets, fill, gIx_lst, c, iR1K_ok]
    rw [lc_map (fun i : Nat => D.int i) (fun i : Nat => D.int i) _ _ (by rw [List.length_range]; exact Nat.le_trans (by omega : size.toNat ≤ 1000) (by decide)) (fun a m K => by simp)]
    refine ⟨(List.range size.toNat).map fun i : Nat => (i : Int), by simp, ?_, fun t m => ?_⟩
    · rw [List.pairwise_map]
      exact List.pairwise_lt_range.imp fun h => by omega
    · obtain ⟨i, m2, rfl⟩ := List.mem_map.mp m
      have := List.mem_range.mp m2
      omega
  · have e : gt row 0 = 0 ∨ gt row 0 = 1 ∨ gt row 0 = 2 ∨ gt row 0 = 3 ∨ gt row 0 = 4 ∨ gt row 0 = 5 ∨ gt row 0 = 6 := by omega
    have hcut : ∀ n : Option Int, (cutA row (some 1) n).length ≤ 4 := fun n => Nat.le_trans (cutA_len _ _ _) (by omega)
    have e2 : ∀ n : Option Int, List.map (fun t => D.int (t % size)) (cutA row (some 1) n) = ((cutA row (some 1) n).map fun t => t % size).map D.int := fun n => by rw [List.map_map]; rfl
    have key : ∀ n : Option Int, gSortSet (.lst (((cutA row (some 1) n).map fun t => t % size).map .int)) = some (.lst ((srtU ((cutA row (some 1) n).map fun t => t % size)).map .int), 1) := fun n => gSort_ints _ (by rw [List.length_map]; have := hcut n; omega)
    have key2 : ∀ n : Option Int, TgOk size (srtU ((cutA row (some 1) n).map fun t => t % size)) := fun n => srtU_tg fun t m => by
      obtain ⟨x, _, rfl⟩ := List.mem_map.mp m
      exact ⟨Int.emod_nonneg _ (by omega), Int.emod_lt_of_pos _ s0⟩
    rcases e with e | e | e | e | e | e | e <;> simp (disch := omega) [b__law_targets, fill, gIx_lst, c, e]
    all_goals
      rw [lc_map D.int (fun t => D.int (t % size)) _ _ (Nat.le_trans (hcut _) (by decide)) (fun a m K => by simp [s0]), e2]
      simp only [R.bind_ok, op1K_ap, key, lift_some, R.run_ok, zRetK_ap, O.fin_rt]
      exact ⟨_, rfl, key2 _⟩
end L61
namespace L61
open PySem VS
def szs (n : Nat) : List Int := (List.replicate n [8, 60, 60, 60, 5]).flatten
theorem szs_succ (n : Nat) : szs (n + 1) = 8 :: 60 :: 60 :: 60 :: 5 :: szs n := by
  unfold szs
  rw [List.replicate_succ, List.flatten_cons]
  rfl
theorem szs_len (n : Nat) : (szs n).length = 5 * n := by
  induction n with
  | zero => rfl
  | succ n ih => rw [szs_succ]; simp only [List.length_cons, ih]; omega
theorem szs_at : ∀ (n m : Nat), m < n → gt (szs n) ((5 * m : Nat) : Int) = 8 := by
  intro n
  induction n with
  | zero => intro m h; omega
  | succ n ih =>
    intro m h
    rw [szs_succ]
    cases m with
    | zero => rfl
    | succ m =>
      have := ih m (by omega)
      unfold gt at this ⊢
      rw [Int.toNat_natCast] at this ⊢
      rw [show 5 * (m + 1) = 5 * m + 5 by omega]
      simpa [List.getD_eq_getElem?_getD] using this
theorem szs_mem (n : Nat) : ∀ z ∈ szs n, 0 < z ∧ z ≤ 1000000 := by
  intro z h
  unfold szs at h
  obtain ⟨l, h1, h2⟩ := List.mem_flatten.mp h
  have := List.eq_of_mem_replicate h1
  subst this
  simp at h2
  omega
theorem szs_mul (n : Nat) (h : n ≤ 1000) : gMul (.lst [.int 8, .int 60, .int 60, .int 60, .int 5]) (.int (n : Int)) = some (.lst ((szs n).map .int), 1) := by
  rw [gMul_lst, if_pos]
  · congr
    unfold szs
    rw [List.map_flatten, List.map_replicate, Int.toNat_natCast]
    rfl
  · refine ⟨Int.lt_of_le_of_lt (by omega : (n : Int) ≤ 1000) (by decide), Int.le_trans (by decide : -(2 ^ 62 : Int) ≤ 0) (by omega), ?_⟩
    rw [Int.toNat_natCast]
    exact Nat.le_trans (by show 5 * n ≤ 5000; omega) (by decide : 5000 ≤ sizeLine)
theorem cut_len {l : List Int} {a n : Nat} (h : a + n ≤ l.length) : (cutA l (some (a : Int)) (some ((a : Int) + (n : Int)))).length = n := by
  unfold cutA
  have e : ((a : Int) + (n : Int)) = ((a + n : Nat) : Int) := by omega
  rw [e, HT.sIx_nat, HT.sIx_nat, List.length_take, List.length_drop]
  omega
theorem cut_at {l : List Int} {a n j : Nat} (h : a + n ≤ l.length) (hj : j < n) : gt (cutA l (some (a : Int)) (some ((a : Int) + (n : Int)))) (j : Int) = gt l ((a + j : Nat) : Int) := by
  unfold cutA gt
  have e : ((a : Int) + (n : Int)) = ((a + n : Nat) : Int) := by omega
  rw [e, HT.sIx_nat, HT.sIx_nat, Int.toNat_natCast, Int.toNat_natCast, List.getD_eq_getElem?_getD, List.getD_eq_getElem?_getD, List.getElem?_take, if_pos (by omega), List.getElem?_drop]
  rw [Nat.min_eq_left (by omega)]
/-- moves that are drawn -/
structure MvOk (size many : Nat) (mv : Mv) : Prop where
  len : mv.length = size
  row : ∀ r ∈ mv, r.length = many ∧ ∀ p ∈ r, TgOk size p.1
theorem MvOk.vm {size many : Nat} {mv : Mv} (h : MvOk size many mv) (h1 : size ≤ 1000) (h2 : many ≤ 1000) : VM mv many :=
  ⟨by rw [h.len]; exact h1, h2, fun r m => (h.row r m).1, fun r m p mp => ((h.row r m).2 p mp).up, fun r m p mp t mt => by rw [h.len]; exact ((h.row r m).2 p mp).rng t mt⟩
theorem MvOk.hm {size many : Nat} {mv : Mv} (h : MvOk size many mv) (h1 : size ≤ 1000) : ∀ r ∈ mv, ∀ p ∈ r, p.1.length ≤ 1000 := fun r m p mp => by
  have := ((h.row r m).2 p mp).len (by omega)
  omega
theorem moves_s (ns : List Int) (size many : Nat) (hb : ∀ z ∈ ns, Builtin.Int.intBits z ≤ 1048576) (h0 : 0 < size) (h1 : size ≤ 1000) (h2 : many ≤ 100) :
    ∃ mv : Mv, f__law_moves [(.scr (ns.map .int), 0), (.int size, 0), (.int many, 0)] = .ok (.lst (mv.map (eR false)), 1) ∧ MvOk size many mv := by
  rw [f__law_moves, fnOf_ap]
  simp (disch := omega) [b__law_moves, fill, iR1K_ok]
  refine for_inv (β := Mv) (fun i : Nat => D.int i) (fun mv => [some (.scr (ns.map .int), 0), some (.int size, 0), some (.int many, 0), some (.lst (mv.map (eR false)), 1), none, none, none, none])
    (fun i mv => mv.length = i ∧ ∀ r ∈ mv, r.length = many ∧ ∀ p ∈ r, TgOk size p.1) (fun r => ∃ mv : Mv, r = .ok (.lst (mv.map (eR false)), 1) ∧ MvOk size many mv) (List.range size) [] ⟨rfl, fun r m => absurd m List.not_mem_nil⟩ ?_ ?_
  · intro i a mv ha ⟨i1, i2⟩ K hk
    have hi : i < size := by
      have := (List.getElem?_eq_some_iff.mp ha).1
      rw [List.length_range] at this
      exact this
    have ea : a = i := by
      rw [List.getElem?_range hi] at ha
      exact (Option.some.inj ha).symm
    subst ea
    have hln : mv.length < sizeLine := lt_line (by omega)
    have hmul : mulOk 131 (a : Int) = true := mul_small (by decide) (by
      by_cases w : (a : Int).natAbs = 0
      · rw [w]; exact Nat.zero_le _
      · have := (Nat.log2_lt w).mpr (by omega : (a : Int).natAbs < 2 ^ 31)
        omega)
    have hcl : (cellV ns (3 + (a : Int)) + 131 * (a : Int)).natAbs.log2 ≤ 2000000 := by
      have := log_add 1048576 (cellV ns (3 + (a : Int))) (131 * (a : Int)) (cell_log hb (by omega)) (by omega) (by decide)
      omega
    obtain ⟨row, r1, r2⟩ := row_s false (cellV ns (3 + (a : Int)) + 131 * (a : Int)) (szs many) hcl (by rw [szs_len]; omega) (szs_mem many)
    have hrl : row.length = 5 * many := by rw [r2.len, szs_len]
    simp only [eL_false] at r1
    simp (disch := omega) [cell_s, hmul, szs_mul many (by omega), r1, iR1K_ok, -gMul_lst]
    refine for_inv (β := List Pr) (fun i : Nat => D.int i) (fun ps => [some (.scr (ns.map .int), 0), some (.int size, 0), some (.int many, 0), some (.lst (mv.map (eR false)), 1), some (.int a, 0), some (.lst (row.map .int), 0), some (.lst (ps.map (eP false)), 1), none])
      (fun i ps => ps.length = i ∧ ∀ p ∈ ps, TgOk size p.1) (fun r => ∃ mv : Mv, r = .ok (.lst (mv.map (eR false)), 1) ∧ MvOk size many mv) (List.range many) [] ⟨rfl, fun r m => absurd m List.not_mem_nil⟩ ?_ ?_
    · intro j c ps hc ⟨j1, j2⟩ K' hk'
      have hj : j < many := by
        have := (List.getElem?_eq_some_iff.mp hc).1
        rw [List.length_range] at this
        exact this
      have ec : c = j := by
        rw [List.getElem?_range hj] at hc
        exact (Option.some.inj hc).symm
      subst ec
      have hln2 : ps.length < sizeLine := lt_line (by omega)
      have hmul2 : mulOk 5 (c : Int) = true := mul_small (by decide) (by
        by_cases w : (c : Int).natAbs = 0
        · rw [w]; exact Nat.zero_le _
        · have := (Nat.log2_lt w).mpr (by omega : (c : Int).natAbs < 2 ^ 31)
          omega)
      have e5 : ((5 * c : Nat) : Int) = 5 * (c : Int) := by omega
      have hcl := cut_len (l := row) (a := 5 * c) (n := 4) (by omega)
      have hca := cut_at (l := row) (a := 5 * c) (n := 4) (j := 0) (by omega) (by decide)
      have hz := r2.at_ (5 * c) (by rw [szs_len]; omega)
      rw [szs_at many c hj] at hz
      rw [Nat.add_zero] at hca
      rw [← hca] at hz
      rw [e5] at hcl hz
      obtain ⟨ts, t1, t2⟩ := targets_s _ (size : Int) hcl hz ⟨by omega, by omega⟩
      simp at t1
      have q := hk' (ps ++ [(ts, decide (gt row (5 * (c : Int) + 4) = 1))]) ⟨by simp [j1], fun p m => by
        rcases List.mem_append.mp m with m | m
        · exact j2 p m
        · rw [List.mem_singleton] at m
          rw [m]; exact t2⟩
      simp [eP] at q
      simp (disch := omega) [hmul2, t1, gIx_lst, hln2]
      exact q
    · intro ps ⟨j1, j2⟩
      rw [List.length_range] at j1
      have q := hk (mv ++ [ps]) ⟨by simp [i1], fun r m => by
        rcases List.mem_append.mp m with m | m
        · exact i2 r m
        · rw [List.mem_singleton] at m
          rw [m]; exact ⟨j1, j2⟩⟩
      simp [eR] at q
      simp [hln]
      exact q
  · intro mv ⟨i1, i2⟩
    rw [List.length_range] at i1
    exact ⟨mv, by simp, i1, i2⟩
end L61
namespace L61
open PySem VS
theorem intsOf_pr (p : Int × Int) (l : List (Int × Int)) : intsOf ((p :: l).map prD) = none := rfl
theorem gSorted_pr (p : Int × Int) (l : List (Int × Int)) : gSorted (.lst ((p :: l).map prD)) = some (.lst ((srtP (p :: l)).map prD), 1) := by
  show (match intsOf ((p :: l).map prD) with
    | some ns => some (D.lst ((srtI ns).map .int), 1)
    | none => match pairsOf ((p :: l).map prD) with
      | some ps => some (D.lst ((srtP ps).map prD), 1)
      | none => none) = _
  rw [intsOf_pr, pairsOf_map]
@[simp] theorem gMinE_two (i j : Int) : gMinE [.int i, .int j] = some (.int (min i j), 0) := rfl
theorem copied_s (b c : Bool) (mv : Mv) (many : Nat) (V : VM mv many) : f__law_copied [(eM b mv, 0), (.bl c, 0)] = .ok (eM c mv, if c then 0 else 1) := by
  rw [f__law_copied, fnOf_ap]
  have hsz := V.sz
  have hin : ∀ r ∈ mv, r.length ≤ sizeLine := fun r m => by rw [V.row r m]; exact Nat.le_trans V.mn (by decide)
  cases c with
  | true =>
    simp [b__law_copied, fill, eM]
    rw [lc_map (eR b) (eR true) _ mv (Nat.le_trans hsz (by decide)) (fun r hr K => by
      simp [eR]
      rw [lc_map (eP b) (eP true) _ r (hin r hr) (fun p hp K => by simp [eP])]
      simp)]
    simp
  | false =>
    simp [b__law_copied, fill, eM]
    rw [lc_map (eR b) (eR false) _ mv (Nat.le_trans hsz (by decide)) (fun r hr K => by
      simp [eR]
      rw [lc_map (eP b) (eP false) _ r (hin r hr) (fun p hp K => by simp [eP])]
      simp)]
    simp
theorem chained_s (mv : Mv) (size many : Nat) (keys events : List Int) (h : MvOk size many mv) (h0 : 0 < size) (h1 : size ≤ 58) (h2 : 0 < many) (h3 : many ≤ 100) (hk : keys.length = size) (he : events.length = size) :
    ∃ mv' : Mv, f__law_chained [(.lst (mv.map (eR false)), 1), (.lst (keys.map .int), 0), (.lst (events.map .int), 0)] = .ok (.lst (mv'.map (eR false)), 1) ∧ MvOk size many mv' := by
  rw [f__law_chained, fnOf_ap]
  have hml := h.len
  simp (disch := omega) [b__law_chained, fill, iR1K_ok, hml]
  rw [lc_map (fun i : Nat => D.int i) (fun i : Nat => prD (gt keys (i : Int), (i : Int))) _ _ (by rw [List.length_range]; exact Nat.le_trans (by omega : size ≤ 1000) (by decide)) (fun i hi K => by
    have := List.mem_range.mp hi
    simp (disch := omega) [gIx_lst, prD])]
  obtain ⟨L, hL, hL2, hL3⟩ : ∃ L : List (Int × Int), gSorted (.lst ((List.range size).map fun i : Nat => prD (gt keys (i : Int), (i : Int)))) = some (.lst (L.map prD), 1) ∧ L.length = size ∧ ∀ p ∈ L, 0 ≤ p.2 ∧ p.2 < size := by
    have e : (List.range size).map (fun i : Nat => prD (gt keys (i : Int), (i : Int))) = ((List.range size).map fun i : Nat => (gt keys (i : Int), (i : Int))).map prD := by rw [List.map_map]; rfl
    rw [e]
    have hl : ((List.range size).map fun i : Nat => (gt keys (i : Int), (i : Int))).length = size := by rw [List.length_map, List.length_range]
    have hmem : ∀ p ∈ (List.range size).map fun i : Nat => (gt keys (i : Int), (i : Int)), 0 ≤ p.2 ∧ p.2 < size := fun p m => by
      obtain ⟨i, m2, rfl⟩ := List.mem_map.mp m
      have := List.mem_range.mp m2
      dsimp only
      omega
    generalize (List.range size).map (fun i : Nat => (gt keys (i : Int), (i : Int))) = l at hl hmem
    cases l with
    | nil => simp at hl; omega
    | cons p l =>
      refine ⟨_, gSorted_pr p l, ?_, fun q m => hmem q ?_⟩
      · unfold srtP; rw [List.length_mergeSort]; exact hl
      · unfold srtP at m; exact (List.mergeSort_perm _ _).mem_iff.mp m
  simp [hL]
  rw [lc_map prD (fun p => D.int p.2) _ L (by rw [hL2]; exact Nat.le_trans (by omega : size ≤ 1000) (by decide)) (fun p hp K => by simp [prD])]
  have e : L.map (fun p => D.int p.2) = (L.map (·.2)).map D.int := by rw [List.map_map]; rfl
  have hl1 : (L.map (·.2)).length = size := by rw [List.length_map]; exact hL2
  have hl2 : ∀ x ∈ L.map (·.2), 0 ≤ x ∧ x < (size : Int) := fun x m => by
    obtain ⟨p, m2, rfl⟩ := List.mem_map.mp m
    exact hL3 p m2
  rw [e]
  generalize L.map (·.2) = line at hl1 hl2
  simp (disch := omega) [hl1, iR2J_ok]
  have el : (size : Int) - 1 = ((size - 1 : Nat) : Int) := by omega
  refine for_inv (β := Mv) (fun i : Nat => D.int (1 + (i : Int))) (fun mv => [some (.lst (mv.map (eR false)), 1), some (.lst (keys.map .int), 0), some (.lst (events.map .int), 0), some (.lst (L.map prD), 0), none, some (.lst (line.map .int), 0), none, none, none, none, none, none, none, none, none])
    (fun _ mv => MvOk size many mv) (fun r => ∃ mv' : Mv, r = .ok (.lst (mv'.map (eR false)), 1) ∧ MvOk size many mv') (List.range (size - 1)) mv h ?_ ?_
  · intro i a mv ha hM K hK
    have hi : a < size - 1 := List.mem_range.mp (List.mem_of_getElem? ha)
    obtain ⟨A, hA⟩ : ∃ A : Int, A = 1 + (a : Int) := ⟨_, rfl⟩
    rw [← hA]
    have a1 : 1 ≤ A := by omega
    have a2 : A < size := by omega
    have hml := hM.len
    obtain ⟨r0, r1⟩ := hl2 _ (gt_mem (l := line) (j := A) (by omega) (by omega))
    have hrow := hM.row _ (gt_mem (l := mv) (j := gt line A) r0 (by omega))
    have hR : ((gt mv (gt line A)).length : Int) = many := by rw [hrow.1]
    have hm0 : (0 : Int) < many := by omega
    have g0 : 0 ≤ gt events A % (many : Int) := Int.emod_nonneg _ (by omega)
    simp (disch := omega) [gIx_lst, hl1, hml, eR, hrow.1, h2, iR1K_ok]
    obtain ⟨G, hG⟩ : ∃ G : Int, G = gt events A % (many : Int) := ⟨_, rfl⟩
    rw [← hG]
    generalize hrest : gt line A = rest at r0 r1 hrow ⊢
    refine for_inv (β := List Pr) (fun i : Nat => D.int i) (fun ps => [some (.lst (mv.map (eR false)), 1), some (.lst (keys.map .int), 0), some (.lst (events.map .int), 0), some (.lst (L.map prD), 0), none, some (.lst (line.map .int), 0), none, some (.int A, 0), some (.int rest, 0), some (.int G, 0), some (.lst (ps.map (eP false)), 1), none, none, none, none])
      (fun i ps => ps.length = i ∧ ∀ p ∈ ps, TgOk size p.1) (fun r => ∃ mv' : Mv, r = .ok (.lst (mv'.map (eR false)), 1) ∧ MvOk size many mv') (List.range many) [] ⟨rfl, fun p m => absurd m List.not_mem_nil⟩ ?_ ?_
    · intro j c ps hc ⟨j1, j2⟩ K' hK'
      have hj : c < many := List.mem_range.mp (List.mem_of_getElem? hc)
      have hjm : j < many := by
        have := (List.getElem?_eq_some_iff.mp hc).1
        rw [List.length_range] at this
        exact this
      have hln : ps.length < sizeLine := lt_line (by omega)
      have hp := hrow.2 _ (gt_mem (l := gt mv rest) (j := (c : Int)) (by omega) (by rw [hrow.1]; omega))
      have hpl := hp.len (by omega)
      generalize hpe : gt (gt mv rest) (c : Int) = p at hp hpl
      obtain ⟨ts, en⟩ := p
      dsimp only at hp hpl
      have snoc : ∀ t : Pr, TgOk size t.1 → (ps ++ [t]).length = j + 1 ∧ ∀ p ∈ ps ++ [t], TgOk size p.1 := fun t ht => ⟨by simp [j1], fun p m => by
        rcases List.mem_append.mp m with m | m
        · exact j2 p m
        · rw [List.mem_singleton] at m; rw [m]; exact ht⟩
      have lin : ∀ x : Int, 0 ≤ x → x < size → 0 ≤ gt line x ∧ gt line x < (size : Int) := fun x x0 x1 => hl2 _ (gt_mem x0 (by omega))
      have hrl : ((c : Int) < (gt mv rest).length) := by rw [hrow.1]; omega
      by_cases z : (c : Int) = G
      · have k0 : 0 ≤ gt keys A % A := Int.emod_nonneg _ (by omega)
        have k1 : gt keys A % A < A := Int.emod_lt_of_pos _ (by omega)
        have hA0 : 0 < A := by omega
        have h6 : Nat.log2 6 < 9000 := by decide
        have hsl := gSl_lst D.int [gt line (A - 1), gt line (gt keys A % A)] none (some (1 + gt events A / 6 % 2))
        have hcl : (cutA [gt line (A - 1), gt line (gt keys A % A)] none (some (1 + gt events A / 6 % 2))).length < 60 := Nat.lt_of_le_of_lt (cutA_len _ _ _) (by simp)
        have hso := gSort_ints _ hcl
        have q := hK' (ps ++ [(srtU (cutA [gt line (A - 1), gt line (gt keys A % A)] none (some (1 + gt events A / 6 % 2))), false)]) (snoc _ (srtU_tg fun t m => by
          have m := cutA_mem m
          simp at m
          rcases m with m | m
          · rw [m]; exact lin _ (by omega) (by omega)
          · rw [m]; exact lin _ (by omega) (by omega)))
        simp [eP] at q hsl
        simp (disch := omega) [gIx_lst, hml, eR, hpe, eP, z, hl1, hA0, hsl, hso, h6, hln]
        exact q
      · have hmn : 0 ≤ min (A + 1) ((size : Int) - 1) ∧ min (A + 1) ((size : Int) - 1) < size := by omega
        have had := gAdd_lstE D.int ts [gt line (min (A + 1) ((size : Int) - 1))] (by simp; omega)
        have hso := gSort_ints (ts ++ [gt line (min (A + 1) ((size : Int) - 1))]) (by simp; omega)
        have q := hK' (ps ++ [(srtU (ts ++ [gt line (min (A + 1) ((size : Int) - 1))]), en)]) (snoc _ (srtU_tg fun t m => by
          rcases List.mem_append.mp m with m | m
          · exact hp.rng t m
          · rw [List.mem_singleton] at m
            rw [m]; exact lin _ (by omega) (by omega)))
        rw [List.map_singleton] at had
        simp only [eP, List.map_append, List.map_cons, List.map_nil] at q had hso
        simp (disch := omega) [gIx_lst, hml, eR, hpe, eP, z, hl1, had, hso, hln, -gAdd_lst]
        exact q
    · intro ps ⟨j1, j2⟩
      rw [List.length_range] at j1
      have q := hK (mv.set rest.toNat ps) ⟨by rw [List.length_set]; exact hml, fun r m => by
        rcases List.mem_or_eq_of_mem_set m with m | m
        · exact hM.row r m
        · rw [m]; exact ⟨j1, j2⟩⟩
      simp [List.map_set, eR] at q
      simp (disch := omega) [ixN_ok, hml]
      exact q
  · intro mv hM
    exact ⟨mv, by simp, hM⟩
end L61
namespace VS
open PySem PySem.Spec L2
mutual
theorem eqv_refl : ∀ (n : Nat) (d : D), okd n d = true → eqv d d = true
  | _, .non, _ => rfl
  | _, .bl a, _ => by simp [eqv]
  | _, .int i, _ => by simp [eqv]
  | _, .str x, _ => by simp [eqv]
  | n + 1, .lst xs, h => by
    have := eqvs_refl n xs (by simpa [okd] using h)
    simpa [eqv] using this
  | n + 1, .tup xs, h => by
    have := eqvs_refl n xs (by simpa [okd] using h)
    simpa [eqv] using this
  | 0, .lst xs, h => by simp [okd] at h
  | 0, .tup xs, h => by simp [okd] at h
  | _, .dct _ _, h => by simp [okd] at h
  | _, .ins _ _, h => by simp [okd] at h
  | _, .scr _, h => by simp [okd] at h
theorem eqvs_refl : ∀ (n : Nat) (ds : List D), okds n ds = true → eqvs ds ds = true
  | _, [], _ => by simp [eqvs]
  | n, d :: ds, h => by
    rw [okds, Bool.and_eq_true] at h
    rw [eqvs, eqv_refl n d h.1, eqvs_refl n ds h.2]
    rfl
end
theorem gEq_self {d : D} (h : okd 30 d = true) : gEq d d = some (.bl true, 0) := by
  unfold gEq
  have e := eqv_refl 30 d h
  split
  · rename_i b eb
    have : b = true := by
      cases d <;> simp [scl] at eb <;> first | exact eb.symm | exact eb | (simp [← eb])
    rw [this]
  · rw [h, e]; rfl
theorem okds_map {α : Type} {n : Nat} {f : α → D} {l : List α} (h : ∀ a ∈ l, okd n (f a) = true) : okds n (l.map f) = true := by
  induction l with
  | nil => simp [okds]
  | cons a l ih => rw [List.map_cons, okds, h a List.mem_cons_self, ih fun b m => h b (List.mem_cons_of_mem _ m)]; rfl
theorem okd_eL {n : Nat} {b : Bool} {xs : List D} (h : okds n xs = true) : okd (n + 1) (eL b xs) = true := by
  cases b <;> simpa [okd] using h
theorem okd_ints {n : Nat} (b : Bool) (ns : List Int) : okd (n + 1) (eL b (ns.map .int)) = true := okd_eL (okds_map fun a _ => by cases n <;> simp [okd])
end VS
namespace L61
open PySem VS
theorem okd_eM (c : Bool) (mv : Mv) : okd 30 (eM c mv) = true := okd_eL (okds_map fun r _ => okd_eL (okds_map fun p _ => by
  unfold eP
  have h := okd_ints (n := 26) c p.1
  simp only [okd, okds, h, Bool.and_true]))
/-- what the law has drawn -/
structure Drawn (size many : Nat) (mv : Mv) (goals : List Int) (start : Int) : Prop where
  ok : MvOk size many mv
  s0 : 0 < size
  s1 : size ≤ 50
  m1 : many ≤ 6
  up : goals.Pairwise (· < ·)
  rng : ∀ t ∈ goals, 0 ≤ t ∧ t < (size : Int)
  st : 0 ≤ start ∧ start < size
theorem t17_s (ns sh : List Int) (size many : Nat) (mv : Mv) (goals : List Int) (start : Int) (k : Nat) (x3 x5 x6 x9 x10 x11 x16 : Option (D × Nat)) (d : Drawn size many mv goals start) (hsh : sh.length = 18) :
    (t_law_17 [some (.scr (ns.map .int), 0), some (.lst (sh.map .int), 0), some (.int (size : Int), 0), x3, some (.lst (mv.map (eR false)), k), x5, x6, none, none, x9, x10, x11, some (.lst (goals.map .int), 0), some (.int start, 0), some (eM (decide (gt sh 5 = 1)) mv, 0), some (.tup ((fPlan mv goals).map prD), 0), x16, none, none, none]).fin (kE (.non, 0)) kS kS = .ok (.bl true, 0) := by
  obtain ⟨ok, s0, s1, m1, up, rng, st0, st1⟩ := d
  have V := ok.vm (by omega) (by omega)
  have hm := ok.hm (by omega)
  have hl := ok.len
  have hF := plan_fin V (fun t m => by rw [hl]; exact rng t m)
  have hpl := hF.len
  generalize hc : decide (gt sh 5 = 1) = c
  simp (disch := omega) [t_law_17, iR1K_ok]
  rw [lc_flt (fun r : Nat => D.int r) (fun r : Nat => decide ((gt (fPlan mv goals) (r : Int)).1 = -1)) (fun r : Nat => D.int r) _ (List.range size) (by rw [List.length_range]; exact Nat.le_trans (by omega : size ≤ 1000) (by decide)) (fun r hr K => by
    have := List.mem_range.mp hr
    simp (disch := omega) [gIx_tup, prD])]
  have e : List.map (fun r : Nat => D.int r) ((List.range size).filter fun r : Nat => decide ((gt (fPlan mv goals) (r : Int)).1 = -1)) = (trapL mv (fPlan mv goals)).map D.int := by
    unfold trapL
    rw [List.map_map, hl]; rfl
  rw [e]
  have w := wish_s c mv goals start many V hm (by omega) (by omega) m1 up (fun t m => by rw [hl]; exact rng t m) ⟨st0, by omega⟩
  have ag := agree_s c mv goals start (fPlan mv goals) (trapL mv (fPlan mv goals)) (cutA sh (some 8) none) many V hm hpl (by omega) (Nat.le_trans trap_len (by omega)) (by simp [cutA, hsh, HT.sIx])
  have cp := copied_s false c mv many V
  have tl : (trapL mv (fPlan mv goals)).length ≤ 1000 := Nat.le_trans trap_len (by omega)
  have eq1 := gEq_self (okd_eM c mv)
  have eq2 := gEq_self (okd_ints (n := 29) false goals)
  have lt := ltr_s false false mv goals start (trapL mv (fPlan mv goals)) many V hm
  have it := istrap_s (trapL mv (fPlan mv goals)) tl
  have mt := mem_trap (mv := mv) (pl := fPlan mv goals) (t := start)
  have hneg := hF.neg (r := start.toNat) (by omega)
  have es : ((start.toNat : Nat) : Int) = start := by omega
  rw [es] at hneg
  simp only [eL_false] at eq2 lt
  by_cases z : start ∈ trapL mv (fPlan mv goals)
  · have z3 := (mt.mp z).2.2
    have z4 : ¬ 0 ≤ (gt (fPlan mv goals) start).1 := by omega
    have tr := hF.trap V start z
    rw [if_neg z4] at w
    simp only [tr] at lt
    have eM0 : eM false mv = .lst (mv.map (eR false)) := rfl
    rw [eM0] at lt cp
    simp (disch := omega) [w, z, lt, it, ag, cp, hc, gIx_lst, hsh]
    cases c <;> simp [eq1, eq2]
  · have z3 : ¬ (gt (fPlan mv goals) start).1 = -1 := fun q => z (mt.mpr ⟨st0, by omega, q⟩)
    have z4 : 0 ≤ (gt (fPlan mv goals) start).1 := by
      by_cases q : 0 ≤ (gt (fPlan mv goals) start).1
      · exact q
      · exact absurd (hneg.mp (by omega)) z3
    rw [if_pos z4] at w
    have hg : 0 < goals.length := by
      cases goals with
      | cons g gs => simp
      | nil =>
        rw [plan_nil V, gt_map (fun _ => ((-1, -1) : Int × Int)) st0 (by omega)] at z4
        exact absurd z4 (by decide)
    have g0 := gt_mem (l := goals) (j := 0) (by omega) (by omega)
    obtain ⟨g1, g2⟩ := rng _ g0
    have g3 : (gt (fPlan mv goals) (gt goals 0)).1 ≠ -1 := by
      obtain ⟨k, I⟩ := hF.ex
      have eg : (((gt goals 0).toNat : Nat) : Int) = gt goals 0 := by omega
      have := I.G (gt goals 0).toNat (by omega) (by rw [eg]; exact g0)
      rw [eg] at this
      rw [this]; decide
    have ip := is_plan_s false mv goals (fPlan mv goals) many V hm hpl hg hF.least (hF.right (gt goals 0) g1 (by omega) g3)
    have eM0 : eM false mv = .lst (mv.map (eR false)) := rfl
    rw [eM0] at ip cp
    simp (disch := omega) [w, z, ip, ag, cp, hc, gIx_lst, hsh]
    cases c <;> simp [eq1, eq2]
end L61
namespace L61
open PySem VS
theorem t14_s (ns sh : List Int) (size many : Nat) (mv : Mv) (goals : List Int) (start : Int) (k : Nat) (x3 x5 x6 x9 x10 x11 : Option (D × Nat)) (d : Drawn size many mv goals start) (hsh : sh.length = 18) :
    (t_law_14 [some (.scr (ns.map .int), 0), some (.lst (sh.map .int), 0), some (.int (size : Int), 0), x3, some (.lst (mv.map (eR false)), k), x5, x6, none, none, x9, x10, x11, some (.lst (goals.map .int), 0), some (.int start, 0), some (eM (decide (gt sh 5 = 1)) mv, 0), none, none, none, none, none]).fin (kE (.non, 0)) kS kS = .ok (.bl true, 0) := by
  have d' := d
  obtain ⟨ok, s0, s1, m1, up, rng, st0, st1⟩ := d
  have V := ok.vm (by omega) (by omega)
  have hm := ok.hm (by omega)
  have hl := ok.len
  have hF := plan_fin V (fun t m => by rw [hl]; exact rng t m)
  have hpl := hF.len
  have im := is_moves_s (decide (gt sh 5 = 1)) mv many V (by omega) (by omega) m1
  simp (disch := omega) [t_law_14, im, iR1K_ok]
  rw [lc_map (fun i : Nat => D.int i) (fun _ => D.tup [.int (-1), .int (-1)]) _ _ (by rw [List.length_range]; exact Nat.le_trans (by omega : size ≤ 1000) (by decide)) (fun i hi K => by simp)]
  simp
  by_cases g : goals = []
  · subst g
    have e : List.map (fun _ : Nat => D.tup [D.int (-1), D.int (-1)]) (List.range size) = (fPlan mv []).map prD := by
      rw [plan_nil V, List.map_map]
      apply List.ext_getElem
      · rw [List.length_map, List.length_map, List.length_range, hl]
      · intro i _ _
        simp [prD]
    have t := t17_s ns sh size many mv [] start k x3 x5 x6 x9 x10 x11 none d' hsh
    rw [← e] at t
    simp at t
    simp
    simpa using t
  · have hg : 0 < goals.length := List.length_pos_iff.mpr g
    have g0 := gt_mem (l := goals) (j := 0) (by omega) (by omega)
    obtain ⟨g1, g2⟩ := rng _ g0
    have g3 : gt (fPlan mv goals) (gt goals 0) = (0, -1) := by
      obtain ⟨k, I⟩ := hF.ex
      have eg : (((gt goals 0).toNat : Nat) : Int) = gt goals 0 := by omega
      have := I.G (gt goals 0).toNat (by omega) (by rw [eg]; exact g0)
      rw [eg] at this
      exact this
    have w := wish_s (decide (gt sh 5 = 1)) mv goals (gt goals 0) many V hm (by omega) (by omega) m1 up (fun t m => by rw [hl]; exact rng t m) ⟨g1, by omega⟩
    rw [if_pos (by rw [g3]; decide)] at w
    have ip := is_plan_s false mv goals (fPlan mv goals) many V hm hpl hg hF.least (hF.right (gt goals 0) g1 (by omega) (by rw [g3]; decide))
    have eM0 : eM false mv = .lst (mv.map (eR false)) := rfl
    rw [eM0] at ip
    have t := t17_s ns sh size many mv goals start 0 x3 x5 x6 x9 x10 x11 (some (.tup [.str "forced", .tup ((fPlan mv goals).map prD)], 0)) d' hsh
    simp (disch := omega) [g, hg, w, ip, gIx_lst]
    exact t
theorem t11_s (ns sh marks : List Int) (size many : Nat) (mv : Mv) (k : Nat) (x3 x5 x6 x9 x11 : Option (D × Nat)) (ok : MvOk size many mv) (s0 : 0 < size) (s1 : size ≤ 50) (m1 : many ≤ 6) (hsh : sh.length = 18) (hmk : marks.length = size) :
    (t_law_11 [some (.scr (ns.map .int), 0), some (.lst (sh.map .int), 0), some (.int (size : Int), 0), x3, some (.lst (mv.map (eR false)), k), x5, x6, none, none, x9, some (.lst (marks.map .int), 0), x11, none, none, none, none, none, none, none, none]).fin (kE (.non, 0)) kS kS = .ok (.bl true, 0) := by
  have V := ok.vm (by omega) (by omega)
  simp (disch := omega) [t_law_11, iR1K_ok]
  rw [lc_flt (fun i : Nat => D.int i) (fun i : Nat => decide (gt marks (i : Int) = 1)) (fun i : Nat => D.int i) _ _ (by rw [List.length_range]; exact Nat.le_trans (by omega : size ≤ 1000) (by decide)) (fun i hi K => by
    have := List.mem_range.mp hi
    simp (disch := omega) [gIx_lst])]
  have e : List.map (fun i : Nat => D.int i) ((List.range size).filter fun i : Nat => decide (gt marks (i : Int) = 1)) = (((List.range size).filter fun i : Nat => decide (gt marks (i : Int) = 1)).map fun i : Nat => (i : Int)).map D.int := by rw [List.map_map]; rfl
  rw [e]
  have up : (((List.range size).filter fun i : Nat => decide (gt marks (i : Int) = 1)).map fun i : Nat => (i : Int)).Pairwise (· < ·) := by
    rw [List.pairwise_map]
    exact (List.pairwise_lt_range.filter _).imp fun h => by omega
  have rng : ∀ t ∈ ((List.range size).filter fun i : Nat => decide (gt marks (i : Int) = 1)).map fun i : Nat => (i : Int), 0 ≤ t ∧ t < (size : Int) := fun t m => by
    obtain ⟨i, m2, rfl⟩ := List.mem_map.mp m
    have := List.mem_range.mp (List.mem_filter.mp m2).1
    omega
  generalize ((List.range size).filter fun i : Nat => decide (gt marks (i : Int) = 1)).map (fun i : Nat => (i : Int)) = goals at up rng ⊢
  have hs0 : 0 < size := s0
  have st : 0 ≤ gt sh 6 % (size : Int) ∧ gt sh 6 % (size : Int) < size := ⟨Int.emod_nonneg _ (by omega), Int.emod_lt_of_pos _ (by omega)⟩
  have cp := copied_s false (decide (gt sh 5 = 1)) mv many V
  have eM0 : eM false mv = .lst (mv.map (eR false)) := rfl
  rw [eM0] at cp
  have t := t14_s ns sh size many mv goals (gt sh 6 % (size : Int)) 0 x3 x5 x6 x9 (some (.lst (marks.map .int), 0)) x11 ⟨ok, s0, s1, m1, up, rng, st⟩ hsh
  simp (disch := omega) [gIx_lst, hs0, cp]
  exact t
theorem t8_s (ns sh keys : List Int) (size many : Nat) (mv : Mv) (k : Nat) (x3 : Option (D × Nat)) (ch : Bool) (ok : MvOk size many mv) (s0 : 0 < size) (s1 : size ≤ 50) (m1 : many ≤ 6) (hsh : sh.length = 18) (hk : keys.length = size) (h7 : 0 ≤ gt sh 7 ∧ gt sh 7 < 3)
    (hb : ∀ z ∈ ns, Builtin.Int.intBits z ≤ 1048576) :
    (t_law_8 [some (.scr (ns.map .int), 0), some (.lst (sh.map .int), 0), some (.int (size : Int), 0), x3, some (.lst (mv.map (eR false)), k), some (.bl ch, 0), some (.lst (keys.map .int), 0), none, none, none, none, none, none, none, none, none, none, none, none, none]).fin (kE (.non, 0)) kS kS = .ok (.bl true, 0) := by
  have e : gt sh 7 = 0 ∨ gt sh 7 = 1 ∨ gt sh 7 = 2 := by omega
  have key : ∀ share : Int, 0 < share → share ≤ 100 → ∀ x9 : Option (D × Nat), ∃ marks : List Int, f__law_row [(.int (cellV ns 1), 0), (.lst ((List.range size).map fun _ => D.int share), 0)] = .ok (.lst (marks.map .int), 1) ∧ marks.length = size := fun share h1 h2 _ => by
    obtain ⟨marks, q1, q2⟩ := row_s false (cellV ns 1) ((List.range size).map fun _ => share) (by have := cell_log hb (k := 1) (by decide); omega) (by rw [List.length_map, List.length_range]; omega) (fun z m => by
      obtain ⟨_, _, rfl⟩ := List.mem_map.mp m
      omega)
    rw [List.map_map] at q1
    refine ⟨marks, q1, ?_⟩
    rw [q2.len, List.length_map, List.length_range]
  have hls : (List.range size).length ≤ sizeLine := by rw [List.length_range]; exact Nat.le_trans (by omega : size ≤ 1000) (by decide)
  have h12 : Nat.log2 12 < 9000 := by decide
  have fin : ∀ (share : Int), 0 < share → share ≤ 100 → gt sh 7 = 2 → ch = true → ∀ x10 : Option (D × Nat), ∃ b : Int, gMinE [.lst ((List.range size).map fun i : Nat => D.tup [.int (gt keys (i : Int) / 12), .int (i : Int)])] = some (.tup [.int b, .int b], 0) ∨ ∃ a : Int, gMinE [.lst ((List.range size).map fun i : Nat => D.tup [.int (gt keys (i : Int) / 12), .int (i : Int)])] = some (.tup [.int a, .int b], 0) := fun _ _ _ _ _ _ => by
    have e : (List.range size).map (fun i : Nat => D.tup [.int (gt keys (i : Int) / 12), .int (i : Int)]) = ((List.range size).map fun i : Nat => (gt keys (i : Int) / 12, (i : Int))).map prD := by rw [List.map_map]; rfl
    rw [e]
    have hl : ((List.range size).map fun i : Nat => (gt keys (i : Int) / 12, (i : Int))).length = size := by rw [List.length_map, List.length_range]
    generalize (List.range size).map (fun i : Nat => (gt keys (i : Int) / 12, (i : Int))) = l at hl
    cases l with
    | nil => simp at hl; omega
    | cons p l =>
      refine ⟨(minP p l).2, .inr ⟨(minP p l).1, ?_⟩⟩
      show (match intsOf ((p :: l).map prD) with
        | some (n :: ns) => some (D.int (ns.foldl min n), 0)
        | some [] => none
        | none => match pairsOf ((p :: l).map prD) with
          | some (p :: ps) => some (prD (minP p ps), 0)
          | _ => none) = _
      rw [intsOf_pr, pairsOf_map]
      rfl
  rcases e with e | e | e
  all_goals
    simp (disch := omega) [t_law_8, gIx_lst, hsh, e, iR1K_ok, cell_s]
  · rw [lc_map (fun i : Nat => D.int i) (fun _ => D.int 2) _ _ hls (fun i hi K => by simp)]
    obtain ⟨marks, q1, q2⟩ := key 2 (by decide) (by decide) none
    have t := t11_s ns sh marks size many mv k x3 (some (.bl ch, 0)) (some (.lst (keys.map .int), 0)) (some (.int 2, 0)) none ok s0 s1 m1 hsh q2
    cases ch <;> simp (disch := omega) [q1, gIx_lst, hsh, e] <;> exact t
  · rw [lc_map (fun i : Nat => D.int i) (fun _ => D.int 5) _ _ hls (fun i hi K => by simp)]
    obtain ⟨marks, q1, q2⟩ := key 5 (by decide) (by decide) none
    have t := t11_s ns sh marks size many mv k x3 (some (.bl ch, 0)) (some (.lst (keys.map .int), 0)) (some (.int 5, 0)) none ok s0 s1 m1 hsh q2
    cases ch <;> simp (disch := omega) [q1, gIx_lst, hsh, e] <;> exact t
  · rw [lc_map (fun i : Nat => D.int i) (fun _ => D.int 12) _ _ hls (fun i hi K => by simp)]
    obtain ⟨marks, q1, q2⟩ := key 12 (by decide) (by decide) none
    cases ch with
    | false =>
      have t := t11_s ns sh marks size many mv k x3 (some (.bl false, 0)) (some (.lst (keys.map .int), 0)) (some (.int 12, 0)) none ok s0 s1 m1 hsh q2
      simp (disch := omega) [q1, gIx_lst, hsh, e]
      exact t
    | true =>
      simp (disch := omega) [q1, gIx_lst, hsh, e, iR1K_ok]
      rw [lc_map (fun i : Nat => D.int i) (fun i : Nat => D.tup [.int (gt keys (i : Int) / 12), .int (i : Int)]) _ _ hls (fun i hi K => by
        have := List.mem_range.mp hi
        simp (disch := omega) [gIx_lst, h12])]
      obtain ⟨b, hb⟩ := fin 12 (by decide) (by decide) e rfl none
      have go : ∃ a : Int, gMinE [.lst ((List.range size).map fun i : Nat => D.tup [.int (gt keys (i : Int) / 12), .int (i : Int)])] = some (.tup [.int a, .int b], 0) := by
        rcases hb with hb | hb
        · exact ⟨b, hb⟩
        · exact hb
      obtain ⟨a, ha⟩ := go
      simp (disch := omega) [ha, iR1K_ok]
      rw [lc_map (fun i : Nat => D.int i) (fun i : Nat => D.int (if (i : Int) = b then 1 else 0)) _ _ hls (fun i hi K => by simp)]
      have e2 : (List.range size).map (fun i : Nat => D.int (if (i : Int) = b then 1 else 0)) = ((List.range size).map fun i : Nat => (if (i : Int) = b then (1 : Int) else 0)).map D.int := by rw [List.map_map]; rfl
      rw [e2]
      have t := t11_s ns sh ((List.range size).map fun i : Nat => (if (i : Int) = b then (1 : Int) else 0)) size many mv k x3 (some (.bl true, 0)) (some (.lst (keys.map .int), 0)) (some (.int 12, 0)) (some (.int b, 0)) ok s0 s1 m1 hsh (by rw [List.length_map, List.length_range])
      simp only [R.bind_ok, R.run_ok, zSetK_ap, O.fin_nx, O.fin_go, seqK_ap] 
      simp
      simpa using t
end L61
namespace L61
open PySem VS
theorem t4_s (ns sh : List Int) (size many : Nat) (s0 : 0 < size) (s1 : size ≤ 50) (m1 : many ≤ 6) (hsh : sh.length = 18) (h7 : 0 ≤ gt sh 7 ∧ gt sh 7 < 3) (hb : ∀ z ∈ ns, Builtin.Int.intBits z ≤ 1048576) :
    (t_law_4 [some (.scr (ns.map .int), 0), some (.lst (sh.map .int), 0), some (.int (size : Int), 0), some (.int (many : Int), 0), none, none, none, none, none, none, none, none, none, none, none, none, none, none, none, none]).fin (kE (.non, 0)) kS kS = .ok (.bl true, 0) := by
  obtain ⟨mv, q1, q2⟩ := moves_s ns size many hb s0 (by omega) (by omega)
  have hls : (List.range size).length ≤ sizeLine := by rw [List.length_range]; exact Nat.le_trans (by omega : size ≤ 1000) (by decide)
  obtain ⟨keys, k1, k2⟩ := row_s false (cellV ns 2) ((List.range size).map fun _ => 12000) (by have := cell_log hb (k := 2) (by decide); omega) (by rw [List.length_map, List.length_range]; omega) (fun z m => by
    obtain ⟨_, _, rfl⟩ := List.mem_map.mp m
    omega)
  have kl : keys.length = size := by rw [k2.len, List.length_map, List.length_range]
  rw [List.map_map] at k1
  have k1' : f__law_row [(.int (cellV ns 2), 0), (.lst ((List.range size).map fun _ => D.int 12000), 0)] = .ok (.lst (keys.map .int), 1) := k1
  have h12 : Nat.log2 12 < 9000 := by decide
  have hkl : keys.length ≤ sizeLine := by rw [kl]; exact Nat.le_trans (by omega : size ≤ 1000) (by decide)
  have tl := fun (mv : Mv) (ok : MvOk size many mv) (k : Nat) (ch : Bool) => t8_s ns sh keys size many mv k (some (.int (many : Int), 0)) ch ok s0 s1 m1 hsh kl h7 hb
  have chn : 0 < many → ∃ mv' : Mv, f__law_chained [(.lst (mv.map (eR false)), 1), (.lst (keys.map fun z => D.int (z / 12)), 0), (.lst (keys.map fun z => D.int (z % 12)), 0)] = .ok (.lst (mv'.map (eR false)), 1) ∧ MvOk size many mv' := fun hm0 => by
    have := chained_s mv size many (keys.map fun z => z / 12) (keys.map fun z => z % 12) q2 s0 (by omega) hm0 (by omega) (by rw [List.length_map]; exact kl) (by rw [List.length_map]; exact kl)
    rw [List.map_map, List.map_map] at this
    exact this
  simp (disch := omega) [t_law_4, gIx_lst, hsh, q1]
  have rest : ∀ ch : Bool, ∀ S : SD, True := fun _ _ => trivial
  by_cases c1 : gt sh 4 = 1
  · by_cases c2 : 0 < many
    · obtain ⟨mv', m1', m2'⟩ := chn c2
      simp (disch := omega) [c1, c2, cell_s, iR1K_ok]
      rw [lc_map (fun i : Nat => D.int i) (fun _ => D.int 12000) _ _ hls (fun i hi K => by simp)]
      simp [k1']
      rw [lc_map D.int (fun z => D.int (z / 12)) _ _ hkl (fun z hz K => by simp [h12])]
      simp
      rw [lc_map D.int (fun z => D.int (z % 12)) _ _ hkl (fun z hz K => by simp)]
      simp [m1']
      exact tl mv' m2' 1 true
    · simp (disch := omega) [c1, c2, cell_s, iR1K_ok]
      rw [lc_map (fun i : Nat => D.int i) (fun _ => D.int 12000) _ _ hls (fun i hi K => by simp)]
      simp [k1']
      exact tl mv q2 1 false
  · simp (disch := omega) [c1, cell_s, iR1K_ok]
    rw [lc_map (fun i : Nat => D.int i) (fun _ => D.int 12000) _ _ hls (fun i hi K => by simp)]
    simp [k1']
    exact tl mv q2 1 false
theorem law_true : ∀ ns : List Int, ns.length ≤ 63 → (∀ z ∈ ns, Builtin.Int.intBits z ≤ 1048576) → ∃ k, f_law [(.scr (ns.map .int), 0)] = .ok (.bl true, k) := by
  intro ns _ hb
  refine ⟨0, ?_⟩
  rw [f_law, fnOf_ap]
  obtain ⟨sh, q1, q2⟩ := row_s false (cellV ns 0) [4, 40, 16, 7, 2, 2, 60, 3, 6, 5, 2, 60, 60, 60, 12, 60, 60, 6] (by have := cell_log hb (k := 0) (by decide); omega) (by decide) (by decide)
  have hsh : sh.length = 18 := q2.len
  simp only [eL_false, List.map_cons, List.map_nil] at q1
  have h18 : 18 ≤ sizeLine := by decide
  have a1 : 0 ≤ gt sh 1 ∧ gt sh 1 < 40 := q2.at_ 1 (by decide)
  have a2 : 0 ≤ gt sh 2 ∧ gt sh 2 < 16 := q2.at_ 2 (by decide)
  have a3 : 0 ≤ gt sh 3 ∧ gt sh 3 < 7 := q2.at_ 3 (by decide)
  have a7 : 0 ≤ gt sh 7 ∧ gt sh 7 < 3 := q2.at_ 7 (by decide)
  have t := fun (size many : Int) (s0 : 0 < size) (s1 : size ≤ 50) (m0 : 0 ≤ many) (m1 : many ≤ 6) => t4_s ns sh size.toNat many.toNat (by omega) (by omega) (by omega) hsh a7 hb
  have es : ∀ z : Int, 0 ≤ z → ((z.toNat : Nat) : Int) = z := fun z h => by omega
  by_cases c : gt sh 0 = 0
  · have t := t (1 + gt sh 1) (1 + gt sh 3 % 2) (by omega) (by omega) (by omega) (by omega)
    rw [es _ (by omega), es _ (by omega)] at t
    simp (disch := omega) [b_law, fill, cell_s, q1, h18, gIx_lst, hsh, c]
    exact t
  · have t := t (1 + gt sh 2) (gt sh 3) (by omega) (by omega) (by omega) (by omega)
    rw [es _ (by omega), es _ (by omega)] at t
    simp (disch := omega) [b_law, fill, cell_s, q1, h18, gIx_lst, hsh, c]
    exact t
end L61
open PySem PySem.W PyProof.Rows in
set_option maxRecDepth 100000 in
set_option maxHeartbeats 0 in
theorem PySem.Challenge.cw_calmhouse_k61_wish_paper_holds : PySem.Challenge.rw_calmhouse_k61_wish_paper.Holds := by
  w_on; o_law; k_head; (case hw => w_witness2)
  k_fill
  refine VS.walk_law (l := PySem.Challenge.rw_calmhouse_k61_wish_paper) (n := 63) (k := 7) (f := L61.f_law) rfl (by decide) rfl ⟨rfl, by decide, by decide⟩ (fun w h Y => PySem.W.kIn_of Y) ?F ?V
  case V => exact L61.law_true
  case F =>
    intro w mg fa h KX G hmg
    refine (fun Fa => by
      obtain ⟨fd, h1, h2⟩ := L61.law_fn (P := PySem.Challenge.pw_calmhouse_k61_wish_paper) (w := w) Fa hmg
      exact ⟨fd, h1, fun base _ _ => h2 base trivial⟩) ?_
    refine' L61.facts_mk KX G ?a_is_integer ?l_is_integer ?c_is_integer ?k_is_integer ?a_is_place ?l_is_place ?c_is_place ?k_is_place ?a_are_places ?l_are_places ?c_are_places ?k_are_places ?a_is_moves ?l_is_moves ?c_is_moves ?k_is_moves ?a_demand_question ?l_demand_question ?c_demand_question ?k_demand_question ?a_forcing_event ?l_forcing_event ?c_forcing_event ?k_forcing_event ?a_forced_plan ?l_forced_plan ?c_forced_plan ?k_forced_plan ?a_wish_paper ?l_wish_paper ?c_wish_paper ?k_wish_paper ?a_pair_is_right ?l_pair_is_right ?c_pair_is_right ?k_pair_is_right ?a_shows_plan ?l_shows_plan ?c_shows_plan ?k_shows_plan ?a_holds_off ?l_holds_off ?c_holds_off ?k_holds_off ?a_shows_trap ?l_shows_trap ?c_shows_trap ?k_shows_trap ?a__law_cell ?l__law_cell ?c__law_cell ?k__law_cell ?a__law_row ?l__law_row ?c__law_row ?k__law_row ?a__law_targets ?l__law_targets ?c__law_targets ?k__law_targets ?a__law_moves ?l__law_moves ?c__law_moves ?k__law_moves ?a__law_chained ?l__law_chained ?c__law_chained ?k__law_chained ?a__law_copied ?l__law_copied ?c__law_copied ?k__law_copied ?a__law_is_integer ?l__law_is_integer ?c__law_is_integer ?k__law_is_integer ?a__law_plan_is_right ?l__law_plan_is_right ?c__law_plan_is_right ?k__law_plan_is_right ?a__law_trap_is_right ?l__law_trap_is_right ?c__law_trap_is_right ?k__law_trap_is_right ?a__law_best ?l__law_best ?c__law_best ?k__law_best ?a__law_plan_is_least ?l__law_plan_is_least ?c__law_plan_is_least ?k__law_plan_is_least ?a__law_is_paper ?l__law_is_paper ?c__law_is_paper ?k__law_is_paper ?a__law_is_trap ?l__law_is_trap ?c__law_is_trap ?k__law_is_trap ?a__law_is_plan ?l__law_is_plan ?c__law_is_plan ?k__law_is_plan ?a__law_says ?l__law_says ?c__law_says ?k__law_says ?a__law_changed_plan ?l__law_changed_plan ?c__law_changed_plan ?k__law_changed_plan ?a__law_changed_trap ?l__law_changed_trap ?c__law_changed_trap ?k__law_changed_trap ?a__law_judges_agree ?l__law_judges_agree ?c__law_judges_agree ?k__law_judges_agree ?a_law ?l_law ?c_law ?k_law ?b_bool ?b_enumerate ?b_int ?b_isinstance ?b_len ?b_list ?b_max ?b_min ?b_range ?b_set ?b_sorted ?b_str ?b_tuple ?e_MOST_EVENTS ?e_MOST_RESTS
    (case a_is_integer => k_is)
    (case l_is_integer => k_is)
    (case c_is_integer => k_is)
    (case k_is_integer => k_is)
    (case a_is_place => k_is)
    (case l_is_place => k_is)
    (case c_is_place => k_is)
    (case k_is_place => k_is)
    (case a_are_places => k_is)
    (case l_are_places => k_is)
    (case c_are_places => k_is)
    (case k_are_places => k_is)
    (case a_is_moves => k_is)
    (case l_is_moves => k_is)
    (case c_is_moves => k_is)
    (case k_is_moves => k_is)
    (case a_demand_question => k_is)
    (case l_demand_question => k_is)
    (case c_demand_question => k_is)
    (case k_demand_question => k_is)
    (case a_forcing_event => k_is)
    (case l_forcing_event => k_is)
    (case c_forcing_event => k_is)
    (case k_forcing_event => k_is)
    (case a_forced_plan => k_is)
    (case l_forced_plan => k_is)
    (case c_forced_plan => k_is)
    (case k_forced_plan => k_is)
    (case a_wish_paper => k_is)
    (case l_wish_paper => k_is)
    (case c_wish_paper => k_is)
    (case k_wish_paper => k_is)
    (case a_pair_is_right => k_is)
    (case l_pair_is_right => k_is)
    (case c_pair_is_right => k_is)
    (case k_pair_is_right => k_is)
    (case a_shows_plan => k_is)
    (case l_shows_plan => k_is)
    (case c_shows_plan => k_is)
    (case k_shows_plan => k_is)
    (case a_holds_off => k_is)
    (case l_holds_off => k_is)
    (case c_holds_off => k_is)
    (case k_holds_off => k_is)
    (case a_shows_trap => k_is)
    (case l_shows_trap => k_is)
    (case c_shows_trap => k_is)
    (case k_shows_trap => k_is)
    (case a__law_cell => k_is)
    (case l__law_cell => k_is)
    (case c__law_cell => k_is)
    (case k__law_cell => k_is)
    (case a__law_row => k_is)
    (case l__law_row => k_is)
    (case c__law_row => k_is)
    (case k__law_row => k_is)
    (case a__law_targets => k_is)
    (case l__law_targets => k_is)
    (case c__law_targets => k_is)
    (case k__law_targets => k_is)
    (case a__law_moves => k_is)
    (case l__law_moves => k_is)
    (case c__law_moves => k_is)
    (case k__law_moves => k_is)
    (case a__law_chained => k_is)
    (case l__law_chained => k_is)
    (case c__law_chained => k_is)
    (case k__law_chained => k_is)
    (case a__law_copied => k_is)
    (case l__law_copied => k_is)
    (case c__law_copied => k_is)
    (case k__law_copied => k_is)
    (case a__law_is_integer => k_is)
    (case l__law_is_integer => k_is)
    (case c__law_is_integer => k_is)
    (case k__law_is_integer => k_is)
    (case a__law_plan_is_right => k_is)
    (case l__law_plan_is_right => k_is)
    (case c__law_plan_is_right => k_is)
    (case k__law_plan_is_right => k_is)
    (case a__law_trap_is_right => k_is)
    (case l__law_trap_is_right => k_is)
    (case c__law_trap_is_right => k_is)
    (case k__law_trap_is_right => k_is)
    (case a__law_best => k_is)
    (case l__law_best => k_is)
    (case c__law_best => k_is)
    (case k__law_best => k_is)
    (case a__law_plan_is_least => k_is)
    (case l__law_plan_is_least => k_is)
    (case c__law_plan_is_least => k_is)
    (case k__law_plan_is_least => k_is)
    (case a__law_is_paper => k_is)
    (case l__law_is_paper => k_is)
    (case c__law_is_paper => k_is)
    (case k__law_is_paper => k_is)
    (case a__law_is_trap => k_is)
    (case l__law_is_trap => k_is)
    (case c__law_is_trap => k_is)
    (case k__law_is_trap => k_is)
    (case a__law_is_plan => k_is)
    (case l__law_is_plan => k_is)
    (case c__law_is_plan => k_is)
    (case k__law_is_plan => k_is)
    (case a__law_says => k_is)
    (case l__law_says => k_is)
    (case c__law_says => k_is)
    (case k__law_says => k_is)
    (case a__law_changed_plan => k_is)
    (case l__law_changed_plan => k_is)
    (case c__law_changed_plan => k_is)
    (case k__law_changed_plan => k_is)
    (case a__law_changed_trap => k_is)
    (case l__law_changed_trap => k_is)
    (case c__law_changed_trap => k_is)
    (case k__law_changed_trap => k_is)
    (case a__law_judges_agree => k_is)
    (case l__law_judges_agree => k_is)
    (case c__law_judges_agree => k_is)
    (case k__law_judges_agree => k_is)
    (case a_law => k_is)
    (case l_law => k_is)
    (case c_law => k_is)
    (case k_law => k_is)
    (case b_bool => k_is)
    (case b_enumerate => k_is)
    (case b_int => k_is)
    (case b_isinstance => k_is)
    (case b_len => k_is)
    (case b_list => k_is)
    (case b_max => k_is)
    (case b_min => k_is)
    (case b_range => k_is)
    (case b_set => k_is)
    (case b_sorted => k_is)
    (case b_str => k_is)
    (case b_tuple => k_is)
    (case e_MOST_EVENTS => k_is)
    (case e_MOST_RESTS => k_is)
