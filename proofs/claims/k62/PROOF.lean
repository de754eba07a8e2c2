import PyProof.Rows.All
import Wide.All
import OpenK.AllK
import Wide.FinOn
import HandS.ForMost
import HandS.ForExc
import HandS.Conv
import HandS.TupAny
import HandS.IsInst
import HandS.Style
import HandS.Wide
import HandS.SortInts
import HandS.SortRule
import HandS.Rev
import HandS.Zip
import KE.OsSort
import HandS.CallSlots
import HandS.TryOnly
import HandS.EndBits
import KE.GoesEnum
import HandS.SetFor
import HandS.Strs
import KE.DataMinMax
import KE.SortData
import HandS.Dict
import HandS.Defaults
import HandS.RevTup
import KE.KDictSum
import HandS.ExcValue
import HandS.ExcOwn
import KE.KExcSuper
import HandS.HotCalls
import KE.KExcIs
import HandS.ExcIs
import HandS.ExcField
import PySem.Challenge.RW_calmhouse_k62_least_presses
set_option Elab.async false
set_option linter.all false
set_option maxRecDepth 100000
set_option maxHeartbeats 4000000
/-! VS1: plain data trees, how they stand in the abstract heap, who owns what. -/
namespace VS
open PySem PySem.Spec L2
/-- said by computing, but no step for dsimp -/
theorem eqr {α : Sort _} {a b : α} (h : a = b) : a = b := h

inductive D where
  | non
  | bl (b : Bool)
  | int (i : Int)
  | str (s : Str)
  | tup (xs : List D)
  | lst (xs : List D)
  | dct (ks : List Key) (vs : List D)
  | dcT (ks : List (List Key)) (vs : List D)
  | ins (c : Str) (fs : List Str) (vs : List D)
  | exn (c : Str) (fs : List Str) (vs : List D)
  | scr (xs : List D)

abbrev Pz := Addr → Prop
/-- a list, a tuple that stays as it is for ever: its cell is in Z, or an object of the module -/
def FzL (K : PySem.W.Frag) (Z : Pz) (H : Hp) (a : Addr) (xs : List V) : Prop :=
  (Z a ∧ Rd H a (.lst xs)) ∨
    ∃ (o : Obj) (its : Array Value) (n : Nat), K.lookup a = some o ∧ o.cls = .type "list" ∧ o.dict = none ∧ o.data = .seq its n ∧ its.size ≤ sizeLine ∧ Vals xs its.toList
def FzT (K : PySem.W.Frag) (Z : Pz) (H : Hp) (a : Addr) (xs : List V) : Prop :=
  (Z a ∧ Rd H a (.tup xs)) ∨
    ∃ (o : Obj) (its : Array Value) (n : Nat), K.lookup a = some o ∧ o.cls = .type "tuple" ∧ o.data = .seq its n ∧ its.size ≤ sizeLine ∧ Vals xs its.toList

/-- the class c of the module lies at C -/
def ClsAt (K : PySem.W.Frag) (c : Str) (C : Addr) : Prop := PySem.W.nsIn K mainGlobals c = some (some (.ref C))
section
variable (K : PySem.W.Frag)
mutual
/-- the value v is the tree d; the cells of its upper k floors are owned: they stand in the list -/
inductive Rp (Z : Pz) (H : Hp) : V → D → Nat → List Addr → Prop
  | non (k : Nat) : Rp Z H .non .non k []
  | bl (b : Bool) (k : Nat) : Rp Z H (.bl b) (.bl b) k []
  | int (i : Int) (k : Nat) : Rp Z H (.int i) (.int i) k []
  | str (x : Str) (k : Nat) : Rp Z H (.str x) (.str x) k []
  | tup {a : Addr} {xs : List V} {ds : List D} (k : Nat) : Z a → H a = some (.tup xs) → RpAll Z H xs ds 0 [] → Rp Z H (.ref a) (.tup ds) k []
  | lst0 {a : Addr} {xs : List V} {ds : List D} : Z a → H a = some (.lst xs) → RpAll Z H xs ds 0 [] → Rp Z H (.ref a) (.lst ds) 0 []
  | scr {a : Addr} {xs : List V} {ds : List D} (k : Nat) : (FzL K Z H a xs ∨ FzT K Z H a xs) → RpAll Z H xs ds 0 [] → Rp Z H (.ref a) (.scr ds) k []
  | lstS {a : Addr} {xs : List V} {ds : List D} {k : Nat} {o : List Addr} : H a = some (.lst xs) → RpAll Z H xs ds k o → Rp Z H (.ref a) (.lst ds) (k + 1) (a :: o)
  | dct0 {a : Addr} {ks : List Key} {xs : List V} {ds : List D} : Z a → H a = some (.dK (ks.zip xs)) → ks.length = xs.length → RpAll Z H xs ds 0 [] → Rp Z H (.ref a) (.dct ks ds) 0 []
  | dctS {a : Addr} {ks : List Key} {xs : List V} {ds : List D} {k : Nat} {o : List Addr} : H a = some (.dK (ks.zip xs)) → ks.length = xs.length → RpAll Z H xs ds k o → Rp Z H (.ref a) (.dct ks ds) (k + 1) (a :: o)
  | dcT0 {a : Addr} {ks : List (List Key)} {xs : List V} {ds : List D} : Z a → H a = some (.dT (ks.zip xs)) → ks.length = xs.length → RpAll Z H xs ds 0 [] → Rp Z H (.ref a) (.dcT ks ds) 0 []
  | dcTS {a : Addr} {ks : List (List Key)} {xs : List V} {ds : List D} {k : Nat} {o : List Addr} : H a = some (.dT (ks.zip xs)) → ks.length = xs.length → RpAll Z H xs ds k o → Rp Z H (.ref a) (.dcT ks ds) (k + 1) (a :: o)
  | ins0 {a C dx : Addr} {c : Str} {fs : List Str} {xs : List V} {ds : List D} : Z a → Z dx → H a = some (.ins C dx (fs.zip xs)) → H dx = some (.own a) → fs.length = xs.length → ClsAt K c C → RpAll Z H xs ds 0 [] → Rp Z H (.ref a) (.ins c fs ds) 0 []
  | insS {a C dx : Addr} {c : Str} {fs : List Str} {xs : List V} {ds : List D} {k : Nat} {o : List Addr} : H a = some (.ins C dx (fs.zip xs)) → H dx = some (.own a) → fs.length = xs.length → ClsAt K c C → RpAll Z H xs ds k o → Rp Z H (.ref a) (.ins c fs ds) (k + 1) (a :: dx :: o)
  | exn {a C : Addr} {c : Str} {oe : Obj} {u : HO} {ws : Array Value} (k : Nat) : Z a → H a = some (.frz oe u) → oe.cls = .ref C → oe.dict = none → oe.data = .fields ws → ClsAt K c C → Rp Z H (.ref a) (.exn c [] []) k []
  | exnD {a C dx : Addr} {c f : Str} {oe : Obj} {u : HO} {ws : Array Value} {v : V} {d : D} (k : Nat) : Z a → Z dx → H a = some (.frz oe u) → oe.cls = .ref C → oe.dict = some dx → oe.data = .fields ws → H dx = some (.xd [(f, v)]) → ClsAt K c C → RpAll Z H [v] [d] 0 [] → Rp Z H (.ref a) (.exn c [f] [d]) k []
inductive RpAll (Z : Pz) (H : Hp) : List V → List D → Nat → List Addr → Prop
  | nil (k : Nat) : RpAll Z H [] [] k []
  | cons {v : V} {d : D} {vs : List V} {ds : List D} {k : Nat} {o p : List Addr} : Rp Z H v d k o → RpAll Z H vs ds k p → RpAll Z H (v :: vs) (d :: ds) k (o ++ p)
end
end

section
variable {K : PySem.W.Frag} {Z Z' F F' : Pz} {H H' : Hp}
theorem FzL.keep {a : Addr} {xs : List V} (h : FzL K Z H a xs) (hz : ∀ a, Z a → Z' a ∧ H' a = H a) : FzL K Z' H' a xs := by
  rcases h with ⟨z, r⟩ | h
  · obtain ⟨z', e⟩ := hz a z
    refine .inl ⟨z', ?_⟩
    rcases r with r | ⟨o, r⟩
    · exact .inl (e.trans r)
    · exact .inr ⟨o, e.trans r⟩
  · exact .inr h
theorem FzT.keep {a : Addr} {xs : List V} (h : FzT K Z H a xs) (hz : ∀ a, Z a → Z' a ∧ H' a = H a) : FzT K Z' H' a xs := by
  rcases h with ⟨z, r⟩ | h
  · obtain ⟨z', e⟩ := hz a z
    refine .inl ⟨z', ?_⟩
    rcases r with r | ⟨o, r⟩
    · exact .inl (e.trans r)
    · exact .inr ⟨o, e.trans r⟩
  · exact .inr h
theorem FzL.sq {a : Addr} {xs : List V} (h : FzL K Z H a xs) : SqL K H a xs := by
  rcases h with ⟨_, r⟩ | h
  · exact .inl r
  · exact .inr h
theorem FzT.sq {a : Addr} {xs : List V} (h : FzT K Z H a xs) : SqT K H a xs := by
  rcases h with ⟨_, r⟩ | h
  · exact .inl r
  · exact .inr h
mutual
theorem Rp.keep {v : V} {d : D} {k : Nat} {o : List Addr} (hz : ∀ a, Z a → Z' a ∧ H' a = H a) (ho : ∀ a ∈ o, H' a = H a) : Rp K Z H v d k o → Rp K Z' H' v d k o
  | .non k => .non k
  | .bl b k => .bl b k
  | .int i k => .int i k
  | .str x k => .str x k
  | .tup k z h r => .tup k (hz _ z).1 ((hz _ z).2.trans h) (RpAll.keep hz (fun _ z => nomatch z) r)
  | .lst0 z h r => .lst0 (hz _ z).1 ((hz _ z).2.trans h) (RpAll.keep hz (fun _ z => nomatch z) r)
  | .scr k h r => .scr k (h.elim (fun h => .inl (h.keep hz)) fun h => .inr (h.keep hz)) (RpAll.keep hz (fun _ z => nomatch z) r)
  | .lstS h r => .lstS ((ho _ List.mem_cons_self).trans h) (RpAll.keep hz (fun a m => ho a (List.mem_cons_of_mem _ m)) r)
  | .dct0 z h l r => .dct0 (hz _ z).1 ((hz _ z).2.trans h) l (RpAll.keep hz (fun _ z => nomatch z) r)
  | .dctS h l r => .dctS ((ho _ List.mem_cons_self).trans h) l (RpAll.keep hz (fun a m => ho a (List.mem_cons_of_mem _ m)) r)
  | .dcT0 z h l r => .dcT0 (hz _ z).1 ((hz _ z).2.trans h) l (RpAll.keep hz (fun _ z => nomatch z) r)
  | .dcTS h l r => .dcTS ((ho _ List.mem_cons_self).trans h) l (RpAll.keep hz (fun a m => ho a (List.mem_cons_of_mem _ m)) r)
  | .ins0 z z2 h h2 l c r => .ins0 (hz _ z).1 (hz _ z2).1 ((hz _ z).2.trans h) ((hz _ z2).2.trans h2) l c (RpAll.keep hz (fun _ z => nomatch z) r)
  | .insS h h2 l c r => .insS ((ho _ List.mem_cons_self).trans h) ((ho _ (List.mem_cons_of_mem _ List.mem_cons_self)).trans h2) l c (RpAll.keep hz (fun a m => ho a (List.mem_cons_of_mem _ (List.mem_cons_of_mem _ m))) r)
  | .exn k z h h1 h2 h3 h4 => .exn k (hz _ z).1 ((hz _ z).2.trans h) h1 h2 h3 h4
  | .exnD k z z2 h h1 h2 h3 h4 h5 r => .exnD k (hz _ z).1 (hz _ z2).1 ((hz _ z).2.trans h) h1 h2 h3 ((hz _ z2).2.trans h4) h5 (RpAll.keep hz (fun _ z => nomatch z) r)
theorem RpAll.keep {vs : List V} {ds : List D} {k : Nat} {o : List Addr} (hz : ∀ a, Z a → Z' a ∧ H' a = H a) (ho : ∀ a ∈ o, H' a = H a) : RpAll K Z H vs ds k o → RpAll K Z' H' vs ds k o
  | .nil k => .nil k
  | .cons h r => .cons (Rp.keep hz (fun a m => ho a (List.mem_append_left _ m)) h) (RpAll.keep hz (fun a m => ho a (List.mem_append_right _ m)) r)
end
mutual
/-- what is owned is frozen -/
theorem Rp.freeze {v : V} {d : D} {k : Nat} {o : List Addr} (hz : ∀ a, Z a → Z' a) (ho : ∀ a ∈ o, Z' a) : Rp K Z H v d k o → Rp K Z' H v d 0 []
  | .non k => .non 0
  | .bl b k => .bl b 0
  | .int i k => .int i 0
  | .str x k => .str x 0
  | .tup k z h r => .tup 0 (hz _ z) h (RpAll.freeze hz (fun _ z => absurd z List.not_mem_nil) r)
  | .lst0 z h r => .lst0 (hz _ z) h (RpAll.freeze hz (fun _ z => absurd z List.not_mem_nil) r)
  | .scr k h r => .scr 0 (h.elim (fun h => .inl (h.keep fun a z => ⟨hz a z, rfl⟩)) fun h => .inr (h.keep fun a z => ⟨hz a z, rfl⟩)) (RpAll.freeze hz (fun _ z => absurd z List.not_mem_nil) r)
  | .lstS h r => .lst0 (ho _ List.mem_cons_self) h (RpAll.freeze hz (fun a m => ho a (List.mem_cons_of_mem _ m)) r)
  | .dct0 z h l r => .dct0 (hz _ z) h l (RpAll.freeze hz (fun _ z => absurd z List.not_mem_nil) r)
  | .dctS h l r => .dct0 (ho _ List.mem_cons_self) h l (RpAll.freeze hz (fun a m => ho a (List.mem_cons_of_mem _ m)) r)
  | .dcT0 z h l r => .dcT0 (hz _ z) h l (RpAll.freeze hz (fun _ z => absurd z List.not_mem_nil) r)
  | .dcTS h l r => .dcT0 (ho _ List.mem_cons_self) h l (RpAll.freeze hz (fun a m => ho a (List.mem_cons_of_mem _ m)) r)
  | .ins0 z z2 h h2 l c r => .ins0 (hz _ z) (hz _ z2) h h2 l c (RpAll.freeze hz (fun _ z => absurd z List.not_mem_nil) r)
  | .insS h h2 l c r => .ins0 (ho _ List.mem_cons_self) (ho _ (List.mem_cons_of_mem _ List.mem_cons_self)) h h2 l c (RpAll.freeze hz (fun a m => ho a (List.mem_cons_of_mem _ (List.mem_cons_of_mem _ m))) r)
  | .exn k z h h1 h2 h3 h4 => .exn 0 (hz _ z) h h1 h2 h3 h4
  | .exnD k z z2 h h1 h2 h3 h4 h5 r => .exnD 0 (hz _ z) (hz _ z2) h h1 h2 h3 h4 h5 (RpAll.freeze hz (fun _ z => absurd z List.not_mem_nil) r)
theorem RpAll.freeze {vs : List V} {ds : List D} {k : Nat} {o : List Addr} (hz : ∀ a, Z a → Z' a) (ho : ∀ a ∈ o, Z' a) : RpAll K Z H vs ds k o → RpAll K Z' H vs ds 0 []
  | .nil k => .nil 0
  | .cons h r => .cons (o := []) (p := []) (Rp.freeze hz (fun a m => ho a (List.mem_append_left _ m)) h) (RpAll.freeze hz (fun a m => ho a (List.mem_append_right _ m)) r)
end
theorem RpAll.length {vs : List V} {ds : List D} {k : Nat} {o : List Addr} : RpAll K Z H vs ds k o → vs.length = ds.length
  | .nil k => rfl
  | .cons h r => by rw [List.length_cons, List.length_cons, RpAll.length r]
theorem RpAll.nil0 {vs : List V} {ds : List D} {o : List Addr} (h : RpAll K Z H vs ds 0 o) : o = [] := by
  have hR : ∀ {v : V} {d : D} {o : List Addr}, Rp K Z H v d 0 o → o = [] := fun h => by cases h <;> rfl
  induction vs generalizing ds o with
  | nil => cases h; rfl
  | cons v vs ih =>
    cases h with
    | cons h1 h2 => rw [hR h1, ih h2]; rfl
theorem Rp.nil0 {v : V} {d : D} {o : List Addr} (h : Rp K Z H v d 0 o) : o = [] := by cases h <;> rfl

/-! ### the state: what is frozen (Z), what is somebody else's (F) -/
structure Ok0 (Z F : Pz) (H : Hp) : Prop where
  z : ∀ a, Z a → ∃ o, H a = some o
  f : ∀ a, F a → (∃ o, H a = some o) ∧ ¬ Z a
structure Ext (F Z : Pz) (H : Hp) (Z' : Pz) (H' : Hp) : Prop where
  z : ∀ a, Z a → Z' a ∧ H' a = H a
  f : ∀ a, F a → H' a = H a
theorem Ext.refl : Ext F Z H Z H := ⟨fun _ z => ⟨z, rfl⟩, fun _ _ => rfl⟩
theorem Ext.trans {Z2 : Pz} {H2 : Hp} (a : Ext F Z H Z' H') (b : Ext F Z' H' Z2 H2) : Ext F Z H Z2 H2 :=
  ⟨fun x z => ⟨(b.z x (a.z x z).1).1, (b.z x (a.z x z).1).2.trans (a.z x z).2⟩, fun x f => (b.f x f).trans (a.f x f)⟩
theorem Ext.mono (a : Ext F Z H Z' H') (h : ∀ x, F' x → F x) : Ext F' Z H Z' H' := ⟨a.z, fun x f => a.f x (h x f)⟩
abbrev uni (F : Pz) (o : List Addr) : Pz := fun a => F a ∨ a ∈ o

abbrev SD := List (Option (D × Nat))
inductive Slots (K : PySem.W.Frag) (Z : Pz) (H : Hp) : St → SD → List Addr → Prop
  | nil : Slots K Z H [] [] []
  | skip {x : Option V} {σ : St} {sd : SD} {o : List Addr} : Slots K Z H σ sd o → Slots K Z H (x :: σ) (none :: sd) o
  | cons {v : V} {d : D} {k : Nat} {σ : St} {sd : SD} {o p : List Addr} : Rp K Z H v d k o → Slots K Z H σ sd p → Slots K Z H (some v :: σ) (some (d, k) :: sd) (o ++ p)
theorem Slots.keep {σ : St} {sd : SD} {o : List Addr} (hz : ∀ a, Z a → Z' a ∧ H' a = H a) (h : Slots K Z H σ sd o) (ho : ∀ a ∈ o, H' a = H a) : Slots K Z' H' σ sd o := by
  induction h with
  | nil => exact .nil
  | skip _ ih => exact .skip (ih ho)
  | cons r _ ih => exact .cons (r.keep hz fun a m => ho a (List.mem_append_left _ m)) (ih fun a m => ho a (List.mem_append_right _ m))
theorem Slots.length {σ : St} {sd : SD} {o : List Addr} (h : Slots K Z H σ sd o) : σ.length = sd.length := by
  induction h with
  | nil => rfl
  | skip _ ih => rw [List.length_cons, List.length_cons, ih]
  | cons _ _ ih => rw [List.length_cons, List.length_cons, ih]
/-- entry i, and the rest without it -/
theorem Slots.take {σ : St} {sd : SD} {o : List Addr} {i : Nat} {d : D} {k : Nat} (h : Slots K Z H σ sd o) (e : sd[i]? = some (some (d, k))) :
    ∃ v p q, σ[i]? = some (some v) ∧ Rp K Z H v d k p ∧ Slots K Z H σ (sd.set i none) q ∧ (p ++ q).Perm o := by
  induction h generalizing i with
  | nil => cases e
  | @skip x σ sd o h ih =>
    cases i with
    | zero => cases e
    | succ i =>
      obtain ⟨v, p, q, e1, r, s, pm⟩ := ih e
      exact ⟨v, p, q, e1, r, .skip s, pm⟩
  | @cons v d' k' σ sd o p r h ih =>
    cases i with
    | zero =>
      cases e
      exact ⟨v, o, p, rfl, r, .skip h, .refl _⟩
    | succ i =>
      obtain ⟨v', p', q', e1, r', s, pm⟩ := ih e
      refine ⟨v', p', o ++ q', e1, r', .cons r s, ?_⟩
      have e2 : (p' ++ (o ++ q')).Perm (o ++ (p' ++ q')) := by
        rw [← List.append_assoc, ← List.append_assoc]
        exact List.Perm.append_right q' List.perm_append_comm
      exact e2.trans (List.Perm.append_left o pm)
/-- entry i is forgotten -/
theorem Slots.drop {σ : St} {sd : SD} {o : List Addr} (i : Nat) (h : Slots K Z H σ sd o) : ∃ q, Slots K Z H σ (sd.set i none) q ∧ (∀ a ∈ q, a ∈ o) ∧ (o.Nodup → q.Nodup) := by
  induction h generalizing i with
  | nil => exact ⟨[], .nil, fun _ z => z, fun z => z⟩
  | @skip x σ sd o h ih =>
    cases i with
    | zero => exact ⟨o, .skip h, fun _ z => z, fun z => z⟩
    | succ i =>
      obtain ⟨q, s, m, n⟩ := ih i
      exact ⟨q, .skip s, m, n⟩
  | @cons v d' k' σ sd o p r h ih =>
    cases i with
    | zero => exact ⟨p, .skip h, fun a m => List.mem_append_right _ m, fun n => (List.nodup_append.mp n).2.1⟩
    | succ i =>
      obtain ⟨q, s, m, n⟩ := ih i
      refine ⟨o ++ q, .cons r s, fun a z => ?_, fun z => ?_⟩
      · rcases List.mem_append.mp z with z | z
        · exact List.mem_append_left _ z
        · exact List.mem_append_right _ (m a z)
      · obtain ⟨n1, n2, n3⟩ := List.nodup_append.mp z
        exact List.nodup_append.mpr ⟨n1, n n2, fun a ha b hb => n3 a ha b (m b hb)⟩
/-- an entry is put where none stood -/
theorem Slots.put {σ : St} {sd : SD} {o p : List Addr} {i : Nat} {v : V} {d : D} {k : Nat} (h : Slots K Z H σ sd o) (r : Rp K Z H v d k p) (hi : sd[i]? = some none) :
    ∃ q, Slots K Z H (σ.set i (some v)) (sd.set i (some (d, k))) q ∧ (p ++ o).Perm q := by
  induction h generalizing i with
  | nil => cases hi
  | @skip x σ sd o h ih =>
    cases i with
    | zero => exact ⟨p ++ o, .cons r h, .refl _⟩
    | succ i =>
      obtain ⟨q, s, pm⟩ := ih hi
      exact ⟨q, .skip s, pm⟩
  | @cons v' d' k' σ sd o p' r' h ih =>
    cases i with
    | zero => cases hi
    | succ i =>
      obtain ⟨q, s, pm⟩ := ih hi
      refine ⟨o ++ q, .cons r' s, ?_⟩
      have e2 : (p ++ (o ++ p')).Perm (o ++ (p ++ p')) := by
        rw [← List.append_assoc, ← List.append_assoc]
        exact List.Perm.append_right p' List.perm_append_comm
      exact e2.trans (List.Perm.append_left o pm)

structure Ok (K : PySem.W.Frag) (Z F : Pz) (H : Hp) (σ : St) (sd : SD) : Prop where
  ex : ∃ o, Slots K Z H σ sd o ∧ o.Nodup ∧ (∀ a ∈ o, ¬ F a) ∧ Ok0 Z (uni F o) H
theorem Ok.base {σ : St} {sd : SD} (h : Ok K Z F H σ sd) : Ok0 Z F H := by
  obtain ⟨o, _, _, _, b⟩ := h.ex
  exact ⟨b.z, fun a f => b.f a (.inl f)⟩
theorem Ok.length {σ : St} {sd : SD} (h : Ok K Z F H σ sd) : σ.length = sd.length := by
  obtain ⟨o, s, _⟩ := h.ex
  exact s.length
/-- entry i is taken out: it is the frame's now -/
theorem Ok.take {σ : St} {sd : SD} {i : Nat} {d : D} {k : Nat} (h : Ok K Z F H σ sd) (e : sd[i]? = some (some (d, k))) :
    ∃ v p, σ[i]? = some (some v) ∧ Rp K Z H v d k p ∧ p.Nodup ∧ (∀ a ∈ p, ¬ F a) ∧ Ok K Z (uni F p) H σ (sd.set i none) := by
  obtain ⟨o, s, nd, nf, b⟩ := h.ex
  obtain ⟨v, p, q, e1, r, s', pm⟩ := s.take e
  have nd' := pm.nodup_iff.mpr nd
  obtain ⟨n1, n2, n3⟩ := List.nodup_append.mp nd'
  have mem : ∀ a, a ∈ o ↔ a ∈ p ∨ a ∈ q := fun a => by rw [← List.mem_append]; exact pm.mem_iff.symm
  refine ⟨v, p, e1, r, n1, fun a m => nf a ((mem a).mpr (.inl m)), ⟨q, s', n2, fun a m z => ?_, b.z, fun a f => b.f a ?_⟩⟩
  · rcases z with z | z
    · exact nf a ((mem a).mpr (.inr m)) z
    · exact n3 a z a m rfl
  · rcases f with (f | f) | f
    · exact .inl f
    · exact .inr ((mem a).mpr (.inl f))
    · exact .inr ((mem a).mpr (.inr f))
/-- what the frame holds is put into slot i -/
theorem Ok.put {σ : St} {sd : SD} {i : Nat} {v : V} {d : D} {k : Nat} {p : List Addr} (h : Ok K Z (uni F p) H σ sd) (r : Rp K Z H v d k p) (nd : p.Nodup) (nf : ∀ a ∈ p, ¬ F a) (hi : i < sd.length) :
    Ok K Z F H (σ.set i (some v)) (sd.set i (some (d, k))) := by
  obtain ⟨o, s, nd1, nf1, b⟩ := h.ex
  obtain ⟨o2, s2, m2, nd2⟩ := s.drop i
  have hi2 : (sd.set i none)[i]? = some none := by rw [List.getElem?_set_self hi]
  obtain ⟨q, s3, pm⟩ := s2.put r hi2
  rw [List.set_set] at s3
  refine ⟨q, s3, pm.nodup_iff.mp (List.nodup_append.mpr ⟨nd, nd2 nd1, fun a ha b hb e => ?_⟩), fun a m => ?_, b.z, fun a f => b.f a ?_⟩
  · subst e
    exact nf1 a (m2 a hb) (.inr ha)
  · rcases List.mem_append.mp (pm.mem_iff.mpr m) with m | m
    · exact nf a m
    · exact fun z => nf1 a (m2 a m) (.inl z)
  · rcases f with f | f
    · exact .inl (.inl f)
    · rcases List.mem_append.mp (pm.mem_iff.mpr f) with m | m
      · exact .inl (.inr m)
      · exact .inr (m2 a m)
/-- the same, the slot's name too is as before (an entry comes back) -/
theorem Ok.back {σ : St} {sd : SD} {i : Nat} {v : V} {d : D} {k : Nat} {p : List Addr} (h : Ok K Z (uni F p) H σ sd) (r : Rp K Z H v d k p) (nd : p.Nodup) (nf : ∀ a ∈ p, ¬ F a) (hi : σ[i]? = some (some v)) :
    Ok K Z F H σ (sd.set i (some (d, k))) := by
  have hl : i < σ.length := (List.getElem?_eq_some_iff.mp hi).1
  have q := h.put r nd nf (by rw [← h.length]; exact hl)
  have e : σ.set i (some v) = σ := by
    obtain ⟨hi1, hi2⟩ := List.getElem?_eq_some_iff.mp hi
    rw [← hi2]
    exact List.set_getElem_self hi1
  rw [e] at q
  exact q
theorem Ok.forget {σ : St} {sd : SD} (i : Nat) (h : Ok K Z F H σ sd) : Ok K Z F H σ (sd.set i none) := by
  obtain ⟨o, s, nd, nf, b⟩ := h.ex
  obtain ⟨q, s2, m2, nd2⟩ := s.drop i
  exact ⟨q, s2, nd2 nd, fun a m => nf a (m2 a m), b.z, fun a f => b.f a (f.elim .inl fun m => .inr (m2 a m))⟩
/-- the world went on, the frame and what is frozen stand -/
theorem Ok.ext {σ : St} {sd : SD} (h : Ok K Z F H σ sd) : ∃ o, (∀ a ∈ o, ¬ F a) ∧ Ok0 Z (uni F o) H ∧ ∀ {Z' H' F'}, Ext (uni F o) Z H Z' H' → (∀ a ∈ o, ¬ F' a) → Ok0 Z' (uni F' o) H' → Ok K Z' F' H' σ sd := by
  obtain ⟨o, s, nd, nf, b⟩ := h.ex
  exact ⟨o, nf, b, fun x nf' b' => ⟨o, s.keep x.z fun a m => x.f a (.inr m), nd, nf', b'⟩⟩
/-- what the frame holds at p is frozen -/
theorem Ok.freeze {σ : St} {sd : SD} {p : List Addr} (h : Ok K Z (uni F p) H σ sd) (nf : ∀ a ∈ p, ¬ F a) : Ok K (uni Z p) F H σ sd := by
  obtain ⟨o, s, nd, nf1, b⟩ := h.ex
  refine ⟨o, s.keep (fun a z => ⟨.inl z, rfl⟩) fun _ _ => rfl, nd, fun a m z => nf1 a m (.inl z), fun a z => ?_, fun a f => ?_⟩
  · rcases z with z | z
    · exact b.z a z
    · exact (b.f a (.inl (.inr z))).1
  · rcases f with f | f
    · refine ⟨(b.f a (.inl (.inl f))).1, fun z => ?_⟩
      rcases z with z | z
      · exact (b.f a (.inl (.inl f))).2 z
      · exact nf a z f
    · refine ⟨(b.f a (.inr f)).1, fun z => ?_⟩
      rcases z with z | z
      · exact (b.f a (.inr f)).2 z
      · exact nf1 a f (.inr z)
theorem Ext.uni {p : List Addr} : Ext F Z H (VS.uni Z p) H := ⟨fun _ z => ⟨.inl z, rfl⟩, fun _ _ => rfl⟩
/-- the frame is made smaller -/
theorem Ok.less {σ : St} {sd : SD} (h : Ok K Z F H σ sd) (hf : ∀ a, F' a → F a) : Ok K Z F' H σ sd := by
  obtain ⟨o, s, nd, nf, b⟩ := h.ex
  exact ⟨o, s, nd, fun a m z => nf a m (hf a z), b.z, fun a f => b.f a (f.elim (fun z => .inl (hf a z)) .inr)⟩
/-- a new cell, the frame's -/
theorem Ok.new {σ : St} {sd : SD} {p : Addr} {o : HO} (h : Ok K Z F H σ sd) (hp : H p = none) : Ok K Z (uni F [p]) (upd H p o) σ sd ∧ Ext F Z H Z (upd H p o) ∧ ¬ F p ∧ ¬ Z p := by
  obtain ⟨ow, s, nd, nf, b⟩ := h.ex
  have hz : ¬ Z p := fun z => by
    obtain ⟨o, e⟩ := b.z p z
    rw [hp] at e; cases e
  have hf : ¬ (VS.uni F ow) p := fun z => by
    obtain ⟨⟨o, e⟩, _⟩ := b.f p z
    rw [hp] at e; cases e
  have kz : ∀ a, Z a → Z a ∧ upd H p o a = H a := fun a z => ⟨z, upd_ne fun e => hz (e ▸ z)⟩
  refine ⟨⟨ow, s.keep kz (fun a m => upd_ne fun e => hf (.inr (e ▸ m))), nd, fun a m z => ?_, fun a z => ?_, fun a f => ?_⟩, ⟨kz, fun a f => upd_ne fun e => hf (.inl (e ▸ f))⟩, fun z => hf (.inl z), hz⟩
  · rcases z with z | z
    · exact nf a m z
    · rw [List.mem_singleton] at z
      exact hf (.inr (z ▸ m))
  · rw [(kz a z).2]; exact b.z a z
  · by_cases e : a = p
    · rw [e]
      exact ⟨⟨o, upd_same⟩, hz⟩
    · rw [upd_ne e]
      refine b.f a ?_
      rcases f with (f | f) | f
      · exact .inl f
      · rw [List.mem_singleton] at f
        exact absurd f e
      · exact .inr f
/-- a cell of the frame's changes -/
theorem Ok.write {σ : St} {sd : SD} {p : Addr} {o : HO} (h : Ok K Z F H σ sd) (hp : F p) : Ok K Z F (upd H p o) σ sd ∧ ∀ a, Z a → Z a ∧ upd H p o a = H a := by
  obtain ⟨ow, s, nd, nf, b⟩ := h.ex
  have hz : ¬ Z p := (b.f p (.inl hp)).2
  have kz : ∀ a, Z a → Z a ∧ upd H p o a = H a := fun a z => ⟨z, upd_ne fun e => hz (e ▸ z)⟩
  refine ⟨⟨ow, s.keep kz (fun a m => upd_ne fun e => nf a m (e ▸ hp)), nd, nf, fun a z => ?_, fun a f => ?_⟩, kz⟩
  · rw [(kz a z).2]; exact b.z a z
  · by_cases e : a = p
    · rw [e]
      exact ⟨⟨o, upd_same⟩, hz⟩
    · rw [upd_ne e]
      exact b.f a f
end
end VS
/-! VS2: expressions: what they give on plain data, and that the model's run gives the same. -/
namespace VS
open PySem PySem.Spec L2

/-! ### the semantics on plain data -/
structure Exn where
  cls : Str
  fld : Option (Str × D)
inductive R (α : Type) where
  | ok (a : α) (sd : SD)
  | exc (x : Exn) (sd : SD)
  | stuck
abbrev Ev := SD → R (D × Nat)
abbrev Ea := SD → R (List D)
abbrev Et := SD → R Bool
def R.bind {α β : Type} (r : R α) (g : α → SD → R β) : R β := match r with
  | .ok a sd => g a sd
  | .exc x sd => .exc x sd
  | .stuck => .stuck
@[simp] theorem R.bind_ok {α β : Type} (a : α) (sd : SD) (g : α → SD → R β) : (R.ok a sd).bind g = g a sd := eqr rfl
@[simp] theorem R.bind_exc {α β : Type} (x : Exn) (sd : SD) (g : α → SD → R β) : (R.exc x sd : R α).bind g = .exc x sd := eqr rfl
@[simp] theorem R.bind_stuck {α β : Type} (g : α → SD → R β) : (R.stuck : R α).bind g = .stuck := eqr rfl
def lift {α : Type} (o : Option α) (sd : SD) : R α := match o with
  | some a => .ok a sd
  | none => .stuck
@[simp] theorem lift_some {α : Type} (a : α) (sd : SD) : lift (some a) sd = .ok a sd := eqr rfl
@[simp] theorem lift_none {α : Type} (sd : SD) : lift (none : Option α) sd = .stuck := eqr rfl
def cst (d : D) : Ev := fun sd => .ok (d, 0) sd
/-- a name's value, frozen from now on -/
def rdv (i : Nat) : Ev := fun sd => match sd[i]? with
  | some (some (d, _)) => .ok (d, 0) (sd.set i (some (d, 0)))
  | _ => .stuck
/-- a name's value, moved out -/
def mvv (i : Nat) : Ev := fun sd => match sd[i]? with
  | some (some w) => .ok w (sd.set i none)
  | _ => .stuck
def op1 (g : D → Option (D × Nat)) (f : Ev) : Ev := fun sd => (f sd).bind fun x sd1 => lift (g x.1) sd1
def op2 (g : D → D → Option (D × Nat)) (f1 f2 : Ev) : Ev := fun sd => (f1 sd).bind fun x sd1 => (f2 sd1).bind fun y sd2 => lift (g x.1 y.1) sd2
def opN (g : List D → Option (D × Nat)) (fs : Ea) : Ev := fun sd => (fs sd).bind fun xs sd1 => lift (g xs) sd1
def tst (f : Ev) : Et := fun sd => (f sd).bind fun x sd1 => match x.1 with
  | .bl b => .ok b sd1
  | _ => .stuck
def tv (f : Et) : Ev := fun sd => (f sd).bind fun b sd1 => .ok (.bl b, 0) sd1
def tAnd' (f g : Et) : Et := fun sd => (f sd).bind fun b sd1 => if b then g sd1 else .ok false sd1
def tOr' (f g : Et) : Et := fun sd => (f sd).bind fun b sd1 => if b then .ok true sd1 else g sd1
def tNot' (f : Et) : Et := fun sd => (f sd).bind fun b sd1 => .ok (!b) sd1
def chn (g g' : D → D → Option (D × Nat)) (f1 f2 f3 : Ev) : Et := fun sd => (f1 sd).bind fun x sd1 => (f2 sd1).bind fun y sd2 => match g x.1 y.1 with
  | some (.bl true, _) => (f3 sd2).bind fun z sd3 => match g' y.1 z.1 with
    | some (.bl b, _) => .ok b sd3
    | _ => .stuck
  | some (.bl false, _) => .ok false sd2
  | _ => .stuck
def aNil : Ea := fun sd => .ok [] sd
def aCons (f : Ev) (fs : Ea) : Ea := fun sd => (f sd).bind fun x sd1 => (fs sd1).bind fun xs sd2 => .ok (x.1 :: xs) sd2

/-! ### what the run promises -/
/-- a fresh piece of heap: all that was tracked stands; what is newly frozen, newly owned was free -/
structure Gr (Z : Pz) (H : Hp) (Z' : Pz) (H' : Hp) (o : List Addr) : Prop where
  keep : ∀ a u, H a = some u → H' a = some u
  zz : ∀ a, Z a → Z' a
  zn : ∀ a, Z' a → Z a ∨ (H a = none ∧ ∃ u, H' a = some u)
  on : ∀ a ∈ o, H a = none ∧ (∃ u, H' a = some u) ∧ ¬ Z' a
  nd : o.Nodup
theorem Gr.refl {Z : Pz} {H : Hp} : Gr Z H Z H [] := ⟨fun _ _ e => e, fun _ z => z, fun _ z => .inl z, fun _ z => absurd z List.not_mem_nil, .nil⟩
section
variable {K : PySem.W.Frag} {Z Z' F F' : Pz} {H H' : Hp} {σ : St} {sd : SD} {o : List Addr}
theorem Gr.ext (g : Gr Z H Z' H' o) (h : Ok0 Z F H) : Ext F Z H Z' H' :=
  ⟨fun a z => ⟨g.zz a z, by obtain ⟨u, e⟩ := h.z a z; rw [g.keep a u e, e]⟩, fun a f => by obtain ⟨⟨u, e⟩, _⟩ := h.f a f; rw [g.keep a u e, e]⟩
theorem Gr.nf (g : Gr Z H Z' H' o) (h : Ok0 Z F H) : ∀ a ∈ o, ¬ F a := fun a m f => by
  obtain ⟨⟨u, e⟩, _⟩ := h.f a f
  rw [(g.on a m).1] at e; cases e
theorem Gr.ok0 (g : Gr Z H Z' H' o) (h : Ok0 Z F H) : Ok0 Z' (uni F o) H' := by
  refine ⟨fun a z => ?_, fun a f => ?_⟩
  · rcases g.zn a z with z | ⟨_, e⟩
    · obtain ⟨u, e⟩ := h.z a z
      exact ⟨u, g.keep a u e⟩
    · exact e
  · rcases f with f | f
    · obtain ⟨⟨u, e⟩, nz⟩ := h.f a f
      refine ⟨⟨u, g.keep a u e⟩, fun z => ?_⟩
      rcases g.zn a z with z | ⟨z, _⟩
      · exact nz z
      · rw [z] at e; cases e
    · exact ⟨(g.on a f).2.1, (g.on a f).2.2⟩
theorem Gr.ok (g : Gr Z H Z' H' o) (h : Ok K Z F H σ sd) : Ok K Z' (uni F o) H' σ sd := by
  obtain ⟨w, s, nd, nf, b⟩ := h.ex
  have e := g.ext b
  have b' := g.ok0 b
  refine ⟨w, s.keep e.z fun a m => e.f a (.inr m), nd, fun a m z => ?_, b'.z, fun a f => b'.f a ?_⟩
  · rcases z with z | z
    · exact nf a m z
    · exact g.nf b a z (.inr m)
  · rcases f with (f | f) | f
    · exact .inl (.inl f)
    · exact .inr f
    · exact .inl (.inr f)
theorem Gr.cell {p : Addr} {u : HO} (h : ∀ a, Z a → ∃ o, H a = some o) (hp : H p = none) : Gr Z H Z (upd H p u) [p] := by
  refine ⟨fun a v e => ?_, fun _ z => z, fun _ z => .inl z, fun a m => ?_, by simp⟩
  · rw [upd_ne (ne_of_none e hp)]; exact e
  · rw [List.mem_singleton] at m
    subst m
    refine ⟨hp, ⟨u, upd_same⟩, fun z => ?_⟩
    obtain ⟨v, e⟩ := h a z
    rw [hp] at e; cases e
theorem Gr.fz {p : Addr} {u : HO} (hp : H p = none) : Gr Z H (fun a => Z a ∨ a = p) (upd H p u) [] := by
  refine ⟨fun a v e => ?_, fun _ z => .inl z, fun a z => ?_, fun a m => absurd m List.not_mem_nil, .nil⟩
  · rw [upd_ne (ne_of_none e hp)]; exact e
  · rcases z with z | z
    · exact .inl z
    · subst z
      exact .inr ⟨hp, u, upd_same⟩
theorem Gr.rp {v : V} {d : D} {p : List Addr} (g : Gr Z H Z' H' o) (hz : ∀ a, Z a → ∃ u, H a = some u) (r : Rp K Z H v d 0 p) : Rp K Z' H' v d 0 p := by
  cases r.nil0
  exact r.keep (fun a z => ⟨g.zz a z, by obtain ⟨u, e⟩ := hz a z; rw [g.keep a u e, e]⟩) fun a m => absurd m List.not_mem_nil
theorem Gr.rpAll {vs : List V} {ds : List D} {p : List Addr} (g : Gr Z H Z' H' o) (hz : ∀ a, Z a → ∃ u, H a = some u) (r : RpAll K Z H vs ds 0 p) : RpAll K Z' H' vs ds 0 p := by
  cases r.nil0
  exact r.keep (fun a z => ⟨g.zz a z, by obtain ⟨u, e⟩ := hz a z; rw [g.keep a u e, e]⟩) fun a m => absurd m List.not_mem_nil
end

abbrev Mg := Str → Option Value
/-- an exception as it lies behind the raise -/
def ExcAt (K : PySem.W.Frag) (mg : Mg) (Z : Pz) (H : Hp) (x : Exn) (c : Value) (dd : Option Addr) : Prop :=
  (∃ C, c = .ref C ∧ ClsAt K x.cls C) ∧ match x.fld with
    | none => dd = none
    | some (f, d) => ∃ a v, dd = some a ∧ Z a ∧ H a = some (.xd [(f, v)]) ∧ Rp K Z H v d 0 []
section
variable (K : PySem.W.Frag) (mg : Mg) (W : WX)
def excP (Z F : Pz) (σ : St) (H : Hp) (x : Exn) (sd' : SD) : Prop :=
  ∀ c dd Z' H', ExcAt K mg Z' H' x c dd → Ok K Z' F H' σ sd' → Ext F Z H Z' H' → W c dd σ H'
def eP (Z F : Pz) (σ : St) (H : Hp) (r : R (D × Nat)) (Q : VK) : Prop := match r with
  | .ok w sd' => ∀ v Z' H' o, Rp K Z' H' v w.1 w.2 o → o.Nodup → (∀ a ∈ o, ¬ F a) → Ok K Z' (uni F o) H' σ sd' → Ext F Z H Z' H' → Q v H'
  | .exc x sd' => excP K mg W Z F σ H x sd'
  | .stuck => False
def aP (Z F : Pz) (σ : St) (H : Hp) (r : R (List D)) (Q : List V → Hp → Prop) : Prop := match r with
  | .ok ds sd' => ∀ vs Z' H', RpAll K Z' H' vs ds 0 [] → Ok K Z' F H' σ sd' → Ext F Z H Z' H' → Q vs H'
  | .exc x sd' => excP K mg W Z F σ H x sd'
  | .stuck => False
def tP (Z F : Pz) (σ : St) (H : Hp) (r : R Bool) (Q : Bool → Hp → Prop) : Prop := match r with
  | .ok b sd' => ∀ Z' H', Ok K Z' F H' σ sd' → Ext F Z H Z' H' → Q b H'
  | .exc x sd' => excP K mg W Z F σ H x sd'
  | .stuck => False
def tE (f : Ev) : TE := fun σ H Q => ∃ Z F sd, Ok K Z F H σ sd ∧ eP K mg W Z F σ H (f sd) Q
def tA (f : Ea) : TA := fun σ H Q => ∃ Z F sd, Ok K Z F H σ sd ∧ aP K mg W Z F σ H (f sd) Q
def tT (f : Et) : TT := fun σ H Q => ∃ Z F sd, Ok K Z F H σ sd ∧ tP K mg W Z F σ H (f sd) Q
end
def SE (X : Cx) (W : WX) (e : Expr) (f : Ev) : Prop := PE X e (tE X.K X.mg W f)
def SA (X : Cx) (W : WX) (es : List Expr) (f : Ea) : Prop := PA X es (tA X.K X.mg W f)
def ST (X : Cx) (W : WX) (e : Expr) (f : Et) : Prop := PT X e (tT X.K X.mg W f)
def SW (X : Cx) (W : WX) (e : Expr) (f : Et) : Prop := PW X e (tT X.K X.mg W f)
theorem PE.imp {X : Cx} {e : Expr} {t t' : TE} (h : PE X e t) (w : ∀ σ H Q, t' σ H Q → t σ H Q) : PE X e t' := ⟨fun pins s σ H Q I q => h.run pins s σ H Q I (w σ H Q q)⟩
theorem PA.imp {X : Cx} {e : List Expr} {t t' : TA} (h : PA X e t) (w : ∀ σ H Q, t' σ H Q → t σ H Q) : PA X e t' := ⟨fun pos pins s σ H Q I q => h.run pos pins s σ H Q I (w σ H Q q)⟩
theorem PT.imp {X : Cx} {e : Expr} {t t' : TT} (h : PT X e t) (w : ∀ σ H Q, t' σ H Q → t σ H Q) : PT X e t' := ⟨fun pins s σ H Q I q => h.run pins s σ H Q I (w σ H Q q)⟩
theorem PW.imp {X : Cx} {e : Expr} {t t' : TT} (h : PW X e t) (w : ∀ σ H Q, t' σ H Q → t σ H Q) : PW X e t' := ⟨fun wh pins s σ H Q I q => h.run wh pins s σ H Q I (w σ H Q q)⟩

section
variable {K : PySem.W.Frag} {mg : Mg} {W : WX} {Z Z1 F : Pz} {H H1 : Hp} {σ : St}
theorem excP.go {x : Exn} {sd : SD} {o : List Addr} (h : excP K mg W Z F σ H x sd) (e : Ext F Z H Z1 H1) : excP K mg W Z1 (uni F o) σ H1 x sd :=
  fun c dd Z2 H2 a ok e2 => h c dd Z2 H2 a (ok.less fun _ z => .inl z) (e.trans (e2.mono fun _ z => .inl z))
theorem excP.go0 {x : Exn} {sd : SD} (h : excP K mg W Z F σ H x sd) (e : Ext F Z H Z1 H1) : excP K mg W Z1 F σ H1 x sd :=
  fun c dd Z2 H2 a ok e2 => h c dd Z2 H2 a ok (e.trans e2)
/-- THE SEQUENCE: an expression, then what its (frozen) value is wanted for -/
theorem eP.seq {f : Ev} {Q : VK} {sd : SD} {G : D → SD → Prop} (ok : Ok K Z F H σ sd)
    (hok : ∀ w sd1, f sd = .ok w sd1 → ∀ v Z1 H1, Rp K Z1 H1 v w.1 0 [] → Ok K Z1 F H1 σ sd1 → Ext F Z H Z1 H1 → Q v H1)
    (hex : ∀ x sd1, f sd = .exc x sd1 → excP K mg W Z F σ H x sd1) (hst : f sd = .stuck → False) : tE K mg W f σ H Q := by
  refine ⟨Z, F, sd, ok, ?_⟩
  cases e : f sd with
  | ok w sd1 =>
    intro v Z1 H1 o r nd nf ok1 x1
    exact hok w sd1 e v (uni Z1 o) H1 (r.freeze (fun _ z => .inl z) fun _ m => .inr m) (ok1.freeze nf) (x1.trans .uni)
  | exc x sd1 => exact hex x sd1 e
  | stuck => exact hst e
/-- .. its value with what it owns -/
theorem eP.seqO {f : Ev} {Q : VK} {sd : SD} (ok : Ok K Z F H σ sd)
    (hok : ∀ w sd1, f sd = .ok w sd1 → ∀ v Z1 H1 o, Rp K Z1 H1 v w.1 w.2 o → o.Nodup → (∀ a ∈ o, ¬ F a) → Ok K Z1 (uni F o) H1 σ sd1 → Ext F Z H Z1 H1 → Q v H1)
    (hex : ∀ x sd1, f sd = .exc x sd1 → excP K mg W Z F σ H x sd1) (hst : f sd = .stuck → False) : tE K mg W f σ H Q := by
  refine ⟨Z, F, sd, ok, ?_⟩
  cases e : f sd with
  | ok w sd1 => exact hok w sd1 e
  | exc x sd1 => exact hex x sd1 e
  | stuck => exact hst e
theorem aP.seq {f : Ea} {Q : List V → Hp → Prop} {sd : SD} (ok : Ok K Z F H σ sd)
    (hok : ∀ ds sd1, f sd = .ok ds sd1 → ∀ vs Z1 H1, RpAll K Z1 H1 vs ds 0 [] → Ok K Z1 F H1 σ sd1 → Ext F Z H Z1 H1 → Q vs H1)
    (hex : ∀ x sd1, f sd = .exc x sd1 → excP K mg W Z F σ H x sd1) (hst : f sd = .stuck → False) : tA K mg W f σ H Q := by
  refine ⟨Z, F, sd, ok, ?_⟩
  cases e : f sd with
  | ok w sd1 => exact hok w sd1 e
  | exc x sd1 => exact hex x sd1 e
  | stuck => exact hst e
theorem tP.seq {f : Et} {Q : Bool → Hp → Prop} {sd : SD} (ok : Ok K Z F H σ sd)
    (hok : ∀ b sd1, f sd = .ok b sd1 → ∀ Z1 H1, Ok K Z1 F H1 σ sd1 → Ext F Z H Z1 H1 → Q b H1)
    (hex : ∀ x sd1, f sd = .exc x sd1 → excP K mg W Z F σ H x sd1) (hst : f sd = .stuck → False) : tT K mg W f σ H Q := by
  refine ⟨Z, F, sd, ok, ?_⟩
  cases e : f sd with
  | ok w sd1 => exact hok w sd1 e
  | exc x sd1 => exact hex x sd1 e
  | stuck => exact hst e
/-- the end: a value that grew -/
theorem eP.fin {w : D × Nat} {sd : SD} {Q : VK} {Z0 : Pz} {H0 : Hp} {v : V} {Z' : Pz} {H' : Hp} {o : List Addr} (h : eP K mg W Z0 F σ H0 (.ok w sd) Q) (e : Ext F Z0 H0 Z H) (ok : Ok K Z F H σ sd) (g : Gr Z H Z' H' o) (r : Rp K Z' H' v w.1 w.2 o) : Q v H' :=
  h v Z' H' o r g.nd (g.nf ok.base) (g.ok ok) (e.trans (g.ext ok.base))
end

/-! ### names and constants -/
section
variable {X : Cx} {W : WX} {pos : Pos}
theorem se_of {e : Expr} {t : TE} {f : Ev} (h : PE X e t) (w : ∀ σ H Q, tE X.K X.mg W f σ H Q → t σ H Q) : SE X W e f := PE.imp h w
theorem se_cst {e : Expr} {v : V} {d : D} (h : PE X e (tC v)) (r : ∀ Z H, Rp X.K Z H v d 0 []) : SE X W e (cst d) := by
  refine PE.imp h fun σ H Q ⟨Z, F, sd, ok, q⟩ => ?_
  exact q v Z H [] (r Z H) .nil (fun _ m => absurd m List.not_mem_nil) (ok.less fun a z => z.elim id fun m => absurd m List.not_mem_nil) .refl
theorem se_int {i j} : SE X W (.Constant (.int i) j pos) (cst (.int i)) := se_cst pe_int fun _ _ => .int _ _
theorem se_bl {b j} : SE X W (.Constant (.bool b) j pos) (cst (.bl b)) := se_cst pe_bl fun _ _ => .bl _ _
theorem se_non {j} : SE X W (.Constant .none j pos) (cst .non) := se_cst pe_non fun _ _ => .non _
theorem se_str {x j} : SE X W (.Constant (.str x) j pos) (cst (.str x)) := se_cst pe_str fun _ _ => .str _ _
theorem Ok.unnil {K : PySem.W.Frag} {Z F : Pz} {H : Hp} {σ : St} {sd : SD} (ok : Ok K Z F H σ sd) : Ok K Z (uni F []) H σ sd := ok.less fun a z => z.elim id fun m => absurd m List.not_mem_nil
theorem se_rdv (i : Nat) {x : Str} (hN : X.N[i]? = some x := by rfl) (hv : Vis X.env.scope x := by first | exact Or.inl rfl | exact Or.inr (Or.inl rfl) | exact Or.inr (Or.inr rfl)) (hd : (x == ("__debug__" : Str)) = false := by decide)
    (hcd : (x == ("__classdict__" : Str)) = false := by decide) : SE X W (.Name x pos) (rdv i) := by
  refine PE.imp (pe_var hN hv hd hcd) fun σ H Q ⟨Z, F, sd, ok, q⟩ => ?_
  unfold rdv at q
  split at q
  · rename_i d k e
    obtain ⟨v, p, e1, r, nd, nf, ok1⟩ := ok.take e
    refine ⟨v, e1, ?_⟩
    have ok2 := ok1.freeze nf
    have r2 : Rp X.K (uni Z p) H v d 0 [] := r.freeze (fun _ z => .inl z) fun _ m => .inr m
    have ok3 := Ok.back (p := []) ok2.unnil r2 .nil (fun _ m => absurd m List.not_mem_nil) e1
    rw [List.set_set] at ok3
    exact q v (uni Z p) H [] r2 .nil (fun _ m => absurd m List.not_mem_nil) ok3.unnil .uni
  · exact q.elim
theorem se_mvv (i : Nat) {x : Str} (hN : X.N[i]? = some x := by rfl) (hv : Vis X.env.scope x := by first | exact Or.inl rfl | exact Or.inr (Or.inl rfl) | exact Or.inr (Or.inr rfl)) (hd : (x == ("__debug__" : Str)) = false := by decide)
    (hcd : (x == ("__classdict__" : Str)) = false := by decide) : SE X W (.Name x pos) (mvv i) := by
  refine PE.imp (pe_var hN hv hd hcd) fun σ H Q ⟨Z, F, sd, ok, q⟩ => ?_
  unfold mvv at q
  split at q
  · rename_i w e
    obtain ⟨d, k⟩ := w
    obtain ⟨v, p, e1, r, nd, nf, ok1⟩ := ok.take e
    exact ⟨v, e1, q v Z H p r nd nf ok1 .refl⟩
  · exact q.elim

/-! ### operators by values -/
def Vr1 (K : PySem.W.Frag) (r : V → Hp → VK → Prop) (g : D → Option (D × Nat)) : Prop := ∀ (Z : Pz) (H : Hp) (x : V) (d : D) (w : D × Nat) (Q : VK), (∀ a, Z a → ∃ o, H a = some o) → Rp K Z H x d 0 [] → g d = some w →
  (∀ v Z' H' o, Gr Z H Z' H' o → Rp K Z' H' v w.1 w.2 o → Q v H') → r x H Q
def Vr2 (K : PySem.W.Frag) (r : R2) (g : D → D → Option (D × Nat)) : Prop := ∀ (Z : Pz) (H : Hp) (x y : V) (d e : D) (w : D × Nat) (Q : VK), (∀ a, Z a → ∃ o, H a = some o) → Rp K Z H x d 0 [] → Rp K Z H y e 0 [] → g d e = some w →
  (∀ v Z' H' o, Gr Z H Z' H' o → Rp K Z' H' v w.1 w.2 o → Q v H') → r x y H Q
def VrN (K : PySem.W.Frag) (r : List V → Hp → VK → Prop) (g : List D → Option (D × Nat)) : Prop := ∀ (Z : Pz) (H : Hp) (xs : List V) (ds : List D) (w : D × Nat) (Q : VK), (∀ a, Z a → ∃ o, H a = some o) → RpAll K Z H xs ds 0 [] → g ds = some w →
  (∀ v Z' H' o, Gr Z H Z' H' o → Rp K Z' H' v w.1 w.2 o → Q v H') → r xs H Q
variable {a b c : Expr} {es : List Expr} {fa fb fc : Ev} {fs : Ea}
theorem tE_op2 {K : PySem.W.Frag} {mg : Mg} {r : R2} {g : D → D → Option (D × Nat)} (hg : Vr2 K r g) {σ : St} {H : Hp} {Q : VK} (h : tE K mg W (op2 g fa fb) σ H Q) : tOp r (tE K mg W fa) (tE K mg W fb) σ H Q := by
  obtain ⟨Z, F, sd, ok, q⟩ := h
  refine eP.seq (G := fun _ _ => True) ok (fun w1 sd1 e1 v1 Z1 H1 r1 ok1 x1 => ?_) (fun x sd1 e1 => ?_) (fun e1 => ?_)
  · refine eP.seq (G := fun _ _ => True) ok1 (fun w2 sd2 e2 v2 Z2 H2 r2 ok2 x2 => ?_) (fun x sd2 e2 => ?_) (fun e2 => ?_)
    · have r1' : Rp K Z2 H2 v1 w1.1 0 [] := r1.keep x2.z fun _ m => absurd m List.not_mem_nil
      unfold op2 at q
      rw [e1, R.bind_ok, e2, R.bind_ok] at q
      cases eg : g w1.1 w2.1 with
      | none => rw [eg] at q; exact q.elim
      | some w =>
        rw [eg, lift_some] at q
        exact hg Z2 H2 v1 v2 _ _ w Q ok2.base.z r1' r2 eg fun v Z' H' o gr rv => eP.fin q (x1.trans x2) ok2 gr rv
    · unfold op2 at q
      rw [e1, R.bind_ok, e2, R.bind_exc] at q
      exact excP.go0 q x1
    · unfold op2 at q
      rw [e1, R.bind_ok, e2, R.bind_stuck] at q
      exact q
  · unfold op2 at q
    rw [e1, R.bind_exc] at q
    exact q
  · unfold op2 at q
    rw [e1, R.bind_stuck] at q
    exact q
theorem se_op {op : Operator} {r : R2} {g : D → D → Option (D × Nat)} (ho : OpR X (binaryOp op) r) (hg : Vr2 X.K r g) (ha : SE X W a fa) (hb : SE X W b fb) : SE X W (.BinOp a op b pos) (op2 g fa fb) :=
  PE.imp (pe_op ho ha hb) fun σ H Q h => tE_op2 hg h
theorem se_cmp {op : CmpOp} {r : R2} {g : D → D → Option (D × Nat)} (ho : OpR X (compareOp op) r) (hg : Vr2 X.K r g) (ha : SE X W a fa) (hb : SE X W b fb) (hm : behindInMarks op b = false := by first | exact nomark _ | rfl) : SE X W (.Compare a [op] [b] pos) (op2 g fa fb) :=
  PE.imp (pe_cmpR ho ha hb hm) fun σ H Q h => tE_op2 hg h
theorem tT_tst {K : PySem.W.Frag} {mg : Mg} {f : Ev} {t : TE} (ht : ∀ σ H Q, tE K mg W f σ H Q → t σ H Q) {σ : St} {H : Hp} {Q : Bool → Hp → Prop} (h : tT K mg W (tst f) σ H Q) : tTest t σ H Q := by
  obtain ⟨Z, F, sd, ok, q⟩ := h
  refine ht _ _ _ (eP.seq (G := fun _ _ => True) ok (fun w1 sd1 e1 v1 Z1 H1 r1 ok1 x1 => ?_) (fun x sd1 e1 => ?_) (fun e1 => ?_))
  · unfold tst at q
    rw [e1, R.bind_ok] at q
    split at q
    · rename_i b eb
      rw [eb] at r1
      cases r1
      exact ⟨b, rfl, q Z1 H1 ok1 x1⟩
    · exact q.elim
  · unfold tst at q
    rw [e1, R.bind_exc] at q
    exact q
  · unfold tst at q
    rw [e1, R.bind_stuck] at q
    exact q
theorem st_cmp {op : CmpOp} {r : R2} {g : D → D → Option (D × Nat)} (ho : OpR X (compareOp op) r) (hg : Vr2 X.K r g) (ha : SE X W a fa) (hb : SE X W b fb) (hm : behindInMarks op b = false := by first | exact nomark _ | rfl) : ST X W (.Compare a [op] [b] pos) (tst (op2 g fa fb)) :=
  PT.imp (pt_cmpR ho ha hb hm) fun σ H Q h => tT_tst (fun σ H Q h => tE_op2 hg h) h
theorem st_val (ha : SE X W a fa) (he : ∀ whole, isTrue a X.env whole = (do let v ← whole; standAt a.pos; holding [v] (truthy v)) := by intro _; rfl) : ST X W a (tst fa) :=
  PT.imp (pt_val ha he) fun σ H Q h => tT_tst (fun _ _ _ h => h) h
theorem se_un {op : UnaryOp} {r : V → Hp → VK → Prop} {g : D → Option (D × Nat)} (ho : UnR X (unaryOp op) r) (hg : Vr1 X.K r g) (ha : SE X W a fa) : SE X W (.UnaryOp op a pos) (op1 g fa) := by
  refine PE.imp (pe_un ho ha) fun σ H Q ⟨Z, F, sd, ok, q⟩ => ?_
  refine eP.seq (G := fun _ _ => True) ok (fun w1 sd1 e1 v1 Z1 H1 r1 ok1 x1 => ?_) (fun x sd1 e1 => ?_) (fun e1 => ?_)
  · unfold op1 at q
    rw [e1, R.bind_ok] at q
    cases eg : g w1.1 with
    | none => rw [eg] at q; exact q.elim
    | some w =>
      rw [eg, lift_some] at q
      exact hg Z1 H1 v1 _ w Q ok1.base.z r1 eg fun v Z' H' o gr rv => eP.fin q x1 ok1 gr rv
  · unfold op1 at q
    rw [e1, R.bind_exc] at q
    exact q
  · unfold op1 at q
    rw [e1, R.bind_stuck] at q
    exact q

/-! ### and, or, not -/
theorem sw_and1 {f : Et} (h : ST X W a f) : SW X W (.BoolOp .And [a] pos) f := pw_and1 h
theorem sw_or1 {f : Et} (h : ST X W a f) : SW X W (.BoolOp .Or [a] pos) f := pw_or1 h
theorem tT_and {K : PySem.W.Frag} {mg : Mg} {f g : Et} {σ : St} {H : Hp} {Q : Bool → Hp → Prop} (h : tT K mg W (tAnd' f g) σ H Q) : tAnd (tT K mg W f) (tT K mg W g) σ H Q := by
  obtain ⟨Z, F, sd, ok, q⟩ := h
  refine tP.seq ok (fun b sd1 e1 Z1 H1 ok1 x1 => ?_) (fun x sd1 e1 => ?_) (fun e1 => ?_)
  · unfold tAnd' at q
    rw [e1, R.bind_ok] at q
    cases b with
    | true =>
      refine tP.seq ok1 (fun b sd2 e2 Z2 H2 ok2 x2 => ?_) (fun x sd2 e2 => ?_) (fun e2 => ?_)
      · simp only [if_true] at q; rw [e2] at q; exact q Z2 H2 ok2 (x1.trans x2)
      · simp only [if_true] at q; rw [e2] at q; exact excP.go0 q x1
      · simp only [if_true] at q; rw [e2] at q; exact q
    | false => exact q Z1 H1 ok1 x1
  · unfold tAnd' at q; rw [e1] at q; exact q
  · unfold tAnd' at q; rw [e1] at q; exact q
theorem tT_or {K : PySem.W.Frag} {mg : Mg} {f g : Et} {σ : St} {H : Hp} {Q : Bool → Hp → Prop} (h : tT K mg W (tOr' f g) σ H Q) : tOr (tT K mg W f) (tT K mg W g) σ H Q := by
  obtain ⟨Z, F, sd, ok, q⟩ := h
  refine tP.seq ok (fun b sd1 e1 Z1 H1 ok1 x1 => ?_) (fun x sd1 e1 => ?_) (fun e1 => ?_)
  · unfold tOr' at q
    rw [e1, R.bind_ok] at q
    cases b with
    | false =>
      refine tP.seq ok1 (fun b sd2 e2 Z2 H2 ok2 x2 => ?_) (fun x sd2 e2 => ?_) (fun e2 => ?_)
      · simp only [Bool.false_eq_true, if_false] at q; rw [e2] at q; exact q Z2 H2 ok2 (x1.trans x2)
      · simp only [Bool.false_eq_true, if_false] at q; rw [e2] at q; exact excP.go0 q x1
      · simp only [Bool.false_eq_true, if_false] at q; rw [e2] at q; exact q
    | true => exact q Z1 H1 ok1 x1
  · unfold tOr' at q; rw [e1] at q; exact q
  · unfold tOr' at q; rw [e1] at q; exact q
theorem sw_and {rest : List Expr} {f g : Et} (ha : ST X W a f) (hb : SW X W (.BoolOp .And (b :: rest) pos) g) : SW X W (.BoolOp .And (a :: b :: rest) pos) (tAnd' f g) := PW.imp (pw_and ha hb) fun _ _ _ h => tT_and h
theorem sw_or {rest : List Expr} {f g : Et} (ha : ST X W a f) (hb : SW X W (.BoolOp .Or (b :: rest) pos) g) : SW X W (.BoolOp .Or (a :: b :: rest) pos) (tOr' f g) := PW.imp (pw_or ha hb) fun _ _ _ h => tT_or h
theorem st_w {f : Et} (h : SW X W a f) : ST X W a f := h.pt
theorem st_not {f : Et} (h : ST X W a f) : ST X W (.UnaryOp .Not a pos) (tNot' f) := by
  refine PT.imp (pt_not h) fun σ H Q ⟨Z, F, sd, ok, q⟩ => ?_
  refine tP.seq ok (fun b sd1 e1 Z1 H1 ok1 x1 => ?_) (fun x sd1 e1 => ?_) (fun e1 => ?_)
  · unfold tNot' at q; rw [e1] at q; exact q Z1 H1 ok1 x1
  · unfold tNot' at q; rw [e1] at q; exact q
  · unfold tNot' at q; rw [e1] at q; exact q
/-- .. as values -/
def vAnd (f g : Ev) : Ev := fun sd => (f sd).bind fun x sd1 => match x.1 with
  | .bl true => g sd1
  | .bl false => .ok (.bl false, 0) sd1
  | _ => .stuck
def vOr (f g : Ev) : Ev := fun sd => (f sd).bind fun x sd1 => match x.1 with
  | .bl true => .ok (.bl true, 0) sd1
  | .bl false => g sd1
  | _ => .stuck
def vNot (f : Ev) : Ev := fun sd => (f sd).bind fun x sd1 => match x.1 with
  | .bl b => .ok (.bl (!b), 0) sd1
  | _ => .stuck
theorem se_one {op} (h : SE X W a fa) : SE X W (.BoolOp op [a] pos) fa := pe_one h
theorem eP.pure {K : PySem.W.Frag} {mg : Mg} {Z0 Z F : Pz} {H0 H : Hp} {σ : St} {d : D} {v : V} {sd : SD} {Q : VK} (q : eP K mg W Z0 F σ H0 (.ok (d, 0) sd) Q) (x : Ext F Z0 H0 Z H) (ok : Ok K Z F H σ sd) (r : Rp K Z H v d 0 []) : Q v H :=
  q v Z H [] r .nil (fun _ m => absurd m List.not_mem_nil) ok.unnil x
theorem se_and {rest : List Expr} (ha : SE X W a fa) (hb : SE X W (.BoolOp .And (b :: rest) pos) fb) : SE X W (.BoolOp .And (a :: b :: rest) pos) (vAnd fa fb) := by
  refine PE.imp (pe_and ha hb) fun σ H Q ⟨Z, F, sd, ok, q⟩ => ?_
  refine eP.seq (G := fun _ _ => True) ok (fun w1 sd1 e1 v1 Z1 H1 r1 ok1 x1 => ?_) (fun x sd1 e1 => ?_) (fun e1 => ?_)
  · unfold vAnd at q
    rw [e1, R.bind_ok] at q
    split at q
    · rename_i eb
      rw [eb] at r1
      cases r1
      refine ⟨true, rfl, ?_⟩
      rw [if_pos rfl]
      refine eP.seqO ok1 (fun w2 sd2 e2 v2 Z2 H2 o2 r2 nd2 nf2 ok2 x2 => ?_) (fun x sd2 e2 => ?_) (fun e2 => ?_)
      · rw [e2] at q; exact q v2 Z2 H2 o2 r2 nd2 nf2 ok2 (x1.trans x2)
      · rw [e2] at q; exact excP.go0 q x1
      · rw [e2] at q; exact q
    · rename_i eb
      rw [eb] at r1
      cases r1
      refine ⟨false, rfl, ?_⟩
      rw [if_neg Bool.false_ne_true]
      exact q.pure x1 ok1 (.bl _ _)
    · exact q.elim
  · unfold vAnd at q; rw [e1] at q; exact q
  · unfold vAnd at q; rw [e1] at q; exact q
theorem se_or {rest : List Expr} (ha : SE X W a fa) (hb : SE X W (.BoolOp .Or (b :: rest) pos) fb) : SE X W (.BoolOp .Or (a :: b :: rest) pos) (vOr fa fb) := by
  refine PE.imp (pe_or ha hb) fun σ H Q ⟨Z, F, sd, ok, q⟩ => ?_
  refine eP.seq (G := fun _ _ => True) ok (fun w1 sd1 e1 v1 Z1 H1 r1 ok1 x1 => ?_) (fun x sd1 e1 => ?_) (fun e1 => ?_)
  · unfold vOr at q
    rw [e1, R.bind_ok] at q
    split at q
    · rename_i eb
      rw [eb] at r1
      cases r1
      refine ⟨true, rfl, ?_⟩
      rw [if_pos rfl]
      exact q.pure x1 ok1 (.bl _ _)
    · rename_i eb
      rw [eb] at r1
      cases r1
      refine ⟨false, rfl, ?_⟩
      rw [if_neg Bool.false_ne_true]
      refine eP.seqO ok1 (fun w2 sd2 e2 v2 Z2 H2 o2 r2 nd2 nf2 ok2 x2 => ?_) (fun x sd2 e2 => ?_) (fun e2 => ?_)
      · rw [e2] at q; exact q v2 Z2 H2 o2 r2 nd2 nf2 ok2 (x1.trans x2)
      · rw [e2] at q; exact excP.go0 q x1
      · rw [e2] at q; exact q
    · exact q.elim
  · unfold vOr at q; rw [e1] at q; exact q
  · unfold vOr at q; rw [e1] at q; exact q
theorem se_not (ha : SE X W a fa) : SE X W (.UnaryOp .Not a pos) (vNot fa) := by
  refine PE.imp (pe_not ha) fun σ H Q ⟨Z, F, sd, ok, q⟩ => ?_
  refine eP.seq (G := fun _ _ => True) ok (fun w1 sd1 e1 v1 Z1 H1 r1 ok1 x1 => ?_) (fun x sd1 e1 => ?_) (fun e1 => ?_)
  · unfold vNot at q
    rw [e1, R.bind_ok] at q
    split at q
    · rename_i bb eb
      rw [eb] at r1
      cases r1
      exact ⟨bb, rfl, q.pure x1 ok1 (.bl _ _)⟩
    · exact q.elim
  · unfold vNot at q; rw [e1] at q; exact q
  · unfold vNot at q; rw [e1] at q; exact q

/-! ### chains of two comparisons -/
/-- a comparison's rule, as it answers -/
def VrC (K : PySem.W.Frag) (r : R2) (g : D → D → Option (D × Nat)) : Prop := Vr2 K r g
theorem tE_chnV {K : PySem.W.Frag} {mg : Mg} {r r' : R2} {g g' : D → D → Option (D × Nat)} (hg : Vr2 K r g) (hg' : Vr2 K r' g') {σ : St} {H : Hp} {Q : VK} (h : tE K mg W (tv (chn g g' fa fb fc)) σ H Q) :
    tChain r r' (tE K mg W fa) (tE K mg W fb) (tE K mg W fc) σ H Q := by
  obtain ⟨Z, F, sd, ok, q⟩ := h
  refine eP.seq (G := fun _ _ => True) ok (fun w1 sd1 e1 v1 Z1 H1 r1 ok1 x1 => ?_) (fun x sd1 e1 => ?_) (fun e1 => ?_)
  · refine eP.seq (G := fun _ _ => True) ok1 (fun w2 sd2 e2 v2 Z2 H2 r2 ok2 x2 => ?_) (fun x sd2 e2 => ?_) (fun e2 => ?_)
    · have r1' : Rp K Z2 H2 v1 w1.1 0 [] := r1.keep x2.z fun _ m => absurd m List.not_mem_nil
      unfold tv chn at q
      rw [e1, R.bind_ok, e2, R.bind_ok] at q
      have x12 := x1.trans x2
      cases eg : g w1.1 w2.1 with
      | none => rw [eg] at q; exact q.elim
      | some w =>
        rw [eg] at q
        refine hg Z2 H2 v1 v2 _ _ w _ ok2.base.z r1' r2 eg fun v Z3 H3 o gr rv => ?_
        have okg := gr.ok ok2
        have xg := gr.ext ok2.base
        obtain ⟨wd, wk⟩ := w
        cases rv with
        | bl k3 =>
          refine ⟨k3, rfl, ?_⟩
          have ok3 := okg.less (F' := F) fun _ z => .inl z
          cases k3 with
          | true =>
            rw [if_pos rfl]
            refine eP.seq (G := fun _ _ => True) ok3 (fun w4 sd4 e4 v4 Z4 H4 r4 ok4 x4 => ?_) (fun x sd4 e4 => ?_) (fun e4 => ?_)
            · simp only [e4, R.bind_ok] at q
              have r2' : Rp K Z4 H4 v2 w2.1 0 [] := r2.keep (xg.trans x4).z fun _ m => absurd m List.not_mem_nil
              cases eg4 : g' w2.1 w4.1 with
              | none => rw [eg4] at q; exact q.elim
              | some w5 =>
                rw [eg4] at q
                refine hg' Z4 H4 v2 v4 _ _ w5 _ ok4.base.z r2' r4 eg4 fun v Z5 H5 o5 gr5 rv5 => ?_
                obtain ⟨wd5, wk5⟩ := w5
                cases rv5 with
                | bl b5 => exact eP.pure q (((x12.trans xg).trans x4).trans (gr5.ext ok4.base)) ((gr5.ok ok4).less fun _ z => .inl z) (.bl _ _)
                | _ => exact q.elim
            · simp only [e4, R.bind_exc] at q
              exact excP.go0 q (x12.trans xg)
            · simp only [e4, R.bind_stuck] at q
              exact q
          | false =>
            rw [if_neg Bool.false_ne_true]
            exact eP.pure q (x12.trans xg) ok3 (.bl _ _)
        | _ => exact q.elim
    · unfold tv chn at q
      rw [e1, R.bind_ok, e2, R.bind_exc] at q
      exact excP.go0 q x1
    · unfold tv chn at q
      rw [e1, R.bind_ok, e2, R.bind_stuck] at q
      exact q
  · unfold tv chn at q
    rw [e1, R.bind_exc] at q
    exact q
  · unfold tv chn at q
    rw [e1, R.bind_stuck] at q
    exact q
theorem tE_tv {K : PySem.W.Frag} {mg : Mg} {f : Et} {σ : St} {H : Hp} {Q : Bool → Hp → Prop} (h : tT K mg W f σ H Q) : tE K mg W (tv f) σ H (fun x H' => ∃ k, x = .bl k ∧ Q k H') := by
  obtain ⟨Z, F, sd, ok, q⟩ := h
  refine ⟨Z, F, sd, ok, ?_⟩
  unfold tv
  cases e : f sd with
  | ok b sd1 =>
    rw [e] at q
    intro v Z1 H1 o r nd nf ok1 x1
    cases r
    exact ⟨b, rfl, q Z1 H1 (ok1.less fun _ z => .inl z) x1⟩
  | exc x sd1 => rw [e] at q; exact q
  | stuck => rw [e] at q; exact q
theorem st_chn {op op' : CmpOp} {r r' : R2} {g g' : D → D → Option (D × Nat)} (ho : OpR X (compareOp op) r) (ho' : OpR X (compareOp op') r') (hg : Vr2 X.K r g) (hg' : Vr2 X.K r' g') (ha : SE X W a fa) (hb : SE X W b fb) (hc : SE X W c fc)
    (hm : lastMarks [op, op'] [b, c] = false := by with_unfolding_all rfl) : ST X W (.Compare a [op, op'] [b, c] pos) (chn g g' fa fb fc) :=
  PT.imp (pt_chain ho ho' ha hb hc hm) fun σ H Q h => tE_chnV hg hg' (tE_tv h)
theorem se_chn {op op' : CmpOp} {r r' : R2} {g g' : D → D → Option (D × Nat)} (ho : OpR X (compareOp op) r) (ho' : OpR X (compareOp op') r') (hg : Vr2 X.K r g) (hg' : Vr2 X.K r' g') (ha : SE X W a fa) (hb : SE X W b fb) (hc : SE X W c fc)
    (hm : lastMarks [op, op'] [b, c] = false := by with_unfolding_all rfl) : SE X W (.Compare a [op, op'] [b, c] pos) (tv (chn g g' fa fb fc)) :=
  PE.imp (pe_chain ho ho' ha hb hc hm) fun σ H Q h => tE_chnV hg hg' h

/-! ### arguments -/
theorem sa_nil : SA X W [] aNil := PA.imp pa_nil fun σ H Q ⟨Z, F, sd, ok, q⟩ => q [] Z H (.nil 0) ok .refl
theorem sa_cons (ha : SE X W a fa) (hs : SA X W es fs) (hst : starEach (a :: es) X.env = (false, eval a X.env) :: starEach es X.env := by rfl) : SA X W (a :: es) (aCons fa fs) := by
  refine PA.imp (pa_cons ha hs hst) fun σ H Q ⟨Z, F, sd, ok, q⟩ => ?_
  refine eP.seq (G := fun _ _ => True) ok (fun w1 sd1 e1 v1 Z1 H1 r1 ok1 x1 => ?_) (fun x sd1 e1 => ?_) (fun e1 => ?_)
  · refine aP.seq ok1 (fun ds sd2 e2 vs Z2 H2 r2 ok2 x2 => ?_) (fun x sd2 e2 => ?_) (fun e2 => ?_)
    · unfold aCons at q
      rw [e1, R.bind_ok, e2, R.bind_ok] at q
      exact q (v1 :: vs) Z2 H2 (.cons (o := []) (p := []) (r1.keep x2.z fun _ m => absurd m List.not_mem_nil) r2) ok2 (x1.trans x2)
    · unfold aCons at q
      rw [e1, R.bind_ok, e2, R.bind_exc] at q
      exact excP.go0 q x1
    · unfold aCons at q
      rw [e1, R.bind_ok, e2, R.bind_stuck] at q
      exact q
  · unfold aCons at q; rw [e1] at q; exact q
  · unfold aCons at q; rw [e1] at q; exact q
theorem tA_opN {K : PySem.W.Frag} {mg : Mg} {r : List V → Hp → VK → Prop} {g : List D → Option (D × Nat)} (hg : VrN K r g) {σ : St} {H : Hp} {Q : VK} (h : tE K mg W (opN g fs) σ H Q) : tA K mg W fs σ H (fun xs H1 => r xs H1 Q) := by
  obtain ⟨Z, F, sd, ok, q⟩ := h
  refine aP.seq ok (fun ds sd2 e2 vs Z2 H2 r2 ok2 x2 => ?_) (fun x sd2 e2 => ?_) (fun e2 => ?_)
  · unfold opN at q
    rw [e2, R.bind_ok] at q
    cases eg : g ds with
    | none => rw [eg] at q; exact q.elim
    | some w =>
      rw [eg, lift_some] at q
      exact hg Z2 H2 vs _ w Q ok2.base.z r2 eg fun v Z' H' o gr rv => eP.fin q x2 ok2 gr rv
  · unfold opN at q; rw [e2] at q; exact q
  · unfold opN at q; rw [e2] at q; exact q
/-- a built-in, called by name -/
theorem se_callB {x : Str} {id : String} {p : Pos} {r : List V → Hp → VK → Prop} {g : List D → Option (D × Nat)} (hc : CallR X (.builtin id) r) (hr : VrN X.K r g) (hg : Gl X x) (hm : X.mg x = none) (hv : bootBuiltins x = some (.builtin id)) (ha : SA X W (a :: es) fs)
    (hn : x ≠ "__name__" := by decide) (hdb : (x == ("__debug__" : Str)) = false := by decide) (he : starEach (a :: es) X.env = (false, eval a X.env) :: starEach es X.env := by rfl) (hpl : (backTo pos (starEach es X.env)).any (·.1) = false := by rfl) :
    SE X W (.Call (.Name x p) (a :: es) [] pos) (opN g fs) :=
  PE.imp (pe_callB hc hg hm hv ha hn hdb he hpl) fun σ H Q h => tA_opN hr h
theorem se_callTy {x : Str} {T : String} {p : Pos} {r : List V → Hp → VK → Prop} {g : List D → Option (D × Nat)} (hc : CallR X (.type T) r) (hr : VrN X.K r g) (hg : Gl X x) (hm : X.mg x = none) (hv : bootBuiltins x = some (.type T)) (ha : SA X W (a :: es) fs)
    (hn : x ≠ "__name__" := by decide) (hdb : (x == ("__debug__" : Str)) = false := by decide) (he : starEach (a :: es) X.env = (false, eval a X.env) :: starEach es X.env := by rfl) (hpl : (backTo pos (starEach es X.env)).any (·.1) = false := by rfl) :
    SE X W (.Call (.Name x p) (a :: es) [] pos) (opN g fs) :=
  PE.imp (pe_callTy hc hg hm hv ha hn hdb he hpl) fun σ H Q h => tA_opN hr h

/-! ### displays -/
def dTup (fs : Ea) : Ev := opN (fun ds => if ds.length ≤ sizeLine then some (.tup ds, 0) else none) fs
def dLst (fs : Ea) : Ev := opN (fun ds => if ds.length ≤ sizeLine then some (.lst ds, 1) else none) fs
theorem se_tup {x1} (h : SA X W es fs) : SE X W (.Tuple es x1 pos) (dTup fs) := by
  refine PE.imp (pe_tup h) fun σ H Q hq => tA_opN (r := fun xs H1 Q => xs.length ≤ sizeLine ∧ ∀ p, H1 p = none → Q (.ref p) (upd H1 p (.tup xs))) (fun Z H xs ds w Q hz r eg k => ?_) hq
  split at eg
  · rename_i hl
    cases eg
    refine ⟨by rw [r.length]; exact hl, fun p hp => k (.ref p) (fun a => Z a ∨ a = p) _ [] (Gr.fz hp) ?_⟩
    exact .tup 0 (.inr rfl) upd_same (Gr.rpAll (Gr.fz hp) hz r)
  · cases eg
theorem se_lst (h : SA X W es fs) : SE X W (.List es pos) (dLst fs) := by
  refine PE.imp (pe_lst h) fun σ H Q hq => tA_opN (r := fun xs H1 Q => xs.length ≤ sizeLine ∧ ∀ p, H1 p = none → Q (.ref p) (upd H1 p (.lst xs))) (fun Z H xs ds w Q hz r eg k => ?_) hq
  split at eg
  · rename_i hl
    cases eg
    refine ⟨by rw [r.length]; exact hl, fun p hp => k (.ref p) Z _ [p] (Gr.cell hz hp) ?_⟩
    exact .lstS (o := []) upd_same (Gr.rpAll (Gr.cell hz hp) hz r)
  · cases eg
end
end VS
/-! VS3: operators, comparisons, built-ins by values. -/
namespace VS
open PySem PySem.Spec L2

section
variable {K : PySem.W.Frag} {Z Z' : Pz} {H H' : Hp}
theorem VrN.mk1 {r : List V → Hp → VK → Prop} {g : List D → Option (D × Nat)} {g1 : D → Option (D × Nat)} (hg : ∀ ds w, g ds = some w → ∃ d, ds = [d] ∧ g1 d = some w)
    (h : ∀ Z H x d w Q, (∀ a, Z a → ∃ o, H a = some o) → Rp K Z H x d 0 [] → g1 d = some w → (∀ v Z' H' o, Gr Z H Z' H' o → Rp K Z' H' v w.1 w.2 o → Q v H') → r [x] H Q) : VrN K r g := by
  intro Z H xs ds w Q hz ra eg k
  obtain ⟨d, rfl, e1⟩ := hg ds w eg
  generalize e0 : ([] : List Addr) = o0 at ra
  cases ra with
  | cons r1 r2 =>
    cases r2
    cases r1.nil0
    exact h Z H _ d w Q hz r1 e1 k
theorem VrN.mk2 {r : List V → Hp → VK → Prop} {g : List D → Option (D × Nat)} {g2 : D → D → Option (D × Nat)} (hg : ∀ ds w, g ds = some w → ∃ d e, ds = [d, e] ∧ g2 d e = some w)
    (h : Vr2 K (fun x y H Q => r [x, y] H Q) g2) : VrN K r g := by
  intro Z H xs ds w Q hz ra eg k
  obtain ⟨d, e, rfl, e1⟩ := hg ds w eg
  generalize e0 : ([] : List Addr) = o0 at ra
  cases ra with
  | cons r1 r2 =>
    cases r2 with
    | cons r3 r4 =>
      cases r4
      cases r1.nil0
      cases r3.nil0
      exact h Z H _ _ d e w Q hz r1 r3 e1 k
def un1 (g : D → Option (D × Nat)) : List D → Option (D × Nat)
  | [d] => g d
  | _ => none
def un2 (g : D → D → Option (D × Nat)) : List D → Option (D × Nat)
  | [d, e] => g d e
  | _ => none
@[simp] theorem un1_one (g : D → Option (D × Nat)) (d : D) : un1 g [d] = g d := eqr rfl
@[simp] theorem un2_two (g : D → D → Option (D × Nat)) (d e : D) : un2 g [d, e] = g d e := eqr rfl
theorem VrN.un1 {r : List V → Hp → VK → Prop} {g : D → Option (D × Nat)} (h : Vr1 K (fun x H Q => r [x] H Q) g) : VrN K r (un1 g) :=
  VrN.mk1 (g1 := g) (fun ds w e => by
    unfold VS.un1 at e
    split at e
    · exact ⟨_, rfl, e⟩
    · cases e) fun Z H x d w Q hz r1 e1 k => h Z H x d w Q hz r1 e1 k
theorem VrN.un2 {r : List V → Hp → VK → Prop} {g : D → D → Option (D × Nat)} (h : Vr2 K (fun x y H Q => r [x, y] H Q) g) : VrN K r (un2 g) :=
  VrN.mk2 (g2 := g) (fun ds w e => by
    unfold VS.un2 at e
    split at e
    · exact ⟨_, _, rfl, e⟩
    · cases e) h
theorem Gr.q {Q : VK} {v : V} {d : D} {k : Nat} (h : ∀ v' Z' H' o, Gr Z H Z' H' o → Rp K Z' H' v' d k o → Q v' H') (r : Rp K Z H v d k []) : Q v H := h v Z H [] Gr.refl r
/-- a value of no cells of its own -/
theorem Rp.up {v : V} {d : D} {k : Nat} (r : Rp K Z H v d 0 []) : ∀ {w : D × Nat}, w = (d, 0) → Rp K Z H v w.1 w.2 [] := fun e => e ▸ r

/-! ### arithmetic -/
def gAdd : D → D → Option (D × Nat)
  | .int i, .int j => some (.int (i + j), 0)
  | .lst xs, .lst ys => if xs.length + ys.length ≤ sizeLine then some (.lst (xs ++ ys), 1) else none
  | .tup xs, .tup ys => if xs.length + ys.length ≤ sizeLine then some (.tup (xs ++ ys), 0) else none
  | .str x, .str y => if x.length + y.length ≤ sizeLine then some (.str (x ++ y), 0) else none
  | _, _ => none
def gSub : D → D → Option (D × Nat)
  | .int i, .int j => some (.int (i - j), 0)
  | _, _ => none
def mulOk (i j : Int) : Bool := decide (i.natAbs.log2 + j.natAbs.log2 < 100000000)
def gMul : D → D → Option (D × Nat)
  | .int i, .int j => if mulOk i j then some (.int (i * j), 0) else none
  | .lst xs, .int k => if k < 2 ^ 62 ∧ -(2 ^ 62) ≤ k ∧ xs.length * k.toNat ≤ sizeLine then some (.lst (List.replicate k.toNat xs).flatten, 1) else none
  | _, _ => none
def gFdiv : D → D → Option (D × Nat)
  | .int i, .int j => if 0 < j ∧ j.natAbs.log2 < 9000 then some (.int (i / j), 0) else none
  | _, _ => none
def gMod : D → D → Option (D × Nat)
  | .int i, .int j => if 0 < j then some (.int (i % j), 0) else none
  | _, _ => none
def gPow : D → D → Option (D × Nat)
  | .int i, .int j => if 0 ≤ j ∧ j ≤ 1000000 ∧ i.natAbs < 2 ^ 64 then some (.int (i ^ j.toNat), 0) else none
  | _, _ => none
def gNeg : D → Option (D × Nat)
  | .int i => some (.int (-i), 0)
  | _ => none
def cI (p : Int → Int → Bool) : D → D → Option (D × Nat)
  | .int i, .int j => some (.bl (p i j), 0)
  | _, _ => none
abbrev gLt := cI fun i j => decide (i < j)
abbrev gLe := cI fun i j => decide (i ≤ j)
abbrev gGt := cI fun i j => decide (j < i)
abbrev gGe := cI fun i j => decide (j ≤ i)
@[simp] theorem gAdd_int (i j : Int) : gAdd (.int i) (.int j) = some (.int (i + j), 0) := eqr rfl
@[simp] theorem gAdd_lst (xs ys : List D) : gAdd (.lst xs) (.lst ys) = if xs.length + ys.length ≤ sizeLine then some (.lst (xs ++ ys), 1) else none := eqr rfl
@[simp] theorem gAdd_tup (xs ys : List D) : gAdd (.tup xs) (.tup ys) = if xs.length + ys.length ≤ sizeLine then some (.tup (xs ++ ys), 0) else none := eqr rfl
@[simp] theorem gAdd_str (x y : Str) : gAdd (.str x) (.str y) = if x.length + y.length ≤ sizeLine then some (.str (x ++ y), 0) else none := eqr rfl
@[simp] theorem gSub_int (i j : Int) : gSub (.int i) (.int j) = some (.int (i - j), 0) := eqr rfl
@[simp] theorem gMul_int (i j : Int) : gMul (.int i) (.int j) = if mulOk i j then some (.int (i * j), 0) else none := eqr rfl
@[simp] theorem gMul_lst (xs : List D) (k : Int) : gMul (.lst xs) (.int k) = if k < 2 ^ 62 ∧ -(2 ^ 62) ≤ k ∧ xs.length * k.toNat ≤ sizeLine then some (.lst (List.replicate k.toNat xs).flatten, 1) else none := eqr rfl
@[simp] theorem gFdiv_int (i j : Int) : gFdiv (.int i) (.int j) = if 0 < j ∧ j.natAbs.log2 < 9000 then some (.int (i / j), 0) else none := eqr rfl
@[simp] theorem gMod_int (i j : Int) : gMod (.int i) (.int j) = if 0 < j then some (.int (i % j), 0) else none := eqr rfl
@[simp] theorem gPow_int (i j : Int) : gPow (.int i) (.int j) = if 0 ≤ j ∧ j ≤ 1000000 ∧ i.natAbs < 2 ^ 64 then some (.int (i ^ j.toNat), 0) else none := eqr rfl
@[simp] theorem gNeg_int (i : Int) : gNeg (.int i) = some (.int (-i), 0) := eqr rfl
@[simp] theorem cI_int (p : Int → Int → Bool) (i j : Int) : cI p (.int i) (.int j) = some (.bl (p i j), 0) := eqr rfl
theorem ite_some {c : Prop} [Decidable c] {α : Type} {a : α} {w : α} (h : (if c then some a else none) = some w) : c ∧ a = w := by
  split at h
  · rename_i hc; exact ⟨hc, Option.some.inj h⟩
  · cases h
theorem RpAll.app {xs ys : List V} {ds es : List D} (h : RpAll K Z H xs ds 0 []) (h' : RpAll K Z H ys es 0 []) : RpAll K Z H (xs ++ ys) (ds ++ es) 0 [] := by
  induction xs generalizing ds with
  | nil => generalize e0 : ([] : List Addr) = o0 at h; cases h; exact h'
  | cons x xs ih =>
    generalize e0 : ([] : List Addr) = o0 at h
    cases h with
    | cons r1 r2 =>
      cases r1.nil0
      cases r2.nil0
      exact .cons (o := []) (p := []) r1 (ih r2)
theorem RpAll.uncons {v : V} {vs : List V} {d : D} {ds : List D} (h : RpAll K Z H (v :: vs) (d :: ds) 0 []) : Rp K Z H v d 0 [] ∧ RpAll K Z H vs ds 0 [] := by
  generalize e0 : ([] : List Addr) = o0 at h
  cases h with
  | cons r1 r2 =>
    cases r1.nil0
    cases r2.nil0
    exact ⟨r1, r2⟩
theorem RpAll.get {xs : List V} {ds : List D} {i : Nat} {d : D} (h : RpAll K Z H xs ds 0 []) (e : ds[i]? = some d) : ∃ v, xs[i]? = some v ∧ Rp K Z H v d 0 [] := by
  induction xs generalizing ds i with
  | nil =>
    have := h.length
    cases ds with
    | nil => cases e
    | cons _ _ => cases this
  | cons x xs ih =>
    cases ds with
    | nil => have := h.length; cases this
    | cons d' ds =>
      obtain ⟨r1, r2⟩ := h.uncons
      cases i with
      | zero => cases e; exact ⟨x, rfl, r1⟩
      | succ i => exact ih r2 e
theorem RpAll.mk {xs : List V} {ds : List D} (hl : xs.length = ds.length) (h : ∀ (i : Nat) (v : V) (d : D), xs[i]? = some v → ds[i]? = some d → Rp K Z H v d 0 []) : RpAll K Z H xs ds 0 [] := by
  induction xs generalizing ds with
  | nil =>
    cases ds with
    | nil => exact .nil 0
    | cons _ _ => cases hl
  | cons x xs ih =>
    cases ds with
    | nil => cases hl
    | cons d ds => exact .cons (o := []) (p := []) (h 0 x d rfl rfl) (ih (by simpa using hl) fun i v e h1 h2 => h (i + 1) v e h1 h2)
theorem RpAll.get2 {xs : List V} {ds : List D} {i : Nat} {v : V} (h : RpAll K Z H xs ds 0 []) (e : xs[i]? = some v) : ∃ d, ds[i]? = some d ∧ Rp K Z H v d 0 [] := by
  have hl := h.length
  obtain ⟨hi, ev⟩ := List.getElem?_eq_some_iff.mp e
  have hi2 : i < ds.length := by omega
  have eg : ds[i]? = some ds[i] := List.getElem?_eq_getElem hi2
  refine ⟨ds[i], eg, ?_⟩
  obtain ⟨v', e', r⟩ := h.get eg
  rw [e] at e'
  cases e'
  exact r
theorem RpAll.take {xs : List V} {ds : List D} (n : Nat) (h : RpAll K Z H xs ds 0 []) : RpAll K Z H (xs.take n) (ds.take n) 0 [] :=
  .mk (by rw [List.length_take, List.length_take, h.length]) fun i v d h1 h2 => by
    rw [List.getElem?_take] at h1 h2
    split at h1
    · rename_i hi
      rw [if_pos hi] at h2
      obtain ⟨v', e', r⟩ := h.get h2
      rw [h1] at e'; cases e'; exact r
    · cases h1
theorem RpAll.drop {xs : List V} {ds : List D} (n : Nat) (h : RpAll K Z H xs ds 0 []) : RpAll K Z H (xs.drop n) (ds.drop n) 0 [] :=
  .mk (by rw [List.length_drop, List.length_drop, h.length]) fun i v d h1 h2 => by
    rw [List.getElem?_drop] at h1 h2
    obtain ⟨v', e', r⟩ := h.get h2
    rw [h1] at e'; cases e'; exact r
theorem RpAll.rev {xs : List V} {ds : List D} (h : RpAll K Z H xs ds 0 []) : RpAll K Z H xs.reverse ds.reverse 0 [] :=
  .mk (by rw [List.length_reverse, List.length_reverse, h.length]) fun i v d h1 h2 => by
    have hl := h.length
    obtain ⟨hi, _⟩ := List.getElem?_eq_some_iff.mp h1
    rw [List.length_reverse] at hi
    rw [List.getElem?_reverse hi] at h1
    rw [List.getElem?_reverse (by omega), ← hl] at h2
    obtain ⟨v', e', r⟩ := h.get h2
    rw [h1] at e'; cases e'; exact r
theorem RpAll.rep {xs : List V} {ds : List D} (n : Nat) (h : RpAll K Z H xs ds 0 []) : RpAll K Z H (List.replicate n xs).flatten (List.replicate n ds).flatten 0 [] := by
  induction n with
  | zero => exact .nil 0
  | succ n ih =>
    rw [List.replicate_succ, List.replicate_succ, List.flatten_cons, List.flatten_cons]
    exact h.app ih

theorem vr_add : Vr2 K (fun x y H Q => rI0 (fun i j => .int (i + j)) x y H Q ∨ rCat x y H Q ∨ rCatA K x y H Q ∨ (∃ i j, x = .str i ∧ y = .str j ∧ i.length + j.length ≤ sizeLine ∧ Q (.str (i ++ j)) H)) gAdd := by
  intro Z H x y d e w Q hz rx ry eg k
  unfold gAdd at eg
  split at eg
  · cases eg
    cases rx
    cases ry
    exact .inl ⟨_, _, rfl, rfl, Gr.q k (.int _ _)⟩
  · rename_i xs ys
    obtain ⟨hl, rfl⟩ := ite_some eg
    generalize e0 : ([] : List Addr) = o0 at rx ry
    cases rx with
    | lst0 z1 h1 r1 =>
      cases ry with
      | lst0 z2 h2 r2 =>
        refine .inr (.inl ⟨_, _, _, _, rfl, rfl, h1, h2, by rw [r1.length, r2.length]; exact hl, fun p hp => k (.ref p) Z _ [p] (Gr.cell hz hp) ?_⟩)
        exact .lstS (o := []) upd_same (Gr.rpAll (Gr.cell hz hp) hz (r1.app r2))
  · rename_i xs ys
    obtain ⟨hl, rfl⟩ := ite_some eg
    generalize e0 : ([] : List Addr) = o0 at rx ry
    cases rx with
    | tup _ z1 h1 r1 =>
      cases ry with
      | tup _ z2 h2 r2 =>
        refine .inr (.inr (.inl ⟨_, _, _, _, rfl, rfl, .of h1, .of h2, by rw [r1.length, r2.length]; exact hl, fun e1 => ?_, fun _ e1 => ?_, fun _ _ p hp => ?_⟩))
        · have el : xs = [] := by
            have := r1.length
            rw [e1] at this
            exact List.length_eq_zero_iff.mp this.symm
          refine Gr.q k ?_
          rw [el, List.nil_append]
          exact .tup 0 z2 h2 r2
        · have el : ys = [] := by
            have := r2.length
            rw [e1] at this
            exact List.length_eq_zero_iff.mp this.symm
          refine Gr.q k ?_
          rw [el, List.append_nil]
          exact .tup 0 z1 h1 r1
        · exact k (.ref p) (fun a => Z a ∨ a = p) _ [] (Gr.fz hp) (.tup 0 (.inr rfl) upd_same (Gr.rpAll (Gr.fz hp) hz (r1.app r2)))
  · obtain ⟨hl, rfl⟩ := ite_some eg
    cases rx
    cases ry
    exact .inr (.inr (.inr ⟨_, _, rfl, rfl, hl, Gr.q k (.str _ _)⟩))
  · cases eg
theorem oAdd {X : Cx} : OpR X (binaryOp .Add) (fun x y H Q => rI0 (fun i j => .int (i + j)) x y H Q ∨ rCat x y H Q ∨ rCatA X.K x y H Q ∨ (∃ i j, x = .str i ∧ y = .str j ∧ i.length + j.length ≤ sizeLine ∧ Q (.str (i ++ j)) H)) :=
  op_add.or (op_cat.or (op_catA.or op_add_str))
theorem vr_sub : Vr2 K (rI0 fun i j => .int (i - j)) gSub := by
  intro Z H x y d e w Q hz rx ry eg k
  unfold gSub at eg
  split at eg
  · cases eg
    cases rx
    cases ry
    exact ⟨_, _, rfl, rfl, Gr.q k (.int _ _)⟩
  · cases eg
def CMulV (i j : Int) : Prop := i.natAbs.log2 + j.natAbs.log2 < 100000000
theorem CMulV.ok {i j : Int} (h : CMulV i j) : IntMulOk i j := by
  have b : ∀ x : Int, Builtin.Int.intBits x ≤ x.natAbs.log2 + 1 := fun x => by
    unfold Builtin.Int.intBits
    split <;> omega
  have h1 := b i
  have h2 := b j
  have h3 : i.natAbs.log2 + j.natAbs.log2 < 100000000 := h
  have e : bitsLine = 134217728 := by decide
  unfold IntMulOk
  intro z
  rw [Bool.and_eq_true] at z
  have z2 := z.2
  unfold Builtin.Int.intTooBig at z2
  have z3 := of_decide_eq_true z2
  rw [e] at z3
  omega
theorem op_mulV {X : Cx} : OpR X (binaryOp .Mult) (rI CMulV fun i j => .int (i * j)) := opI fun _ _ _ _ _ _ _ hc q => PyProof.Rows.mul_int q hc.ok
theorem vr_mul : Vr2 K (fun x y H Q => rI CMulV (fun i j => .int (i * j)) x y H Q ∨ rRep x y H Q) gMul := by
  intro Z H x y d e w Q hz rx ry eg k
  unfold gMul at eg
  split at eg
  · obtain ⟨hl, rfl⟩ := ite_some eg
    cases rx
    cases ry
    have hm : _ < 100000000 := of_decide_eq_true hl
    exact .inl ⟨_, _, rfl, rfl, hm, Gr.q k (.int _ _)⟩
  · rename_i xs j
    obtain ⟨⟨h1, h2, h3⟩, rfl⟩ := ite_some eg
    generalize e0 : ([] : List Addr) = o0 at rx
    cases ry
    cases rx with
    | lst0 z1 h r1 =>
      refine .inr ⟨_, _, _, rfl, rfl, h, by omega, by omega, by rw [r1.length]; exact h3, fun p hp => k (.ref p) Z _ [p] (Gr.cell hz hp) ?_⟩
      exact .lstS (o := []) upd_same (Gr.rpAll (Gr.cell hz hp) hz (r1.rep _))
  · cases eg
theorem oMul {X : Cx} : OpR X (binaryOp .Mult) (fun x y H Q => rI CMulV (fun i j => .int (i * j)) x y H Q ∨ rRep x y H Q) := op_mulV.or op_rep
theorem vr_fdiv : Vr2 K (rI CDivW fun i j => .int (i / j)) gFdiv := by
  intro Z H x y d e w Q hz rx ry eg k
  unfold gFdiv at eg
  split at eg
  · obtain ⟨hl, rfl⟩ := ite_some eg
    cases rx
    cases ry
    exact ⟨_, _, rfl, rfl, hl, Gr.q k (.int _ _)⟩
  · cases eg
theorem vr_mod : Vr2 K (rI (fun _ j => 0 < j) fun i j => .int (i % j)) gMod := by
  intro Z H x y d e w Q hz rx ry eg k
  unfold gMod at eg
  split at eg
  · obtain ⟨hl, rfl⟩ := ite_some eg
    cases rx
    cases ry
    exact ⟨_, _, rfl, rfl, hl, Gr.q k (.int _ _)⟩
  · cases eg
theorem vr_pow : Vr2 K (rI CPow fun i j => .int (i ^ j.toNat)) gPow := by
  intro Z H x y d e w Q hz rx ry eg k
  unfold gPow at eg
  split at eg
  · obtain ⟨hl, rfl⟩ := ite_some eg
    cases rx
    cases ry
    exact ⟨_, _, rfl, rfl, hl, Gr.q k (.int _ _)⟩
  · cases eg
theorem vr_neg : Vr1 K (rU fun i => .int (-i)) gNeg := by
  intro Z H x d w Q hz rx eg k
  unfold gNeg at eg
  split at eg
  · cases eg
    cases rx
    exact ⟨_, rfl, Gr.q k (.int _ _)⟩
  · cases eg
theorem vr_cI {p : Int → Int → Bool} : Vr2 K (rI0 fun i j => .bl (p i j)) (cI p) := by
  intro Z H x y d e w Q hz rx ry eg k
  unfold cI at eg
  split at eg
  · cases eg
    cases rx
    cases ry
    exact ⟨_, _, rfl, rfl, Gr.q k (.bl _ _)⟩
  · cases eg

/-! ### == -/
mutual
def toPy : D → Option PyData
  | .non => some .none
  | .bl b => some (.bool b)
  | .int i => some (.int i)
  | .str s => some (.str s)
  | .tup xs => (toPys xs).map .tuple
  | .lst xs => (toPys xs).map .list
  | .dct _ _ => none
  | .dcT _ _ => none
  | .ins _ _ _ => none
  | .exn _ _ _ => none
  | .scr _ => none
def toPys : List D → Option (List PyData)
  | [] => some []
  | d :: ds => match toPy d, toPys ds with
    | some p, some ps => some (p :: ps)
    | _, _ => none
end
mutual
theorem Rp.dp {v : V} {d : D} {k : Nat} {o : List Addr} {p : PyData} : Rp K Z H v d k o → toPy d = some p → Dp K H v p
  | .non _, e => by cases e; exact .non
  | .bl b _, e => by cases e; exact .bl b
  | .int i _, e => by cases e; exact .int i
  | .str x _, e => by cases e; exact .str x
  | .tup _ z h r, e => by
    simp only [toPy] at e
    obtain ⟨ps, e1, rfl⟩ := Option.map_eq_some_iff.mp e
    exact .tup (.of h) (RpAll.dp r e1)
  | .lst0 z h r, e => by
    simp only [toPy] at e
    obtain ⟨ps, e1, rfl⟩ := Option.map_eq_some_iff.mp e
    exact .lst (.of h) (RpAll.dp r e1)
  | .lstS h r, e => by
    simp only [toPy] at e
    obtain ⟨ps, e1, rfl⟩ := Option.map_eq_some_iff.mp e
    exact .lst (.of h) (RpAll.dp r e1)
  | .scr _ h r, e => by cases e
  | .dct0 _ _ _ _, e => by cases e
  | .dctS _ _ _, e => by cases e
  | .dcT0 _ _ _ _, e => by cases e
  | .dcTS _ _ _, e => by cases e
  | .ins0 _ _ _ _ _ _ _, e => by cases e
  | .insS _ _ _ _ _, e => by cases e
  | .exn _ _ _ _ _ _ _, e => by cases e
  | .exnD _ _ _ _ _ _ _ _ _ _, e => by cases e
theorem RpAll.dp {vs : List V} {ds : List D} {k : Nat} {o : List Addr} {ps : List PyData} : RpAll K Z H vs ds k o → toPys ds = some ps → DpAll K H vs ps
  | .nil _, e => by cases e; exact .nil
  | .cons h r, e => by
    simp only [toPys] at e
    split at e
    · rename_i p ps' e1 e2
      cases e
      exact .cons (Rp.dp h e1) (RpAll.dp r e2)
    · cases e
end
mutual
/-- data that may be compared: its depth, its texts -/
def okd : Nat → D → Bool
  | _, .non => true
  | _, .bl _ => true
  | _, .int _ => true
  | _, .str s => PyData.strOk s
  | n + 1, .tup xs => okds n xs
  | n + 1, .lst xs => okds n xs
  | _, _ => false
def okds : Nat → List D → Bool
  | _, [] => true
  | n, d :: ds => okd n d && okds n ds
end
mutual
def eqv : D → D → Bool
  | .non, .non => true
  | .bl a, .bl b => a == b
  | .bl a, .int j => (if a then 1 else 0) == j
  | .int i, .bl b => i == (if b then 1 else 0)
  | .int i, .int j => i == j
  | .str x, .str y => x == y
  | .lst xs, .lst ys => eqvs xs ys
  | .tup xs, .tup ys => eqvs xs ys
  | _, _ => false
def eqvs : List D → List D → Bool
  | [], [] => true
  | x :: xs, y :: ys => eqv x y && eqvs xs ys
  | _, _ => false
end
mutual
theorem okd_py : ∀ (n : Nat) (d : D), okd n d = true → ∃ p, toPy d = some p ∧ p.canLay0 = true ∧ p.depth ≤ n
  | _, .non, _ => ⟨_, rfl, rfl, by simp [PyData.depth]⟩
  | _, .bl _, _ => ⟨_, rfl, rfl, by simp [PyData.depth]⟩
  | _, .int _, _ => ⟨_, rfl, rfl, by simp [PyData.depth]⟩
  | _, .str s, h => ⟨_, rfl, by simpa [okd, PyData.canLay0] using h, by simp [PyData.depth]⟩
  | 0, .tup xs, h => by simp [okd] at h
  | 0, .lst xs, h => by simp [okd] at h
  | n + 1, .tup xs, h => by
    obtain ⟨ps, e, c, l⟩ := okds_py n xs (by simpa [okd] using h)
    exact ⟨.tuple ps, by simp [toPy, e], by simpa [PyData.canLay0] using c, by simp only [PyData.depth]; omega⟩
  | n + 1, .lst xs, h => by
    obtain ⟨ps, e, c, l⟩ := okds_py n xs (by simpa [okd] using h)
    exact ⟨.list ps, by simp [toPy, e], by simpa [PyData.canLay0] using c, by simp only [PyData.depth]; omega⟩
  | 0, .dct _ _, h => by simp [okd] at h
  | n + 1, .dct _ _, h => by simp [okd] at h
  | 0, .dcT _ _, h => by simp [okd] at h
  | n + 1, .dcT _ _, h => by simp [okd] at h
  | 0, .ins _ _ _, h => by simp [okd] at h
  | n + 1, .ins _ _ _, h => by simp [okd] at h
  | 0, .exn _ _ _, h => by simp [okd] at h
  | n + 1, .exn _ _ _, h => by simp [okd] at h
  | 0, .scr _, h => by simp [okd] at h
  | n + 1, .scr _, h => by simp [okd] at h
theorem okds_py : ∀ (n : Nat) (ds : List D), okds n ds = true → ∃ ps, toPys ds = some ps ∧ PyData.canLayAll0 ps = true ∧ PyData.depthAll ps ≤ n
  | n, [], _ => ⟨[], rfl, rfl, by simp [PyData.depthAll]⟩
  | n, d :: ds, h => by
    simp only [okds, Bool.and_eq_true] at h
    obtain ⟨p, e1, c1, l1⟩ := okd_py n d h.1
    obtain ⟨ps, e2, c2, l2⟩ := okds_py n ds h.2
    exact ⟨p :: ps, by simp [toPys, e1, e2], by simp [PyData.canLayAll0, c1, c2], by simp only [PyData.depthAll]; omega⟩
end

mutual
theorem eqv_py : ∀ (d e : D) (p q : PyData), toPy d = some p → toPy e = some q → PyData.eqv p q = eqv d e
  | .tup xs, e, p, q, h1, h2 => by
    simp only [toPy] at h1
    obtain ⟨ps, e1, rfl⟩ := Option.map_eq_some_iff.mp h1
    cases e with
    | tup ys =>
      simp only [toPy] at h2
      obtain ⟨qs, e2, rfl⟩ := Option.map_eq_some_iff.mp h2
      simp only [PyData.eqv, eqv]
      exact eqvs_py xs ys ps qs e1 e2
    | lst ys =>
      simp only [toPy] at h2
      obtain ⟨qs, e2, rfl⟩ := Option.map_eq_some_iff.mp h2
      simp [PyData.eqv, eqv]
    | _ => simp [toPy] at h2 <;> (try subst h2) <;> simp [PyData.eqv, eqv]
  | .lst xs, e, p, q, h1, h2 => by
    simp only [toPy] at h1
    obtain ⟨ps, e1, rfl⟩ := Option.map_eq_some_iff.mp h1
    cases e with
    | lst ys =>
      simp only [toPy] at h2
      obtain ⟨qs, e2, rfl⟩ := Option.map_eq_some_iff.mp h2
      simp only [PyData.eqv, eqv]
      exact eqvs_py xs ys ps qs e1 e2
    | tup ys =>
      simp only [toPy] at h2
      obtain ⟨qs, e2, rfl⟩ := Option.map_eq_some_iff.mp h2
      simp [PyData.eqv, eqv]
    | _ => simp [toPy] at h2 <;> (try subst h2) <;> simp [PyData.eqv, eqv]
  | .non, e, p, q, h1, h2 => by
    cases h1
    cases e <;> simp only [toPy, Option.map_eq_some_iff, Option.some.injEq, reduceCtorEq] at h2 <;> first | (obtain ⟨a, b, rfl⟩ := h2; simp [PyData.eqv, eqv]) | (subst h2; simp [PyData.eqv, eqv])
  | .bl _, e, p, q, h1, h2 => by
    cases h1
    cases e <;> simp only [toPy, Option.map_eq_some_iff, Option.some.injEq, reduceCtorEq] at h2 <;> first | (obtain ⟨a, b, rfl⟩ := h2; simp [PyData.eqv, eqv]) | (subst h2; simp [PyData.eqv, eqv])
  | .int _, e, p, q, h1, h2 => by
    cases h1
    cases e <;> simp only [toPy, Option.map_eq_some_iff, Option.some.injEq, reduceCtorEq] at h2 <;> first | (obtain ⟨a, b, rfl⟩ := h2; simp [PyData.eqv, eqv]) | (subst h2; simp [PyData.eqv, eqv])
  | .str _, e, p, q, h1, h2 => by
    cases h1
    cases e <;> simp only [toPy, Option.map_eq_some_iff, Option.some.injEq, reduceCtorEq] at h2 <;> first | (obtain ⟨a, b, rfl⟩ := h2; simp [PyData.eqv, eqv]) | (subst h2; simp [PyData.eqv, eqv])
  | .dct _ _, _, _, _, h1, _ => by cases h1
  | .dcT _ _, _, _, _, h1, _ => by cases h1
  | .ins _ _ _, _, _, _, h1, _ => by cases h1
  | .exn _ _ _, _, _, _, h1, _ => by cases h1
  | .scr _, _, _, _, h1, _ => by cases h1
theorem eqvs_py : ∀ (ds es : List D) (ps qs : List PyData), toPys ds = some ps → toPys es = some qs → PyData.eqvAll ps qs = eqvs ds es
  | [], [], _, _, h1, h2 => by cases h1; cases h2; simp [PyData.eqvAll, eqvs]
  | [], e :: es, _, _, h1, h2 => by
    cases h1
    simp only [toPys] at h2
    split at h2
    · cases h2; simp [PyData.eqvAll, eqvs]
    · cases h2
  | d :: ds, [], _, _, h1, h2 => by
    cases h2
    simp only [toPys] at h1
    split at h1
    · cases h1; simp [PyData.eqvAll, eqvs]
    · cases h1
  | d :: ds, e :: es, _, _, h1, h2 => by
    simp only [toPys] at h1 h2
    split at h1
    · rename_i p ps e1 e2
      cases h1
      split at h2
      · rename_i q qs e3 e4
        cases h2
        simp only [PyData.eqvAll, eqvs]
        rw [eqv_py d e p q e1 e3, eqvs_py ds es ps qs e2 e4]
      · cases h2
    · cases h1
end
/-- == of scalars -/
def scl : D → D → Option Bool
  | .int i, .int j => some (decide (i = j))
  | .bl a, .bl b => some (decide (a = b))
  | .str x, .str y => some (decide (x = y))
  | .non, .non => some true
  | .int _, .non => some false
  | .non, .int _ => some false
  | .str _, .non => some false
  | .non, .str _ => some false
  | .bl _, .non => some false
  | .non, .bl _ => some false
  | .int _, .str _ => some false
  | .str _, .int _ => some false
  | _, _ => none
def gEq (d e : D) : Option (D × Nat) := match scl d e with
  | some b => some (.bl b, 0)
  | none => if okd 30 d && okd 30 e then some (.bl (eqv d e), 0) else none
def gNe (d e : D) : Option (D × Nat) := match scl d e with
  | some b => some (.bl (!b), 0)
  | none => if okd 30 d && okd 30 e then some (.bl (!eqv d e), 0) else none
theorem scl_ok {x y : V} {d e : D} {k l : Nat} {o p : List Addr} {b : Bool} (rx : Rp K Z H x d k o) (ry : Rp K Z H y e l p) (h : scl d e = some b) : scal x y = true ∧ decide (x = y) = b := by
  cases rx <;> cases ry <;> simp [scl] at h <;> subst h <;> simp [scal]
theorem vr_eq : Vr2 K (fun x y H Q => rEq x y H Q ∨ rEqD K x y H Q) gEq := by
  intro Z H x y d e w Q hz rx ry eg k
  unfold gEq at eg
  split at eg
  · rename_i b eb
    cases eg
    obtain ⟨h1, h2⟩ := scl_ok rx ry eb
    refine .inl ⟨h1, ?_⟩
    rw [h2]
    exact Gr.q k (.bl _ _)
  · obtain ⟨ho, rfl⟩ := ite_some eg
    rw [Bool.and_eq_true] at ho
    obtain ⟨p, e1, c1, l1⟩ := okd_py 30 d ho.1
    obtain ⟨q, e2, c2, l2⟩ := okd_py 30 e ho.2
    refine .inr ⟨p, q, rx.dp e1, ry.dp e2, ?_, ?_, ?_⟩
    · unfold SeqAt.shaped; rw [c1, Bool.true_and]; exact decide_eq_true (by omega)
    · unfold SeqAt.shaped; rw [c2, Bool.true_and]; exact decide_eq_true (by omega)
    · rw [eqv_py d e p q e1 e2]
      exact Gr.q k (.bl _ _)
theorem vr_ne : Vr2 K (fun x y H Q => rNe x y H Q ∨ rNeD K x y H Q) gNe := by
  intro Z H x y d e w Q hz rx ry eg k
  unfold gNe at eg
  split at eg
  · rename_i b eb
    cases eg
    obtain ⟨h1, h2⟩ := scl_ok rx ry eb
    refine .inl ⟨h1, ?_⟩
    rw [h2]
    exact Gr.q k (.bl _ _)
  · obtain ⟨ho, rfl⟩ := ite_some eg
    rw [Bool.and_eq_true] at ho
    obtain ⟨p, e1, c1, l1⟩ := okd_py 30 d ho.1
    obtain ⟨q, e2, c2, l2⟩ := okd_py 30 e ho.2
    refine .inr ⟨p, q, rx.dp e1, ry.dp e2, ?_, ?_, ?_⟩
    · unfold SeqAt.shaped; rw [c1, Bool.true_and]; exact decide_eq_true (by omega)
    · unfold SeqAt.shaped; rw [c2, Bool.true_and]; exact decide_eq_true (by omega)
    · rw [eqv_py d e p q e1 e2]
      exact Gr.q k (.bl _ _)
theorem oEq {X : Cx} (hu : X.A.units + 64 < cLine) : OpR X (compareOp .Eq) (fun x y H Q => rEq x y H Q ∨ rEqD X.K x y H Q) := op_eq.or (op_eqD hu)
theorem oNe {X : Cx} (hu : X.A.units + 64 < cLine) : OpR X (compareOp .NotEq) (fun x y H Q => rNe x y H Q ∨ rNeD X.K x y H Q) := op_ne.or (op_neD hu)

/-! ### is None, is True -/
def gIs (neg : Bool) : D → D → Option (D × Nat)
  | d, .non => some (.bl (match d with | .non => !neg | _ => neg), 0)
  | .bl a, .bl b => some (.bl (if neg then !decide (a = b) else decide (a = b)), 0)
  | _, _ => none
theorem vr_is : Vr2 K (fun x y H Q => (y = .non ∧ Q (.bl (decide (x = .non))) H) ∨ rIsB x y H Q) (gIs false) := by
  intro Z H x y d e w Q hz rx ry eg k
  cases ry <;> simp only [gIs] at eg
  · cases eg
    refine .inl ⟨rfl, ?_⟩
    cases rx <;> exact Gr.q k (.bl _ _)
  · cases rx <;> simp only [gIs, Option.some.injEq, reduceCtorEq] at eg
    subst eg
    exact .inr ⟨_, _, rfl, rfl, Gr.q k (.bl _ _)⟩
  all_goals cases eg
theorem vr_isn : Vr2 K (fun x y H Q => (y = .non ∧ Q (.bl (!decide (x = .non))) H) ∨ rNotB x y H Q) (gIs true) := by
  intro Z H x y d e w Q hz rx ry eg k
  cases ry <;> simp only [gIs] at eg
  · cases eg
    refine .inl ⟨rfl, ?_⟩
    cases rx <;> exact Gr.q k (.bl _ _)
  · cases rx <;> simp only [gIs, Option.some.injEq, reduceCtorEq] at eg
    subst eg
    exact .inr ⟨_, _, rfl, rfl, Gr.q k (.bl _ _)⟩
  all_goals cases eg
theorem oIs {X : Cx} : OpR X (compareOp .Is) (fun x y H Q => (y = .non ∧ Q (.bl (decide (x = .non))) H) ∨ rIsB x y H Q) := op_isN.or op_isBl
theorem oIsn {X : Cx} : OpR X (compareOp .IsNot) (fun x y H Q => (y = .non ∧ Q (.bl (!decide (x = .non))) H) ∨ rNotB x y H Q) := op_notN.or op_notBl

/-! ### in -/
def flat : D → Bool
  | .non => true
  | .bl _ => true
  | .int _ => true
  | .str _ => true
  | _ => false
def inD (d : D) (ds : List D) : Bool := ds.any fun e => eqv e d
def gIn (neg : Bool) : D → D → Option (D × Nat)
  | d, .lst ds => if flat d ∧ ds.all flat then some (.bl (if neg then !inD d ds else inD d ds), 0) else none
  | d, .tup ds => if flat d ∧ ds.all flat then some (.bl (if neg then !inD d ds else inD d ds), 0) else none
  | d, .scr ds => if flat d ∧ ds.all flat then some (.bl (if neg then !inD d ds else inD d ds), 0) else none
  | _, _ => none
theorem Rp.flat {v : V} {d : D} {k : Nat} {o : List Addr} (r : Rp K Z H v d k o) (f : VS.flat d = true) : flatV v = true := by
  cases r <;> first | rfl | (simp [VS.flat] at f)
theorem RpAll.flats {vs : List V} {ds : List D} (r : RpAll K Z H vs ds 0 []) (f : ds.all VS.flat = true) : vs.all flatV = true := by
  induction vs generalizing ds with
  | nil => rfl
  | cons v vs ih =>
    cases ds with
    | nil => have := r.length; cases this
    | cons d ds =>
      obtain ⟨r1, r2⟩ := r.uncons
      rw [List.all_cons, Bool.and_eq_true] at f ⊢
      exact ⟨r1.flat f.1, ih r2 f.2⟩
theorem eqV_eqv {x y : V} {d e : D} {k l : Nat} {o p : List Addr} (rx : Rp K Z H x d k o) (ry : Rp K Z H y e l p) (f : VS.flat d = true) (f' : VS.flat e = true) : eqV y x = eqv e d := by
  cases rx <;> cases ry <;> first | rfl | (simp [VS.flat] at f) | (simp [VS.flat] at f') | simp [eqV, eqv]
theorem inV_inD {x : V} {d : D} {vs : List V} {ds : List D} (rx : Rp K Z H x d 0 []) (r : RpAll K Z H vs ds 0 []) (f : VS.flat d = true) (fs : ds.all VS.flat = true) : inV x vs = inD d ds := by
  induction vs generalizing ds with
  | nil =>
    cases ds with
    | nil => rfl
    | cons _ _ => have := r.length; cases this
  | cons v vs ih =>
    cases ds with
    | nil => have := r.length; cases this
    | cons d' ds =>
      obtain ⟨r1, r2⟩ := r.uncons
      rw [List.all_cons, Bool.and_eq_true] at fs
      have := ih r2 fs.2
      unfold inV inD at this ⊢
      rw [List.any_cons, List.any_cons, this, eqV_eqv rx r1 f fs.1]
theorem vr_in (neg : Bool) : Vr2 K (rIn K neg) (gIn neg) := by
  intro Z H x y d e w Q hz rx ry eg k
  generalize e0 : ([] : List Addr) = o0 at ry
  cases ry <;> simp only [gIn, reduceCtorEq] at eg
  · rename_i z h r
    obtain ⟨⟨h1, h2⟩, rfl⟩ := ite_some eg
    refine ⟨_, _, rfl, .inr (.of h), rx.flat h1, r.flats h2, ?_⟩
    rw [inV_inD rx r h1 h2]
    exact Gr.q k (.bl _ _)
  · rename_i z h r
    obtain ⟨⟨h1, h2⟩, rfl⟩ := ite_some eg
    refine ⟨_, _, rfl, .inl (.of h), rx.flat h1, r.flats h2, ?_⟩
    rw [inV_inD rx r h1 h2]
    exact Gr.q k (.bl _ _)
  · rename_i h r
    obtain ⟨⟨h1, h2⟩, rfl⟩ := ite_some eg
    refine ⟨_, _, rfl, h.elim (fun h => .inl h.sq) fun h => .inr h.sq, rx.flat h1, r.flats h2, ?_⟩
    rw [inV_inD rx r h1 h2]
    exact Gr.q k (.bl _ _)

/-! ### an item, a slice -/
def gIx : D → D → Option (D × Nat)
  | .lst ds, .int i => (atI ds i).map fun d => (d, 0)
  | .tup ds, .int i => (atI ds i).map fun d => (d, 0)
  | .scr ds, .int i => (atI ds i).map fun d => (d, 0)
  | _, _ => none
theorem RpAll.atI {vs : List V} {ds : List D} {i : Int} {d : D} (r : RpAll K Z H vs ds 0 []) (e : L2.atI ds i = some d) : ∃ v, L2.atI vs i = some v ∧ Rp K Z H v d 0 [] := by
  unfold L2.atI at e ⊢
  rw [r.length]
  cases h : ixN ds.length i with
  | none => rw [h] at e; cases e
  | some j =>
    rw [h] at e
    exact r.get e
theorem vr_ix : Vr2 K (rIx K) gIx := by
  intro Z H x y d e w Q hz rx ry eg k
  generalize e0 : ([] : List Addr) = o0 at rx
  cases rx <;> cases ry <;> simp only [gIx, reduceCtorEq] at eg
  · rename_i z h r _
    obtain ⟨d', e1, rfl⟩ := Option.map_eq_some_iff.mp eg
    obtain ⟨v, e2, rv⟩ := r.atI e1
    exact .inr (.inl ⟨_, _, _, v, rfl, rfl, .of h, e2, Gr.q k rv⟩)
  · rename_i z h r _
    obtain ⟨d', e1, rfl⟩ := Option.map_eq_some_iff.mp eg
    obtain ⟨v, e2, rv⟩ := r.atI e1
    exact .inl ⟨_, _, _, v, rfl, rfl, .of h, e2, Gr.q k rv⟩
  · rename_i h r _
    obtain ⟨d', e1, rfl⟩ := Option.map_eq_some_iff.mp eg
    obtain ⟨v, e2, rv⟩ := r.atI e1
    rcases h with h | h
    · exact .inl ⟨_, _, _, v, rfl, rfl, h.sq, e2, Gr.q k rv⟩
    · exact .inr (.inl ⟨_, _, _, v, rfl, rfl, h.sq, e2, Gr.q k rv⟩)
def cutD (xs : List D) (lo hi : Option Int) : List D := (xs.drop (HT.sIx xs.length 0 lo)).take (HT.sIx xs.length xs.length hi - HT.sIx xs.length 0 lo)
theorem RpAll.cut {vs : List V} {ds : List D} (r : RpAll K Z H vs ds 0 []) (lo hi : Option Int) : RpAll K Z H (cutV vs lo hi) (cutD ds lo hi) 0 [] := by
  unfold cutV cutD
  rw [r.length]
  exact (r.drop _).take _
def gSl : D → Option Int → Option Int → Option (D × Nat)
  | .lst ds, lo, hi => some (.lst (cutD ds lo hi), 1)
  | .tup ds, lo, hi => some (.tup (cutD ds lo hi), 0)
  | _, _, _ => none
end
end VS
/-! VS4: slices, built-in calls, borrowed reads. -/
namespace VS
open PySem PySem.Spec L2

section
variable {K : PySem.W.Frag} {Z Z' : Pz} {H H' : Hp}
/-! ### rows of ints, of pairs of ints -/
def intsOf : List D → Option (List Int)
  | [] => some []
  | .int i :: ds => (intsOf ds).map (i :: ·)
  | _ :: _ => none
@[simp] theorem intsOf_map (ns : List Int) : intsOf (ns.map .int) = some ns := by
  induction ns with
  | nil => rfl
  | cons n ns ih => simp [intsOf, ih]
theorem intsOf_some {ds : List D} {ns : List Int} (h : intsOf ds = some ns) : ds = ns.map .int := by
  induction ds generalizing ns with
  | nil => cases h; rfl
  | cons d ds ih =>
    cases d <;> simp [intsOf] at h
    obtain ⟨a, h1, h2⟩ := h
    rw [ih h1, ← h2]
    rfl
theorem RpAll.ints {vs : List V} {ns : List Int} (r : RpAll K Z H vs (ns.map .int) 0 []) : vs = ns.map V.int := by
  induction vs generalizing ns with
  | nil =>
    cases ns with
    | nil => rfl
    | cons _ _ => have := r.length; cases this
  | cons v vs ih =>
    cases ns with
    | nil => have := r.length; cases this
    | cons n ns =>
      obtain ⟨r1, r2⟩ := r.uncons
      cases r1
      rw [ih r2]
      rfl
theorem RpAll.of_ints (ns : List Int) : RpAll K Z H (ns.map V.int) (ns.map .int) 0 [] := by
  induction ns with
  | nil => exact .nil 0
  | cons n ns ih => exact .cons (o := []) (p := []) (.int n 0) ih
def pairsOf : List D → Option (List (Int × Int))
  | [] => some []
  | .tup [.int i, .int j] :: ds => (pairsOf ds).map ((i, j) :: ·)
  | _ :: _ => none
def prD (p : Int × Int) : D := .tup [.int p.1, .int p.2]
@[simp] theorem pairsOf_map (ps : List (Int × Int)) : pairsOf (ps.map prD) = some ps := by
  induction ps with
  | nil => rfl
  | cons n ns ih => simp [prD, pairsOf] ; simpa [prD] using ih
theorem pairsOf_some {ds : List D} {ps : List (Int × Int)} (h : pairsOf ds = some ps) : ds = ps.map prD := by
  induction ds generalizing ps with
  | nil => cases h; rfl
  | cons d ds ih =>
    unfold pairsOf at h
    split at h
    · cases ‹_ :: _ = []›
    · rename_i i j ds' e
      cases e
      obtain ⟨a, h1, h2⟩ := Option.map_eq_some_iff.mp h
      rw [ih h1, ← h2]
      rfl
    · cases h

/-! ### slices -/
theorem vr_sl : ∀ (Z : Pz) (H : Hp) (x : V) (d : D) (lo hi : Option Int) (w : D × Nat) (Q : VK), (∀ a, Z a → ∃ o, H a = some o) → Rp K Z H x d 0 [] → gSl d lo hi = some w →
    (∀ v Z' H' o, Gr Z H Z' H' o → Rp K Z' H' v w.1 w.2 o → Q v H') → (rSlL K x lo hi H Q ∨ rSlA K x lo hi H Q) := by
  intro Z H x d lo hi w Q hz rx eg k
  generalize e0 : ([] : List Addr) = o0 at rx
  cases rx <;> simp only [gSl, reduceCtorEq] at eg
  · rename_i a xs ds z h r
    cases eg
    refine .inr ⟨_, _, rfl, .of h, fun e => ?_, fun _ p hp => ?_⟩
    · refine Gr.q k ?_
      have : cutD ds lo hi = ds := by
        unfold cutD
        rw [← r.length, e.1, e.2, List.drop_zero, Nat.sub_zero, r.length, List.take_length]
      rw [this]
      exact .tup 0 z h r
    · exact k (.ref p) (fun a => Z a ∨ a = p) _ [] (Gr.fz hp) (.tup 0 (.inr rfl) upd_same (Gr.rpAll (Gr.fz hp) hz (r.cut lo hi)))
  · rename_i z h r
    cases eg
    refine .inl ⟨_, _, rfl, .of h, fun p hp => ?_⟩
    exact k (.ref p) Z _ [p] (Gr.cell hz hp) (.lstS (o := []) upd_same (Gr.rpAll (Gr.cell hz hp) hz (r.cut lo hi)))
theorem sl_all {X : Cx} : SlR X (fun x lo hi H Q => rSlL X.K x lo hi H Q ∨ rSlA X.K x lo hi H Q) := sl_list.or sl_tupA

/-! ### built-ins -/
def gLen : D → Option (D × Nat)
  | .lst ds => some (.int ds.length, 0)
  | .tup ds => some (.int ds.length, 0)
  | .scr ds => some (.int ds.length, 0)
  | .str s => if s.length ≤ sizeLine then some (.int s.length, 0) else none
  | _ => none
theorem vr_len : VrN K (fun xs H Q => (∃ p ys, xs = [.ref p] ∧ (SqL K H p ys ∨ SqT K H p ys) ∧ Q (.int ys.length) H) ∨ (∃ z, xs = [.str z] ∧ z.length ≤ sizeLine ∧ Q (.int z.length) H)) (un1 gLen) := by
  refine VrN.un1 fun Z H x d w Q hz rx eg k => ?_
  generalize e0 : ([] : List Addr) = o0 at rx
  cases rx <;> simp only [gLen, reduceCtorEq, Option.some.injEq] at eg
  · obtain ⟨hl, rfl⟩ := ite_some eg
    exact .inr ⟨_, rfl, hl, Gr.q k (.int _ _)⟩
  · rename_i z h r
    subst eg
    exact .inl ⟨_, _, rfl, .inr (.of h), Gr.q k (by rw [r.length]; exact .int _ _)⟩
  · rename_i z h r
    subst eg
    exact .inl ⟨_, _, rfl, .inl (.of h), Gr.q k (by rw [r.length]; exact .int _ _)⟩
  · rename_i h r
    subst eg
    exact .inl ⟨_, _, rfl, h.elim (fun h => .inl h.sq) fun h => .inr h.sq, Gr.q k (by rw [r.length]; exact .int _ _)⟩
theorem cLen {X : Cx} : CallR X (.builtin "len") (fun xs H Q => (∃ p ys, xs = [.ref p] ∧ (SqL X.K H p ys ∨ SqT X.K H p ys) ∧ Q (.int ys.length) H) ∨ (∃ z, xs = [.str z] ∧ z.length ≤ sizeLine ∧ Q (.int z.length) H)) := call_len_seq.or call_len_str
def gList : D → Option (D × Nat)
  | .lst ds => some (.lst ds, 1)
  | .tup ds => some (.lst ds, 1)
  | _ => none
theorem vr_list : VrN K (fun xs H Q => ∃ p ys, xs = [.ref p] ∧ (SqL K H p ys ∨ SqT K H p ys) ∧ ∀ l, H l = none → Q (.ref l) (upd H l (.lst ys))) (un1 gList) := by
  refine VrN.un1 fun Z H x d w Q hz rx eg k => ?_
  generalize e0 : ([] : List Addr) = o0 at rx
  cases rx <;> simp only [gList, reduceCtorEq, Option.some.injEq] at eg
  · rename_i z h r
    subst eg
    exact ⟨_, _, rfl, .inr (.of h), fun p hp => k (.ref p) Z _ [p] (Gr.cell hz hp) (.lstS (o := []) upd_same (Gr.rpAll (Gr.cell hz hp) hz r))⟩
  · rename_i z h r
    subst eg
    exact ⟨_, _, rfl, .inl (.of h), fun p hp => k (.ref p) Z _ [p] (Gr.cell hz hp) (.lstS (o := []) upd_same (Gr.rpAll (Gr.cell hz hp) hz r))⟩
def gTuple : D → Option (D × Nat)
  | .lst ds => some (.tup ds, 0)
  | .tup ds => some (.tup ds, 0)
  | _ => none
theorem vr_tuple : VrN K (fun xs H Q => ∃ p ys, xs = [.ref p] ∧ ((SqL K H p ys ∧ ∀ l, H l = none → Q (.ref l) (upd H l (.tup ys))) ∨ (SqT K H p ys ∧ Q (.ref p) H))) (un1 gTuple) := by
  refine VrN.un1 fun Z H x d w Q hz rx eg k => ?_
  generalize e0 : ([] : List Addr) = o0 at rx
  cases rx <;> simp only [gTuple, reduceCtorEq, Option.some.injEq] at eg
  · rename_i z h r
    subst eg
    exact ⟨_, _, rfl, .inr ⟨.of h, Gr.q k (.tup 0 z h r)⟩⟩
  · rename_i z h r
    subst eg
    exact ⟨_, _, rfl, .inl ⟨.of h, fun p hp => k (.ref p) (fun a => Z a ∨ a = p) _ [] (Gr.fz hp) (.tup 0 (.inr rfl) upd_same (Gr.rpAll (Gr.fz hp) hz r))⟩⟩
def gInt : D → Option (D × Nat)
  | .int i => some (.int i, 0)
  | .bl b => some (.int (if b then 1 else 0), 0)
  | _ => none
theorem vr_int : VrN K (fun xs H Q => (∃ i, xs = [.int i] ∧ Q (.int i) H) ∨ ∃ k, xs = [.bl k] ∧ Q (.int (if k then 1 else 0)) H) (un1 gInt) := by
  refine VrN.un1 fun Z H x d w Q hz rx eg k => ?_
  cases rx <;> simp only [gInt, reduceCtorEq, Option.some.injEq] at eg
  · subst eg; exact .inr ⟨_, rfl, Gr.q k (.int _ _)⟩
  · subst eg; exact .inl ⟨_, rfl, Gr.q k (.int _ _)⟩
def gStr : D → Option (D × Nat)
  | .int i => if i.natAbs.log2 < 1920 then some (.str (toString i : String), 0) else none
  | _ => none
theorem vr_str : VrN K (fun xs H Q => ∃ i, xs = [.int i] ∧ i.natAbs.log2 < 1920 ∧ Q (.str (toString i : String)) H) (un1 gStr) := by
  refine VrN.un1 fun Z H x d w Q hz rx eg k => ?_
  cases rx <;> simp only [gStr, reduceCtorEq] at eg
  obtain ⟨h, rfl⟩ := ite_some eg
  exact ⟨_, rfl, h, Gr.q k (.str _ _)⟩
def gMax2 : D → D → Option (D × Nat)
  | .int i, .int j => some (.int (max i j), 0)
  | _, _ => none
def gMin2 : D → D → Option (D × Nat)
  | .int i, .int j => some (.int (min i j), 0)
  | _, _ => none
def gMin1 : D → Option (D × Nat)
  | .lst ds => match intsOf ds with
    | some (n :: ns) => some (.int (ns.foldl min n), 0)
    | _ => none
  | _ => none
def gMax1 : D → Option (D × Nat)
  | .lst ds => match intsOf ds with
    | some (n :: ns) => some (.int (ns.foldl max n), 0)
    | _ => none
  | _ => none
def gMin : List D → Option (D × Nat)
  | [d] => gMin1 d
  | [d, e] => gMin2 d e
  | _ => none
def gMax : List D → Option (D × Nat)
  | [d] => gMax1 d
  | [d, e] => gMax2 d e
  | _ => none
theorem foldl_min_le (ns : List Int) : ∀ n, (ns.foldl min n = n ∨ ns.foldl min n ∈ ns) ∧ ns.foldl min n ≤ n ∧ ∀ y ∈ ns, ns.foldl min n ≤ y := by
  induction ns with
  | nil => intro n; simp
  | cons a ns ih =>
    intro n
    obtain ⟨h1, h2, h3⟩ := ih (min n a)
    rw [List.foldl_cons]
    refine ⟨?_, by omega, fun y hy => ?_⟩
    · rcases h1 with h | h
      · rw [h]
        by_cases c : n ≤ a
        · exact .inl (Int.min_eq_left c)
        · exact .inr (by rw [Int.min_eq_right (by omega)]; exact List.mem_cons_self)
      · exact .inr (List.mem_cons_of_mem _ h)
    · rcases List.mem_cons.mp hy with rfl | hy
      · omega
      · exact h3 y hy
theorem foldl_max_ge (ns : List Int) : ∀ n, (ns.foldl max n = n ∨ ns.foldl max n ∈ ns) ∧ n ≤ ns.foldl max n ∧ ∀ y ∈ ns, y ≤ ns.foldl max n := by
  induction ns with
  | nil => intro n; simp
  | cons a ns ih =>
    intro n
    obtain ⟨h1, h2, h3⟩ := ih (max n a)
    rw [List.foldl_cons]
    refine ⟨?_, by omega, fun y hy => ?_⟩
    · rcases h1 with h | h
      · rw [h]
        by_cases c : n ≤ a
        · exact .inr (by rw [Int.max_eq_right c]; exact List.mem_cons_self)
        · exact .inl (Int.max_eq_left (by omega))
      · exact .inr (List.mem_cons_of_mem _ h)
    · rcases List.mem_cons.mp hy with rfl | hy
      · omega
      · exact h3 y hy
theorem vr_min : VrN K (fun xs H Q => rMin K xs H Q ∨ ∃ i j, xs = [.int i, .int j] ∧ Q (.int (if j < i then j else i)) H) gMin := by
  intro Z H xs ds w Q hz ra eg k
  unfold gMin at eg
  split at eg
  · rename_i d
    cases d <;> simp only [gMin1, reduceCtorEq] at eg
    split at eg
    · rename_i ds n ns e
      cases eg
      have e1 := intsOf_some e
      subst e1
      cases xs with
      | nil => have := ra.length; cases this
      | cons x xs =>
        obtain ⟨r1, r2⟩ := ra.uncons
        cases xs with
        | cons _ _ => have := r2.length; cases this
        | nil =>
          generalize e0 : ([] : List Addr) = o0 at r1
          cases r1 with
          | lst0 z h r =>
            have ev := r.ints
            subst ev
            obtain ⟨h1, h2, h3⟩ := foldl_min_le ns n
            refine .inl ⟨_, n :: ns, rfl, .of h, by simp, fun m hm hle => ?_⟩
            have em : m = ns.foldl min n := by
              have a1 : ns.foldl min n ∈ n :: ns := by
                rcases h1 with h | h
                · rw [h]; exact List.mem_cons_self
                · exact List.mem_cons_of_mem _ h
              have a2 := hle _ a1
              have a3 : ns.foldl min n ≤ m := by
                rcases List.mem_cons.mp hm with rfl | hm
                · exact h2
                · exact h3 m hm
              omega
            rw [em]
            exact Gr.q k (.int _ _)
    · cases eg
  · rename_i d e
    cases xs with
    | nil => have := ra.length; cases this
    | cons x xs =>
      obtain ⟨r1, ra2⟩ := ra.uncons
      clear ra
      cases xs with
      | nil => have := ra2.length; cases this
      | cons y xs =>
        obtain ⟨r2, ra3⟩ := ra2.uncons
        clear ra2
        cases xs with
        | cons _ _ => have := ra3.length; cases this
        | nil =>
          clear ra3
          unfold gMin2 at eg
          split at eg
          · rename_i i j
            cases eg
            cases r1
            cases r2
            refine .inr ⟨i, j, rfl, Gr.q k ?_⟩
            have : (if j < i then j else i) = min i j := by split <;> omega
            rw [this]
            exact .int _ _
          · cases eg
  · cases eg
theorem vr_max : VrN K (fun xs H Q => rMax K xs H Q ∨ ∃ i j, xs = [.int i, .int j] ∧ Q (.int (if j > i then j else i)) H) gMax := by
  intro Z H xs ds w Q hz ra eg k
  unfold gMax at eg
  split at eg
  · rename_i d
    cases d <;> simp only [gMax1, reduceCtorEq] at eg
    split at eg
    · rename_i ds n ns e
      cases eg
      have e1 := intsOf_some e
      subst e1
      cases xs with
      | nil => have := ra.length; cases this
      | cons x xs =>
        obtain ⟨r1, r2⟩ := ra.uncons
        cases xs with
        | cons _ _ => have := r2.length; cases this
        | nil =>
          generalize e0 : ([] : List Addr) = o0 at r1
          cases r1 with
          | lst0 z h r =>
            have ev := r.ints
            subst ev
            obtain ⟨h1, h2, h3⟩ := foldl_max_ge ns n
            refine .inl ⟨_, n :: ns, rfl, .of h, by simp, fun m hm hle => ?_⟩
            have em : m = ns.foldl max n := by
              have a1 : ns.foldl max n ∈ n :: ns := by
                rcases h1 with h | h
                · rw [h]; exact List.mem_cons_self
                · exact List.mem_cons_of_mem _ h
              have a2 := hle _ a1
              have a3 : m ≤ ns.foldl max n := by
                rcases List.mem_cons.mp hm with rfl | hm
                · exact h2
                · exact h3 m hm
              omega
            rw [em]
            exact Gr.q k (.int _ _)
    · cases eg
  · rename_i d e
    cases xs with
    | nil => have := ra.length; cases this
    | cons x xs =>
      obtain ⟨r1, ra2⟩ := ra.uncons
      clear ra
      cases xs with
      | nil => have := ra2.length; cases this
      | cons y xs =>
        obtain ⟨r2, ra3⟩ := ra2.uncons
        clear ra2
        cases xs with
        | cons _ _ => have := ra3.length; cases this
        | nil =>
          clear ra3
          unfold gMax2 at eg
          split at eg
          · rename_i i j
            cases eg
            cases r1
            cases r2
            refine .inr ⟨i, j, rfl, Gr.q k ?_⟩
            have : (if j > i then j else i) = max i j := by split <;> omega
            rw [this]
            exact .int _ _
          · cases eg
  · cases eg
theorem cMin {X : Cx} (hc : X.calm = true) : CallR X (.builtin "min") (fun xs H Q => rMin X.K xs H Q ∨ ∃ i j, xs = [.int i, .int j] ∧ Q (.int (if j < i then j else i)) H) := (cr_min hc).or (call_min2 hc)
theorem cMax {X : Cx} (hc : X.calm = true) : CallR X (.builtin "max") (fun xs H Q => rMax X.K xs H Q ∨ ∃ i j, xs = [.int i, .int j] ∧ Q (.int (if j > i then j else i)) H) := (cr_max hc).or (call_max2 hc)
def gSum : D → Option (D × Nat)
  | .lst ds => (intsOf ds).map fun ns => (.int ns.sum, 0)
  | _ => none
theorem vr_sum : VrN K (rSum K) (un1 gSum) := by
  refine VrN.un1 fun Z H x d w Q hz rx eg k => ?_
  generalize e0 : ([] : List Addr) = o0 at rx
  cases rx <;> simp only [gSum, reduceCtorEq] at eg
  obtain ⟨ns, e, rfl⟩ := Option.map_eq_some_iff.mp eg
  rename_i z h r
  have e1 := intsOf_some e
  subst e1
  have ev := r.ints
  subst ev
  exact ⟨_, ns, rfl, .of h, Gr.q k (.int _ _)⟩

/-! ### sorted -/
def srtI (ns : List Int) : List Int := ns.mergeSort fun x y => decide (x ≤ y)
def lexLe (p q : Int × Int) : Bool := decide (p.1 < q.1) || (decide (p.1 = q.1) && decide (p.2 ≤ q.2))
def srtP (ps : List (Int × Int)) : List (Int × Int) := ps.mergeSort lexLe
def gSorted : D → Option (D × Nat)
  | .lst ds => match intsOf ds with
    | some ns => some (.lst ((srtI ns).map .int), 1)
    | none => match pairsOf ds with
      | some ps => some (.lst ((srtP ps).map prD), 1)
      | none => none
  | _ => none
theorem lexLe_iff {p q : Int × Int} : lexLe p q = true ↔ p.1 < q.1 ∨ (p.1 = q.1 ∧ p.2 ≤ q.2) := by
  unfold lexLe
  rw [Bool.or_eq_true, Bool.and_eq_true, decide_eq_true_eq, decide_eq_true_eq, decide_eq_true_eq]
theorem srtP_perm (ps : List (Int × Int)) : (srtP ps).Perm ps := List.mergeSort_perm _ _
theorem srtP_sorted (ps : List (Int × Int)) : (srtP ps).Pairwise (fun p q => lexLe p q = true) := by
  refine List.pairwise_mergeSort (le := lexLe) (fun a b c h1 h2 => ?_) (fun a b => ?_) ps
  · rw [lexLe_iff] at h1 h2 ⊢
    omega
  · rw [Bool.or_eq_true, lexLe_iff, lexLe_iff]
    omega
theorem srtP_uniq {ps qs : List (Int × Int)} (hp : qs.Perm ps) (hs : qs.Pairwise (fun p q => lexLe p q = true)) : qs = srtP ps := by
  refine List.Perm.eq_of_pairwise (fun x y _ _ h1 h2 => ?_) hs (srtP_sorted ps) (hp.trans (srtP_perm ps).symm)
  rw [lexLe_iff] at h1 h2
  obtain ⟨a, b⟩ := x
  obtain ⟨c, d⟩ := y
  simp only at h1 h2
  have e1 : a = c := by omega
  have e2 : b = d := by omega
  rw [e1, e2]
/-- how a pair's cell reads -/
theorem pair_cell {v : V} {p : Int × Int} (r : Rp K Z H v (prD p) 0 []) : ∃ t, v = .ref t ∧ H t = some (.tup [.int p.1, .int p.2]) ∧ Z t := by
  unfold prD at r
  generalize e0 : ([] : List Addr) = o0 at r
  cases r with
  | tup _ z h r =>
    have := RpAll.ints (ns := [p.1, p.2]) r
    subst this
    exact ⟨_, rfl, h, z⟩
theorem vr_sorted : VrN K (fun xs H Q => rSortedI K xs H Q ∨ rSortedPO K xs H Q) (un1 gSorted) := by
  refine VrN.un1 fun Z H x d w Q hz rx eg k => ?_
  generalize e0 : ([] : List Addr) = o0 at rx
  cases rx <;> simp only [gSorted, reduceCtorEq] at eg
  rename_i a xs ds z h r
  split at eg
  · rename_i ns e
    cases eg
    have e1 := intsOf_some e
    subst e1
    have ev := r.ints
    subst ev
    refine .inl ⟨_, ns, rfl, .of h, fun ns' p hp hs hn => ?_⟩
    have e2 : ns' = srtI ns := PySem.W.os_sorted_mergeSort hp hs
    subst e2
    exact k (.ref p) Z _ [p] (Gr.cell hz hn) (.lstS (o := []) upd_same (RpAll.of_ints _))
  · split at eg
    · rename_i ps e
      cases eg
      have e1 := pairsOf_some e
      subst e1
      -- each value's pair
      have hget : ∀ x ∈ xs, ∃ q ∈ ps, ∃ t, x = V.ref t ∧ H t = some (.tup [.int q.1, .int q.2]) ∧ Z t := fun x hx => by
        obtain ⟨i, hi⟩ := List.getElem?_of_mem hx
        obtain ⟨d, e2, r2⟩ := r.get2 hi
        rw [List.getElem?_map] at e2
        obtain ⟨q, e3, rfl⟩ := Option.map_eq_some_iff.mp e2
        obtain ⟨t, h1, h2, h3⟩ := pair_cell r2
        exact ⟨q, List.mem_of_getElem? e3, t, h1, h2, h3⟩
      let kf : V → Int × Int := fun v => match v with
        | .ref t => match H t with
          | some (.tup [.int i, .int j]) => (i, j)
          | _ => (0, 0)
        | _ => (0, 0)
      have hk : ∀ x t i j, x = V.ref t → H t = some (.tup [.int i, .int j]) → kf x = (i, j) := fun x t i j e1 e2 => by
        subst e1
        show (match H t with | some (.tup [.int i, .int j]) => (i, j) | _ => (0, 0)) = (i, j)
        rw [e2]
      refine .inr ⟨_, xs, kf, rfl, .of h, fun x hx => ?_, fun ys p hs hb hn => ?_⟩
      · obtain ⟨q, _, t, h1, h2, _⟩ := hget x hx
        rw [hk x t q.1 q.2 h1 h2]
        exact ⟨t, h1, h2⟩
      · have ep : (ys.map kf).Perm ps := by
          have e2 : xs.map kf = ps := by
            refine List.ext_getElem? fun i => ?_
            rw [List.getElem?_map]
            cases e3 : xs[i]? with
            | none =>
              have hl := r.length
              rw [List.length_map] at hl
              rw [List.getElem?_eq_none_iff] at e3
              exact (List.getElem?_eq_none_iff.mpr (by omega)).symm
            | some x =>
              obtain ⟨d, e4, r2⟩ := r.get2 e3
              rw [List.getElem?_map] at e4
              obtain ⟨q, e5, rfl⟩ := Option.map_eq_some_iff.mp e4
              obtain ⟨t, h1, h2, _⟩ := pair_cell r2
              rw [e5]
              show some (kf x) = some q
              rw [hk x t q.1 q.2 h1 h2]
          rw [← e2]
          exact hb.perm.map kf
        have es : (ys.map kf).Pairwise (fun p q => lexLe p q = true) := by
          refine List.pairwise_map.mpr (List.Pairwise.imp (fun {a b} hab => ?_) hs)
          rw [lexLe_iff]
          have := SrtO.lexB_no.mp (by simpa using hab)
          omega
        have eu := srtP_uniq ep es
        rw [← eu] at k
        refine k (.ref p) Z _ [p] (Gr.cell hz hn) (.lstS (o := []) upd_same ?_)
        refine .mk (by simp) fun i v d e1 e2 => ?_
        rw [List.map_map, List.getElem?_map, e1] at e2
        cases e2
        obtain ⟨q, _, t, h1, h2, h3⟩ := hget v (hb.perm.mem_iff.mp (List.mem_of_getElem? e1))
        show Rp K Z _ v (prD (kf v)) 0 []
        rw [hk v t q.1 q.2 h1 h2]
        subst h1
        have ht : t ≠ p := ne_of_none h2 hn
        exact .tup 0 h3 (by rw [upd_ne ht]; exact h2) (RpAll.of_ints [q.1, q.2])
    · cases eg
theorem cSorted {X : Cx} : CallR X (.builtin "sorted") (fun xs H Q => rSortedI X.K xs H Q ∨ rSortedPO X.K xs H Q) := cr_sortedI.or cr_sortedPO
end
end VS
/-! VS5: targets, what is walked, list comprehensions, calls of the text's own defs. -/
namespace VS
open PySem PySem.Spec L2

/-! ### isinstance -/
def tyN : D → String
  | .non => "NoneType"
  | .bl _ => "bool"
  | .int _ => "int"
  | .str _ => "str"
  | .tup _ => "tuple"
  | .lst _ => "list"
  | .dct _ _ => "dict"
  | .dcT _ _ => "dict"
  | .ins _ _ _ => "object"
  | .exn _ _ _ => "?"
  | .scr _ => "?"
def isiD (T : String) (d : D) : Bool := tyN d == T || (tyN d == "bool" && T == "int")
def okTy : List String := ["bool", "int", "str", "tuple", "list", "dict"]
def gIsi (T : String) : D → Option (D × Nat)
  | .ins _ _ _ => none
  | .exn _ _ _ => none
  | .scr _ => none
  | d => some (.bl (isiD T d), 0)
theorem kitB_ok : (["NoneType", "bool", "int", "str", "tuple", "list", "dict"].all fun t => okTy.all fun T => decide (kitB t T = some (t == T || (t == "bool" && T == "int")))) = true := by decide +kernel
theorem kitB_of {t T : String} (h : t ∈ ["NoneType", "bool", "int", "str", "tuple", "list", "dict"]) (h' : T ∈ okTy) : kitB t T = some (t == T || (t == "bool" && T == "int")) := by
  have q := kitB_ok
  rw [List.all_eq_true] at q
  have q2 := q t h
  rw [List.all_eq_true] at q2
  exact of_decide_eq_true (q2 T h')
section
variable {X : Cx} {W : WX} {pos p q : Pos} {a : Expr} {fa : Ev}
theorem Rp.tyX {K : PySem.W.Frag} {Z : Pz} {H : Hp} {v : V} {d : D} (r : Rp K Z H v d 0 []) {w : D × Nat} {T : String} (h : gIsi T d = some w) : TyX K H v (.type (tyN d)) ∧ tyN d ∈ ["NoneType", "bool", "int", "str", "tuple", "list", "dict"] ∧ w = (.bl (isiD T d), 0) := by
  generalize e0 : ([] : List Addr) = o0 at r
  cases r with
  | non => cases h; exact ⟨.base .non, by decide, rfl⟩
  | bl b => cases h; exact ⟨.base (.bl b), by simp [tyN], rfl⟩
  | int i => cases h; exact ⟨.base (.int i), by simp [tyN], rfl⟩
  | str s => cases h; exact ⟨.base (.str s), by simp [tyN], rfl⟩
  | tup _ z e r => cases h; exact ⟨.base (.tup e), by simp [tyN], rfl⟩
  | lst0 z e r => cases h; exact ⟨.base (.lst e), by simp [tyN], rfl⟩
  | scr => cases h
  | dct0 z e l r => cases h; exact ⟨.base (.dK e), by simp [tyN], rfl⟩
  | dcT0 z e l r => cases h; exact ⟨.base (.dT e), by simp [tyN], rfl⟩
  | ins0 => cases h
  | exn => cases h
  | exnD => cases h
theorem se_isi {T : String} {x : Str} (ha : SE X W a fa) (hg : Gl X "isinstance") (hm : X.mg "isinstance" = none) (hgT : Gl X x) (hmT : X.mg x = none) (hT : bootBuiltins x = some (.type T)) (hok : T ∈ okTy := by decide) (hnT : x ≠ "__name__" := by decide) (hdT : (x == ("__debug__" : Str)) = false := by decide)
    (hst : starEach [a, .Name x q] X.env = (false, eval a X.env) :: starEach [.Name x q] X.env := by rfl) (hst2 : starEach [.Name x q] X.env = (false, eval (.Name x q) X.env) :: starEach [] X.env := by rfl) (hpl : (backTo pos (starEach [.Name x q] X.env)).any (·.1) = false := by rfl) :
    SE X W (.Call (.Name "isinstance" p) [a, .Name x q] [] pos) (op1 (gIsi T) fa) := by
  have hb : PE X (.Name x q) (tC (.ty T)) := pe_bltn hgT hmT hT rfl hnT hdT
  refine PE.imp (pe_callB (call_isi (X := X)) hg hm (by decide +kernel) (pa_cons ha (pa_cons hb pa_nil hst2) hst) (by decide) (by decide) hst hpl) fun σ H Q ⟨Z, F, sd, ok, h⟩ => ?_
  refine eP.seq (G := fun _ _ => True) ok (fun w1 sd1 e1 v1 Z1 H1 r1 ok1 x1 => ?_) (fun x sd1 e1 => ?_) (fun e1 => ?_)
  · unfold op1 at h
    rw [e1, R.bind_ok] at h
    cases eg : gIsi T w1.1 with
    | none => rw [eg] at h; exact h.elim
    | some w =>
      rw [eg, lift_some] at h
      obtain ⟨ty, hm, rfl⟩ := r1.tyX eg
      exact ⟨v1, .ty T, _, _, _, rfl, .ty T, ty, kit_ty (kitB_of hm hok), h.pure x1 ok1 (.bl _ _)⟩
  · unfold op1 at h; rw [e1] at h; exact h
  · unfold op1 at h; rw [e1] at h; exact h

/-! ### an item of what a name holds, a slice -/
theorem se_ix {b : Expr} {fb : Ev} (ha : SE X W a fa) (hb : SE X W b fb) (hs : PlainIx b := by exact fun _ _ => rfl) : SE X W (.Subscript a b pos) (op2 gIx fa fb) :=
  PE.imp (pe_ix ix_seq ha hb hs) fun _ _ _ h => tE_op2 vr_ix h
/-- x[i], x a name: its row stays as it is (what lies deeper is frozen) -/
def ixv (i : Nat) (fb : Ev) : Ev := fun sd => match sd[i]? with
  | some (some _) => (fb sd).bind fun y sd1 => match sd1[i]? with
    | some (some (d, k)) => match gIx d y.1 with
      | some w => .ok (w.1, 0) (sd1.set i (some (d, min k 1)))
      | none => .stuck
    | _ => .stuck
  | _ => .stuck
theorem Ok.slot {K : PySem.W.Frag} {Z F : Pz} {H : Hp} {σ : St} {sd : SD} {i : Nat} {w : D × Nat} (ok : Ok K Z F H σ sd) (e : sd[i]? = some (some w)) : ∃ v, σ[i]? = some (some v) := by
  obtain ⟨v, p, e1, _⟩ := ok.take (d := w.1) (k := w.2) e
  exact ⟨v, e1⟩
theorem Rp.open1 {K : PySem.W.Frag} {Z : Pz} {H : Hp} {v : V} {d : D} {k : Nat} {p : List Addr} (r : Rp K Z H v d k p) (nd : p.Nodup) :
    ∃ q1 q2, Rp K (uni Z q2) H v d (min k 1) q1 ∧ (∀ a, a ∈ p ↔ a ∈ q1 ∨ a ∈ q2) ∧ q1.Nodup ∧ (∀ a ∈ q1, a ∉ q2) := by
  cases r with
  | non => exact ⟨[], [], .non _, by simp, .nil, by simp⟩
  | bl b => exact ⟨[], [], .bl _ _, by simp, .nil, by simp⟩
  | int b => exact ⟨[], [], .int _ _, by simp, .nil, by simp⟩
  | str b => exact ⟨[], [], .str _ _, by simp, .nil, by simp⟩
  | tup _ z h r => exact ⟨[], [], .tup _ (.inl z) h (r.freeze (fun _ z => .inl z) fun a m => absurd m List.not_mem_nil), by simp, .nil, by simp⟩
  | lst0 z h r => exact ⟨[], [], .lst0 (.inl z) h (r.freeze (fun _ z => .inl z) fun a m => absurd m List.not_mem_nil), by simp, .nil, by simp⟩
  | scr _ h r => exact ⟨[], [], (Rp.scr _ h r).keep (fun a z => ⟨.inl z, rfl⟩) fun a m => rfl, by simp, .nil, by simp⟩
  | dct0 z h l r => exact ⟨[], [], .dct0 (.inl z) h l (r.freeze (fun _ z => .inl z) fun a m => absurd m List.not_mem_nil), by simp, .nil, by simp⟩
  | dcT0 z h l r => exact ⟨[], [], .dcT0 (.inl z) h l (r.freeze (fun _ z => .inl z) fun a m => absurd m List.not_mem_nil), by simp, .nil, by simp⟩
  | exn _ z h h1 h2 h3 h4 => exact ⟨[], [], .exn _ (.inl z) h h1 h2 h3 h4, by simp, .nil, by simp⟩
  | exnD _ z z2 h h1 h2 h3 h4 h5 r => exact ⟨[], [], .exnD _ (.inl z) (.inl z2) h h1 h2 h3 h4 h5 (r.freeze (fun _ z => .inl z) fun a m => absurd m List.not_mem_nil), by simp, .nil, by simp⟩
  | ins0 z z2 h h2 l c r => exact ⟨[], [], .ins0 (.inl z) (.inl z2) h h2 l c (r.freeze (fun _ z => .inl z) fun a m => absurd m List.not_mem_nil), by simp, .nil, by simp⟩
  | @dcTS a ks xs ds k' o h l r =>
    refine ⟨[a], o, ?_, by simp, by simp, fun b m => ?_⟩
    · have e : min (k' + 1) 1 = 0 + 1 := by omega
      rw [e]
      exact .dcTS (o := []) h l (r.freeze (fun _ z => .inl z) fun a m => .inr m)
    · rw [List.mem_singleton] at m
      rw [m]
      exact (List.nodup_cons.mp nd).1
  | @insS a C dx c fs xs ds k' o h h2 l cc r =>
    obtain ⟨n1, n2⟩ := List.nodup_cons.mp nd
    obtain ⟨n3, n4⟩ := List.nodup_cons.mp n2
    refine ⟨[a, dx], o, ?_, by simp [or_assoc], ?_, fun b m => ?_⟩
    · have e : min (k' + 1) 1 = 0 + 1 := by omega
      rw [e]
      exact .insS (o := []) h h2 l cc (r.freeze (fun _ z => .inl z) fun a m => .inr m)
    · refine List.nodup_cons.mpr ⟨fun m => n1 ?_, List.nodup_cons.mpr ⟨List.not_mem_nil, .nil⟩⟩
      rw [List.mem_singleton] at m
      rw [m]; exact List.mem_cons_self
    · rcases List.mem_cons.mp m with m | m
      · rw [m]; exact fun z => n1 (List.mem_cons_of_mem _ z)
      · rw [List.mem_singleton] at m
        rw [m]; exact n3
  | @lstS a xs ds k' o h r =>
    refine ⟨[a], o, ?_, by simp, by simp, fun b m => ?_⟩
    · have e : min (k' + 1) 1 = 0 + 1 := by omega
      rw [e]
      exact .lstS (o := []) h (r.freeze (fun _ z => .inl z) fun a m => .inr m)
    · rw [List.mem_singleton] at m
      rw [m]
      exact (List.nodup_cons.mp nd).1
  | @dctS a ks xs ds k' o h l r =>
    refine ⟨[a], o, ?_, by simp, by simp, fun b m => ?_⟩
    · have e : min (k' + 1) 1 = 0 + 1 := by omega
      rw [e]
      exact .dctS (o := []) h l (r.freeze (fun _ z => .inl z) fun a m => .inr m)
    · rw [List.mem_singleton] at m
      rw [m]
      exact (List.nodup_cons.mp nd).1
theorem min_idem (k : Nat) : min (min k 1) 1 = min k 1 := by omega
/-- a slot's row is opened one floor deep: what lies under it is frozen -/
theorem Ok.open1 {K : PySem.W.Frag} {Z F : Pz} {H : Hp} {σ : St} {sd : SD} {i : Nat} {d : D} {k : Nat} (ok : Ok K Z F H σ sd) (e : sd[i]? = some (some (d, k))) :
    ∃ v Z1 q1, σ[i]? = some (some v) ∧ Rp K Z1 H v d (min k 1) q1 ∧ q1.Nodup ∧ (∀ a ∈ q1, ¬ F a) ∧ Ok K Z1 (uni F q1) H σ (sd.set i none) ∧ (∀ a, Z a → Z1 a) ∧ (∀ a, F a → ¬ Z1 a) := by
  obtain ⟨v, p, e1, r, nd, nf, ok1⟩ := ok.take e
  obtain ⟨q1, q2, r1, m, nd1, dj⟩ := r.open1 nd
  have ok2 : Ok K Z (uni (uni F q1) q2) H σ (sd.set i none) := ok1.less fun a z => by
    rcases z with (z | z) | z
    · exact .inl z
    · exact .inr ((m a).mpr (.inl z))
    · exact .inr ((m a).mpr (.inr z))
  have ok3 := ok2.freeze fun a z f => by
    rcases f with f | f
    · exact nf a ((m a).mpr (.inr z)) f
    · exact dj a f z
  refine ⟨v, uni Z q2, q1, e1, r1, nd1, fun a z => nf a ((m a).mpr (.inl z)), ok3, fun a z => .inl z, fun a f z => ?_⟩
  rcases z with z | z
  · exact (ok.base.f a f).2 z
  · exact nf a ((m a).mpr (.inr z)) f
/-- an item of an opened row -/
theorem Rp.item {K : PySem.W.Frag} {Z : Pz} {H : Hp} {v y : V} {d e : D} {k l : Nat} {p : List Addr} {w : D × Nat} {Q : VK} (r : Rp K Z H v d (min k 1) p) (ry : Rp K Z H y e 0 []) (eg : gIx d e = some w) (h : ∀ u, Rp K Z H u w.1 0 [] → Q u H) : rIx K v y H Q := by
  cases ry <;> (try (cases d <;> simp [gIx] at eg; done))
  rename_i j
  generalize e0 : min k 1 = k1 at r
  cases r with
  | tup _ z hh r =>
    obtain ⟨d', e1, rfl⟩ := Option.map_eq_some_iff.mp eg
    obtain ⟨u, e2, ru⟩ := r.atI e1
    exact .inr (.inl ⟨_, _, _, u, rfl, rfl, .of hh, e2, h u ru⟩)
  | lst0 z hh r =>
    obtain ⟨d', e1, rfl⟩ := Option.map_eq_some_iff.mp eg
    obtain ⟨u, e2, ru⟩ := r.atI e1
    exact .inl ⟨_, _, _, u, rfl, rfl, .of hh, e2, h u ru⟩
  | scr _ hh r =>
    obtain ⟨d', e1, rfl⟩ := Option.map_eq_some_iff.mp eg
    obtain ⟨u, e2, ru⟩ := r.atI e1
    rcases hh with hh | hh
    · exact .inl ⟨_, _, _, u, rfl, rfl, hh.sq, e2, h u ru⟩
    · exact .inr (.inl ⟨_, _, _, u, rfl, rfl, hh.sq, e2, h u ru⟩)
  | @lstS a xs ds k' o hh r =>
    have e3 : k' = 0 := by omega
    subst e3
    cases r.nil0
    obtain ⟨d', e1, rfl⟩ := Option.map_eq_some_iff.mp eg
    obtain ⟨u, e2, ru⟩ := r.atI e1
    exact .inl ⟨_, _, _, u, rfl, rfl, .of hh, e2, h u ru⟩
  | non => simp [gIx] at eg
  | bl => simp [gIx] at eg
  | int => simp [gIx] at eg
  | str => simp [gIx] at eg
  | dct0 => simp [gIx] at eg
  | dctS => simp [gIx] at eg
  | dcT0 => simp [gIx] at eg
  | dcTS => simp [gIx] at eg
  | ins0 => simp [gIx] at eg
  | insS => simp [gIx] at eg
  | exn => simp [gIx] at eg
  | exnD => simp [gIx] at eg
theorem se_ixv (i : Nat) {x : Str} {px : Pos} {b : Expr} {fb : Ev} (hb : SE X W b fb) (hs : PlainIx b := by exact fun _ _ => rfl) (hN : X.N[i]? = some x := by rfl) (hv : Vis X.env.scope x := by first | exact Or.inl rfl | exact Or.inr (Or.inl rfl) | exact Or.inr (Or.inr rfl))
    (hd : (x == ("__debug__" : Str)) = false := by decide) (hcd : (x == ("__classdict__" : Str)) = false := by decide) : SE X W (.Subscript (.Name x px) b pos) (ixv i fb) := by
  refine PE.imp (pe_ix ix_seq (pe_var hN hv hd hcd) hb hs) fun σ H Q ⟨Z, F, sd, ok, h⟩ => ?_
  unfold ixv at h
  split at h
  · rename_i w0 e0
    obtain ⟨v, e1⟩ := ok.slot e0
    refine ⟨v, e1, ?_⟩
    refine eP.seq (G := fun _ _ => True) ok (fun w1 sd1 e2 y Z1 H1 ry ok1 x1 => ?_) (fun x sd1 e2 => ?_) (fun e2 => ?_)
    · rw [e2, R.bind_ok] at h
      split at h
      · rename_i d k e3
        split at h
        · rename_i w eg
          obtain ⟨v', Z2, q1, e4, r2, nd2, nf2, ok2, z12, fz⟩ := ok1.open1 e3
          rw [e1] at e4
          cases e4
          have ry2 : Rp X.K Z2 H1 y w1.1 0 [] := ry.keep (fun a z => ⟨z12 a z, rfl⟩) fun a m => absurd m List.not_mem_nil
          refine r2.item (l := 0) ry2 eg fun u ru => ?_
          have ok3 := ok2.back r2 nd2 nf2 e1
          rw [List.set_set] at ok3
          exact h.pure (x1.trans ⟨fun a z => ⟨z12 a z, rfl⟩, fun _ _ => rfl⟩) ok3 ru
        · exact h.elim
      · exact h.elim
    · rw [e2] at h; exact h
    · rw [e2] at h; exact h
  · exact h.elim

/-! ### a name that is only looked at: len(x), e in x .. -/
def scD : D → Bool
  | .non => true
  | .bl _ => true
  | .int _ => true
  | .str _ => true
  | _ => false
theorem Rp.sc {K : PySem.W.Frag} {Z Z' : Pz} {H H' : Hp} {v : V} {d : D} {k : Nat} {o : List Addr} (r : Rp K Z H v d k o) (h : scD d = true) : Rp K Z' H' v d 0 [] := by
  cases r <;> first | (simp [scD] at h; done) | constructor
/-- as if x were frozen for the while -/
theorem Ok.peek {K : PySem.W.Frag} {mg : Mg} {Z0 Z F : Pz} {H0 H : Hp} {σ : St} {sd : SD} {i : Nat} {d e : D} {k : Nat} {Q : VK} (ok : Ok K Z F H σ sd) (x0 : Ext F Z0 H0 Z H) (ei : sd[i]? = some (some (d, k))) (hs : scD e = true) (h : eP K mg W Z0 F σ H0 (.ok (e, 0) sd) Q) :
    ∃ v Z1, σ[i]? = some (some v) ∧ Rp K Z1 H v d 0 [] ∧ (∀ a, Z a → Z1 a) ∧ (∀ a, Z1 a → ∃ o, H a = some o) ∧ ∀ u Z' H' o, Gr Z1 H Z' H' o → ∀ l, Rp K Z' H' u e l o → Q u H' := by
  obtain ⟨v, p, e1, r, nd, nf, ok1⟩ := ok.take ei
  have hp : ∀ a ∈ p, (∃ o, H a = some o) ∧ ¬ Z a := fun a m => ok1.base.f a (.inr m)
  refine ⟨v, uni Z p, e1, r.freeze (fun _ z => .inl z) fun _ m => .inr m, fun _ z => .inl z, fun a z => ?_, fun u Z' H' o g l ru => ?_⟩
  · rcases z with z | z
    · exact ok.base.z a z
    · exact (hp a z).1
  · have g2 : Gr Z H (fun a => Z' a ∧ a ∉ p) H' o := by
      refine ⟨g.keep, fun a z => ⟨g.zz a (.inl z), fun m => (hp a m).2 z⟩, fun a z => ?_, fun a m => ⟨(g.on a m).1, (g.on a m).2.1, fun z => (g.on a m).2.2 z.1⟩, g.nd⟩
      rcases g.zn a z.1 with (q | q) | q
      · exact .inl q
      · exact absurd q z.2
      · exact .inr q
    have ok2 := (g2.ok ok).less (F' := F) fun _ z => .inl z
    exact h.pure (x0.trans (g2.ext ok.base)) ok2 (ru.sc hs)
def bor1 (g : D → Option (D × Nat)) (i : Nat) : Ev := fun sd => match sd[i]? with
  | some (some (d, _)) => match g d with
    | some (e, 0) => if scD e then .ok (e, 0) sd else .stuck
    | _ => .stuck
  | _ => .stuck
/-- f(x), x a name -/
theorem se_borB {x y : Str} {id : String} {r : List V → Hp → VK → Prop} {g : D → Option (D × Nat)} (i : Nat) (hc : CallR X (.builtin id) r) (hr : VrN X.K r (un1 g)) (hg : Gl X x) (hm : X.mg x = none) (hv : bootBuiltins x = some (.builtin id))
    (hN : X.N[i]? = some y := by rfl) (hvy : Vis X.env.scope y := by first | exact Or.inl rfl | exact Or.inr (Or.inl rfl) | exact Or.inr (Or.inr rfl)) (hd : (y == ("__debug__" : Str)) = false := by decide) (hcd : (y == ("__classdict__" : Str)) = false := by decide)
    (hn : x ≠ "__name__" := by decide) (hdb : (x == ("__debug__" : Str)) = false := by decide) (he : starEach [.Name y q] X.env = (false, eval (.Name y q) X.env) :: starEach [] X.env := by rfl) (hpl : (backTo pos (starEach [] X.env)).any (·.1) = false := by rfl) :
    SE X W (.Call (.Name x p) [.Name y q] [] pos) (bor1 g i) := by
  refine PE.imp (pe_callB hc hg hm hv (pa_cons (pe_var hN hvy hd hcd) pa_nil he) hn hdb he hpl) fun σ H Q ⟨Z, F, sd, ok, h⟩ => ?_
  unfold bor1 at h
  split at h
  · rename_i d k ei
    split at h
    · rename_i e eg
      split at h
      · rename_i hs
        obtain ⟨v, Z1, e1, rv, _, hz, fin⟩ := ok.peek .refl ei hs h
        refine ⟨v, e1, ?_⟩
        exact hr Z1 H [v] [d] (e, 0) Q hz (.cons (o := []) (p := []) rv (.nil 0)) eg fun u Z' H' o gr ru => fin u Z' H' o gr _ ru
      · exact h.elim
    · exact h.elim
  · exact h.elim
def bor2 (g : D → D → Option (D × Nat)) (fa : Ev) (i : Nat) : Ev := fun sd => (fa sd).bind fun x sd1 => match sd1[i]? with
  | some (some (d, _)) => match g x.1 d with
    | some (e, 0) => if scD e then .ok (e, 0) sd1 else .stuck
    | _ => .stuck
  | _ => .stuck
theorem tE_bor2 {K : PySem.W.Frag} {mg : Mg} {r : R2} {g : D → D → Option (D × Nat)} {i : Nat} (hg : Vr2 K r g) {σ : St} {H : Hp} {Q : VK} (h : tE K mg W (bor2 g fa i) σ H Q) : tOp r (tE K mg W fa) (tVar i) σ H Q := by
  obtain ⟨Z, F, sd, ok, h⟩ := h
  unfold bor2 at h
  refine eP.seq (G := fun _ _ => True) ok (fun w1 sd1 e2 y Z1 H1 ry ok1 x1 => ?_) (fun x sd1 e2 => ?_) (fun e2 => ?_)
  · rw [e2, R.bind_ok] at h
    split at h
    · rename_i d k ei
      split at h
      · rename_i e eg
        split at h
        · rename_i hs
          obtain ⟨v, Z2, e1, rv, zz, hz, fin⟩ := ok1.peek x1 ei hs h
          refine ⟨v, e1, ?_⟩
          have ry2 : Rp K Z2 H1 y w1.1 0 [] := ry.keep (fun a z => ⟨zz a z, rfl⟩) fun a m => absurd m List.not_mem_nil
          exact hg Z2 H1 y v w1.1 d (e, 0) Q hz ry2 rv eg fun u Z' H' o gr ru => fin u Z' H' o gr _ ru
        · exact h.elim
      · exact h.elim
    · exact h.elim
  · rw [e2] at h; exact h
  · rw [e2] at h; exact h
/-- e in x, x a name -/
theorem se_bor2 {op : CmpOp} {r : R2} {g : D → D → Option (D × Nat)} {y : Str} (i : Nat) (ho : OpR X (compareOp op) r) (hg : Vr2 X.K r g) (ha : SE X W a fa)
    (hN : X.N[i]? = some y := by rfl) (hvy : Vis X.env.scope y := by first | exact Or.inl rfl | exact Or.inr (Or.inl rfl) | exact Or.inr (Or.inr rfl)) (hd : (y == ("__debug__" : Str)) = false := by decide) (hcd : (y == ("__classdict__" : Str)) = false := by decide)
    (hm : behindInMarks op (.Name y q) = false := by first | exact nomark _ | rfl) : SE X W (.Compare a [op] [.Name y q] pos) (bor2 g fa i) :=
  PE.imp (pe_cmpR ho ha (pe_var hN hvy hd hcd) hm) fun _ _ _ h => tE_bor2 hg h
theorem st_bor2 {op : CmpOp} {r : R2} {g : D → D → Option (D × Nat)} {y : Str} (i : Nat) (ho : OpR X (compareOp op) r) (hg : Vr2 X.K r g) (ha : SE X W a fa)
    (hN : X.N[i]? = some y := by rfl) (hvy : Vis X.env.scope y := by first | exact Or.inl rfl | exact Or.inr (Or.inl rfl) | exact Or.inr (Or.inr rfl)) (hd : (y == ("__debug__" : Str)) = false := by decide) (hcd : (y == ("__classdict__" : Str)) = false := by decide)
    (hm : behindInMarks op (.Name y q) = false := by first | exact nomark _ | rfl) : ST X W (.Compare a [op] [.Name y q] pos) (tst (bor2 g fa i)) :=
  PT.imp (pt_cmpR ho ha (pe_var hN hvy hd hcd) hm) fun _ _ _ h => tT_tst (fun _ _ _ h => tE_bor2 hg h) h
end
end VS
/-! VS6: slices, targets, what is walked, list comprehensions, calls of own defs. -/
namespace VS
open PySem PySem.Spec L2

/-! ### slices -/
abbrev Eo := SD → R (Option Int)
def poN : Eo := fun sd => .ok none sd
def poS (f : Ev) : Eo := fun sd => (f sd).bind fun x sd1 => match x.1 with
  | .int i => .ok (some i) sd1
  | _ => .stuck
def slE (fa : Ev) (fl fh : Eo) : Ev := fun sd => (fa sd).bind fun x sd1 => (fl sd1).bind fun l sd2 => (fh sd2).bind fun h sd3 => lift (gSl x.1 l h) sd3
section
variable (K : PySem.W.Frag) (mg : Mg) (W : WX)
def oP (Z F : Pz) (σ : St) (H : Hp) (r : R (Option Int)) (Q : Option Int → Hp → Prop) : Prop := match r with
  | .ok b sd' => ∀ Z' H', Ok K Z' F H' σ sd' → Ext F Z H Z' H' → Q b H'
  | .exc x sd' => excP K mg W Z F σ H x sd'
  | .stuck => False
def tO (f : Eo) : TO := fun σ H Q => ∃ Z F sd, Ok K Z F H σ sd ∧ oP K mg W Z F σ H (f sd) Q
end
section
variable {K : PySem.W.Frag} {mg : Mg} {W : WX} {Z Z1 F : Pz} {H H1 : Hp} {σ : St}
theorem oP.seq {f : Eo} {Q : Option Int → Hp → Prop} {sd : SD} (ok : Ok K Z F H σ sd)
    (hok : ∀ b sd1, f sd = .ok b sd1 → ∀ Z1 H1, Ok K Z1 F H1 σ sd1 → Ext F Z H Z1 H1 → Q b H1)
    (hex : ∀ x sd1, f sd = .exc x sd1 → excP K mg W Z F σ H x sd1) (hst : f sd = .stuck → False) : tO K mg W f σ H Q := by
  refine ⟨Z, F, sd, ok, ?_⟩
  cases e : f sd with
  | ok w sd1 => exact hok w sd1 e
  | exc x sd1 => exact hex x sd1 e
  | stuck => exact hst e
end
def SO (X : Cx) (W : WX) (e : Option Expr) (f : Eo) : Prop := PO X e (tO X.K X.mg W f)
theorem PO.imp {X : Cx} {e : Option Expr} {t t' : TO} (h : PO X e t) (w : ∀ σ H Q, t' σ H Q → t σ H Q) : PO X e t' := by
  refine ⟨?_⟩
  intros
  exact h.run _ _ _ _ _ (by assumption) (w _ _ _ (by assumption))
section
variable {X : Cx} {W : WX} {pos p q : Pos} {a b : Expr} {fa fb : Ev}
theorem so_none : SO X W none poN := PO.imp po_none fun σ H Q ⟨Z, F, sd, ok, h⟩ => h Z H ok .refl
theorem so_some (h : SE X W a fa) : SO X W (some a) (poS fa) := PO.imp (po_some h) fun σ H Q ⟨Z, F, sd, ok, h⟩ => by
  unfold poS at h
  refine eP.seq (G := fun _ _ => True) ok (fun w1 sd1 e2 y Z1 H1 ry ok1 x1 => ?_) (fun x sd1 e2 => ?_) (fun e2 => ?_)
  · rw [e2, R.bind_ok] at h
    split at h
    · rename_i i ei
      rw [ei] at ry
      cases ry
      exact ⟨i, rfl, h Z1 H1 ok1 x1⟩
    · exact h.elim
  · rw [e2] at h; exact h
  · rw [e2] at h; exact h
theorem se_sl {lo hi : Option Expr} {fl fh : Eo} {p2 : Pos} (ha : SE X W a fa) (hl : SO X W lo fl) (hh : SO X W hi fh) : SE X W (.Subscript a (.Slice lo hi none p2) pos) (slE fa fl fh) := by
  refine PE.imp (pe_slice sl_all ha hl hh) fun σ H Q ⟨Z, F, sd, ok, h⟩ => ?_
  unfold slE at h
  refine eP.seq (G := fun _ _ => True) ok (fun w1 sd1 e1 y Z1 H1 ry ok1 x1 => ?_) (fun x sd1 e2 => ?_) (fun e2 => ?_)
  · rw [e1, R.bind_ok] at h
    refine oP.seq ok1 (fun l sd2 e2 Z2 H2 ok2 x2 => ?_) (fun x sd2 e2 => ?_) (fun e2 => ?_)
    · rw [e2, R.bind_ok] at h
      refine oP.seq ok2 (fun u sd3 e3 Z3 H3 ok3 x3 => ?_) (fun x sd3 e3 => ?_) (fun e3 => ?_)
      · rw [e3, R.bind_ok] at h
        have ry3 : Rp X.K Z3 H3 y w1.1 0 [] := ry.keep (x2.trans x3).z fun _ m => absurd m List.not_mem_nil
        cases eg : gSl w1.1 l u with
        | none => rw [eg] at h; exact h.elim
        | some w =>
          rw [eg, lift_some] at h
          exact vr_sl Z3 H3 y _ l u w Q ok3.base.z ry3 eg fun v Z' H' o gr rv => eP.fin h ((x1.trans x2).trans x3) ok3 gr rv
      · rw [e3] at h; exact excP.go0 h (x1.trans x2)
      · rw [e3] at h; exact h
    · rw [e2] at h; exact excP.go0 h x1
    · rw [e2] at h; exact h
  · rw [e2] at h; exact h
  · rw [e2] at h; exact h
end

/-! ### targets: the slots vs are set, nothing else -/
abbrev Tg := D → SD → Option SD
def gN (i : Nat) : Tg := fun d sd => some (sd.set i (some (d, 0)))
def gNs : List Tg → List D → SD → Option SD
  | [], [], sd => some sd
  | g :: gs, d :: ds, sd => (g d sd).bind fun sd1 => gNs gs ds sd1
  | _, _, _ => none
def gT (gs : List Tg) : Tg := fun d sd => match d with
  | .tup ds => gNs gs ds sd
  | .lst ds => gNs gs ds sd
  | _ => none
/-- σ' is σ but for the slots vs -/
def Dif (vs : List Nat) (σ σ' : St) : Prop := σ'.length = σ.length ∧ ∀ i, i ∉ vs → σ'[i]? = σ[i]?
theorem Dif.refl {vs : List Nat} {σ : St} : Dif vs σ σ := ⟨rfl, fun _ _ => rfl⟩
theorem Dif.trans {vs : List Nat} {σ σ1 σ2 : St} (a : Dif vs σ σ1) (b : Dif vs σ1 σ2) : Dif vs σ σ2 := ⟨b.1.trans a.1, fun i h => (b.2 i h).trans (a.2 i h)⟩
theorem Dif.mono {vs ws : List Nat} {σ σ' : St} (a : Dif vs σ σ') (h : ∀ i ∈ vs, i ∈ ws) : Dif ws σ σ' := ⟨a.1, fun i n => a.2 i fun m => n (h i m)⟩
theorem wipe_at {σ : St} {vs : List Nat} {i : Nat} : (wipe σ vs)[i]? = if i ∈ vs then (if i < σ.length then some none else none) else σ[i]? := by
  induction vs with
  | nil => simp [wipe]
  | cons v vs ih =>
    unfold wipe
    by_cases h : v = i
    · subst h
      rw [if_pos List.mem_cons_self]
      by_cases hl : v < σ.length
      · rw [List.getElem?_set_self (by rw [wipe_length]; exact hl), if_pos hl]
      · rw [if_neg hl]
        exact List.getElem?_eq_none (by rw [List.length_set, wipe_length]; omega)
    · rw [List.getElem?_set_ne h, ih]
      have : i ∈ v :: vs ↔ i ∈ vs := by simp [Ne.symm h]
      by_cases m : i ∈ vs
      · rw [if_pos m, if_pos (this.mpr m)]
      · rw [if_neg m, if_neg fun z => m (this.mp z)]
theorem Dif.wipe {vs : List Nat} {σ σ' : St} (a : Dif vs σ σ') : wipe σ' vs = wipe σ vs := by
  refine List.ext_getElem? fun i => ?_
  rw [wipe_at, wipe_at, a.1]
  by_cases m : i ∈ vs
  · rw [if_pos m, if_pos m]
  · rw [if_neg m, if_neg m]
    exact a.2 i m
section
variable (K : PySem.W.Frag)
def gP (vs : List Nat) (g : Tg) : TG := fun v σ H Q => ∃ Z F sd d, Ok K Z F H σ sd ∧ Rp K Z H v d 0 [] ∧ match g d sd with
  | some sd' => ∀ σ', Ok K Z F H σ' sd' → Dif vs σ σ' → Q σ' H
  | none => False
def gPs (vs : List Nat) (gs : List Tg) : TGs := fun us σ H Q => ∃ Z F sd ds, Ok K Z F H σ sd ∧ RpAll K Z H us ds 0 [] ∧ match gNs gs ds sd with
  | some sd' => ∀ σ', Ok K Z F H σ' sd' → Dif vs σ σ' → Q σ' H
  | none => False
end
def SG (X : Cx) (vs : List Nat) (e : Expr) (g : Tg) : Prop := PG X e (gP X.K vs g)
def SGs (X : Cx) (vs : List Nat) (es : List Expr) (gs : List Tg) : Prop := PGs X es (gPs X.K vs gs)
theorem PG.imp {X : Cx} {e : Expr} {t t' : TG} (h : PG X e t) (w : ∀ v σ H Q, t' v σ H Q → t v σ H Q) : PG X e t' := ⟨fun pins s σ H v u Q I r q => h.run pins s σ H v u Q I r (w _ _ _ _ q)⟩
theorem PGs.imp {X : Cx} {e : List Expr} {t t' : TGs} (h : PGs X e t) (w : ∀ v σ H Q, t' v σ H Q → t v σ H Q) : PGs X e t' := ⟨fun pins s σ H v u Q I r q => h.run pins s σ H v u Q I r (w _ _ _ _ q)⟩
theorem Ok.store {K : PySem.W.Frag} {Z F : Pz} {H : Hp} {σ : St} {sd : SD} {i : Nat} {v : V} {d : D} {k : Nat} {p : List Addr} (h : Ok K Z (uni F p) H σ sd) (r : Rp K Z H v d k p) (nd : p.Nodup) (nf : ∀ a ∈ p, ¬ F a) : Ok K Z F H (σ.set i (some v)) (sd.set i (some (d, k))) := by
  by_cases hi : i < sd.length
  · exact h.put r nd nf hi
  · have e1 : sd.set i (some (d, k)) = sd := List.set_eq_of_length_le (by omega)
    have e2 : σ.set i (some v) = σ := List.set_eq_of_length_le (by have := h.length; omega)
    rw [e1, e2]
    exact h.less fun _ z => .inl z
theorem Dif.set {σ : St} {i : Nat} {v : Option V} {vs : List Nat} (h : i ∈ vs) : Dif vs σ (σ.set i v) := ⟨List.length_set, fun j n => List.getElem?_set_ne fun e => n (by rw [← e]; exact h)⟩
section
variable {X : Cx} {pos : Pos}
theorem sg_n (i : Nat) {x : Str} {vs : List Nat} (hN : X.N.Nodup) (hi : X.N[i]? = some x := by rfl) (hx : Loc X.env.scope x := by first | exact Or.inl rfl | exact Or.inr rfl) (hf : X.fn x = true ∨ X.env.scope.names.lookup x = some .local := by first | exact .inl rfl | exact .inr rfl) (hv : i ∈ vs := by decide) : SG X vs (.Name x pos) (gN i) := by
  refine PG.imp (pg_name hN hi hx hf) fun v σ H Q ⟨Z, F, sd, d, ok, r, h⟩ => ?_
  exact h _ (ok.unnil.store r .nil fun _ m => absurd m List.not_mem_nil) (.set hv)
theorem sgs_nil {vs : List Nat} : SGs X vs [] [] := by
  refine PGs.imp pgs_nil fun us σ H Q ⟨Z, F, sd, ds, ok, r, h⟩ => ?_
  cases ds with
  | nil =>
    cases us with
    | nil => exact ⟨rfl, h σ ok .refl⟩
    | cons _ _ => have := r.length; cases this
  | cons _ _ => exact h.elim
theorem sgs_cons {e : Expr} {es : List Expr} {vs : List Nat} {g : Tg} {gs : List Tg} (h1 : SG X vs e g) (h2 : SGs X vs es gs) (hs : (assignEach (e :: es) X.env).map (·.2) = assign e X.env :: (assignEach es X.env).map (·.2) := by rfl) : SGs X vs (e :: es) (g :: gs) := by
  refine PGs.imp (pgs_cons h1 h2 hs) fun us σ H Q ⟨Z, F, sd, ds, ok, r, h⟩ => ?_
  cases ds with
  | nil => exact h.elim
  | cons d ds =>
    cases us with
    | nil => have := r.length; cases this
    | cons u us =>
      obtain ⟨r1, r2⟩ := r.uncons
      simp only [gNs] at h
      refine ⟨u, us, rfl, Z, F, sd, d, ok, r1, ?_⟩
      cases eg : g d sd with
      | none => rw [eg] at h; exact h
      | some sd1 =>
        rw [eg] at h
        intro σ1 ok1 df1
        refine ⟨Z, F, sd1, ds, ok1, r2, ?_⟩
        simp only [Option.bind_some] at h
        cases eg2 : gNs gs ds sd1 with
        | none => rw [eg2] at h; exact h
        | some sd2 =>
          rw [eg2] at h
          exact fun σ2 ok2 df2 => h σ2 ok2 (df1.trans df2)
theorem gNs_len : ∀ {gs : List Tg} {ds : List D} {sd sd' : SD}, gNs gs ds sd = some sd' → gs.length = ds.length
  | [], [], _, _, _ => rfl
  | g :: gs, d :: ds, sd, sd', h => by
    simp only [gNs] at h
    obtain ⟨sd1, _, h2⟩ := Option.bind_eq_some_iff.mp h
    rw [List.length_cons, List.length_cons, gNs_len h2]
  | [], _ :: _, _, _, h => by simp [gNs] at h
  | _ :: _, [], _, _, h => by simp [gNs] at h
theorem pg_seq {es : List Expr} {k : Nat} {t : TGs} {n : Nat} (hc : X.calm = true) (h : PGs X es t)
    (hn : (assignEach es X.env).length = n := by rfl) (hst : (assignEach es X.env).findIdx? (·.1) = none := by rfl) : PG X (.Tuple es k pos) (fun v σ H Q => gTup X.K n t v σ H Q ∨ gLst X.K n t v σ H Q) :=
  ⟨fun pins s σ H v u Q I r hw => hw.elim (fun hw => (pg_tup hc h hn hst).run pins s σ H v u Q I r hw) fun hw => (pg_lst hc h hn hst).run pins s σ H v u Q I r hw⟩
theorem sg_t {es : List Expr} {k : Nat} {vs : List Nat} {gs : List Tg} (hc : X.calm = true) (h : SGs X vs es gs) (hn : (assignEach es X.env).length = gs.length := by rfl) (hst : (assignEach es X.env).findIdx? (·.1) = none := by rfl) : SG X vs (.Tuple es k pos) (gT gs) := by
  refine PG.imp (pg_seq (n := gs.length) hc h hn hst) fun v σ H Q ⟨Z, F, sd, d, ok, r, hh⟩ => ?_
  unfold gT at hh
  split at hh
  · rename_i ds sd' e
    split at e
    · rename_i ds
      generalize e0 : ([] : List Addr) = o0 at r
      cases r with
      | tup _ z hc' ra =>
        refine .inl ⟨_, _, rfl, .of hc', ?_, Z, F, sd, ds, ok, ra, ?_⟩
        · rw [ra.length, gNs_len e]
        · rw [e]; exact hh
    · rename_i ds
      generalize e0 : ([] : List Addr) = o0 at r
      cases r with
      | lst0 z hc' ra =>
        refine .inr ⟨_, _, rfl, .of hc', ?_, Z, F, sd, ds, ok, ra, ?_⟩
        · rw [ra.length, gNs_len e]
        · rw [e]; exact hh
    · cases e
  · exact hh.elim
end

/-! ### what is walked -/
abbrev Ei := SD → R (List D)
/-- the iterator's turns are the items -/
def ItOk (K : PySem.W.Frag) (J : It) (items : List D) (Z0 : Pz) (H0 : Hp) : Prop := ∀ (i : Nat) (Z : Pz) (H : Hp), (∀ a, Z0 a → Z a ∧ H a = H0 a) → (∀ a, Z a → ∃ o, H a = some o) →
  (items.length ≤ i → J.stop i H) ∧ ∀ d, items[i]? = some d → J.go i H ∧ ∀ x H', J.yld i H x H' → ∃ Z', Gr Z H Z' H' [] ∧ Rp K Z' H' x d 0 []
section
variable (K : PySem.W.Frag) (mg : Mg) (W : WX)
def iP (Z F : Pz) (σ : St) (H : Hp) (r : R (List D)) (R' : It → Hp → Prop) : Prop := match r with
  | .ok items sd' => ∀ J Z' H', ItOk K J items Z' H' → Ok K Z' F H' σ sd' → Ext F Z H Z' H' → R' J H'
  | .exc x sd' => excP K mg W Z F σ H x sd'
  | .stuck => False
def tI (f : Ei) : TI := fun σ H R' => ∃ Z F sd, Ok K Z F H σ sd ∧ iP K mg W Z F σ H (f sd) R'
end
def SI (X : Cx) (W : WX) (tg iter : Expr) (f : Ei) : Prop := PI X tg iter (tI X.K X.mg W f)
theorem PI.imp {X : Cx} {tg iter : Expr} {t t' : TI} (h : PI X tg iter t) (w : ∀ σ H R', t' σ H R' → t σ H R') : PI X tg iter t' := ⟨fun pins s σ H R' I q => h.run pins s σ H R' I (w _ _ _ q)⟩
/-- a list or tuple walked -/
def iAny (f : Ev) : Ei := fun sd => (f sd).bind fun x sd1 => match x.1 with
  | .lst ds => .ok ds sd1
  | .tup ds => .ok ds sd1
  | _ => .stuck
def rngD (lo : Int) (n : Nat) : List D := (List.range n).map fun (i : Nat) => .int (lo + (i : Int))
def iR1 (f : Ev) : Ei := fun sd => (f sd).bind fun x sd1 => match x.1 with
  | .int n => if -(2 ^ 62) ≤ n ∧ n < 2 ^ 62 then .ok (rngD 0 n.toNat) sd1 else .stuck
  | _ => .stuck
def iR2 (f g : Ev) : Ei := fun sd => (f sd).bind fun x sd1 => (g sd1).bind fun y sd2 => match x.1, y.1 with
  | .int m, .int n => if -(2 ^ 62) ≤ m ∧ m < 2 ^ 62 ∧ -(2 ^ 62) ≤ n ∧ n < 2 ^ 62 then .ok (rngD m (n - m).toNat) sd2 else .stuck
  | _, _ => .stuck
def enumFrom : Nat → List D → List D
  | _, [] => []
  | i, d :: ds => .tup [.int i, d] :: enumFrom (i + 1) ds
theorem enumFrom_at : ∀ (ds : List D) (j i : Nat), (enumFrom j ds)[i]? = (ds[i]?).map fun d => .tup [.int ((j + i : Nat) : Int), d]
  | [], _, _ => by simp [enumFrom]
  | d :: ds, j, 0 => by simp [enumFrom]
  | d :: ds, j, i + 1 => by
    simp only [enumFrom, List.getElem?_cons_succ]
    rw [enumFrom_at ds (j + 1) i]
    have : j + 1 + i = j + (i + 1) := by omega
    rw [this]
theorem enumFrom_len : ∀ (ds : List D) (j : Nat), (enumFrom j ds).length = ds.length
  | [], _ => rfl
  | d :: ds, j => by simp [enumFrom, enumFrom_len ds]
def iEnumL (f : Ev) : Ei := fun sd => (f sd).bind fun x sd1 => match x.1 with
  | .lst ds => .ok (enumFrom 0 ds) sd1
  | _ => .stuck
def iRev' (f : Ev) : Ei := fun sd => (f sd).bind fun x sd1 => match x.1 with
  | .lst ds => .ok ds.reverse sd1
  | .tup ds => .ok ds.reverse sd1
  | _ => .stuck
section
variable {K : PySem.W.Frag} {mg : Mg} {W : WX} {Z Z' F : Pz} {H H' : Hp} {σ : St}
theorem ItOk.lst {a : Addr} {xs : List V} {ds : List D} (z : Z a) (h : H a = some (.lst xs)) (r : RpAll K Z H xs ds 0 []) : ItOk K (Itl K a) ds Z H := by
  intro i Z2 H2 st hz
  obtain ⟨z2, e2⟩ := st a z
  have h2 : SqL K H2 a xs := .of (e2.trans h)
  refine ⟨fun hi => ⟨xs, h2, by rw [r.length]; exact hi⟩, fun d hd => ?_⟩
  obtain ⟨v, hv, rv⟩ := r.get hd
  refine ⟨⟨xs, v, h2, hv⟩, fun x H' y => ?_⟩
  obtain ⟨e, y⟩ := y
  subst e
  have := y xs h2
  rw [hv] at this
  cases this
  exact ⟨Z2, .refl, rv.keep st fun a m => absurd m List.not_mem_nil⟩
theorem ItOk.tup {a : Addr} {xs : List V} {ds : List D} (z : Z a) (h : H a = some (.tup xs)) (r : RpAll K Z H xs ds 0 []) : ItOk K (Itt K a) ds Z H := by
  intro i Z2 H2 st hz
  obtain ⟨z2, e2⟩ := st a z
  have h2 : SqT K H2 a xs := .of (e2.trans h)
  refine ⟨fun hi => ⟨xs, h2, by rw [r.length]; exact hi⟩, fun d hd => ?_⟩
  obtain ⟨v, hv, rv⟩ := r.get hd
  refine ⟨⟨xs, v, h2, hv⟩, fun x H' y => ?_⟩
  obtain ⟨e, y⟩ := y
  subst e
  have := y xs h2
  rw [hv] at this
  cases this
  exact ⟨Z2, .refl, rv.keep st fun a m => absurd m List.not_mem_nil⟩
theorem ItOk.rng (lo : Int) (n : Nat) : ItOk K (Itr lo n) (rngD lo n) Z H := by
  intro i Z2 H2 st hz
  unfold rngD
  refine ⟨fun hi => by rw [List.length_map, List.length_range] at hi; exact hi, fun d hd => ?_⟩
  rw [List.getElem?_map] at hd
  obtain ⟨j, e1, rfl⟩ := Option.map_eq_some_iff.mp hd
  obtain ⟨hj, e3⟩ := List.getElem?_eq_some_iff.mp e1
  rw [List.length_range] at hj
  rw [List.getElem_range] at e3
  subst e3
  refine ⟨hj, fun x H' y => ?_⟩
  obtain ⟨e, y⟩ := y
  subst e
  subst y
  exact ⟨Z2, .refl, .int _ _⟩
theorem ItOk.enum {a : Addr} {xs : List V} {ds : List D} (z : Z a) (h : H a = some (.lst xs)) (r : RpAll K Z H xs ds 0 []) : ItOk K (Ite K a) (enumFrom 0 ds) Z H := by
  intro i Z2 H2 st hz
  obtain ⟨z2, e2⟩ := st a z
  have h2 : SqL K H2 a xs := .of (e2.trans h)
  refine ⟨fun hi => ⟨xs, h2, by rw [enumFrom_len] at hi; rw [r.length]; exact hi⟩, fun d hd => ?_⟩
  rw [enumFrom_at] at hd
  obtain ⟨d', hd', rfl⟩ := Option.map_eq_some_iff.mp hd
  obtain ⟨v, hv, rv⟩ := r.get hd'
  refine ⟨⟨xs, v, h2, hv⟩, fun x H' y => ?_⟩
  obtain ⟨T, u, rfl, hT, e, y⟩ := y
  subst e
  have := y xs h2
  rw [hv] at this
  cases this
  have rv2 : Rp K Z2 H2 v d' 0 [] := rv.keep st fun a m => absurd m List.not_mem_nil
  refine ⟨fun a => Z2 a ∨ a = T, Gr.fz hT, .tup 0 (.inr rfl) upd_same ?_⟩
  rw [Nat.zero_add]
  exact .cons (o := []) (p := []) (.int _ _) (.cons (o := []) (p := []) (Gr.rp (Gr.fz hT) hz rv2) (.nil 0))
theorem ItOk.revL {a : Addr} {xs : List V} {ds : List D} (z : Z a) (h : H a = some (.lst xs)) (r : RpAll K Z H xs ds 0 []) : ItOk K (Itv K a xs.length) ds.reverse Z H := by
  intro i Z2 H2 st hz
  obtain ⟨z2, e2⟩ := st a z
  have h2 : SqL K H2 a xs := .of (e2.trans h)
  have rr := r.rev
  refine ⟨fun hi => ?_, fun d hd => ?_⟩
  · rw [List.length_reverse] at hi
    show xs.length ≤ i
    rw [r.length]; exact hi
  · obtain ⟨v, hv, rv⟩ := rr.get hd
    obtain ⟨hi, _⟩ := List.getElem?_eq_some_iff.mp hv
    rw [List.length_reverse] at hi
    rw [List.getElem?_reverse hi] at hv
    refine ⟨⟨hi, xs, v, h2, hv⟩, fun x H' y => ?_⟩
    obtain ⟨e, y⟩ := y
    subst e
    have := y xs h2
    rw [hv] at this
    cases this
    exact ⟨Z2, .refl, rv.keep st fun a m => absurd m List.not_mem_nil⟩
end
section
variable {X : Cx} {W : WX} {pos p q : Pos} {tg a b : Expr} {fa fb : Ev}
theorem si_any (ha : SE X W a fa) : SI X W tg a (iAny fa) := by
  refine ⟨fun pins s σ H R' I ⟨Z, F, sd, ok, h⟩ => ?_⟩
  unfold iAny at h
  cases e : fa sd with
  | ok w sd1 =>
    rw [e, R.bind_ok] at h
    split at h
    · rename_i ds ew
      refine (pi_list ha).run pins s σ H R' I ?_
      refine eP.seq (G := fun _ _ => True) ok (fun w1 sd1' e1 y Z1 H1 ry ok1 x1 => ?_) (fun x sd1 e2 => ?_) (fun e2 => ?_)
      · rw [e] at e1; cases e1
        rw [ew] at ry
        generalize e0 : ([] : List Addr) = o0 at ry
        cases ry with
        | lst0 z hh r => exact ⟨_, rfl, ⟨_, .of hh⟩, h _ Z1 H1 (ItOk.lst z hh r) ok1 x1⟩
      · rw [e] at e2; cases e2
      · rw [e] at e2; cases e2
    · rename_i ds ew
      refine (pi_tup ha).run pins s σ H R' I ?_
      refine eP.seq (G := fun _ _ => True) ok (fun w1 sd1' e1 y Z1 H1 ry ok1 x1 => ?_) (fun x sd1 e2 => ?_) (fun e2 => ?_)
      · rw [e] at e1; cases e1
        rw [ew] at ry
        generalize e0 : ([] : List Addr) = o0 at ry
        cases ry with
        | tup _ z hh r => exact ⟨_, rfl, ⟨_, .of hh⟩, h _ Z1 H1 (ItOk.tup z hh r) ok1 x1⟩
      · rw [e] at e2; cases e2
      · rw [e] at e2; cases e2
    · exact h.elim
  | exc x sd1 =>
    rw [e] at h
    refine (pi_list ha).run pins s σ H R' I (eP.seq (G := fun _ _ => True) ok (fun w1 sd1' e1 => ?_) (fun x sd1 e2 => ?_) (fun e2 => ?_))
    · rw [e] at e1; cases e1
    · rw [e] at e2; cases e2; exact h
    · rw [e] at e2; cases e2
  | stuck => rw [e] at h; exact h.elim
theorem si_r1 (ha : SE X W a fa) (hg : Gl X "range") (hm : X.mg "range" = none) (hst : starEach [a] X.env = (false, eval a X.env) :: starEach [] X.env := by rfl) (hs : starEach [a] X.env = [(false, eval a X.env)] := by rfl) : SI X W tg (.Call (.Name "range" p) [a] [] pos) (iR1 fa) := by
  refine PI.imp (pi_range1 hg hm (pa_cons ha pa_nil hst) hs) fun σ H R' ⟨Z, F, sd, ok, h⟩ => ?_
  unfold iR1 at h
  refine eP.seq (G := fun _ _ => True) ok (fun w1 sd1 e1 y Z1 H1 ry ok1 x1 => ?_) (fun x sd1 e2 => ?_) (fun e2 => ?_)
  · rw [e1, R.bind_ok] at h
    split at h
    · rename_i n en
      rw [en] at ry
      cases ry
      split at h
      · rename_i hn
        exact ⟨n, rfl, hn.1, hn.2, h _ Z1 H1 (ItOk.rng 0 n.toNat) ok1 x1⟩
      · exact h.elim
    · exact h.elim
  · rw [e2] at h; exact h
  · rw [e2] at h; exact h
theorem si_r2 (ha : SE X W a fa) (hb : SE X W b fb) (hg : Gl X "range") (hm : X.mg "range" = none) (hst : starEach [a, b] X.env = (false, eval a X.env) :: starEach [b] X.env := by rfl) (hst2 : starEach [b] X.env = (false, eval b X.env) :: starEach [] X.env := by rfl)
    (hs : starEach [a, b] X.env = [(false, eval a X.env), (false, eval b X.env)] := by rfl) (hs2 : starEach [b] X.env = [(false, eval b X.env)] := by rfl) : SI X W tg (.Call (.Name "range" p) [a, b] [] pos) (iR2 fa fb) := by
  refine PI.imp (pi_range2 hg hm (pa_cons ha (pa_cons hb pa_nil hst2) hst) hs hs2) fun σ H R' ⟨Z, F, sd, ok, h⟩ => ?_
  unfold iR2 at h
  refine eP.seq (G := fun _ _ => True) ok (fun w1 sd1 e1 y Z1 H1 ry ok1 x1 => ?_) (fun x sd1 e2 => ?_) (fun e2 => ?_)
  · rw [e1, R.bind_ok] at h
    refine eP.seq (G := fun _ _ => True) ok1 (fun w2 sd2 e2 y2 Z2 H2 ry2 ok2 x2 => ?_) (fun x sd1 e2 => ?_) (fun e2 => ?_)
    · rw [e2, R.bind_ok] at h
      split at h
      · rename_i m n em en
        rw [em] at ry
        rw [en] at ry2
        cases ry
        cases ry2
        split at h
        · rename_i hn
          exact ⟨m, n, rfl, ⟨hn.1, hn.2.1, hn.2.2.1, hn.2.2.2⟩, h _ Z2 H2 (ItOk.rng m _) ok2 (x1.trans x2)⟩
        · exact h.elim
      · exact h.elim
    · rw [e2] at h; exact excP.go0 h x1
    · rw [e2] at h; exact h
  · rw [e2] at h; exact h
  · rw [e2] at h; exact h
theorem si_enumL {elts : List Expr} {kk : Nat} {tpos : Pos} (ha : SE X W a fa) (hg : Gl X "enumerate") (hm : X.mg "enumerate" = none) (hst : starEach [a] X.env = (false, eval a X.env) :: starEach [] X.env := by rfl) (hs : starEach [a] X.env = [(false, eval a X.env)] := by rfl) :
    SI X W (.Tuple elts kk tpos) (.Call (.Name "enumerate" p) [a] [] pos) (iEnumL fa) := by
  refine PI.imp (pi_enum hg hm (pa_cons ha pa_nil hst) hs) fun σ H R' ⟨Z, F, sd, ok, h⟩ => ?_
  unfold iEnumL at h
  refine eP.seq (G := fun _ _ => True) ok (fun w1 sd1 e1 y Z1 H1 ry ok1 x1 => ?_) (fun x sd1 e2 => ?_) (fun e2 => ?_)
  · rw [e1, R.bind_ok] at h
    split at h
    · rename_i ds en
      rw [en] at ry
      generalize e0 : ([] : List Addr) = o0 at ry
      cases ry with
      | lst0 z hh r => exact ⟨_, _, rfl, .of hh, h _ Z1 H1 (ItOk.enum z hh r) ok1 x1⟩
    · exact h.elim
  · rw [e2] at h; exact h
  · rw [e2] at h; exact h
end

/-! ### list comprehensions -/
def wp (sd : SD) : List Nat → SD
  | [] => sd
  | v :: vs => (wp sd vs).set v none
def lcGo (vs : List Nat) (g : Tg) (ft : Et) (fe : Ev) : List D → SD → List D → R (List D)
  | [], sd, acc => .ok acc sd
  | d :: ds, sd, acc => match g d (wp sd vs) with
    | none => .stuck
    | some sd1 => match ft sd1 with
      | .ok true sd2 => match fe sd2 with
        | .ok y sd3 => if acc.length < sizeLine then lcGo vs g ft fe ds sd3 (acc ++ [y.1]) else .stuck
        | _ => .stuck
      | .ok false sd2 => lcGo vs g ft fe ds sd2 acc
      | _ => .stuck
def lcS (vs : List Nat) (fi : Ei) (g : Tg) (ft : Et) (fe : Ev) : Ev := fun sd => (fi sd).bind fun items sd1 => (lcGo vs g ft fe items sd1 []).bind fun out sd2 => .ok (.lst out, 1) (wp sd2 vs)
def W0 : WX := fun _ _ _ _ => False
def tYes' : Et := fun sd => .ok true sd
section
variable {K : PySem.W.Frag} {mg : Mg} {Z Z' F : Pz} {H H' : Hp} {σ : St} {sd : SD}
theorem Ok.wipe (ok : Ok K Z F H σ sd) : ∀ vs : List Nat, Ok K Z F H (L2.wipe σ vs) (wp sd vs)
  | [] => ok
  | v :: vs => by
    unfold L2.wipe wp
    have o1 := (Ok.wipe ok vs).forget v
    obtain ⟨o, s, nd, nf, b⟩ := o1.ex
    refine ⟨o, ?_, nd, nf, b⟩
    have hg : ∀ {σ : St} {sd : SD} {i : Nat} {o : List Addr}, Slots K Z H σ sd o → (sd[i]? = some none ∨ sd[i]? = none) → Slots K Z H (σ.set i none) sd o := by
      intro σ sd i o s
      induction s generalizing i with
      | nil => intro _; exact .nil
      | skip _ ih =>
        intro h
        cases i with
        | zero => exact .skip (by assumption)
        | succ i => exact .skip (ih h)
      | cons r _ ih =>
        intro h
        cases i with
        | zero => rcases h with h | h <;> cases h
        | succ i => exact .cons r (ih h)
    refine hg s ?_
    by_cases hl : v < (wp sd vs).length
    · exact .inl (by rw [List.getElem?_set_self hl])
    · exact .inr (List.getElem?_eq_none (by rw [List.length_set]; omega))
theorem Ok.unwipe {vs : List Nat} (ok : Ok K Z F H (L2.wipe σ vs) (wp sd vs)) : Ok K Z F H σ (wp sd vs) := by
  obtain ⟨o, s, nd, nf, b⟩ := ok.ex
  refine ⟨o, ?_, nd, nf, b⟩
  have hn : ∀ i ∈ vs, (wp sd vs)[i]? = some none ∨ (wp sd vs)[i]? = none := by
    intro i
    induction vs with
    | nil => intro h; cases h
    | cons v vs ih =>
      intro h
      unfold wp
      by_cases e : v = i
      · subst e
        by_cases hl : v < (wp sd vs).length
        · exact .inl (by rw [List.getElem?_set_self hl])
        · exact .inr (List.getElem?_eq_none (by rw [List.length_set]; omega))
      · rw [List.getElem?_set_ne e]
        rcases List.mem_cons.mp h with h | h
        · exact absurd h.symm e
        · by_cases hl : i < (wp sd vs).length
          · cases q : (wp sd vs)[i]? with
            | none => exact .inr rfl
            | some x =>
              cases x with
              | none => exact .inl rfl
              | some w =>
                exfalso
                have : ∀ (vs : List Nat), i ∈ vs → (wp sd vs)[i]? = some (some w) → False := by
                  intro vs
                  induction vs with
                  | nil => intro h; cases h
                  | cons u us ih2 =>
                    intro h q
                    unfold wp at q
                    by_cases e2 : u = i
                    · subst e2
                      by_cases hl : u < (wp sd us).length
                      · rw [List.getElem?_set_self hl] at q; cases q
                      · rw [List.getElem?_eq_none (by rw [List.length_set]; omega)] at q; cases q
                    · rw [List.getElem?_set_ne e2] at q
                      rcases List.mem_cons.mp h with h | h
                      · exact e2 h.symm
                      · exact ih2 h q
                exact this vs h q
          · exact .inr (List.getElem?_eq_none (by omega))
  have hg : ∀ {τ : St} {sd : SD} {o : List Addr}, Slots K Z H τ sd o → ∀ ρ : St, ρ.length = τ.length → (∀ (i : Nat) (w : D × Nat), sd[i]? = some (some w) → ρ[i]? = τ[i]?) → Slots K Z H ρ sd o := by
    intro τ sd o s
    induction s with
    | nil =>
      intro ρ hl _
      cases ρ with
      | nil => exact .nil
      | cons _ _ => cases hl
    | skip _ ih =>
      intro ρ hl h
      cases ρ with
      | nil => cases hl
      | cons r ρ => exact .skip (ih ρ (by simpa using hl) fun i w e => h (i + 1) w e)
    | cons r _ ih =>
      intro ρ hl h
      cases ρ with
      | nil => cases hl
      | cons x ρ =>
        have e := h 0 _ rfl
        cases e
        exact .cons r (ih ρ (by simpa using hl) fun i w e => h (i + 1) w e)
  refine hg s σ (wipe_length σ vs).symm fun i w e => ?_
  rw [wipe_at]
  by_cases m : i ∈ vs
  · rcases hn i m with q | q <;> (rw [q] at e; cases e)
  · rw [if_neg m]
end
section
variable {X : Cx} {W : WX}
theorem wipe_wipe {σ : St} {vs : List Nat} : wipe (wipe σ vs) vs = wipe σ vs := by
  refine List.ext_getElem? fun i => ?_
  rw [wipe_at, wipe_at, wipe_length]
  by_cases m : i ∈ vs
  · rw [if_pos m, if_pos m]
  · rw [if_neg m]
/-- what stands between two turns of a comprehension -/
structure LcI (K : PySem.W.Frag) (Z1 F : Pz) (H1 : Hp) (Z0 : Pz) (H0 : Hp) (p : Addr) (σw : St) (sdw : SD) (accD : List D) (Z' : Pz) (H' : Hp) : Prop where
  ok : Ok K Z' (uni F [p]) H' σw sdw
  ext : Ext F Z0 H0 Z' H'
  st : ∀ a, Z1 a → Z' a ∧ H' a = H1 a
  at_ : ∃ acc, H' p = some (.lst acc) ∧ RpAll K Z' H' acc accD 0 []
theorem lc_sound {vs : List Nat} {fi : Ei} {g : Tg} {ft : Et} {fe : Ev} {K : PySem.W.Frag} {mg : Mg} {σ : St} {H : Hp} {Q : VK} (h : tE K mg W (lcS vs fi g ft fe) σ H Q) : tLc (tI K mg W fi) (gP K vs g) (tT K mg W0 ft) (tE K mg W0 fe) vs σ H Q := by
  obtain ⟨Z, F, sd, ok, h⟩ := h
  refine ⟨Z, F, sd, ok, ?_⟩
  unfold lcS at h
  cases e : fi sd with
  | stuck => rw [e] at h; exact h.elim
  | exc x sd1 => rw [e] at h; exact h
  | ok items sd1 =>
    rw [e, R.bind_ok] at h
    intro J Z1 H1 it ok1 x1 p hp
    obtain ⟨okp, xp, nFp, nZp⟩ := ok1.new (o := .lst []) hp
    refine ⟨fun i m H' => m = items.length - i ∧ i ≤ items.length ∧ ∃ Z' sd' accD, LcI K Z1 F H1 Z H p (wipe σ vs) (wp sd' vs) accD Z' H' ∧
      eP K mg W Z F σ H ((lcGo vs g ft fe (items.drop i) sd' accD).bind fun out sd2 => .ok (.lst out, 1) (wp sd2 vs)) Q, ⟨_, rfl, Nat.zero_le _, Z1, sd1, [], ⟨okp.wipe vs, x1.trans xp, fun a z => xp.z a z, [], upd_same, .nil 0⟩, h⟩, ?_⟩
    rintro i m H' ⟨rfl, hi, Z', sd', accD, I, h'⟩
    obtain ⟨hstop, hgo⟩ := it i Z' H' I.st I.ok.base.z
    obtain ⟨acc, hacc, racc⟩ := I.at_
    by_cases hlt : i < items.length
    · refine .inr ?_
      have ed : items[i]? = some items[i] := List.getElem?_eq_getElem hlt
      obtain ⟨jg, jy⟩ := hgo _ ed
      refine ⟨jg, fun H' => ∃ Z' sd' accD, LcI K Z1 F H1 Z H p (wipe σ vs) (wp sd' vs) accD Z' H' ∧ eP K mg W Z F σ H ((lcGo vs g ft fe (items.drop (i + 1)) sd' accD).bind fun out sd2 => .ok (.lst out, 1) (wp sd2 vs)) Q,
        fun H' hN => ⟨items.length - (i + 1), by omega, rfl, hlt, hN⟩, fun x H2 y => ?_⟩
      obtain ⟨Z2, gr, rx⟩ := jy x H2 y
      have edrop : items.drop i = items[i] :: items.drop (i + 1) := List.drop_eq_getElem_cons hlt
      rw [edrop] at h'
      have ok2 : Ok K Z2 (uni F [p]) H2 (wipe σ vs) (wp sd' vs) := (gr.ok I.ok).less fun _ z => .inl z
      have x2 : Ext (uni F [p]) Z' H' Z2 H2 := gr.ext I.ok.base
      refine ⟨Z2, uni F [p], wp sd' vs, items[i], ok2, rx, ?_⟩
      unfold lcGo at h'
      cases eg : g items[i] (wp sd' vs) with
      | none => rw [eg] at h'; exact h'.elim
      | some sd2 =>
        rw [eg] at h'
        intro σ2 ok3 df
        have ew : wipe σ2 vs = wipe σ vs := df.wipe.trans wipe_wipe
        refine ⟨ew, ?_⟩
        refine tP.seq ok3 (fun b sd3 e3 Z3 H3 ok4 x3 => ?_) (fun x sd3 e3 => ?_) (fun e3 => ?_)
        · have x23 := x2.trans x3
          cases b with
          | false =>
            simp only [e3] at h'
            refine ⟨Z3, sd3, accD, ⟨?_, I.ext.trans (x23.mono fun _ z => .inl z), fun a z => ?_, acc, ?_, racc.keep x23.z fun a m => absurd m List.not_mem_nil⟩, h'⟩
            · rw [← ew]; exact ok4.wipe vs
            · have a1 := I.st a z
              have a2 := x23.z a a1.1
              exact ⟨a2.1, a2.2.trans a1.2⟩
            · rw [x23.f p (.inr List.mem_cons_self)]; exact hacc
          | true =>
            simp only [e3] at h'
            refine eP.seq (G := fun _ _ => True) ok4 (fun w sd4 e4 v Z4 H4 rv ok5 x4 => ?_) (fun x sd4 e4 => ?_) (fun e4 => ?_)
            · simp only [e4] at h'
              have x24 := x23.trans x4
              have hacc4 : H4 p = some (.lst acc) := by rw [x24.f p (.inr List.mem_cons_self)]; exact hacc
              split at h'
              · rename_i hl
                obtain ⟨okw, kw⟩ := ok5.write (o := .lst (acc ++ [v])) (p := p) (.inr List.mem_cons_self)
                have racc4 := racc.keep x24.z fun a m => absurd m List.not_mem_nil
                refine ⟨acc, hacc4, by rw [racc.length]; exact hl, Z4, sd4, accD ++ [w.1], ⟨?_, ?_, fun a z => ?_, _, upd_same, ?_⟩, h'⟩
                · rw [← ew]; exact okw.wipe vs
                · refine (I.ext.trans (x24.mono fun _ z => .inl z)).trans ⟨kw, fun a f => upd_ne fun e => ?_⟩
                  rw [e] at f
                  exact nFp f
                · have a1 := I.st a z
                  have a2 := x24.z a a1.1
                  have a3 := kw a a2.1
                  exact ⟨a3.1, a3.2.trans (a2.2.trans a1.2)⟩
                · exact (racc4.app (.cons (o := []) (p := []) rv (.nil 0))).keep kw fun a m => absurd m List.not_mem_nil
              · exact h'.elim
            · simp only [e4] at h'; exact h'.elim
            · simp only [e4] at h'; exact h'.elim
        · simp only [e3] at h'; exact h'.elim
        · simp only [e3] at h'; exact h'.elim
    · refine .inl ⟨hstop (by omega), ?_⟩
      have e0 : items.drop i = [] := List.drop_eq_nil_of_le (by omega)
      rw [e0] at h'
      refine h' (.ref p) Z' H' [p] (.lstS (o := []) hacc racc) (by simp) (fun a m => ?_) I.ok.unwipe I.ext
      rw [List.mem_singleton] at m
      rw [m]
      exact nFp
theorem takesW0 {X : Cx} : Takes X W0 := takes0
theorem st_yes : PTs X [] (tT X.K X.mg W0 tYes') := ⟨fun pins s σ H Q I ⟨Z, F, sd, ok, h⟩ => pts_nil.run pins s σ H Q I (h Z H ok .refl)⟩
theorem st_one {c : Expr} {f : Et} (h : ST X W0 c f) : PTs X [c] (tT X.K X.mg W0 f) := pts_one h
theorem tLc_imp {wi : TI} {g : TG} {tt : TT} {te : TE} {vs : List Nat} {f : Ev} {e : Expr} (h : PE X e (tLc wi g tt te vs)) (w : ∀ σ H Q, tE X.K X.mg W f σ H Q → tLc wi g tt te vs σ H Q) : SE X W e f := PE.imp h w
/-- [e for tg in iter if ..] -/
theorem se_lc {elt tg iter : Expr} {ifs : List Expr} {scope : Scope} {own : List (Str × Nat)} {pos : Pos} {fi : Ei} {g : Tg} {ft : Et} {fe : Ev} (hc : X.calm = true) (hN : X.N.Nodup) (hi : SI X W tg iter fi) (ok : BlkOk X.N X.env.scope scope own)
    (hg : ∀ (s : Shared) (H : Hp) (C : Addr) (cl : List (Str × Addr)) (fp : List Addr), SG (X.blk s H scope (compEnvC scope cl C X.env) fp) (own.map (·.2)) tg g)
    (ht : ∀ (s : Shared) (H : Hp) (C : Addr) (cl : List (Str × Addr)) (fp : List Addr), PTs (X.blk s H scope (compEnvC scope cl C X.env) fp) ifs (tT X.K X.mg W0 ft))
    (he : ∀ (s : Shared) (H : Hp) (C : Addr) (cl : List (Str × Addr)) (fp : List Addr), SE (X.blk s H scope (compEnvC scope cl C X.env) fp) W0 elt fe) (hs : ∀ x, foldedSetIterable iter X.env x = pure x := by intro _; rfl) :
    SE X W (.ListComp elt [⟨tg, iter, ifs, 0⟩] scope pos) (lcS (own.map (·.2)) fi g ft fe) :=
  PE.imp (pe_lc (wi := tI X.K X.mg W fi) (g := gP X.K (own.map fun x : Str × Nat => x.2) g) (tt := tT X.K X.mg W0 ft) (te := tE X.K X.mg W0 fe) hc hN hi ok hg ht he hs) fun _ _ _ h => lc_sound h
end
end VS
/-! VS7: statements; defs and their calls. -/
namespace VS
open PySem PySem.Spec L2
open PyProof.Rows (envOfC)

/-! ### statements on plain data -/
inductive O where
  | nx (sd : SD)
  | rt (w : D × Nat) (sd : SD)
  | bk (sd : SD)
  | ct (sd : SD)
  | ex (x : Exn) (sd : SD)
  | stuck
abbrev Sm := SD → O
def O.go (o : O) (f : SD → O) : O := match o with
  | .nx sd => f sd
  | o => o
@[simp] theorem O.go_nx (sd : SD) (f : SD → O) : (O.nx sd).go f = f sd := eqr rfl
@[simp] theorem O.go_rt (w : D × Nat) (sd : SD) (f : SD → O) : (O.rt w sd).go f = .rt w sd := eqr rfl
@[simp] theorem O.go_bk (sd : SD) (f : SD → O) : (O.bk sd).go f = .bk sd := eqr rfl
@[simp] theorem O.go_ct (sd : SD) (f : SD → O) : (O.ct sd).go f = .ct sd := eqr rfl
@[simp] theorem O.go_ex (x : Exn) (sd : SD) (f : SD → O) : (O.ex x sd).go f = .ex x sd := eqr rfl
@[simp] theorem O.go_stuck (f : SD → O) : (O.stuck).go f = .stuck := eqr rfl
def R.run {α : Type} (r : R α) (f : α → SD → O) : O := match r with
  | .ok a sd => f a sd
  | .exc x sd => .ex x sd
  | .stuck => .stuck
@[simp] theorem R.run_ok {α : Type} (a : α) (sd : SD) (g : α → SD → O) : (R.ok a sd).run g = g a sd := eqr rfl
@[simp] theorem R.run_exc {α : Type} (x : Exn) (sd : SD) (g : α → SD → O) : (R.exc x sd : R α).run g = .ex x sd := eqr rfl
@[simp] theorem R.run_stuck {α : Type} (g : α → SD → O) : (R.stuck : R α).run g = .stuck := eqr rfl
def zSeq (f g : Sm) : Sm := fun sd => (f sd).go g
def zNil : Sm := fun sd => .nx sd
def zSet (i : Nat) (f : Ev) : Sm := fun sd => (f sd).run fun w sd1 => .nx (sd1.set i (some w))
def zTg (g : Tg) (f : Ev) : Sm := fun sd => (f sd).run fun w sd1 => match g w.1 sd1 with
  | some sd2 => .nx sd2
  | none => .stuck
def zDrop (f : Ev) : Sm := fun sd => (f sd).run fun _ sd1 => .nx sd1
def zRet (f : Ev) : Sm := fun sd => (f sd).run fun w sd1 => .rt w sd1
def zRetN : Sm := fun sd => .rt (.non, 0) sd
def zIf (c : Et) (f g : Sm) : Sm := fun sd => (c sd).run fun b sd1 => if b then f sd1 else g sd1
def zBk : Sm := fun sd => .bk sd
def zCt : Sm := fun sd => .ct sd
def zNever : Sm := fun _ => .stuck
/-- x.append(e), the row owned -/
def zApp (i : Nat) (f : Ev) : Sm := fun sd => match sd[i]? with
  | some (some (.lst _, _)) => (f sd).run fun w sd1 => match sd1[i]? with
    | some (some (.lst ds, 1)) => if ds.length < sizeLine then .nx (sd1.set i (some (.lst (ds ++ [w.1]), 1))) else .stuck
    | _ => .stuck
  | _ => .stuck
/-- x[e] = f, the row owned -/
def zPut (i : Nat) (fi f : Ev) : Sm := fun sd => (f sd).run fun w sd1 => match sd1[i]? with
  | some (some _) => (fi sd1).run fun y sd2 => match sd2[i]?, y.1 with
    | some (some (.lst ds, 1)), .int j => match ixN ds.length j with
      | some n => .nx (sd2.set i (some (.lst (ds.set n w.1), 1)))
      | none => .stuck
    | _, _ => .stuck
  | _ => .stuck
def forGo (ws : List Nat) (g : Tg) (body : Sm) : List D → SD → O
  | [], sd => .nx sd
  | d :: ds, sd => match g d sd with
    | none => .stuck
    | some sd1 => match body sd1 with
      | .nx sd2 => forGo ws g body ds (wp sd2 ws)
      | .ct sd2 => forGo ws g body ds (wp sd2 ws)
      | .bk sd2 => .nx (wp sd2 ws)
      | o => o
/-- for: the slots ws are forgotten behind each turn -/
def zFor (ws : List Nat) (fi : Ei) (g : Tg) (body : Sm) : Sm := fun sd => (fi sd).run fun items sd1 => forGo ws g body items sd1
def whGo (ws : List Nat) (c : Et) (body : Sm) : Nat → SD → O
  | 0, _ => .stuck
  | n + 1, sd => (c sd).run fun b sd1 => if b then (match body sd1 with
      | .nx sd2 => whGo ws c body n (wp sd2 ws)
      | .ct sd2 => whGo ws c body n (wp sd2 ws)
      | .bk sd2 => .nx (wp sd2 ws)
      | o => o) else .nx sd1
def zWhile (n : Nat) (ws : List Nat) (c : Et) (body : Sm) : Sm := fun sd => whGo ws c body n sd

section
variable (K : PySem.W.Frag) (mg : Mg) (W : WX)
/-- the slots ps hold what they held -/
def Pin (ps : List Nat) (σ σ' : St) : Prop := ∀ i ∈ ps, σ'[i]? = σ[i]?
theorem Pin.refl {ps : List Nat} {σ : St} : Pin ps σ σ := fun _ _ => rfl
theorem Pin.trans {ps : List Nat} {σ σ1 σ2 : St} (a : Pin ps σ σ1) (b : Pin ps σ1 σ2) : Pin ps σ σ2 := fun i m => (b i m).trans (a i m)
theorem Pin.set {ps : List Nat} {σ : St} {i : Nat} {x : Option V} (h : i ∉ ps) : Pin ps σ (σ.set i x) := fun j m => List.getElem?_set_ne fun e : i = j => h (by rw [e]; exact m)
theorem Pin.dif {ps vs : List Nat} {σ σ' : St} (d : Dif vs σ σ') (h : ∀ i ∈ ps, i ∉ vs) : Pin ps σ σ' := fun i m => d.2 i (h i m)
def sP (ps : List Nat) (Z F : Pz) (σ : St) (H : Hp) (o : O) (D : Ends) : Prop := match o with
  | .nx sd' => ∀ σ' Z' H', Pin ps σ σ' → Ok K Z' F H' σ' sd' → Ext F Z H Z' H' → D.nx σ' H'
  | .bk sd' => ∀ σ' Z' H', Pin ps σ σ' → Ok K Z' F H' σ' sd' → Ext F Z H Z' H' → D.bk σ' H'
  | .ct sd' => ∀ σ' Z' H', Pin ps σ σ' → Ok K Z' F H' σ' sd' → Ext F Z H Z' H' → D.ct σ' H'
  | .rt w sd' => ∀ v Z' H' o σ', Pin ps σ σ' → Rp K Z' H' v w.1 w.2 o → o.Nodup → (∀ a ∈ o, ¬ F a) → Ok K Z' (uni F o) H' σ' sd' → Ext F Z H Z' H' → D.rt v H'
  | .ex x sd' => ∀ σ', Pin ps σ σ' → excP K mg W Z F σ' H x sd'
  | .stuck => False
def tS (ps : List Nat) (f : Sm) : TS := fun D σ H => ∃ Z F sd, Ok K Z F H σ sd ∧ sP K mg W ps Z F σ H (f sd) D
end
def SSp (ps : List Nat) (X : Cx) (W : WX) (st : Stmt) (f : Sm) : Prop := PS X st (tS X.K X.mg W ps f)
def SSsp (ps : List Nat) (X : Cx) (W : WX) (sts : List Stmt) (f : Sm) : Prop := PSs X sts (tS X.K X.mg W ps f)
abbrev SS (X : Cx) (W : WX) (st : Stmt) (f : Sm) : Prop := SSp [] X W st f
abbrev SSs (X : Cx) (W : WX) (sts : List Stmt) (f : Sm) : Prop := SSsp [] X W sts f
theorem PS.imp {X : Cx} {e : Stmt} {t t' : TS} (h : PS X e t) (w : ∀ D σ H, t' D σ H → t D σ H) : PS X e t' := ⟨fun pins s σ H D I q => h.run pins s σ H D I (w _ _ _ q)⟩
theorem PSs.imp {X : Cx} {e : List Stmt} {t t' : TS} (h : PSs X e t) (w : ∀ D σ H, t' D σ H → t D σ H) : PSs X e t' := ⟨fun pins s σ H D I q => h.run pins s σ H D I (w _ _ _ q)⟩
section
variable {K : PySem.W.Frag} {mg : Mg} {W : WX} {Z Z1 F : Pz} {H H1 : Hp} {σ σ1 : St} {ps : List Nat}
theorem sP.go {o : O} {D : Ends} (h : sP K mg W ps Z F σ H o D) (x : Ext F Z H Z1 H1) (pn : Pin ps σ σ1) : sP K mg W ps Z1 F σ1 H1 o D := by
  cases o with
  | nx sd => exact fun σ' Z' H' p ok x' => h σ' Z' H' (pn.trans p) ok (x.trans x')
  | bk sd => exact fun σ' Z' H' p ok x' => h σ' Z' H' (pn.trans p) ok (x.trans x')
  | ct sd => exact fun σ' Z' H' p ok x' => h σ' Z' H' (pn.trans p) ok (x.trans x')
  | rt w sd => exact fun v Z' H' o σ' p r nd nf ok x' => h v Z' H' o σ' (pn.trans p) r nd nf ok (x.trans x')
  | ex e sd => exact fun σ' p => (h σ' (pn.trans p)).go0 x
  | stuck => exact h
theorem sP.imp {o : O} {D D' : Ends} (h : sP K mg W ps Z F σ H o D) (hn : ∀ σ H, D.nx σ H → D'.nx σ H) (hb : ∀ σ H, D.bk σ H → D'.bk σ H) (hc : ∀ σ H, D.ct σ H → D'.ct σ H) (hr : ∀ v H, D.rt v H → D'.rt v H) : sP K mg W ps Z F σ H o D' := by
  cases o with
  | nx sd => exact fun σ' Z' H' p ok x' => hn _ _ (h σ' Z' H' p ok x')
  | bk sd => exact fun σ' Z' H' p ok x' => hb _ _ (h σ' Z' H' p ok x')
  | ct sd => exact fun σ' Z' H' p ok x' => hc _ _ (h σ' Z' H' p ok x')
  | rt w sd => exact fun v Z' H' o σ' p r nd nf ok x' => hr _ _ (h v Z' H' o σ' p r nd nf ok x')
  | ex e sd => exact h
  | stuck => exact h
end
section
variable {X : Cx} {W : WX} {pos p q : Pos} {a b c : Expr} {fa fb : Ev} {st : Stmt} {rest : List Stmt} {f g : Sm} {ps : List Nat}
theorem ss_one (h : SSp ps X W st f) : SSsp ps X W [st] f := pss_one h
theorem ss_nil : SSsp ps X W [] zNil := PSs.imp pss_nil fun D σ H ⟨Z, F, sd, ok, h⟩ => h σ Z H .refl ok .refl
theorem ss_cons (h1 : SSp ps X W st f) (h2 : SSsp ps X W rest g) : SSsp ps X W (st :: rest) (zSeq f g) := by
  refine PSs.imp (pss_cons h1 h2) fun D σ H ⟨Z, F, sd, ok, h⟩ => ?_
  refine ⟨Z, F, sd, ok, ?_⟩
  unfold zSeq at h
  cases e : f sd with
  | nx sd1 =>
    rw [e] at h
    exact fun σ' Z' H' p ok' x => ⟨Z', F, sd1, ok', h.go x p⟩
  | rt w sd1 => rw [e] at h; exact h
  | bk sd1 => rw [e] at h; exact h
  | ct sd1 => rw [e] at h; exact h
  | ex x sd1 => rw [e] at h; exact h
  | stuck => rw [e] at h; exact h
theorem ss_pass : SSp ps X W (.Pass pos) zNil := PS.imp ps_pass fun D σ H ⟨Z, F, sd, ok, h⟩ => h σ Z H .refl ok .refl
theorem ss_break : SSp ps X W (.Break pos) zBk := PS.imp ps_break fun D σ H ⟨Z, F, sd, ok, h⟩ => h σ Z H .refl ok .refl
theorem ss_continue : SSp ps X W (.Continue pos) zCt := PS.imp ps_continue fun D σ H ⟨Z, F, sd, ok, h⟩ => h σ Z H .refl ok .refl
theorem ss_never : SSp ps X W st zNever := PS.imp ps_never fun D σ H ⟨Z, F, sd, ok, h⟩ => h.elim
theorem ss_set (i : Nat) {x : Str} {pos' : Pos} (he : SE X W a fa) (hN : X.N.Nodup) (hi : X.N[i]? = some x := by rfl) (hx : Loc X.env.scope x := by first | exact Or.inl rfl | exact Or.inr rfl) (hs : swapsWith a (some (.Name x pos')) pos.line X.env = pure false := by rfl) (hp : i ∉ ps := by first | exact List.not_mem_nil | decide)
    (hf : X.fn x = true ∨ X.env.scope.names.lookup x = some .local := by first | exact .inl rfl | exact .inr rfl) : SSp ps X W (.Assign [.Name x pos'] a pos) (zSet i fa) := by
  refine PS.imp (ps_set hN hi hx he hs hf) fun D σ H ⟨Z, F, sd, ok, h⟩ => ?_
  unfold zSet at h
  refine eP.seqO ok (fun w sd1 e v Z1 H1 o r nd nf ok1 x1 => ?_) (fun x sd1 e => ?_) (fun e => ?_)
  · rw [e, R.run_ok] at h
    exact h _ Z1 H1 (.set hp) (ok1.store r nd nf) x1
  · rw [e] at h; exact h σ .refl
  · rw [e] at h; exact h
/-- name = [..] on one line -/
theorem ss_setLc (i : Nat) {y : Str} {py : Pos} {elt tg iter : Expr} {ifs : List Expr} {scope : Scope} {own : List (Str × Nat)} {spos : Pos} {fi : Ei} {gg : Tg} {ft : Et} {fe : Ev} (hc : X.calm = true) (hN : X.N.Nodup) (hy : X.N[i]? = some y) (hyl : X.env.scope.names.lookup y = some .local)
    (hsw : swapsWith (.ListComp elt [⟨tg, iter, ifs, 0⟩] scope pos) (some (.Name y py)) spos.line X.env = pure true) (hi : SI X W tg iter fi) (ok : BlkOk X.N X.env.scope scope own)
    (hg : ∀ (s : Shared) (H : Hp) (C : Addr) (cl : List (Str × Addr)) (fp : List Addr), SG (X.blk s H scope (compEnvC scope cl C X.env) fp) (own.map (·.2)) tg gg)
    (ht : ∀ (s : Shared) (H : Hp) (C : Addr) (cl : List (Str × Addr)) (fp : List Addr), PTs (X.blk s H scope (compEnvC scope cl C X.env) fp) ifs (tT X.K X.mg W0 ft))
    (he : ∀ (s : Shared) (H : Hp) (C : Addr) (cl : List (Str × Addr)) (fp : List Addr), SE (X.blk s H scope (compEnvC scope cl C X.env) fp) W0 elt fe) (hs : ∀ x, foldedSetIterable iter X.env x = pure x := by intro _; rfl) (hp : i ∉ ps := by first | exact List.not_mem_nil | decide) :
    SSp ps X W (.Assign [.Name y py] (.ListComp elt [⟨tg, iter, ifs, 0⟩] scope pos) spos) (zSet i (lcS (own.map (·.2)) fi gg ft fe)) := by
  refine PS.imp (ps_setLc (wi := tI X.K X.mg W fi) (g := gP X.K (own.map fun x : Str × Nat => x.2) gg) (tt := tT X.K X.mg W0 ft) (te := tE X.K X.mg W0 fe) hc hN hy hyl hsw hi ok hg ht he hs) fun D σ H ⟨Z, F, sd, okk, h⟩ => ?_
  refine lc_sound ?_
  unfold zSet at h
  refine eP.seqO okk (fun w sd1 e v Z1 H1 o r nd nf ok1 x1 => ?_) (fun x sd1 e => ?_) (fun e => ?_)
  · rw [e, R.run_ok] at h
    exact h _ Z1 H1 (.set hp) (ok1.store r nd nf) x1
  · rw [e] at h; exact h σ .refl
  · rw [e] at h; exact h
theorem ss_tg {tg : Expr} {gg : Tg} {vs : List Nat} (he : SE X W a fa) (hg : SG X vs tg gg) (hs : swapsWithSole [tg] a pos.line X.env = pure false := by rfl) (hw : swappedStores [tg] a X.env = pure none := by rfl)
    (h1 : (assignEach [tg] X.env).map (·.2) = [assign tg X.env] := by rfl) (hp : ∀ i ∈ ps, i ∉ vs := by first | exact (fun _ m => absurd m List.not_mem_nil) | decide) : SSp ps X W (.Assign [tg] a pos) (zTg gg fa) := by
  refine PS.imp (ps_asg he hg hs hw h1) fun D σ H ⟨Z, F, sd, ok, h⟩ => ?_
  unfold zTg at h
  refine eP.seq (G := fun _ _ => True) ok (fun w sd1 e v Z1 H1 r ok1 x1 => ?_) (fun x sd1 e => ?_) (fun e => ?_)
  · rw [e, R.run_ok] at h
    refine ⟨Z1, F, sd1, w.1, ok1, r, ?_⟩
    cases eg : gg w.1 sd1 with
    | none => rw [eg] at h; exact h.elim
    | some sd2 =>
      rw [eg] at h
      exact fun σ' ok' df => h σ' Z1 H1 (.dif df hp) ok' x1
  · rw [e] at h; exact h σ .refl
  · rw [e] at h; exact h
theorem ss_drop (he : SE X W a fa) (hs : swapsWith a none pos.line X.env = pure false := by rfl) : SSp ps X W (.Expr a pos) (zDrop fa) := by
  refine PS.imp (ps_expr he hs) fun D σ H ⟨Z, F, sd, ok, h⟩ => ?_
  unfold zDrop at h
  refine eP.seq (G := fun _ _ => True) ok (fun w sd1 e v Z1 H1 r ok1 x1 => ?_) (fun x sd1 e => ?_) (fun e => ?_)
  · rw [e, R.run_ok] at h
    exact h σ Z1 H1 .refl ok1 x1
  · rw [e] at h; exact h σ .refl
  · rw [e] at h; exact h
theorem ss_ret (he : SE X W a fa) : SSp ps X W (.Return (some a) pos) (zRet fa) := by
  refine PS.imp (ps_ret he) fun D σ H ⟨Z, F, sd, ok, h⟩ => ?_
  unfold zRet at h
  refine eP.seqO ok (fun w sd1 e v Z1 H1 o r nd nf ok1 x1 => ?_) (fun x sd1 e => ?_) (fun e => ?_)
  · rw [e, R.run_ok] at h
    exact h v Z1 H1 o σ .refl r nd nf ok1 x1
  · rw [e] at h; exact h σ .refl
  · rw [e] at h; exact h
theorem ss_retN : SSp ps X W (.Return none pos) zRetN := PS.imp ps_retN fun D σ H ⟨Z, F, sd, ok, h⟩ => h .non Z H [] σ .refl (.non _) .nil (fun _ m => absurd m List.not_mem_nil) ok.unnil .refl
theorem ss_if {A B : List Stmt} {fc : Et} (hc : ST X W c fc) (ha : SSsp ps X W A f) (hb : SSsp ps X W B g) : SSp ps X W (.If c A B pos) (zIf fc f g) := by
  refine PS.imp (ps_if hc ha hb) fun D σ H ⟨Z, F, sd, ok, h⟩ => ?_
  unfold zIf at h
  refine tP.seq ok (fun b sd1 e Z1 H1 ok1 x1 => ?_) (fun x sd1 e => ?_) (fun e => ?_)
  · rw [e, R.run_ok] at h
    cases b with
    | true => exact ⟨Z1, F, sd1, ok1, h.go x1 .refl⟩
    | false => exact ⟨Z1, F, sd1, ok1, h.go x1 .refl⟩
  · rw [e] at h; exact h σ .refl
  · rw [e] at h; exact h
/-! rows that are changed -/
theorem lst1 {K : PySem.W.Frag} {Z : Pz} {H : Hp} {v : V} {ds : List D} {p : List Addr} (r : Rp K Z H v (.lst ds) 1 p) : ∃ a xs, v = .ref a ∧ p = [a] ∧ H a = some (.lst xs) ∧ RpAll K Z H xs ds 0 [] := by
  generalize e1 : (1 : Nat) = k at r
  generalize e2 : D.lst ds = d at r
  cases r <;> cases e2
  · cases e1
  · rename_i a xs k' o h r
    have : k' = 0 := by omega
    subst this
    cases r.nil0
    exact ⟨a, xs, rfl, rfl, h, r⟩
theorem Ok.isLst {K : PySem.W.Frag} {Z F : Pz} {H : Hp} {σ : St} {sd : SD} {i : Nat} {ds : List D} {k : Nat} (ok : Ok K Z F H σ sd) (e : sd[i]? = some (some (.lst ds, k))) : ∃ a xs, σ[i]? = some (some (.ref a)) ∧ H a = some (.lst xs) := by
  obtain ⟨v, p, e1, r, _⟩ := ok.take e
  generalize e2 : D.lst ds = d at r
  cases r <;> cases e2
  · exact ⟨_, _, e1, by assumption⟩
  · exact ⟨_, _, e1, by assumption⟩
theorem ss_app (i : Nat) {x : Str} {px pa : Pos} (he : SE X W a fa) (hN : X.N[i]? = some x := by rfl) (hv : Vis X.env.scope x := by first | exact Or.inl rfl | exact Or.inr (Or.inl rfl) | exact Or.inr (Or.inr rfl)) (hd : (x == ("__debug__" : Str)) = false := by decide) (hcd : (x == ("__classdict__" : Str)) = false := by decide)
    (hbase : attributeBase (.Name x px) "append" X.env (eval (.Name x px) X.env) = eval (.Name x px) X.env := by rfl)
    (hfew : ((backTo p (starEach [a] X.env)).all (fun x => !x.1) && (backToKw p (keywordEach [] X.env)).all (fun x => x.1.isSome)
      && decide ([a].length + ([] : List Keyword).length + (if ([] : List Keyword).isEmpty then 0 else 1) < 30)) = true := by rfl)
    (hline : (pa.endLine == p.line) = true := by rfl) (hst : starEach [a] X.env = (false, eval a X.env) :: starEach [] X.env := by rfl) (hpl : (backTo p (starEach [] X.env)).any (·.1) = false := by rfl)
    (hs : swapsWith (.Call (.Attribute (.Name x px) "append" pa) [a] [] p) none pos.line X.env = pure false := by rfl) : SSp ps X W (.Expr (.Call (.Attribute (.Name x px) "append" pa) [a] [] p) pos) (zApp i fa) := by
  refine PS.imp (ps_expr (pe_bm PySem.F.plainAttrs_list PySem.F.slot_list_append PySem.F.type_list_append mt_append (pe_var hN hv hd hcd) (pa_cons he pa_nil hst) hbase hfew hline hst hpl) hs) fun D σ H ⟨Z, F, sd, ok, h⟩ => ?_
  unfold zApp at h
  split at h
  · rename_i ds0 k0 e0
    obtain ⟨l, xs0, e1, hl0⟩ := ok.isLst e0
    refine ⟨.ref l, e1, .inl ⟨rfl, xs0, .of hl0⟩, ?_⟩
    refine eP.seq (G := fun _ _ => True) ok (fun w sd1 e y Z1 H1 r ok1 x1 => ?_) (fun x sd1 e => ?_) (fun e => ?_)
    · rw [e, R.run_ok] at h
      split at h
      · rename_i ds e2
        obtain ⟨v', q, e3, rr, nd, nf, ok2⟩ := ok1.take e2
        rw [e1] at e3
        cases e3
        obtain ⟨l', xs, el, rfl, hl, ra⟩ := lst1 rr
        cases el
        split at h
        · rename_i hz
          refine ⟨l, xs, y, rfl, rfl, hl, by rw [ra.length]; exact hz, ?_⟩
          obtain ⟨ok3, kz⟩ := ok2.write (o := .lst (xs ++ [y])) (p := l) (.inr List.mem_cons_self)
          have ra2 := (ra.app (.cons (o := []) (p := []) r (.nil 0))).keep kz fun a m => absurd m List.not_mem_nil
          have ok4 := ok3.back (.lstS (o := []) upd_same ra2) (by simp) nf e1
          rw [List.set_set] at ok4
          refine h σ Z1 _ .refl ok4 (x1.trans ⟨kz, fun a f => upd_ne fun e => ?_⟩)
          rw [e] at f
          exact nf l List.mem_cons_self f
        · exact h.elim
      · exact h.elim
    · rw [e] at h; exact h σ .refl
    · rw [e] at h; exact h
  · exact h.elim
theorem RpAll.put {K : PySem.W.Frag} {Z : Pz} {H : Hp} {xs : List V} {ds : List D} {v : V} {d : D} (n : Nat) (h : RpAll K Z H xs ds 0 []) (r : Rp K Z H v d 0 []) : RpAll K Z H (xs.set n v) (ds.set n d) 0 [] :=
  .mk (by rw [List.length_set, List.length_set, h.length]) fun i u e h1 h2 => by
    by_cases hi : n = i
    · subst hi
      have hl := h.length
      by_cases hn : n < xs.length
      · rw [List.getElem?_set_self hn] at h1
        rw [List.getElem?_set_self (by omega)] at h2
        cases h1; cases h2
        exact r
      · rw [List.getElem?_eq_none (by rw [List.length_set]; omega)] at h1; cases h1
    · rw [List.getElem?_set_ne hi] at h1 h2
      obtain ⟨v', e', r⟩ := h.get h2
      rw [h1] at e'; cases e'; exact r
theorem ss_put (i : Nat) {x : Str} {px tp : Pos} (hb : SE X W b fb) (he : SE X W a fa) (hN : X.N[i]? = some x := by rfl) (hv : Vis X.env.scope x := by first | exact Or.inl rfl | exact Or.inr (Or.inl rfl) | exact Or.inr (Or.inr rfl)) (hd : (x == ("__debug__" : Str)) = false := by decide) (hcd : (x == ("__classdict__" : Str)) = false := by decide)
    (ha : ∀ v, assign (.Subscript (.Name x px) b tp) X.env v = (do
      let ov ← holding [v] (eval (.Name x px) X.env)
      let iv ← holding [v, ov] (eval b X.env)
      standAt tp
      holding [v, ov, iv] (setItem ov iv v)
      release [v, ov, iv] []) := by intro _; rfl) (hs : swapsWithSole [.Subscript (.Name x px) b tp] a pos.line X.env = pure false := by rfl) (hw : swappedStores [.Subscript (.Name x px) b tp] a X.env = pure none := by rfl)
    (h1 : (assignEach [.Subscript (.Name x px) b tp] X.env).map (·.2) = [assign (.Subscript (.Name x px) b tp) X.env] := by rfl) : SSp ps X W (.Assign [.Subscript (.Name x px) b tp] a pos) (zPut i fb fa) := by
  refine PS.imp (ps_asg he (pg_sub (pe_var hN hv hd hcd) hb set_list ha) hs hw h1) fun D σ H ⟨Z, F, sd, ok, h⟩ => ?_
  unfold zPut at h
  refine eP.seq (G := fun _ _ => True) ok (fun w sd1 e y Z1 H1 r ok1 x1 => ?_) (fun x sd1 e => ?_) (fun e => ?_)
  · rw [e, R.run_ok] at h
    split at h
    · rename_i w0 e0
      obtain ⟨v, e1⟩ := ok1.slot e0
      refine ⟨v, e1, ?_⟩
      refine eP.seq (G := fun _ _ => True) ok1 (fun w2 sd2 e2 y2 Z2 H2 r2 ok2 x2 => ?_) (fun x sd1 e => ?_) (fun e => ?_)
      · rw [e2, R.run_ok] at h
        split at h
        · rename_i ds j e3 ej
          rw [ej] at r2
          cases r2
          obtain ⟨v', q, e4, rr, nd, nf, ok3⟩ := ok2.take e3
          rw [e1] at e4
          cases e4
          obtain ⟨l, xs, rfl, rfl, hl, ra⟩ := lst1 rr
          split at h
          · rename_i n en
            refine ⟨l, xs, j, n, rfl, rfl, hl, by rw [ra.length]; exact en, ?_⟩
            obtain ⟨ok4, kz⟩ := ok3.write (o := .lst (xs.set n y)) (p := l) (.inr List.mem_cons_self)
            have r' : Rp X.K Z2 H2 y w.1 0 [] := r.keep x2.z fun a m => absurd m List.not_mem_nil
            have ra2 := (ra.put n r').keep kz fun a m => absurd m List.not_mem_nil
            have ok5 := ok4.back (.lstS (o := []) upd_same ra2) (by simp) nf e1
            rw [List.set_set] at ok5
            refine h σ Z2 _ .refl ok5 ((x1.trans x2).trans ⟨kz, fun a f => upd_ne fun e => ?_⟩)
            rw [e] at f
            exact nf l List.mem_cons_self f
          · exact h.elim
        · exact h.elim
      · rw [e] at h; exact (h σ .refl).go0 x1
      · rw [e] at h; exact h
    · exact h.elim
  · rw [e] at h; exact h σ .refl
  · rw [e] at h; exact h

/-! ### loops -/
theorem ss_for {tg iter : Expr} {body : List Stmt} {fi : Ei} {gg : Tg} {vs ws : List Nat} (hp : PassesOwn (model X.prog X.w) X.A X.env X.xe) (hc : X.calm = true) (hi : SI X W tg iter fi) (hg : SG X vs tg gg) (hb : SSsp ps X W body f) (hs : ∀ x, foldedSetIterable iter X.env x = pure x := by intro _; rfl) (hpn : ∀ i ∈ ps, i ∉ vs := by first | exact (fun _ m => absurd m List.not_mem_nil) | decide) :
    SSp ps X W (.For tg iter body [] pos) (zFor ws fi gg f) := by
  refine PS.imp (ps_for hp hc hi hg hb hs) fun D σ H ⟨Z, F, sd, ok, h⟩ => ?_
  refine ⟨Z, F, sd, ok, ?_⟩
  unfold zFor at h
  cases e : fi sd with
  | stuck => rw [e] at h; exact h
  | exc x sd1 => rw [e] at h; exact h σ .refl
  | ok items sd1 =>
    rw [e, R.run_ok] at h
    intro J Z1 H1 it ok1 x1
    refine ⟨fun i m σ' H' => m = items.length - i ∧ ∃ Z' sd', Pin ps σ σ' ∧ Ok X.K Z' F H' σ' sd' ∧ Ext F Z H Z' H' ∧ (∀ a, Z1 a → Z' a ∧ H' a = H1 a) ∧ sP X.K X.mg W ps Z F σ H (forGo ws gg f (items.drop i) sd') D, ⟨_, rfl, Z1, sd1, .refl, ok1, x1, fun a z => ⟨z, rfl⟩, h⟩, ?_⟩
    rintro i m σ' H' ⟨rfl, Z', sd', pn', ok', x', st', h'⟩
    obtain ⟨hstop, hgo⟩ := it i Z' H' st' ok'.base.z
    by_cases hlt : i < items.length
    · have ed : items[i]? = some items[i] := List.getElem?_eq_getElem hlt
      obtain ⟨jg, jy⟩ := hgo _ ed
      refine .inr ⟨jg, fun σ2 H2 => ∃ Z' sd', Pin ps σ σ2 ∧ Ok X.K Z' F H2 σ2 sd' ∧ Ext F Z H Z' H2 ∧ (∀ a, Z1 a → Z' a ∧ H2 a = H1 a) ∧ sP X.K X.mg W ps Z F σ H (forGo ws gg f (items.drop (i + 1)) sd') D, fun σ2 H2 hN => ⟨items.length - (i + 1), by omega, rfl, hN⟩, fun x H2 y => ?_⟩
      obtain ⟨Z2, gr, rx⟩ := jy x H2 y
      have edrop : items.drop i = items[i] :: items.drop (i + 1) := List.drop_eq_getElem_cons hlt
      rw [edrop] at h'
      have ok2 : Ok X.K Z2 F H2 σ' sd' := (gr.ok ok').less fun _ z => .inl z
      have x2 : Ext F Z' H' Z2 H2 := gr.ext ok'.base
      refine ⟨Z2, F, sd', items[i], ok2, rx, ?_⟩
      unfold forGo at h'
      cases eg : gg items[i] sd' with
      | none => rw [eg] at h'; exact h'.elim
      | some sd2 =>
        rw [eg] at h'
        intro σ2 ok3 df
        have pn2 : Pin ps σ σ2 := pn'.trans (.dif df hpn)
        refine ⟨Z2, F, sd2, ok3, ?_⟩
        have again : ∀ sd3, sP X.K X.mg W ps Z F σ H (forGo ws gg f (items.drop (i + 1)) (wp sd3 ws)) D → ∀ σ3 Z3 H3, Pin ps σ2 σ3 → Ok X.K Z3 F H3 σ3 sd3 → Ext F Z2 H2 Z3 H3 →
            ∃ Z' sd', Pin ps σ σ3 ∧ Ok X.K Z' F H3 σ3 sd' ∧ Ext F Z H Z' H3 ∧ (∀ a, Z1 a → Z' a ∧ H3 a = H1 a) ∧ sP X.K X.mg W ps Z F σ H (forGo ws gg f (items.drop (i + 1)) sd') D := by
          intro sd3 h3 σ3 Z3 H3 p3 ok4 x3
          refine ⟨Z3, wp sd3 ws, pn2.trans p3, (ok4.wipe ws).unwipe, (x'.trans x2).trans x3, fun a z => ?_, h3⟩
          have a1 := st' a z
          have a2 := (x2.trans x3).z a a1.1
          exact ⟨a2.1, a2.2.trans a1.2⟩
        cases eb : f sd2 with
        | nx sd3 => simp only [eb] at h'; exact again sd3 h'
        | ct sd3 => simp only [eb] at h'; exact again sd3 h'
        | bk sd3 => simp only [eb] at h'; exact fun σ3 Z3 H3 p3 ok4 x3 => h' σ3 Z3 H3 (pn2.trans p3) (ok4.wipe ws).unwipe ((x'.trans x2).trans x3)
        | rt w sd3 => simp only [eb] at h'; exact fun v Z3 H3 o σ3 p3 r nd nf ok4 x3 => h' v Z3 H3 o σ3 (pn2.trans p3) r nd nf ok4 ((x'.trans x2).trans x3)
        | ex x sd3 => simp only [eb] at h'; exact fun σ3 p3 => (h' σ3 (pn2.trans p3)).go0 (x'.trans x2)
        | stuck => simp only [eb] at h'; exact h'
    · refine .inl ⟨hstop (by omega), ?_⟩
      have e0 : items.drop i = [] := List.drop_eq_nil_of_le (by omega)
      rw [e0] at h'
      exact h' σ' Z' H' pn' ok' x'
theorem ss_while (n : Nat) {body : List Stmt} {fc : Et} {ws : List Nat} (hp : PassesOwn (model X.prog X.w) X.A X.env X.xe) (hc : ST X W c fc) (hb : SSsp ps X W body f) : SSp ps X W (.While c body [] pos) (zWhile n ws fc f) := by
  refine PS.imp (ps_while hp hc hb) fun D σ H ⟨Z, F, sd, ok, h⟩ => ?_
  unfold zWhile at h
  refine ⟨fun m σ' H' => ∃ Z' sd', Pin ps σ σ' ∧ Ok X.K Z' F H' σ' sd' ∧ Ext F Z H Z' H' ∧ sP X.K X.mg W ps Z F σ H (whGo ws fc f m sd') D, ⟨n, Z, sd, .refl, ok, .refl, h⟩, ?_⟩
  rintro m σ' H' ⟨Z', sd', pn', ok', x', h'⟩
  cases m with
  | zero => exact h'.elim
  | succ m =>
    unfold whGo at h'
    refine tP.seq ok' (fun b sd1 e Z1 H1 ok1 x1 => ?_) (fun x sd1 e => ?_) (fun e => ?_)
    · rw [e, R.run_ok] at h'
      have x1' := x'.trans x1
      cases b with
      | false => exact h' σ' Z1 H1 pn' ok1 x1'
      | true =>
        refine ⟨fun σ2 H2 => ∃ Z' sd', Pin ps σ σ2 ∧ Ok X.K Z' F H2 σ2 sd' ∧ Ext F Z H Z' H2 ∧ sP X.K X.mg W ps Z F σ H (whGo ws fc f m sd') D, fun σ2 H2 hN => ⟨m, by omega, hN⟩, ?_⟩
        refine ⟨Z1, F, sd1, ok1, ?_⟩
        simp only [if_true] at h'
        cases eb : f sd1 with
        | nx sd3 => simp only [eb] at h'; exact fun σ3 Z3 H3 p3 ok4 x3 => ⟨Z3, wp sd3 ws, pn'.trans p3, (ok4.wipe ws).unwipe, x1'.trans x3, h'⟩
        | ct sd3 => simp only [eb] at h'; exact fun σ3 Z3 H3 p3 ok4 x3 => ⟨Z3, wp sd3 ws, pn'.trans p3, (ok4.wipe ws).unwipe, x1'.trans x3, h'⟩
        | bk sd3 => simp only [eb] at h'; exact fun σ3 Z3 H3 p3 ok4 x3 => h' σ3 Z3 H3 (pn'.trans p3) (ok4.wipe ws).unwipe (x1'.trans x3)
        | rt w sd3 => simp only [eb] at h'; exact fun v Z3 H3 o σ3 p3 r nd nf ok4 x3 => h' v Z3 H3 o σ3 (pn'.trans p3) r nd nf ok4 (x1'.trans x3)
        | ex x sd3 => simp only [eb] at h'; exact fun σ3 p3 => (h' σ3 (pn'.trans p3)).go0 x1'
        | stuck => simp only [eb] at h'; exact h'
    · rw [e] at h'; exact (h' σ' pn').go0 x'
    · rw [e] at h'; exact h'
end

/-! ### defs -/
inductive FR where
  | ok (w : D × Nat)
  | exc (x : Exn)
  | stuck
abbrev Fn := List (D × Nat) → FR
def O.fr : O → FR
  | .nx _ => .ok (.non, 0)
  | .rt w _ => .ok w
  | .ex x _ => .exc x
  | _ => .stuck
/-- what a def is worth, by its body -/
def fnOf (N : Nat) (body : Sm) : Fn := fun ws => (body (ws.map some ++ List.replicate (N - ws.length) none)).fr
section
variable (K : PySem.W.Frag) (mg : Mg)
/-- the promise -/
def spF (n : Nat) (f : Fn) : Sp := fun vs H Q E => ∃ (Z F : Pz) (ws : List (D × Nat)) (o : List Addr), vs.length = n ∧ Slots K Z H (vs.map some) (ws.map some) o ∧ o.Nodup ∧ (∀ a ∈ o, ¬ F a) ∧ Ok0 Z (uni F o) H ∧ match f ws with
  | .ok w => ∀ v Z' H' o', Rp K Z' H' v w.1 w.2 o' → o'.Nodup → (∀ a ∈ o', ¬ F a) → Ok0 Z' (uni F o') H' → Ext F Z H Z' H' → Q v H'
  | .exc x => ∀ c dd Z' H', ExcAt K mg Z' H' x c dd → Ok0 Z' F H' → Ext F Z H Z' H' → E c dd H'
  | .stuck => False
end
theorem Slots.fill {K : PySem.W.Frag} {Z : Pz} {H : Hp} {σ : St} {sd : SD} {o : List Addr} (h : Slots K Z H σ sd o) (m : Nat) : Slots K Z H (σ ++ List.replicate m none) (sd ++ List.replicate m none) o := by
  induction h with
  | nil =>
    rw [List.nil_append, List.nil_append]
    induction m with
    | zero => exact .nil
    | succ m ih => exact .skip ih
  | skip _ ih => exact .skip ih
  | cons r _ ih => exact .cons r ih
section
variable {P : Program} {w : World} {K : PySem.W.Frag} {mg : Mg} {base : Heap}
/-- THE RULE: a def keeps the promise that its body's semantics makes -/
theorem fn_ok {x qual : Str} {st : Stmt} {f : Addr} {fd : FuncData} {N ps : List Str} {k : Nat} {body : Sm} (Fu : Fun K x qual st f fd) (S : FnScope N ps (defScope st))
    (hbody : ∀ (cdv : Value) (A : Around) (outer : List Env) (s : Shared) (H : Hp) (E : XK), Room k (A.deeper (envOfC qual (defScope st) s.heap.objs.size f cdv)) →
      SSs (cxOf (L2.CX P w) P w K mg base N qual (defScope st) f cdv A outer s H E) (fun c d _ H' => E c d H') (defBody st) body) : FnOk P w K mg base (L2.CX P w) (k + 1) f fd ps (spF K mg ps.length (fnOf N.length body)) := by
  refine Fu.okX S (fun vs H Q E h => ?_) (fun cdv A outer s H vs Q E hr h => ⟨_, hbody cdv A outer s H E hr, ?_⟩)
  · obtain ⟨_, _, _, _, h, _⟩ := h
    exact h
  · obtain ⟨Z, F, ws, o, hl, s0, nd, nf, b, h⟩ := h
    have hlen : vs.length = ws.length := by
      have := s0.length
      simpa using this
    refine ⟨Z, F, ws.map some ++ List.replicate (N.length - ws.length) none, ⟨o, ?_, nd, nf, b⟩, ?_⟩
    · unfold L2.start
      rw [hlen]
      exact s0.fill _
    · unfold fnOf at h
      cases e : body (ws.map some ++ List.replicate (N.length - ws.length) none) with
      | nx sd1 =>
        rw [e] at h
        exact fun σ' Z' H' _ ok x => h .non Z' H' [] (.non _) .nil (fun _ m => absurd m List.not_mem_nil) ok.unnil.base x
      | rt w1 sd1 =>
        rw [e] at h
        exact fun v Z' H' o' σ' _ r nd nf ok x => h v Z' H' o' r nd nf ok.base x
      | ex y sd1 =>
        rw [e] at h
        exact fun σ' _ c dd Z' H' a ok x => h c dd Z' H' a ok.base x
      | bk sd1 => rw [e] at h; exact h.elim
      | ct sd1 => rw [e] at h; exact h.elim
      | stuck => rw [e] at h; exact h.elim
/-- a def of the text, as its callers know it: its name, its level, its arguments' number, the values of its defaults, what it is worth -/
structure Def (P : Program) (w : World) (K : PySem.W.Frag) (mg : Mg) (base : Heap) (x : Str) (k : Nat) (n : Nat) (dfl : List D) (f : Fn) : Prop where
  ex : ∃ (fa : Addr) (fd : FuncData) (ps : List Str) (dvs : List V) (ds : List Value), mg x = some (.ref fa) ∧ PySem.W.keepIn K (.ref fa) = true ∧ Binds K fd ps ds ∧ Vals dvs ds ∧ (∀ Z H, RpAll K Z H dvs dfl 0 []) ∧ FnOk P w K mg base (L2.CX P w) k fa fd ps (spF K mg n f)
theorem Def.mono {x : Str} {j k n : Nat} {dfl : List D} {f : Fn} (h : Def P w K mg base x j n dfl f) (le : j ≤ k) : Def P w K mg base x k n dfl f := by
  obtain ⟨fa, fd, ps, dvs, ds, h1, h2, h3, h4, h5, h6⟩ := h.ex
  exact ⟨fa, fd, ps, dvs, ds, h1, h2, h3, h4, h5, h6.mono le⟩
/-- another way to say what a def is worth -/
theorem Def.as {x : Str} {k n : Nat} {dfl : List D} {f g : Fn} (h : Def P w K mg base x k n dfl f) (e : ∀ ws, g ws ≠ .stuck → f ws = g ws) : Def P w K mg base x k n dfl g := by
  obtain ⟨fa, fd, ps, dvs, ds, h1, h2, h3, h4, h5, h6⟩ := h.ex
  refine ⟨fa, fd, ps, dvs, ds, h1, h2, h3, h4, h5, h6.imp fun vs H Q E ⟨Z, F, ws, o, a1, a2, a3, a4, a5, a6⟩ => ⟨Z, F, ws, o, a1, a2, a3, a4, a5, ?_⟩⟩
  have hne : g ws ≠ .stuck := fun z => by rw [z] at a6; exact a6
  rw [e ws hne]
  exact a6
end
/-- the arguments of a call: frozen (fz), or given away (mv) -/
abbrev Eg := SD → R (List (D × Nat))
def gNil : Eg := fun sd => .ok [] sd
def gFz (f : Ev) (fs : Eg) : Eg := fun sd => (f sd).bind fun x sd1 => (fs sd1).bind fun xs sd2 => .ok ((x.1, 0) :: xs) sd2
def gMv (f : Ev) (fs : Eg) : Eg := fun sd => (f sd).bind fun x sd1 => (fs sd1).bind fun xs sd2 => .ok (x :: xs) sd2
def FR.r (r : FR) (sd : SD) : R (D × Nat) := match r with
  | .ok w => .ok w sd
  | .exc x => .exc x sd
  | .stuck => .stuck
@[simp] theorem FR.r_ok (w : D × Nat) (sd : SD) : (FR.ok w).r sd = .ok w sd := eqr rfl
@[simp] theorem FR.r_exc (x : Exn) (sd : SD) : (FR.exc x).r sd = .exc x sd := eqr rfl
@[simp] theorem FR.r_stuck (sd : SD) : (FR.stuck).r sd = .stuck := eqr rfl
def cal (n : Nat) (f : Fn) (dfl : List D) (fs : Eg) : Ev := fun sd => (fs sd).bind fun xs sd1 => if (xs.length + dfl.length == n) = true then (f (xs ++ dfl.map fun d => (d, 0))).r sd1 else .stuck
section
variable (K : PySem.W.Frag) (mg : Mg) (W : WX)
def argP (Z F : Pz) (σ : St) (H : Hp) (r : R (List (D × Nat))) (Q : List V → Hp → Prop) : Prop := match r with
  | .ok ws sd' => ∀ vs Z' H' o, Slots K Z' H' (vs.map some) (ws.map some) o → o.Nodup → (∀ a ∈ o, ¬ F a) → Ok K Z' (uni F o) H' σ sd' → Ext F Z H Z' H' → Q vs H'
  | .exc x sd' => excP K mg W Z F σ H x sd'
  | .stuck => False
def tG (f : Eg) : TA := fun σ H Q => ∃ Z F sd, Ok K Z F H σ sd ∧ argP K mg W Z F σ H (f sd) Q
end
def SGa (X : Cx) (W : WX) (es : List Expr) (f : Eg) : Prop := PA X es (tG X.K X.mg W f)
section
variable {X : Cx} {W : WX} {pos p q : Pos} {a b c : Expr} {es : List Expr} {fa fb : Ev} {fs : Eg}
theorem sga_nil : SGa X W [] gNil := PA.imp pa_nil fun σ H Q ⟨Z, F, sd, ok, h⟩ => h [] Z H [] .nil .nil (fun _ m => absurd m List.not_mem_nil) ok.unnil .refl
theorem sga_fz (ha : SE X W a fa) (hs : SGa X W es fs) (hst : starEach (a :: es) X.env = (false, eval a X.env) :: starEach es X.env := by rfl) : SGa X W (a :: es) (gFz fa fs) := by
  refine PA.imp (pa_cons ha hs hst) fun σ H Q ⟨Z, F, sd, ok, h⟩ => ?_
  unfold gFz at h
  refine eP.seq (G := fun _ _ => True) ok (fun w sd1 e y Z1 H1 r ok1 x1 => ?_) (fun x sd1 e => ?_) (fun e => ?_)
  · rw [e, R.bind_ok] at h
    refine ⟨Z1, F, sd1, ok1, ?_⟩
    cases e2 : fs sd1 with
    | ok ws sd2 =>
      rw [e2, R.bind_ok] at h
      intro vs Z2 H2 o s nd nf ok2 x2
      exact h (y :: vs) Z2 H2 o (.cons (o := []) (r.keep x2.z fun a m => absurd m List.not_mem_nil) s) nd nf ok2 (x1.trans x2)
    | exc x sd2 => rw [e2] at h; exact excP.go0 h x1
    | stuck => rw [e2] at h; exact h
  · rw [e] at h; exact h
  · rw [e] at h; exact h
theorem sga_mv (ha : SE X W a fa) (hs : SGa X W es fs) (hst : starEach (a :: es) X.env = (false, eval a X.env) :: starEach es X.env := by rfl) : SGa X W (a :: es) (gMv fa fs) := by
  refine PA.imp (pa_cons ha hs hst) fun σ H Q ⟨Z, F, sd, ok, h⟩ => ?_
  unfold gMv at h
  refine eP.seqO ok (fun w sd1 e y Z1 H1 o1 r nd1 nf1 ok1 x1 => ?_) (fun x sd1 e => ?_) (fun e => ?_)
  · rw [e, R.bind_ok] at h
    refine ⟨Z1, uni F o1, sd1, ok1, ?_⟩
    cases e2 : fs sd1 with
    | ok ws sd2 =>
      rw [e2, R.bind_ok] at h
      intro vs Z2 H2 o s nd nf ok2 x2
      refine h (y :: vs) Z2 H2 (o1 ++ o) (.cons (r.keep x2.z fun a m => x2.f a (.inr m)) s) ?_ (fun a m => ?_) (ok2.less fun a z => ?_) (x1.trans (x2.mono fun _ z => .inl z))
      · exact List.nodup_append.mpr ⟨nd1, nd, fun a ha b hb e => nf b hb (.inr (e ▸ ha))⟩
      · rcases List.mem_append.mp m with m | m
        · exact nf1 a m
        · exact fun z => nf a m (.inl z)
      · rcases z with z | z
        · exact .inl (.inl z)
        · rcases List.mem_append.mp z with m | m
          · exact .inl (.inr m)
          · exact .inr m
    | exc x sd2 => rw [e2] at h; exact excP.go h x1
    | stuck => rw [e2] at h; exact h
  · rw [e] at h; exact h
  · rw [e] at h; exact h
theorem Slots.app {K : PySem.W.Frag} {Z : Pz} {H : Hp} {σ τ : St} {sd te : SD} {o p : List Addr} (h : Slots K Z H σ sd o) (h' : Slots K Z H τ te p) : Slots K Z H (σ ++ τ) (sd ++ te) (o ++ p) := by
  induction h with
  | nil => exact h'
  | skip _ ih => exact .skip ih
  | @cons v d k σ sd o p1 r _ ih => rw [List.append_assoc]; exact .cons r ih
theorem Slots.of_all {K : PySem.W.Frag} {Z : Pz} {H : Hp} {vs : List V} {ds : List D} (h : RpAll K Z H vs ds 0 []) : Slots K Z H (vs.map some) ((ds.map fun d => (d, 0)).map some) [] := by
  induction vs generalizing ds with
  | nil =>
    cases ds with
    | nil => exact .nil
    | cons _ _ => have := h.length; cases this
  | cons v vs ih =>
    cases ds with
    | nil => have := h.length; cases this
    | cons d ds =>
      obtain ⟨r1, r2⟩ := h.uncons
      exact .cons (o := []) r1 (ih r2)
/-- a call of one of the text's own defs -/
theorem se_call {x : Str} {k n : Nat} {dfl : List D} {f : Fn} (G : Def X.prog X.w X.K X.mg X.base x k n dfl f) (hr : Room k X.A) (tk : Takes X W) (ha : SGa X W (a :: es) fs) (hg : Gl X x := by rfl) (hdb : (x == ("__debug__" : Str)) = false := by decide)
    (he : starEach (a :: es) X.env = (false, eval a X.env) :: starEach es X.env := by rfl) (hpl : (backTo pos (starEach es X.env)).any (·.1) = false := by rfl) : SE X W (.Call (.Name x p) (a :: es) [] pos) (cal n f dfl fs) := by
  obtain ⟨fa, fd, ps, dvs, ds, h1, h2, h3, h4, h5, h6⟩ := G.ex
  refine PE.imp (pe_callSD h6 hr hg h1 h2 h3 h4 (fun σ => passAt tk σ) ha hdb he hpl) fun σ H Q ⟨Z, F, sd, ok, h⟩ => ?_
  refine ⟨Z, F, sd, ok, ?_⟩
  unfold cal at h
  cases e : fs sd with
  | stuck => rw [e] at h; exact h
  | exc y sd1 => rw [e] at h; exact h
  | ok ws sd1 =>
    rw [e, R.bind_ok] at h
    intro vs Z1 H1 o s nd nf ok1 x1
    obtain ⟨ow, ss, ndw, nfw, b⟩ := ok1.ex
    split at h
    case isFalse => exact h.elim
    rename_i hn
    have hlen : (vs ++ dvs).length = n := by
      have q1 := s.length
      have q2 := (h5 Z1 H1).length
      rw [List.length_map, List.length_map] at q1
      rw [List.length_append, q1, q2]
      exact beq_iff_eq.mp hn
    refine ⟨Z1, uni F ow, ws ++ dfl.map fun d => (d, 0), o, hlen, ?_, nd, fun a m z => ?_, ⟨b.z, fun a f => b.f a ?_⟩, ?_⟩
    · rw [List.map_append, List.map_append]
      have := s.app (Slots.of_all (h5 Z1 H1))
      rw [List.append_nil] at this
      exact this
    · rcases z with z | z
      · exact nf a m z
      · exact nfw a z (.inr m)
    · rcases f with (f | f) | f
      · exact .inl (.inl f)
      · exact .inr f
      · exact .inl (.inr f)
    · cases e2 : f (ws ++ dfl.map fun d => (d, 0)) with
      | ok w =>
        rw [e2, FR.r_ok] at h
        intro v Z2 H2 o2 r2 nd2 nf2 b2 x2
        refine h v Z2 H2 o2 r2 nd2 (fun a m z => nf2 a m (.inl z)) ⟨ow, ss.keep x2.z fun a m => x2.f a (.inr m), ndw, fun a m z => ?_, b2.z, fun a f => b2.f a ?_⟩ (x1.trans (x2.mono fun _ z => .inl z))
        · rcases z with z | z
          · exact nfw a m (.inl z)
          · exact nf2 a z (.inr m)
        · rcases f with (f | f) | f
          · exact .inl (.inl f)
          · exact .inr f
          · exact .inl (.inr f)
      | exc y =>
        rw [e2, FR.r_exc] at h
        intro c dd Z2 H2 ea b2 x2
        refine h c dd Z2 H2 ea ⟨ow, ss.keep x2.z fun a m => x2.f a (.inr m), ndw, fun a m z => nfw a m (.inl z), b2.z, b2.f⟩ (x1.trans (x2.mono fun _ z => .inl z))
      | stuck => rw [e2, FR.r_stuck] at h; exact h
end
end VS
/-! VS8: what the generated texts lean on. -/
namespace VS
open PySem PySem.Spec L2
open PyProof.Rows (envOfC)

/-- the top has written the def st under the name x -/
def HasFn (K : PySem.W.Frag) (x : Str) (st : Stmt) : Prop :=
  ∃ (f : Addr) (oc : Value) (od : Option Addr) (kV doc pm : Value) (an : Option Addr) (cdv ct : Value) (osl : Array (Option Value)),
    PySem.W.nsIn K mainGlobals x = some (some (.ref f)) ∧ K.lookup f = some ⟨oc, od, .func (PySem.W.fnOf x x (defArgs st) (defBody st) (defScope st) .none kV doc pm an cdv ct), osl⟩ ∧ PySem.W.codeIn K cdv x = true ∧ PySem.W.keepIn K (.ref f) = true
/-- .. as the defs use it -/
def IsFn (K : PySem.W.Frag) (mg : Mg) (x : Str) (st : Stmt) : Prop := ∃ f fd, mg x = some (.ref f) ∧ Fun K x x st f fd
theorem HasFn.is {K : PySem.W.Frag} {h : Heap} {mg : Mg} {x : Str} {st : Stmt} (a : HasFn K x st) (X : K.In h) (G : h.Ns mainGlobals mg) : IsFn K mg x st := by
  obtain ⟨f, oc, od, kV, doc, pm, an, cdv, ct, osl, h1, h2, h3, h4⟩ := a
  exact ⟨f, _, PySem.W.mg_of X G h1, fun_mk h2 h3 h4⟩
section
variable {P : Program} {w : World} {K : PySem.W.Frag} {mg : Mg} {base : Heap}
/-- the context of a def's body -/
abbrev cxD (P : Program) (w : World) (K : PySem.W.Frag) (mg : Mg) (base : Heap) (N : List Str) (x : Str) (st : Stmt) (f : Addr) (cdv : Value) (A : Around) (outer : List Env) (s : Shared) (H : Hp) (E : XK) : Cx := cxOf (L2.CX P w) P w K mg base N x (defScope st) f cdv A outer s H E
abbrev wxD (E : XK) : WX := fun c d _ H' => E c d H'
/-- what holds in every body -/
structure Cg (X : Cx) (W : WX) (k : Nat) : Prop where
  calm : X.calm = true
  nd : X.N.Nodup
  hp : PassesOwn (model X.prog X.w) X.A X.env X.xe
  tk : Takes X W
  hr : Room k X.A
theorem Cg.hu {X : Cx} {W : WX} {k : Nat} (c : Cg X W k) : X.A.units + 64 < cLine := c.hr.units
theorem cg_of {N : List Str} {x : Str} {st : Stmt} {f : Addr} {cdv : Value} {A : Around} {outer : List Env} {s : Shared} {H : Hp} {E : XK} {k : Nat} (nd : N.Nodup) (hr : Room k (A.deeper (envOfC x (defScope st) s.heap.objs.size f cdv))) : Cg (cxD P w K mg base N x st f cdv A outer s H E) (wxD E) k :=
  ⟨rfl, nd, passes_of (K := fun e s'' => L2.CX P w outer H s E e s'') (E₁ := fun e' s'' => L2.CX P w outer H s E e' s'') rfl, takes_of rfl rfl rfl rfl, hr⟩
theorem def_ok {x : Str} {st : Stmt} {N ps : List Str} {k : Nat} {body : Sm} (hf : IsFn K mg x st) (S : FnScope N ps (defScope st))
    (hb : ∀ (kV doc pm : Value) (an : Option Addr) (cdv ct : Value) (us : List Value), us.length = ps.length → bindArgs (PySem.W.fnOf x x (defArgs st) (defBody st) (defScope st) .none kV doc pm an cdv ct) ⟨us, []⟩ = pure (ps.zip us))
    (hbody : ∀ (f : Addr) (cdv : Value) (A : Around) (outer : List Env) (s : Shared) (H : Hp) (E : XK), Cg (cxD P w K mg base N x st f cdv A outer s H E) (wxD E) k →
      SSs (cxD P w K mg base N x st f cdv A outer s H E) (wxD E) (defBody st) body) : Def P w K mg base x (k + 1) ps.length [] (fnOf N.length body) := by
  obtain ⟨f, fd, h1, Fu⟩ := hf
  exact ⟨f, fd, ps, [], [], h1, Fu.kp, Fu.binds hb, .nil, fun _ _ => .nil 0, fn_ok Fu S fun cdv A outer s H E hr => hbody f cdv A outer s H E (cg_of S.nd hr)⟩
end
section
variable {X : Cx} {W : WX} {pos : Pos}
/-- a module's int -/
theorem se_globI {x : Str} {i : Int} (h : ∃ t, X.mg x = some (.int i t)) (hg : Gl X x := by rfl) (hd : (x == ("__debug__" : Str)) = false := by decide) : SE X W (.Name x pos) (cst (.int i)) := by
  obtain ⟨t, h⟩ := h
  exact se_cst (v := .int i) (pe_glob hg h ⟨t, rfl⟩ hd) fun _ _ => .int _ _
/-- facts of a block's body -/
theorem Cg.blk {k : Nat} (c : Cg X W k) : X.calm = true ∧ X.N.Nodup ∧ Room k X.A := ⟨c.calm, c.nd, c.hr⟩
end
/-- the law's own def, as the end wants it -/
theorem law_ok {P : Program} {w : World} {K : PySem.W.Frag} {mg : Mg} {st : Stmt} {N : List Str} {k : Nat} {body : Sm} {fa : Addr} (Good : Heap → Prop) (hf : IsFn K mg "law" st) (S : FnScope N ["script"] (defScope st))
    (hb : ∀ (kV doc pm : Value) (an : Option Addr) (cdv ct : Value) (us : List Value), us.length = (["script"] : List Str).length → bindArgs (PySem.W.fnOf "law" "law" (defArgs st) (defBody st) (defScope st) .none kV doc pm an cdv ct) ⟨us, []⟩ = pure ((["script"] : List Str).zip us))
    (hbody : ∀ (base : Heap), Good base → ∀ (f : Addr) (cdv : Value) (A : Around) (outer : List Env) (s : Shared) (H : Hp) (E : XK), Cg (cxD P w K mg base N "law" st f cdv A outer s H E) (wxD E) k →
      SSs (cxD P w K mg base N "law" st f cdv A outer s H E) (wxD E) (defBody st) body) (hfa : mg "law" = some (.ref fa)) :
    ∃ fd : FuncData, (∀ (s : Shared) (u : Value), BindsTo s fd ⟨[u], []⟩ [("script", u)]) ∧ ∀ base : Heap, Good base → FnOk P w K mg base (L2.CX P w) (k + 1) fa fd ["script"] (spF K mg 1 (fnOf N.length body)) := by
  obtain ⟨f, fd, h1, Fu⟩ := hf
  rw [hfa] at h1
  cases h1
  refine ⟨fd, fun s u => ?_, fun base g => fn_ok Fu S fun cdv A outer s H E hr => hbody base g fa cdv A outer s H E (cg_of S.nd hr)⟩
  obtain ⟨oc, od, kV, doc, pm, an, cdv, ct, osl, rfl, lk, hcd⟩ := Fu.ex
  exact .of_eq (hb kV doc pm an cdv ct [u] rfl)
/-- the promise of the law's own def: it raises nothing -/
def spL (K : PySem.W.Frag) (f : Fn) : Sp := fun vs H Q _ => ∃ (Z F : Pz) (ws : List (D × Nat)) (o : List Addr) (w : D × Nat), vs.length = 1 ∧ Slots K Z H (vs.map some) (ws.map some) o ∧ o.Nodup ∧ (∀ a ∈ o, ¬ F a) ∧ Ok0 Z (uni F o) H ∧ f ws = .ok w ∧
  ∀ v Z' H' o', Rp K Z' H' v w.1 w.2 o' → Q v H'
theorem spL_imp {K : PySem.W.Frag} {mg : Mg} {f : Fn} (vs : List V) (H : Hp) (Q : VK) (E : XK) (h : spL K f vs H Q E) : spF K mg 1 f vs H Q E := by
  obtain ⟨Z, F, ws, o, w, h1, h2, h3, h4, h5, h6, h7⟩ := h
  refine ⟨Z, F, ws, o, h1, h2, h3, h4, h5, ?_⟩
  rw [h6]
  exact fun v Z' H' o' r _ _ _ _ => h7 v Z' H' o' r
/-- the end of a law's row: the law's own def, on the script, gives True -/
theorem walk_law {l : PySem.W.OpenLaw} {q : Program} {loose : List Str} {XP : (Str → Option Value) → Heap → Prop} {YP : World → Heap → Prop} {d : DefRec} {K : Params → PySem.W.Frag} {k n : Nat} {f : Fn} (hn : l.most = some n) (hn2 : n ≤ sizeLine) (hdf : d.params.defaults = []) (hr : Room k callerA)
    (hY : ∀ (w : World) (h : Heap), YP w h → (K w.params).In h)
    (F : ∀ (w : World) (mg : Mg) (fa : Addr) (h : Heap), (K w.params).In h → h.Ns mainGlobals mg → mg d.name = some (.ref fa) →
      ∃ fd : FuncData, (∀ (s : Shared) (u : Value), BindsTo s fd ⟨[u], []⟩ [("script", u)]) ∧ ∀ base : Heap, (K w.params).In base → base.Ns mainGlobals mg → FnOk l.prog w (K w.params) mg base (L2.CX l.prog w) k fa fd ["script"] (spF (K w.params) mg 1 f))
    (hf : ∀ ns : List Int, ns.length ≤ n → (∀ z ∈ ns, Builtin.Int.intBits z ≤ 1048576) → ∃ k, f [(.scr (ns.map .int), 0)] = .ok (.bl true, k)) :
    PySem.W.WalkO q loose XP YP l.row.toRowW d [] (fun f vs => PySem.call f vs) := by
  refine L2.walk_ofB (n := n) (k := k) (x := "script") (CX := fun w => L2.CX l.prog w) (sp := fun w => spL (K w.params) f) hn hn2 hdf hr hY (fun w mg fa h KX G hmg => ?_) (fun w H a ns hl hb hO hS => ?_) fun w H s e s' h => ?_
  · obtain ⟨fd, h1, h2⟩ := F w mg fa h KX G hmg
    exact ⟨fd, h1, fun base g1 g2 => (h2 base g1 g2).imp spL_imp⟩
  · obtain ⟨k', e⟩ := hf ns hl hb
    refine ⟨fun b => ∃ o, H b = some o, fun _ => False, [(.scr (ns.map .int), 0)], [], _, rfl, ?_, .nil, fun _ m => absurd m List.not_mem_nil, ⟨fun _ z => z, fun a f => ?_⟩, e, fun v Z' H' o' r => ?_⟩
    · refine .cons (o := []) (.scr 0 (.inl ?_) (RpAll.of_ints ns)) .nil
      rcases hS with h | h
      · refine .inl ⟨?_, h⟩
        rcases h with h | ⟨o, h⟩
        · exact ⟨_, h⟩
        · exact ⟨_, h⟩
      · exact .inr h
    · rcases f with f | f
      · exact f.elim
      · exact absurd f List.not_mem_nil
    · cases r
      rfl
  · obtain ⟨_, _, _, _, _, _, _, _, _, _, _, _, z⟩ := h
    exact z
end VS
namespace VS
/-- enough turns for any while of these texts -/
def bigN : Nat := 1000000
end VS
/-! VS9: enumerate of a tuple, sorted(set(..)), least of pairs. -/
namespace VSE
open PySem
open Sem (wp)
open AutoSeq1 (wpAny_loadPart')
/-- what enumerate(t) makes -/
def enO (n : Nat) : Obj := { cls := .type "enumerate", data := .fields #[.none, .bool false, .ref n, rawInt 0, .none, .none] }
def tiO (t : Addr) : Obj := { cls := .type "tuple_iterator", data := .fields #[.ref t, .int 0 0] }
theorem enum_new_tuple (t : Addr) (items : Array Value) (n : Nat) (dct : Option Addr) (sl : Array (Option Value)) :
    Meets (Builtin.«enumerate.__new__» ⟨[.type "enumerate", .ref t], []⟩) (fun _ R s =>
      s.heap.get? t = some { cls := .type "tuple", dict := dct, data := .seq items n, slots := sl } ∧ R (.ok (.ret (.ref (s.heap.push (tiO t)).objs.size))) { s with heap := (s.heap.push (tiO t)).push (enO s.heap.objs.size) }) := by
  refine .of_wp fun prog w A R s h => ?_
  obtain ⟨hp, g, d, tk, os⟩ := s
  obtain ⟨ht, h⟩ := h
  have hsub := sub_enumerate
  have hT : Heap.IsTuple (Shared.heap ⟨hp, g, d, tk, os⟩) t items := ⟨_, ht, rfl, n, rfl⟩
  wp_walk using wpAny_loadPart' ht
  refine wpAny_stack_any fun st => wpAny_pure ?_
  split
  · rename_i c _ _ _ _ _
    cases (c == Value.type "enumerate") <;> (wp_walk using wpAny_loadPart' ht, wpAny_pyIter_tuple hT; exact ⟨_, rfl, h⟩)
  · wp_walk using wpAny_loadPart' ht, wpAny_pyIter_tuple hT
    exact ⟨_, rfl, h⟩
section
variable {prog : Program} {w : World} {A : Around} {E : Value → Shared → Prop} {s : Shared}
theorem call_enum_tuple {t : Addr} {items : Array Value} {Q : Value → Shared → Prop} (hT : s.heap.IsTuple t items)
    (h : ∀ h', IsEnum h' (s.heap.objs.size + 1) s.heap.objs.size 0 .none → h'.IsTupleIter s.heap.objs.size t 0 → (∀ b o, s.heap.get? b = some o → h'.get? b = some o) → Q (.ref (s.heap.objs.size + 1)) { s with heap := h' }) :
    wpAny (model prog w) A (call (.type "enumerate") [.ref t]) Q E s := by
  obtain ⟨⟨c, dct, dt, sl⟩, ht, hc, n, hd⟩ := hT
  replace hc : c = .type "tuple" := hc
  replace hd : dt = .seq items n := hd
  subst hc hd
  refine callType_new F.called_enumerate (by decide) (F.typeCall_enumerate_1 _) (F.newCall_enumerate_1 _) (fun obj => F.args_object_init_2 obj _) F.entry_enumerate_new (enum_new_tuple t items n dct sl) ⟨ht, ?_⟩
  have hz : (s.heap.push (tiO t)).objs.size = s.heap.objs.size + 1 := Heap.size_push ..
  have he : IsEnum ((s.heap.push (tiO t)).push (enO s.heap.objs.size)) (s.heap.objs.size + 1) s.heap.objs.size 0 .none := by
    have q := Heap.get?_push_size (s.heap.push (tiO t)) (o := enO s.heap.objs.size) rfl
    rw [hz] at q
    exact q
  show _ ∧ _
  rw [hz]
  exact ⟨⟨_, he, rfl⟩, h _ he ⟨_, Heap.get?_push_of_some _ (Heap.get?_push_size _ rfl), rfl, rfl⟩ fun b o x => Heap.get?_push_of_some _ (Heap.get?_push_of_some _ x)⟩
end
end VSE
namespace VS
open PySem PySem.Spec L2
/-! ### enumerate of a tuple -/
def IteT (K : PySem.W.Frag) (a : Addr) : It :=
  ⟨fun i H => ∃ (xs : List V) (x : V), SqT K H a xs ∧ xs[i]? = some x, fun i H v H' => ∃ T x, v = .ref T ∧ H T = none ∧ H' = upd H T (.tup [.int (i : Nat), x]) ∧ ∀ xs, SqT K H a xs → xs[i]? = some x, fun i H => ∃ xs : List V, SqT K H a xs ∧ xs.length ≤ i⟩
theorem turn_enumT {P : Program} {w : World} {K : PySem.W.Frag} {elts : List Expr} {kk : Nat} {tpos : Pos} (a e it : Addr) :
    Turn P w K (.Tuple elts kk tpos) (IteT K a) [e, it] e (fun i h => (∃ old, IsEnum h e it ((i : Nat) : Int) old) ∧ h.IsTupleIter it a i ∧ e ≠ it ∧ a ≠ it ∧ a ≠ e) where
  mem := by simp
  obj := fun i h st b hb => by
    obtain ⟨⟨old, he⟩, ⟨o, ho, hc, hd⟩, _⟩ := st
    rcases (by simpa using hb : b = e ∨ b = it) with z | z
    · subst z; exact ⟨_, he, fun v q => nomatch q⟩
    · subst z; exact ⟨o, ho, fun v q => by rw [hd] at q; cases q⟩
  keep := fun i h h' st k => by
    obtain ⟨⟨old, he⟩, hi, hne⟩ := st
    exact ⟨⟨old, k e (by simp) _ he⟩, hi.at fun o q => k it (by simp) o q, hne⟩
  item := by
    rintro X rfl rfl rfl hc i pins s σ H E I hf ⟨⟨old, he⟩, hit, hne, hai, hae⟩ ⟨xs, x, hq, hx⟩
    obtain ⟨its, rv, pt, hz⟩ := I.tuple hq
    obtain ⟨u, hu, ru⟩ := rv.get hx
    have hel : e < s.heap.objs.size := Heap.lt_size he
    have hil : it < s.heap.objs.size := by obtain ⟨_, z, _⟩ := hit; exact Heap.lt_size z
    have hlt : i < its.toArray.size := by
      obtain ⟨z, _⟩ := List.getElem?_eq_some_iff.mp hu
      simpa using z
    have D := Draws.tuple (prog := X.prog) (w := X.w) (A := X.A.in1) (show X.A.in1.handled = none from I.ok.hd hc) it a hai its.toArray
    refine wpAny_pyNext_enum_itemD D he ⟨hit, pt⟩ hlt hne (by simp [hne, Ne.symm hae]) fun x' h' tk hP ho hs' hT hsz hk => ?_
    have ex : x' = u := by
      have q : its.toArray[i]? = some x' := hP
      rw [List.getElem?_toArray, hu] at q
      exact (Option.some.inj q).symm
    subst ex
    refine ⟨_, rfl, wpAny_letOwnedTupleGo_enum (s := { s with heap := h', toks := tk + 1 }) ho fun h'' he' sb => ?_⟩
    have hT2 : h''.get? s.heap.objs.size = some { cls := .type "tuple", data := .seq #[.int i tk, x'] } := (sb.2 _ (Nat.ne_of_gt hel)).trans hT
    have new : ObjOk X.prog X.w (upd H s.heap.objs.size (.tup [.int (i : Nat), x])) h'' s.heap.objs.size (.tup [.int (i : Nat), x]) :=
      ⟨by show 2 ≤ sizeLine; decide, [.int i tk, x'], .cons ⟨_, rfl⟩ (.cons ru .nil), ⟨_, hT2, rfl, _, rfl⟩⟩
    have I1 : Inv X pins σ (upd H s.heap.objs.size (.tup [.int (i : Nat), x])) { s with heap := h'', toks := tk + 1 } := by
      refine I.turnedNew (ch := [e, it]) (fun b ob hb q => ?_) hf (Nat.le_refl _) new
      have hbe : b ≠ e := fun z => hb (by simp [z])
      exact (sb.2 b hbe).trans (hk b ob hbe (fun z => hb (by simp [z])) q)
    refine ⟨.ref s.heap.objs.size, _, I1, rfl, ⟨_, x, rfl, I.hok.fresh (Nat.le_refl _), rfl, fun ys hy => by rw [I.tuple_inj hy hq]; exact hx⟩, ⟨⟨x', ?_⟩, hs'.1.at fun o q => (sb.2 it (Ne.symm hne)).trans q, hne, hai, hae⟩, fun b hb => ?_⟩
    · have e1 : ((i + 1 : Nat) : Int) = (i : Int) + 1 := by omega
      rw [e1]; exact he'
    · have hb' : b < s.heap.objs.size := by
        rcases (by simpa using hb : b = e ∨ b = it) with z | z <;> (rw [z]; assumption)
      rw [upd_ne (Nat.ne_of_lt hb')]
      exact (hf b hb).1
  done := by
    rintro X rfl rfl rfl hc i pins s σ H E I hf ⟨⟨old, he⟩, hit, hne, hai, hae⟩ ⟨xs, hq, hx⟩
    obtain ⟨its, rv, pt, hz⟩ := I.tuple hq
    obtain ⟨f0, f1, f2, f3, f4, f5⟩ := hf it (by simp)
    have hno : its.toArray[i]? = none := by
      rw [List.getElem?_toArray]
      exact List.getElem?_eq_none (by rw [← rv.length]; exact hx)
    have hT : s.TypeIs (.ref e) "enumerate" := ⟨_, he, rfl⟩
    unfold pyNext
    refine wpAny_bind (wpAny_attempt (wpAny_callSpecial?_slot (name := Str.ofString "__next__") hT PySem.F.slot_enumerate_next
      (wpAny_call_entry PySem.F.slot_enumerate_next hT PySem.F.entry_enumerate_next ?_ (PySem.F.args_enumerate_next_1 _))))
    show wpAny _ _ (field (.ref e) 2 >>= _) _ _ _
    refine wpAny_bind (wpAny_field he rfl (x := .ref it) rfl ?_)
    refine wpAny_bind (wpAny_nextOf_tuple_end (show X.A.in1.handled = none from I.ok.hd hc) hit pt hno fun h' x he' hx' => ?_)
    obtain ⟨o, ho, hcl⟩ := hx'
    refine wpAny_bind (wpAny_isInstance (T := "StopIteration") (b := true) ⟨o, ho, hcl⟩ isSubtype_stop ?_)
    exact wpAny_pure ⟨rfl, I.turned (t' := s.toks) (fun b o hb q => he' b o hb q) f0 f1 f3 f4 f5⟩
  self := fun A i s Q E st h => by
    obtain ⟨⟨_, he⟩, _⟩ := st
    exact wpAny_pyIter_enum he h
theorem ItOk.enumT {K : PySem.W.Frag} {Z : Pz} {H : Hp} {a : Addr} {xs : List V} {ds : List D} (z : Z a) (h : H a = some (.tup xs)) (r : RpAll K Z H xs ds 0 []) : ItOk K (IteT K a) (enumFrom 0 ds) Z H := by
  intro i Z2 H2 st hz
  obtain ⟨z2, e2⟩ := st a z
  have h2 : SqT K H2 a xs := .of (e2.trans h)
  refine ⟨fun hi => ⟨xs, h2, by rw [enumFrom_len] at hi; rw [r.length]; exact hi⟩, fun d hd => ?_⟩
  rw [enumFrom_at] at hd
  obtain ⟨d', hd', rfl⟩ := Option.map_eq_some_iff.mp hd
  obtain ⟨v, hv, rv⟩ := r.get hd'
  refine ⟨⟨xs, v, h2, hv⟩, fun x H' y => ?_⟩
  obtain ⟨T, u, rfl, hT, e, y⟩ := y
  subst e
  have := y xs h2
  rw [hv] at this
  cases this
  have rv2 : Rp K Z2 H2 v d' 0 [] := rv.keep st fun a m => absurd m List.not_mem_nil
  refine ⟨fun a => Z2 a ∨ a = T, Gr.fz hT, .tup 0 (.inr rfl) upd_same ?_⟩
  rw [Nat.zero_add]
  exact .cons (o := []) (p := []) (.int _ _) (.cons (o := []) (p := []) (Gr.rp (Gr.fz hT) hz rv2) (.nil 0))
def iEnu (f : Ev) : Ei := fun sd => (f sd).bind fun x sd1 => match x.1 with
  | .lst ds => .ok (enumFrom 0 ds) sd1
  | .tup ds => .ok (enumFrom 0 ds) sd1
  | _ => .stuck
section
variable {X : Cx} {W : WX} {pos p q : Pos} {tg a b : Expr} {fa fb : Ev}
def iEnumT (K : PySem.W.Frag) (ta : TA) : TI := fun σ H R => ta σ H fun vs H1 => ∃ a xs, vs = [.ref a] ∧ SqT K H1 a xs ∧ R (IteT K a) H1
theorem pi_enumT {e : Expr} {ta : TA} {tpos : Pos} {elts : List Expr} {kk : Nat} (hg : Gl X "enumerate") (hm : X.mg "enumerate" = none) (ha : PA X [e] ta) (hs : starEach [e] X.env = [(false, eval e X.env)] := by rfl) :
    PI X (.Tuple elts kk tpos) (.Call (.Name "enumerate" p) [e] [] pos) (iEnumT X.K ta) := by
  refine ⟨fun pins s σ H R I h => ?_⟩
  refine PyProof.Rows.Call_ (ld_blt I hg hm PyProof.Rows.boot_enumerate (PyProof.Rows.callWith_type1 (thn (ha.run pos pins s σ H _ I h) fun us s1 hh => ?_) hs rfl))
  obtain ⟨vs, H1, I1, r1, a, xs, rfl, hq, q⟩ := hh
  cases r1 with
  | cons r rr =>
    cases rr
    cases r
    obtain ⟨its, rv, pt, hz⟩ := I1.tuple hq
    have hal : a < s1.heap.objs.size := pt.lt
    refine VSE.call_enum_tuple pt fun h' he hit hk => wpAny_pyIter_enum he ?_
    have I2 : Inv X pins σ H1 { s1 with heap := h' } := I1.kept (t' := s1.toks) hk
    refine ⟨s1.heap.objs.size + 1, [s1.heap.objs.size + 1, s1.heap.objs.size], _, _, H1, rfl, I2, turn_enumT a (s1.heap.objs.size + 1) s1.heap.objs.size, ⟨⟨.none, he⟩, hit, Nat.succ_ne_self _, Nat.ne_of_lt hal, Nat.ne_of_lt (Nat.lt_succ_of_lt hal)⟩, fun b hb => ?_, q⟩
    have hle : s1.heap.objs.size ≤ b := by
      rcases (by simpa using hb : b = s1.heap.objs.size + 1 ∨ b = s1.heap.objs.size) with z | z
      · rw [z]; exact Nat.le_add_right _ _
      · rw [z]; exact Nat.le_refl _
    exact I1.fpOk hle (I1.hok.fresh hle)
theorem si_enum {elts : List Expr} {kk : Nat} {tpos : Pos} (ha : SE X W a fa) (hg : Gl X "enumerate") (hm : X.mg "enumerate" = none) (hst : starEach [a] X.env = (false, eval a X.env) :: starEach [] X.env := by rfl) (hs : starEach [a] X.env = [(false, eval a X.env)] := by rfl) :
    SI X W (.Tuple elts kk tpos) (.Call (.Name "enumerate" p) [a] [] pos) (iEnu fa) := by
  refine ⟨fun pins s σ H R' I ⟨Z, F, sd, ok, h⟩ => ?_⟩
  unfold iEnu at h
  cases e : fa sd with
  | ok w sd1 =>
    rw [e, R.bind_ok] at h
    split at h
    · rename_i ds ew
      refine (pi_enum hg hm (pa_cons ha pa_nil hst) hs).run pins s σ H R' I ?_
      refine eP.seq (G := fun _ _ => True) ok (fun w1 sd1' e1 y Z1 H1 ry ok1 x1 => ?_) (fun x sd1 e2 => ?_) (fun e2 => ?_)
      · rw [e] at e1; cases e1
        rw [ew] at ry
        generalize e0 : ([] : List Addr) = o0 at ry
        cases ry with
        | lst0 z hh r => exact ⟨_, _, rfl, .of hh, h _ Z1 H1 (ItOk.enum z hh r) ok1 x1⟩
      · rw [e] at e2; cases e2
      · rw [e] at e2; cases e2
    · rename_i ds ew
      refine (pi_enumT hg hm (pa_cons ha pa_nil hst) hs).run pins s σ H R' I ?_
      refine eP.seq (G := fun _ _ => True) ok (fun w1 sd1' e1 y Z1 H1 ry ok1 x1 => ?_) (fun x sd1 e2 => ?_) (fun e2 => ?_)
      · rw [e] at e1; cases e1
        rw [ew] at ry
        generalize e0 : ([] : List Addr) = o0 at ry
        cases ry with
        | tup _ z hh r => exact ⟨_, _, rfl, .of hh, h _ Z1 H1 (ItOk.enumT z hh r) ok1 x1⟩
      · rw [e] at e2; cases e2
      · rw [e] at e2; cases e2
    · exact h.elim
  | exc x sd1 =>
    rw [e] at h
    refine (pi_enum hg hm (pa_cons ha pa_nil hst) hs).run pins s σ H R' I (eP.seq (G := fun _ _ => True) ok (fun w1 sd1' e1 => ?_) (fun x sd1 e2 => ?_) (fun e2 => ?_))
    · rw [e] at e1; cases e1
    · rw [e] at e2; cases e2; exact h
    · rw [e] at e2; cases e2
  | stuck => rw [e] at h; exact h.elim
end
end VS
/-! VS10: sorted(set(xs)) of a list of ints. -/
namespace VSS
open PySem PySem.Spec PyProof.Rows L2
abbrev es0 (w : World) : Obj := { cls := .type "set", dict := none, data := .set #[] 0 (.fresh 0 0 (!w.params.followText "set-order")) }
section
variable {P : Program} {w : World} {A : Around} {E : Value → Shared → Prop} {s : Shared}
/-- what stands behind set(l) -/
structure Made (w : World) (s : Shared) (ns : List Int) (h' : Heap) (c : Nat) : Prop where
  set : SetR w h' s.heap.objs.size (fun j => decide (j ∈ ns)) c
  few : c ≤ ns.length
  kept : ∀ b o, s.heap.get? b = some o → h'.get? b = some o
set_option maxHeartbeats 3200000 in
theorem set_of_list {l : Addr} {items : Array Value} (ns : List Int) {Q : Value → Shared → Prop} (hh : A.handled = none) (hl : s.heap.IsList l items) (hit : IntsAre items.toList ns) (hb : ns.length + 1 < scanBound)
    (k : ∀ (h' : Heap) (tk c : Nat), Made w s ns h' c → Q (.ref s.heap.objs.size) { s with heap := h', toks := tk }) : wpAny (model P w) A (call (.type "set") [.ref l]) Q E s := by
  have hlen : items.size = ns.length := by
    have z := IntsAre.length hit
    rwa [Array.length_toList] at z
  obtain ⟨c, tl, hmro⟩ := F.called_set.mro
  have hmade := F.called_set.made
  have hsub := F.called_set.sub
  have nt := F.called_set.notType
  have cc := F.called_set.canCreate
  have ct := F.typeCall_set_1 (.ref l)
  refine wpAny_call (codeAny_of_tree ?_)
  show wpAny _ _ (callAny (.type "set") _) _ _ _
  refine wpAny_pure ⟨Code.quiet_builtin _ (by decide +kernel), codeAny_builtin F.entry_type_call ?_⟩
  rw [Around.under_plain (weight_type_call_type "set" [.ref l] []) rfl]
  repeat (any_goals (first | assumption | wp_step))
  refine codeAny_mono (code_set_led1 (.ref l) (E := E) (Q₁ := fun v s₁ => v = .ref s.heap.objs.size ∧ s₁ = { s with heap := s.heap.push (es0 w) }) ⟨rfl, rfl⟩) fun r s₁ hr => ?_
  match r, hr with
  | .error e, hr => exact hr
  | .ok .next, hr => exact hr.elim
  | .ok .brk, hr => exact hr.elim
  | .ok .cont, hr => exact hr.elim
  | .ok (.ret v), hr =>
    obtain ⟨rfl, rfl⟩ := hr
    have hS : (s.heap.push (es0 w)).get? s.heap.objs.size = some (es0 w) := Heap.get?_push_size _ rfl
    have hT : Shared.TypeIs { s with heap := s.heap.push (es0 w) } (.ref s.heap.objs.size) "set" := ⟨_, hS, rfl⟩
    have li := F.called_set.init.lookup
    have bi := F.called_set.init.bind (.ref s.heap.objs.size)
    repeat (any_goals (first | assumption | wp_step))
    refine codeAny_mono (codeAny_call_builtin (R := wants (fun r s₂ => r = .none ∧ ∃ h' tk c, s₂ = { s with heap := h', toks := tk } ∧ Made w s ns h' c) E) F.called_set.init.plain F.entry_set_init (check_set_init_1 hT ?_)) fun r₂ s₂ hr₂ => ?_
    · obtain ⟨ol, hol, hcl, hdc, nl, hdl⟩ : ∃ ol, s.heap.get? l = some ol ∧ ol.cls = .type "list" ∧ True ∧ ∃ nl, ol.data = .seq items nl := by
        obtain ⟨ol, a1, a2, nl, a3⟩ := hl
        exact ⟨ol, a1, a2, trivial, nl, a3⟩
      obtain ⟨oc, od, odt, osl⟩ := ol
      simp only at hcl hdl
      subst hcl
      subst hdl
      have hol' : (s.heap.push (es0 w)).get? l = some { cls := .type "list", dict := od, data := .seq items nl, slots := osl } := Heap.get?_push_of_some _ hol
      have n1 := F.sub_list_set
      have n2 := F.sub_list_frozenset
      have n3 : (Value.type "list" == Value.type "dict") = false := by decide
      have hl1 : (s.heap.push (es0 w)).IsList l items := ⟨_, hol', rfl, nl, rfl⟩
      unfold Builtin.«set.__init__» noKeywords Builtin.Frozenset.updateFrom
      generalize hPI : pyIter = PI
      wp_walk
      subst hPI
      refine wpAny_pyIter_list hl1 ?_
      refine wpAny_bind (wpAny_runValue ?_)
      have llt : l < s.heap.objs.size := Heap.lt_size hol
      have hz : (s.heap.push (es0 w)).objs.size = s.heap.objs.size + 1 := Heap.size_push ..
      have lne : l ≠ (s.heap.push (es0 w)).objs.size := by rw [hz]; exact Nat.ne_of_lt (Nat.lt_succ_of_lt llt)
      have sfar : s.heap.objs.size ∉ [(s.heap.push (es0 w)).objs.size, l] := by
        rw [hz]
        simp only [List.mem_cons, List.not_mem_nil, or_false, not_or]
        exact ⟨Nat.ne_of_lt (Nat.lt_succ_self _), Nat.ne_of_gt llt⟩
      have vals : ∀ (i : Nat) (v : Value), items[i]? = some v → ∃ k t, ns[i]? = some k ∧ v = .int k t := fun i v hv => by
        have hi : i < ns.length := by rw [← hlen]; exact (Array.getElem?_eq_some_iff.mp hv).1
        obtain ⟨t, e⟩ := PyProof.Rows.IntsAre.int_at hit i v (by rw [Array.getElem?_toList]; exact hv)
        have e2 : ns.getD i 0 = ns[i] := by rw [List.getD_eq_getElem?_getD, List.getElem?_eq_getElem hi]; rfl
        exact ⟨ns[i], t, List.getElem?_eq_getElem hi, by rw [e, e2]⟩
      have h3 : A.in1.in1.in1.handled = none := by simp [hh]
      refine set_update_ints ((Walks.list h3 _ l lne items).toS) s.heap.objs.size sfar ns hlen hb vals (items.size - 0) 0 _ (by omega) (Nat.zero_le _) ⟨⟨_, Heap.get?_push_size _ rfl, rfl, rfl⟩, hl1.push _⟩ ?_ ?_
      · exact ⟨0, Nat.le_refl 0, setR_new_at (Heap.get?_push_of_some _ hS)⟩
      · intro s' c' hm hc' hS'
        obtain ⟨h', g2, d', tk', os'⟩ := s'
        have eg : g2 = s.gens := hm.gens
        have ed : d' = s.drawn := hm.drawn
        have eo : os' = s.os := hm.os
        subst eg; subst ed; subst eo
        show wpAny _ _ _ _ _ _
        refine wpAny_pure ?_
        show wpAny _ _ (ret Value.none) _ _ _
        rw [hlen] at hc'
        refine wpAny_pure ⟨rfl, h', tk', c', rfl, hS', hc', fun b o e => ?_⟩
        have b0 : b < s.heap.objs.size := Heap.lt_size e
        refine hm.heap b o ?_ (Heap.get?_push_of_some _ (Heap.get?_push_of_some _ e))
        simp only [List.mem_cons, List.mem_singleton, List.not_mem_nil, or_false, not_or]
        exact ⟨Nat.ne_of_lt b0, by rw [hz]; exact Nat.ne_of_lt (Nat.lt_succ_of_lt b0)⟩
    · match r₂, hr₂ with
      | .error e, z => exact z
      | .ok .next, z => exact z.elim
      | .ok .brk, z => exact z.elim
      | .ok .cont, z => exact z.elim
      | .ok (.ret v), z =>
        obtain ⟨rfl, h', tk, c', rfl, m⟩ := z
        repeat (any_goals (first | assumption | wp_step))
        exact k _ _ _ m
end
end VSS
/-! VS11: sorted(set(xs)); the least and the greatest of pairs. -/
namespace VS
open PySem PySem.Spec L2
section
variable {X : Cx}
def rSetL (w : World) (K : PySem.W.Frag) : List V → Hp → VK → Prop := fun xs H Q => ∃ (a : Addr) (ns : List Int), xs = [.ref a] ∧ SqL K H a (ns.map V.int) ∧ ns.length < 60 ∧
  ∀ p c, H p = none → c ≤ ns.length → Q (.ref p) (upd H p (SetO w p (fun j => decide (j ∈ ns)) c))
/-- set(xs), xs a list of a few ints -/
theorem call_setL (hc : X.calm = true) : CallR X (.type "set") (rSetL X.w X.K) := by
  intro pins s σ H xs us Q I r h
  obtain ⟨a, ns, rfl, hq, hl, k⟩ := h
  obtain ⟨u, rfl, ru⟩ := vals1 r
  cases ru
  obtain ⟨its, rv, pl, hz⟩ := I.list hq
  refine VSS.set_of_list ns (I.ok.hd hc) pl.isList (by simpa using rv.ints) (by unfold scanBound; omega) fun h' tk c m => ?_
  have I2 : Inv X pins σ (upd H s.heap.objs.size (SetO X.w s.heap.objs.size (fun j => decide (j ∈ ns)) c)) { s with heap := h', toks := tk } := I.laid m.kept (Nat.le_refl _) (setO_new m.set)
  exact ⟨.ref s.heap.objs.size, _, I2, rfl, k _ c I.fresh m.few⟩
/-- the ints of a row, each once, rising -/
def insU (n : Int) : List Int → List Int
  | [] => [n]
  | m :: ms => if n < m then n :: m :: ms else if n = m then m :: ms else m :: insU n ms
def srtU (ns : List Int) : List Int := ns.foldr insU []
theorem mem_insU (n k : Int) : ∀ ms : List Int, k ∈ insU n ms ↔ k = n ∨ k ∈ ms
  | [] => by simp [insU]
  | m :: ms => by
    unfold insU
    split
    · simp
    · split
      · rename_i h; subst h; simp
      · rw [List.mem_cons, mem_insU n k ms, List.mem_cons]
        constructor
        · rintro (h | h | h)
          · exact .inr (.inl h)
          · exact .inl h
          · exact .inr (.inr h)
        · rintro (h | h | h)
          · exact .inr (.inl h)
          · exact .inl h
          · exact .inr (.inr h)
theorem insU_up (n : Int) : ∀ ms : List Int, ms.Pairwise (· < ·) → (insU n ms).Pairwise (· < ·)
  | [], _ => by simp [insU]
  | m :: ms, h => by
    unfold insU
    have h1 := (List.pairwise_cons.mp h).1
    have h2 := (List.pairwise_cons.mp h).2
    split
    · rename_i hn
      refine List.pairwise_cons.mpr ⟨fun k hk => ?_, h⟩
      rcases List.mem_cons.mp hk with rfl | hk
      · exact hn
      · have := h1 k hk; omega
    · split
      · exact h
      · refine List.pairwise_cons.mpr ⟨fun k hk => ?_, insU_up n ms h2⟩
        rcases (mem_insU n k ms).mp hk with rfl | hk
        · omega
        · exact h1 k hk
theorem mem_srtU (k : Int) (ns : List Int) : k ∈ srtU ns ↔ k ∈ ns := by
  unfold srtU
  induction ns with
  | nil => simp
  | cons n ns ih => rw [List.foldr_cons, mem_insU, ih, List.mem_cons]
theorem srtU_up (ns : List Int) : (srtU ns).Pairwise (· < ·) := by
  unfold srtU
  induction ns with
  | nil => exact .nil
  | cons n ns ih => exact insU_up n _ ih
theorem up_uniq {a b : List Int} (ha : a.Pairwise (· < ·)) (hb : b.Pairwise (· < ·)) (h : ∀ k, k ∈ a ↔ k ∈ b) : a = b := by
  have na : a.Nodup := ha.imp fun h e => by omega
  have nb : b.Nodup := hb.imp fun h e => by omega
  refine List.Perm.eq_of_pairwise (fun x y _ _ h1 h2 => by omega) ha hb ((List.perm_ext_iff_of_nodup na nb).mpr h)
def gSortSet : D → Option (D × Nat)
  | .lst ds => match intsOf ds with
    | some ns => if ns.length < 60 then some (.lst ((srtU ns).map .int), 1) else none
    | none => none
  | _ => none
variable {W : WX} {pos p p2 q2 : Pos} {a : Expr} {fa : Ev}
/-- sorted(set(xs)) -/
theorem se_sortset (hc : X.calm = true) (ha : SE X W a fa) (hg : Gl X "sorted") (hm : X.mg "sorted" = none) (hg2 : Gl X "set") (hm2 : X.mg "set" = none)
    (he : starEach [a] X.env = (false, eval a X.env) :: starEach [] X.env := by rfl) (he2 : starEach [.Call (.Name "set" p2) [a] [] q2] X.env = (false, eval (.Call (.Name "set" p2) [a] [] q2) X.env) :: starEach [] X.env := by rfl)
    (hpl : (backTo q2 (starEach [] X.env)).any (·.1) = false := by rfl) (hpl2 : (backTo pos (starEach [] X.env)).any (·.1) = false := by rfl) : SE X W (.Call (.Name "sorted" p) [.Call (.Name "set" p2) [a] [] q2] [] pos) (op1 gSortSet fa) := by
  refine PE.imp (pe_callB (cr_sortedSet hc) hg hm (by decide +kernel) (pa_cons (pe_callTy (call_setL hc) hg2 hm2 PyProof.Rows.boot_set (pa_cons ha pa_nil he) (by decide) (by decide) he hpl) pa_nil he2) (by decide) (by decide) he2 hpl2) fun σ H Q ⟨Z, F, sd, ok, h⟩ => ?_
  unfold op1 at h
  refine eP.seq (G := fun _ _ => True) ok (fun w1 sd1 e1 y Z1 H1 ry ok1 x1 => ?_) (fun x sd1 e2 => ?_) (fun e2 => ?_)
  · rw [e1, R.bind_ok] at h
    cases eg : gSortSet w1.1 with
    | none => rw [eg] at h; exact h.elim
    | some w =>
      rw [eg, lift_some] at h
      unfold gSortSet at eg
      split at eg
      · rename_i ds ed
        split at eg
        · rename_i ns en
          obtain ⟨hl, rfl⟩ := ite_some eg
          rw [ed] at ry
          have es := intsOf_some en
          subst es
          generalize e0 : ([] : List Addr) = o0 at ry
          cases ry with
          | lst0 z hh r =>
            have ev := r.ints
            subst ev
            refine ⟨_, ns, rfl, .of hh, hl, fun p1 c hp1 hcl => ?_⟩
            have g1 : Gr Z1 H1 Z1 (upd H1 p1 (SetO X.w p1 (fun j => decide (j ∈ ns)) c)) [] :=
              ⟨fun b u e => by rw [upd_ne (ne_of_none e hp1)]; exact e, fun _ z => z, fun _ z => .inl z, fun _ m => absurd m List.not_mem_nil, .nil⟩
            refine ⟨p1, _, c, rfl, upd_same, by omega, fun out pp hup hmem hlen hnone => ?_⟩
            have eo : out = srtU ns := up_uniq hup (srtU_up ns) fun k => by rw [hmem k, mem_srtU]; exact decide_eq_true_iff
            subst eo
            have ok2 := (g1.ok ok1).less (F' := F) fun _ z => .inl z
            exact eP.fin h (x1.trans (g1.ext ok1.base)) ok2 (Gr.cell ok2.base.z hnone) (.lstS (o := []) upd_same (RpAll.of_ints _))
        · cases eg
      · cases eg
  · rw [e2] at h; exact h
  · rw [e2] at h; exact h
end
/-! ### min of pairs -/
def prPy (p : Int × Int) : PyData := .tuple [.int p.1, .int p.2]
def lexLt2 (p q : Int × Int) : Bool := decide (p.1 < q.1 ∨ (p.1 = q.1 ∧ p.2 < q.2))
def minP (p : Int × Int) (ps : List (Int × Int)) : Int × Int := ps.foldl (fun a y => if lexLt2 y a then y else a) p
theorem minD_pairs : ∀ (ps : List (Int × Int)) (p : Int × Int), PySem.W.minD (prPy p) (ps.map prPy) = prPy (minP p ps)
  | [], _ => rfl
  | q :: ps, p => by
    have e : PySem.W.dataLt (prPy q) (prPy p) = lexLt2 q p := PySem.W.dataLt_ii _ _ _ _
    have ih := minD_pairs ps (if lexLt2 q p then q else p)
    unfold PySem.W.minD minP at ih ⊢
    rw [List.map_cons, List.foldl_cons, List.foldl_cons, e, ← ih]
    split <;> rfl
theorem prPy_inj {p q : Int × Int} (h : prPy p = prPy q) : p = q := by
  unfold prPy at h
  injection h with h
  injection h with h1 h
  injection h with h2 _
  injection h1 with h1
  injection h2 with h2
  exact Prod.ext h1 h2
theorem alike_pairs (ps : List (Int × Int)) : PySem.W.AlikeAll (ps.map prPy) := by
  refine ⟨fun x hx y hy => ?_, fun x hx => ?_⟩
  · obtain ⟨p, _, rfl⟩ := List.mem_map.mp hx
    obtain ⟨q, _, rfl⟩ := List.mem_map.mp hy
    simp [prPy, PySem.W.alike, PySem.W.alikeAll]
  · obtain ⟨p, _, rfl⟩ := List.mem_map.mp hx
    simp [prPy]
theorem depth_pairs : ∀ ps : List (Int × Int), PyData.depthAll (ps.map prPy) ≤ 1
  | [] => by simp [PyData.depthAll]
  | p :: ps => by
    have := depth_pairs ps
    simp only [List.map_cons, PyData.depthAll, prPy, PyData.depth]
    omega
section
variable {X : Cx}
def rMinP (K : PySem.W.Frag) : List V → Hp → VK → Prop := fun vs H Q => ∃ (a : Addr) (xs : List V) (p : Int × Int) (ps : List (Int × Int)), vs = [V.ref a] ∧ SqL K H a xs ∧ DpAll K H xs ((p :: ps).map prPy) ∧ ∀ (i : Nat) v, xs[i]? = some v → (p :: ps)[i]? = some (minP p ps) → Q v H
theorem cr_minP (hc : X.calm = true) (hu : X.A.units + 64 < cLine) : CallR X (.builtin "min") (rMinP X.K) := by
  intro pins s σ H vs us Q I r h
  obtain ⟨a, xs, p, ps, rfl, hs, hd, k⟩ := h
  obtain ⟨its, rv, pl, hz⟩ := I.list hs
  rw [Vals.ref1 r]
  obtain ⟨as, hr⟩ := Dp.readsAll I _ _ its hd rv
  have hr' : ReadsAll s.heap its.toArray.toList (prPy p :: ps.map prPy) as := by simpa using hr
  have hn : its.toArray.size = (ps.map prPy).length + 1 := PySem.W.readsAll_len hr'
  have hdep := depth_pairs (p :: ps)
  refine call_min_walkH (PySem.W.iter_listW (A := X.A.in1) (I.ok.hd hc) pl.isList fun s₂ e Wk st hfp hw hk => ?_)
  refine ⟨_, _, _, _, _, _, _, s.heap, _, rfl, Wk, st, hfp, by omega, hw, hk, PySem.W.cmpIn_lt (A := X.A.in1) hr' (alike_pairs (p :: ps)) ?_, fun v s' hP m => ?_⟩
  · show X.A.units + 1 + _ < _
    have : PyData.depthAll (prPy p :: ps.map prPy) ≤ 1 := hdep
    omega
  obtain ⟨h', tk, rfl, hk'⟩ := PySem.W.moved_old e rfl m
  have e1 : its.toArray.size - 1 = (ps.map prPy).length := by omega
  have e2 := PySem.W.argBest_fold PySem.W.dataLt PyData.none (prPy p) (ps.map prPy) (ps.map prPy).length (Nat.le_refl _)
  rw [e1] at hP
  generalize argBest (fun i j => PySem.W.dataLt ((prPy p :: ps.map prPy).getD i .none) ((prPy p :: ps.map prPy).getD j .none)) (ps.map prPy).length = j at hP e2
  obtain ⟨hj, e2⟩ := e2
  rw [List.take_length] at e2
  have hjl : j < (p :: ps).length := by rw [List.length_map] at hj; simp only [List.length_cons]; omega
  have e3 : (prPy p :: ps.map prPy).getD j .none = prPy (p :: ps)[j] := by
    rw [List.getD_eq_getElem?_getD, ← List.map_cons (f := prPy), List.getElem?_map, List.getElem?_eq_getElem hjl]
    rfl
  rw [e3] at e2
  have e4 : (p :: ps)[j] = minP p ps := by
    refine prPy_inj (e2.trans ?_)
    have := minD_pairs ps p
    unfold PySem.W.minD at this
    exact this
  have hP' : its[j]? = some v := by simpa using hP
  have hjx : j < xs.length := by
    rw [rv.length]
    exact (List.getElem?_eq_some_iff.mp hP').1
  obtain ⟨u, hu1, hu2⟩ := rv.get (List.getElem?_eq_getElem hjx)
  rw [hP'] at hu1
  cases hu1
  refine ⟨xs[j], H, I.kept (t' := tk) hk', hu2, k j _ (List.getElem?_eq_getElem hjx) ?_⟩
  rw [List.getElem?_eq_getElem hjl, e4]
def gMinE : List D → Option (D × Nat)
  | [.lst ds] => match intsOf ds with
    | some (n :: ns) => some (.int (ns.foldl min n), 0)
    | some [] => none
    | none => match pairsOf ds with
      | some (p :: ps) => some (prD (minP p ps), 0)
      | _ => none
  | [.int i, .int j] => some (.int (min i j), 0)
  | _ => none
theorem toPy_pr (p : Int × Int) : toPy (prD p) = some (prPy p) := by simp [prD, prPy, toPy, toPys]
theorem toPys_pr : ∀ ps : List (Int × Int), toPys (ps.map prD) = some (ps.map prPy)
  | [] => rfl
  | p :: ps => by simp [toPys, toPy_pr, toPys_pr ps]
theorem vr_minE {K : PySem.W.Frag} : VrN K (fun xs H Q => (rMin K xs H Q ∨ ∃ i j, xs = [.int i, .int j] ∧ Q (.int (if j < i then j else i)) H) ∨ rMinP K xs H Q) gMinE := by
  intro Z H xs ds w Q hz ra eg k
  by_cases h : gMin ds = some w
  · exact .inl (vr_min Z H xs ds w Q hz ra h k)
  · unfold gMinE at eg
    split at eg
    · rename_i ds
      split at eg
      · rename_i n ns e
        exact absurd (by simp only [gMin, gMin1, e]; exact eg) h
      · cases eg
      · rename_i e
        split at eg
        · rename_i p ps e2
          cases eg
          refine .inr ?_
          cases xs with
          | nil => have := ra.length; cases this
          | cons x xs =>
            obtain ⟨r1, r2⟩ := ra.uncons
            cases xs with
            | cons _ _ => have := r2.length; cases this
            | nil =>
              have e3 := pairsOf_some e2
              subst e3
              generalize e0 : ([] : List Addr) = o0 at r1
              cases r1 with
              | lst0 z hh r =>
                refine ⟨_, _, p, ps, rfl, .of hh, r.dp (toPys_pr _), fun i v hv hi => Gr.q k ?_⟩
                obtain ⟨d, e4, rd⟩ := r.get2 hv
                rw [List.getElem?_map, hi] at e4
                cases e4
                exact rd
        · cases eg
    · exact absurd (by unfold gMin gMin2; exact eg) h
    · cases eg
theorem cMinE (hc : X.calm = true) (hu : X.A.units + 64 < cLine) : CallR X (.builtin "min") (fun xs H Q => (rMin X.K xs H Q ∨ ∃ i j, xs = [.int i, .int j] ∧ Q (.int (if j < i then j else i)) H) ∨ rMinP X.K xs H Q) := (cMin hc).or (cr_minP hc hu)
end
end VS
/-! VS12: calls that borrow: an owned row is handed over, only looked at, and is owned behind the call. -/
namespace VS
open PySem PySem.Spec L2
/-- an argument: a value, or the name at slot i that is only lent -/
inductive Ag where
  | w (x : D × Nat)
  | b (i : Nat)
abbrev Eb := SD → R (List Ag)
def bNil : Eb := fun sd => .ok [] sd
def bFz (f : Ev) (fs : Eb) : Eb := fun sd => (f sd).bind fun x sd1 => (fs sd1).bind fun xs sd2 => .ok (.w (x.1, 0) :: xs) sd2
def bMv (f : Ev) (fs : Eb) : Eb := fun sd => (f sd).bind fun x sd1 => (fs sd1).bind fun xs sd2 => .ok (.w x :: xs) sd2
def bBr (i : Nat) (fs : Eb) : Eb := fun sd => match sd[i]? with
  | some (some _) => (fs sd).bind fun xs sd2 => .ok (.b i :: xs) sd2
  | _ => .stuck
def rsv (sd : SD) : List Ag → Option (List (D × Nat))
  | [] => some []
  | .w x :: r => (rsv sd r).map fun l => x :: l
  | .b i :: r => match sd[i]? with
    | some (some (d, _)) => (rsv sd r).map fun l => (d, 0) :: l
    | _ => none
/-- the result holds nothing of what was lent -/
def okR : D → Nat → Bool
  | .non, _ => true
  | .bl _, _ => true
  | .int _, _ => true
  | .str _, _ => true
  | .lst ds, k + 1 => ds.all scD
  | _, _ => false
def calB (n : Nat) (f : Fn) (dfl : List D) (fs : Eb) : Ev := fun sd => (fs sd).bind fun ags sd1 => match rsv sd1 ags with
  | some xs => if (xs.length + dfl.length == n) = true then match f (xs ++ dfl.map fun d => (d, 0)) with
    | .ok w => if okR w.1 w.2 then .ok w sd1 else .stuck
    | _ => .stuck else .stuck
  | none => .stuck
inductive AgS (K : PySem.W.Frag) (Z : Pz) (H : Hp) (σ : St) : List V → List Ag → List Addr → Prop
  | nil : AgS K Z H σ [] [] []
  | w {v : V} {d : D} {k : Nat} {vs : List V} {as : List Ag} {o p : List Addr} : Rp K Z H v d k o → AgS K Z H σ vs as p → AgS K Z H σ (v :: vs) (.w (d, k) :: as) (o ++ p)
  | b {v : V} {i : Nat} {vs : List V} {as : List Ag} {p : List Addr} : σ[i]? = some (some v) → AgS K Z H σ vs as p → AgS K Z H σ (v :: vs) (.b i :: as) p
section
variable (K : PySem.W.Frag) (mg : Mg) (W : WX)
def argB (Z F : Pz) (σ : St) (H : Hp) (r : R (List Ag)) (Q : List V → Hp → Prop) : Prop := match r with
  | .ok ws sd' => ∀ vs Z' H' o, AgS K Z' H' σ vs ws o → o.Nodup → (∀ a ∈ o, ¬ F a) → Ok K Z' (uni F o) H' σ sd' → Ext F Z H Z' H' → Q vs H'
  | .exc x sd' => excP K mg W Z F σ H x sd'
  | .stuck => False
def tB (f : Eb) : TA := fun σ H Q => ∃ Z F sd, Ok K Z F H σ sd ∧ argB K mg W Z F σ H (f sd) Q
end
def SGb (X : Cx) (W : WX) (es : List Expr) (f : Eb) : Prop := PA X es (tB X.K X.mg W f)
theorem Slots.frz {K : PySem.W.Frag} {Z Z' : Pz} {H : Hp} {σ : St} {sd : SD} {o : List Addr} (h : Slots K Z H σ sd o) (hz : ∀ a, Z a → Z' a) (ho : ∀ a ∈ o, Z' a) {i : Nat} {d : D} {k : Nat} {v : V} (e : sd[i]? = some (some (d, k))) (ev : σ[i]? = some (some v)) : Rp K Z' H v d 0 [] := by
  obtain ⟨v', p, q, e1, r, s, pm⟩ := h.take e
  rw [ev] at e1
  cases e1
  exact r.freeze hz fun a m => ho a (pm.mem_iff.mp (List.mem_append_left _ m))
/-- the arguments are resolved -/
theorem AgS.res {K : PySem.W.Frag} {Z Z' : Pz} {H : Hp} {σ : St} {sd : SD} {ow : List Addr} (hs : Slots K Z H σ sd ow) (hz : ∀ a, Z a → Z' a) (ho : ∀ a ∈ ow, Z' a) {vs : List V} {as : List Ag} {o : List Addr} (h : AgS K Z H σ vs as o) {xs : List (D × Nat)} (e : rsv sd as = some xs) :
    Slots K Z' H (vs.map some) (xs.map some) o := by
  induction h generalizing xs with
  | nil => cases e; exact .nil
  | w r _ ih =>
    unfold rsv at e
    obtain ⟨l, e1, e2⟩ := Option.map_eq_some_iff.mp e
    subst e2
    exact .cons (r.keep (fun a z => ⟨hz a z, rfl⟩) fun _ _ => rfl) (ih e1)
  | b ev _ ih =>
    unfold rsv at e
    split at e
    · rename_i d k ei
      obtain ⟨l, e1, e2⟩ := Option.map_eq_some_iff.mp e
      subst e2
      exact .cons (o := []) (hs.frz hz ho ei ev) (ih e1)
    · cases e
theorem rp_sc {K : PySem.W.Frag} {Z Z' : Pz} {H H' : Hp} {v : V} {d : D} (k : Nat) (h : scD d = true) {j : Nat} {o : List Addr} (r : Rp K Z H v d j o) : Rp K Z' H' v d k [] ∧ o = [] := by
  cases r <;> first | (simp [scD] at h; done) | exact ⟨by constructor, rfl⟩
theorem rpAll_sc {K : PySem.W.Frag} {Z Z' : Pz} {H H' : Hp} {vs : List V} {ds : List D} (k : Nat) (h : ds.all scD = true) {j : Nat} {o : List Addr} (r : RpAll K Z H vs ds j o) : RpAll K Z' H' vs ds k [] ∧ o = [] := by
  induction vs generalizing ds o with
  | nil => cases r; exact ⟨.nil _, rfl⟩
  | cons v vs ih =>
    cases r with
    | cons r1 r2 =>
      rw [List.all_cons, Bool.and_eq_true] at h
      obtain ⟨q1, e1⟩ := rp_sc (Z' := Z') (H' := H') k h.1 r1
      obtain ⟨q2, e2⟩ := ih h.2 r2
      refine ⟨.cons (o := []) (p := []) q1 q2, ?_⟩
      rw [e1, e2]; rfl
theorem okR_rp {K : PySem.W.Frag} {Z Z' : Pz} {H : Hp} {v : V} {d : D} {k : Nat} {o : List Addr} (h : okR d k = true) (r : Rp K Z H v d k o) : Rp K Z' H v d k o := by
  cases r with
  | non => constructor
  | bl => constructor
  | int => constructor
  | str => constructor
  | lstS e q =>
    obtain ⟨q1, e1⟩ := rpAll_sc (Z' := Z') (H' := H) _ h q
    subst e1
    exact .lstS e q1
  | _ => cases h
section
variable {X : Cx} {W : WX} {pos p q : Pos} {a b c : Expr} {es : List Expr} {fa fb : Ev} {fs : Eb}
theorem sgb_nil : SGb X W [] bNil := PA.imp pa_nil fun σ H Q ⟨Z, F, sd, ok, h⟩ => h [] Z H [] .nil .nil (fun _ m => absurd m List.not_mem_nil) ok.unnil .refl
theorem AgS.keep {K : PySem.W.Frag} {Z Z' : Pz} {H H' : Hp} {σ : St} {vs : List V} {as : List Ag} {o : List Addr} (hz : ∀ a, Z a → Z' a ∧ H' a = H a) (ho : ∀ a ∈ o, H' a = H a) (h : AgS K Z H σ vs as o) : AgS K Z' H' σ vs as o := by
  induction h with
  | nil => exact .nil
  | w r _ ih => exact .w (r.keep hz fun a m => ho a (List.mem_append_left _ m)) (ih fun a m => ho a (List.mem_append_right _ m))
  | b e _ ih => exact .b e (ih ho)
theorem sgb_fz (ha : SE X W a fa) (hs : SGb X W es fs) (hst : starEach (a :: es) X.env = (false, eval a X.env) :: starEach es X.env := by rfl) : SGb X W (a :: es) (bFz fa fs) := by
  refine PA.imp (pa_cons ha hs hst) fun σ H Q ⟨Z, F, sd, ok, h⟩ => ?_
  unfold bFz at h
  refine eP.seq (G := fun _ _ => True) ok (fun w sd1 e y Z1 H1 r ok1 x1 => ?_) (fun x sd1 e => ?_) (fun e => ?_)
  · rw [e, R.bind_ok] at h
    refine ⟨Z1, F, sd1, ok1, ?_⟩
    cases e2 : fs sd1 with
    | ok ws sd2 =>
      rw [e2, R.bind_ok] at h
      intro vs Z2 H2 o s nd nf ok2 x2
      exact h (y :: vs) Z2 H2 o (.w (o := []) (r.keep x2.z fun a m => absurd m List.not_mem_nil) s) nd nf ok2 (x1.trans x2)
    | exc x sd2 => rw [e2] at h; exact excP.go0 h x1
    | stuck => rw [e2] at h; exact h
  · rw [e] at h; exact h
  · rw [e] at h; exact h
theorem sgb_mv (ha : SE X W a fa) (hs : SGb X W es fs) (hst : starEach (a :: es) X.env = (false, eval a X.env) :: starEach es X.env := by rfl) : SGb X W (a :: es) (bMv fa fs) := by
  refine PA.imp (pa_cons ha hs hst) fun σ H Q ⟨Z, F, sd, ok, h⟩ => ?_
  unfold bMv at h
  refine eP.seqO ok (fun w sd1 e y Z1 H1 o1 r nd1 nf1 ok1 x1 => ?_) (fun x sd1 e => ?_) (fun e => ?_)
  · rw [e, R.bind_ok] at h
    refine ⟨Z1, uni F o1, sd1, ok1, ?_⟩
    cases e2 : fs sd1 with
    | ok ws sd2 =>
      rw [e2, R.bind_ok] at h
      intro vs Z2 H2 o s nd nf ok2 x2
      refine h (y :: vs) Z2 H2 (o1 ++ o) (.w (r.keep x2.z fun a m => x2.f a (.inr m)) s) ?_ (fun a m => ?_) (ok2.less fun a z => ?_) (x1.trans (x2.mono fun _ z => .inl z))
      · exact List.nodup_append.mpr ⟨nd1, nd, fun a ha b hb e => nf b hb (.inr (e ▸ ha))⟩
      · rcases List.mem_append.mp m with m | m
        · exact nf1 a m
        · exact fun z => nf a m (.inl z)
      · rcases z with z | z
        · exact .inl (.inl z)
        · rcases List.mem_append.mp z with m | m
          · exact .inl (.inr m)
          · exact .inr m
    | exc x sd2 => rw [e2] at h; exact excP.go h x1
    | stuck => rw [e2] at h; exact h
  · rw [e] at h; exact h
  · rw [e] at h; exact h
theorem sgb_br (i : Nat) {x : Str} (hs : SGb X W es fs) (hN : X.N[i]? = some x := by rfl) (hv : Vis X.env.scope x := by first | exact Or.inl rfl | exact Or.inr (Or.inl rfl) | exact Or.inr (Or.inr rfl)) (hd : (x == ("__debug__" : Str)) = false := by decide)
    (hcd : (x == ("__classdict__" : Str)) = false := by decide) (hst : starEach (.Name x p :: es) X.env = (false, eval (.Name x p) X.env) :: starEach es X.env := by rfl) : SGb X W (.Name x p :: es) (bBr i fs) := by
  refine PA.imp (pa_cons (pe_var hN hv hd hcd) hs hst) fun σ H Q ⟨Z, F, sd, ok, h⟩ => ?_
  unfold bBr at h
  split at h
  · rename_i w0 e0
    obtain ⟨v, e1⟩ := ok.slot e0
    refine ⟨v, e1, Z, F, sd, ok, ?_⟩
    cases e2 : fs sd with
    | ok ws sd2 =>
      rw [e2, R.bind_ok] at h
      intro vs Z2 H2 o s nd nf ok2 x2
      exact h (v :: vs) Z2 H2 o (.b e1 s) nd nf ok2 x2
    | exc x sd2 => rw [e2] at h; exact h
    | stuck => rw [e2] at h; exact h
  · exact h.elim
theorem AgS.length {K : PySem.W.Frag} {Z : Pz} {H : Hp} {σ : St} {vs : List V} {as : List Ag} {o : List Addr} (h : AgS K Z H σ vs as o) : vs.length = as.length := by
  induction h with
  | nil => rfl
  | w _ _ ih => rw [List.length_cons, List.length_cons, ih]
  | b _ _ ih => rw [List.length_cons, List.length_cons, ih]
/-- a call that only looks at what it was lent -/
theorem se_callL {x : Str} {k n : Nat} {dfl : List D} {f : Fn} (G : Def X.prog X.w X.K X.mg X.base x k n dfl f) (hr : Room k X.A) (tk : Takes X W) (ha : SGb X W (a :: es) fs) (hg : Gl X x := by rfl) (hdb : (x == ("__debug__" : Str)) = false := by decide)
    (he : starEach (a :: es) X.env = (false, eval a X.env) :: starEach es X.env := by rfl) (hpl : (backTo pos (starEach es X.env)).any (·.1) = false := by rfl) : SE X W (.Call (.Name x p) (a :: es) [] pos) (calB n f dfl fs) := by
  obtain ⟨fa, fd, ps, dvs, ds, h1, h2, h3, h4, h5, h6⟩ := G.ex
  refine PE.imp (pe_callSD h6 hr hg h1 h2 h3 h4 (fun σ => passAt tk σ) ha hdb he hpl) fun σ H Q ⟨Z, F, sd, ok, h⟩ => ?_
  refine ⟨Z, F, sd, ok, ?_⟩
  unfold calB at h
  cases e : fs sd with
  | stuck => rw [e] at h; exact h
  | exc y sd1 => rw [e] at h; exact h
  | ok ags sd1 =>
    rw [e, R.bind_ok] at h
    intro vs Z1 H1 o s nd nf ok1 x1
    obtain ⟨ow, ss, ndw, nfw, b⟩ := ok1.ex
    split at h
    case h_2 => exact h.elim
    rename_i xs ers
    split at h
    case isFalse => exact h.elim
    rename_i hn
    have sx := s.res (Z' := uni Z1 ow) ss (fun _ z => .inl z) (fun _ m => .inr m) ers
    have hlen : (vs ++ dvs).length = n := by
      have q1 := sx.length
      have q2 := (h5 Z1 H1).length
      rw [List.length_map, List.length_map] at q1
      rw [List.length_append, q1, q2]
      exact beq_iff_eq.mp hn
    have no : ∀ a ∈ o, ¬ (a ∈ ow) := fun a m z => nfw a z (.inr m)
    refine ⟨uni Z1 ow, F, xs ++ dfl.map fun d => (d, 0), o, hlen, ?_, nd, nf, ⟨fun a z => ?_, fun a f => ?_⟩, ?_⟩
    · rw [List.map_append, List.map_append]
      have := sx.app (Slots.of_all (h5 (uni Z1 ow) H1))
      rw [List.append_nil] at this
      exact this
    · rcases z with z | z
      · exact b.z a z
      · exact (b.f a (.inr z)).1
    · have hf : uni (uni F o) ow a := .inl f
      refine ⟨(b.f a hf).1, fun z => ?_⟩
      rcases z with z | z
      · exact (b.f a hf).2 z
      · exact nfw a z f
    · cases e2 : f (xs ++ dfl.map fun d => (d, 0)) with
      | ok w =>
        rw [e2] at h
        dsimp only at h
        split at h
        case isFalse => exact h.elim
        rename_i hk
        intro v Z2 H2 o2 r2 nd2 nf2 b2 x2
        have hz : ∀ a, Z1 a → Z1 a ∧ H2 a = H1 a := fun a z => ⟨z, (x2.z a (.inl z)).2⟩
        have no2 : ∀ a ∈ ow, ¬ a ∈ o2 := fun a m z => (b2.f a (.inr z)).2 (x2.z a (.inr m)).1
        refine h v Z1 H2 o2 (okR_rp hk r2) nd2 nf2 ⟨ow, ss.keep hz fun a m => (x2.z a (.inr m)).2, ndw, fun a m z => ?_, fun a z => ?_, fun a f => ?_⟩ (x1.trans ⟨hz, x2.f⟩)
        · rcases z with z | z
          · exact nfw a m (.inl z)
          · exact no2 a m z
        · rw [(hz a z).2]; exact b.z a z
        · rcases f with (f | f) | f
          · exact ⟨(b2.f a (.inl f)).1, fun z => (b.f a (.inl (.inl f))).2 z⟩
          · exact ⟨(b2.f a (.inr f)).1, fun z => (b2.f a (.inr f)).2 (x2.z a (.inl z)).1⟩
          · refine ⟨?_, fun z => (b.f a (.inr f)).2 z⟩
            rw [(x2.z a (.inr f)).2]
            exact (b.f a (.inr f)).1
      | exc y => rw [e2] at h; exact h.elim
      | stuck => rw [e2] at h; exact h.elim
end
end VS
/-! VS13: a slot that is only read from now on is frozen at once. -/
namespace VS
open PySem PySem.Spec L2
def fzS (i : Nat) : Sm := fun sd => match sd[i]? with
  | some (some (d, _)) => .nx (sd.set i (some (d, 0)))
  | _ => .stuck
/-- f, then slot i is frozen -/
def zFrz (i : Nat) (f : Sm) : Sm := fun sd => (f sd).go (fzS i)
section
variable {X : Cx} {W : WX} {st : Stmt} {f : Sm}
theorem ss_frz {ps : List Nat} (i : Nat) (h : SSp ps X W st f) : SSp ps X W st (zFrz i f) := by
  refine PS.imp h fun D σ H ⟨Z, F, sd, ok, q⟩ => ⟨Z, F, sd, ok, ?_⟩
  unfold zFrz at q
  cases e : f sd with
  | nx sd1 =>
    rw [e, O.go_nx] at q
    intro σ' Z' H' pn ok1 x1
    unfold fzS at q
    split at q
    · rename_i d k ei
      obtain ⟨v, p, e1, r, nd, nf, ok2⟩ := ok1.take ei
      have ok3 := ok2.freeze nf
      have r2 : Rp X.K (uni Z' p) H' v d 0 [] := r.freeze (fun _ z => .inl z) fun _ m => .inr m
      have ok4 := Ok.back (p := []) ok3.unnil r2 .nil (fun _ m => absurd m List.not_mem_nil) e1
      rw [List.set_set] at ok4
      exact q σ' (uni Z' p) H' pn ok4 (x1.trans .uni)
    · exact q.elim
  | bk sd1 => rw [e, O.go_bk] at q; exact q
  | ct sd1 => rw [e, O.go_ct] at q; exact q
  | rt w sd1 => rw [e, O.go_rt] at q; exact q
  | ex x sd1 => rw [e, O.go_ex] at q; exact q
  | stuck => rw [e, O.go_stuck] at q; exact q.elim
end
end VS
/-! VS14: the semantics evaluated: equations for simp, rules for loops. -/
namespace VS
open PySem PySem.Spec L2

/-! ### slots -/
def gtS (sd : SD) (i : Nat) : Option (D × Nat) := match sd[i]? with
  | some x => x
  | none => none
@[simp] theorem gtS_zero (a : Option (D × Nat)) (l : SD) : gtS (a :: l) 0 = a := eqr rfl
@[simp] theorem gtS_succ (a : Option (D × Nat)) (l : SD) (n : Nat) : gtS (a :: l) (n + 1) = gtS l n := by simp [gtS]
def wS (o : Option (D × Nat)) {α : Type} (y : α) (k : D → Nat → α) : α := match o with
  | some (d, n) => k d n
  | none => y
@[simp] theorem wS_some (d : D) (n : Nat) {α : Type} (y : α) (k : D → Nat → α) : wS (some (d, n)) y k = k d n := eqr rfl

/-! ### the ends of a run -/
def O.fin (o : O) (kn kb kc : SD → FR) : FR := match o with
  | .nx sd => kn sd
  | .rt w _ => .ok w
  | .bk sd => kb sd
  | .ct sd => kc sd
  | .ex x _ => .exc x
  | .stuck => .stuck
section
variable {kn kb kc : SD → FR}
@[simp] theorem O.fin_nx (sd : SD) : (O.nx sd).fin kn kb kc = kn sd := eqr rfl
@[simp] theorem O.fin_rt (w : D × Nat) (sd : SD) : (O.rt w sd).fin kn kb kc = .ok w := eqr rfl
@[simp] theorem O.fin_bk (sd : SD) : (O.bk sd).fin kn kb kc = kb sd := eqr rfl
@[simp] theorem O.fin_ct (sd : SD) : (O.ct sd).fin kn kb kc = kc sd := eqr rfl
@[simp] theorem O.fin_ex (x : Exn) (sd : SD) : (O.ex x sd).fin kn kb kc = .exc x := eqr rfl
@[simp] theorem O.fin_stuck : (O.stuck).fin kn kb kc = .stuck := eqr rfl
@[simp] theorem O.fin_ite {c : Prop} [Decidable c] (a b : O) : (if c then a else b).fin kn kb kc = if c then a.fin kn kb kc else b.fin kn kb kc := by split <;> rfl
end
def seqK (g : Sm) (kn kb kc : SD → FR) : SD → FR := fun sd => (g sd).fin kn kb kc
@[simp] theorem seqK_ap (g : Sm) (kn kb kc : SD → FR) (sd : SD) : seqK g kn kb kc sd = (g sd).fin kn kb kc := eqr rfl
@[simp] theorem O.fin_go (o : O) (g : Sm) (kn kb kc : SD → FR) : (o.go g).fin kn kb kc = o.fin (seqK g kn kb kc) kb kc := by cases o <;> rfl
@[simp] theorem O.go_ite {c : Prop} [Decidable c] (a b : O) (g : SD → O) : (if c then a else b).go g = if c then a.go g else b.go g := by split <;> rfl
@[simp] theorem R.bind_ite {α β : Type} {c : Prop} [Decidable c] (a b : R α) (g : α → SD → R β) : (if c then a else b).bind g = if c then a.bind g else b.bind g := by split <;> rfl
@[simp] theorem R.run_ite {α : Type} {c : Prop} [Decidable c] (a b : R α) (g : α → SD → O) : (if c then a else b).run g = if c then a.run g else b.run g := by split <;> rfl
theorem R.bind_bind {α β γ : Type} (r : R α) (g : α → SD → R β) (h : β → SD → R γ) : (r.bind g).bind h = r.bind fun a sd => (g a sd).bind h := by cases r <;> rfl

def kE (d : D × Nat) : SD → FR := fun _ => .ok d
@[simp] theorem kE_ap (d : D × Nat) (sd : SD) : kE d sd = .ok d := eqr rfl
def kS : SD → FR := fun _ => .stuck
@[simp] theorem kS_ap (sd : SD) : kS sd = .stuck := eqr rfl
def fill (N : Nat) (ws : List (D × Nat)) : SD := ws.map some ++ List.replicate (N - ws.length) none
theorem fnOf_ap (N : Nat) (body : Sm) (ws : List (D × Nat)) : fnOf N body ws = (body (fill N ws)).fin (kE (.non, 0)) kS kS := by
  unfold fnOf
  show (body (fill N ws)).fr = _
  cases body (fill N ws) <;> rfl

/-! ### expressions -/
section
variable (sd : SD)
@[simp] theorem cst_ap (d : D) : cst d sd = .ok (d, 0) sd := eqr rfl
@[simp] theorem rdv_ap (i : Nat) : rdv i sd = wS (gtS sd i) .stuck fun d _ => .ok (d, 0) (sd.set i (some (d, 0))) := by
  unfold rdv gtS wS
  cases e : sd[i]? with
  | none => rfl
  | some x => rcases x with _ | ⟨d, k⟩ <;> rfl
@[simp] theorem mvv_ap (i : Nat) : mvv i sd = wS (gtS sd i) .stuck fun d n => .ok (d, n) (sd.set i none) := by
  unfold mvv gtS wS
  cases e : sd[i]? with
  | none => rfl
  | some x => rcases x with _ | ⟨d, k⟩ <;> rfl
def op1K (g : D → Option (D × Nat)) : D × Nat → SD → R (D × Nat) := fun x sd => lift (g x.1) sd
@[simp] theorem op1K_ap (g : D → Option (D × Nat)) (d : D) (n : Nat) : op1K g (d, n) sd = lift (g d) sd := eqr rfl
@[simp] theorem op1_ap (g : D → Option (D × Nat)) (f : Ev) : op1 g f sd = (f sd).bind (op1K g) := eqr rfl
def op2J (g : D → D → Option (D × Nat)) (x : D) : D × Nat → SD → R (D × Nat) := fun y sd => lift (g x y.1) sd
@[simp] theorem op2J_ap (g : D → D → Option (D × Nat)) (x d : D) (n : Nat) : op2J g x (d, n) sd = lift (g x d) sd := eqr rfl
def op2K (g : D → D → Option (D × Nat)) (f : Ev) : D × Nat → SD → R (D × Nat) := fun x sd => (f sd).bind (op2J g x.1)
@[simp] theorem op2K_ap (g : D → D → Option (D × Nat)) (f : Ev) (d : D) (n : Nat) : op2K g f (d, n) sd = (f sd).bind (op2J g d) := eqr rfl
@[simp] theorem op2_ap (g : D → D → Option (D × Nat)) (f1 f2 : Ev) : op2 g f1 f2 sd = (f1 sd).bind (op2K g f2) := eqr rfl
def opNK (g : List D → Option (D × Nat)) : List D → SD → R (D × Nat) := fun xs sd => lift (g xs) sd
@[simp] theorem opNK_ap (g : List D → Option (D × Nat)) (xs : List D) : opNK g xs sd = lift (g xs) sd := eqr rfl
@[simp] theorem opN_ap (g : List D → Option (D × Nat)) (fs : Ea) : opN g fs sd = (fs sd).bind (opNK g) := eqr rfl
def tstK : D × Nat → SD → R Bool := fun x sd1 => match x.1 with
  | .bl b => .ok b sd1
  | _ => .stuck
@[simp] theorem tstK_bl (b : Bool) (n : Nat) : tstK (.bl b, n) sd = .ok b sd := eqr rfl
@[simp] theorem tst_ap (f : Ev) : tst f sd = (f sd).bind tstK := eqr rfl
def tvK : Bool → SD → R (D × Nat) := fun b sd1 => .ok (.bl b, 0) sd1
@[simp] theorem tvK_ap (b : Bool) : tvK b sd = .ok (.bl b, 0) sd := eqr rfl
@[simp] theorem tv_ap (f : Et) : tv f sd = (f sd).bind tvK := eqr rfl
def tAndK (g : Et) : Bool → SD → R Bool := fun b sd1 => if b then g sd1 else .ok false sd1
@[simp] theorem tAndK_ap (g : Et) (b : Bool) : tAndK g b sd = if b = true then g sd else .ok false sd := eqr rfl
@[simp] theorem tAnd_ap (f g : Et) : tAnd' f g sd = (f sd).bind (tAndK g) := eqr rfl
def tOrK (g : Et) : Bool → SD → R Bool := fun b sd1 => if b then .ok true sd1 else g sd1
@[simp] theorem tOrK_ap (g : Et) (b : Bool) : tOrK g b sd = if b = true then .ok true sd else g sd := eqr rfl
@[simp] theorem tOr_ap (f g : Et) : tOr' f g sd = (f sd).bind (tOrK g) := eqr rfl
def tNotK : Bool → SD → R Bool := fun b sd1 => .ok (!b) sd1
@[simp] theorem tNotK_ap (b : Bool) : tNotK b sd = .ok (!b) sd := eqr rfl
@[simp] theorem tNot_ap (f : Et) : tNot' f sd = (f sd).bind tNotK := eqr rfl
def chnI (g' : D → D → Option (D × Nat)) (y : D) : D × Nat → SD → R Bool := fun z sd3 => match g' y z.1 with
    | some (.bl b, _) => .ok b sd3
    | _ => .stuck
def chn2 (g' : D → D → Option (D × Nat)) (f3 : Ev) (y : D) (o : Option (D × Nat)) : SD → R Bool := fun sd => match o with
  | some (.bl true, _) => (f3 sd).bind (chnI g' y)
  | some (.bl false, _) => .ok false sd
  | _ => .stuck
def chnJ (g g' : D → D → Option (D × Nat)) (f3 : Ev) (x : D) : D × Nat → SD → R Bool := fun y sd2 => chn2 g' f3 y.1 (g x y.1) sd2
def chnK (g g' : D → D → Option (D × Nat)) (f2 f3 : Ev) : D × Nat → SD → R Bool := fun x sd1 => (f2 sd1).bind (chnJ g g' f3 x.1)
def obl (o : Option (D × Nat)) (sd : SD) : R Bool := match o with
    | some (.bl b, _) => .ok b sd
    | _ => .stuck
@[simp] theorem obl_bl (b : Bool) (n : Nat) : obl (some (.bl b, n)) sd = .ok b sd := eqr rfl
@[simp] theorem chnI_ap (g' : D → D → Option (D × Nat)) (y d : D) (n : Nat) : chnI g' y (d, n) sd = obl (g' y d) sd := eqr rfl
@[simp] theorem chn2_ap (g' : D → D → Option (D × Nat)) (f3 : Ev) (y : D) (b : Bool) (n : Nat) : chn2 g' f3 y (some (.bl b, n)) sd = if b = true then (f3 sd).bind (chnI g' y) else .ok false sd := by cases b <;> rfl
@[simp] theorem chnJ_ap (g g' : D → D → Option (D × Nat)) (f3 : Ev) (x d : D) (n : Nat) : chnJ g g' f3 x (d, n) sd = chn2 g' f3 d (g x d) sd := eqr rfl
@[simp] theorem chnK_ap (g g' : D → D → Option (D × Nat)) (f2 f3 : Ev) (d : D) (n : Nat) : chnK g g' f2 f3 (d, n) sd = (f2 sd).bind (chnJ g g' f3 d) := eqr rfl
@[simp] theorem chn_ap (g g' : D → D → Option (D × Nat)) (f1 f2 f3 : Ev) : chn g g' f1 f2 f3 sd = (f1 sd).bind (chnK g g' f2 f3) := by
  unfold chn chnK
  congr
@[simp] theorem aNil_ap : aNil sd = .ok [] sd := eqr rfl
def aConsJ (x : D) : List D → SD → R (List D) := fun xs sd2 => .ok (x :: xs) sd2
@[simp] theorem aConsJ_ap (x : D) (xs : List D) : aConsJ x xs sd = .ok (x :: xs) sd := eqr rfl
def aConsK (fs : Ea) : D × Nat → SD → R (List D) := fun x sd1 => (fs sd1).bind (aConsJ x.1)
@[simp] theorem aConsK_ap (fs : Ea) (d : D) (n : Nat) : aConsK fs (d, n) sd = (fs sd).bind (aConsJ d) := eqr rfl
@[simp] theorem aCons_ap (f : Ev) (fs : Ea) : aCons f fs sd = (f sd).bind (aConsK fs) := eqr rfl
def vAndK (g : Ev) : D × Nat → SD → R (D × Nat) := fun x sd1 => match x.1 with
  | .bl true => g sd1
  | .bl false => .ok (.bl false, 0) sd1
  | _ => .stuck
@[simp] theorem vAndK_bl (g : Ev) (b : Bool) (n : Nat) : vAndK g (.bl b, n) sd = if b = true then g sd else .ok (.bl false, 0) sd := by cases b <;> rfl
@[simp] theorem vAnd_ap (f g : Ev) : vAnd f g sd = (f sd).bind (vAndK g) := eqr rfl
def vOrK (g : Ev) : D × Nat → SD → R (D × Nat) := fun x sd1 => match x.1 with
  | .bl true => .ok (.bl true, 0) sd1
  | .bl false => g sd1
  | _ => .stuck
@[simp] theorem vOrK_bl (g : Ev) (b : Bool) (n : Nat) : vOrK g (.bl b, n) sd = if b = true then .ok (.bl true, 0) sd else g sd := by cases b <;> rfl
@[simp] theorem vOr_ap (f g : Ev) : vOr f g sd = (f sd).bind (vOrK g) := eqr rfl
def vNotK : D × Nat → SD → R (D × Nat) := fun x sd1 => match x.1 with
  | .bl b => .ok (.bl (!b), 0) sd1
  | _ => .stuck
@[simp] theorem vNotK_bl (b : Bool) (n : Nat) : vNotK (.bl b, n) sd = .ok (.bl (!b), 0) sd := eqr rfl
@[simp] theorem vNot_ap (f : Ev) : vNot f sd = (f sd).bind vNotK := eqr rfl
def dTupK : List D → SD → R (D × Nat) := fun ds sd => lift (if ds.length ≤ sizeLine then some (.tup ds, 0) else none) sd
@[simp] theorem dTup_ap (fs : Ea) : dTup fs sd = (fs sd).bind dTupK := eqr rfl
@[simp] theorem dTupK_nil : dTupK [] sd = .ok (.tup [], 0) sd := eqr rfl
@[simp] theorem dTupK_1 (a : D) : dTupK [a] sd = .ok (.tup [a], 0) sd := eqr rfl
@[simp] theorem dTupK_2 (a b : D) : dTupK [a, b] sd = .ok (.tup [a, b], 0) sd := eqr rfl
@[simp] theorem dTupK_3 (a b c : D) : dTupK [a, b, c] sd = .ok (.tup [a, b, c], 0) sd := eqr rfl
def dLstK : List D → SD → R (D × Nat) := fun ds sd => lift (if ds.length ≤ sizeLine then some (.lst ds, 1) else none) sd
@[simp] theorem dLst_ap (fs : Ea) : dLst fs sd = (fs sd).bind dLstK := eqr rfl
theorem dLstK_lt (ds : List D) (h : ds.length ≤ 1000) : dLstK ds sd = .ok (.lst ds, 1) sd := by
  unfold dLstK
  rw [if_pos (Nat.le_trans h (by decide))]
  rfl
@[simp] theorem dLstK_0  : dLstK [] sd = .ok (.lst [], 1) sd := dLstK_lt sd _ (show (0 : Nat) ≤ 1000 by decide)
@[simp] theorem dLstK_1 (a0 : D) : dLstK [a0] sd = .ok (.lst [a0], 1) sd := dLstK_lt sd _ (show (1 : Nat) ≤ 1000 by decide)
@[simp] theorem dLstK_2 (a0 a1 : D) : dLstK [a0, a1] sd = .ok (.lst [a0, a1], 1) sd := dLstK_lt sd _ (show (2 : Nat) ≤ 1000 by decide)
@[simp] theorem dLstK_3 (a0 a1 a2 : D) : dLstK [a0, a1, a2] sd = .ok (.lst [a0, a1, a2], 1) sd := dLstK_lt sd _ (show (3 : Nat) ≤ 1000 by decide)
@[simp] theorem dLstK_4 (a0 a1 a2 a3 : D) : dLstK [a0, a1, a2, a3] sd = .ok (.lst [a0, a1, a2, a3], 1) sd := dLstK_lt sd _ (show (4 : Nat) ≤ 1000 by decide)
@[simp] theorem dLstK_5 (a0 a1 a2 a3 a4 : D) : dLstK [a0, a1, a2, a3, a4] sd = .ok (.lst [a0, a1, a2, a3, a4], 1) sd := dLstK_lt sd _ (show (5 : Nat) ≤ 1000 by decide)
@[simp] theorem dLstK_6 (a0 a1 a2 a3 a4 a5 : D) : dLstK [a0, a1, a2, a3, a4, a5] sd = .ok (.lst [a0, a1, a2, a3, a4, a5], 1) sd := dLstK_lt sd _ (show (6 : Nat) ≤ 1000 by decide)
@[simp] theorem dLstK_7 (a0 a1 a2 a3 a4 a5 a6 : D) : dLstK [a0, a1, a2, a3, a4, a5, a6] sd = .ok (.lst [a0, a1, a2, a3, a4, a5, a6], 1) sd := dLstK_lt sd _ (show (7 : Nat) ≤ 1000 by decide)
@[simp] theorem dLstK_8 (a0 a1 a2 a3 a4 a5 a6 a7 : D) : dLstK [a0, a1, a2, a3, a4, a5, a6, a7] sd = .ok (.lst [a0, a1, a2, a3, a4, a5, a6, a7], 1) sd := dLstK_lt sd _ (show (8 : Nat) ≤ 1000 by decide)
@[simp] theorem dLstK_9 (a0 a1 a2 a3 a4 a5 a6 a7 a8 : D) : dLstK [a0, a1, a2, a3, a4, a5, a6, a7, a8] sd = .ok (.lst [a0, a1, a2, a3, a4, a5, a6, a7, a8], 1) sd := dLstK_lt sd _ (show (9 : Nat) ≤ 1000 by decide)
@[simp] theorem dLstK_10 (a0 a1 a2 a3 a4 a5 a6 a7 a8 a9 : D) : dLstK [a0, a1, a2, a3, a4, a5, a6, a7, a8, a9] sd = .ok (.lst [a0, a1, a2, a3, a4, a5, a6, a7, a8, a9], 1) sd := dLstK_lt sd _ (show (10 : Nat) ≤ 1000 by decide)
@[simp] theorem dLstK_11 (a0 a1 a2 a3 a4 a5 a6 a7 a8 a9 a10 : D) : dLstK [a0, a1, a2, a3, a4, a5, a6, a7, a8, a9, a10] sd = .ok (.lst [a0, a1, a2, a3, a4, a5, a6, a7, a8, a9, a10], 1) sd := dLstK_lt sd _ (show (11 : Nat) ≤ 1000 by decide)
@[simp] theorem dLstK_12 (a0 a1 a2 a3 a4 a5 a6 a7 a8 a9 a10 a11 : D) : dLstK [a0, a1, a2, a3, a4, a5, a6, a7, a8, a9, a10, a11] sd = .ok (.lst [a0, a1, a2, a3, a4, a5, a6, a7, a8, a9, a10, a11], 1) sd := dLstK_lt sd _ (show (12 : Nat) ≤ 1000 by decide)
@[simp] theorem dTupK_4 (a0 a1 a2 a3 : D) : dTupK [a0, a1, a2, a3] sd = .ok (.tup [a0, a1, a2, a3], 0) sd := eqr rfl
@[simp] theorem dTupK_5 (a0 a1 a2 a3 a4 : D) : dTupK [a0, a1, a2, a3, a4] sd = .ok (.tup [a0, a1, a2, a3, a4], 0) sd := eqr rfl
@[simp] theorem dTupK_6 (a0 a1 a2 a3 a4 a5 : D) : dTupK [a0, a1, a2, a3, a4, a5] sd = .ok (.tup [a0, a1, a2, a3, a4, a5], 0) sd := eqr rfl
@[simp] theorem dTupK_7 (a0 a1 a2 a3 a4 a5 a6 : D) : dTupK [a0, a1, a2, a3, a4, a5, a6] sd = .ok (.tup [a0, a1, a2, a3, a4, a5, a6], 0) sd := eqr rfl
@[simp] theorem dTupK_8 (a0 a1 a2 a3 a4 a5 a6 a7 : D) : dTupK [a0, a1, a2, a3, a4, a5, a6, a7] sd = .ok (.tup [a0, a1, a2, a3, a4, a5, a6, a7], 0) sd := eqr rfl
def ixvK (i : Nat) : D × Nat → SD → R (D × Nat) := fun y sd1 => wS (gtS sd1 i) .stuck fun d k => match gIx d y.1 with
      | some w => .ok (w.1, 0) (sd1.set i (some (d, min k 1)))
      | none => .stuck
def ixR (o : Option (D × Nat)) (sd : SD) : R (D × Nat) := match o with
  | some w => .ok (w.1, 0) sd
  | none => .stuck
@[simp] theorem ixR_some (w : D × Nat) : ixR (some w) sd = .ok (w.1, 0) sd := eqr rfl
@[simp] theorem ixvK_ap (i : Nat) (y : D) (n : Nat) : ixvK i (y, n) sd = wS (gtS sd i) .stuck fun d k => ixR (gIx d y) (sd.set i (some (d, min k 1))) := by
  unfold ixvK ixR
  congr
@[simp] theorem ixv_ap (i : Nat) (fb : Ev) : ixv i fb sd = wS (gtS sd i) .stuck fun _ _ => (fb sd).bind (ixvK i) := by
  unfold ixv
  have h : ∀ sd1 : SD, ∀ y : D × Nat, ixvK i y sd1 = match sd1[i]? with
    | some (some (d, k)) => match gIx d y.1 with
      | some w => .ok (w.1, 0) (sd1.set i (some (d, min k 1)))
      | none => .stuck
    | _ => .stuck := fun sd1 y => by
    unfold ixvK gtS wS
    cases e : sd1[i]? with
    | none => rfl
    | some x => rcases x with _ | ⟨d, k⟩ <;> rfl
  have h2 : ixvK i = fun y sd1 => match sd1[i]? with
    | some (some (d, k)) => match gIx d y.1 with
      | some w => .ok (w.1, 0) (sd1.set i (some (d, min k 1)))
      | none => .stuck
    | _ => .stuck := by funext y sd1; exact h sd1 y
  rw [h2]
  unfold gtS wS
  cases e : sd[i]? with
  | none => rfl
  | some x => rcases x with _ | ⟨d, k⟩ <;> rfl
def borR (o : Option (D × Nat)) (sd : SD) : R (D × Nat) := match o with
  | some (e, 0) => if scD e then .ok (e, 0) sd else .stuck
  | _ => .stuck
@[simp] theorem borR_int (i : Int) : borR (some (.int i, 0)) sd = .ok (.int i, 0) sd := eqr rfl
@[simp] theorem borR_bl (i : Bool) : borR (some (.bl i, 0)) sd = .ok (.bl i, 0) sd := eqr rfl
@[simp] theorem bor1_ap (g : D → Option (D × Nat)) (i : Nat) : bor1 g i sd = wS (gtS sd i) .stuck fun d _ => borR (g d) sd := by
  unfold bor1 gtS wS borR
  cases e : sd[i]? with
  | none => rfl
  | some x => rcases x with _ | ⟨d, k⟩ <;> rfl
def bor2K (g : D → D → Option (D × Nat)) (i : Nat) : D × Nat → SD → R (D × Nat) := fun x sd1 => wS (gtS sd1 i) .stuck fun d _ => borR (g x.1 d) sd1
@[simp] theorem bor2K_ap (g : D → D → Option (D × Nat)) (i : Nat) (d : D) (n : Nat) : bor2K g i (d, n) sd = wS (gtS sd i) .stuck fun e _ => borR (g d e) sd := eqr rfl
@[simp] theorem bor2_ap (g : D → D → Option (D × Nat)) (fa : Ev) (i : Nat) : bor2 g fa i sd = (fa sd).bind (bor2K g i) := by
  have : bor2K g i = fun x sd1 => match sd1[i]? with
    | some (some (d, _)) => match g x.1 d with
      | some (e, 0) => if scD e then .ok (e, 0) sd1 else .stuck
      | _ => .stuck
    | _ => .stuck := by
    funext x sd1
    unfold bor2K gtS wS borR
    cases e : sd1[i]? with
    | none => rfl
    | some x => rcases x with _ | ⟨d, k⟩ <;> rfl
  rw [this]; rfl
@[simp] theorem poN_ap : poN sd = .ok none sd := eqr rfl
def poSK : D × Nat → SD → R (Option Int) := fun x sd1 => match x.1 with
  | .int i => .ok (some i) sd1
  | _ => .stuck
@[simp] theorem poSK_ap (i : Int) (n : Nat) : poSK (.int i, n) sd = .ok (some i) sd := eqr rfl
@[simp] theorem poS_ap (f : Ev) : poS f sd = (f sd).bind poSK := eqr rfl
def slJ (x : D) (l : Option Int) : Option Int → SD → R (D × Nat) := fun h sd => lift (gSl x l h) sd
@[simp] theorem slJ_ap (x : D) (l h : Option Int) : slJ x l h sd = lift (gSl x l h) sd := eqr rfl
def slK2 (fh : Eo) (x : D) : Option Int → SD → R (D × Nat) := fun l sd => (fh sd).bind (slJ x l)
@[simp] theorem slK2_ap (fh : Eo) (x : D) (l : Option Int) : slK2 fh x l sd = (fh sd).bind (slJ x l) := eqr rfl
def slK (fl fh : Eo) : D × Nat → SD → R (D × Nat) := fun x sd => (fl sd).bind (slK2 fh x.1)
@[simp] theorem slK_ap (fl fh : Eo) (d : D) (n : Nat) : slK fl fh (d, n) sd = (fl sd).bind (slK2 fh d) := eqr rfl
@[simp] theorem slE_ap (fa : Ev) (fl fh : Eo) : slE fa fl fh sd = (fa sd).bind (slK fl fh) := eqr rfl
/-! ### targets -/
@[simp] theorem gN_ap (i : Nat) (d : D) : gN i d sd = some (sd.set i (some (d, 0))) := eqr rfl
@[simp] theorem gT_tup (gs : List Tg) (ds : List D) : gT gs (.tup ds) sd = gNs gs ds sd := eqr rfl
@[simp] theorem gT_lst (gs : List Tg) (ds : List D) : gT gs (.lst ds) sd = gNs gs ds sd := eqr rfl
@[simp] theorem gNs_nil : gNs [] [] sd = some sd := eqr rfl
@[simp] theorem gNs_cons (g : Tg) (gs : List Tg) (d : D) (ds : List D) : gNs (g :: gs) (d :: ds) sd = (g d sd).bind (gNs gs ds) := eqr rfl
/-! ### iterations -/
def iAnyK : D × Nat → SD → R (List D) := fun x sd1 => match x.1 with
  | .lst ds => .ok ds sd1
  | .tup ds => .ok ds sd1
  | _ => .stuck
@[simp] theorem iAny_ap (f : Ev) : iAny f sd = (f sd).bind iAnyK := eqr rfl
@[simp] theorem iAnyK_lst (ds : List D) (n : Nat) : iAnyK (.lst ds, n) sd = .ok ds sd := eqr rfl
@[simp] theorem iAnyK_tup (ds : List D) (n : Nat) : iAnyK (.tup ds, n) sd = .ok ds sd := eqr rfl
def iR1K : D × Nat → SD → R (List D) := fun x sd1 => match x.1 with
  | .int n => if -(2 ^ 62) ≤ n ∧ n < 2 ^ 62 then .ok (rngD 0 n.toNat) sd1 else .stuck
  | _ => .stuck
@[simp] theorem iR1_ap (f : Ev) : iR1 f sd = (f sd).bind iR1K := eqr rfl
theorem iR1K_ok {n : Int} (m : Nat) (h1 : 0 ≤ n) (h2' : n ≤ 1000000) : iR1K (.int n, m) sd = .ok ((List.range n.toNat).map fun (i : Nat) => .int (i : Int)) sd := by
  show (if -(2 ^ 62) ≤ n ∧ n < 2 ^ 62 then R.ok (rngD 0 n.toNat) sd else R.stuck) = _
  have h2 : n < 2 ^ 62 := Int.lt_of_le_of_lt h2' (by decide)
  rw [if_pos ⟨Int.le_trans (by decide) h1, h2⟩]
  unfold rngD
  congr
  funext i
  rw [Int.zero_add]
def iR2J (x : D) : D × Nat → SD → R (List D) := fun y sd2 => match x, y.1 with
  | .int m, .int n => if -(2 ^ 62) ≤ m ∧ m < 2 ^ 62 ∧ -(2 ^ 62) ≤ n ∧ n < 2 ^ 62 then .ok (rngD m (n - m).toNat) sd2 else .stuck
  | _, _ => .stuck
def iR2K (g : Ev) : D × Nat → SD → R (List D) := fun x sd1 => (g sd1).bind (iR2J x.1)
@[simp] theorem iR2K_ap (g : Ev) (d : D) (n : Nat) : iR2K g (d, n) sd = (g sd).bind (iR2J d) := eqr rfl
@[simp] theorem iR2_ap (f g : Ev) : iR2 f g sd = (f sd).bind (iR2K g) := eqr rfl
theorem iR2J_ok {m n : Int} (k : Nat) (h1 : 0 ≤ m) (h2' : m ≤ 1000000) (h3 : 0 ≤ n) (h4' : n ≤ 1000000) : iR2J (.int m) (.int n, k) sd = .ok ((List.range (n - m).toNat).map fun (i : Nat) => .int (m + (i : Int))) sd := by
  show (if -(2 ^ 62) ≤ m ∧ m < 2 ^ 62 ∧ -(2 ^ 62) ≤ n ∧ n < 2 ^ 62 then R.ok (rngD m (n - m).toNat) sd else R.stuck) = _
  have h2 : m < 2 ^ 62 := Int.lt_of_le_of_lt h2' (by decide)
  have h4 : n < 2 ^ 62 := Int.lt_of_le_of_lt h4' (by decide)
  rw [if_pos ⟨Int.le_trans (by decide) h1, h2, Int.le_trans (by decide) h3, h4⟩]
  rfl
def iEnuK : D × Nat → SD → R (List D) := fun x sd1 => match x.1 with
  | .lst ds => .ok (enumFrom 0 ds) sd1
  | .tup ds => .ok (enumFrom 0 ds) sd1
  | _ => .stuck
@[simp] theorem iEnu_ap (f : Ev) : iEnu f sd = (f sd).bind iEnuK := eqr rfl
theorem enumFrom_map {α : Type} (enc : α → D) (l : List α) (j : Nat) : enumFrom j (l.map enc) = (l.zipIdx j).map fun p => .tup [.int (p.2 : Int), enc p.1] := by
  induction l generalizing j with
  | nil => rfl
  | cons a l ih => rw [List.map_cons, enumFrom, ih, List.zipIdx_cons, List.map_cons]
@[simp] theorem iEnuK_lst {α : Type} (enc : α → D) (l : List α) (n : Nat) : iEnuK (.lst (l.map enc), n) sd = .ok (l.zipIdx.map fun p => .tup [.int (p.2 : Int), enc p.1]) sd := by
  rw [← enumFrom_map]; rfl
@[simp] theorem iEnuK_tup {α : Type} (enc : α → D) (l : List α) (n : Nat) : iEnuK (.tup (l.map enc), n) sd = .ok (l.zipIdx.map fun p => .tup [.int (p.2 : Int), enc p.1]) sd := by
  rw [← enumFrom_map]; rfl
/-! ### calls -/
@[simp] theorem gNil_ap : gNil sd = .ok [] sd := eqr rfl
def gJ (x : D × Nat) : List (D × Nat) → SD → R (List (D × Nat)) := fun xs sd => .ok (x :: xs) sd
@[simp] theorem gJ_ap (x : D × Nat) (xs : List (D × Nat)) : gJ x xs sd = .ok (x :: xs) sd := eqr rfl
def gFzK (fs : Eg) : D × Nat → SD → R (List (D × Nat)) := fun x sd1 => (fs sd1).bind (gJ (x.1, 0))
@[simp] theorem gFzK_ap (fs : Eg) (d : D) (n : Nat) : gFzK fs (d, n) sd = (fs sd).bind (gJ (d, 0)) := eqr rfl
@[simp] theorem gFz_ap (f : Ev) (fs : Eg) : gFz f fs sd = (f sd).bind (gFzK fs) := eqr rfl
def gMvK (fs : Eg) : D × Nat → SD → R (List (D × Nat)) := fun x sd1 => (fs sd1).bind (gJ x)
@[simp] theorem gMvK_ap (fs : Eg) (x : D × Nat) : gMvK fs x sd = (fs sd).bind (gJ x) := eqr rfl
@[simp] theorem gMv_ap (f : Ev) (fs : Eg) : gMv f fs sd = (f sd).bind (gMvK fs) := eqr rfl
def calK (n : Nat) (f : Fn) (dfl : List D) : List (D × Nat) → SD → R (D × Nat) := fun xs sd1 => if (xs.length + dfl.length == n) = true then (f (xs ++ dfl.map fun d => (d, 0))).r sd1 else .stuck
@[simp] theorem cal_ap (n : Nat) (f : Fn) (dfl : List D) (fs : Eg) : cal n f dfl fs sd = (fs sd).bind (calK n f dfl) := eqr rfl
@[simp] theorem calK_1 (f : Fn) (a : D × Nat) : calK 1 f [] [a] sd = (f [a]).r sd := eqr rfl
@[simp] theorem calK_2 (f : Fn) (a b : D × Nat) : calK 2 f [] [a, b] sd = (f [a, b]).r sd := eqr rfl
@[simp] theorem calK_3 (f : Fn) (a b c : D × Nat) : calK 3 f [] [a, b, c] sd = (f [a, b, c]).r sd := eqr rfl
@[simp] theorem calK_4 (f : Fn) (a b c d : D × Nat) : calK 4 f [] [a, b, c, d] sd = (f [a, b, c, d]).r sd := eqr rfl
@[simp] theorem calK_5 (f : Fn) (a b c d e : D × Nat) : calK 5 f [] [a, b, c, d, e] sd = (f [a, b, c, d, e]).r sd := eqr rfl
@[simp] theorem calK_6 (f : Fn) (a b c d e g : D × Nat) : calK 6 f [] [a, b, c, d, e, g] sd = (f [a, b, c, d, e, g]).r sd := eqr rfl
@[simp] theorem calK_7 (f : Fn) (a b c d e g h : D × Nat) : calK 7 f [] [a, b, c, d, e, g, h] sd = (f [a, b, c, d, e, g, h]).r sd := eqr rfl
/-! calls that lend -/
@[simp] theorem bNil_ap : bNil sd = .ok [] sd := eqr rfl
def bJ (x : Ag) : List Ag → SD → R (List Ag) := fun xs sd => .ok (x :: xs) sd
@[simp] theorem bJ_ap (x : Ag) (xs : List Ag) : bJ x xs sd = .ok (x :: xs) sd := eqr rfl
def bFzK (fs : Eb) : D × Nat → SD → R (List Ag) := fun x sd1 => (fs sd1).bind (bJ (.w (x.1, 0)))
@[simp] theorem bFzK_ap (fs : Eb) (d : D) (n : Nat) : bFzK fs (d, n) sd = (fs sd).bind (bJ (.w (d, 0))) := eqr rfl
@[simp] theorem bFz_ap (f : Ev) (fs : Eb) : bFz f fs sd = (f sd).bind (bFzK fs) := eqr rfl
def bMvK (fs : Eb) : D × Nat → SD → R (List Ag) := fun x sd1 => (fs sd1).bind (bJ (.w x))
@[simp] theorem bMvK_ap (fs : Eb) (x : D × Nat) : bMvK fs x sd = (fs sd).bind (bJ (.w x)) := eqr rfl
@[simp] theorem bMv_ap (f : Ev) (fs : Eb) : bMv f fs sd = (f sd).bind (bMvK fs) := eqr rfl
@[simp] theorem bBr_ap (i : Nat) (fs : Eb) : bBr i fs sd = wS (gtS sd i) .stuck fun _ _ => (fs sd).bind (bJ (.b i)) := by
  unfold bBr gtS wS
  cases e : sd[i]? with
  | none => rfl
  | some x => rcases x with _ | ⟨d, k⟩ <;> rfl
@[simp] theorem rsv_nil : rsv sd [] = some [] := eqr rfl
@[simp] theorem rsv_w (x : D × Nat) (r : List Ag) : rsv sd (.w x :: r) = (rsv sd r).map fun l => x :: l := eqr rfl
@[simp] theorem rsv_b (i : Nat) (r : List Ag) : rsv sd (.b i :: r) = wS (gtS sd i) none fun d _ => (rsv sd r).map fun l => (d, 0) :: l := by
  show (match sd[i]? with
    | some (some (d, _)) => (rsv sd r).map fun l => (d, 0) :: l
    | _ => none) = _
  unfold gtS wS
  cases e : sd[i]? with
  | none => rfl
  | some x => rcases x with _ | ⟨d, k⟩ <;> rfl
def lendR (r : FR) (sd : SD) : R (D × Nat) := match r with
  | .ok w => if okR w.1 w.2 then .ok w sd else .stuck
  | _ => .stuck
@[simp] theorem lendR_int (i : Int) (n : Nat) : lendR (.ok (.int i, n)) sd = .ok (.int i, n) sd := eqr rfl
@[simp] theorem lendR_bl (i : Bool) (n : Nat) : lendR (.ok (.bl i, n)) sd = .ok (.bl i, n) sd := eqr rfl
@[simp] theorem lendR_str (i : Str) (n : Nat) : lendR (.ok (.str i, n)) sd = .ok (.str i, n) sd := eqr rfl
@[simp] theorem lendR_non (n : Nat) : lendR (.ok (.non, n)) sd = .ok (.non, n) sd := eqr rfl
def calBJ (n : Nat) (f : Fn) (dfl : List D) (o : Option (List (D × Nat))) (sd : SD) : R (D × Nat) := match o with
  | some xs => if (xs.length + dfl.length == n) = true then lendR (f (xs ++ dfl.map fun d => (d, 0))) sd else .stuck
  | none => .stuck
def calBK (n : Nat) (f : Fn) (dfl : List D) : List Ag → SD → R (D × Nat) := fun ags sd1 => calBJ n f dfl (rsv sd1 ags) sd1
@[simp] theorem calBK_ap (n : Nat) (f : Fn) (dfl : List D) (ags : List Ag) : calBK n f dfl ags sd = calBJ n f dfl (rsv sd ags) sd := eqr rfl
@[simp] theorem calB_ap (n : Nat) (f : Fn) (dfl : List D) (fs : Eb) : calB n f dfl fs sd = (fs sd).bind (calBK n f dfl) := by
  unfold calB calBK calBJ lendR
  congr
@[simp] theorem calBJ_1 (f : Fn) (a : D × Nat) : calBJ 1 f [] (some [a]) sd = lendR (f [a]) sd := eqr rfl
@[simp] theorem calBJ_2 (f : Fn) (a b : D × Nat) : calBJ 2 f [] (some [a, b]) sd = lendR (f [a, b]) sd := eqr rfl
@[simp] theorem calBJ_3 (f : Fn) (a b c : D × Nat) : calBJ 3 f [] (some [a, b, c]) sd = lendR (f [a, b, c]) sd := eqr rfl
@[simp] theorem calBJ_4 (f : Fn) (a b c d : D × Nat) : calBJ 4 f [] (some [a, b, c, d]) sd = lendR (f [a, b, c, d]) sd := eqr rfl
@[simp] theorem calBJ_5 (f : Fn) (a b c d e : D × Nat) : calBJ 5 f [] (some [a, b, c, d, e]) sd = lendR (f [a, b, c, d, e]) sd := eqr rfl
/-! ### statements -/
@[simp] theorem zSeq_ap (f g : Sm) : zSeq f g sd = (f sd).go g := eqr rfl
@[simp] theorem zNil_ap : zNil sd = .nx sd := eqr rfl
def zSetK (i : Nat) : D × Nat → SD → O := fun w sd1 => .nx (sd1.set i (some w))
@[simp] theorem zSetK_ap (i : Nat) (w : D × Nat) : zSetK i w sd = .nx (sd.set i (some w)) := eqr rfl
@[simp] theorem zSet_ap (i : Nat) (f : Ev) : zSet i f sd = (f sd).run (zSetK i) := eqr rfl
@[simp] theorem fzS_ap (i : Nat) : fzS i sd = wS (gtS sd i) .stuck fun d _ => .nx (sd.set i (some (d, 0))) := by
  unfold fzS gtS wS
  cases e : sd[i]? with
  | none => rfl
  | some x => rcases x with _ | ⟨d, k⟩ <;> rfl
@[simp] theorem zFrz_ap (i : Nat) (f : Sm) : zFrz i f sd = (f sd).go (fzS i) := eqr rfl
def tgO (o : Option SD) : O := match o with
  | some sd => .nx sd
  | none => .stuck
@[simp] theorem tgO_some : tgO (some sd) = .nx sd := eqr rfl
def zTgK (g : Tg) : D × Nat → SD → O := fun w sd1 => tgO (g w.1 sd1)
@[simp] theorem zTgK_ap (g : Tg) (d : D) (n : Nat) : zTgK g (d, n) sd = tgO (g d sd) := eqr rfl
@[simp] theorem zTg_ap (g : Tg) (f : Ev) : zTg g f sd = (f sd).run (zTgK g) := by
  unfold zTg zTgK tgO
  congr
def zDropK : D × Nat → SD → O := fun _ sd1 => .nx sd1
@[simp] theorem zDropK_ap (w : D × Nat) : zDropK w sd = .nx sd := eqr rfl
@[simp] theorem zDrop_ap (f : Ev) : zDrop f sd = (f sd).run zDropK := eqr rfl
def zRetK : D × Nat → SD → O := fun w sd1 => .rt w sd1
@[simp] theorem zRetK_ap (w : D × Nat) : zRetK w sd = .rt w sd := eqr rfl
@[simp] theorem zRet_ap (f : Ev) : zRet f sd = (f sd).run zRetK := eqr rfl
@[simp] theorem zRetN_ap : zRetN sd = .rt (.non, 0) sd := eqr rfl
def zIfK (f g : Sm) : Bool → SD → O := fun b sd1 => if b then f sd1 else g sd1
@[simp] theorem zIfK_ap (f g : Sm) (b : Bool) : zIfK f g b sd = if b = true then f sd else g sd := eqr rfl
@[simp] theorem zIf_ap (c : Et) (f g : Sm) : zIf c f g sd = (c sd).run (zIfK f g) := eqr rfl
@[simp] theorem zBk_ap : zBk sd = .bk sd := eqr rfl
@[simp] theorem zCt_ap : zCt sd = .ct sd := eqr rfl
@[simp] theorem zNever_ap : zNever sd = .stuck := eqr rfl
def appO (d : D) (n : Nat) (i : Nat) (w : D) (sd : SD) : O := match d, n with
  | .lst ds, 1 => if ds.length < sizeLine then .nx (sd.set i (some (.lst (ds ++ [w]), 1))) else .stuck
  | _, _ => .stuck
@[simp] theorem appO_lst (ds : List D) (i : Nat) (w : D) : appO (.lst ds) 1 i w sd = if ds.length < sizeLine then .nx (sd.set i (some (.lst (ds ++ [w]), 1))) else .stuck := eqr rfl
def zAppK (i : Nat) : D × Nat → SD → O := fun w sd1 => wS (gtS sd1 i) .stuck fun d n => appO d n i w.1 sd1
@[simp] theorem zAppK_ap (i : Nat) (d : D) (n : Nat) : zAppK i (d, n) sd = wS (gtS sd i) .stuck fun e n => appO e n i d sd := eqr rfl
theorem zApp_ap (i : Nat) (f : Ev) : zApp i f sd = match gtS sd i with
  | some (.lst _, _) => (f sd).run (zAppK i)
  | _ => .stuck := by
  have : zAppK i = fun w sd1 => match sd1[i]? with
    | some (some (.lst ds, 1)) => if ds.length < sizeLine then .nx (sd1.set i (some (.lst (ds ++ [w.1]), 1))) else .stuck
    | _ => .stuck := by
    funext w sd1
    unfold zAppK gtS wS appO
    cases e : sd1[i]? with
    | none => rfl
    | some x =>
      rcases x with _ | ⟨d, k⟩
      · rfl
      · cases d <;> first | rfl | (rcases k with _ | _ | k <;> rfl)
  rw [this]
  unfold zApp gtS
  cases e : sd[i]? with
  | none => rfl
  | some x =>
    rcases x with _ | ⟨d, k⟩
    · rfl
    · cases d <;> rfl
def lstC (o : Option (D × Nat)) (y : O) : O := match o with
  | some (.lst _, _) => y
  | _ => .stuck
@[simp] theorem lstC_some (ds : List D) (n : Nat) (y : O) : lstC (some (.lst ds, n)) y = y := eqr rfl
@[simp] theorem zApp_ap' (i : Nat) (f : Ev) : zApp i f sd = lstC (gtS sd i) ((f sd).run (zAppK i)) := zApp_ap sd i f
def putO (d : D) (n : Nat) (i : Nat) (y w : D) (sd : SD) : O := match d, n, y with
  | .lst ds, 1, .int j => match ixN ds.length j with
    | some n => .nx (sd.set i (some (.lst (ds.set n w), 1)))
    | none => .stuck
  | _, _, _ => .stuck
def optO (o : Option Nat) (f : Nat → SD) : O := match o with
  | some n => .nx (f n)
  | none => .stuck
@[simp] theorem optO_some (n : Nat) (f : Nat → SD) : optO (some n) f = .nx (f n) := eqr rfl
@[simp] theorem putO_lst (ds : List D) (i : Nat) (j : Int) (w : D) : putO (.lst ds) 1 i (.int j) w sd = optO (ixN ds.length j) fun n => sd.set i (some (.lst (ds.set n w), 1)) := by
  show (match ixN ds.length j with
    | some n => O.nx (sd.set i (some (D.lst (ds.set n w), 1)))
    | none => .stuck) = _
  unfold optO
  cases ixN ds.length j <;> rfl
def zPutJ (i : Nat) (w : D) : D × Nat → SD → O := fun y sd2 => wS (gtS sd2 i) .stuck fun d n => putO d n i y.1 w sd2
@[simp] theorem zPutJ_ap (i : Nat) (w y : D) (n : Nat) : zPutJ i w (y, n) sd = wS (gtS sd i) .stuck fun d n => putO d n i y w sd := eqr rfl
def zPutK (i : Nat) (fi : Ev) : D × Nat → SD → O := fun w sd1 => wS (gtS sd1 i) .stuck fun _ _ => (fi sd1).run (zPutJ i w.1)
@[simp] theorem zPutK_ap (i : Nat) (fi : Ev) (d : D) (n : Nat) : zPutK i fi (d, n) sd = wS (gtS sd i) .stuck fun _ _ => (fi sd).run (zPutJ i d) := eqr rfl
@[simp] theorem zPut_ap (i : Nat) (fi f : Ev) : zPut i fi f sd = (f sd).run (zPutK i fi) := by
  have h1 : ∀ w : D, zPutJ i w = fun y sd2 => match sd2[i]?, y.1 with
    | some (some (.lst ds, 1)), .int j => match ixN ds.length j with
      | some n => .nx (sd2.set i (some (.lst (ds.set n w), 1)))
      | none => .stuck
    | _, _ => .stuck := by
    intro w
    funext y sd2
    unfold zPutJ gtS wS
    cases e : sd2[i]? with
    | none => rfl
    | some x =>
      rcases x with _ | ⟨d, k⟩
      · rfl
      · obtain ⟨y1, y2⟩ := y
        cases d <;> first | rfl | (rcases k with _ | _ | k <;> first | rfl | (cases y1 <;> rfl))
  have h2 : zPutK i fi = fun w sd1 => match sd1[i]? with
    | some (some _) => (fi sd1).run (zPutJ i w.1)
    | _ => .stuck := by
    funext w sd1
    unfold zPutK gtS wS
    cases e : sd1[i]? with
    | none => rfl
    | some x => rcases x with _ | ⟨d, k⟩ <;> rfl
  rw [h2]
  simp only [h1]
  rfl
def zForK (ws : List Nat) (g : Tg) (body : Sm) : List D → SD → O := fun items sd1 => forGo ws g body items sd1
@[simp] theorem zForK_ap (ws : List Nat) (g : Tg) (body : Sm) (items : List D) : zForK ws g body items sd = forGo ws g body items sd := eqr rfl
@[simp] theorem zFor_ap (ws : List Nat) (fi : Ei) (g : Tg) (body : Sm) : zFor ws fi g body sd = (fi sd).run (zForK ws g body) := eqr rfl
@[simp] theorem wp_nil : wp sd [] = sd := eqr rfl
@[simp] theorem wp_cons (v : Nat) (vs : List Nat) : wp sd (v :: vs) = (wp sd vs).set v none := eqr rfl
end
/-! ### loops -/
def wpK (ws : List Nat) (K : SD → FR) : SD → FR := fun s => K (wp s ws)
@[simp] theorem wpK_ap (ws : List Nat) (K : SD → FR) (s : SD) : wpK ws K s = K (wp s ws) := eqr rfl
def goS (o : Option SD) (f : SD → FR) : FR := match o with
  | some s => f s
  | none => .stuck
@[simp] theorem goS_some (s : SD) (f : SD → FR) : goS (some s) f = f s := eqr rfl
def trnK (body : Sm) (ws : List Nat) (K Kb : SD → FR) : SD → FR := fun sd1 => (body sd1).fin (wpK ws K) (wpK ws Kb) (wpK ws K)
@[simp] theorem trnK_ap (body : Sm) (ws : List Nat) (K Kb : SD → FR) (s : SD) : trnK body ws K Kb s = (body s).fin (wpK ws K) (wpK ws Kb) (wpK ws K) := eqr rfl
def trn (ws : List Nat) (g : Tg) (body : Sm) (d : D) (S : SD) (K Kb : SD → FR) : FR := goS (g d S) (trnK body ws K Kb)
@[simp] theorem trn_ap (ws : List Nat) (g : Tg) (body : Sm) (d : D) (S : SD) (K Kb : SD → FR) : trn ws g body d S K Kb = goS (g d S) (trnK body ws K Kb) := eqr rfl
section
variable {ws : List Nat} {g : Tg} {body : Sm} {kn kb kc : SD → FR}
theorem forGo_nil (sd : SD) : (forGo ws g body [] sd).fin kn kb kc = kn sd := rfl
theorem forGo_cons (d : D) (ds : List D) (sd : SD) : (forGo ws g body (d :: ds) sd).fin kn kb kc = trn ws g body d sd (fun s => (forGo ws g body ds s).fin kn kb kc) kn := by
  unfold trn goS trnK wpK
  show O.fin (match g d sd with
    | none => .stuck
    | some sd1 => match body sd1 with
      | .nx sd2 => forGo ws g body ds (wp sd2 ws)
      | .ct sd2 => forGo ws g body ds (wp sd2 ws)
      | .bk sd2 => .nx (wp sd2 ws)
      | o => o) kn kb kc = _
  cases g d sd with
  | none => rfl
  | some s => dsimp only; cases body s <;> rfl
/-- the loop, told by what is left of it -/
theorem for_gen {α β : Type} (enc : α → D) (S : β → SD) (P : List α → β → Prop) (F : List α → β → FR) (h0 : ∀ b, P [] b → kn (S b) = F [] b)
    (hs : ∀ a l b (K : SD → FR), P (a :: l) b → (∀ b', P l b' → K (S b') = F l b') → trn ws g body (enc a) (S b) K kn = F (a :: l) b) (l : List α) (b : β) (hp : P l b) : (forGo ws g body (l.map enc) (S b)).fin kn kb kc = F l b := by
  induction l generalizing b with
  | nil => exact h0 b hp
  | cons a l ih =>
    rw [List.map_cons, forGo_cons]
    exact hs a l b _ hp fun b' p => ih b' p
/-- every turn checks, or gives w -/
theorem for_all {α : Type} (enc : α → D) (c : α → Bool) (S : SD) (w : D × Nat) (l : List α) (h : ∀ a ∈ l, ∀ K, trn ws g body (enc a) S K kn = if c a = true then K S else .ok w) :
    (forGo ws g body (l.map enc) S).fin kn kb kc = if l.all c = true then kn S else .ok w := by
  induction l with
  | nil => rfl
  | cons a l ih =>
    rw [List.map_cons, forGo_cons, h a List.mem_cons_self, List.all_cons]
    by_cases e : c a = true
    · rw [if_pos e, ih fun b m => h b (List.mem_cons_of_mem _ m), e, Bool.true_and]
    · rw [if_neg e]
      have : c a = false := by cases q : c a; rfl; exact absurd q e
      rw [this, Bool.false_and]
      rfl
theorem for_fold {α β : Type} (enc : α → D) (S : β → SD) (P : β → Prop) (f : β → α → β) (l : List α) (b : β) (hp : P b) (h : ∀ a ∈ l, ∀ b, P b → P (f b a) ∧ ∀ K, trn ws g body (enc a) (S b) K kn = K (S (f b a))) :
    (forGo ws g body (l.map enc) (S b)).fin kn kb kc = kn (S (l.foldl f b)) ∧ P (l.foldl f b) := by
  induction l generalizing b with
  | nil => exact ⟨rfl, hp⟩
  | cons a l ih =>
    obtain ⟨p, q⟩ := h a List.mem_cons_self b hp
    rw [List.map_cons, forGo_cons, q, List.foldl_cons]
    exact ih _ p fun a m => h a (List.mem_cons_of_mem _ m)
end
/-! ### comprehensions -/
def R.fis {α : Type} (r : R α) (k : α → SD → R (D × Nat)) : R (D × Nat) := match r with
  | .ok a sd => k a sd
  | _ => .stuck
@[simp] theorem R.fis_ok {α : Type} (a : α) (sd : SD) (k : α → SD → R (D × Nat)) : (R.ok a sd).fis k = k a sd := eqr rfl
@[simp] theorem R.fis_ite {α : Type} {c : Prop} [Decidable c] (a b : R α) (k : α → SD → R (D × Nat)) : (if c then a else b).fis k = if c then a.fis k else b.fis k := by split <;> rfl
def lcT2 (vs : List Nat) (K : Option D → SD → R (D × Nat)) : D × Nat → SD → R (D × Nat) := fun y sd3 => K (some y.1) (wp sd3 vs)
@[simp] theorem lcT2_ap (vs : List Nat) (K : Option D → SD → R (D × Nat)) (d : D) (n : Nat) (sd : SD) : lcT2 vs K (d, n) sd = K (some d) (wp sd vs) := eqr rfl
def lcT1 (vs : List Nat) (fe : Ev) (K : Option D → SD → R (D × Nat)) : Bool → SD → R (D × Nat) := fun b sd2 => if b then (fe sd2).fis (lcT2 vs K) else K none (wp sd2 vs)
@[simp] theorem lcT1_ap (vs : List Nat) (fe : Ev) (K : Option D → SD → R (D × Nat)) (b : Bool) (sd : SD) : lcT1 vs fe K b sd = if b = true then (fe sd).fis (lcT2 vs K) else K none (wp sd vs) := eqr rfl
def goR (o : Option SD) (f : SD → R (D × Nat)) : R (D × Nat) := match o with
  | some s => f s
  | none => .stuck
@[simp] theorem goR_some (s : SD) (f : SD → R (D × Nat)) : goR (some s) f = f s := eqr rfl
def lcT0 (vs : List Nat) (ft : Et) (fe : Ev) (K : Option D → SD → R (D × Nat)) : SD → R (D × Nat) := fun sd1 => (ft sd1).fis (lcT1 vs fe K)
@[simp] theorem lcT0_ap (vs : List Nat) (ft : Et) (fe : Ev) (K : Option D → SD → R (D × Nat)) (sd : SD) : lcT0 vs ft fe K sd = (ft sd).fis (lcT1 vs fe K) := eqr rfl
def lct (vs : List Nat) (g : Tg) (ft : Et) (fe : Ev) (d : D) (S : SD) (K : Option D → SD → R (D × Nat)) : R (D × Nat) := goR (g d S) (lcT0 vs ft fe K)
@[simp] theorem lct_ap (vs : List Nat) (g : Tg) (ft : Et) (fe : Ev) (d : D) (S : SD) (K : Option D → SD → R (D × Nat)) : lct vs g ft fe d S K = goR (g d S) (lcT0 vs ft fe K) := eqr rfl
def lcK (vs : List Nat) (g : Tg) (ft : Et) (fe : Ev) : List D → List D → SD → R (D × Nat)
  | [], acc, s => .ok (.lst acc, 1) s
  | d :: ds, acc, s => lct vs g ft fe d s fun o s' => match o with
    | some y => if acc.length < sizeLine then lcK vs g ft fe ds (acc ++ [y]) s' else .stuck
    | none => lcK vs g ft fe ds acc s'
theorem wp_at (sd : SD) (vs : List Nat) (i : Nat) : (wp sd vs)[i]? = if i ∈ vs then (sd[i]?).map fun _ => none else sd[i]? := by
  induction vs with
  | nil => simp
  | cons v vs ih =>
    rw [wp_cons, List.getElem?_set, ih]
    by_cases e : v = i
    · subst e
      have hl : (wp sd vs).length = sd.length := by
        clear ih
        induction vs with
        | nil => rfl
        | cons w vs ih => rw [wp_cons, List.length_set, ih]
      rw [if_pos rfl, hl, if_pos List.mem_cons_self]
      by_cases q : v < sd.length
      · rw [if_pos q, List.getElem?_eq_getElem q]; rfl
      · rw [if_neg q, List.getElem?_eq_none (Nat.le_of_not_lt q)]; rfl
    · rw [if_neg e]
      have : (i ∈ v :: vs) ↔ i ∈ vs := by
        constructor
        · intro m
          rcases List.mem_cons.mp m with m | m
          · exact absurd m.symm e
          · exact m
        · exact List.mem_cons_of_mem _
      simp only [this]
theorem wp_wp (sd : SD) (vs : List Nat) : wp (wp sd vs) vs = wp sd vs := by
  apply List.ext_getElem?
  intro i
  rw [wp_at, wp_at]
  split
  · cases sd[i]? <;> rfl
  · rfl
theorem lcGo_K (vs : List Nat) (g : Tg) (ft : Et) (fe : Ev) (ds : List D) : ∀ (acc : List D) (s : SD), ((lcGo vs g ft fe ds s acc).bind fun out sd2 => .ok (.lst out, 1) (wp sd2 vs)) = lcK vs g ft fe ds acc (wp s vs) := by
  induction ds with
  | nil => intro acc s; rfl
  | cons d ds ih =>
    intro acc s
    show (R.bind (match g d (wp s vs) with
      | none => .stuck
      | some sd1 => match ft sd1 with
        | .ok true sd2 => match fe sd2 with
          | .ok y sd3 => if acc.length < sizeLine then lcGo vs g ft fe ds sd3 (acc ++ [y.1]) else .stuck
          | _ => .stuck
        | .ok false sd2 => lcGo vs g ft fe ds sd2 acc
        | _ => .stuck) _) = lct vs g ft fe d (wp s vs) _
    unfold lct goR lcT0
    cases g d (wp s vs) with
    | none => rfl
    | some sd1 =>
      dsimp only
      cases ft sd1 with
      | stuck => rfl
      | exc x sd2 => rfl
      | ok b sd2 =>
        rw [R.fis_ok, lcT1_ap]
        cases b with
        | false =>
          rw [if_neg (by decide)]
          exact ih acc sd2
        | true =>
          rw [if_pos rfl]
          dsimp only
          cases fe sd2 with
          | stuck => rfl
          | exc x sd3 => rfl
          | ok y sd3 =>
            dsimp only
            rw [R.fis_ok]
            show _ = (if acc.length < sizeLine then lcK vs g ft fe ds (acc ++ [y.1]) (wp sd3 vs) else .stuck)
            by_cases q : acc.length < sizeLine
            · rw [if_pos q, if_pos q]
              exact ih (acc ++ [y.1]) sd3
            · rw [if_neg q, if_neg q]; rfl
def lcSK (vs : List Nat) (g : Tg) (ft : Et) (fe : Ev) : List D → SD → R (D × Nat) := fun items sd1 => lcK vs g ft fe items [] (wp sd1 vs)
@[simp] theorem lcSK_ap (vs : List Nat) (g : Tg) (ft : Et) (fe : Ev) (items : List D) (sd : SD) : lcSK vs g ft fe items sd = lcK vs g ft fe items [] (wp sd vs) := eqr rfl
@[simp] theorem lcS_ap (vs : List Nat) (fi : Ei) (g : Tg) (ft : Et) (fe : Ev) (sd : SD) : lcS vs fi g ft fe sd = (fi sd).bind (lcSK vs g ft fe) := by
  unfold lcS
  congr
  funext items sd1
  exact lcGo_K vs g ft fe items [] sd1
@[simp] theorem tYes_ap (sd : SD) : tYes' sd = .ok true sd := eqr rfl
section
variable {vs : List Nat} {g : Tg} {ft : Et} {fe : Ev}
theorem lcK_fm {α : Type} (enc : α → D) (o : α → Option D) (S : SD) (l : List α) : ∀ (acc : List D), acc.length + l.length ≤ sizeLine → (∀ a ∈ l, ∀ K, lct vs g ft fe (enc a) S K = K (o a) S) → lcK vs g ft fe (l.map enc) acc S = .ok (.lst (acc ++ l.filterMap o), 1) S := by
  induction l with
  | nil => intro acc _ _; rw [List.map_nil, List.filterMap_nil, List.append_nil]; rfl
  | cons a l ih =>
    intro acc hl h
    rw [List.map_cons]
    show lct vs g ft fe (enc a) S _ = _
    rw [h a List.mem_cons_self, List.filterMap_cons]
    rw [List.length_cons] at hl
    cases e : o a with
    | none => exact ih acc (by omega) fun b m => h b (List.mem_cons_of_mem _ m)
    | some y =>
      dsimp only
      rw [if_pos (by omega), ih (acc ++ [y]) (by rw [List.length_append, List.length_singleton]; omega) fun b m => h b (List.mem_cons_of_mem _ m)]
      rw [List.append_assoc]
      rfl
theorem lc_map {α : Type} (enc : α → D) (out : α → D) (S : SD) (l : List α) (hl : l.length ≤ sizeLine) (h : ∀ a ∈ l, ∀ K, lct vs g ft fe (enc a) S K = K (some (out a)) S) : lcK vs g ft fe (l.map enc) [] S = .ok (.lst (l.map out), 1) S := by
  rw [lcK_fm enc (fun a => some (out a)) S l [] (by simpa using hl) h, List.nil_append]
  congr
  exact congrFun (List.filterMap_eq_map (f := out)) l
theorem lc_flt {α : Type} (enc : α → D) (p : α → Bool) (out : α → D) (S : SD) (l : List α) (hl : l.length ≤ sizeLine) (h : ∀ a ∈ l, ∀ K, lct vs g ft fe (enc a) S K = if p a = true then K (some (out a)) S else K none S) : lcK vs g ft fe (l.map enc) [] S = .ok (.lst ((l.filter p).map out), 1) S := by
  rw [lcK_fm enc (fun a => if p a = true then some (out a) else none) S l [] (by simpa using hl) fun a m K => by rw [h a m]; split <;> rfl, List.nil_append]
  congr
  induction l with
  | nil => rfl
  | cons a l ih =>
    rw [List.filterMap_cons, List.filter_cons]
    have q := ih (by rw [List.length_cons] at hl; omega) fun b m => h b (List.mem_cons_of_mem _ m)
    by_cases e : p a = true
    · rw [if_pos e, if_pos e]
      dsimp only
      rw [List.map_cons, q]
    · rw [if_neg e, if_neg e]
      exact q
end
end VS
/-! VS15: values: what the operators give on numbers, rows of numbers, rows of pairs. -/
namespace VS
open PySem PySem.Spec L2
theorem line_big : (1000000 : Nat) ≤ sizeLine := by decide
theorem lt_line {n : Nat} (h : n < 1000000) : n < sizeLine := Nat.lt_of_lt_of_le h line_big
@[simp] theorem FR.r_ite {c : Prop} [Decidable c] (a b : FR) (sd : SD) : (if c then a else b).r sd = if c then a.r sd else b.r sd := by split <;> rfl
@[simp] theorem lendR_ite {c : Prop} [Decidable c] (a b : FR) (sd : SD) : lendR (if c then a else b) sd = if c then lendR a sd else lendR b sd := by split <;> rfl
@[simp] theorem isiD_1 (i : Int) : isiD "int" (.int i) = true := eqr rfl
@[simp] theorem isiD_2 (i : Int) : isiD "bool" (.int i) = false := eqr rfl
@[simp] theorem isiD_3 (i : Int) : isiD "tuple" (.int i) = false := eqr rfl
@[simp] theorem isiD_4 (i : Bool) : isiD "bool" (.bl i) = true := eqr rfl
@[simp] theorem isiD_5 (i : Bool) : isiD "int" (.bl i) = true := eqr rfl
@[simp] theorem isiD_6 (i : Str) : isiD "str" (.str i) = true := eqr rfl
@[simp] theorem isiD_7 (i : List D) : isiD "tuple" (.tup i) = true := eqr rfl
@[simp] theorem isiD_8 (i : List D) : isiD "tuple" (.lst i) = false := eqr rfl
@[simp] theorem isiD_9 (i : List D) : isiD "list" (.lst i) = true := eqr rfl
@[simp] theorem isiD_10 (i : Str) : isiD "tuple" (.str i) = false := eqr rfl
@[simp] theorem isiD_11 (i : Str) : isiD "int" (.str i) = false := eqr rfl
@[simp] theorem isiD_12 (i : List D) : isiD "int" (.tup i) = false := eqr rfl
@[simp] theorem isiD_13 (i : List D) : isiD "int" (.lst i) = false := eqr rfl
@[simp] theorem isiD_14 (i : List D) : isiD "bool" (.tup i) = false := eqr rfl
@[simp] theorem isiD_15 (i : List D) : isiD "bool" (.lst i) = false := eqr rfl
@[simp] theorem gIsi_int (T : String) (i : Int) : gIsi T (.int i) = some (.bl (isiD T (.int i)), 0) := eqr rfl
@[simp] theorem gIsi_bl (T : String) (i : Bool) : gIsi T (.bl i) = some (.bl (isiD T (.bl i)), 0) := eqr rfl
@[simp] theorem gIsi_str (T : String) (i : Str) : gIsi T (.str i) = some (.bl (isiD T (.str i)), 0) := eqr rfl
@[simp] theorem gIsi_tup (T : String) (i : List D) : gIsi T (.tup i) = some (.bl (isiD T (.tup i)), 0) := eqr rfl
@[simp] theorem gIsi_lst (T : String) (i : List D) : gIsi T (.lst i) = some (.bl (isiD T (.lst i)), 0) := eqr rfl
@[simp] theorem gIsi_non (T : String) : gIsi T .non = some (.bl (isiD T .non), 0) := eqr rfl
@[simp] theorem gLen_lst (ds : List D) : gLen (.lst ds) = some (.int ds.length, 0) := eqr rfl
@[simp] theorem gLen_tup (ds : List D) : gLen (.tup ds) = some (.int ds.length, 0) := eqr rfl
@[simp] theorem gLen_scr (ds : List D) : gLen (.scr ds) = some (.int ds.length, 0) := eqr rfl
@[simp] theorem gList_lst (ds : List D) : gList (.lst ds) = some (.lst ds, 1) := eqr rfl
@[simp] theorem gList_tup (ds : List D) : gList (.tup ds) = some (.lst ds, 1) := eqr rfl
@[simp] theorem gTuple_lst (ds : List D) : gTuple (.lst ds) = some (.tup ds, 0) := eqr rfl
@[simp] theorem gTuple_tup (ds : List D) : gTuple (.tup ds) = some (.tup ds, 0) := eqr rfl
@[simp] theorem gInt_int (i : Int) : gInt (.int i) = some (.int i, 0) := eqr rfl
@[simp] theorem gInt_bl (b : Bool) : gInt (.bl b) = some (.int (if b then 1 else 0), 0) := eqr rfl
@[simp] theorem gEq_int (i j : Int) : gEq (.int i) (.int j) = some (.bl (decide (i = j)), 0) := eqr rfl
@[simp] theorem gNe_int (i j : Int) : gNe (.int i) (.int j) = some (.bl (!decide (i = j)), 0) := eqr rfl
@[simp] theorem gEq_bl (i j : Bool) : gEq (.bl i) (.bl j) = some (.bl (decide (i = j)), 0) := eqr rfl
@[simp] theorem gEq_str (i j : Str) : gEq (.str i) (.str j) = some (.bl (decide (i = j)), 0) := eqr rfl
@[simp] theorem gIs_bl (neg a b : Bool) : gIs neg (.bl a) (.bl b) = some (.bl (if neg then !decide (a = b) else decide (a = b)), 0) := eqr rfl
@[simp] theorem gIs_non (neg : Bool) (i : Int) : gIs neg (.int i) .non = some (.bl neg, 0) := eqr rfl
theorem okd_pr (n : Nat) (p : Int × Int) : okd (n + 1) (prD p) = true := by simp [prD, okd, okds]
theorem eqv_pr (p q : Int × Int) : eqv (prD p) (prD q) = decide (p = q) := by
  obtain ⟨a, b⟩ := p
  obtain ⟨c, d⟩ := q
  simp only [prD, eqv, eqvs]
  by_cases h1 : a = c <;> by_cases h2 : b = d <;> simp [h1, h2]
@[simp] theorem gEq_pr (p q : Int × Int) : gEq (prD p) (prD q) = some (.bl (decide (p = q)), 0) := by
  show (if okd 30 (prD p) && okd 30 (prD q) then some (D.bl (eqv (prD p) (prD q)), 0) else none) = _
  rw [okd_pr, okd_pr, eqv_pr]; rfl
@[simp] theorem gNe_pr (p q : Int × Int) : gNe (prD p) (prD q) = some (.bl (!decide (p = q)), 0) := by
  show (if okd 30 (prD p) && okd 30 (prD q) then some (D.bl (!eqv (prD p) (prD q)), 0) else none) = _
  rw [okd_pr, okd_pr, eqv_pr]; rfl
@[simp] theorem gNe_pr2 (p q : Int × Int) : gNe (.tup [.int p.1, .int p.2]) (.tup [.int q.1, .int q.2]) = some (.bl (!decide (p = q)), 0) := gNe_pr p q
theorem flat_ints (ns : List Int) : (ns.map D.int).all flat = true := by
  rw [List.all_eq_true]
  intro x m
  obtain ⟨i, _, rfl⟩ := List.mem_map.mp m
  rfl
theorem inD_ints (i : Int) (ns : List Int) : inD (.int i) (ns.map .int) = decide (i ∈ ns) := by
  induction ns with
  | nil => rfl
  | cons n ns ih =>
    unfold inD at ih ⊢
    rw [List.map_cons, List.any_cons, ih]
    show ((n == i) || _) = _
    by_cases e : n = i
    · subst e; simp
    · have e2 : ¬ i = n := fun z => e z.symm
      simp [e, e2]
@[simp] theorem gIn_lst (neg : Bool) (i : Int) (ns : List Int) : gIn neg (.int i) (.lst (ns.map .int)) = some (.bl (if neg then !decide (i ∈ ns) else decide (i ∈ ns)), 0) := by
  show (if flat (.int i) ∧ (ns.map D.int).all flat then some (D.bl (if neg then !inD (.int i) (ns.map .int) else inD (.int i) (ns.map .int)), 0) else none) = _
  rw [if_pos ⟨rfl, flat_ints ns⟩, inD_ints]
@[simp] theorem gIn_tup (neg : Bool) (i : Int) (ns : List Int) : gIn neg (.int i) (.tup (ns.map .int)) = some (.bl (if neg then !decide (i ∈ ns) else decide (i ∈ ns)), 0) := by
  show (if flat (.int i) ∧ (ns.map D.int).all flat then some (D.bl (if neg then !inD (.int i) (ns.map .int) else inD (.int i) (ns.map .int)), 0) else none) = _
  rw [if_pos ⟨rfl, flat_ints ns⟩, inD_ints]
/-- an entry by its number -/
def gt {α : Type} [Inhabited α] (l : List α) (j : Int) : α := l.getD j.toNat default
theorem gt_mem {α : Type} [Inhabited α] {l : List α} {j : Int} (h0 : 0 ≤ j) (h1 : j < l.length) : gt l j ∈ l := by
  have : j.toNat < l.length := by omega
  unfold gt
  rw [List.getD_eq_getElem?_getD, List.getElem?_eq_getElem this]
  exact List.getElem_mem this
theorem gt_map {α β : Type} [Inhabited α] [Inhabited β] {l : List α} {j : Int} (f : α → β) (h0 : 0 ≤ j) (h1 : j < l.length) : gt (l.map f) j = f (gt l j) := by
  have : j.toNat < l.length := by omega
  unfold gt
  rw [List.getD_eq_getElem?_getD, List.getD_eq_getElem?_getD, List.getElem?_map, List.getElem?_eq_getElem this]
  rfl
theorem atI_map {α : Type} [Inhabited α] (enc : α → D) {l : List α} {j : Int} (h0 : 0 ≤ j) (h1 : j < l.length) : L2.atI (l.map enc) j = some (enc (gt l j)) := by
  have : j.toNat < l.length := by omega
  unfold L2.atI L2.ixN
  rw [List.length_map, if_pos h0, if_pos h1]
  show (l.map enc)[j.toNat]? = _
  rw [List.getElem?_map, List.getElem?_eq_getElem this]
  unfold gt
  rw [List.getD_eq_getElem?_getD, List.getElem?_eq_getElem this]
  rfl
section
variable {α : Type} [Inhabited α] (enc : α → D) {l : List α} {j : Int}
theorem gIx_lst (h0 : 0 ≤ j) (h1 : j < l.length) : gIx (.lst (l.map enc)) (.int j) = some (enc (gt l j), 0) := by
  show (L2.atI (l.map enc) j).map _ = _
  rw [atI_map enc h0 h1]; rfl
theorem gIx_tup (h0 : 0 ≤ j) (h1 : j < l.length) : gIx (.tup (l.map enc)) (.int j) = some (enc (gt l j), 0) := by
  show (L2.atI (l.map enc) j).map _ = _
  rw [atI_map enc h0 h1]; rfl
theorem gIx_scr (h0 : 0 ≤ j) (h1 : j < l.length) : gIx (.scr (l.map enc)) (.int j) = some (enc (gt l j), 0) := by
  show (L2.atI (l.map enc) j).map _ = _
  rw [atI_map enc h0 h1]; rfl
end
theorem ixN_ok {n : Nat} {j : Int} (h0 : 0 ≤ j) (h1 : j < n) : L2.ixN n j = some j.toNat := by
  unfold L2.ixN
  rw [if_pos h0, if_pos h1]
theorem atI_n (l : List D) (n : Nat) (h : n < l.length) : L2.atI l (n : Int) = l[n]? := by
  unfold L2.atI
  rw [ixN_ok (by omega) (by omega), Int.toNat_natCast]
  rfl
@[simp] theorem gIx_t3 (a b c d : D) (l : List D) : gIx (.tup (a :: b :: c :: d :: l)) (.int 3) = some (d, 0) := congrArg (Option.map fun d : D => (d, 0)) (atI_n (a :: b :: c :: d :: l) 3 (by simp))
@[simp] theorem gIx_t4 (a b c d e : D) (l : List D) : gIx (.tup (a :: b :: c :: d :: e :: l)) (.int 4) = some (e, 0) := congrArg (Option.map fun d : D => (d, 0)) (atI_n (a :: b :: c :: d :: e :: l) 4 (by simp))
@[simp] theorem gIx_t5 (a b c d e f : D) (l : List D) : gIx (.tup (a :: b :: c :: d :: e :: f :: l)) (.int 5) = some (f, 0) := congrArg (Option.map fun d : D => (d, 0)) (atI_n (a :: b :: c :: d :: e :: f :: l) 5 (by simp))
@[simp] theorem gIx_t6 (a b c d e f g : D) (l : List D) : gIx (.tup (a :: b :: c :: d :: e :: f :: g :: l)) (.int 6) = some (g, 0) := congrArg (Option.map fun d : D => (d, 0)) (atI_n (a :: b :: c :: d :: e :: f :: g :: l) 6 (by simp))
@[simp] theorem gIx_t7 (a b c d e f g h : D) (l : List D) : gIx (.tup (a :: b :: c :: d :: e :: f :: g :: h :: l)) (.int 7) = some (h, 0) := congrArg (Option.map fun d : D => (d, 0)) (atI_n (a :: b :: c :: d :: e :: f :: g :: h :: l) 7 (by simp))
@[simp] theorem gIx_l3 (a b c d : D) (l : List D) : gIx (.lst (a :: b :: c :: d :: l)) (.int 3) = some (d, 0) := congrArg (Option.map fun d : D => (d, 0)) (atI_n (a :: b :: c :: d :: l) 3 (by simp))
@[simp] theorem gIx_l4 (a b c d e : D) (l : List D) : gIx (.lst (a :: b :: c :: d :: e :: l)) (.int 4) = some (e, 0) := congrArg (Option.map fun d : D => (d, 0)) (atI_n (a :: b :: c :: d :: e :: l) 4 (by simp))
@[simp] theorem gIx_l5 (a b c d e f : D) (l : List D) : gIx (.lst (a :: b :: c :: d :: e :: f :: l)) (.int 5) = some (f, 0) := congrArg (Option.map fun d : D => (d, 0)) (atI_n (a :: b :: c :: d :: e :: f :: l) 5 (by simp))
@[simp] theorem gIx_l6 (a b c d e f g : D) (l : List D) : gIx (.lst (a :: b :: c :: d :: e :: f :: g :: l)) (.int 6) = some (g, 0) := congrArg (Option.map fun d : D => (d, 0)) (atI_n (a :: b :: c :: d :: e :: f :: g :: l) 6 (by simp))
@[simp] theorem gIx_l7 (a b c d e f g h : D) (l : List D) : gIx (.lst (a :: b :: c :: d :: e :: f :: g :: h :: l)) (.int 7) = some (h, 0) := congrArg (Option.map fun d : D => (d, 0)) (atI_n (a :: b :: c :: d :: e :: f :: g :: h :: l) 7 (by simp))
@[simp] theorem gIx_t0 (a : D) (l : List D) : gIx (.tup (a :: l)) (.int 0) = some (a, 0) := congrArg (Option.map fun d : D => (d, 0)) (atI_n (a :: l) 0 (Nat.zero_lt_succ _))
@[simp] theorem gIx_t1 (a b : D) (l : List D) : gIx (.tup (a :: b :: l)) (.int 1) = some (b, 0) := congrArg (Option.map fun d : D => (d, 0)) (atI_n (a :: b :: l) 1 (by simp))
@[simp] theorem gIx_t2 (a b c : D) (l : List D) : gIx (.tup (a :: b :: c :: l)) (.int 2) = some (c, 0) := congrArg (Option.map fun d : D => (d, 0)) (atI_n (a :: b :: c :: l) 2 (by simp))
@[simp] theorem gIx_l0 (a : D) (l : List D) : gIx (.lst (a :: l)) (.int 0) = some (a, 0) := congrArg (Option.map fun d : D => (d, 0)) (atI_n (a :: l) 0 (Nat.zero_lt_succ _))
@[simp] theorem gIx_l1 (a b : D) (l : List D) : gIx (.lst (a :: b :: l)) (.int 1) = some (b, 0) := congrArg (Option.map fun d : D => (d, 0)) (atI_n (a :: b :: l) 1 (by simp))
@[simp] theorem gIx_l2 (a b c : D) (l : List D) : gIx (.lst (a :: b :: c :: l)) (.int 2) = some (c, 0) := congrArg (Option.map fun d : D => (d, 0)) (atI_n (a :: b :: c :: l) 2 (by simp))
/-- a row, as a tuple or as a list -/
def eL (b : Bool) (xs : List D) : D := match b with
  | true => .tup xs
  | false => .lst xs
@[simp] theorem eL_true (xs : List D) : eL true xs = .tup xs := eqr rfl
@[simp] theorem eL_false (xs : List D) : eL false xs = .lst xs := eqr rfl
section
variable {b : Bool}
theorem gIx_eL {α : Type} [Inhabited α] (enc : α → D) {l : List α} {j : Int} (h0 : 0 ≤ j) (h1 : j < l.length) : gIx (eL b (l.map enc)) (.int j) = some (enc (gt l j), 0) := by
  cases b
  · exact gIx_lst enc h0 h1
  · exact gIx_tup enc h0 h1
@[simp] theorem gLen_eL (xs : List D) : gLen (eL b xs) = some (.int xs.length, 0) := by cases b <;> rfl
@[simp] theorem gList_eL (xs : List D) : gList (eL b xs) = some (.lst xs, 1) := by cases b <;> rfl
@[simp] theorem gTuple_eL (xs : List D) : gTuple (eL b xs) = some (.tup xs, 0) := by cases b <;> rfl
@[simp] theorem iAnyK_eL (xs : List D) (n : Nat) (sd : SD) : iAnyK (eL b xs, n) sd = .ok xs sd := by cases b <;> rfl
@[simp] theorem iEnuK_eL {α : Type} (enc : α → D) (l : List α) (n : Nat) (sd : SD) : iEnuK (eL b (l.map enc), n) sd = .ok (l.zipIdx.map fun p => .tup [.int (p.2 : Int), enc p.1]) sd := by
  cases b
  · exact iEnuK_lst sd enc l n
  · exact iEnuK_tup sd enc l n
@[simp] theorem gIn_eL (neg : Bool) (i : Int) (ns : List Int) : gIn neg (.int i) (eL b (ns.map .int)) = some (.bl (if neg then !decide (i ∈ ns) else decide (i ∈ ns)), 0) := by
  cases b
  · exact gIn_lst neg i ns
  · exact gIn_tup neg i ns
end
@[simp] theorem gMinE_ints (n : Int) (ns : List Int) : gMinE [.lst (.int n :: ns.map .int)] = some (.int (ns.foldl min n), 0) := by
  show (match intsOf ((n :: ns).map D.int) with
    | some (n :: ns) => some (D.int (ns.foldl min n), 0)
    | some [] => none
    | none => match pairsOf ((n :: ns).map D.int) with
      | some (p :: ps) => some (prD (minP p ps), 0)
      | _ => none) = _
  rw [intsOf_map]
@[simp] theorem gMax_ints (n : Int) (ns : List Int) : gMax [.lst (.int n :: ns.map .int)] = some (.int (ns.foldl max n), 0) := by
  show (match intsOf ((n :: ns).map D.int) with
    | some (n :: ns) => some (D.int (ns.foldl max n), 0)
    | _ => none) = _
  rw [intsOf_map]
section
variable {ws : List Nat} {g : Tg} {body : Sm} {kn kb kc : SD → FR}
theorem for_fold0 {α β : Type} (enc : α → D) (S : β → SD) (f : β → α → β) (l : List α) (b : β) (h : ∀ a ∈ l, ∀ b K, trn ws g body (enc a) (S b) K kn = K (S (f b a))) :
    (forGo ws g body (l.map enc) (S b)).fin kn kb kc = kn (S (l.foldl f b)) := (for_fold enc S (fun _ => True) f l b trivial fun a m b _ => ⟨trivial, h a m b⟩).1
theorem for_foldP {α β : Type} (enc : α → D) (S : β → SD) (P : β → Prop) (f : β → α → β) (l : List α) (b : β) (hp : P b) (h : ∀ a ∈ l, ∀ b, P b → P (f b a) ∧ ∀ K, trn ws g body (enc a) (S b) K kn = K (S (f b a))) :
    (forGo ws g body (l.map enc) (S b)).fin kn kb kc = kn (S (l.foldl f b)) := (for_fold enc S P f l b hp h).1
/-- a loop that gathers -/
theorem for_collect {α γ : Type} (enc : α → D) (S : List γ → SD) (h : α → Option γ) (l : List α) (acc : List γ) (hl : acc.length + l.length ≤ 1000000)
    (hs : ∀ a ∈ l, ∀ acc : List γ, acc.length < 1000000 → ∀ K, trn ws g body (enc a) (S acc) K kn = K (S (match h a with | some c => acc ++ [c] | none => acc))) :
    (forGo ws g body (l.map enc) (S acc)).fin kn kb kc = kn (S (acc ++ l.filterMap h)) := by
  induction l generalizing acc with
  | nil => rw [List.filterMap_nil, List.append_nil]; rfl
  | cons a l ih =>
    rw [List.length_cons] at hl
    rw [List.map_cons, forGo_cons, hs a List.mem_cons_self acc (by omega), List.filterMap_cons]
    cases h a with
    | none => exact ih acc (by omega) fun b m => hs b (List.mem_cons_of_mem _ m)
    | some c =>
      dsimp only
      rw [ih (acc ++ [c]) (by rw [List.length_append, List.length_singleton]; omega) fun b m => hs b (List.mem_cons_of_mem _ m), List.append_assoc]
      rfl
/-- a loop that keeps what is asked of its state; what it gives then is told for all such states -/
theorem for_inv {α β : Type} (enc : α → D) (S : β → SD) (I : Nat → β → Prop) (Q : FR → Prop) (l : List α) (b : β) (h0 : I 0 b)
    (hs : ∀ i a b, l[i]? = some a → I i b → ∀ K, (∀ b', I (i + 1) b' → Q (K (S b'))) → Q (trn ws g body (enc a) (S b) K kn)) (he : ∀ b, I l.length b → Q (kn (S b))) : Q ((forGo ws g body (l.map enc) (S b)).fin kn kb kc) := by
  induction l generalizing b I with
  | nil => exact he b h0
  | cons a l ih =>
    rw [List.map_cons, forGo_cons]
    exact hs 0 a b rfl h0 _ fun b' i => ih (fun j => I (j + 1)) b' i (fun j a b e hI => hs (j + 1) a b e hI) he
end
def cutA {α : Type} (xs : List α) (lo hi : Option Int) : List α := (xs.drop (HT.sIx xs.length 0 lo)).take (HT.sIx xs.length xs.length hi - HT.sIx xs.length 0 lo)
theorem cutD_map {α : Type} (enc : α → D) (l : List α) (lo hi : Option Int) : cutD (l.map enc) lo hi = (cutA l lo hi).map enc := by
  unfold cutD cutA
  rw [List.length_map, List.map_take, List.map_drop]
theorem cutA_len {α : Type} (l : List α) (lo hi : Option Int) : (cutA l lo hi).length ≤ l.length := by
  unfold cutA
  rw [List.length_take, List.length_drop]
  omega
theorem cutA_mem {α : Type} {l : List α} {lo hi : Option Int} {a : α} (h : a ∈ cutA l lo hi) : a ∈ l := List.mem_of_mem_drop (List.mem_of_mem_take h)
@[simp] theorem gSl_lst {α : Type} (enc : α → D) (l : List α) (lo hi : Option Int) : gSl (.lst (l.map enc)) lo hi = some (.lst ((cutA l lo hi).map enc), 1) := by
  rw [← cutD_map]; rfl
@[simp] theorem gSl_tup {α : Type} (enc : α → D) (l : List α) (lo hi : Option Int) : gSl (.tup (l.map enc)) lo hi = some (.tup ((cutA l lo hi).map enc), 0) := by
  rw [← cutD_map]; rfl
theorem gAdd_lstE {α : Type} (enc : α → D) (l l' : List α) (h : l.length + l'.length ≤ 1000000) : gAdd (.lst (l.map enc)) (.lst (l'.map enc)) = some (.lst ((l ++ l').map enc), 1) := by
  rw [gAdd_lst, if_pos (by rw [List.length_map, List.length_map]; exact Nat.le_trans h (by decide)), List.map_append]
end VS
/-! VS16: defs that change what they are given. -/
namespace VS
open PySem PySem.Spec L2
open PyProof.Rows (envOfC)
inductive FRO where
  | ok (w : D × Nat) (outs : List (D × Nat))
  | exc (x : Exn) (outs : List (D × Nat))
  | stuck
abbrev FnO := List (D × Nat) → FRO
def pick (sd : SD) : List Nat → Option (List (D × Nat))
  | [] => some []
  | i :: is => match gtS sd i with
    | some w => (pick sd is).map fun l => w :: l
    | none => none
def O.fro (ios : List Nat) (o : O) : FRO := match o with
  | .nx sd => match pick sd ios with
    | some outs => .ok (.non, 0) outs
    | none => .stuck
  | .rt w sd => match pick sd ios with
    | some outs => .ok w outs
    | none => .stuck
  | .ex x sd => match pick sd ios with
    | some outs => .exc x outs
    | none => .stuck
  | _ => .stuck
/-- what a def is worth that gives its arguments ios back, changed -/
def fnIO (N : Nat) (ios : List Nat) (body : Sm) : FnO := fun ws => (body (fill N ws)).fro ios
theorem gtS_some {sd : SD} {i : Nat} {w : D × Nat} (h : gtS sd i = some w) : sd[i]? = some (some w) := by
  unfold gtS at h
  cases e : sd[i]? with
  | none => rw [e] at h; cases h
  | some x => rw [e] at h; rw [← h]
section
variable {K : PySem.W.Frag} {Z F : Pz} {H : Hp} {σ : St} {sd : SD}
theorem pick_none {sd : SD} {i : Nat} : ∀ {is : List Nat}, i ∉ is → pick (sd.set i none) is = pick sd is := by
  intro is
  induction is with
  | nil => intro _; rfl
  | cons j is ih =>
    intro h
    unfold pick
    have e : gtS (sd.set i none) j = gtS sd j := by
      unfold gtS
      rw [List.getElem?_set_ne fun e : i = j => h (by rw [e]; exact List.mem_cons_self)]
    rw [e, ih fun m => h (List.mem_cons_of_mem _ m)]
theorem Ok.pick {ios : List Nat} (nd : ios.Nodup) {outs : List (D × Nat)} (ok : Ok K Z F H σ sd) (h : VS.pick sd ios = some outs) :
    ∃ (us : List V) (p : List Addr), Slots K Z H (us.map some) (outs.map some) p ∧ p.Nodup ∧ (∀ a ∈ p, ¬ F a) ∧ Ok0 Z (uni F p) H ∧ ios.map (fun i => σ[i]?) = us.map fun u => some (some u) := by
  induction ios generalizing sd outs F with
  | nil =>
    cases h
    exact ⟨[], [], .nil, .nil, fun _ m => absurd m List.not_mem_nil, ok.unnil.base, rfl⟩
  | cons i is ih =>
    unfold VS.pick at h
    split at h
    case h_2 => cases h
    rename_i w e
    obtain ⟨l, e1, e2⟩ := Option.map_eq_some_iff.mp h
    subst e2
    obtain ⟨d, k⟩ := w
    obtain ⟨v, p, e3, r, ndp, nf, ok1⟩ := ok.take (gtS_some e)
    obtain ⟨n1, n2⟩ := List.nodup_cons.mp nd
    rw [← pick_none n1] at e1
    obtain ⟨us, q, s, ndq, nfq, b, eq⟩ := ih n2 ok1 e1
    refine ⟨v :: us, p ++ q, .cons r s, List.nodup_append.mpr ⟨ndp, ndq, fun a ha b hb e => nfq b hb (.inr (e ▸ ha))⟩, fun a m => ?_, ⟨b.z, fun a f => b.f a ?_⟩, by rw [List.map_cons, List.map_cons, e3, eq]⟩
    · rcases List.mem_append.mp m with m | m
      · exact nf a m
      · exact fun z => nfq a m (.inl z)
    · rcases f with f | f
      · exact .inl (.inl f)
      · rcases List.mem_append.mp f with m | m
        · exact .inl (.inr m)
        · exact .inr m
end
section
variable (K : PySem.W.Frag) (mg : Mg)
def backP (ios : List Nat) (Z F : Pz) (H : Hp) (vs : List V) (outs : List (D × Nat)) (R : Pz → Hp → List Addr → Prop) : Prop :=
  ∀ (Z' : Pz) (H' : Hp) (us : List V) (p : List Addr), ios.map (fun i => vs[i]?) = us.map some → Slots K Z' H' (us.map some) (outs.map some) p → p.Nodup → (∀ a ∈ p, ¬ F a) → Ok0 Z' (uni F p) H' → Ext F Z H Z' H' → R Z' H' p
def spIO (n : Nat) (ios : List Nat) (f : FnO) : Sp := fun vs H Q E => ∃ (Z F : Pz) (ws : List (D × Nat)) (o : List Addr), vs.length = n ∧ Slots K Z H (vs.map some) (ws.map some) o ∧ o.Nodup ∧ (∀ a ∈ o, ¬ F a) ∧ Ok0 Z (uni F o) H ∧ match f ws with
  | .ok w outs => backP K ios Z F H vs outs fun Z' H' p => ∀ v o', Rp K Z' H' v w.1 w.2 o' → o'.Nodup → (∀ a ∈ o', ¬ uni F p a) → Ok0 Z' (uni (uni F p) o') H' → Q v H'
  | .exc x outs => backP K ios Z F H vs outs fun Z' H' p => ∀ c dd, ExcAt K mg Z' H' x c dd → E c dd H'
  | .stuck => False
end
section
variable {P : Program} {w : World} {K : PySem.W.Frag} {mg : Mg} {base : Heap}
/-- THE RULE for a def that gives arguments back -/
theorem fnIO_ok {x qual : Str} {st : Stmt} {f : Addr} {fd : FuncData} {N ps : List Str} {k : Nat} {body : Sm} (ios : List Nat) (hnd : ios.Nodup) (hio : ∀ i ∈ ios, i < ps.length) (Fu : Fun K x qual st f fd) (S : FnScope N ps (defScope st))
    (hbody : ∀ (cdv : Value) (A : Around) (outer : List Env) (s : Shared) (H : Hp) (E : XK), Room k (A.deeper (envOfC qual (defScope st) s.heap.objs.size f cdv)) →
      SSsp ios (cxOf (L2.CX P w) P w K mg base N qual (defScope st) f cdv A outer s H E) (fun c d _ H' => E c d H') (defBody st) body) : FnOk P w K mg base (L2.CX P w) (k + 1) f fd ps (spIO K mg ps.length ios (fnIO N.length ios body)) := by
  refine Fu.okX S (fun vs H Q E h => ?_) (fun cdv A outer s H vs Q E hr h => ⟨_, hbody cdv A outer s H E hr, ?_⟩)
  · obtain ⟨_, _, _, _, h, _⟩ := h
    exact h
  · obtain ⟨Z, F, ws, o, hl, s0, nd, nf, b, h⟩ := h
    have hlen : vs.length = ws.length := by
      have := s0.length
      simpa using this
    have pnV : ∀ σ' : St, Pin ios (L2.start N vs) σ' → ∀ us : List V, ios.map (fun i => σ'[i]?) = us.map (fun u => some (some u)) → ios.map (fun i => vs[i]?) = us.map some := fun σ' pn us e => by
      have e2 : ios.map (fun i => σ'[i]?) = ios.map fun i => (vs[i]?).map some := by
        apply List.map_congr_left
        intro i m
        rw [pn i m]
        unfold L2.start
        have hi := hio i m
        rw [List.getElem?_append_left (by rw [List.length_map]; omega), List.getElem?_map]
      rw [e2] at e
      have e3 : (ios.map fun i => vs[i]?).map (fun x => x.map some) = (us.map some).map fun x => x.map some := by
        rw [List.map_map, List.map_map]
        exact e
      exact (List.map_inj_right (fun a b h => by
        cases a <;> cases b <;> simp_all)).mp e3
    refine ⟨Z, F, fill N.length ws, ⟨o, ?_, nd, nf, b⟩, ?_⟩
    · unfold L2.start fill
      rw [hlen]
      exact s0.fill _
    · unfold fnIO at h
      cases e : body (fill N.length ws) with
      | nx sd1 =>
        rw [e] at h
        unfold O.fro at h
        cases ep : VS.pick sd1 ios with
        | none => simp only [ep] at h
        | some outs =>
          simp only [ep] at h
          intro σ' Z' H' pn ok x
          obtain ⟨us, p, q1, q2, q3, q4, q5⟩ := ok.pick hnd ep
          exact h Z' H' us p (pnV σ' pn us q5) q1 q2 q3 q4 x .non [] (.non _) .nil (fun _ m => absurd m List.not_mem_nil) ⟨q4.z, fun a f => q4.f a (f.elim id fun m => absurd m List.not_mem_nil)⟩
      | rt w1 sd1 =>
        rw [e] at h
        unfold O.fro at h
        cases ep : VS.pick sd1 ios with
        | none => simp only [ep] at h
        | some outs =>
          simp only [ep] at h
          intro v Z' H' o' σ' pn r nd' nf' ok x
          obtain ⟨us, p, q1, q2, q3, q4, q5⟩ := ok.pick hnd ep
          refine h Z' H' us p (pnV σ' pn us q5) q1 q2 (fun a m z => q3 a m (.inl z)) ⟨q4.z, fun a f => q4.f a (f.elim (fun z => .inl (.inl z)) .inr)⟩ x v o' r nd' (fun a m z => ?_) ⟨q4.z, fun a f => q4.f a ?_⟩
          · rcases z with z | z
            · exact nf' a m z
            · exact q3 a z (.inr m)
          · rcases f with (f | f) | f
            · exact .inl (.inl f)
            · exact .inr f
            · exact .inl (.inr f)
      | ex y sd1 =>
        rw [e] at h
        unfold O.fro at h
        cases ep : VS.pick sd1 ios with
        | none => simp only [ep] at h
        | some outs =>
          simp only [ep] at h
          intro σ' pn c dd Z' H' a ok x
          obtain ⟨us, p, q1, q2, q3, q4, q5⟩ := ok.pick hnd ep
          exact h Z' H' us p (pnV σ' pn us q5) q1 q2 q3 q4 x c dd a
      | bk sd1 => rw [e] at h; exact h.elim
      | ct sd1 => rw [e] at h; exact h.elim
      | stuck => rw [e] at h; exact h.elim
structure DefO (P : Program) (w : World) (K : PySem.W.Frag) (mg : Mg) (base : Heap) (x : Str) (k : Nat) (n : Nat) (ios : List Nat) (dfl : List D) (f : FnO) : Prop where
  ex : ∃ (fa : Addr) (fd : FuncData) (ps : List Str) (dvs : List V) (ds : List Value), mg x = some (.ref fa) ∧ PySem.W.keepIn K (.ref fa) = true ∧ Binds K fd ps ds ∧ Vals dvs ds ∧ (∀ Z H, RpAll K Z H dvs dfl 0 []) ∧ FnOk P w K mg base (L2.CX P w) k fa fd ps (spIO K mg n ios f)
theorem DefO.mono {x : Str} {j k n : Nat} {ios : List Nat} {dfl : List D} {f : FnO} (h : DefO P w K mg base x j n ios dfl f) (le : j ≤ k) : DefO P w K mg base x k n ios dfl f := by
  obtain ⟨fa, fd, ps, dvs, ds, h1, h2, h3, h4, h5, h6⟩ := h.ex
  exact ⟨fa, fd, ps, dvs, ds, h1, h2, h3, h4, h5, h6.mono le⟩
end
/-! the call -/
def rsm (sd : SD) : List Ag → Option (List (D × Nat) × SD)
  | [] => some ([], sd)
  | .w x :: r => (rsm sd r).map fun q => (x :: q.1, q.2)
  | .b i :: r => match gtS sd i with
    | some w => (rsm (sd.set i none) r).map fun q => (w :: q.1, q.2)
    | none => none
def mSl : List Ag → List Nat
  | [] => []
  | .w _ :: r => mSl r
  | .b i :: r => i :: mSl r
def mPos : Nat → List Ag → List Nat
  | _, [] => []
  | n, .w _ :: r => mPos (n + 1) r
  | n, .b _ :: r => n :: mPos (n + 1) r
def putB (sd : SD) : List Nat → List (D × Nat) → SD
  | i :: is, w :: ws => putB (sd.set i (some w)) is ws
  | _, _ => sd
def outR (sd : SD) (is : List Nat) : FRO → R (D × Nat)
  | .ok w outs => .ok w (putB sd is outs)
  | .exc x outs => .exc x (putB sd is outs)
  | .stuck => .stuck
def calIO (n : Nat) (ios : List Nat) (f : FnO) (dfl : List D) (fs : Eb) : Ev := fun sd => (fs sd).bind fun ags sd1 => match rsm sd1 ags with
  | some (xs, sd2) => if (xs.length + dfl.length == n && mPos 0 ags == ios) = true then outR sd2 (mSl ags) (f (xs ++ dfl.map fun d => (d, 0))) else .stuck
  | none => .stuck
section
variable {K : PySem.W.Frag} {Z F : Pz} {H : Hp} {σ : St}
theorem AgS.rsm {sd : SD} {vs : List V} {as : List Ag} {o : List Addr} (h : AgS K Z H σ vs as o) (nd : o.Nodup) (nf : ∀ a ∈ o, ¬ F a) (ok : Ok K Z (uni F o) H σ sd) {xs : List (D × Nat)} {sd2 : SD} (e : VS.rsm sd as = some (xs, sd2)) :
    ∃ q, Slots K Z H (vs.map some) (xs.map some) q ∧ q.Nodup ∧ (∀ a ∈ q, ¬ F a) ∧ Ok K Z (uni F q) H σ sd2 := by
  induction h generalizing sd F xs with
  | nil => cases e; exact ⟨[], .nil, nd, nf, ok⟩
  | @w v d k vs as o p r _ ih =>
    unfold VS.rsm at e
    obtain ⟨⟨l, sd3⟩, e1, e2⟩ := Option.map_eq_some_iff.mp e
    cases e2
    obtain ⟨n1, n2, n3⟩ := List.nodup_append.mp nd
    obtain ⟨q, s, ndq, nfq, ok2⟩ := ih (F := uni F o) n2 (fun a m z => z.elim (fun z => nf a (List.mem_append_right _ m) z) fun z => n3 a z a m rfl) (ok.less fun a z => by
      rcases z with (z | z) | z
      · exact .inl z
      · exact .inr (List.mem_append_left _ z)
      · exact .inr (List.mem_append_right _ z)) e1
    refine ⟨o ++ q, .cons r s, List.nodup_append.mpr ⟨n1, ndq, fun a ha b hb e => nfq b hb (.inr (e ▸ ha))⟩, fun a m => ?_, ok2.less fun a z => ?_⟩
    · rcases List.mem_append.mp m with m | m
      · exact nf a (List.mem_append_left _ m)
      · exact fun z => nfq a m (.inl z)
    · rcases z with z | z
      · exact .inl (.inl z)
      · rcases List.mem_append.mp z with z | z
        · exact .inl (.inr z)
        · exact .inr z
  | @b v i vs as p ev _ ih =>
    unfold VS.rsm at e
    split at e
    case h_2 => cases e
    rename_i w eg
    obtain ⟨⟨l, sd3⟩, e1, e2⟩ := Option.map_eq_some_iff.mp e
    cases e2
    obtain ⟨d, k⟩ := w
    obtain ⟨v', pi, e3, r, ndi, nfi, ok1⟩ := ok.take (gtS_some eg)
    rw [ev] at e3
    cases e3
    obtain ⟨q, s, ndq, nfq, ok2⟩ := ih (F := uni F pi) nd (fun a m z => z.elim (fun z => nf a m z) fun z => nfi a z (.inr m)) (ok1.less fun a z => by
      rcases z with (z | z) | z
      · exact .inl (.inl z)
      · exact .inr z
      · exact .inl (.inr z)) e1
    refine ⟨pi ++ q, .cons r s, List.nodup_append.mpr ⟨ndi, ndq, fun a ha b hb e => nfq b hb (.inr (e ▸ ha))⟩, fun a m => ?_, ok2.less fun a z => ?_⟩
    · rcases List.mem_append.mp m with m | m
      · exact fun z => nfi a m (.inl z)
      · exact fun z => nfq a m (.inl z)
    · rcases z with z | z
      · exact .inl (.inl z)
      · rcases List.mem_append.mp z with z | z
        · exact .inl (.inr z)
        · exact .inr z
theorem AgS.mval {vs : List V} {as : List Ag} {o : List Addr} (h : AgS K Z H σ vs as o) : ∀ (pre : List V) (us : List V), (mPos pre.length as).map (fun j => (pre ++ vs)[j]?) = us.map some → (mSl as).map (fun i => σ[i]?) = us.map fun u => some (some u) := by
  induction h with
  | nil =>
    intro pre us e
    cases us with
    | nil => rfl
    | cons u us => cases e
  | @w v d k vs as o p r _ ih =>
    intro pre us e
    have := ih (pre ++ [v]) us
    rw [List.append_assoc, List.length_append] at this
    exact this e
  | @b v i vs as p ev _ ih =>
    intro pre us e
    have := ih (pre ++ [v])
    rw [List.length_append, List.append_assoc] at this
    unfold mPos at e
    rw [List.map_cons] at e
    cases us with
    | nil => cases e
    | cons u us =>
      rw [List.map_cons] at e
      injection e with e1 e2
      rw [List.getElem?_append_right (Nat.le_refl _), Nat.sub_self] at e1
      have e1 : v = u := Option.some.inj e1
      subst e1
      show σ[i]? :: (mSl as).map _ = some (some v) :: _
      rw [ev, this us e2]
theorem Ok.putB {us : List V} {outs : List (D × Nat)} {p : List Addr} {is : List Nat} {sd : SD} (s : Slots K Z H (us.map some) (outs.map some) p) (nd : p.Nodup) (nf : ∀ a ∈ p, ¬ F a) (hv : is.map (fun i => σ[i]?) = us.map fun u => some (some u)) (ok : Ok K Z (uni F p) H σ sd) : Ok K Z F H σ (VS.putB sd is outs) := by
  induction us generalizing outs p is sd with
  | nil =>
    cases outs with
    | cons _ _ => have := s.length; simp at this
    | nil =>
      have : is = [] := List.map_eq_nil_iff.mp hv
      subst this
      exact ok.less fun _ z => .inl z
  | cons u us ih =>
    cases outs with
    | nil => have := s.length; simp at this
    | cons w outs =>
      obtain ⟨d, k⟩ := w
      cases is with
      | nil => cases hv
      | cons i is =>
        rw [List.map_cons, List.map_cons] at hv
        injection hv with h1 h2
        rw [List.map_cons, List.map_cons] at s
        cases s with
        | @cons _ _ _ _ _ o q r s =>
        obtain ⟨n1, n2, n3⟩ := List.nodup_append.mp nd
        unfold VS.putB
        refine ih s n2 (fun a m => nf a (List.mem_append_right _ m)) h2 ?_
        refine Ok.back (p := o) (ok.less fun a z => ?_) r n1 (fun a m z => ?_) h1
        · rcases z with (z | z) | z
          · exact .inl z
          · exact .inr (List.mem_append_right _ z)
          · exact .inr (List.mem_append_left _ z)
        · rcases z with z | z
          · exact nf a (List.mem_append_left _ m) z
          · exact n3 a m a z rfl
end
section
variable {X : Cx} {W : WX} {pos p q : Pos} {a b c : Expr} {es : List Expr} {fa fb : Ev} {fs : Eb}
theorem se_callIO {x : Str} {k n : Nat} {ios : List Nat} {dfl : List D} {f : FnO} (G : DefO X.prog X.w X.K X.mg X.base x k n ios dfl f) (hr : Room k X.A) (tk : Takes X W) (ha : SGb X W (a :: es) fs) (hio : ∀ i ∈ ios, i < n - dfl.length := by decide) (hg : Gl X x := by rfl) (hdb : (x == ("__debug__" : Str)) = false := by decide)
    (he : starEach (a :: es) X.env = (false, eval a X.env) :: starEach es X.env := by rfl) (hpl : (backTo pos (starEach es X.env)).any (·.1) = false := by rfl) : SE X W (.Call (.Name x p) (a :: es) [] pos) (calIO n ios f dfl fs) := by
  obtain ⟨fa, fd, ps, dvs, ds, h1, h2, h3, h4, h5, h6⟩ := G.ex
  refine PE.imp (pe_callSD h6 hr hg h1 h2 h3 h4 (fun σ => passAt tk σ) ha hdb he hpl) fun σ H Q ⟨Z, F, sd, ok, h⟩ => ?_
  refine ⟨Z, F, sd, ok, ?_⟩
  unfold calIO at h
  cases e : fs sd with
  | stuck => rw [e] at h; exact h
  | exc y sd1 => rw [e] at h; exact h
  | ok ags sd1 =>
    rw [e, R.bind_ok] at h
    intro vs Z1 H1 o s nd nf ok1 x1
    split at h
    case h_2 => exact h.elim
    rename_i xs sd2 ers
    split at h
    case isFalse => exact h.elim
    rename_i hn
    rw [Bool.and_eq_true] at hn
    have hpos : mPos 0 ags = ios := beq_iff_eq.mp hn.2
    obtain ⟨q, sx, ndq, nfq, ok2⟩ := s.rsm nd nf ok1 ers
    obtain ⟨ow, ss, ndw, nfw, b⟩ := ok2.ex
    have hvs : vs.length + dvs.length = n := by
      have q1 := sx.length
      have q2 := (h5 Z1 H1).length
      rw [List.length_map, List.length_map] at q1
      rw [q1, q2]
      exact beq_iff_eq.mp hn.1
    have hlen : (vs ++ dvs).length = n := by rw [List.length_append]; exact hvs
    have hdl : dvs.length = dfl.length := (h5 Z1 H1).length
    have hval : ∀ us : List V, ios.map (fun i => (vs ++ dvs)[i]?) = us.map some → (mSl ags).map (fun i => σ[i]?) = us.map fun u => some (some u) := fun us eu => by
      refine s.mval [] us ?_
      show (mPos 0 ags).map (fun j => vs[j]?) = _
      rw [hpos, ← eu]
      apply List.map_congr_left
      intro i m
      have := hio i m
      rw [List.getElem?_append_left (by omega)]
    refine ⟨Z1, uni F ow, xs ++ dfl.map fun d => (d, 0), q, hlen, ?_, ndq, fun a m z => ?_, ⟨b.z, fun a f => b.f a ?_⟩, ?_⟩
    · rw [List.map_append, List.map_append]
      have := sx.app (Slots.of_all (h5 Z1 H1))
      rw [List.append_nil] at this
      exact this
    · rcases z with z | z
      · exact nfq a m z
      · exact nfw a z (.inr m)
    · rcases f with (f | f) | f
      · exact .inl (.inl f)
      · exact .inr f
      · exact .inl (.inr f)
    · cases e2 : f (xs ++ dfl.map fun d => (d, 0)) with
      | ok w outs =>
        rw [e2] at h
        intro Z2 H2 us p eu so ndp nfp b2 x2 v o' rv nd' nf' b3
        have ok3 : Ok X.K Z2 (uni (uni F o') p) H2 σ sd2 := ⟨ow, ss.keep x2.z fun a m => x2.f a (.inr m), ndw, fun a m z => ?_, b3.z, fun a f => b3.f a ?_⟩
        · exact h v Z2 H2 o' rv nd' (fun a m z => nf' a m (.inl (.inl z))) (Ok.putB so ndp (fun a m z => z.elim (fun z => nfp a m (.inl z)) fun z => nf' a z (.inr m)) (hval us eu) ok3) (x1.trans (x2.mono fun _ z => .inl z))
        · rcases z with (z | z) | z
          · exact nfw a m (.inl z)
          · exact nf' a z (.inl (.inr m))
          · exact nfp a z (.inr m)
        · rcases f with ((f | f) | f) | f
          · exact .inl (.inl (.inl f))
          · exact .inr f
          · exact .inl (.inr f)
          · exact .inl (.inl (.inr f))
      | exc y outs =>
        rw [e2] at h
        intro Z2 H2 us p eu so ndp nfp b2 x2 c dd ea
        have ok3 : Ok X.K Z2 (uni F p) H2 σ sd2 := ⟨ow, ss.keep x2.z fun a m => x2.f a (.inr m), ndw, fun a m z => ?_, b2.z, fun a f => b2.f a ?_⟩
        · exact h c dd Z2 H2 ea (Ok.putB so ndp (fun a m z => nfp a m (.inl z)) (hval us eu) ok3) (x1.trans (x2.mono fun _ z => .inl z))
        · rcases z with z | z
          · exact nfw a m (.inl z)
          · exact nfp a z (.inr m)
        · rcases f with (f | f) | f
          · exact .inl (.inl f)
          · exact .inr f
          · exact .inl (.inr f)
      | stuck => rw [e2] at h; exact h
end
end VS
/-! VS17: dicts whose keys are ints and texts, or tuples of them. -/
namespace VS
open PySem PySem.Spec L2
open PyProof.Rows (subscriptTail)
section
variable {κ : Type} [DecidableEq κ] {α : Type}
/-- what stands at the key -/
def dGet : List κ → List α → κ → Option α
  | k :: ks, d :: ds, x => if k = x then some d else dGet ks ds x
  | _, _, _ => none
def dKeys (ks : List κ) (x : κ) : List κ := if x ∈ ks then ks else ks ++ [x]
def dVals (ks : List κ) (ds : List α) (x : κ) (y : α) : List α := if x ∈ ks then (ks.zip ds).map fun kd => if kd.1 = x then y else kd.2 else ds ++ [y]
end
def keyOf : D → Option Key
  | .int i => some (.inl i)
  | .str s => some (.inr s)
  | _ => none
def keysOf : List D → Option (List Key)
  | [] => some []
  | d :: ds => match keyOf d, keysOf ds with
    | some k, some ks => some (k :: ks)
    | _, _ => none
def keyT : D → Option (List Key)
  | .tup ds => keysOf ds
  | _ => none
/-- d[k]: none = no promise; some none = no such key -/
def dLook : D → D → Option (Option D)
  | .dct ks ds, k => (keyOf k).map fun k => dGet ks ds k
  | .dcT ks ds, k => (keyT k).map fun k => dGet ks ds k
  | _, _ => none
def dPutD : D → D → D → Option D
  | .dct ks ds, k, y => (keyOf k).bind fun k => if ks.length < sizeLine then some (.dct (dKeys ks k) (dVals ks ds k y)) else none
  | .dcT ks ds, k, y => (keyT k).bind fun k => if ks.length < sizeLine then some (.dcT (dKeys ks k) (dVals ks ds k y)) else none
  | _, _, _ => none
section
variable {K : PySem.W.Frag} {Z : Pz} {H : Hp}
theorem keyOf_rp {v : V} {d : D} {k : Key} (r : Rp K Z H v d 0 []) (e : keyOf d = some k) : v = kV k := by
  generalize e0 : ([] : List Addr) = o0 at r
  cases r <;> simp only [keyOf, reduceCtorEq] at e <;> (cases e; rfl)
theorem keysOf_rp {vs : List V} {ds : List D} {ks : List Key} (r : RpAll K Z H vs ds 0 []) (e : keysOf ds = some ks) : vs = ks.map kV := by
  induction vs generalizing ds ks with
  | nil =>
    have := r.length
    cases ds with
    | nil => cases e; rfl
    | cons _ _ => cases this
  | cons v vs ih =>
    cases ds with
    | nil => have := r.length; cases this
    | cons d ds =>
      obtain ⟨r1, r2⟩ := r.uncons
      unfold keysOf at e
      split at e
      · rename_i k ks' e1 e2
        cases e
        rw [List.map_cons, ← keyOf_rp r1 e1, ← ih r2 e2]
      · cases e
theorem keyT_rp {v : V} {d : D} {k : List Key} (r : Rp K Z H v d 0 []) (e : keyT d = some k) : ∃ b, v = .ref b ∧ H b = some (.tup (k.map kV)) := by
  generalize e0 : ([] : List Addr) = o0 at r
  cases r <;> simp only [keyT, reduceCtorEq] at e
  rename_i a xs ds z h r
  exact ⟨a, rfl, by rw [h, keysOf_rp r e]⟩
section
variable {κ : Type} [DecidableEq κ]
theorem dGet_rp {ks : List κ} {xs : List V} {ds : List D} {k : Nat} (hl : ks.length = xs.length) (r : RpAll K Z H xs ds 0 []) (x : κ) :
    (match dGet ks ds x with | some d => ∃ v, valV (ks.zip xs) x = some v ∧ Rp K Z H v d 0 [] | none => valV (ks.zip xs) x = none) := by
  induction ks generalizing xs ds with
  | nil => rfl
  | cons k ks ih =>
    cases xs with
    | nil => cases hl
    | cons v xs =>
      cases ds with
      | nil => have := r.length; cases this
      | cons d ds =>
        obtain ⟨r1, r2⟩ := r.uncons
        rw [List.zip_cons_cons]
        unfold dGet
        by_cases e : k = x
        · rw [if_pos e]
          exact ⟨v, valV_pos e, r1⟩
        · rw [if_neg e, valV_neg e]
          exact ih (by simpa using hl) r2
theorem put_eq {ks : List κ} {xs : List V} (hl : ks.length = xs.length) (x : κ) (y : V) : putK (ks.zip xs) x y = (dKeys ks x).zip (dVals ks xs x y) ∧ (dKeys ks x).length = (dVals ks xs x y).length := by
  have hany : ((ks.zip xs).any fun kv => decide (kv.1 = x)) = decide (x ∈ ks) := by
    induction ks generalizing xs with
    | nil => simp
    | cons k ks ih =>
      cases xs with
      | nil => cases hl
      | cons v xs =>
        rw [List.zip_cons_cons, List.any_cons, ih (by simpa using hl)]
        by_cases e : k = x
        · subst e; simp
        · have e2 : ¬ x = k := fun z => e z.symm
          simp [e, e2]
  unfold putK dKeys dVals
  rw [hany]
  by_cases m : x ∈ ks
  · rw [if_pos (decide_eq_true m), if_pos m, if_pos m]
    clear hany m
    induction ks generalizing xs with
    | nil => exact ⟨rfl, rfl⟩
    | cons k ks ih =>
      cases xs with
      | nil => cases hl
      | cons v xs =>
        obtain ⟨i1, i2⟩ := ih (xs := xs) (by simpa using hl)
        rw [List.zip_cons_cons, List.map_cons, List.map_cons, List.zip_cons_cons, i1, List.length_cons, List.length_cons, i2]
        refine ⟨?_, rfl⟩
        congr 1
        by_cases e : k = x <;> simp [e]
  · have : ¬ decide (x ∈ ks) = true := by simpa using m
    rw [if_neg this, if_neg m, if_neg m]
    refine ⟨?_, by rw [List.length_append, List.length_append, hl]; rfl⟩
    rw [List.zip_append hl]
    rfl
theorem dVals_rp {ks : List κ} {xs : List V} {ds : List D} (hl : ks.length = xs.length) (r : RpAll K Z H xs ds 0 []) (x : κ) {y : V} {d : D} (ry : Rp K Z H y d 0 []) : RpAll K Z H (dVals ks xs x y) (dVals ks ds x d) 0 [] := by
  unfold dVals
  by_cases m : x ∈ ks
  · rw [if_pos m, if_pos m]
    clear m
    induction ks generalizing xs ds with
    | nil => exact .nil 0
    | cons k ks ih =>
      cases xs with
      | nil => cases hl
      | cons v xs =>
        cases ds with
        | nil => have := r.length; cases this
        | cons e ds =>
          obtain ⟨r1, r2⟩ := r.uncons
          rw [List.zip_cons_cons, List.zip_cons_cons, List.map_cons, List.map_cons]
          refine .cons (o := []) (p := []) ?_ (ih (by simpa using hl) r2)
          by_cases z : k = x
          · simp only [z, if_true]; exact ry
          · simp only [z, if_false]; exact r1
  · rw [if_neg m, if_neg m]
    exact r.app (.cons (o := []) (p := []) ry (.nil 0))
end
def LkR (K : PySem.W.Frag) (Z : Pz) (H : Hp) (o : Option V) : Option D → Prop
  | some x => ∃ u, o = some u ∧ Rp K Z H u x 0 []
  | none => o = none
/-- a dict that is looked at -/
theorem dLook_rp {v y : V} {d e : D} {k : Nat} {p : List Addr} {w : Option D} (r : Rp K Z H v d (min k 1) p) (ry : Rp K Z H y e 0 []) (eg : dLook d e = some w) :
    ∃ a o, v = .ref a ∧ DGet H a y o ∧ LkR K Z H o w := by
  have key : ∀ {κ : Type} [DecidableEq κ] {ks : List κ} {xs : List V} {ds : List D} (hl : ks.length = xs.length) (ra : RpAll K Z H xs ds 0 []) (x : κ), LkR K Z H (valV (ks.zip xs) x) (dGet ks ds x) := fun hl ra x => by
    have := dGet_rp (k := 0) hl ra x
    cases e : dGet _ _ x <;> (rw [e] at this; exact this)
  generalize e0 : min k 1 = k1 at r
  cases r <;> simp only [dLook, reduceCtorEq] at eg
  · rename_i a ks xs ds z h hl ra
    obtain ⟨k', e1, rfl⟩ := Option.map_eq_some_iff.mp eg
    have := keyOf_rp ry e1
    subst this
    refine ⟨a, _, rfl, .k h, ?_⟩
    exact key hl ra k'
  · rename_i a ks xs ds k2 o h hl ra
    have : k2 = 0 := by omega
    subst this
    cases ra.nil0
    obtain ⟨k', e1, rfl⟩ := Option.map_eq_some_iff.mp eg
    have := keyOf_rp ry e1
    subst this
    refine ⟨a, _, rfl, .k h, ?_⟩
    exact key hl ra k'
  · rename_i a ks xs ds z h hl ra
    obtain ⟨k', e1, rfl⟩ := Option.map_eq_some_iff.mp eg
    obtain ⟨b, rfl, hb⟩ := keyT_rp ry e1
    refine ⟨a, _, rfl, .t h hb, ?_⟩
    exact key hl ra k'
  · rename_i a ks xs ds k2 o h hl ra
    have : k2 = 0 := by omega
    subst this
    cases ra.nil0
    obtain ⟨k', e1, rfl⟩ := Option.map_eq_some_iff.mp eg
    obtain ⟨b, rfl, hb⟩ := keyT_rp ry e1
    refine ⟨a, _, rfl, .t h hb, ?_⟩
    exact key hl ra k'
end
/-! ### k in d -/
def gInD (neg : Bool) : D → D → Option (D × Nat) := fun k d => (dLook d k).map fun o => (.bl (if neg then !o.isSome else o.isSome), 0)
def rDIn (neg : Bool) : R2 := fun y x H Q => ∃ a o, x = .ref a ∧ DGet H a y o ∧ Q (.bl (if neg then !o.isSome else o.isSome)) H
section
variable {X : Cx} {W : WX} {pos p q : Pos} {a b c : Expr} {fa fb : Ev}
theorem op_din (hu : X.A.units + 64 < cLine) : OpR X (compareOp .In) (rDIn false) := by
  intro pins s σ H y x u v Q I ry rx ⟨a, o, ex, g, q⟩
  subst ex
  obtain rfl : v = Value.ref a := rx
  exact d_in (by omega) I g ry fun s3 I3 => ⟨.bl o.isSome, H, I3, rfl, q⟩
theorem op_dnin (hu : X.A.units + 64 < cLine) : OpR X (compareOp .NotIn) (rDIn true) := by
  intro pins s σ H y x u v Q I ry rx ⟨a, o, ex, g, q⟩
  subst ex
  obtain rfl : v = Value.ref a := rx
  exact d_notIn (by omega) I g ry fun s3 I3 => ⟨.bl (!o.isSome), H, I3, rfl, q⟩
theorem vr_din (neg : Bool) : Vr2 X.K (rDIn neg) (gInD neg) := by
  intro Z H y x e d w Q hz ry rx eg k
  obtain ⟨o, e1, rfl⟩ := Option.map_eq_some_iff.mp eg
  obtain ⟨a, o', e2, g, m⟩ := dLook_rp (k := 0) rx ry e1
  refine ⟨a, o', e2, g, ?_⟩
  have : o'.isSome = o.isSome := by
    cases o with
    | none =>
      have m : o' = none := m
      rw [m]
      rfl
    | some x => obtain ⟨u, e3, _⟩ := m; rw [e3]; rfl
  rw [this]
  exact Gr.q k (.bl _ _)
/-! ### d[k] -/
def rDIx : R2 := fun x y H Q => ∃ a v, x = .ref a ∧ DGet H a y (some v) ∧ Q v H
theorem ix_dict (hu : X.A.units + 64 < cLine) : IxR X rDIx := by
  intro value slice pins s σ H x y v u Q I rx ry ⟨a, w, ex, g, q⟩ hs
  subst ex
  obtain rfl : v = Value.ref a := rx
  unfold subscriptTail
  refine wpAny_bind ?_
  rw [getitemInPython_of_ne (dict_typeIs I g).not_modules]
  refine wpAny_bind (wpAny_specialOf (dict_typeIs I g) PySem.F.slot_dict_getitem.lookup ?_)
  have fin : wpAny (model X.prog X.w) X.A (subscripted slice false (.ref a) u) (fun r s₃ => wpAny (model X.prog X.w) X.A (letTemporaryGo value (.ref a) r >>= fun _ => pure r) (EP X pins σ Q) X.xe s₃) X.xe s := by
    rw [hs]
    exact wpAny_operating (d_getItem (by omega) I g ry fun w' s' I' rw' => wpAny_bind (wpAny_letTemporaryGo (wpAny_pure ⟨w, H, I', rw', q⟩)))
  first
    | exact wpAny_pure (wpAny_bind fin)
    | exact wpAny_bind (wpAny_pure (wpAny_bind fin))
    | exact wpAny_bind fin
def ixd (i : Nat) (fb : Ev) : Ev := fun sd => match sd[i]? with
  | some (some _) => (fb sd).bind fun y sd1 => match sd1[i]? with
    | some (some (d, k)) => match dLook d y.1 with
      | some (some e) => .ok (e, 0) (sd1.set i (some (d, min k 1)))
      | _ => .stuck
    | _ => .stuck
  | _ => .stuck
theorem se_ixd (i : Nat) {x : Str} {px : Pos} {b : Expr} {fb : Ev} (hu : X.A.units + 64 < cLine) (hb : SE X W b fb) (hs : PlainIx b := by exact fun _ _ => rfl) (hN : X.N[i]? = some x := by rfl) (hv : Vis X.env.scope x := by first | exact Or.inl rfl | exact Or.inr (Or.inl rfl) | exact Or.inr (Or.inr rfl))
    (hd : (x == ("__debug__" : Str)) = false := by decide) (hcd : (x == ("__classdict__" : Str)) = false := by decide) : SE X W (.Subscript (.Name x px) b pos) (ixd i fb) := by
  refine PE.imp (pe_ix (ix_dict hu) (pe_var hN hv hd hcd) hb hs) fun σ H Q ⟨Z, F, sd, ok, h⟩ => ?_
  unfold ixd at h
  split at h
  · rename_i w0 e0
    obtain ⟨v, e1⟩ := ok.slot e0
    refine ⟨v, e1, ?_⟩
    refine eP.seq (G := fun _ _ => True) ok (fun w1 sd1 e2 y Z1 H1 ry ok1 x1 => ?_) (fun x sd1 e2 => ?_) (fun e2 => ?_)
    · rw [e2, R.bind_ok] at h
      split at h
      · rename_i d k e3
        split at h
        · rename_i e eg
          obtain ⟨v', Z2, q1, e4, r2, nd2, nf2, ok2, z12, fz⟩ := ok1.open1 e3
          rw [e1] at e4
          cases e4
          have ry2 : Rp X.K Z2 H1 y w1.1 0 [] := ry.keep (fun a z => ⟨z12 a z, rfl⟩) fun a m => absurd m List.not_mem_nil
          obtain ⟨a, o, ea, g, u, eo, ru⟩ := dLook_rp r2 ry2 eg
          subst eo
          refine ⟨a, u, ea, g, ?_⟩
          have ok3 := ok2.back r2 nd2 nf2 e1
          rw [List.set_set] at ok3
          exact h.pure (x1.trans ⟨fun a z => ⟨z12 a z, rfl⟩, fun _ _ => rfl⟩) ok3 ru
        · exact h.elim
      · exact h.elim
    · rw [e2] at h; exact h
    · rw [e2] at h; exact h
  · exact h.elim
/-! ### a new dict -/
def dNew : Ev := fun sd => .ok (.dct [] [], 1) sd
def dNewT : Ev := fun sd => .ok (.dcT [] [], 1) sd
theorem se_dnew : SE X W (.Dict [] [] pos) dNew := PE.imp pe_dnewK fun σ H Q ⟨Z, F, sd, ok, h⟩ => fun p hp => by
  obtain ⟨ok1, x1, nf, nz⟩ := ok.new (o := .dK []) hp
  exact h (.ref p) Z _ [p] (.dctS (ks := []) (xs := []) (o := []) upd_same rfl (.nil 0)) (by simp) (fun a m => by rw [List.mem_singleton] at m; rw [m]; exact nf) ok1 x1
theorem se_dnewT : SE X W (.Dict [] [] pos) dNewT := PE.imp pe_dnewT fun σ H Q ⟨Z, F, sd, ok, h⟩ => fun p hp => by
  obtain ⟨ok1, x1, nf, nz⟩ := ok.new (o := .dT []) hp
  exact h (.ref p) Z _ [p] (.dcTS (ks := []) (xs := []) (o := []) upd_same rfl (.nil 0)) (by simp) (fun a m => by rw [List.mem_singleton] at m; rw [m]; exact nf) ok1 x1
end
/-! ### d[k] = v -/
theorem dPut_rp {K : PySem.W.Frag} {Z : Pz} {H : Hp} {v y u : V} {d e x d' : D} {p : List Addr} (r : Rp K Z H v d 1 p) (ry : Rp K Z H y e 0 []) (ru : Rp K Z H u x 0 []) (eg : dPutD d e x = some d') :
    ∃ a ho, v = .ref a ∧ p = [a] ∧ DPut H a y u (upd H a ho) ∧ ((∀ b, Z b → Z b ∧ upd H a ho b = H b) → Rp K Z (upd H a ho) (.ref a) d' 1 [a]) := by
  generalize e1 : (1 : Nat) = k at r
  cases r <;> simp only [dPutD, reduceCtorEq] at eg
  · cases e1
  · rename_i a ks xs ds k2 o h hl ra
    have : k2 = 0 := by omega
    subst this
    cases ra.nil0
    obtain ⟨k', e2, e3⟩ := Option.bind_eq_some_iff.mp eg
    split at e3
    case isFalse => cases e3
    rename_i hz
    cases e3
    have := keyOf_rp ry e2
    subst this
    obtain ⟨q1, q2⟩ := put_eq hl k' u
    refine ⟨a, .dK (putK (ks.zip xs) k' u), rfl, rfl, .k h (by rw [List.length_zip, hl, Nat.min_self, ← hl]; exact hz), fun kz => ?_⟩
    rw [q1]
    exact .dctS (o := []) upd_same q2 ((dVals_rp hl ra k' ru).keep (fun b z => by have := kz b z; rw [q1] at this; exact this) fun b m => absurd m List.not_mem_nil)
  · cases e1
  · rename_i a ks xs ds k2 o h hl ra
    have : k2 = 0 := by omega
    subst this
    cases ra.nil0
    obtain ⟨k', e2, e3⟩ := Option.bind_eq_some_iff.mp eg
    split at e3
    case isFalse => cases e3
    rename_i hz
    cases e3
    obtain ⟨b, rfl, hb⟩ := keyT_rp ry e2
    obtain ⟨q1, q2⟩ := put_eq hl k' u
    refine ⟨a, .dT (putK (ks.zip xs) k' u), rfl, rfl, .t h hb (by rw [List.length_zip, hl, Nat.min_self, ← hl]; exact hz), fun kz => ?_⟩
    rw [q1]
    exact .dcTS (o := []) upd_same q2 ((dVals_rp hl ra k' ru).keep (fun b z => by have := kz b z; rw [q1] at this; exact this) fun b m => absurd m List.not_mem_nil)
def zPutD (i : Nat) (fi f : Ev) : Sm := fun sd => (f sd).run fun w sd1 => match sd1[i]? with
  | some (some _) => (fi sd1).run fun y sd2 => match sd2[i]? with
    | some (some (d, 1)) => match dPutD d y.1 w.1 with
      | some d' => .nx (sd2.set i (some (d', 1)))
      | none => .stuck
    | _ => .stuck
  | _ => .stuck
section
variable {X : Cx} {W : WX} {pos p q : Pos} {a b c : Expr} {fa fb : Ev} {ps : List Nat}
theorem ss_putd (i : Nat) {x : Str} {px tp : Pos} (hu : X.A.units + 64 < cLine) (hb : SE X W b fb) (he : SE X W a fa) (hN : X.N[i]? = some x := by rfl) (hv : Vis X.env.scope x := by first | exact Or.inl rfl | exact Or.inr (Or.inl rfl) | exact Or.inr (Or.inr rfl)) (hd : (x == ("__debug__" : Str)) = false := by decide) (hcd : (x == ("__classdict__" : Str)) = false := by decide)
    (hs : swapsWith a (some (.Subscript (.Name x px) b tp)) pos.line X.env = pure false := by rfl) : SSp ps X W (.Assign [.Subscript (.Name x px) b tp] a pos) (zPutD i fb fa) := by
  refine PS.imp (ps_dput (by omega) (pe_var hN hv hd hcd) hb he hs) fun D σ H ⟨Z, F, sd, ok, h⟩ => ?_
  unfold zPutD at h
  refine eP.seq (G := fun _ _ => True) ok (fun w sd1 e y Z1 H1 r ok1 x1 => ?_) (fun x sd1 e => ?_) (fun e => ?_)
  · rw [e, R.run_ok] at h
    split at h
    · rename_i w0 e0
      obtain ⟨v, e1⟩ := ok1.slot e0
      refine ⟨v, e1, ?_⟩
      refine eP.seq (G := fun _ _ => True) ok1 (fun w2 sd2 e2 y2 Z2 H2 r2 ok2 x2 => ?_) (fun x sd1 e => ?_) (fun e => ?_)
      · rw [e2, R.run_ok] at h
        split at h
        · rename_i d e3
          split at h
          · rename_i d' ed
            obtain ⟨v', q, e4, rr, nd, nf, ok3⟩ := ok2.take e3
            rw [e1] at e4
            cases e4
            have r' : Rp X.K Z2 H2 y w.1 0 [] := r.keep x2.z fun a m => absurd m List.not_mem_nil
            obtain ⟨l, ho, rfl, rfl, dp, rn⟩ := dPut_rp rr r2 r' ed
            refine ⟨l, _, rfl, dp, ?_⟩
            obtain ⟨ok4, kz⟩ := ok3.write (o := ho) (p := l) (.inr List.mem_cons_self)
            have ok5 := ok4.back (rn kz) (by simp) nf e1
            rw [List.set_set] at ok5
            refine h σ Z2 _ .refl ok5 ((x1.trans x2).trans ⟨kz, fun a f => upd_ne fun e => ?_⟩)
            rw [e] at f
            exact nf l List.mem_cons_self f
          · exact h.elim
        · exact h.elim
      · rw [e] at h; exact (h σ .refl).go0 x1
      · rw [e] at h; exact h
    · exact h.elim
  · rw [e] at h; exact h σ .refl
  · rw [e] at h; exact h
end
/-! ### {k: v} -/
def dDisp (fk fv : Ev) : Ev := fun sd => (fk sd).bind fun k sd1 => (fv sd1).bind fun v sd2 => match keyOf k.1 with
  | some kk => .ok (.dct [kk] [v.1], 1) sd2
  | none => .stuck
section
variable {X : Cx} {W : WX} {pos p q : Pos} {a b c : Expr} {fa fb : Ev} {ps : List Nat}
theorem se_ddisp (hk : SE X W a fa) (hv : SE X W b fb) : SE X W (.Dict [some a] [b] pos) (dDisp fa fb) := by
  refine PE.imp (pe_disp (pps_cons hk hv pps_nil) rfl rfl (by simp) (show (1 : Nat) ≤ 15 by decide)) fun σ H Q ⟨Z, F, sd, ok, h⟩ => fun p hp => ?_
  obtain ⟨ok1, x1, nf, nz⟩ := ok.new (o := .dK []) hp
  unfold dDisp at h
  refine eP.seq (G := fun _ _ => True) ok1 (fun k sd1 e1 y Z1 H1 rk ok2 x2 => ?_) (fun x sd1 e => ?_) (fun e => ?_)
  · rw [e1, R.bind_ok] at h
    refine eP.seq (G := fun _ _ => True) ok2 (fun v sd2 e2 u Z2 H2 rv ok3 x3 => ?_) (fun x sd1 e => ?_) (fun e => ?_)
    · rw [e2, R.bind_ok] at h
      split at h
      · rename_i kk ek
        have hp2 : H2 p = some (.dK []) := by
          rw [(x2.trans x3).f p (.inr List.mem_cons_self)]
          exact upd_same
        have rk2 : Rp X.K Z2 H2 y k.1 0 [] := rk.keep x3.z fun a m => absurd m List.not_mem_nil
        have := keyOf_rp rk2 ek
        subst this
        refine ⟨hp2, [(kk, u)], rfl, by simp, ?_⟩
        obtain ⟨ok4, kz⟩ := ok3.write (o := .dK (mergeK [] [(kk, u)])) (p := p) (.inr List.mem_cons_self)
        have rv2 : Rp X.K Z2 (upd H2 p (.dK (mergeK [] [(kk, u)]))) u v.1 0 [] := rv.keep kz fun a m => absurd m List.not_mem_nil
        refine h (.ref p) Z2 _ [p] (.dctS (ks := [kk]) (xs := [u]) (o := []) upd_same rfl (.cons (o := []) (p := []) rv2 (.nil 0))) (by simp) (fun a m => by rw [List.mem_singleton] at m; rw [m]; exact nf) ok4 ?_
        refine ⟨fun a z => ?_, fun a f => ?_⟩
        · have z2 := ((x1.trans (x2.mono fun _ z => .inl z)).trans (x3.mono fun _ z => .inl z)).z a z
          exact ⟨z2.1, by rw [(kz a z2.1).2]; exact z2.2⟩
        · have e : a ≠ p := fun e => nf (e ▸ f)
          rw [upd_ne e]
          exact ((x1.trans (x2.mono fun _ z => .inl z)).trans (x3.mono fun _ z => .inl z)).f a f
      · exact h.elim
    · rw [e] at h
      exact excP.go h (x1.trans (x2.mono fun _ z => .inl z))
    · rw [e] at h; exact h
  · rw [e] at h
    exact excP.go h x1
  · rw [e] at h; exact h
end
end VS
/-! VS18: reversed, zip. -/
namespace VS
open PySem PySem.Spec L2
section
variable {K : PySem.W.Frag} {Z : Pz} {H : Hp}
theorem ItOk.revT {a : Addr} {xs : List V} {ds : List D} (z : Z a) (h : H a = some (.tup xs)) (r : RpAll K Z H xs ds 0 []) : ItOk K (RT.ItvT K a xs.length) ds.reverse Z H := by
  intro i Z2 H2 st hz
  obtain ⟨z2, e2⟩ := st a z
  have h2 : SqT K H2 a xs := .of (e2.trans h)
  have rr := r.rev
  refine ⟨fun hi => ?_, fun d hd => ?_⟩
  · rw [List.length_reverse] at hi
    show xs.length ≤ i
    rw [r.length]; exact hi
  · obtain ⟨v, hv, rv⟩ := rr.get hd
    obtain ⟨hi, _⟩ := List.getElem?_eq_some_iff.mp hv
    rw [List.length_reverse] at hi
    rw [List.getElem?_reverse hi] at hv
    refine ⟨⟨hi, xs, v, h2, hv⟩, fun x H' y => ?_⟩
    obtain ⟨e, y⟩ := y
    subst e
    have := y xs h2
    rw [hv] at this
    cases this
    exact ⟨Z2, .refl, rv.keep st fun a m => absurd m List.not_mem_nil⟩
theorem ItOk.zipG {J : It} {Sq : Hp → Addr → List V → Prop} {a b : Addr} {xs ys : List V} {ds es : List D} (za : Z a) (zb : Z b) (ha : ∀ H', H' a = H a → Sq H' a xs) (hb : ∀ H', H' b = H b → Sq H' b ys) (ra : RpAll K Z H xs ds 0 []) (rb : RpAll K Z H ys es 0 [])
    (hgo : ∀ i H, (∃ (xs ys : List V) (x y : V), Sq H a xs ∧ Sq H b ys ∧ xs[i]? = some x ∧ ys[i]? = some y) → J.go i H)
    (hy : ∀ i H v H', J.yld i H v H' → ∃ T x y, v = .ref T ∧ H T = none ∧ H' = upd H T (.tup [x, y]) ∧ (∀ xs, Sq H a xs → xs[i]? = some x) ∧ ∀ ys, Sq H b ys → ys[i]? = some y)
    (hs : ∀ i H, (∃ xs ys : List V, Sq H a xs ∧ Sq H b ys ∧ (xs.length ≤ i ∨ ys.length ≤ i)) → J.stop i H) : ItOk K J ((ds.zip es).map fun p => .tup [p.1, p.2]) Z H := by
  intro i Z2 H2 st hz
  obtain ⟨z2, e2⟩ := st a za
  obtain ⟨z3, e3⟩ := st b zb
  have h2 := ha H2 e2
  have h3 := hb H2 e3
  refine ⟨fun hi => hs i H2 ⟨xs, ys, h2, h3, ?_⟩, fun d hd => ?_⟩
  · rw [List.length_map, List.length_zip] at hi
    rw [ra.length, rb.length]
    omega
  · rw [List.getElem?_map] at hd
    obtain ⟨p, hp, rfl⟩ := Option.map_eq_some_iff.mp hd
    rw [List.getElem?_zip_eq_some] at hp
    obtain ⟨x, hx, rx⟩ := ra.get hp.1
    obtain ⟨y, hy', ry⟩ := rb.get hp.2
    refine ⟨hgo i H2 ⟨xs, ys, x, y, h2, h3, hx, hy'⟩, fun v H' yy => ?_⟩
    obtain ⟨T, x', y', ev, hT, eH, f1, f2⟩ := hy i H2 v H' yy
    subst ev eH
    have q1 := f1 xs h2
    rw [hx] at q1; cases q1
    have q2 := f2 ys h3
    rw [hy'] at q2; cases q2
    have nz : ¬ Z2 T := fun z => by
      obtain ⟨u, e⟩ := hz T z
      rw [hT] at e; cases e
    have kz : ∀ a, Z a → uni Z2 [T] a ∧ upd H2 T (.tup [x, y]) a = H a := fun a z => by
      obtain ⟨s1, s2⟩ := st a z
      exact ⟨.inl s1, by rw [upd_ne fun e : a = T => nz (by rw [← e]; exact s1)]; exact s2⟩
    refine ⟨uni Z2 [T], ⟨fun a u e => by rw [upd_ne fun z => by rw [z, hT] at e; cases e]; exact e, fun _ z => .inl z, fun a z => ?_, fun a m => absurd m List.not_mem_nil, .nil⟩, .tup 0 (.inr List.mem_cons_self) upd_same ?_⟩
    · rcases z with z | z
      · exact .inl z
      · rw [List.mem_singleton] at z
        subst z
        exact .inr ⟨hT, _, upd_same⟩
    · exact .cons (o := []) (p := []) (rx.keep kz fun a m => absurd m List.not_mem_nil) (.cons (o := []) (p := []) (ry.keep kz fun a m => absurd m List.not_mem_nil) (.nil 0))
end
section
variable {X : Cx} {W : WX} {pos p q : Pos} {tg a b : Expr} {fa fb : Ev}
theorem si_rev (ha : SE X W a fa) (hg : Gl X "reversed") (hm : X.mg "reversed" = none) (hst : starEach [a] X.env = (false, eval a X.env) :: starEach [] X.env := by rfl) :
    SI X W tg (.Call (.Name "reversed" p) [a] [] pos) (iRev' fa) := by
  refine ⟨fun pins s σ H R' I ⟨Z, F, sd, ok, h⟩ => ?_⟩
  unfold iRev' at h
  refine (RT.pi_revA hg hm ha hst).run pins s σ H R' I ?_
  refine eP.seq (G := fun _ _ => True) ok (fun w1 sd1' e1 y Z1 H1 ry ok1 x1 => ?_) (fun x sd1 e2 => ?_) (fun e2 => ?_)
  · rw [e1, R.bind_ok] at h
    obtain ⟨d, n⟩ := w1
    generalize e0 : ([] : List Addr) = o0 at ry
    cases ry <;> try exact h.elim
    · rename_i z hh r
      exact ⟨_, _, rfl, .inr ⟨.of hh, h _ Z1 H1 (ItOk.revT z hh r) ok1 x1⟩⟩
    · rename_i z hh r
      exact ⟨_, _, rfl, .inl ⟨.of hh, h _ Z1 H1 (ItOk.revL z hh r) ok1 x1⟩⟩
  · rw [e2] at h; exact h
  · rw [e2] at h; exact h.elim
def gTupRev : D → Option (D × Nat)
  | .lst ds => some (.tup ds.reverse, 0)
  | _ => none
theorem se_tupRev (hc : X.calm = true) (ha : SE X W a fa) (hg : Gl X "tuple") (hm : X.mg "tuple" = none) (hg2 : Gl X "reversed") (hm2 : X.mg "reversed" = none) {p2 pos2 : Pos} (hst : starEach [a] X.env = (false, eval a X.env) :: starEach [] X.env := by rfl)
    (hs2 : starEach [.Call (.Name "reversed" p2) [a] [] pos2] X.env = (false, eval (.Call (.Name "reversed" p2) [a] [] pos2) X.env) :: starEach [] X.env := by rfl) :
    SE X W (.Call (.Name "tuple" p) [.Call (.Name "reversed" p2) [a] [] pos2] [] pos) (op1 gTupRev fa) := by
  refine PE.imp (RT.pe_tupRev hc hg hm hg2 hm2 ha hst hs2) fun σ H Q ⟨Z, F, sd, ok, h⟩ => ?_
  unfold op1 at h
  refine eP.seq (G := fun _ _ => True) ok (fun w1 sd1' e1 y Z1 H1 ry ok1 x1 => ?_) (fun x sd1 e2 => ?_) (fun e2 => ?_)
  · rw [e1, R.bind_ok] at h
    obtain ⟨d, n⟩ := w1
    generalize e0 : ([] : List Addr) = o0 at ry
    cases ry <;> try exact h.elim
    rename_i a' xs ds z hh r
    refine ⟨_, _, rfl, .of hh, fun q hq => ?_⟩
    obtain ⟨ok2, x2, nf, nz⟩ := ok1.new (o := .tup xs.reverse) hq
    have ok3 := ok2.freeze (p := [q]) fun a m => by rw [List.mem_singleton] at m; rw [m]; exact nf
    have hz : ∀ a, Z1 a → uni Z1 [q] a ∧ upd H1 q (.tup xs.reverse) a = H1 a := fun a z => ⟨.inl z, (x2.z a z).2⟩
    exact h _ (uni Z1 [q]) _ [] (.tup 0 (.inr List.mem_cons_self) upd_same (r.rev.keep hz fun a m => absurd m List.not_mem_nil)) .nil (fun a m => absurd m List.not_mem_nil) ok3.unnil (x1.trans ⟨hz, x2.f⟩)
  · rw [e2] at h; exact h
  · rw [e2] at h; exact h.elim
def iZip' (f g : Ev) : Ei := fun sd => (f sd).bind fun x sd1 => (g sd1).bind fun y sd2 => match x.1, y.1 with
  | .lst ds, .lst es => .ok ((ds.zip es).map fun p => .tup [p.1, p.2]) sd2
  | .tup ds, .tup es => .ok ((ds.zip es).map fun p => .tup [p.1, p.2]) sd2
  | _, _ => .stuck
theorem si_zip {elts : List Expr} {kk : Nat} {tpos : Pos} (ha : SE X W a fa) (hb : SE X W b fb) (hg : Gl X "zip") (hm : X.mg "zip" = none) (hst : starEach [a, b] X.env = (false, eval a X.env) :: starEach [b] X.env := by rfl) (hst2 : starEach [b] X.env = (false, eval b X.env) :: starEach [] X.env := by rfl)
    (hpl : (backTo pos (starEach [b] X.env)).any (·.1) = false := by rfl) : SI X W (.Tuple elts kk tpos) (.Call (.Name "zip" p) [a, b] [] pos) (iZip' fa fb) := by
  refine ⟨fun pins s σ H R' I ⟨Z, F, sd, ok, h⟩ => ?_⟩
  unfold iZip' at h
  refine (RZ.pi_zipA hg hm (pa_cons ha (pa_cons hb pa_nil hst2) hst) hst hpl).run pins s σ H R' I ?_
  refine eP.seq (G := fun _ _ => True) ok (fun w1 sd1 e1 y Z1 H1 ry ok1 x1 => ?_) (fun x sd1 e2 => ?_) (fun e2 => ?_)
  · rw [e1, R.bind_ok] at h
    refine eP.seq (G := fun _ _ => True) ok1 (fun w2 sd2 e2 u Z2 H2 ru ok2 x2 => ?_) (fun x sd1 e2 => ?_) (fun e2 => ?_)
    · rw [e2, R.bind_ok] at h
      obtain ⟨d, n⟩ := w1
      obtain ⟨e, m⟩ := w2
      have ry2 : Rp X.K Z2 H2 y d 0 [] := ry.keep x2.z fun a m => absurd m List.not_mem_nil
      generalize e0 : ([] : List Addr) = o0 at ry2 ru
      cases ry2 <;> try exact h.elim
      · rename_i a1 xs ds z hh r
        cases ru <;> try exact h.elim
        rename_i a2 ys es z' hh' r'
        refine ⟨_, _, xs, ys, rfl, .inr ⟨.of hh, .of hh', h _ Z2 H2 ?_ ok2 (x1.trans x2)⟩⟩
        exact ItOk.zipG (Sq := fun H a xs => SqT X.K H a xs) z z' (fun H' e => .of (e.trans hh)) (fun H' e => .of (e.trans hh')) r r' (fun i H h => h) (fun i H v H' h => h) fun i H h => h
      · rename_i a1 xs ds z hh r
        cases ru <;> try exact h.elim
        rename_i a2 ys es z' hh' r'
        refine ⟨_, _, xs, ys, rfl, .inl ⟨.of hh, .of hh', h _ Z2 H2 ?_ ok2 (x1.trans x2)⟩⟩
        exact ItOk.zipG (Sq := fun H a xs => SqL X.K H a xs) z z' (fun H' e => .of (e.trans hh)) (fun H' e => .of (e.trans hh')) r r' (fun i H h => h) (fun i H v H' h => h) fun i H h => h
    · rw [e2] at h; exact excP.go0 h x1
    · rw [e2] at h; exact h.elim
  · rw [e2] at h; exact h
  · rw [e2] at h; exact h.elim
end
def gLstRg : D → Option (D × Nat)
  | .int n => if 0 ≤ n ∧ n ≤ 1000000 then some (.lst (rngD 0 n.toNat), 1) else none
  | _ => none
theorem rngD_rp {K : PySem.W.Frag} {Z : Pz} {H : Hp} (n : Int) (h : 0 ≤ n) : RpAll K Z H (rgV 0 n) (rngD 0 n.toNat) 0 [] := by
  unfold rgV rngD
  rw [Int.sub_zero]
  generalize n.toNat = m
  generalize List.range m = l
  induction l with
  | nil => exact .nil 0
  | cons a l ih => exact .cons (o := []) (p := []) (.int _ _) ih
section
variable {X : Cx} {W : WX} {pos p q : Pos} {tg a b : Expr} {fa fb : Ev}
theorem se_listRg (hc : X.calm = true) (ha : SE X W a fa) (hg : Gl X "list") (hm : X.mg "list" = none) (hg2 : Gl X "range") (hm2 : X.mg "range" = none) {p2 pos2 : Pos} (hst : starEach [a] X.env = (false, eval a X.env) :: starEach [] X.env := by rfl)
    (hs2 : starEach [.Call (.Name "range" p2) [a] [] pos2] X.env = (false, eval (.Call (.Name "range" p2) [a] [] pos2) X.env) :: starEach [] X.env := by rfl) :
    SE X W (.Call (.Name "list" p) [.Call (.Name "range" p2) [a] [] pos2] [] pos) (op1 gLstRg fa) := by
  refine PE.imp (pe_listRg hc hg hm (prg_1 hg2 hm2 ha hst) hs2) fun σ H Q ⟨Z, F, sd, ok, h⟩ => ?_
  unfold op1 at h
  refine eP.seq (G := fun _ _ => True) ok (fun w1 sd1' e1 y Z1 H1 ry ok1 x1 => ?_) (fun x sd1 e2 => ?_) (fun e2 => ?_)
  · rw [e1, R.bind_ok] at h
    obtain ⟨d, n⟩ := w1
    generalize e0 : ([] : List Addr) = o0 at ry
    cases ry <;> try exact h.elim
    rename_i j
    dsimp only [gLstRg] at h
    split at h
    case isFalse => exact h.elim
    rename_i hj
    refine ⟨j, rfl, .of_le (by omega) (by omega) (by omega) (by omega), fun q hq => ?_⟩
    obtain ⟨ok2, x2, nf, nz⟩ := ok1.new (o := .lst (rgV 0 j)) hq
    exact h _ Z1 _ [q] (.lstS (o := []) upd_same (rngD_rp j hj.1)) (by simp) (fun a m => by rw [List.mem_singleton] at m; rw [m]; exact nf) ok2 (x1.trans x2)
  · rw [e2] at h; exact h
  · rw [e2] at h; exact h.elim
end
end VS
/-! VS19: defs with defaults; defs that call themselves. -/
namespace VS
open PySem PySem.Spec L2
open PyProof.Rows (envOfC)
def IsFnD (K : PySem.W.Frag) (mg : Mg) (x : Str) (st : Stmt) (dvs : List V) : Prop := ∃ f fd, mg x = some (.ref f) ∧ FunD K x x (defArgs st) (defBody st) (defScope st) dvs [] f fd
section
variable {P : Program} {w : World} {K : PySem.W.Frag} {mg : Mg} {base : Heap}
theorem fn_okD {x : Str} {st : Stmt} {f : Addr} {fd : FuncData} {N ps : List Str} {k : Nat} {body : Sm} {dvs : List V} (Fu : FunD K x x (defArgs st) (defBody st) (defScope st) dvs [] f fd) (S : FnScope N ps (defScope st))
    (hbody : ∀ (cdv : Value) (A : Around) (outer : List Env) (s : Shared) (H : Hp) (E : XK), Room k (A.deeper (envOfC x (defScope st) s.heap.objs.size f cdv)) →
      SSs (cxOf (L2.CX P w) P w K mg base N x (defScope st) f cdv A outer s H E) (fun c d _ H' => E c d H') (defBody st) body) : FnOk P w K mg base (L2.CX P w) (k + 1) f fd ps (spF K mg ps.length (fnOf N.length body)) := by
  refine Fu.ok S (fun vs H Q E h => ?_) (fun cdv A outer s H vs Q E hr h => ⟨_, hbody cdv A outer s H E hr, ?_⟩)
  · obtain ⟨_, _, _, _, h, _⟩ := h
    exact h
  · obtain ⟨Z, F, ws, o, hl, s0, nd, nf, b, h⟩ := h
    have hlen : vs.length = ws.length := by
      have := s0.length
      simpa using this
    refine ⟨Z, F, ws.map some ++ List.replicate (N.length - ws.length) none, ⟨o, ?_, nd, nf, b⟩, ?_⟩
    · unfold L2.start
      rw [hlen]
      exact s0.fill _
    · unfold fnOf at h
      cases e : body (ws.map some ++ List.replicate (N.length - ws.length) none) with
      | nx sd1 =>
        rw [e] at h
        exact fun σ' Z' H' _ ok x => h .non Z' H' [] (.non _) .nil (fun _ m => absurd m List.not_mem_nil) ok.unnil.base x
      | rt w1 sd1 =>
        rw [e] at h
        exact fun v Z' H' o' σ' _ r nd nf ok x => h v Z' H' o' r nd nf ok.base x
      | ex y sd1 =>
        rw [e] at h
        exact fun σ' _ c dd Z' H' a ok x => h c dd Z' H' a ok.base x
      | bk sd1 => rw [e] at h; exact h.elim
      | ct sd1 => rw [e] at h; exact h.elim
      | stuck => rw [e] at h; exact h.elim
/-- a def with defaults, called with n values: the defaults behind the first j fill up -/
theorem def_okD {x : Str} {st : Stmt} {N ps : List Str} {k : Nat} {body : Sm} {dvs : List V} (n j : Nat) (dfl : List D) (hd : dvs ≠ []) (hn : n + (dvs.length - j) = ps.length) (hr : ∀ Z H, RpAll K Z H (dvs.drop j) dfl 0 []) (hf : IsFnD K mg x st dvs) (S : FnScope N ps (defScope st))
    (hb : ∀ (T : Addr) (kV doc pm : Value) (an : Option Addr) (cdv ct : Value) (us its : List Value), us.length = n → its.length = dvs.length →
      ∃ k, bindArgs (PySem.W.fnOf x x (defArgs st) (defBody st) (defScope st) (.ref T) kV doc pm an cdv ct) ⟨us, []⟩ = seqItems? (.ref T) >>= k ∧ k (some its.toArray) = pure (ps.zip (us ++ its.drop j)))
    (hbody : ∀ (f : Addr) (cdv : Value) (A : Around) (outer : List Env) (s : Shared) (H : Hp) (E : XK), Cg (cxD P w K mg base N x st f cdv A outer s H E) (wxD E) k →
      SSs (cxD P w K mg base N x st f cdv A outer s H E) (wxD E) (defBody st) body) : Def P w K mg base x (k + 1) ps.length dfl (fnOf N.length body) := by
  obtain ⟨f, fd, h1, Fu⟩ := hf
  obtain ⟨ds, r, b⟩ := Fu.binds1 n j hd hn hb
  exact ⟨f, fd, ps, dvs.drop j, ds, h1, Fu.kp, b, r, hr, fn_okD Fu S fun cdv A outer s H E hr => hbody f cdv A outer s H E (cg_of S.nd hr)⟩
/-- nothing is promised -/
theorem ss_stuckAll {X : Cx} {W : WX} {ps : List Nat} {sts : List Stmt} : SSsp ps X W sts (fun _ => .stuck) := ⟨fun pins s σ H D I ⟨Z, F, sd, ok, h⟩ => h.elim⟩
end
/-- a def that calls itself, at most n deep -/
def fuelF (N : Nat) (body : Fn → Sm) : Nat → Fn
  | 0 => fnOf N fun _ => .stuck
  | n + 1 => fnOf N (body (fuelF N body n))
section
variable {P : Program} {w : World} {K : PySem.W.Frag} {mg : Mg} {base : Heap}
theorem def_okR {x : Str} {st : Stmt} {N ps : List Str} {k : Nat} {body : Fn → Sm} (hf : IsFn K mg x st) (S : FnScope N ps (defScope st))
    (hb : ∀ (kV doc pm : Value) (an : Option Addr) (cdv ct : Value) (us : List Value), us.length = ps.length → bindArgs (PySem.W.fnOf x x (defArgs st) (defBody st) (defScope st) .none kV doc pm an cdv ct) ⟨us, []⟩ = pure (ps.zip us))
    (hbody : ∀ (n : Nat) (me : Fn), Def P w K mg base x (k + 1 + n) ps.length [] me → ∀ (f : Addr) (cdv : Value) (A : Around) (outer : List Env) (s : Shared) (H : Hp) (E : XK), Cg (cxD P w K mg base N x st f cdv A outer s H E) (wxD E) (k + 1 + n) →
      SSs (cxD P w K mg base N x st f cdv A outer s H E) (wxD E) (defBody st) (body me)) (n : Nat) : Def P w K mg base x (k + 1 + n) ps.length [] (fuelF N.length body n) := by
  induction n with
  | zero => exact def_ok hf S hb fun f cdv A outer s H E C => ss_stuckAll
  | succ n ih => exact def_ok hf S hb fun f cdv A outer s H E C => hbody n _ ih f cdv A outer s H E C
end
end VS
namespace VS
open PySem PySem.Spec L2
open PyProof.Rows (envOfC)
section
variable {P : Program} {w : World} {K : PySem.W.Frag} {mg : Mg} {base : Heap}
/-- a def that gives its arguments ios back -/
theorem def_okO {x : Str} {st : Stmt} {N ps : List Str} {k : Nat} {body : Sm} (ios : List Nat) (hnd : ios.Nodup) (hio : ∀ i ∈ ios, i < ps.length) (hf : IsFn K mg x st) (S : FnScope N ps (defScope st))
    (hb : ∀ (kV doc pm : Value) (an : Option Addr) (cdv ct : Value) (us : List Value), us.length = ps.length → bindArgs (PySem.W.fnOf x x (defArgs st) (defBody st) (defScope st) .none kV doc pm an cdv ct) ⟨us, []⟩ = pure (ps.zip us))
    (hbody : ∀ (f : Addr) (cdv : Value) (A : Around) (outer : List Env) (s : Shared) (H : Hp) (E : XK), Cg (cxD P w K mg base N x st f cdv A outer s H E) (wxD E) k →
      SSsp ios (cxD P w K mg base N x st f cdv A outer s H E) (wxD E) (defBody st) body) : DefO P w K mg base x (k + 1) ps.length ios [] (fnIO N.length ios body) := by
  obtain ⟨f, fd, h1, Fu⟩ := hf
  exact ⟨f, fd, ps, [], [], h1, Fu.kp, Fu.binds hb, .nil, fun _ _ => .nil 0, fnIO_ok ios hnd hio Fu S fun cdv A outer s H E hr => hbody f cdv A outer s H E (cg_of S.nd hr)⟩
end
end VS
/-! VS20: list(reversed(a list)). -/
namespace RT
open PySem PySem.Spec PyProof.Rows L2
section
variable {prog : Program} {w : World} {A : Around} {E : Value → Shared → Prop} {s : Shared}
theorem ext_rev {R : Result → Shared → Prop} {it l : Addr} {items : Array Value} (hh : A.handled = none) (hit1 : s.heap.IsRevIter it l ((items.size : Int) - 1)) (hl1 : s.heap.IsList l items) (hne : l ≠ it) (hn : items.size ≤ sizeLine)
    (S : Addr) (hSi : S ≠ it) (hSl : S ≠ l) (c₀ : Nat) (hS₁ : s.heap.get? S = some { cls := .type "list", data := .seq #[] c₀ })
    (hR : ∀ h' tk acc' c', (∀ b o, b ≠ S → b ≠ it → s.heap.get? b = some o → h'.get? b = some o) → h'.get? S = some { cls := .type "list", dict := none, data := .seq acc' c', slots := #[] } →
      ItemsOf (fun i v => items[items.size - 1 - i]? = some v) acc' items.size → R (.ok (.ret .none)) { s with heap := h', toks := tk }) :
    wpAny (model prog w) A.in1 (Builtin.List.listExtendWith (.ref S) (.ref it) .none)
      (fun fin s' => match fin with | .done f => R (.ok f) s' | .again c' => c'.quiet = true ∧ codeAny (model prog w) A c' R s') (fun e s' => R (.error e) s') s := by
  have W := (Walks.listRev (prog := prog) (w := w) (A := A.in1) hh it l hne items).toS
  have hSf : S ∉ [it, l] := by simp only [List.mem_cons, List.not_mem_nil, or_false, not_or]; exact ⟨hSi, hSl⟩
  have hT : s.TypeIs (.ref it) "list_reverseiterator" := hit1.typeIs
  have h1 : Builtin.List.listSameRef (.ref S) (.ref it) = false := by simp [Builtin.List.listSameRef, hSi]
  unfold Builtin.List.listExtendWith
  refine wpAny_bind (wpAny_typeOf hT ?_)
  rw [if_neg (by rw [h1]; decide)]
  refine wpAny_bind (wpAny_pyIter_revIter hit1 ?_)
  refine wpAny_bind (wpAny_holding ?_)
  unfold Builtin.List.listLengthHint
  refine wpAny_bind (wpAny_specialOf hT nolen_lri ?_)
  show wpAny _ A.in1 (specialOf (Value.ref it) (Str.ofString "__length_hint__") >>= _) _ _ _
  refine wpAny_bind (wpAny_specialOf hT hint_lri ?_)
  generalize hid : ("list_reverseiterator.__length_hint__" : String) = id0
  wp_delta
  rw [show splitId id0 = some ("list_reverseiterator", "__length_hint__") from by subst hid; decide +kernel]
  subst hid
  refine wpAny_bind (wpAny_isInstance (b := true) hT (by rw [isSubtype_type]; kernel_rfl) ?_)
  refine wpAny_pure ?_
  rw [if_neg (by decide)]
  have e0 : ((items.size : Nat) : Int) - 1 - ((0 : Nat) : Int) = (items.size : Int) - 1 := by omega
  refine wpAny_pure ⟨plainId_quiet F.plain_extend_loop _, codeAny_extend_loopS W hn _ hSf _ items.size 0 _ _ _ rfl (Nat.zero_le _) ⟨Nat.zero_le _, by rw [e0]; exact hit1, hl1⟩ hS₁ (ItemsOf.nil _) fun s' acc' c' hm hS' hacc => ?_⟩
  rw [Moved.eq_with hm]
  refine hR s'.heap s'.toks acc' c' (fun b o hb hb2 e => hm.heap b o (fun hmem => ?_) e) hS' hacc
  rcases List.mem_cons.mp hmem with e' | hmem
  · exact hb e'
  · exact hb2 (List.mem_singleton.mp hmem)
theorem init_rev {R : Result → Shared → Prop} {it l : Addr} {items : Array Value} (hh : A.handled = none) (hit : s.heap.IsRevIter it l ((items.size : Int) - 1)) (hl : s.heap.IsList l items) (hne : l ≠ it) (hn : items.size ≤ sizeLine)
    (S : Addr) (hSi : S ≠ it) (hSl : S ≠ l) (hS : s.heap.get? S = some { cls := .type "list", data := .seq #[] })
    (hR : ∀ h' tk acc' c', (∀ b o, b ≠ S → b ≠ it → s.heap.get? b = some o → h'.get? b = some o) → h'.get? S = some { cls := .type "list", dict := none, data := .seq acc' c', slots := #[] } →
      ItemsOf (fun i v => items[items.size - 1 - i]? = some v) acc' items.size → R (.ok (.ret .none)) { s with heap := h', toks := tk }) :
    wpAny (model prog w) A.in1 (Builtin.«list.__init__» ⟨[.ref S, .ref it], []⟩)
      (fun fin s' => match fin with | .done f => R (.ok f) s' | .again c' => c'.quiet = true ∧ codeAny (model prog w) A c' R s') (fun e s' => R (.error e) s') s := by
  show wpAny _ _ (do let old ← Builtin.List.listItems (.ref S); Builtin.List.listUpdate (.ref S) (fun _ => #[]); letGo old.toList.reverse; Builtin.List.listExtendWith (.ref S) (.ref it) .none) _ _ s
  refine wpAny_bind ?_
  unfold Builtin.List.listItems
  refine wpAny_bind (wpAny_seqItems hS rfl (wpAny_pure ?_))
  show wpAny _ _ (updateSeq S (fun _ => #[]) >>= fun _ => letGo (#[] : Array Value).toList.reverse >>= fun _ => Builtin.List.listExtendWith (.ref S) (.ref it) .none) _ _ s
  refine wpAny_bind (wpAny_updateSeq hS rfl ?_)
  have hS₂ := Heap.get?_update_self (Obj.mapSeq (fun _ => (#[] : Array Value))) hS rfl
  have oth : ∀ b o, b ≠ S → s.heap.get? b = some o → (s.heap.update S (Obj.mapSeq (fun _ => (#[] : Array Value)))).get? b = some o := fun b o hb e => (Heap.get?_update_other _ _ (Ne.symm hb)).trans e
  refine wpAny_bind (wpAny_letGo ?_)
  refine ext_rev (s := { s with heap := s.heap.update S (Obj.mapSeq (fun _ => (#[] : Array Value))) }) hh (hit.at fun o e => oth it o (Ne.symm hSi) e) ?_ hne hn S hSi hSl _ hS₂ fun h' tk acc' c' hk hS' hacc => ?_
  · obtain ⟨o, e, c⟩ := hl
    exact ⟨o, oth l o (Ne.symm hSl) e, c⟩
  · exact hR h' tk acc' c' (fun b o hb hb2 e => hk b o hb hb2 (oth b o hb e)) hS' hacc
theorem call_list_rev {Q : Value → Shared → Prop} {it l : Addr} {items : Array Value} (hh : A.handled = none) (hit : s.heap.IsRevIter it l ((items.size : Int) - 1)) (hl : s.heap.IsList l items) (hne : l ≠ it) (hn : items.size ≤ sizeLine)
    (hQ : ∀ h' tk acc' c', (∀ b o, b ≠ it → s.heap.get? b = some o → h'.get? b = some o) → h'.get? s.heap.objs.size = some { cls := .type "list", dict := none, data := .seq acc' c', slots := #[] } →
      ItemsOf (fun i v => items[items.size - 1 - i]? = some v) acc' items.size → Q (.ref s.heap.objs.size) { s with heap := h', toks := tk }) :
    wpAny (model prog w) A (call (.type "list") [.ref it]) Q E s := by
  refine callType_codes (Q₁ := fun obj s₁ => obj = .ref s.heap.objs.size ∧ s₁ = { s with heap := s.heap.push { cls := .type "list", data := .seq #[] } }) F.called_list (F.typeCall_list_1 _) F.entry_list_init (code_list_new _ ⟨rfl, rfl⟩) fun obj s₁ h₁ => ?_
  obtain ⟨rfl, rfl⟩ := h₁
  have hS : (s.heap.push { cls := .type "list", data := .seq #[] }).get? s.heap.objs.size = some { cls := .type "list", data := .seq #[] } := Heap.get?_push_size _ rfl
  obtain ⟨oi, hoi, _⟩ := id hit
  obtain ⟨ol, hol, _⟩ := id hl
  refine ⟨⟨_, hS, rfl⟩, F.args_list_init_2 _ _, init_rev (A := A.in1) (s := { s with heap := s.heap.push { cls := .type "list", data := .seq #[] } }) hh (hit.at fun o e => Heap.get?_push_of_some _ e) (hl.push _) hne hn _ (Nat.ne_of_gt (Heap.lt_size hoi)) (Nat.ne_of_gt (Heap.lt_size hol)) hS fun h' tk acc' c' hk hS' hacc => ?_⟩
  exact ⟨rfl, hQ h' tk acc' c' (fun b o hb e => hk b o (Nat.ne_of_lt (Heap.lt_size e)) hb (Heap.get?_push_of_some _ e)) hS' hacc⟩
end
end RT
namespace RT
open PySem PySem.Spec PyProof.Rows L2
section
variable {X : Cx}
def tLstRev (K : PySem.W.Frag) (te : TE) : TE := fun σ H Q => te σ H fun v H1 => ∃ (a : Addr) (xs : List V), v = .ref a ∧ SqL K H1 a xs ∧ ∀ q, H1 q = none → Q (.ref q) (upd H1 q (.lst xs.reverse))
theorem pe_lstRev {e : Expr} {te : TE} {p p2 pos pos2 : Pos} (hc : X.calm = true) (hg : Gl X "list") (hm : X.mg "list" = none) (hg2 : Gl X "reversed") (hm2 : X.mg "reversed" = none) (he : PE X e te)
    (hs : starEach [e] X.env = (false, eval e X.env) :: starEach [] X.env := by rfl) (hs2 : starEach [.Call (.Name "reversed" p2) [e] [] pos2] X.env = (false, eval (.Call (.Name "reversed" p2) [e] [] pos2) X.env) :: starEach [] X.env := by rfl) :
    PE X (.Call (.Name "list" p) [.Call (.Name "reversed" p2) [e] [] pos2] [] pos) (tLstRev X.K te) := by
  refine ⟨fun pins s σ H Q I h => ?_⟩
  refine Call_ (ld_blt I hg hm boot_list (PyProof.Rows.callWith_type1 (args_cons (Call_ (ld_blt I hg2 hm2 PyProof.Rows.boot_reversed (PyProof.Rows.callWith_type1 (args_cons (thn (he.run pins s σ H _ I h) fun u s1 ⟨v, H1, I1, r1, q1⟩ => args_nil ?_) hs) hs rfl))) hs2) hs2 rfl))
  obtain ⟨a, xs, ev, hq, q⟩ := q1
  subst ev
  obtain rfl : u = Value.ref a := r1
  obtain ⟨its, rv, p', hz⟩ := I1.list hq
  refine call_reversed_list p'.isList (args_nil ?_)
  have hl := p'.isList
  obtain ⟨ol, hol, _⟩ := id hl
  have hne : a ≠ s1.heap.objs.size := Nat.ne_of_lt (Heap.lt_size hol)
  have hn : its.toArray.size ≤ sizeLine := by rw [List.size_toArray, ← rv.length]; exact hz
  refine call_list_rev (s := { s1 with heap := s1.heap.push (revObj a ((its.toArray.size : Int) - 1)) }) (I1.ok.hd hc) ⟨_, Heap.get?_push_size _ rfl, rfl, rfl⟩ (hl.push _) hne hn fun h' tk acc c' hk e' hi => ?_
  have hsz : s1.heap.objs.size ≤ (s1.heap.push (revObj a ((its.toArray.size : Int) - 1))).objs.size := by
    show s1.heap.objs.size ≤ (s1.heap.objs.push _).size
    rw [Array.size_push]
    exact Nat.le_succ _
  have hk' : ∀ b o, s1.heap.get? b = some o → h'.get? b = some o := fun b o e => hk b o (Nat.ne_of_lt (Heap.lt_size e)) (Heap.get?_push_of_some _ e)
  refine ⟨.ref (s1.heap.push (revObj a ((its.toArray.size : Int) - 1))).objs.size, upd H1 (s1.heap.push (revObj a ((its.toArray.size : Int) - 1))).objs.size (.lst xs.reverse), I1.laid (t' := tk) hk' hsz (show ObjOk X.prog X.w _ _ _ (.lst xs.reverse) from ⟨by rw [List.length_reverse]; exact hz, acc.toList, c', vals_rev rv hi, ?_⟩), rfl, q _ (I1.hok.fresh hsz)⟩
  rw [Array.toArray_toList]
  exact e'
end
end RT
namespace VS
open PySem PySem.Spec L2
def gLstRev : D → Option (D × Nat)
  | .lst ds => some (.lst ds.reverse, 1)
  | _ => none
section
variable {X : Cx} {W : WX} {pos p q : Pos} {tg a b : Expr} {fa fb : Ev}
theorem se_lstRev (hc : X.calm = true) (ha : SE X W a fa) (hg : Gl X "list") (hm : X.mg "list" = none) (hg2 : Gl X "reversed") (hm2 : X.mg "reversed" = none) {p2 pos2 : Pos} (hst : starEach [a] X.env = (false, eval a X.env) :: starEach [] X.env := by rfl)
    (hs2 : starEach [.Call (.Name "reversed" p2) [a] [] pos2] X.env = (false, eval (.Call (.Name "reversed" p2) [a] [] pos2) X.env) :: starEach [] X.env := by rfl) :
    SE X W (.Call (.Name "list" p) [.Call (.Name "reversed" p2) [a] [] pos2] [] pos) (op1 gLstRev fa) := by
  refine PE.imp (RT.pe_lstRev hc hg hm hg2 hm2 ha hst hs2) fun σ H Q ⟨Z, F, sd, ok, h⟩ => ?_
  unfold op1 at h
  refine eP.seq (G := fun _ _ => True) ok (fun w1 sd1' e1 y Z1 H1 ry ok1 x1 => ?_) (fun x sd1 e2 => ?_) (fun e2 => ?_)
  · rw [e1, R.bind_ok] at h
    obtain ⟨d, n⟩ := w1
    generalize e0 : ([] : List Addr) = o0 at ry
    cases ry <;> try exact h.elim
    rename_i a' xs ds z hh r
    refine ⟨_, _, rfl, .of hh, fun q hq => ?_⟩
    obtain ⟨ok2, x2, nf, nz⟩ := ok1.new (o := .lst xs.reverse) hq
    exact h _ Z1 _ [q] (.lstS (o := []) upd_same (r.rev.keep x2.z fun a m => absurd m List.not_mem_nil)) (by simp) (fun a m => by rw [List.mem_singleton] at m; rw [m]; exact nf) ok2 (x1.trans x2)
  · rw [e2] at h; exact h
  · rw [e2] at h; exact h.elim
end
end VS
/-! VS21: an entry that has a name of its own for a while. -/
namespace VS
open PySem PySem.Spec L2
theorem execs_app (l1 l2 : List Stmt) (env : Env) : execs (l1 ++ l2) env = (execs l1 env >>= fun f => match f with
    | .next => execs l2 env
    | f => pure f) := by
  have hc : ∀ (s : Stmt) (r : List Stmt), execs (s :: r) env = (exec s env >>= fun f => match f with
    | .next => execs r env
    | f => pure f) := fun s r => by
    rw [execs]
    congr
  induction l1 with
  | nil =>
    rw [List.nil_append]
    show _ = ((pure Flow.next : Sem Flow) >>= _)
    rw [pure_bind]
  | cons s r ih =>
    rw [List.cons_append, hc, hc, bind_assoc]
    congr 1
    funext f
    cases f with
    | next => exact ih
    | _ => simp only [pure_bind]
theorem pss_app {X : Cx} {l1 l2 : List Stmt} {t u : TS} (h1 : PSs X l1 t) (h2 : PSs X l2 u) : PSs X (l1 ++ l2) (tSeq t u) := by
  refine ⟨fun pins s σ H D I h => ?_⟩
  rw [execs_app]
  refine wpAny_bind (thn (h1.run pins s σ H { D with nx := u D } I h) fun f s1 q => ?_)
  cases f with
  | next =>
    obtain ⟨σ', H', I', q⟩ := q
    exact h2.run pins s1 σ' H' D I' q
  | ret v => exact wpAny_pure q
  | brk => exact wpAny_pure q
  | cont => exact wpAny_pure q
section
variable {K : PySem.W.Frag} {Z : Pz} {H : Hp}
theorem RpAll.split {xs : List V} {ds : List D} {k : Nat} {o : List Addr} (r : RpAll K Z H xs ds k o) : ∀ {n : Nat} {d : D}, ds[n]? = some d → ∃ v o1 p o2, xs[n]? = some v ∧ o = o1 ++ (p ++ o2) ∧ Rp K Z H v d k p ∧
    ∀ (Z' : Pz) (H' : Hp) (d' : D) (p' : List Addr), (∀ a, Z a → Z' a ∧ H' a = H a) → (∀ a, a ∈ o1 ∨ a ∈ o2 → H' a = H a) → Rp K Z' H' v d' k p' → RpAll K Z' H' xs (ds.set n d') k (o1 ++ (p' ++ o2)) := by
  induction xs generalizing ds o with
  | nil =>
    intro n d e
    have := r.length
    cases ds with
    | nil => cases e
    | cons _ _ => cases this
  | cons v xs ih =>
    intro n d e
    cases r with
    | @cons _ d0 _ ds' _ o1 o2 r1 r2 =>
      cases n with
      | zero =>
        cases e
        refine ⟨v, [], o1, o2, rfl, rfl, r1, fun Z' H' d' p' hz ho rv => ?_⟩
        exact RpAll.cons (o := p') (p := o2) rv (r2.keep hz fun a m => ho a (.inr m))
      | succ n =>
        obtain ⟨u, q1, p, q2, e1, e2, e3, e4⟩ := ih r2 e
        refine ⟨u, o1 ++ q1, p, q2, e1, by rw [e2, List.append_assoc], e3, fun Z' H' d' p' hz ho rv => ?_⟩
        rw [List.append_assoc]
        exact .cons (r1.keep hz fun a m => ho a (.inl (List.mem_append_left _ m))) (e4 Z' H' d' p' hz (fun a m => ho a (m.elim (fun m => .inl (List.mem_append_right _ m)) .inr)) rv)
end
/-- b = t[e]; then a block that changes b alone -/
def zAli (ib it : Nat) (fe : Ev) (f : Sm) : Sm := fun sd => match sd[it]? with
  | some (some _) => (fe sd).run fun y sd1 => match sd1[it]?, y.1 with
    | some (some (.lst ds, k + 1)), .int j => match L2.ixN ds.length j with
      | some n => match ds[n]? with
        | some d => match f ((sd1.set it none).set ib (some (d, k))) with
          | .nx sd3 => match sd3[ib]? with
            | some (some (d', k')) => if k' = k then .nx ((sd3.set ib none).set it (some (.lst (ds.set n d'), k + 1))) else .stuck
            | _ => .stuck
          | _ => .stuck
        | none => .stuck
      | none => .stuck
    | _, _ => .stuck
  | _ => .stuck
section
variable {X : Cx} {W : WX} {pos p q : Pos} {a b c : Expr} {fa fb : Ev} {ps : List Nat}
theorem ss_ali (ib it : Nat) {x y : Str} {py px sp : Pos} {e : Expr} {fe : Ev} {blk tail : List Stmt} {f g : Sm} (hne : ib ≠ it) (hN : X.N.Nodup) (hb : SE X W e fe) (hblk : SSsp (it :: ib :: ps) X W blk f) (htail : SSsp ps X W tail g)
    (hi : X.N[ib]? = some y := by rfl) (hx : Loc X.env.scope y := by first | exact Or.inl rfl | exact Or.inr rfl) (hNt : X.N[it]? = some x := by rfl) (hv : Vis X.env.scope x := by first | exact Or.inl rfl | exact Or.inr (Or.inl rfl) | exact Or.inr (Or.inr rfl))
    (hd : (x == ("__debug__" : Str)) = false := by decide) (hcd : (x == ("__classdict__" : Str)) = false := by decide) (hs : swapsWith (.Subscript (.Name x px) e sp) (some (.Name y py)) pos.line X.env = pure false := by rfl)
    (hf : X.fn y = true ∨ X.env.scope.names.lookup y = some .local := by first | exact .inl rfl | exact .inr rfl) (hsl : PlainIx e := by exact fun _ _ => rfl) (hp : ib ∉ ps := by first | exact List.not_mem_nil | decide) :
    SSsp ps X W (.Assign [.Name y py] (.Subscript (.Name x px) e sp) pos :: (blk ++ tail)) (zSeq (zAli ib it fe f) g) := by
  refine PSs.imp (pss_cons (ps_set hN hi hx (pe_ix ix_seq (pe_var hNt hv hd hcd) hb hsl) hs hf) (pss_app hblk htail)) fun D σ H ⟨Z, F, sd, ok, h⟩ => ?_
  unfold zSeq zAli at h
  split at h
  case h_2 => exact h.elim
  rename_i w0 e0
  obtain ⟨v, e1⟩ := ok.slot e0
  refine ⟨v, e1, ?_⟩
  refine eP.seq (G := fun _ _ => True) ok (fun w1 sd1 e2 u Z1 H1 ru ok1 x1 => ?_) (fun x sd1 e2 => ?_) (fun e2 => ?_)
  · rw [e2, R.run_ok] at h
    split at h
    case h_2 => exact h.elim
    rename_i ds k j e3 ej
    rw [ej] at ru
    cases ru
    split at h
    case h_2 => exact h.elim
    rename_i n en
    split at h
    case h_2 => exact h.elim
    rename_i d ed
    obtain ⟨v', o, e4, r, nd, nf, ok2⟩ := ok1.take e3
    rw [e1] at e4
    cases e4
    generalize hdl : VS.D.lst ds = dl at r
    generalize hk1 : k + 1 = k1 at r
    cases r <;> (try (first | cases hdl | cases hk1)) <;> try (cases hk1; done)
    · rename_i la xs o2 hh ra
      obtain ⟨u, o3, pn, o4, q1, q2, q3, q4⟩ := ra.split ed
      subst q2
      have hat : L2.atI xs j = some u := by
        unfold L2.atI
        rw [ra.length, en]
        exact q1
      refine .inl ⟨la, xs, j, u, rfl, rfl, .of hh, hat, ?_⟩
      obtain ⟨n1, n2⟩ := List.nodup_cons.mp nd
      obtain ⟨n3, n4, n5⟩ := List.nodup_append.mp n2
      obtain ⟨n6, n7, n8⟩ := List.nodup_append.mp n4
      have okS := Ok.store (i := ib) (F := uni F (la :: (o3 ++ o4))) (p := pn) (ok2.less fun a z => by
        rcases z with (z | z) | z
        · exact .inl z
        · rcases List.mem_cons.mp z with z | z
          · rw [z]; exact .inr List.mem_cons_self
          · refine .inr (List.mem_cons_of_mem _ ?_)
            rcases List.mem_append.mp z with z | z
            · exact List.mem_append_left _ z
            · exact List.mem_append_right _ (List.mem_append_right _ z)
        · exact .inr (List.mem_cons_of_mem _ (List.mem_append_right _ (List.mem_append_left _ z)))) q3 n6 (fun a m z => by
        rcases z with z | z
        · exact nf a (List.mem_cons_of_mem _ (List.mem_append_right _ (List.mem_append_left _ m))) z
        · rcases List.mem_cons.mp z with z | z
          · rw [z] at m
            exact n1 (List.mem_append_right _ (List.mem_append_left _ m))
          · rcases List.mem_append.mp z with z | z
            · exact n5 a z a (List.mem_append_left _ m) rfl
            · exact n8 a m a z rfl)
      refine ⟨Z1, uni F (la :: (o3 ++ o4)), _, okS, ?_⟩
      cases ef : f ((sd1.set it none).set ib (some (d, k))) with
      | nx sd3 =>
        rw [ef] at h
        dsimp only at h
        intro σ' Z' H' pin ok' x'
        split at h
        case h_2 => exact h.elim
        rename_i d' k' e5
        split at h
        case isFalse => exact h.elim
        rename_i hkk
        subst hkk
        obtain ⟨v2, p', e6, r', nd', nf', ok3⟩ := ok'.take e5
        have hib : ib < σ.length := by
          have q := pin ib (List.mem_cons_of_mem _ List.mem_cons_self)
          rw [e6] at q
          have := (List.getElem?_eq_some_iff.mp q.symm).1
          rw [List.length_set] at this
          exact this
        have hb2 : σ'[ib]? = some (some u) := by
          rw [pin ib (List.mem_cons_of_mem _ List.mem_cons_self), List.getElem?_set_self hib]
        rw [hb2] at e6
        cases e6
        have ht2 : σ'[it]? = some (some (.ref la)) := by
          rw [pin it List.mem_cons_self, List.getElem?_set_ne hne]
          exact e1
        have hcell : H' la = some (.lst xs) := by
          rw [x'.f la (.inr List.mem_cons_self)]
          exact hh
        have rA := q4 Z' H' d' p' x'.z (fun a m => x'.f a (.inr (List.mem_cons_of_mem _ (List.mem_append.mpr m)))) r'
        have ok4 := Ok.back (F := F) (p := la :: (o3 ++ (p' ++ o4))) (ok3.less fun a z => by
          rcases z with z | z
          · exact .inl (.inl z)
          · rcases List.mem_cons.mp z with z | z
            · rw [z]; exact .inl (.inr List.mem_cons_self)
            · rcases List.mem_append.mp z with z | z
              · exact .inl (.inr (List.mem_cons_of_mem _ (List.mem_append_left _ z)))
              · rcases List.mem_append.mp z with z | z
                · exact .inr z
                · exact .inl (.inr (List.mem_cons_of_mem _ (List.mem_append_right _ z)))) (.lstS hcell rA) ?_ ?_ ht2
        · refine ⟨Z', F, _, ok4, ?_⟩
          exact h.go (x1.trans (x'.mono fun _ z => .inl z)) fun i m => by
            rw [pin i (List.mem_cons_of_mem _ (List.mem_cons_of_mem _ m)), List.getElem?_set_ne fun e : ib = i => hp (by rw [e]; exact m)]
        · have np : ∀ a ∈ p', a ∉ la :: (o3 ++ o4) := fun a m z => nf' a m (.inr z)
          refine List.nodup_cons.mpr ⟨fun m => ?_, List.nodup_append.mpr ⟨n3, List.nodup_append.mpr ⟨nd', n7, fun a ha b hb e => np a ha ?_⟩, fun a ha b hb e => ?_⟩⟩
          · rcases List.mem_append.mp m with m | m
            · exact n1 (List.mem_append_left _ m)
            · rcases List.mem_append.mp m with m | m
              · exact np la m List.mem_cons_self
              · exact n1 (List.mem_append_right _ (List.mem_append_right _ m))
          · rw [e]; exact List.mem_cons_of_mem _ (List.mem_append_right _ hb)
          · rcases List.mem_append.mp hb with m | m
            · exact np b m (by rw [← e]; exact List.mem_cons_of_mem _ (List.mem_append_left _ ha))
            · exact n5 a ha b (List.mem_append_right _ m) e
        · intro a m z
          rcases List.mem_cons.mp m with m | m
          · rw [m] at z
            exact nf la List.mem_cons_self z
          · rcases List.mem_append.mp m with m | m
            · exact nf a (List.mem_cons_of_mem _ (List.mem_append_left _ m)) z
            · rcases List.mem_append.mp m with m | m
              · exact nf' a m (.inl z)
              · exact nf a (List.mem_cons_of_mem _ (List.mem_append_right _ (List.mem_append_right _ m))) z
      | rt w sd3 => rw [ef] at h; exact h.elim
      | bk sd3 => rw [ef] at h; exact h.elim
      | ct sd3 => rw [ef] at h; exact h.elim
      | ex x sd3 => rw [ef] at h; exact h.elim
      | stuck => rw [ef] at h; exact h.elim
  · rw [e2] at h; exact h σ .refl
  · rw [e2] at h; exact h
end
end VS
/-! VS22: x.pop(e). -/
namespace VS
open PySem PySem.Spec L2
theorem RpAll.erase {K : PySem.W.Frag} {Z : Pz} {H : Hp} {xs : List V} {ds : List D} (h : RpAll K Z H xs ds 0 []) (n : Nat) : RpAll K Z H (xs.eraseIdx n) (ds.eraseIdx n) 0 [] := by
  induction xs generalizing ds n with
  | nil =>
    have := h.length
    cases ds with
    | nil => exact h
    | cons _ _ => cases this
  | cons v xs ih =>
    cases ds with
    | nil => have := h.length; cases this
    | cons d ds =>
      obtain ⟨r1, r2⟩ := h.uncons
      cases n with
      | zero => exact r2
      | succ n => exact .cons (o := []) (p := []) r1 (ih r2 n)
def popv (i : Nat) (fe : Ev) : Ev := fun sd => match sd[i]? with
  | some (some (.lst _, _)) => (fe sd).bind fun y sd1 => match sd1[i]?, y.1 with
    | some (some (.lst ds, 1)), .int j => if 0 ≤ j ∧ j < 2 ^ 62 then match L2.ixN ds.length j with
      | some n => match ds[n]? with
        | some d => .ok (d, 0) (sd1.set i (some (.lst (ds.eraseIdx n), 1)))
        | none => .stuck
      | none => .stuck else .stuck
    | _, _ => .stuck
  | _ => .stuck
section
variable {X : Cx} {W : WX} {pos p q : Pos} {a b c : Expr} {fa fb : Ev}
theorem se_popv (i : Nat) {x : Str} {px pa : Pos} (he : SE X W a fa) (hN : X.N[i]? = some x := by rfl) (hv : Vis X.env.scope x := by first | exact Or.inl rfl | exact Or.inr (Or.inl rfl) | exact Or.inr (Or.inr rfl)) (hd : (x == ("__debug__" : Str)) = false := by decide) (hcd : (x == ("__classdict__" : Str)) = false := by decide)
    (hbase : attributeBase (.Name x px) "pop" X.env (eval (.Name x px) X.env) = eval (.Name x px) X.env := by rfl)
    (hfew : ((backTo p (starEach [a] X.env)).all (fun x => !x.1) && (backToKw p (keywordEach [] X.env)).all (fun x => x.1.isSome)
      && decide ([a].length + ([] : List Keyword).length + (if ([] : List Keyword).isEmpty then 0 else 1) < 30)) = true := by rfl)
    (hline : (pa.endLine == p.line) = true := by rfl) (hst : starEach [a] X.env = (false, eval a X.env) :: starEach [] X.env := by rfl) (hpl : (backTo p (starEach [] X.env)).any (·.1) = false := by rfl) :
    SE X W (.Call (.Attribute (.Name x px) "pop" pa) [a] [] p) (popv i fa) := by
  refine PE.imp (pe_bm PySem.F.plainAttrs_list PySem.F.slot_list_pop PySem.F.type_list_pop mt_popAt (pe_var hN hv hd hcd) (pa_cons he pa_nil hst) hbase hfew hline hst hpl) fun σ H Q ⟨Z, F, sd, ok, h⟩ => ?_
  unfold popv at h
  split at h
  case h_2 => exact h.elim
  rename_i ds0 k0 e0
  obtain ⟨l, xs0, e1, hl0⟩ := ok.isLst e0
  refine ⟨.ref l, e1, .inl ⟨rfl, xs0, .of hl0⟩, ?_⟩
  refine eP.seq (G := fun _ _ => True) ok (fun w sd1 e y Z1 H1 r ok1 x1 => ?_) (fun x sd1 e => ?_) (fun e => ?_)
  · rw [e, R.bind_ok] at h
    split at h
    case h_2 => exact h.elim
    rename_i ds j e2 ej
    rw [ej] at r
    cases r
    split at h
    case isFalse => exact h.elim
    rename_i hj
    split at h
    case h_2 => exact h.elim
    rename_i n en
    split at h
    case h_2 => exact h.elim
    rename_i d ed
    obtain ⟨v', q, e3, rr, nd, nf, ok2⟩ := ok1.take e2
    rw [e1] at e3
    cases e3
    obtain ⟨l', xs, el, rfl, hl, ra⟩ := lst1 rr
    cases el
    obtain ⟨u, hu, ru⟩ := ra.get ed
    obtain ⟨q1, q2, q3, q4⟩ := ixN_seq (n := xs.length) (by rw [ra.length]; exact en)
    refine ⟨l, xs, j, n, u, rfl, rfl, hl, by omega, by omega, q1, hu, ?_⟩
    obtain ⟨ok3, kz⟩ := ok2.write (o := .lst (xs.eraseIdx n)) (p := l) (.inr List.mem_cons_self)
    have ok4 := ok3.back (.lstS (o := []) upd_same ((ra.erase n).keep kz fun a m => absurd m List.not_mem_nil)) (by simp) nf e1
    rw [List.set_set] at ok4
    refine h u Z1 _ [] (ru.keep kz fun a m => absurd m List.not_mem_nil) .nil (fun a m => absurd m List.not_mem_nil) ok4.unnil (x1.trans ⟨kz, fun a f => upd_ne fun e => ?_⟩)
    rw [e] at f
    exact nf l List.mem_cons_self f
  · rw [e] at h; exact h
  · rw [e] at h; exact h
/-- the same, the block told by its length -/
theorem ss_aliN {ps : List Nat} (ib it n : Nat) {x y : Str} {py px sp : Pos} {e : Expr} {fe : Ev} {rest : List Stmt} {f g : Sm} (hne : ib ≠ it) (hN : X.N.Nodup) (hb : SE X W e fe) (hblk : SSsp (it :: ib :: ps) X W (rest.take n) f) (htail : SSsp ps X W (rest.drop n) g)
    (hi : X.N[ib]? = some y := by rfl) (hx : Loc X.env.scope y := by first | exact Or.inl rfl | exact Or.inr rfl) (hNt : X.N[it]? = some x := by rfl) (hv : Vis X.env.scope x := by first | exact Or.inl rfl | exact Or.inr (Or.inl rfl) | exact Or.inr (Or.inr rfl))
    (hd : (x == ("__debug__" : Str)) = false := by decide) (hcd : (x == ("__classdict__" : Str)) = false := by decide) (hs : swapsWith (.Subscript (.Name x px) e sp) (some (.Name y py)) pos.line X.env = pure false := by rfl)
    (hf : X.fn y = true ∨ X.env.scope.names.lookup y = some .local := by first | exact .inl rfl | exact .inr rfl) (hsl : PlainIx e := by exact fun _ _ => rfl) (hp : ib ∉ ps := by first | exact List.not_mem_nil | decide) :
    SSsp ps X W (.Assign [.Name y py] (.Subscript (.Name x px) e sp) pos :: rest) (zSeq (zAli ib it fe f) g) := by
  have := ss_ali ib it hne hN hb hblk htail hi hx hNt hv hd hcd hs hf hsl hp
  rw [List.take_append_drop] at this
  exact this
end
end VS
/-! VS23: comprehensions whose entries are owned; a row's entries given up. -/
namespace VS
open PySem PySem.Spec L2
def chkJ (kk : Nat) : D × Nat → SD → R (D × Nat) := fun y sd => if y.2 = kk then .ok y sd else .stuck
@[simp] theorem chkJ_ap (kk n : Nat) (d : D) (sd : SD) : chkJ kk (d, n) sd = if n = kk then .ok (d, n) sd else .stuck := eqr rfl
/-- f, whose value has kk floors of its own -/
def chk (kk : Nat) (f : Ev) : Ev := fun sd => (f sd).bind (chkJ kk)
@[simp] theorem chk_ap (kk : Nat) (f : Ev) (sd : SD) : chk kk f sd = (f sd).bind (chkJ kk) := eqr rfl
def lcOK (kk : Nat) : D × Nat → SD → R (D × Nat) := fun w sd => .ok (w.1, kk + 1) sd
@[simp] theorem lcOK_ap (kk n : Nat) (d : D) (sd : SD) : lcOK kk (d, n) sd = .ok (d, kk + 1) sd := eqr rfl
/-- a comprehension that owns its entries -/
def lcSO (kk : Nat) (vs : List Nat) (fi : Ei) (g : Tg) (ft : Et) (fe : Ev) : Ev := fun sd => (lcS vs fi g ft (chk kk fe) sd).bind (lcOK kk)
@[simp] theorem lcSO_ap (kk : Nat) (vs : List Nat) (fi : Ei) (g : Tg) (ft : Et) (fe : Ev) (sd : SD) : lcSO kk vs fi g ft fe sd = (lcS vs fi g ft (chk kk fe) sd).bind (lcOK kk) := eqr rfl
section
variable {K : PySem.W.Frag} {mg : Mg} {W : WX} {Z Z' F : Pz} {H H' : Hp} {σ : St} {sd : SD}
theorem RpAll.appO {xs ys : List V} {ds es : List D} {k : Nat} {o p : List Addr} (h : RpAll K Z H xs ds k o) (h' : RpAll K Z H ys es k p) : RpAll K Z H (xs ++ ys) (ds ++ es) k (o ++ p) := by
  induction xs generalizing ds o with
  | nil => cases h; exact h'
  | cons x xs ih =>
    cases h with
    | cons r1 r2 =>
      rw [List.append_assoc]
      exact .cons r1 (ih r2)
/-- what stands between two turns -/
structure LcO (K : PySem.W.Frag) (Z1 F : Pz) (H1 : Hp) (Z0 : Pz) (H0 : Hp) (p : Addr) (kk : Nat) (o : List Addr) (σw : St) (sdw : SD) (accD : List D) (Z' : Pz) (H' : Hp) : Prop where
  ok : Ok K Z' (uni F (p :: o)) H' σw sdw
  ext : Ext F Z0 H0 Z' H'
  st : ∀ a, Z1 a → Z' a ∧ H' a = H1 a
  nd : (p :: o).Nodup
  nf : ∀ a ∈ p :: o, ¬ F a
  at_ : ∃ acc, H' p = some (.lst acc) ∧ RpAll K Z' H' acc accD kk o
theorem lcO_sound {kk : Nat} {vs : List Nat} {fi : Ei} {g : Tg} {ft : Et} {fe : Ev} {Q : VK} (h : tE K mg W (lcSO kk vs fi g ft fe) σ H Q) : tLc (tI K mg W fi) (gP K vs g) (tT K mg W0 ft) (tE K mg W0 fe) vs σ H Q := by
  obtain ⟨Z, F, sd, ok, h⟩ := h
  refine ⟨Z, F, sd, ok, ?_⟩
  unfold lcSO lcS at h
  cases e : fi sd with
  | stuck => rw [e] at h; exact h.elim
  | exc x sd1 => rw [e] at h; exact h
  | ok items sd1 =>
    rw [e, R.bind_ok] at h
    intro J Z1 H1 it ok1 x1 p hp
    obtain ⟨okp, xp, nFp, nZp⟩ := ok1.new (o := .lst []) hp
    refine ⟨fun i m H' => m = items.length - i ∧ i ≤ items.length ∧ ∃ Z' sd' accD o, LcO K Z1 F H1 Z H p kk o (wipe σ vs) (wp sd' vs) accD Z' H' ∧
      eP K mg W Z F σ H (((lcGo vs g ft (chk kk fe) (items.drop i) sd' accD).bind fun out sd2 => R.ok (D.lst out, 1) (wp sd2 vs)).bind (lcOK kk)) Q, ⟨_, rfl, Nat.zero_le _, Z1, sd1, [], [], ⟨okp.wipe vs, x1.trans xp, fun a z => xp.z a z, by simp, fun a m => by rw [List.mem_singleton] at m; rw [m]; exact nFp, [], upd_same, .nil kk⟩, h⟩, ?_⟩
    rintro i m H' ⟨rfl, hi, Z', sd', accD, o, I, h'⟩
    obtain ⟨hstop, hgo⟩ := it i Z' H' I.st I.ok.base.z
    obtain ⟨acc, hacc, racc⟩ := I.at_
    by_cases hlt : i < items.length
    · refine .inr ?_
      have ed : items[i]? = some items[i] := List.getElem?_eq_getElem hlt
      obtain ⟨jg, jy⟩ := hgo _ ed
      refine ⟨jg, fun H' => ∃ Z' sd' accD o, LcO K Z1 F H1 Z H p kk o (wipe σ vs) (wp sd' vs) accD Z' H' ∧ eP K mg W Z F σ H (((lcGo vs g ft (chk kk fe) (items.drop (i + 1)) sd' accD).bind fun out sd2 => R.ok (D.lst out, 1) (wp sd2 vs)).bind (lcOK kk)) Q,
        fun H' hN => ⟨items.length - (i + 1), by omega, rfl, hlt, hN⟩, fun x H2 y => ?_⟩
      obtain ⟨Z2, gr, rx⟩ := jy x H2 y
      have edrop : items.drop i = items[i] :: items.drop (i + 1) := List.drop_eq_getElem_cons hlt
      rw [edrop] at h'
      have ok2 : Ok K Z2 (uni F (p :: o)) H2 (wipe σ vs) (wp sd' vs) := (gr.ok I.ok).less fun _ z => .inl z
      have x2 : Ext (uni F (p :: o)) Z' H' Z2 H2 := gr.ext I.ok.base
      refine ⟨Z2, uni F (p :: o), wp sd' vs, items[i], ok2, rx, ?_⟩
      unfold lcGo at h'
      cases eg : g items[i] (wp sd' vs) with
      | none => rw [eg] at h'; exact h'.elim
      | some sd2 =>
        rw [eg] at h'
        intro σ2 ok3 df
        have ew : wipe σ2 vs = wipe σ vs := df.wipe.trans wipe_wipe
        refine ⟨ew, ?_⟩
        refine tP.seq ok3 (fun b sd3 e3 Z3 H3 ok4 x3 => ?_) (fun x sd3 e3 => ?_) (fun e3 => ?_)
        · have x23 := x2.trans x3
          cases b with
          | false =>
            simp only [e3] at h'
            refine ⟨Z3, sd3, accD, o, ⟨?_, I.ext.trans (x23.mono fun _ z => .inl z), fun a z => ?_, I.nd, I.nf, acc, ?_, racc.keep x23.z fun a m => x23.f a (.inr (List.mem_cons_of_mem _ m))⟩, h'⟩
            · rw [← ew]; exact ok4.wipe vs
            · have a1 := I.st a z
              have a2 := x23.z a a1.1
              exact ⟨a2.1, a2.2.trans a1.2⟩
            · rw [x23.f p (.inr List.mem_cons_self)]; exact hacc
          | true =>
            simp only [e3] at h'
            refine eP.seqO ok4 (fun w sd4 e4 v Z4 H4 o4 rv nd4 nf4 ok5 x4 => ?_) (fun x sd4 e4 => ?_) (fun e4 => ?_)
            · have e4' : chk kk fe sd3 = if w.2 = kk then .ok w sd4 else .stuck := by
                show (fe sd3).bind (chkJ kk) = _
                rw [e4]; rfl
              by_cases hk : w.2 = kk
              case neg =>
                rw [if_neg hk] at e4'
                simp only [e4'] at h'; exact h'.elim
              rw [if_pos hk] at e4'
              simp only [e4'] at h'
              rw [hk] at rv
              have x24 := x23.trans x4
              have hacc4 : H4 p = some (.lst acc) := by rw [x24.f p (.inr List.mem_cons_self)]; exact hacc
              split at h'
              · rename_i hl
                obtain ⟨okw, kw⟩ := ok5.write (o := .lst (acc ++ [v])) (p := p) (.inl (.inr List.mem_cons_self))
                have racc4 := racc.keep x24.z fun a m => x24.f a (.inr (List.mem_cons_of_mem _ m))
                obtain ⟨np, ndo⟩ := List.nodup_cons.mp I.nd
                have hpo : ∀ a ∈ o ++ o4, a ≠ p := fun a m e => by
                  subst e
                  rcases List.mem_append.mp m with m | m
                  · exact np m
                  · exact nf4 a m (.inr List.mem_cons_self)
                have rnew : RpAll K Z4 (upd H4 p (.lst (acc ++ [v]))) (acc ++ [v]) (accD ++ [w.1]) kk (o ++ o4) := by
                  have r1 := racc4.appO (RpAll.cons rv (.nil kk))
                  rw [List.append_nil] at r1
                  exact r1.keep kw fun a m => upd_ne (hpo a m)
                refine ⟨acc, hacc4, by rw [racc.length]; exact hl, Z4, sd4, accD ++ [w.1], o ++ o4, ⟨?_, ?_, fun a z => ?_, ?_, fun a m => ?_, _, upd_same, rnew⟩, h'⟩
                · rw [← ew]
                  refine (okw.wipe vs).less fun a z => ?_
                  rcases z with z | z
                  · exact .inl (.inl z)
                  · rcases List.mem_cons.mp z with z | z
                    · rw [z]; exact .inl (.inr List.mem_cons_self)
                    · rcases List.mem_append.mp z with z | z
                      · exact .inl (.inr (List.mem_cons_of_mem _ z))
                      · exact .inr z
                · refine (I.ext.trans (x24.mono fun _ z => .inl z)).trans ⟨kw, fun a f => upd_ne fun e => ?_⟩
                  rw [e] at f
                  exact nFp f
                · have a1 := I.st a z
                  have a2 := x24.z a a1.1
                  have a3 := kw a a2.1
                  exact ⟨a3.1, a3.2.trans (a2.2.trans a1.2)⟩
                · refine List.nodup_cons.mpr ⟨fun m => hpo p m rfl, List.nodup_append.mpr ⟨ndo, nd4, fun a ha b hb e => ?_⟩⟩
                  exact nf4 b hb (.inr (List.mem_cons_of_mem _ (e ▸ ha)))
                · rcases List.mem_cons.mp m with m | m
                  · rw [m]; exact nFp
                  · rcases List.mem_append.mp m with m | m
                    · exact I.nf a (List.mem_cons_of_mem _ m)
                    · exact fun z => nf4 a m (.inl z)
              · exact h'.elim
            · have e4' : chk kk fe sd3 = .exc x sd4 := by
                show (fe sd3).bind (chkJ kk) = _
                rw [e4]; rfl
              simp only [e4'] at h'; exact h'.elim
            · have e4' : chk kk fe sd3 = .stuck := by
                show (fe sd3).bind (chkJ kk) = _
                rw [e4]; rfl
              simp only [e4'] at h'; exact h'.elim
        · simp only [e3] at h'; exact h'.elim
        · simp only [e3] at h'; exact h'.elim
    · refine .inl ⟨hstop (by omega), ?_⟩
      have e0 : items.drop i = [] := List.drop_eq_nil_of_le (by omega)
      rw [e0] at h'
      exact h' (.ref p) Z' H' (p :: o) (.lstS hacc racc) I.nd I.nf I.ok.unwipe I.ext
end
section
variable {X : Cx} {W : WX} {pos : Pos} {ps : List Nat}
theorem se_lcO (kk : Nat) {elt tg iter : Expr} {ifs : List Expr} {scope : Scope} {own : List (Str × Nat)} {pos : Pos} {fi : Ei} {g : Tg} {ft : Et} {fe : Ev} (hc : X.calm = true) (hN : X.N.Nodup) (hi : SI X W tg iter fi) (ok : BlkOk X.N X.env.scope scope own)
    (hg : ∀ (s : Shared) (H : Hp) (C : Addr) (cl : List (Str × Addr)) (fp : List Addr), SG (X.blk s H scope (compEnvC scope cl C X.env) fp) (own.map (·.2)) tg g)
    (ht : ∀ (s : Shared) (H : Hp) (C : Addr) (cl : List (Str × Addr)) (fp : List Addr), PTs (X.blk s H scope (compEnvC scope cl C X.env) fp) ifs (tT X.K X.mg W0 ft))
    (he : ∀ (s : Shared) (H : Hp) (C : Addr) (cl : List (Str × Addr)) (fp : List Addr), SE (X.blk s H scope (compEnvC scope cl C X.env) fp) W0 elt fe) (hs : ∀ x, foldedSetIterable iter X.env x = pure x := by intro _; rfl) :
    SE X W (.ListComp elt [⟨tg, iter, ifs, 0⟩] scope pos) (lcSO kk (own.map (·.2)) fi g ft fe) :=
  PE.imp (pe_lc (wi := tI X.K X.mg W fi) (g := gP X.K (own.map fun x : Str × Nat => x.2) g) (tt := tT X.K X.mg W0 ft) (te := tE X.K X.mg W0 fe) hc hN hi ok hg ht he hs) fun _ _ _ h => lcO_sound h
theorem ss_setLcO (kk : Nat) (i : Nat) {y : Str} {py : Pos} {elt tg iter : Expr} {ifs : List Expr} {scope : Scope} {own : List (Str × Nat)} {spos : Pos} {fi : Ei} {gg : Tg} {ft : Et} {fe : Ev} (hc : X.calm = true) (hN : X.N.Nodup) (hy : X.N[i]? = some y) (hyl : X.env.scope.names.lookup y = some .local)
    (hsw : swapsWith (.ListComp elt [⟨tg, iter, ifs, 0⟩] scope pos) (some (.Name y py)) spos.line X.env = pure true) (hi : SI X W tg iter fi) (ok : BlkOk X.N X.env.scope scope own)
    (hg : ∀ (s : Shared) (H : Hp) (C : Addr) (cl : List (Str × Addr)) (fp : List Addr), SG (X.blk s H scope (compEnvC scope cl C X.env) fp) (own.map (·.2)) tg gg)
    (ht : ∀ (s : Shared) (H : Hp) (C : Addr) (cl : List (Str × Addr)) (fp : List Addr), PTs (X.blk s H scope (compEnvC scope cl C X.env) fp) ifs (tT X.K X.mg W0 ft))
    (he : ∀ (s : Shared) (H : Hp) (C : Addr) (cl : List (Str × Addr)) (fp : List Addr), SE (X.blk s H scope (compEnvC scope cl C X.env) fp) W0 elt fe) (hs : ∀ x, foldedSetIterable iter X.env x = pure x := by intro _; rfl) (hp : i ∉ ps := by first | exact List.not_mem_nil | decide) :
    SSp ps X W (.Assign [.Name y py] (.ListComp elt [⟨tg, iter, ifs, 0⟩] scope pos) spos) (zSet i (lcSO kk (own.map (·.2)) fi gg ft fe)) := by
  refine PS.imp (ps_setLc (wi := tI X.K X.mg W fi) (g := gP X.K (own.map fun x : Str × Nat => x.2) gg) (tt := tT X.K X.mg W0 ft) (te := tE X.K X.mg W0 fe) hc hN hy hyl hsw hi ok hg ht he hs) fun D σ H ⟨Z, F, sd, okk, h⟩ => ?_
  refine lcO_sound (kk := kk) ?_
  unfold zSet at h
  refine eP.seqO okk (fun w sd1 e v Z1 H1 o r nd nf ok1 x1 => ?_) (fun x sd1 e => ?_) (fun e => ?_)
  · rw [e, R.run_ok] at h
    exact h _ Z1 H1 (.set hp) (ok1.store r nd nf) x1
  · rw [e] at h; exact h σ .refl
  · rw [e] at h; exact h
/-- slot i keeps its first floor alone, then f -/
def zCap (i : Nat) (f : Sm) : Sm := fun sd => match sd[i]? with
  | some (some (d, k)) => f (sd.set i (some (d, min k 1)))
  | _ => .stuck
@[simp] theorem zCap_ap (i : Nat) (f : Sm) (sd : SD) : zCap i f sd = wS (gtS sd i) .stuck fun d k => f (sd.set i (some (d, min k 1))) := by
  unfold zCap gtS wS
  cases e : sd[i]? with
  | none => rfl
  | some x => rcases x with _ | ⟨d, k⟩ <;> rfl
theorem ss_cap {st : Stmt} {f : Sm} (i : Nat) (h : SSp ps X W st f) : SSp ps X W st (zCap i f) := by
  refine PS.imp h fun D σ H ⟨Z, F, sd, ok, q⟩ => ?_
  unfold zCap at q
  split at q
  · rename_i d k e
    obtain ⟨v, Z1, q1, e1, r, nd, nf, ok1, hz, hf⟩ := ok.open1 e
    have ok2 := ok1.back r nd nf e1
    rw [List.set_set] at ok2
    exact ⟨Z1, F, _, ok2, q.go ⟨fun a z => ⟨hz a z, rfl⟩, fun _ _ => rfl⟩ .refl⟩
  · exact q.elim
end
end VS
/-! VS24: sorted(d), d a dict with ints for keys. -/
namespace VS
open PySem PySem.Calls PyProof.Rows PyProof.V PySem.Spec L2
theorem paired_len {α β : Type} {F : α → β → Prop} {l₁ : List α} {l₂ : List β} (h : Paired F l₁ l₂) : l₁.length = l₂.length := by
  induction h with
  | nil => rfl
  | cons _ _ ih => rw [List.length_cons, List.length_cons, ih]
theorem paired_at {α β : Type} {F : α → β → Prop} {l₁ : List α} {l₂ : List β} (h : Paired F l₁ l₂) : ∀ {i : Nat} {y : β}, l₂[i]? = some y → ∃ x, l₁[i]? = some x ∧ F x y := by
  induction h with
  | nil => intro i y e; cases e
  | cons hf _ ih =>
    intro i y e
    cases i with
    | zero => cases e; exact ⟨_, rfl, hf⟩
    | succ i => exact ih e
def rSortedD (K : PySem.W.Frag) : List V → Hp → VK → Prop := fun vs H Q => ∃ (a : Addr) (kvs : List (Key × V)) (ns : List Int), vs = [V.ref a] ∧ Rd H a (.dK kvs) ∧ kvs.map (·.1) = ns.map .inl ∧
  ∀ (ns' : List Int) (p : Addr), ns'.Perm ns → ns'.Pairwise (· ≤ ·) → H p = none → Q (.ref p) (upd H p (.lst (ns'.map V.int)))
theorem ints_of {ns : List Int} {vs : List Value} (hl : vs.length = ns.length) (h : ∀ (i : Nat) (v : Value), vs[i]? = some v → ∃ n t, ns[i]? = some n ∧ v = .int n t) : Vals (ns.map V.int) vs := by
  induction ns generalizing vs with
  | nil =>
    cases vs with
    | nil => exact .nil
    | cons _ _ => cases hl
  | cons n ns ih =>
    cases vs with
    | nil => cases hl
    | cons v vs =>
      obtain ⟨m, t, e1, e2⟩ := h 0 v rfl
      cases e1
      exact .cons ⟨t, e2⟩ (ih (by simpa using hl) fun i v e => h (i + 1) v e)
theorem cr_sortedD {X : Cx} (hc : X.calm = true) : CallR X (.builtin "sorted") (rSortedD X.K) := by
  intro pins s σ H vs us Q I r h
  obtain ⟨a, kvs, ns, rfl, hs, hk, q⟩ := h
  rw [Vals.ref1 r]
  obtain ⟨hz, hsys, pv, rel, hD⟩ := dk_rd I.hok hs
  obtain ⟨ep, hat⟩ := hD.dictAt
  have hlen : pv.length = kvs.length := (paired_len rel).symm
  have hns : ns.length = kvs.length := by
    have := congrArg List.length hk
    rw [List.length_map, List.length_map] at this
    exact this.symm
  have hh : X.A.in1.handled = none := I.ok.hd hc
  refine call_function_entry kind_sorted plain_sorted entry_sorted (args_sorted1 _) ?_
  unfold Builtin.«sorted»
  refine wpAny_bind (m := checkCount "sorted" 1 1 _) (wpAny_pure ?_)
  refine wpAny_bind (PySem.W.kdu_collect (A := X.A.in1) (PySem.W.kdl_dict hsys) hh hat (by rw [hlen]; exact hz) fun h' tk acc hkp hacc => ?_)
  have hal : acc.toList.length = kvs.length := by rw [Array.length_toList, hacc.1, hlen]
  refine wpAny_bind (wpAny_newList ?_ (by rw [hal]; exact hz))
  have hkey : ∀ (i : Nat) (k : Key) (x : Value), pv[i]? = some (k, x) → ∃ n, ns[i]? = some n ∧ k = .inl n := fun i k x e => by
    have hi : i < ns.length := by rw [hns, ← hlen]; exact (List.getElem?_eq_some_iff.mp e).1
    obtain ⟨p, ep, er⟩ := paired_at rel e
    have e2 : (kvs.map (·.1))[i]? = some p.1 := by rw [List.getElem?_map, ep]; rfl
    rw [hk, List.getElem?_map, List.getElem?_eq_getElem hi] at e2
    refine ⟨ns[i], List.getElem?_eq_getElem hi, ?_⟩
    have e3 : p.1 = k := er.1
    rw [← e3]
    exact (Option.some.inj e2).symm
  have hV : Vals (ns.map V.int) acc.toList := ints_of (by rw [hal, hns]) fun i v e => by
    obtain ⟨k, x, e1, e2⟩ := hacc.2 i v (by rw [← Array.getElem?_toList]; exact e)
    obtain ⟨n, e3, e5⟩ := hkey i k x e1
    rcases keyIs_shape (show keyIs k v = true from e2) with ⟨j, t, rfl, e4⟩ | ⟨y, t, rfl, e4⟩
    · cases e5
      exact ⟨_, t, e3, e4⟩
    · cases e5
  have hi := hV.ints
  let hp := h'.push { cls := .type "list", data := .seq acc.toList.toArray }
  have hob : hp.get? h'.objs.size = some (seqObj "list" acc.toList.toArray 0) := Heap.get?_push_size _ rfl
  have hgone : s.heap.get? h'.objs.size = none := by
    cases e : s.heap.get? h'.objs.size with
    | none => rfl
    | some o => exact absurd (Heap.lt_size (hkp _ _ e)) (Nat.lt_irrefl _)
  have hHn : H h'.objs.size = none := I.hok.gone hgone
  refine wpAny_bind (wpAny_holding (wpAny_call_entry PyProof.Rows.slot_list_sort ⟨_, hob, rfl⟩ PyProof.Rows.entry_list_sort
    (SrtO.list_sort_ord SrtO.swo_int hob (by rw [hal]; exact hz) (fun h2 => SrtO.ints_sortable hi h2) fun out h1 h2 => ⟨.none, rfl, ?_⟩) (PyProof.Rows.args_list_sort _)))
  obtain ⟨k1, k2, k3⟩ := SrtO.ints_out hi h1 h2
  obtain ⟨ep2, he'⟩ := PyProof.Rows.sortedHeap_at (vs := acc.toList) (out := out.toArray) hob
  have hlen2 : ((out.map SrtO.iv).map V.int).length ≤ sizeLine := by
    rw [List.length_map, k2.length_eq, hns]
    exact hz
  refine wpAny_pure ⟨_, rfl, ?_⟩
  refine ⟨.ref _, upd H h'.objs.size (.lst ((out.map SrtO.iv).map V.int)), I.laidN (t' := tk) (fun b u e => ?_) hgone hHn ⟨hlen2, out, ep2, vals_of_ints k1, he'⟩, rfl, q _ _ k2 k3 hHn⟩
  have hb : b < h'.objs.size := Heap.lt_size (hkp b u e)
  rw [PyProof.Rows.sortedHeap_old (Nat.ne_of_lt hb) (by show b < hp.objs.size; rw [size_push']; exact Nat.lt_succ_of_lt hb)]
  rw [Heap.get?_push_ne _ _ _ (Nat.ne_of_lt hb)]
  exact hkp b u e
def intKs : List Key → Option (List Int)
  | [] => some []
  | .inl i :: ks => (intKs ks).map (i :: ·)
  | .inr _ :: _ => none
@[simp] theorem intKs_map (ns : List Int) : intKs (ns.map .inl) = some ns := by
  induction ns with
  | nil => rfl
  | cons n ns ih => rw [List.map_cons]; unfold intKs; rw [ih]; rfl
theorem intKs_some {ks : List Key} {ns : List Int} (h : intKs ks = some ns) : ks = ns.map .inl := by
  induction ks generalizing ns with
  | nil => cases h; rfl
  | cons d ds ih =>
    cases d with
    | inl i =>
      unfold intKs at h
      obtain ⟨a, h1, h2⟩ := Option.map_eq_some_iff.mp h
      rw [ih h1, ← h2]
      rfl
    | inr x => cases h
/-- sorted, of a dict too -/
def gSorted2 : D → Option (D × Nat)
  | .dct ks _ => (intKs ks).map fun ns => (.lst ((srtI ns).map .int), 1)
  | .lst ds => gSorted (.lst ds)
  | _ => none
@[simp] theorem gSorted2_lst (ds : List D) : gSorted2 (.lst ds) = gSorted (.lst ds) := eqr rfl
@[simp] theorem gSorted2_dct (ns : List Int) (vs : List D) : gSorted2 (.dct (ns.map .inl) vs) = some (.lst ((srtI ns).map .int), 1) := by
  show (intKs (ns.map Sum.inl)).map _ = _
  rw [intKs_map]; rfl
theorem zip_fst {α β : Type} : ∀ {l : List α} {l' : List β}, l.length = l'.length → (l.zip l').map (·.1) = l
  | [], [], _ => rfl
  | a :: l, b :: l', h => by rw [List.zip_cons_cons, List.map_cons, zip_fst (by simpa using h)]
theorem vr_sorted2 {K : PySem.W.Frag} : VrN K (fun xs H Q => (rSortedI K xs H Q ∨ rSortedPO K xs H Q) ∨ rSortedD K xs H Q) (un1 gSorted2) := by
  refine VrN.un1 fun Z H x d w Q hz rx eg k => ?_
  cases d with
  | lst ds => exact .inl (vr_sorted Z H [x] [.lst ds] w Q hz (.cons (o := []) (p := []) rx (.nil 0)) eg k)
  | dct ks vs =>
    obtain ⟨ns, e1, rfl⟩ := Option.map_eq_some_iff.mp eg
    have e2 := intKs_some e1
    subst e2
    generalize e0 : ([] : List Addr) = o0 at rx
    cases rx with
    | dct0 z h hl r =>
      refine .inr ⟨_, _, ns, rfl, .inl h, zip_fst hl, fun ns' p hp hs hn => ?_⟩
      have e2 : ns' = srtI ns := PySem.W.os_sorted_mergeSort hp hs
      subst e2
      exact k (.ref p) Z _ [p] (Gr.cell hz hn) (.lstS (o := []) upd_same (RpAll.of_ints _))
  | _ => cases eg
theorem cSorted2 {X : Cx} (hc : X.calm = true) : CallR X (.builtin "sorted") (fun xs H Q => (rSortedI X.K xs H Q ∨ rSortedPO X.K xs H Q) ∨ rSortedD X.K xs H Q) := cSorted.or (cr_sortedD hc)
end VS
/-! VS25: the second part evaluated; while. -/
namespace VS
open PySem PySem.Spec L2
instance : Inhabited D := ⟨.non⟩
/-! ### while -/
def R.frun {α : Type} (r : R α) (f : α → SD → FR) : FR := match r with
  | .ok a sd => f a sd
  | .exc x _ => .exc x
  | .stuck => .stuck
@[simp] theorem R.frun_ok {α : Type} (a : α) (sd : SD) (g : α → SD → FR) : (R.ok a sd).frun g = g a sd := eqr rfl
@[simp] theorem R.frun_exc {α : Type} (x : Exn) (sd : SD) (g : α → SD → FR) : (R.exc x sd : R α).frun g = .exc x := eqr rfl
@[simp] theorem R.frun_stuck {α : Type} (g : α → SD → FR) : (R.stuck : R α).frun g = .stuck := eqr rfl
@[simp] theorem R.frun_ite {α : Type} {c : Prop} [Decidable c] (a b : R α) (g : α → SD → FR) : (if c then a else b).frun g = if c then a.frun g else b.frun g := by split <;> rfl
def whK (ws : List Nat) (body : Sm) (K kn : SD → FR) : Bool → SD → FR := fun t sd1 => if t = true then (body sd1).fin (wpK ws K) (wpK ws kn) (wpK ws K) else kn sd1
@[simp] theorem whK_ap (ws : List Nat) (body : Sm) (K kn : SD → FR) (t : Bool) (sd1 : SD) : whK ws body K kn t sd1 = if t = true then (body sd1).fin (wpK ws K) (wpK ws kn) (wpK ws K) else kn sd1 := eqr rfl
def whT (ws : List Nat) (c : Et) (body : Sm) (S : SD) (K kn : SD → FR) : FR := (c S).frun (whK ws body K kn)
@[simp] theorem whT_ap (ws : List Nat) (c : Et) (body : Sm) (S : SD) (K kn : SD → FR) : whT ws c body S K kn = (c S).frun (whK ws body K kn) := eqr rfl
section
variable {ws : List Nat} {c : Et} {body : Sm} {kn kb kc : SD → FR}
theorem whGo_step (n : Nat) (s : SD) : (whGo ws c body (n + 1) s).fin kn kb kc = whT ws c body s (fun s => (whGo ws c body n s).fin kn kb kc) kn := by
  unfold whT whK wpK
  show O.fin ((c s).run fun b sd1 => if b then (match body sd1 with
      | .nx sd2 => whGo ws c body n (wp sd2 ws)
      | .ct sd2 => whGo ws c body n (wp sd2 ws)
      | .bk sd2 => .nx (wp sd2 ws)
      | o => o) else .nx sd1) kn kb kc = _
  cases c s with
  | stuck => rfl
  | exc x sd => rfl
  | ok t sd =>
    rw [R.run_ok, R.frun_ok]
    cases t with
    | false => rfl
    | true =>
      simp only [if_true]
      cases body sd <;> rfl
/-- a while: what holds of its state, a number that falls -/
theorem wh_inv {β : Type} (S : β → SD) (P : β → Prop) (m : β → Nat) (Q : FR → Prop) (hs : ∀ b, P b → ∀ K, (∀ b', P b' → m b' < m b → Q (K (S b'))) → Q (whT ws c body (S b) K kn)) :
    ∀ (n : Nat) (b : β), P b → m b < n → Q ((whGo ws c body n (S b)).fin kn kb kc) := by
  intro n
  induction n with
  | zero => intro b _ h; exact absurd h (Nat.not_lt_zero _)
  | succ n ih =>
    intro b hp hm
    rw [whGo_step]
    exact hs b hp _ fun b' hp' hm' => ih b' hp' (by omega)
end
@[simp] theorem zWhile_ap (n : Nat) (ws : List Nat) (c : Et) (body : Sm) (sd : SD) : zWhile n ws c body sd = whGo ws c body n sd := eqr rfl
/-! ### loops that hand no value back, told by what comes out -/
def O.lp (ws : List Nat) (o : O) : O := match o with
  | .nx sd => .nx (wp sd ws)
  | .ct sd => .nx (wp sd ws)
  | .bk _ => .stuck
  | o => o
@[simp] theorem O.lp_nx (ws : List Nat) (sd : SD) : (O.nx sd).lp ws = .nx (wp sd ws) := eqr rfl
@[simp] theorem O.lp_ct (ws : List Nat) (sd : SD) : (O.ct sd).lp ws = .nx (wp sd ws) := eqr rfl
@[simp] theorem O.lp_ite (ws : List Nat) {c : Prop} [Decidable c] (a b : O) : (if c then a else b).lp ws = if c then a.lp ws else b.lp ws := by split <;> rfl
def trnOK (body : Sm) (ws : List Nat) : SD → O := fun s => (body s).lp ws
@[simp] theorem trnOK_ap (body : Sm) (ws : List Nat) (s : SD) : trnOK body ws s = (body s).lp ws := eqr rfl
def goO (o : Option SD) (f : SD → O) : O := match o with
  | some s => f s
  | none => .stuck
@[simp] theorem goO_some (s : SD) (f : SD → O) : goO (some s) f = f s := eqr rfl
def trnO (ws : List Nat) (g : Tg) (body : Sm) (d : D) (S : SD) : O := goO (g d S) (trnOK body ws)
@[simp] theorem trnO_ap (ws : List Nat) (g : Tg) (body : Sm) (d : D) (S : SD) : trnO ws g body d S = goO (g d S) (trnOK body ws) := eqr rfl
section
variable {ws : List Nat} {g : Tg} {c : Et} {body : Sm}
theorem forO_fold {α β : Type} (enc : α → D) (S : β → SD) (P : β → Prop) (f : β → α → β) (l : List α) (b : β) (hp : P b) (h : ∀ a ∈ l, ∀ b, P b → P (f b a) ∧ trnO ws g body (enc a) (S b) = .nx (S (f b a))) :
    forGo ws g body (l.map enc) (S b) = .nx (S (l.foldl f b)) ∧ P (l.foldl f b) := by
  induction l generalizing b with
  | nil => exact ⟨rfl, hp⟩
  | cons a l ih =>
    obtain ⟨p, q⟩ := h a List.mem_cons_self b hp
    rw [List.map_cons, List.foldl_cons]
    have e : forGo ws g body (enc a :: l.map enc) (S b) = forGo ws g body (l.map enc) (S (f b a)) := by
      unfold trnO goO trnOK O.lp at q
      show (match g (enc a) (S b) with
        | none => O.stuck
        | some sd1 => match body sd1 with
          | .nx sd2 => forGo ws g body (l.map enc) (wp sd2 ws)
          | .ct sd2 => forGo ws g body (l.map enc) (wp sd2 ws)
          | .bk sd2 => .nx (wp sd2 ws)
          | o => o) = _
      cases eg : g (enc a) (S b) with
      | none => rw [eg] at q; cases q
      | some s =>
        rw [eg] at q
        dsimp only at q ⊢
        cases eb : body s with
        | nx s2 => rw [eb] at q; dsimp only at q ⊢; injection q with q; rw [q]
        | ct s2 => rw [eb] at q; dsimp only at q ⊢; injection q with q; rw [q]
        | bk s2 => rw [eb] at q; cases q
        | rt w s2 => rw [eb] at q; cases q
        | ex x s2 => rw [eb] at q; cases q
        | stuck => rw [eb] at q; cases q
    rw [e]
    exact ih _ p fun a m => h a (List.mem_cons_of_mem _ m)
def whOK (ws : List Nat) (body : Sm) : Bool → SD → O := fun t sd1 => if t = true then (body sd1).lp ws else .bk sd1
@[simp] theorem whOK_ap (ws : List Nat) (body : Sm) (t : Bool) (sd1 : SD) : whOK ws body t sd1 = if t = true then (body sd1).lp ws else .bk sd1 := eqr rfl
def whOT (ws : List Nat) (c : Et) (body : Sm) (S : SD) : O := (c S).run (whOK ws body)
@[simp] theorem whOT_ap (ws : List Nat) (c : Et) (body : Sm) (S : SD) : whOT ws c body S = (c S).run (whOK ws body) := eqr rfl
/-- a while without break: each turn ends it (bk) or goes on -/
theorem whO_inv {β : Type} (S : β → SD) (P : β → Prop) (m : β → Nat) (E : β → Prop) (hs : ∀ b, P b → (E b ∧ whOT ws c body (S b) = .bk (S b)) ∨ ∃ b', P b' ∧ m b' < m b ∧ whOT ws c body (S b) = .nx (S b')) :
    ∀ (n : Nat) (b : β), P b → m b < n → ∃ b', P b' ∧ E b' ∧ whGo ws c body n (S b) = .nx (S b') := by
  intro n
  induction n with
  | zero => intro b _ h; exact absurd h (Nat.not_lt_zero _)
  | succ n ih =>
    intro b hp hm
    have e : ∀ s, whGo ws c body (n + 1) s = (c s).run fun t sd1 => if t then (match body sd1 with
      | .nx sd2 => whGo ws c body n (wp sd2 ws)
      | .ct sd2 => whGo ws c body n (wp sd2 ws)
      | .bk sd2 => .nx (wp sd2 ws)
      | o => o) else .nx sd1 := fun _ => rfl
    rcases hs b hp with ⟨he, h⟩ | ⟨b', hp', hm', h⟩
    · refine ⟨b, hp, he, ?_⟩
      rw [e]
      unfold whOT whOK at h
      cases ec : c (S b) with
      | stuck => rw [ec] at h; cases h
      | exc x sd => rw [ec] at h; cases h
      | ok t sd =>
        rw [ec, R.run_ok] at h
        rw [R.run_ok]
        cases t with
        | false =>
          simp only [Bool.false_eq_true, if_false] at h ⊢
          injection h with h
          rw [h]
        | true =>
          simp only [if_true] at h
          unfold O.lp at h
          cases eb : body sd <;> (rw [eb] at h; cases h)
    · obtain ⟨b2, p2, e2, h2⟩ := ih b' hp' (by omega)
      refine ⟨b2, p2, e2, ?_⟩
      rw [e]
      unfold whOT whOK at h
      cases ec : c (S b) with
      | stuck => rw [ec] at h; cases h
      | exc x sd => rw [ec] at h; cases h
      | ok t sd =>
        rw [ec, R.run_ok] at h
        rw [R.run_ok]
        cases t with
        | false =>
          simp only [Bool.false_eq_true, if_false] at h
          cases h
        | true =>
          simp only [if_true] at h ⊢
          unfold O.lp at h
          cases eb : body sd with
          | nx s2 => rw [eb] at h; dsimp only at h ⊢; injection h with h; rw [h]; exact h2
          | ct s2 => rw [eb] at h; dsimp only at h ⊢; injection h with h; rw [h]; exact h2
          | bk s2 => rw [eb] at h; cases h
          | rt w s2 => rw [eb] at h; cases h
          | ex x s2 => rw [eb] at h; cases h
          | stuck => rw [eb] at h; cases h
end
/-! ### defs that give back -/
section
variable (sd : SD)
@[simp] theorem pick_nil : pick sd [] = some [] := eqr rfl
@[simp] theorem pick_cons (i : Nat) (is : List Nat) : pick sd (i :: is) = wS (gtS sd i) none fun d k => (pick sd is).map fun l => (d, k) :: l := by
  show (match gtS sd i with
    | some w => (pick sd is).map fun l => w :: l
    | none => none) = _
  unfold wS
  cases gtS sd i <;> rfl
def froR (w : D × Nat) (o : Option (List (D × Nat))) : FRO := match o with
  | some outs => .ok w outs
  | none => .stuck
@[simp] theorem froR_some (w : D × Nat) (l : List (D × Nat)) : froR w (some l) = .ok w l := eqr rfl
@[simp] theorem O.fro_rt (ios : List Nat) (w : D × Nat) : (O.rt w sd).fro ios = froR w (pick sd ios) := by
  unfold froR
  show (match pick sd ios with
    | some outs => FRO.ok w outs
    | none => .stuck) = _
  cases pick sd ios <;> rfl
@[simp] theorem O.fro_nx (ios : List Nat) : (O.nx sd).fro ios = froR (.non, 0) (pick sd ios) := by
  unfold froR
  show (match pick sd ios with
    | some outs => FRO.ok (.non, 0) outs
    | none => .stuck) = _
  cases pick sd ios <;> rfl
theorem fnIO_ap (N : Nat) (ios : List Nat) (body : Sm) (ws : List (D × Nat)) : fnIO N ios body ws = (body (fill N ws)).fro ios := rfl
def rsmK (o : Option (List (D × Nat) × SD)) (x : D × Nat) : Option (List (D × Nat) × SD) := o.map fun q => (x :: q.1, q.2)
@[simp] theorem rsmK_some (l : List (D × Nat)) (s : SD) (x : D × Nat) : rsmK (some (l, s)) x = some (x :: l, s) := eqr rfl
@[simp] theorem rsm_nil : rsm sd [] = some ([], sd) := eqr rfl
@[simp] theorem rsm_w (x : D × Nat) (r : List Ag) : rsm sd (.w x :: r) = rsmK (rsm sd r) x := eqr rfl
@[simp] theorem rsm_b (i : Nat) (r : List Ag) : rsm sd (.b i :: r) = wS (gtS sd i) none fun d k => rsmK (rsm (sd.set i none) r) (d, k) := by
  show (match gtS sd i with
    | some w => (rsm (sd.set i none) r).map fun (q : List (D × Nat) × SD) => (w :: q.1, q.2)
    | none => none) = _
  unfold wS rsmK
  cases gtS sd i <;> rfl
@[simp] theorem mSl_nil : mSl [] = [] := eqr rfl
@[simp] theorem mSl_w (x : D × Nat) (r : List Ag) : mSl (.w x :: r) = mSl r := eqr rfl
@[simp] theorem mSl_b (i : Nat) (r : List Ag) : mSl (.b i :: r) = i :: mSl r := eqr rfl
@[simp] theorem mPos_nil (n : Nat) : mPos n [] = [] := eqr rfl
@[simp] theorem mPos_w (n : Nat) (x : D × Nat) (r : List Ag) : mPos n (.w x :: r) = mPos (n + 1) r := eqr rfl
@[simp] theorem mPos_b (n i : Nat) (r : List Ag) : mPos n (.b i :: r) = n :: mPos (n + 1) r := eqr rfl
@[simp] theorem putB_nil (ws : List (D × Nat)) : putB sd [] ws = sd := eqr rfl
@[simp] theorem putB_cons (i : Nat) (is : List Nat) (w : D × Nat) (ws : List (D × Nat)) : putB sd (i :: is) (w :: ws) = putB (sd.set i (some w)) is ws := eqr rfl
@[simp] theorem outR_ok (is : List Nat) (w : D × Nat) (outs : List (D × Nat)) : outR sd is (.ok w outs) = .ok w (putB sd is outs) := eqr rfl
def calIOJ (n : Nat) (ios : List Nat) (f : FnO) (dfl : List D) (ags : List Ag) (o : Option (List (D × Nat) × SD)) : R (D × Nat) := match o with
  | some (xs, sd2) => if (xs.length + dfl.length == n && mPos 0 ags == ios) = true then outR sd2 (mSl ags) (f (xs ++ dfl.map fun d => (d, 0))) else .stuck
  | none => .stuck
@[simp] theorem calIOJ_some (n : Nat) (ios : List Nat) (f : FnO) (dfl : List D) (ags : List Ag) (xs : List (D × Nat)) (sd2 : SD) :
    calIOJ n ios f dfl ags (some (xs, sd2)) = if (xs.length + dfl.length == n && mPos 0 ags == ios) = true then outR sd2 (mSl ags) (f (xs ++ dfl.map fun d => (d, 0))) else .stuck := eqr rfl
def calIOK (n : Nat) (ios : List Nat) (f : FnO) (dfl : List D) : List Ag → SD → R (D × Nat) := fun ags sd1 => calIOJ n ios f dfl ags (rsm sd1 ags)
@[simp] theorem calIOK_ap (n : Nat) (ios : List Nat) (f : FnO) (dfl : List D) (ags : List Ag) : calIOK n ios f dfl ags sd = calIOJ n ios f dfl ags (rsm sd ags) := eqr rfl
@[simp] theorem calIO_ap (n : Nat) (ios : List Nat) (f : FnO) (dfl : List D) (fs : Eb) : calIO n ios f dfl fs sd = (fs sd).bind (calIOK n ios f dfl) := by
  unfold calIO calIOK calIOJ
  congr
/-! ### dicts -/
def ixdR (o : Option (Option D)) (sd : SD) : R (D × Nat) := match o with
  | some (some e) => .ok (e, 0) sd
  | _ => .stuck
@[simp] theorem ixdR_some (e : D) : ixdR (some (some e)) sd = .ok (e, 0) sd := eqr rfl
def ixdK (i : Nat) : D × Nat → SD → R (D × Nat) := fun y sd1 => wS (gtS sd1 i) .stuck fun d k => ixdR (dLook d y.1) (sd1.set i (some (d, min k 1)))
@[simp] theorem ixdK_ap (i : Nat) (y : D) (n : Nat) : ixdK i (y, n) sd = wS (gtS sd i) .stuck fun d k => ixdR (dLook d y) (sd.set i (some (d, min k 1))) := eqr rfl
@[simp] theorem ixd_ap (i : Nat) (fb : Ev) : ixd i fb sd = wS (gtS sd i) .stuck fun _ _ => (fb sd).bind (ixdK i) := by
  have h2 : ixdK i = fun y sd1 => match sd1[i]? with
    | some (some (d, k)) => match dLook d y.1 with
      | some (some e) => .ok (e, 0) (sd1.set i (some (d, min k 1)))
      | _ => .stuck
    | _ => .stuck := by
    funext y sd1
    unfold ixdK gtS wS ixdR
    cases e : sd1[i]? with
    | none => rfl
    | some x => rcases x with _ | ⟨d, k⟩ <;> rfl
  unfold ixd
  rw [h2]
  unfold gtS wS
  cases e : sd[i]? with
  | none => rfl
  | some x => rcases x with _ | ⟨d, k⟩ <;> rfl
def putDO (o : Option D) (i : Nat) (sd : SD) : O := match o with
  | some d' => .nx (sd.set i (some (d', 1)))
  | none => .stuck
@[simp] theorem putDO_some (d : D) (i : Nat) : putDO (some d) i sd = .nx (sd.set i (some (d, 1))) := eqr rfl
def putD1 (d : D) (n : Nat) (i : Nat) (y w : D) (sd : SD) : O := if n = 1 then putDO (dPutD d y w) i sd else .stuck
@[simp] theorem putD1_one (d : D) (i : Nat) (y w : D) : putD1 d 1 i y w sd = putDO (dPutD d y w) i sd := eqr rfl
def zPutDJ (i : Nat) (w : D) : D × Nat → SD → O := fun y sd2 => wS (gtS sd2 i) .stuck fun d n => putD1 d n i y.1 w sd2
@[simp] theorem zPutDJ_ap (i : Nat) (w y : D) (n : Nat) : zPutDJ i w (y, n) sd = wS (gtS sd i) .stuck fun d n => putD1 d n i y w sd := eqr rfl
def zPutDK (i : Nat) (fi : Ev) : D × Nat → SD → O := fun w sd1 => wS (gtS sd1 i) .stuck fun _ _ => (fi sd1).run (zPutDJ i w.1)
@[simp] theorem zPutDK_ap (i : Nat) (fi : Ev) (d : D) (n : Nat) : zPutDK i fi (d, n) sd = wS (gtS sd i) .stuck fun _ _ => (fi sd).run (zPutDJ i d) := eqr rfl
@[simp] theorem zPutD_ap (i : Nat) (fi f : Ev) : zPutD i fi f sd = (f sd).run (zPutDK i fi) := by
  have h1 : ∀ w : D, zPutDJ i w = fun y sd2 => match sd2[i]? with
    | some (some (d, 1)) => match dPutD d y.1 w with
      | some d' => .nx (sd2.set i (some (d', 1)))
      | none => .stuck
    | _ => .stuck := by
    intro w
    funext y sd2
    unfold zPutDJ gtS wS putD1 putDO
    cases e : sd2[i]? with
    | none => rfl
    | some x =>
      rcases x with _ | ⟨d, k⟩
      · rfl
      · rcases k with _ | _ | k
        · rfl
        · rfl
        · dsimp only
          rw [if_neg (by omega)]
          rfl
  have h2 : zPutDK i fi = fun w sd1 => match sd1[i]? with
    | some (some _) => (fi sd1).run (zPutDJ i w.1)
    | _ => .stuck := by
    funext w sd1
    unfold zPutDK gtS wS
    cases e : sd1[i]? with
    | none => rfl
    | some x => rcases x with _ | ⟨d, k⟩ <;> rfl
  rw [h2]
  simp only [h1]
  rfl
@[simp] theorem dNew_ap : dNew sd = .ok (.dct [] [], 1) sd := eqr rfl
@[simp] theorem dNewT_ap : dNewT sd = .ok (.dcT [] [], 1) sd := eqr rfl
def dDispJ (k : D) : D × Nat → SD → R (D × Nat) := fun v sd2 => match keyOf k with
  | some kk => .ok (.dct [kk] [v.1], 1) sd2
  | none => .stuck
@[simp] theorem dDispJ_int (i : Int) (v : D) (n : Nat) : dDispJ (.int i) (v, n) sd = .ok (.dct [.inl i] [v], 1) sd := eqr rfl
def dDispK (fv : Ev) : D × Nat → SD → R (D × Nat) := fun k sd1 => (fv sd1).bind (dDispJ k.1)
@[simp] theorem dDispK_ap (fv : Ev) (k : D) (n : Nat) : dDispK fv (k, n) sd = (fv sd).bind (dDispJ k) := eqr rfl
@[simp] theorem dDisp_ap (fk fv : Ev) : dDisp fk fv sd = (fk sd).bind (dDispK fv) := by
  unfold dDisp dDispK dDispJ
  congr
/-! ### walks -/
def iRevK : D × Nat → SD → R (List D) := fun x sd1 => match x.1 with
  | .lst ds => .ok ds.reverse sd1
  | .tup ds => .ok ds.reverse sd1
  | _ => .stuck
@[simp] theorem iRev_ap (f : Ev) : iRev' f sd = (f sd).bind iRevK := eqr rfl
@[simp] theorem iRevK_lst (ds : List D) (n : Nat) : iRevK (.lst ds, n) sd = .ok ds.reverse sd := eqr rfl
@[simp] theorem iRevK_tup (ds : List D) (n : Nat) : iRevK (.tup ds, n) sd = .ok ds.reverse sd := eqr rfl
def iZipJ (x : D) : D × Nat → SD → R (List D) := fun y sd2 => match x, y.1 with
  | .lst ds, .lst es => .ok ((ds.zip es).map fun p => .tup [p.1, p.2]) sd2
  | .tup ds, .tup es => .ok ((ds.zip es).map fun p => .tup [p.1, p.2]) sd2
  | _, _ => .stuck
@[simp] theorem iZipJ_lst {α β : Type} (f : α → D) (g : β → D) (ds : List α) (es : List β) (n : Nat) : iZipJ (.lst (ds.map f)) (.lst (es.map g), n) sd = .ok ((ds.zip es).map fun p => .tup [f p.1, g p.2]) sd := by
  show R.ok (((ds.map f).zip (es.map g)).map fun p => D.tup [p.1, p.2]) sd = _
  rw [List.zip_map, List.map_map]
  rfl
def iZipK (g : Ev) : D × Nat → SD → R (List D) := fun x sd1 => (g sd1).bind (iZipJ x.1)
@[simp] theorem iZipK_ap (g : Ev) (d : D) (n : Nat) : iZipK g (d, n) sd = (g sd).bind (iZipJ d) := eqr rfl
@[simp] theorem iZip_ap (f g : Ev) : iZip' f g sd = (f sd).bind (iZipK g) := by
  unfold iZip' iZipK iZipJ
  congr
@[simp] theorem gTupRev_lst (ds : List D) : gTupRev (.lst ds) = some (.tup ds.reverse, 0) := eqr rfl
@[simp] theorem gLstRev_lst (ds : List D) : gLstRev (.lst ds) = some (.lst ds.reverse, 1) := eqr rfl
theorem gLstRg_ok {n : Int} (h0 : 0 ≤ n) (h1 : n ≤ 1000000) : gLstRg (.int n) = some (.lst ((List.range n.toNat).map fun (i : Nat) => .int (i : Int)), 1) := by
  show (if 0 ≤ n ∧ n ≤ 1000000 then some (D.lst (rngD 0 n.toNat), 1) else none) = _
  rw [if_pos ⟨h0, h1⟩]
  unfold rngD
  congr
  funext i
  rw [Int.zero_add]
/-! ### pop, an entry with a name -/
def popR (o : Option Nat) (ds : List D) (i : Nat) (sd : SD) : R (D × Nat) := match o with
  | some n => match ds[n]? with
    | some d => .ok (d, 0) (sd.set i (some (.lst (ds.eraseIdx n), 1)))
    | none => .stuck
  | none => .stuck
def popJ (d : D) (k : Nat) (i : Nat) (y : D) (sd : SD) : R (D × Nat) := match d, k, y with
  | .lst ds, 1, .int j => if 0 ≤ j ∧ j < 2 ^ 62 then popR (L2.ixN ds.length j) ds i sd else .stuck
  | _, _, _ => .stuck
theorem popJ_lst (ds : List D) (i : Nat) (j : Int) (h0 : 0 ≤ j) (h1 : j < ds.length) (h2 : ds.length ≤ 1000000) : popJ (.lst ds) 1 i (.int j) sd = .ok (gt ds j, 0) (sd.set i (some (.lst (ds.eraseIdx j.toNat), 1))) := by
  show (if 0 ≤ j ∧ j < 2 ^ 62 then popR (L2.ixN ds.length j) ds i sd else .stuck) = _
  have hj : j < 2 ^ 62 := Int.lt_of_lt_of_le h1 (Int.le_trans (show (ds.length : Int) ≤ 1000000 by omega) (by decide))
  rw [if_pos ⟨h0, hj⟩, ixN_ok h0 h1]
  have : j.toNat < ds.length := by omega
  show (match ds[j.toNat]? with
    | some d => R.ok (d, 0) (sd.set i (some (D.lst (ds.eraseIdx j.toNat), 1)))
    | none => .stuck) = _
  rw [List.getElem?_eq_getElem this]
  unfold gt
  rw [List.getD_eq_getElem?_getD, List.getElem?_eq_getElem this]
  rfl
def popK (i : Nat) : D × Nat → SD → R (D × Nat) := fun y sd1 => wS (gtS sd1 i) .stuck fun d k => popJ d k i y.1 sd1
@[simp] theorem popK_ap (i : Nat) (y : D) (n : Nat) : popK i (y, n) sd = wS (gtS sd i) .stuck fun d k => popJ d k i y sd := eqr rfl
def lstR (o : Option (D × Nat)) (y : R (D × Nat)) : R (D × Nat) := match o with
  | some (.lst _, _) => y
  | _ => .stuck
@[simp] theorem lstR_some (ds : List D) (n : Nat) (y : R (D × Nat)) : lstR (some (.lst ds, n)) y = y := eqr rfl
@[simp] theorem popv_ap (i : Nat) (fe : Ev) : popv i fe sd = lstR (gtS sd i) ((fe sd).bind (popK i)) := by
  have h : popK i = fun y sd1 => match sd1[i]?, y.1 with
    | some (some (.lst ds, 1)), .int j => if 0 ≤ j ∧ j < 2 ^ 62 then match L2.ixN ds.length j with
      | some n => match ds[n]? with
        | some d => .ok (d, 0) (sd1.set i (some (.lst (ds.eraseIdx n), 1)))
        | none => .stuck
      | none => .stuck else .stuck
    | _, _ => .stuck := by
    funext y sd1
    unfold popK gtS wS popJ popR
    cases e : sd1[i]? with
    | none => rfl
    | some x =>
      rcases x with _ | ⟨d, k⟩
      · rfl
      · obtain ⟨y1, y2⟩ := y
        cases d <;> first | rfl | (rcases k with _ | _ | k <;> first | rfl | (cases y1 <;> rfl))
  rw [h]
  unfold popv lstR gtS
  cases e : sd[i]? with
  | none => rfl
  | some x =>
    rcases x with _ | ⟨d, k⟩
    · rfl
    · cases d <;> rfl
def aliE (ib it n k : Nat) (ds : List D) (o : O) : O := match o with
  | .nx sd3 => wS (gtS sd3 ib) .stuck fun d' k' => if k' = k then .nx ((sd3.set ib none).set it (some (.lst (ds.set n d'), k + 1))) else .stuck
  | _ => .stuck
@[simp] theorem aliE_nx (ib it n k : Nat) (ds : List D) (sd3 : SD) : aliE ib it n k ds (.nx sd3) = wS (gtS sd3 ib) .stuck fun d' k' => if k' = k then .nx ((sd3.set ib none).set it (some (.lst (ds.set n d'), k + 1))) else .stuck := eqr rfl
@[simp] theorem aliE_ite (ib it n k : Nat) (ds : List D) {c : Prop} [Decidable c] (a b : O) : aliE ib it n k ds (if c then a else b) = if c then aliE ib it n k ds a else aliE ib it n k ds b := by split <;> rfl
def aliN (ib it k : Nat) (f : Sm) (ds : List D) (sd1 : SD) (o : Option Nat) : O := match o with
  | some n => match ds[n]? with
    | some d => aliE ib it n k ds (f ((sd1.set it none).set ib (some (d, k))))
    | none => .stuck
  | none => .stuck
def aliJ (ib it : Nat) (f : Sm) (d : D) (k : Nat) (y : D) (sd1 : SD) : O := match d, k, y with
  | .lst ds, k + 1, .int j => aliN ib it k f ds sd1 (L2.ixN ds.length j)
  | _, _, _ => .stuck
theorem aliJ_lst (ib it k : Nat) (f : Sm) (ds : List D) (j : Int) (h0 : 0 ≤ j) (h1 : j < ds.length) : aliJ ib it f (.lst ds) (k + 1) (.int j) sd = aliE ib it j.toNat k ds (f ((sd.set it none).set ib (some (gt ds j, k)))) := by
  show aliN ib it k f ds sd (L2.ixN ds.length j) = _
  rw [ixN_ok h0 h1]
  have : j.toNat < ds.length := by omega
  unfold aliN
  dsimp only
  rw [List.getElem?_eq_getElem this]
  unfold gt
  rw [List.getD_eq_getElem?_getD, List.getElem?_eq_getElem this]
  rfl
def aliK (ib it : Nat) (f : Sm) : D × Nat → SD → O := fun y sd1 => wS (gtS sd1 it) .stuck fun d k => aliJ ib it f d k y.1 sd1
@[simp] theorem aliK_ap (ib it : Nat) (f : Sm) (y : D) (n : Nat) : aliK ib it f (y, n) sd = wS (gtS sd it) .stuck fun d k => aliJ ib it f d k y sd := eqr rfl
@[simp] theorem zAli_ap (ib it : Nat) (fe : Ev) (f : Sm) : zAli ib it fe f sd = wS (gtS sd it) .stuck fun _ _ => (fe sd).run (aliK ib it f) := by
  have h : aliK ib it f = fun y sd1 => match sd1[it]?, y.1 with
    | some (some (.lst ds, k + 1)), .int j => match L2.ixN ds.length j with
      | some n => match ds[n]? with
        | some d => match f ((sd1.set it none).set ib (some (d, k))) with
          | .nx sd3 => match sd3[ib]? with
            | some (some (d', k')) => if k' = k then .nx ((sd3.set ib none).set it (some (.lst (ds.set n d'), k + 1))) else .stuck
            | _ => .stuck
          | _ => .stuck
        | none => .stuck
      | none => .stuck
    | _, _ => .stuck := by
    funext y sd1
    unfold aliK gtS wS aliJ aliN aliE
    cases e : sd1[it]? with
    | none => rfl
    | some x =>
      rcases x with _ | ⟨d, k⟩
      · rfl
      · obtain ⟨y1, y2⟩ := y
        cases d <;> try rfl
        rcases k with _ | k
        · rfl
        · cases y1 <;> try rfl
          dsimp only
          split
          · split
            · split
              · unfold gtS wS
                rename_i sd3 _
                cases e : sd3[ib]? with
                | none => rfl
                | some x => rcases x with _ | ⟨d, k⟩ <;> rfl
              · rfl
            · rfl
          · rfl
  rw [h]
  unfold zAli gtS wS
  cases e : sd[it]? with
  | none => rfl
  | some x => rcases x with _ | ⟨d, k⟩ <;> rfl
end
/-! ### entries of rows -/
theorem gIx_lst' {l : List D} {j : Int} (h0 : 0 ≤ j) (h1 : j < l.length) : gIx (.lst l) (.int j) = some (gt l j, 0) := by
  have := gIx_lst (l := l) id h0 h1
  rwa [List.map_id] at this
theorem gIx_tup' {l : List D} {j : Int} (h0 : 0 ≤ j) (h1 : j < l.length) : gIx (.tup l) (.int j) = some (gt l j, 0) := by
  have := gIx_tup (l := l) id h0 h1
  rwa [List.map_id] at this
theorem atI_last (l : List D) (x : D) : L2.atI (l ++ [x]) (-1) = some x := by
  unfold L2.atI L2.ixN
  rw [List.length_append, List.length_singleton, if_neg (by omega), if_pos (by omega)]
  have : (-1 + ((l.length : Int) + 1)).toNat = l.length := by omega
  simp [this]
@[simp] theorem gIx_lastL (l : List D) (x : D) : gIx (.lst (l ++ [x])) (.int (-1)) = some (x, 0) := by
  show (L2.atI (l ++ [x]) (-1)).map _ = _
  rw [atI_last]; rfl
@[simp] theorem gIx_lastT (l : List D) (x : D) : gIx (.tup (l ++ [x])) (.int (-1)) = some (x, 0) := by
  show (L2.atI (l ++ [x]) (-1)).map _ = _
  rw [atI_last]; rfl
@[simp] theorem dLook_int (ks : List Key) (ds : List D) (i : Int) : dLook (.dct ks ds) (.int i) = some (dGet ks ds (.inl i)) := eqr rfl
@[simp] theorem gInD_int (neg : Bool) (ks : List Key) (ds : List D) (i : Int) : gInD neg (.int i) (.dct ks ds) = some (.bl (if neg then !(dGet ks ds (.inl i)).isSome else (dGet ks ds (.inl i)).isSome), 0) := eqr rfl
/-! ### dicts with ints for keys, as rows of pairs -/
def kD {α : Type} (enc : α → D) (l : List (Int × α)) : D := .dct (l.map fun p => .inl p.1) (l.map fun p => enc p.2)
theorem dGet_kD {α : Type} (enc : α → D) (l : List (Int × α)) (i : Int) : dGet (l.map fun p => (.inl p.1 : Key)) (l.map fun p => enc p.2) (.inl i) = (l.lookup i).map enc := by
  induction l with
  | nil => rfl
  | cons p l ih =>
    obtain ⟨k, a⟩ := p
    rw [List.map_cons, List.map_cons]
    unfold dGet
    rw [List.lookup_cons]
    by_cases h : k = i
    · subst h
      simp
    · rw [if_neg (by simp [h]), ih]
      have : (i == k) = false := by simp; exact fun z => h z.symm
      rw [this]
@[simp] theorem dLook_kD {α : Type} (enc : α → D) (l : List (Int × α)) (i : Int) : dLook (kD enc l) (.int i) = some ((l.lookup i).map enc) := by
  show some (dGet _ _ _) = _
  rw [dGet_kD]
@[simp] theorem gInD_kD {α : Type} (neg : Bool) (enc : α → D) (l : List (Int × α)) (i : Int) : gInD neg (.int i) (kD enc l) = some (.bl (if neg then !(l.lookup i).isSome else (l.lookup i).isSome), 0) := by
  show some (D.bl (if neg then !(dGet _ _ _).isSome else (dGet _ _ _).isSome), 0) = _
  rw [dGet_kD]
  cases l.lookup i <;> rfl
theorem dPutD_new {α : Type} (enc : α → D) (l : List (Int × α)) (i : Int) (a : α) (h : l.lookup i = none) (hl : l.length ≤ 1000000) : dPutD (kD enc l) (.int i) (enc a) = some (kD enc (l ++ [(i, a)])) := by
  have hm : (.inl i : Key) ∉ l.map fun p => (.inl p.1 : Key) := by
    intro m
    obtain ⟨p, m, e⟩ := List.mem_map.mp m
    rw [List.lookup_eq_none_iff] at h
    have := h p m
    injection e with e
    simp [e] at this
  show (if (l.map fun p => (.inl p.1 : Key)).length < sizeLine then some (D.dct (dKeys _ _) (dVals _ _ _ _)) else none) = _
  rw [if_pos (by rw [List.length_map]; exact lt_line' hl)]
  unfold dKeys dVals kD
  rw [if_neg hm, if_neg hm, List.map_append, List.map_append]
  rfl
where lt_line' {n : Nat} (h : n ≤ 1000000) : n < sizeLine := Nat.lt_of_le_of_lt h (by decide)
section
variable {ws : List Nat} {g : Tg} {body : Sm} {kn kb kc : SD → FR}
/-- the first item that passes ends the loop -/
theorem for_find {α : Type} (enc : α → D) (c : α → Bool) (S : SD) (S' : α → SD) (l : List α) (h : ∀ a ∈ l, ∀ K, trn ws g body (enc a) S K kn = if c a = true then kn (S' a) else K S) :
    (forGo ws g body (l.map enc) S).fin kn kb kc = match l.find? c with | some a => kn (S' a) | none => kn S := by
  induction l with
  | nil => rfl
  | cons a l ih =>
    rw [List.map_cons, forGo_cons, h a List.mem_cons_self, List.find?_cons]
    by_cases e : c a = true
    · rw [if_pos e, e]
    · rw [if_neg e, ih fun b m => h b (List.mem_cons_of_mem _ m)]
      have : c a = false := by cases q : c a; rfl; exact absurd q e
      rw [this]
theorem for_ret {α : Type} (enc : α → D) (c : α → Bool) (S : SD) (w : α → FR) (l : List α) (h : ∀ a ∈ l, ∀ K, trn ws g body (enc a) S K kn = if c a = true then w a else K S) :
    (forGo ws g body (l.map enc) S).fin kn kb kc = match l.find? c with | some a => w a | none => kn S := by
  induction l with
  | nil => rfl
  | cons a l ih =>
    rw [List.map_cons, forGo_cons, h a List.mem_cons_self, List.find?_cons]
    by_cases e : c a = true
    · rw [if_pos e, e]
    · rw [if_neg e, ih fun b m => h b (List.mem_cons_of_mem _ m)]
      have : c a = false := by cases q : c a; rfl; exact absurd q e
      rw [this]
end
section
variable {ws : List Nat} {g : Tg} {body : Sm}
theorem forO_gen {α β : Type} (enc : α → D) (S : β → SD) (P : List α → β → Prop) (f : β → α → β) (h : ∀ a l b, P (a :: l) b → P l (f b a) ∧ trnO ws g body (enc a) (S b) = .nx (S (f b a))) : ∀ (l : List α) (b : β), P l b →
    forGo ws g body (l.map enc) (S b) = .nx (S (l.foldl f b)) ∧ P [] (l.foldl f b)
  | [], b, hp => ⟨rfl, hp⟩
  | a :: l, b, hp => by
    obtain ⟨p, q⟩ := h a l b hp
    have ih := forO_gen enc S P f h l _ p
    rw [List.foldl_cons]
    refine ⟨?_, ih.2⟩
    · rw [List.map_cons]
      have e : forGo ws g body (enc a :: l.map enc) (S b) = forGo ws g body (l.map enc) (S (f b a)) := by
        unfold trnO goO trnOK O.lp at q
        show (match g (enc a) (S b) with
          | none => O.stuck
          | some sd1 => match body sd1 with
            | .nx sd2 => forGo ws g body (l.map enc) (wp sd2 ws)
            | .ct sd2 => forGo ws g body (l.map enc) (wp sd2 ws)
            | .bk sd2 => .nx (wp sd2 ws)
            | o => o) = _
        cases eg : g (enc a) (S b) with
        | none => rw [eg] at q; cases q
        | some s =>
          rw [eg] at q
          dsimp only at q ⊢
          cases eb : body s with
          | nx s2 => rw [eb] at q; dsimp only at q ⊢; injection q with q; rw [q]
          | ct s2 => rw [eb] at q; dsimp only at q ⊢; injection q with q; rw [q]
          | bk s2 => rw [eb] at q; cases q
          | rt w s2 => rw [eb] at q; cases q
          | ex x s2 => rw [eb] at q; cases q
          | stuck => rw [eb] at q; cases q
      rw [e]
      exact ih.1
end
end VS
/-! a try whose clauses may have names; the exception is known to the heap while a suite runs -/
namespace VS
open PySem PySem.Spec L2 PyProof.Rows
def tru : HO := .ext fun _ => True
section
variable {X : Cx} {pins : List (Addr × Obj)} {σ : L2.St} {H : Hp} {s : Shared}
theorem inv_track {a : Addr} {oe : Obj} {vs : Array Value} (I : Inv X pins σ H s) (ha : s.heap.get? a = some oe) (hd : oe.data = .fields vs) (na : H a = none) (n0 : X.s_0.heap.get? a = none) (nL : a ≠ X.env.locals) (np : ∀ p ∈ X.pn ++ pins, p.1 ≠ a) :
    Inv X pins σ (upd H a (.frz oe tru)) s := by
  have ne : ∀ {b : Addr} {o : HO}, H b = some o → b ≠ a := fun q => ne_of_none q na
  refine ⟨I.ok, I.os, I.bare, ⟨I.base.keep, I.base.slot, fun b o e n hx => ?_, I.base.there, fun b xs e => ?_, fun b o u e => ?_, fun b ps e => ?_⟩, I.loc, I.cell, ?_, fun x c e => ?_, fun p hp => ?_, fun b u e => ?_, I.len⟩
  · rw [upd_ne fun z => by rw [z, n0] at e; cases e]
    exact I.base.free b o e n hx
  · have q := I.base.tups b xs e
    rw [upd_ne (ne q)]; exact q
  · have q := I.base.frzs b o u e
    rw [upd_ne (ne q)]; exact q
  · obtain ⟨m, q⟩ := I.base.tbls b ps e
    exact ⟨m, by rw [upd_ne (ne q)]; exact q⟩
  · rw [upd_ne (Ne.symm nL)]; exact I.free
  · rw [upd_ne fun z => ?_]
    · exact I.freeC x c e
    · obtain ⟨v, o, ho, hc⟩ := I.cell x c e
      rw [z, ha] at ho
      cases ho
      rw [hd] at hc
      cases hc
  · obtain ⟨e, n, q⟩ := I.pin p hp
    exact ⟨e, by rw [upd_ne (np p hp)]; exact n, q⟩
  · by_cases hb : b = a
    · subst hb
      rw [upd_same] at e
      cases e
      exact ⟨ha, trivial, ⟨_, ha⟩, fun _ _ _ _ => trivial⟩
    · rw [upd_ne hb] at e
      exact (I.hok b u e).stay (fun c v _ q => q) (fun c q => by rw [upd_ne (ne q)]; exact q) fun c xs q => by rw [upd_ne (ne q)]; exact q
theorem inv_suite (I : Inv X pins σ H s) (a : Addr) : Inv (X.suite a (X.pn ++ pins)) [] σ H s :=
  ⟨I.ok.suite _ _, I.os, I.bare, I.base, I.loc, I.cell, I.free, I.freeC, fun p hp => I.pin p (by have hp' : p ∈ (X.pn ++ pins) ++ [] := hp; rw [List.append_nil] at hp'; exact hp'), I.hok, I.len⟩
theorem inv_unsuite {a : Addr} {pn' : List (Addr × Obj)} (I : Inv (X.suite a (X.pn ++ pins)) pn' σ H s) (ok : X.Ok) : Inv X pins σ H s :=
  ⟨ok, I.os, I.bare, I.base, I.loc, I.cell, I.free, I.freeC, fun p hp => I.pin p (List.mem_append_left _ hp), I.hok, I.len⟩
end
/-- the ends of a suite whose exception has the name in slot n -/
def enD : Option Nat → Ends → Ends
  | none, D => D
  | some i, D => { nx := fun σ' H' => D.nx (σ'.set i none) H', rt := D.rt, bk := fun σ' H' => D.bk (σ'.set i none) H', ct := fun σ' H' => D.ct (σ'.set i none) H' }
def stD : Option Nat → L2.St → Addr → L2.St
  | none, σ, _ => σ
  | some i, σ, a => σ.set i (some (.ref a))
abbrev TX := Addr → Obj → Value → Option Addr → TS
def wTry (K : PySem.W.Frag) (Wout : WX) (D : Ends) : List (Value × Option Nat × TX) → WX
  | [] => Wout
  | (c, n, ts) :: r => fun cls d σ H => ∃ b, PySem.W.exmOne K cls c = some b ∧
      (b = true → ∀ a oe, H a = none → Zc cls d oe → (∃ vs, oe.data = .fields vs) → ts a oe cls d (enD n D) (stD n σ a) (upd H a (.frz oe tru))) ∧ (b = false → wTry K Wout D r cls d σ H)
inductive HdT (X : Cx) : List ExceptHandler → List (Value × Option Nat × TX) → Prop
  | nil : HdT X [] []
  | cons {x : Str} {c : Value} {ts : TX} {b₀ : Stmt} {suite : List Stmt} {np pos' : Pos} {hds : List ExceptHandler} {l : List (Value × Option Nat × TX)} (hc : Names X x c)
      (hsu : ∀ (a : Addr) (oe : Obj) (cls : Value) (d : Option Addr) (pn : List (Addr × Obj)), PSs (X.suite a pn) (b₀ :: suite) (ts a oe cls d)) (r : HdT X hds l) :
      HdT X (.ExceptHandler (some (.Name x np)) none (b₀ :: suite) pos' :: hds) ((c, none, ts) :: l)
  | as {x n : Str} {i : Nat} {c : Value} {ts : TX} {b₀ : Stmt} {suite : List Stmt} {np pos' : Pos} {hds : List ExceptHandler} {l : List (Value × Option Nat × TX)} (hi : X.N[i]? = some n) (hln : X.env.kindOf n = some .local) (hc : Names X x c)
      (hsu : ∀ (a : Addr) (oe : Obj) (cls : Value) (d : Option Addr) (pn : List (Addr × Obj)), PSs (X.suite a pn) (b₀ :: suite) (ts a oe cls d)) (r : HdT X hds l) :
      HdT X (.ExceptHandler (some (.Name x np)) (some n) (b₀ :: suite) pos' :: hds) ((c, some i, ts) :: l)
section
variable {X : Cx} {body : List Stmt} {h₀ : ExceptHandler} {hds : List ExceptHandler} {l : List (Value × Option Nat × TX)} {pos : Pos} {tb : WX → TS} {Wout : WX}
theorem ps_tryT (hs : X.stack = X.env :: X.outer) (hf : X.env.frame = some X.env.locals) (hN : X.N.Nodup) (hx : X.ex = []) (tk : Takes X Wout)
    (hb : ∀ (W : WX) (pn : List (Addr × Obj)) (xe : Value → Shared → Prop), Takes (X.tr pn xe) W → PassesOwn (model X.prog X.w) X.A X.env xe → PSs (X.tr pn xe) body (tb W))
    (hh : HdT X (h₀ :: hds) l) : PS X (.Try body (h₀ :: hds) [] [] pos) (fun D σ H => tb (wTry X.K Wout D l) D σ H) := by
  refine ⟨fun pins s σ H D I h => ?_⟩
  have ok := I.ok
  have hfr : X.A.frames = some (X.env :: X.outer) := by rw [ok.frames, hs]
  refine wpAny_Try_except ?_
  refine wpAny_mono ((hb (wTry X.K Wout D l) (X.pn ++ pins) (fun e s₁ => wpAny (model X.prog X.w) X.A (noteFrame e X.env) (fun _ s₂ => wpAny (model X.prog X.w) X.A (setFlight e none) (fun _ s₃ =>
    wpAny (model X.prog X.w) X.A (handleBy e X.env (h₀ :: hds)) (SP X pins D) X.xe s₃) X.xe s₂) X.xe s₁) (fun u s' xx => ?_) PassesOwn.looking).run [] s σ H D (I.toTry _) h) (fun f s1 hsp => ?_) (fun e s1 he => he)
  · obtain ⟨a, B, sI, pins', σ', H', cls, d, rfl, J', nb, up, sky, na, os, ag, w⟩ := xx
    have J : Inv X pins σ' H' sI := J'.ofTry ok
    have sky' : Sky B (X.env :: X.outer) a (Zc cls d) X.env.locals s'.heap := by rw [← hs]; exact sky
    show wpAny (model X.prog X.w) X.A (noteFrame (.ref a) X.env) _ _ _
    refine Sky.land Zc.steady hfr hf sky' fun h3 fl3 up3 => ?_
    have J3 : Inv X pins σ' H' { s' with heap := h3 } := J.landed nb fl3.1 (up.trans up3) os ag
    obtain ⟨oe3, vs3, he3, hz3, hd3⟩ := fl3.there
    have nfr : a ∉ frs (X.env :: X.outer) := fun hm => by
      obtain ⟨_, o', e', hnf⟩ := fl3.2.2.1.mem hm
      rw [he3] at e'; cases e'
      exact hnf _ hd3
    have nL : a ≠ X.env.locals := fun z => nfr (List.mem_filterMap.mpr ⟨X.env, List.mem_cons_self, by rw [hf, z]⟩)
    have nI : sI.heap.get? a = none := by
      cases e : sI.heap.get? a with
      | none => rfl
      | some o =>
        have q := nb a o e (by rw [hs]; exact nfr)
        rw [fl3.2.1] at q
        cases q
    have n0 : X.s_0.heap.get? a = none := by
      cases e : X.s_0.heap.get? a with
      | none => rfl
      | some o =>
        obtain ⟨o', q⟩ := J.base.there a o e (by rw [hx]; exact List.not_mem_nil)
        rw [nI] at q
        cases q
    have np : ∀ p ∈ X.pn ++ pins, p.1 ≠ a := fun p hp z => by
      have q := (J.pin p hp).1
      rw [z, nI] at q
      cases q
    have T : ∀ {h4 : Heap} {oe4 : Obj} {vs4 : Array Value}, Inv X pins σ' H' { s' with heap := h4 } → h4.get? a = some oe4 → oe4.data = .fields vs4 → Inv (X.suite a (X.pn ++ pins)) [] σ' (upd H' a (.frz oe4 tru)) { s' with heap := h4 } :=
      fun J4 he hd => inv_suite (inv_track J4 he hd na n0 nL np) a
    have S3 := T J3 he3 hd3
    have go : ∀ {hds' : List ExceptHandler} {l' : List (Value × Option Nat × TX)}, HdT X hds' l' → wTry X.K Wout D l' cls d σ' H' →
        wpAny (model X.prog X.w) X.A (handleBy (.ref a) X.env hds') (SP X pins D) X.xe { s' with heap := h3 } := by
      intro hds' l' hk
      have LT : PySem.W.Looks (model X.prog X.w) h3 (typeOf (.ref a)) cls := fun A Q E s k q => wpAny_typeOf_ref (k _ _ he3) (by rw [hz3.1]; exact q)
      have test : ∀ {x : Str} {np : Pos} {c : Value} {Q : Value → Shared → Prop} {E : Value → Shared → Prop}, Names X x c → Q c { s' with heap := h3 } → wpAny (model X.prog X.w) (X.A.mark (some (.ref a))) (eval (.Name x np) X.env) Q E { s' with heap := h3 } := fun {x np c Q E} hc q => by
        obtain ⟨hg, hdbg, hm | ⟨hm, hv, hnn⟩⟩ := hc
        · exact ld_glob (X := X.suite a (X.pn ++ pins)) S3 hg hm q hdbg
        · exact ld_blt (X := X.suite a (X.pn ++ pins)) S3 hg hm hv q hnn hdbg
      induction hk with
      | nil =>
        intro w
        refine wpAny_handleBy_nil ?_
        obtain ⟨k1, k2, k3, oe, vs, T0, oT, ts', he, hz, hd, h1, hr⟩ := id fl3
        unfold PySem.passOn
        refine wpAny_bind (wpAny_field he hd h1 ?_)
        rw [if_neg (show ¬ ((Value.ref T0 == Value.none) = true) from by simp)]
        have fin : wpAny (model X.prog X.w) X.A (setFlight (.ref a) X.env.frame) (fun _ s4 => wpAny (model X.prog X.w) X.A (throw (.ref a) : Sem Flow) (SP X pins D) X.xe s4) X.xe { s' with heap := h3 } := by
          rw [hf]
          refine HandSPX.setFlight_upZ fl3 fun h4 hh4 up4 => wpAny_throw (tk _ _ ?_)
          exact ⟨a, B, sI, pins, σ', H', cls, d, rfl, J, nb, (up.trans up3).trans up4, .inr (.inr (by rw [hs]; exact hh4)), na, os, ag, w⟩
        first
          | exact wpAny_bind (wpAny_pure (wpAny_bind fin))
          | exact wpAny_bind fin
      | @cons x c ts b₀ suite np' pos' hds2 l2 hc hsu r ih =>
        intro w
        obtain ⟨b, hb1, hyes, hno⟩ := w
        refine wpAny_handleBy_cons (codeAny_handlers_test ?_) (by intro q; cases q)
        refine test hc ((PySem.W.exm_one (M := model X.prog X.w) (J3.kIn) LT hb1).here ?_)
        cases b with
        | true =>
          refine codeAny_handlers_suite ?_
          refine HandSPX.lands_againZ fl3 fun h4 fl4 up4 => ?_
          obtain ⟨oe4, vs4, he4, hz4, hd4⟩ := fl4.there
          have S4 := T (J.landed nb fl4.1 ((up.trans up3).trans up4) os ag) he4 hd4
          refine wpAny_mono ((hsu a oe4 cls d (X.pn ++ pins)).run [] _ _ _ _ S4 (hyes rfl a oe4 na hz4 ⟨_, hd4⟩)) (fun f s6 hsp => ?_) (fun _ _ z => False.elim z)
          cases f with
          | next =>
            obtain ⟨σ6, H6, S6, q6⟩ := hsp
            exact ⟨_, _, inv_unsuite S6 ok, q6⟩
          | brk =>
            obtain ⟨σ6, H6, S6, q6⟩ := hsp
            exact ⟨_, _, inv_unsuite S6 ok, q6⟩
          | cont =>
            obtain ⟨σ6, H6, S6, q6⟩ := hsp
            exact ⟨_, _, inv_unsuite S6 ok, q6⟩
          | ret u =>
            obtain ⟨v6, σ6, H6, S6, r6, q6⟩ := hsp
            exact ⟨_, _, _, inv_unsuite S6 ok, r6, q6⟩
        | false => exact ih (hno rfl)
      | @as x n i c ts b₀ suite np' pos' hds2 l2 hi hln hc hsu r ih =>
        intro w
        obtain ⟨b, hb1, hyes, hno⟩ := w
        refine wpAny_handleBy_cons (codeAny_handlers_test ?_) (by intro q; cases q)
        refine test hc ((PySem.W.exm_one (M := model X.prog X.w) (J3.kIn) LT hb1).here ?_)
        cases b with
        | true =>
          refine codeAny_handlers_suite_as ?_
          refine HandSPX.lands_againZ fl3 fun h4 fl4 up4 => ?_
          obtain ⟨oe4, vs4, he4, hz4, hd4⟩ := fl4.there
          have S4 := T (J.landed nb fl4.1 ((up.trans up3).trans up4) os ag) he4 hd4
          refine store_ok (X := X.suite a (X.pn ++ pins)) (v := .ref a) S4 hN hi (.inl hln) rfl (fun s5 S5 => ?_) (.inr hln)
          refine wpAny_mono ((hsu a oe4 cls d (X.pn ++ pins)).run [] s5 _ _ _ S5 (hyes rfl a oe4 na hz4 ⟨_, hd4⟩)) (fun f s6 hsp => ?_) (fun _ _ z => False.elim z)
          have end_ : ∀ {σ6 : L2.St} {H6 : Hp} {Q : Shared → Prop}, Inv (X.suite a (X.pn ++ pins)) [] σ6 H6 s6 → (∀ s7, Inv X pins (σ6.set i none) H6 s7 → Q s7) →
              wpAny (model X.prog X.w) X.A (do bindName X.env n .none; unbindBehindTheSuite X.env n pos') (fun _ s7 => Q s7) X.xe s6 := fun {σ6 H6 Q} S6 hq => gone_ok (inv_unsuite S6 ok) hN hi hln hq
          cases f with
          | next =>
            obtain ⟨σ6, H6, S6, q6⟩ := hsp
            exact end_ S6 fun s7 J7 => ⟨_, _, J7, q6⟩
          | brk =>
            obtain ⟨σ6, H6, S6, q6⟩ := hsp
            exact end_ S6 fun s7 J7 => ⟨_, _, J7, q6⟩
          | cont =>
            obtain ⟨σ6, H6, S6, q6⟩ := hsp
            exact end_ S6 fun s7 J7 => ⟨_, _, J7, q6⟩
          | ret u =>
            obtain ⟨v6, σ6, H6, S6, r6, q6⟩ := hsp
            exact end_ S6 fun s7 J7 => ⟨_, _, _, J7, r6, q6⟩
        | false => exact ih (hno rfl)
    exact go hh w
  · cases f with
    | next =>
      obtain ⟨σ', H', J', q⟩ := hsp
      exact wpAny_execs_nil ⟨σ', H', J'.ofTry ok, q⟩
    | brk =>
      obtain ⟨σ', H', J', q⟩ := hsp
      exact ⟨σ', H', J'.ofTry ok, q⟩
    | cont =>
      obtain ⟨σ', H', J', q⟩ := hsp
      exact ⟨σ', H', J'.ofTry ok, q⟩
    | ret u =>
      obtain ⟨v, σ', H', J', r, q⟩ := hsp
      exact ⟨v, σ', H', J'.ofTry ok, r, q⟩
end
end VS
/-! an own exception class over ValueError (maybe with own classes between) whose __init__ says super().__init__('..'); self.f = f -/
namespace PySem
namespace VX
open PySem.W PySem.Calls PyProof.Rows PySem.HandSPX
def iA (f : Str) (p1 p2 : Pos) : Arguments := { posonlyargs := [], args := [{ arg := "self", annotation := none, pos := p1 }, { arg := f, annotation := none, pos := p2 }], vararg := none, kwonlyargs := [], kw_defaults := [], kwarg := none, defaults := [] }
def iB (f m : Str) (j : Nat) (p0 p1 p2 p3 p4 p5 q1 q2 q3 q4 : Pos) : List Stmt :=
  [.Expr (.Call (.Attribute (.Call (.Name "super" p0) [] [] p1) "__init__" p2) [.Constant (.str m) j p3] [] p4) p5, .Assign [.Attribute (.Name "self" q1) f q2] (.Name f q3) q4]
def iS (f : Str) : Scope := { kind := .function, names := [(PySem.Str.ofString "self", .local), (f, .local), (PySem.Str.ofString "__class__", .free), (PySem.Str.ofString "super", .globalImplicit)], isGenerator := false, isCoroutine := false, more := [] }
/-- what the written part says of the class, at C, and of its __init__, at fI -/
structure Txt (prog : Program) (K : Frag) (mg : Str → Option Value) (f : Str) (C fI : Addr) : Prop where
  cls : ∃ nm q N bs bm sn sub ab col dd k0 k1 k2 k3 k5, K.lookup C = some (excClassObj nm q C N bs bm true sn sub ab col dd k0 k1 k2 k3 k5 "ValueError.__new__") ∧ refsVE bm = true
  sa : findIn K (.ref C) "__setattr__" = some (some (.builtin "object.__setattr__"))
  noN : findIn K (.ref C) f = some none
  iC : findIn K (.ref C) "__init__" = some (some (.ref fI))
  tC : typeIn K (.ref fI) = some (.type "function")
  kC : keepIn K (.ref C) = true
  exC : subIn K (.ref C) (.type "BaseException") = some true
  veC : subIn K (.ref C) (.type "ValueError") = some true
  tyC : typeIn K (.ref C) = some (.type "type")
  inC : excInitIn K C [.type "ValueError", .type "Exception", .type "BaseException", .type "object"] "ValueError.__new__" = true
  sup : ks_superIn K C C "__init__" = some (some (.builtin "ValueError.__init__"))
  mro : mroIn K C (.ref C) = some true
  cs : nsIn K cStatics "thirdparty.any" = some none
  sm : mg "super" = none
  bnd : ∀ (q : Str) (r1 r2 : Pos) (body : List Stmt) (doc pm : Value) (an : Option Addr) (cdv ct : Value) (cc : Addr) (a b : Value), bindArgs (ksFn "__init__" q (iA f r1 r2) body (iS f) .none .none doc pm an cdv ct cc) ⟨[a, b], []⟩ = pure [(("self" : Str), a), (f, b)]
  top : (prog.main.scope.names.lookup ("super" : Str)).isSome = false
  fn : ∃ (oc ccl cl : Value) (od cdd cld : Option Addr) (doc pm : Value) (an : Option Addr) (cda cc : Addr) (ct : Value) (osl ccs csl : Array (Option Value)) (q : Str) (m : Str) (j : Nat) (r1 r2 p0 p1 p2 p3 p4 p5 q1 q2 q3 q4 : Pos) (vs : Array Value) (file : Str) (tf : Tok),
    K.lookup fI = some ⟨oc, od, .func (ksFn "__init__" q (iA f r1 r2) (iB f m j p0 p1 p2 p3 p4 p5 q1 q2 q3 q4) (iS f) .none .none doc pm an (.ref cda) ct cc), osl⟩ ∧ codeIn K (.ref cda) q = true ∧
      K.lookup cda = some ⟨ccl, cdd, .fields vs, ccs⟩ ∧ vs[2]? = some (.str file tf) ∧ ((prog.main.file : Str) == file) = true ∧ K.lookup cc = some ⟨cl, cld, .cell (some (.ref C)), csl⟩ ∧
      ∀ env : Env, ∃ pl : Sem Bool, eval (.Call (.Attribute (.Call (.Name "super" p0) [] [] p1) "__init__" p2) [.Constant (.str m) j p3] [] p4) env = (do
        let ov ← attributeBase (.Call (.Name "super" p0) [] [] p1) "__init__" env (eval (.Call (.Name "super" p0) [] [] p1) env)
        standAt p2.atName
        let (f, first) ← holding [ov] (getMethod ov "__init__" pl)
        callWith p4 f first (backTo p4 (starEach [.Constant (.str m) j p3] env)) [])
section
variable {prog : Program} {w : World} {A : Around} {E : Value → Shared → Prop} {R : Result → Shared → Prop} {s : Shared} {K : Frag} {mg mb : Str → Option Value} {f : Str} {C fI : Addr}
theorem ini (T : Txt prog K mg f C fI) (f1 : f ≠ "self") (f2 : f ≠ "__class__") (f3 : f ≠ "super") (f4 : (f == ("__debug__" : Str)) = false) {x t0 : Addr} {v : Value} (X : K.In s.heap) (G : s.heap.Ns mainGlobals mg) (Bl : s.heap.Ns builtinsNs mb) (Bs : mb "super" = some (.type "super")) (hlim : s.heap.NoLimit) (hx : s.heap.get? x = some (excO C t0)) (hnx : K.lookup x = none) (hroom : A.depth < recursionLimit)
    (hq : ∀ h' tk dx t1, (∀ b o, b ≠ x → s.heap.get? b = some o → h'.get? b = some o) → h'.get? x = some { cls := .ref C, dict := some dx, data := .fields #[.ref t1, .none, .none, .none, .bool false, .none] } → s.heap.objs.size ≤ dx → dx ≠ x → h'.Ns1 dx (fun y => if y = f then some v else none) → R (.ok (.ret .none)) { s with heap := h', toks := tk }) :
    codeAny (model prog w) A (.call (.ref fI) ⟨[.ref x, v], []⟩) R s := by
  obtain ⟨hp, gg, dr, tk, os⟩ := s
  obtain ⟨oc, ccl, cl, od, cdd, cld, doc, pm, an, cda, cc, ct, osl, ccs, csl, q, m, j, r1, r2, p0, p1, p2, p3, p4, p5, q1, q2, q3, q4, vs, file, tf, ho, hcd, hcode, hvs, hfile, hcell, hev⟩ := T.fn
  obtain ⟨nm, qn, N, bs, bm, sn, sub, ab, col, dd, k0, k1, k2, k3, k5, hC, hbm⟩ := T.cls
  have hcl : clsIn K C = some { name := nm, bases := bs, mro := .ref C :: bm, ns := N, qualname := qn, hasDict := true, slotNames := sn, subclasses := sub, abstract := ab, collection := col, hasDel := false } := by unfold clsIn; rw [hC] <;> rfl
  have hxC : x ≠ C := fun z => by rw [z, hC] at hnx; cases hnx
  have nf : ∀ y ∈ (iS f).names, y.2 ≠ .cell := fun y hy => by
    simp only [iS, List.mem_cons, List.not_mem_nil, or_false] at hy
    rcases hy with rfl | rfl | rfl | rfl <;> exact fun z => NameKind.noConfusion z
  have kS : (iS f).names.lookup ("self" : Str) = some .local := by simp [iS, List.lookup]
  have kF : (iS f).names.lookup f = some .local := by
    have e : (f == PySem.Str.ofString "self") = false := by simpa using f1
    simp [iS, List.lookup, e]
  have kC : (iS f).names.lookup ("__class__" : Str) = some .free := by
    have e : (PySem.Str.ofString "__class__" == f) = false := by simpa using Ne.symm f2
    have e2 : (PySem.Str.ofString "__class__" == PySem.Str.ofString "self") = false := by decide
    simp [iS, List.lookup, e, e2]
  have kU : (iS f).names.lookup ("super" : Str) = some .globalImplicit := by
    have e : (PySem.Str.ofString "super" == f) = false := by simpa using Ne.symm f3
    have e2 : (PySem.Str.ofString "super" == PySem.Str.ofString "self") = false := by decide
    have e3 : (PySem.Str.ofString "super" == PySem.Str.ofString "__class__") = false := by decide
    simp [iS, List.lookup, e, e2, e3]
  refine ks_codeAny_call_defAt (binds := [("self", .ref x), (f, v)]) hroom (X _ _ ho) rfl hlim (codeRec_of X hcd) rfl (BindsTo.of_eq ?_) nf (fun y hy => ?_) (fun h₁ hns hk₁ => ?_)
  · exact T.bnd _ _ _ _ _ _ _ _ _ _ _ _
  · simp only [List.mem_cons, List.not_mem_nil, or_false] at hy
    rcases hy with rfl | rfl
    · exact kS
    · exact kF
  have up : ∀ b o, b ≠ x → hp.get? b = some o → h₁.get? b = some o := fun b o _ e => hk₁ b o e
  have X₁ : K.In h₁ := X.keeps hk₁
  have hx₁ := hk₁ _ _ hx
  have I₁ : InstAt h₁ x (excO C t0) C none := ⟨hx₁, rfl, rfl, trivial⟩
  -- super().__init__('..')
  obtain ⟨pl, hpl⟩ := hev (callEnv (ksFn "__init__" q (iA f r1 r2) (iB f m j p0 p1 p2 p3 p4 p5 q1 q2 q3 q4) (iS f) .none .none doc pm an (.ref cda) ct cc) hp.objs.size fI)
  refine ks_wpAt_execs_cons (ks_wpAt_Expr_any (ks_wpAt_MethodCall (pl := pl) ?_ hpl))
  refine ks_wpAt_super_base (f := fI) (cc := cda) (ar := { arg := "self", annotation := none, pos := r1 }) kU kC (by decide) rfl (X₁ _ _ ho) rfl rfl rfl (X₁ _ _ hcode) rfl hvs hfile T.top ?_
  have hL : x ≠ hp.objs.size := Nat.ne_of_lt (Heap.lt_size hx)
  have h0k : ∀ b o, b ≠ x → hp.get? b = some o → (hideAll hp [x]).get? b = some o := fun b o hb e => hideAll_get _ e (by simp [hb])
  have h0x : (hideAll hp [x]).get? x = none := hideAll_none _ (by simp)
  have X0 : K.In (hideAll hp [x]) := fun b o e => h0k b o (fun z => by rw [z, hnx] at e; cases e) (X _ _ e)
  refine ks_loadName_global rfl kU (loadGlobal_builtin (G.keeps hk₁) T.sm (Bl.keeps hk₁) Bs ⟨rfl, ?_⟩)
  refine wpAny_loadName_free rfl kC rfl ⟨_, X₁ _ _ hcell, rfl⟩ ?_
  refine wpAny_loadName_local rfl kS hns (v := .ref x) ?_ ?_
  · have e : (PySem.Str.ofString "self" == f) = false := by simpa using Ne.symm f1
    simp [List.lookup, e]
  refine ks_wpAny_isType_cls (X₁ _ _ hC) rfl ⟨rfl, ?_⟩
  refine ks_wpAny_call_super (X₁ _ _ hC) rfl hx₁ rfl (fun c e => by cases e) (looks_mroIn X₁ T.mro) (fun h2 e2 k2 => ?_)
  have X₂ : K.In h2 := X₁.keeps k2
  have I₂ : InstAt h2 x (excO C t0) C none := ⟨k2 _ _ hx₁, rfl, rfl, trivial⟩
  have hsup : alongIn K "__init__" (((Value.ref C :: bm).dropWhile (· != .ref C)).drop 1) = some (some (.builtin "ValueError.__init__")) := by
    have q := T.sup
    unfold ks_superIn at q
    rw [hcl] at q
    exact q
  refine kxs_getMethod kxs_ValueError e2 (looks_opaque X₂ T.cs) (l₀ := .ref C :: bm) (fun A Q E s k q => wpAny_bind ((looks_clsIn X₂ hcl) A _ E s k (wpAny_pure q))) rfl X₂ hsup (I₂.type.andThen (looks_subIn X₂ T.veC)) hxC (by decide) ?_
  have k3 : ∀ b o, h2.get? b = some o → (h2.push (kxs_mw "ValueError.__init__" x)).get? b = some o := fun b o e => Heap.get?_push_of_some _ e
  have hn3 := (hns.keeps k2).keeps k3
  have F3 : Fr (hideAll hp [x]) hp.objs.size (h2.push (kxs_mw "ValueError.__init__" x)) (fun y => [(("self" : Str), .ref x), (f, v)].reverse.lookup y) := ⟨hn3, fun b o e => k3 _ _ (k2 _ _ (hk₁ _ _ (of_hideAll _ e))), Nat.le_of_eq (hideAll_size _ _)⟩
  have N3 : News (hideAll hp [x]) hp.objs.size (h2.push (kxs_mw "ValueError.__init__" x)) [(h2.objs.size, kxs_mw "ValueError.__init__" x), (x, excObj C t0 none .none)] := by
    intro p hp'
    simp only [List.mem_cons, List.not_mem_nil, or_false] at hp'
    rcases hp' with rfl | rfl
    · have lt : hp.objs.size < h2.objs.size := (hns.keeps k2).lt
      refine ⟨Heap.get?_push_at rfl rfl, Nat.ne_of_gt lt, ?_⟩
      cases z : (hideAll hp [x]).get? h2.objs.size with
      | none => rfl
      | some o => exact absurd (Nat.lt_trans lt (Heap.lt_size (of_hideAll _ z))) (Nat.lt_irrefl _)
    · exact ⟨k3 _ _ (k2 _ _ hx₁), hL, h0x⟩
  refine kxs_callWith1 N3 List.mem_cons_self ?_
  show wpAny _ _ (spliced ((false, eval (.Constant (.str m) j p3) _) :: backTo p4 (starEach [] _))) _ _ _
  refine Calls.spliced_cons (Calls.Constant_str ?_)
  refine Calls.spliced_nil ⟨kxs_at N3 List.mem_cons_self, ?_⟩
  refine kxs_call F3 X0 N3 PySem.F.excBase_ValueError T.inC List.mem_cons_self (.tail (fun z => ?_) (.head fun _ q => nomatch q)) (by show 1 ≤ sizeLine; rw [sizeLine_eq]; decide) fun t' h4 F4 N4 lt4 => ?_
  · have lt : hp.objs.size < h2.objs.size := (hns.keeps k2).lt
    have lx := Heap.lt_size hx
    have z' : h2.objs.size = x := z
    rw [z'] at lt
    exact absurd (Nat.lt_trans lt lx) (Nat.lt_irrefl _)
  have hx4 : h4.get? x = some (excO C t') := (N4 (x, excObj C t' none .none) (by simp)).1
  have k4 : ∀ b o, b ≠ x → hp.get? b = some o → h4.get? b = some o := fun b o hb e => F4.keep _ _ (h0k b o hb e)
  have X4 : K.In h4 := X0.keeps F4.keep
  have hn4 := F4.ns
  refine wpAt_of_wpAny ?_
  refine wpAny_execs_cons (plainObj_wpAny_Assign_Attribute ?_)
  refine wpAny_Name (wpAny_loadName_local rfl kF hn4 (v := v) ?_ ?_) f4
  · simp [List.lookup]
  refine wpAny_Name (wpAny_loadName_local rfl kS hn4 (v := .ref x) ?_ ?_) (by decide)
  · have e : (PySem.Str.ofString "self" == f) = false := by simpa using Ne.symm f1
    simp [List.lookup, e]
  refine set_plain X4 (ox := excO C t') (od := none) ⟨hx4, rfl, rfl, trivial⟩ T.sa ?_
  refine exc_osa X4 hx4 hcl (show refsVE (.ref C :: bm) = true from hbm) rfl T.noN (fun h5 tk5 dx k5 dn dne hx5 hn5 => ?_)
  refine wpAny_execs_nil ?_
  have z : hp.objs.size < h4.objs.size := hn4.lt
  exact hq h5 tk5 dx t' (fun b o hb e => k5 b o hb (k4 b o hb e)) hx5 (Nat.le_of_lt (Nat.lt_of_lt_of_le z dn)) dne hn5
/-- a made exception -/
structure Made (h h' : Heap) (e C d : Addr) (f : Str) (v : Value) : Prop where
  keep : ∀ b o, h.get? b = some o → h'.get? b = some o
  new : h.objs.size ≤ e
  obj : ∃ oe vs, h'.get? e = some oe ∧ oe.cls = .ref C ∧ oe.dict = some d ∧ oe.data = .fields vs ∧ vs[1]? = some .none
  dbig : h.objs.size ≤ d
  dne : d ≠ e
  ns : h'.Ns1 d (fun y => if y = f then some v else none)
theorem made (T : Txt prog K mg f C fI) (f1 : f ≠ "self") (f2 : f ≠ "__class__") (f3 : f ≠ "super") (f4 : (f == ("__debug__" : Str)) = false) {v : Value} (X : K.In s.heap) (G : s.heap.Ns mainGlobals mg) (Bl : s.heap.Ns builtinsNs mb) (Bs : mb "super" = some (.type "super")) (hlim : s.heap.NoLimit) (hroom : A.depth + 1 < recursionLimit)
    (hq : ∀ h' tk e d, Made s.heap h' e C d f v → R (.ok (.ret (.ref e))) { s with heap := h', toks := tk }) :
    codeAny (model prog w) A (.call (.ref C) ⟨[v], []⟩) R s := by
  obtain ⟨nm, q, N, bs, bm, sn, sub, ab, col, dd, k0, k1, k2, k3, k5, hC, hbm⟩ := T.cls
  obtain ⟨hp, g, dr, tk, os⟩ := s
  have k : ∀ b o, hp.get? b = some o → ((hp.push (kdv_tup [v])).push (excO C hp.objs.size)).get? b = some o := fun b o e => Heap.get?_push_of_some _ (Heap.get?_push_of_some _ e)
  have hget : ((hp.push (kdv_tup [v])).push (excO C hp.objs.size)).get? (hp.objs.size + 1) = some (excO C hp.objs.size) := by heap_get
  have hnx : K.lookup (hp.objs.size + 1) = none := by
    cases e : K.lookup (hp.objs.size + 1) with
    | none => rfl
    | some o =>
      have z : hp.get? (hp.objs.size + 1) = some o := X _ _ e
      exact absurd (Nat.lt_of_succ_lt (Heap.lt_size z)) (Nat.lt_irrefl _)
  refine call_own F.excBase_ValueError (fun X => refsVE_contains X bm hbm) (X _ _ hC) (looks_findIn X T.iC) (fun self => bind_fn X self T.tC) (by show 1 ≤ sizeLine; rw [sizeLine_eq]; decide) ?_
  refine ini (s := ⟨(hp.push (kdv_tup [v])).push (excO C hp.objs.size), g, dr, tk, os⟩) T f1 f2 f3 f4 (X.keeps k) (G.keeps k) (Bl.keeps k) Bs (hlim.keeps k) hget hnx ?_ fun h' tk' dx t1 k' hx dn dne hns => ?_
  · show A.depth + 1 < recursionLimit
    exact hroom
  · have old : ∀ b o, hp.get? b = some o → h'.get? b = some o := fun b o e => k' b o (Nat.ne_of_lt (Nat.lt_succ_of_lt (Heap.lt_size e))) (k b o e)
    have z : hp.objs.size + 1 + 1 ≤ dx := by
      first
        | (simpa only [Heap.size_push] using dn)
        | exact dn
        | (have q := dn; rw [Heap.size_push, Heap.size_push] at q; exact q)
    exact ⟨rfl, hq h' tk' (hp.objs.size + 1) dx ⟨old, Nat.le_succ _, ⟨_, _, hx, rfl, rfl, rfl, rfl⟩, Nat.le_trans (Nat.le_trans (Nat.le_succ _) (Nat.le_succ _)) z, dne, hns⟩⟩
end
end VX
end PySem
namespace VS
open PySem PySem.Spec PyProof.Rows L2
theorem relO_f {v : V} {v' : Value} {f : Str} (r : RelV v v') (g : Str) : RelO (List.lookup g [(f, v)]) (if g = f then some v' else none) := by
  by_cases hw : g = f
  · subst hw
    rw [if_pos rfl]
    have q : List.lookup g [(g, v)] = some v := by simp [List.lookup]
    rw [q]
    exact r
  · rw [if_neg hw]
    have qw : (g == f) = false := by simpa using hw
    have q2 : List.lookup g [(f, v)] = none := by simp [List.lookup, qw]
    rw [q2]
    trivial
section
variable {X : Cx} {C fI : Addr} {f : Str}
/-- C(e) -/
def tMkF (C : Addr) (f : Str) (ta : TA) : L2.St → Hp → XK → Prop := fun σ H Q => ta σ H fun vs H1 => ∃ v, vs = [v] ∧ ∀ d, H1 d = none → Q (.ref C) (some d) (upd H1 d (.xd [(f, v)]))
theorem pmk_f {x : Str} {a : Expr} {ta : TA} {p pos : Pos} {k : Nat} (T : PySem.VX.Txt X.prog X.K X.mg f C fI) (gC : X.mg x = some (.ref C)) (hr : Room k X.A) (ha : PA X [a] ta) (hg : Gl X x) (hdb : (x == ("__debug__" : Str)) = false)
    (f1 : f ≠ "self") (f2 : f ≠ "__class__") (f3 : f ≠ "super") (f4 : (f == ("__debug__" : Str)) = false)
    (he : starEach (a :: []) X.env = (false, eval a X.env) :: starEach [] X.env := by rfl) (hpl : (backTo pos (starEach [] X.env)).any (·.1) = false := by rfl) :
    PMk X (.Call (.Name x p) [a] [] pos) (tMkF C f ta) := by
  intro pins s σ H Q I h
  refine wpAny_Call_Name_kw (ld_glob I hg gC ?_ hdb)
  refine PySem.W.callWith_K (h₀ := X.base) I.ok.mod.kin T.kC (thn (ha.run pos pins s σ H _ I h) fun us s1 hh => ?_) he hpl
  obtain ⟨vs, H1, I1, r1, v, ev, q1⟩ := hh
  subst ev
  refine ⟨I1.kIn, ?_⟩
  cases r1 with
  | cons rv rn =>
    rename_i v' us'
    cases rn
    show wpAny _ _ (call (.ref C) [v']) _ _ _
    have hlim := I1.nolimit
    obtain ⟨mb, hb1, hb2⟩ := I1.mod.blt
    have G1 := I1.mod.glob.keeps I1.bk
    have B1 := hb1.keeps I1.bk
    obtain ⟨hp, g, dr, tk, os⟩ := s1
    refine wpAny_call (PySem.VX.made T f1 f2 f3 f4 I1.kIn G1 B1 ((hb2 "super" (by decide)).trans PyProof.Rows.Boot.«super») hlim (by have := hr.dp; omega) fun h' tk' e d M => ?_)
    show MkP X pins σ Q (.ref e) ⟨h', g, dr, tk', os⟩
    obtain ⟨oe, fv, hoe, hc, hd, hdat, h1⟩ := M.obj
    have hns := M.ns
    obtain ⟨G', g1, g2⟩ := restrict h' fun b => decide (b ≠ e)
    have gk : ∀ b, b ≠ e → G'.get? b = h'.get? b := fun b hb => g1 b (decide_eq_true hb)
    have ge : G'.get? e = none := g2 e (by simp)
    have old : ∀ b o, hp.get? b = some o → G'.get? b = some o := fun b o q => (gk b (Nat.ne_of_lt (Nat.lt_of_lt_of_le (Heap.lt_size q) M.new))).trans (M.keep b o q)
    have ob : ObjOk X.prog X.w (upd H1 d (.xd [(f, v)])) G' d (.xd [(f, v)]) :=
      ⟨_, hns.at (fun o q => (gk d M.dne).trans q), fun y => relO_f rv y⟩
    have J : Inv X pins σ (upd H1 d (.xd [(f, v)])) ⟨G', g, dr, tk', os⟩ := I1.laid (t' := tk') old M.dbig ob
    refine ⟨e, oe, fv, ⟨G', g, dr, tk', os⟩, _, .ref C, some d, rfl, J, fun b o q => ?_, ge, hoe, ⟨hc, hd⟩, hdat, h1, ?_, rfl, I1.bare, raises_own T.exC T.tyC, q1 d (I1.hok.fresh M.dbig)⟩
    · by_cases hb : b = e
      · have q' : G'.get? b = some o := q
        rw [hb, ge] at q'; cases q'
      · exact (gk b hb).symm.trans q
    · rw [upd_ne (Ne.symm M.dne)]
      exact I1.hok.fresh M.new
end
end VS
/-! VS28: raise, try, what is known of a caught exception. -/
namespace VS
open PySem PySem.Spec L2
/-! ### raise -/
def zRs (c : Str) : Sm := fun sd => .ex ⟨c, none⟩ sd
def zRsF (c f : Str) (e : Ev) : Sm := fun sd => (e sd).run fun w sd1 => .ex ⟨c, some (f, w.1)⟩ sd1
abbrev bmV : List Value := [.type "ValueError", .type "Exception", .type "BaseException", .type "object"]
/-- an own class that is raised with a text -/
structure XRaise (K : PySem.W.Frag) (mg : Mg) (c : Str) : Prop where
  ex : ∃ C : Addr, ClsAt K c C ∧ mg c = some (.ref C) ∧ PySem.W.excIn K C bmV "ValueError.__new__" = true ∧ PySem.W.keepIn K (.ref C) = true ∧ PySem.W.subIn K (.ref C) (.type "BaseException") = some true ∧ PySem.W.typeIn K (.ref C) = some (.type "type")
/-- an own class that is made with a field's value -/
structure XRaiseF (prog : Program) (K : PySem.W.Frag) (mg : Mg) (c f : Str) : Prop where
  ex : ∃ C fI : Addr, ClsAt K c C ∧ mg c = some (.ref C) ∧ PySem.VX.Txt prog K mg f C fI
section
variable {X : Cx} {W : WX} {pos p p2 pos' q : Pos} {a : Expr} {fa : Ev} {ps : List Nat}
theorem ss_rs {c m : Str} {j : Nat} (T : XRaise X.K X.mg c) (hc : X.calm = true) (tk : Takes X W) (hg : Gl X c := by rfl) (hdb : (c == ("__debug__" : Str)) = false := by decide) : SSp ps X W (.Raise (some (.Call (.Name c p) [.Constant (.str m) j p2] [] pos')) none pos) (zRs c) := by
  obtain ⟨C, hC, gC, xC, kC, bC, tC⟩ := T.ex
  refine PS.imp (ps_raise hc tk (pmk_own PySem.F.excBase_ValueError xC gC kC (raises_own bC tC) hg hdb)) fun D σ H ⟨Z, F, sd, ok, h⟩ => ?_
  exact h σ .refl (.ref C) none Z H ⟨⟨C, rfl, hC⟩, rfl⟩ ok .refl
theorem ss_rsF {c f : Str} {k : Nat} (T : XRaiseF X.prog X.K X.mg c f) (hc : X.calm = true) (tk : Takes X W) (hr : Room k X.A) (ha : SE X W a fa) (hg : Gl X c := by rfl) (hdb : (c == ("__debug__" : Str)) = false := by decide)
    (f1 : f ≠ "self" := by decide) (f2 : f ≠ "__class__" := by decide) (f3 : f ≠ "super" := by decide) (f4 : (f == ("__debug__" : Str)) = false := by decide)
    (he : starEach (a :: []) X.env = (false, eval a X.env) :: starEach [] X.env := by rfl) (hpl : (backTo pos' (starEach [] X.env)).any (·.1) = false := by rfl) :
    SSp ps X W (.Raise (some (.Call (.Name c p) [a] [] pos')) none pos) (zRsF c f fa) := by
  obtain ⟨C, fI, hC, gC, T⟩ := T.ex
  refine PS.imp (ps_raise hc tk (pmk_f T gC hr (pa_cons ha pa_nil he) hg hdb f1 f2 f3 f4 he hpl)) fun D σ H ⟨Z, F, sd, ok, h⟩ => ?_
  unfold zRsF at h
  refine eP.seq (G := fun _ _ => True) ok (fun w sd1 e v Z1 H1 r ok1 x1 => ?_) (fun x sd1 e => ?_) (fun e => ?_)
  · rw [e, R.run_ok] at h
    refine ⟨v, rfl, fun d hd => ?_⟩
    have b1 := ok1.base
    have g : Gr Z1 H1 (fun b => Z1 b ∨ b = d) (upd H1 d (.xd [(f, v)])) [] := Gr.fz hd
    refine h σ .refl (.ref C) (some d) _ _ ⟨⟨C, rfl, hC⟩, d, v, rfl, .inr rfl, upd_same, g.rp b1.z r⟩ ?_ (x1.trans (g.ext b1))
    have := g.ok ok1
    exact this.less fun b z => .inl z
  · rw [e] at h; exact h σ .refl
  · rw [e] at h; exact h
end
/-! ### what is known of a caught exception -/
def gIsE (tbl : List (Str × Bool)) : D → Option (D × Nat)
  | .exn c _ _ => match tbl.lookup c with
    | some b => some (.bl b, 0)
    | none => none
  | _ => none
def gFld (cs : List Str) (f : Str) : D → Option (D × Nat)
  | .exn c [g] [d] => if cs.contains c = true ∧ g = f then some (d, 0) else none
  | _ => none
/-- the answers of isinstance(.., cv), by the classes' names -/
def TblIs (K : PySem.W.Frag) (cv : Value) (tbl : List (Str × Bool)) : Prop := ∀ c b, tbl.lookup c = some b → ∀ D, ClsAt K c D → ExcC K D ∧ PySem.W.kitOne K (.ref D) cv = some b
def FldIs (K : PySem.W.Frag) (f : Str) (cs : List Str) : Prop := ∀ c, cs.contains c = true → ∀ D, ClsAt K c D → XfC K D ∧ PySem.W.findIn K (.ref D) f = some none
theorem TblIs.nil {K : PySem.W.Frag} {cv : Value} : TblIs K cv [] := fun _ _ e => by cases e
theorem TblIs.cons {K : PySem.W.Frag} {cv : Value} {c : Str} {b : Bool} {D : Addr} {tbl : List (Str × Bool)} (h1 : ClsAt K c D) (h2 : ExcC K D) (h3 : PySem.W.kitOne K (.ref D) cv = some b) (r : TblIs K cv tbl) : TblIs K cv ((c, b) :: tbl) := fun c' b' e D' h => by
  by_cases z : c' = c
  · subst z
    rw [List.lookup_cons_self] at e
    cases e
    have e2 := h.symm.trans h1
    cases e2
    exact ⟨h2, h3⟩
  · have zb : (c' == c) = false := by simpa using z
    rw [List.lookup_cons, zb] at e
    exact r c' b' e D' h
theorem FldIs.nil {K : PySem.W.Frag} {f : Str} : FldIs K f [] := fun _ e => by cases e
theorem FldIs.cons {K : PySem.W.Frag} {f c : Str} {D : Addr} {cs : List Str} (h1 : ClsAt K c D) (h2 : XfC K D) (h3 : PySem.W.findIn K (.ref D) f = some none) (r : FldIs K f cs) : FldIs K f (c :: cs) := fun c' e D' h => by
  by_cases z : c' = c
  · subst z
    have e2 := h.symm.trans h1
    cases e2
    exact ⟨h2, h3⟩
  · have zb : (c' == c) = false := by simpa using z
    rw [List.contains_cons, zb, Bool.false_or] at e
    exact r c' e D' h
def rIsX (K : PySem.W.Frag) : List V → Hp → VK → Prop := fun xs H Q => ∃ (a : Addr) (oe : Obj) (u : HO) (ws : Array Value) (D : Addr) (c : V) (cv : Value) (b : Bool), xs = [.ref a, c] ∧ H a = some (.frz oe u) ∧ oe.cls = .ref D ∧ oe.data = .fields ws ∧
  (oe.dict = none ∨ ∃ dx fs, oe.dict = some dx ∧ H dx = some (.xd fs)) ∧ ExcC K D ∧ (∀ u, RelV c u → u = cv) ∧ PySem.W.kitOne K (.ref D) cv = some b ∧ Q (.bl b) H
theorem call_isX {X : Cx} : CallR X (.builtin "isinstance") (rIsX X.K) := by
  intro pins s σ H xs us Q I r h
  obtain ⟨a, oe, u, ws, D, c, cv, b, rfl, ha, hc, hd, hdx, C, hcv, e, q⟩ := h
  cases r with
  | cons rx rr =>
    cases rr with
    | cons rt rr =>
      cases rr
      cases rx
      have ec := hcv _ rt
      subst ec
      have hget : s.heap.get? a = some oe := (I.hok a _ ha).1
      have J : ∃ od, PySem.W.InstAt s.heap a oe D od := by
        rcases hdx with hn | ⟨dx, fs, hs, hx⟩
        · obtain ⟨oc, od, oda, osl⟩ := oe
          dsimp only at hc hd hn
          subst hc hd hn
          exact ⟨none, hget, rfl, rfl, trivial⟩
        · obtain ⟨mA, hns, hr⟩ := I.hok dx _ hx
          obtain ⟨od', ho, hl⟩ := lookIn_ns hns
          obtain ⟨oc, od, oda, osl⟩ := oe
          dsimp only at hc hd hs
          subst hc hd hs
          exact ⟨some od', hget, rfl, rfl, ho⟩
      obtain ⟨od, J⟩ := J
      have hcl : (PySem.W.clsIn X.K D).isSome = true := by
        obtain ⟨cd, hc, _⟩ := PySem.W.any_some C.hd
        rw [hc]; rfl
      exact PySem.W.kia_one (PySem.W.kitx_exc (od := od) (ox := oe) hcl C.hg C.hk C.hs C.ha C.hn C.ht C.hm) I.kIn J e (fun z => nomatch z) fun tk => ⟨.bl b, H, I.kept (t' := tk) fun _ _ z => z, rfl, q⟩
section
variable {X : Cx} {W : WX} {pos p q : Pos} {a : Expr} {fa : Ev}
theorem se_isE {x : Str} {c : V} {cv : Value} {tbl : List (Str × Bool)} (ha : SE X W a fa) (hg : Gl X "isinstance") (hm : X.mg "isinstance" = none) (hb : PE X (.Name x q) (tC c)) (hcv : ∀ u, RelV c u → u = cv) (ht : TblIs X.K cv tbl)
    (hst : starEach [a, .Name x q] X.env = (false, eval a X.env) :: starEach [.Name x q] X.env := by rfl) (hst2 : starEach [.Name x q] X.env = (false, eval (.Name x q) X.env) :: starEach [] X.env := by rfl) (hpl : (backTo pos (starEach [.Name x q] X.env)).any (·.1) = false := by rfl) :
    SE X W (.Call (.Name "isinstance" p) [a, .Name x q] [] pos) (op1 (gIsE tbl) fa) := by
  refine PE.imp (pe_callB (call_isX (X := X)) hg hm (by decide +kernel) (pa_cons ha (pa_cons hb pa_nil hst2) hst) (by decide) (by decide) hst hpl) fun σ H Q ⟨Z, F, sd, ok, h⟩ => ?_
  refine eP.seq (G := fun _ _ => True) ok (fun w1 sd1 e1 v1 Z1 H1 r1 ok1 x1 => ?_) (fun x sd1 e1 => ?_) (fun e1 => ?_)
  · unfold op1 at h
    rw [e1, R.bind_ok] at h
    cases eg : gIsE tbl w1.1 with
    | none => rw [eg] at h; exact h.elim
    | some w =>
      rw [eg, lift_some] at h
      generalize w1.1 = d at r1 eg
      generalize e0 : ([] : List Addr) = o0 at r1
      have fin : ∀ {c' : Str} {fs : List Str} {vs : List D}, d = .exn c' fs vs → ∃ b, tbl.lookup c' = some b ∧ w = (.bl b, 0) := fun {c' fs vs} z => by
        subst z
        simp only [gIsE] at eg
        split at eg
        · rename_i b eb
          cases eg
          exact ⟨b, eb, rfl⟩
        · cases eg
      cases r1 with
      | exn _ z hh h1 h2 h3 h4 =>
        obtain ⟨b, eb, rfl⟩ := fin rfl
        obtain ⟨t1, t2⟩ := ht _ b eb _ h4
        exact ⟨_, _, _, _, _, c, cv, b, rfl, hh, h1, h3, .inl h2, t1, hcv, t2, h.pure x1 ok1 (.bl _ _)⟩
      | exnD _ z z2 hh h1 h2 h3 h5 h4 r =>
        obtain ⟨b, eb, rfl⟩ := fin rfl
        obtain ⟨t1, t2⟩ := ht _ b eb _ h4
        exact ⟨_, _, _, _, _, c, cv, b, rfl, hh, h1, h3, .inr ⟨_, _, h2, h5⟩, t1, hcv, t2, h.pure x1 ok1 (.bl _ _)⟩
      | _ => simp [gIsE] at eg
  · unfold op1 at h; rw [e1] at h; exact h
  · unfold op1 at h; rw [e1] at h; exact h
end
/-! e.f -/
def tXfX (K : PySem.W.Frag) (f : Str) (te : TE) : TE := fun σ H Q => te σ H fun x H1 => ∃ (a : Addr) (oe : Obj) (u : HO) (ws : Array Value) (D dx : Addr) (fs : List (Str × V)) (v : V), x = .ref a ∧ H1 a = some (.frz oe u) ∧ oe.cls = .ref D ∧ oe.data = .fields ws ∧ oe.dict = some dx ∧
  H1 dx = some (.xd fs) ∧ fs.lookup f = some v ∧ XfC K D ∧ PySem.W.findIn K (.ref D) f = some none ∧ Q v H1
section
variable {X : Cx} {W : WX} {pos p q : Pos} {a : Expr} {fa : Ev}
theorem pe_xfX {te : TE} {n : Str} (he : PE X a te) (hb : attributeBase a n X.env (eval a X.env) = eval a X.env := by rfl) : PE X (.Attribute a n pos) (tXfX X.K n te) := by
  refine ⟨fun pins s σ H Q I h => ?_⟩
  refine attr_of hb (thn (he.run pins s σ H _ I h) fun u s1 hh => ?_)
  obtain ⟨x, H1, I1, rx, e, oe, u', ws, D, dx, fs, v, rfl, ha, hc, hd, hdx, hx, l, T, hno, q⟩ := hh
  obtain rfl : u = Value.ref e := rx
  have hget : s1.heap.get? e = some oe := (I1.hok e _ ha).1
  obtain ⟨mA, hns, hr⟩ := I1.hok dx _ hx
  obtain ⟨od, ho, hl⟩ := lookIn_ns hns
  obtain ⟨u, hu, ru⟩ := RelO.some_of (v := v) (o := mA n) (by rw [← l]; exact hr n)
  have J : PySem.W.InstAt s1.heap e oe D (some od) := ⟨hget, hc, by unfold PySem.W.notCls; rw [hd] <;> rfl, by rw [hdx]; exact ho⟩
  exact HandSPX.exc_get I1.kIn J T.ga T.gg T.exC (PySem.W.findObj_own T.hdC hno rfl (by rw [hl, hu])) (handed_of ru) ⟨v, H1, I1.tok _, ru, q⟩
theorem se_fld {f : Str} {cs : List Str} (ha : SE X W a fa) (ht : FldIs X.K f cs) (hb : attributeBase a f X.env (eval a X.env) = eval a X.env := by rfl) : SE X W (.Attribute a f pos) (op1 (gFld cs f) fa) := by
  refine PE.imp (pe_xfX ha hb) fun σ H Q ⟨Z, F, sd, ok, h⟩ => ?_
  refine eP.seq (G := fun _ _ => True) ok (fun w1 sd1 e1 v1 Z1 H1 r1 ok1 x1 => ?_) (fun x sd1 e1 => ?_) (fun e1 => ?_)
  · unfold op1 at h
    rw [e1, R.bind_ok] at h
    cases eg : gFld cs f w1.1 with
    | none => rw [eg] at h; exact h.elim
    | some w =>
      rw [eg, lift_some] at h
      generalize w1.1 = d at r1 eg
      generalize e0 : ([] : List Addr) = o0 at r1
      cases r1 with
      | exnD _ z z2 hh h1 h2 h3 h5 h4 r =>
        rename_i c g oe u ws v d _
        simp only [gFld] at eg
        split at eg
        case isFalse => cases eg
        rename_i hc
        obtain ⟨hc, rfl⟩ := hc
        cases eg
        obtain ⟨t1, t2⟩ := ht _ hc _ h4
        obtain ⟨r0, _⟩ := r.uncons
        exact ⟨_, _, _, _, _, _, _, _, rfl, hh, h1, h3, h2, h5, by simp [List.lookup], t1, t2, h.pure x1 ok1 r0⟩
      | exn => simp [gFld] at eg
      | _ => simp [gFld] at eg
  · unfold op1 at h; rw [e1] at h; exact h
  · unfold op1 at h; rw [e1] at h; exact h
end
/-! ### try -/
def xD (x : Exn) : D := match x.fld with
  | none => .exn x.cls [] []
  | some (f, d) => .exn x.cls [f] [d]
def putX : Option Nat → Exn → SD → SD
  | none, _, sd => sd
  | some i, x, sd => sd.set i (some (xD x, 0))
def endS : Option Nat → O → O
  | some i, .nx sd => .nx (sd.set i none)
  | some i, .bk sd => .bk (sd.set i none)
  | some i, .ct sd => .ct (sd.set i none)
  | _, .ex _ _ => .stuck
  | _, o => o
abbrev Cls := List (List (Str × Bool) × Option Nat × Sm)
def pickX : Cls → Exn → SD → O
  | [], x, sd => .ex x sd
  | (tbl, n, f) :: r, x, sd => match tbl.lookup x.cls with
    | some true => endS n (f (putX n x sd))
    | some false => pickX r x sd
    | none => .stuck
def tryK (cs : Cls) : O → O
  | .ex x sd => pickX cs x sd
  | o => o
def zTry (body : Sm) (cs : Cls) : Sm := fun sd => tryK cs (body sd)
/-- what a clause for c (its value: cv) answers, by the classes' names -/
def TblEx (K : PySem.W.Frag) (cv : Value) (tbl : List (Str × Bool)) : Prop := ∀ c b, tbl.lookup c = some b → ∀ D, ClsAt K c D → PySem.W.exmOne K (.ref D) cv = some b
theorem TblEx.nil {K : PySem.W.Frag} {cv : Value} : TblEx K cv [] := fun _ _ e => by cases e
theorem TblEx.cons {K : PySem.W.Frag} {cv : Value} {c : Str} {b : Bool} {D : Addr} {tbl : List (Str × Bool)} (h1 : ClsAt K c D) (h3 : PySem.W.exmOne K (.ref D) cv = some b) (r : TblEx K cv tbl) : TblEx K cv ((c, b) :: tbl) := fun c' b' e D' h => by
  by_cases z : c' = c
  · subst z
    rw [List.lookup_cons_self] at e
    cases e
    have e2 := h.symm.trans h1
    cases e2
    exact h3
  · have zb : (c' == c) = false := by simpa using z
    rw [List.lookup_cons, zb] at e
    exact r c' b' e D' h
/-- the suites, each in a context that lets nothing out -/
inductive HdR (X : Cx) : List ExceptHandler → Cls → List (Value × Option Nat × TX) → Prop
  | nil : HdR X [] [] []
  | cons {x : Str} {c : Value} {tbl : List (Str × Bool)} {f : Sm} {b₀ : Stmt} {suite : List Stmt} {np pos' : Pos} {hds : List ExceptHandler} {cs : Cls} {l : List (Value × Option Nat × TX)} (hc : Names X x c) (ht : TblEx X.K c tbl)
      (hsu : ∀ (a : Addr) (pn : List (Addr × Obj)), SSs (X.suite a pn) W0 (b₀ :: suite) f) (r : HdR X hds cs l) :
      HdR X (.ExceptHandler (some (.Name x np)) none (b₀ :: suite) pos' :: hds) ((tbl, none, f) :: cs) ((c, none, fun _ _ _ _ => tS X.K X.mg W0 [] f) :: l)
  | as {x n : Str} {i : Nat} {c : Value} {tbl : List (Str × Bool)} {f : Sm} {b₀ : Stmt} {suite : List Stmt} {np pos' : Pos} {hds : List ExceptHandler} {cs : Cls} {l : List (Value × Option Nat × TX)} (hi : X.N[i]? = some n) (hln : X.env.kindOf n = some .local) (hc : Names X x c) (ht : TblEx X.K c tbl)
      (hsu : ∀ (a : Addr) (pn : List (Addr × Obj)), SSs (X.suite a pn) W0 (b₀ :: suite) f) (r : HdR X hds cs l) :
      HdR X (.ExceptHandler (some (.Name x np)) (some n) (b₀ :: suite) pos' :: hds) ((tbl, some i, f) :: cs) ((c, some i, fun _ _ _ _ => tS X.K X.mg W0 [] f) :: l)
theorem HdR.t {X : Cx} {hds : List ExceptHandler} {cs : Cls} {l : List (Value × Option Nat × TX)} (h : HdR X hds cs l) : HdT X hds l := by
  induction h with
  | nil => exact .nil
  | cons hc ht hsu r ih => exact .cons hc (fun a oe cls d pn => hsu a pn) ih
  | as hi hln hc ht hsu r ih => exact .as hi hln hc (fun a oe cls d pn => hsu a pn) ih
theorem Slots.setx {K : PySem.W.Frag} {Z : Pz} {H : Hp} {σ : L2.St} {sd : SD} {o : List Addr} (h : Slots K Z H σ sd o) (x : Option V) : ∀ {i : Nat}, sd[i]? = some none ∨ sd[i]? = none → Slots K Z H (σ.set i x) sd o := by
  induction h with
  | nil => intro i _; exact .nil
  | skip h ih =>
    intro i hi
    cases i with
    | zero => exact .skip h
    | succ i => exact .skip (ih hi)
  | cons r h ih =>
    intro i hi
    cases i with
    | zero => rcases hi with hi | hi <;> cases hi
    | succ i => exact .cons r (ih hi)
theorem Ok.unset {K : PySem.W.Frag} {Z F : Pz} {H : Hp} {σ : L2.St} {sd : SD} (i : Nat) (h : Ok K Z F H σ sd) : Ok K Z F H (σ.set i none) (sd.set i none) := by
  obtain ⟨o, s, r⟩ := (h.forget i).ex
  refine ⟨o, s.setx none ?_, r⟩
  by_cases hl : i < sd.length
  · exact .inl (List.getElem?_set_self hl)
  · exact .inr (List.getElem?_eq_none (by simpa using hl))
theorem pin0 {σ σ' : L2.St} : Pin [] σ σ' := fun i m => absurd m List.not_mem_nil
theorem ends_sound {K : PySem.W.Frag} {mg : Mg} {W : WX} {Z F Z2 : Pz} {H H2 : Hp} {σ σ2 : L2.St} {D : Ends} (n : Option Nat) {o : O} (h : sP K mg W [] Z F σ H (endS n o) D) (x : Ext F Z H Z2 H2) : sP K mg W0 [] Z2 F σ2 H2 o (enD n D) := by
  cases o with
  | nx sd =>
    cases n with
    | none => exact fun σ' Z' H' _ ok x' => h σ' Z' H' pin0 ok (x.trans x')
    | some i => exact fun σ' Z' H' _ ok x' => h _ Z' H' pin0 (ok.unset i) (x.trans x')
  | bk sd =>
    cases n with
    | none => exact fun σ' Z' H' _ ok x' => h σ' Z' H' pin0 ok (x.trans x')
    | some i => exact fun σ' Z' H' _ ok x' => h _ Z' H' pin0 (ok.unset i) (x.trans x')
  | ct sd =>
    cases n with
    | none => exact fun σ' Z' H' _ ok x' => h σ' Z' H' pin0 ok (x.trans x')
    | some i => exact fun σ' Z' H' _ ok x' => h _ Z' H' pin0 (ok.unset i) (x.trans x')
  | rt w sd =>
    cases n with
    | none => exact fun v Z' H' o σ' _ r nd nf ok x' => h v Z' H' o σ' pin0 r nd nf ok (x.trans x')
    | some i => exact fun v Z' H' o σ' _ r nd nf ok x' => h v Z' H' o σ' pin0 r nd nf ok (x.trans x')
  | ex e sd => cases n <;> exact h.elim
  | stuck => cases n <;> exact h.elim
theorem xD_rp {K : PySem.W.Frag} {mg : Mg} {Z : Pz} {H : Hp} {x : Exn} {C a : Addr} {dd : Option Addr} {oe : Obj} (hC : ClsAt K x.cls C) (hf : match x.fld with
    | none => dd = none
    | some (f, d) => ∃ a v, dd = some a ∧ Z a ∧ H a = some (.xd [(f, v)]) ∧ Rp K Z H v d 0 []) (hz0 : ∀ b, Z b → ∃ o, H b = some o) (na : H a = none) (hz : Zc (.ref C) dd oe) (hfl : ∃ vs, oe.data = .fields vs) :
    Rp K (fun b => Z b ∨ b = a) (upd H a (.frz oe tru)) (.ref a) (xD x) 0 [] := by
  obtain ⟨vs, hv⟩ := hfl
  unfold xD
  cases e : x.fld with
  | none =>
    rw [e] at hf
    exact .exn 0 (.inr rfl) upd_same hz.1 (hz.2.trans hf) hv hC
  | some p =>
    rw [e] at hf
    obtain ⟨f, d⟩ := p
    obtain ⟨b, v, hb, zb, hx, r⟩ := hf
    have g : Gr Z H (fun b => Z b ∨ b = a) (upd H a (.frz oe tru)) [] := Gr.fz na
    have r' := g.rp hz0 r
    refine .exnD 0 (.inr rfl) (.inl zb) upd_same hz.1 (hz.2.trans hb) hv ?_ hC (.cons (o := []) r' (.nil 0))
    rw [upd_ne (ne_of_none hx na)]; exact hx
section
variable {X : Cx} {W : WX} {pos : Pos} {body : List Stmt} {h₀ : ExceptHandler} {hds : List ExceptHandler} {fb : Sm} {cs : Cls} {l : List (Value × Option Nat × TX)}
theorem pick_sound {Z F : Pz} {D : Ends} {hds : List ExceptHandler} (hr : HdR X hds cs l) : ∀ {σ : L2.St} {H : Hp} {x : Exn} {sd : SD}, Ext F Z H Z H → sP X.K X.mg W [] Z F σ H (pickX cs x sd) D →
    ∀ c dd Z' H', ExcAt X.K X.mg Z' H' x c dd → Ok X.K Z' F H' σ sd → Ext F Z H Z' H' → wTry X.K W D l c dd σ H' := by
  induction hr with
  | nil =>
    intro σ H x sd _ h c dd Z' H' ea ok ex
    exact h σ .refl c dd Z' H' ea ok ex
  | @cons x' c' tbl f b₀ suite np pos' hds cs l hc ht hsu r ih =>
    intro σ H x sd he h c dd Z' H' ea ok ex
    obtain ⟨⟨C, rfl, hC⟩, hf⟩ := ea
    unfold pickX at h
    cases q : tbl.lookup x.cls with
    | none => rw [q] at h; exact h.elim
    | some b =>
      rw [q] at h
      refine ⟨b, ht _ _ q C hC, fun hb a oe na hz hfl => ?_, fun hb => ?_⟩
      · subst hb
        have b := ok.base
        have g : Gr Z' H' (fun b => Z' b ∨ b = a) (upd H' a (.frz oe tru)) [] := Gr.fz na
        have r0 := xD_rp (mg := X.mg) hC hf b.z na hz hfl
        refine ⟨_, F, putX none x sd, ?_, ends_sound none h (ex.trans (g.ext b))⟩
        exact (g.ok ok).less fun b z => .inl z
      · subst hb
        exact ih he h _ _ Z' H' ⟨⟨C, rfl, hC⟩, hf⟩ ok ex
  | @as x' n i c' tbl f b₀ suite np pos' hds cs l hi hln hc ht hsu r ih =>
    intro σ H x sd he h c dd Z' H' ea ok ex
    obtain ⟨⟨C, rfl, hC⟩, hf⟩ := ea
    unfold pickX at h
    cases q : tbl.lookup x.cls with
    | none => rw [q] at h; exact h.elim
    | some b =>
      rw [q] at h
      refine ⟨b, ht _ _ q C hC, fun hb a oe na hz hfl => ?_, fun hb => ?_⟩
      · subst hb
        have b := ok.base
        have g : Gr Z' H' (fun b => Z' b ∨ b = a) (upd H' a (.frz oe tru)) [] := Gr.fz na
        have r0 := xD_rp (mg := X.mg) hC hf b.z na hz hfl
        refine ⟨_, F, putX (some i) x sd, ?_, ends_sound (some i) h (ex.trans (g.ext b))⟩
        exact (g.ok ok).store r0 .nil fun a m => absurd m List.not_mem_nil
      · subst hb
        exact ih he h _ _ Z' H' ⟨⟨C, rfl, hC⟩, hf⟩ ok ex
theorem ss_try (hs : X.stack = X.env :: X.outer) (hf : X.env.frame = some X.env.locals) (hN : X.N.Nodup) (hx : X.ex = []) (tk : Takes X W)
    (hb : ∀ (W : WX) (pn : List (Addr × Obj)) (xe : Value → Shared → Prop), Takes (X.tr pn xe) W → PassesOwn (model X.prog X.w) X.A X.env xe → SSs (X.tr pn xe) W body fb)
    (hh : HdR X (h₀ :: hds) cs l) : SS X W (.Try body (h₀ :: hds) [] [] pos) (zTry fb cs) := by
  refine PS.imp (ps_tryT (tb := fun W => tS X.K X.mg W [] fb) hs hf hN hx tk hb hh.t) fun D σ H ⟨Z, F, sd, ok, h⟩ => ?_
  refine ⟨Z, F, sd, ok, ?_⟩
  unfold zTry tryK at h
  cases e : fb sd with
  | ex x sd1 =>
    rw [e] at h
    exact fun σ' _ => pick_sound hh .refl (h.go .refl (fun i m => absurd m List.not_mem_nil))
  | nx sd1 => rw [e] at h; exact h
  | bk sd1 => rw [e] at h; exact h
  | ct sd1 => rw [e] at h; exact h
  | rt w sd1 => rw [e] at h; exact h
  | stuck => rw [e] at h; exact h
end
end VS
/-! VS29: defs called within an except suite. -/
namespace VS
open PySem PySem.Spec L2
open PyProof.Rows
abbrev RoomH := L2H.RoomH
/-- the context of such a def's body -/
def cxU (P : Program) (w : World) (K : PySem.W.Frag) (mg : Mg) (base : Heap) (N : List Str) (qual : Str) (scope : Scope) (f : Addr) (cd : Value) (A : Around) (outer : List Env) (s : Shared) (H : Hp) : Cx :=
  { cxOf (L2.CX P w) P w K mg base N qual scope f cd A outer s H E0 with calm := false }
structure FnU (P : Program) (w : World) (K : PySem.W.Frag) (mg : Mg) (base : Heap) (k : Nat) (f : Addr) (fd : FuncData) (ps : List Str) (sp : Sp) : Prop where
  len : ∀ vs H Q E, sp vs H Q E → vs.length = ps.length
  run : ∀ (A : Around) (outer : List Env) (s : Shared) (H : Hp) (args : Args) (us : List Value) (vs : List V) (Q : VK), RoomH k A → Env0 P w K mg base A outer s H → BindsTo s fd args (ps.zip us) → Vals vs us → sp vs H Q E0 →
    codeAny (model P w) A (.call (.ref f) args) (CR (L2.CX P w) outer P w H s Q E0) s
theorem inv_startU {P : Program} {w : World} {K : PySem.W.Frag} {mg : Mg} {base : Heap} {N ps : List Str} {qual : Str} {scope : Scope} {f : Addr} {cd : Value} {A : Around} {outer : List Env} {s s1 : Shared} {H : Hp} {us : List Value} {vs : List V}
    (S : FnScope N ps scope) (e0 : Env0 P w K mg base A outer s H) (hl : vs.length = ps.length) (r : Vals vs us)
    (x : InCallC s s.heap.objs.size (bindL (envOfC qual scope s.heap.objs.size f cd).kindOf (ps.zip us) fun _ => none) (cellsFrom (s.heap.objs.size + 1) scope.names []) (bindC (envOfC qual scope s.heap.objs.size f cd).kindOf (ps.zip us) fun _ => none) s1) :
    Inv (cxU P w K mg base N qual scope f cd A outer s H) [] (L2.start N vs) H s1 := by
  have I0 := inv_start (CX := L2.CX P w) (E := E0) (A := { A with handled := none }) (N := N) S rfl ⟨e0.frames, e0.mod, e0.bs, e0.bsz, e0.funs, e0.frf, e0.hok, e0.bare⟩ hl r x
  have o := I0.ok
  exact ⟨⟨o.mod, o.kind, o.glob, o.blt, o.above, o.inj, o.has, o.cab, (fun z => Bool.noConfusion (show false = true from z)), Around.frames_deeper e0.frames, o.stk, o.exf, o.bs, o.bsz, o.noex, o.exfs, o.funs, o.frf⟩, I0.os, I0.bare, I0.base, I0.loc, I0.cell, I0.free, I0.freeC, I0.pin, I0.hok, I0.len⟩
theorem fn_ofU {P : Program} {w : World} {K : PySem.W.Frag} {mg : Mg} {base : Heap} {k : Nat} {f : Addr} {name qual : Str} {params : Arguments} {body : List Stmt} {scope : Scope} {dV kV doc pm cdv ct oc : Value} {an od : Option Addr}
    {osl : Array (Option Value)} {N ps : List Str} {sp : Sp} (lk : K.lookup f = some ⟨oc, od, .func (PySem.W.fnOf name qual params body scope dV kV doc pm an cdv ct), osl⟩) (hcd : PySem.W.codeIn K cdv qual = true) (S : FnScope N ps scope)
    (len : ∀ vs H Q E, sp vs H Q E → vs.length = ps.length)
    (hbody : ∀ (A : Around) (outer : List Env) (s : Shared) (H : Hp) (vs : List V) (Q : VK), RoomH k (A.deeper (envOfC qual scope s.heap.objs.size f cdv)) → sp vs H Q E0 →
      ∃ t, PSs (cxU P w K mg base N qual scope f cdv A outer s H) body t ∧ t { nx := fun _ H' => Q .non H', rt := Q } (L2.start N vs) H) :
    FnU P w K mg base (k + 1) f (PySem.W.fnOf name qual params body scope dV kV doc pm an cdv ct) ps sp := by
  refine ⟨len, fun A outer s H args us vs Q hr e0 hb r hsp => ?_⟩
  have hl := len _ _ _ _ hsp
  have KX : K.In s.heap := e0.mod.kin.keeps fun b o e => (e0.bs b o e).1
  have lim : s.heap.NoLimit := e0.mod.nolimit.keeps fun b o e => (e0.bs b o e).1
  have hkind : ∀ y ∈ ps.zip us, scope.names.lookup y.1 = some .local ∨ (scope.names.lookup y.1 = some .cell ∧ ((cellsFrom (s.heap.objs.size + 1) scope.names []).lookup y.1).isSome = true) := fun ⟨n, v⟩ hy => by
    rcases S.par n (List.of_mem_zip hy).1 with q | q
    · exact .inl q
    · exact .inr ⟨q, PySem.W.cellsFrom_some _ _ _ (.inl q)⟩
  refine codeAny_call_function hr.depth (KX _ _ lk) rfl S.co S.gen rfl (PySem.W.codeRec_of KX hcd) (hb _ _ _ _ ?_)
  refine wpAny_newFunctionEnv_cells S.kind hkind fun env he s1 x => ?_
  subst he
  refine ⟨lim.keeps x.toInCall.keep, codeAny_func ?_⟩
  obtain ⟨t, ht, hq⟩ := hbody A outer s H vs Q (hr.deeper _) hsp
  have I : Inv (cxU P w K mg base N qual scope f cdv A outer s H) [] (L2.start N vs) H s1 := inv_startU S e0 hl r x
  refine wpAny_mono (ht.run [] s1 (L2.start N vs) H _ I hq) (fun fl s' hs => ?_) fun e s' hs => hs
  have fin : ∀ {σ' : L2.St} {H' : Hp} {v : V} {u : Value}, Inv (cxU P w K mg base N qual scope f cdv A outer s H) [] σ' H' s' → RelV v u → Q v H' → CE outer P w H s Q u s' :=
    fun {σ' H' v u} J rv q => ⟨v, H', J.os, J.bare, J.base, J.hok, rv, q⟩
  cases fl with
  | ret u =>
    obtain ⟨v, σ', H', J, rv, q⟩ := hs
    exact fin J rv q
  | next =>
    obtain ⟨σ', H', J, q⟩ := hs
    exact fin (v := V.non) (u := Value.none) J rfl q
  | brk =>
    obtain ⟨_, _, _, q⟩ := hs
    exact False.elim q
  | cont =>
    obtain ⟨_, _, _, q⟩ := hs
    exact False.elim q
/-- what holds in a body that may run in an except suite, and in the suite itself -/
structure Cu (X : Cx) (W : WX) (k : Nat) : Prop where
  nd : X.N.Nodup
  tk : Takes X W
  hr : RoomH k X.A
theorem takesF {X : Cx} : Takes X W0 := fun _ _ ⟨_, _, _, _, _, _, _, _, _, _, _, _, _, _, _, _, w⟩ => w.elim
theorem Cg.suite {X : Cx} {W : WX} {k : Nat} (c : Cg X W k) (a : Addr) (pn : List (Addr × Obj)) : Cu (X.suite a pn) W0 k := ⟨c.nd, takesF, ⟨c.hr.dp, c.hr.un⟩⟩
theorem Cg.tr {X : Cx} {W W' : WX} {k : Nat} (c : Cg X W k) {pn : List (Addr × Obj)} {xe : Value → Shared → Prop} (tk : Takes (X.tr pn xe) W') (hp : PassesOwn (model X.prog X.w) X.A X.env xe) : Cg (X.tr pn xe) W' k := ⟨c.calm, c.nd, hp, tk, c.hr⟩
section
variable {P : Program} {w : World} {K : PySem.W.Frag} {mg : Mg} {base : Heap}
structure DefU (P : Program) (w : World) (K : PySem.W.Frag) (mg : Mg) (base : Heap) (x : Str) (k : Nat) (n : Nat) (f : Fn) : Prop where
  ex : ∃ (fa : Addr) (fd : FuncData) (ps : List Str), mg x = some (.ref fa) ∧ PySem.W.keepIn K (.ref fa) = true ∧ Binds K fd ps [] ∧ FnU P w K mg base k fa fd ps (spF K mg n f)
theorem defU_ok {x : Str} {st : Stmt} {N ps : List Str} {k : Nat} {body : Sm} (hf : IsFn K mg x st) (S : FnScope N ps (defScope st))
    (hb : ∀ (kV doc pm : Value) (an : Option Addr) (cdv ct : Value) (us : List Value), us.length = ps.length → bindArgs (PySem.W.fnOf x x (defArgs st) (defBody st) (defScope st) .none kV doc pm an cdv ct) ⟨us, []⟩ = pure (ps.zip us))
    (hbody : ∀ (f : Addr) (cdv : Value) (A : Around) (outer : List Env) (s : Shared) (H : Hp), Cu (cxU P w K mg base N x (defScope st) f cdv A outer s H) W0 k →
      SSs (cxU P w K mg base N x (defScope st) f cdv A outer s H) W0 (defBody st) body) : DefU P w K mg base x (k + 1) ps.length (fnOf N.length body) := by
  obtain ⟨f, fd, h1, Fu⟩ := hf
  refine ⟨f, fd, ps, h1, Fu.kp, Fu.binds hb, ?_⟩
  obtain ⟨oc, od, kV, doc, pm, an, cdv, ct, osl, rfl, lk, hcd⟩ := Fu.ex
  refine fn_ofU lk hcd S (fun vs H Q E h => ?_) fun A outer s H vs Q hr h => ⟨_, hbody f cdv A outer s H ⟨S.nd, takesF, hr⟩, ?_⟩
  · obtain ⟨_, _, _, _, h, _⟩ := h
    exact h
  · obtain ⟨Z, F, ws, o, hl, s0, nd, nf, b, h⟩ := h
    have hlen : vs.length = ws.length := by
      have := s0.length
      simpa using this
    refine ⟨Z, F, ws.map some ++ List.replicate (N.length - ws.length) none, ⟨o, ?_, nd, nf, b⟩, ?_⟩
    · unfold L2.start
      rw [hlen]
      exact s0.fill _
    · unfold fnOf at h
      cases e : body (ws.map some ++ List.replicate (N.length - ws.length) none) with
      | nx sd1 =>
        rw [e] at h
        exact fun σ' Z' H' _ ok x => h .non Z' H' [] (.non _) .nil (fun _ m => absurd m List.not_mem_nil) ok.unnil.base x
      | rt w1 sd1 =>
        rw [e] at h
        exact fun v Z' H' o' σ' _ r nd nf ok x => h v Z' H' o' r nd nf ok.base x
      | ex y sd1 =>
        rw [e] at h
        exact fun σ' _ c dd Z' H' a ok x => h c dd Z' H' a ok.base x
      | bk sd1 => rw [e] at h; exact h.elim
      | ct sd1 => rw [e] at h; exact h.elim
      | stuck => rw [e] at h; exact h.elim
end
section
variable {X : Cx} {k : Nat} {f : Addr} {fd : FuncData} {ps : List Str} {sp : Sp} {x : Str} {q pos : Pos} {e : Expr} {es : List Expr} {t : TA}
theorem run_fnU {pins : List (Addr × Obj)} {σ : L2.St} {H : Hp} {s : Shared} {Q : VK} {us : List Value} {vs : List V} (F : FnU X.prog X.w X.K X.mg X.base k f fd ps sp) (hr : RoomH k X.A) (hb : Binds X.K fd ps [])
    (I : Inv X pins σ H s) (r : Vals vs us) (h : sp vs H Q E0) : wpAny (model X.prog X.w) X.A (call (.ref f) us) (EP X pins σ Q) X.xe s := by
  have hl : us.length = ps.length := by rw [← r.length]; exact F.len _ _ _ _ h
  have b := hb s us I.kIn (by rw [List.append_nil]; exact hl)
  rw [List.append_nil] at b
  refine wpAny_call (codeAny_mono (F.run X.A X.stack s H ⟨us, []⟩ us vs Q hr I.env0 b r h) fun r s' hq => ?_)
  cases r with
  | error e =>
    obtain ⟨_, _, _, _, _, _, _, _, _, _, _, _, z⟩ := hq
    exact z.elim
  | ok fl =>
    cases fl with
    | ret u => exact I.after hq
    | next => exact False.elim hq
    | brk => exact False.elim hq
    | cont => exact False.elim hq
theorem pe_callU (F : FnU X.prog X.w X.K X.mg X.base k f fd ps sp) (hr : RoomH k X.A) (hg : Gl X x) (hm : X.mg x = some (.ref f)) (hk : PySem.W.keepIn X.K (.ref f) = true) (hb : Binds X.K fd ps [])
    (ha : PA X (e :: es) t) (hdb : (x == ("__debug__" : Str)) = false := by decide) (he : starEach (e :: es) X.env = (false, eval e X.env) :: starEach es X.env := by rfl) (hpl : (backTo pos (starEach es X.env)).any (·.1) = false := by rfl) :
    PE X (.Call (.Name x q) (e :: es) [] pos) (tCallS sp (fun _ => E0) t) := by
  refine ⟨fun pins s σ H Q I h => ?_⟩
  refine wpAny_Call_Name_kw (ld_glob I hg hm ?_ hdb)
  refine PySem.W.callWith_K (h₀ := X.base) I.ok.mod.kin hk (thn (ha.run pos pins s σ H _ I h) fun us s1 ⟨vs, H1, I1, r, q⟩ => ⟨I1.kIn, ?_⟩) he hpl
  exact run_fnU F hr hb I1 r q
end
/-- such a call: what it may raise is a dead end -/
def FR.rU (r : FR) (sd : SD) : R (D × Nat) := match r with
  | .ok w => .ok w sd
  | _ => .stuck
@[simp] theorem FR.rU_ok (w : D × Nat) (sd : SD) : (FR.ok w).rU sd = .ok w sd := eqr rfl
def calU (n : Nat) (f : Fn) (fs : Eg) : Ev := fun sd => (fs sd).bind fun xs sd1 => if (xs.length == n) = true then (f xs).rU sd1 else .stuck
section
variable {X : Cx} {W : WX} {pos p : Pos} {a : Expr} {es : List Expr} {fs : Eg}
theorem se_callU {x : Str} {k n : Nat} {f : Fn} (G : DefU X.prog X.w X.K X.mg X.base x k n f) (hr : RoomH k X.A) (ha : SGa X W (a :: es) fs) (hg : Gl X x := by rfl) (hdb : (x == ("__debug__" : Str)) = false := by decide)
    (he : starEach (a :: es) X.env = (false, eval a X.env) :: starEach es X.env := by rfl) (hpl : (backTo pos (starEach es X.env)).any (·.1) = false := by rfl) : SE X W (.Call (.Name x p) (a :: es) [] pos) (calU n f fs) := by
  obtain ⟨fa, fd, ps, h1, h2, h3, h6⟩ := G.ex
  refine PE.imp (pe_callU h6 hr hg h1 h2 h3 ha hdb he hpl) fun σ H Q ⟨Z, F, sd, ok, h⟩ => ?_
  refine ⟨Z, F, sd, ok, ?_⟩
  unfold calU at h
  cases e : fs sd with
  | stuck => rw [e] at h; exact h
  | exc y sd1 => rw [e] at h; exact h
  | ok ws sd1 =>
    rw [e, R.bind_ok] at h
    intro vs Z1 H1 o s nd nf ok1 x1
    obtain ⟨ow, ss, ndw, nfw, b⟩ := ok1.ex
    split at h
    case isFalse => exact h.elim
    rename_i hn
    have hlen : vs.length = n := by
      have q1 := s.length
      rw [List.length_map, List.length_map] at q1
      rw [q1]
      exact beq_iff_eq.mp hn
    refine ⟨Z1, uni F ow, ws, o, hlen, s, nd, fun a m z => ?_, ⟨b.z, fun a f => b.f a ?_⟩, ?_⟩
    · rcases z with z | z
      · exact nf a m z
      · exact nfw a z (.inr m)
    · rcases f with (f | f) | f
      · exact .inl (.inl f)
      · exact .inr f
      · exact .inl (.inr f)
    · cases e2 : f ws with
      | ok w =>
        rw [e2, FR.rU_ok] at h
        intro v Z2 H2 o2 r2 nd2 nf2 b2 x2
        refine h v Z2 H2 o2 r2 nd2 (fun a m z => nf2 a m (.inl z)) ⟨ow, ss.keep x2.z fun a m => x2.f a (.inr m), ndw, fun a m z => ?_, b2.z, fun a f => b2.f a ?_⟩ (x1.trans (x2.mono fun _ z => .inl z))
        · rcases z with z | z
          · exact nfw a m (.inl z)
          · exact nf2 a z (.inr m)
        · rcases f with (f | f) | f
          · exact .inl (.inl f)
          · exact .inr f
          · exact .inl (.inr f)
      | exc y => rw [e2] at h; exact h.elim
      | stuck => rw [e2] at h; exact h.elim
end
end VS
/-! VS30: the rules of exceptions as the printer uses them. -/
namespace VS
open PySem PySem.Spec L2
/-- except x: what it answers, by the classes' names -/
def ExN (K : PySem.W.Frag) (mg : Mg) (x : Str) (tbl : List (Str × Bool)) : Prop := ∃ c, mg x = some c ∧ TblEx K c tbl
/-- isinstance(.., x) -/
def IsN (K : PySem.W.Frag) (mg : Mg) (x : Str) (tbl : List (Str × Bool)) : Prop := ∃ cv, TblIs K cv tbl ∧ ((∃ C, cv = .ref C ∧ mg x = some (.ref C)) ∨ ∃ T, cv = .type T ∧ mg x = none ∧ bootBuiltins x = some (.type T) ∧ x ≠ "__name__")
def HdE (X : Cx) (hds : List ExceptHandler) (cs : Cls) : Prop := ∃ l, HdR X hds cs l
theorem Cu.hu {X : Cx} {W : WX} {k : Nat} (c : Cu X W k) : X.A.units + 64 < cLine := by have := c.hr.un; omega
section
variable {X : Cx} {W : WX} {pos p q : Pos} {a : Expr} {fa : Ev}
theorem hd_nil : HdE X [] [] := ⟨_, .nil⟩
theorem hd_as {x n : Str} (i : Nat) {tbl : List (Str × Bool)} {f : Sm} {b₀ : Stmt} {suite : List Stmt} {np pos' : Pos} {hds : List ExceptHandler} {cs : Cls} (E : ExN X.K X.mg x tbl) (hsu : ∀ (a : Addr) (pn : List (Addr × Obj)), SSs (X.suite a pn) W0 (b₀ :: suite) f) (r : HdE X hds cs)
    (hi : X.N[i]? = some n := by rfl) (hln : X.env.kindOf n = some .local := by rfl) (hg : Gl X x := by rfl) (hdb : (x == ("__debug__" : Str)) = false := by decide) :
    HdE X (.ExceptHandler (some (.Name x np)) (some n) (b₀ :: suite) pos' :: hds) ((tbl, some i, f) :: cs) := by
  obtain ⟨l, r⟩ := r
  obtain ⟨c, hm, ht⟩ := E
  exact ⟨_, .as hi hln ⟨hg, hdb, .inl hm⟩ ht hsu r⟩
theorem hd_no {x : Str} {tbl : List (Str × Bool)} {f : Sm} {b₀ : Stmt} {suite : List Stmt} {np pos' : Pos} {hds : List ExceptHandler} {cs : Cls} (E : ExN X.K X.mg x tbl) (hsu : ∀ (a : Addr) (pn : List (Addr × Obj)), SSs (X.suite a pn) W0 (b₀ :: suite) f) (r : HdE X hds cs)
    (hg : Gl X x := by rfl) (hdb : (x == ("__debug__" : Str)) = false := by decide) :
    HdE X (.ExceptHandler (some (.Name x np)) none (b₀ :: suite) pos' :: hds) ((tbl, none, f) :: cs) := by
  obtain ⟨l, r⟩ := r
  obtain ⟨c, hm, ht⟩ := E
  exact ⟨_, .cons ⟨hg, hdb, .inl hm⟩ ht hsu r⟩
theorem ss_tryE {body : List Stmt} {h₀ : ExceptHandler} {hds : List ExceptHandler} {fb : Sm} {cs : Cls} {k : Nat} (C : Cg X W k) (hs : X.stack = X.env :: X.outer) (hf : X.env.frame = some X.env.locals) (hx : X.ex = [])
    (hb : ∀ (W' : WX) (pn : List (Addr × Obj)) (xe : Value → Shared → Prop), Cg (X.tr pn xe) W' k → SSs (X.tr pn xe) W' body fb)
    (hh : HdE X (h₀ :: hds) cs) : SS X W (.Try body (h₀ :: hds) [] [] pos) (zTry fb cs) := by
  obtain ⟨l, hh⟩ := hh
  exact ss_try hs hf C.nd hx C.tk (fun W' pn xe tk hp => hb W' pn xe (C.tr tk hp)) hh
theorem se_isN {x : Str} {tbl : List (Str × Bool)} (ha : SE X W a fa) (hm : X.mg "isinstance" = none) (I : IsN X.K X.mg x tbl) (hg : Gl X "isinstance" := by rfl) (hgx : Gl X x := by rfl) (hdb : (x == ("__debug__" : Str)) = false := by decide)
    (hst : starEach [a, .Name x q] X.env = (false, eval a X.env) :: starEach [.Name x q] X.env := by rfl) (hst2 : starEach [.Name x q] X.env = (false, eval (.Name x q) X.env) :: starEach [] X.env := by rfl) (hpl : (backTo pos (starEach [.Name x q] X.env)).any (·.1) = false := by rfl) :
    SE X W (.Call (.Name "isinstance" p) [a, .Name x q] [] pos) (op1 (gIsE tbl) fa) := by
  obtain ⟨cv, ht, ⟨C, rfl, hC⟩ | ⟨T, rfl, hN, hB, hne⟩⟩ := I
  · exact se_isE ha hg hm (pe_glob (v := .ref C) hgx hC rfl hdb) (fun u r => r) ht hst hst2 hpl
  · exact se_isE ha hg hm (pe_bltn (v := .ty T) hgx hN hB rfl hne hdb) (fun u r => r) ht hst hst2 hpl
end
/-! evaluation -/
@[simp] theorem zRs_ap (c : Str) (sd : SD) : zRs c sd = .ex ⟨c, none⟩ sd := eqr rfl
@[simp] theorem zRsF_ap (c f : Str) (e : Ev) (sd : SD) : zRsF c f e sd = (e sd).run (fun w sd1 => .ex ⟨c, some (f, w.1)⟩ sd1) := eqr rfl
@[simp] theorem O.fin_exx (x : Exn) (sd : SD) (kn kb kc : SD → FR) : (O.ex x sd).fin kn kb kc = .exc x := eqr rfl
end VS
namespace PySem.W
open PySem
theorem vs_kit_ref {K : Frag} {C D : Addr} {b : Bool} (hc : hasDictIn K C = true) (ht : typeIn K (.ref C) = some (.type "type")) (hD : mroIn K D (.ref D) = some true) (h : subIn K (.ref D) (.ref C) = some b) : kitOne K (.ref D) (.ref C) = some b := by
  unfold kitOne
  by_cases e : D = C
  · subst e
    have h' : mroIn K D (.ref D) = some b := h
    rw [hD] at h'
    cases h'
    simp
  · have e2 : ((Value.ref D) == (Value.ref C)) = false := by simpa using e
    rw [e2]
    obtain ⟨cd, hcd, _⟩ := any_some hc
    have e3 : ((clsIn K C).isSome && typeIn K (.ref C) == some (.type "type")) = true := by rw [hcd, ht] <;> rfl
    show (if ((clsIn K C).isSome && typeIn K (.ref C) == some (.type "type")) = true then subIn K (.ref D) (.ref C) else none) = some b
    rw [if_pos e3]; exact h
theorem vs_kit_type {K : Frag} {T : String} {D : Addr} {b : Bool} (hm : kitMeta T = true) (h : subIn K (.ref D) (.type T) = some b) : kitOne K (.ref D) (.type T) = some b := by
  unfold kitOne
  have e2 : ((Value.ref D) == (Value.type T)) = false := rfl
  rw [e2]
  show (if kitMeta T = true then subIn K (.ref D) (.type T) else none) = some b
  rw [if_pos hm]; exact h
theorem vs_excInit {K : Frag} {C N : Addr} {nm q : Str} {bs bm : List Value} {sn : List Str} {sub : List Value} {ab : Bool} {col : Option Bool} {dd : Option Addr} {k0 k1 k2 k3 k5 : Option Value} {newId : String} {bmB : List Value}
    (cl : K.lookup C = some (excClassObj nm q C N bs bm true sn sub ab col dd k0 k1 k2 k3 k5 newId)) (ht : excTail bmB bm = true) : excInitIn K C bmB newId = true := by
  unfold excInitIn
  rw [cl]
  show (C == C && newId == newId && !false && excTail bmB bm) = true
  rw [ht]
  simp
theorem vs_super {K : Frag} {C B N : Addr} {nm q : Str} {bs bm : List Value} {sn : List Str} {sub : List Value} {ab : Bool} {col : Option Bool} {dd : Option Addr} {k0 k1 k2 k3 k5 : Option Value} {newId : String} {name : Str} {cdB : ClassData} {r : Option Value}
    (cl : K.lookup C = some (excClassObj nm q C N bs bm true sn sub ab col dd k0 k1 k2 k3 k5 newId)) (cb : clsIn K B = some cdB) (e : cdB.mro = bm) (f : findIn K (.ref B) name = some r) : ks_superIn K C C name = some r := by
  have hcl : clsIn K C = some { name := nm, bases := bs, mro := .ref C :: bm, ns := N, qualname := q, hasDict := true, slotNames := sn, subclasses := sub, abstract := ab, collection := col, hasDel := false } := by unfold clsIn; rw [cl] <;> rfl
  unfold ks_superIn
  rw [hcl]
  have e2 : ((Value.ref C :: bm).dropWhile (· != .ref C)).drop 1 = bm := by simp [List.dropWhile_cons]
  show alongIn K name (((Value.ref C :: bm).dropWhile (· != .ref C)).drop 1) = some r
  rw [e2, ← e]
  unfold clsIn at cb
  split at cb
  · rename_i o1 o2 cd o3 ho
    cases cb
    unfold findIn at f
    dsimp only at f
    rw [ho] at f
    exact f
  · cases cb
end PySem.W
/-! VS31: an expression of which only a plain value remains; rows of owned rows that are written out; their entries' pop and append. -/
namespace VS
open PySem PySem.Spec L2
def frzA (sd : SD) : SD := sd.map (Option.map fun p => (p.1, 0))
theorem Slots.frzA {K : PySem.W.Frag} {Z Z' : Pz} {H : Hp} {σ : St} {sd : SD} {o : List Addr} (h : Slots K Z H σ sd o) (hz : ∀ a, Z a → Z' a) (ho : ∀ a ∈ o, Z' a) : Slots K Z' H σ (VS.frzA sd) [] := by
  induction h with
  | nil => exact .nil
  | skip _ ih => exact .skip (ih ho)
  | @cons v d k σ sd o p r _ ih =>
    exact .cons (o := []) (p := []) (r.freeze hz fun a m => ho a (List.mem_append_left _ m)) (ih fun a m => ho a (List.mem_append_right _ m))
/-- f, as if all names were frozen for the while; what comes is a number, a text, a truth or None -/
def pureE (f : Ev) : Ev := fun sd => match f (frzA sd) with
  | .ok w _ => if scD w.1 = true then .ok (w.1, 0) sd else .stuck
  | _ => .stuck
section
variable {X : Cx} {W : WX} {pos p q : Pos} {a b c : Expr} {fa fb : Ev} {ps : List Nat}
theorem se_pure (h : SE X W a fa) : SE X W a (pureE fa) := by
  refine PE.imp h fun σ H Q ⟨Z, F, sd, ok, h⟩ => ?_
  obtain ⟨o, s, nd, nf, b⟩ := ok.ex
  refine ⟨fun a => Z a ∨ a ∈ o, F, frzA sd, ⟨[], s.frzA (fun _ z => .inl z) (fun _ m => .inr m), .nil, (fun _ m => absurd m List.not_mem_nil), fun a z => ?_, fun a f => ?_⟩, ?_⟩
  · rcases z with z | z
    · exact b.z a z
    · exact (b.f a (.inr z)).1
  · rcases f with f | f
    · exact ⟨(b.f a (.inl f)).1, fun z => z.elim (b.f a (.inl f)).2 fun m => nf a m f⟩
    · exact absurd f List.not_mem_nil
  · unfold pureE at h
    cases e : fa (frzA sd) with
    | stuck => rw [e] at h; exact h.elim
    | exc x sd1 => rw [e] at h; exact h.elim
    | ok w sd1 =>
      rw [e] at h
      dsimp only at h
      split at h
      case isFalse => exact h.elim
      rename_i hs
      intro v Z' H' o' r nd' nf' ok' x'
      have kz : ∀ a, Z a → H' a = H a := fun a z => (x'.z a (.inl z)).2
      have ko : ∀ a ∈ o, H' a = H a := fun a m => (x'.z a (.inr m)).2
      refine h v Z H' [] (r.sc hs) .nil (fun _ m => absurd m List.not_mem_nil) ⟨o, s.keep (fun a z => ⟨z, kz a z⟩) ko, nd, fun a m z => ?_, fun a z => ?_, fun a f => ?_⟩ ⟨fun a z => ⟨z, kz a z⟩, x'.f⟩
      · rcases z with z | z
        · exact nf a m z
        · exact absurd z List.not_mem_nil
      · rw [kz a z]; exact b.z a z
      · have f' : uni F o a := by
          rcases f with (f | f) | f
          · exact .inl f
          · exact absurd f List.not_mem_nil
          · exact .inr f
        have e2 : H' a = H a := by
          rcases f' with f' | f'
          · exact x'.f a f'
          · exact ko a f'
        rw [e2]
        exact b.f a f'
end
/-! a written row of owned rows -/
theorem Slots.all1 {K : PySem.W.Frag} {Z : Pz} {H : Hp} : ∀ {vs : List V} {ws : List (D × Nat)} {o : List Addr}, Slots K Z H (vs.map some) (ws.map some) o → (ws.all fun w => w.2 == 1) = true → RpAll K Z H vs (ws.map (·.1)) 1 o
  | [], [], _, h, _ => by cases h; exact .nil 1
  | [], _ :: _, _, h, _ => by cases h
  | _ :: _, [], _, h, _ => by cases h
  | v :: vs, (d, k) :: ws, _, h, e => by
    rw [List.all_cons, Bool.and_eq_true] at e
    obtain ⟨e1, e2⟩ := e
    have e1' : k = 1 := beq_iff_eq.mp e1
    subst e1'
    cases h with
    | cons r h => exact .cons r (Slots.all1 h e2)
def dLstO (fs : Eg) : Ev := fun sd => (fs sd).bind fun ws sd1 => if (ws.all fun w => w.2 == 1) = true ∧ ws.length ≤ sizeLine then .ok (.lst (ws.map (·.1)), 2) sd1 else .stuck
section
variable {X : Cx} {W : WX} {pos p q : Pos} {a b c : Expr} {es : List Expr} {fa fb : Ev} {fs : Eg} {ps : List Nat}
theorem se_lstO (h : SGa X W es fs) : SE X W (.List es pos) (dLstO fs) := by
  refine PE.imp (pe_lst h) fun σ H Q ⟨Z, F, sd, ok, h⟩ => ?_
  refine ⟨Z, F, sd, ok, ?_⟩
  unfold dLstO at h
  cases e : fs sd with
  | stuck => rw [e] at h; exact h
  | exc y sd1 => rw [e] at h; exact h
  | ok ws sd1 =>
    rw [e, R.bind_ok] at h
    split at h
    case isFalse => exact h.elim
    rename_i hc
    obtain ⟨h1, h2⟩ := hc
    intro vs Z1 H1 o s nd nf ok1 x1
    have hl : vs.length = ws.length := by
      have := s.length
      simpa using this
    refine ⟨by rw [hl]; exact h2, fun p hp => ?_⟩
    obtain ⟨ok2, x2, np, nz⟩ := ok1.new (o := .lst vs) hp
    have hpo : p ∉ o := fun m => np (.inr m)
    have hpF : ¬ F p := fun f => np (.inl f)
    have ra := (Slots.all1 s h1).keep (Z' := Z1) (H' := upd H1 p (.lst vs)) x2.z fun a m => x2.f a (.inr m)
    refine h (.ref p) Z1 _ (p :: o) (.lstS upd_same ra) (List.nodup_cons.mpr ⟨hpo, nd⟩) (fun a m => ?_) (ok2.less fun a z => ?_) (x1.trans (x2.mono fun _ z => .inl z))
    · rcases List.mem_cons.mp m with m | m
      · rw [m]; exact hpF
      · exact nf a m
    · rcases z with z | z
      · exact .inl (.inl z)
      · rcases List.mem_cons.mp z with z | z
        · rw [z]; exact .inr List.mem_cons_self
        · exact .inl (.inr z)
/-- an owned entry of an owned row -/
theorem Ok.entry {K : PySem.W.Frag} {Z F : Pz} {H : Hp} {σ : St} {sd : SD} {t n : Nat} {ds es : List D} (ok : Ok K Z F H σ sd) (e : sd[t]? = some (some (.lst ds, 2))) (ed : ds[n]? = some (.lst es)) :
    ∃ la xs lc ys, σ[t]? = some (some (.ref la)) ∧ H la = some (.lst xs) ∧ xs.length = ds.length ∧ xs[n]? = some (.ref lc) ∧ H lc = some (.lst ys) ∧ RpAll K Z H ys es 0 [] ∧
      ∀ ys' es', RpAll K Z H ys' es' 0 [] → Ok K Z F (upd H lc (.lst ys')) σ (sd.set t (some (.lst (ds.set n (.lst es')), 2))) ∧ (∀ a, Z a → Z a ∧ upd H lc (.lst ys') a = H a) ∧ ¬ F lc := by
  obtain ⟨v, o, e1, r, nd, nf, ok2⟩ := ok.take e
  generalize hdl : VS.D.lst ds = dl at r
  generalize hk1 : (2 : Nat) = k1 at r
  cases r <;> (try (first | cases hdl | cases hk1)) <;> try (cases hk1; done)
  · rename_i la xs k' oc hh ra
    have hk : k' = 1 := by omega
    subst hk
    obtain ⟨u, o1, pn, o2, q1, q2, q3, q4⟩ := ra.split ed
    obtain ⟨lc, ys, rfl, rfl, hl, rb⟩ := lst1 q3
    subst q2
    obtain ⟨n1, n2⟩ := List.nodup_cons.mp nd
    obtain ⟨n3, n4, n5⟩ := List.nodup_append.mp n2
    obtain ⟨n6, n7⟩ := List.nodup_cons.mp n4
    have hla : la ≠ lc := fun z => n1 (by rw [z]; simp)
    refine ⟨la, xs, lc, ys, e1, hh, ra.length, q1, hl, rb, fun ys' es' r' => ?_⟩
    obtain ⟨ok3, kz⟩ := ok2.write (o := .lst ys') (p := lc) (.inr (by simp))
    have rr : Rp K Z (upd H lc (.lst ys')) (.ref lc) (.lst es') 1 [lc] := .lstS (o := []) upd_same (r'.keep kz fun a m => absurd m List.not_mem_nil)
    have rx := q4 Z _ _ _ kz (fun a m => upd_ne fun z => by
      subst z
      rcases m with m | m
      · exact n5 a m a (by simp) rfl
      · exact n6 m) rr
    have ok4 := ok3.back (.lstS (by rw [upd_ne hla]; exact hh) rx) nd nf e1
    rw [List.set_set] at ok4
    exact ⟨ok4, kz, nf lc (by simp)⟩
/-- t[j].pop() -/
def popE (t j : Nat) : Ev := fun sd => match sd[t]? with
  | some (some (.lst ds, 2)) => match ds[j]? with
    | some (.lst es) => match es.getLast? with
      | some d => .ok (d, 0) (sd.set t (some (.lst (ds.set j (.lst es.dropLast)), 2)))
      | none => .stuck
    | _ => .stuck
  | _ => .stuck
theorem RpAll.last {K : PySem.W.Frag} {Z : Pz} {H : Hp} {xs : List V} {ds : List D} {d : D} (h : RpAll K Z H xs ds 0 []) (e : ds.getLast? = some d) : ∃ v, xs[xs.length - 1]? = some v ∧ Rp K Z H v d 0 [] ∧ RpAll K Z H xs.dropLast ds.dropLast 0 [] := by
  have hl := h.length
  have e' : ds[ds.length - 1]? = some d := by rw [← List.getLast?_eq_getElem?]; exact e
  obtain ⟨v, hv, r⟩ := h.get e'
  refine ⟨v, by rw [hl]; exact hv, r, ?_⟩
  have : ∀ {xs : List V} {ds : List D}, RpAll K Z H xs ds 0 [] → RpAll K Z H xs.dropLast ds.dropLast 0 [] := by
    intro xs
    induction xs with
    | nil =>
      intro ds h
      cases ds with
      | nil => exact h
      | cons _ _ => have := h.length; cases this
    | cons x xs ih =>
      intro ds h
      cases ds with
      | nil => have := h.length; cases this
      | cons d ds =>
        obtain ⟨r1, r2⟩ := h.uncons
        cases xs with
        | nil =>
          cases ds with
          | nil => exact .nil 0
          | cons _ _ => have := r2.length; cases this
        | cons y ys =>
          cases ds with
          | nil => have := r2.length; cases this
          | cons e es => exact .cons (o := []) (p := []) r1 (ih r2)
  exact this h
theorem atI_nat {xs : List V} {j : Nat} {v : V} (h : xs[j]? = some v) : L2.atI xs (j : Int) = some v := by
  have hj : j < xs.length := (List.getElem?_eq_some_iff.mp h).1
  unfold L2.atI L2.ixN
  simp [hj]
  exact (List.getElem?_eq_some_iff.mp h).2
theorem se_popE (t j : Nat) {x : Str} {px pa p1 : Pos} {jj : Nat} (hN : X.N[t]? = some x := by rfl) (hv : Vis X.env.scope x := by first | exact Or.inl rfl | exact Or.inr (Or.inl rfl) | exact Or.inr (Or.inr rfl)) (hd : (x == ("__debug__" : Str)) = false := by decide) (hcd : (x == ("__classdict__" : Str)) = false := by decide)
    (hbase : attributeBase (.Subscript (.Name x px) (.Constant (.int (j : Int)) jj p1) q) "pop" X.env (eval (.Subscript (.Name x px) (.Constant (.int (j : Int)) jj p1) q) X.env) = eval (.Subscript (.Name x px) (.Constant (.int (j : Int)) jj p1) q) X.env := by rfl) (hline : (pa.endLine == p.line) = true := by rfl) :
    SE X W (.Call (.Attribute (.Subscript (.Name x px) (.Constant (.int (j : Int)) jj p1) q) "pop" pa) [] [] p) (popE t j) := by
  refine PE.imp (pe_bm0 PySem.F.plainAttrs_list PySem.F.slot_list_pop PySem.F.type_list_pop mt_pop (pe_ix ix_seq (pe_var hN hv hd hcd) pe_int (fun _ _ => rfl)) hbase hline) fun σ H Q ⟨Z, F, sd, ok, h⟩ => ?_
  unfold popE at h
  split at h
  case h_2 => exact h.elim
  rename_i ds e0
  split at h
  case h_2 => exact h.elim
  rename_i es ed
  split at h
  case h_2 => exact h.elim
  rename_i d el
  obtain ⟨la, xs, lc, ys, q1, q2, q3, q4, q5, q6, q7⟩ := ok.entry e0 ed
  obtain ⟨y, hy, ry, rd⟩ := q6.last el
  obtain ⟨ok3, kz, nF⟩ := q7 _ _ rd
  refine ⟨.ref la, q1, .inl ⟨la, xs, j, .ref lc, rfl, rfl, .of q2, atI_nat q4, .inl ⟨rfl, ys, .of q5⟩, lc, ys, y, rfl, rfl, q5, hy, ?_⟩⟩
  exact h y Z _ [] (ry.keep kz fun a m => absurd m List.not_mem_nil) .nil (fun a m => absurd m List.not_mem_nil) ok3.unnil ⟨kz, fun a f => upd_ne fun e => nF (e ▸ f)⟩
/-- t[j].append(x), x a name -/
def zAppN (t j i : Nat) : Sm := fun sd => match sd[i]? with
  | some (some (d, _)) => match (sd.set i (some (d, 0)))[t]? with
    | some (some (.lst ds, 2)) => match ds[j]? with
      | some (.lst es) => if es.length < sizeLine then .nx ((sd.set i (some (d, 0))).set t (some (.lst (ds.set j (.lst (es ++ [d]))), 2))) else .stuck
      | _ => .stuck
    | _ => .stuck
  | _ => .stuck
theorem ss_appN (t j i : Nat) {x y : Str} {px py pa p1 : Pos} {jj : Nat} (hN : X.N[t]? = some x := by rfl) (hv : Vis X.env.scope x := by first | exact Or.inl rfl | exact Or.inr (Or.inl rfl) | exact Or.inr (Or.inr rfl)) (hd : (x == ("__debug__" : Str)) = false := by decide) (hcd : (x == ("__classdict__" : Str)) = false := by decide)
    (hNy : X.N[i]? = some y := by rfl) (hvy : Vis X.env.scope y := by first | exact Or.inl rfl | exact Or.inr (Or.inl rfl) | exact Or.inr (Or.inr rfl)) (hdy : (y == ("__debug__" : Str)) = false := by decide) (hcdy : (y == ("__classdict__" : Str)) = false := by decide)
    (hbase : attributeBase (.Subscript (.Name x px) (.Constant (.int (j : Int)) jj p1) q) "append" X.env (eval (.Subscript (.Name x px) (.Constant (.int (j : Int)) jj p1) q) X.env) = eval (.Subscript (.Name x px) (.Constant (.int (j : Int)) jj p1) q) X.env := by rfl)
    (hfew : ((backTo p (starEach [(.Name y py : Expr)] X.env)).all (fun x => !x.1) && (backToKw p (keywordEach [] X.env)).all (fun x => x.1.isSome)
      && decide ([(.Name y py : Expr)].length + ([] : List Keyword).length + (if ([] : List Keyword).isEmpty then 0 else 1) < 30)) = true := by rfl)
    (hline : (pa.endLine == p.line) = true := by rfl) (hst : starEach [(.Name y py : Expr)] X.env = (false, eval (.Name y py) X.env) :: starEach [] X.env := by rfl) (hpl : (backTo p (starEach [] X.env)).any (·.1) = false := by rfl)
    (hs : swapsWith (.Call (.Attribute (.Subscript (.Name x px) (.Constant (.int (j : Int)) jj p1) q) "append" pa) [.Name y py] [] p) none pos.line X.env = pure false := by rfl) :
    SSp ps X W (.Expr (.Call (.Attribute (.Subscript (.Name x px) (.Constant (.int (j : Int)) jj p1) q) "append" pa) [.Name y py] [] p) pos) (zAppN t j i) := by
  refine PS.imp (ps_expr (pe_bm PySem.F.plainAttrs_list PySem.F.slot_list_append PySem.F.type_list_append mt_append (pe_ix ix_seq (pe_var hN hv hd hcd) pe_int (fun _ _ => rfl)) (pa_cons (pe_var hNy hvy hdy hcdy) pa_nil hst) hbase hfew hline hst hpl) hs) fun D σ H ⟨Z, F, sd, ok, h⟩ => ?_
  unfold zAppN at h
  split at h
  case h_2 => exact h.elim
  rename_i d k ei
  obtain ⟨v, p, e1, r, nd, nf, ok1⟩ := ok.take ei
  have ok2 := ok1.freeze nf
  have r2 : Rp X.K (uni Z p) H v d 0 [] := r.freeze (fun _ z => .inl z) fun _ m => .inr m
  have ok3 := Ok.back (p := []) ok2.unnil r2 .nil (fun _ m => absurd m List.not_mem_nil) e1
  rw [List.set_set] at ok3
  split at h
  case h_2 => exact h.elim
  rename_i ds e0
  split at h
  case h_2 => exact h.elim
  rename_i es ed
  split at h
  case isFalse => exact h.elim
  rename_i hz
  obtain ⟨la, xs, lc, ys, q1, q2, q3, q4, q5, q6, q7⟩ := ok3.entry e0 ed
  obtain ⟨ok4, kz, nF⟩ := q7 _ _ (q6.app (.cons (o := []) (p := []) r2 (.nil 0)))
  refine ⟨.ref la, q1, .inl ⟨la, xs, j, .ref lc, rfl, rfl, .of q2, atI_nat q4, .inl ⟨rfl, ys, .of q5⟩, v, e1, lc, ys, v, rfl, rfl, q5, by rw [q6.length]; exact hz, ?_⟩⟩
  exact h σ _ _ .refl ok4 (Ext.uni.trans ⟨kz, fun a f => upd_ne fun e => nF (e ▸ f)⟩)
end
/-! evaluation -/
@[simp] theorem pureE_ap (f : Ev) (sd : SD) : pureE f sd = match f (frzA sd) with
  | .ok w _ => if scD w.1 = true then .ok (w.1, 0) sd else .stuck
  | _ => .stuck := eqr rfl
end VS
/-! VS32: evaluation of try. -/
namespace VS
open PySem PySem.Spec L2
def O.finX (o : O) (kx : Exn → SD → FR) (kn kb kc : SD → FR) : FR := match o with
  | .nx sd => kn sd
  | .rt w _ => .ok w
  | .bk sd => kb sd
  | .ct sd => kc sd
  | .ex x sd => kx x sd
  | .stuck => .stuck
section
variable {kx : Exn → SD → FR} {kn kb kc : SD → FR}
@[simp] theorem O.finX_nx (sd : SD) : (O.nx sd).finX kx kn kb kc = kn sd := eqr rfl
@[simp] theorem O.finX_rt (w : D × Nat) (sd : SD) : (O.rt w sd).finX kx kn kb kc = .ok w := eqr rfl
@[simp] theorem O.finX_ex (x : Exn) (sd : SD) : (O.ex x sd).finX kx kn kb kc = kx x sd := eqr rfl
@[simp] theorem zTry_ap (body : Sm) (cs : Cls) (sd : SD) : (zTry body cs sd).fin kn kb kc = (body sd).finX (fun x sd1 => (pickX cs x sd1).fin kn kb kc) kn kb kc := by
  unfold zTry tryK
  cases body sd <;> rfl
@[simp] theorem zFrz_X (i : Nat) (f : Sm) (sd : SD) : (zFrz i f sd).finX kx kn kb kc = (f sd).finX kx (fun s => (fzS i s).fin kn kb kc) kb kc := by
  unfold zFrz
  cases f sd with
  | nx s =>
    show (fzS i s).finX kx kn kb kc = (fzS i s).fin kn kb kc
    unfold fzS
    split <;> rfl
  | _ => rfl
@[simp] theorem zSet_X (i : Nat) (f : Ev) (sd : SD) : (zSet i f sd).finX kx kn kb kc = ((f sd).run fun w sd1 => O.nx (sd1.set i (some w))).finX kx kn kb kc := eqr rfl
@[simp] theorem zDrop_X (f : Ev) (sd : SD) : (zDrop f sd).finX kx kn kb kc = ((f sd).run fun _ sd1 => O.nx sd1).finX kx kn kb kc := eqr rfl
@[simp] theorem zIf_X (c : Et) (f g : Sm) (sd : SD) : (zIf c f g sd).finX kx kn kb kc = ((c sd).run fun b sd1 => if b then f sd1 else g sd1).finX kx kn kb kc := eqr rfl
@[simp] theorem pickX_nil (x : Exn) (sd : SD) : pickX [] x sd = .ex x sd := eqr rfl
@[simp] theorem pickX_cons (tbl : List (Str × Bool)) (n : Option Nat) (f : Sm) (r : Cls) (x : Exn) (sd : SD) : pickX ((tbl, n, f) :: r) x sd = match tbl.lookup x.cls with
    | some true => endS n (f (putX n x sd))
    | some false => pickX r x sd
    | none => .stuck := eqr rfl
@[simp] theorem putX_some (i : Nat) (x : Exn) (sd : SD) : putX (some i) x sd = sd.set i (some (xD x, 0)) := eqr rfl
@[simp] theorem putX_none (x : Exn) (sd : SD) : putX none x sd = sd := eqr rfl
@[simp] theorem xD_0 (c : Str) : xD ⟨c, none⟩ = .exn c [] [] := eqr rfl
@[simp] theorem xD_1 (c f : Str) (d : D) : xD ⟨c, some (f, d)⟩ = .exn c [f] [d] := eqr rfl
@[simp] theorem endS_rt (n : Option Nat) (w : D × Nat) (sd : SD) : endS n (.rt w sd) = .rt w sd := by cases n <;> rfl
@[simp] theorem calU_ap (n : Nat) (f : Fn) (fs : Eg) (sd : SD) : calU n f fs sd = (fs sd).bind fun xs sd1 => if (xs.length == n) = true then (f xs).rU sd1 else .stuck := eqr rfl
@[simp] theorem gIsE_exn (tbl : List (Str × Bool)) (c : Str) (fs : List Str) (vs : List D) : gIsE tbl (.exn c fs vs) = match tbl.lookup c with
    | some b => some (.bl b, 0)
    | none => none := eqr rfl
@[simp] theorem gFld_exn (cs : List Str) (f c g : Str) (d : D) : gFld cs f (.exn c [g] [d]) = if cs.contains c = true ∧ g = f then some (d, 0) else none := eqr rfl
end
end VS
namespace L62
open PySem PySem.Spec L2 VS
open PyProof.Rows (envOfC)
def topS (i : Nat) : Stmt := PySem.Challenge.pw_calmhouse_k62_least_presses.main.body.getD i (.Pass ⟨0, 0, 0, 0⟩)

structure Txt (mg : Mg) : Prop where
  b_bool : mg "bool" = none
  b_enumerate : mg "enumerate" = none
  b_int : mg "int" = none
  b_isinstance : mg "isinstance" = none
  b_len : mg "len" = none
  b_list : mg "list" = none
  b_min : mg "min" = none
  b_range : mg "range" = none
  b_reversed : mg "reversed" = none
  b_set : mg "set" = none
  b_sorted : mg "sorted" = none
  b_str : mg "str" = none
  b_tuple : mg "tuple" = none
  c_MOST_EVENTS : ∃ t, mg "MOST_EVENTS" = some (.int 6 t)
  c_MOST_RESTS : ∃ t, mg "MOST_RESTS" = some (.int 60 t)

abbrev s_is_integer : Stmt := topS 8
def b_is_integer : Sm :=
    (zRet (vAnd (op1 (gIsi "int") (rdv 0)) (vNot (op1 (gIsi "bool") (rdv 0)))))
def f_is_integer : Fn := fnOf 1 b_is_integer
abbrev s_is_place : Stmt := topS 10
def b_is_place : Sm :=
    (zRet (vAnd (cal 1 f_is_integer [] (gFz (rdv 0) gNil)) (tv (chn gLe gLt (cst (.int 0)) (rdv 0) (rdv 1)))))
def f_is_place : Fn := fnOf 2 b_is_place
abbrev s_are_places : Stmt := topS 11
def b_are_places : Sm :=
    (zSeq (zSet 2 (op1 gNeg (cst (.int 1))))
    (zSeq (zFor [3] (iAny (rdv 0)) (gN 3)
    (zSeq (zIf (tOr' (tNot' (tst (cal 2 f_is_place [] (gFz (rdv 3) (gFz (rdv 1) gNil))))) (tst (op2 gLe (rdv 3) (rdv 2)))) (zRet (cst (.bl false))) zNil)
    (zSet 2 (rdv 3))))
    (zRet (cst (.bl true)))))
def f_are_places : Fn := fnOf 4 b_are_places
abbrev s_is_moves : Stmt := topS 12
def b_is_moves : Sm :=
    (zSeq (zSet 1 (bor1 gLen 0))
    (zSeq (zIf (tOr' (tNot' (chn gLe gLe (cst (.int 1)) (rdv 1) (cst (.int 60)))) (tst (op2 gGt (opN (un1 gLen) (aCons (ixv 0 (cst (.int 0))) aNil)) (cst (.int 6))))) (zRet (cst (.bl false))) zNil)
    (zSeq (zFor [2, 3, 4] (iAny (rdv 0)) (gN 2)
    (zSeq (zIf (tst (op2 gNe (bor1 gLen 2) (opN (un1 gLen) (aCons (ixv 0 (cst (.int 0))) aNil)))) (zRet (cst (.bl false))) zNil)
    (zFor [3, 4] (iAny (rdv 2)) (gT [(gN 3), (gN 4)])
    (zIf (tOr' (tNot' (tst (op1 (gIsi "bool") (rdv 4)))) (tNot' (tst (cal 2 f_are_places [] (gFz (rdv 3) (gFz (rdv 1) gNil)))))) (zRet (cst (.bl false))) zNil))))
    (zRet (cst (.bl true))))))
def f_is_moves : Fn := fnOf 5 b_is_moves
abbrev s_demand_question : Stmt := topS 13
def b_demand_question : Sm :=
    (zSeq (zIf (tNot' (tst (cal 1 f_is_moves [] (gFz (rdv 0) gNil)))) (zRs "BadGraph") zNil)
    (zSeq (zIf (tNot' (tst (cal 2 f_are_places [] (gFz (rdv 1) (gFz (bor1 gLen 0) gNil))))) (zRs "BadOrder") zNil)
    (zIf (tNot' (tst (cal 2 f_is_place [] (gFz (rdv 2) (gFz (bor1 gLen 0) gNil))))) (zRs "BadOrder") zNil)))
def f_demand_question : Fn := fnOf 3 b_demand_question
abbrev s_forcing_event : Stmt := topS 14
def b_forcing_event : Sm :=
    (zSeq (zFor [2, 3, 4, 5] (iEnu (rdv 0)) (gT [(gN 2), (gT [(gN 3), (gN 4)])])
    (zSeq (zFrz 5 (zSet 5 (lcS [6] (iAny (rdv 3)) (gN 6) (tst (op2 gLt (op2 gIx (ixv 1 (rdv 6)) (cst (.int 0))) (cst (.int 0)))) (rdv 6))))
    (zIf (tAnd' (tNot' (tst (rdv 4))) (tAnd' (tst (op2 gGt (bor1 gLen 3) (cst (.int 0)))) (tst (op2 gEq (bor1 gLen 5) (cst (.int 0)))))) (zRet (mvv 2)) zNil)))
    (zRet (op1 gNeg (cst (.int 1)))))
def f_forcing_event : Fn := fnOf 7 b_forcing_event
abbrev s_forced_plan : Stmt := topS 15
def b_forced_plan : Sm :=
    (zSeq (zSet 2 (lcS [3] (iAny (rdv 0)) (gN 3) tYes' (dTup (aCons (op1 gNeg (cst (.int 1))) (aCons (op1 gNeg (cst (.int 1))) aNil)))))
    (zSeq (zFor [4] (iAny (rdv 1)) (gN 4)
    (zPut 2 (rdv 4) (dTup (aCons (cst (.int 0)) (aCons (op1 gNeg (cst (.int 1))) aNil)))))
    (zSeq (zFor [5, 6, 7, 8, 9] (iR2 (cst (.int 1)) (bor1 gLen 0)) (gN 5)
    (zSeq (zSet 6 (dLst aNil))
    (zSeq (zFor [7, 8, 9] (iEnu (rdv 0)) (gT [(gN 7), (gN 8)])
    (zIf (tst (op2 gLt (op2 gIx (ixv 2 (rdv 7)) (cst (.int 0))) (cst (.int 0)))) (zSeq (zFrz 9 (zSet 9 (calB 2 f_forcing_event [] (bFz (rdv 8) (bBr 2 bNil)))))
    (zIf (tst (op2 gGe (rdv 9) (cst (.int 0)))) (zApp 6 (dTup (aCons (rdv 7) (aCons (rdv 9) aNil)))) zNil)) zNil))
    (zSeq (zIf (tst (op2 gEq (bor1 gLen 6) (cst (.int 0)))) zBk zNil)
    (zFor [7, 9] (iAny (rdv 6)) (gT [(gN 7), (gN 9)])
    (zPut 2 (rdv 7) (dTup (aCons (rdv 5) (aCons (rdv 9) aNil)))))))))
    (zRet (opN (un1 gTuple) (aCons (rdv 2) aNil))))))
def f_forced_plan : Fn := fnOf 10 b_forced_plan
abbrev s_wish_paper : Stmt := topS 16
def b_wish_paper : Sm :=
    (zSeq (zDrop (cal 3 f_demand_question [] (gFz (rdv 0) (gFz (rdv 1) (gFz (rdv 2) gNil)))))
    (zSeq (zFrz 3 (zSet 3 (cal 2 f_forced_plan [] (gFz (rdv 0) (gFz (rdv 1) gNil)))))
    (zSeq (zIf (tst (op2 gGe (op2 gIx (ixv 3 (rdv 2)) (cst (.int 0))) (cst (.int 0)))) (zRet (dTup (aCons (cst (.str "forced")) (aCons (rdv 3) aNil)))) zNil)
    (zRet (dTup (aCons (cst (.str "held")) (aCons (opN (un1 gTuple) (aCons (lcS [4] (iR1 (bor1 gLen 0)) (gN 4) (tst (op2 gLt (op2 gIx (ixv 3 (rdv 4)) (cst (.int 0))) (cst (.int 0)))) (rdv 4)) aNil)) aNil)))))))
def f_wish_paper : Fn := fnOf 5 b_wish_paper
abbrev s_hope_way : Stmt := topS 17
def b_hope_way : Sm :=
    (zSeq (zDrop (cal 3 f_demand_question [] (gFz (rdv 0) (gFz (rdv 1) (gFz (rdv 2) gNil)))))
    (zSeq (zSet 3 (dDisp (rdv 2) (cst (.bl true))))
    (zSeq (zSet 4 (dLst (aCons (dTup (aCons (rdv 2) (aCons (dTup aNil) aNil))) aNil)))
    (zSeq (zSet 5 (cst (.int 0)))
    (zSeq (zWhile bigN [6, 7, 8, 9, 10, 11] (tst (op2 gLt (rdv 5) (bor1 gLen 4)))
    (zSeq (zTg (gT [(gN 6), (gN 7)]) (ixv 4 (rdv 5)))
    (zSeq (zIf (tst (bor2 (gIn false) (rdv 6) 1)) (zRet (mvv 7)) zNil)
    (zSeq (zFor [8, 9, 10, 11] (iEnu (ixv 0 (rdv 6))) (gT [(gN 8), (gT [(gN 9), (gN 10)])])
    (zFor [11] (iAny (rdv 9)) (gN 11)
    (zIf (tst (bor2 (gInD true) (rdv 11) 3)) (zSeq (zPutD 3 (rdv 11) (cst (.bl true)))
    (zApp 4 (dTup (aCons (rdv 11) (aCons (op2 gAdd (rdv 7) (dTup (aCons (dTup (aCons (rdv 8) (aCons (rdv 11) aNil))) aNil))) aNil))))) zNil)))
    (zSet 5 (op2 gAdd (rdv 5) (cst (.int 1))))))))
    (zRet (cst .non)))))))
def f_hope_way : Fn := fnOf 12 b_hope_way
abbrev s_shows_way : Stmt := topS 18
def b_shows_way : Sm :=
    (zSeq (zIf (tNot' (tst (cal 2 f_is_place [] (gFz (rdv 2) (gFz (bor1 gLen 0) gNil))))) (zRet (cst (.bl false))) zNil)
    (zSeq (zSet 4 (rdv 2))
    (zSeq (zFor [5, 6] (iAny (rdv 3)) (gT [(gN 5), (gN 6)])
    (zSeq (zIf (tOr' (tNot' (tst (cal 2 f_is_place [] (gFz (rdv 5) (gFz (opN (un1 gLen) (aCons (ixv 0 (rdv 4)) aNil)) gNil))))) (tst (op2 (gIn true) (rdv 6) (op2 gIx (op2 gIx (ixv 0 (rdv 4)) (rdv 5)) (cst (.int 0)))))) (zRet (cst (.bl false))) zNil)
    (zSet 4 (rdv 6))))
    (zRet (bor2 (gIn false) (rdv 4) 1)))))
def f_shows_way : Fn := fnOf 7 b_shows_way
abbrev s_shows_hopeless : Stmt := topS 19
def b_shows_hopeless : Sm :=
    (zSeq (zIf (tst (bor2 (gIn true) (rdv 2) 3)) (zRet (cst (.bl false))) zNil)
    (zSeq (zFor [4, 5, 6, 7] (iAny (rdv 3)) (gN 4)
    (zSeq (zIf (tOr' (tNot' (tst (cal 2 f_is_place [] (gFz (rdv 4) (gFz (bor1 gLen 0) gNil))))) (tst (bor2 (gIn false) (rdv 4) 1))) (zRet (cst (.bl false))) zNil)
    (zFor [5, 6, 7] (iAny (ixv 0 (rdv 4))) (gT [(gN 5), (gN 6)])
    (zFor [7] (iAny (rdv 5)) (gN 7)
    (zIf (tst (bor2 (gIn true) (rdv 7) 3)) (zRet (cst (.bl false))) zNil)))))
    (zRet (cst (.bl true)))))
def f_shows_hopeless : Fn := fnOf 8 b_shows_hopeless
abbrev s_moves_by_others : Stmt := topS 21
def b_moves_by_others : Sm :=
    (zSeq (zSet 5 (dLst aNil))
    (zSeq (zSet 6 (cst (.int 0)))
    (zSeq (zWhile bigN [7, 8, 9, 10, 11] (tst (op2 gLt (rdv 6) (bor1 gLen 3)))
    (zSeq (zSet 7 (ixv 3 (rdv 6)))
    (zSeq (zFor [8, 9, 10, 11] (iEnu (ixv 0 (rdv 7))) (gT [(gN 8), (gT [(gN 9), (gN 10)])])
    (zFor [11] (iAny (rdv 9)) (gN 11)
    (zIf (tst (op2 gEq (rdv 8) (rdv 1))) (zApp 5 (dTup (aCons (rdv 7) (aCons (rdv 11) aNil)))) (zIf (tst (bor2 (gInD true) (rdv 11) 2)) (zSeq (zPutD 2 (rdv 11) (dTup (aCons (rdv 4) (aCons (rdv 7) (aCons (rdv 8) aNil)))))
    (zApp 3 (rdv 11))) zNil))))
    (zSet 6 (op2 gAdd (rdv 6) (cst (.int 1)))))))
    (zRet (mvv 5)))))
def f_moves_by_others : FnO := fnIO 12 [2, 3] b_moves_by_others
abbrev s_press_origins : Stmt := topS 22
def b_press_origins : Sm :=
    (zSeq (zSet 3 (dDisp (rdv 1) (dTup (aCons (cst (.int 0)) (aCons (cst .non) (aCons (cst .non) aNil))))))
    (zSeq (zSet 4 (dLst (aCons (rdv 1) aNil)))
    (zSeq (zFor [5, 6, 7, 8] (iR1 (bor1 gLen 0)) (gN 5)
    (zSeq (zFrz 6 (zSet 6 (calIO 5 [2, 3] f_moves_by_others [] (bFz (rdv 0) (bFz (rdv 2) (bBr 3 (bBr 4 (bFz (rdv 5) bNil))))))))
    (zSeq (zSet 4 (dLst aNil))
    (zFor [7, 8] (iAny (rdv 6)) (gT [(gN 7), (gN 8)])
    (zIf (tst (bor2 (gInD true) (rdv 8) 3)) (zSeq (zPutD 3 (rdv 8) (dTup (aCons (op2 gAdd (rdv 5) (cst (.int 1))) (aCons (rdv 7) (aCons (rdv 2) aNil)))))
    (zApp 4 (rdv 8))) zNil)))))
    (zRet (mvv 3)))))
def f_press_origins : Fn := fnOf 9 b_press_origins
abbrev s_way_to : Stmt := topS 23
def b_way_to : Sm :=
    (zSeq (zSet 2 (dLst aNil))
    (zSeq (zTg (gT [(gN 3), (gN 4), (gN 5)]) (ixd 0 (rdv 1)))
    (zSeq (zWhile bigN [3] (tst (op2 (gIs true) (rdv 4) (cst .non)))
    (zSeq (zApp 2 (dTup (aCons (rdv 5) (aCons (rdv 1) aNil))))
    (zSeq (zSet 1 (rdv 4))
    (zTg (gT [(gN 3), (gN 4), (gN 5)]) (ixd 0 (rdv 1))))))
    (zRet (op1 gTupRev (rdv 2))))))
def f_way_to : Fn := fnOf 6 b_way_to
abbrev s_best_goal : Stmt := topS 24
def b_best_goal : Sm :=
    (zSeq (zSet 2 (cst .non))
    (zSeq (zFor [3] (iAny (rdv 1)) (gN 3)
    (zIf (tAnd' (tst (bor2 (gInD false) (rdv 3) 0)) (tOr' (tst (op2 (gIs false) (rdv 2) (cst .non))) (tst (op2 gLt (op2 gIx (ixd 0 (rdv 3)) (cst (.int 0))) (op2 gIx (ixd 0 (rdv 2)) (cst (.int 0))))))) (zSet 2 (rdv 3)) zNil))
    (zRet (mvv 2))))
def f_best_goal : Fn := fnOf 4 b_best_goal
abbrev s_press_prices : Stmt := topS 25
def b_press_prices : Sm :=
    (zSeq (zSet 3 (dLst aNil))
    (zSeq (zFor [4, 5] (iR1 (bor1 gLen 0)) (gN 4)
    (zSeq (zSet 5 (rdv 2))
    (zSeq (zIf (tst (bor2 (gInD false) (rdv 4) 1)) (zSet 5 (opN gMinE (aCons (op2 gIx (ixd 1 (rdv 4)) (cst (.int 0))) (aCons (rdv 2) aNil)))) zNil)
    (zApp 3 (rdv 5)))))
    (zRet (opN (un1 gTuple) (aCons (rdv 3) aNil)))))
def f_press_prices : Fn := fnOf 6 b_press_prices
abbrev s_least_presses : Stmt := topS 26
def b_least_presses : Sm :=
    (zSeq (zDrop (cal 3 f_demand_question [] (gFz (rdv 0) (gFz (rdv 1) (gFz (rdv 2) gNil)))))
    (zSeq (zIf (tNot' (tst (cal 2 f_is_place [] (gFz (rdv 3) (gFz (opN (un1 gLen) (aCons (ixv 0 (cst (.int 0))) aNil)) gNil))))) (zRsF "BadEvent" "index" (rdv 3)) zNil)
    (zSeq (zFrz 4 (zSet 4 (cal 3 f_press_origins [] (gFz (rdv 0) (gFz (rdv 2) (gFz (rdv 3) gNil))))))
    (zSeq (zFrz 5 (zSet 5 (cal 2 f_best_goal [] (gFz (rdv 4) (gFz (rdv 1) gNil)))))
    (zSeq (zIf (tst (op2 (gIs false) (rdv 5) (cst .non))) (zRet (dTup (aCons (cst (.str "never")) (aCons (opN (un1 gTuple) (aCons (opN (un1 gSorted2) (aCons (rdv 4) aNil)) aNil)) aNil)))) zNil)
    (zSeq (zSet 6 (op2 gIx (ixd 4 (rdv 5)) (cst (.int 0))))
    (zRet (dTup (aCons (cst (.str "least")) (aCons (rdv 6) (aCons (cal 2 f_way_to [] (gFz (rdv 4) (gFz (rdv 5) gNil))) (aCons (cal 3 f_press_prices [] (gFz (rdv 0) (gFz (rdv 4) (gFz (rdv 6) gNil)))) aNil))))))))))))
def f_least_presses : Fn := fnOf 7 b_least_presses
abbrev s_row_keeps_prices : Stmt := topS 27
def b_row_keeps_prices : Sm :=
    (zSeq (zFor [4, 5, 6, 7] (iEnu (rdv 0)) (gT [(gN 4), (gT [(gN 5), (gN 6)])])
    (zFor [7] (iAny (rdv 5)) (gN 7)
    (zIf (tst (op2 gGt (ixv 3 (rdv 7)) (op2 gAdd (rdv 1) (opN (un1 gInt) (aCons (op2 gEq (rdv 4) (rdv 2)) aNil))))) (zRet (cst (.bl false))) zNil)))
    (zRet (cst (.bl true))))
def f_row_keeps_prices : Fn := fnOf 8 b_row_keeps_prices
abbrev s_shows_prices : Stmt := topS 28
def b_shows_prices : Sm :=
    (zSeq (zIf (tOr' (tNot' (tst (cal 2 f_is_place [] (gFz (rdv 2) (gFz (bor1 gLen 0) gNil))))) (tOr' (tNot' (tst (cal 2 f_is_place [] (gFz (rdv 3) (gFz (opN (un1 gLen) (aCons (ixv 0 (cst (.int 0))) aNil)) gNil))))) (tst (op2 gNe (bor1 gLen 5) (bor1 gLen 0))))) (zRet (cst (.bl false))) zNil)
    (zSeq (zIf (tst (op2 gNe (ixv 5 (rdv 2)) (cst (.int 0)))) (zRet (cst (.bl false))) zNil)
    (zSeq (zFor [6, 7] (iEnu (rdv 0)) (gT [(gN 6), (gN 7)])
    (zIf (tNot' (tst (cal 4 f_row_keeps_prices [] (gFz (rdv 7) (gFz (ixv 5 (rdv 6)) (gFz (rdv 3) (gFz (rdv 5) gNil))))))) (zRet (cst (.bl false))) zNil))
    (zSeq (zFor [8] (iAny (rdv 1)) (gN 8)
    (zIf (tst (op2 gLt (ixv 5 (rdv 8)) (rdv 4))) (zRet (cst (.bl false))) zNil))
    (zRet (cst (.bl true)))))))
def f_shows_prices : Fn := fnOf 9 b_shows_prices
abbrev s_must_events : Stmt := topS 29
def b_must_events : Sm :=
    (zSeq (zDrop (cal 3 f_demand_question [] (gFz (rdv 0) (gFz (rdv 1) (gFz (rdv 2) gNil)))))
    (zSeq (zSet 3 (dLst aNil))
    (zSeq (zIf (tst (op2 (gIs false) (cal 2 f_best_goal [] (gFz (cal 3 f_press_origins [] (gFz (rdv 0) (gFz (rdv 2) (gFz (op1 gNeg (cst (.int 1))) gNil)))) (gFz (rdv 1) gNil))) (cst .non))) (zRet (cst .non)) zNil)
    (zSeq (zFor [4] (iR1 (opN (un1 gLen) (aCons (ixv 0 (cst (.int 0))) aNil))) (gN 4)
    (zIf (tst (op2 gGt (op2 gIx (cal 4 f_least_presses [] (gFz (rdv 0) (gFz (rdv 1) (gFz (rdv 2) (gFz (rdv 4) gNil))))) (cst (.int 1))) (cst (.int 0)))) (zApp 3 (rdv 4)) zNil))
    (zRet (opN (un1 gTuple) (aCons (rdv 3) aNil)))))))
def f_must_events : Fn := fnOf 5 b_must_events
abbrev s__law_cell : Stmt := topS 31
def b__law_cell : Sm :=
    (zSeq (zIf (tst (op2 gLt (rdv 1) (bor1 gLen 0))) (zRet (ixv 0 (rdv 1))) zNil)
    (zRet (cst (.int 0))))
def f__law_cell : Fn := fnOf 2 b__law_cell
abbrev s__law_row : Stmt := topS 32
def b__law_row : Sm :=
    (zSeq (zSet 2 (rdv 0))
    (zSeq (zSet 3 (op2 gMod (opN (un1 gInt) (aCons (op2 gAdd (op2 gMul (rdv 0) (cst (.int 48271))) (cst (.int 12345))) aNil)) (cst (.int 2147483647))))
    (zSeq (zSet 4 (dLst aNil))
    (zSeq (zFor [5] (iAny (rdv 1)) (gN 5)
    (zIf (tst (op2 gGe (rdv 0) (op2 gPow (cst (.int 10)) (cst (.int 18))))) (zSeq (zApp 4 (op2 gMod (opN (un1 gInt) (aCons (rdv 2) aNil)) (rdv 5)))
    (zSet 2 (op2 gFdiv (rdv 2) (rdv 5)))) (zSeq (zSet 3 (op2 gMod (opN (un1 gInt) (aCons (op2 gAdd (op2 gMul (rdv 3) (cst (.int 16807))) (cst (.int 54321))) aNil)) (cst (.int 2147483647))))
    (zApp 4 (op2 gMod (op2 gFdiv (rdv 3) (cst (.int 64))) (rdv 5))))))
    (zRet (mvv 4))))))
def f__law_row : Fn := fnOf 6 b__law_row
abbrev s__law_targets : Stmt := topS 33
def b__law_targets : Sm :=
    (zSeq (zIf (tst (op2 gEq (ixv 0 (cst (.int 0))) (cst (.int 7)))) (zRet (lcS [2] (iR1 (rdv 1)) (gN 2) tYes' (rdv 2))) zNil)
    (zSeq (zSet 3 (op2 gIx (dLst (aCons (cst (.int 0)) (aCons (cst (.int 1)) (aCons (cst (.int 1)) (aCons (cst (.int 1)) (aCons (cst (.int 2)) (aCons (cst (.int 2)) (aCons (cst (.int 3)) aNil)))))))) (ixv 0 (cst (.int 0)))))
    (zRet (op1 gSortSet (lcS [4] (iAny (slE (rdv 0) (poS (cst (.int 1))) (poS (op2 gAdd (cst (.int 1)) (rdv 3))))) (gN 4) tYes' (op2 gMod (opN (un1 gInt) (aCons (rdv 4) aNil)) (rdv 1)))))))
def f__law_targets : Fn := fnOf 5 b__law_targets
abbrev s__law_moves : Stmt := topS 34
def b__law_moves : Sm :=
    (zSeq (zSet 3 (dLst aNil))
    (zSeq (zFor [4, 5, 6, 7] (iR1 (rdv 1)) (gN 4)
    (zSeq (zFrz 5 (zSet 5 (cal 2 f__law_row [] (gFz (op2 gAdd (cal 2 f__law_cell [] (gFz (rdv 0) (gFz (op2 gAdd (cst (.int 3)) (rdv 4)) gNil))) (op2 gMul (cst (.int 131)) (rdv 4))) (gFz (op2 gMul (dLst (aCons (cst (.int 8)) (aCons (cst (.int 60)) (aCons (cst (.int 60)) (aCons (cst (.int 60)) (aCons (cst (.int 5)) aNil)))))) (rdv 2)) gNil)))))
    (zSeq (zSet 6 (dLst aNil))
    (zSeq (zFor [7] (iR1 (rdv 2)) (gN 7)
    (zApp 6 (dTup (aCons (cal 2 f__law_targets [] (gFz (slE (rdv 5) (poS (op2 gMul (cst (.int 5)) (rdv 7))) (poS (op2 gAdd (op2 gMul (cst (.int 5)) (rdv 7)) (cst (.int 4))))) (gFz (rdv 1) gNil))) (aCons (op2 gEq (ixv 5 (op2 gAdd (op2 gMul (cst (.int 5)) (rdv 7)) (cst (.int 4)))) (cst (.int 1))) aNil)))))
    (zApp 3 (rdv 6))))))
    (zRet (mvv 3))))
def f__law_moves : Fn := fnOf 8 b__law_moves
abbrev s__law_lined : Stmt := topS 35
def b__law_lined : Sm :=
    (zSeq (zFor [3, 4, 5, 6, 7, 8, 9] (iR2 (cst (.int 1)) (bor1 gLen 1)) (gN 3)
    (zSeq (zSet 4 (ixv 1 (op2 gSub (rdv 3) (cst (.int 1)))))
    (zSeq (zSet 5 (op2 gMod (ixv 2 (rdv 3)) (opN (un1 gLen) (aCons (ixv 0 (rdv 4)) aNil))))
    (zSeq (zSet 6 (dLst aNil))
    (zSeq (zFor [7, 8, 9] (iR1 (opN (un1 gLen) (aCons (ixv 0 (rdv 4)) aNil))) (gN 7)
    (zSeq (zTg (gT [(gN 8), (gN 9)]) (op2 gIx (ixv 0 (rdv 4)) (rdv 7)))
    (zIf (tst (op2 gEq (rdv 7) (rdv 5))) (zApp 6 (dTup (aCons (dLst (aCons (ixv 1 (rdv 3)) aNil)) (aCons (rdv 9) aNil)))) (zApp 6 (dTup (aCons (lcS [10] (iAny (rdv 8)) (gN 10) (tst (op2 (gIn false) (rdv 10) (slE (rdv 1) poN (poS (rdv 3))))) (rdv 10)) (aCons (rdv 9) aNil)))))))
    (zPut 0 (rdv 4) (rdv 6)))))))
    (zRet (mvv 0)))
def f__law_lined : Fn := fnOf 11 b__law_lined
abbrev s__law_copied : Stmt := topS 36
def b__law_copied : Sm :=
    (zSeq (zIf (tst (rdv 1)) (zRet (opN (un1 gTuple) (aCons (lcS [2] (iAny (rdv 0)) (gN 2) tYes' (opN (un1 gTuple) (aCons (lcS [3] (iAny (rdv 2)) (gN 3) tYes' (dTup (aCons (opN (un1 gTuple) (aCons (ixv 3 (cst (.int 0))) aNil)) (aCons (ixv 3 (cst (.int 1))) aNil)))) aNil))) aNil))) zNil)
    (zRet (lcS [2] (iAny (rdv 0)) (gN 2) tYes' (lcS [3] (iAny (rdv 2)) (gN 3) tYes' (dTup (aCons (opN (un1 gList) (aCons (ixv 3 (cst (.int 0))) aNil)) (aCons (ixv 3 (cst (.int 1))) aNil)))))))
def f__law_copied : Fn := fnOf 4 b__law_copied
abbrev s__law_reach : Stmt := topS 37
def b__law_reach : Sm :=
    (zSeq (zSet 3 (opN (un1 gList) (aCons (rdv 1) aNil)))
    (zSeq (zFor [4, 5, 6] (iR1 (bor1 gLen 0)) (gN 4)
    (zSeq (zIf (tst (op2 gGe (rdv 4) (bor1 gLen 3))) zBk zNil)
    (zFor [5, 6] (iR1 (opN (un1 gLen) (aCons (ixv 0 (ixv 3 (rdv 4))) aNil))) (gN 5)
    (zFor [6] (iAny (op2 gIx (op2 gIx (ixv 0 (ixv 3 (rdv 4))) (rdv 5)) (cst (.int 0)))) (gN 6)
    (zIf (tAnd' (tst (op2 gNe (rdv 5) (rdv 2))) (tst (bor2 (gIn true) (rdv 6) 3))) (zApp 3 (rdv 6)) zNil)))))
    (zRet (mvv 3))))
def f__law_reach : Fn := fnOf 7 b__law_reach
abbrev s__law_presses : Stmt := topS 38
def b__law_presses : Sm :=
    (zSeq (zSet 3 (lcS [4] (iAny (rdv 0)) (gN 4) tYes' (op1 gNeg (cst (.int 1)))))
    (zSeq (zPut 3 (rdv 1) (cst (.int 0)))
    (zSeq (zSet 5 (dLst (aCons (rdv 1) aNil)))
    (zSeq (zFor [6, 7, 8, 9, 10] (iR1 (bor1 gLen 0)) (gN 6)
    (zSeq (zSet 7 (dLst aNil))
    (zSeq (zFor [8, 9, 10] (iR1 (bor1 gLen 0)) (gN 8)
    (zSeq (zIf (tst (op2 gGe (rdv 8) (bor1 gLen 5))) zBk zNil)
    (zFor [9, 10] (iR1 (opN (un1 gLen) (aCons (ixv 0 (ixv 5 (rdv 8))) aNil))) (gN 9)
    (zFor [10] (iAny (op2 gIx (op2 gIx (ixv 0 (ixv 5 (rdv 8))) (rdv 9)) (cst (.int 0)))) (gN 10)
    (zIf (tst (op2 gEq (rdv 9) (rdv 2))) (zApp 7 (rdv 10)) (zIf (tst (op2 gLt (ixv 3 (rdv 10)) (cst (.int 0)))) (zSeq (zPut 3 (rdv 10) (rdv 6))
    (zApp 5 (rdv 10))) zNil))))))
    (zSeq (zSet 5 (dLst aNil))
    (zFor [10] (iAny (rdv 7)) (gN 10)
    (zIf (tst (op2 gLt (ixv 3 (rdv 10)) (cst (.int 0)))) (zSeq (zPut 3 (rdv 10) (op2 gAdd (rdv 6) (cst (.int 1))))
    (zApp 5 (rdv 10))) zNil))))))
    (zRet (mvv 3))))))
def f__law_presses : Fn := fnOf 11 b__law_presses
abbrev s__law_best_way : Stmt := topS 39
def b__law_best_way : Sm :=
    (zSeq (zSet 3 (dLst (aCons (dTup (aCons (rdv 2) (aCons (dLst aNil) aNil))) aNil)))
    (zSeq (zSet 4 (dLst (aCons (rdv 2) aNil)))
    (zSeq (zFor [5, 6, 7, 8, 9] (iR1 (bor1 gLen 0)) (gN 5)
    (zSeq (zIf (tst (op2 gGe (rdv 5) (bor1 gLen 3))) (zRet (cst .non)) zNil)
    (zSeq (zTg (gT [(gN 6), (gN 7)]) (ixv 3 (rdv 5)))
    (zSeq (zIf (tst (bor2 (gIn false) (rdv 6) 1)) (zRet (mvv 7)) zNil)
    (zFor [8, 9] (iR1 (opN (un1 gLen) (aCons (ixv 0 (rdv 6)) aNil))) (gN 8)
    (zFor [9] (iAny (op2 gIx (op2 gIx (ixv 0 (rdv 6)) (rdv 8)) (cst (.int 0)))) (gN 9)
    (zIf (tst (bor2 (gIn true) (rdv 9) 4)) (zSeq (zApp 4 (rdv 9))
    (zApp 3 (dTup (aCons (rdv 9) (aCons (op2 gAdd (rdv 7) (dLst (aCons (dTup (aCons (rdv 8) (aCons (rdv 9) aNil))) aNil))) aNil))))) zNil)))))))
    (zRet (cst .non)))))
def f__law_best_way : Fn := fnOf 10 b__law_best_way
abbrev s__law_is_integer : Stmt := topS 40
def b__law_is_integer : Sm :=
    (zRet (vAnd (op1 (gIsi "int") (rdv 0)) (vNot (op1 (gIsi "bool") (rdv 0)))))
def f__law_is_integer : Fn := fnOf 1 b__law_is_integer
abbrev s__law_is_row : Stmt := topS 41
def b__law_is_row : Sm :=
    (zSeq (zIf (tOr' (tNot' (tst (op1 (gIsi "tuple") (rdv 0)))) (tst (op2 gNe (bor1 gLen 0) (bor1 gLen 1)))) (zRet (cst (.bl false))) zNil)
    (zSeq (zFor [2] (iR1 (bor1 gLen 1)) (gN 2)
    (zIf (tOr' (tNot' (tst (cal 1 f__law_is_integer [] (gFz (ixv 0 (rdv 2)) gNil)))) (tst (op2 gNe (ixv 0 (rdv 2)) (ixv 1 (rdv 2))))) (zRet (cst (.bl false))) zNil))
    (zRet (cst (.bl true)))))
def f__law_is_row : Fn := fnOf 3 b__law_is_row
abbrev s__law_is_way : Stmt := topS 42
def b__law_is_way : Sm :=
    (zSeq (zIf (tNot' (tst (op1 (gIsi "tuple") (rdv 0)))) (zRet (cst (.bl false))) zNil)
    (zSeq (zFor [1] (iAny (rdv 0)) (gN 1)
    (zSeq (zIf (tOr' (tNot' (tst (op1 (gIsi "tuple") (rdv 1)))) (tst (op2 gNe (bor1 gLen 1) (cst (.int 2))))) (zRet (cst (.bl false))) zNil)
    (zIf (tOr' (tNot' (tst (cal 1 f__law_is_integer [] (gFz (ixv 1 (cst (.int 0))) gNil)))) (tNot' (tst (cal 1 f__law_is_integer [] (gFz (ixv 1 (cst (.int 1))) gNil))))) (zRet (cst (.bl false))) zNil)))
    (zRet (cst (.bl true)))))
def f__law_is_way : Fn := fnOf 2 b__law_is_way
abbrev s__law_leads : Stmt := topS 43
def b__law_leads : Sm :=
    (zSeq (zIf (tNot' (chn gLe gLt (cst (.int 0)) (rdv 2) (bor1 gLen 0))) (zRet (cst (.bl false))) zNil)
    (zSeq (zSet 4 (rdv 2))
    (zSeq (zFor [5, 6] (iAny (rdv 3)) (gT [(gN 5), (gN 6)])
    (zSeq (zIf (tOr' (tNot' (chn gLe gLt (cst (.int 0)) (rdv 5) (opN (un1 gLen) (aCons (ixv 0 (rdv 4)) aNil)))) (tst (op2 (gIn true) (rdv 6) (op2 gIx (op2 gIx (ixv 0 (rdv 4)) (rdv 5)) (cst (.int 0)))))) (zRet (cst (.bl false))) zNil)
    (zSet 4 (rdv 6))))
    (zRet (bor2 (gIn false) (rdv 4) 1)))))
def f__law_leads : Fn := fnOf 7 b__law_leads
abbrev s__law_prices_are_right : Stmt := topS 44
def b__law_prices_are_right : Sm :=
    (zSeq (zIf (tOr' (tst (op2 gNe (bor1 gLen 5) (bor1 gLen 0))) (tOr' (tNot' (chn gLe gLt (cst (.int 0)) (rdv 2) (bor1 gLen 0))) (tNot' (chn gLe gLt (cst (.int 0)) (rdv 3) (opN (un1 gLen) (aCons (ixv 0 (cst (.int 0))) aNil)))))) (zRet (cst (.bl false))) zNil)
    (zSeq (zIf (tOr' (tst (op2 gNe (ixv 5 (rdv 2)) (cst (.int 0)))) (tst (op2 gGt (opN (un1 gLen) (aCons (lcS [6] (iAny (rdv 1)) (gN 6) (tst (op2 gLt (ixv 5 (rdv 6)) (rdv 4))) (rdv 6)) aNil)) (cst (.int 0))))) (zRet (cst (.bl false))) zNil)
    (zSeq (zFor [7, 8, 9] (iR1 (bor1 gLen 0)) (gN 7)
    (zFor [8, 9] (iR1 (opN (un1 gLen) (aCons (ixv 0 (rdv 7)) aNil))) (gN 8)
    (zFor [9] (iAny (op2 gIx (op2 gIx (ixv 0 (rdv 7)) (rdv 8)) (cst (.int 0)))) (gN 9)
    (zIf (tst (op2 gGt (ixv 5 (rdv 9)) (op2 gAdd (ixv 5 (rdv 7)) (opN (un1 gInt) (aCons (op2 gEq (rdv 8) (rdv 3)) aNil))))) (zRet (cst (.bl false))) zNil))))
    (zRet (cst (.bl true))))))
def f__law_prices_are_right : Fn := fnOf 10 b__law_prices_are_right
abbrev s__law_is_hopeless : Stmt := topS 45
def b__law_is_hopeless : Sm :=
    (zSeq (zIf (tst (bor2 (gIn true) (rdv 2) 3)) (zRet (cst (.bl false))) zNil)
    (zSeq (zFor [4, 5, 6] (iAny (rdv 3)) (gN 4)
    (zSeq (zIf (tOr' (tNot' (chn gLe gLt (cst (.int 0)) (rdv 4) (bor1 gLen 0))) (tst (bor2 (gIn false) (rdv 4) 1))) (zRet (cst (.bl false))) zNil)
    (zFor [5, 6] (iAny (ixv 0 (rdv 4))) (gT [(gN 5), (gN 6)])
    (zIf (tst (op2 gGt (opN (un1 gLen) (aCons (lcS [7] (iAny (rdv 5)) (gN 7) (tst (bor2 (gIn true) (rdv 7) 3)) (rdv 7)) aNil)) (cst (.int 0)))) (zRet (cst (.bl false))) zNil))))
    (zRet (cst (.bl true)))))
def f__law_is_hopeless : Fn := fnOf 8 b__law_is_hopeless
abbrev s__law_says : Stmt := topS 46
def b__law_says : Sm :=
    (zRet (vAnd (op1 (gIsi "bool") (rdv 0)) (op2 gEq (rdv 0) (rdv 1))))
def f__law_says : Fn := fnOf 2 b__law_says
abbrev s__law_changed : Stmt := topS 47
def b__law_changed : Sm :=
    (zSeq (zSet 4 (opN (un1 gList) (aCons (rdv 0) aNil)))
    (zSeq (zSet 5 (op2 gMod (rdv 2) (op2 gAdd (bor1 gLen 4) (cst (.int 1)))))
    (zSeq (zIf (tst (op2 gEq (rdv 1) (cst (.int 0)))) (zRet (op2 gAdd (slE (rdv 4) poN (poS (rdv 5))) (slE (rdv 4) (poS (op2 gAdd (rdv 5) (cst (.int 1)))) poN))) zNil)
    (zSeq (zIf (tst (op2 gEq (rdv 1) (cst (.int 1)))) (zRet (op2 gAdd (op2 gAdd (slE (rdv 4) poN (poS (rdv 5))) (dLst (aCons (rdv 3) aNil))) (slE (rdv 4) (poS (rdv 5)) poN))) zNil)
    (zSeq (zIf (tAnd' (tst (op2 gEq (rdv 1) (cst (.int 2)))) (tst (op2 gLt (rdv 5) (bor1 gLen 4)))) (zPut 4 (rdv 5) (rdv 3)) zNil)
    (zRet (mvv 4)))))))
def f__law_changed : Fn := fnOf 6 b__law_changed
abbrev s__law_judges_agree : Stmt := topS 48
def b__law_judges_agree : Sm :=
    (zSeq (zSet 9 (bor1 gLen 0))
    (zSeq (zSet 10 (ixv 8 (cst (.int 1))))
    (zSeq (zSet 11 (op2 gIx (dLst (aCons (op2 gSub (ixv 8 (cst (.int 2))) (cst (.int 2))) (aCons (ixv 8 (cst (.int 2))) (aCons (op2 gMod (ixv 8 (cst (.int 3))) (rdv 9)) (aCons (op2 gPow (cst (.int 10)) (cst (.int 20))) aNil))))) (ixv 8 (cst (.int 4)))))
    (zSeq (zFrz 12 (zSet 12 (cal 4 f__law_changed [] (gFz (rdv 5) (gFz (ixv 8 (cst (.int 0))) (gFz (rdv 10) (gFz (rdv 11) gNil)))))))
    (zSeq (zIf (tAnd' (tst (op2 gEq (ixv 8 (cst (.int 0))) (cst (.int 3)))) (tst (op2 gGt (rdv 4) (cst (.int 0))))) (zFrz 12 (zSet 12 (lcS [13] (iAny (rdv 5)) (gN 13) tYes' (op2 gSub (rdv 13) (cst (.int 1)))))) zNil)
    (zSeq (zFrz 14 (zSet 14 (cal 4 f__law_changed [] (gFz (rdv 6) (gFz (ixv 8 (cst (.int 0))) (gFz (rdv 10) (gFz (dTup (aCons (op2 gSub (op2 gMod (ixv 8 (cst (.int 2))) (cst (.int 9))) (cst (.int 1))) (aCons (op2 gMod (ixv 8 (cst (.int 3))) (rdv 9)) aNil))) gNil)))))))
    (zSeq (zFrz 15 (zSet 15 (cal 4 f__law_changed [] (gFz (rdv 7) (gFz (ixv 8 (cst (.int 0))) (gFz (rdv 10) (gFz (op2 gIx (dLst (aCons (op2 gMod (ixv 8 (cst (.int 3))) (rdv 9)) (aCons (op1 gNeg (cst (.int 1))) (aCons (rdv 9) (aCons (op2 gMod (ixv 8 (cst (.int 3))) (rdv 9)) aNil))))) (ixv 8 (cst (.int 4)))) gNil)))))))
    (zSeq (zFrz 16 (zSet 16 (dLst (aCons (rdv 2) (aCons (op2 gMod (ixv 8 (cst (.int 3))) (rdv 9)) (aCons (op2 gIx (dLst (aCons (op1 gNeg (cst (.int 1))) (aCons (rdv 9) aNil))) (op2 gMod (ixv 8 (cst (.int 2))) (cst (.int 2)))) aNil))))))
    (zSeq (zFor [17, 18, 19, 20] (iAny (rdv 16)) (gN 17)
    (zSeq (zFor [18, 19, 20] (iAny (dLst (aCons (opN (un1 gList) (aCons (rdv 5) aNil)) (aCons (rdv 12) aNil)))) (gN 18)
    (zFor [19, 20] (iAny (dLst (aCons (rdv 4) (aCons (op2 gAdd (rdv 4) (cst (.int 1))) aNil)))) (gN 19)
    (zSeq (zFrz 20 (zSet 20 (cal 6 f__law_prices_are_right [] (gFz (rdv 0) (gFz (rdv 1) (gFz (rdv 17) (gFz (rdv 3) (gFz (rdv 19) (gFz (rdv 18) gNil)))))))))
    (zIf (tNot' (tst (cal 2 f__law_says [] (gFz (cal 6 f_shows_prices [] (gFz (rdv 0) (gFz (rdv 1) (gFz (rdv 17) (gFz (rdv 3) (gFz (rdv 19) (gFz (rdv 18) gNil))))))) (gFz (rdv 20) gNil))))) (zRet (cst (.bl false))) zNil))))
    (zSeq (zFor [18] (iAny (dLst (aCons (opN (un1 gList) (aCons (rdv 6) aNil)) (aCons (rdv 14) aNil)))) (gN 18)
    (zIf (tNot' (tst (cal 2 f__law_says [] (gFz (cal 4 f_shows_way [] (gFz (rdv 0) (gFz (rdv 1) (gFz (rdv 17) (gFz (rdv 18) gNil))))) (gFz (cal 4 f__law_leads [] (gFz (rdv 0) (gFz (rdv 1) (gFz (rdv 17) (gFz (rdv 18) gNil))))) gNil))))) (zRet (cst (.bl false))) zNil))
    (zFor [18] (iAny (dLst (aCons (opN (un1 gList) (aCons (rdv 7) aNil)) (aCons (rdv 15) aNil)))) (gN 18)
    (zIf (tNot' (tst (cal 2 f__law_says [] (gFz (cal 4 f_shows_hopeless [] (gFz (rdv 0) (gFz (rdv 1) (gFz (rdv 17) (gFz (rdv 18) gNil))))) (gFz (cal 4 f__law_is_hopeless [] (gFz (rdv 0) (gFz (rdv 1) (gFz (rdv 17) (gFz (rdv 18) gNil))))) gNil))))) (zRet (cst (.bl false))) zNil)))))
    (zRet (cst (.bl true))))))))))))
def f__law_judges_agree : Fn := fnOf 21 b__law_judges_agree
abbrev s__law_way_is : Stmt := topS 49
def b__law_way_is : Sm :=
    (zSeq (zIf (tst (op2 (gIs false) (rdv 1) (cst .non))) (zRet (op2 (gIs false) (rdv 0) (cst .non))) zNil)
    (zRet (vAnd (cal 1 f__law_is_way [] (gFz (rdv 0) gNil)) (op2 gEq (opN (un1 gList) (aCons (rdv 0) aNil)) (rdv 1)))))
def f__law_way_is : Fn := fnOf 2 b__law_way_is
abbrev s__law_musts : Stmt := topS 50
def b__law_musts : Sm :=
    (zSeq (zSet 3 (dLst aNil))
    (zSeq (zFor [4, 5] (iR1 (opN (un1 gLen) (aCons (ixv 0 (cst (.int 0))) aNil))) (gN 4)
    (zSeq (zFrz 5 (zSet 5 (cal 3 f__law_reach [] (gFz (rdv 0) (gFz (dLst (aCons (rdv 2) aNil)) (gFz (rdv 4) gNil))))))
    (zIf (tst (op2 gEq (opN (un1 gLen) (aCons (lcS [6] (iAny (rdv 1)) (gN 6) (tst (bor2 (gIn false) (rdv 6) 5)) (rdv 6)) aNil)) (cst (.int 0)))) (zApp 3 (rdv 4)) zNil)))
    (zRet (mvv 3))))
def f__law_musts : Fn := fnOf 7 b__law_musts
abbrev s__law_ascending : Stmt := topS 51
def b__law_ascending : Sm :=
    (zSeq (zSet 2 (op1 gNeg (cst (.int 1))))
    (zSeq (zFor [3] (iAny (rdv 0)) (gN 3)
    (zSeq (zIf (tNot' (chn gLt gLt (rdv 2) (rdv 3) (rdv 1))) (zRet (cst (.bl false))) zNil)
    (zSet 2 (rdv 3))))
    (zRet (cst (.bl true)))))
def f__law_ascending : Fn := fnOf 4 b__law_ascending
abbrev s__law_are_moves : Stmt := topS 52
def b__law_are_moves : Sm :=
    (zSeq (zIf (tOr' (tNot' (chn gLe gLe (cst (.int 1)) (bor1 gLen 0) (cst (.int 60)))) (tst (op2 gGt (opN (un1 gLen) (aCons (ixv 0 (cst (.int 0))) aNil)) (cst (.int 6))))) (zRet (cst (.bl false))) zNil)
    (zSeq (zFor [1] (iAny (rdv 0)) (gN 1)
    (zIf (tOr' (tst (op2 gNe (bor1 gLen 1) (opN (un1 gLen) (aCons (ixv 0 (cst (.int 0))) aNil)))) (tst (op2 gGt (opN (un1 gLen) (aCons (lcS [2] (iAny (rdv 1)) (gN 2) (tNot' (tst (cal 2 f__law_ascending [] (gFz (ixv 2 (cst (.int 0))) (gFz (bor1 gLen 0) gNil))))) (rdv 2)) aNil)) (cst (.int 0))))) (zRet (cst (.bl false))) zNil))
    (zRet (cst (.bl true)))))
def f__law_are_moves : Fn := fnOf 3 b__law_are_moves
abbrev s__law_due : Stmt := topS 53
def b__law_due : Sm :=
    (zSeq (zIf (tNot' (tst (cal 1 f__law_are_moves [] (gFz (rdv 1) gNil)))) (zRet (dTup (aCons (cst (.str "graph")) (aCons (cst (.int 0)) aNil)))) zNil)
    (zSeq (zIf (tOr' (tNot' (tst (cal 2 f__law_ascending [] (gFz (rdv 2) (gFz (bor1 gLen 1) gNil))))) (tNot' (chn gLe gLt (cst (.int 0)) (rdv 3) (bor1 gLen 1)))) (zRet (dTup (aCons (cst (.str "order")) (aCons (cst (.int 0)) aNil)))) zNil)
    (zSeq (zIf (tAnd' (tst (op2 gEq (rdv 0) (cst (.str "presses")))) (tNot' (chn gLe gLt (cst (.int 0)) (rdv 4) (opN (un1 gLen) (aCons (ixv 1 (cst (.int 0))) aNil))))) (zRet (dTup (aCons (cst (.str "event")) (aCons (rdv 4) aNil)))) zNil)
    (zRet (dTup (aCons (cst (.str "none")) (aCons (cst (.int 0)) aNil)))))))
def f__law_due : Fn := fnOf 5 b__law_due
abbrev s__law_refusal : Stmt := topS 54
def b__law_refusal : Sm :=
    (zSeq (zTry (zIf (tst (op2 gEq (rdv 0) (cst (.str "wish")))) (zDrop (cal 3 f_wish_paper [] (gFz (rdv 1) (gFz (rdv 2) (gFz (rdv 3) gNil))))) (zIf (tst (op2 gEq (rdv 0) (cst (.str "hope")))) (zDrop (cal 3 f_hope_way [] (gFz (rdv 1) (gFz (rdv 2) (gFz (rdv 3) gNil))))) (zIf (tst (op2 gEq (rdv 0) (cst (.str "must")))) (zDrop (cal 3 f_must_events [] (gFz (rdv 1) (gFz (rdv 2) (gFz (rdv 3) gNil))))) (zDrop (cal 4 f_least_presses [] (gFz (rdv 1) (gFz (rdv 2) (gFz (rdv 3) (gFz (rdv 4) gNil))))))))) [([("BadEvent", false), ("BadOrder", false), ("BadGraph", true)], some 5, (zRet (dTup (aCons (cst (.str "graph")) (aCons (opN (un1 gInt) (aCons (vOr (op1 (gIsE [("BadEvent", false), ("BadOrder", true), ("BadGraph", false)]) (rdv 5)) (vNot (op1 (gIsE [("BadEvent", true), ("BadOrder", true), ("BadGraph", true)]) (rdv 5)))) aNil)) aNil))))), ([("BadEvent", false), ("BadOrder", true), ("BadGraph", false)], some 6, (zRet (dTup (aCons (cst (.str "order")) (aCons (opN (un1 gInt) (aCons (vOr (op1 (gIsE [("BadEvent", true), ("BadOrder", false), ("BadGraph", false)]) (rdv 6)) (vNot (op1 (gIsE [("BadEvent", true), ("BadOrder", true), ("BadGraph", true)]) (rdv 6)))) aNil)) aNil))))), ([("BadEvent", true), ("BadOrder", false), ("BadGraph", false)], some 7, (zRet (dTup (aCons (cst (.str "event")) (aCons (op1 (gFld ["BadEvent"] "index") (rdv 7)) aNil)))))])
    (zRet (dTup (aCons (cst (.str "none")) (aCons (cst (.int 0)) aNil)))))
def f__law_refusal : Fn := fnOf 8 b__law_refusal
abbrev s__law_spoilt : Stmt := topS 55
def b__law_spoilt : Sm :=
    (zSeq (zSet 7 (lcS [8] (iAny (rdv 0)) (gN 8) tYes' (lcS [9] (iAny (rdv 8)) (gN 9) tYes' (dTup (aCons (opN (un1 gList) (aCons (ixv 9 (cst (.int 0))) aNil)) (aCons (ixv 9 (cst (.int 1))) aNil))))))
    (zSeq (zSet 10 (op2 gMod (rdv 5) (bor1 gLen 7)))
    (zSeq (zIf (tst (op2 gEq (rdv 4) (cst (.int 0)))) (zSet 7 (op2 gIx (dLst (aCons (dLst aNil) (aCons (op2 gAdd (rdv 7) (op2 gMul (slE (rdv 7) poN (poS (cst (.int 1)))) (op2 gSub (cst (.int 61)) (bor1 gLen 7)))) aNil))) (op2 gMod (rdv 5) (cst (.int 2))))) (zIf (tst (op2 gEq (rdv 4) (cst (.int 1)))) (zPut 7 (rdv 10) (op2 gAdd (ixv 7 (rdv 10)) (dLst (aCons (op2 gIx (ixv 7 (rdv 10)) (cst (.int 0))) aNil)))) (zIf (tst (op2 gEq (rdv 4) (cst (.int 2)))) (zSeq (zSet 11 (op2 gIx (op2 gIx (ixv 7 (rdv 10)) (cst (.int 0))) (cst (.int 0))))
    (zPut 7 (rdv 10) (op2 gAdd (dLst (aCons (dTup (aCons (op2 gAdd (rdv 11) (dLst (aCons (op2 gIx (dLst (aCons (rdv 6) (aCons (op1 gNeg (cst (.int 1))) (aCons (op2 gPow (cst (.int 10)) (cst (.int 20))) aNil)))) (op2 gMod (rdv 5) (cst (.int 3)))) aNil))) (aCons (cst (.bl false)) aNil))) aNil)) (slE (ixv 7 (rdv 10)) (poS (cst (.int 1))) poN)))) (zIf (tst (op2 gEq (rdv 4) (cst (.int 3)))) (zPut 7 (rdv 10) (op2 gAdd (slE (ixv 7 (rdv 10)) (poS (cst (.int 1))) poN) (dLst (aCons (dTup (aCons (dLst (aCons (op2 gMod (rdv 5) (rdv 6)) (aCons (op2 gMod (rdv 5) (rdv 6)) aNil))) (aCons (cst (.bl true)) aNil))) aNil)))) (zIf (tst (op2 gEq (rdv 4) (cst (.int 4)))) (zSet 1 (op2 gAdd (rdv 1) (dLst (aCons (op2 gIx (dLst (aCons (cst (.int 0)) (aCons (rdv 6) (aCons (op1 gNeg (cst (.int 1))) (aCons (op2 gPow (cst (.int 10)) (cst (.int 20))) aNil))))) (op2 gMod (rdv 5) (cst (.int 4)))) aNil)))) (zIf (tst (op2 gEq (rdv 4) (cst (.int 5)))) (zSet 2 (op2 gIx (dLst (aCons (op1 gNeg (cst (.int 1))) (aCons (rdv 6) (aCons (op2 gAdd (rdv 6) (rdv 5)) aNil)))) (op2 gMod (rdv 5) (cst (.int 3))))) (zIf (tst (op2 gEq (rdv 4) (cst (.int 6)))) (zSet 3 (op2 gIx (dLst (aCons (op1 gNeg (cst (.int 1))) (aCons (opN (un1 gLen) (aCons (ixv 7 (rdv 10)) aNil)) (aCons (op2 gPow (cst (.int 10)) (cst (.int 20))) aNil)))) (op2 gMod (rdv 5) (cst (.int 3))))) zNil)))))))
    (zRet (dLst (aCons (rdv 7) (aCons (rdv 1) (aCons (rdv 2) (aCons (rdv 3) aNil)))))))))
def f__law_spoilt : Fn := fnOf 12 b__law_spoilt
abbrev s__law_refuses : Stmt := topS 56
def b__law_refuses : Sm :=
    (zSeq (zSet 5 (bor1 gLen 0))
    (zSeq (zFrz 6 (zSet 6 (cal 7 f__law_spoilt [] (gFz (rdv 0) (gFz (rdv 1) (gFz (rdv 2) (gFz (rdv 3) (gFz (ixv 4 (cst (.int 0))) (gFz (ixv 4 (cst (.int 1))) (gFz (rdv 5) gNil))))))))))
    (zSeq (zIf (tAnd' (tst (op2 gLt (ixv 4 (cst (.int 2))) (cst (.int 7)))) (tAnd' (tst (op2 gGt (opN (un1 gLen) (aCons (ixv 6 (cst (.int 0))) aNil)) (cst (.int 0)))) (tst (op2 gGt (opN (un1 gLen) (aCons (op2 gIx (ixv 6 (cst (.int 0))) (cst (.int 0))) aNil)) (cst (.int 0)))))) (zFrz 6 (zSet 6 (cal 7 f__law_spoilt [] (gFz (ixv 6 (cst (.int 0))) (gFz (ixv 6 (cst (.int 1))) (gFz (ixv 6 (cst (.int 2))) (gFz (ixv 6 (cst (.int 3))) (gFz (ixv 4 (cst (.int 2))) (gFz (ixv 4 (cst (.int 3))) (gFz (rdv 5) gNil)))))))))) zNil)
    (zSeq (zIf (tNot' (tst (cal 2 f__law_says [] (gFz (cal 1 f_is_moves [] (gFz (ixv 6 (cst (.int 0))) gNil)) (gFz (cal 1 f__law_are_moves [] (gFz (ixv 6 (cst (.int 0))) gNil)) gNil))))) (zRet (cst (.bl false))) zNil)
    (zSeq (zFor [7, 8] (iAny (dLst (aCons (cst (.str "wish")) (aCons (cst (.str "hope")) (aCons (cst (.str "must")) (aCons (cst (.str "presses")) aNil)))))) (gN 7)
    (zSeq (zFrz 8 (zSet 8 (cal 5 f__law_due [] (gFz (rdv 7) (gFz (ixv 6 (cst (.int 0))) (gFz (ixv 6 (cst (.int 1))) (gFz (ixv 6 (cst (.int 2))) (gFz (ixv 6 (cst (.int 3))) gNil))))))))
    (zIf (tst (op2 gNe (cal 5 f__law_refusal [] (gFz (rdv 7) (gFz (ixv 6 (cst (.int 0))) (gFz (opN (un1 gList) (aCons (ixv 6 (cst (.int 1))) aNil)) (gFz (ixv 6 (cst (.int 2))) (gFz (ixv 6 (cst (.int 3))) gNil)))))) (rdv 8))) (zRet (cst (.bl false))) zNil)))
    (zRet (cst (.bl true))))))))
def f__law_refuses : Fn := fnOf 9 b__law_refuses
abbrev s__law_never_is : Stmt := topS 57
def b__law_never_is : Sm :=
    (zSeq (zIf (tOr' (tst (op2 gNe (ixv 0 (cst (.int 0))) (cst (.str "never")))) (tOr' (tst (op2 gNe (bor1 gLen 0) (cst (.int 2)))) (tst (op2 (gIs true) (rdv 2) (cst .non))))) (zRet (cst (.bl false))) zNil)
    (zRet (cal 2 f__law_is_row [] (gFz (ixv 0 (cst (.int 1))) (gFz (rdv 1) gNil)))))
def f__law_never_is : Fn := fnOf 3 b__law_never_is
abbrev s__law_least_is : Stmt := topS 58
def b__law_least_is : Sm :=
    (zSeq (zIf (tOr' (tst (op2 gNe (ixv 0 (cst (.int 0))) (cst (.str "least")))) (tOr' (tst (op2 gNe (bor1 gLen 0) (cst (.int 4)))) (tOr' (tNot' (tst (cal 1 f__law_is_integer [] (gFz (ixv 0 (cst (.int 1))) gNil)))) (tst (op2 gNe (ixv 0 (cst (.int 1))) (rdv 5)))))) (zRet (cst (.bl false))) zNil)
    (zSeq (zIf (tOr' (tNot' (tst (cal 1 f__law_is_way [] (gFz (ixv 0 (cst (.int 2))) gNil)))) (tNot' (tst (cal 4 f__law_leads [] (gFz (rdv 1) (gFz (rdv 2) (gFz (rdv 3) (gFz (ixv 0 (cst (.int 2))) gNil)))))))) (zRet (cst (.bl false))) zNil)
    (zRet (vAnd (op2 gEq (opN (un1 gLen) (aCons (lcS [7] (iAny (ixv 0 (cst (.int 2)))) (gN 7) (tst (op2 gEq (ixv 7 (cst (.int 0))) (rdv 4))) (rdv 7)) aNil)) (rdv 5)) (cal 2 f__law_is_row [] (gFz (ixv 0 (cst (.int 3))) (gFz (rdv 6) gNil)))))))
def f__law_least_is : Fn := fnOf 8 b__law_least_is
abbrev s_law : Stmt := topS 59
def t_law_25 : Sm :=
    (zSeq (zIf (tNot' (tst (calB 9 f__law_judges_agree [] (bFz (rdv 14) (bFz (rdv 15) (bFz (rdv 10) (bFz (rdv 13) (bFz (rdv 23) (bBr 24 (bFz (rdv 25) (bFz (rdv 17) (bFz (slE (rdv 1) (poS (cst (.int 9))) (poS (cst (.int 14)))) bNil)))))))))))) (zRet (cst (.bl false))) zNil)
    (zSeq (zIf (tNot' (tst (cal 5 f__law_refuses [] (gFz (rdv 4) (gFz (rdv 12) (gFz (rdv 10) (gFz (rdv 13) (gFz (slE (rdv 1) (poS (cst (.int 14))) poN) gNil)))))))) (zRet (cst (.bl false))) zNil)
    (zRet (vAnd (op2 gEq (rdv 14) (cal 2 f__law_copied [] (gFz (rdv 4) (gFz (op2 gEq (ixv 1 (cst (.int 5))) (cst (.int 1))) gNil)))) (op2 gEq (rdv 15) (rdv 12))))))
def t_law_24 : Sm :=
    (zSeq (zIf (tst (op2 gEq (bor1 gLen 19) (cst (.int 0)))) (zIf (tNot' (tst (cal 3 f__law_never_is [] (gFz (rdv 21) (gFz (rdv 17) (gFz (rdv 22) gNil)))))) (zRet (cst (.bl false))) zNil) (zSeq (zSet 23 (opN gMinE (aCons (rdv 19) aNil)))
    (zSeq (zSet 24 (lcS [18] (iR1 (rdv 2)) (gN 18) tYes' (rdv 23)))
    (zSeq (zFor [18] (iAny (rdv 17)) (gN 18)
    (zPut 24 (rdv 18) (opN gMinE (aCons (ixv 16 (rdv 18)) (aCons (rdv 23) aNil)))))
    (zSeq (zIf (tNot' (tst (calB 7 f__law_least_is [] (bFz (rdv 21) (bFz (rdv 4) (bFz (rdv 12) (bFz (rdv 10) (bFz (rdv 13) (bFz (rdv 23) (bBr 24 bNil)))))))))) (zRet (cst (.bl false))) zNil)
    (zSeq (zIf (tNot' (tst (cal 2 f__law_is_row [] (gFz (rdv 22) (gFz (cal 3 f__law_musts [] (gFz (rdv 4) (gFz (rdv 12) (gFz (rdv 10) gNil)))) gNil))))) (zRet (cst (.bl false))) zNil)
    (zSet 25 (ixv 21 (cst (.int 2))))))))))
    t_law_25)
def t_law_18 : Sm :=
    (zSeq (zFrz 21 (zSet 21 (cal 4 f_least_presses [] (gFz (rdv 14) (gFz (rdv 15) (gFz (rdv 10) (gFz (rdv 13) gNil)))))))
    (zSeq (zFrz 22 (zSet 22 (cal 3 f_must_events [] (gFz (rdv 14) (gFz (rdv 15) (gFz (rdv 10) gNil))))))
    (zSeq (zIf (tOr' (tNot' (tst (op1 (gIsi "tuple") (rdv 21)))) (tOr' (tst (op2 gLt (bor1 gLen 21) (cst (.int 2)))) (tNot' (tst (op1 (gIsi "str") (ixv 21 (cst (.int 0)))))))) (zRet (cst (.bl false))) zNil)
    (zSeq (zSet 23 (cst (.int 0)))
    (zSeq (zSet 24 (rdv 16))
    (zSeq (zSet 25 (dTup aNil))
    t_law_24))))))
def t_law_14 : Sm :=
    (zSeq (zFrz 16 (zSet 16 (cal 3 f__law_presses [] (gFz (rdv 4) (gFz (rdv 10) (gFz (rdv 13) gNil))))))
    (zSeq (zFrz 17 (zSet 17 (lcS [18] (iR1 (rdv 2)) (gN 18) (tst (op2 gGe (ixv 16 (rdv 18)) (cst (.int 0)))) (rdv 18))))
    (zSeq (zFrz 19 (zSet 19 (lcS [20] (iAny (rdv 12)) (gN 20) (tst (op2 gGe (ixv 16 (rdv 20)) (cst (.int 0)))) (ixv 16 (rdv 20)))))
    (zSeq (zIf (tNot' (tst (cal 2 f__law_way_is [] (gFz (cal 3 f_hope_way [] (gFz (rdv 14) (gFz (rdv 15) (gFz (rdv 10) gNil)))) (gFz (cal 3 f__law_best_way [] (gFz (rdv 4) (gFz (rdv 12) (gFz (rdv 10) gNil)))) gNil))))) (zRet (cst (.bl false))) zNil)
    t_law_18))))
def t_law_10 : Sm :=
    (zSeq (zFrz 12 (zSet 12 (lcS [6] (iR1 (rdv 2)) (gN 6) (tst (op2 gEq (ixv 9 (rdv 6)) (cst (.int 1)))) (rdv 6))))
    (zSeq (zSet 13 (op2 gMod (ixv 1 (cst (.int 8))) (rdv 3)))
    (zSeq (zFrz 14 (zSet 14 (cal 2 f__law_copied [] (gFz (rdv 4) (gFz (op2 gEq (ixv 1 (cst (.int 5))) (cst (.int 1))) gNil)))))
    (zSeq (zFrz 15 (zSet 15 (opN (un1 gList) (aCons (rdv 12) aNil))))
    t_law_14))))
def t_law_4 : Sm :=
    (zSeq (zSet 4 (cal 3 f__law_moves [] (gFz (rdv 0) (gFz (rdv 2) (gFz (rdv 3) gNil)))))
    (zSeq (zFrz 5 (zSet 5 (cal 2 f__law_row [] (gFz (cal 2 f__law_cell [] (gFz (rdv 0) (gFz (cst (.int 2)) gNil))) (gFz (lcS [6] (iR1 (rdv 2)) (gN 6) tYes' (cst (.int 6000))) gNil)))))
    (zSeq (zFrz 7 (zSet 7 (lcS [8] (iAny (opN (un1 gSorted2) (aCons (lcS [6] (iR1 (rdv 2)) (gN 6) tYes' (dTup (aCons (op2 gFdiv (ixv 5 (rdv 6)) (cst (.int 6))) (aCons (rdv 6) aNil)))) aNil))) (gN 8) tYes' (ixv 8 (cst (.int 1))))))
    (zSeq (zFrz 9 (zSet 9 (cal 2 f__law_row [] (gFz (cal 2 f__law_cell [] (gFz (rdv 0) (gFz (cst (.int 1)) gNil))) (gFz (lcS [6] (iR1 (rdv 2)) (gN 6) tYes' (op2 gIx (dLst (aCons (cst (.int 2)) (aCons (cst (.int 5)) (aCons (cst (.int 12)) aNil)))) (ixv 1 (cst (.int 7))))) gNil)))))
    (zSeq (zSet 10 (op2 gMod (ixv 1 (cst (.int 6))) (rdv 2)))
    (zSeq (zIf (tst (op2 gEq (ixv 1 (cst (.int 4))) (cst (.int 1)))) (zSeq (zSet 4 (cal 3 f__law_lined [] (gMv (mvv 4) (gFz (rdv 7) (gFz (lcS [11] (iAny (rdv 5)) (gN 11) tYes' (op2 gMod (opN (un1 gInt) (aCons (rdv 11) aNil)) (cst (.int 6)))) gNil)))))
    (zIf (tst (op2 gEq (ixv 1 (cst (.int 7))) (cst (.int 2)))) (zSeq (zFrz 9 (zSet 9 (lcS [6] (iR1 (rdv 2)) (gN 6) tYes' (opN (un1 gInt) (aCons (op2 gEq (rdv 6) (ixv 7 (op1 gNeg (cst (.int 1))))) aNil)))))
    (zSet 10 (ixv 7 (cst (.int 0))))) zNil)) zNil)
    t_law_10))))))
def b_law : Sm :=
    (zSeq (zFrz 1 (zSet 1 (cal 2 f__law_row [] (gFz (cal 2 f__law_cell [] (gFz (rdv 0) (gFz (cst (.int 0)) gNil))) (gFz (op2 gAdd (op2 gAdd (dLst (aCons (cst (.int 4)) (aCons (cst (.int 40)) (aCons (cst (.int 14)) (aCons (cst (.int 6)) (aCons (cst (.int 2)) (aCons (cst (.int 2)) (aCons (cst (.int 60)) (aCons (cst (.int 3)) (aCons (cst (.int 6)) aNil)))))))))) (dLst (aCons (cst (.int 4)) (aCons (cst (.int 60)) (aCons (cst (.int 9)) (aCons (cst (.int 60)) (aCons (cst (.int 4)) aNil))))))) (dLst (aCons (cst (.int 8)) (aCons (cst (.int 60)) (aCons (cst (.int 20)) (aCons (cst (.int 60)) aNil)))))) gNil)))))
    (zSeq (zSet 2 (op2 gAdd (cst (.int 1)) (ixv 1 (cst (.int 2)))))
    (zSeq (zSet 3 (op2 gAdd (cst (.int 1)) (ixv 1 (cst (.int 3)))))
    (zSeq (zIf (tst (op2 gEq (ixv 1 (cst (.int 0))) (cst (.int 0)))) (zSeq (zSet 2 (op2 gAdd (cst (.int 1)) (ixv 1 (cst (.int 1)))))
    (zSet 3 (op2 gAdd (cst (.int 1)) (op2 gMod (ixv 1 (cst (.int 3))) (cst (.int 2)))))) zNil)
    t_law_4))))
def f_law : Fn := fnOf 26 b_law
section
variable {P : Program} {w : World} {K : PySem.W.Frag} {mg : Mg} {base : Heap}
theorem sc_is_integer : FnScope ["value"] ["value"] (defScope s_is_integer) := ⟨rfl, rfl, rfl, by decide +kernel, rfl, by decide +kernel, by decide +kernel⟩
theorem ok_is_integer (T : Txt mg) (hf : IsFn K mg "is_integer" s_is_integer)  : Def P w K mg base "is_integer" 1 1 [] f_is_integer := by
  refine def_ok (k := 0) (body := b_is_integer) hf sc_is_integer (fun _ _ _ _ _ _ us hl => match us, hl with | [_], _ => rfl) fun f cdv A outer s H E C => ?_
  exact (ss_one (ss_ret (se_and (se_isi (T := "int") (se_rdv 0) rfl T.b_isinstance rfl T.b_int (by decide +kernel)) (se_one (se_not (se_isi (T := "bool") (se_rdv 0) rfl T.b_isinstance rfl T.b_bool (by decide +kernel)))))))
theorem sc_is_place : FnScope ["value", "size"] ["value", "size"] (defScope s_is_place) := ⟨rfl, rfl, rfl, by decide +kernel, rfl, by decide +kernel, by decide +kernel⟩
theorem ok_is_place (T : Txt mg) (hf : IsFn K mg "is_place" s_is_place) (G_is_integer : Def P w K mg base "is_integer" 1 1 [] f_is_integer) : Def P w K mg base "is_place" 2 2 [] f_is_place := by
  refine def_ok (k := 1) (body := b_is_place) hf sc_is_place (fun _ _ _ _ _ _ us hl => match us, hl with | [_, _], _ => rfl) fun f cdv A outer s H E C => ?_
  exact (ss_one (ss_ret (se_and (se_call G_is_integer (C.hr.mono (by decide)) C.tk (sga_fz (se_rdv 0) sga_nil)) (se_one (se_chn op_le op_lt vr_cI vr_cI se_int (se_rdv 0) (se_rdv 1))))))
theorem sc_are_places : FnScope ["row", "size", "last", "value"] ["row", "size"] (defScope s_are_places) := ⟨rfl, rfl, rfl, by decide +kernel, rfl, by decide +kernel, by decide +kernel⟩
theorem ok_are_places (T : Txt mg) (hf : IsFn K mg "are_places" s_are_places) (G_is_place : Def P w K mg base "is_place" 2 2 [] f_is_place) : Def P w K mg base "are_places" 3 2 [] f_are_places := by
  refine def_ok (k := 2) (body := b_are_places) hf sc_are_places (fun _ _ _ _ _ _ us hl => match us, hl with | [_, _], _ => rfl) fun f cdv A outer s H E C => ?_
  exact (ss_cons (ss_set 2 (se_un un_neg vr_neg se_int) C.nd)
    (ss_cons (ss_for (vs := [3]) (ws := [3]) C.hp C.calm (si_any (se_rdv 0)) (sg_n 3 C.nd)
    (ss_cons (ss_if (st_w (sw_or (st_not (st_val (se_call G_is_place (C.hr.mono (by decide)) C.tk (sga_fz (se_rdv 3) (sga_fz (se_rdv 1) sga_nil))))) (sw_or1 (st_cmp op_le vr_cI (se_rdv 3) (se_rdv 2))))) (ss_one (ss_ret se_bl)) ss_nil)
    (ss_one (ss_set 2 (se_rdv 3) C.nd))))
    (ss_one (ss_ret se_bl))))
theorem sc_is_moves : FnScope ["moves", "size", "row", "targets", "endless"] ["moves"] (defScope s_is_moves) := ⟨rfl, rfl, rfl, by decide +kernel, rfl, by decide +kernel, by decide +kernel⟩
theorem ok_is_moves (T : Txt mg) (hf : IsFn K mg "is_moves" s_is_moves) (G_are_places : Def P w K mg base "are_places" 3 2 [] f_are_places) : Def P w K mg base "is_moves" 4 1 [] f_is_moves := by
  refine def_ok (k := 3) (body := b_is_moves) hf sc_is_moves (fun _ _ _ _ _ _ us hl => match us, hl with | [_], _ => rfl) fun f cdv A outer s H E C => ?_
  exact (ss_cons (ss_set 1 (se_borB 0 cLen vr_len rfl T.b_len (by decide +kernel)) C.nd)
    (ss_cons (ss_if (st_w (sw_or (st_not (st_chn op_le op_le vr_cI vr_cI se_int (se_rdv 1) (se_globI T.c_MOST_RESTS))) (sw_or1 (st_cmp op_gt vr_cI (se_callB cLen vr_len rfl T.b_len (by decide +kernel) (sa_cons (se_ixv 0 se_int) sa_nil)) (se_globI T.c_MOST_EVENTS))))) (ss_one (ss_ret se_bl)) ss_nil)
    (ss_cons (ss_for (vs := [2]) (ws := [2, 3, 4]) C.hp C.calm (si_any (se_rdv 0)) (sg_n 2 C.nd)
    (ss_cons (ss_if (st_cmp (oNe C.hu) vr_ne (se_borB 2 cLen vr_len rfl T.b_len (by decide +kernel)) (se_callB cLen vr_len rfl T.b_len (by decide +kernel) (sa_cons (se_ixv 0 se_int) sa_nil))) (ss_one (ss_ret se_bl)) ss_nil)
    (ss_one (ss_for (vs := [3, 4]) (ws := [3, 4]) C.hp C.calm (si_any (se_rdv 2)) (sg_t C.calm (sgs_cons (sg_n 3 C.nd) (sgs_cons (sg_n 4 C.nd) sgs_nil)))
    (ss_one (ss_if (st_w (sw_or (st_not (st_val (se_isi (T := "bool") (se_rdv 4) rfl T.b_isinstance rfl T.b_bool (by decide +kernel)))) (sw_or1 (st_not (st_val (se_call G_are_places (C.hr.mono (by decide)) C.tk (sga_fz (se_rdv 3) (sga_fz (se_rdv 1) sga_nil)))))))) (ss_one (ss_ret se_bl)) ss_nil))))))
    (ss_one (ss_ret se_bl)))))
theorem sc_demand_question : FnScope ["moves", "goals", "start"] ["moves", "goals", "start"] (defScope s_demand_question) := ⟨rfl, rfl, rfl, by decide +kernel, rfl, by decide +kernel, by decide +kernel⟩
theorem ok_demand_question (T : Txt mg) (hf : IsFn K mg "demand_question" s_demand_question) (G_is_place : Def P w K mg base "is_place" 2 2 [] f_is_place) (G_are_places : Def P w K mg base "are_places" 3 2 [] f_are_places) (G_is_moves : Def P w K mg base "is_moves" 4 1 [] f_is_moves) (R_BadGraph : XRaise K mg "BadGraph") (R_BadOrder : XRaise K mg "BadOrder") : Def P w K mg base "demand_question" 5 3 [] f_demand_question := by
  refine def_ok (k := 4) (body := b_demand_question) hf sc_demand_question (fun _ _ _ _ _ _ us hl => match us, hl with | [_, _, _], _ => rfl) fun f cdv A outer s H E C => ?_
  exact (ss_cons (ss_if (st_not (st_val (se_call G_is_moves (C.hr.mono (by decide)) C.tk (sga_fz (se_rdv 0) sga_nil)))) (ss_one (ss_rs R_BadGraph C.calm C.tk)) ss_nil)
    (ss_cons (ss_if (st_not (st_val (se_call G_are_places (C.hr.mono (by decide)) C.tk (sga_fz (se_rdv 1) (sga_fz (se_borB 0 cLen vr_len rfl T.b_len (by decide +kernel)) sga_nil))))) (ss_one (ss_rs R_BadOrder C.calm C.tk)) ss_nil)
    (ss_one (ss_if (st_not (st_val (se_call G_is_place (C.hr.mono (by decide)) C.tk (sga_fz (se_rdv 2) (sga_fz (se_borB 0 cLen vr_len rfl T.b_len (by decide +kernel)) sga_nil))))) (ss_one (ss_rs R_BadOrder C.calm C.tk)) ss_nil))))
theorem sc_forcing_event : FnScope ["row", "plan", "event", "targets", "endless", "missing", "after"] ["row", "plan"] (defScope s_forcing_event) := ⟨rfl, rfl, rfl, by decide +kernel, rfl, by decide +kernel, by decide +kernel⟩
theorem ok_forcing_event (T : Txt mg) (hf : IsFn K mg "forcing_event" s_forcing_event)  : Def P w K mg base "forcing_event" 1 2 [] f_forcing_event := by
  refine def_ok (k := 0) (body := b_forcing_event) hf sc_forcing_event (fun _ _ _ _ _ _ us hl => match us, hl with | [_, _], _ => rfl) fun f cdv A outer s H E C => ?_
  exact (ss_cons (ss_for (vs := [2, 3, 4]) (ws := [2, 3, 4, 5]) C.hp C.calm (si_enum (se_rdv 0) rfl T.b_enumerate) (sg_t C.calm (sgs_cons (sg_n 2 C.nd) (sgs_cons (sg_t C.calm (sgs_cons (sg_n 3 C.nd) (sgs_cons (sg_n 4 C.nd) sgs_nil))) sgs_nil)))
    (ss_cons (ss_frz 5 (ss_setLc 5 (own := [("after", 6)]) C.calm C.nd rfl rfl (sw_true rfl rfl rfl (by decide +kernel)) (si_any (se_rdv 3)) (blkOk_by (by kernel_rfl)) (fun _ _ _ _ _ => (sg_n 6 C.nd)) (fun _ _ _ _ _ => (st_one (st_cmp op_lt vr_cI (se_ix (se_ixv 1 (se_rdv 6)) se_int) se_int))) (fun _ _ _ _ _ => (se_rdv 6))))
    (ss_one (ss_if (st_w (sw_and (st_not (st_val (se_rdv 4))) (sw_and (st_cmp op_gt vr_cI (se_borB 3 cLen vr_len rfl T.b_len (by decide +kernel)) se_int) (sw_and1 (st_cmp (oEq C.hu) vr_eq (se_borB 5 cLen vr_len rfl T.b_len (by decide +kernel)) se_int))))) (ss_one (ss_ret (se_mvv 2))) ss_nil))))
    (ss_one (ss_ret (se_un un_neg vr_neg se_int))))
theorem sc_forced_plan : FnScope ["moves", "goals", "plan", "_", "goal", "rank", "found", "rest", "row", "event"] ["moves", "goals"] (defScope s_forced_plan) := ⟨rfl, rfl, rfl, by decide +kernel, rfl, by decide +kernel, by decide +kernel⟩
theorem ok_forced_plan (T : Txt mg) (hf : IsFn K mg "forced_plan" s_forced_plan) (G_forcing_event : Def P w K mg base "forcing_event" 1 2 [] f_forcing_event) : Def P w K mg base "forced_plan" 2 2 [] f_forced_plan := by
  refine def_ok (k := 1) (body := b_forced_plan) hf sc_forced_plan (fun _ _ _ _ _ _ us hl => match us, hl with | [_, _], _ => rfl) fun f cdv A outer s H E C => ?_
  exact (ss_cons (ss_setLc 2 (own := [("_", 3)]) C.calm C.nd rfl rfl (sw_true rfl rfl rfl (by decide +kernel)) (si_any (se_rdv 0)) (blkOk_by (by kernel_rfl)) (fun _ _ _ _ _ => (sg_n 3 C.nd)) (fun _ _ _ _ _ => st_yes) (fun _ _ _ _ _ => (se_tup (sa_cons (se_un un_neg vr_neg se_int) (sa_cons (se_un un_neg vr_neg se_int) sa_nil)))))
    (ss_cons (ss_for (vs := [4]) (ws := [4]) C.hp C.calm (si_any (se_rdv 1)) (sg_n 4 C.nd)
    (ss_one (ss_put 2 (se_rdv 4) (se_tup (sa_cons se_int (sa_cons (se_un un_neg vr_neg se_int) sa_nil))))))
    (ss_cons (ss_for (vs := [5]) (ws := [5, 6, 7, 8, 9]) C.hp C.calm (si_r2 se_int (se_borB 0 cLen vr_len rfl T.b_len (by decide +kernel)) rfl T.b_range) (sg_n 5 C.nd)
    (ss_cons (ss_set 6 (se_lst sa_nil) C.nd)
    (ss_cons (ss_for (vs := [7, 8]) (ws := [7, 8, 9]) C.hp C.calm (si_enum (se_rdv 0) rfl T.b_enumerate) (sg_t C.calm (sgs_cons (sg_n 7 C.nd) (sgs_cons (sg_n 8 C.nd) sgs_nil)))
    (ss_one (ss_if (st_cmp op_lt vr_cI (se_ix (se_ixv 2 (se_rdv 7)) se_int) se_int) (ss_cons (ss_frz 9 (ss_set 9 (se_callL G_forcing_event (C.hr.mono (by decide)) C.tk (sgb_fz (se_rdv 8) (sgb_br 2 sgb_nil))) C.nd))
    (ss_one (ss_if (st_cmp op_ge vr_cI (se_rdv 9) se_int) (ss_one (ss_app 6 (se_tup (sa_cons (se_rdv 7) (sa_cons (se_rdv 9) sa_nil))))) ss_nil))) ss_nil)))
    (ss_cons (ss_if (st_cmp (oEq C.hu) vr_eq (se_borB 6 cLen vr_len rfl T.b_len (by decide +kernel)) se_int) (ss_one ss_break) ss_nil)
    (ss_one (ss_for (vs := [7, 9]) (ws := [7, 9]) C.hp C.calm (si_any (se_rdv 6)) (sg_t C.calm (sgs_cons (sg_n 7 C.nd) (sgs_cons (sg_n 9 C.nd) sgs_nil)))
    (ss_one (ss_put 2 (se_rdv 7) (se_tup (sa_cons (se_rdv 5) (sa_cons (se_rdv 9) sa_nil)))))))))))
    (ss_one (ss_ret (se_callTy call_tuple_of vr_tuple rfl T.b_tuple (by decide +kernel) (sa_cons (se_rdv 2) sa_nil)))))))
theorem sc_wish_paper : FnScope ["moves", "goals", "start", "plan", "rest"] ["moves", "goals", "start"] (defScope s_wish_paper) := ⟨rfl, rfl, rfl, by decide +kernel, rfl, by decide +kernel, by decide +kernel⟩
theorem ok_wish_paper (T : Txt mg) (hf : IsFn K mg "wish_paper" s_wish_paper) (G_demand_question : Def P w K mg base "demand_question" 5 3 [] f_demand_question) (G_forced_plan : Def P w K mg base "forced_plan" 2 2 [] f_forced_plan) : Def P w K mg base "wish_paper" 6 3 [] f_wish_paper := by
  refine def_ok (k := 5) (body := b_wish_paper) hf sc_wish_paper (fun _ _ _ _ _ _ us hl => match us, hl with | [_, _, _], _ => rfl) fun f cdv A outer s H E C => ?_
  exact (ss_cons (ss_drop (se_call G_demand_question (C.hr.mono (by decide)) C.tk (sga_fz (se_rdv 0) (sga_fz (se_rdv 1) (sga_fz (se_rdv 2) sga_nil)))))
    (ss_cons (ss_frz 3 (ss_set 3 (se_call G_forced_plan (C.hr.mono (by decide)) C.tk (sga_fz (se_rdv 0) (sga_fz (se_rdv 1) sga_nil))) C.nd))
    (ss_cons (ss_if (st_cmp op_ge vr_cI (se_ix (se_ixv 3 (se_rdv 2)) se_int) se_int) (ss_one (ss_ret (se_tup (sa_cons se_str (sa_cons (se_rdv 3) sa_nil))))) ss_nil)
    (ss_one (ss_ret (se_tup (sa_cons se_str (sa_cons (se_callTy call_tuple_of vr_tuple rfl T.b_tuple (by decide +kernel) (sa_cons (se_lc (own := [("rest", 4)]) C.calm C.nd (si_r1 (se_borB 0 cLen vr_len rfl T.b_len (by decide +kernel)) rfl T.b_range) (blkOk_by (by kernel_rfl)) (fun _ _ _ _ _ => (sg_n 4 C.nd)) (fun _ _ _ _ _ => (st_one (st_cmp op_lt vr_cI (se_ix (se_ixv 3 (se_rdv 4)) se_int) se_int))) (fun _ _ _ _ _ => (se_rdv 4))) sa_nil)) sa_nil))))))))
theorem sc_hope_way : FnScope ["moves", "goals", "start", "known", "queue", "place", "rest", "way", "event", "targets", "_", "after"] ["moves", "goals", "start"] (defScope s_hope_way) := ⟨rfl, rfl, rfl, by decide +kernel, rfl, by decide +kernel, by decide +kernel⟩
theorem ok_hope_way (T : Txt mg) (hf : IsFn K mg "hope_way" s_hope_way) (G_demand_question : Def P w K mg base "demand_question" 5 3 [] f_demand_question) : Def P w K mg base "hope_way" 6 3 [] f_hope_way := by
  refine def_ok (k := 5) (body := b_hope_way) hf sc_hope_way (fun _ _ _ _ _ _ us hl => match us, hl with | [_, _, _], _ => rfl) fun f cdv A outer s H E C => ?_
  exact (ss_cons (ss_drop (se_call G_demand_question (C.hr.mono (by decide)) C.tk (sga_fz (se_rdv 0) (sga_fz (se_rdv 1) (sga_fz (se_rdv 2) sga_nil)))))
    (ss_cons (ss_set 3 (se_ddisp (se_rdv 2) se_bl) C.nd)
    (ss_cons (ss_set 4 (se_lst (sa_cons (se_tup (sa_cons (se_rdv 2) (sa_cons (se_tup sa_nil) sa_nil))) sa_nil)) C.nd)
    (ss_cons (ss_set 5 se_int C.nd)
    (ss_cons (ss_while bigN (ws := [6, 7, 8, 9, 10, 11]) C.hp (st_cmp op_lt vr_cI (se_rdv 5) (se_borB 4 cLen vr_len rfl T.b_len (by decide +kernel)))
    (ss_cons (ss_tg (vs := [6, 7]) (se_ixv 4 (se_rdv 5)) (sg_t C.calm (sgs_cons (sg_n 6 C.nd) (sgs_cons (sg_n 7 C.nd) sgs_nil))))
    (ss_cons (ss_if (st_bor2 1 op_in_seq (vr_in false) (se_rdv 6)) (ss_one (ss_ret (se_mvv 7))) ss_nil)
    (ss_cons (ss_for (vs := [8, 9, 10]) (ws := [8, 9, 10, 11]) C.hp C.calm (si_enum (se_ixv 0 (se_rdv 6)) rfl T.b_enumerate) (sg_t C.calm (sgs_cons (sg_n 8 C.nd) (sgs_cons (sg_t C.calm (sgs_cons (sg_n 9 C.nd) (sgs_cons (sg_n 10 C.nd) sgs_nil))) sgs_nil)))
    (ss_one (ss_for (vs := [11]) (ws := [11]) C.hp C.calm (si_any (se_rdv 9)) (sg_n 11 C.nd)
    (ss_one (ss_if (st_bor2 3 (op_dnin C.hu) (vr_din true) (se_rdv 11)) (ss_cons (ss_putd 3 C.hu (se_rdv 11) se_bl)
    (ss_one (ss_app 4 (se_tup (sa_cons (se_rdv 11) (sa_cons (se_op oAdd vr_add (se_rdv 7) (se_tup (sa_cons (se_tup (sa_cons (se_rdv 8) (sa_cons (se_rdv 11) sa_nil))) sa_nil))) sa_nil)))))) ss_nil)))))
    (ss_one (ss_set 5 (se_op oAdd vr_add (se_rdv 5) se_int) C.nd))))))
    (ss_one (ss_ret se_non)))))))
theorem sc_shows_way : FnScope ["moves", "goals", "start", "way", "rest", "event", "after"] ["moves", "goals", "start", "way"] (defScope s_shows_way) := ⟨rfl, rfl, rfl, by decide +kernel, rfl, by decide +kernel, by decide +kernel⟩
theorem ok_shows_way (T : Txt mg) (hf : IsFn K mg "shows_way" s_shows_way) (G_is_place : Def P w K mg base "is_place" 2 2 [] f_is_place) : Def P w K mg base "shows_way" 3 4 [] f_shows_way := by
  refine def_ok (k := 2) (body := b_shows_way) hf sc_shows_way (fun _ _ _ _ _ _ us hl => match us, hl with | [_, _, _, _], _ => rfl) fun f cdv A outer s H E C => ?_
  exact (ss_cons (ss_if (st_not (st_val (se_call G_is_place (C.hr.mono (by decide)) C.tk (sga_fz (se_rdv 2) (sga_fz (se_borB 0 cLen vr_len rfl T.b_len (by decide +kernel)) sga_nil))))) (ss_one (ss_ret se_bl)) ss_nil)
    (ss_cons (ss_set 4 (se_rdv 2) C.nd)
    (ss_cons (ss_for (vs := [5, 6]) (ws := [5, 6]) C.hp C.calm (si_any (se_rdv 3)) (sg_t C.calm (sgs_cons (sg_n 5 C.nd) (sgs_cons (sg_n 6 C.nd) sgs_nil)))
    (ss_cons (ss_if (st_w (sw_or (st_not (st_val (se_call G_is_place (C.hr.mono (by decide)) C.tk (sga_fz (se_rdv 5) (sga_fz (se_callB cLen vr_len rfl T.b_len (by decide +kernel) (sa_cons (se_ixv 0 (se_rdv 4)) sa_nil)) sga_nil))))) (sw_or1 (st_cmp op_notIn_seq (vr_in true) (se_rdv 6) (se_ix (se_ix (se_ixv 0 (se_rdv 4)) (se_rdv 5)) se_int))))) (ss_one (ss_ret se_bl)) ss_nil)
    (ss_one (ss_set 4 (se_rdv 6) C.nd))))
    (ss_one (ss_ret (se_bor2 1 op_in_seq (vr_in false) (se_rdv 4)))))))
theorem sc_shows_hopeless : FnScope ["moves", "goals", "start", "rests", "rest", "targets", "_", "after"] ["moves", "goals", "start", "rests"] (defScope s_shows_hopeless) := ⟨rfl, rfl, rfl, by decide +kernel, rfl, by decide +kernel, by decide +kernel⟩
theorem ok_shows_hopeless (T : Txt mg) (hf : IsFn K mg "shows_hopeless" s_shows_hopeless) (G_is_place : Def P w K mg base "is_place" 2 2 [] f_is_place) : Def P w K mg base "shows_hopeless" 3 4 [] f_shows_hopeless := by
  refine def_ok (k := 2) (body := b_shows_hopeless) hf sc_shows_hopeless (fun _ _ _ _ _ _ us hl => match us, hl with | [_, _, _, _], _ => rfl) fun f cdv A outer s H E C => ?_
  exact (ss_cons (ss_if (st_bor2 3 op_notIn_seq (vr_in true) (se_rdv 2)) (ss_one (ss_ret se_bl)) ss_nil)
    (ss_cons (ss_for (vs := [4]) (ws := [4, 5, 6, 7]) C.hp C.calm (si_any (se_rdv 3)) (sg_n 4 C.nd)
    (ss_cons (ss_if (st_w (sw_or (st_not (st_val (se_call G_is_place (C.hr.mono (by decide)) C.tk (sga_fz (se_rdv 4) (sga_fz (se_borB 0 cLen vr_len rfl T.b_len (by decide +kernel)) sga_nil))))) (sw_or1 (st_bor2 1 op_in_seq (vr_in false) (se_rdv 4))))) (ss_one (ss_ret se_bl)) ss_nil)
    (ss_one (ss_for (vs := [5, 6]) (ws := [5, 6, 7]) C.hp C.calm (si_any (se_ixv 0 (se_rdv 4))) (sg_t C.calm (sgs_cons (sg_n 5 C.nd) (sgs_cons (sg_n 6 C.nd) sgs_nil)))
    (ss_one (ss_for (vs := [7]) (ws := [7]) C.hp C.calm (si_any (se_rdv 5)) (sg_n 7 C.nd)
    (ss_one (ss_if (st_bor2 3 op_notIn_seq (vr_in true) (se_rdv 7)) (ss_one (ss_ret se_bl)) ss_nil))))))))
    (ss_one (ss_ret se_bl))))
theorem sc_moves_by_others : FnScope ["moves", "event", "origins", "queue", "number", "pressed", "place", "rest", "other", "targets", "_", "after"] ["moves", "event", "origins", "queue", "number"] (defScope s_moves_by_others) := ⟨rfl, rfl, rfl, by decide +kernel, rfl, by decide +kernel, by decide +kernel⟩
theorem ok_moves_by_others (T : Txt mg) (hf : IsFn K mg "moves_by_others" s_moves_by_others)  : DefO P w K mg base "moves_by_others" 1 5 [2, 3] [] f_moves_by_others := by
  refine def_okO (k := 0) (body := b_moves_by_others) [2, 3] (by decide) (by decide) hf sc_moves_by_others (fun _ _ _ _ _ _ us hl => match us, hl with | [_, _, _, _, _], _ => rfl) fun f cdv A outer s H E C => ?_
  exact (ss_cons (ss_set 5 (se_lst sa_nil) C.nd)
    (ss_cons (ss_set 6 se_int C.nd)
    (ss_cons (ss_while bigN (ws := [7, 8, 9, 10, 11]) C.hp (st_cmp op_lt vr_cI (se_rdv 6) (se_borB 3 cLen vr_len rfl T.b_len (by decide +kernel)))
    (ss_cons (ss_set 7 (se_ixv 3 (se_rdv 6)) C.nd)
    (ss_cons (ss_for (vs := [8, 9, 10]) (ws := [8, 9, 10, 11]) C.hp C.calm (si_enum (se_ixv 0 (se_rdv 7)) rfl T.b_enumerate) (sg_t C.calm (sgs_cons (sg_n 8 C.nd) (sgs_cons (sg_t C.calm (sgs_cons (sg_n 9 C.nd) (sgs_cons (sg_n 10 C.nd) sgs_nil))) sgs_nil)))
    (ss_one (ss_for (vs := [11]) (ws := [11]) C.hp C.calm (si_any (se_rdv 9)) (sg_n 11 C.nd)
    (ss_one (ss_if (st_cmp (oEq C.hu) vr_eq (se_rdv 8) (se_rdv 1)) (ss_one (ss_app 5 (se_tup (sa_cons (se_rdv 7) (sa_cons (se_rdv 11) sa_nil))))) (ss_one (ss_if (st_bor2 2 (op_dnin C.hu) (vr_din true) (se_rdv 11)) (ss_cons (ss_putd 2 C.hu (se_rdv 11) (se_tup (sa_cons (se_rdv 4) (sa_cons (se_rdv 7) (sa_cons (se_rdv 8) sa_nil)))))
    (ss_one (ss_app 3 (se_rdv 11)))) ss_nil)))))))
    (ss_one (ss_set 6 (se_op oAdd vr_add (se_rdv 6) se_int) C.nd)))))
    (ss_one (ss_ret (se_mvv 5))))))
theorem sc_press_origins : FnScope ["moves", "start", "event", "origins", "queue", "number", "pressed", "rest", "after"] ["moves", "start", "event"] (defScope s_press_origins) := ⟨rfl, rfl, rfl, by decide +kernel, rfl, by decide +kernel, by decide +kernel⟩
theorem ok_press_origins (T : Txt mg) (hf : IsFn K mg "press_origins" s_press_origins) (G_moves_by_others : DefO P w K mg base "moves_by_others" 1 5 [2, 3] [] f_moves_by_others) : Def P w K mg base "press_origins" 2 3 [] f_press_origins := by
  refine def_ok (k := 1) (body := b_press_origins) hf sc_press_origins (fun _ _ _ _ _ _ us hl => match us, hl with | [_, _, _], _ => rfl) fun f cdv A outer s H E C => ?_
  exact (ss_cons (ss_set 3 (se_ddisp (se_rdv 1) (se_tup (sa_cons se_int (sa_cons se_non (sa_cons se_non sa_nil))))) C.nd)
    (ss_cons (ss_set 4 (se_lst (sa_cons (se_rdv 1) sa_nil)) C.nd)
    (ss_cons (ss_for (vs := [5]) (ws := [5, 6, 7, 8]) C.hp C.calm (si_r1 (se_borB 0 cLen vr_len rfl T.b_len (by decide +kernel)) rfl T.b_range) (sg_n 5 C.nd)
    (ss_cons (ss_frz 6 (ss_set 6 (se_callIO G_moves_by_others (C.hr.mono (by decide)) C.tk (sgb_fz (se_rdv 0) (sgb_fz (se_rdv 2) (sgb_br 3 (sgb_br 4 (sgb_fz (se_rdv 5) sgb_nil)))))) C.nd))
    (ss_cons (ss_set 4 (se_lst sa_nil) C.nd)
    (ss_one (ss_for (vs := [7, 8]) (ws := [7, 8]) C.hp C.calm (si_any (se_rdv 6)) (sg_t C.calm (sgs_cons (sg_n 7 C.nd) (sgs_cons (sg_n 8 C.nd) sgs_nil)))
    (ss_one (ss_if (st_bor2 3 (op_dnin C.hu) (vr_din true) (se_rdv 8)) (ss_cons (ss_putd 3 C.hu (se_rdv 8) (se_tup (sa_cons (se_op oAdd vr_add (se_rdv 5) se_int) (sa_cons (se_rdv 7) (sa_cons (se_rdv 2) sa_nil)))))
    (ss_one (ss_app 4 (se_rdv 8)))) ss_nil)))))))
    (ss_one (ss_ret (se_mvv 3))))))
theorem sc_way_to : FnScope ["origins", "rest", "way", "_", "before", "event"] ["origins", "rest"] (defScope s_way_to) := ⟨rfl, rfl, rfl, by decide +kernel, rfl, by decide +kernel, by decide +kernel⟩
theorem ok_way_to (T : Txt mg) (hf : IsFn K mg "way_to" s_way_to)  : Def P w K mg base "way_to" 1 2 [] f_way_to := by
  refine def_ok (k := 0) (body := b_way_to) hf sc_way_to (fun _ _ _ _ _ _ us hl => match us, hl with | [_, _], _ => rfl) fun f cdv A outer s H E C => ?_
  exact (ss_cons (ss_set 2 (se_lst sa_nil) C.nd)
    (ss_cons (ss_tg (vs := [3, 4, 5]) (se_ixd 0 C.hu (se_rdv 1)) (sg_t C.calm (sgs_cons (sg_n 3 C.nd) (sgs_cons (sg_n 4 C.nd) (sgs_cons (sg_n 5 C.nd) sgs_nil)))))
    (ss_cons (ss_while bigN (ws := [3]) C.hp (st_cmp oIsn vr_isn (se_rdv 4) se_non)
    (ss_cons (ss_app 2 (se_tup (sa_cons (se_rdv 5) (sa_cons (se_rdv 1) sa_nil))))
    (ss_cons (ss_set 1 (se_rdv 4) C.nd)
    (ss_one (ss_tg (vs := [3, 4, 5]) (se_ixd 0 C.hu (se_rdv 1)) (sg_t C.calm (sgs_cons (sg_n 3 C.nd) (sgs_cons (sg_n 4 C.nd) (sgs_cons (sg_n 5 C.nd) sgs_nil)))))))))
    (ss_one (ss_ret (se_tupRev C.calm (se_rdv 2) (by rfl) (by exact T.b_tuple) (by rfl) (by exact T.b_reversed)))))))
theorem sc_best_goal : FnScope ["origins", "goals", "best", "goal"] ["origins", "goals"] (defScope s_best_goal) := ⟨rfl, rfl, rfl, by decide +kernel, rfl, by decide +kernel, by decide +kernel⟩
theorem ok_best_goal (T : Txt mg) (hf : IsFn K mg "best_goal" s_best_goal)  : Def P w K mg base "best_goal" 1 2 [] f_best_goal := by
  refine def_ok (k := 0) (body := b_best_goal) hf sc_best_goal (fun _ _ _ _ _ _ us hl => match us, hl with | [_, _], _ => rfl) fun f cdv A outer s H E C => ?_
  exact (ss_cons (ss_set 2 se_non C.nd)
    (ss_cons (ss_for (vs := [3]) (ws := [3]) C.hp C.calm (si_any (se_rdv 1)) (sg_n 3 C.nd)
    (ss_one (ss_if (st_w (sw_and (st_bor2 0 (op_din C.hu) (vr_din false) (se_rdv 3)) (sw_and1 (st_w (sw_or (st_cmp oIs vr_is (se_rdv 2) se_non) (sw_or1 (st_cmp op_lt vr_cI (se_ix (se_ixd 0 C.hu (se_rdv 3)) se_int) (se_ix (se_ixd 0 C.hu (se_rdv 2)) se_int)))))))) (ss_one (ss_set 2 (se_rdv 3) C.nd)) ss_nil)))
    (ss_one (ss_ret (se_mvv 2)))))
theorem sc_press_prices : FnScope ["moves", "origins", "number", "prices", "rest", "price"] ["moves", "origins", "number"] (defScope s_press_prices) := ⟨rfl, rfl, rfl, by decide +kernel, rfl, by decide +kernel, by decide +kernel⟩
theorem ok_press_prices (T : Txt mg) (hf : IsFn K mg "press_prices" s_press_prices)  : Def P w K mg base "press_prices" 1 3 [] f_press_prices := by
  refine def_ok (k := 0) (body := b_press_prices) hf sc_press_prices (fun _ _ _ _ _ _ us hl => match us, hl with | [_, _, _], _ => rfl) fun f cdv A outer s H E C => ?_
  exact (ss_cons (ss_set 3 (se_lst sa_nil) C.nd)
    (ss_cons (ss_for (vs := [4]) (ws := [4, 5]) C.hp C.calm (si_r1 (se_borB 0 cLen vr_len rfl T.b_len (by decide +kernel)) rfl T.b_range) (sg_n 4 C.nd)
    (ss_cons (ss_set 5 (se_rdv 2) C.nd)
    (ss_cons (ss_if (st_bor2 1 (op_din C.hu) (vr_din false) (se_rdv 4)) (ss_one (ss_set 5 (se_callB (cMinE C.calm C.hu) vr_minE rfl T.b_min (by decide +kernel) (sa_cons (se_ix (se_ixd 1 C.hu (se_rdv 4)) se_int) (sa_cons (se_rdv 2) sa_nil))) C.nd)) ss_nil)
    (ss_one (ss_app 3 (se_rdv 5))))))
    (ss_one (ss_ret (se_callTy call_tuple_of vr_tuple rfl T.b_tuple (by decide +kernel) (sa_cons (se_rdv 3) sa_nil))))))
theorem sc_least_presses : FnScope ["moves", "goals", "start", "event", "origins", "goal", "number"] ["moves", "goals", "start", "event"] (defScope s_least_presses) := ⟨rfl, rfl, rfl, by decide +kernel, rfl, by decide +kernel, by decide +kernel⟩
theorem ok_least_presses (T : Txt mg) (hf : IsFn K mg "least_presses" s_least_presses) (G_is_place : Def P w K mg base "is_place" 2 2 [] f_is_place) (G_demand_question : Def P w K mg base "demand_question" 5 3 [] f_demand_question) (G_press_origins : Def P w K mg base "press_origins" 2 3 [] f_press_origins) (G_way_to : Def P w K mg base "way_to" 1 2 [] f_way_to) (G_best_goal : Def P w K mg base "best_goal" 1 2 [] f_best_goal) (G_press_prices : Def P w K mg base "press_prices" 1 3 [] f_press_prices) (RF_BadEvent : XRaiseF P K mg "BadEvent" "index") : Def P w K mg base "least_presses" 6 4 [] f_least_presses := by
  refine def_ok (k := 5) (body := b_least_presses) hf sc_least_presses (fun _ _ _ _ _ _ us hl => match us, hl with | [_, _, _, _], _ => rfl) fun f cdv A outer s H E C => ?_
  exact (ss_cons (ss_drop (se_call G_demand_question (C.hr.mono (by decide)) C.tk (sga_fz (se_rdv 0) (sga_fz (se_rdv 1) (sga_fz (se_rdv 2) sga_nil)))))
    (ss_cons (ss_if (st_not (st_val (se_call G_is_place (C.hr.mono (by decide)) C.tk (sga_fz (se_rdv 3) (sga_fz (se_callB cLen vr_len rfl T.b_len (by decide +kernel) (sa_cons (se_ixv 0 se_int) sa_nil)) sga_nil))))) (ss_one (ss_rsF RF_BadEvent C.calm C.tk C.hr (se_rdv 3))) ss_nil)
    (ss_cons (ss_frz 4 (ss_set 4 (se_call G_press_origins (C.hr.mono (by decide)) C.tk (sga_fz (se_rdv 0) (sga_fz (se_rdv 2) (sga_fz (se_rdv 3) sga_nil)))) C.nd))
    (ss_cons (ss_frz 5 (ss_set 5 (se_call G_best_goal (C.hr.mono (by decide)) C.tk (sga_fz (se_rdv 4) (sga_fz (se_rdv 1) sga_nil))) C.nd))
    (ss_cons (ss_if (st_cmp oIs vr_is (se_rdv 5) se_non) (ss_one (ss_ret (se_tup (sa_cons se_str (sa_cons (se_callTy call_tuple_of vr_tuple rfl T.b_tuple (by decide +kernel) (sa_cons (se_callB (cSorted2 C.calm) vr_sorted2 rfl T.b_sorted (by decide +kernel) (sa_cons (se_rdv 4) sa_nil)) sa_nil)) sa_nil))))) ss_nil)
    (ss_cons (ss_set 6 (se_ix (se_ixd 4 C.hu (se_rdv 5)) se_int) C.nd)
    (ss_one (ss_ret (se_tup (sa_cons se_str (sa_cons (se_rdv 6) (sa_cons (se_call G_way_to (C.hr.mono (by decide)) C.tk (sga_fz (se_rdv 4) (sga_fz (se_rdv 5) sga_nil))) (sa_cons (se_call G_press_prices (C.hr.mono (by decide)) C.tk (sga_fz (se_rdv 0) (sga_fz (se_rdv 4) (sga_fz (se_rdv 6) sga_nil)))) sa_nil)))))))))))))
theorem sc_row_keeps_prices : FnScope ["row", "price", "event", "prices", "other", "targets", "_", "after"] ["row", "price", "event", "prices"] (defScope s_row_keeps_prices) := ⟨rfl, rfl, rfl, by decide +kernel, rfl, by decide +kernel, by decide +kernel⟩
theorem ok_row_keeps_prices (T : Txt mg) (hf : IsFn K mg "row_keeps_prices" s_row_keeps_prices)  : Def P w K mg base "row_keeps_prices" 1 4 [] f_row_keeps_prices := by
  refine def_ok (k := 0) (body := b_row_keeps_prices) hf sc_row_keeps_prices (fun _ _ _ _ _ _ us hl => match us, hl with | [_, _, _, _], _ => rfl) fun f cdv A outer s H E C => ?_
  exact (ss_cons (ss_for (vs := [4, 5, 6]) (ws := [4, 5, 6, 7]) C.hp C.calm (si_enum (se_rdv 0) rfl T.b_enumerate) (sg_t C.calm (sgs_cons (sg_n 4 C.nd) (sgs_cons (sg_t C.calm (sgs_cons (sg_n 5 C.nd) (sgs_cons (sg_n 6 C.nd) sgs_nil))) sgs_nil)))
    (ss_one (ss_for (vs := [7]) (ws := [7]) C.hp C.calm (si_any (se_rdv 5)) (sg_n 7 C.nd)
    (ss_one (ss_if (st_cmp op_gt vr_cI (se_ixv 3 (se_rdv 7)) (se_op oAdd vr_add (se_rdv 1) (se_callTy call_int1 vr_int rfl T.b_int (by decide +kernel) (sa_cons (se_cmp (oEq C.hu) vr_eq (se_rdv 4) (se_rdv 2)) sa_nil)))) (ss_one (ss_ret se_bl)) ss_nil)))))
    (ss_one (ss_ret se_bl)))
theorem sc_shows_prices : FnScope ["moves", "goals", "start", "event", "number", "prices", "rest", "row", "goal"] ["moves", "goals", "start", "event", "number", "prices"] (defScope s_shows_prices) := ⟨rfl, rfl, rfl, by decide +kernel, rfl, by decide +kernel, by decide +kernel⟩
theorem ok_shows_prices (T : Txt mg) (hf : IsFn K mg "shows_prices" s_shows_prices) (G_is_place : Def P w K mg base "is_place" 2 2 [] f_is_place) (G_row_keeps_prices : Def P w K mg base "row_keeps_prices" 1 4 [] f_row_keeps_prices) : Def P w K mg base "shows_prices" 3 6 [] f_shows_prices := by
  refine def_ok (k := 2) (body := b_shows_prices) hf sc_shows_prices (fun _ _ _ _ _ _ us hl => match us, hl with | [_, _, _, _, _, _], _ => rfl) fun f cdv A outer s H E C => ?_
  exact (ss_cons (ss_if (st_w (sw_or (st_not (st_val (se_call G_is_place (C.hr.mono (by decide)) C.tk (sga_fz (se_rdv 2) (sga_fz (se_borB 0 cLen vr_len rfl T.b_len (by decide +kernel)) sga_nil))))) (sw_or (st_not (st_val (se_call G_is_place (C.hr.mono (by decide)) C.tk (sga_fz (se_rdv 3) (sga_fz (se_callB cLen vr_len rfl T.b_len (by decide +kernel) (sa_cons (se_ixv 0 se_int) sa_nil)) sga_nil))))) (sw_or1 (st_cmp (oNe C.hu) vr_ne (se_borB 5 cLen vr_len rfl T.b_len (by decide +kernel)) (se_borB 0 cLen vr_len rfl T.b_len (by decide +kernel))))))) (ss_one (ss_ret se_bl)) ss_nil)
    (ss_cons (ss_if (st_cmp (oNe C.hu) vr_ne (se_ixv 5 (se_rdv 2)) se_int) (ss_one (ss_ret se_bl)) ss_nil)
    (ss_cons (ss_for (vs := [6, 7]) (ws := [6, 7]) C.hp C.calm (si_enum (se_rdv 0) rfl T.b_enumerate) (sg_t C.calm (sgs_cons (sg_n 6 C.nd) (sgs_cons (sg_n 7 C.nd) sgs_nil)))
    (ss_one (ss_if (st_not (st_val (se_call G_row_keeps_prices (C.hr.mono (by decide)) C.tk (sga_fz (se_rdv 7) (sga_fz (se_ixv 5 (se_rdv 6)) (sga_fz (se_rdv 3) (sga_fz (se_rdv 5) sga_nil))))))) (ss_one (ss_ret se_bl)) ss_nil)))
    (ss_cons (ss_for (vs := [8]) (ws := [8]) C.hp C.calm (si_any (se_rdv 1)) (sg_n 8 C.nd)
    (ss_one (ss_if (st_cmp op_lt vr_cI (se_ixv 5 (se_rdv 8)) (se_rdv 4)) (ss_one (ss_ret se_bl)) ss_nil)))
    (ss_one (ss_ret se_bl))))))
theorem sc_must_events : FnScope ["moves", "goals", "start", "found", "event"] ["moves", "goals", "start"] (defScope s_must_events) := ⟨rfl, rfl, rfl, by decide +kernel, rfl, by decide +kernel, by decide +kernel⟩
theorem ok_must_events (T : Txt mg) (hf : IsFn K mg "must_events" s_must_events) (G_demand_question : Def P w K mg base "demand_question" 5 3 [] f_demand_question) (G_press_origins : Def P w K mg base "press_origins" 2 3 [] f_press_origins) (G_best_goal : Def P w K mg base "best_goal" 1 2 [] f_best_goal) (G_least_presses : Def P w K mg base "least_presses" 6 4 [] f_least_presses) : Def P w K mg base "must_events" 7 3 [] f_must_events := by
  refine def_ok (k := 6) (body := b_must_events) hf sc_must_events (fun _ _ _ _ _ _ us hl => match us, hl with | [_, _, _], _ => rfl) fun f cdv A outer s H E C => ?_
  exact (ss_cons (ss_drop (se_call G_demand_question (C.hr.mono (by decide)) C.tk (sga_fz (se_rdv 0) (sga_fz (se_rdv 1) (sga_fz (se_rdv 2) sga_nil)))))
    (ss_cons (ss_set 3 (se_lst sa_nil) C.nd)
    (ss_cons (ss_if (st_cmp oIs vr_is (se_call G_best_goal (C.hr.mono (by decide)) C.tk (sga_fz (se_call G_press_origins (C.hr.mono (by decide)) C.tk (sga_fz (se_rdv 0) (sga_fz (se_rdv 2) (sga_fz (se_un un_neg vr_neg se_int) sga_nil)))) (sga_fz (se_rdv 1) sga_nil))) se_non) (ss_one (ss_ret se_non)) ss_nil)
    (ss_cons (ss_for (vs := [4]) (ws := [4]) C.hp C.calm (si_r1 (se_callB cLen vr_len rfl T.b_len (by decide +kernel) (sa_cons (se_ixv 0 se_int) sa_nil)) rfl T.b_range) (sg_n 4 C.nd)
    (ss_one (ss_if (st_cmp op_gt vr_cI (se_ix (se_call G_least_presses (C.hr.mono (by decide)) C.tk (sga_fz (se_rdv 0) (sga_fz (se_rdv 1) (sga_fz (se_rdv 2) (sga_fz (se_rdv 4) sga_nil))))) se_int) se_int) (ss_one (ss_app 3 (se_rdv 4))) ss_nil)))
    (ss_one (ss_ret (se_callTy call_tuple_of vr_tuple rfl T.b_tuple (by decide +kernel) (sa_cons (se_rdv 3) sa_nil))))))))
theorem sc__law_cell : FnScope ["script", "k"] ["script", "k"] (defScope s__law_cell) := ⟨rfl, rfl, rfl, by decide +kernel, rfl, by decide +kernel, by decide +kernel⟩
theorem ok__law_cell (T : Txt mg) (hf : IsFn K mg "_law_cell" s__law_cell)  : Def P w K mg base "_law_cell" 1 2 [] f__law_cell := by
  refine def_ok (k := 0) (body := b__law_cell) hf sc__law_cell (fun _ _ _ _ _ _ us hl => match us, hl with | [_, _], _ => rfl) fun f cdv A outer s H E C => ?_
  exact (ss_cons (ss_if (st_cmp op_lt vr_cI (se_rdv 1) (se_borB 0 cLen vr_len rfl T.b_len (by decide +kernel))) (ss_one (ss_ret (se_ixv 0 (se_rdv 1)))) ss_nil)
    (ss_one (ss_ret se_int)))
theorem sc__law_row : FnScope ["cell", "sizes", "rest", "mixed", "numbers", "size"] ["cell", "sizes"] (defScope s__law_row) := ⟨rfl, rfl, rfl, by decide +kernel, rfl, by decide +kernel, by decide +kernel⟩
theorem ok__law_row (T : Txt mg) (hf : IsFn K mg "_law_row" s__law_row)  : Def P w K mg base "_law_row" 1 2 [] f__law_row := by
  refine def_ok (k := 0) (body := b__law_row) hf sc__law_row (fun _ _ _ _ _ _ us hl => match us, hl with | [_, _], _ => rfl) fun f cdv A outer s H E C => ?_
  exact (ss_cons (ss_set 2 (se_rdv 0) C.nd)
    (ss_cons (ss_set 3 (se_op op_mod vr_mod (se_callTy call_int1 vr_int rfl T.b_int (by decide +kernel) (sa_cons (se_op oAdd vr_add (se_op oMul vr_mul (se_rdv 0) se_int) se_int) sa_nil)) se_int) C.nd)
    (ss_cons (ss_set 4 (se_lst sa_nil) C.nd)
    (ss_cons (ss_for (vs := [5]) (ws := [5]) C.hp C.calm (si_any (se_rdv 1)) (sg_n 5 C.nd)
    (ss_one (ss_if (st_cmp op_ge vr_cI (se_rdv 0) (se_op op_pow vr_pow se_int se_int)) (ss_cons (ss_app 4 (se_op op_mod vr_mod (se_callTy call_int1 vr_int rfl T.b_int (by decide +kernel) (sa_cons (se_rdv 2) sa_nil)) (se_rdv 5)))
    (ss_one (ss_set 2 (se_op op_fdivW vr_fdiv (se_rdv 2) (se_rdv 5)) C.nd))) (ss_cons (ss_set 3 (se_op op_mod vr_mod (se_callTy call_int1 vr_int rfl T.b_int (by decide +kernel) (sa_cons (se_op oAdd vr_add (se_op oMul vr_mul (se_rdv 3) se_int) se_int) sa_nil)) se_int) C.nd)
    (ss_one (ss_app 4 (se_op op_mod vr_mod (se_op op_fdivW vr_fdiv (se_rdv 3) se_int) (se_rdv 5))))))))
    (ss_one (ss_ret (se_mvv 4)))))))
theorem sc__law_targets : FnScope ["row", "size", "k", "count", "place"] ["row", "size"] (defScope s__law_targets) := ⟨rfl, rfl, rfl, by decide +kernel, rfl, by decide +kernel, by decide +kernel⟩
theorem ok__law_targets (T : Txt mg) (hf : IsFn K mg "_law_targets" s__law_targets)  : Def P w K mg base "_law_targets" 1 2 [] f__law_targets := by
  refine def_ok (k := 0) (body := b__law_targets) hf sc__law_targets (fun _ _ _ _ _ _ us hl => match us, hl with | [_, _], _ => rfl) fun f cdv A outer s H E C => ?_
  exact (ss_cons (ss_if (st_cmp (oEq C.hu) vr_eq (se_ixv 0 se_int) se_int) (ss_one (ss_ret (se_lc (own := [("k", 2)]) C.calm C.nd (si_r1 (se_rdv 1) rfl T.b_range) (blkOk_by (by kernel_rfl)) (fun _ _ _ _ _ => (sg_n 2 C.nd)) (fun _ _ _ _ _ => st_yes) (fun _ _ _ _ _ => (se_rdv 2))))) ss_nil)
    (ss_cons (ss_set 3 (se_ix (se_lst (sa_cons se_int (sa_cons se_int (sa_cons se_int (sa_cons se_int (sa_cons se_int (sa_cons se_int (sa_cons se_int sa_nil)))))))) (se_ixv 0 se_int)) C.nd)
    (ss_one (ss_ret (se_sortset C.calm (se_lc (own := [("place", 4)]) C.calm C.nd (si_any (se_sl (se_rdv 0) (so_some se_int) (so_some (se_op oAdd vr_add se_int (se_rdv 3))))) (blkOk_by (by kernel_rfl)) (fun _ _ _ _ _ => (sg_n 4 C.nd)) (fun _ _ _ _ _ => st_yes) (fun _ _ _ _ _ => (se_op op_mod vr_mod (se_callTy call_int1 vr_int rfl T.b_int (by decide +kernel) (sa_cons (se_rdv 4) sa_nil)) (se_rdv 1)))) (by rfl) (by exact T.b_sorted) (by rfl) (by exact T.b_set))))))
theorem sc__law_moves : FnScope ["script", "size", "many", "moves", "k", "row", "pairs", "m"] ["script", "size", "many"] (defScope s__law_moves) := ⟨rfl, rfl, rfl, by decide +kernel, rfl, by decide +kernel, by decide +kernel⟩
theorem ok__law_moves (T : Txt mg) (hf : IsFn K mg "_law_moves" s__law_moves) (G__law_cell : Def P w K mg base "_law_cell" 1 2 [] f__law_cell) (G__law_row : Def P w K mg base "_law_row" 1 2 [] f__law_row) (G__law_targets : Def P w K mg base "_law_targets" 1 2 [] f__law_targets) : Def P w K mg base "_law_moves" 2 3 [] f__law_moves := by
  refine def_ok (k := 1) (body := b__law_moves) hf sc__law_moves (fun _ _ _ _ _ _ us hl => match us, hl with | [_, _, _], _ => rfl) fun f cdv A outer s H E C => ?_
  exact (ss_cons (ss_set 3 (se_lst sa_nil) C.nd)
    (ss_cons (ss_for (vs := [4]) (ws := [4, 5, 6, 7]) C.hp C.calm (si_r1 (se_rdv 1) rfl T.b_range) (sg_n 4 C.nd)
    (ss_cons (ss_frz 5 (ss_set 5 (se_call G__law_row (C.hr.mono (by decide)) C.tk (sga_fz (se_op oAdd vr_add (se_call G__law_cell (C.hr.mono (by decide)) C.tk (sga_fz (se_rdv 0) (sga_fz (se_op oAdd vr_add se_int (se_rdv 4)) sga_nil))) (se_op oMul vr_mul se_int (se_rdv 4))) (sga_fz (se_op oMul vr_mul (se_lst (sa_cons se_int (sa_cons se_int (sa_cons se_int (sa_cons se_int (sa_cons se_int sa_nil)))))) (se_rdv 2)) sga_nil))) C.nd))
    (ss_cons (ss_set 6 (se_lst sa_nil) C.nd)
    (ss_cons (ss_for (vs := [7]) (ws := [7]) C.hp C.calm (si_r1 (se_rdv 2) rfl T.b_range) (sg_n 7 C.nd)
    (ss_one (ss_app 6 (se_tup (sa_cons (se_call G__law_targets (C.hr.mono (by decide)) C.tk (sga_fz (se_sl (se_rdv 5) (so_some (se_op oMul vr_mul se_int (se_rdv 7))) (so_some (se_op oAdd vr_add (se_op oMul vr_mul se_int (se_rdv 7)) se_int))) (sga_fz (se_rdv 1) sga_nil))) (sa_cons (se_cmp (oEq C.hu) vr_eq (se_ixv 5 (se_op oAdd vr_add (se_op oMul vr_mul se_int (se_rdv 7)) se_int)) se_int) sa_nil))))))
    (ss_one (ss_app 3 (se_rdv 6)))))))
    (ss_one (ss_ret (se_mvv 3)))))
theorem sc__law_lined : FnScope ["moves", "line", "events", "at", "rest", "good", "pairs", "m", "targets", "endless", "place"] ["moves", "line", "events"] (defScope s__law_lined) := ⟨rfl, rfl, rfl, by decide +kernel, rfl, by decide +kernel, by decide +kernel⟩
theorem ok__law_lined (T : Txt mg) (hf : IsFn K mg "_law_lined" s__law_lined)  : Def P w K mg base "_law_lined" 1 3 [] f__law_lined := by
  refine def_ok (k := 0) (body := b__law_lined) hf sc__law_lined (fun _ _ _ _ _ _ us hl => match us, hl with | [_, _, _], _ => rfl) fun f cdv A outer s H E C => ?_
  exact (ss_cons (ss_for (vs := [3]) (ws := [3, 4, 5, 6, 7, 8, 9]) C.hp C.calm (si_r2 se_int (se_borB 1 cLen vr_len rfl T.b_len (by decide +kernel)) rfl T.b_range) (sg_n 3 C.nd)
    (ss_cons (ss_set 4 (se_ixv 1 (se_op op_sub vr_sub (se_rdv 3) se_int)) C.nd)
    (ss_cons (ss_set 5 (se_op op_mod vr_mod (se_ixv 2 (se_rdv 3)) (se_callB cLen vr_len rfl T.b_len (by decide +kernel) (sa_cons (se_ixv 0 (se_rdv 4)) sa_nil))) C.nd)
    (ss_cons (ss_set 6 (se_lst sa_nil) C.nd)
    (ss_cons (ss_for (vs := [7]) (ws := [7, 8, 9]) C.hp C.calm (si_r1 (se_callB cLen vr_len rfl T.b_len (by decide +kernel) (sa_cons (se_ixv 0 (se_rdv 4)) sa_nil)) rfl T.b_range) (sg_n 7 C.nd)
    (ss_cons (ss_tg (vs := [8, 9]) (se_ix (se_ixv 0 (se_rdv 4)) (se_rdv 7)) (sg_t C.calm (sgs_cons (sg_n 8 C.nd) (sgs_cons (sg_n 9 C.nd) sgs_nil))))
    (ss_one (ss_if (st_cmp (oEq C.hu) vr_eq (se_rdv 7) (se_rdv 5)) (ss_one (ss_app 6 (se_tup (sa_cons (se_lst (sa_cons (se_ixv 1 (se_rdv 3)) sa_nil)) (sa_cons (se_rdv 9) sa_nil))))) (ss_one (ss_app 6 (se_tup (sa_cons (se_lc (own := [("place", 10)]) C.calm C.nd (si_any (se_rdv 8)) (blkOk_by (by kernel_rfl)) (fun _ _ _ _ _ => (sg_n 10 C.nd)) (fun _ _ _ _ _ => (st_one (st_cmp op_in_seq (vr_in false) (se_rdv 10) (se_sl (se_rdv 1) so_none (so_some (se_rdv 3)))))) (fun _ _ _ _ _ => (se_rdv 10))) (sa_cons (se_rdv 9) sa_nil)))))))))
    (ss_one (ss_put 0 (se_rdv 4) (se_rdv 6))))))))
    (ss_one (ss_ret (se_mvv 0))))
theorem sc__law_copied : FnScope ["moves", "as_tuples", "row", "pair"] ["moves", "as_tuples"] (defScope s__law_copied) := ⟨rfl, rfl, rfl, by decide +kernel, rfl, by decide +kernel, by decide +kernel⟩
theorem ok__law_copied (T : Txt mg) (hf : IsFn K mg "_law_copied" s__law_copied)  : Def P w K mg base "_law_copied" 1 2 [] f__law_copied := by
  refine def_ok (k := 0) (body := b__law_copied) hf sc__law_copied (fun _ _ _ _ _ _ us hl => match us, hl with | [_, _], _ => rfl) fun f cdv A outer s H E C => ?_
  exact (ss_cons (ss_if (st_val (se_rdv 1)) (ss_one (ss_ret (se_callTy call_tuple_of vr_tuple rfl T.b_tuple (by decide +kernel) (sa_cons (se_lc (own := [("row", 2)]) C.calm C.nd (si_any (se_rdv 0)) (blkOk_by (by kernel_rfl)) (fun _ _ _ _ _ => (sg_n 2 C.nd)) (fun _ _ _ _ _ => st_yes) (fun _ _ _ _ _ => (se_callTy call_tuple_of vr_tuple rfl T.b_tuple (by decide +kernel) (sa_cons (se_lc (own := [("pair", 3)]) (by exact C.calm) C.nd (si_any (se_rdv 2)) (blkOk_by (by kernel_rfl)) (fun _ _ _ _ _ => (sg_n 3 C.nd)) (fun _ _ _ _ _ => st_yes) (fun _ _ _ _ _ => (se_tup (sa_cons (se_callTy call_tuple_of vr_tuple rfl T.b_tuple (by decide +kernel) (sa_cons (se_ixv 3 se_int) sa_nil)) (sa_cons (se_ixv 3 se_int) sa_nil))))) sa_nil)))) sa_nil)))) ss_nil)
    (ss_one (ss_ret (se_lc (own := [("row", 2)]) C.calm C.nd (si_any (se_rdv 0)) (blkOk_by (by kernel_rfl)) (fun _ _ _ _ _ => (sg_n 2 C.nd)) (fun _ _ _ _ _ => st_yes) (fun _ _ _ _ _ => (se_lc (own := [("pair", 3)]) (by exact C.calm) C.nd (si_any (se_rdv 2)) (blkOk_by (by kernel_rfl)) (fun _ _ _ _ _ => (sg_n 3 C.nd)) (fun _ _ _ _ _ => st_yes) (fun _ _ _ _ _ => (se_tup (sa_cons (se_callTy call_list_of vr_list rfl T.b_list (by decide +kernel) (sa_cons (se_ixv 3 se_int) sa_nil)) (sa_cons (se_ixv 3 se_int) sa_nil))))))))))
theorem sc__law_reach : FnScope ["moves", "places", "barred", "known", "k", "event", "after"] ["moves", "places", "barred"] (defScope s__law_reach) := ⟨rfl, rfl, rfl, by decide +kernel, rfl, by decide +kernel, by decide +kernel⟩
theorem ok__law_reach (T : Txt mg) (hf : IsFn K mg "_law_reach" s__law_reach)  : Def P w K mg base "_law_reach" 1 3 [] f__law_reach := by
  refine def_ok (k := 0) (body := b__law_reach) hf sc__law_reach (fun _ _ _ _ _ _ us hl => match us, hl with | [_, _, _], _ => rfl) fun f cdv A outer s H E C => ?_
  exact (ss_cons (ss_set 3 (se_callTy call_list_of vr_list rfl T.b_list (by decide +kernel) (sa_cons (se_rdv 1) sa_nil)) C.nd)
    (ss_cons (ss_for (vs := [4]) (ws := [4, 5, 6]) C.hp C.calm (si_r1 (se_borB 0 cLen vr_len rfl T.b_len (by decide +kernel)) rfl T.b_range) (sg_n 4 C.nd)
    (ss_cons (ss_if (st_cmp op_ge vr_cI (se_rdv 4) (se_borB 3 cLen vr_len rfl T.b_len (by decide +kernel))) (ss_one ss_break) ss_nil)
    (ss_one (ss_for (vs := [5]) (ws := [5, 6]) C.hp C.calm (si_r1 (se_callB cLen vr_len rfl T.b_len (by decide +kernel) (sa_cons (se_ixv 0 (se_ixv 3 (se_rdv 4))) sa_nil)) rfl T.b_range) (sg_n 5 C.nd)
    (ss_one (ss_for (vs := [6]) (ws := [6]) C.hp C.calm (si_any (se_ix (se_ix (se_ixv 0 (se_ixv 3 (se_rdv 4))) (se_rdv 5)) se_int)) (sg_n 6 C.nd)
    (ss_one (ss_if (st_w (sw_and (st_cmp (oNe C.hu) vr_ne (se_rdv 5) (se_rdv 2)) (sw_and1 (st_bor2 3 op_notIn_seq (vr_in true) (se_rdv 6))))) (ss_one (ss_app 3 (se_rdv 6))) ss_nil))))))))
    (ss_one (ss_ret (se_mvv 3)))))
theorem sc__law_presses : FnScope ["moves", "start", "event", "found", "row", "front", "number", "pressed", "k", "other", "after"] ["moves", "start", "event"] (defScope s__law_presses) := ⟨rfl, rfl, rfl, by decide +kernel, rfl, by decide +kernel, by decide +kernel⟩
theorem ok__law_presses (T : Txt mg) (hf : IsFn K mg "_law_presses" s__law_presses)  : Def P w K mg base "_law_presses" 1 3 [] f__law_presses := by
  refine def_ok (k := 0) (body := b__law_presses) hf sc__law_presses (fun _ _ _ _ _ _ us hl => match us, hl with | [_, _, _], _ => rfl) fun f cdv A outer s H E C => ?_
  exact (ss_cons (ss_setLc 3 (own := [("row", 4)]) C.calm C.nd rfl rfl (sw_true rfl rfl rfl (by decide +kernel)) (si_any (se_rdv 0)) (blkOk_by (by kernel_rfl)) (fun _ _ _ _ _ => (sg_n 4 C.nd)) (fun _ _ _ _ _ => st_yes) (fun _ _ _ _ _ => (se_un un_neg vr_neg se_int)))
    (ss_cons (ss_put 3 (se_rdv 1) se_int)
    (ss_cons (ss_set 5 (se_lst (sa_cons (se_rdv 1) sa_nil)) C.nd)
    (ss_cons (ss_for (vs := [6]) (ws := [6, 7, 8, 9, 10]) C.hp C.calm (si_r1 (se_borB 0 cLen vr_len rfl T.b_len (by decide +kernel)) rfl T.b_range) (sg_n 6 C.nd)
    (ss_cons (ss_set 7 (se_lst sa_nil) C.nd)
    (ss_cons (ss_for (vs := [8]) (ws := [8, 9, 10]) C.hp C.calm (si_r1 (se_borB 0 cLen vr_len rfl T.b_len (by decide +kernel)) rfl T.b_range) (sg_n 8 C.nd)
    (ss_cons (ss_if (st_cmp op_ge vr_cI (se_rdv 8) (se_borB 5 cLen vr_len rfl T.b_len (by decide +kernel))) (ss_one ss_break) ss_nil)
    (ss_one (ss_for (vs := [9]) (ws := [9, 10]) C.hp C.calm (si_r1 (se_callB cLen vr_len rfl T.b_len (by decide +kernel) (sa_cons (se_ixv 0 (se_ixv 5 (se_rdv 8))) sa_nil)) rfl T.b_range) (sg_n 9 C.nd)
    (ss_one (ss_for (vs := [10]) (ws := [10]) C.hp C.calm (si_any (se_ix (se_ix (se_ixv 0 (se_ixv 5 (se_rdv 8))) (se_rdv 9)) se_int)) (sg_n 10 C.nd)
    (ss_one (ss_if (st_cmp (oEq C.hu) vr_eq (se_rdv 9) (se_rdv 2)) (ss_one (ss_app 7 (se_rdv 10))) (ss_one (ss_if (st_cmp op_lt vr_cI (se_ixv 3 (se_rdv 10)) se_int) (ss_cons (ss_put 3 (se_rdv 10) (se_rdv 6))
    (ss_one (ss_app 5 (se_rdv 10)))) ss_nil))))))))))
    (ss_cons (ss_set 5 (se_lst sa_nil) C.nd)
    (ss_one (ss_for (vs := [10]) (ws := [10]) C.hp C.calm (si_any (se_rdv 7)) (sg_n 10 C.nd)
    (ss_one (ss_if (st_cmp op_lt vr_cI (se_ixv 3 (se_rdv 10)) se_int) (ss_cons (ss_put 3 (se_rdv 10) (se_op oAdd vr_add (se_rdv 6) se_int))
    (ss_one (ss_app 5 (se_rdv 10)))) ss_nil))))))))
    (ss_one (ss_ret (se_mvv 3)))))))
theorem sc__law_best_way : FnScope ["moves", "goals", "start", "ways", "known", "k", "rest", "way", "event", "after"] ["moves", "goals", "start"] (defScope s__law_best_way) := ⟨rfl, rfl, rfl, by decide +kernel, rfl, by decide +kernel, by decide +kernel⟩
theorem ok__law_best_way (T : Txt mg) (hf : IsFn K mg "_law_best_way" s__law_best_way)  : Def P w K mg base "_law_best_way" 1 3 [] f__law_best_way := by
  refine def_ok (k := 0) (body := b__law_best_way) hf sc__law_best_way (fun _ _ _ _ _ _ us hl => match us, hl with | [_, _, _], _ => rfl) fun f cdv A outer s H E C => ?_
  exact (ss_cons (ss_set 3 (se_lst (sa_cons (se_tup (sa_cons (se_rdv 2) (sa_cons (se_lst sa_nil) sa_nil))) sa_nil)) C.nd)
    (ss_cons (ss_set 4 (se_lst (sa_cons (se_rdv 2) sa_nil)) C.nd)
    (ss_cons (ss_for (vs := [5]) (ws := [5, 6, 7, 8, 9]) C.hp C.calm (si_r1 (se_borB 0 cLen vr_len rfl T.b_len (by decide +kernel)) rfl T.b_range) (sg_n 5 C.nd)
    (ss_cons (ss_if (st_cmp op_ge vr_cI (se_rdv 5) (se_borB 3 cLen vr_len rfl T.b_len (by decide +kernel))) (ss_one (ss_ret se_non)) ss_nil)
    (ss_cons (ss_tg (vs := [6, 7]) (se_ixv 3 (se_rdv 5)) (sg_t C.calm (sgs_cons (sg_n 6 C.nd) (sgs_cons (sg_n 7 C.nd) sgs_nil))))
    (ss_cons (ss_if (st_bor2 1 op_in_seq (vr_in false) (se_rdv 6)) (ss_one (ss_ret (se_mvv 7))) ss_nil)
    (ss_one (ss_for (vs := [8]) (ws := [8, 9]) C.hp C.calm (si_r1 (se_callB cLen vr_len rfl T.b_len (by decide +kernel) (sa_cons (se_ixv 0 (se_rdv 6)) sa_nil)) rfl T.b_range) (sg_n 8 C.nd)
    (ss_one (ss_for (vs := [9]) (ws := [9]) C.hp C.calm (si_any (se_ix (se_ix (se_ixv 0 (se_rdv 6)) (se_rdv 8)) se_int)) (sg_n 9 C.nd)
    (ss_one (ss_if (st_bor2 4 op_notIn_seq (vr_in true) (se_rdv 9)) (ss_cons (ss_app 4 (se_rdv 9))
    (ss_one (ss_app 3 (se_tup (sa_cons (se_rdv 9) (sa_cons (se_op oAdd vr_add (se_rdv 7) (se_lst (sa_cons (se_tup (sa_cons (se_rdv 8) (sa_cons (se_rdv 9) sa_nil))) sa_nil))) sa_nil)))))) ss_nil))))))))))
    (ss_one (ss_ret se_non)))))
theorem sc__law_is_integer : FnScope ["value"] ["value"] (defScope s__law_is_integer) := ⟨rfl, rfl, rfl, by decide +kernel, rfl, by decide +kernel, by decide +kernel⟩
theorem ok__law_is_integer (T : Txt mg) (hf : IsFn K mg "_law_is_integer" s__law_is_integer)  : Def P w K mg base "_law_is_integer" 1 1 [] f__law_is_integer := by
  refine def_ok (k := 0) (body := b__law_is_integer) hf sc__law_is_integer (fun _ _ _ _ _ _ us hl => match us, hl with | [_], _ => rfl) fun f cdv A outer s H E C => ?_
  exact (ss_one (ss_ret (se_and (se_isi (T := "int") (se_rdv 0) rfl T.b_isinstance rfl T.b_int (by decide +kernel)) (se_one (se_not (se_isi (T := "bool") (se_rdv 0) rfl T.b_isinstance rfl T.b_bool (by decide +kernel)))))))
theorem sc__law_is_row : FnScope ["actual", "expected", "k"] ["actual", "expected"] (defScope s__law_is_row) := ⟨rfl, rfl, rfl, by decide +kernel, rfl, by decide +kernel, by decide +kernel⟩
theorem ok__law_is_row (T : Txt mg) (hf : IsFn K mg "_law_is_row" s__law_is_row) (G__law_is_integer : Def P w K mg base "_law_is_integer" 1 1 [] f__law_is_integer) : Def P w K mg base "_law_is_row" 2 2 [] f__law_is_row := by
  refine def_ok (k := 1) (body := b__law_is_row) hf sc__law_is_row (fun _ _ _ _ _ _ us hl => match us, hl with | [_, _], _ => rfl) fun f cdv A outer s H E C => ?_
  exact (ss_cons (ss_if (st_w (sw_or (st_not (st_val (se_isi (T := "tuple") (se_rdv 0) rfl T.b_isinstance rfl T.b_tuple (by decide +kernel)))) (sw_or1 (st_cmp (oNe C.hu) vr_ne (se_borB 0 cLen vr_len rfl T.b_len (by decide +kernel)) (se_borB 1 cLen vr_len rfl T.b_len (by decide +kernel)))))) (ss_one (ss_ret se_bl)) ss_nil)
    (ss_cons (ss_for (vs := [2]) (ws := [2]) C.hp C.calm (si_r1 (se_borB 1 cLen vr_len rfl T.b_len (by decide +kernel)) rfl T.b_range) (sg_n 2 C.nd)
    (ss_one (ss_if (st_w (sw_or (st_not (st_val (se_call G__law_is_integer (C.hr.mono (by decide)) C.tk (sga_fz (se_ixv 0 (se_rdv 2)) sga_nil)))) (sw_or1 (st_cmp (oNe C.hu) vr_ne (se_ixv 0 (se_rdv 2)) (se_ixv 1 (se_rdv 2)))))) (ss_one (ss_ret se_bl)) ss_nil)))
    (ss_one (ss_ret se_bl))))
theorem sc__law_is_way : FnScope ["way", "pair"] ["way"] (defScope s__law_is_way) := ⟨rfl, rfl, rfl, by decide +kernel, rfl, by decide +kernel, by decide +kernel⟩
theorem ok__law_is_way (T : Txt mg) (hf : IsFn K mg "_law_is_way" s__law_is_way) (G__law_is_integer : Def P w K mg base "_law_is_integer" 1 1 [] f__law_is_integer) : Def P w K mg base "_law_is_way" 2 1 [] f__law_is_way := by
  refine def_ok (k := 1) (body := b__law_is_way) hf sc__law_is_way (fun _ _ _ _ _ _ us hl => match us, hl with | [_], _ => rfl) fun f cdv A outer s H E C => ?_
  exact (ss_cons (ss_if (st_not (st_val (se_isi (T := "tuple") (se_rdv 0) rfl T.b_isinstance rfl T.b_tuple (by decide +kernel)))) (ss_one (ss_ret se_bl)) ss_nil)
    (ss_cons (ss_for (vs := [1]) (ws := [1]) C.hp C.calm (si_any (se_rdv 0)) (sg_n 1 C.nd)
    (ss_cons (ss_if (st_w (sw_or (st_not (st_val (se_isi (T := "tuple") (se_rdv 1) rfl T.b_isinstance rfl T.b_tuple (by decide +kernel)))) (sw_or1 (st_cmp (oNe C.hu) vr_ne (se_borB 1 cLen vr_len rfl T.b_len (by decide +kernel)) se_int)))) (ss_one (ss_ret se_bl)) ss_nil)
    (ss_one (ss_if (st_w (sw_or (st_not (st_val (se_call G__law_is_integer (C.hr.mono (by decide)) C.tk (sga_fz (se_ixv 1 se_int) sga_nil)))) (sw_or1 (st_not (st_val (se_call G__law_is_integer (C.hr.mono (by decide)) C.tk (sga_fz (se_ixv 1 se_int) sga_nil))))))) (ss_one (ss_ret se_bl)) ss_nil))))
    (ss_one (ss_ret se_bl))))
theorem sc__law_leads : FnScope ["moves", "goals", "start", "way", "rest", "event", "after"] ["moves", "goals", "start", "way"] (defScope s__law_leads) := ⟨rfl, rfl, rfl, by decide +kernel, rfl, by decide +kernel, by decide +kernel⟩
theorem ok__law_leads (T : Txt mg) (hf : IsFn K mg "_law_leads" s__law_leads)  : Def P w K mg base "_law_leads" 1 4 [] f__law_leads := by
  refine def_ok (k := 0) (body := b__law_leads) hf sc__law_leads (fun _ _ _ _ _ _ us hl => match us, hl with | [_, _, _, _], _ => rfl) fun f cdv A outer s H E C => ?_
  exact (ss_cons (ss_if (st_not (st_chn op_le op_lt vr_cI vr_cI se_int (se_rdv 2) (se_borB 0 cLen vr_len rfl T.b_len (by decide +kernel)))) (ss_one (ss_ret se_bl)) ss_nil)
    (ss_cons (ss_set 4 (se_rdv 2) C.nd)
    (ss_cons (ss_for (vs := [5, 6]) (ws := [5, 6]) C.hp C.calm (si_any (se_rdv 3)) (sg_t C.calm (sgs_cons (sg_n 5 C.nd) (sgs_cons (sg_n 6 C.nd) sgs_nil)))
    (ss_cons (ss_if (st_w (sw_or (st_not (st_chn op_le op_lt vr_cI vr_cI se_int (se_rdv 5) (se_callB cLen vr_len rfl T.b_len (by decide +kernel) (sa_cons (se_ixv 0 (se_rdv 4)) sa_nil)))) (sw_or1 (st_cmp op_notIn_seq (vr_in true) (se_rdv 6) (se_ix (se_ix (se_ixv 0 (se_rdv 4)) (se_rdv 5)) se_int))))) (ss_one (ss_ret se_bl)) ss_nil)
    (ss_one (ss_set 4 (se_rdv 6) C.nd))))
    (ss_one (ss_ret (se_bor2 1 op_in_seq (vr_in false) (se_rdv 4)))))))
theorem sc__law_prices_are_right : FnScope ["moves", "goals", "start", "event", "number", "prices", "goal", "rest", "other", "after"] ["moves", "goals", "start", "event", "number", "prices"] (defScope s__law_prices_are_right) := ⟨rfl, rfl, rfl, by decide +kernel, rfl, by decide +kernel, by decide +kernel⟩
theorem ok__law_prices_are_right (T : Txt mg) (hf : IsFn K mg "_law_prices_are_right" s__law_prices_are_right)  : Def P w K mg base "_law_prices_are_right" 1 6 [] f__law_prices_are_right := by
  refine def_ok (k := 0) (body := b__law_prices_are_right) hf sc__law_prices_are_right (fun _ _ _ _ _ _ us hl => match us, hl with | [_, _, _, _, _, _], _ => rfl) fun f cdv A outer s H E C => ?_
  exact (ss_cons (ss_if (st_w (sw_or (st_cmp (oNe C.hu) vr_ne (se_borB 5 cLen vr_len rfl T.b_len (by decide +kernel)) (se_borB 0 cLen vr_len rfl T.b_len (by decide +kernel))) (sw_or (st_not (st_chn op_le op_lt vr_cI vr_cI se_int (se_rdv 2) (se_borB 0 cLen vr_len rfl T.b_len (by decide +kernel)))) (sw_or1 (st_not (st_chn op_le op_lt vr_cI vr_cI se_int (se_rdv 3) (se_callB cLen vr_len rfl T.b_len (by decide +kernel) (sa_cons (se_ixv 0 se_int) sa_nil)))))))) (ss_one (ss_ret se_bl)) ss_nil)
    (ss_cons (ss_if (st_w (sw_or (st_cmp (oNe C.hu) vr_ne (se_ixv 5 (se_rdv 2)) se_int) (sw_or1 (st_cmp op_gt vr_cI (se_callB cLen vr_len rfl T.b_len (by decide +kernel) (sa_cons (se_lc (own := [("goal", 6)]) C.calm C.nd (si_any (se_rdv 1)) (blkOk_by (by kernel_rfl)) (fun _ _ _ _ _ => (sg_n 6 C.nd)) (fun _ _ _ _ _ => (st_one (st_cmp op_lt vr_cI (se_ixv 5 (se_rdv 6)) (se_rdv 4)))) (fun _ _ _ _ _ => (se_rdv 6))) sa_nil)) se_int)))) (ss_one (ss_ret se_bl)) ss_nil)
    (ss_cons (ss_for (vs := [7]) (ws := [7, 8, 9]) C.hp C.calm (si_r1 (se_borB 0 cLen vr_len rfl T.b_len (by decide +kernel)) rfl T.b_range) (sg_n 7 C.nd)
    (ss_one (ss_for (vs := [8]) (ws := [8, 9]) C.hp C.calm (si_r1 (se_callB cLen vr_len rfl T.b_len (by decide +kernel) (sa_cons (se_ixv 0 (se_rdv 7)) sa_nil)) rfl T.b_range) (sg_n 8 C.nd)
    (ss_one (ss_for (vs := [9]) (ws := [9]) C.hp C.calm (si_any (se_ix (se_ix (se_ixv 0 (se_rdv 7)) (se_rdv 8)) se_int)) (sg_n 9 C.nd)
    (ss_one (ss_if (st_cmp op_gt vr_cI (se_ixv 5 (se_rdv 9)) (se_op oAdd vr_add (se_ixv 5 (se_rdv 7)) (se_callTy call_int1 vr_int rfl T.b_int (by decide +kernel) (sa_cons (se_cmp (oEq C.hu) vr_eq (se_rdv 8) (se_rdv 3)) sa_nil)))) (ss_one (ss_ret se_bl)) ss_nil)))))))
    (ss_one (ss_ret se_bl)))))
theorem sc__law_is_hopeless : FnScope ["moves", "goals", "start", "rests", "rest", "targets", "endless", "after"] ["moves", "goals", "start", "rests"] (defScope s__law_is_hopeless) := ⟨rfl, rfl, rfl, by decide +kernel, rfl, by decide +kernel, by decide +kernel⟩
theorem ok__law_is_hopeless (T : Txt mg) (hf : IsFn K mg "_law_is_hopeless" s__law_is_hopeless)  : Def P w K mg base "_law_is_hopeless" 1 4 [] f__law_is_hopeless := by
  refine def_ok (k := 0) (body := b__law_is_hopeless) hf sc__law_is_hopeless (fun _ _ _ _ _ _ us hl => match us, hl with | [_, _, _, _], _ => rfl) fun f cdv A outer s H E C => ?_
  exact (ss_cons (ss_if (st_bor2 3 op_notIn_seq (vr_in true) (se_rdv 2)) (ss_one (ss_ret se_bl)) ss_nil)
    (ss_cons (ss_for (vs := [4]) (ws := [4, 5, 6]) C.hp C.calm (si_any (se_rdv 3)) (sg_n 4 C.nd)
    (ss_cons (ss_if (st_w (sw_or (st_not (st_chn op_le op_lt vr_cI vr_cI se_int (se_rdv 4) (se_borB 0 cLen vr_len rfl T.b_len (by decide +kernel)))) (sw_or1 (st_bor2 1 op_in_seq (vr_in false) (se_rdv 4))))) (ss_one (ss_ret se_bl)) ss_nil)
    (ss_one (ss_for (vs := [5, 6]) (ws := [5, 6]) C.hp C.calm (si_any (se_ixv 0 (se_rdv 4))) (sg_t C.calm (sgs_cons (sg_n 5 C.nd) (sgs_cons (sg_n 6 C.nd) sgs_nil)))
    (ss_one (ss_if (st_cmp op_gt vr_cI (se_callB cLen vr_len rfl T.b_len (by decide +kernel) (sa_cons (se_lc (own := [("after", 7)]) C.calm C.nd (si_any (se_rdv 5)) (blkOk_by (by kernel_rfl)) (fun _ _ _ _ _ => (sg_n 7 C.nd)) (fun _ _ _ _ _ => (st_one (st_bor2 3 op_notIn_seq (vr_in true) (se_rdv 7)))) (fun _ _ _ _ _ => (se_rdv 7))) sa_nil)) se_int) (ss_one (ss_ret se_bl)) ss_nil))))))
    (ss_one (ss_ret se_bl))))
theorem sc__law_says : FnScope ["actual", "due"] ["actual", "due"] (defScope s__law_says) := ⟨rfl, rfl, rfl, by decide +kernel, rfl, by decide +kernel, by decide +kernel⟩
theorem ok__law_says (T : Txt mg) (hf : IsFn K mg "_law_says" s__law_says)  : Def P w K mg base "_law_says" 1 2 [] f__law_says := by
  refine def_ok (k := 0) (body := b__law_says) hf sc__law_says (fun _ _ _ _ _ _ us hl => match us, hl with | [_, _], _ => rfl) fun f cdv A outer s H E C => ?_
  exact (ss_one (ss_ret (se_and (se_isi (T := "bool") (se_rdv 0) rfl T.b_isinstance rfl T.b_bool (by decide +kernel)) (se_one (se_cmp (oEq C.hu) vr_eq (se_rdv 0) (se_rdv 1))))))
theorem sc__law_changed : FnScope ["row", "change", "at", "value", "rows", "place"] ["row", "change", "at", "value"] (defScope s__law_changed) := ⟨rfl, rfl, rfl, by decide +kernel, rfl, by decide +kernel, by decide +kernel⟩
theorem ok__law_changed (T : Txt mg) (hf : IsFn K mg "_law_changed" s__law_changed)  : Def P w K mg base "_law_changed" 1 4 [] f__law_changed := by
  refine def_ok (k := 0) (body := b__law_changed) hf sc__law_changed (fun _ _ _ _ _ _ us hl => match us, hl with | [_, _, _, _], _ => rfl) fun f cdv A outer s H E C => ?_
  exact (ss_cons (ss_set 4 (se_callTy call_list_of vr_list rfl T.b_list (by decide +kernel) (sa_cons (se_rdv 0) sa_nil)) C.nd)
    (ss_cons (ss_set 5 (se_op op_mod vr_mod (se_rdv 2) (se_op oAdd vr_add (se_borB 4 cLen vr_len rfl T.b_len (by decide +kernel)) se_int)) C.nd)
    (ss_cons (ss_if (st_cmp (oEq C.hu) vr_eq (se_rdv 1) se_int) (ss_one (ss_ret (se_op oAdd vr_add (se_sl (se_rdv 4) so_none (so_some (se_rdv 5))) (se_sl (se_rdv 4) (so_some (se_op oAdd vr_add (se_rdv 5) se_int)) so_none)))) ss_nil)
    (ss_cons (ss_if (st_cmp (oEq C.hu) vr_eq (se_rdv 1) se_int) (ss_one (ss_ret (se_op oAdd vr_add (se_op oAdd vr_add (se_sl (se_rdv 4) so_none (so_some (se_rdv 5))) (se_lst (sa_cons (se_rdv 3) sa_nil))) (se_sl (se_rdv 4) (so_some (se_rdv 5)) so_none)))) ss_nil)
    (ss_cons (ss_if (st_w (sw_and (st_cmp (oEq C.hu) vr_eq (se_rdv 1) se_int) (sw_and1 (st_cmp op_lt vr_cI (se_rdv 5) (se_borB 4 cLen vr_len rfl T.b_len (by decide +kernel)))))) (ss_one (ss_put 4 (se_rdv 5) (se_rdv 3))) ss_nil)
    (ss_one (ss_ret (se_mvv 4))))))))
theorem sc__law_judges_agree : FnScope ["moves", "goals", "start", "event", "number", "prices", "way", "reach", "row", "size", "at", "value", "other_prices", "price", "other_way", "other_reach", "starts", "place", "told", "claim", "due"] ["moves", "goals", "start", "event", "number", "prices", "way", "reach", "row"] (defScope s__law_judges_agree) := ⟨rfl, rfl, rfl, by decide +kernel, rfl, by decide +kernel, by decide +kernel⟩
theorem ok__law_judges_agree (T : Txt mg) (hf : IsFn K mg "_law_judges_agree" s__law_judges_agree) (G_shows_way : Def P w K mg base "shows_way" 3 4 [] f_shows_way) (G_shows_hopeless : Def P w K mg base "shows_hopeless" 3 4 [] f_shows_hopeless) (G_shows_prices : Def P w K mg base "shows_prices" 3 6 [] f_shows_prices) (G__law_leads : Def P w K mg base "_law_leads" 1 4 [] f__law_leads) (G__law_prices_are_right : Def P w K mg base "_law_prices_are_right" 1 6 [] f__law_prices_are_right) (G__law_is_hopeless : Def P w K mg base "_law_is_hopeless" 1 4 [] f__law_is_hopeless) (G__law_says : Def P w K mg base "_law_says" 1 2 [] f__law_says) (G__law_changed : Def P w K mg base "_law_changed" 1 4 [] f__law_changed) : Def P w K mg base "_law_judges_agree" 4 9 [] f__law_judges_agree := by
  refine def_ok (k := 3) (body := b__law_judges_agree) hf sc__law_judges_agree (fun _ _ _ _ _ _ us hl => match us, hl with | [_, _, _, _, _, _, _, _, _], _ => rfl) fun f cdv A outer s H E C => ?_
  exact (ss_cons (ss_set 9 (se_borB 0 cLen vr_len rfl T.b_len (by decide +kernel)) C.nd)
    (ss_cons (ss_set 10 (se_ixv 8 se_int) C.nd)
    (ss_cons (ss_set 11 (se_ix (se_lst (sa_cons (se_op op_sub vr_sub (se_ixv 8 se_int) se_int) (sa_cons (se_ixv 8 se_int) (sa_cons (se_op op_mod vr_mod (se_ixv 8 se_int) (se_rdv 9)) (sa_cons (se_op op_pow vr_pow se_int se_int) sa_nil))))) (se_ixv 8 se_int)) C.nd)
    (ss_cons (ss_frz 12 (ss_set 12 (se_call G__law_changed (C.hr.mono (by decide)) C.tk (sga_fz (se_rdv 5) (sga_fz (se_ixv 8 se_int) (sga_fz (se_rdv 10) (sga_fz (se_rdv 11) sga_nil))))) C.nd))
    (ss_cons (ss_if (st_w (sw_and (st_cmp (oEq C.hu) vr_eq (se_ixv 8 se_int) se_int) (sw_and1 (st_cmp op_gt vr_cI (se_rdv 4) se_int)))) (ss_one (ss_frz 12 (ss_setLc 12 (own := [("price", 13)]) C.calm C.nd rfl rfl (sw_true rfl rfl rfl (by decide +kernel)) (si_any (se_rdv 5)) (blkOk_by (by kernel_rfl)) (fun _ _ _ _ _ => (sg_n 13 C.nd)) (fun _ _ _ _ _ => st_yes) (fun _ _ _ _ _ => (se_op op_sub vr_sub (se_rdv 13) se_int))))) ss_nil)
    (ss_cons (ss_frz 14 (ss_set 14 (se_call G__law_changed (C.hr.mono (by decide)) C.tk (sga_fz (se_rdv 6) (sga_fz (se_ixv 8 se_int) (sga_fz (se_rdv 10) (sga_fz (se_tup (sa_cons (se_op op_sub vr_sub (se_op op_mod vr_mod (se_ixv 8 se_int) se_int) se_int) (sa_cons (se_op op_mod vr_mod (se_ixv 8 se_int) (se_rdv 9)) sa_nil))) sga_nil))))) C.nd))
    (ss_cons (ss_frz 15 (ss_set 15 (se_call G__law_changed (C.hr.mono (by decide)) C.tk (sga_fz (se_rdv 7) (sga_fz (se_ixv 8 se_int) (sga_fz (se_rdv 10) (sga_fz (se_ix (se_lst (sa_cons (se_op op_mod vr_mod (se_ixv 8 se_int) (se_rdv 9)) (sa_cons (se_un un_neg vr_neg se_int) (sa_cons (se_rdv 9) (sa_cons (se_op op_mod vr_mod (se_ixv 8 se_int) (se_rdv 9)) sa_nil))))) (se_ixv 8 se_int)) sga_nil))))) C.nd))
    (ss_cons (ss_frz 16 (ss_set 16 (se_lst (sa_cons (se_rdv 2) (sa_cons (se_op op_mod vr_mod (se_ixv 8 se_int) (se_rdv 9)) (sa_cons (se_ix (se_lst (sa_cons (se_un un_neg vr_neg se_int) (sa_cons (se_rdv 9) sa_nil))) (se_op op_mod vr_mod (se_ixv 8 se_int) se_int)) sa_nil)))) C.nd))
    (ss_cons (ss_for (vs := [17]) (ws := [17, 18, 19, 20]) C.hp C.calm (si_any (se_rdv 16)) (sg_n 17 C.nd)
    (ss_cons (ss_for (vs := [18]) (ws := [18, 19, 20]) C.hp C.calm (si_any (se_lst (sa_cons (se_callTy call_list_of vr_list rfl T.b_list (by decide +kernel) (sa_cons (se_rdv 5) sa_nil)) (sa_cons (se_rdv 12) sa_nil)))) (sg_n 18 C.nd)
    (ss_one (ss_for (vs := [19]) (ws := [19, 20]) C.hp C.calm (si_any (se_lst (sa_cons (se_rdv 4) (sa_cons (se_op oAdd vr_add (se_rdv 4) se_int) sa_nil)))) (sg_n 19 C.nd)
    (ss_cons (ss_frz 20 (ss_set 20 (se_call G__law_prices_are_right (C.hr.mono (by decide)) C.tk (sga_fz (se_rdv 0) (sga_fz (se_rdv 1) (sga_fz (se_rdv 17) (sga_fz (se_rdv 3) (sga_fz (se_rdv 19) (sga_fz (se_rdv 18) sga_nil))))))) C.nd))
    (ss_one (ss_if (st_not (st_val (se_call G__law_says (C.hr.mono (by decide)) C.tk (sga_fz (se_call G_shows_prices (C.hr.mono (by decide)) C.tk (sga_fz (se_rdv 0) (sga_fz (se_rdv 1) (sga_fz (se_rdv 17) (sga_fz (se_rdv 3) (sga_fz (se_rdv 19) (sga_fz (se_rdv 18) sga_nil))))))) (sga_fz (se_rdv 20) sga_nil))))) (ss_one (ss_ret se_bl)) ss_nil))))))
    (ss_cons (ss_for (vs := [18]) (ws := [18]) C.hp C.calm (si_any (se_lst (sa_cons (se_callTy call_list_of vr_list rfl T.b_list (by decide +kernel) (sa_cons (se_rdv 6) sa_nil)) (sa_cons (se_rdv 14) sa_nil)))) (sg_n 18 C.nd)
    (ss_one (ss_if (st_not (st_val (se_call G__law_says (C.hr.mono (by decide)) C.tk (sga_fz (se_call G_shows_way (C.hr.mono (by decide)) C.tk (sga_fz (se_rdv 0) (sga_fz (se_rdv 1) (sga_fz (se_rdv 17) (sga_fz (se_rdv 18) sga_nil))))) (sga_fz (se_call G__law_leads (C.hr.mono (by decide)) C.tk (sga_fz (se_rdv 0) (sga_fz (se_rdv 1) (sga_fz (se_rdv 17) (sga_fz (se_rdv 18) sga_nil))))) sga_nil))))) (ss_one (ss_ret se_bl)) ss_nil)))
    (ss_one (ss_for (vs := [18]) (ws := [18]) C.hp C.calm (si_any (se_lst (sa_cons (se_callTy call_list_of vr_list rfl T.b_list (by decide +kernel) (sa_cons (se_rdv 7) sa_nil)) (sa_cons (se_rdv 15) sa_nil)))) (sg_n 18 C.nd)
    (ss_one (ss_if (st_not (st_val (se_call G__law_says (C.hr.mono (by decide)) C.tk (sga_fz (se_call G_shows_hopeless (C.hr.mono (by decide)) C.tk (sga_fz (se_rdv 0) (sga_fz (se_rdv 1) (sga_fz (se_rdv 17) (sga_fz (se_rdv 18) sga_nil))))) (sga_fz (se_call G__law_is_hopeless (C.hr.mono (by decide)) C.tk (sga_fz (se_rdv 0) (sga_fz (se_rdv 1) (sga_fz (se_rdv 17) (sga_fz (se_rdv 18) sga_nil))))) sga_nil))))) (ss_one (ss_ret se_bl)) ss_nil)))))))
    (ss_one (ss_ret se_bl)))))))))))
theorem sc__law_way_is : FnScope ["actual", "due"] ["actual", "due"] (defScope s__law_way_is) := ⟨rfl, rfl, rfl, by decide +kernel, rfl, by decide +kernel, by decide +kernel⟩
theorem ok__law_way_is (T : Txt mg) (hf : IsFn K mg "_law_way_is" s__law_way_is) (G__law_is_way : Def P w K mg base "_law_is_way" 2 1 [] f__law_is_way) : Def P w K mg base "_law_way_is" 3 2 [] f__law_way_is := by
  refine def_ok (k := 2) (body := b__law_way_is) hf sc__law_way_is (fun _ _ _ _ _ _ us hl => match us, hl with | [_, _], _ => rfl) fun f cdv A outer s H E C => ?_
  exact (ss_cons (ss_if (st_cmp oIs vr_is (se_rdv 1) se_non) (ss_one (ss_ret (se_cmp oIs vr_is (se_rdv 0) se_non))) ss_nil)
    (ss_one (ss_ret (se_and (se_call G__law_is_way (C.hr.mono (by decide)) C.tk (sga_fz (se_rdv 0) sga_nil)) (se_one (se_cmp (oEq C.hu) vr_eq (se_callTy call_list_of vr_list rfl T.b_list (by decide +kernel) (sa_cons (se_rdv 0) sa_nil)) (se_rdv 1)))))))
theorem sc__law_musts : FnScope ["moves", "goals", "start", "musts", "event", "reach", "goal"] ["moves", "goals", "start"] (defScope s__law_musts) := ⟨rfl, rfl, rfl, by decide +kernel, rfl, by decide +kernel, by decide +kernel⟩
theorem ok__law_musts (T : Txt mg) (hf : IsFn K mg "_law_musts" s__law_musts) (G__law_reach : Def P w K mg base "_law_reach" 1 3 [] f__law_reach) : Def P w K mg base "_law_musts" 2 3 [] f__law_musts := by
  refine def_ok (k := 1) (body := b__law_musts) hf sc__law_musts (fun _ _ _ _ _ _ us hl => match us, hl with | [_, _, _], _ => rfl) fun f cdv A outer s H E C => ?_
  exact (ss_cons (ss_set 3 (se_lst sa_nil) C.nd)
    (ss_cons (ss_for (vs := [4]) (ws := [4, 5]) C.hp C.calm (si_r1 (se_callB cLen vr_len rfl T.b_len (by decide +kernel) (sa_cons (se_ixv 0 se_int) sa_nil)) rfl T.b_range) (sg_n 4 C.nd)
    (ss_cons (ss_frz 5 (ss_set 5 (se_call G__law_reach (C.hr.mono (by decide)) C.tk (sga_fz (se_rdv 0) (sga_fz (se_lst (sa_cons (se_rdv 2) sa_nil)) (sga_fz (se_rdv 4) sga_nil)))) C.nd))
    (ss_one (ss_if (st_cmp (oEq C.hu) vr_eq (se_callB cLen vr_len rfl T.b_len (by decide +kernel) (sa_cons (se_lc (own := [("goal", 6)]) C.calm C.nd (si_any (se_rdv 1)) (blkOk_by (by kernel_rfl)) (fun _ _ _ _ _ => (sg_n 6 C.nd)) (fun _ _ _ _ _ => (st_one (st_bor2 5 op_in_seq (vr_in false) (se_rdv 6)))) (fun _ _ _ _ _ => (se_rdv 6))) sa_nil)) se_int) (ss_one (ss_app 3 (se_rdv 4))) ss_nil))))
    (ss_one (ss_ret (se_mvv 3)))))
theorem sc__law_ascending : FnScope ["row", "size", "last", "value"] ["row", "size"] (defScope s__law_ascending) := ⟨rfl, rfl, rfl, by decide +kernel, rfl, by decide +kernel, by decide +kernel⟩
theorem ok__law_ascending (T : Txt mg) (hf : IsFn K mg "_law_ascending" s__law_ascending)  : Def P w K mg base "_law_ascending" 1 2 [] f__law_ascending := by
  refine def_ok (k := 0) (body := b__law_ascending) hf sc__law_ascending (fun _ _ _ _ _ _ us hl => match us, hl with | [_, _], _ => rfl) fun f cdv A outer s H E C => ?_
  exact (ss_cons (ss_set 2 (se_un un_neg vr_neg se_int) C.nd)
    (ss_cons (ss_for (vs := [3]) (ws := [3]) C.hp C.calm (si_any (se_rdv 0)) (sg_n 3 C.nd)
    (ss_cons (ss_if (st_not (st_chn op_lt op_lt vr_cI vr_cI (se_rdv 2) (se_rdv 3) (se_rdv 1))) (ss_one (ss_ret se_bl)) ss_nil)
    (ss_one (ss_set 2 (se_rdv 3) C.nd))))
    (ss_one (ss_ret se_bl))))
theorem sc__law_are_moves : FnScope ["moves", "row", "pair"] ["moves"] (defScope s__law_are_moves) := ⟨rfl, rfl, rfl, by decide +kernel, rfl, by decide +kernel, by decide +kernel⟩
theorem ok__law_are_moves (T : Txt mg) (hf : IsFn K mg "_law_are_moves" s__law_are_moves) (G__law_ascending : Def P w K mg base "_law_ascending" 1 2 [] f__law_ascending) : Def P w K mg base "_law_are_moves" 2 1 [] f__law_are_moves := by
  refine def_ok (k := 1) (body := b__law_are_moves) hf sc__law_are_moves (fun _ _ _ _ _ _ us hl => match us, hl with | [_], _ => rfl) fun f cdv A outer s H E C => ?_
  exact (ss_cons (ss_if (st_w (sw_or (st_not (st_chn op_le op_le vr_cI vr_cI se_int (se_borB 0 cLen vr_len rfl T.b_len (by decide +kernel)) se_int)) (sw_or1 (st_cmp op_gt vr_cI (se_callB cLen vr_len rfl T.b_len (by decide +kernel) (sa_cons (se_ixv 0 se_int) sa_nil)) se_int)))) (ss_one (ss_ret se_bl)) ss_nil)
    (ss_cons (ss_for (vs := [1]) (ws := [1]) C.hp C.calm (si_any (se_rdv 0)) (sg_n 1 C.nd)
    (ss_one (ss_if (st_w (sw_or (st_cmp (oNe C.hu) vr_ne (se_borB 1 cLen vr_len rfl T.b_len (by decide +kernel)) (se_callB cLen vr_len rfl T.b_len (by decide +kernel) (sa_cons (se_ixv 0 se_int) sa_nil))) (sw_or1 (st_cmp op_gt vr_cI (se_callB cLen vr_len rfl T.b_len (by decide +kernel) (sa_cons (se_lc (own := [("pair", 2)]) C.calm C.nd (si_any (se_rdv 1)) (blkOk_by (by kernel_rfl)) (fun _ _ _ _ _ => (sg_n 2 C.nd)) (fun _ _ _ _ _ => (st_one (st_not (st_val (se_call G__law_ascending (C.hr.mono (by decide)) takesW0 (sga_fz (se_ixv 2 se_int) (sga_fz (se_borB 0 cLen vr_len rfl T.b_len (by decide +kernel)) sga_nil))))))) (fun _ _ _ _ _ => (se_rdv 2))) sa_nil)) se_int)))) (ss_one (ss_ret se_bl)) ss_nil)))
    (ss_one (ss_ret se_bl))))
theorem sc__law_due : FnScope ["word", "moves", "goals", "start", "event"] ["word", "moves", "goals", "start", "event"] (defScope s__law_due) := ⟨rfl, rfl, rfl, by decide +kernel, rfl, by decide +kernel, by decide +kernel⟩
theorem ok__law_due (T : Txt mg) (hf : IsFn K mg "_law_due" s__law_due) (G__law_ascending : Def P w K mg base "_law_ascending" 1 2 [] f__law_ascending) (G__law_are_moves : Def P w K mg base "_law_are_moves" 2 1 [] f__law_are_moves) : Def P w K mg base "_law_due" 3 5 [] f__law_due := by
  refine def_ok (k := 2) (body := b__law_due) hf sc__law_due (fun _ _ _ _ _ _ us hl => match us, hl with | [_, _, _, _, _], _ => rfl) fun f cdv A outer s H E C => ?_
  exact (ss_cons (ss_if (st_not (st_val (se_call G__law_are_moves (C.hr.mono (by decide)) C.tk (sga_fz (se_rdv 1) sga_nil)))) (ss_one (ss_ret (se_tup (sa_cons se_str (sa_cons se_int sa_nil))))) ss_nil)
    (ss_cons (ss_if (st_w (sw_or (st_not (st_val (se_call G__law_ascending (C.hr.mono (by decide)) C.tk (sga_fz (se_rdv 2) (sga_fz (se_borB 1 cLen vr_len rfl T.b_len (by decide +kernel)) sga_nil))))) (sw_or1 (st_not (st_chn op_le op_lt vr_cI vr_cI se_int (se_rdv 3) (se_borB 1 cLen vr_len rfl T.b_len (by decide +kernel))))))) (ss_one (ss_ret (se_tup (sa_cons se_str (sa_cons se_int sa_nil))))) ss_nil)
    (ss_cons (ss_if (st_w (sw_and (st_cmp (oEq C.hu) vr_eq (se_rdv 0) se_str) (sw_and1 (st_not (st_chn op_le op_lt vr_cI vr_cI se_int (se_rdv 4) (se_callB cLen vr_len rfl T.b_len (by decide +kernel) (sa_cons (se_ixv 1 se_int) sa_nil))))))) (ss_one (ss_ret (se_tup (sa_cons se_str (sa_cons (se_rdv 4) sa_nil))))) ss_nil)
    (ss_one (ss_ret (se_tup (sa_cons se_str (sa_cons se_int sa_nil))))))))
theorem sc__law_refusal : FnScope ["word", "moves", "goals", "start", "event", "graph", "order", "bad"] ["word", "moves", "goals", "start", "event"] (defScope s__law_refusal) := ⟨rfl, rfl, rfl, by decide +kernel, rfl, by decide +kernel, by decide +kernel⟩
theorem ok__law_refusal (T : Txt mg) (hf : IsFn K mg "_law_refusal" s__law_refusal) (G_wish_paper : Def P w K mg base "wish_paper" 6 3 [] f_wish_paper) (G_hope_way : Def P w K mg base "hope_way" 6 3 [] f_hope_way) (G_least_presses : Def P w K mg base "least_presses" 6 4 [] f_least_presses) (G_must_events : Def P w K mg base "must_events" 7 3 [] f_must_events) (EX_BadGraph : ExN K mg "BadGraph" [("BadEvent", false), ("BadOrder", false), ("BadGraph", true)]) (EX_BadOrder : ExN K mg "BadOrder" [("BadEvent", false), ("BadOrder", true), ("BadGraph", false)]) (EX_BadEvent : ExN K mg "BadEvent" [("BadEvent", true), ("BadOrder", false), ("BadGraph", false)]) (FL_index : FldIs K "index" ["BadEvent"]) (IS_BadOrder : IsN K mg "BadOrder" [("BadEvent", false), ("BadOrder", true), ("BadGraph", false)]) (IS_BadEvent : IsN K mg "BadEvent" [("BadEvent", true), ("BadOrder", false), ("BadGraph", false)]) (IS_HouseError : IsN K mg "HouseError" [("BadEvent", true), ("BadOrder", true), ("BadGraph", true)]) : Def P w K mg base "_law_refusal" 8 5 [] f__law_refusal := by
  refine def_ok (k := 7) (body := b__law_refusal) hf sc__law_refusal (fun _ _ _ _ _ _ us hl => match us, hl with | [_, _, _, _, _], _ => rfl) fun f cdv A outer s H E C => ?_
  exact (ss_cons (ss_tryE C rfl rfl rfl (fun W' pn xe C => (ss_one (ss_if (st_cmp (oEq C.hu) vr_eq (se_rdv 0) se_str) (ss_one (ss_drop (se_call G_wish_paper (C.hr.mono (by decide)) C.tk (sga_fz (se_rdv 1) (sga_fz (se_rdv 2) (sga_fz (se_rdv 3) sga_nil)))))) (ss_one (ss_if (st_cmp (oEq C.hu) vr_eq (se_rdv 0) se_str) (ss_one (ss_drop (se_call G_hope_way (C.hr.mono (by decide)) C.tk (sga_fz (se_rdv 1) (sga_fz (se_rdv 2) (sga_fz (se_rdv 3) sga_nil)))))) (ss_one (ss_if (st_cmp (oEq C.hu) vr_eq (se_rdv 0) se_str) (ss_one (ss_drop (se_call G_must_events (C.hr.mono (by decide)) C.tk (sga_fz (se_rdv 1) (sga_fz (se_rdv 2) (sga_fz (se_rdv 3) sga_nil)))))) (ss_one (ss_drop (se_call G_least_presses (C.hr.mono (by decide)) C.tk (sga_fz (se_rdv 1) (sga_fz (se_rdv 2) (sga_fz (se_rdv 3) (sga_fz (se_rdv 4) sga_nil)))))))))))))) (hd_as 5 EX_BadGraph (fun a pn => (have C := C.suite a pn; (ss_one (ss_ret (se_tup (sa_cons se_str (sa_cons (se_callTy call_int1 vr_int rfl T.b_int (by decide +kernel) (sa_cons (se_or (se_isN (se_rdv 5) T.b_isinstance IS_BadOrder) (se_one (se_not (se_isN (se_rdv 5) T.b_isinstance IS_HouseError)))) sa_nil)) sa_nil))))))) (hd_as 6 EX_BadOrder (fun a pn => (have C := C.suite a pn; (ss_one (ss_ret (se_tup (sa_cons se_str (sa_cons (se_callTy call_int1 vr_int rfl T.b_int (by decide +kernel) (sa_cons (se_or (se_isN (se_rdv 6) T.b_isinstance IS_BadEvent) (se_one (se_not (se_isN (se_rdv 6) T.b_isinstance IS_HouseError)))) sa_nil)) sa_nil))))))) (hd_as 7 EX_BadEvent (fun a pn => (have C := C.suite a pn; (ss_one (ss_ret (se_tup (sa_cons se_str (sa_cons (se_fld (se_rdv 7) FL_index) sa_nil))))))) hd_nil))))
    (ss_one (ss_ret (se_tup (sa_cons se_str (sa_cons se_int sa_nil))))))
theorem sc__law_spoilt : FnScope ["moves", "goals", "start", "event", "change", "at", "size", "rows", "row", "pair", "rest", "targets"] ["moves", "goals", "start", "event", "change", "at", "size"] (defScope s__law_spoilt) := ⟨rfl, rfl, rfl, by decide +kernel, rfl, by decide +kernel, by decide +kernel⟩
theorem ok__law_spoilt (T : Txt mg) (hf : IsFn K mg "_law_spoilt" s__law_spoilt)  : Def P w K mg base "_law_spoilt" 1 7 [] f__law_spoilt := by
  refine def_ok (k := 0) (body := b__law_spoilt) hf sc__law_spoilt (fun _ _ _ _ _ _ us hl => match us, hl with | [_, _, _, _, _, _, _], _ => rfl) fun f cdv A outer s H E C => ?_
  exact (ss_cons (ss_setLc 7 (own := [("row", 8)]) C.calm C.nd rfl rfl (sw_true rfl rfl rfl (by decide +kernel)) (si_any (se_rdv 0)) (blkOk_by (by kernel_rfl)) (fun _ _ _ _ _ => (sg_n 8 C.nd)) (fun _ _ _ _ _ => st_yes) (fun _ _ _ _ _ => (se_lc (own := [("pair", 9)]) (by exact C.calm) C.nd (si_any (se_rdv 8)) (blkOk_by (by kernel_rfl)) (fun _ _ _ _ _ => (sg_n 9 C.nd)) (fun _ _ _ _ _ => st_yes) (fun _ _ _ _ _ => (se_tup (sa_cons (se_callTy call_list_of vr_list rfl T.b_list (by decide +kernel) (sa_cons (se_ixv 9 se_int) sa_nil)) (sa_cons (se_ixv 9 se_int) sa_nil)))))))
    (ss_cons (ss_set 10 (se_op op_mod vr_mod (se_rdv 5) (se_borB 7 cLen vr_len rfl T.b_len (by decide +kernel))) C.nd)
    (ss_cons (ss_if (st_cmp (oEq C.hu) vr_eq (se_rdv 4) se_int) (ss_one (ss_set 7 (se_ix (se_lst (sa_cons (se_lst sa_nil) (sa_cons (se_op oAdd vr_add (se_rdv 7) (se_op oMul vr_mul (se_sl (se_rdv 7) so_none (so_some se_int)) (se_op op_sub vr_sub se_int (se_borB 7 cLen vr_len rfl T.b_len (by decide +kernel))))) sa_nil))) (se_op op_mod vr_mod (se_rdv 5) se_int)) C.nd)) (ss_one (ss_if (st_cmp (oEq C.hu) vr_eq (se_rdv 4) se_int) (ss_one (ss_put 7 (se_rdv 10) (se_op oAdd vr_add (se_ixv 7 (se_rdv 10)) (se_lst (sa_cons (se_ix (se_ixv 7 (se_rdv 10)) se_int) sa_nil))))) (ss_one (ss_if (st_cmp (oEq C.hu) vr_eq (se_rdv 4) se_int) (ss_cons (ss_set 11 (se_ix (se_ix (se_ixv 7 (se_rdv 10)) se_int) se_int) C.nd)
    (ss_one (ss_put 7 (se_rdv 10) (se_op oAdd vr_add (se_lst (sa_cons (se_tup (sa_cons (se_op oAdd vr_add (se_rdv 11) (se_lst (sa_cons (se_ix (se_lst (sa_cons (se_rdv 6) (sa_cons (se_un un_neg vr_neg se_int) (sa_cons (se_op op_pow vr_pow se_int se_int) sa_nil)))) (se_op op_mod vr_mod (se_rdv 5) se_int)) sa_nil))) (sa_cons se_bl sa_nil))) sa_nil)) (se_sl (se_ixv 7 (se_rdv 10)) (so_some se_int) so_none))))) (ss_one (ss_if (st_cmp (oEq C.hu) vr_eq (se_rdv 4) se_int) (ss_one (ss_put 7 (se_rdv 10) (se_op oAdd vr_add (se_sl (se_ixv 7 (se_rdv 10)) (so_some se_int) so_none) (se_lst (sa_cons (se_tup (sa_cons (se_lst (sa_cons (se_op op_mod vr_mod (se_rdv 5) (se_rdv 6)) (sa_cons (se_op op_mod vr_mod (se_rdv 5) (se_rdv 6)) sa_nil))) (sa_cons se_bl sa_nil))) sa_nil))))) (ss_one (ss_if (st_cmp (oEq C.hu) vr_eq (se_rdv 4) se_int) (ss_one (ss_set 1 (se_op oAdd vr_add (se_rdv 1) (se_lst (sa_cons (se_ix (se_lst (sa_cons se_int (sa_cons (se_rdv 6) (sa_cons (se_un un_neg vr_neg se_int) (sa_cons (se_op op_pow vr_pow se_int se_int) sa_nil))))) (se_op op_mod vr_mod (se_rdv 5) se_int)) sa_nil))) C.nd)) (ss_one (ss_if (st_cmp (oEq C.hu) vr_eq (se_rdv 4) se_int) (ss_one (ss_set 2 (se_ix (se_lst (sa_cons (se_un un_neg vr_neg se_int) (sa_cons (se_rdv 6) (sa_cons (se_op oAdd vr_add (se_rdv 6) (se_rdv 5)) sa_nil)))) (se_op op_mod vr_mod (se_rdv 5) se_int)) C.nd)) (ss_one (ss_if (st_cmp (oEq C.hu) vr_eq (se_rdv 4) se_int) (ss_one (ss_set 3 (se_ix (se_lst (sa_cons (se_un un_neg vr_neg se_int) (sa_cons (se_callB cLen vr_len rfl T.b_len (by decide +kernel) (sa_cons (se_ixv 7 (se_rdv 10)) sa_nil)) (sa_cons (se_op op_pow vr_pow se_int se_int) sa_nil)))) (se_op op_mod vr_mod (se_rdv 5) se_int)) C.nd)) ss_nil)))))))))))))
    (ss_one (ss_ret (se_lst (sa_cons (se_rdv 7) (sa_cons (se_rdv 1) (sa_cons (se_rdv 2) (sa_cons (se_rdv 3) sa_nil))))))))))
theorem sc__law_refuses : FnScope ["moves", "goals", "start", "event", "row", "size", "told", "word", "due"] ["moves", "goals", "start", "event", "row"] (defScope s__law_refuses) := ⟨rfl, rfl, rfl, by decide +kernel, rfl, by decide +kernel, by decide +kernel⟩
theorem ok__law_refuses (T : Txt mg) (hf : IsFn K mg "_law_refuses" s__law_refuses) (G_is_moves : Def P w K mg base "is_moves" 4 1 [] f_is_moves) (G__law_says : Def P w K mg base "_law_says" 1 2 [] f__law_says) (G__law_are_moves : Def P w K mg base "_law_are_moves" 2 1 [] f__law_are_moves) (G__law_due : Def P w K mg base "_law_due" 3 5 [] f__law_due) (G__law_refusal : Def P w K mg base "_law_refusal" 8 5 [] f__law_refusal) (G__law_spoilt : Def P w K mg base "_law_spoilt" 1 7 [] f__law_spoilt) : Def P w K mg base "_law_refuses" 9 5 [] f__law_refuses := by
  refine def_ok (k := 8) (body := b__law_refuses) hf sc__law_refuses (fun _ _ _ _ _ _ us hl => match us, hl with | [_, _, _, _, _], _ => rfl) fun f cdv A outer s H E C => ?_
  exact (ss_cons (ss_set 5 (se_borB 0 cLen vr_len rfl T.b_len (by decide +kernel)) C.nd)
    (ss_cons (ss_frz 6 (ss_set 6 (se_call G__law_spoilt (C.hr.mono (by decide)) C.tk (sga_fz (se_rdv 0) (sga_fz (se_rdv 1) (sga_fz (se_rdv 2) (sga_fz (se_rdv 3) (sga_fz (se_ixv 4 se_int) (sga_fz (se_ixv 4 se_int) (sga_fz (se_rdv 5) sga_nil)))))))) C.nd))
    (ss_cons (ss_if (st_w (sw_and (st_cmp op_lt vr_cI (se_ixv 4 se_int) se_int) (sw_and (st_cmp op_gt vr_cI (se_callB cLen vr_len rfl T.b_len (by decide +kernel) (sa_cons (se_ixv 6 se_int) sa_nil)) se_int) (sw_and1 (st_cmp op_gt vr_cI (se_callB cLen vr_len rfl T.b_len (by decide +kernel) (sa_cons (se_ix (se_ixv 6 se_int) se_int) sa_nil)) se_int))))) (ss_one (ss_frz 6 (ss_set 6 (se_call G__law_spoilt (C.hr.mono (by decide)) C.tk (sga_fz (se_ixv 6 se_int) (sga_fz (se_ixv 6 se_int) (sga_fz (se_ixv 6 se_int) (sga_fz (se_ixv 6 se_int) (sga_fz (se_ixv 4 se_int) (sga_fz (se_ixv 4 se_int) (sga_fz (se_rdv 5) sga_nil)))))))) C.nd))) ss_nil)
    (ss_cons (ss_if (st_not (st_val (se_call G__law_says (C.hr.mono (by decide)) C.tk (sga_fz (se_call G_is_moves (C.hr.mono (by decide)) C.tk (sga_fz (se_ixv 6 se_int) sga_nil)) (sga_fz (se_call G__law_are_moves (C.hr.mono (by decide)) C.tk (sga_fz (se_ixv 6 se_int) sga_nil)) sga_nil))))) (ss_one (ss_ret se_bl)) ss_nil)
    (ss_cons (ss_for (vs := [7]) (ws := [7, 8]) C.hp C.calm (si_any (se_lst (sa_cons se_str (sa_cons se_str (sa_cons se_str (sa_cons se_str sa_nil)))))) (sg_n 7 C.nd)
    (ss_cons (ss_frz 8 (ss_set 8 (se_call G__law_due (C.hr.mono (by decide)) C.tk (sga_fz (se_rdv 7) (sga_fz (se_ixv 6 se_int) (sga_fz (se_ixv 6 se_int) (sga_fz (se_ixv 6 se_int) (sga_fz (se_ixv 6 se_int) sga_nil)))))) C.nd))
    (ss_one (ss_if (st_cmp (oNe C.hu) vr_ne (se_call G__law_refusal (C.hr.mono (by decide)) C.tk (sga_fz (se_rdv 7) (sga_fz (se_ixv 6 se_int) (sga_fz (se_callTy call_list_of vr_list rfl T.b_list (by decide +kernel) (sa_cons (se_ixv 6 se_int) sa_nil)) (sga_fz (se_ixv 6 se_int) (sga_fz (se_ixv 6 se_int) sga_nil)))))) (se_rdv 8)) (ss_one (ss_ret se_bl)) ss_nil))))
    (ss_one (ss_ret se_bl)))))))
theorem sc__law_never_is : FnScope ["actual", "reach", "musts"] ["actual", "reach", "musts"] (defScope s__law_never_is) := ⟨rfl, rfl, rfl, by decide +kernel, rfl, by decide +kernel, by decide +kernel⟩
theorem ok__law_never_is (T : Txt mg) (hf : IsFn K mg "_law_never_is" s__law_never_is) (G__law_is_row : Def P w K mg base "_law_is_row" 2 2 [] f__law_is_row) : Def P w K mg base "_law_never_is" 3 3 [] f__law_never_is := by
  refine def_ok (k := 2) (body := b__law_never_is) hf sc__law_never_is (fun _ _ _ _ _ _ us hl => match us, hl with | [_, _, _], _ => rfl) fun f cdv A outer s H E C => ?_
  exact (ss_cons (ss_if (st_w (sw_or (st_cmp (oNe C.hu) vr_ne (se_ixv 0 se_int) se_str) (sw_or (st_cmp (oNe C.hu) vr_ne (se_borB 0 cLen vr_len rfl T.b_len (by decide +kernel)) se_int) (sw_or1 (st_cmp oIsn vr_isn (se_rdv 2) se_non))))) (ss_one (ss_ret se_bl)) ss_nil)
    (ss_one (ss_ret (se_call G__law_is_row (C.hr.mono (by decide)) C.tk (sga_fz (se_ixv 0 se_int) (sga_fz (se_rdv 1) sga_nil))))))
theorem sc__law_least_is : FnScope ["actual", "moves", "goals", "start", "event", "number", "prices", "pair"] ["actual", "moves", "goals", "start", "event", "number", "prices"] (defScope s__law_least_is) := ⟨rfl, rfl, rfl, by decide +kernel, rfl, by decide +kernel, by decide +kernel⟩
theorem ok__law_least_is (T : Txt mg) (hf : IsFn K mg "_law_least_is" s__law_least_is) (G__law_is_integer : Def P w K mg base "_law_is_integer" 1 1 [] f__law_is_integer) (G__law_is_row : Def P w K mg base "_law_is_row" 2 2 [] f__law_is_row) (G__law_is_way : Def P w K mg base "_law_is_way" 2 1 [] f__law_is_way) (G__law_leads : Def P w K mg base "_law_leads" 1 4 [] f__law_leads) : Def P w K mg base "_law_least_is" 3 7 [] f__law_least_is := by
  refine def_ok (k := 2) (body := b__law_least_is) hf sc__law_least_is (fun _ _ _ _ _ _ us hl => match us, hl with | [_, _, _, _, _, _, _], _ => rfl) fun f cdv A outer s H E C => ?_
  exact (ss_cons (ss_if (st_w (sw_or (st_cmp (oNe C.hu) vr_ne (se_ixv 0 se_int) se_str) (sw_or (st_cmp (oNe C.hu) vr_ne (se_borB 0 cLen vr_len rfl T.b_len (by decide +kernel)) se_int) (sw_or (st_not (st_val (se_call G__law_is_integer (C.hr.mono (by decide)) C.tk (sga_fz (se_ixv 0 se_int) sga_nil)))) (sw_or1 (st_cmp (oNe C.hu) vr_ne (se_ixv 0 se_int) (se_rdv 5))))))) (ss_one (ss_ret se_bl)) ss_nil)
    (ss_cons (ss_if (st_w (sw_or (st_not (st_val (se_call G__law_is_way (C.hr.mono (by decide)) C.tk (sga_fz (se_ixv 0 se_int) sga_nil)))) (sw_or1 (st_not (st_val (se_call G__law_leads (C.hr.mono (by decide)) C.tk (sga_fz (se_rdv 1) (sga_fz (se_rdv 2) (sga_fz (se_rdv 3) (sga_fz (se_ixv 0 se_int) sga_nil)))))))))) (ss_one (ss_ret se_bl)) ss_nil)
    (ss_one (ss_ret (se_and (se_cmp (oEq C.hu) vr_eq (se_callB cLen vr_len rfl T.b_len (by decide +kernel) (sa_cons (se_lc (own := [("pair", 7)]) C.calm C.nd (si_any (se_ixv 0 se_int)) (blkOk_by (by kernel_rfl)) (fun _ _ _ _ _ => (sg_n 7 C.nd)) (fun _ _ _ _ _ => (st_one (st_cmp (oEq (by exact C.hu)) vr_eq (se_ixv 7 se_int) (se_rdv 4)))) (fun _ _ _ _ _ => (se_rdv 7))) sa_nil)) (se_rdv 5)) (se_one (se_call G__law_is_row (C.hr.mono (by decide)) C.tk (sga_fz (se_ixv 0 se_int) (sga_fz (se_rdv 6) sga_nil)))))))))
theorem sc_law : FnScope ["script", "shape", "size", "many", "moves", "keys", "k", "line", "pair", "marks", "start", "key", "goals", "event", "handed", "given", "found", "reach", "rest", "near", "goal", "actual", "musts", "number", "prices", "way"] ["script"] (defScope s_law) := ⟨rfl, rfl, rfl, by decide +kernel, rfl, by decide +kernel, by decide +kernel⟩
end
/-- what the top has written -/
structure Facts (P : Program) (K : PySem.W.Frag) (mg : Mg) : Prop where
  T : Txt mg
  h_is_integer : IsFn K mg "is_integer" s_is_integer
  h_is_place : IsFn K mg "is_place" s_is_place
  h_are_places : IsFn K mg "are_places" s_are_places
  h_is_moves : IsFn K mg "is_moves" s_is_moves
  h_demand_question : IsFn K mg "demand_question" s_demand_question
  h_forcing_event : IsFn K mg "forcing_event" s_forcing_event
  h_forced_plan : IsFn K mg "forced_plan" s_forced_plan
  h_wish_paper : IsFn K mg "wish_paper" s_wish_paper
  h_hope_way : IsFn K mg "hope_way" s_hope_way
  h_shows_way : IsFn K mg "shows_way" s_shows_way
  h_shows_hopeless : IsFn K mg "shows_hopeless" s_shows_hopeless
  h_moves_by_others : IsFn K mg "moves_by_others" s_moves_by_others
  h_press_origins : IsFn K mg "press_origins" s_press_origins
  h_way_to : IsFn K mg "way_to" s_way_to
  h_best_goal : IsFn K mg "best_goal" s_best_goal
  h_press_prices : IsFn K mg "press_prices" s_press_prices
  h_least_presses : IsFn K mg "least_presses" s_least_presses
  h_row_keeps_prices : IsFn K mg "row_keeps_prices" s_row_keeps_prices
  h_shows_prices : IsFn K mg "shows_prices" s_shows_prices
  h_must_events : IsFn K mg "must_events" s_must_events
  h__law_cell : IsFn K mg "_law_cell" s__law_cell
  h__law_row : IsFn K mg "_law_row" s__law_row
  h__law_targets : IsFn K mg "_law_targets" s__law_targets
  h__law_moves : IsFn K mg "_law_moves" s__law_moves
  h__law_lined : IsFn K mg "_law_lined" s__law_lined
  h__law_copied : IsFn K mg "_law_copied" s__law_copied
  h__law_reach : IsFn K mg "_law_reach" s__law_reach
  h__law_presses : IsFn K mg "_law_presses" s__law_presses
  h__law_best_way : IsFn K mg "_law_best_way" s__law_best_way
  h__law_is_integer : IsFn K mg "_law_is_integer" s__law_is_integer
  h__law_is_row : IsFn K mg "_law_is_row" s__law_is_row
  h__law_is_way : IsFn K mg "_law_is_way" s__law_is_way
  h__law_leads : IsFn K mg "_law_leads" s__law_leads
  h__law_prices_are_right : IsFn K mg "_law_prices_are_right" s__law_prices_are_right
  h__law_is_hopeless : IsFn K mg "_law_is_hopeless" s__law_is_hopeless
  h__law_says : IsFn K mg "_law_says" s__law_says
  h__law_changed : IsFn K mg "_law_changed" s__law_changed
  h__law_judges_agree : IsFn K mg "_law_judges_agree" s__law_judges_agree
  h__law_way_is : IsFn K mg "_law_way_is" s__law_way_is
  h__law_musts : IsFn K mg "_law_musts" s__law_musts
  h__law_ascending : IsFn K mg "_law_ascending" s__law_ascending
  h__law_are_moves : IsFn K mg "_law_are_moves" s__law_are_moves
  h__law_due : IsFn K mg "_law_due" s__law_due
  h__law_refusal : IsFn K mg "_law_refusal" s__law_refusal
  h__law_spoilt : IsFn K mg "_law_spoilt" s__law_spoilt
  h__law_refuses : IsFn K mg "_law_refuses" s__law_refuses
  h__law_never_is : IsFn K mg "_law_never_is" s__law_never_is
  h__law_least_is : IsFn K mg "_law_least_is" s__law_least_is
  h_law : IsFn K mg "law" s_law
  R_BadGraph : XRaise K mg "BadGraph"
  R_BadOrder : XRaise K mg "BadOrder"
  RF_BadEvent : XRaiseF P K mg "BadEvent" "index"
  EX_BadGraph : ExN K mg "BadGraph" [("BadEvent", false), ("BadOrder", false), ("BadGraph", true)]
  EX_BadOrder : ExN K mg "BadOrder" [("BadEvent", false), ("BadOrder", true), ("BadGraph", false)]
  EX_BadEvent : ExN K mg "BadEvent" [("BadEvent", true), ("BadOrder", false), ("BadGraph", false)]
  FL_index : FldIs K "index" ["BadEvent"]
  IS_BadOrder : IsN K mg "BadOrder" [("BadEvent", false), ("BadOrder", true), ("BadGraph", false)]
  IS_BadEvent : IsN K mg "BadEvent" [("BadEvent", true), ("BadOrder", false), ("BadGraph", false)]
  IS_HouseError : IsN K mg "HouseError" [("BadEvent", true), ("BadOrder", true), ("BadGraph", true)]
section
variable {P : Program} {w : World} {K : PySem.W.Frag} {mg : Mg} {base : Heap}
theorem g_is_integer (Fa : Facts P K mg) : Def P w K mg base "is_integer" 1 1 [] f_is_integer := ok_is_integer Fa.T Fa.h_is_integer 
theorem g_is_place (Fa : Facts P K mg) : Def P w K mg base "is_place" 2 2 [] f_is_place := ok_is_place Fa.T Fa.h_is_place (g_is_integer Fa)
theorem g_are_places (Fa : Facts P K mg) : Def P w K mg base "are_places" 3 2 [] f_are_places := ok_are_places Fa.T Fa.h_are_places (g_is_place Fa)
theorem g_is_moves (Fa : Facts P K mg) : Def P w K mg base "is_moves" 4 1 [] f_is_moves := ok_is_moves Fa.T Fa.h_is_moves (g_are_places Fa)
theorem g_demand_question (Fa : Facts P K mg) : Def P w K mg base "demand_question" 5 3 [] f_demand_question := ok_demand_question Fa.T Fa.h_demand_question (g_is_place Fa) (g_are_places Fa) (g_is_moves Fa) Fa.R_BadGraph Fa.R_BadOrder
theorem g_forcing_event (Fa : Facts P K mg) : Def P w K mg base "forcing_event" 1 2 [] f_forcing_event := ok_forcing_event Fa.T Fa.h_forcing_event 
theorem g_forced_plan (Fa : Facts P K mg) : Def P w K mg base "forced_plan" 2 2 [] f_forced_plan := ok_forced_plan Fa.T Fa.h_forced_plan (g_forcing_event Fa)
theorem g_wish_paper (Fa : Facts P K mg) : Def P w K mg base "wish_paper" 6 3 [] f_wish_paper := ok_wish_paper Fa.T Fa.h_wish_paper (g_demand_question Fa) (g_forced_plan Fa)
theorem g_hope_way (Fa : Facts P K mg) : Def P w K mg base "hope_way" 6 3 [] f_hope_way := ok_hope_way Fa.T Fa.h_hope_way (g_demand_question Fa)
theorem g_shows_way (Fa : Facts P K mg) : Def P w K mg base "shows_way" 3 4 [] f_shows_way := ok_shows_way Fa.T Fa.h_shows_way (g_is_place Fa)
theorem g_shows_hopeless (Fa : Facts P K mg) : Def P w K mg base "shows_hopeless" 3 4 [] f_shows_hopeless := ok_shows_hopeless Fa.T Fa.h_shows_hopeless (g_is_place Fa)
theorem g_moves_by_others (Fa : Facts P K mg) : DefO P w K mg base "moves_by_others" 1 5 [2, 3] [] f_moves_by_others := ok_moves_by_others Fa.T Fa.h_moves_by_others 
theorem g_press_origins (Fa : Facts P K mg) : Def P w K mg base "press_origins" 2 3 [] f_press_origins := ok_press_origins Fa.T Fa.h_press_origins (g_moves_by_others Fa)
theorem g_way_to (Fa : Facts P K mg) : Def P w K mg base "way_to" 1 2 [] f_way_to := ok_way_to Fa.T Fa.h_way_to 
theorem g_best_goal (Fa : Facts P K mg) : Def P w K mg base "best_goal" 1 2 [] f_best_goal := ok_best_goal Fa.T Fa.h_best_goal 
theorem g_press_prices (Fa : Facts P K mg) : Def P w K mg base "press_prices" 1 3 [] f_press_prices := ok_press_prices Fa.T Fa.h_press_prices 
theorem g_least_presses (Fa : Facts P K mg) : Def P w K mg base "least_presses" 6 4 [] f_least_presses := ok_least_presses Fa.T Fa.h_least_presses (g_is_place Fa) (g_demand_question Fa) (g_press_origins Fa) (g_way_to Fa) (g_best_goal Fa) (g_press_prices Fa) Fa.RF_BadEvent
theorem g_row_keeps_prices (Fa : Facts P K mg) : Def P w K mg base "row_keeps_prices" 1 4 [] f_row_keeps_prices := ok_row_keeps_prices Fa.T Fa.h_row_keeps_prices 
theorem g_shows_prices (Fa : Facts P K mg) : Def P w K mg base "shows_prices" 3 6 [] f_shows_prices := ok_shows_prices Fa.T Fa.h_shows_prices (g_is_place Fa) (g_row_keeps_prices Fa)
theorem g_must_events (Fa : Facts P K mg) : Def P w K mg base "must_events" 7 3 [] f_must_events := ok_must_events Fa.T Fa.h_must_events (g_demand_question Fa) (g_press_origins Fa) (g_best_goal Fa) (g_least_presses Fa)
theorem g__law_cell (Fa : Facts P K mg) : Def P w K mg base "_law_cell" 1 2 [] f__law_cell := ok__law_cell Fa.T Fa.h__law_cell 
theorem g__law_row (Fa : Facts P K mg) : Def P w K mg base "_law_row" 1 2 [] f__law_row := ok__law_row Fa.T Fa.h__law_row 
theorem g__law_targets (Fa : Facts P K mg) : Def P w K mg base "_law_targets" 1 2 [] f__law_targets := ok__law_targets Fa.T Fa.h__law_targets 
theorem g__law_moves (Fa : Facts P K mg) : Def P w K mg base "_law_moves" 2 3 [] f__law_moves := ok__law_moves Fa.T Fa.h__law_moves (g__law_cell Fa) (g__law_row Fa) (g__law_targets Fa)
theorem g__law_lined (Fa : Facts P K mg) : Def P w K mg base "_law_lined" 1 3 [] f__law_lined := ok__law_lined Fa.T Fa.h__law_lined 
theorem g__law_copied (Fa : Facts P K mg) : Def P w K mg base "_law_copied" 1 2 [] f__law_copied := ok__law_copied Fa.T Fa.h__law_copied 
theorem g__law_reach (Fa : Facts P K mg) : Def P w K mg base "_law_reach" 1 3 [] f__law_reach := ok__law_reach Fa.T Fa.h__law_reach 
theorem g__law_presses (Fa : Facts P K mg) : Def P w K mg base "_law_presses" 1 3 [] f__law_presses := ok__law_presses Fa.T Fa.h__law_presses 
theorem g__law_best_way (Fa : Facts P K mg) : Def P w K mg base "_law_best_way" 1 3 [] f__law_best_way := ok__law_best_way Fa.T Fa.h__law_best_way 
theorem g__law_is_integer (Fa : Facts P K mg) : Def P w K mg base "_law_is_integer" 1 1 [] f__law_is_integer := ok__law_is_integer Fa.T Fa.h__law_is_integer 
theorem g__law_is_row (Fa : Facts P K mg) : Def P w K mg base "_law_is_row" 2 2 [] f__law_is_row := ok__law_is_row Fa.T Fa.h__law_is_row (g__law_is_integer Fa)
theorem g__law_is_way (Fa : Facts P K mg) : Def P w K mg base "_law_is_way" 2 1 [] f__law_is_way := ok__law_is_way Fa.T Fa.h__law_is_way (g__law_is_integer Fa)
theorem g__law_leads (Fa : Facts P K mg) : Def P w K mg base "_law_leads" 1 4 [] f__law_leads := ok__law_leads Fa.T Fa.h__law_leads 
theorem g__law_prices_are_right (Fa : Facts P K mg) : Def P w K mg base "_law_prices_are_right" 1 6 [] f__law_prices_are_right := ok__law_prices_are_right Fa.T Fa.h__law_prices_are_right 
theorem g__law_is_hopeless (Fa : Facts P K mg) : Def P w K mg base "_law_is_hopeless" 1 4 [] f__law_is_hopeless := ok__law_is_hopeless Fa.T Fa.h__law_is_hopeless 
theorem g__law_says (Fa : Facts P K mg) : Def P w K mg base "_law_says" 1 2 [] f__law_says := ok__law_says Fa.T Fa.h__law_says 
theorem g__law_changed (Fa : Facts P K mg) : Def P w K mg base "_law_changed" 1 4 [] f__law_changed := ok__law_changed Fa.T Fa.h__law_changed 
theorem g__law_judges_agree (Fa : Facts P K mg) : Def P w K mg base "_law_judges_agree" 4 9 [] f__law_judges_agree := ok__law_judges_agree Fa.T Fa.h__law_judges_agree (g_shows_way Fa) (g_shows_hopeless Fa) (g_shows_prices Fa) (g__law_leads Fa) (g__law_prices_are_right Fa) (g__law_is_hopeless Fa) (g__law_says Fa) (g__law_changed Fa)
theorem g__law_way_is (Fa : Facts P K mg) : Def P w K mg base "_law_way_is" 3 2 [] f__law_way_is := ok__law_way_is Fa.T Fa.h__law_way_is (g__law_is_way Fa)
theorem g__law_musts (Fa : Facts P K mg) : Def P w K mg base "_law_musts" 2 3 [] f__law_musts := ok__law_musts Fa.T Fa.h__law_musts (g__law_reach Fa)
theorem g__law_ascending (Fa : Facts P K mg) : Def P w K mg base "_law_ascending" 1 2 [] f__law_ascending := ok__law_ascending Fa.T Fa.h__law_ascending 
theorem g__law_are_moves (Fa : Facts P K mg) : Def P w K mg base "_law_are_moves" 2 1 [] f__law_are_moves := ok__law_are_moves Fa.T Fa.h__law_are_moves (g__law_ascending Fa)
theorem g__law_due (Fa : Facts P K mg) : Def P w K mg base "_law_due" 3 5 [] f__law_due := ok__law_due Fa.T Fa.h__law_due (g__law_ascending Fa) (g__law_are_moves Fa)
theorem g__law_refusal (Fa : Facts P K mg) : Def P w K mg base "_law_refusal" 8 5 [] f__law_refusal := ok__law_refusal Fa.T Fa.h__law_refusal (g_wish_paper Fa) (g_hope_way Fa) (g_least_presses Fa) (g_must_events Fa) Fa.EX_BadGraph Fa.EX_BadOrder Fa.EX_BadEvent Fa.FL_index Fa.IS_BadOrder Fa.IS_BadEvent Fa.IS_HouseError
theorem g__law_spoilt (Fa : Facts P K mg) : Def P w K mg base "_law_spoilt" 1 7 [] f__law_spoilt := ok__law_spoilt Fa.T Fa.h__law_spoilt 
theorem g__law_refuses (Fa : Facts P K mg) : Def P w K mg base "_law_refuses" 9 5 [] f__law_refuses := ok__law_refuses Fa.T Fa.h__law_refuses (g_is_moves Fa) (g__law_says Fa) (g__law_are_moves Fa) (g__law_due Fa) (g__law_refusal Fa) (g__law_spoilt Fa)
theorem g__law_never_is (Fa : Facts P K mg) : Def P w K mg base "_law_never_is" 3 3 [] f__law_never_is := ok__law_never_is Fa.T Fa.h__law_never_is (g__law_is_row Fa)
theorem g__law_least_is (Fa : Facts P K mg) : Def P w K mg base "_law_least_is" 3 7 [] f__law_least_is := ok__law_least_is Fa.T Fa.h__law_least_is (g__law_is_integer Fa) (g__law_is_row Fa) (g__law_is_way Fa) (g__law_leads Fa)
theorem law_fn (Fa : Facts P K mg) {fa : Addr} (hfa : mg "law" = some (.ref fa)) : ∃ fd : FuncData, (∀ (s : Shared) (u : Value), BindsTo s fd ⟨[u], []⟩ [("script", u)]) ∧ ∀ base : Heap, True → FnOk P w K mg base (L2.CX P w) 10 fa fd ["script"] (spF K mg 1 f_law) := by
  have T := Fa.T
  have hb : ∀ (base : Heap), True → ∀ (f : Addr) (cdv : Value) (A : Around) (outer : List Env) (s : Shared) (H : Hp) (E : XK), Cg (cxD P w K mg base ["script", "shape", "size", "many", "moves", "keys", "k", "line", "pair", "marks", "start", "key", "goals", "event", "handed", "given", "found", "reach", "rest", "near", "goal", "actual", "musts", "number", "prices", "way"] "law" s_law f cdv A outer s H E) (wxD E) 9 → SSs (cxD P w K mg base ["script", "shape", "size", "many", "moves", "keys", "k", "line", "pair", "marks", "start", "key", "goals", "event", "handed", "given", "found", "reach", "rest", "near", "goal", "actual", "musts", "number", "prices", "way"] "law" s_law f cdv A outer s H E) (wxD E) (defBody s_law) b_law := by
    intro base _ f cdv A outer s H E C
    have G_hope_way : Def P w K mg base "hope_way" 6 3 [] f_hope_way := g_hope_way Fa
    have G_least_presses : Def P w K mg base "least_presses" 6 4 [] f_least_presses := g_least_presses Fa
    have G_must_events : Def P w K mg base "must_events" 7 3 [] f_must_events := g_must_events Fa
    have G__law_cell : Def P w K mg base "_law_cell" 1 2 [] f__law_cell := g__law_cell Fa
    have G__law_row : Def P w K mg base "_law_row" 1 2 [] f__law_row := g__law_row Fa
    have G__law_moves : Def P w K mg base "_law_moves" 2 3 [] f__law_moves := g__law_moves Fa
    have G__law_lined : Def P w K mg base "_law_lined" 1 3 [] f__law_lined := g__law_lined Fa
    have G__law_copied : Def P w K mg base "_law_copied" 1 2 [] f__law_copied := g__law_copied Fa
    have G__law_presses : Def P w K mg base "_law_presses" 1 3 [] f__law_presses := g__law_presses Fa
    have G__law_best_way : Def P w K mg base "_law_best_way" 1 3 [] f__law_best_way := g__law_best_way Fa
    have G__law_is_row : Def P w K mg base "_law_is_row" 2 2 [] f__law_is_row := g__law_is_row Fa
    have G__law_judges_agree : Def P w K mg base "_law_judges_agree" 4 9 [] f__law_judges_agree := g__law_judges_agree Fa
    have G__law_way_is : Def P w K mg base "_law_way_is" 3 2 [] f__law_way_is := g__law_way_is Fa
    have G__law_musts : Def P w K mg base "_law_musts" 2 3 [] f__law_musts := g__law_musts Fa
    have G__law_refuses : Def P w K mg base "_law_refuses" 9 5 [] f__law_refuses := g__law_refuses Fa
    have G__law_never_is : Def P w K mg base "_law_never_is" 3 3 [] f__law_never_is := g__law_never_is Fa
    have G__law_least_is : Def P w K mg base "_law_least_is" 3 7 [] f__law_least_is := g__law_least_is Fa
    exact (ss_cons (ss_frz 1 (ss_set 1 (se_call G__law_row (C.hr.mono (by decide)) C.tk (sga_fz (se_call G__law_cell (C.hr.mono (by decide)) C.tk (sga_fz (se_rdv 0) (sga_fz se_int sga_nil))) (sga_fz (se_op oAdd vr_add (se_op oAdd vr_add (se_lst (sa_cons se_int (sa_cons se_int (sa_cons se_int (sa_cons se_int (sa_cons se_int (sa_cons se_int (sa_cons se_int (sa_cons se_int (sa_cons se_int sa_nil)))))))))) (se_lst (sa_cons se_int (sa_cons se_int (sa_cons se_int (sa_cons se_int (sa_cons se_int sa_nil))))))) (se_lst (sa_cons se_int (sa_cons se_int (sa_cons se_int (sa_cons se_int sa_nil)))))) sga_nil))) C.nd))
        (ss_cons (ss_set 2 (se_op oAdd vr_add se_int (se_ixv 1 se_int)) C.nd)
        (ss_cons (ss_set 3 (se_op oAdd vr_add se_int (se_ixv 1 se_int)) C.nd)
        (ss_cons (ss_if (st_cmp (oEq C.hu) vr_eq (se_ixv 1 se_int) se_int) (ss_cons (ss_set 2 (se_op oAdd vr_add se_int (se_ixv 1 se_int)) C.nd)
        (ss_one (ss_set 3 (se_op oAdd vr_add se_int (se_op op_mod vr_mod (se_ixv 1 se_int) se_int)) C.nd))) ss_nil)
        (ss_cons (ss_set 4 (se_call G__law_moves (C.hr.mono (by decide)) C.tk (sga_fz (se_rdv 0) (sga_fz (se_rdv 2) (sga_fz (se_rdv 3) sga_nil)))) C.nd)
        (ss_cons (ss_frz 5 (ss_set 5 (se_call G__law_row (C.hr.mono (by decide)) C.tk (sga_fz (se_call G__law_cell (C.hr.mono (by decide)) C.tk (sga_fz (se_rdv 0) (sga_fz se_int sga_nil))) (sga_fz (se_lc (own := [("k", 6)]) C.calm C.nd (si_r1 (se_rdv 2) rfl T.b_range) (blkOk_by (by kernel_rfl)) (fun _ _ _ _ _ => (sg_n 6 C.nd)) (fun _ _ _ _ _ => st_yes) (fun _ _ _ _ _ => se_int)) sga_nil))) C.nd))
        (ss_cons (ss_frz 7 (ss_set 7 (se_lc (own := [("pair", 8)]) C.calm C.nd (si_any (se_callB (cSorted2 C.calm) vr_sorted2 rfl T.b_sorted (by decide +kernel) (sa_cons (se_lc (own := [("k", 6)]) C.calm C.nd (si_r1 (se_rdv 2) rfl T.b_range) (blkOk_by (by kernel_rfl)) (fun _ _ _ _ _ => (sg_n 6 C.nd)) (fun _ _ _ _ _ => st_yes) (fun _ _ _ _ _ => (se_tup (sa_cons (se_op op_fdivW vr_fdiv (se_ixv 5 (se_rdv 6)) se_int) (sa_cons (se_rdv 6) sa_nil))))) sa_nil))) (blkOk_by (by kernel_rfl)) (fun _ _ _ _ _ => (sg_n 8 C.nd)) (fun _ _ _ _ _ => st_yes) (fun _ _ _ _ _ => (se_ixv 8 se_int))) C.nd))
        (ss_cons (ss_frz 9 (ss_set 9 (se_call G__law_row (C.hr.mono (by decide)) C.tk (sga_fz (se_call G__law_cell (C.hr.mono (by decide)) C.tk (sga_fz (se_rdv 0) (sga_fz se_int sga_nil))) (sga_fz (se_lc (own := [("k", 6)]) C.calm C.nd (si_r1 (se_rdv 2) rfl T.b_range) (blkOk_by (by kernel_rfl)) (fun _ _ _ _ _ => (sg_n 6 C.nd)) (fun _ _ _ _ _ => st_yes) (fun _ _ _ _ _ => (se_ix (se_lst (sa_cons se_int (sa_cons se_int (sa_cons se_int sa_nil)))) (se_ixv 1 se_int)))) sga_nil))) C.nd))
        (ss_cons (ss_set 10 (se_op op_mod vr_mod (se_ixv 1 se_int) (se_rdv 2)) C.nd)
        (ss_cons (ss_if (st_cmp (oEq C.hu) vr_eq (se_ixv 1 se_int) se_int) (ss_cons (ss_set 4 (se_call G__law_lined (C.hr.mono (by decide)) C.tk (sga_mv (se_mvv 4) (sga_fz (se_rdv 7) (sga_fz (se_lc (own := [("key", 11)]) C.calm C.nd (si_any (se_rdv 5)) (blkOk_by (by kernel_rfl)) (fun _ _ _ _ _ => (sg_n 11 C.nd)) (fun _ _ _ _ _ => st_yes) (fun _ _ _ _ _ => (se_op op_mod vr_mod (se_callTy call_int1 vr_int rfl T.b_int (by decide +kernel) (sa_cons (se_rdv 11) sa_nil)) se_int))) sga_nil)))) C.nd)
        (ss_one (ss_if (st_cmp (oEq C.hu) vr_eq (se_ixv 1 se_int) se_int) (ss_cons (ss_frz 9 (ss_set 9 (se_lc (own := [("k", 6)]) C.calm C.nd (si_r1 (se_rdv 2) rfl T.b_range) (blkOk_by (by kernel_rfl)) (fun _ _ _ _ _ => (sg_n 6 C.nd)) (fun _ _ _ _ _ => st_yes) (fun _ _ _ _ _ => (se_callTy call_int1 vr_int rfl T.b_int (by decide +kernel) (sa_cons (se_cmp (oEq (by exact C.hu)) vr_eq (se_rdv 6) (se_ixv 7 (se_un un_neg vr_neg se_int))) sa_nil)))) C.nd))
        (ss_one (ss_set 10 (se_ixv 7 se_int) C.nd))) ss_nil))) ss_nil)
        (ss_cons (ss_frz 12 (ss_setLc 12 (own := [("k", 6)]) C.calm C.nd rfl rfl (sw_true rfl rfl rfl (by decide +kernel)) (si_r1 (se_rdv 2) rfl T.b_range) (blkOk_by (by kernel_rfl)) (fun _ _ _ _ _ => (sg_n 6 C.nd)) (fun _ _ _ _ _ => (st_one (st_cmp (oEq (by exact C.hu)) vr_eq (se_ixv 9 (se_rdv 6)) se_int))) (fun _ _ _ _ _ => (se_rdv 6))))
        (ss_cons (ss_set 13 (se_op op_mod vr_mod (se_ixv 1 se_int) (se_rdv 3)) C.nd)
        (ss_cons (ss_frz 14 (ss_set 14 (se_call G__law_copied (C.hr.mono (by decide)) C.tk (sga_fz (se_rdv 4) (sga_fz (se_cmp (oEq C.hu) vr_eq (se_ixv 1 se_int) se_int) sga_nil))) C.nd))
        (ss_cons (ss_frz 15 (ss_set 15 (se_callTy call_list_of vr_list rfl T.b_list (by decide +kernel) (sa_cons (se_rdv 12) sa_nil)) C.nd))
        (ss_cons (ss_frz 16 (ss_set 16 (se_call G__law_presses (C.hr.mono (by decide)) C.tk (sga_fz (se_rdv 4) (sga_fz (se_rdv 10) (sga_fz (se_rdv 13) sga_nil)))) C.nd))
        (ss_cons (ss_frz 17 (ss_setLc 17 (own := [("rest", 18)]) C.calm C.nd rfl rfl (sw_true rfl rfl rfl (by decide +kernel)) (si_r1 (se_rdv 2) rfl T.b_range) (blkOk_by (by kernel_rfl)) (fun _ _ _ _ _ => (sg_n 18 C.nd)) (fun _ _ _ _ _ => (st_one (st_cmp op_ge vr_cI (se_ixv 16 (se_rdv 18)) se_int))) (fun _ _ _ _ _ => (se_rdv 18))))
        (ss_cons (ss_frz 19 (ss_setLc 19 (own := [("goal", 20)]) C.calm C.nd rfl rfl (sw_true rfl rfl rfl (by decide +kernel)) (si_any (se_rdv 12)) (blkOk_by (by kernel_rfl)) (fun _ _ _ _ _ => (sg_n 20 C.nd)) (fun _ _ _ _ _ => (st_one (st_cmp op_ge vr_cI (se_ixv 16 (se_rdv 20)) se_int))) (fun _ _ _ _ _ => (se_ixv 16 (se_rdv 20)))))
        (ss_cons (ss_if (st_not (st_val (se_call G__law_way_is (C.hr.mono (by decide)) C.tk (sga_fz (se_call G_hope_way (C.hr.mono (by decide)) C.tk (sga_fz (se_rdv 14) (sga_fz (se_rdv 15) (sga_fz (se_rdv 10) sga_nil)))) (sga_fz (se_call G__law_best_way (C.hr.mono (by decide)) C.tk (sga_fz (se_rdv 4) (sga_fz (se_rdv 12) (sga_fz (se_rdv 10) sga_nil)))) sga_nil))))) (ss_one (ss_ret se_bl)) ss_nil)
        (ss_cons (ss_frz 21 (ss_set 21 (se_call G_least_presses (C.hr.mono (by decide)) C.tk (sga_fz (se_rdv 14) (sga_fz (se_rdv 15) (sga_fz (se_rdv 10) (sga_fz (se_rdv 13) sga_nil))))) C.nd))
        (ss_cons (ss_frz 22 (ss_set 22 (se_call G_must_events (C.hr.mono (by decide)) C.tk (sga_fz (se_rdv 14) (sga_fz (se_rdv 15) (sga_fz (se_rdv 10) sga_nil)))) C.nd))
        (ss_cons (ss_if (st_w (sw_or (st_not (st_val (se_isi (T := "tuple") (se_rdv 21) rfl T.b_isinstance rfl T.b_tuple (by decide +kernel)))) (sw_or (st_cmp op_lt vr_cI (se_borB 21 cLen vr_len rfl T.b_len (by decide +kernel)) se_int) (sw_or1 (st_not (st_val (se_isi (T := "str") (se_ixv 21 se_int) rfl T.b_isinstance rfl T.b_str (by decide +kernel)))))))) (ss_one (ss_ret se_bl)) ss_nil)
        (ss_cons (ss_set 23 se_int C.nd)
        (ss_cons (ss_set 24 (se_rdv 16) C.nd)
        (ss_cons (ss_set 25 (se_tup sa_nil) C.nd)
        (ss_cons (ss_if (st_cmp (oEq C.hu) vr_eq (se_borB 19 cLen vr_len rfl T.b_len (by decide +kernel)) se_int) (ss_one (ss_if (st_not (st_val (se_call G__law_never_is (C.hr.mono (by decide)) C.tk (sga_fz (se_rdv 21) (sga_fz (se_rdv 17) (sga_fz (se_rdv 22) sga_nil)))))) (ss_one (ss_ret se_bl)) ss_nil)) (ss_cons (ss_set 23 (se_callB (cMinE C.calm C.hu) vr_minE rfl T.b_min (by decide +kernel) (sa_cons (se_rdv 19) sa_nil)) C.nd)
        (ss_cons (ss_setLc 24 (own := [("rest", 18)]) C.calm C.nd rfl rfl (sw_true rfl rfl rfl (by decide +kernel)) (si_r1 (se_rdv 2) rfl T.b_range) (blkOk_by (by kernel_rfl)) (fun _ _ _ _ _ => (sg_n 18 C.nd)) (fun _ _ _ _ _ => st_yes) (fun _ _ _ _ _ => (se_rdv 23)))
        (ss_cons (ss_for (vs := [18]) (ws := [18]) C.hp C.calm (si_any (se_rdv 17)) (sg_n 18 C.nd)
        (ss_one (ss_put 24 (se_rdv 18) (se_callB (cMinE C.calm C.hu) vr_minE rfl T.b_min (by decide +kernel) (sa_cons (se_ixv 16 (se_rdv 18)) (sa_cons (se_rdv 23) sa_nil))))))
        (ss_cons (ss_if (st_not (st_val (se_callL G__law_least_is (C.hr.mono (by decide)) C.tk (sgb_fz (se_rdv 21) (sgb_fz (se_rdv 4) (sgb_fz (se_rdv 12) (sgb_fz (se_rdv 10) (sgb_fz (se_rdv 13) (sgb_fz (se_rdv 23) (sgb_br 24 sgb_nil)))))))))) (ss_one (ss_ret se_bl)) ss_nil)
        (ss_cons (ss_if (st_not (st_val (se_call G__law_is_row (C.hr.mono (by decide)) C.tk (sga_fz (se_rdv 22) (sga_fz (se_call G__law_musts (C.hr.mono (by decide)) C.tk (sga_fz (se_rdv 4) (sga_fz (se_rdv 12) (sga_fz (se_rdv 10) sga_nil)))) sga_nil))))) (ss_one (ss_ret se_bl)) ss_nil)
        (ss_one (ss_set 25 (se_ixv 21 se_int) C.nd))))))))
        (ss_cons (ss_if (st_not (st_val (se_callL G__law_judges_agree (C.hr.mono (by decide)) C.tk (sgb_fz (se_rdv 14) (sgb_fz (se_rdv 15) (sgb_fz (se_rdv 10) (sgb_fz (se_rdv 13) (sgb_fz (se_rdv 23) (sgb_br 24 (sgb_fz (se_rdv 25) (sgb_fz (se_rdv 17) (sgb_fz (se_sl (se_rdv 1) (so_some se_int) (so_some se_int)) sgb_nil)))))))))))) (ss_one (ss_ret se_bl)) ss_nil)
        (ss_cons (ss_if (st_not (st_val (se_call G__law_refuses (C.hr.mono (by decide)) C.tk (sga_fz (se_rdv 4) (sga_fz (se_rdv 12) (sga_fz (se_rdv 10) (sga_fz (se_rdv 13) (sga_fz (se_sl (se_rdv 1) (so_some se_int) so_none) sga_nil)))))))) (ss_one (ss_ret se_bl)) ss_nil)
        (ss_one (ss_ret (se_and (se_cmp (oEq C.hu) vr_eq (se_rdv 14) (se_call G__law_copied (C.hr.mono (by decide)) C.tk (sga_fz (se_rdv 4) (sga_fz (se_cmp (oEq C.hu) vr_eq (se_ixv 1 se_int) se_int) sga_nil)))) (se_one (se_cmp (oEq C.hu) vr_eq (se_rdv 15) (se_rdv 12)))))))))))))))))))))))))))))))))
  exact law_ok (k := 9) (N := ["script", "shape", "size", "many", "moves", "keys", "k", "line", "pair", "marks", "start", "key", "goals", "event", "handed", "given", "found", "reach", "rest", "near", "goal", "actual", "musts", "number", "prices", "way"]) (st := s_law) (body := b_law) (fun _ => True) Fa.h_law sc_law (fun _ _ _ _ _ _ us hl => match us, hl with | [_], _ => rfl) hb hfa
theorem facts_mk {h : Heap} (X : K.In h) (G : h.Ns mainGlobals mg)
    {x0 : Addr} {od0 an0 : Option Addr} {sl0 : Array (Option Value)} {oc0 kV0 dc0 pm0 cd0 ct0 : Value}
    {x1 : Addr} {od1 an1 : Option Addr} {sl1 : Array (Option Value)} {oc1 kV1 dc1 pm1 cd1 ct1 : Value}
    {x2 : Addr} {od2 an2 : Option Addr} {sl2 : Array (Option Value)} {oc2 kV2 dc2 pm2 cd2 ct2 : Value}
    {x3 : Addr} {od3 an3 : Option Addr} {sl3 : Array (Option Value)} {oc3 kV3 dc3 pm3 cd3 ct3 : Value}
    {x4 : Addr} {od4 an4 : Option Addr} {sl4 : Array (Option Value)} {oc4 kV4 dc4 pm4 cd4 ct4 : Value}
    {x5 : Addr} {od5 an5 : Option Addr} {sl5 : Array (Option Value)} {oc5 kV5 dc5 pm5 cd5 ct5 : Value}
    {x6 : Addr} {od6 an6 : Option Addr} {sl6 : Array (Option Value)} {oc6 kV6 dc6 pm6 cd6 ct6 : Value}
    {x7 : Addr} {od7 an7 : Option Addr} {sl7 : Array (Option Value)} {oc7 kV7 dc7 pm7 cd7 ct7 : Value}
    {x8 : Addr} {od8 an8 : Option Addr} {sl8 : Array (Option Value)} {oc8 kV8 dc8 pm8 cd8 ct8 : Value}
    {x9 : Addr} {od9 an9 : Option Addr} {sl9 : Array (Option Value)} {oc9 kV9 dc9 pm9 cd9 ct9 : Value}
    {x10 : Addr} {od10 an10 : Option Addr} {sl10 : Array (Option Value)} {oc10 kV10 dc10 pm10 cd10 ct10 : Value}
    {x11 : Addr} {od11 an11 : Option Addr} {sl11 : Array (Option Value)} {oc11 kV11 dc11 pm11 cd11 ct11 : Value}
    {x12 : Addr} {od12 an12 : Option Addr} {sl12 : Array (Option Value)} {oc12 kV12 dc12 pm12 cd12 ct12 : Value}
    {x13 : Addr} {od13 an13 : Option Addr} {sl13 : Array (Option Value)} {oc13 kV13 dc13 pm13 cd13 ct13 : Value}
    {x14 : Addr} {od14 an14 : Option Addr} {sl14 : Array (Option Value)} {oc14 kV14 dc14 pm14 cd14 ct14 : Value}
    {x15 : Addr} {od15 an15 : Option Addr} {sl15 : Array (Option Value)} {oc15 kV15 dc15 pm15 cd15 ct15 : Value}
    {x16 : Addr} {od16 an16 : Option Addr} {sl16 : Array (Option Value)} {oc16 kV16 dc16 pm16 cd16 ct16 : Value}
    {x17 : Addr} {od17 an17 : Option Addr} {sl17 : Array (Option Value)} {oc17 kV17 dc17 pm17 cd17 ct17 : Value}
    {x18 : Addr} {od18 an18 : Option Addr} {sl18 : Array (Option Value)} {oc18 kV18 dc18 pm18 cd18 ct18 : Value}
    {x19 : Addr} {od19 an19 : Option Addr} {sl19 : Array (Option Value)} {oc19 kV19 dc19 pm19 cd19 ct19 : Value}
    {x20 : Addr} {od20 an20 : Option Addr} {sl20 : Array (Option Value)} {oc20 kV20 dc20 pm20 cd20 ct20 : Value}
    {x21 : Addr} {od21 an21 : Option Addr} {sl21 : Array (Option Value)} {oc21 kV21 dc21 pm21 cd21 ct21 : Value}
    {x22 : Addr} {od22 an22 : Option Addr} {sl22 : Array (Option Value)} {oc22 kV22 dc22 pm22 cd22 ct22 : Value}
    {x23 : Addr} {od23 an23 : Option Addr} {sl23 : Array (Option Value)} {oc23 kV23 dc23 pm23 cd23 ct23 : Value}
    {x24 : Addr} {od24 an24 : Option Addr} {sl24 : Array (Option Value)} {oc24 kV24 dc24 pm24 cd24 ct24 : Value}
    {x25 : Addr} {od25 an25 : Option Addr} {sl25 : Array (Option Value)} {oc25 kV25 dc25 pm25 cd25 ct25 : Value}
    {x26 : Addr} {od26 an26 : Option Addr} {sl26 : Array (Option Value)} {oc26 kV26 dc26 pm26 cd26 ct26 : Value}
    {x27 : Addr} {od27 an27 : Option Addr} {sl27 : Array (Option Value)} {oc27 kV27 dc27 pm27 cd27 ct27 : Value}
    {x28 : Addr} {od28 an28 : Option Addr} {sl28 : Array (Option Value)} {oc28 kV28 dc28 pm28 cd28 ct28 : Value}
    {x29 : Addr} {od29 an29 : Option Addr} {sl29 : Array (Option Value)} {oc29 kV29 dc29 pm29 cd29 ct29 : Value}
    {x30 : Addr} {od30 an30 : Option Addr} {sl30 : Array (Option Value)} {oc30 kV30 dc30 pm30 cd30 ct30 : Value}
    {x31 : Addr} {od31 an31 : Option Addr} {sl31 : Array (Option Value)} {oc31 kV31 dc31 pm31 cd31 ct31 : Value}
    {x32 : Addr} {od32 an32 : Option Addr} {sl32 : Array (Option Value)} {oc32 kV32 dc32 pm32 cd32 ct32 : Value}
    {x33 : Addr} {od33 an33 : Option Addr} {sl33 : Array (Option Value)} {oc33 kV33 dc33 pm33 cd33 ct33 : Value}
    {x34 : Addr} {od34 an34 : Option Addr} {sl34 : Array (Option Value)} {oc34 kV34 dc34 pm34 cd34 ct34 : Value}
    {x35 : Addr} {od35 an35 : Option Addr} {sl35 : Array (Option Value)} {oc35 kV35 dc35 pm35 cd35 ct35 : Value}
    {x36 : Addr} {od36 an36 : Option Addr} {sl36 : Array (Option Value)} {oc36 kV36 dc36 pm36 cd36 ct36 : Value}
    {x37 : Addr} {od37 an37 : Option Addr} {sl37 : Array (Option Value)} {oc37 kV37 dc37 pm37 cd37 ct37 : Value}
    {x38 : Addr} {od38 an38 : Option Addr} {sl38 : Array (Option Value)} {oc38 kV38 dc38 pm38 cd38 ct38 : Value}
    {x39 : Addr} {od39 an39 : Option Addr} {sl39 : Array (Option Value)} {oc39 kV39 dc39 pm39 cd39 ct39 : Value}
    {x40 : Addr} {od40 an40 : Option Addr} {sl40 : Array (Option Value)} {oc40 kV40 dc40 pm40 cd40 ct40 : Value}
    {x41 : Addr} {od41 an41 : Option Addr} {sl41 : Array (Option Value)} {oc41 kV41 dc41 pm41 cd41 ct41 : Value}
    {x42 : Addr} {od42 an42 : Option Addr} {sl42 : Array (Option Value)} {oc42 kV42 dc42 pm42 cd42 ct42 : Value}
    {x43 : Addr} {od43 an43 : Option Addr} {sl43 : Array (Option Value)} {oc43 kV43 dc43 pm43 cd43 ct43 : Value}
    {x44 : Addr} {od44 an44 : Option Addr} {sl44 : Array (Option Value)} {oc44 kV44 dc44 pm44 cd44 ct44 : Value}
    {x45 : Addr} {od45 an45 : Option Addr} {sl45 : Array (Option Value)} {oc45 kV45 dc45 pm45 cd45 ct45 : Value}
    {x46 : Addr} {od46 an46 : Option Addr} {sl46 : Array (Option Value)} {oc46 kV46 dc46 pm46 cd46 ct46 : Value}
    {x47 : Addr} {od47 an47 : Option Addr} {sl47 : Array (Option Value)} {oc47 kV47 dc47 pm47 cd47 ct47 : Value}
    {x48 : Addr} {od48 an48 : Option Addr} {sl48 : Array (Option Value)} {oc48 kV48 dc48 pm48 cd48 ct48 : Value}
    (a_is_integer : PySem.W.nsIn K mainGlobals "is_integer" = some (some (.ref x0)))
    (l_is_integer : K.lookup x0 = some ⟨oc0, od0, .func (PySem.W.fnOf "is_integer" "is_integer" (defArgs s_is_integer) (defBody s_is_integer) (defScope s_is_integer) .none kV0 dc0 pm0 an0 cd0 ct0), sl0⟩)
    (c_is_integer : PySem.W.codeIn K cd0 "is_integer" = true)
    (k_is_integer : PySem.W.keepIn K (.ref x0) = true)
    (a_is_place : PySem.W.nsIn K mainGlobals "is_place" = some (some (.ref x1)))
    (l_is_place : K.lookup x1 = some ⟨oc1, od1, .func (PySem.W.fnOf "is_place" "is_place" (defArgs s_is_place) (defBody s_is_place) (defScope s_is_place) .none kV1 dc1 pm1 an1 cd1 ct1), sl1⟩)
    (c_is_place : PySem.W.codeIn K cd1 "is_place" = true)
    (k_is_place : PySem.W.keepIn K (.ref x1) = true)
    (a_are_places : PySem.W.nsIn K mainGlobals "are_places" = some (some (.ref x2)))
    (l_are_places : K.lookup x2 = some ⟨oc2, od2, .func (PySem.W.fnOf "are_places" "are_places" (defArgs s_are_places) (defBody s_are_places) (defScope s_are_places) .none kV2 dc2 pm2 an2 cd2 ct2), sl2⟩)
    (c_are_places : PySem.W.codeIn K cd2 "are_places" = true)
    (k_are_places : PySem.W.keepIn K (.ref x2) = true)
    (a_is_moves : PySem.W.nsIn K mainGlobals "is_moves" = some (some (.ref x3)))
    (l_is_moves : K.lookup x3 = some ⟨oc3, od3, .func (PySem.W.fnOf "is_moves" "is_moves" (defArgs s_is_moves) (defBody s_is_moves) (defScope s_is_moves) .none kV3 dc3 pm3 an3 cd3 ct3), sl3⟩)
    (c_is_moves : PySem.W.codeIn K cd3 "is_moves" = true)
    (k_is_moves : PySem.W.keepIn K (.ref x3) = true)
    (a_demand_question : PySem.W.nsIn K mainGlobals "demand_question" = some (some (.ref x4)))
    (l_demand_question : K.lookup x4 = some ⟨oc4, od4, .func (PySem.W.fnOf "demand_question" "demand_question" (defArgs s_demand_question) (defBody s_demand_question) (defScope s_demand_question) .none kV4 dc4 pm4 an4 cd4 ct4), sl4⟩)
    (c_demand_question : PySem.W.codeIn K cd4 "demand_question" = true)
    (k_demand_question : PySem.W.keepIn K (.ref x4) = true)
    (a_forcing_event : PySem.W.nsIn K mainGlobals "forcing_event" = some (some (.ref x5)))
    (l_forcing_event : K.lookup x5 = some ⟨oc5, od5, .func (PySem.W.fnOf "forcing_event" "forcing_event" (defArgs s_forcing_event) (defBody s_forcing_event) (defScope s_forcing_event) .none kV5 dc5 pm5 an5 cd5 ct5), sl5⟩)
    (c_forcing_event : PySem.W.codeIn K cd5 "forcing_event" = true)
    (k_forcing_event : PySem.W.keepIn K (.ref x5) = true)
    (a_forced_plan : PySem.W.nsIn K mainGlobals "forced_plan" = some (some (.ref x6)))
    (l_forced_plan : K.lookup x6 = some ⟨oc6, od6, .func (PySem.W.fnOf "forced_plan" "forced_plan" (defArgs s_forced_plan) (defBody s_forced_plan) (defScope s_forced_plan) .none kV6 dc6 pm6 an6 cd6 ct6), sl6⟩)
    (c_forced_plan : PySem.W.codeIn K cd6 "forced_plan" = true)
    (k_forced_plan : PySem.W.keepIn K (.ref x6) = true)
    (a_wish_paper : PySem.W.nsIn K mainGlobals "wish_paper" = some (some (.ref x7)))
    (l_wish_paper : K.lookup x7 = some ⟨oc7, od7, .func (PySem.W.fnOf "wish_paper" "wish_paper" (defArgs s_wish_paper) (defBody s_wish_paper) (defScope s_wish_paper) .none kV7 dc7 pm7 an7 cd7 ct7), sl7⟩)
    (c_wish_paper : PySem.W.codeIn K cd7 "wish_paper" = true)
    (k_wish_paper : PySem.W.keepIn K (.ref x7) = true)
    (a_hope_way : PySem.W.nsIn K mainGlobals "hope_way" = some (some (.ref x8)))
    (l_hope_way : K.lookup x8 = some ⟨oc8, od8, .func (PySem.W.fnOf "hope_way" "hope_way" (defArgs s_hope_way) (defBody s_hope_way) (defScope s_hope_way) .none kV8 dc8 pm8 an8 cd8 ct8), sl8⟩)
    (c_hope_way : PySem.W.codeIn K cd8 "hope_way" = true)
    (k_hope_way : PySem.W.keepIn K (.ref x8) = true)
    (a_shows_way : PySem.W.nsIn K mainGlobals "shows_way" = some (some (.ref x9)))
    (l_shows_way : K.lookup x9 = some ⟨oc9, od9, .func (PySem.W.fnOf "shows_way" "shows_way" (defArgs s_shows_way) (defBody s_shows_way) (defScope s_shows_way) .none kV9 dc9 pm9 an9 cd9 ct9), sl9⟩)
    (c_shows_way : PySem.W.codeIn K cd9 "shows_way" = true)
    (k_shows_way : PySem.W.keepIn K (.ref x9) = true)
    (a_shows_hopeless : PySem.W.nsIn K mainGlobals "shows_hopeless" = some (some (.ref x10)))
    (l_shows_hopeless : K.lookup x10 = some ⟨oc10, od10, .func (PySem.W.fnOf "shows_hopeless" "shows_hopeless" (defArgs s_shows_hopeless) (defBody s_shows_hopeless) (defScope s_shows_hopeless) .none kV10 dc10 pm10 an10 cd10 ct10), sl10⟩)
    (c_shows_hopeless : PySem.W.codeIn K cd10 "shows_hopeless" = true)
    (k_shows_hopeless : PySem.W.keepIn K (.ref x10) = true)
    (a_moves_by_others : PySem.W.nsIn K mainGlobals "moves_by_others" = some (some (.ref x11)))
    (l_moves_by_others : K.lookup x11 = some ⟨oc11, od11, .func (PySem.W.fnOf "moves_by_others" "moves_by_others" (defArgs s_moves_by_others) (defBody s_moves_by_others) (defScope s_moves_by_others) .none kV11 dc11 pm11 an11 cd11 ct11), sl11⟩)
    (c_moves_by_others : PySem.W.codeIn K cd11 "moves_by_others" = true)
    (k_moves_by_others : PySem.W.keepIn K (.ref x11) = true)
    (a_press_origins : PySem.W.nsIn K mainGlobals "press_origins" = some (some (.ref x12)))
    (l_press_origins : K.lookup x12 = some ⟨oc12, od12, .func (PySem.W.fnOf "press_origins" "press_origins" (defArgs s_press_origins) (defBody s_press_origins) (defScope s_press_origins) .none kV12 dc12 pm12 an12 cd12 ct12), sl12⟩)
    (c_press_origins : PySem.W.codeIn K cd12 "press_origins" = true)
    (k_press_origins : PySem.W.keepIn K (.ref x12) = true)
    (a_way_to : PySem.W.nsIn K mainGlobals "way_to" = some (some (.ref x13)))
    (l_way_to : K.lookup x13 = some ⟨oc13, od13, .func (PySem.W.fnOf "way_to" "way_to" (defArgs s_way_to) (defBody s_way_to) (defScope s_way_to) .none kV13 dc13 pm13 an13 cd13 ct13), sl13⟩)
    (c_way_to : PySem.W.codeIn K cd13 "way_to" = true)
    (k_way_to : PySem.W.keepIn K (.ref x13) = true)
    (a_best_goal : PySem.W.nsIn K mainGlobals "best_goal" = some (some (.ref x14)))
    (l_best_goal : K.lookup x14 = some ⟨oc14, od14, .func (PySem.W.fnOf "best_goal" "best_goal" (defArgs s_best_goal) (defBody s_best_goal) (defScope s_best_goal) .none kV14 dc14 pm14 an14 cd14 ct14), sl14⟩)
    (c_best_goal : PySem.W.codeIn K cd14 "best_goal" = true)
    (k_best_goal : PySem.W.keepIn K (.ref x14) = true)
    (a_press_prices : PySem.W.nsIn K mainGlobals "press_prices" = some (some (.ref x15)))
    (l_press_prices : K.lookup x15 = some ⟨oc15, od15, .func (PySem.W.fnOf "press_prices" "press_prices" (defArgs s_press_prices) (defBody s_press_prices) (defScope s_press_prices) .none kV15 dc15 pm15 an15 cd15 ct15), sl15⟩)
    (c_press_prices : PySem.W.codeIn K cd15 "press_prices" = true)
    (k_press_prices : PySem.W.keepIn K (.ref x15) = true)
    (a_least_presses : PySem.W.nsIn K mainGlobals "least_presses" = some (some (.ref x16)))
    (l_least_presses : K.lookup x16 = some ⟨oc16, od16, .func (PySem.W.fnOf "least_presses" "least_presses" (defArgs s_least_presses) (defBody s_least_presses) (defScope s_least_presses) .none kV16 dc16 pm16 an16 cd16 ct16), sl16⟩)
    (c_least_presses : PySem.W.codeIn K cd16 "least_presses" = true)
    (k_least_presses : PySem.W.keepIn K (.ref x16) = true)
    (a_row_keeps_prices : PySem.W.nsIn K mainGlobals "row_keeps_prices" = some (some (.ref x17)))
    (l_row_keeps_prices : K.lookup x17 = some ⟨oc17, od17, .func (PySem.W.fnOf "row_keeps_prices" "row_keeps_prices" (defArgs s_row_keeps_prices) (defBody s_row_keeps_prices) (defScope s_row_keeps_prices) .none kV17 dc17 pm17 an17 cd17 ct17), sl17⟩)
    (c_row_keeps_prices : PySem.W.codeIn K cd17 "row_keeps_prices" = true)
    (k_row_keeps_prices : PySem.W.keepIn K (.ref x17) = true)
    (a_shows_prices : PySem.W.nsIn K mainGlobals "shows_prices" = some (some (.ref x18)))
    (l_shows_prices : K.lookup x18 = some ⟨oc18, od18, .func (PySem.W.fnOf "shows_prices" "shows_prices" (defArgs s_shows_prices) (defBody s_shows_prices) (defScope s_shows_prices) .none kV18 dc18 pm18 an18 cd18 ct18), sl18⟩)
    (c_shows_prices : PySem.W.codeIn K cd18 "shows_prices" = true)
    (k_shows_prices : PySem.W.keepIn K (.ref x18) = true)
    (a_must_events : PySem.W.nsIn K mainGlobals "must_events" = some (some (.ref x19)))
    (l_must_events : K.lookup x19 = some ⟨oc19, od19, .func (PySem.W.fnOf "must_events" "must_events" (defArgs s_must_events) (defBody s_must_events) (defScope s_must_events) .none kV19 dc19 pm19 an19 cd19 ct19), sl19⟩)
    (c_must_events : PySem.W.codeIn K cd19 "must_events" = true)
    (k_must_events : PySem.W.keepIn K (.ref x19) = true)
    (a__law_cell : PySem.W.nsIn K mainGlobals "_law_cell" = some (some (.ref x20)))
    (l__law_cell : K.lookup x20 = some ⟨oc20, od20, .func (PySem.W.fnOf "_law_cell" "_law_cell" (defArgs s__law_cell) (defBody s__law_cell) (defScope s__law_cell) .none kV20 dc20 pm20 an20 cd20 ct20), sl20⟩)
    (c__law_cell : PySem.W.codeIn K cd20 "_law_cell" = true)
    (k__law_cell : PySem.W.keepIn K (.ref x20) = true)
    (a__law_row : PySem.W.nsIn K mainGlobals "_law_row" = some (some (.ref x21)))
    (l__law_row : K.lookup x21 = some ⟨oc21, od21, .func (PySem.W.fnOf "_law_row" "_law_row" (defArgs s__law_row) (defBody s__law_row) (defScope s__law_row) .none kV21 dc21 pm21 an21 cd21 ct21), sl21⟩)
    (c__law_row : PySem.W.codeIn K cd21 "_law_row" = true)
    (k__law_row : PySem.W.keepIn K (.ref x21) = true)
    (a__law_targets : PySem.W.nsIn K mainGlobals "_law_targets" = some (some (.ref x22)))
    (l__law_targets : K.lookup x22 = some ⟨oc22, od22, .func (PySem.W.fnOf "_law_targets" "_law_targets" (defArgs s__law_targets) (defBody s__law_targets) (defScope s__law_targets) .none kV22 dc22 pm22 an22 cd22 ct22), sl22⟩)
    (c__law_targets : PySem.W.codeIn K cd22 "_law_targets" = true)
    (k__law_targets : PySem.W.keepIn K (.ref x22) = true)
    (a__law_moves : PySem.W.nsIn K mainGlobals "_law_moves" = some (some (.ref x23)))
    (l__law_moves : K.lookup x23 = some ⟨oc23, od23, .func (PySem.W.fnOf "_law_moves" "_law_moves" (defArgs s__law_moves) (defBody s__law_moves) (defScope s__law_moves) .none kV23 dc23 pm23 an23 cd23 ct23), sl23⟩)
    (c__law_moves : PySem.W.codeIn K cd23 "_law_moves" = true)
    (k__law_moves : PySem.W.keepIn K (.ref x23) = true)
    (a__law_lined : PySem.W.nsIn K mainGlobals "_law_lined" = some (some (.ref x24)))
    (l__law_lined : K.lookup x24 = some ⟨oc24, od24, .func (PySem.W.fnOf "_law_lined" "_law_lined" (defArgs s__law_lined) (defBody s__law_lined) (defScope s__law_lined) .none kV24 dc24 pm24 an24 cd24 ct24), sl24⟩)
    (c__law_lined : PySem.W.codeIn K cd24 "_law_lined" = true)
    (k__law_lined : PySem.W.keepIn K (.ref x24) = true)
    (a__law_copied : PySem.W.nsIn K mainGlobals "_law_copied" = some (some (.ref x25)))
    (l__law_copied : K.lookup x25 = some ⟨oc25, od25, .func (PySem.W.fnOf "_law_copied" "_law_copied" (defArgs s__law_copied) (defBody s__law_copied) (defScope s__law_copied) .none kV25 dc25 pm25 an25 cd25 ct25), sl25⟩)
    (c__law_copied : PySem.W.codeIn K cd25 "_law_copied" = true)
    (k__law_copied : PySem.W.keepIn K (.ref x25) = true)
    (a__law_reach : PySem.W.nsIn K mainGlobals "_law_reach" = some (some (.ref x26)))
    (l__law_reach : K.lookup x26 = some ⟨oc26, od26, .func (PySem.W.fnOf "_law_reach" "_law_reach" (defArgs s__law_reach) (defBody s__law_reach) (defScope s__law_reach) .none kV26 dc26 pm26 an26 cd26 ct26), sl26⟩)
    (c__law_reach : PySem.W.codeIn K cd26 "_law_reach" = true)
    (k__law_reach : PySem.W.keepIn K (.ref x26) = true)
    (a__law_presses : PySem.W.nsIn K mainGlobals "_law_presses" = some (some (.ref x27)))
    (l__law_presses : K.lookup x27 = some ⟨oc27, od27, .func (PySem.W.fnOf "_law_presses" "_law_presses" (defArgs s__law_presses) (defBody s__law_presses) (defScope s__law_presses) .none kV27 dc27 pm27 an27 cd27 ct27), sl27⟩)
    (c__law_presses : PySem.W.codeIn K cd27 "_law_presses" = true)
    (k__law_presses : PySem.W.keepIn K (.ref x27) = true)
    (a__law_best_way : PySem.W.nsIn K mainGlobals "_law_best_way" = some (some (.ref x28)))
    (l__law_best_way : K.lookup x28 = some ⟨oc28, od28, .func (PySem.W.fnOf "_law_best_way" "_law_best_way" (defArgs s__law_best_way) (defBody s__law_best_way) (defScope s__law_best_way) .none kV28 dc28 pm28 an28 cd28 ct28), sl28⟩)
    (c__law_best_way : PySem.W.codeIn K cd28 "_law_best_way" = true)
    (k__law_best_way : PySem.W.keepIn K (.ref x28) = true)
    (a__law_is_integer : PySem.W.nsIn K mainGlobals "_law_is_integer" = some (some (.ref x29)))
    (l__law_is_integer : K.lookup x29 = some ⟨oc29, od29, .func (PySem.W.fnOf "_law_is_integer" "_law_is_integer" (defArgs s__law_is_integer) (defBody s__law_is_integer) (defScope s__law_is_integer) .none kV29 dc29 pm29 an29 cd29 ct29), sl29⟩)
    (c__law_is_integer : PySem.W.codeIn K cd29 "_law_is_integer" = true)
    (k__law_is_integer : PySem.W.keepIn K (.ref x29) = true)
    (a__law_is_row : PySem.W.nsIn K mainGlobals "_law_is_row" = some (some (.ref x30)))
    (l__law_is_row : K.lookup x30 = some ⟨oc30, od30, .func (PySem.W.fnOf "_law_is_row" "_law_is_row" (defArgs s__law_is_row) (defBody s__law_is_row) (defScope s__law_is_row) .none kV30 dc30 pm30 an30 cd30 ct30), sl30⟩)
    (c__law_is_row : PySem.W.codeIn K cd30 "_law_is_row" = true)
    (k__law_is_row : PySem.W.keepIn K (.ref x30) = true)
    (a__law_is_way : PySem.W.nsIn K mainGlobals "_law_is_way" = some (some (.ref x31)))
    (l__law_is_way : K.lookup x31 = some ⟨oc31, od31, .func (PySem.W.fnOf "_law_is_way" "_law_is_way" (defArgs s__law_is_way) (defBody s__law_is_way) (defScope s__law_is_way) .none kV31 dc31 pm31 an31 cd31 ct31), sl31⟩)
    (c__law_is_way : PySem.W.codeIn K cd31 "_law_is_way" = true)
    (k__law_is_way : PySem.W.keepIn K (.ref x31) = true)
    (a__law_leads : PySem.W.nsIn K mainGlobals "_law_leads" = some (some (.ref x32)))
    (l__law_leads : K.lookup x32 = some ⟨oc32, od32, .func (PySem.W.fnOf "_law_leads" "_law_leads" (defArgs s__law_leads) (defBody s__law_leads) (defScope s__law_leads) .none kV32 dc32 pm32 an32 cd32 ct32), sl32⟩)
    (c__law_leads : PySem.W.codeIn K cd32 "_law_leads" = true)
    (k__law_leads : PySem.W.keepIn K (.ref x32) = true)
    (a__law_prices_are_right : PySem.W.nsIn K mainGlobals "_law_prices_are_right" = some (some (.ref x33)))
    (l__law_prices_are_right : K.lookup x33 = some ⟨oc33, od33, .func (PySem.W.fnOf "_law_prices_are_right" "_law_prices_are_right" (defArgs s__law_prices_are_right) (defBody s__law_prices_are_right) (defScope s__law_prices_are_right) .none kV33 dc33 pm33 an33 cd33 ct33), sl33⟩)
    (c__law_prices_are_right : PySem.W.codeIn K cd33 "_law_prices_are_right" = true)
    (k__law_prices_are_right : PySem.W.keepIn K (.ref x33) = true)
    (a__law_is_hopeless : PySem.W.nsIn K mainGlobals "_law_is_hopeless" = some (some (.ref x34)))
    (l__law_is_hopeless : K.lookup x34 = some ⟨oc34, od34, .func (PySem.W.fnOf "_law_is_hopeless" "_law_is_hopeless" (defArgs s__law_is_hopeless) (defBody s__law_is_hopeless) (defScope s__law_is_hopeless) .none kV34 dc34 pm34 an34 cd34 ct34), sl34⟩)
    (c__law_is_hopeless : PySem.W.codeIn K cd34 "_law_is_hopeless" = true)
    (k__law_is_hopeless : PySem.W.keepIn K (.ref x34) = true)
    (a__law_says : PySem.W.nsIn K mainGlobals "_law_says" = some (some (.ref x35)))
    (l__law_says : K.lookup x35 = some ⟨oc35, od35, .func (PySem.W.fnOf "_law_says" "_law_says" (defArgs s__law_says) (defBody s__law_says) (defScope s__law_says) .none kV35 dc35 pm35 an35 cd35 ct35), sl35⟩)
    (c__law_says : PySem.W.codeIn K cd35 "_law_says" = true)
    (k__law_says : PySem.W.keepIn K (.ref x35) = true)
    (a__law_changed : PySem.W.nsIn K mainGlobals "_law_changed" = some (some (.ref x36)))
    (l__law_changed : K.lookup x36 = some ⟨oc36, od36, .func (PySem.W.fnOf "_law_changed" "_law_changed" (defArgs s__law_changed) (defBody s__law_changed) (defScope s__law_changed) .none kV36 dc36 pm36 an36 cd36 ct36), sl36⟩)
    (c__law_changed : PySem.W.codeIn K cd36 "_law_changed" = true)
    (k__law_changed : PySem.W.keepIn K (.ref x36) = true)
    (a__law_judges_agree : PySem.W.nsIn K mainGlobals "_law_judges_agree" = some (some (.ref x37)))
    (l__law_judges_agree : K.lookup x37 = some ⟨oc37, od37, .func (PySem.W.fnOf "_law_judges_agree" "_law_judges_agree" (defArgs s__law_judges_agree) (defBody s__law_judges_agree) (defScope s__law_judges_agree) .none kV37 dc37 pm37 an37 cd37 ct37), sl37⟩)
    (c__law_judges_agree : PySem.W.codeIn K cd37 "_law_judges_agree" = true)
    (k__law_judges_agree : PySem.W.keepIn K (.ref x37) = true)
    (a__law_way_is : PySem.W.nsIn K mainGlobals "_law_way_is" = some (some (.ref x38)))
    (l__law_way_is : K.lookup x38 = some ⟨oc38, od38, .func (PySem.W.fnOf "_law_way_is" "_law_way_is" (defArgs s__law_way_is) (defBody s__law_way_is) (defScope s__law_way_is) .none kV38 dc38 pm38 an38 cd38 ct38), sl38⟩)
    (c__law_way_is : PySem.W.codeIn K cd38 "_law_way_is" = true)
    (k__law_way_is : PySem.W.keepIn K (.ref x38) = true)
    (a__law_musts : PySem.W.nsIn K mainGlobals "_law_musts" = some (some (.ref x39)))
    (l__law_musts : K.lookup x39 = some ⟨oc39, od39, .func (PySem.W.fnOf "_law_musts" "_law_musts" (defArgs s__law_musts) (defBody s__law_musts) (defScope s__law_musts) .none kV39 dc39 pm39 an39 cd39 ct39), sl39⟩)
    (c__law_musts : PySem.W.codeIn K cd39 "_law_musts" = true)
    (k__law_musts : PySem.W.keepIn K (.ref x39) = true)
    (a__law_ascending : PySem.W.nsIn K mainGlobals "_law_ascending" = some (some (.ref x40)))
    (l__law_ascending : K.lookup x40 = some ⟨oc40, od40, .func (PySem.W.fnOf "_law_ascending" "_law_ascending" (defArgs s__law_ascending) (defBody s__law_ascending) (defScope s__law_ascending) .none kV40 dc40 pm40 an40 cd40 ct40), sl40⟩)
    (c__law_ascending : PySem.W.codeIn K cd40 "_law_ascending" = true)
    (k__law_ascending : PySem.W.keepIn K (.ref x40) = true)
    (a__law_are_moves : PySem.W.nsIn K mainGlobals "_law_are_moves" = some (some (.ref x41)))
    (l__law_are_moves : K.lookup x41 = some ⟨oc41, od41, .func (PySem.W.fnOf "_law_are_moves" "_law_are_moves" (defArgs s__law_are_moves) (defBody s__law_are_moves) (defScope s__law_are_moves) .none kV41 dc41 pm41 an41 cd41 ct41), sl41⟩)
    (c__law_are_moves : PySem.W.codeIn K cd41 "_law_are_moves" = true)
    (k__law_are_moves : PySem.W.keepIn K (.ref x41) = true)
    (a__law_due : PySem.W.nsIn K mainGlobals "_law_due" = some (some (.ref x42)))
    (l__law_due : K.lookup x42 = some ⟨oc42, od42, .func (PySem.W.fnOf "_law_due" "_law_due" (defArgs s__law_due) (defBody s__law_due) (defScope s__law_due) .none kV42 dc42 pm42 an42 cd42 ct42), sl42⟩)
    (c__law_due : PySem.W.codeIn K cd42 "_law_due" = true)
    (k__law_due : PySem.W.keepIn K (.ref x42) = true)
    (a__law_refusal : PySem.W.nsIn K mainGlobals "_law_refusal" = some (some (.ref x43)))
    (l__law_refusal : K.lookup x43 = some ⟨oc43, od43, .func (PySem.W.fnOf "_law_refusal" "_law_refusal" (defArgs s__law_refusal) (defBody s__law_refusal) (defScope s__law_refusal) .none kV43 dc43 pm43 an43 cd43 ct43), sl43⟩)
    (c__law_refusal : PySem.W.codeIn K cd43 "_law_refusal" = true)
    (k__law_refusal : PySem.W.keepIn K (.ref x43) = true)
    (a__law_spoilt : PySem.W.nsIn K mainGlobals "_law_spoilt" = some (some (.ref x44)))
    (l__law_spoilt : K.lookup x44 = some ⟨oc44, od44, .func (PySem.W.fnOf "_law_spoilt" "_law_spoilt" (defArgs s__law_spoilt) (defBody s__law_spoilt) (defScope s__law_spoilt) .none kV44 dc44 pm44 an44 cd44 ct44), sl44⟩)
    (c__law_spoilt : PySem.W.codeIn K cd44 "_law_spoilt" = true)
    (k__law_spoilt : PySem.W.keepIn K (.ref x44) = true)
    (a__law_refuses : PySem.W.nsIn K mainGlobals "_law_refuses" = some (some (.ref x45)))
    (l__law_refuses : K.lookup x45 = some ⟨oc45, od45, .func (PySem.W.fnOf "_law_refuses" "_law_refuses" (defArgs s__law_refuses) (defBody s__law_refuses) (defScope s__law_refuses) .none kV45 dc45 pm45 an45 cd45 ct45), sl45⟩)
    (c__law_refuses : PySem.W.codeIn K cd45 "_law_refuses" = true)
    (k__law_refuses : PySem.W.keepIn K (.ref x45) = true)
    (a__law_never_is : PySem.W.nsIn K mainGlobals "_law_never_is" = some (some (.ref x46)))
    (l__law_never_is : K.lookup x46 = some ⟨oc46, od46, .func (PySem.W.fnOf "_law_never_is" "_law_never_is" (defArgs s__law_never_is) (defBody s__law_never_is) (defScope s__law_never_is) .none kV46 dc46 pm46 an46 cd46 ct46), sl46⟩)
    (c__law_never_is : PySem.W.codeIn K cd46 "_law_never_is" = true)
    (k__law_never_is : PySem.W.keepIn K (.ref x46) = true)
    (a__law_least_is : PySem.W.nsIn K mainGlobals "_law_least_is" = some (some (.ref x47)))
    (l__law_least_is : K.lookup x47 = some ⟨oc47, od47, .func (PySem.W.fnOf "_law_least_is" "_law_least_is" (defArgs s__law_least_is) (defBody s__law_least_is) (defScope s__law_least_is) .none kV47 dc47 pm47 an47 cd47 ct47), sl47⟩)
    (c__law_least_is : PySem.W.codeIn K cd47 "_law_least_is" = true)
    (k__law_least_is : PySem.W.keepIn K (.ref x47) = true)
    (a_law : PySem.W.nsIn K mainGlobals "law" = some (some (.ref x48)))
    (l_law : K.lookup x48 = some ⟨oc48, od48, .func (PySem.W.fnOf "law" "law" (defArgs s_law) (defBody s_law) (defScope s_law) .none kV48 dc48 pm48 an48 cd48 ct48), sl48⟩)
    (c_law : PySem.W.codeIn K cd48 "law" = true)
    (k_law : PySem.W.keepIn K (.ref x48) = true)
    (b_bool : PySem.W.nsIn K mainGlobals "bool" = some none)
    (b_enumerate : PySem.W.nsIn K mainGlobals "enumerate" = some none)
    (b_int : PySem.W.nsIn K mainGlobals "int" = some none)
    (b_isinstance : PySem.W.nsIn K mainGlobals "isinstance" = some none)
    (b_len : PySem.W.nsIn K mainGlobals "len" = some none)
    (b_list : PySem.W.nsIn K mainGlobals "list" = some none)
    (b_min : PySem.W.nsIn K mainGlobals "min" = some none)
    (b_range : PySem.W.nsIn K mainGlobals "range" = some none)
    (b_reversed : PySem.W.nsIn K mainGlobals "reversed" = some none)
    (b_set : PySem.W.nsIn K mainGlobals "set" = some none)
    (b_sorted : PySem.W.nsIn K mainGlobals "sorted" = some none)
    (b_str : PySem.W.nsIn K mainGlobals "str" = some none)
    (b_tuple : PySem.W.nsIn K mainGlobals "tuple" = some none)
    {t_MOST_EVENTS : Tok} (e_MOST_EVENTS : PySem.W.nsIn K mainGlobals "MOST_EVENTS" = some (some (.int 6 t_MOST_EVENTS)))
    {t_MOST_RESTS : Tok} (e_MOST_RESTS : PySem.W.nsIn K mainGlobals "MOST_RESTS" = some (some (.int 60 t_MOST_RESTS)))
    {y_HouseError : Addr}
    {y_BadEvent : Addr}
    {y_BadOrder : Addr}
    {y_BadGraph : Addr}
    (aC_HouseError : PySem.W.nsIn K mainGlobals "HouseError" = some (some (.ref y_HouseError)))
    (aC_BadEvent : PySem.W.nsIn K mainGlobals "BadEvent" = some (some (.ref y_BadEvent)))
    (aC_BadOrder : PySem.W.nsIn K mainGlobals "BadOrder" = some (some (.ref y_BadOrder)))
    (aC_BadGraph : PySem.W.nsIn K mainGlobals "BadGraph" = some (some (.ref y_BadGraph)))
    (hn_ : PySem.W.specialIn K (.builtin "object.__class__") "__get__" = some (some (.builtin "getset_descriptor.__get__")))
    (ht_ : PySem.W.takesIn K (.builtin "object.__class__") = some true)
    (hg_BadEvent : PySem.W.findIn K (.ref y_BadEvent) "__getattribute__" = some (some (.builtin "BaseException.__getattribute__")))
    (hk_BadEvent : PySem.W.findIn K (.ref y_BadEvent) "__getattr__" = some none)
    (hs_BadEvent : PySem.W.subIn K (.ref y_BadEvent) (.type "BaseException") = some true)
    (hd_BadEvent : PySem.W.hasDictIn K y_BadEvent = true)
    (ha_BadEvent : PySem.W.findIn K (.ref y_BadEvent) "__class__" = some (some (.builtin "object.__class__")))
    (hm_BadEvent : PySem.W.mroIn K y_BadEvent (.type "object") = some true)
    (kC_BadEvent : PySem.W.keepIn K (.ref y_BadEvent) = true)
    (tC_BadEvent : PySem.W.typeIn K (.ref y_BadEvent) = some (.type "type"))
    (mr_BadEvent : PySem.W.mroIn K y_BadEvent (.ref y_BadEvent) = some true)
    (su_BadEvent_BadEvent : PySem.W.subIn K (.ref y_BadEvent) (.ref y_BadEvent) = some true)
    (su_BadEvent_BadGraph : PySem.W.subIn K (.ref y_BadEvent) (.ref y_BadGraph) = some false)
    (su_BadEvent_BadOrder : PySem.W.subIn K (.ref y_BadEvent) (.ref y_BadOrder) = some false)
    (su_BadEvent_HouseError : PySem.W.subIn K (.ref y_BadEvent) (.ref y_HouseError) = some true)
    (hg_BadOrder : PySem.W.findIn K (.ref y_BadOrder) "__getattribute__" = some (some (.builtin "BaseException.__getattribute__")))
    (hk_BadOrder : PySem.W.findIn K (.ref y_BadOrder) "__getattr__" = some none)
    (hs_BadOrder : PySem.W.subIn K (.ref y_BadOrder) (.type "BaseException") = some true)
    (hd_BadOrder : PySem.W.hasDictIn K y_BadOrder = true)
    (ha_BadOrder : PySem.W.findIn K (.ref y_BadOrder) "__class__" = some (some (.builtin "object.__class__")))
    (hm_BadOrder : PySem.W.mroIn K y_BadOrder (.type "object") = some true)
    (kC_BadOrder : PySem.W.keepIn K (.ref y_BadOrder) = true)
    (tC_BadOrder : PySem.W.typeIn K (.ref y_BadOrder) = some (.type "type"))
    (mr_BadOrder : PySem.W.mroIn K y_BadOrder (.ref y_BadOrder) = some true)
    (su_BadOrder_BadEvent : PySem.W.subIn K (.ref y_BadOrder) (.ref y_BadEvent) = some false)
    (su_BadOrder_BadGraph : PySem.W.subIn K (.ref y_BadOrder) (.ref y_BadGraph) = some false)
    (su_BadOrder_BadOrder : PySem.W.subIn K (.ref y_BadOrder) (.ref y_BadOrder) = some true)
    (su_BadOrder_HouseError : PySem.W.subIn K (.ref y_BadOrder) (.ref y_HouseError) = some true)
    (hg_BadGraph : PySem.W.findIn K (.ref y_BadGraph) "__getattribute__" = some (some (.builtin "BaseException.__getattribute__")))
    (hk_BadGraph : PySem.W.findIn K (.ref y_BadGraph) "__getattr__" = some none)
    (hs_BadGraph : PySem.W.subIn K (.ref y_BadGraph) (.type "BaseException") = some true)
    (hd_BadGraph : PySem.W.hasDictIn K y_BadGraph = true)
    (ha_BadGraph : PySem.W.findIn K (.ref y_BadGraph) "__class__" = some (some (.builtin "object.__class__")))
    (hm_BadGraph : PySem.W.mroIn K y_BadGraph (.type "object") = some true)
    (kC_BadGraph : PySem.W.keepIn K (.ref y_BadGraph) = true)
    (tC_BadGraph : PySem.W.typeIn K (.ref y_BadGraph) = some (.type "type"))
    (mr_BadGraph : PySem.W.mroIn K y_BadGraph (.ref y_BadGraph) = some true)
    (su_BadGraph_BadEvent : PySem.W.subIn K (.ref y_BadGraph) (.ref y_BadEvent) = some false)
    (su_BadGraph_BadGraph : PySem.W.subIn K (.ref y_BadGraph) (.ref y_BadGraph) = some true)
    (su_BadGraph_BadOrder : PySem.W.subIn K (.ref y_BadGraph) (.ref y_BadOrder) = some false)
    (su_BadGraph_HouseError : PySem.W.subIn K (.ref y_BadGraph) (.ref y_HouseError) = some true)
    (hs_HouseError : PySem.W.subIn K (.ref y_HouseError) (.type "BaseException") = some true)
    (hd_HouseError : PySem.W.hasDictIn K y_HouseError = true)
    (tC_HouseError : PySem.W.typeIn K (.ref y_HouseError) = some (.type "type"))
    (x_BadGraph : PySem.W.excIn K y_BadGraph bmV "ValueError.__new__" = true)
    (x_BadOrder : PySem.W.excIn K y_BadOrder bmV "ValueError.__new__" = true)
    {z_BadEvent : Addr} {nmBadEvent qnBadEvent : Str} {NBadEvent : Addr} {bsBadEvent bmBadEvent : List Value} {snBadEvent : List Str} {subBadEvent : List Value} {abBadEvent : Bool} {colBadEvent : Option Bool} {ddBadEvent : Option Addr} {k0BadEvent k1BadEvent k2BadEvent k3BadEvent k5BadEvent : Option Value}
    (nf_BadEvent : PySem.W.findIn K (.ref y_BadEvent) "index" = some none)
    (cl_BadEvent : K.lookup y_BadEvent = some (excClassObj nmBadEvent qnBadEvent y_BadEvent NBadEvent bsBadEvent bmBadEvent true snBadEvent subBadEvent abBadEvent colBadEvent ddBadEvent k0BadEvent k1BadEvent k2BadEvent k3BadEvent k5BadEvent "ValueError.__new__"))
    (rv_BadEvent : PySem.HandSPX.refsVE bmBadEvent = true)
    (sa_BadEvent : PySem.W.findIn K (.ref y_BadEvent) "__setattr__" = some (some (.builtin "object.__setattr__")))
    (iC_BadEvent : PySem.W.findIn K (.ref y_BadEvent) "__init__" = some (some (.ref z_BadEvent)))
    (ti_BadEvent : PySem.W.typeIn K (.ref z_BadEvent) = some (.type "function"))
    (xt_BadEvent : PySem.W.excTail bmV bmBadEvent = true)
    {cdB_BadEvent : ClassData}
    (cb_BadEvent : PySem.W.clsIn K y_HouseError = some cdB_BadEvent)
    (mb_BadEvent : cdB_BadEvent.mro = bmBadEvent)
    (fb_BadEvent : PySem.W.findIn K (.ref y_HouseError) "__init__" = some (some (.builtin "ValueError.__init__")))
    (ve_BadEvent : PySem.W.subIn K (.ref y_BadEvent) (.type "ValueError") = some true)
    (cs_BadEvent : PySem.W.nsIn K cStatics "thirdparty.any" = some none)
    (sm_BadEvent : PySem.W.nsIn K mainGlobals "super" = some none)
    {oc_BadEvent ccl_BadEvent cL_BadEvent doc_BadEvent pm_BadEvent ct_BadEvent : Value} {od_BadEvent cdd_BadEvent cld_BadEvent an_BadEvent : Option Addr} {cda_BadEvent cc_BadEvent : Addr} {osl_BadEvent ccs_BadEvent csl_BadEvent : Array (Option Value)} {vs_BadEvent : Array Value} {file_BadEvent : Str} {tf_BadEvent : Tok}
    (li_BadEvent : K.lookup z_BadEvent = some ⟨oc_BadEvent, od_BadEvent, .func (PySem.W.ksFn "__init__" "BadEvent.__init__" (defArgs (inClass (topS 2) 0)) (defBody (inClass (topS 2) 0)) (defScope (inClass (topS 2) 0)) .none .none doc_BadEvent pm_BadEvent an_BadEvent (.ref cda_BadEvent) ct_BadEvent cc_BadEvent), osl_BadEvent⟩)
    (ci_BadEvent : PySem.W.codeIn K (.ref cda_BadEvent) "BadEvent.__init__" = true)
    (co_BadEvent : K.lookup cda_BadEvent = some ⟨ccl_BadEvent, cdd_BadEvent, .fields vs_BadEvent, ccs_BadEvent⟩)
    (vs2_BadEvent : vs_BadEvent[2]? = some (.str file_BadEvent tf_BadEvent))
    (fi_BadEvent : ((PySem.Challenge.pw_calmhouse_k62_least_presses.main.file : Str) == file_BadEvent) = true)
    (ce_BadEvent : K.lookup cc_BadEvent = some ⟨cL_BadEvent, cld_BadEvent, .cell (some (.ref y_BadEvent)), csl_BadEvent⟩) : Facts PySem.Challenge.pw_calmhouse_k62_least_presses K mg where
  T := { b_bool := PySem.W.mg_none_of X G b_bool, b_enumerate := PySem.W.mg_none_of X G b_enumerate, b_int := PySem.W.mg_none_of X G b_int, b_isinstance := PySem.W.mg_none_of X G b_isinstance, b_len := PySem.W.mg_none_of X G b_len, b_list := PySem.W.mg_none_of X G b_list, b_min := PySem.W.mg_none_of X G b_min, b_range := PySem.W.mg_none_of X G b_range, b_reversed := PySem.W.mg_none_of X G b_reversed, b_set := PySem.W.mg_none_of X G b_set, b_sorted := PySem.W.mg_none_of X G b_sorted, b_str := PySem.W.mg_none_of X G b_str, b_tuple := PySem.W.mg_none_of X G b_tuple, c_MOST_EVENTS := ⟨_, PySem.W.mg_of X G e_MOST_EVENTS⟩, c_MOST_RESTS := ⟨_, PySem.W.mg_of X G e_MOST_RESTS⟩ }
  h_is_integer := HasFn.is ⟨_, _, _, _, _, _, _, _, _, _, a_is_integer, l_is_integer, c_is_integer, k_is_integer⟩ X G
  h_is_place := HasFn.is ⟨_, _, _, _, _, _, _, _, _, _, a_is_place, l_is_place, c_is_place, k_is_place⟩ X G
  h_are_places := HasFn.is ⟨_, _, _, _, _, _, _, _, _, _, a_are_places, l_are_places, c_are_places, k_are_places⟩ X G
  h_is_moves := HasFn.is ⟨_, _, _, _, _, _, _, _, _, _, a_is_moves, l_is_moves, c_is_moves, k_is_moves⟩ X G
  h_demand_question := HasFn.is ⟨_, _, _, _, _, _, _, _, _, _, a_demand_question, l_demand_question, c_demand_question, k_demand_question⟩ X G
  h_forcing_event := HasFn.is ⟨_, _, _, _, _, _, _, _, _, _, a_forcing_event, l_forcing_event, c_forcing_event, k_forcing_event⟩ X G
  h_forced_plan := HasFn.is ⟨_, _, _, _, _, _, _, _, _, _, a_forced_plan, l_forced_plan, c_forced_plan, k_forced_plan⟩ X G
  h_wish_paper := HasFn.is ⟨_, _, _, _, _, _, _, _, _, _, a_wish_paper, l_wish_paper, c_wish_paper, k_wish_paper⟩ X G
  h_hope_way := HasFn.is ⟨_, _, _, _, _, _, _, _, _, _, a_hope_way, l_hope_way, c_hope_way, k_hope_way⟩ X G
  h_shows_way := HasFn.is ⟨_, _, _, _, _, _, _, _, _, _, a_shows_way, l_shows_way, c_shows_way, k_shows_way⟩ X G
  h_shows_hopeless := HasFn.is ⟨_, _, _, _, _, _, _, _, _, _, a_shows_hopeless, l_shows_hopeless, c_shows_hopeless, k_shows_hopeless⟩ X G
  h_moves_by_others := HasFn.is ⟨_, _, _, _, _, _, _, _, _, _, a_moves_by_others, l_moves_by_others, c_moves_by_others, k_moves_by_others⟩ X G
  h_press_origins := HasFn.is ⟨_, _, _, _, _, _, _, _, _, _, a_press_origins, l_press_origins, c_press_origins, k_press_origins⟩ X G
  h_way_to := HasFn.is ⟨_, _, _, _, _, _, _, _, _, _, a_way_to, l_way_to, c_way_to, k_way_to⟩ X G
  h_best_goal := HasFn.is ⟨_, _, _, _, _, _, _, _, _, _, a_best_goal, l_best_goal, c_best_goal, k_best_goal⟩ X G
  h_press_prices := HasFn.is ⟨_, _, _, _, _, _, _, _, _, _, a_press_prices, l_press_prices, c_press_prices, k_press_prices⟩ X G
  h_least_presses := HasFn.is ⟨_, _, _, _, _, _, _, _, _, _, a_least_presses, l_least_presses, c_least_presses, k_least_presses⟩ X G
  h_row_keeps_prices := HasFn.is ⟨_, _, _, _, _, _, _, _, _, _, a_row_keeps_prices, l_row_keeps_prices, c_row_keeps_prices, k_row_keeps_prices⟩ X G
  h_shows_prices := HasFn.is ⟨_, _, _, _, _, _, _, _, _, _, a_shows_prices, l_shows_prices, c_shows_prices, k_shows_prices⟩ X G
  h_must_events := HasFn.is ⟨_, _, _, _, _, _, _, _, _, _, a_must_events, l_must_events, c_must_events, k_must_events⟩ X G
  h__law_cell := HasFn.is ⟨_, _, _, _, _, _, _, _, _, _, a__law_cell, l__law_cell, c__law_cell, k__law_cell⟩ X G
  h__law_row := HasFn.is ⟨_, _, _, _, _, _, _, _, _, _, a__law_row, l__law_row, c__law_row, k__law_row⟩ X G
  h__law_targets := HasFn.is ⟨_, _, _, _, _, _, _, _, _, _, a__law_targets, l__law_targets, c__law_targets, k__law_targets⟩ X G
  h__law_moves := HasFn.is ⟨_, _, _, _, _, _, _, _, _, _, a__law_moves, l__law_moves, c__law_moves, k__law_moves⟩ X G
  h__law_lined := HasFn.is ⟨_, _, _, _, _, _, _, _, _, _, a__law_lined, l__law_lined, c__law_lined, k__law_lined⟩ X G
  h__law_copied := HasFn.is ⟨_, _, _, _, _, _, _, _, _, _, a__law_copied, l__law_copied, c__law_copied, k__law_copied⟩ X G
  h__law_reach := HasFn.is ⟨_, _, _, _, _, _, _, _, _, _, a__law_reach, l__law_reach, c__law_reach, k__law_reach⟩ X G
  h__law_presses := HasFn.is ⟨_, _, _, _, _, _, _, _, _, _, a__law_presses, l__law_presses, c__law_presses, k__law_presses⟩ X G
  h__law_best_way := HasFn.is ⟨_, _, _, _, _, _, _, _, _, _, a__law_best_way, l__law_best_way, c__law_best_way, k__law_best_way⟩ X G
  h__law_is_integer := HasFn.is ⟨_, _, _, _, _, _, _, _, _, _, a__law_is_integer, l__law_is_integer, c__law_is_integer, k__law_is_integer⟩ X G
  h__law_is_row := HasFn.is ⟨_, _, _, _, _, _, _, _, _, _, a__law_is_row, l__law_is_row, c__law_is_row, k__law_is_row⟩ X G
  h__law_is_way := HasFn.is ⟨_, _, _, _, _, _, _, _, _, _, a__law_is_way, l__law_is_way, c__law_is_way, k__law_is_way⟩ X G
  h__law_leads := HasFn.is ⟨_, _, _, _, _, _, _, _, _, _, a__law_leads, l__law_leads, c__law_leads, k__law_leads⟩ X G
  h__law_prices_are_right := HasFn.is ⟨_, _, _, _, _, _, _, _, _, _, a__law_prices_are_right, l__law_prices_are_right, c__law_prices_are_right, k__law_prices_are_right⟩ X G
  h__law_is_hopeless := HasFn.is ⟨_, _, _, _, _, _, _, _, _, _, a__law_is_hopeless, l__law_is_hopeless, c__law_is_hopeless, k__law_is_hopeless⟩ X G
  h__law_says := HasFn.is ⟨_, _, _, _, _, _, _, _, _, _, a__law_says, l__law_says, c__law_says, k__law_says⟩ X G
  h__law_changed := HasFn.is ⟨_, _, _, _, _, _, _, _, _, _, a__law_changed, l__law_changed, c__law_changed, k__law_changed⟩ X G
  h__law_judges_agree := HasFn.is ⟨_, _, _, _, _, _, _, _, _, _, a__law_judges_agree, l__law_judges_agree, c__law_judges_agree, k__law_judges_agree⟩ X G
  h__law_way_is := HasFn.is ⟨_, _, _, _, _, _, _, _, _, _, a__law_way_is, l__law_way_is, c__law_way_is, k__law_way_is⟩ X G
  h__law_musts := HasFn.is ⟨_, _, _, _, _, _, _, _, _, _, a__law_musts, l__law_musts, c__law_musts, k__law_musts⟩ X G
  h__law_ascending := HasFn.is ⟨_, _, _, _, _, _, _, _, _, _, a__law_ascending, l__law_ascending, c__law_ascending, k__law_ascending⟩ X G
  h__law_are_moves := HasFn.is ⟨_, _, _, _, _, _, _, _, _, _, a__law_are_moves, l__law_are_moves, c__law_are_moves, k__law_are_moves⟩ X G
  h__law_due := HasFn.is ⟨_, _, _, _, _, _, _, _, _, _, a__law_due, l__law_due, c__law_due, k__law_due⟩ X G
  h__law_refusal := HasFn.is ⟨_, _, _, _, _, _, _, _, _, _, a__law_refusal, l__law_refusal, c__law_refusal, k__law_refusal⟩ X G
  h__law_spoilt := HasFn.is ⟨_, _, _, _, _, _, _, _, _, _, a__law_spoilt, l__law_spoilt, c__law_spoilt, k__law_spoilt⟩ X G
  h__law_refuses := HasFn.is ⟨_, _, _, _, _, _, _, _, _, _, a__law_refuses, l__law_refuses, c__law_refuses, k__law_refuses⟩ X G
  h__law_never_is := HasFn.is ⟨_, _, _, _, _, _, _, _, _, _, a__law_never_is, l__law_never_is, c__law_never_is, k__law_never_is⟩ X G
  h__law_least_is := HasFn.is ⟨_, _, _, _, _, _, _, _, _, _, a__law_least_is, l__law_least_is, c__law_least_is, k__law_least_is⟩ X G
  h_law := HasFn.is ⟨_, _, _, _, _, _, _, _, _, _, a_law, l_law, c_law, k_law⟩ X G
  R_BadGraph := ⟨_, aC_BadGraph, PySem.W.mg_of X G aC_BadGraph, x_BadGraph, kC_BadGraph, hs_BadGraph, tC_BadGraph⟩
  R_BadOrder := ⟨_, aC_BadOrder, PySem.W.mg_of X G aC_BadOrder, x_BadOrder, kC_BadOrder, hs_BadOrder, tC_BadOrder⟩
  RF_BadEvent := ⟨_, _, aC_BadEvent, PySem.W.mg_of X G aC_BadEvent, { cls := ⟨_, _, _, _, _, _, _, _, _, _, _, _, _, _, _, cl_BadEvent, rv_BadEvent⟩, sa := sa_BadEvent, noN := nf_BadEvent, iC := iC_BadEvent, tC := ti_BadEvent, kC := kC_BadEvent, exC := hs_BadEvent, veC := ve_BadEvent, tyC := tC_BadEvent, inC := PySem.W.vs_excInit cl_BadEvent xt_BadEvent, sup := PySem.W.vs_super cl_BadEvent cb_BadEvent mb_BadEvent fb_BadEvent, mro := mr_BadEvent, cs := cs_BadEvent, sm := PySem.W.mg_none_of X G sm_BadEvent, top := by kernel_rfl, bnd := fun _ _ _ _ _ _ _ _ _ _ _ _ => rfl, fn := ⟨_, _, _, _, _, _, _, _, _, _, _, _, _, _, _, _, _, _, _, _, _, _, _, _, _, _, _, _, _, _, _, _, _, li_BadEvent, ci_BadEvent, co_BadEvent, vs2_BadEvent, fi_BadEvent, ce_BadEvent, fun _ => ⟨_, rfl⟩⟩ }⟩
  EX_BadGraph := ⟨_, PySem.W.mg_of X G aC_BadGraph, (.cons aC_BadEvent (PySem.W.exm_ref hs_BadGraph hd_BadGraph tC_BadGraph su_BadEvent_BadGraph) (.cons aC_BadOrder (PySem.W.exm_ref hs_BadGraph hd_BadGraph tC_BadGraph su_BadOrder_BadGraph) (.cons aC_BadGraph (PySem.W.exm_ref hs_BadGraph hd_BadGraph tC_BadGraph su_BadGraph_BadGraph) .nil)))⟩
  EX_BadOrder := ⟨_, PySem.W.mg_of X G aC_BadOrder, (.cons aC_BadEvent (PySem.W.exm_ref hs_BadOrder hd_BadOrder tC_BadOrder su_BadEvent_BadOrder) (.cons aC_BadOrder (PySem.W.exm_ref hs_BadOrder hd_BadOrder tC_BadOrder su_BadOrder_BadOrder) (.cons aC_BadGraph (PySem.W.exm_ref hs_BadOrder hd_BadOrder tC_BadOrder su_BadGraph_BadOrder) .nil)))⟩
  EX_BadEvent := ⟨_, PySem.W.mg_of X G aC_BadEvent, (.cons aC_BadEvent (PySem.W.exm_ref hs_BadEvent hd_BadEvent tC_BadEvent su_BadEvent_BadEvent) (.cons aC_BadOrder (PySem.W.exm_ref hs_BadEvent hd_BadEvent tC_BadEvent su_BadOrder_BadEvent) (.cons aC_BadGraph (PySem.W.exm_ref hs_BadEvent hd_BadEvent tC_BadEvent su_BadGraph_BadEvent) .nil)))⟩
  FL_index := (.cons aC_BadEvent ⟨hg_BadEvent, hk_BadEvent, hs_BadEvent, hd_BadEvent⟩ nf_BadEvent .nil)
  IS_BadOrder := ⟨_, (.cons aC_BadEvent ⟨hg_BadEvent, hk_BadEvent, hs_BadEvent, hd_BadEvent, ha_BadEvent, hn_, ht_, hm_BadEvent⟩ (PySem.W.vs_kit_ref hd_BadOrder tC_BadOrder mr_BadEvent su_BadEvent_BadOrder) (.cons aC_BadOrder ⟨hg_BadOrder, hk_BadOrder, hs_BadOrder, hd_BadOrder, ha_BadOrder, hn_, ht_, hm_BadOrder⟩ (PySem.W.vs_kit_ref hd_BadOrder tC_BadOrder mr_BadOrder su_BadOrder_BadOrder) (.cons aC_BadGraph ⟨hg_BadGraph, hk_BadGraph, hs_BadGraph, hd_BadGraph, ha_BadGraph, hn_, ht_, hm_BadGraph⟩ (PySem.W.vs_kit_ref hd_BadOrder tC_BadOrder mr_BadGraph su_BadGraph_BadOrder) .nil))), .inl ⟨_, rfl, PySem.W.mg_of X G aC_BadOrder⟩⟩
  IS_BadEvent := ⟨_, (.cons aC_BadEvent ⟨hg_BadEvent, hk_BadEvent, hs_BadEvent, hd_BadEvent, ha_BadEvent, hn_, ht_, hm_BadEvent⟩ (PySem.W.vs_kit_ref hd_BadEvent tC_BadEvent mr_BadEvent su_BadEvent_BadEvent) (.cons aC_BadOrder ⟨hg_BadOrder, hk_BadOrder, hs_BadOrder, hd_BadOrder, ha_BadOrder, hn_, ht_, hm_BadOrder⟩ (PySem.W.vs_kit_ref hd_BadEvent tC_BadEvent mr_BadOrder su_BadOrder_BadEvent) (.cons aC_BadGraph ⟨hg_BadGraph, hk_BadGraph, hs_BadGraph, hd_BadGraph, ha_BadGraph, hn_, ht_, hm_BadGraph⟩ (PySem.W.vs_kit_ref hd_BadEvent tC_BadEvent mr_BadGraph su_BadGraph_BadEvent) .nil))), .inl ⟨_, rfl, PySem.W.mg_of X G aC_BadEvent⟩⟩
  IS_HouseError := ⟨_, (.cons aC_BadEvent ⟨hg_BadEvent, hk_BadEvent, hs_BadEvent, hd_BadEvent, ha_BadEvent, hn_, ht_, hm_BadEvent⟩ (PySem.W.vs_kit_ref hd_HouseError tC_HouseError mr_BadEvent su_BadEvent_HouseError) (.cons aC_BadOrder ⟨hg_BadOrder, hk_BadOrder, hs_BadOrder, hd_BadOrder, ha_BadOrder, hn_, ht_, hm_BadOrder⟩ (PySem.W.vs_kit_ref hd_HouseError tC_HouseError mr_BadOrder su_BadOrder_HouseError) (.cons aC_BadGraph ⟨hg_BadGraph, hk_BadGraph, hs_BadGraph, hd_BadGraph, ha_BadGraph, hn_, ht_, hm_BadGraph⟩ (PySem.W.vs_kit_ref hd_HouseError tC_HouseError mr_BadGraph su_BadGraph_HouseError) .nil))), .inl ⟨_, rfl, PySem.W.mg_of X G aC_HouseError⟩⟩
end
end L62
namespace L62
open PySem VS
theorem is_integer_s (i : Int) : f_is_integer [(.int i, 0)] = .ok (.bl true, 0) := by
  rw [f_is_integer, fnOf_ap]
  simp [b_is_integer, fill]
theorem is_place_s (i n : Int) : f_is_place [(.int i, 0), (.int n, 0)] = .ok (.bl (decide (0 ≤ i ∧ i < n)), 0) := by
  rw [f_is_place, fnOf_ap]
  by_cases h : 0 ≤ i <;> simp [b_is_place, fill, is_integer_s, h]
theorem lint_s (i : Int) : f__law_is_integer [(.int i, 0)] = .ok (.bl true, 0) := by
  rw [f__law_is_integer, fnOf_ap]
  simp [b__law_is_integer, fill]
theorem up_len {l : List Int} : ∀ {n : Nat} {m : Int}, l.Pairwise (· < ·) → (∀ t ∈ l, m ≤ t ∧ t < m + n) → l.length ≤ n := by
  induction l with
  | nil => intro n m _ _; exact Nat.zero_le _
  | cons a l ih =>
    intro n m hp h
    obtain ⟨h1, h2⟩ := List.pairwise_cons.mp hp
    obtain ⟨a0, a1⟩ := h a List.mem_cons_self
    have := ih (n := n - 1) (m := m + 1) h2 (fun t mt => by
      have := h1 t mt
      have := h t (List.mem_cons_of_mem _ mt)
      omega)
    rw [List.length_cons]
    omega
theorem nodup_len {l : List Int} {n : Nat} (hn : l.Nodup) (hr : ∀ t ∈ l, 0 ≤ t ∧ t < (n : Int)) : l.length ≤ n := by
  have hp : (srtI l).Perm l := List.mergeSort_perm _ _
  have hs : (srtI l).Pairwise (fun x y => decide (x ≤ y) = true) := List.pairwise_mergeSort (le := fun x y : Int => decide (x ≤ y)) (fun a b c h1 h2 => by
    simp only [decide_eq_true_eq] at *; omega) (fun a b => by simp only [Bool.or_eq_true, decide_eq_true_eq]; omega) l
  have hd : (srtI l).Nodup := hp.nodup_iff.mpr hn
  have hu : (srtI l).Pairwise (· < ·) := (List.Pairwise.and hs hd).imp fun {a b} h => by
    have h1 := of_decide_eq_true h.1
    have h2 : a ≠ b := h.2
    omega
  rw [← hp.length_eq]
  exact up_len (m := 0) hu fun t m => by have := hr t (hp.mem_iff.mp m); omega
def rng (n : Nat) : List Int := (List.range n).map fun (i : Nat) => (i : Int)
theorem zip_mem {α : Type} [Inhabited α] {l : List α} {p : α × Nat} (h : p ∈ l.zipIdx) : p.2 < l.length ∧ p.1 = gt l (p.2 : Int) ∧ p.1 ∈ l := by
  rw [List.mem_zipIdx_iff_getElem?] at h
  obtain ⟨h1, h2⟩ := List.getElem?_eq_some_iff.mp h
  refine ⟨h1, ?_, List.mem_of_getElem? h⟩
  unfold gt
  rw [Int.toNat_natCast, List.getD_eq_getElem?_getD, h]; rfl
theorem zip_eq {α : Type} [Inhabited α] (l : List α) : l.zipIdx = (List.range l.length).map fun (i : Nat) => (gt l (i : Int), i) := by
  refine List.ext_getElem? fun i => ?_
  rw [List.getElem?_map, List.getElem?_zipIdx]
  by_cases h : i < l.length
  · rw [List.getElem?_eq_getElem h, List.getElem?_range h]
    unfold gt
    simp [h]
  · rw [List.getElem?_eq_none (by omega), List.getElem?_eq_none (by simp; omega)]
    rfl
theorem rng_len (n : Nat) : (rng n).length = n := by unfold rng; simp
theorem find_zip {α : Type} [Inhabited α] (l : List α) (c : Nat → α → Bool) : (l.zipIdx.find? fun p => c p.2 p.1) = ((List.range l.length).find? fun (i : Nat) => c i (gt l (i : Int))).map fun (i : Nat) => (gt l (i : Int), i) := by
  rw [zip_eq, List.find?_map]
  rfl
theorem log_add (B : Nat) (a b : Int) (h1 : a.natAbs.log2 ≤ B) (h2 : b.natAbs < 2 ^ 17) (h3 : 17 ≤ B) : (a + b).natAbs.log2 ≤ B + 1 := by
  have e1 : a.natAbs < 2 ^ (B + 1) := Nat.lt_of_lt_of_le Nat.lt_log2_self (Nat.pow_le_pow_right (by decide) (by omega))
  have e2 : 2 ^ 17 ≤ 2 ^ (B + 1) := Nat.pow_le_pow_right (by decide) (by omega)
  have e3 : (a + b).natAbs < 2 ^ (B + 1 + 1) := by
    have : (a + b).natAbs ≤ a.natAbs + b.natAbs := Int.natAbs_add_le a b
    rw [Nat.pow_succ]
    omega
  by_cases z : (a + b).natAbs = 0
  · rw [z]; exact Nat.zero_le _
  · have := (Nat.log2_lt z).mpr e3
    omega
theorem bits_log {z : Int} {B : Nat} (h : Builtin.Int.intBits z ≤ B) : z.natAbs.log2 ≤ B := by
  unfold Builtin.Int.intBits at h
  split at h
  · rename_i e
    rw [beq_iff_eq] at e
    rw [e]; exact Nat.zero_le _
  · omega
theorem mul_small {i j : Int} (h : i.natAbs.log2 ≤ 2000000) (h2 : j.natAbs.log2 ≤ 100) : mulOk i j = true := by
  unfold mulOk
  rw [decide_eq_true_eq]
  omega
def cellV (ns : List Int) (k : Int) : Int := if k < ns.length then gt ns k else 0
theorem cell_s (ns : List Int) (k : Int) (hk : 0 ≤ k) : f__law_cell [(.scr (ns.map .int), 0), (.int k, 0)] = .ok (.int (cellV ns k), 0) := by
  rw [f__law_cell, fnOf_ap]
  unfold cellV
  by_cases c : k < ns.length
  · simp (disch := omega) [b__law_cell, fill, c, gIx_scr]
  · simp (disch := omega) [b__law_cell, fill, c]
theorem cell_log {ns : List Int} {B : Nat} (h : ∀ z ∈ ns, Builtin.Int.intBits z ≤ B) {k : Int} (hk : 0 ≤ k) : (cellV ns k).natAbs.log2 ≤ B := by
  unfold cellV
  split
  · rename_i c
    exact bits_log (h _ (gt_mem hk c))
  · exact Nat.zero_le _
theorem gt_snoc {α : Type} [Inhabited α] (l : List α) (a : α) (j : Nat) (h : j ≤ l.length) : gt (l ++ [a]) (j : Int) = if j = l.length then a else gt l (j : Int) := by
  unfold gt
  rw [Int.toNat_natCast, List.getD_eq_getElem?_getD, List.getD_eq_getElem?_getD]
  by_cases e : j = l.length
  · rw [if_pos e, e, List.getElem?_append_right (Nat.le_refl _), Nat.sub_self]; rfl
  · rw [if_neg e, List.getElem?_append_left (by omega)]
/-- a drawn row: as long as the sizes, each below its size -/
structure RowOk (sizes ns : List Int) : Prop where
  len : ns.length = sizes.length
  at_ : ∀ j : Nat, j < sizes.length → 0 ≤ gt ns (j : Int) ∧ gt ns (j : Int) < gt sizes (j : Int)
theorem row_s (b : Bool) (cell : Int) (sizes : List Int) (hc : cell.natAbs.log2 ≤ 2000000) (hl : sizes.length ≤ 1000) (hs : ∀ z ∈ sizes, 0 < z ∧ z ≤ 1000000) :
    ∃ ns : List Int, f__law_row [(.int cell, 0), (eL b (sizes.map .int), 0)] = .ok (.lst (ns.map .int), 1) ∧ RowOk sizes ns := by
  rw [f__law_row, fnOf_ap]
  have hm := mul_small (i := cell) (j := 48271) hc (by decide)
  simp [b__law_row, fill, hm]
  refine for_inv (β := Int × Int × List Int) D.int (fun s => [some (D.int cell, 0), some (eL b (sizes.map .int), 0), some (D.int s.1, 0), some (D.int s.2.1, 0), some (D.lst (s.2.2.map .int), 1), none])
    (fun i s => 0 ≤ s.2.1 ∧ s.2.1 < 2147483647 ∧ s.2.2.length = i ∧ ∀ j : Nat, j < i → 0 ≤ gt s.2.2 (j : Int) ∧ gt s.2.2 (j : Int) < gt sizes (j : Int)) (fun r => ∃ ns : List Int, r = .ok (.lst (ns.map .int), 1) ∧ RowOk sizes ns) sizes (cell, (cell * 48271 + 12345) % 2147483647, []) ?_ ?_ ?_
  · exact ⟨Int.emod_nonneg _ (by decide), Int.emod_lt_of_pos _ (by decide), rfl, fun j z => absurd z (Nat.not_lt_zero _)⟩
  · rintro i z ⟨rest, mixed, nums⟩ hz ⟨i1, i2, i3, i4⟩ K hk
    dsimp only at i1 i2 i3 i4 hk ⊢
    obtain ⟨z1, z2⟩ := hs z (List.mem_of_getElem? hz)
    have hi : i < sizes.length := (List.getElem?_eq_some_iff.mp hz).1
    have hz' : gt sizes (i : Int) = z := by
      unfold gt
      rw [Int.toNat_natCast, List.getD_eq_getElem?_getD, hz]; rfl
    have hlz : z.natAbs.log2 < 9000 := by
      have := (Nat.log2_lt (by omega)).mpr (by omega : z.natAbs < 2 ^ 20)
      omega
    have hln : nums.length < sizeLine := lt_line (by omega)
    have next : ∀ x : Int, ∀ j : Nat, j < i + 1 → 0 ≤ gt (nums ++ [x % z]) (j : Int) ∧ gt (nums ++ [x % z]) (j : Int) < gt sizes (j : Int) := fun x j hj => by
      rw [gt_snoc _ _ _ (by omega)]
      by_cases e : j = nums.length
      · rw [if_pos e]
        have : j = i := by omega
        subst this
        rw [hz']
        exact ⟨Int.emod_nonneg _ (by omega), Int.emod_lt_of_pos _ z1⟩
      · rw [if_neg e]
        exact i4 j (by omega)
    by_cases c : (1000000000000000000 : Int) ≤ cell
    · have q := hk (rest / z, mixed, nums ++ [rest % z]) ⟨i1, i2, by simp [i3], next rest⟩
      simp at q
      simp [c, z1, hlz, hln]
      exact q
    · have hm2 : mulOk mixed 16807 = true := mul_small (i := mixed) (j := 16807) (by
        by_cases w : mixed.natAbs = 0
        · rw [w]; exact Nat.zero_le _
        · have := (Nat.log2_lt w).mpr (by omega : mixed.natAbs < 2 ^ 31)
          omega) (by decide)
      have q := hk (rest, (mixed * 16807 + 54321) % 2147483647, nums ++ [(mixed * 16807 + 54321) % 2147483647 / 64 % z]) ⟨Int.emod_nonneg _ (by decide), Int.emod_lt_of_pos _ (by decide), by simp [i3], next _⟩
      simp at q
      have h64 : Nat.log2 64 < 9000 := by decide
      simp [c, z1, hlz, hln, hm2, h64]
      exact q
  · rintro ⟨rest, mixed, nums⟩ ⟨i1, i2, i3, i4⟩
    dsimp only at i3 i4 ⊢
    exact ⟨nums, by simp, i3, i4⟩
def oD : Option Int → D
  | none => .non
  | some i => .int i
end L62
namespace L62
open PySem VS
/-! graphs of moves -/
abbrev Pr := List Int × Bool
abbrev Gr := List (List Pr)
def pP (b : Bool) (p : Pr) : D := .tup [VS.eL b (p.1.map .int), .bl p.2]
def gR (b : Bool) (r : List Pr) : D := VS.eL b (r.map (pP b))
def gM (b : Bool) (g : Gr) : D := VS.eL b (g.map (gR b))
structure GM (g : Gr) (n w : Nat) : Prop where
  n0 : 0 < n
  n1 : n ≤ 60
  w1 : w ≤ 6
  len : g.length = n
  row : ∀ r ∈ g, r.length = w
  asc : ∀ r ∈ g, ∀ p ∈ r, p.1.Pairwise (· < ·)
  rng : ∀ r ∈ g, ∀ p ∈ r, ∀ t ∈ p.1, 0 ≤ t ∧ t < (n : Int)
theorem GM.at_ {g : Gr} {n w : Nat} (V : GM g n w) {r : Int} (h0 : 0 ≤ r) (h1 : r < n) : (gt g r).length = w := V.row _ (gt_mem h0 (by rw [V.len]; exact h1))
theorem GM.mem {g : Gr} {n w : Nat} (V : GM g n w) {r : Int} (h0 : 0 ≤ r) (h1 : r < n) : gt g r ∈ g := gt_mem h0 (by rw [V.len]; exact h1)
theorem GM.tl {g : Gr} {n w : Nat} (V : GM g n w) {r : List Pr} (hr : r ∈ g) {p : Pr} (hp : p ∈ r) : p.1.length ≤ n := up_len (m := 0) (V.asc r hr p hp) fun t m => by have := V.rng r hr p hp t m; omega
section
variable {b : Bool} {g : Gr} {r : List Pr} {j : Int}
theorem gIx_gM (h0 : 0 ≤ j) (h1 : j < (g.length : Int)) : gIx (gM b g) (.int j) = some (gR b (gt g j), 0) := VS.gIx_eL (gR b) h0 h1
theorem gIx_gR (h0 : 0 ≤ j) (h1 : j < (r.length : Int)) : gIx (gR b r) (.int j) = some (pP b (gt r j), 0) := VS.gIx_eL (pP b) h0 h1
@[simp] theorem gLen_gM : gLen (gM b g) = some (.int g.length, 0) := by unfold gM; rw [VS.gLen_eL, List.length_map]
@[simp] theorem gLen_gR : gLen (gR b r) = some (.int r.length, 0) := by unfold gR; rw [VS.gLen_eL, List.length_map]
@[simp] theorem iAnyK_gM (n : Nat) (sd : SD) : iAnyK (gM b g, n) sd = .ok (g.map (gR b)) sd := VS.iAnyK_eL _ n sd
@[simp] theorem iAnyK_gR (n : Nat) (sd : SD) : iAnyK (gR b r, n) sd = .ok (r.map (pP b)) sd := VS.iAnyK_eL _ n sd
@[simp] theorem iEnuK_gR (n : Nat) (sd : SD) : iEnuK (gR b r, n) sd = .ok (r.zipIdx.map fun p => .tup [.int (p.2 : Int), pP b p.1]) sd := VS.iEnuK_eL (pP b) r n sd
@[simp] theorem iEnuK_gM (n : Nat) (sd : SD) : iEnuK (gM b g, n) sd = .ok (g.zipIdx.map fun p => .tup [.int (p.2 : Int), gR b p.1]) sd := VS.iEnuK_eL (gR b) g n sd
end
theorem are_places_s (b : Bool) (row : List Int) (n : Int) (ha : row.Pairwise (· < ·)) (hr : ∀ t ∈ row, 0 ≤ t ∧ t < n) : f_are_places [(VS.eL b (row.map .int), 0), (.int n, 0)] = .ok (.bl true, 0) := by
  rw [f_are_places, fnOf_ap]
  simp [b_are_places, fill]
  refine for_gen D.int (fun last : Int => [some (VS.eL b (List.map D.int row), 0), some (D.int n, 0), some (D.int last, 0), none]) (fun l last => l.Pairwise (· < ·) ∧ ∀ t ∈ l, last < t ∧ 0 ≤ t ∧ t < n) (fun _ _ => .ok (.bl true, 0)) ?_ ?_ row (-1) ⟨ha, fun t m => by have := hr t m; omega⟩
  · intro last _
    simp
  · intro a l last K ⟨h1, h2⟩ hk
    obtain ⟨q1, q2, q3⟩ := h2 a List.mem_cons_self
    have q4 : ¬ a ≤ last := by omega
    simp [is_place_s, q2, q3, q4]
    exact hk a ⟨(List.pairwise_cons.mp h1).2, fun t m => ⟨(List.pairwise_cons.mp h1).1 t m, (h2 t (List.mem_cons_of_mem _ m)).2⟩⟩
theorem is_moves_s (b : Bool) {g : Gr} {n w : Nat} (V : GM g n w) : f_is_moves [(gM b g, 0)] = .ok (.bl true, 0) := by
  rw [f_is_moves, fnOf_ap]
  have hn0 := V.n0
  have hn1 := V.n1
  have hw := V.w1
  have hl := V.len
  have e0 : (gt g 0).length = w := V.at_ (by omega) (by omega)
  have e1 : (1 : Int) ≤ g.length := by omega
  have e2 : (g.length : Int) ≤ 60 := by omega
  have e3 : ¬ (6 : Int) < w := by omega
  simp (disch := omega) [b_is_moves, fill, gIx_gM, e0, e1, e2, e3]
  refine Eq.trans (for_all (gR b) (fun _ => true) _ (.bl false, 0) g fun row hrow K => ?_) ?_
  · have e4 := V.row row hrow
    simp (disch := omega) [gIx_gM, e0, e4]
    refine Eq.trans (for_all (pP b) (fun _ => true) _ (.bl false, 0) row fun p hp K => ?_) ?_
    · have q := are_places_s b p.1 g.length (V.asc row hrow p hp) (by rw [hl]; exact V.rng row hrow p hp)
      simp [pP, q]
    · simp
  · simp
theorem demand_q_s (b : Bool) {g : Gr} {n w : Nat} (V : GM g n w) (goals : List Int) (start : Int) (ha : goals.Pairwise (· < ·)) (hr : ∀ t ∈ goals, 0 ≤ t ∧ t < (n : Int)) (h0 : 0 ≤ start) (h1 : start < n) :
    f_demand_question [(gM b g, 0), (.lst (goals.map .int), 0), (.int start, 0)] = .ok (.non, 0) := by
  rw [f_demand_question, fnOf_ap]
  have hl := V.len
  have e : ((g.length : Nat) : Int) = (n : Int) := by omega
  have q1 := is_moves_s b V
  have q2 := are_places_s false goals n ha hr
  simp only [eL_false] at q2
  simp [b_demand_question, fill, q1, e, q2, is_place_s, h0, h1]
/-! ### the least presses -/
def edges (g : Gr) (r : Int) : List (Int × Int) := (gt g r).zipIdx.flatMap fun p => p.1.1.map fun t => ((p.2 : Int), t)
abbrev Og := Int × Option (Int × Int)
structure PS where
  O : List (Int × Og)
  q : List Int
  pr : List (Int × Int)
def keys (O : List (Int × Og)) : List Int := O.map (·.1)
def stepO (ev num r : Int) (s : PS) (e : Int × Int) : PS :=
  if e.1 = ev then { s with pr := s.pr ++ [(r, e.2)] } else if e.2 ∈ keys s.O then s else ⟨s.O ++ [(e.2, (num, some (r, e.1)))], s.q ++ [e.2], s.pr⟩
def scanR (g : Gr) (ev num : Int) (s : PS) (r : Int) : PS := (edges g r).foldl (stepO ev num r) s
def scan (g : Gr) (ev num : Int) : Nat → Nat → PS → PS
  | 0, _, s => s
  | f + 1, p, s => if p < s.q.length then scan g ev num f (p + 1) (scanR g ev num s (gt s.q (p : Int))) else s
def takeP (ev num : Int) (s : List (Int × Og) × List Int) (e : Int × Int) : List (Int × Og) × List Int :=
  if e.2 ∈ keys s.1 then s else (s.1 ++ [(e.2, (num + 1, some (e.1, ev)))], s.2 ++ [e.2])
def phase (g : Gr) (ev : Int) (n : Nat) (s : List (Int × Og) × List Int) (num : Nat) : List (Int × Og) × List Int :=
  let t := scan g ev num n 0 ⟨s.1, s.2, []⟩
  t.pr.foldl (takeP ev num) (t.O, [])
def origins (g : Gr) (n : Nat) (start ev : Int) : List (Int × Og) := ((List.range n).foldl (phase g ev n) ([(start, (0, none))], [start])).1
def dl (ev o : Int) : Int := if o = ev then 1 else 0
/-- t can be reached with k presses of ev -/
inductive Rch (g : Gr) (ev start : Int) : Int → Int → Prop
  | base : Rch g ev start start 0
  | step {r t o k : Int} : Rch g ev start r k → (o, t) ∈ edges g r → Rch g ev start t (k + dl ev o)
theorem edges_mem {g : Gr} {r : Int} {e : Int × Int} : e ∈ edges g r ↔ ∃ i : Nat, i < (gt g r).length ∧ e.1 = (i : Int) ∧ e.2 ∈ (gt (gt g r) (i : Int)).1 := by
  unfold edges
  rw [List.mem_flatMap]
  constructor
  · rintro ⟨p, hp, he⟩
    obtain ⟨h1, h2, _⟩ := zip_mem hp
    obtain ⟨t, ht, rfl⟩ := List.mem_map.mp he
    exact ⟨p.2, h1, rfl, by rw [← h2]; exact ht⟩
  · rintro ⟨i, hi, h1, h2⟩
    refine ⟨(gt (gt g r) (i : Int), i), ?_, List.mem_map.mpr ⟨e.2, h2, by rw [← h1]⟩⟩
    rw [zip_eq]
    exact List.mem_map.mpr ⟨i, List.mem_range.mpr hi, rfl⟩
theorem GM.edge {g : Gr} {n w : Nat} (V : GM g n w) {r : Int} (h0 : 0 ≤ r) (h1 : r < n) {e : Int × Int} (he : e ∈ edges g r) : 0 ≤ e.2 ∧ e.2 < (n : Int) := by
  obtain ⟨i, hi, _, h2⟩ := edges_mem.mp he
  exact V.rng _ (V.mem h0 h1) _ (gt_mem (by omega) (by omega)) _ h2
section
variable {g : Gr} {n w : Nat} {ev start : Int}
def Chain (g : Gr) (ev : Int) (O : List (Int × Og)) : Prop := ∀ pre x post, O = pre ++ x :: post → ∀ b e, x.2.2 = some (b, e) → ∃ m pb, (b, (m, pb)) ∈ pre ∧ (e, x.1) ∈ edges g b ∧ x.2.1 = m + dl ev e
theorem Chain.snoc {O : List (Int × Og)} {y : Int × Og} (h : Chain g ev O) (hy : ∀ b e, y.2.2 = some (b, e) → ∃ m pb, (b, (m, pb)) ∈ O ∧ (e, y.1) ∈ edges g b ∧ y.2.1 = m + dl ev e) : Chain g ev (O ++ [y]) := by
  intro pre x post e
  rcases List.eq_nil_or_concat post with rfl | ⟨post', z, rfl⟩
  · have := List.append_inj' e rfl
    obtain ⟨rfl, h2⟩ := this
    injection h2 with h2
    subst h2
    exact hy
  · have e2 : O ++ [y] = (pre ++ x :: post') ++ [z] := by rw [e]; simp
    have := List.append_inj' e2 rfl
    exact h pre x post' this.1
structure Base (g : Gr) (n : Nat) (ev start num : Int) (O : List (Int × Og)) (q : List Int) : Prop where
  nd : (keys O).Nodup
  rg : ∀ t ∈ keys O, 0 ≤ t ∧ t < (n : Int)
  qn : q.Nodup
  qk : ∀ t ∈ q, ∃ pb, (t, (num, pb)) ∈ O
  snd : ∀ t m pb, (t, (m, pb)) ∈ O → Rch g ev start t m ∧ 0 ≤ m
  root : (start, ((0 : Int), none)) ∈ O ∧ ∀ t m, (t, (m, none)) ∈ O → t = start
  chain : Chain g ev O
theorem keys_mem {O : List (Int × Og)} {t : Int} : t ∈ keys O ↔ ∃ m pb, (t, (m, pb)) ∈ O := by
  unfold keys
  rw [List.mem_map]
  constructor
  · rintro ⟨⟨a, m, pb⟩, h, rfl⟩; exact ⟨m, pb, h⟩
  · rintro ⟨m, pb, h⟩; exact ⟨_, h, rfl⟩
theorem keys_app (O P : List (Int × Og)) : keys (O ++ P) = keys O ++ keys P := List.map_append
theorem Base.qlen {num : Int} {O : List (Int × Og)} {q : List Int} (B : Base g n ev start num O q) : q.length ≤ n := nodup_len B.qn fun t ht => by
  obtain ⟨pb, h⟩ := B.qk t ht
  exact B.rg t (keys_mem.mpr ⟨_, _, h⟩)
theorem Base.olen {num : Int} {O : List (Int × Og)} {q : List Int} (B : Base g n ev start num O q) : O.length ≤ n := by
  have := nodup_len B.nd B.rg
  unfold keys at this
  rwa [List.length_map] at this
/-- a new entry -/
theorem Base.add (V : GM g n w) {num num' : Int} {O : List (Int × Og)} {q : List Int} (B : Base g n ev start num O q) (hq : num' = num ∨ q = []) {r m o t : Int} {pb : Option (Int × Int)} (hr : (r, (m, pb)) ∈ O) (he : (o, t) ∈ edges g r) (hm : num' = m + dl ev o) (ht : t ∉ keys O) :
    Base g n ev start num' (O ++ [(t, (num', some (r, o)))]) (q ++ [t]) := by
  have hrr := B.rg r (keys_mem.mpr ⟨_, _, hr⟩)
  have htr := V.edge hrr.1 hrr.2 he
  refine ⟨?_, ?_, ?_, ?_, ?_, ?_, ?_⟩
  · rw [keys_app, List.nodup_append]
    refine ⟨B.nd, by simp [keys], fun a ha b hb e => ?_⟩
    simp [keys] at hb
    exact ht (by rw [← hb, ← e]; exact ha)
  · intro u hu
    rw [keys_app] at hu
    rcases List.mem_append.mp hu with hu | hu
    · exact B.rg u hu
    · simp [keys] at hu
      rw [hu]; exact htr
  · rw [List.nodup_append]
    refine ⟨B.qn, by simp, fun a ha b hb e => ?_⟩
    rw [List.mem_singleton] at hb
    obtain ⟨pb', h⟩ := B.qk a ha
    exact ht (keys_mem.mpr ⟨_, _, by rw [← hb, ← e]; exact h⟩)
  · intro u hu
    rcases List.mem_append.mp hu with hu | hu
    · rcases hq with rfl | rfl
      · obtain ⟨pb', h⟩ := B.qk u hu
        exact ⟨pb', List.mem_append_left _ h⟩
      · cases hu
    · rw [List.mem_singleton] at hu
      rw [hu]
      exact ⟨_, List.mem_append_right _ List.mem_cons_self⟩
  · intro u k pb' h
    rcases List.mem_append.mp h with h | h
    · exact B.snd u k pb' h
    · rw [List.mem_singleton] at h
      injection h with h1 h2
      injection h2 with h2 h3
      subst h1; subst h2
      obtain ⟨z1, z2⟩ := B.snd r m pb hr
      rw [hm]
      exact ⟨.step z1 he, by unfold dl; split <;> omega⟩
  · refine ⟨List.mem_append_left _ B.root.1, fun u k h => ?_⟩
    rcases List.mem_append.mp h with h | h
    · exact B.root.2 u k h
    · rw [List.mem_singleton] at h
      injection h with h1 h2
      injection h2 with h2 h3
      cases h3
  · refine B.chain.snoc fun b e h => ?_
    injection h with h
    injection h with h1 h2
    subst h1; subst h2
    exact ⟨m, pb, hr, he, hm⟩
/-- the entry of a key is one -/
theorem Base.uniq {num : Int} {O : List (Int × Og)} {q : List Int} (B : Base g n ev start num O q) {t : Int} {x y : Og} (h1 : (t, x) ∈ O) (h2 : (t, y) ∈ O) : x = y := by
  have := B.nd
  clear B
  induction O with
  | nil => cases h1
  | cons z O ih =>
    unfold keys at this
    rw [List.map_cons, List.nodup_cons] at this
    rcases List.mem_cons.mp h1 with e1 | e1
    · rcases List.mem_cons.mp h2 with e2 | e2
      · rw [← e1] at e2; injection e2 with _ e2; exact e2.symm
      · exfalso; exact this.1 (List.mem_map.mpr ⟨_, e2, by rw [← e1]⟩)
    · rcases List.mem_cons.mp h2 with e2 | e2
      · exfalso; exact this.1 (List.mem_map.mpr ⟨_, e1, by rw [← e2]⟩)
      · exact ih e1 e2 this.2
/-- what one rest's edges do -/
structure Done (g : Gr) (ev num : Int) (r : Int) (s s' : PS) : Prop where
  oX : ∃ X, s'.O = s.O ++ X ∧ s'.q = s.q ++ keys X ∧ ∀ x ∈ X, x.2.1 = num
  pY : ∃ Y, s'.pr = s.pr ++ Y ∧ (∀ y ∈ Y, y.1 = r ∧ (ev, y.2) ∈ edges g r)
theorem Done.refl {num r : Int} {s : PS} : Done g ev num r s s := ⟨⟨[], by simp, by simp [keys], by simp⟩, ⟨[], by simp, by simp⟩⟩
theorem Done.trans {num r : Int} {s s1 s2 : PS} (a : Done g ev num r s s1) (b : Done g ev num r s1 s2) : Done g ev num r s s2 := by
  obtain ⟨⟨X, x1, x2, x3⟩, ⟨Y, y1, y2⟩⟩ := a
  obtain ⟨⟨X', x1', x2', x3'⟩, ⟨Y', y1', y2'⟩⟩ := b
  refine ⟨⟨X ++ X', by rw [x1', x1, List.append_assoc], by rw [x2', x2, List.append_assoc, keys_app], fun x m => ?_⟩, ⟨Y ++ Y', by rw [y1', y1, List.append_assoc], fun y m => ?_⟩⟩
  · rcases List.mem_append.mp m with m | m
    · exact x3 x m
    · exact x3' x m
  · rcases List.mem_append.mp m with m | m
    · exact y2 y m
    · exact y2' y m
theorem step_done (V : GM g n w) {num r : Int} {s : PS} {e : Int × Int} (B : Base g n ev start num s.O s.q) (hr : r ∈ s.q) (he : e ∈ edges g r) :
    Base g n ev start num (stepO ev num r s e).O (stepO ev num r s e).q ∧ Done g ev num r s (stepO ev num r s e) ∧ (e.1 ≠ ev → e.2 ∈ keys (stepO ev num r s e).O) ∧ (e.1 = ev → (r, e.2) ∈ (stepO ev num r s e).pr) := by
  unfold stepO
  by_cases h : e.1 = ev
  · rw [if_pos h]
    exact ⟨B, ⟨⟨[], by simp, by simp [keys], by simp⟩, ⟨[(r, e.2)], rfl, fun y m => by
      rw [List.mem_singleton] at m
      rw [m]
      exact ⟨rfl, by rw [← h]; exact he⟩⟩⟩, fun z => absurd h z, fun _ => List.mem_append_right _ List.mem_cons_self⟩
  · rw [if_neg h]
    by_cases h2 : e.2 ∈ keys s.O
    · rw [if_pos h2]
      exact ⟨B, .refl, fun _ => h2, fun z => absurd z h⟩
    · rw [if_neg h2]
      obtain ⟨pb, hp⟩ := B.qk r hr
      refine ⟨B.add V (.inl rfl) hp (o := e.1) (t := e.2) he (by unfold dl; rw [if_neg h]; omega) h2, ⟨⟨[(e.2, (num, some (r, e.1)))], rfl, rfl, by simp⟩, ⟨[], by simp, by simp⟩⟩, fun _ => ?_, fun z => absurd z h⟩
      rw [keys_app]
      exact List.mem_append_right _ (by simp [keys])
theorem Done.mono {num r : Int} {s s' : PS} (d : Done g ev num r s s') : (∀ t ∈ keys s.O, t ∈ keys s'.O) ∧ (∀ t ∈ s.q, t ∈ s'.q) ∧ (∀ y ∈ s.pr, y ∈ s'.pr) := by
  obtain ⟨⟨X, x1, x2, x3⟩, ⟨Y, y1, y2⟩⟩ := d
  exact ⟨fun t m => by rw [x1, keys_app]; exact List.mem_append_left _ m, fun t m => by rw [x2]; exact List.mem_append_left _ m, fun y m => by rw [y1]; exact List.mem_append_left _ m⟩
theorem fold_done (V : GM g n w) {num r : Int} : ∀ (es : List (Int × Int)) (s : PS), (∀ e ∈ es, e ∈ edges g r) → Base g n ev start num s.O s.q → r ∈ s.q →
    Base g n ev start num (es.foldl (stepO ev num r) s).O (es.foldl (stepO ev num r) s).q ∧ Done g ev num r s (es.foldl (stepO ev num r) s) ∧ ∀ e ∈ es, (e.1 ≠ ev → e.2 ∈ keys (es.foldl (stepO ev num r) s).O) ∧ (e.1 = ev → (r, e.2) ∈ (es.foldl (stepO ev num r) s).pr)
  | [], s, _, B, _ => ⟨B, .refl, fun _ m => absurd m List.not_mem_nil⟩
  | e :: es, s, he, B, hr => by
    obtain ⟨b1, d1, c1, c2⟩ := step_done V B hr (he e List.mem_cons_self)
    obtain ⟨b2, d2, c3⟩ := fold_done V es (stepO ev num r s e) (fun x m => he x (List.mem_cons_of_mem _ m)) b1 (d1.mono.2.1 r hr)
    rw [List.foldl_cons]
    refine ⟨b2, d1.trans d2, fun x m => ?_⟩
    rcases List.mem_cons.mp m with rfl | m
    · exact ⟨fun z => d2.mono.1 _ (c1 z), fun z => d2.mono.2.2 _ (c2 z)⟩
    · exact c3 x m
/-- in the middle of a phase -/
structure Mid (g : Gr) (n : Nat) (ev start num : Int) (p : Nat) (s : PS) : Prop where
  B : Base g n ev start num s.O s.q
  hp : p ≤ s.q.length
  cls : ∀ t m pb, (t, (m, pb)) ∈ s.O → t ∉ s.q → ∀ e ∈ edges g t, ∃ m' pb', (e.2, (m', pb')) ∈ s.O ∧ m' ≤ m + dl ev e.1
  clq : ∀ i : Nat, i < p → ∀ e ∈ edges g (gt s.q (i : Int)), (e.1 ≠ ev → e.2 ∈ keys s.O) ∧ (e.1 = ev → (gt s.q (i : Int), e.2) ∈ s.pr)
  prs : ∀ y ∈ s.pr, y.1 ∈ s.q ∧ (ev, y.2) ∈ edges g y.1
  le : ∀ t m pb, (t, (m, pb)) ∈ s.O → m ≤ num
theorem gt_app {α : Type} [Inhabited α] (l m : List α) (i : Nat) (h : i < l.length) : gt (l ++ m) (i : Int) = gt l (i : Int) := by
  unfold gt
  rw [Int.toNat_natCast, List.getD_eq_getElem?_getD, List.getD_eq_getElem?_getD, List.getElem?_append_left h]
theorem Mid.step (V : GM g n w) {num : Int} {p : Nat} {s : PS} (M : Mid g n ev start num p s) (h : p < s.q.length) : Mid g n ev start num (p + 1) (scanR g ev num s (gt s.q (p : Int))) := by
  have hr : gt s.q (p : Int) ∈ s.q := gt_mem (by omega) (by omega)
  obtain ⟨b, d, c⟩ := fold_done V (edges g (gt s.q (p : Int))) s (fun _ m => m) M.B hr
  have dm := d.mono
  obtain ⟨⟨X, x1, x2, x3⟩, ⟨Y, y1, y2⟩⟩ := d
  have hq : ∀ i : Nat, i < s.q.length → gt (scanR g ev num s (gt s.q (p : Int))).q (i : Int) = gt s.q (i : Int) := fun i hi => by
    unfold scanR
    rw [x2]
    exact gt_app _ _ i hi
  refine ⟨b, ?_, ?_, ?_, ?_, ?_⟩
  · unfold scanR
    rw [x2, List.length_append]
    omega
  · intro t m pb ht hn e he
    unfold scanR at ht hn ⊢
    rw [x2] at hn
    rw [x1] at ht ⊢
    rcases List.mem_append.mp ht with ht | ht
    · obtain ⟨m', pb', h1, h2⟩ := M.cls t m pb ht (fun z => hn (List.mem_append_left _ z)) e he
      exact ⟨m', pb', List.mem_append_left _ h1, h2⟩
    · exact absurd (List.mem_append_right _ (List.mem_map.mpr ⟨_, ht, rfl⟩)) hn
  · intro i hi e he
    rw [hq i (by omega)] at he ⊢
    by_cases hip : i < p
    · obtain ⟨c1, c2⟩ := M.clq i hip e he
      exact ⟨fun z => dm.1 _ (c1 z), fun z => dm.2.2 _ (c2 z)⟩
    · have : i = p := by omega
      subst this
      exact c e he
  · intro y hy
    unfold scanR at hy ⊢
    rw [y1] at hy
    rcases List.mem_append.mp hy with hy | hy
    · exact ⟨dm.2.1 _ (M.prs y hy).1, (M.prs y hy).2⟩
    · obtain ⟨z1, z2⟩ := y2 y hy
      rw [z1]
      exact ⟨dm.2.1 _ hr, z2⟩
  · intro t m pb ht
    unfold scanR at ht
    rw [x1] at ht
    rcases List.mem_append.mp ht with ht | ht
    · exact M.le t m pb ht
    · have := x3 _ ht
      simp at this
      omega
theorem scan_mid (V : GM g n w) {num : Int} : ∀ (f p : Nat) (s : PS), Mid g n ev start num p s → n ≤ p + f → ∃ p', Mid g n ev start num p' (scan g ev num f p s) ∧ (scan g ev num f p s).q.length ≤ p'
  | 0, p, s, M, h => ⟨p, M, Nat.le_trans M.B.qlen (by simpa using h)⟩
  | f + 1, p, s, M, h => by
    unfold scan
    by_cases c : p < s.q.length
    · rw [if_pos c]
      exact scan_mid V f (p + 1) _ (M.step V c) (by omega)
    · rw [if_neg c]
      exact ⟨p, M, by omega⟩
/-- between two phases -/
structure Ph (g : Gr) (n : Nat) (ev start : Int) (num : Nat) (s : List (Int × Og) × List Int) : Prop where
  B : Base g n ev start num s.1 s.2
  cls : ∀ t m pb, (t, (m, pb)) ∈ s.1 → t ∉ s.2 → ∀ e ∈ edges g t, ∃ m' pb', (e.2, (m', pb')) ∈ s.1 ∧ m' ≤ m + dl ev e.1
  le : ∀ t m pb, (t, (m, pb)) ∈ s.1 → m ≤ num
  ct : s.2 ≠ [] → num + 1 ≤ s.1.length
/-- taking what was pressed -/
structure Tk (g : Gr) (n : Nat) (ev start num : Int) (O : List (Int × Og)) (s : List (Int × Og) × List Int) : Prop where
  B : Base g n ev start (num + 1) s.1 s.2
  oX : ∃ X, s.1 = O ++ X ∧ s.2 = keys X ∧ ∀ x ∈ X, x.2.1 = num + 1
theorem Tk.step (V : GM g n w) {num : Int} {O : List (Int × Og)} {s : List (Int × Og) × List Int} (h : Tk g n ev start num O s) {y : Int × Int} (hy : ∃ pb, (y.1, (num, pb)) ∈ O) (he : (ev, y.2) ∈ edges g y.1) :
    Tk g n ev start num O (takeP ev num s y) ∧ y.2 ∈ keys (takeP ev num s y).1 ∧ ∀ t ∈ keys s.1, t ∈ keys (takeP ev num s y).1 := by
  unfold takeP
  by_cases c : y.2 ∈ keys s.1
  · rw [if_pos c]
    exact ⟨h, c, fun _ m => m⟩
  · rw [if_neg c]
    obtain ⟨X, x1, x2, x3⟩ := h.oX
    obtain ⟨pb, hp⟩ := hy
    refine ⟨⟨h.B.add V (.inl rfl) (r := y.1) (m := num) (pb := pb) (by rw [x1]; exact List.mem_append_left _ hp) he (by unfold dl; rw [if_pos rfl]) c, X ++ [(y.2, (num + 1, some (y.1, ev)))], by rw [x1, List.append_assoc], by rw [x2, keys_app]; rfl, fun x m => ?_⟩, ?_, fun t m => ?_⟩
    · rcases List.mem_append.mp m with m | m
      · exact x3 x m
      · rw [List.mem_singleton] at m; rw [m]
    · rw [keys_app]; exact List.mem_append_right _ (by simp [keys])
    · rw [keys_app]; exact List.mem_append_left _ m
theorem take_all (V : GM g n w) {num : Int} {O : List (Int × Og)} : ∀ (ys : List (Int × Int)) (s : List (Int × Og) × List Int), Tk g n ev start num O s → (∀ y ∈ ys, (∃ pb, (y.1, (num, pb)) ∈ O) ∧ (ev, y.2) ∈ edges g y.1) →
    Tk g n ev start num O (ys.foldl (takeP ev num) s) ∧ (∀ y ∈ ys, y.2 ∈ keys (ys.foldl (takeP ev num) s).1) ∧ ∀ t ∈ keys s.1, t ∈ keys (ys.foldl (takeP ev num) s).1
  | [], s, h, _ => ⟨h, fun _ m => absurd m List.not_mem_nil, fun _ m => m⟩
  | y :: ys, s, h, hy => by
    obtain ⟨h1, h2, h3⟩ := h.step V (hy y List.mem_cons_self).1 (hy y List.mem_cons_self).2
    obtain ⟨i1, i2, i3⟩ := take_all V ys _ h1 fun z m => hy z (List.mem_cons_of_mem _ m)
    rw [List.foldl_cons]
    refine ⟨i1, fun z m => ?_, fun t m => i3 t (h3 t m)⟩
    rcases List.mem_cons.mp m with rfl | m
    · exact i3 _ h2
    · exact i2 z m
theorem Base.q0 {num num' : Int} {O : List (Int × Og)} {q : List Int} (B : Base g n ev start num O q) : Base g n ev start num' O [] :=
  ⟨B.nd, B.rg, .nil, fun _ m => absurd m List.not_mem_nil, B.snd, B.root, B.chain⟩
theorem Ph.step (V : GM g n w) {num : Nat} {s : List (Int × Og) × List Int} (h : Ph g n ev start num s) : Ph g n ev start (num + 1) (phase g ev n s num) := by
  have M0 : Mid g n ev start num 0 ⟨s.1, s.2, []⟩ := ⟨h.B, Nat.zero_le _, h.cls, fun i hi => absurd hi (Nat.not_lt_zero _), fun y m => absurd m List.not_mem_nil, h.le⟩
  obtain ⟨p', M, hp'⟩ := scan_mid V n 0 _ M0 (by omega)
  have grow : ∀ (f p : Nat) (t : PS), Mid g n ev start num p t → t.O.length ≤ (scan g ev num f p t).O.length ∧ (t.q = [] → t.pr = [] → (scan g ev num f p t).pr = []) := by
    intro f
    induction f with
    | zero => intro p t _; exact ⟨Nat.le_refl _, fun _ z => z⟩
    | succ f ih =>
      intro p t Mt
      unfold scan
      by_cases c : p < t.q.length
      · rw [if_pos c]
        obtain ⟨i1, i2⟩ := ih (p + 1) _ (Mt.step V c)
        have hr : gt t.q (p : Int) ∈ t.q := gt_mem (by omega) (by omega)
        obtain ⟨_, d, _⟩ := fold_done V (edges g (gt t.q (p : Int))) t (fun _ m => m) Mt.B hr
        obtain ⟨⟨X, x1, _, _⟩, _⟩ := d
        refine ⟨Nat.le_trans ?_ i1, fun z => ?_⟩
        · unfold scanR
          rw [x1, List.length_append]
          omega
        · rw [z] at c
          exact absurd c (Nat.not_lt_zero _)
      · rw [if_neg c]
        exact ⟨Nat.le_refl _, fun _ z => z⟩
  obtain ⟨g1, g2⟩ := grow n 0 _ M0
  generalize ht : scan g ev num n 0 ⟨s.1, s.2, []⟩ = t at M hp' g1 g2
  have hpy : ∀ y ∈ t.pr, (∃ pb, (y.1, ((num : Int), pb)) ∈ t.O) ∧ (ev, y.2) ∈ edges g y.1 := fun y m => ⟨M.B.qk _ (M.prs y m).1, (M.prs y m).2⟩
  obtain ⟨T, t2, t3⟩ := take_all V t.pr (t.O, []) ⟨M.B.q0, [], by simp, rfl, by simp⟩ hpy
  have e : phase g ev n s num = t.pr.foldl (takeP ev num) (t.O, []) := by unfold phase; rw [ht]
  rw [e]
  generalize hu : t.pr.foldl (takeP ev num) (t.O, []) = u at T t2 t3
  obtain ⟨X, x1, x2, x3⟩ := T.oX
  have hcast : ((num + 1 : Nat) : Int) = (num : Int) + 1 := by omega
  refine ⟨by rw [hcast]; exact T.B, ?_, ?_, ?_⟩
  · intro a m pb ha hn e he
    rw [x1] at ha
    rcases List.mem_append.mp ha with ha | ha
    · by_cases hq : a ∈ t.q
      · obtain ⟨i, hi, ei⟩ := List.getElem_of_mem hq
        have eg : gt t.q (i : Int) = a := by
          unfold gt
          rw [Int.toNat_natCast, List.getD_eq_getElem?_getD, List.getElem?_eq_getElem hi, ei]; rfl
        obtain ⟨c1, c2⟩ := M.clq i (by omega) e (by rw [eg]; exact he)
        obtain ⟨pb', hpb⟩ := M.B.qk a hq
        have hm : m = num := by
          have := M.B.uniq ha hpb
          injection this
        by_cases c : e.1 = ev
        · have k1 := t2 _ (c2 c)
          obtain ⟨m', pb2, k2⟩ := keys_mem.mp k1
          refine ⟨m', pb2, k2, ?_⟩
          have hle : m' ≤ (num : Int) + 1 := by
            rw [x1] at k2
            rcases List.mem_append.mp k2 with k2 | k2
            · have := M.le _ _ _ k2; omega
            · have := x3 _ k2; simp at this; omega
          unfold dl
          rw [if_pos c]; omega
        · obtain ⟨m', pb2, k2⟩ := keys_mem.mp (c1 c)
          refine ⟨m', pb2, by rw [x1]; exact List.mem_append_left _ k2, ?_⟩
          have := M.le _ _ _ k2
          unfold dl
          rw [if_neg c]; omega
      · obtain ⟨m', pb', k1, k2⟩ := M.cls a m pb ha hq e he
        exact ⟨m', pb', by rw [x1]; exact List.mem_append_left _ k1, k2⟩
    · exact absurd (by rw [x2]; exact List.mem_map.mpr ⟨_, ha, rfl⟩) hn
  · intro a m pb ha
    rw [x1] at ha
    rcases List.mem_append.mp ha with ha | ha
    · have := M.le _ _ _ ha; omega
    · have := x3 _ ha; simp at this; omega
  · intro hne
    have hX : X ≠ [] := fun z => hne (by rw [x2, z]; rfl)
    have hX1 : 0 < X.length := List.length_pos_iff.mpr hX
    have hpr : t.pr ≠ [] := fun z => by
      rw [z] at hu
      rw [← hu] at x1
      simp at x1
      exact hX x1
    have hq : s.2 ≠ [] := fun z => hpr (g2 z rfl)
    have := h.ct hq
    rw [x1, List.length_append]
    show num + 1 + 1 ≤ _
    have g1' : s.1.length ≤ t.O.length := g1
    omega
/-- what the table of origins says -/
structure Org (g : Gr) (n : Nat) (ev start : Int) (O : List (Int × Og)) : Prop where
  B : Base g n ev start 0 O []
  min : ∀ t k, Rch g ev start t k → ∃ m pb, (t, (m, pb)) ∈ O ∧ m ≤ k
theorem ph0 (h0 : 0 ≤ start) (h1 : start < n) : Ph g n ev start 0 ([(start, ((0 : Int), none))], [start]) := by
  refine ⟨⟨by simp [keys], by simp [keys, h0, h1], by simp, by simp, ?_, ⟨by simp, ?_⟩, ?_⟩, ?_, ?_, fun _ => Nat.le_refl _⟩
  · intro t m pb h
    rw [List.mem_singleton] at h
    injection h with h2 h3
    injection h3 with h3 h4
    subst h2; subst h3
    exact ⟨.base, Int.le_refl _⟩
  · intro t m h
    rw [List.mem_singleton] at h
    injection h
  · intro pre x post e b o hx
    have : x ∈ [(start, ((0 : Int), (none : Option (Int × Int))))] := by
      have e' : [(start, ((0 : Int), (none : Option (Int × Int))))] = pre ++ x :: post := e
      rw [e']; simp
    rw [List.mem_singleton] at this
    rw [this] at hx
    cases hx
  · intro t m pb h hn
    rw [List.mem_singleton] at h
    injection h with h2
    exact absurd (by rw [h2]; exact List.mem_cons_self) hn
  · intro t m pb h
    rw [List.mem_singleton] at h
    injection h with h2 h3
    injection h3 with h3 h4
    omega
theorem origins_org (V : GM g n w) (h0 : 0 ≤ start) (h1 : start < n) : Org g n ev start (origins g n start ev) := by
  have P0 := ph0 (g := g) (n := n) (ev := ev) h0 h1
  have all : ∀ k, Ph g n ev start k ((List.range k).foldl (phase g ev n) ([(start, (0, none))], [start])) := by
    intro k
    induction k with
    | zero => exact P0
    | succ k ih =>
      rw [List.range_succ, List.foldl_append]
      exact ih.step V
  have P := all n
  have eo : origins g n start ev = ((List.range n).foldl (phase g ev n) ([(start, (0, none))], [start])).1 := rfl
  rw [eo]
  generalize (List.range n).foldl (phase g ev n) ([(start, (0, none))], [start]) = s at P
  have hq : s.2 = [] := by
    by_cases c : s.2 = []
    · exact c
    · have := P.ct c
      have := P.B.olen
      omega
  refine ⟨P.B.q0, fun t k hk => ?_⟩
  induction hk with
  | base => exact ⟨0, none, P.B.root.1, Int.le_refl _⟩
  | @step r t o k _ he ih =>
    obtain ⟨m, pb, i1, i2⟩ := ih
    obtain ⟨m', pb', j1, j2⟩ := P.cls r m pb i1 (by rw [hq]; exact List.not_mem_nil) _ he
    have j3 : m' ≤ m + dl ev o := j2
    exact ⟨m', pb', j1, by omega⟩
end
end L62
namespace L62
open PySem VS
def ogD : Og → D
  | (m, none) => .tup [.int m, .non, .non]
  | (m, some (b, e)) => .tup [.int m, .int b, .int e]
theorem lookup_keys {O : List (Int × Og)} {t : Int} : (O.lookup t).isSome = decide (t ∈ keys O) := by
  induction O with
  | nil => rfl
  | cons x O ih =>
    obtain ⟨k, v⟩ := x
    rw [List.lookup_cons]
    by_cases h : t = k
    · subst h; simp [keys]
    · have : (t == k) = false := by simpa using h
      rw [this]
      simp only [keys, List.map_cons, List.mem_cons, h, false_or]
      exact ih
theorem lookup_none {O : List (Int × Og)} {t : Int} (h : t ∉ keys O) : O.lookup t = none := by
  have := lookup_keys (O := O) (t := t)
  rw [decide_eq_false h] at this
  simpa using this
theorem lookup_mem {O : List (Int × Og)} {t : Int} {v : Og} (h : O.lookup t = some v) : (t, v) ∈ O := by
  induction O with
  | nil => cases h
  | cons x O ih =>
    obtain ⟨k, u⟩ := x
    rw [List.lookup_cons] at h
    by_cases e : t = k
    · subst e
      simp at h
      rw [h]; exact List.mem_cons_self
    · have : (t == k) = false := by simpa using e
      rw [this] at h
      exact List.mem_cons_of_mem _ (ih h)
theorem foldl_flat {α β γ : Type} (f : α → List β) (g : γ → β → γ) : ∀ (l : List α) (s : γ), (l.flatMap f).foldl g s = l.foldl (fun s a => (f a).foldl g s) s
  | [], s => rfl
  | a :: l, s => by rw [List.flatMap_cons, List.foldl_append, List.foldl_cons, foldl_flat f g l]
section
variable {g : Gr} {n w : Nat} {ev start : Int}
theorem keys_len (O : List (Int × Og)) : (keys O).length = O.length := List.length_map _
/-- what is asked of the state in the middle of a rest's edges -/
structure In (g : Gr) (n : Nat) (ev start num r : Int) (L : Nat) (s : PS) : Prop where
  B : Base g n ev start num s.O s.q
  r : r ∈ s.q
  pl : s.pr.length ≤ L
theorem In.step (V : GM g n w) {num r : Int} {L : Nat} {s : PS} (I : In g n ev start num r L s) {e : Int × Int} (he : e ∈ edges g r) : In g n ev start num r (L + 1) (stepO ev num r s e) := by
  obtain ⟨b, d, _⟩ := step_done V I.B I.r he
  refine ⟨b, d.mono.2.1 _ I.r, ?_⟩
  unfold stepO
  have := I.pl
  split
  · simp; omega
  · split <;> simp <;> omega
theorem moves_by_others_s (b : Bool) (V : GM g n w) {num : Int} {s : PS} (M : Mid g n ev start num 0 s) (hpr : s.pr = []) :
    f_moves_by_others [(gM b g, 0), (.int ev, 0), (kD ogD s.O, 1), (.lst (s.q.map .int), 1), (.int num, 0)] = .ok (.lst ((scan g ev num n 0 s).pr.map prD), 1) [(kD ogD (scan g ev num n 0 s).O, 1), (.lst ((scan g ev num n 0 s).q.map .int), 1)] := by
  rw [f_moves_by_others, fnIO_ap]
  have hl := V.len
  have hn1 := V.n1
  have hw := V.w1
  simp [b_moves_by_others, fill]
  refine Exists.elim (whO_inv (ws := [7, 8, 9, 10, 11]) (c := tst (op2 gLt (rdv 6) (bor1 gLen 3))) (body := zSeq (zSet 7 (ixv 3 (rdv 6)))
    (zSeq (zFor [8, 9, 10, 11] (iEnu (ixv 0 (rdv 7))) (gT [(gN 8), (gT [(gN 9), (gN 10)])])
    (zFor [11] (iAny (rdv 9)) (gN 11)
    (zIf (tst (op2 gEq (rdv 8) (rdv 1))) (zApp 5 (dTup (aCons (rdv 7) (aCons (rdv 11) aNil)))) (zIf (tst (bor2 (gInD true) (rdv 11) 2)) (zSeq (zPutD 2 (rdv 11) (dTup (aCons (rdv 4) (aCons (rdv 7) (aCons (rdv 8) aNil)))))
    (zApp 3 (rdv 11))) zNil))))
    (zSet 6 (op2 gAdd (rdv 6) (cst (.int 1))))))
    (fun (x : Nat × PS) => [some (gM b g, 0), some (.int ev, 0), some (kD ogD x.2.O, 1), some (.lst (x.2.q.map .int), 1), some (.int num, 0), some (.lst (x.2.pr.map prD), 1), some (.int x.1, 0), none, none, none, none, none])
    (fun x => Mid g n ev start num x.1 x.2 ∧ scan g ev num (n - x.1) x.1 x.2 = scan g ev num n 0 s ∧ x.2.pr.length ≤ x.1 * 360) (fun x => n - x.1) (fun x => ¬ x.1 < x.2.q.length) (fun x hx => ?_) bigN (0, s) ⟨M, rfl, by rw [hpr]; simp⟩ (by show n - 0 < bigN; unfold bigN; omega)) ?_
  rotate_left
  · rintro ⟨p', s'⟩ ⟨⟨P1, P2, _⟩, hE, e⟩
    have e2 : scan g ev num (n - p') p' s' = s' := by
      cases n - p' with
      | zero => rfl
      | succ f => unfold scan; rw [if_neg hE]
    dsimp only at P2
    rw [e2] at P2
    subst P2
    have e' := e
    simp [hpr] at e'
    rw [e']
    simp
  · obtain ⟨p, s1⟩ := x
    obtain ⟨M1, hsc, hpl⟩ := hx
    dsimp only at M1 hsc hpl ⊢
    have hql := M1.B.qlen
    by_cases c : p < s1.q.length
    case neg =>
      refine .inl ⟨c, ?_⟩
      have c' : ¬ (p : Int) < (s1.q.length : Int) := by omega
      simp [c']
    refine .inr ⟨(p + 1, scanR g ev num s1 (gt s1.q (p : Int))), ⟨M1.step V c, ?_, ?_⟩, by dsimp only; omega, ?_⟩
    · rw [← hsc]
      dsimp only
      have : n - p = (n - (p + 1)) + 1 := by omega
      rw [this]
      show _ = if p < s1.q.length then _ else _
      rw [if_pos c]
    all_goals
      have hr : gt s1.q (p : Int) ∈ s1.q := gt_mem (by omega) (by omega)
      have hrk : 0 ≤ gt s1.q (p : Int) ∧ gt s1.q (p : Int) < (n : Int) := by
        obtain ⟨pb, h⟩ := M1.B.qk _ hr
        exact M1.B.rg _ (keys_mem.mpr ⟨_, _, h⟩)
      have hrl := V.at_ hrk.1 hrk.2
      have hrm := V.mem hrk.1 hrk.2
    · -- the length of what was pressed
      dsimp only
      have key : ∀ (es : List (Int × Int)) (s2 : PS), (es.foldl (stepO ev num (gt s1.q (p : Int))) s2).pr.length ≤ s2.pr.length + es.length := by
        intro es
        induction es with
        | nil => intro s2; simp
        | cons e es ih =>
          intro s2
          rw [List.foldl_cons]
          refine Nat.le_trans (ih _) ?_
          have : (stepO ev num (gt s1.q (p : Int)) s2 e).pr.length ≤ s2.pr.length + 1 := by
            unfold stepO
            split
            · simp
            · split <;> simp
          rw [List.length_cons]
          omega
      have h1 := key (edges g (gt s1.q (p : Int))) s1
      have h2 : (edges g (gt s1.q (p : Int))).length ≤ 360 := by
        unfold edges
        have : ∀ (l : List (Pr × Nat)), (∀ x ∈ l, x.1.1.length ≤ 60) → (l.flatMap fun x => x.1.1.map fun t => ((x.2 : Int), t)).length ≤ 60 * l.length := by
          intro l
          induction l with
          | nil => intro _; simp
          | cons x l ih =>
            intro hx
            rw [List.flatMap_cons, List.length_append, List.length_map, List.length_cons]
            have := ih fun y m => hx y (List.mem_cons_of_mem _ m)
            have := hx x List.mem_cons_self
            omega
        have := this (gt g (gt s1.q (p : Int))).zipIdx fun x m => by
          obtain ⟨_, _, pm⟩ := zip_mem m
          have := V.tl hrm pm
          omega
        rw [List.length_zipIdx, hrl] at this
        omega
      unfold scanR
      omega
    · have hp60 : p < 60 := by omega
      simp (disch := omega) [gIx_lst, gIx_gM]
      simp [c]
      refine And.elim (fun o1 o2 => ?_) (forO_gen (ws := [8, 9, 10, 11]) (g := gT [(gN 8), (gT [(gN 9), (gN 10)])]) (body := zFor [11] (iAny (rdv 9)) (gN 11)
          (zIf (tst (op2 gEq (rdv 8) (rdv 1))) (zApp 5 (dTup (aCons (rdv 7) (aCons (rdv 11) aNil)))) (zIf (tst (bor2 (gInD true) (rdv 11) 2)) (zSeq (zPutD 2 (rdv 11) (dTup (aCons (rdv 4) (aCons (rdv 7) (aCons (rdv 8) aNil)))))
          (zApp 3 (rdv 11))) zNil)))
        (fun x : Pr × Nat => D.tup [.int x.2, pP b x.1])
        (fun (s2 : PS) => [some (gM b g, 0), some (.int ev, 0), some (kD ogD s2.O, 1), some (.lst (s2.q.map .int), 1), some (.int num, 0), some (.lst (s2.pr.map prD), 1), some (.int p, 0), some (.int (gt s1.q (p : Int)), 0), none, none, none, none])
        (fun l s2 => In g n ev start num (gt s1.q (p : Int)) (p * 360 + 360 - 60 * l.length) s2 ∧ l.length ≤ 6 ∧ ∀ x ∈ l, x ∈ (gt g (gt s1.q (p : Int))).zipIdx)
        (fun s2 x => (x.1.1.map fun t => ((x.2 : Int), t)).foldl (stepO ev num (gt s1.q (p : Int))) s2) ?_ (gt g (gt s1.q (p : Int))).zipIdx s1 ⟨⟨M1.B, hr, by rw [List.length_zipIdx]; omega⟩, by rw [List.length_zipIdx]; omega, fun _ m => m⟩)
      · have e1 : ∀ s2 : PS, (gt g (gt s1.q (p : Int))).zipIdx.foldl (fun s2 x => (x.1.1.map fun t => ((x.2 : Int), t)).foldl (stepO ev num (gt s1.q (p : Int))) s2) s2 = scanR g ev num s2 (gt s1.q (p : Int)) := fun s2 => (foldl_flat _ _ _ _).symm
        rw [e1] at o1
        rw [o1]
        simp
      · rintro ⟨⟨ts, en⟩, o⟩ l s2 ⟨I, hl6, hm⟩
        rw [List.length_cons] at I hl6
        obtain ⟨ho, hge, pm⟩ := zip_mem (hm _ List.mem_cons_self)
        have htl := V.tl hrm pm
        dsimp only at ho hge htl ⊢
        have hed : ∀ t ∈ ts, ((o : Int), t) ∈ edges g (gt s1.q (p : Int)) := fun t ht => edges_mem.mpr ⟨o, ho, rfl, by rw [← hge]; exact ht⟩
        refine And.elim (fun i1 i2 => ?_) (forO_gen (ws := [11]) (g := gN 11) (body := zIf (tst (op2 gEq (rdv 8) (rdv 1))) (zApp 5 (dTup (aCons (rdv 7) (aCons (rdv 11) aNil)))) (zIf (tst (bor2 (gInD true) (rdv 11) 2)) (zSeq (zPutD 2 (rdv 11) (dTup (aCons (rdv 4) (aCons (rdv 7) (aCons (rdv 8) aNil)))))
            (zApp 3 (rdv 11))) zNil)) D.int
          (fun (s3 : PS) => [some (gM b g, 0), some (.int ev, 0), some (kD ogD s3.O, 1), some (.lst (s3.q.map .int), 1), some (.int num, 0), some (.lst (s3.pr.map prD), 1), some (.int p, 0), some (.int (gt s1.q (p : Int)), 0), some (.int o, 0), some (VS.eL b (ts.map .int), 0), some (.bl en, 0), none])
          (fun l2 s3 => In g n ev start num (gt s1.q (p : Int)) (p * 360 + 360 - 60 * l.length - l2.length) s3 ∧ l2.length ≤ 60 ∧ ∀ t ∈ l2, t ∈ ts)
          (fun s3 t => stepO ev num (gt s1.q (p : Int)) s3 ((o : Int), t)) ?_ ts s2 ⟨⟨I.B, I.r, by have := I.pl; omega⟩, by omega, fun _ m => m⟩)
        · have e2 : (ts.map fun t => ((o : Int), t)).foldl (stepO ev num (gt s1.q (p : Int))) s2 = ts.foldl (fun s3 t => stepO ev num (gt s1.q (p : Int)) s3 ((o : Int), t)) s2 := List.foldl_map
          refine ⟨⟨?_, by omega, fun x m => hm x (List.mem_cons_of_mem _ m)⟩, ?_⟩
          · rw [e2]
            have := i2.1
            simpa using this
          · simp [pP]
            rw [i1]
            simp [e2]
        · rintro t l2 s3 ⟨I3, h60, hmt⟩
          rw [List.length_cons] at I3 h60
          have het := hed t (hmt t List.mem_cons_self)
          refine ⟨⟨?_, by omega, fun x m => hmt x (List.mem_cons_of_mem _ m)⟩, ?_⟩
          · have := I3.step V het
            refine ⟨this.B, this.r, Nat.le_trans this.pl (by omega)⟩
          · have b1 := lt_line (n := s3.pr.length) (by have := I3.pl; omega)
            have b2 := lt_line (n := s3.q.length) (by have := I3.B.qlen; omega)
            have hO := I3.B.olen
            unfold stepO
            by_cases c1 : (o : Int) = ev
            · simp [c1, b1, prD]
            · by_cases c2 : t ∈ keys s3.O
              · have hk : (s3.O.lookup t).isSome = true := by rw [lookup_keys]; exact decide_eq_true c2
                simp [c1, c2, hk]
              · have hn := lookup_none c2
                have hput := dPutD_new ogD s3.O t (num, some (gt s1.q (p : Int), (o : Int))) hn (by omega)
                have hput' : dPutD (kD ogD s3.O) (.int t) (.tup [.int num, .int (gt s1.q (p : Int)), .int (o : Int)]) = some (kD ogD (s3.O ++ [(t, (num, some (gt s1.q (p : Int), (o : Int))))])) := hput
                simp [c1, c2, hn, hput', b2]
end
end L62
namespace L62
open PySem VS
section
variable {g : Gr} {n w : Nat} {ev start : Int}
theorem press_origins_s (b : Bool) (V : GM g n w) (h0 : 0 ≤ start) (h1 : start < n) (ev : Int) :
    f_press_origins [(gM b g, 0), (.int start, 0), (.int ev, 0)] = .ok (kD ogD (origins g n start ev), 1) := by
  rw [f_press_origins, fnOf_ap]
  have hl := V.len
  have hn1 := V.n1
  simp (disch := omega) [b_press_origins, fill, iR1K_ok]
  have P0 := ph0 (g := g) (n := n) (ev := ev) h0 h1
  refine Eq.trans (for_gen (fun (i : Nat) => D.int i) (fun (s : List (Int × Og) × List Int) => [some (gM b g, 0), some (.int start, 0), some (.int ev, 0), some (kD ogD s.1, 1), some (.lst (s.2.map .int), 1), none, none, none, none])
    (fun l s => ∃ k, k ≤ n ∧ l = List.range' k (n - k) ∧ Ph g n ev start k s) (fun l s => .ok (kD ogD (l.foldl (phase g ev n) s).1, 1)) ?_ ?_ (List.range g.length) ([(start, (0, none))], [start]) ⟨0, Nat.zero_le _, by rw [hl, List.range_eq_range']; rfl, P0⟩) ?_
  · intro s _
    simp
  · rintro a l s K ⟨k, hk, e, P⟩ hK
    have hkn : k < n := by
      rcases Nat.lt_or_ge k n with c | c
      · exact c
      · rw [show n - k = 0 by omega] at e; cases e
    obtain ⟨m, hm⟩ : ∃ m, n - k = m + 1 := ⟨n - k - 1, by omega⟩
    rw [hm, List.range'_succ] at e
    injection e with e1 e2
    subst e1
    have hm2 : m = n - (a + 1) := by omega
    have M0 : Mid g n ev start a 0 ⟨s.1, s.2, []⟩ := ⟨P.B, Nat.zero_le _, P.cls, fun i hi => absurd hi (Nat.not_lt_zero _), fun y m => absurd m List.not_mem_nil, P.le⟩
    have q := moves_by_others_s b V M0 rfl
    obtain ⟨p', M, hp'⟩ := scan_mid V n 0 _ M0 (by omega)
    have hk' := hK (phase g ev n s a) ⟨a + 1, by omega, by rw [e2, hm2], P.step V⟩
    have eph : phase g ev n s a = (scan g ev a n 0 ⟨s.1, s.2, []⟩).pr.foldl (takeP ev a) ((scan g ev a n 0 ⟨s.1, s.2, []⟩).O, []) := rfl
    rw [List.foldl_cons]
    simp at q
    simp [q]
    generalize scan g ev a n 0 ⟨s.1, s.2, []⟩ = t at M hp' eph
    have hpy : ∀ y ∈ t.pr, (∃ pb, (y.1, ((a : Int), pb)) ∈ t.O) ∧ (ev, y.2) ∈ edges g y.1 := fun y m => ⟨M.B.qk _ (M.prs y m).1, (M.prs y m).2⟩
    refine Eq.trans (for_foldP prD (fun (u : List (Int × Og) × List Int) => [some (gM b g, 0), some (.int start, 0), some (.int ev, 0), some (kD ogD u.1, 1), some (.lst (u.2.map .int), 1), some (.int a, 0), some (.lst (t.pr.map prD), 0), none, none])
      (Tk g n ev start a t.O) (takeP ev a) t.pr (t.O, []) ⟨M.B.q0, [], by simp, rfl, by simp⟩ ?_) ?_
    · intro y hy u hu
      obtain ⟨T, _, _⟩ := hu.step V (hpy y hy).1 (hpy y hy).2
      refine ⟨T, fun K => ?_⟩
      have hO := hu.B.olen
      have b2 := lt_line (n := u.2.length) (by have := hu.B.qlen; omega)
      obtain ⟨r, t'⟩ := y
      unfold takeP
      by_cases c2 : t' ∈ keys u.1
      · have hk : (u.1.lookup t').isSome = true := by rw [lookup_keys]; exact decide_eq_true c2
        simp [c2, hk, prD]
      · have hn := lookup_none c2
        have hput := dPutD_new ogD u.1 t' ((a : Int) + 1, some (r, ev)) hn (by omega)
        have hput' : dPutD (kD ogD u.1) (.int t') (.tup [.int ((a : Int) + 1), .int r, .int ev]) = some (kD ogD (u.1 ++ [(t', ((a : Int) + 1, some (r, ev)))])) := hput
        simp [c2, hn, hput', b2, prD]
    · rw [← eph]
      simpa using hk'
  · rw [hl]; rfl
def numO (O : List (Int × Og)) (t : Int) : Int := match O.lookup t with
  | some v => v.1
  | none => 0
@[simp] theorem gIx_og (v : Og) : gIx (ogD v) (.int 0) = some (.int v.1, 0) := by
  obtain ⟨m, pb⟩ := v
  cases pb with
  | none => simp [ogD]
  | some x => obtain ⟨b, e⟩ := x; simp [ogD]
theorem lookup_some {O : List (Int × Og)} {t : Int} (h : t ∈ keys O) : ∃ v, O.lookup t = some v := by
  have := lookup_keys (O := O) (t := t)
  rw [decide_eq_true h] at this
  exact Option.isSome_iff_exists.mp this
def betG (O : List (Int × Og)) (best : Option Int) (goal : Int) : Option Int := match best with
  | none => if goal ∈ keys O then some goal else none
  | some c => if goal ∈ keys O ∧ numO O goal < numO O c then some goal else some c
def bestG (O : List (Int × Og)) (goals : List Int) : Option Int := goals.foldl (betG O) none
theorem best_goal_s (O : List (Int × Og)) (k : Nat) (goals : List Int) : f_best_goal [(kD ogD O, k), (.lst (goals.map .int), 0)] = .ok (oD (bestG O goals), 0) := by
  rw [f_best_goal, fnOf_ap]
  simp [b_best_goal, fill]
  have key : ∀ (goals : List Int) (best : Option Int) (k : Nat), (∀ c, best = some c → c ∈ keys O) → ∀ (l : List Int), (forGo [3] (gN 3) (zIf (tAnd' (tst (bor2 (gInD false) (rdv 3) 0)) (tOr' (tst (op2 (gIs false) (rdv 2) (cst .non))) (tst (op2 gLt (op2 gIx (ixd 0 (rdv 3)) (cst (.int 0))) (op2 gIx (ixd 0 (rdv 2)) (cst (.int 0))))))) (zSet 2 (rdv 3)) zNil) (goals.map D.int)
      [some (kD ogD O, k), some (.lst (l.map .int), 0), some (oD best, 0), none]).fin (seqK (zRet (mvv 2)) (kE (D.non, 0)) kS kS) kS kS = .ok (oD (goals.foldl (betG O) best), 0) := by
    intro goals
    induction goals with
    | nil => intro best k _ l; rw [List.map_nil, forGo_nil]; simp
    | cons a goals ih =>
      intro best k hb l
      rw [List.map_cons, forGo_cons, List.foldl_cons]
      by_cases c : a ∈ keys O
      · obtain ⟨v, hv⟩ := lookup_some c
        cases best with
        | none =>
          have e : betG O none a = some a := by unfold betG; exact if_pos c
          rw [e]
          have := ih (some a) k (fun c' h => by injection h with h; rw [← h]; exact c) l
          simp [hv, oD] at this ⊢
          exact this
        | some d =>
          have hd := hb d rfl
          obtain ⟨u, hu⟩ := lookup_some hd
          have na : numO O a = v.1 := by unfold numO; rw [hv]
          have nd : numO O d = u.1 := by unfold numO; rw [hu]
          by_cases c2 : v.1 < u.1
          · have e : betG O (some d) a = some a := by unfold betG; exact if_pos ⟨c, by rw [na, nd]; exact c2⟩
            rw [e]
            have := ih (some a) (min (min k 1) 1) (fun c' h => by injection h with h; rw [← h]; exact c) l
            simp [hv, hu, oD, c2] at this ⊢
            exact this
          · have e : betG O (some d) a = some d := by unfold betG; exact if_neg fun z => c2 (by rw [na, nd] at z; exact z.2)
            rw [e]
            have := ih (some d) (min (min k 1) 1) (fun c' h => by injection h with h; rw [← h]; exact hd) l
            simp [hv, hu, oD, c2] at this ⊢
            exact this
      · have hn := lookup_none c
        have e : betG O best a = best := by
          unfold betG
          cases best with
          | none => exact if_neg c
          | some d => exact if_neg fun z => c z.1
        rw [e]
        have := ih best k hb l
        simp [hn] at this ⊢
        exact this
  exact key goals none k (fun c h => by cases h) goals
/-! the way back -/
def wayR (O : List (Int × Og)) : Nat → Int → List (Int × Int)
  | 0, _ => []
  | f + 1, t => match O.lookup t with
    | some (_, some (b, e)) => (e, t) :: wayR O f b
    | _ => []
theorem lookup_of {O : List (Int × Og)} (nd : (keys O).Nodup) {t : Int} {v : Og} (h : (t, v) ∈ O) : O.lookup t = some v := by
  induction O with
  | nil => cases h
  | cons x O ih =>
    obtain ⟨k, u⟩ := x
    unfold keys at nd
    rw [List.map_cons, List.nodup_cons] at nd
    rw [List.lookup_cons]
    rcases List.mem_cons.mp h with e | e
    · injection e with e1 e2
      subst e1; subst e2
      simp
    · have : (t == k) = false := by
        simp
        intro z
        subst z
        exact nd.1 (List.mem_map.mpr ⟨_, e, rfl⟩)
      rw [this]
      exact ih nd.2 e
theorem wayR_fuel {O : List (Int × Og)} (nd : (keys O).Nodup) (ch : Chain g ev O) : ∀ (N : Nat) (pre : List (Int × Og)) (x : Int × Og) (post : List (Int × Og)), pre.length ≤ N → O = pre ++ x :: post → ∀ f, pre.length + 1 ≤ f → wayR O f x.1 = wayR O (pre.length + 1) x.1 := by
  intro N
  induction N with
  | zero =>
    intro pre x post hN e f hf
    have : pre = [] := List.length_eq_zero_iff.mp (by omega)
    subst this
    obtain ⟨f, rfl⟩ : ∃ k, f = k + 1 := ⟨f - 1, by simp at hf; omega⟩
    have hx : O.lookup x.1 = some x.2 := lookup_of nd (by rw [e]; simp)
    obtain ⟨t, m, pb⟩ := x
    dsimp only at hx ⊢
    cases pb with
    | none => unfold wayR; rw [hx]
    | some y =>
      obtain ⟨b, o⟩ := y
      obtain ⟨m', pb', h1, _⟩ := ch [] _ post e b o rfl
      cases h1
  | succ N ih =>
    intro pre x post hN e f hf
    obtain ⟨f, rfl⟩ : ∃ k, f = k + 1 := ⟨f - 1, by omega⟩
    have hx : O.lookup x.1 = some x.2 := lookup_of nd (by rw [e]; simp)
    obtain ⟨t, m, pb⟩ := x
    dsimp only at hx ⊢
    cases pb with
    | none => unfold wayR; rw [hx]
    | some y =>
      obtain ⟨b, o⟩ := y
      obtain ⟨m', pb', h1, _⟩ := ch pre _ post e b o rfl
      obtain ⟨p1, p2, e2⟩ := List.append_of_mem h1
      have e3 : O = p1 ++ (b, (m', pb')) :: (p2 ++ (t, (m, some (b, o))) :: post) := by rw [e, e2]; simp
      have hl : p1.length < pre.length := by rw [e2]; simp <;> omega
      have i1 := ih p1 _ _ (by omega) e3 f (by omega)
      have i2 := ih p1 _ _ (by omega) e3 pre.length (by omega)
      unfold wayR
      rw [hx]
      dsimp only at i1 i2 ⊢
      rw [i1, i2]
def bD : Og → D
  | (_, some (b, _)) => .int b
  | _ => .non
def eD : Og → D
  | (_, some (_, e)) => .int e
  | _ => .non
theorem way_to_s {num : Int} {O : List (Int × Og)} {q : List Int} (B : Base g n ev start num O q) (hn : n ≤ 60) {t : Int} (ht : t ∈ keys O) (k : Nat) :
    f_way_to [(kD ogD O, k), (.int t, 0)] = .ok (.tup ((wayR O O.length t).reverse.map prD), 0) := by
  rw [f_way_to, fnOf_ap]
  obtain ⟨v, hv⟩ := lookup_some ht
  have hog : ∀ (v : Og) (sd : SD) (F : SD → FR), (tgO (gT [gN 3, gN 4, gN 5] (ogD v) sd)).fin F kS kS = F (((sd.set 3 (some (.int v.1, 0))).set 4 (some (bD v, 0))).set 5 (some (eD v, 0))) := fun v sd F => by
    obtain ⟨m, pb⟩ := v
    cases pb with
    | none => simp [ogD, bD, eD]
    | some x => obtain ⟨b, e⟩ := x; simp [ogD, bD, eD]
  have hog2 : ∀ (v : Og) (sd : SD), gT [gN 3, gN 4, gN 5] (ogD v) sd = some (((sd.set 3 (some (.int v.1, 0))).set 4 (some (bD v, 0))).set 5 (some (eD v, 0))) := fun v sd => by
    obtain ⟨m, pb⟩ := v
    cases pb with
    | none => simp [ogD, bD, eD]
    | some x => obtain ⟨b, e⟩ := x; simp [ogD, bD, eD]
  simp [b_way_to, fill, hv, hog2]
  have hm := lookup_mem hv
  obtain ⟨pre0, post0, e0⟩ := List.append_of_mem hm
  have hO := B.olen
  refine Eq.trans (wh_inv (fun (x : List (Int × Int) × Int × Og × Option (D × Nat) × Nat) => [some (kD ogD O, x.2.2.2.2), some (.int x.2.1, 0), some (.lst (x.1.map prD), 1), x.2.2.2.1, some (bD x.2.2.1, 0), some (eD x.2.2.1, 0)])
    (fun x => ∃ pre post, O = pre ++ (x.2.1, x.2.2.1) :: post ∧ x.1 ++ wayR O (pre.length + 1) x.2.1 = wayR O O.length t ∧ x.1.length + pre.length ≤ 60) (fun x => (keys O).idxOf x.2.1) (fun fr => fr = .ok (.tup ((wayR O O.length t).reverse.map prD), 0)) ?_ bigN ([], t, v, some (.int v.1, 0), min k 1) ⟨pre0, post0, e0, ?_, ?_⟩ ?_) (by rw [List.map_reverse])
  · rintro ⟨way, r, x, o3, k⟩ ⟨pre, post, e, hw, hlen⟩ K hK
    dsimp only at e hw hlen hK ⊢
    have hx : O.lookup r = some x := lookup_of B.nd (by rw [e]; simp)
    obtain ⟨m, pb⟩ := x
    cases pb with
    | none =>
      have e1 : wayR O (pre.length + 1) r = [] := by unfold wayR; rw [hx]
      rw [e1, List.append_nil] at hw
      subst hw
      simp [bD, gIs]
    | some y =>
      obtain ⟨b, o⟩ := y
      obtain ⟨m', pb', h1, _⟩ := B.chain pre _ post e b o rfl
      obtain ⟨p1, p2, e2⟩ := List.append_of_mem h1
      have e3 : O = p1 ++ (b, (m', pb')) :: (p2 ++ (r, (m, some (b, o))) :: post) := by rw [e, e2]; simp
      have hl : p1.length < pre.length := by rw [e2]; simp <;> omega
      have hb : O.lookup b = some (m', pb') := lookup_of B.nd (by rw [e3]; simp)
      have i2 := wayR_fuel (g := g) (ev := ev) B.nd B.chain p1.length p1 _ _ (Nat.le_refl _) e3 pre.length (by omega)
      have ew : wayR O (pre.length + 1) r = (o, r) :: wayR O (p1.length + 1) b := by
        show (match O.lookup r with
          | some (_, some (b, e)) => (e, r) :: wayR O pre.length b
          | _ => []) = _
        rw [hx]
        dsimp only at i2 ⊢
        rw [i2]
      have hlt := lt_line (n := way.length) (by omega)
      have idx : ∀ (pre : List (Int × Og)) (x : Int × Og) (post : List (Int × Og)), O = pre ++ x :: post → (keys O).idxOf x.1 = pre.length := by
        intro pre x post e
        have nd := B.nd
        rw [e] at nd ⊢
        unfold keys at nd ⊢
        rw [List.map_append, List.map_cons] at nd ⊢
        rw [List.nodup_append] at nd
        rw [List.idxOf_append]
        have : x.1 ∉ pre.map (·.1) := fun z => nd.2.2 _ z _ List.mem_cons_self rfl
        rw [if_neg this, List.idxOf_cons_self, List.length_map]
        omega
      have hk := hK (way ++ [(o, r)], b, (m', pb'), none, min k 1) ⟨p1, _, e3, by rw [← hw, ew]; simp, by simp; omega⟩ (by
        dsimp only
        have a1 := idx pre _ post e
        have a2 := idx p1 _ _ e3
        dsimp only at a1 a2
        rw [a1, a2]
        exact hl)
      dsimp only at hk
      have hb1 : bD (m, some (b, o)) = .int b := rfl
      have he1 : eD (m, some (b, o)) = .int o := rfl
      simp [hb1, he1, gIs, hlt, hb, hog2]
      simpa [prD] using hk
  · have := wayR_fuel (g := g) (ev := ev) B.nd B.chain pre0.length pre0 _ _ (Nat.le_refl _) e0 O.length (by rw [e0]; simp <;> omega)
    dsimp only at this ⊢
    rw [List.nil_append, ← this]
  · simp
    have : pre0.length ≤ O.length := by rw [e0]; simp
    omega
  · show (keys O).idxOf t < bigN
    have : (keys O).idxOf t ≤ (keys O).length := List.idxOf_le_length
    rw [keys_len] at this
    unfold bigN
    omega
/-! prices -/
def priceO (O : List (Int × Og)) (number r : Int) : Int := if r ∈ keys O then min (numO O r) number else number
theorem press_prices_s (b : Bool) (V : GM g n w) (O : List (Int × Og)) (k : Nat) (number : Int) : f_press_prices [(gM b g, 0), (kD ogD O, k), (.int number, 0)] = .ok (.tup (((rng n).map (priceO O number)).map .int), 0) := by
  rw [f_press_prices, fnOf_ap]
  have hl := V.len
  have hn1 := V.n1
  simp (disch := omega) [-List.map_map, b_press_prices, fill, iR1K_ok]
  have key : ∀ (is : List Nat) (acc : List Int) (k : Nat), acc.length + is.length ≤ 60 → (forGo [4, 5] (gN 4) (zSeq (zSet 5 (rdv 2)) (zSeq (zIf (tst (bor2 (gInD false) (rdv 4) 1)) (zSet 5 (opN gMinE (aCons (op2 gIx (ixd 1 (rdv 4)) (cst (.int 0))) (aCons (rdv 2) aNil)))) zNil) (zApp 3 (rdv 5)))) (is.map fun (i : Nat) => D.int i)
      [some (gM b g, 0), some (kD ogD O, k), some (.int number, 0), some (.lst (acc.map .int), 1), none, none]).fin (seqK (zRet (opN (un1 gTuple) (aCons (rdv 3) aNil))) (kE (D.non, 0)) kS kS) kS kS = .ok (.tup ((acc ++ is.map fun (i : Nat) => priceO O number i).map .int), 0) := by
    intro is
    induction is with
    | nil => intro acc k _; rw [List.map_nil, forGo_nil]; simp
    | cons i is ih =>
      intro acc k hl
      rw [List.length_cons] at hl
      rw [List.map_cons, forGo_cons]
      have hlt := lt_line (n := acc.length) (by omega)
      by_cases c : (i : Int) ∈ keys O
      · obtain ⟨v, hv⟩ := lookup_some c
        have na : priceO O number i = min v.1 number := by unfold priceO numO; rw [if_pos c, hv]
        have := ih (acc ++ [min v.1 number]) (min k 1) (by simp; omega)
        have gm : ∀ a b : Int, gMinE [.int a, .int b] = some (.int (min a b), 0) := fun _ _ => rfl
        simp [hv, gm, hlt, na] at this ⊢
        exact this
      · have hn := lookup_none c
        have na : priceO O number i = number := by unfold priceO; rw [if_neg c]
        have := ih (acc ++ [number]) k (by simp; omega)
        simp [hn, hlt, na] at this ⊢
        exact this
  have := key (List.range g.length) [] k (by simp; omega)
  rw [hl] at this ⊢
  have e2 : (rng n).map (priceO O number) = (List.range n).map (fun (i : Nat) => priceO O number i) := by unfold rng; rw [List.map_map]; rfl
  rw [e2]
  exact this
/-! least presses -/
def leastD (g : Gr) (n : Nat) (goals : List Int) (start ev : Int) : D := match bestG (origins g n start ev) goals with
  | none => .tup [.str "never", .tup ((srtI (keys (origins g n start ev))).map .int)]
  | some c => .tup [.str "least", .int (numO (origins g n start ev) c), .tup ((wayR (origins g n start ev) (origins g n start ev).length c).reverse.map prD), .tup (((rng n).map (priceO (origins g n start ev) (numO (origins g n start ev) c))).map .int)]
theorem bestG_mem {O : List (Int × Og)} : ∀ (goals : List Int) (best : Option Int), (∀ c, best = some c → c ∈ keys O) → ∀ c, goals.foldl (betG O) best = some c → c ∈ keys O
  | [], best, h => h
  | a :: goals, best, h => by
    rw [List.foldl_cons]
    refine bestG_mem goals _ fun c hc => ?_
    unfold betG at hc
    cases best with
    | none =>
      dsimp only at hc
      split at hc
      · injection hc with hc; rw [← hc]; assumption
      · cases hc
    | some d =>
      dsimp only at hc
      split at hc
      · rename_i z; injection hc with hc; rw [← hc]; exact z.1
      · injection hc with hc; rw [← hc]; exact h d rfl
theorem kD_sorted {α : Type} (enc : α → D) (l : List (Int × α)) : gSorted2 (kD enc l) = some (.lst ((srtI (l.map (·.1))).map .int), 1) := by
  have := gSorted2_dct (l.map (·.1)) (l.map fun p => enc p.2)
  rw [List.map_map] at this
  exact this
theorem least_presses_s (b : Bool) (V : GM g n w) (goals : List Int) (ha : goals.Pairwise (· < ·)) (hr : ∀ t ∈ goals, 0 ≤ t ∧ t < (n : Int)) (h0 : 0 ≤ start) (h1 : start < n) (ev : Int) (e0 : 0 ≤ ev) (e1 : ev < w) :
    f_least_presses [(gM b g, 0), (.lst (goals.map .int), 0), (.int start, 0), (.int ev, 0)] = .ok (leastD g n goals start ev, 0) := by
  rw [f_least_presses, fnOf_ap]
  have hl := V.len
  have hn0 := V.n0
  have hr0 := V.at_ (r := 0) (by omega) (by omega)
  have q1 := demand_q_s b V goals start ha hr h0 h1
  have q2 := press_origins_s b V h0 h1 ev
  have OG := origins_org (ev := ev) V h0 h1
  have q3 := best_goal_s (origins g n start ev) 0 goals
  simp (disch := omega) [b_least_presses, fill, q1, gIx_gM, is_place_s, hr0, e0, e1, q2, q3]
  unfold leastD
  cases h : bestG (origins g n start ev) goals with
  | none =>
    have := kD_sorted ogD (origins g n start ev)
    simp [oD, this, keys, gIs]
  | some c =>
    have hc := bestG_mem goals none (fun c h => by cases h) c h
    obtain ⟨v, hv⟩ := lookup_some hc
    have nc : numO (origins g n start ev) c = v.1 := by unfold numO; rw [hv]
    have q4 := way_to_s OG.B V.n1 hc 0
    have q5 := press_prices_s b V (origins g n start ev) 0 v.1
    simp [oD, hv, gIs, q4, q5, nc]
theorem betG_none {O : List (Int × Og)} : ∀ (goals : List Int) (best : Option Int), goals.foldl (betG O) best = none ↔ best = none ∧ ∀ t ∈ goals, t ∉ keys O
  | [], best => by simp
  | a :: goals, best => by
    rw [List.foldl_cons, betG_none goals]
    cases best with
    | none =>
      unfold betG
      by_cases c : a ∈ keys O <;> simp [c]
    | some d =>
      unfold betG
      dsimp only
      constructor
      · rintro ⟨z, _⟩
        split at z <;> cases z
      · rintro ⟨z, _⟩; cases z
theorem reach_any {t k ev' : Int} (h : Rch g ev start t k) : ∃ k', Rch g ev' start t k' := by
  induction h with
  | base => exact ⟨0, .base⟩
  | step _ he ih => obtain ⟨k', h⟩ := ih; exact ⟨_, .step h he⟩
theorem keys_iff {O : List (Int × Og)} (h : Org g n ev start O) {t : Int} : t ∈ keys O ↔ ∃ k, Rch g ev start t k := by
  rw [keys_mem]
  constructor
  · rintro ⟨m, pb, z⟩; exact ⟨m, (h.B.snd t m pb z).1⟩
  · rintro ⟨k, z⟩; obtain ⟨m, pb, z, _⟩ := h.min t k z; exact ⟨m, pb, z⟩
def mustB (g : Gr) (n : Nat) (goals : List Int) (start : Int) (ev : Int) : Bool := match bestG (origins g n start ev) goals with
  | none => false
  | some c => decide (0 < numO (origins g n start ev) c)
def mustD (g : Gr) (n w : Nat) (goals : List Int) (start : Int) : D := match bestG (origins g n start (-1)) goals with
  | none => .non
  | some _ => .tup (((rng w).filter (mustB g n goals start)).map .int)
theorem must_events_s (b : Bool) (V : GM g n w) (goals : List Int) (ha : goals.Pairwise (· < ·)) (hr : ∀ t ∈ goals, 0 ≤ t ∧ t < (n : Int)) (h0 : 0 ≤ start) (h1 : start < n) :
    f_must_events [(gM b g, 0), (.lst (goals.map .int), 0), (.int start, 0)] = .ok (mustD g n w goals start, 0) := by
  rw [f_must_events, fnOf_ap]
  have hl := V.len
  have hn0 := V.n0
  have hw := V.w1
  have hr0 := V.at_ (r := 0) (by omega) (by omega)
  have q1 := demand_q_s b V goals start ha hr h0 h1
  have q2 := press_origins_s b V h0 h1 (-1)
  have q3 := best_goal_s (origins g n start (-1)) 0 goals
  unfold mustD
  cases h : bestG (origins g n start (-1)) goals with
  | none =>
    rw [h] at q3
    simp (disch := omega) [b_must_events, fill, q1, q2, q3, oD, gIs]
  | some c =>
    rw [h] at q3
    simp (disch := omega) [b_must_events, fill, q1, q2, q3, oD, gIx_gM, hr0, iR1K_ok, gIs]
    refine Eq.trans (for_collect (fun (i : Nat) => D.int i) (fun (acc : List Int) => [some (gM b g, 0), some (.lst (goals.map .int), 0), some (.int start, 0), some (.lst (acc.map .int), 1), none])
      (fun (i : Nat) => if mustB g n goals start i = true then some (i : Int) else none) (List.range w) [] (by simp; omega) ?_) ?_
    · intro i hi acc hacc K
      have hi' := List.mem_range.mp hi
      have q := least_presses_s b V goals ha hr h0 h1 (i : Int) (by omega) (by omega)
      have hlt := lt_line hacc
      have O1 := origins_org (ev := (i : Int)) V h0 h1
      have O2 := origins_org (ev := (-1 : Int)) V h0 h1
      unfold leastD at q
      unfold mustB
      cases hb : bestG (origins g n start (i : Int)) goals with
      | none =>
        exfalso
        have z := ((betG_none goals none).mp hb).2
        have : bestG (origins g n start (-1)) goals = none := (betG_none goals none).mpr ⟨rfl, fun t ht hk => z t ht ((keys_iff O1).mpr (by
          obtain ⟨k, hk⟩ := (keys_iff O2).mp hk
          exact reach_any hk))⟩
        rw [this] at h
        cases h
      | some d =>
        rw [hb] at q
        by_cases c2 : 0 < numO (origins g n start (i : Int)) d <;> simp [q, c2, hlt]
    · have e : (List.range w).filterMap (fun (i : Nat) => if mustB g n goals start i = true then some (i : Int) else none) = (rng w).filter (mustB g n goals start) := by
        unfold rng
        induction List.range w with
        | nil => rfl
        | cons i l ih =>
          rw [List.filterMap_cons, List.map_cons, List.filter_cons, ih]
          by_cases c : mustB g n goals start i = true <;> simp [c]
      rw [e]
      simp
end
end L62
namespace L62
open PySem VS
/-- the numbers found -/
def fN (O : List (Int × Og)) (t : Int) : Int := match O.lookup t with
  | some v => v.1
  | none => -1
def fnd (O : List (Int × Og)) (n : Nat) : List Int := (List.range n).map fun (t : Nat) => fN O (t : Int)
theorem fnd_len (O : List (Int × Og)) (n : Nat) : (fnd O n).length = n := by unfold fnd; simp
theorem gt_nat {α : Type} [Inhabited α] (l : List α) (i : Nat) (h : i < l.length) : gt l (i : Int) = l[i] := by
  unfold gt
  rw [List.getD_eq_getElem?_getD, List.getElem?_eq_getElem (by simpa using h)]
  simp
theorem fnd_at (O : List (Int × Og)) (n : Nat) {t : Int} (h0 : 0 ≤ t) (h1 : t < n) : gt (fnd O n) t = fN O t := by
  obtain ⟨i, rfl⟩ := Int.eq_ofNat_of_zero_le h0
  have hi : i < n := by omega
  rw [gt_nat _ _ (by rw [fnd_len]; exact hi)]
  unfold fnd
  simp
theorem fN_snoc (O : List (Int × Og)) (t k : Int) (pb : Option (Int × Int)) (hn : O.lookup t = none) (x : Int) : fN (O ++ [(t, (k, pb))]) x = if x = t then k else fN O x := by
  unfold fN
  rw [List.lookup_append]
  by_cases c : x = t
  · rw [if_pos c, c, hn]
    simp
  · rw [if_neg c]
    have : List.lookup x [(t, (k, pb))] = none := by
      have : (x == t) = false := beq_eq_false_iff_ne.mpr c
      simp [List.lookup, this]
    rw [this, Option.or_none]
theorem fnd_set (O : List (Int × Og)) (n : Nat) (t k : Int) (pb : Option (Int × Int)) (hn : O.lookup t = none) (h0 : 0 ≤ t) : (fnd O n).set t.toNat k = fnd (O ++ [(t, (k, pb))]) n := by
  unfold fnd
  refine List.ext_getElem (by simp) fun i h1 h2 => ?_
  rw [List.getElem_set, List.getElem_map, List.getElem_map, List.getElem_range, fN_snoc O t k pb hn]
  by_cases c : (i : Int) = t
  · rw [if_pos c, if_pos (by omega)]
  · rw [if_neg c, if_neg (by omega)]
theorem fnd0 (n : Nat) (start : Int) (h0 : 0 ≤ start) : (List.replicate n (-1 : Int)).set start.toNat 0 = fnd [(start, (0, none))] n := by
  have : List.replicate n (-1 : Int) = fnd [] n := by
    unfold fnd fN
    simp [List.lookup, List.map_const']
  rw [this, fnd_set [] n start 0 none rfl h0]
  rfl
section
variable {g : Gr} {n w : Nat} {ev start : Int}
theorem for_scan {ws : List Nat} {tg : Tg} {body : Sm} {kn kb kc : SD → FR} {α β : Type} (enc : α → D) (S : β → SD) (P : List α → β → Prop) (f : List α → β → β) (h0 : ∀ b, P [] b → f [] b = b)
    (hs : ∀ a l b, P (a :: l) b → (∃ b', P l b' ∧ f (a :: l) b = f l b' ∧ ∀ K, trn ws tg body (enc a) (S b) K kn = K (S b')) ∨ (f (a :: l) b = b ∧ ∀ K, trn ws tg body (enc a) (S b) K kn = kn (S b))) (l : List α) (b : β) (hp : P l b) :
    (forGo ws tg body (l.map enc) (S b)).fin kn kb kc = kn (S (f l b)) := by
  refine for_gen enc S P (fun l b => kn (S (f l b))) (fun b h => by rw [h0 b h]) (fun a l b K h hk => ?_) l b hp
  rcases hs a l b h with ⟨b', p, e, q⟩ | ⟨e, q⟩
  · rw [q K, hk b' p, e]
  · rw [q K, e]
theorem edges_rng (r : Int) : edges g r = (List.range (gt g r).length).flatMap fun (o : Nat) => (gt (gt g r) (o : Int)).1.map fun t => ((o : Int), t) := by
  unfold edges
  rw [zip_eq, List.flatMap_map]
theorem Base.fN_lt {num : Int} {O : List (Int × Og)} {q : List Int} (B : Base g n ev start num O q) (t : Int) : fN O t < 0 ↔ t ∉ keys O := by
  unfold fN
  constructor
  · intro h c
    obtain ⟨v, hv⟩ := lookup_some c
    rw [hv] at h
    obtain ⟨m, pb⟩ := v
    have := (B.snd t m pb (lookup_mem hv)).2
    dsimp only at h
    omega
  · intro c
    rw [lookup_none c]
    decide
theorem scanR_len (V : GM g n w) {num r : Int} (h0 : 0 ≤ r) (h1 : r < n) (s : PS) : (scanR g ev num s r).pr.length ≤ s.pr.length + 360 := by
  have hw := V.w1
  have hn1 := V.n1
  have hrl := V.at_ h0 h1
  have hrm := V.mem h0 h1
  have key : ∀ (es : List (Int × Int)) (s2 : PS), (es.foldl (stepO ev num r) s2).pr.length ≤ s2.pr.length + es.length := by
    intro es
    induction es with
    | nil => intro s2; simp
    | cons e es ih =>
      intro s2
      rw [List.foldl_cons]
      refine Nat.le_trans (ih _) ?_
      have : (stepO ev num r s2 e).pr.length ≤ s2.pr.length + 1 := by
        unfold stepO
        split
        · simp
        · split <;> simp
      rw [List.length_cons]
      omega
  have h1 := key (edges g r) s
  have h2 : (edges g r).length ≤ 360 := by
    unfold edges
    have : ∀ (l : List (Pr × Nat)), (∀ x ∈ l, x.1.1.length ≤ 60) → (l.flatMap fun x => x.1.1.map fun t => ((x.2 : Int), t)).length ≤ 60 * l.length := by
      intro l
      induction l with
      | nil => intro _; simp
      | cons x l ih =>
        intro hx
        rw [List.flatMap_cons, List.length_append, List.length_map, List.length_cons]
        have := ih fun y m => hx y (List.mem_cons_of_mem _ m)
        have := hx x List.mem_cons_self
        omega
    have := this (gt g r).zipIdx fun x m => by
      obtain ⟨_, _, pm⟩ := zip_mem m
      have := V.tl hrm pm
      omega
    rw [List.length_zipIdx, hrl] at this
    omega
  unfold scanR
  omega
theorem In.mono {num r : Int} {L L' : Nat} {s : PS} (I : In g n ev start num r L s) (h : L ≤ L') : In g n ev start num r L' s := ⟨I.B, I.r, Nat.le_trans I.pl h⟩
theorem In.fold (V : GM g n w) {num r : Int} : ∀ (es : List (Int × Int)) {L : Nat} {s : PS}, In g n ev start num r L s → (∀ e ∈ es, e ∈ edges g r) → In g n ev start num r (L + es.length) (es.foldl (stepO ev num r) s)
  | [], L, s, I, _ => I
  | e :: es, L, s, I, h => by
    rw [List.foldl_cons]
    exact (In.fold V es (I.step V (h e List.mem_cons_self)) fun x m => h x (List.mem_cons_of_mem _ m)).mono (by rw [List.length_cons]; omega)
theorem stepO_q {num r : Int} {s : PS} {e : Int × Int} {p : Nat} {z : Int} (h : p < s.q.length ∧ gt s.q (p : Int) = z) : p < (stepO ev num r s e).q.length ∧ gt (stepO ev num r s e).q (p : Int) = z := by
  unfold stepO
  split
  · exact h
  · split
    · exact h
    · refine ⟨by simp; omega, ?_⟩
      show gt (s.q ++ [e.2]) (p : Int) = z
      rw [gt_app _ _ _ h.1]; exact h.2
theorem foldO_q {num r : Int} {p : Nat} {z : Int} : ∀ (es : List (Int × Int)) {s : PS}, (p < s.q.length ∧ gt s.q (p : Int) = z) → p < (es.foldl (stepO ev num r) s).q.length ∧ gt (es.foldl (stepO ev num r) s).q (p : Int) = z
  | [], s, h => h
  | e :: es, s, h => by rw [List.foldl_cons]; exact foldO_q es (stepO_q h)
def fS (b : Bool) (g : Gr) (n : Nat) (start ev num : Int) (s : PS) (x8 x9 x10 : Option (D × Nat)) : SD := [some (gM b g, 0), some (.int start, 0), some (.int ev, 0), some (.lst ((fnd s.O n).map .int), 1), none, some (.lst (s.q.map .int), 1), some (.int num, 0), some (.lst ((s.pr.map (·.2)).map .int), 1), x8, x9, x10]
theorem law_presses_s (b : Bool) (V : GM g n w) (h0 : 0 ≤ start) (h1 : start < n) (ev : Int) :
    f__law_presses [(gM b g, 0), (.int start, 0), (.int ev, 0)] = .ok (.lst ((fnd (origins g n start ev) n).map .int), 1) := by
  rw [f__law_presses, fnOf_ap]
  have hl := V.len
  have hn1 := V.n1
  have hw := V.w1
  simp (disch := omega) [b__law_presses, fill]
  rw [lc_map (gR b) (fun _ => D.int (-1)) _ g (Nat.le_of_lt (lt_line (by omega))) (fun a m K => by simp)]
  have e1 : g.map (fun _ => D.int (-1)) = (List.replicate n (-1 : Int)).map .int := by rw [← hl]; simp [List.map_const']
  rw [e1]
  simp (disch := omega) [ixN_ok, iR1K_ok]
  rw [hl]
  have P0 := ph0 (g := g) (n := n) (ev := ev) h0 h1
  have e3 : (List.replicate n (D.int (-1))).set start.toNat (D.int 0) = (fnd [(start, (0, none))] n).map .int := by rw [← fnd0 n start h0, List.map_set, List.map_replicate]
  rw [e3]
  refine for_gen (fun (i : Nat) => D.int i) (fun (s : List (Int × Og) × List Int) => [some (gM b g, 0), some (.int start, 0), some (.int ev, 0), some (.lst ((fnd s.1 n).map .int), 1), none, some (.lst (s.2.map .int), 1), none, none, none, none, none])
    (fun l s => ∃ k, k ≤ n ∧ l = List.range' k (n - k) ∧ Ph g n ev start k s) (fun l s => .ok (.lst ((fnd (l.foldl (phase g ev n) s).1 n).map .int), 1)) ?_ ?_ (List.range n) ([(start, (0, none))], [start]) ⟨0, Nat.zero_le _, by rw [List.range_eq_range']; rfl, P0⟩
  · intro s _
    simp
  · rintro a l s K ⟨k, hk, e, P⟩ hK
    have hkn : k < n := by
      rcases Nat.lt_or_ge k n with c | c
      · exact c
      · rw [show n - k = 0 by omega] at e; cases e
    obtain ⟨m, hm⟩ : ∃ m, n - k = m + 1 := ⟨n - k - 1, by omega⟩
    rw [hm, List.range'_succ] at e
    injection e with e1 e2
    subst e1
    have hm2 : m = n - (a + 1) := by omega
    have M0 : Mid g n ev start a 0 ⟨s.1, s.2, []⟩ := ⟨P.B, Nat.zero_le _, P.cls, fun i hi => absurd hi (Nat.not_lt_zero _), fun y m => absurd m List.not_mem_nil, P.le⟩
    obtain ⟨p', M, hp'⟩ := scan_mid V n 0 _ M0 (by omega)
    have hk' := hK (phase g ev n s a) ⟨a + 1, by omega, by rw [e2, hm2], P.step V⟩
    have eph : phase g ev n s a = (scan g ev a n 0 ⟨s.1, s.2, []⟩).pr.foldl (takeP ev a) ((scan g ev a n 0 ⟨s.1, s.2, []⟩).O, []) := rfl
    rw [List.foldl_cons]
    simp (disch := omega) [iR1K_ok]
    rw [hl]
    refine Eq.trans (for_scan (fun (i : Nat) => D.int i) (fun (t : PS) => fS b g n start ev a t none none none)
      (fun l t => ∃ k, k ≤ n ∧ l = List.range' k (n - k) ∧ Mid g n ev start a k t ∧ t.pr.length ≤ k * 360)
      (fun l t => scan g ev a l.length (n - l.length) t) (fun t _ => rfl) ?_ (List.range n) ⟨s.1, s.2, []⟩ ⟨0, Nat.zero_le _, by rw [List.range_eq_range']; rfl, M0, by simp⟩) ?_
    · rintro p l t ⟨k2, hk2, el, M1, hpl⟩
      have hk2n : k2 < n := by
        rcases Nat.lt_or_ge k2 n with c | c
        · exact c
        · rw [show n - k2 = 0 by omega] at el; cases el
      obtain ⟨m2, hm2'⟩ : ∃ m, n - k2 = m + 1 := ⟨n - k2 - 1, by omega⟩
      rw [hm2', List.range'_succ] at el
      injection el with el1 el2
      subst el1
      have hll : l.length = n - (p + 1) := by rw [el2, List.length_range']; omega
      have e9 : n - (p + 1 + (n - (p + 1)) - p) = p := by omega
      by_cases c : p < t.q.length
      · have hr : gt t.q (p : Int) ∈ t.q := gt_mem (by omega) (by omega)
        have hrk : 0 ≤ gt t.q (p : Int) ∧ gt t.q (p : Int) < (n : Int) := by
          obtain ⟨pb, h⟩ := M1.B.qk _ hr
          exact M1.B.rg _ (keys_mem.mpr ⟨_, _, h⟩)
        have hrl := V.at_ hrk.1 hrk.2
        have hrm := V.mem hrk.1 hrk.2
        refine .inl ⟨scanR g ev a t (gt t.q (p : Int)), ⟨p + 1, by omega, by rw [el2]; congr 1; omega, M1.step V c, ?_⟩, ?_, fun K => ?_⟩
        · have := scanR_len (ev := ev) (num := a) V hrk.1 hrk.2 t
          omega
        · rw [List.length_cons, hll]
          have e1 : n - (n - (p + 1) + 1) = p := by omega
          have e2 : n - (n - (p + 1)) = p + 1 := by omega
          rw [e1, e2]
          show (if p < t.q.length then _ else _) = _
          rw [if_pos c]
        · unfold fS
          have hc : ¬ t.q.length ≤ p := by omega
          simp (disch := omega) [-List.map_map, gIx_lst, gIx_gM, iR1K_ok, hrl, hc]
          generalize hgr : gt t.q (p : Int) = r at hr hrk hrl hrm
          refine Eq.trans (for_scan (fun (i : Nat) => D.int i) (fun (s2 : PS) => fS b g n start ev a s2 (some (.int p, 0)) none none)
            (fun l2 s2 => In g n ev start a r (p * 360 + 360 - 60 * l2.length) s2 ∧ l2.length ≤ 6 ∧ (∀ o ∈ l2, o < w) ∧ (p < s2.q.length ∧ gt s2.q (p : Int) = r))
            (fun l2 s2 => l2.foldl (fun s3 (o : Nat) => ((gt (gt g r) (o : Int)).1.map fun y => ((o : Int), y)).foldl (stepO ev a r) s3) s2) (fun s2 _ => rfl) ?_ (List.range w) t ⟨⟨M1.B, hr, by rw [List.length_range]; omega⟩, by rw [List.length_range]; omega, fun o m => List.mem_range.mp m, c, hgr⟩) ?_
          · rintro o l2 s2 ⟨I, hl6, hm, hq⟩
            rw [List.length_cons] at I hl6
            have ho := hm o List.mem_cons_self
            have hpm : gt (gt g r) (o : Int) ∈ gt g r := gt_mem (by omega) (by omega)
            have htl := V.tl hrm hpm
            have hed : ∀ y ∈ (gt (gt g r) (o : Int)).1, ((o : Int), y) ∈ edges g r := fun y hy => edges_mem.mpr ⟨o, by omega, rfl, hy⟩
            have hrg := V.rng _ hrm _ hpm
            refine .inl ⟨_, ⟨(In.fold V _ I fun e he => by
                obtain ⟨y, hy, rfl⟩ := List.mem_map.mp he
                exact hed y hy).mono (by rw [List.length_map]; omega), by omega, fun x m => hm x (List.mem_cons_of_mem _ m), foldO_q _ hq⟩, rfl, fun K => ?_⟩
            have gq : gIx (.lst (List.map D.int s2.q)) (.int p) = some (.int r, 0) := by rw [gIx_lst D.int (by omega) (by omega), hq.2]
            unfold fS
            simp (disch := omega) [-List.map_map, gq, gIx_gM, gIx_gR, hrl, pP]
            generalize (gt (gt g r) (o : Int)).1 = ts at htl hed hrg
            refine Eq.trans (for_scan D.int (fun (s3 : PS) => fS b g n start ev a s3 (some (.int p, 0)) (some (.int o, 0)) none)
              (fun l3 s3 => In g n ev start a r (p * 360 + 360 - 60 * l2.length - l3.length) s3 ∧ l3.length ≤ 60 ∧ ∀ y ∈ l3, y ∈ ts)
              (fun l3 s3 => l3.foldl (fun s4 y => stepO ev a r s4 ((o : Int), y)) s3) (fun s3 _ => rfl) ?_ ts s2 ⟨I.mono (by omega), by omega, fun _ m => m⟩) ?_
            · rintro y l3 s3 ⟨I3, h60, hmt⟩
              rw [List.length_cons] at I3 h60
              have hy := hmt y List.mem_cons_self
              have het := hed y hy
              obtain ⟨y0, y1⟩ := hrg y hy
              refine .inl ⟨_, ⟨(I3.step V het).mono (by omega), by omega, fun x m => hmt x (List.mem_cons_of_mem _ m)⟩, rfl, fun K => ?_⟩
              have b1 := lt_line (n := s3.pr.length) (by have := I3.pl; omega)
              have b2 := lt_line (n := s3.q.length) (by have := I3.B.qlen; omega)
              have hfl := fnd_len s3.O n
              have hfa := fnd_at s3.O n y0 y1
              have hlt := I3.B.fN_lt y
              unfold fS stepO
              by_cases c1 : (o : Int) = ev
              · simp [-List.map_map, c1, b1]
              · by_cases c2 : y ∈ keys s3.O
                · have hk : ¬ fN s3.O y < 0 := fun z => hlt.mp z c2
                  simp (disch := omega) [-List.map_map, c1, c2, gIx_lst, hfl, hfa, hk]
                · have hn := lookup_none c2
                  have hk : fN s3.O y < 0 := hlt.mpr c2
                  have e5 := fnd_set s3.O n y (a : Int) (some (r, (o : Int))) hn y0
                  have e6 : (List.map D.int (fnd s3.O n)).set y.toNat (.int (a : Int)) = (fnd (s3.O ++ [(y, ((a : Int), some (r, (o : Int))))]) n).map .int := by rw [← e5, List.map_set]
                  simp (disch := omega) [-List.map_map, c1, c2, gIx_lst, hfl, hfa, hk, ixN_ok, b2, e6]
            · have e2 : (ts.map fun y => ((o : Int), y)).foldl (stepO ev a r) s2 = ts.foldl (fun s4 y => stepO ev a r s4 ((o : Int), y)) s2 := List.foldl_map
              rw [← e2]
              unfold fS
              simp [-List.map_map]
          · have e1 : (List.range w).foldl (fun s3 (o : Nat) => ((gt (gt g r) (o : Int)).1.map fun y => ((o : Int), y)).foldl (stepO ev a r) s3) t = scanR g ev a t r := by
              unfold scanR
              rw [edges_rng, hrl]
              exact (foldl_flat _ _ _ _).symm
            rw [e1]
            unfold fS
            simp [-List.map_map]
      · refine .inr ⟨?_, fun K => ?_⟩
        · rw [List.length_cons, hll]
          have e1 : n - (n - (p + 1) + 1) = p := by omega
          rw [e1]
          show (if p < t.q.length then _ else _) = _
          rw [if_neg c]
        · have c' : (t.q.length : Int) ≤ (p : Int) := by omega
          unfold fS
          simp [-List.map_map, c']
    · rw [List.length_range, Nat.sub_self]
      generalize scan g ev a n 0 ⟨s.1, s.2, []⟩ = t at M hp' eph
      have hpy : ∀ y ∈ t.pr, (∃ pb, (y.1, ((a : Int), pb)) ∈ t.O) ∧ (ev, y.2) ∈ edges g y.1 := fun y m => ⟨M.B.qk _ (M.prs y m).1, (M.prs y m).2⟩
      unfold fS
      simp [-List.map_map]
      rw [List.map_map]
      have em : t.pr.map (fun x => D.int x.2) = t.pr.map (fun y : Int × Int => D.int y.2) := rfl
      refine Eq.trans (for_foldP (fun y : Int × Int => D.int y.2) (fun (u : List (Int × Og) × List Int) => [some (gM b g, 0), some (.int start, 0), some (.int ev, 0), some (.lst ((fnd u.1 n).map .int), 1), none, some (.lst (u.2.map .int), 1), some (.int a, 0), some (.lst (t.pr.map fun y : Int × Int => D.int y.2), 0), none, none, none])
        (Tk g n ev start a t.O) (takeP ev a) t.pr (t.O, []) ⟨M.B.q0, [], by simp, rfl, by simp⟩ ?_) ?_
      · intro y hy u hu
        obtain ⟨T, _, _⟩ := hu.step V (hpy y hy).1 (hpy y hy).2
        refine ⟨T, fun K => ?_⟩
        have hyr := hu.B.rg
        have hrr := V.edge (M.B.rg _ (keys_mem.mpr ⟨_, _, (hpy y hy).1.choose_spec⟩)).1 (M.B.rg _ (keys_mem.mpr ⟨_, _, (hpy y hy).1.choose_spec⟩)).2 (hpy y hy).2
        obtain ⟨r, t'⟩ := y
        dsimp only at hrr
        have hfl := fnd_len u.1 n
        have hfa := fnd_at u.1 n hrr.1 hrr.2
        have b2 := lt_line (n := u.2.length) (by have := hu.B.qlen; omega)
        have hlt := hu.B.fN_lt t'
        have hO := hu.B.olen
        unfold takeP
        by_cases c2 : t' ∈ keys u.1
        · have hk : ¬ fN u.1 t' < 0 := fun z => hlt.mp z c2
          simp (disch := omega) [c2, gIx_lst, hfl, hfa, hk]
        · have hn := lookup_none c2
          have hk : fN u.1 t' < 0 := hlt.mpr c2
          have e5 := fnd_set u.1 n t' ((a : Int) + 1) (some (r, ev)) hn hrr.1
          have e6 : (List.map D.int (fnd u.1 n)).set t'.toNat (.int ((a : Int) + 1)) = (fnd (u.1 ++ [(t', ((a : Int) + 1, some (r, ev)))]) n).map .int := by rw [← e5, List.map_set]
          simp (disch := omega) [c2, gIx_lst, hfl, hfa, hk, ixN_ok, b2, e6]
      · rw [← eph]
        simpa using hk'
end
end L62
namespace L62
open PySem VS
theorem all_zip {α : Type} [Inhabited α] (l : List α) (c : Nat → α → Bool) : (l.zipIdx.all fun p => c p.2 p.1) = (List.range l.length).all fun i => c i (gt l i) := by
  rw [Bool.eq_iff_iff, List.all_eq_true, List.all_eq_true]
  constructor
  · intro h i hi
    have hi' := List.mem_range.mp hi
    refine h (gt l i, i) ?_
    rw [List.mem_zipIdx_iff_getElem?]
    unfold gt
    rw [Int.toNat_natCast, List.getD_eq_getElem?_getD, List.getElem?_eq_getElem hi']
    rfl
  · intro h p hp
    rw [List.mem_zipIdx_iff_getElem?] at hp
    obtain ⟨h1, h2⟩ := List.getElem?_eq_some_iff.mp hp
    have := h p.2 (List.mem_range.mpr h1)
    unfold gt at this
    rw [Int.toNat_natCast, List.getD_eq_getElem?_getD, hp] at this
    exact this
def rowOk (prices : List Int) (price ev : Int) (row : List Pr) : Bool := (List.range row.length).all fun (o : Nat) => (gt row (o : Int)).1.all fun t => decide (gt prices t ≤ price + (if (o : Int) = ev then 1 else 0))
def pricesOk (g : Gr) (goals : List Int) (start ev number : Int) (prices : List Int) : Bool :=
  decide (prices.length = g.length) && decide (0 ≤ start ∧ start < g.length) && decide (gt prices start = 0) && (goals.all fun t => decide (number ≤ gt prices t)) && (List.range g.length).all fun (r : Nat) => rowOk prices (gt prices (r : Int)) ev (gt g (r : Int))
section
variable {g : Gr} {n w : Nat} {ev start : Int}
theorem row_keeps_s (b : Bool) (row : List Pr) (price ev : Int) (prices : List Int) (hr : ∀ p ∈ row, ∀ t ∈ p.1, 0 ≤ t ∧ t < (prices.length : Int)) :
    f_row_keeps_prices [(gR b row, 0), (.int price, 0), (.int ev, 0), (.lst (prices.map .int), 0)] = .ok (.bl (rowOk prices price ev row), 0) := by
  rw [f_row_keeps_prices, fnOf_ap]
  simp [b_row_keeps_prices, fill]
  refine Eq.trans (for_all (fun p : Pr × Nat => D.tup [.int (p.2 : Int), pP b p.1]) (fun p => p.1.1.all fun t => decide (gt prices t ≤ price + (if (p.2 : Int) = ev then 1 else 0))) _ (.bl false, 0) row.zipIdx fun p hp K => ?_) ?_
  · obtain ⟨⟨ts, en⟩, o⟩ := p
    obtain ⟨_, _, pm⟩ := zip_mem hp
    have hrg := hr _ pm
    dsimp only at hrg ⊢
    simp [pP]
    refine Eq.trans (for_all D.int (fun t => decide (gt prices t ≤ price + (if (o : Int) = ev then 1 else 0))) _ (.bl false, 0) ts fun t ht K' => ?_) ?_
    · obtain ⟨t0, t1⟩ := hrg t ht
      by_cases c : gt prices t ≤ price + (if (o : Int) = ev then 1 else 0)
      · have c' : ¬ price + (if (o : Int) = ev then 1 else 0) < gt prices t := by omega
        simp (disch := omega) [gIx_lst, c, c']
      · have c' : price + (if (o : Int) = ev then 1 else 0) < gt prices t := by omega
        simp (disch := omega) [gIx_lst, c, c']
    · simp
  · rw [all_zip row fun o p => p.1.all fun t => decide (gt prices t ≤ price + (if (o : Int) = ev then 1 else 0))]
    show (if rowOk prices price ev row = true then _ else _) = _
    cases rowOk prices price ev row <;> simp
theorem shows_prices_s (b : Bool) (V : GM g n w) (goals : List Int) (hg : ∀ t ∈ goals, 0 ≤ t ∧ t < (n : Int)) (start ev number : Int) (e0 : 0 ≤ ev) (e1 : ev < w) (prices : List Int) :
    f_shows_prices [(gM b g, 0), (.lst (goals.map .int), 0), (.int start, 0), (.int ev, 0), (.int number, 0), (.lst (prices.map .int), 0)] = .ok (.bl (pricesOk g goals start ev number prices), 0) := by
  rw [f_shows_prices, fnOf_ap]
  have hl := V.len
  have hn0 := V.n0
  have hr0 := V.at_ (r := 0) (by omega) (by omega)
  unfold pricesOk
  by_cases c1 : 0 ≤ start ∧ start < (g.length : Int)
  case neg =>
    simp (disch := omega) [b_shows_prices, fill, is_place_s, c1]
  obtain ⟨c10, c11⟩ := c1
  by_cases c2 : prices.length = g.length
  case neg =>
    have c2' : ¬ (prices.length : Int) = (g.length : Int) := by omega
    simp (disch := omega) [b_shows_prices, fill, is_place_s, c10, c11, c2, c2', gIx_gM, hr0, e0, e1]
  have c2' : (prices.length : Int) = (g.length : Int) := by omega
  by_cases c3 : gt prices start = 0
  case neg =>
    simp (disch := omega) [b_shows_prices, fill, is_place_s, c10, c11, c2, c2', gIx_gM, gIx_lst, hr0, e0, e1, c3]
  simp (disch := omega) [b_shows_prices, fill, is_place_s, c10, c11, c2, c2', gIx_gM, gIx_lst, hr0, e0, e1, c3]
  refine Eq.trans (for_all (fun p : List Pr × Nat => D.tup [.int (p.2 : Int), gR b p.1]) (fun p => rowOk prices (gt prices (p.2 : Int)) ev p.1) _ (.bl false, 0) g.zipIdx fun p hp K => ?_) ?_
  · obtain ⟨row, r⟩ := p
    obtain ⟨hr, _, pm⟩ := zip_mem hp
    have hr' : (r : Int) < (prices.length : Int) := by dsimp only at hr; omega
    have q := row_keeps_s b row (gt prices (r : Int)) ev prices (fun p hp t ht => by have := V.rng _ pm p hp t ht; omega)
    dsimp only
    cases hq : rowOk prices (gt prices (r : Int)) ev row <;> simp (disch := omega) [gIx_lst, q, hq]
  · rw [all_zip g fun r row => rowOk prices (gt prices (r : Int)) ev row]
    cases h : (List.range g.length).all fun (r : Nat) => rowOk prices (gt prices (r : Int)) ev (gt g (r : Int)) with
    | false => simp
    | true =>
      simp
      refine Eq.trans (for_all D.int (fun t => decide (number ≤ gt prices t)) _ (.bl false, 0) goals fun t ht K => ?_) ?_
      · obtain ⟨t0, t1⟩ := hg t ht
        by_cases c : number ≤ gt prices t
        · have c' : ¬ gt prices t < number := by omega
          simp (disch := omega) [gIx_lst, c, c']
        · have c' : gt prices t < number := by omega
          simp (disch := omega) [gIx_lst, c, c']
      · cases goals.all fun t => decide (number ≤ gt prices t) <;> simp
theorem up_lenN {n : Nat} {goals : List Int} (hga : goals.Pairwise (· < ·)) (hg : ∀ t ∈ goals, 0 ≤ t ∧ t < (n : Int)) : goals.length ≤ n := up_len (m := 0) hga fun t m => by have := hg t m; omega
theorem law_prices_s (b : Bool) (V : GM g n w) (goals : List Int) (hga : goals.Pairwise (· < ·)) (hg : ∀ t ∈ goals, 0 ≤ t ∧ t < (n : Int)) (start ev number : Int) (e0 : 0 ≤ ev) (e1 : ev < w) (prices : List Int) :
    f__law_prices_are_right [(gM b g, 0), (.lst (goals.map .int), 0), (.int start, 0), (.int ev, 0), (.int number, 0), (.lst (prices.map .int), 0)] = .ok (.bl (pricesOk g goals start ev number prices), 0) := by
  rw [f__law_prices_are_right, fnOf_ap]
  have hl := V.len
  have hn0 := V.n0
  have hr0 := V.at_ (r := 0) (by omega) (by omega)
  unfold pricesOk
  by_cases c2 : prices.length = g.length
  case neg =>
    have c2' : ¬ (prices.length : Int) = (g.length : Int) := by omega
    simp (disch := omega) [b__law_prices_are_right, fill, c2, c2']
  have c2' : (prices.length : Int) = (g.length : Int) := by omega
  by_cases c10 : 0 ≤ start
  case neg =>
    simp (disch := omega) [b__law_prices_are_right, fill, c2, c2', c10]
  by_cases c11 : start < (g.length : Int)
  case neg =>
    simp (disch := omega) [b__law_prices_are_right, fill, c2, c2', c10, c11]
  by_cases c3 : gt prices start = 0
  case neg =>
    simp (disch := omega) [b__law_prices_are_right, fill, c10, c11, c2, c2', gIx_gM, gIx_lst, hr0, e0, e1, c3]
  simp (disch := omega) [b__law_prices_are_right, fill, c10, c11, c2, c2', gIx_gM, gIx_lst, hr0, e0, e1, c3]
  have hgl := up_lenN hga hg
  have hn1 := V.n1
  have hw := V.w1
  rw [lc_flt D.int (fun t => decide (gt prices t < number)) D.int _ goals (Nat.le_of_lt (lt_line (by omega))) (by
    intro t ht K
    obtain ⟨t0, t1⟩ := hg t ht
    by_cases c : gt prices t < number <;> simp (disch := omega) [gIx_lst, c])]
  cases hz : goals.filter fun t => decide (gt prices t < number) with
  | cons z zs =>
    have : (goals.all fun t => decide (number ≤ gt prices t)) = false := by
      have hz1 : z ∈ goals.filter fun t => decide (gt prices t < number) := by rw [hz]; exact List.mem_cons_self
      obtain ⟨z1, z2⟩ := List.mem_filter.mp hz1
      refine Bool.eq_false_iff.mpr fun h => ?_
      have := List.all_eq_true.mp h z z1
      simp at this z2
      omega
    have hp : (0 : Int) < (zs.length : Int) + 1 := by omega
    simp [this, hp]
  | nil =>
    have : (goals.all fun t => decide (number ≤ gt prices t)) = true := by
      refine List.all_eq_true.mpr fun t ht => ?_
      by_cases c : gt prices t < number
      · exfalso
        have : t ∈ goals.filter fun t => decide (gt prices t < number) := List.mem_filter.mpr ⟨ht, decide_eq_true c⟩
        rw [hz] at this
        cases this
      · simp; omega
    simp (disch := omega) [this, iR1K_ok]
    refine Eq.trans (for_all (fun (r : Nat) => D.int (r : Int)) (fun (r : Nat) => rowOk prices (gt prices (r : Int)) ev (gt g (r : Int))) _ (.bl false, 0) (List.range g.length) fun r hr K => ?_) ?_
    · have hr' := List.mem_range.mp hr
      have hrl := V.at_ (r := (r : Int)) (by omega) (by omega)
      have hrm := V.mem (r := (r : Int)) (by omega) (by omega)
      have hrg := V.rng _ hrm
      simp (disch := omega) [gIx_gM, iR1K_ok, hrl]
      refine Eq.trans (for_all (fun (o : Nat) => D.int (o : Int)) (fun (o : Nat) => (gt (gt g (r : Int)) (o : Int)).1.all fun t => decide (gt prices t ≤ gt prices (r : Int) + (if (o : Int) = ev then 1 else 0))) _ (.bl false, 0) (List.range w) fun o ho K2 => ?_) ?_
      · have ho' := List.mem_range.mp ho
        have hpm : gt (gt g (r : Int)) (o : Int) ∈ gt g (r : Int) := gt_mem (by omega) (by omega)
        have hts := hrg _ hpm
        simp (disch := omega) [gIx_gM, gIx_gR, hrl, pP]
        refine Eq.trans (for_all D.int (fun t => decide (gt prices t ≤ gt prices (r : Int) + (if (o : Int) = ev then 1 else 0))) _ (.bl false, 0) (gt (gt g (r : Int)) (o : Int)).1 fun t ht K3 => ?_) ?_
        · obtain ⟨t0, t1⟩ := hts t ht
          by_cases c : gt prices t ≤ gt prices (r : Int) + (if (o : Int) = ev then 1 else 0)
          · have c' : ¬ gt prices (r : Int) + (if (o : Int) = ev then 1 else 0) < gt prices t := by omega
            simp (disch := omega) [gIx_lst, c, c']
          · have c' : gt prices (r : Int) + (if (o : Int) = ev then 1 else 0) < gt prices t := by omega
            simp (disch := omega) [gIx_lst, c, c']
        · simp
      · have e : (List.range w).all (fun (o : Nat) => (gt (gt g (r : Int)) (o : Int)).1.all fun t => decide (gt prices t ≤ gt prices (r : Int) + (if (o : Int) = ev then 1 else 0))) = rowOk prices (gt prices (r : Int)) ev (gt g (r : Int)) := by unfold rowOk; rw [hrl]
        rw [e]
        cases rowOk prices (gt prices (r : Int)) ev (gt g (r : Int)) <;> simp
    · cases (List.range g.length).all fun (r : Nat) => rowOk prices (gt prices (r : Int)) ev (gt g (r : Int)) <;> simp
end
end L62
namespace L62
open PySem VS
def leadsF (g : Gr) (goals : List Int) : Int → List (Int × Int) → Bool
  | rest, [] => decide (rest ∈ goals)
  | rest, (e, a) :: way => if (0 ≤ e ∧ e < ((gt g rest).length : Int)) ∧ a ∈ (gt (gt g rest) e).1 then leadsF g goals a way else false
def wayOk (g : Gr) (goals : List Int) (start : Int) (way : List (Int × Int)) : Bool := if 0 ≤ start ∧ start < (g.length : Int) then leadsF g goals start way else false
def hopeP (rests : List Int) (p : Pr) : Bool := p.1.all fun t => decide (t ∈ rests)
def hopeR (g : Gr) (goals rests : List Int) (r : Int) : Bool := (decide (0 ≤ r ∧ r < (g.length : Int)) && !decide (r ∈ goals)) && (gt g r).all (hopeP rests)
def hopeless (g : Gr) (goals : List Int) (start : Int) (rests : List Int) : Bool := decide (start ∈ rests) && rests.all (hopeR g goals rests)
section
variable {g : Gr} {n w : Nat} {ev start : Int}
theorem shows_way_s (b c : Bool) (V : GM g n w) (goals : List Int) (start : Int) (way : List (Int × Int)) :
    f_shows_way [(gM b g, 0), (.lst (goals.map .int), 0), (.int start, 0), (VS.eL c (way.map prD), 0)] = .ok (.bl (wayOk g goals start way), 0) := by
  rw [f_shows_way, fnOf_ap]
  have hl := V.len
  unfold wayOk
  by_cases c1 : 0 ≤ start ∧ start < (g.length : Int)
  case neg => simp (disch := omega) [b_shows_way, fill, is_place_s, c1]
  rw [if_pos c1]
  obtain ⟨c10, c11⟩ := c1
  simp (disch := omega) [b_shows_way, fill, is_place_s, c10, c11]
  refine for_gen prD (fun (rest : Int) => [some (gM b g, 0), some (.lst (goals.map .int), 0), some (.int start, 0), some (VS.eL c (way.map prD), 0), some (.int rest, 0), none, none]) (fun _ rest => 0 ≤ rest ∧ rest < (n : Int)) (fun l rest => .ok (.bl (leadsF g goals rest l), 0)) ?_ ?_ way start ⟨c10, by omega⟩
  · intro rest _
    simp [leadsF]
  · rintro ⟨e, a⟩ l rest K ⟨h0, h1⟩ hk
    have hrl := V.at_ h0 h1
    have hrm := V.mem h0 h1
    show _ = FR.ok (.bl (if _ then _ else _), 0)
    by_cases c2 : 0 ≤ e ∧ e < ((gt g rest).length : Int)
    case neg => simp (disch := omega) [prD, gIx_gM, is_place_s, c2]
    have hpm : gt (gt g rest) e ∈ gt g rest := gt_mem c2.1 c2.2
    by_cases c3 : a ∈ (gt (gt g rest) e).1
    · rw [if_pos ⟨c2, c3⟩]
      have := hk a (V.rng _ hrm _ hpm _ c3)
      simp (disch := omega) [prD, gIx_gM, gIx_gR, pP, is_place_s, c2.1, c2.2, c3]
      exact this
    · rw [if_neg fun z => c3 z.2]
      simp (disch := omega) [prD, gIx_gM, gIx_gR, pP, is_place_s, c2.1, c2.2, c3]
theorem law_leads_s (b c : Bool) (V : GM g n w) (goals : List Int) (start : Int) (way : List (Int × Int)) :
    f__law_leads [(gM b g, 0), (.lst (goals.map .int), 0), (.int start, 0), (VS.eL c (way.map prD), 0)] = .ok (.bl (wayOk g goals start way), 0) := by
  rw [f__law_leads, fnOf_ap]
  have hl := V.len
  unfold wayOk
  by_cases c10 : 0 ≤ start
  case neg => simp (disch := omega) [b__law_leads, fill, c10]
  by_cases c11 : start < (g.length : Int)
  case neg => simp (disch := omega) [b__law_leads, fill, c10, c11]
  rw [if_pos ⟨c10, c11⟩]
  simp (disch := omega) [b__law_leads, fill, c10, c11]
  refine for_gen prD (fun (rest : Int) => [some (gM b g, 0), some (.lst (goals.map .int), 0), some (.int start, 0), some (VS.eL c (way.map prD), 0), some (.int rest, 0), none, none]) (fun _ rest => 0 ≤ rest ∧ rest < (n : Int)) (fun l rest => .ok (.bl (leadsF g goals rest l), 0)) ?_ ?_ way start ⟨c10, by omega⟩
  · intro rest _
    simp [leadsF]
  · rintro ⟨e, a⟩ l rest K ⟨h0, h1⟩ hk
    have hrl := V.at_ h0 h1
    have hrm := V.mem h0 h1
    show _ = FR.ok (.bl (if _ then _ else _), 0)
    by_cases c20 : 0 ≤ e
    case neg => simp (disch := omega) [prD, gIx_gM, c20]
    by_cases c21 : e < ((gt g rest).length : Int)
    case neg => simp (disch := omega) [prD, gIx_gM, c20, c21]
    have hpm : gt (gt g rest) e ∈ gt g rest := gt_mem c20 c21
    by_cases c3 : a ∈ (gt (gt g rest) e).1
    · rw [if_pos ⟨⟨c20, c21⟩, c3⟩]
      have := hk a (V.rng _ hrm _ hpm _ c3)
      simp (disch := omega) [prD, gIx_gM, gIx_gR, pP, c20, c21, c3]
      exact this
    · rw [if_neg fun z => c3 z.2]
      simp (disch := omega) [prD, gIx_gM, gIx_gR, pP, c20, c21, c3]
theorem shows_hopeless_s (b : Bool) (V : GM g n w) (goals : List Int) (start : Int) (rests : List Int) :
    f_shows_hopeless [(gM b g, 0), (.lst (goals.map .int), 0), (.int start, 0), (.lst (rests.map .int), 0)] = .ok (.bl (hopeless g goals start rests), 0) := by
  rw [f_shows_hopeless, fnOf_ap]
  have hl := V.len
  unfold hopeless
  by_cases c1 : start ∈ rests
  case neg => simp (disch := omega) [b_shows_hopeless, fill, c1]
  simp (disch := omega) [b_shows_hopeless, fill, c1]
  refine Eq.trans (for_all D.int (hopeR g goals rests) _ (.bl false, 0) rests fun r hr K => ?_) ?_
  · by_cases c2 : 0 ≤ r ∧ r < (g.length : Int)
    case neg => simp (disch := omega) [is_place_s, c2, hopeR]
    obtain ⟨c20, c21⟩ := c2
    by_cases c3 : r ∈ goals
    case pos => simp (disch := omega) [is_place_s, c20, c21, c3, hopeR]
    have hrm := V.mem c20 (by omega)
    simp (disch := omega) [is_place_s, c20, c21, c3, gIx_gM]
    refine Eq.trans (for_all (pP b) (hopeP rests) _ (.bl false, 0) (gt g r) fun p hp K2 => ?_) ?_
    · simp [pP]
      refine Eq.trans (for_all D.int (fun t => decide (t ∈ rests)) _ (.bl false, 0) p.1 fun t ht K3 => ?_) ?_
      · by_cases c : t ∈ rests <;> simp [c]
      · show (if hopeP rests p = true then _ else _) = _
        cases hopeP rests p <;> simp
    · have e : hopeR g goals rests r = (gt g r).all (hopeP rests) := by unfold hopeR; simp [c20, c21, c3]
      rw [e]
      cases (gt g r).all (hopeP rests) <;> simp
  · cases rests.all (hopeR g goals rests) <;> simp
theorem law_hopeless_s (b : Bool) (V : GM g n w) (goals : List Int) (start : Int) (rests : List Int) :
    f__law_is_hopeless [(gM b g, 0), (.lst (goals.map .int), 0), (.int start, 0), (.lst (rests.map .int), 0)] = .ok (.bl (hopeless g goals start rests), 0) := by
  rw [f__law_is_hopeless, fnOf_ap]
  have hl := V.len
  have hn1 := V.n1
  unfold hopeless
  by_cases c1 : start ∈ rests
  case neg => simp (disch := omega) [b__law_is_hopeless, fill, c1]
  simp (disch := omega) [b__law_is_hopeless, fill, c1]
  refine Eq.trans (for_all D.int (hopeR g goals rests) _ (.bl false, 0) rests fun r hr K => ?_) ?_
  · by_cases c20 : 0 ≤ r
    case neg => simp (disch := omega) [c20, hopeR]
    by_cases c21 : r < (g.length : Int)
    case neg => simp (disch := omega) [c20, c21, hopeR]
    by_cases c3 : r ∈ goals
    case pos => simp (disch := omega) [c20, c21, c3, hopeR]
    have hrm := V.mem c20 (by omega)
    simp (disch := omega) [c20, c21, c3, gIx_gM]
    refine Eq.trans (for_all (pP b) (hopeP rests) _ (.bl false, 0) (gt g r) fun p hp K2 => ?_) ?_
    · have htl := V.tl hrm hp
      simp [pP]
      rw [lc_flt D.int (fun t => !decide (t ∈ rests)) D.int _ p.1 (Nat.le_of_lt (lt_line (by omega))) (by
        intro t ht K
        by_cases c : t ∈ rests <;> simp [c])]
      cases hz : p.1.filter fun t => !decide (t ∈ rests) with
      | nil =>
        have : (p.1.all fun t => decide (t ∈ rests)) = true := by
          refine List.all_eq_true.mpr fun t ht => ?_
          by_cases c : t ∈ rests
          · exact decide_eq_true c
          · exfalso
            have : t ∈ p.1.filter fun t => !decide (t ∈ rests) := List.mem_filter.mpr ⟨ht, by simp [c]⟩
            rw [hz] at this
            cases this
        have this : hopeP rests p = true := this
        simp [this]
      | cons z zs =>
        have hz1 : z ∈ p.1.filter fun t => !decide (t ∈ rests) := by rw [hz]; exact List.mem_cons_self
        obtain ⟨z1, z2⟩ := List.mem_filter.mp hz1
        have hp : (0 : Int) < (zs.length : Int) + 1 := by omega
        have : hopeP rests p = false := Bool.eq_false_iff.mpr fun h => by
          have := List.all_eq_true.mp h z z1
          simp at this z2
          exact z2 this
        simp [hp, this]
    · have e : hopeR g goals rests r = (gt g r).all (hopeP rests) := by unfold hopeR; simp [c20, c21, c3]
      rw [e]
      cases (gt g r).all (hopeP rests) <;> simp
  · cases rests.all (hopeR g goals rests) <;> simp
end
end L62
namespace L62
open PySem VS
theorem says_s (a b : Bool) : f__law_says [(.bl a, 0), (.bl b, 0)] = .ok (.bl (decide (a = b)), 0) := by
  rw [f__law_says, fnOf_ap]
  simp [b__law_says, fill]
theorem changed_s {α : Type} (enc : α → D) (X : D) (l : List α) (hX : gList X = some (.lst (l.map enc), 1)) (change at_ : Int) (v : D) (a : α) (hv : v = enc a) (hl : l.length ≤ 1000) :
    ∃ (l' : List α) (k : Nat), f__law_changed [(X, 0), (.int change, 0), (.int at_, 0), (v, 0)] = .ok (.lst (l'.map enc), k) ∧ l'.length ≤ 2001 := by
  subst hv
  rw [f__law_changed, fnOf_ap]
  have h0 : 0 < (l.length : Int) + 1 := by omega
  have ha : 0 ≤ at_ % ((l.length : Int) + 1) := Int.emod_nonneg _ (by omega)
  have ha2 := Int.emod_lt_of_pos at_ h0
  have l1 := cutA_len l none (some (at_ % ((l.length : Int) + 1)))
  have l2 := cutA_len l (some (at_ % ((l.length : Int) + 1) + 1)) none
  have l3 := cutA_len l (some (at_ % ((l.length : Int) + 1))) none
  have hs : gAdd (.lst ((cutA l none (some (at_ % ((l.length : Int) + 1)))).map enc)) (.lst [enc a]) = some (.lst ((cutA l none (some (at_ % ((l.length : Int) + 1))) ++ [a]).map enc), 1) := by
    have q := gAdd_lstE enc (cutA l none (some (at_ % ((l.length : Int) + 1)))) [a] (by simp; omega)
    exact q
  have hs2 : gAdd (.lst ((cutA l none (some (at_ % ((l.length : Int) + 1))) ++ [a]).map enc)) (.lst ((cutA l (some (at_ % ((l.length : Int) + 1))) none).map enc)) = some (.lst (((cutA l none (some (at_ % ((l.length : Int) + 1))) ++ [a]) ++ cutA l (some (at_ % ((l.length : Int) + 1))) none).map enc), 1) :=
    gAdd_lstE enc _ _ (by rw [List.length_append, List.length_singleton]; omega)
  by_cases c0 : change = 0
  · simp (disch := omega) [hX, b__law_changed, fill, h0, c0, gAdd_lstE, -List.map_append, -gAdd_lst]
    exact ⟨_, rfl, by simp; omega⟩
  by_cases c1 : change = 1
  · simp (disch := omega) [hX, b__law_changed, fill, h0, c0, c1, hs, hs2, -List.map_append, -gAdd_lst]
    exact ⟨_, rfl, by simp; omega⟩
  by_cases c2 : change = 2 ∧ at_ % ((l.length : Int) + 1) < l.length
  · obtain ⟨c2, c3⟩ := c2
    simp (disch := omega) [hX, b__law_changed, fill, h0, c0, c1, c2, c3, ixN_ok, -List.map_append]
    exact ⟨l.set _ a, by rw [List.map_set], by simp; omega⟩
  · by_cases c4 : change = 2
    · have c3 : ¬ at_ % ((l.length : Int) + 1) < l.length := fun z => c2 ⟨c4, z⟩
      simp (disch := omega) [hX, b__law_changed, fill, h0, c0, c1, c4, c3, -List.map_append]
      exact ⟨_, rfl, by omega⟩
    · simp (disch := omega) [hX, b__law_changed, fill, h0, c0, c1, c4, -List.map_append]
      exact ⟨_, rfl, by omega⟩
section
variable {g : Gr} {n w : Nat} {ev start : Int}
theorem agree_s (b : Bool) (V : GM g n w) (goals : List Int) (hga : goals.Pairwise (· < ·)) (hg : ∀ t ∈ goals, 0 ≤ t ∧ t < (n : Int)) (start ev number : Int) (e0 : 0 ≤ ev) (e1 : ev < w) (prices : List Int) (way : List (Int × Int)) (reach row : List Int)
    (l1 : prices.length ≤ 1000) (l2 : way.length ≤ 1000) (l3 : reach.length ≤ 1000) (hr : row.length = 5) (r4 : 0 ≤ gt row 4 ∧ gt row 4 < 4) :
    f__law_judges_agree [(gM b g, 0), (.lst (goals.map .int), 0), (.int start, 0), (.int ev, 0), (.int number, 0), (.lst (prices.map .int), 0), (.tup (way.map prD), 0), (.lst (reach.map .int), 0), (.lst (row.map .int), 0)] = .ok (.bl true, 0) := by
  rw [f__law_judges_agree, fnOf_ap]
  have hl := V.len
  have hn0 := V.n0
  have hgl : 0 < g.length := by omega
  have g4 : ∀ a b c d : Int, gIx (.lst [.int a, .int b, .int c, .int d]) (.int (gt row 4)) = some (.int (gt [a, b, c, d] (gt row 4)), 0) := fun a b c d => gIx_lst D.int (l := [a, b, c, d]) r4.1 (by simp; omega)
  have g2 : ∀ a b : Int, gIx (.lst [.int a, .int b]) (.int (gt row 2 % 2)) = some (.int (gt [a, b] (gt row 2 % 2)), 0) := fun a b => gIx_lst D.int (l := [a, b]) (by omega) (by simp; omega)
  obtain ⟨p2, k2, q2, m2⟩ := changed_s D.int _ prices (gList_lst _) (gt row 0) (gt row 1) (.int (gt [gt row 2 - 2, gt row 2, gt row 3 % (g.length : Int), 100000000000000000000] (gt row 4))) _ rfl l1
  obtain ⟨w2, k3, q3, m3⟩ := changed_s prD _ way (gList_tup _) (gt row 0) (gt row 1) (.tup [.int (gt row 2 % 9 - 1), .int (gt row 3 % (g.length : Int))]) (gt row 2 % 9 - 1, gt row 3 % (g.length : Int)) rfl l2
  obtain ⟨r2, k5, q5, m5⟩ := changed_s D.int _ reach (gList_lst _) (gt row 0) (gt row 1) (.int (gt [gt row 3 % (g.length : Int), -1, (g.length : Int), gt row 3 % (g.length : Int)] (gt row 4))) _ rfl l3
  have P1 := fun st nu pr => shows_prices_s b V goals hg st ev nu e0 e1 pr
  have P2 := fun st nu pr => law_prices_s b V goals hga hg st ev nu e0 e1 pr
  have W1 := fun st wy => shows_way_s b false V goals st wy
  have W2 := fun st wy => law_leads_s b false V goals st wy
  have H1 := fun st rs => shows_hopeless_s b V goals st rs
  have H2 := fun st rs => law_hopeless_s b V goals st rs
  simp only [eL_false] at W1 W2
  by_cases c : gt row 0 = 3 ∧ 0 < number
  · obtain ⟨c1, c2⟩ := c
    rw [c1] at q2 q3 q5
    simp (disch := omega) [b__law_judges_agree, fill, gIx_lst, g4, g2, q2, q3, q5, hgl, c1, c2]
    rw [lc_map D.int (fun x => D.int (x - 1)) _ prices (Nat.le_of_lt (lt_line (by omega))) (by intro x hx K; simp)]
    have e : prices.map (fun x => D.int (x - 1)) = (prices.map fun x => x - 1).map .int := by rw [List.map_map]; rfl
    rw [e]
    generalize prices.map (fun x => x - 1) = p9
    simp (disch := omega) [fill, gIx_lst, g4, g2, q3, q5, hgl, c1, c2]
    refine (for_all D.int (fun _ => true) _ (.bl false, 0) [start, gt row 3 % (g.length : Int), gt [-1, (g.length : Int)] (gt row 2 % 2)] (fun y hy K => ?_)).trans ?_
    · simp
      refine (for_all (fun pl : List Int => D.lst (pl.map .int)) (fun _ => true) _ (.bl false, 0) [prices, p9] (fun pl hpl K' => ?_)).trans ?_
      · simp
        refine (for_all D.int (fun _ => true) _ (.bl false, 0) [number, number + 1] (fun nu hnu K2 => ?_)).trans ?_
        · simp [P1, P2, says_s]
        · simp
      · simp
        refine (for_all (fun wy : List (Int × Int) => D.lst (wy.map prD)) (fun _ => true) _ (.bl false, 0) [way, w2] (fun wy hwy K' => ?_)).trans ?_
        · simp [W1, W2, says_s]
        · simp
          refine (for_all (fun rs : List Int => D.lst (rs.map .int)) (fun _ => true) _ (.bl false, 0) [reach, r2] (fun rs hrs K' => ?_)).trans ?_
          · simp [H1, H2, says_s]
          · simp
    · simp
  · by_cases c1 : gt row 0 = 3
    · have c2 : ¬ 0 < number := fun z => c ⟨c1, z⟩
      rw [c1] at q2 q3 q5
      simp (disch := omega) [b__law_judges_agree, fill, gIx_lst, g4, g2, q2, q3, q5, hgl, c1, c2]
      refine (for_all D.int (fun _ => true) _ (.bl false, 0) [start, gt row 3 % (g.length : Int), gt [-1, (g.length : Int)] (gt row 2 % 2)] (fun y hy K => ?_)).trans ?_
      · simp
        refine (for_all (fun pl : List Int => D.lst (pl.map .int)) (fun _ => true) _ (.bl false, 0) [prices, p2] (fun pl hpl K' => ?_)).trans ?_
        · simp
          refine (for_all D.int (fun _ => true) _ (.bl false, 0) [number, number + 1] (fun nu hnu K2 => ?_)).trans ?_
          · simp [P1, P2, says_s]
          · simp
        · simp
          refine (for_all (fun wy : List (Int × Int) => D.lst (wy.map prD)) (fun _ => true) _ (.bl false, 0) [way, w2] (fun wy hwy K' => ?_)).trans ?_
          · simp [W1, W2, says_s]
          · simp
            refine (for_all (fun rs : List Int => D.lst (rs.map .int)) (fun _ => true) _ (.bl false, 0) [reach, r2] (fun rs hrs K' => ?_)).trans ?_
            · simp [H1, H2, says_s]
            · simp
      · simp
    · simp (disch := omega) [b__law_judges_agree, fill, gIx_lst, g4, g2, q2, q3, q5, hgl, c1]
      refine (for_all D.int (fun _ => true) _ (.bl false, 0) [start, gt row 3 % (g.length : Int), gt [-1, (g.length : Int)] (gt row 2 % 2)] (fun y hy K => ?_)).trans ?_
      · simp
        refine (for_all (fun pl : List Int => D.lst (pl.map .int)) (fun _ => true) _ (.bl false, 0) [prices, p2] (fun pl hpl K' => ?_)).trans ?_
        · simp
          refine (for_all D.int (fun _ => true) _ (.bl false, 0) [number, number + 1] (fun nu hnu K2 => ?_)).trans ?_
          · simp [P1, P2, says_s]
          · simp
        · simp
          refine (for_all (fun wy : List (Int × Int) => D.lst (wy.map prD)) (fun _ => true) _ (.bl false, 0) [way, w2] (fun wy hwy K' => ?_)).trans ?_
          · simp [W1, W2, says_s]
          · simp
            refine (for_all (fun rs : List Int => D.lst (rs.map .int)) (fun _ => true) _ (.bl false, 0) [reach, r2] (fun rs hrs K' => ?_)).trans ?_
            · simp [H1, H2, says_s]
            · simp
      · simp
end
end L62
namespace L62
open PySem VS
section
variable {g : Gr} {n w : Nat} {ev start : Int}
def st0 (start : Int) : PS := ⟨[(start, (0, none))], [start], []⟩
def reachL (g : Gr) (n : Nat) (start ev : Int) : List Int := (scan g ev 0 n 0 (st0 start)).q
theorem mid0 (h0 : 0 ≤ start) (h1 : start < n) : Mid g n ev start 0 0 (st0 start) := by
  have P := ph0 (g := g) (n := n) (ev := ev) h0 h1
  exact ⟨P.B, Nat.zero_le _, P.cls, fun i hi => absurd hi (Nat.not_lt_zero _), fun y m => absurd m List.not_mem_nil, P.le⟩
theorem stepO_kq {num r : Int} {s : PS} {e : Int × Int} (h : keys s.O = s.q) : keys (stepO ev num r s e).O = (stepO ev num r s e).q := by
  unfold stepO
  split
  · exact h
  · split
    · exact h
    · show keys (s.O ++ [(e.2, (num, some (r, e.1)))]) = s.q ++ [e.2]
      rw [keys_app, h]; rfl
theorem foldO_kq {num r : Int} : ∀ (es : List (Int × Int)) {s : PS}, keys s.O = s.q → keys (es.foldl (stepO ev num r) s).O = (es.foldl (stepO ev num r) s).q
  | [], s, h => h
  | e :: es, s, h => by rw [List.foldl_cons]; exact foldO_kq es (stepO_kq h)
theorem scan_kq {num : Int} : ∀ (f p : Nat) (s : PS), keys s.O = s.q → keys (scan g ev num f p s).O = (scan g ev num f p s).q
  | 0, p, s, h => h
  | f + 1, p, s, h => by
    unfold scan
    split
    · exact scan_kq f (p + 1) _ (foldO_kq _ h)
    · exact h
theorem rch_nn {t k : Int} (h : Rch g ev start t k) : 0 ≤ k := by
  induction h with
  | base => exact Int.le_refl _
  | step _ _ ih => unfold dl; split <;> omega
theorem reach_iff (V : GM g n w) (h0 : 0 ≤ start) (h1 : start < n) {t : Int} : t ∈ reachL g n start ev ↔ Rch g ev start t 0 := by
  obtain ⟨p', M, hp⟩ := scan_mid V n 0 (st0 start) (mid0 (g := g) (ev := ev) h0 h1) (by omega)
  have hk := scan_kq (g := g) (ev := ev) (num := 0) n 0 (st0 start) rfl
  unfold reachL
  generalize scan g ev 0 n 0 (st0 start) = s at M hp hk
  constructor
  · intro h
    obtain ⟨pb, z⟩ := M.B.qk t h
    exact (M.B.snd t 0 pb z).1
  · intro h
    have key : ∀ t k, Rch g ev start t k → k = 0 → t ∈ s.q := by
      intro t k h
      induction h with
      | base => intro _; rw [← hk]; exact keys_mem.mpr ⟨_, _, M.B.root.1⟩
      | @step r t o k hr he ih =>
        intro hz
        have := rch_nn hr
        have hne : o ≠ ev := fun z => by
          unfold dl at hz
          rw [if_pos z] at hz
          omega
        have hk0 : k = 0 := by unfold dl at hz; rw [if_neg hne] at hz; omega
        have hm := ih hk0
        obtain ⟨i, hi, e⟩ := List.mem_iff_getElem.mp hm
        have hg : gt s.q (i : Int) = r := by rw [gt_nat _ _ hi]; exact e
        have := (M.clq i (by omega) (o, t) (by rw [hg]; exact he)).1 hne
        rw [← hk]; exact this
    exact key t 0 h rfl
def rS (b : Bool) (g : Gr) (start ev : Int) (s : PS) (x4 x5 x6 : Option (D × Nat)) : SD := [some (gM b g, 0), some (.lst [.int start], 0), some (.int ev, 0), some (.lst (s.q.map .int), 1), x4, x5, x6]
theorem law_reach_s (b : Bool) (V : GM g n w) (h0 : 0 ≤ start) (h1 : start < n) (ev : Int) :
    f__law_reach [(gM b g, 0), (.lst [.int start], 0), (.int ev, 0)] = .ok (.lst ((reachL g n start ev).map .int), 1) := by
  rw [f__law_reach, fnOf_ap]
  have hl := V.len
  have hn1 := V.n1
  have hw := V.w1
  simp (disch := omega) [b__law_reach, fill, iR1K_ok]
  rw [hl]
  refine Eq.trans (for_scan (fun (i : Nat) => D.int i) (fun (t : PS) => rS b g start ev t none none none)
    (fun l t => ∃ k, k ≤ n ∧ l = List.range' k (n - k) ∧ Mid g n ev start 0 k t ∧ keys t.O = t.q)
    (fun l t => scan g ev 0 l.length (n - l.length) t) (fun t _ => rfl) ?_ (List.range n) (st0 start) ⟨0, Nat.zero_le _, by rw [List.range_eq_range']; rfl, mid0 h0 h1, rfl⟩) ?_
  · rintro p l t ⟨k2, hk2, el, M1, hkq⟩
    have hk2n : k2 < n := by
      rcases Nat.lt_or_ge k2 n with c | c
      · exact c
      · rw [show n - k2 = 0 by omega] at el; cases el
    obtain ⟨m2, hm2'⟩ : ∃ m, n - k2 = m + 1 := ⟨n - k2 - 1, by omega⟩
    rw [hm2', List.range'_succ] at el
    injection el with el1 el2
    subst el1
    have hll : l.length = n - (p + 1) := by rw [el2, List.length_range']; omega
    by_cases c : p < t.q.length
    · have hr : gt t.q (p : Int) ∈ t.q := gt_mem (by omega) (by omega)
      have hrk : 0 ≤ gt t.q (p : Int) ∧ gt t.q (p : Int) < (n : Int) := by
        obtain ⟨pb, h⟩ := M1.B.qk _ hr
        exact M1.B.rg _ (keys_mem.mpr ⟨_, _, h⟩)
      have hrl := V.at_ hrk.1 hrk.2
      have hrm := V.mem hrk.1 hrk.2
      refine .inl ⟨scanR g ev 0 t (gt t.q (p : Int)), ⟨p + 1, by omega, by rw [el2]; congr 1; omega, M1.step V c, foldO_kq _ hkq⟩, ?_, fun K => ?_⟩
      · rw [List.length_cons, hll]
        have e1 : n - (n - (p + 1) + 1) = p := by omega
        have e2 : n - (n - (p + 1)) = p + 1 := by omega
        rw [e1, e2]
        show (if p < t.q.length then _ else _) = _
        rw [if_pos c]
      · unfold rS
        have hc : ¬ t.q.length ≤ p := by omega
        simp (disch := omega) [gIx_lst, gIx_gM, iR1K_ok, hrl, hc]
        generalize hgr : gt t.q (p : Int) = r at hr hrk hrl hrm
        refine Eq.trans (for_scan (fun (i : Nat) => D.int i) (fun (s2 : PS) => rS b g start ev s2 (some (.int p, 0)) none none)
          (fun l2 s2 => (In g n ev start 0 r (360 + s2.pr.length) s2 ∧ keys s2.O = s2.q) ∧ (∀ o ∈ l2, o < w) ∧ (p < s2.q.length ∧ gt s2.q (p : Int) = r))
          (fun l2 s2 => l2.foldl (fun s3 (o : Nat) => ((gt (gt g r) (o : Int)).1.map fun y => ((o : Int), y)).foldl (stepO ev 0 r) s3) s2) (fun s2 _ => rfl) ?_ (List.range w) t ⟨⟨⟨M1.B, hr, by omega⟩, hkq⟩, fun o m => List.mem_range.mp m, c, hgr⟩) ?_
        · rintro o l2 s2 ⟨⟨I, kq⟩, hm, hq⟩
          have ho := hm o List.mem_cons_self
          have hpm : gt (gt g r) (o : Int) ∈ gt g r := gt_mem (by omega) (by omega)
          have htl := V.tl hrm hpm
          have hed : ∀ y ∈ (gt (gt g r) (o : Int)).1, ((o : Int), y) ∈ edges g r := fun y hy => edges_mem.mpr ⟨o, by omega, rfl, hy⟩
          have IF := In.fold V _ I fun e (he : e ∈ (gt (gt g r) (o : Int)).1.map fun y => ((o : Int), y)) => by
              obtain ⟨y, hy, rfl⟩ := List.mem_map.mp he
              exact hed y hy
          refine .inl ⟨_, ⟨⟨⟨IF.B, IF.r, by omega⟩, foldO_kq _ kq⟩, fun x m => hm x (List.mem_cons_of_mem _ m), foldO_q _ hq⟩, rfl, fun K => ?_⟩
          have gq : gIx (.lst (List.map D.int s2.q)) (.int p) = some (.int r, 0) := by rw [gIx_lst D.int (by omega) (by omega), hq.2]
          unfold rS
          simp (disch := omega) [gq, gIx_gM, gIx_gR, hrl, pP]
          generalize (gt (gt g r) (o : Int)).1 = ts at htl hed
          refine Eq.trans (for_scan D.int (fun (s3 : PS) => rS b g start ev s3 (some (.int p, 0)) (some (.int o, 0)) none)
            (fun l3 s3 => (In g n ev start 0 r (360 + s3.pr.length) s3 ∧ keys s3.O = s3.q) ∧ ∀ y ∈ l3, y ∈ ts)
            (fun l3 s3 => l3.foldl (fun s4 y => stepO ev 0 r s4 ((o : Int), y)) s3) (fun s3 _ => rfl) ?_ ts s2 ⟨⟨I, kq⟩, fun _ m => m⟩) ?_
          · rintro y l3 s3 ⟨⟨I3, kq3⟩, hmt⟩
            have hy := hmt y List.mem_cons_self
            have het := hed y hy
            have IS := I3.step V het
            refine .inl ⟨_, ⟨⟨⟨IS.B, IS.r, by omega⟩, stepO_kq kq3⟩, fun x m => hmt x (List.mem_cons_of_mem _ m)⟩, rfl, fun K => ?_⟩
            have b2 := lt_line (n := s3.q.length) (by have := I3.B.qlen; omega)
            unfold rS stepO
            rw [kq3]
            by_cases c1 : (o : Int) = ev
            · simp [c1]
            · by_cases c2 : y ∈ s3.q
              · simp [c1, c2]
              · simp [c1, c2, b2]
          · have e2 : (ts.map fun y => ((o : Int), y)).foldl (stepO ev 0 r) s2 = ts.foldl (fun s4 y => stepO ev 0 r s4 ((o : Int), y)) s2 := List.foldl_map
            rw [← e2]
            unfold rS
            simp
        · have e1 : (List.range w).foldl (fun s3 (o : Nat) => ((gt (gt g r) (o : Int)).1.map fun y => ((o : Int), y)).foldl (stepO ev 0 r) s3) t = scanR g ev 0 t r := by
            unfold scanR
            rw [edges_rng, hrl]
            exact (foldl_flat _ _ _ _).symm
          rw [e1]
          unfold rS
          simp
    · refine .inr ⟨?_, fun K => ?_⟩
      · rw [List.length_cons, hll]
        have e1 : n - (n - (p + 1) + 1) = p := by omega
        rw [e1]
        show (if p < t.q.length then _ else _) = _
        rw [if_neg c]
      · have c' : (t.q.length : Int) ≤ (p : Int) := by omega
        unfold rS
        simp [c']
  · rw [List.length_range, Nat.sub_self]
    unfold rS reachL
    simp
end
end L62
namespace L62
open PySem VS
section
variable {g : Gr} {n w : Nat} {ev start : Int}
theorem wayR_len {O : List (Int × Og)} : ∀ (f : Nat) (t : Int), (wayR O f t).length ≤ f
  | 0, t => Nat.le_refl _
  | f + 1, t => by
    unfold wayR
    split
    · rw [List.length_cons]; exact Nat.succ_le_succ (wayR_len f _)
    · exact Nat.zero_le _
theorem way_path {num : Int} {O : List (Int × Og)} {q : List Int} (B : Base g n ev start num O q) (goals : List Int) : ∀ (N : Nat) (pre : List (Int × Og)) (x : Int × Og) (post : List (Int × Og)), pre.length ≤ N → O = pre ++ x :: post →
    (∀ rest, leadsF g goals start ((wayR O (pre.length + 1) x.1).reverse ++ rest) = leadsF g goals x.1 rest) ∧ (((wayR O (pre.length + 1) x.1).reverse.filter fun y => decide (y.1 = ev)).length : Int) = x.2.1 := by
  intro N
  induction N with
  | zero =>
    intro pre x post hN e
    have : pre = [] := List.length_eq_zero_iff.mp (by omega)
    subst this
    have hx : O.lookup x.1 = some x.2 := lookup_of B.nd (by rw [e]; simp)
    have hmem : x ∈ O := by rw [e]; simp
    obtain ⟨t, m, pb⟩ := x
    dsimp only at hx ⊢
    cases pb with
    | none =>
      have ht := B.root.2 t m hmem
      have hm := B.uniq (ht ▸ hmem) B.root.1
      injection hm with hm _
      have ew : wayR O (([] : List (Int × Og)).length + 1) t = [] := by unfold wayR; rw [hx]
      rw [ew, ht]
      exact ⟨fun rest => rfl, by simp [hm]⟩
    | some y =>
      obtain ⟨b, o⟩ := y
      obtain ⟨m', pb', h1, _⟩ := B.chain [] _ post e b o rfl
      cases h1
  | succ N ih =>
    intro pre x post hN e
    have hx : O.lookup x.1 = some x.2 := lookup_of B.nd (by rw [e]; simp)
    have hmem : x ∈ O := by rw [e]; simp
    obtain ⟨t, m, pb⟩ := x
    dsimp only at hx ⊢
    cases pb with
    | none =>
      have ht := B.root.2 t m hmem
      have hm := B.uniq (ht ▸ hmem) B.root.1
      injection hm with hm _
      have ew : wayR O (pre.length + 1) t = [] := by unfold wayR; rw [hx]
      rw [ew, ht]
      exact ⟨fun rest => rfl, by simp [hm]⟩
    | some y =>
      obtain ⟨b, o⟩ := y
      obtain ⟨m', pb', h1, h2, h3⟩ := B.chain pre _ post e b o rfl
      dsimp only at h2 h3
      obtain ⟨p1, p2, e2⟩ := List.append_of_mem h1
      have e3 : O = p1 ++ (b, (m', pb')) :: (p2 ++ (t, (m, some (b, o))) :: post) := by rw [e, e2]; simp
      have hl : p1.length < pre.length := by rw [e2]; simp <;> omega
      have i2 := wayR_fuel (g := g) (ev := ev) B.nd B.chain p1.length p1 _ _ (Nat.le_refl _) e3 pre.length (by omega)
      have ew : wayR O (pre.length + 1) t = (o, t) :: wayR O (p1.length + 1) b := by
        show (match O.lookup t with
          | some (_, some (b, e)) => (e, t) :: wayR O pre.length b
          | _ => []) = _
        rw [hx]
        dsimp only at i2 ⊢
        rw [i2]
      obtain ⟨j1, j2⟩ := ih p1 _ _ (by omega) e3
      dsimp only at j1 j2
      rw [ew]
      refine ⟨fun rest => ?_, ?_⟩
      · rw [List.reverse_cons, List.append_assoc, j1]
        obtain ⟨i, hi, h4, h5⟩ := edges_mem.mp h2
        dsimp only at h4 h5
        show (if (0 ≤ o ∧ o < ((gt g b).length : Int)) ∧ t ∈ (gt (gt g b) o).1 then leadsF g goals t rest else false) = _
        rw [if_pos ⟨by omega, by rw [h4]; exact h5⟩]
      · rw [List.reverse_cons, List.filter_append, List.length_append, h3]
        unfold dl
        generalize (List.filter (fun y => decide (y.1 = ev)) (wayR O (p1.length + 1) b).reverse).length = z at j2 ⊢
        by_cases c : o = ev
        · simp [c]; omega
        · simp [c]; omega
/-- the way to a key -/
theorem way_of {num : Int} {O : List (Int × Og)} {q : List Int} (B : Base g n ev start num O q) (goals : List Int) {t : Int} (ht : t ∈ keys O) (hg : t ∈ goals) (s0 : 0 ≤ start) (s1 : start < (g.length : Int)) :
    wayOk g goals start (wayR O O.length t).reverse = true ∧ (((wayR O O.length t).reverse.filter fun y => decide (y.1 = ev)).length : Int) = numO O t := by
  obtain ⟨v, hv⟩ := lookup_some ht
  obtain ⟨pre, post, e⟩ := List.append_of_mem (lookup_mem hv)
  have h1 := wayR_fuel (g := g) (ev := ev) B.nd B.chain pre.length pre _ _ (Nat.le_refl _) e O.length (by rw [e]; simp <;> omega)
  obtain ⟨j1, j2⟩ := way_path B goals pre.length pre _ post (Nat.le_refl _) e
  dsimp only at h1 j1 j2
  rw [h1]
  refine ⟨?_, ?_⟩
  · have := j1 []
    rw [List.append_nil] at this
    unfold wayOk
    rw [if_pos ⟨s0, s1⟩, this]
    show decide (t ∈ goals) = true
    exact decide_eq_true hg
  · rw [j2]
    unfold numO
    rw [hv]
end
end L62
namespace VS
open PySem PySem.Spec L2
mutual
theorem eqv_refl : ∀ (n : Nat) (d : D), okd n d = true → eqv d d = true
  | _, .non, _ => rfl
  | _, .bl a, _ => by simp [eqv]
  | _, .int i, _ => by simp [eqv]
  | _, .str x, _ => by simp [eqv]
  | n + 1, .lst xs, h => by
    have := eqvs_refl n xs (by simpa [okd] using h)
    simpa [eqv] using this
  | n + 1, .tup xs, h => by
    have := eqvs_refl n xs (by simpa [okd] using h)
    simpa [eqv] using this
  | 0, .lst xs, h => by simp [okd] at h
  | 0, .tup xs, h => by simp [okd] at h
  | _, .dct _ _, h => by simp [okd] at h
  | _, .ins _ _ _, h => by simp [okd] at h
  | _, .exn _ _ _, h => by simp [okd] at h
  | _, .scr _, h => by simp [okd] at h
  | _, .dcT _ _, h => by simp [okd] at h
theorem eqvs_refl : ∀ (n : Nat) (ds : List D), okds n ds = true → eqvs ds ds = true
  | _, [], _ => by simp [eqvs]
  | n, d :: ds, h => by
    rw [okds, Bool.and_eq_true] at h
    rw [eqvs, eqv_refl n d h.1, eqvs_refl n ds h.2]
    rfl
end
theorem gEq_self {d : D} (h : okd 30 d = true) : gEq d d = some (.bl true, 0) := by
  unfold gEq
  have e := eqv_refl 30 d h
  split
  · rename_i b eb
    have : b = true := by
      cases d <;> simp [scl] at eb <;> first | exact eb.symm | exact eb | (simp [← eb])
    rw [this]
  · rw [h, e]; rfl
theorem okds_map {α : Type} {n : Nat} {f : α → D} {l : List α} (h : ∀ a ∈ l, okd n (f a) = true) : okds n (l.map f) = true := by
  induction l with
  | nil => simp [okds]
  | cons a l ih => rw [List.map_cons, okds, h a List.mem_cons_self, ih fun b m => h b (List.mem_cons_of_mem _ m)]; rfl
end VS
namespace L62
open PySem VS
theorem is_row_s (l : List Int) (hl : l.length ≤ 1000) : f__law_is_row [(.tup (l.map .int), 0), (.lst (l.map .int), 0)] = .ok (.bl true, 0) := by
  rw [f__law_is_row, fnOf_ap]
  simp (disch := omega) [b__law_is_row, fill, iR1K_ok]
  refine (for_all (fun (i : Nat) => D.int (i : Int)) (fun _ => true) _ (.bl false, 0) (List.range l.length) (fun i hi K => ?_)).trans ?_
  · have hi' := List.mem_range.mp hi
    simp (disch := omega) [gIx_tup, gIx_lst, lint_s]
  · simp
theorem is_way_s (W : List (Int × Int)) : f__law_is_way [(.tup (W.map prD), 0)] = .ok (.bl true, 0) := by
  rw [f__law_is_way, fnOf_ap]
  simp (disch := omega) [b__law_is_way, fill]
  refine (for_all prD (fun _ => true) _ (.bl false, 0) W (fun y hy K => ?_)).trans ?_
  · simp [prD, lint_s]
  · simp
theorem okd_prs (W : List (Int × Int)) : okd 30 (.lst (W.map prD)) = true := by
  show okds 29 (W.map prD) = true
  exact okds_map fun a _ => by simp [prD, okd, okds]
theorem way_is_n : f__law_way_is [(.non, 0), (.non, 0)] = .ok (.bl true, 0) := by
  rw [f__law_way_is, fnOf_ap]
  simp [b__law_way_is, fill, gIs]
theorem way_is_s (W : List (Int × Int)) : f__law_way_is [(.tup (W.map prD), 0), (.lst (W.map prD), 0)] = .ok (.bl true, 0) := by
  rw [f__law_way_is, fnOf_ap]
  have e := gEq_self (okd_prs W)
  have gi : gIs false (.lst (W.map prD)) .non = some (.bl false, 0) := rfl
  simp [b__law_way_is, fill, gi, is_way_s, e]
theorem gNe_str (x : Str) : gNe (.str x) (.str x) = some (.bl false, 0) := by
  simp [gNe, scl]
theorem never_is_s (l : List Int) (hl : l.length ≤ 1000) : f__law_never_is [(.tup [.str "never", .tup (l.map .int)], 0), (.lst (l.map .int), 0), (.non, 0)] = .ok (.bl true, 0) := by
  rw [f__law_never_is, fnOf_ap]
  have q := is_row_s l hl
  simp [b__law_never_is, fill, q, gIs, gNe_str]
section
variable {g : Gr} {n w : Nat} {ev start : Int}
theorem least_is_s (b : Bool) (V : GM g n w) (goals : List Int) (start ev k : Int) (W : List (Int × Int)) (P : List Int) (hP : P.length ≤ 1000) (hW : W.length ≤ 1000) (h1 : wayOk g goals start W = true) (h2 : ((W.filter fun y => decide (y.1 = ev)).length : Int) = k) :
    f__law_least_is [(.tup [.str "least", .int k, .tup (W.map prD), .tup (P.map .int)], 0), (gM b g, 0), (.lst (goals.map .int), 0), (.int start, 0), (.int ev, 0), (.int k, 0), (.lst (P.map .int), 0)] = .ok (.bl true, 0) := by
  rw [f__law_least_is, fnOf_ap]
  have q1 := is_way_s W
  have q2 := law_leads_s b true V goals start W
  have q3 := is_row_s P hP
  rw [h1] at q2
  simp only [eL_true] at q2
  simp [b__law_least_is, fill, gNe_str, lint_s, q1, q2, q3]
  rw [lc_flt prD (fun y => decide (y.1 = ev)) prD _ W (Nat.le_of_lt (lt_line (by omega))) (by
    rintro ⟨e, r⟩ hy K
    by_cases c : e = ev <;> simp [prD, c])]
  simp [h2, q3]
end
end L62
namespace L62
open PySem VS
theorem mem_rng {n : Nat} {t : Int} : t ∈ rng n ↔ 0 ≤ t ∧ t < n := by
  unfold rng
  rw [List.mem_map]
  constructor
  · rintro ⟨i, hi, rfl⟩
    have := List.mem_range.mp hi
    omega
  · rintro ⟨h0, h1⟩
    exact ⟨t.toNat, List.mem_range.mpr (by omega), by omega⟩
theorem foldl_min_le (ns : List Int) : ∀ n, (ns.foldl min n = n ∨ ns.foldl min n ∈ ns) ∧ ns.foldl min n ≤ n ∧ ∀ y ∈ ns, ns.foldl min n ≤ y := by
  induction ns with
  | nil => intro n; simp
  | cons a ns ih =>
    intro n
    rw [List.foldl_cons]
    obtain ⟨i1, i2, i3⟩ := ih (min n a)
    refine ⟨?_, by omega, fun y hy => ?_⟩
    · rcases i1 with i1 | i1
      · rw [i1]
        by_cases c : n ≤ a
        · exact .inl (by omega)
        · exact .inr (by rw [show min n a = a by omega]; exact List.mem_cons_self)
      · exact .inr (List.mem_cons_of_mem _ i1)
    · rcases List.mem_cons.mp hy with rfl | hy
      · omega
      · exact i3 y hy
theorem fold_set_at (h : Int → Int) : ∀ (l : List Int) (P : List Int) (i : Nat), (∀ r ∈ l, 0 ≤ r ∧ r < (P.length : Int)) → i < P.length → (l.foldl (fun P r => P.set r.toNat (h r)) P)[i]? = if (i : Int) ∈ l then some (h i) else P[i]?
  | [], P, i, _, _ => by simp
  | r :: l, P, i, hl, hi => by
    have hr := hl r List.mem_cons_self
    rw [List.foldl_cons, fold_set_at h l (P.set r.toNat (h r)) i (fun x m => by rw [List.length_set]; exact hl x (List.mem_cons_of_mem _ m)) (by rw [List.length_set]; exact hi)]
    by_cases c : (i : Int) ∈ l
    · rw [if_pos c, if_pos (List.mem_cons_of_mem _ c)]
    · rw [if_neg c]
      by_cases e : (i : Int) = r
      · rw [if_pos (by rw [e]; exact List.mem_cons_self), List.getElem?_set]
        rw [if_pos (by omega), if_pos (by omega), e]
      · rw [if_neg (by simp [e, c]), List.getElem?_set, if_neg (by omega)]
theorem fold_set_len (h : Int → Int) : ∀ (l : List Int) (P : List Int), (l.foldl (fun P r => P.set r.toNat (h r)) P).length = P.length
  | [], P => rfl
  | r :: l, P => by rw [List.foldl_cons, fold_set_len h l, List.length_set]
section
variable {g : Gr} {n w : Nat} {ev start : Int}
theorem fN_num {O : List (Int × Og)} {t : Int} (h : t ∈ keys O) : fN O t = numO O t := by
  obtain ⟨v, hv⟩ := lookup_some h
  unfold fN numO
  rw [hv]
theorem num_mem {O : List (Int × Og)} {t : Int} (h : t ∈ keys O) : ∃ pb, (t, (numO O t, pb)) ∈ O := by
  obtain ⟨⟨m, pb⟩, hv⟩ := lookup_some h
  refine ⟨pb, ?_⟩
  unfold numO
  rw [hv]
  exact lookup_mem hv
theorem Org.num_le {O : List (Int × Og)} (h : Org g n ev start O) {t k : Int} (hk : Rch g ev start t k) : t ∈ keys O ∧ numO O t ≤ k := by
  obtain ⟨m, pb, z1, z2⟩ := h.min t k hk
  have hk := keys_mem.mpr ⟨_, _, z1⟩
  obtain ⟨pb', z3⟩ := num_mem hk
  have := h.B.uniq z1 z3
  injection this with e _
  exact ⟨hk, by omega⟩
theorem bestG_least {O : List (Int × Og)} : ∀ (goals : List Int) (best : Option Int) (c : Int), goals.foldl (betG O) best = some c → (best = some c ∨ c ∈ goals) ∧ (∀ d, best = some d → numO O c ≤ numO O d) ∧ ∀ t ∈ goals, t ∈ keys O → numO O c ≤ numO O t
  | [], best, c, h => by
    have h : best = some c := h
    refine ⟨.inl h, fun d hd => ?_, fun t ht => absurd ht List.not_mem_nil⟩
    rw [h] at hd
    injection hd with hd
    rw [hd]
    exact Int.le_refl _
  | a :: goals, best, c, h => by
    rw [List.foldl_cons] at h
    obtain ⟨h1, h2, h3⟩ := bestG_least goals _ c h
    unfold betG at h1 h2
    cases best with
    | none =>
      dsimp only at h1 h2
      by_cases z : a ∈ keys O
      · rw [if_pos z] at h1 h2
        refine ⟨.inr ?_, fun d hd => (by cases hd), fun t ht hk => ?_⟩
        · rcases h1 with h1 | h1
          · injection h1 with h1; rw [h1]; exact List.mem_cons_self
          · exact List.mem_cons_of_mem _ h1
        · rcases List.mem_cons.mp ht with rfl | ht
          · exact h2 _ rfl
          · exact h3 t ht hk
      · rw [if_neg z] at h1 h2
        refine ⟨.inr ?_, fun d hd => (by cases hd), fun t ht hk => ?_⟩
        · rcases h1 with h1 | h1
          · cases h1
          · exact List.mem_cons_of_mem _ h1
        · rcases List.mem_cons.mp ht with rfl | ht
          · exact absurd hk z
          · exact h3 t ht hk
    | some d =>
      dsimp only at h1 h2
      by_cases z : a ∈ keys O ∧ numO O a < numO O d
      · rw [if_pos z] at h1 h2
        refine ⟨.inr ?_, fun d' hd => ?_, fun t ht hk => ?_⟩
        · rcases h1 with h1 | h1
          · injection h1 with h1; rw [h1]; exact List.mem_cons_self
          · exact List.mem_cons_of_mem _ h1
        · injection hd with hd
          subst hd
          have := h2 _ rfl
          omega
        · rcases List.mem_cons.mp ht with rfl | ht
          · exact h2 _ rfl
          · exact h3 t ht hk
      · rw [if_neg z] at h1 h2
        refine ⟨?_, fun d' hd => ?_, fun t ht hk => ?_⟩
        · rcases h1 with h1 | h1
          · exact .inl h1
          · exact .inr (List.mem_cons_of_mem _ h1)
        · exact h2 _ hd
        · rcases List.mem_cons.mp ht with rfl | ht
          · have := h2 _ rfl
            rcases Int.lt_or_le (numO O t) (numO O d) with q | q
            · exact absurd ⟨hk, q⟩ z
            · omega
          · exact h3 t ht hk
theorem must_law (V : GM g n w) (h0 : 0 ≤ start) (h1 : start < n) (goals : List Int) (hr : ∃ t ∈ goals, ∃ k, Rch g ev start t k) : mustB g n goals start ev = decide ((goals.filter fun t => decide (t ∈ reachL g n start ev)) = []) := by
  have OG := origins_org (ev := ev) V h0 h1
  unfold mustB
  cases hb : bestG (origins g n start ev) goals with
  | none =>
    obtain ⟨t, ht, k, hk⟩ := hr
    exact absurd ((keys_iff OG).mpr ⟨k, hk⟩) (((betG_none goals none).mp hb).2 t ht)
  | some c =>
    obtain ⟨a1, _, a3⟩ := bestG_least goals none c hb
    have hc := bestG_mem goals none (fun c h => by cases h) c hb
    have hcg : c ∈ goals := by
      rcases a1 with a1 | a1
      · cases a1
      · exact a1
    obtain ⟨pb, z⟩ := num_mem hc
    have hn := OG.B.snd _ _ _ z
    refine Bool.eq_iff_iff.mpr ?_
    rw [decide_eq_true_eq, decide_eq_true_eq]
    constructor
    · intro hp
      refine List.filter_eq_nil_iff.mpr fun t ht hm => ?_
      rw [decide_eq_true_eq] at hm
      have q := OG.num_le ((reach_iff V h0 h1).mp hm)
      have := a3 t ht q.1
      omega
    · intro he
      rcases Int.lt_or_le 0 (numO (origins g n start ev) c) with q | q
      · exact q
      · exfalso
        have e0 : numO (origins g n start ev) c = 0 := by omega
        have hm : c ∈ reachL g n start ev := (reach_iff V h0 h1).mpr (by rw [← e0]; exact hn.1)
        have := List.filter_eq_nil_iff.mp he c hcg
        exact this (decide_eq_true hm)
theorem law_musts_s (b : Bool) (V : GM g n w) (h0 : 0 ≤ start) (h1 : start < n) (goals : List Int) (hgl : goals.length ≤ 1000) (hr : ∀ ev, ∃ t ∈ goals, ∃ k, Rch g ev start t k) :
    f__law_musts [(gM b g, 0), (.lst (goals.map .int), 0), (.int start, 0)] = .ok (.lst (((rng w).filter (mustB g n goals start)).map .int), 1) := by
  rw [f__law_musts, fnOf_ap]
  have hl := V.len
  have hn0 := V.n0
  have hw := V.w1
  have hr0 := V.at_ (r := 0) (by omega) (by omega)
  simp (disch := omega) [b__law_musts, fill, gIx_gM, hr0, iR1K_ok]
  refine Eq.trans (for_collect (fun (i : Nat) => D.int i) (fun (acc : List Int) => [some (gM b g, 0), some (.lst (goals.map .int), 0), some (.int start, 0), some (.lst (acc.map .int), 1), none, none, none])
    (fun (i : Nat) => if mustB g n goals start i = true then some (i : Int) else none) (List.range w) [] (by simp; omega) ?_) ?_
  · intro i hi acc hacc K
    have q := law_reach_s b V h0 h1 (i : Int)
    have hlt := lt_line hacc
    have e := must_law (ev := (i : Int)) V h0 h1 goals (hr _)
    simp [q]
    rw [lc_flt D.int (fun t => decide (t ∈ reachL g n start i)) D.int _ goals (Nat.le_of_lt (lt_line (by omega))) (by
      intro t ht K
      by_cases c : t ∈ reachL g n start i <;> simp [c])]
    rw [e]
    cases goals.filter fun t => decide (t ∈ reachL g n start i) with
    | nil => simp [hlt]
    | cons z zs =>
      have : ¬ (zs.length : Int) + 1 = 0 := by omega
      simp [this]
  · have e : (List.range w).filterMap (fun (i : Nat) => if mustB g n goals start i = true then some (i : Int) else none) = (rng w).filter (mustB g n goals start) := by
      unfold rng
      induction List.range w with
      | nil => rfl
      | cons i l ih =>
        rw [List.filterMap_cons, List.map_cons, List.filter_cons, ih]
        by_cases c : mustB g n goals start i = true <;> simp [c]
    rw [e]
    simp
end
end L62
namespace L62
open PySem VS
abbrev Qw := List (Int × List (Int × Int))
def stepW (way : List (Int × Int)) (q : Qw) (e : Int × Int) : Qw := if e.2 ∈ q.map (·.1) then q else q ++ [(e.2, way ++ [e])]
def scanW (g : Gr) (q : Qw) (x : Int × List (Int × Int)) : Qw := (edges g x.1).foldl (stepW x.2) q
def bestW (g : Gr) (goals : List Int) : Nat → Nat → Qw → Option (List (Int × Int))
  | 0, _, _ => none
  | f + 1, p, q => if p < q.length then (if (gt q (p : Int)).1 ∈ goals then some (gt q (p : Int)).2 else bestW g goals f (p + 1) (scanW g q (gt q (p : Int)))) else none
structure WQ (n p : Nat) (q : Qw) : Prop where
  nd : (q.map (·.1)).Nodup
  rg : ∀ t ∈ q.map (·.1), 0 ≤ t ∧ t < (n : Int)
  ln : ∀ x ∈ q, x.2.length ≤ p
theorem WQ.len {n p : Nat} {q : Qw} (h : WQ n p q) : q.length ≤ n := by
  have := nodup_len h.nd h.rg
  rwa [List.length_map] at this
theorem WQ.mono {n p p' : Nat} {q : Qw} (h : WQ n p q) (le : p ≤ p') : WQ n p' q := ⟨h.nd, h.rg, fun x m => Nat.le_trans (h.ln x m) le⟩
theorem WQ.step {n p : Nat} {q : Qw} {way : List (Int × Int)} (h : WQ n (p + 1) q) (hw : way.length ≤ p) {e : Int × Int} (he : 0 ≤ e.2 ∧ e.2 < (n : Int)) : WQ n (p + 1) (stepW way q e) := by
  unfold stepW
  by_cases c : e.2 ∈ q.map (·.1)
  · rw [if_pos c]; exact h
  · rw [if_neg c]
    refine ⟨?_, ?_, ?_⟩
    · rw [List.map_append, List.nodup_append]
      refine ⟨h.nd, by simp, fun a ha b hb e' => ?_⟩
      simp at hb
      exact c (by rw [← hb, ← e']; exact ha)
    · intro t ht
      rw [List.map_append] at ht
      rcases List.mem_append.mp ht with ht | ht
      · exact h.rg t ht
      · simp at ht; rw [ht]; exact he
    · intro x hx
      rcases List.mem_append.mp hx with hx | hx
      · exact h.ln x hx
      · rw [List.mem_singleton] at hx
        rw [hx]
        simp; exact hw
theorem WQ.fold {n p : Nat} {way : List (Int × Int)} (hw : way.length ≤ p) : ∀ (es : List (Int × Int)) {q : Qw}, WQ n (p + 1) q → (∀ e ∈ es, 0 ≤ e.2 ∧ e.2 < (n : Int)) → WQ n (p + 1) (es.foldl (stepW way) q)
  | [], q, h, _ => h
  | e :: es, q, h, he => by
    rw [List.foldl_cons]
    exact WQ.fold hw es (h.step hw (he e List.mem_cons_self)) fun x m => he x (List.mem_cons_of_mem _ m)
theorem stepW_q {way : List (Int × Int)} {q : Qw} {e : Int × Int} {p : Nat} {z : Int × List (Int × Int)} (h : p < q.length ∧ gt q (p : Int) = z) : p < (stepW way q e).length ∧ gt (stepW way q e) (p : Int) = z := by
  unfold stepW
  split
  · exact h
  · refine ⟨by simp; omega, ?_⟩
    rw [gt_app _ _ _ h.1]; exact h.2
theorem foldW_q {way : List (Int × Int)} {p : Nat} {z : Int × List (Int × Int)} : ∀ (es : List (Int × Int)) {q : Qw}, (p < q.length ∧ gt q (p : Int) = z) → p < (es.foldl (stepW way) q).length ∧ gt (es.foldl (stepW way) q) (p : Int) = z
  | [], q, h => h
  | e :: es, q, h => by rw [List.foldl_cons]; exact foldW_q es (stepW_q h)
section
variable {g : Gr} {n w : Nat} {ev start : Int}
theorem WQ.scan (V : GM g n w) {p : Nat} {q : Qw} (h : WQ n p q) (hp : p < q.length) : WQ n (p + 1) (scanW g q (gt q (p : Int))) := by
  have hm : gt q (p : Int) ∈ q := gt_mem (by omega) (by omega)
  have hr := h.rg _ (List.mem_map.mpr ⟨_, hm, rfl⟩)
  exact WQ.fold (h.ln _ hm) _ (h.mono (by omega)) fun e he => V.edge hr.1 hr.2 he
theorem wq0 (h0 : 0 ≤ start) (h1 : start < n) : WQ n 0 [(start, [])] := ⟨by simp, by simp [h0, h1], by simp⟩
def eW (x : Int × List (Int × Int)) : D := .tup [.int x.1, .lst (x.2.map prD)]
def eV (x : Int × List (Int × Int)) : D := .tup [.int x.1, .tup (x.2.map prD)]
def oW : Option (List (Int × Int)) → D
  | none => .non
  | some W => .lst (W.map prD)
def oV : Option (List (Int × Int)) → D
  | none => .non
  | some W => .tup (W.map prD)
def wS (b : Bool) (g : Gr) (goals : List Int) (start : Int) (q : Qw) (x5 x6 x7 x8 x9 : Option (D × Nat)) : SD := [some (gM b g, 0), some (.lst (goals.map .int), 0), some (.int start, 0), some (.lst (q.map eW), 1), some (.lst ((q.map (·.1)).map .int), 1), x5, x6, x7, x8, x9]
theorem law_best_s (b : Bool) (V : GM g n w) (goals : List Int) (h0 : 0 ≤ start) (h1 : start < n) :
    f__law_best_way [(gM b g, 0), (.lst (goals.map .int), 0), (.int start, 0)] = .ok (oW (bestW g goals n 0 [(start, [])]), 0) := by
  rw [f__law_best_way, fnOf_ap]
  have hl := V.len
  have hn1 := V.n1
  have hw := V.w1
  simp (disch := omega) [b__law_best_way, fill, iR1K_ok]
  rw [hl]
  refine Eq.trans (for_gen (fun (i : Nat) => D.int i) (fun (q : Qw) => wS b g goals start q none none none none none)
    (fun l q => ∃ k, k ≤ n ∧ l = List.range' k (n - k) ∧ WQ n k q)
    (fun l q => .ok (oW (bestW g goals l.length (n - l.length) q), 0)) ?_ ?_ (List.range n) [(start, [])] ⟨0, Nat.zero_le _, by rw [List.range_eq_range']; rfl, wq0 h0 h1⟩) ?_
  · intro q _
    unfold wS
    simp [bestW, oW]
  · rintro p l q K ⟨k2, hk2, el, Q⟩ hk
    have hk2n : k2 < n := by
      rcases Nat.lt_or_ge k2 n with c | c
      · exact c
      · rw [show n - k2 = 0 by omega] at el; cases el
    obtain ⟨m2, hm2'⟩ : ∃ m, n - k2 = m + 1 := ⟨n - k2 - 1, by omega⟩
    rw [hm2', List.range'_succ] at el
    injection el with el1 el2
    subst el1
    have hll : l.length = n - (p + 1) := by rw [el2, List.length_range']; omega
    have e1 : n - (n - (p + 1) + 1) = p := by omega
    have e2 : n - (n - (p + 1)) = p + 1 := by omega
    rw [List.length_cons, hll, e1]
    show _ = FR.ok (oW (if p < q.length then (if (gt q (p : Int)).1 ∈ goals then some (gt q (p : Int)).2 else bestW g goals (n - (p + 1)) (p + 1) (scanW g q (gt q (p : Int)))) else none), 0)
    by_cases c : p < q.length
    · have hm : gt q (p : Int) ∈ q := gt_mem (by omega) (by omega)
      have hrk := Q.rg _ (List.mem_map.mpr ⟨_, hm, rfl⟩)
      have hwl := Q.ln _ hm
      have hrl := V.at_ hrk.1 hrk.2
      have hrm := V.mem hrk.1 hrk.2
      have hc : ¬ q.length ≤ p := by omega
      have QS := Q.scan V c
      have gq0 : gIx (.lst (List.map eW q)) (.int p) = some (eW (gt q (p : Int)), 0) := by rw [gIx_lst eW (by omega) (by omega)]
      rw [if_pos c]
      by_cases c2 : (gt q (p : Int)).1 ∈ goals
      · rw [if_pos c2]
        unfold wS
        simp (disch := omega) [-List.map_map, gq0, eW, c2, hc]
        rfl
      · rw [if_neg c2]
        have hk' := hk (scanW g q (gt q (p : Int))) ⟨p + 1, by omega, by rw [el2]; congr 1; omega, QS⟩
        rw [hll, e2] at hk'
        rw [← hk']
        unfold wS
        simp (disch := omega) [-List.map_map, gq0, eW, c2, hc, gIx_gM, hrl, iR1K_ok]
        generalize hgr : gt q (p : Int) = x at hrk hrl hrm hwl
        obtain ⟨r, way⟩ := x
        dsimp only at hrk hrl hrm hwl ⊢
        refine Eq.trans (for_scan (fun (i : Nat) => D.int i) (fun (q2 : Qw) => wS b g goals start q2 (some (.int p, 0)) (some (.int r, 0)) (some (.lst (way.map prD), 0)) none none)
          (fun l2 q2 => WQ n (p + 1) q2 ∧ ∀ o ∈ l2, o < w)
          (fun l2 q2 => l2.foldl (fun q3 (o : Nat) => ((gt (gt g r) (o : Int)).1.map fun y => ((o : Int), y)).foldl (stepW way) q3) q2) (fun q2 _ => rfl) ?_ (List.range w) q ⟨Q.mono (by omega), fun o m => List.mem_range.mp m⟩) ?_
        · rintro o l2 q2 ⟨Q2, hm2⟩
          have ho := hm2 o List.mem_cons_self
          have hpm : gt (gt g r) (o : Int) ∈ gt g r := gt_mem (by omega) (by omega)
          have hrg := V.rng _ hrm _ hpm
          have Q3 := WQ.fold hwl ((gt (gt g r) (o : Int)).1.map fun y => ((o : Int), y)) Q2 fun e he => by
            obtain ⟨y, hy, rfl⟩ := List.mem_map.mp he
            exact hrg y hy
          refine .inl ⟨_, ⟨Q3, fun x m => hm2 x (List.mem_cons_of_mem _ m)⟩, rfl, fun K => ?_⟩
          unfold wS
          simp (disch := omega) [-List.map_map, gIx_gM, gIx_gR, hrl, pP]
          generalize (gt (gt g r) (o : Int)).1 = ts at hrg
          refine Eq.trans (for_scan D.int (fun (q3 : Qw) => wS b g goals start q3 (some (.int p, 0)) (some (.int r, 0)) (some (.lst (way.map prD), 0)) (some (.int o, 0)) none)
            (fun l3 q3 => WQ n (p + 1) q3 ∧ ∀ y ∈ l3, y ∈ ts)
            (fun l3 q3 => l3.foldl (fun q4 y => stepW way q4 ((o : Int), y)) q3) (fun q3 _ => rfl) ?_ ts q2 ⟨Q2, fun _ m => m⟩) ?_
          · rintro y l3 q3 ⟨Q4, hmt⟩
            have hy := hmt y List.mem_cons_self
            refine .inl ⟨_, ⟨Q4.step hwl (hrg y hy), fun x m => hmt x (List.mem_cons_of_mem _ m)⟩, rfl, fun K => ?_⟩
            have hql := Q4.len
            have b2 := lt_line (n := q3.length) (by omega)
            have ga : gAdd (.lst (way.map prD)) (.lst [.tup [.int (o : Int), .int y]]) = some (.lst ((way ++ [((o : Int), y)]).map prD), 1) := gAdd_lstE prD way [((o : Int), y)] (by simp; omega)
            unfold wS stepW
            by_cases c3 : y ∈ q3.map (·.1)
            · simp only [c3, if_true]
              simp [-List.map_map, -List.mem_map, c3]
            · simp only [c3, if_false]
              simp [-List.map_map, -List.mem_map, -gAdd_lst, c3, b2, ga, eW]
          · have e2 : (ts.map fun y => ((o : Int), y)).foldl (stepW way) q2 = ts.foldl (fun q4 y => stepW way q4 ((o : Int), y)) q2 := List.foldl_map
            rw [← e2]
            unfold wS
            simp [-List.map_map]
        · have e1 : (List.range w).foldl (fun q3 (o : Nat) => ((gt (gt g r) (o : Int)).1.map fun y => ((o : Int), y)).foldl (stepW way) q3) q = scanW g q (r, way) := by
            unfold scanW
            rw [edges_rng, hrl]
            exact (foldl_flat _ _ _ _).symm
          rw [e1]
          unfold wS
          simp [-List.map_map]
    · rw [if_neg c]
      have c' : (q.length : Int) ≤ (p : Int) := by omega
      unfold wS
      simp [c', oW]
  · rw [List.length_range, Nat.sub_self]
end
end L62
namespace L62
open PySem VS
theorem lookup_q {α : Type} {O : List (Int × α)} {t : Int} : (O.lookup t).isSome = decide (t ∈ O.map (·.1)) := by
  induction O with
  | nil => simp [List.lookup]
  | cons a O ih =>
    obtain ⟨k, v⟩ := a
    by_cases c : t = k
    · subst c; simp [List.lookup]
    · have : (t == k) = false := beq_eq_false_iff_ne.mpr c
      rw [List.lookup, this, List.map_cons, ih]
      simp [c]
theorem lookup_qn {α : Type} {O : List (Int × α)} {t : Int} (h : t ∉ O.map (·.1)) : O.lookup t = none := by
  have := lookup_q (O := O) (t := t)
  rw [decide_eq_false h] at this
  exact Option.isNone_iff_eq_none.mp (by cases e : O.lookup t <;> simp_all)
section
variable {g : Gr} {n w : Nat} {ev start : Int}
def tr1 : List (Int × Int) → D := fun _ => .bl true
def vS (b : Bool) (g : Gr) (goals : List Int) (start : Int) (q : Qw) (p : Nat) (x6 x7 x8 x9 x10 x11 : Option (D × Nat)) : SD := [some (gM b g, 0), some (.lst (goals.map .int), 0), some (.int start, 0), some (kD tr1 q, 1), some (.lst (q.map eV), 1), some (.int p, 0), x6, x7, x8, x9, x10, x11]
theorem hope_way_s (b : Bool) (V : GM g n w) (goals : List Int) (ha : goals.Pairwise (· < ·)) (hr : ∀ t ∈ goals, 0 ≤ t ∧ t < (n : Int)) (h0 : 0 ≤ start) (h1 : start < n) :
    f_hope_way [(gM b g, 0), (.lst (goals.map .int), 0), (.int start, 0)] = .ok (oV (bestW g goals n 0 [(start, [])]), 0) := by
  rw [f_hope_way, fnOf_ap]
  have hl := V.len
  have hn1 := V.n1
  have hw := V.w1
  have q1 := demand_q_s b V goals start ha hr h0 h1
  simp (disch := omega) [b_hope_way, fill, q1]
  refine wh_inv (fun (x : Nat × Qw) => vS b g goals start x.2 x.1 none none none none none none)
    (fun x => x.1 ≤ n ∧ WQ n x.1 x.2 ∧ bestW g goals (n - x.1) x.1 x.2 = bestW g goals n 0 [(start, [])]) (fun x => n - x.1) (fun fr => fr = .ok (oV (bestW g goals n 0 [(start, [])]), 0)) ?_ bigN (0, [(start, [])]) ⟨Nat.zero_le _, wq0 h0 h1, rfl⟩ (by show n - 0 < bigN; unfold bigN; omega)
  rintro ⟨p, q⟩ ⟨hp, Q, he⟩ K hK
  dsimp only at hp Q he hK ⊢
  have hql := Q.len
  by_cases c : p < q.length
  case neg =>
    have c' : ¬ (p : Int) < (q.length : Int) := by omega
    have : bestW g goals (n - p) p q = none := by
      cases n - p with
      | zero => rfl
      | succ f => show (if p < q.length then _ else none) = none; rw [if_neg c]
    rw [this] at he
    rw [← he]
    unfold vS
    simp [c', oV]
  have c' : (p : Int) < (q.length : Int) := by omega
  have e1 : n - p = (n - (p + 1)) + 1 := by omega
  rw [e1] at he
  have he : (if p < q.length then (if (gt q (p : Int)).1 ∈ goals then some (gt q (p : Int)).2 else bestW g goals (n - (p + 1)) (p + 1) (scanW g q (gt q (p : Int)))) else none) = bestW g goals n 0 [(start, [])] := he
  rw [if_pos c] at he
  have hm : gt q (p : Int) ∈ q := gt_mem (by omega) (by omega)
  have hrk := Q.rg _ (List.mem_map.mpr ⟨_, hm, rfl⟩)
  have hwl := Q.ln _ hm
  have hrl := V.at_ hrk.1 hrk.2
  have hrm := V.mem hrk.1 hrk.2
  have QS := Q.scan V c
  have gq0 : gIx (.lst (List.map eV q)) (.int p) = some (eV (gt q (p : Int)), 0) := by rw [gIx_lst eV (by omega) (by omega)]
  by_cases c2 : (gt q (p : Int)).1 ∈ goals
  · rw [if_pos c2] at he
    rw [← he]
    unfold vS
    simp (disch := omega) [-List.map_map, gq0, eV, c2, c, c']
    rfl
  rw [if_neg c2] at he
  have hk' := hK (p + 1, scanW g q (gt q (p : Int))) ⟨by dsimp only; omega, QS, he⟩ (by dsimp only; omega)
  dsimp only at hk'
  unfold vS
  simp (disch := omega) [-List.map_map, gq0, eV, c2, c, c', gIx_gM, hrl]
  generalize hgr : gt q (p : Int) = x at hrk hrl hrm hwl hk'
  obtain ⟨r, way⟩ := x
  dsimp only at hrk hrl hrm hwl ⊢
  have e5 : (gt g r).zipIdx.foldl (fun q3 (x : Pr × Nat) => (x.1.1.map fun y => ((x.2 : Int), y)).foldl (stepW way) q3) q = scanW g q (r, way) := by
    unfold scanW edges
    exact (foldl_flat _ _ _ _).symm
  refine Eq.trans (for_scan (fun (x : Pr × Nat) => D.tup [.int (x.2 : Int), pP b x.1]) (fun (q2 : Qw) => vS b g goals start q2 p (some (.int r, 0)) (some (.tup (way.map prD), 0)) none none none none)
    (fun l2 q2 => WQ n (p + 1) q2 ∧ ∀ x ∈ l2, x ∈ (gt g r).zipIdx)
    (fun l2 q2 => l2.foldl (fun q3 (x : Pr × Nat) => (x.1.1.map fun y => ((x.2 : Int), y)).foldl (stepW way) q3) q2) (fun q2 _ => rfl) ?_ (gt g r).zipIdx q ⟨Q.mono (by omega), fun o m => m⟩) ?_
  · rintro ⟨⟨ts, en⟩, o⟩ l2 q2 ⟨Q2, hm2⟩
    obtain ⟨ho, hge, pm⟩ := zip_mem (hm2 _ List.mem_cons_self)
    have hrg := V.rng _ hrm _ pm
    dsimp only at hrg ho ⊢
    have Q3 := WQ.fold hwl (ts.map fun y => ((o : Int), y)) Q2 fun e he => by
      obtain ⟨y, hy, rfl⟩ := List.mem_map.mp he
      exact hrg y hy
    refine .inl ⟨_, ⟨Q3, fun x m => hm2 x (List.mem_cons_of_mem _ m)⟩, rfl, fun K => ?_⟩
    unfold vS
    simp (disch := omega) [-List.map_map, pP]
    refine Eq.trans (for_scan D.int (fun (q3 : Qw) => vS b g goals start q3 p (some (.int r, 0)) (some (.tup (way.map prD), 0)) (some (.int o, 0)) (some (VS.eL b (ts.map .int), 0)) (some (.bl en, 0)) none)
      (fun l3 q3 => WQ n (p + 1) q3 ∧ ∀ y ∈ l3, y ∈ ts)
      (fun l3 q3 => l3.foldl (fun q4 y => stepW way q4 ((o : Int), y)) q3) (fun q3 _ => rfl) ?_ ts q2 ⟨Q2, fun _ m => m⟩) ?_
    · rintro y l3 q3 ⟨Q4, hmt⟩
      have hy := hmt y List.mem_cons_self
      refine .inl ⟨_, ⟨Q4.step hwl (hrg y hy), fun x m => hmt x (List.mem_cons_of_mem _ m)⟩, rfl, fun K => ?_⟩
      have hql4 := Q4.len
      have b2 := lt_line (n := q3.length) (by omega)
      have b3 : way.length + 1 ≤ sizeLine := Nat.le_of_lt (lt_line (by omega))
      unfold vS stepW
      by_cases c3 : y ∈ q3.map (·.1)
      · have hk : (q3.lookup y).isSome = true := by rw [lookup_q]; exact decide_eq_true c3
        simp only [c3, if_true]
        simp [-List.map_map, -List.mem_map, hk]
      · have hn := lookup_qn c3
        have hput := dPutD_new tr1 q3 y (way ++ [((o : Int), y)]) hn (by omega)
        have hput' : dPutD (kD tr1 q3) (.int y) (.bl true) = some (kD tr1 (q3 ++ [(y, way ++ [((o : Int), y)])])) := hput
        simp only [c3, if_false]
        simp [-List.map_map, -List.mem_map, hn, hput', b2, b3, eV, prD]
    · have e2 : (ts.map fun y => ((o : Int), y)).foldl (stepW way) q2 = ts.foldl (fun q4 y => stepW way q4 ((o : Int), y)) q2 := List.foldl_map
      rw [← e2]
      unfold vS
      simp [-List.map_map]
  · rw [e5]
    unfold vS at hk' ⊢
    simp [-List.map_map] at hk' ⊢
    exact hk'
end
end L62
namespace L62
open PySem VS
abbrev Pl := List (Int × Int)
structure VM (mv : Gr) (many : Nat) : Prop where
  sz : mv.length ≤ 1000
  mn : many ≤ 1000
  row : ∀ r ∈ mv, r.length = many
  asc : ∀ r ∈ mv, ∀ p ∈ r, p.1.Pairwise (· < ·)
  rng : ∀ r ∈ mv, ∀ p ∈ r, ∀ t ∈ p.1, 0 ≤ t ∧ t < (mv.length : Int)
/-- the first event that leads into the plan -/
def leads (plan : Pl) (p : Pr) : Bool := !p.2 && !p.1.isEmpty && p.1.all fun t => decide (0 ≤ (gt plan t).1)
def forceEv (plan : Pl) (row : List Pr) : Int := match row.zipIdx.find? (fun p => leads plan p.1) with
  | some p => (p.2 : Int)
  | none => -1
theorem forcing_s (b c : Bool) (row : List Pr) (plan : Pl) (hm : ∀ p ∈ row, p.1.length ≤ 1000) (ht : ∀ p ∈ row, ∀ t ∈ p.1, 0 ≤ t ∧ t < (plan.length : Int)) :
    f_forcing_event [(gR b row, 0), (eL c (plan.map prD), 0)] = .ok (.int (forceEv plan row), 0) := by
  rw [f_forcing_event, fnOf_ap]
  simp [b_forcing_event, fill, gR]
  refine (for_gen (fun p : Pr × Nat => D.tup [D.int p.2, pP b p.1]) (fun _ : Unit => [some (eL b (List.map (pP b) row), 0), some (eL c (List.map prD plan), 0), none, none, none, none, none]) (fun l _ => ∀ p ∈ l, p.1 ∈ row)
    (fun l _ => .ok (.int (match l.find? (fun p => leads plan p.1) with | some p => (p.2 : Int) | none => -1), 0)) ?_ ?_ row.zipIdx () ?_)
  · intro _ _
    simp
  · rintro ⟨⟨ts, en⟩, i⟩ l _ K h1 hk
    have hm2 := hm _ (h1 _ List.mem_cons_self)
    have ht2 := ht _ (h1 _ List.mem_cons_self)
    dsimp only at hm2 ht2
    have hk' := hk () fun p m => h1 p (List.mem_cons_of_mem _ m)
    simp [pP]
    rw [lc_flt D.int (fun t => decide ((gt plan t).1 < 0)) D.int _ ts (Nat.le_trans hm2 (by decide))]
    · rw [List.find?_cons]
      by_cases q7 : en = true
      · have e : leads plan (ts, en) = false := by simp [leads, q7]
        simp [q7, e, hk']
        simp [q7] at e
        simp [e]
      by_cases q8 : ts = []
      · have e : leads plan (ts, en) = false := by simp [leads, q8]
        simp [q7, q8, hk'] at e ⊢
        simp [e]
      have q9 : 0 < ts.length := List.length_pos_iff.mpr q8
      by_cases q10 : (ts.filter fun t => decide ((gt plan t).1 < 0)) = []
      · have e : leads plan (ts, en) = true := by
          rw [List.filter_eq_nil_iff] at q10
          simp [leads, q7, q8]
          intro x m
          have := q10 x m
          simp at this
          exact this
        simp [q7, q10, q9] at e ⊢
        simp [e]
      · have e : leads plan (ts, en) = false := by
          cases h : leads plan (ts, en) with
          | false => rfl
          | true =>
            refine absurd ?_ q10
            rw [List.filter_eq_nil_iff]
            intro x m
            simp [leads, q7, q8] at h
            have := h x m
            simp
            exact this
        have q11 : ¬ ((ts.filter fun t => decide ((gt plan t).1 < 0)).length : Int) = 0 := by
          have := List.length_pos_iff.mpr q10
          omega
        simp [q7, q11, q9, hk'] at e ⊢
        simp [e]
        intro z
        refine absurd ?_ q10
        rw [List.filter_eq_nil_iff]
        intro x m
        simp
        exact z x m
    · intro t m K'
      obtain ⟨t0, t1⟩ := ht2 t m
      simp (disch := omega) [gIx_eL, prD]
  · intro p hp
    rw [List.mem_zipIdx_iff_getElem?] at hp
    exact List.mem_of_getElem? hp
def foundL (mv : Gr) (pl : Pl) : List (Int × Int) := mv.zipIdx.filterMap fun p => if (gt pl (p.2 : Int)).1 < 0 ∧ 0 ≤ forceEv pl p.1 then some ((p.2 : Int), forceEv pl p.1) else none
def putAll (k : Int) (pl : Pl) (fs : List (Int × Int)) : Pl := fs.foldl (fun pl q => pl.set q.1.toNat (k, q.2)) pl
def rounds (mv : Gr) : List Nat → Pl → Pl
  | [], pl => pl
  | i :: is, pl => if foundL mv pl = [] then pl else rounds mv is (putAll (1 + (i : Int)) pl (foundL mv pl))
def plan0 (mv : Gr) (goals : List Int) : Pl := goals.foldl (fun pl g => pl.set g.toNat (0, -1)) (mv.map fun _ => (-1, -1))
def fPlan (mv : Gr) (goals : List Int) : Pl := rounds mv (List.range (mv.length - 1)) (plan0 mv goals)
theorem putAll_len (k : Int) (fs : List (Int × Int)) : ∀ pl : Pl, (putAll k pl fs).length = pl.length := by
  induction fs with
  | nil => intro pl; rfl
  | cons q fs ih =>
    intro pl
    show (putAll k (pl.set q.1.toNat (k, q.2)) fs).length = _
    rw [ih, List.length_set]
theorem plan0_len (mv : Gr) (goals : List Int) : (plan0 mv goals).length = mv.length := by
  unfold plan0
  have : ∀ pl : Pl, (goals.foldl (fun pl g => pl.set g.toNat (0, -1)) pl).length = pl.length := by
    induction goals with
    | nil => intro pl; rfl
    | cons g gs ih => intro pl; rw [List.foldl_cons, ih, List.length_set]
  rw [this, List.length_map]
theorem found_in {mv : Gr} {pl : Pl} {q : Int × Int} (h : q ∈ foundL mv pl) : ∃ r : Nat, r < mv.length ∧ q.1 = r ∧ q.2 = forceEv pl (gt mv (r : Int)) ∧ (gt pl (r : Int)).1 < 0 ∧ 0 ≤ q.2 := by
  obtain ⟨p, h1, h2⟩ := List.mem_filterMap.mp h
  rw [List.mem_zipIdx_iff_getElem?] at h1
  obtain ⟨a1, a2⟩ := List.getElem?_eq_some_iff.mp h1
  have a3 : gt mv (p.2 : Int) = p.1 := by
    unfold gt
    rw [Int.toNat_natCast, List.getD_eq_getElem?_getD, h1]; rfl
  split at h2
  · rename_i c
    cases h2
    exact ⟨p.2, a1, rfl, by rw [a3], c.1, c.2⟩
  · cases h2
theorem found_len (mv : Gr) (pl : Pl) : (foundL mv pl).length ≤ mv.length := by
  unfold foundL
  refine Nat.le_trans (List.length_filterMap_le _ _) ?_
  rw [List.length_zipIdx]
  exact Nat.le_refl _
theorem forced_s (b : Bool) (mv : Gr) (goals : List Int) (many : Nat) (V : VM mv many) (hm : ∀ r ∈ mv, ∀ p ∈ r, p.1.length ≤ 1000) (h0 : 0 < mv.length) (hr : ∀ t ∈ goals, 0 ≤ t ∧ t < (mv.length : Int)) :
    f_forced_plan [(gM b mv, 0), (.lst (goals.map .int), 0)] = .ok (.tup ((fPlan mv goals).map prD), 0) := by
  rw [f_forced_plan, fnOf_ap]
  have hsz := V.sz
  simp [b_forced_plan, fill, gM]
  rw [lc_map (gR b) (fun _ => D.tup [.int (-1), .int (-1)]) _ mv (Nat.le_trans hsz (by decide)) (fun a m K => by simp)]
  simp
  have e1 : mv.map (fun _ => D.tup [D.int (-1), D.int (-1)]) = (mv.map fun _ => ((-1, -1) : Int × Int)).map prD := by rw [List.map_map]; rfl
  rw [e1]
  refine (for_foldP D.int (fun pl : Pl => [some (eL b (List.map (gR b) mv), 0), some (D.lst (List.map D.int goals), 0), some (D.lst (List.map prD pl), 1), none, none, none, none, none, none, none]) (fun pl => pl.length = mv.length) (fun pl g => pl.set g.toNat (0, -1)) goals (mv.map fun _ => (-1, -1)) (List.length_map _) (fun g hg pl hpl => ⟨by rw [List.length_set]; exact hpl, fun K => ?_⟩)).trans ?_
  · obtain ⟨g0, g1⟩ := hr g hg
    simp (disch := omega) [ixN_ok, hpl]
    rfl
  simp (disch := omega) [iR2J_ok]
  have hl0 := plan0_len mv goals
  unfold fPlan
  show (forGo _ _ _ _ [_, _, some (D.lst ((plan0 mv goals).map prD), 1), _, _, _, _, _, _, _]).fin _ _ _ = _
  generalize plan0 mv goals = p0 at hl0 ⊢
  refine for_gen (fun i : Nat => D.int (1 + (i : Int))) (fun pl : Pl => [some (eL b (List.map (gR b) mv), 0), some (D.lst (List.map D.int goals), 0), some (D.lst (List.map prD pl), 1), none, none, none, none, none, none, none]) (fun _ pl => pl.length = mv.length) (fun l pl => .ok (.tup ((rounds mv l pl).map prD), 0)) ?_ ?_ (List.range (mv.length - 1)) p0 hl0
  · intro pl hpl
    simp [rounds]
  · intro i l pl K hpl hk
    simp
    refine (for_collect (fun p : List Pr × Nat => D.tup [D.int p.2, gR b p.1]) (fun acc : List (Int × Int) => [some (eL b (List.map (gR b) mv), 0), some (D.lst (List.map D.int goals), 0), some (D.lst (List.map prD pl), 1), none, none, some (D.int (1 + (i : Int)), 0), some (D.lst (acc.map prD), 1), none, none, none])
      (fun p => if (gt pl (p.2 : Int)).1 < 0 ∧ 0 ≤ forceEv pl p.1 then some ((p.2 : Int), forceEv pl p.1) else none) mv.zipIdx [] (by rw [List.length_zipIdx]; simp; omega) (fun p hp acc hacc K' => ?_)).trans ?_
    · rw [List.mem_zipIdx_iff_getElem?] at hp
      obtain ⟨a1, a2⟩ := List.getElem?_eq_some_iff.mp hp
      have a3 : p.1 ∈ mv := List.mem_of_getElem? hp
      obtain ⟨row, r⟩ := p
      dsimp only at a1 a3
      have q := forcing_s b false row pl (hm row a3) (fun p m t mt => by rw [hpl]; exact V.rng row a3 p m t mt)
      simp only [eL_false] at q
      simp (disch := omega) [gIx_lst, prD, hpl]
      by_cases c1 : (gt pl (r : Int)).1 < 0
      · by_cases c2 : 0 ≤ forceEv pl row
        · simp [c1, q, c2, lt_line hacc, prD]
        · simp [c1, q, c2, prD]
      · simp [c1, prD]
    show _ = FR.ok (D.tup (List.map prD (if foundL mv pl = [] then pl else rounds mv l (putAll (1 + (i : Int)) pl (foundL mv pl)))), 0)
    rw [List.nil_append]
    show seqK _ _ _ _ [_, _, _, _, _, _, some (D.lst ((foundL mv pl).map prD), 1), _, _, _] = _
    have hin := fun q => @found_in mv pl q
    have hfl := found_len mv pl
    generalize foundL mv pl = fs at hin hfl ⊢
    by_cases c : fs = []
    · simp [c]
    · have c2 : ¬ (fs.length : Int) = 0 := by
        have := List.length_pos_iff.mpr c
        omega
      simp [c, c2]
      refine (for_foldP prD (fun p2 : Pl => [some (eL b (List.map (gR b) mv), 0), some (D.lst (List.map D.int goals), 0), some (D.lst (List.map prD p2), 1), none, none, some (D.int (1 + (i : Int)), 0), some (D.lst (fs.map prD), 0), none, none, none]) (fun p2 => p2.length = mv.length) (fun pl q => pl.set q.1.toNat (1 + (i : Int), q.2)) fs pl hpl (fun q hq p2 hp2 => ⟨by rw [List.length_set]; exact hp2, fun K => ?_⟩)).trans ?_
      · obtain ⟨r, r1, r2, r3, r4, r5⟩ := hin q hq
        simp (disch := omega) [prD, ixN_ok, hp2]
      · simp
        exact hk _ ((putAll_len _ _ _).trans hpl)
theorem rounds_len (mv : Gr) : ∀ (l : List Nat) (pl : Pl), (rounds mv l pl).length = pl.length
  | [], pl => rfl
  | i :: is, pl => by
    unfold rounds
    split
    · rfl
    · rw [rounds_len mv is, putAll_len]
theorem wish_s (b : Bool) {mv : Gr} {n w : Nat} (V : GM mv n w) (goals : List Int) (start : Int) (ha : goals.Pairwise (· < ·)) (hr : ∀ t ∈ goals, 0 ≤ t ∧ t < (n : Int)) (h0 : 0 ≤ start) (h1 : start < n) :
    ∃ d, f_wish_paper [(gM b mv, 0), (.lst (goals.map .int), 0), (.int start, 0)] = .ok (d, 0) := by
  have hln := V.len
  have hn1 := V.n1
  have hn0 := V.n0
  have VV : VM mv w := ⟨by omega, by have := V.w1; omega, V.row, V.asc, by rw [hln]; exact V.rng⟩
  have q1 := demand_q_s b V goals start ha hr h0 h1
  have q2 := forced_s b mv goals w VV (fun r hr p hp => by have := V.tl hr hp; omega) (by omega) (by rw [hln]; exact hr)
  have hl : (fPlan mv goals).length = mv.length := by unfold fPlan; rw [rounds_len, plan0_len]
  rw [f_wish_paper, fnOf_ap]
  generalize hP : fPlan mv goals = pl at q2 hl
  by_cases c : 0 ≤ (gt pl start).1
  · simp (disch := omega) [b_wish_paper, fill, q1, q2, gIx_tup, hl, prD, c]
  · simp (disch := omega) [b_wish_paper, fill, q1, q2, gIx_tup, hl, prD, c, iR1K_ok]
    rw [lc_flt (fun r : Nat => D.int r) (fun r : Nat => decide ((gt pl (r : Int)).1 < 0)) (fun r : Nat => D.int r) _ (List.range mv.length) (Nat.le_of_lt (lt_line (by simp; omega))) (by
      intro r hr' K
      have hr2 := List.mem_range.mp hr'
      by_cases z : (gt pl (r : Int)).1 < 0 <;> simp (disch := omega) [gIx_tup, hl, prD, z])]
    simp
end L62
namespace L62
open PySem VS
def ascF (n : Int) : Int → List Int → Bool
  | _, [] => true
  | last, a :: l => decide (last < a ∧ a < n) && ascF n a l
theorem are_places_g (b : Bool) (row : List Int) (n : Int) : f_are_places [(VS.eL b (row.map .int), 0), (.int n, 0)] = .ok (.bl (ascF n (-1) row), 0) := by
  rw [f_are_places, fnOf_ap]
  simp [b_are_places, fill]
  refine for_gen D.int (fun last : Int => [some (VS.eL b (List.map D.int row), 0), some (D.int n, 0), some (D.int last, 0), none]) (fun _ last => -1 ≤ last) (fun l last => .ok (.bl (ascF n last l), 0)) ?_ ?_ row (-1) (Int.le_refl _)
  · intro last _
    simp [ascF]
  · intro a l last K h hk
    show _ = FR.ok (.bl (decide (last < a ∧ a < n) && ascF n a l), 0)
    by_cases c : last < a ∧ a < n
    · obtain ⟨c1, c2⟩ := c
      have c3 : 0 ≤ a := by omega
      have c4 : ¬ a ≤ last := by omega
      have := hk a (by omega)
      simp [is_place_s, c1, c2, c3, c4]
      exact this
    · rw [decide_eq_false c]
      by_cases c2 : 0 ≤ a ∧ a < n
      · have c4 : a ≤ last := by omega
        simp [is_place_s, c2, c4]
      · simp [is_place_s, c2]
theorem law_asc_g (b : Bool) (row : List Int) (n : Int) : f__law_ascending [(VS.eL b (row.map .int), 0), (.int n, 0)] = .ok (.bl (ascF n (-1) row), 0) := by
  rw [f__law_ascending, fnOf_ap]
  simp [b__law_ascending, fill]
  refine for_gen D.int (fun last : Int => [some (VS.eL b (List.map D.int row), 0), some (D.int n, 0), some (D.int last, 0), none]) (fun _ last => -1 ≤ last) (fun l last => .ok (.bl (ascF n last l), 0)) ?_ ?_ row (-1) (Int.le_refl _)
  · intro last _
    simp [ascF]
  · intro a l last K h hk
    show _ = FR.ok (.bl (decide (last < a ∧ a < n) && ascF n a l), 0)
    by_cases c1 : last < a
    · by_cases c2 : a < n
      · have := hk a (by omega)
        simp [c1, c2]
        exact this
      · simp [c1, c2]
    · simp [c1]
def pairM (n : Int) (p : Pr) : Bool := ascF n (-1) p.1
def rowM (gr : Gr) (row : List Pr) : Bool := decide (row.length = (gt gr 0).length) && row.all (pairM gr.length)
def areM (gr : Gr) : Bool := (decide (1 ≤ gr.length ∧ gr.length ≤ 60) && decide ((gt gr 0).length ≤ 6)) && gr.all (rowM gr)
theorem is_moves_g (b : Bool) (gr : Gr) : f_is_moves [(gM b gr, 0)] = .ok (.bl (areM gr), 0) := by
  rw [f_is_moves, fnOf_ap]
  unfold areM
  by_cases c1 : (1 : Int) ≤ gr.length
  case neg =>
    have : ¬ (1 ≤ gr.length ∧ gr.length ≤ 60) := by omega
    simp (disch := omega) [b_is_moves, fill, c1, this]
  by_cases c2 : (gr.length : Int) ≤ 60
  case neg =>
    have : ¬ (1 ≤ gr.length ∧ gr.length ≤ 60) := by omega
    simp (disch := omega) [b_is_moves, fill, c1, c2, this]
  by_cases c3 : (gt gr 0).length ≤ 6
  case neg =>
    have c3' : (6 : Int) < (gt gr 0).length := by omega
    simp (disch := omega) [b_is_moves, fill, gIx_gM, c1, c2, c3, c3']
  have c3' : ¬ (6 : Int) < (gt gr 0).length := by omega
  have c12 : 1 ≤ gr.length ∧ gr.length ≤ 60 := by omega
  rw [decide_eq_true c12, decide_eq_true c3]
  simp (disch := omega) [b_is_moves, fill, gIx_gM, c1, c2, c3']
  refine Eq.trans (for_all (gR b) (rowM gr) _ (.bl false, 0) gr fun row hrow K => ?_) ?_
  · unfold rowM
    by_cases c4 : row.length = (gt gr 0).length
    case neg =>
      have c4' : ¬ (row.length : Int) = ((gt gr 0).length : Int) := by omega
      simp (disch := omega) [gIx_gM, c4, c4']
    have c4' : (row.length : Int) = ((gt gr 0).length : Int) := by omega
    rw [decide_eq_true c4, Bool.true_and]
    simp (disch := omega) [gIx_gM, c4, c4']
    refine Eq.trans (for_all (pP b) (pairM gr.length) _ (.bl false, 0) row fun p hp K => ?_) ?_
    · have q := are_places_g b p.1 gr.length
      unfold pairM
      cases h : ascF gr.length (-1) p.1 <;> simp [pP, q, h]
    · cases row.all (pairM gr.length) <;> simp
  · cases gr.all (rowM gr) <;> simp
theorem law_are_g (gr : Gr) (hr : ∀ row ∈ gr, row.length ≤ 1000) : f__law_are_moves [(gM false gr, 0)] = .ok (.bl (areM gr), 0) := by
  rw [f__law_are_moves, fnOf_ap]
  unfold areM
  by_cases c1 : (1 : Int) ≤ gr.length
  case neg =>
    have : ¬ (1 ≤ gr.length ∧ gr.length ≤ 60) := by omega
    simp (disch := omega) [b__law_are_moves, fill, c1, this]
  by_cases c2 : (gr.length : Int) ≤ 60
  case neg =>
    have : ¬ (1 ≤ gr.length ∧ gr.length ≤ 60) := by omega
    simp (disch := omega) [b__law_are_moves, fill, c1, c2, this]
  by_cases c3 : (gt gr 0).length ≤ 6
  case neg =>
    have c3' : (6 : Int) < (gt gr 0).length := by omega
    simp (disch := omega) [b__law_are_moves, fill, gIx_gM, c1, c2, c3, c3']
  have c3' : ¬ (6 : Int) < (gt gr 0).length := by omega
  have c12 : 1 ≤ gr.length ∧ gr.length ≤ 60 := by omega
  rw [decide_eq_true c12, decide_eq_true c3]
  simp (disch := omega) [b__law_are_moves, fill, gIx_gM, c1, c2, c3']
  refine Eq.trans (for_all (gR false) (rowM gr) _ (.bl false, 0) gr fun row hrow K => ?_) ?_
  · have hrl := hr row hrow
    unfold rowM
    by_cases c4 : row.length = (gt gr 0).length
    case neg =>
      have c4' : ¬ (row.length : Int) = ((gt gr 0).length : Int) := by omega
      simp (disch := omega) [gIx_gM, c4, c4']
    have c4' : (row.length : Int) = ((gt gr 0).length : Int) := by omega
    rw [decide_eq_true c4, Bool.true_and]
    simp (disch := omega) [gIx_gM, c4, c4']
    rw [lc_flt (pP false) (fun p => !pairM gr.length p) (pP false) _ row (Nat.le_of_lt (lt_line (by omega))) (by
      intro p hp K2
      have q := law_asc_g false p.1 gr.length
      unfold pairM
      cases h : ascF gr.length (-1) p.1 <;> simp [h] at q <;> simp [pP, q, h])]
    cases hz : row.filter fun p => !pairM gr.length p with
    | nil =>
      have : row.all (pairM gr.length) = true := by
        refine List.all_eq_true.mpr fun p hp => ?_
        have := List.filter_eq_nil_iff.mp hz p hp
        simpa using this
      simp [this]
    | cons z zs =>
      have hz1 : z ∈ row.filter fun p => !pairM gr.length p := by rw [hz]; exact List.mem_cons_self
      obtain ⟨z1, z2⟩ := List.mem_filter.mp hz1
      have hp : (0 : Int) < (zs.length : Int) + 1 := by omega
      have : row.all (pairM gr.length) = false := Bool.eq_false_iff.mpr fun h => by
        have := List.all_eq_true.mp h z z1
        rw [this] at z2
        cases z2
      simp [hp, this]
  · cases gr.all (rowM gr) <;> simp
theorem ascF_pw {n : Int} : ∀ (l : List Int) {last : Int}, ascF n last l = true → l.Pairwise (· < ·) ∧ ∀ t ∈ l, last < t ∧ t < n
  | [], last, _ => ⟨.nil, fun _ m => absurd m List.not_mem_nil⟩
  | a :: l, last, h => by
    unfold ascF at h
    rw [Bool.and_eq_true, decide_eq_true_eq] at h
    obtain ⟨i1, i2⟩ := ascF_pw l h.2
    refine ⟨List.pairwise_cons.mpr ⟨fun t m => (i2 t m).1, i1⟩, fun t m => ?_⟩
    rcases List.mem_cons.mp m with rfl | m
    · exact h.1
    · have := i2 t m
      omega
theorem areM_gm {gr : Gr} (h : areM gr = true) : GM gr gr.length (gt gr 0).length := by
  unfold areM at h
  rw [Bool.and_eq_true, Bool.and_eq_true, decide_eq_true_eq, decide_eq_true_eq] at h
  obtain ⟨⟨h1, h2⟩, h3⟩ := h
  have hrow : ∀ r ∈ gr, r.length = (gt gr 0).length ∧ r.all (pairM gr.length) = true := fun r hr => by
    have := List.all_eq_true.mp h3 r hr
    unfold rowM at this
    rw [Bool.and_eq_true, decide_eq_true_eq] at this
    exact this
  have hp : ∀ r ∈ gr, ∀ p ∈ r, p.1.Pairwise (· < ·) ∧ ∀ t ∈ p.1, (-1 : Int) < t ∧ t < (gr.length : Int) := fun r hr p hp => ascF_pw p.1 (List.all_eq_true.mp (hrow r hr).2 p hp)
  exact ⟨by omega, by omega, h2, rfl, fun r hr => (hrow r hr).1, fun r hr p m => (hp r hr p m).1, fun r hr p m t mt => by have := (hp r hr p m).2 t mt; omega⟩
end L62
namespace L62
open PySem VS
def fitQ (gr : Gr) (goals : List Int) (start : Int) : Bool := ascF gr.length (-1) goals && decide (0 ≤ start ∧ start < (gr.length : Int))
theorem demand_g (b : Bool) (gr : Gr) (goals : List Int) (start : Int) :
    f_demand_question [(gM b gr, 0), (.lst (goals.map .int), 0), (.int start, 0)] = if areM gr = true then (if fitQ gr goals start = true then .ok (.non, 0) else .exc ⟨"BadOrder", none⟩) else .exc ⟨"BadGraph", none⟩ := by
  rw [f_demand_question, fnOf_ap]
  have q1 := is_moves_g b gr
  have q2 := are_places_g false goals gr.length
  simp only [eL_false] at q2
  unfold fitQ
  cases h : areM gr
  · rw [h] at q1
    simp [b_demand_question, fill, q1]
  · rw [h] at q1
    cases h2 : ascF gr.length (-1) goals
    · rw [h2] at q2
      simp [b_demand_question, fill, q1, q2]
    · rw [h2] at q2
      by_cases c : 0 ≤ start ∧ start < (gr.length : Int)
      · simp [b_demand_question, fill, q1, q2, is_place_s, c]
      · simp [b_demand_question, fill, q1, q2, is_place_s, c]
theorem fit_gm {gr : Gr} {goals : List Int} {start : Int} (h : fitQ gr goals start = true) : goals.Pairwise (· < ·) ∧ (∀ t ∈ goals, 0 ≤ t ∧ t < ((gr.length : Nat) : Int)) ∧ 0 ≤ start ∧ start < ((gr.length : Nat) : Int) := by
  unfold fitQ at h
  rw [Bool.and_eq_true, decide_eq_true_eq] at h
  obtain ⟨i1, i2⟩ := ascF_pw goals h.1
  exact ⟨i1, fun t m => by have := i2 t m; omega, h.2.1, h.2.2⟩
def dueD (pr : Bool) (gr : Gr) (goals : List Int) (start ev : Int) : D :=
  if areM gr = true then (if fitQ gr goals start = true then (if pr = true ∧ ¬ (0 ≤ ev ∧ ev < ((gt gr 0).length : Int)) then .tup [.str "event", .int ev] else .tup [.str "none", .int 0]) else .tup [.str "order", .int 0]) else .tup [.str "graph", .int 0]
theorem gEq_str (x : Str) : gEq (.str x) (.str x) = some (.bl true, 0) := by simp [gEq, scl]
theorem gEq_sne {x y : Str} (h : x ≠ y) : gEq (.str x) (.str y) = some (.bl false, 0) := by simp [gEq, scl, h]
def isPr (word : Str) : Bool := decide (word = "presses")
theorem law_due_s (word : Str) (gr : Gr) (hr : ∀ row ∈ gr, row.length ≤ 1000) (goals : List Int) (start ev : Int) :
    f__law_due [(.str word, 0), (gM false gr, 0), (.lst (goals.map .int), 0), (.int start, 0), (.int ev, 0)] = .ok (dueD (isPr word) gr goals start ev, 0) := by
  rw [f__law_due, fnOf_ap]
  have q1 := law_are_g gr hr
  have q2 := law_asc_g false goals gr.length
  simp only [eL_false] at q2
  unfold dueD
  cases h : areM gr
  · rw [h] at q1
    simp [b__law_due, fill, q1]
  · rw [h] at q1
    have V := areM_gm h
    have hn := V.n0
    unfold fitQ
    cases h2 : ascF gr.length (-1) goals
    · rw [h2] at q2
      simp [b__law_due, fill, q1, q2]
    · rw [h2] at q2
      by_cases c1 : 0 ≤ start
      case neg => simp [b__law_due, fill, q1, q2, c1]
      by_cases c2 : start < (gr.length : Int)
      case neg => simp [b__law_due, fill, q1, q2, c1, c2]
      unfold isPr
      by_cases c3 : word = "presses"
      · subst c3
        by_cases c4 : 0 ≤ ev
        · by_cases c5 : ev < ((gt gr 0).length : Int) <;> simp (disch := omega) [b__law_due, fill, q1, q2, c1, c2, c4, c5, gEq_str, gIx_gM]
        · simp (disch := omega) [b__law_due, fill, q1, q2, c1, c2, c4, gEq_str, gIx_gM]
      · have e := gEq_sne c3
        have e2 : gEq (.str word) (.str (PySem.Str.ofString "presses")) = some (.bl false, 0) := e
        simp [b__law_due, fill, q1, q2, c1, c2, e2, c3]
theorem wish_g (b : Bool) (gr : Gr) (goals : List Int) (start : Int) : ∃ d, f_wish_paper [(gM b gr, 0), (.lst (goals.map .int), 0), (.int start, 0)] = if areM gr = true then (if fitQ gr goals start = true then .ok (d, 0) else .exc ⟨"BadOrder", none⟩) else .exc ⟨"BadGraph", none⟩ := by
  have q := demand_g b gr goals start
  cases h : areM gr
  · rw [h] at q
    refine ⟨.non, ?_⟩
    rw [f_wish_paper, fnOf_ap]
    simp at q
    simp [b_wish_paper, fill, q]
  · rw [h] at q
    cases h2 : fitQ gr goals start
    · rw [h2] at q
      refine ⟨.non, ?_⟩
      rw [f_wish_paper, fnOf_ap]
      simp at q
      simp [b_wish_paper, fill, q]
    · obtain ⟨f1, f2, f3, f4⟩ := fit_gm h2
      obtain ⟨d, hd⟩ := wish_s b (areM_gm h) goals start f1 f2 f3 f4
      exact ⟨d, by simp [hd]⟩
theorem hope_g (b : Bool) (gr : Gr) (goals : List Int) (start : Int) : ∃ d, f_hope_way [(gM b gr, 0), (.lst (goals.map .int), 0), (.int start, 0)] = if areM gr = true then (if fitQ gr goals start = true then .ok (d, 0) else .exc ⟨"BadOrder", none⟩) else .exc ⟨"BadGraph", none⟩ := by
  have q := demand_g b gr goals start
  cases h : areM gr
  · rw [h] at q
    refine ⟨.non, ?_⟩
    rw [f_hope_way, fnOf_ap]
    simp at q
    simp [b_hope_way, fill, q]
  · rw [h] at q
    cases h2 : fitQ gr goals start
    · rw [h2] at q
      refine ⟨.non, ?_⟩
      rw [f_hope_way, fnOf_ap]
      simp at q
      simp [b_hope_way, fill, q]
    · obtain ⟨f1, f2, f3, f4⟩ := fit_gm h2
      have hd := hope_way_s b (areM_gm h) goals f1 f2 f3 f4
      exact ⟨_, by simp [hd]; rfl⟩
theorem must_g (b : Bool) (gr : Gr) (goals : List Int) (start : Int) : ∃ d, f_must_events [(gM b gr, 0), (.lst (goals.map .int), 0), (.int start, 0)] = if areM gr = true then (if fitQ gr goals start = true then .ok (d, 0) else .exc ⟨"BadOrder", none⟩) else .exc ⟨"BadGraph", none⟩ := by
  have q := demand_g b gr goals start
  cases h : areM gr
  · rw [h] at q
    refine ⟨.non, ?_⟩
    rw [f_must_events, fnOf_ap]
    simp at q
    simp [b_must_events, fill, q]
  · rw [h] at q
    cases h2 : fitQ gr goals start
    · rw [h2] at q
      refine ⟨.non, ?_⟩
      rw [f_must_events, fnOf_ap]
      simp at q
      simp [b_must_events, fill, q]
    · obtain ⟨f1, f2, f3, f4⟩ := fit_gm h2
      have hd := must_events_s b (areM_gm h) goals f1 f2 f3 f4
      exact ⟨_, by simp [hd]; rfl⟩
theorem presses_g (b : Bool) (gr : Gr) (goals : List Int) (start ev : Int) : ∃ d, f_least_presses [(gM b gr, 0), (.lst (goals.map .int), 0), (.int start, 0), (.int ev, 0)] = if areM gr = true then (if fitQ gr goals start = true then (if 0 ≤ ev ∧ ev < ((gt gr 0).length : Int) then .ok (d, 0) else .exc ⟨"BadEvent", some ("index", .int ev)⟩) else .exc ⟨"BadOrder", none⟩) else .exc ⟨"BadGraph", none⟩ := by
  have q := demand_g b gr goals start
  cases h : areM gr
  · rw [h] at q
    refine ⟨.non, ?_⟩
    rw [f_least_presses, fnOf_ap]
    simp at q
    simp [b_least_presses, fill, q]
  · rw [h] at q
    cases h2 : fitQ gr goals start
    · rw [h2] at q
      refine ⟨.non, ?_⟩
      rw [f_least_presses, fnOf_ap]
      simp at q
      simp [b_least_presses, fill, q]
    · obtain ⟨f1, f2, f3, f4⟩ := fit_gm h2
      have V := areM_gm h
      have hn := V.n0
      by_cases c : 0 ≤ ev ∧ ev < ((gt gr 0).length : Int)
      · have hd := least_presses_s b V goals f1 f2 f3 f4 ev c.1 c.2
        exact ⟨_, by simp [hd, c]; rfl⟩
      · rw [h2] at q
        refine ⟨.non, ?_⟩
        rw [f_least_presses, fnOf_ap]
        simp at q
        simp (disch := omega) [b_least_presses, fill, q, gIx_gM, is_place_s, c]
end L62
namespace L62
open PySem VS
theorem lk_BadEvent_TG : List.lookup (PySem.Str.ofString "BadEvent") [(PySem.Str.ofString "BadEvent", false), (PySem.Str.ofString "BadOrder", false), (PySem.Str.ofString "BadGraph", true)] = some false := by decide +kernel
theorem lk_BadEvent_TO : List.lookup (PySem.Str.ofString "BadEvent") [(PySem.Str.ofString "BadEvent", false), (PySem.Str.ofString "BadOrder", true), (PySem.Str.ofString "BadGraph", false)] = some false := by decide +kernel
theorem lk_BadEvent_TE : List.lookup (PySem.Str.ofString "BadEvent") [(PySem.Str.ofString "BadEvent", true), (PySem.Str.ofString "BadOrder", false), (PySem.Str.ofString "BadGraph", false)] = some true := by decide +kernel
theorem lk_BadEvent_TA : List.lookup (PySem.Str.ofString "BadEvent") [(PySem.Str.ofString "BadEvent", true), (PySem.Str.ofString "BadOrder", true), (PySem.Str.ofString "BadGraph", true)] = some true := by decide +kernel
theorem lk_BadOrder_TG : List.lookup (PySem.Str.ofString "BadOrder") [(PySem.Str.ofString "BadEvent", false), (PySem.Str.ofString "BadOrder", false), (PySem.Str.ofString "BadGraph", true)] = some false := by decide +kernel
theorem lk_BadOrder_TO : List.lookup (PySem.Str.ofString "BadOrder") [(PySem.Str.ofString "BadEvent", false), (PySem.Str.ofString "BadOrder", true), (PySem.Str.ofString "BadGraph", false)] = some true := by decide +kernel
theorem lk_BadOrder_TE : List.lookup (PySem.Str.ofString "BadOrder") [(PySem.Str.ofString "BadEvent", true), (PySem.Str.ofString "BadOrder", false), (PySem.Str.ofString "BadGraph", false)] = some false := by decide +kernel
theorem lk_BadOrder_TA : List.lookup (PySem.Str.ofString "BadOrder") [(PySem.Str.ofString "BadEvent", true), (PySem.Str.ofString "BadOrder", true), (PySem.Str.ofString "BadGraph", true)] = some true := by decide +kernel
theorem lk_BadGraph_TG : List.lookup (PySem.Str.ofString "BadGraph") [(PySem.Str.ofString "BadEvent", false), (PySem.Str.ofString "BadOrder", false), (PySem.Str.ofString "BadGraph", true)] = some true := by decide +kernel
theorem lk_BadGraph_TO : List.lookup (PySem.Str.ofString "BadGraph") [(PySem.Str.ofString "BadEvent", false), (PySem.Str.ofString "BadOrder", true), (PySem.Str.ofString "BadGraph", false)] = some false := by decide +kernel
theorem lk_BadGraph_TE : List.lookup (PySem.Str.ofString "BadGraph") [(PySem.Str.ofString "BadEvent", true), (PySem.Str.ofString "BadOrder", false), (PySem.Str.ofString "BadGraph", false)] = some false := by decide +kernel
theorem lk_BadGraph_TA : List.lookup (PySem.Str.ofString "BadGraph") [(PySem.Str.ofString "BadEvent", true), (PySem.Str.ofString "BadOrder", true), (PySem.Str.ofString "BadGraph", true)] = some true := by decide +kernel
theorem ct_BadEvent : List.contains [PySem.Str.ofString "BadEvent"] (PySem.Str.ofString "BadEvent") = true := by decide +kernel
theorem sq (x : Str) : gEq (.str x) (.str x) = some (.bl true, 0) := gEq_str x
theorem s_hw : ¬ PySem.Str.ofString "hope" = PySem.Str.ofString "wish" := by decide +kernel
theorem s_mw : ¬ PySem.Str.ofString "must" = PySem.Str.ofString "wish" := by decide +kernel
theorem s_mh : ¬ PySem.Str.ofString "must" = PySem.Str.ofString "hope" := by decide +kernel
theorem s_pw : ¬ PySem.Str.ofString "presses" = PySem.Str.ofString "wish" := by decide +kernel
theorem s_ph : ¬ PySem.Str.ofString "presses" = PySem.Str.ofString "hope" := by decide +kernel
theorem s_pm : ¬ PySem.Str.ofString "presses" = PySem.Str.ofString "must" := by decide +kernel
theorem p_w : isPr "wish" = false := by decide +kernel
theorem p_h : isPr "hope" = false := by decide +kernel
theorem p_m : isPr "must" = false := by decide +kernel
theorem p_p : isPr "presses" = true := by decide +kernel
theorem refusal_w (gr : Gr) (goals : List Int) (start ev : Int) : f__law_refusal [(.str "wish", 0), (gM false gr, 0), (.lst (goals.map .int), 0), (.int start, 0), (.int ev, 0)] = .ok (dueD (isPr "wish") gr goals start ev, 0) := by
  rw [f__law_refusal, fnOf_ap, p_w]
  obtain ⟨d, q⟩ := wish_g false gr goals start
  unfold dueD
  cases h : areM gr
  · simp [h] at q
    simp [b__law_refusal, fill, q, sq, lk_BadEvent_TG, lk_BadEvent_TO, lk_BadEvent_TE, lk_BadEvent_TA, lk_BadOrder_TG, lk_BadOrder_TO, lk_BadOrder_TE, lk_BadOrder_TA, lk_BadGraph_TG, lk_BadGraph_TO, lk_BadGraph_TE, lk_BadGraph_TA]
  · cases h2 : fitQ gr goals start
    · simp [h, h2] at q
      simp [b__law_refusal, fill, q, sq, lk_BadEvent_TG, lk_BadEvent_TO, lk_BadEvent_TE, lk_BadEvent_TA, lk_BadOrder_TG, lk_BadOrder_TO, lk_BadOrder_TE, lk_BadOrder_TA, lk_BadGraph_TG, lk_BadGraph_TO, lk_BadGraph_TE, lk_BadGraph_TA]
    · simp [h, h2] at q
      simp [b__law_refusal, fill, q, sq, lk_BadEvent_TG, lk_BadEvent_TO, lk_BadEvent_TE, lk_BadEvent_TA, lk_BadOrder_TG, lk_BadOrder_TO, lk_BadOrder_TE, lk_BadOrder_TA, lk_BadGraph_TG, lk_BadGraph_TO, lk_BadGraph_TE, lk_BadGraph_TA]
theorem refusal_h (gr : Gr) (goals : List Int) (start ev : Int) : f__law_refusal [(.str "hope", 0), (gM false gr, 0), (.lst (goals.map .int), 0), (.int start, 0), (.int ev, 0)] = .ok (dueD (isPr "hope") gr goals start ev, 0) := by
  rw [f__law_refusal, fnOf_ap, p_h]
  obtain ⟨d, q⟩ := hope_g false gr goals start
  unfold dueD
  cases h : areM gr
  · simp [h] at q
    simp [b__law_refusal, fill, q, sq, s_hw, lk_BadEvent_TG, lk_BadEvent_TO, lk_BadEvent_TE, lk_BadEvent_TA, lk_BadOrder_TG, lk_BadOrder_TO, lk_BadOrder_TE, lk_BadOrder_TA, lk_BadGraph_TG, lk_BadGraph_TO, lk_BadGraph_TE, lk_BadGraph_TA]
  · cases h2 : fitQ gr goals start
    · simp [h, h2] at q
      simp [b__law_refusal, fill, q, sq, s_hw, lk_BadEvent_TG, lk_BadEvent_TO, lk_BadEvent_TE, lk_BadEvent_TA, lk_BadOrder_TG, lk_BadOrder_TO, lk_BadOrder_TE, lk_BadOrder_TA, lk_BadGraph_TG, lk_BadGraph_TO, lk_BadGraph_TE, lk_BadGraph_TA]
    · simp [h, h2] at q
      simp [b__law_refusal, fill, q, sq, s_hw, lk_BadEvent_TG, lk_BadEvent_TO, lk_BadEvent_TE, lk_BadEvent_TA, lk_BadOrder_TG, lk_BadOrder_TO, lk_BadOrder_TE, lk_BadOrder_TA, lk_BadGraph_TG, lk_BadGraph_TO, lk_BadGraph_TE, lk_BadGraph_TA]
theorem refusal_m (gr : Gr) (goals : List Int) (start ev : Int) : f__law_refusal [(.str "must", 0), (gM false gr, 0), (.lst (goals.map .int), 0), (.int start, 0), (.int ev, 0)] = .ok (dueD (isPr "must") gr goals start ev, 0) := by
  rw [f__law_refusal, fnOf_ap, p_m]
  obtain ⟨d, q⟩ := must_g false gr goals start
  unfold dueD
  cases h : areM gr
  · simp [h] at q
    simp [b__law_refusal, fill, q, sq, s_mw, s_mh, lk_BadEvent_TG, lk_BadEvent_TO, lk_BadEvent_TE, lk_BadEvent_TA, lk_BadOrder_TG, lk_BadOrder_TO, lk_BadOrder_TE, lk_BadOrder_TA, lk_BadGraph_TG, lk_BadGraph_TO, lk_BadGraph_TE, lk_BadGraph_TA]
  · cases h2 : fitQ gr goals start
    · simp [h, h2] at q
      simp [b__law_refusal, fill, q, sq, s_mw, s_mh, lk_BadEvent_TG, lk_BadEvent_TO, lk_BadEvent_TE, lk_BadEvent_TA, lk_BadOrder_TG, lk_BadOrder_TO, lk_BadOrder_TE, lk_BadOrder_TA, lk_BadGraph_TG, lk_BadGraph_TO, lk_BadGraph_TE, lk_BadGraph_TA]
    · simp [h, h2] at q
      simp [b__law_refusal, fill, q, sq, s_mw, s_mh, lk_BadEvent_TG, lk_BadEvent_TO, lk_BadEvent_TE, lk_BadEvent_TA, lk_BadOrder_TG, lk_BadOrder_TO, lk_BadOrder_TE, lk_BadOrder_TA, lk_BadGraph_TG, lk_BadGraph_TO, lk_BadGraph_TE, lk_BadGraph_TA]
theorem refusal_p (gr : Gr) (goals : List Int) (start ev : Int) : f__law_refusal [(.str "presses", 0), (gM false gr, 0), (.lst (goals.map .int), 0), (.int start, 0), (.int ev, 0)] = .ok (dueD (isPr "presses") gr goals start ev, 0) := by
  rw [f__law_refusal, fnOf_ap, p_p]
  obtain ⟨d, q⟩ := presses_g false gr goals start ev
  unfold dueD
  cases h : areM gr
  · simp [h] at q
    simp [b__law_refusal, fill, q, sq, s_pw, s_ph, s_pm, lk_BadEvent_TG, lk_BadEvent_TO, lk_BadEvent_TE, lk_BadEvent_TA, lk_BadOrder_TG, lk_BadOrder_TO, lk_BadOrder_TE, lk_BadOrder_TA, lk_BadGraph_TG, lk_BadGraph_TO, lk_BadGraph_TE, lk_BadGraph_TA]
  · cases h2 : fitQ gr goals start
    · simp [h, h2] at q
      simp [b__law_refusal, fill, q, sq, s_pw, s_ph, s_pm, lk_BadEvent_TG, lk_BadEvent_TO, lk_BadEvent_TE, lk_BadEvent_TA, lk_BadOrder_TG, lk_BadOrder_TO, lk_BadOrder_TE, lk_BadOrder_TA, lk_BadGraph_TG, lk_BadGraph_TO, lk_BadGraph_TE, lk_BadGraph_TA]
    · by_cases c : 0 ≤ ev ∧ ev < ((gt gr 0).length : Int)
      · simp [h, h2, c] at q
        simp [b__law_refusal, fill, q, sq, s_pw, s_ph, s_pm, c, lk_BadEvent_TG, lk_BadEvent_TO, lk_BadEvent_TE, lk_BadEvent_TA, lk_BadOrder_TG, lk_BadOrder_TO, lk_BadOrder_TE, lk_BadOrder_TA, lk_BadGraph_TG, lk_BadGraph_TO, lk_BadGraph_TE, lk_BadGraph_TA]
      · rw [h, h2] at q
        simp only [if_true, if_neg c] at q
        simp only [c, not_false_eq_true, and_self, if_true]
        simp [b__law_refusal, fill, q, sq, s_pw, s_ph, s_pm, ct_BadEvent, lk_BadEvent_TG, lk_BadEvent_TO, lk_BadEvent_TE, lk_BadEvent_TA, lk_BadOrder_TG, lk_BadOrder_TO, lk_BadOrder_TE, lk_BadOrder_TA, lk_BadGraph_TG, lk_BadGraph_TO, lk_BadGraph_TE, lk_BadGraph_TA]
end L62
namespace L62
open PySem VS
structure Sp (gr : Gr) (B : Nat) : Prop where
  l0 : 0 < gr.length
  l1 : gr.length ≤ 61
  rw_ : ∀ r ∈ gr, 1 ≤ r.length ∧ r.length ≤ B
  tg : ∀ r ∈ gr, ∀ p ∈ r, p.1.length ≤ B
theorem Sp.set {gr : Gr} {B : Nat} (h : Sp gr B) (i : Nat) {r' : List Pr} (h1 : 1 ≤ r'.length ∧ r'.length ≤ B + 1) (h2 : ∀ p ∈ r', p.1.length ≤ B + 1) : Sp (gr.set i r') (B + 1) := by
  refine ⟨by rw [List.length_set]; exact h.l0, by rw [List.length_set]; exact h.l1, fun r hr => ?_, fun r hr p hp => ?_⟩
  · rcases List.mem_or_eq_of_mem_set hr with hr | rfl
    · have := h.rw_ r hr; omega
    · exact h1
  · rcases List.mem_or_eq_of_mem_set hr with hr | rfl
    · have := h.tg r hr p hp; omega
    · exact h2 p hp
theorem Sp.mono {gr : Gr} {B : Nat} (h : Sp gr B) : Sp gr (B + 1) := ⟨h.l0, h.l1, fun r hr => by have := h.rw_ r hr; omega, fun r hr p hp => by have := h.tg r hr p hp; omega⟩
theorem repE {α : Type} (enc : α → D) (a : α) (k : Int) (h0 : 0 ≤ k) (h1 : k ≤ 100000) : gMul (.lst [enc a]) (.int k) = some (.lst ((List.replicate k.toNat a).map enc), 1) := by
  rw [gMul_lst, if_pos]
  · congr
    rw [List.map_replicate]
    induction k.toNat with
    | zero => rfl
    | succ n ih => rw [List.replicate_succ, List.flatten_cons, ih, List.replicate_succ]; rfl
  · refine ⟨Int.lt_of_le_of_lt h1 (by decide), Int.le_trans (by decide) h0, ?_⟩
    rw [List.length_singleton, Nat.one_mul]
    exact Nat.le_of_lt (lt_line (by omega))
theorem spoilt_s (gr : Gr) (B : Nat) (hB : B ≤ 500) (h : Sp gr B) (goals : List Int) (hgl : goals.length ≤ 500) (start ev change at_ size : Int) (hs : 0 < size) :
    ∃ (gr' : Gr) (goals' : List Int) (start' ev' : Int) (k : Nat), f__law_spoilt [(gM false gr, 0), (.lst (goals.map .int), 0), (.int start, 0), (.int ev, 0), (.int change, 0), (.int at_, 0), (.int size, 0)] = .ok (.lst [gM false gr', .lst (goals'.map .int), .int start', .int ev'], k) ∧ (gr' = [] ∨ Sp gr' (B + 1)) ∧ goals'.length ≤ goals.length + 1 := by
  rw [f__law_spoilt, fnOf_ap]
  have l0 := h.l0
  have l1 := h.l1
  have e0 : ∀ g : Gr, gM false g = .lst (g.map (gR false)) := fun _ => rfl
  have eR0 : ∀ r : List Pr, gR false r = .lst (r.map (pP false)) := fun _ => rfl
  have a0 := Int.emod_nonneg at_ (b := (gr.length : Int)) (by omega)
  have a1 := Int.emod_lt_of_pos at_ (b := (gr.length : Int)) (by omega)
  have hm : gt gr (at_ % (gr.length : Int)) ∈ gr := gt_mem a0 a1
  obtain ⟨r0, r1⟩ := h.rw_ _ hm
  have hgx : gIx (.lst (gr.map (gR false))) (.int (at_ % (gr.length : Int))) = some (gR false (gt gr (at_ % (gr.length : Int))), 0) := gIx_lst _ a0 a1
  have hl0 : (0 : Int) < (gr.length : Int) := by omega
  generalize hrow : gt gr (at_ % (gr.length : Int)) = row at hm r0 r1 hgx
  have hp0 : gt row 0 ∈ row := gt_mem (by omega) (by omega)
  have hpb := h.tg row hm _ hp0
  have gx0 : gIx (gR false row) (.int 0) = some (pP false (gt row 0), 0) := gIx_gR (by omega) (by omega)
  have cl := cutA_len row (some 1) none
  have cm : ∀ p ∈ cutA row (some 1) none, p.1.length ≤ B := fun p hp => h.tg row hm p (cutA_mem hp)
  have gsl : gSl (gR false row) (some 1) none = some (.lst ((cutA row (some 1) none).map (pP false)), 1) := gSl_lst (pP false) row (some 1) none
  have g3 : ∀ a b c : Int, gIx (.lst [.int a, .int b, .int c]) (.int (at_ % 3)) = some (.int (gt [a, b, c] (at_ % 3)), 0) := fun a b c => gIx_lst D.int (l := [a, b, c]) (by omega) (by simp; omega)
  have g4 : ∀ a b c d : Int, gIx (.lst [.int a, .int b, .int c, .int d]) (.int (at_ % 4)) = some (.int (gt [a, b, c, d] (at_ % 4)), 0) := fun a b c d => gIx_lst D.int (l := [a, b, c, d]) (by omega) (by simp; omega)
  have hset : ∀ r' : List Pr, ((gr.map (gR false)).set (at_ % (gr.length : Int)).toNat (gR false r')) = (gr.set (at_ % (gr.length : Int)).toNat r').map (gR false) := fun r' => by rw [List.map_set]
  by_cases c0 : change = 0
  · have z := Int.emod_two_eq at_
    have hc : cutA gr none (some 1) = [gt gr 0] := by
      cases gr with
      | nil => exact absurd l0 (by simp)
      | cons x xs => rfl
    have gsg : gSl (.lst (gr.map (gR false))) none (some 1) = some (.lst [gR false (gt gr 0)], 1) := by rw [gSl_lst, hc]; rfl
    have gmg : gMul (.lst [gR false (gt gr 0)]) (.int (61 - (gr.length : Int))) = some (.lst ((List.replicate (61 - gr.length) (gt gr 0)).map (gR false)), 1) := by
      have q := repE (gR false) (gt gr 0) (61 - (gr.length : Int)) (by omega) (by omega)
      rwa [show (61 - (gr.length : Int)).toNat = 61 - gr.length by omega] at q
    have gag : gAdd (.lst (gr.map (gR false))) (.lst ((List.replicate (61 - gr.length) (gt gr 0)).map (gR false))) = some (.lst ((gr ++ List.replicate (61 - gr.length) (gt gr 0)).map (gR false)), 1) := gAdd_lstE (gR false) _ _ (by simp; omega)
    have g00 : gt gr 0 ∈ gr := gt_mem (by omega) (by omega)
    rcases z with z | z
    · refine ⟨[], goals, start, ev, 1, ?_, .inl rfl, by omega⟩
      rw [e0 []]
      simp (disch := omega) [b__law_spoilt, fill]
      rw [lc_map (gR false) (gR false) _ gr (Nat.le_of_lt (lt_line (by omega))) (fun r hr K => by
        have := h.rw_ r hr
        simp
        rw [lc_map (pP false) (pP false) _ r (Nat.le_of_lt (lt_line (by omega))) (fun p hp K => by simp [pP])]
        simp [eR0])]
      simp (disch := omega) [-gSl_lst, -gMul_lst, -gAdd_lst, -List.map_append, -List.map_replicate, c0, l0, hgx, gsg, gmg, gag, z]
    · refine ⟨gr ++ List.replicate (61 - gr.length) (gt gr 0), goals, start, ev, 1, ?_, .inr ⟨by simp; omega, by simp; omega, fun r hr => ?_, fun r hr p hp => ?_⟩, by omega⟩
      · rw [e0 (gr ++ _)]
        simp (disch := omega) [b__law_spoilt, fill]
        rw [lc_map (gR false) (gR false) _ gr (Nat.le_of_lt (lt_line (by omega))) (fun r hr K => by
          have := h.rw_ r hr
          simp
          rw [lc_map (pP false) (pP false) _ r (Nat.le_of_lt (lt_line (by omega))) (fun p hp K => by simp [pP])]
          simp [eR0])]
        simp (disch := omega) [-gSl_lst, -gMul_lst, -gAdd_lst, -List.map_append, -List.map_replicate, c0, l0, hgx, gsg, gmg, gag, z]
        rw [List.map_append, List.map_replicate]
      · have : r ∈ gr := by
          rcases List.mem_append.mp hr with hr | hr
          · exact hr
          · rw [(List.mem_replicate.mp hr).2]; exact g00
        have := h.rw_ r this
        omega
      · have : r ∈ gr := by
          rcases List.mem_append.mp hr with hr | hr
          · exact hr
          · rw [(List.mem_replicate.mp hr).2]; exact g00
        have := h.tg r this p hp
        omega
  by_cases c1 : change = 1
  · have ga : gAdd (gR false row) (.lst [pP false (gt row 0)]) = some (gR false (row ++ [gt row 0]), 1) := gAdd_lstE (pP false) row [gt row 0] (by simp; omega)
    refine ⟨gr.set (at_ % (gr.length : Int)).toNat (row ++ [gt row 0]), goals, start, ev, 1, ?_, .inr (h.set _ (by simp; omega) (fun p hp => by
      rcases List.mem_append.mp hp with hp | hp
      · have := h.tg row hm p hp; omega
      · rw [List.mem_singleton] at hp; rw [hp]; omega)), by omega⟩
    rw [e0 (gr.set _ _)]
    simp (disch := omega) [b__law_spoilt, fill]
    rw [lc_map (gR false) (gR false) _ gr (Nat.le_of_lt (lt_line (by omega))) (fun r hr K => by
      have := h.rw_ r hr
      simp
      rw [lc_map (pP false) (pP false) _ r (Nat.le_of_lt (lt_line (by omega))) (fun p hp K => by simp [pP])]
      simp [eR0])]
    simp (disch := omega) [c1, l0, hgx, gx0, ga, ixN_ok]
  by_cases c2 : change = 2
  · have ga1 : gAdd (.lst ((gt row 0).1.map .int)) (.lst [.int (gt [size, -1, 100000000000000000000] (at_ % 3))]) = some (.lst (((gt row 0).1 ++ [gt [size, -1, 100000000000000000000] (at_ % 3)]).map .int), 1) := gAdd_lstE D.int (gt row 0).1 [_] (by simp; omega)
    have ga2 : gAdd (.lst [.tup [.lst (((gt row 0).1 ++ [gt [size, -1, 100000000000000000000] (at_ % 3)]).map .int), .bl false]]) (.lst ((cutA row (some 1) none).map (pP false))) = some (gR false (((gt row 0).1 ++ [gt [size, -1, 100000000000000000000] (at_ % 3)], false) :: cutA row (some 1) none), 1) := gAdd_lstE (pP false) [((gt row 0).1 ++ [gt [size, -1, 100000000000000000000] (at_ % 3)], false)] (cutA row (some 1) none) (by simp; omega)
    have gx1 : gIx (pP false (gt row 0)) (.int 0) = some (.lst ((gt row 0).1.map .int), 0) := rfl
    refine ⟨gr.set (at_ % (gr.length : Int)).toNat (((gt row 0).1 ++ [gt [size, -1, 100000000000000000000] (at_ % 3)], false) :: cutA row (some 1) none), goals, start, ev, 1, ?_, .inr (h.set _ (by simp; omega) (fun p hp => by
      rcases List.mem_cons.mp hp with rfl | hp
      · simp; omega
      · have := cm p hp; omega)), by omega⟩
    rw [e0 (gr.set _ _)]
    simp (disch := omega) [b__law_spoilt, fill]
    rw [lc_map (gR false) (gR false) _ gr (Nat.le_of_lt (lt_line (by omega))) (fun r hr K => by
      have := h.rw_ r hr
      simp
      rw [lc_map (pP false) (pP false) _ r (Nat.le_of_lt (lt_line (by omega))) (fun p hp K => by simp [pP])]
      simp [eR0])]
    simp (disch := omega) [-gAdd_lst, -List.map_append, c2, l0, hgx, gx0, gx1, g3, gsl, ga1, ga2, ixN_ok]
  by_cases c3 : change = 3
  · have ga1 : gAdd (.lst ((cutA row (some 1) none).map (pP false))) (.lst [.tup [.lst [.int (at_ % size), .int (at_ % size)], .bl true]]) = some (gR false (cutA row (some 1) none ++ [([at_ % size, at_ % size], true)]), 1) := gAdd_lstE (pP false) (cutA row (some 1) none) [([at_ % size, at_ % size], true)] (by simp; omega)
    refine ⟨gr.set (at_ % (gr.length : Int)).toNat (cutA row (some 1) none ++ [([at_ % size, at_ % size], true)]), goals, start, ev, 1, ?_, .inr (h.set _ (by simp; omega) (fun p hp => by
      rcases List.mem_append.mp hp with hp | hp
      · have := cm p hp; omega
      · rw [List.mem_singleton] at hp; rw [hp]; simp; omega)), by omega⟩
    rw [e0 (gr.set _ _)]
    simp (disch := omega) [b__law_spoilt, fill]
    rw [lc_map (gR false) (gR false) _ gr (Nat.le_of_lt (lt_line (by omega))) (fun r hr K => by
      have := h.rw_ r hr
      simp
      rw [lc_map (pP false) (pP false) _ r (Nat.le_of_lt (lt_line (by omega))) (fun p hp K => by simp [pP])]
      simp [eR0])]
    simp (disch := omega) [-gAdd_lst, -List.map_append, c3, l0, hs, hgx, gsl, ga1, ixN_ok]
  by_cases c4 : change = 4
  · have ga1 : gAdd (.lst (goals.map .int)) (.lst [.int (gt [0, size, -1, 100000000000000000000] (at_ % 4))]) = some (.lst ((goals ++ [gt [0, size, -1, 100000000000000000000] (at_ % 4)]).map .int), 1) := gAdd_lstE D.int goals [_] (by simp; omega)
    refine ⟨gr, goals ++ [gt [0, size, -1, 100000000000000000000] (at_ % 4)], start, ev, 1, ?_, .inr h.mono, by simp⟩
    rw [e0 gr]
    simp (disch := omega) [b__law_spoilt, fill]
    rw [lc_map (gR false) (gR false) _ gr (Nat.le_of_lt (lt_line (by omega))) (fun r hr K => by
      have := h.rw_ r hr
      simp
      rw [lc_map (pP false) (pP false) _ r (Nat.le_of_lt (lt_line (by omega))) (fun p hp K => by simp [pP])]
      simp [eR0])]
    simp (disch := omega) [-gAdd_lst, -List.map_append, c4, l0, g4, ga1]
    rw [List.map_append]; rfl
  by_cases c5 : change = 5
  · refine ⟨gr, goals, gt [-1, size, size + at_] (at_ % 3), ev, 1, ?_, .inr h.mono, by omega⟩
    rw [e0 gr]
    simp (disch := omega) [b__law_spoilt, fill]
    rw [lc_map (gR false) (gR false) _ gr (Nat.le_of_lt (lt_line (by omega))) (fun r hr K => by
      have := h.rw_ r hr
      simp
      rw [lc_map (pP false) (pP false) _ r (Nat.le_of_lt (lt_line (by omega))) (fun p hp K => by simp [pP])]
      simp [eR0])]
    simp (disch := omega) [c5, l0, g3]
  by_cases c6 : change = 6
  · refine ⟨gr, goals, start, gt [-1, (row.length : Int), 100000000000000000000] (at_ % 3), 1, ?_, .inr h.mono, by omega⟩
    rw [e0 gr]
    simp (disch := omega) [b__law_spoilt, fill]
    rw [lc_map (gR false) (gR false) _ gr (Nat.le_of_lt (lt_line (by omega))) (fun r hr K => by
      have := h.rw_ r hr
      simp
      rw [lc_map (pP false) (pP false) _ r (Nat.le_of_lt (lt_line (by omega))) (fun p hp K => by simp [pP])]
      simp [eR0])]
    simp (disch := omega) [c6, l0, g3, hgx]
  refine ⟨gr, goals, start, ev, 1, ?_, .inr h.mono, by omega⟩
  rw [e0 gr]
  simp (disch := omega) [b__law_spoilt, fill]
  rw [lc_map (gR false) (gR false) _ gr (Nat.le_of_lt (lt_line (by omega))) (fun r hr K => by
    have := h.rw_ r hr
    simp
    rw [lc_map (pP false) (pP false) _ r (Nat.le_of_lt (lt_line (by omega))) (fun p hp K => by simp [pP])]
    simp [eR0])]
  simp (disch := omega) [c0, c1, c2, c3, c4, c5, c6, l0]
end L62
namespace L62
open PySem VS
theorem gNe_tup (x : Str) (i : Int) (hx : PyData.strOk x = true) : gNe (.tup [.str x, .int i]) (.tup [.str x, .int i]) = some (.bl false, 0) := by simp [gNe, scl, okd, okds, eqv, eqvs, hx]
theorem gNe_due (pr : Bool) (gr : Gr) (goals : List Int) (start ev : Int) : gNe (dueD pr gr goals start ev) (dueD pr gr goals start ev) = some (.bl false, 0) := by
  unfold dueD
  split
  · split
    · split
      · exact gNe_tup _ _ (by decide +kernel)
      · exact gNe_tup _ _ (by decide +kernel)
    · exact gNe_tup _ _ (by decide +kernel)
  · exact gNe_tup _ _ (by decide +kernel)
theorem refusal_s (word : Str) (h : word = "wish" ∨ word = "hope" ∨ word = "must" ∨ word = "presses") (gr : Gr) (goals : List Int) (start ev : Int) : f__law_refusal [(.str word, 0), (gM false gr, 0), (.lst (goals.map .int), 0), (.int start, 0), (.int ev, 0)] = .ok (dueD (isPr word) gr goals start ev, 0) := by
  rcases h with rfl | rfl | rfl | rfl
  · exact refusal_w gr goals start ev
  · exact refusal_h gr goals start ev
  · exact refusal_m gr goals start ev
  · exact refusal_p gr goals start ev
theorem refuses_s (g : Gr) (B : Nat) (hB : B ≤ 400) (h : Sp g B) (goals : List Int) (hgl : goals.length ≤ 400) (start ev : Int) (row : List Int) (hr : row.length = 4) :
    f__law_refuses [(gM false g, 0), (.lst (goals.map .int), 0), (.int start, 0), (.int ev, 0), (.lst (row.map .int), 0)] = .ok (.bl true, 0) := by
  rw [f__law_refuses, fnOf_ap]
  have l0 := h.l0
  obtain ⟨g1, go1, st1, ev1, k1, q1, s1, m1⟩ := spoilt_s g B (by omega) h goals (by omega) start ev (gt row 0) (gt row 1) g.length (by omega)
  have e0 : ∀ g : Gr, gM false g = .lst (g.map (gR false)) := fun _ => rfl
  rcases s1 with rfl | S1
  · have i1 := is_moves_g false []
    have i2 := law_are_g [] (fun r hr => absurd hr List.not_mem_nil)
    have i3 := fun word => law_due_s word [] (fun r hr => absurd hr List.not_mem_nil) go1 st1 ev1
    have i4 := fun word hw => refusal_s word hw [] go1 st1 ev1
    have i5 := fun word => gNe_due (isPr word) [] go1 st1 ev1
    have hl : gLen (gM false []) = some (.int 0, 0) := rfl
    by_cases c : gt row 2 < 7
    · simp (disch := omega) [b__law_refuses, fill, gIx_lst, q1, c, i1, i2, says_s, hl]
      refine (for_all D.str (fun _ => true) _ (.bl false, 0) ["wish", "hope", "must", "presses"] (fun word hw K => ?_)).trans ?_
      · have i6 := i4 word (by simpa using hw)
        simp [i3, i6, i5]
      · simp
    · simp (disch := omega) [b__law_refuses, fill, gIx_lst, q1, c, i1, i2, says_s, hl]
      refine (for_all D.str (fun _ => true) _ (.bl false, 0) ["wish", "hope", "must", "presses"] (fun word hw K => ?_)).trans ?_
      · have i6 := i4 word (by simpa using hw)
        simp [i3, i6, i5]
      · simp
  · have l1 := S1.l0
    have hm1 : gt g1 0 ∈ g1 := gt_mem (by omega) (by omega)
    have w1 := (S1.rw_ _ hm1).1
    have gx : gIx (gM false g1) (.int 0) = some (gR false (gt g1 0), 0) := gIx_gM (by omega) (by omega)
    have w0 : 0 < (gt g1 0).length := by omega
    have p1 : (0 : Int) < (g1.length : Int) := by omega
    have p2 : (0 : Int) < ((gt g1 0).length : Int) := by omega
    by_cases c : gt row 2 < 7
    · obtain ⟨g2, go2, st2, ev2, k2, q2, s2, m2⟩ := spoilt_s g1 (B + 1) (by omega) S1 go1 (by omega) st1 ev1 (gt row 2) (gt row 3) g.length (by omega)
      have hr2 : ∀ r ∈ g2, r.length ≤ 1000 := by
        rcases s2 with rfl | S2
        · exact fun r hr => absurd hr List.not_mem_nil
        · exact fun r hr => by have := (S2.rw_ r hr).2; omega
      have i1 := is_moves_g false g2
      have i2 := law_are_g g2 hr2
      have i3 := fun word => law_due_s word g2 hr2 go2 st2 ev2
      have i4 := fun word hw => refusal_s word hw g2 go2 st2 ev2
      have i5 := fun word => gNe_due (isPr word) g2 go2 st2 ev2
      simp (disch := omega) [b__law_refuses, fill, gIx_lst, q1, q2, c, i1, i2, says_s, gx, l1, w0, p1, p2]
      refine (for_all D.str (fun _ => true) _ (.bl false, 0) ["wish", "hope", "must", "presses"] (fun word hw K => ?_)).trans ?_
      · have i6 := i4 word (by simpa using hw)
        simp [i3, i6, i5]
      · simp
    · have hr1 : ∀ r ∈ g1, r.length ≤ 1000 := fun r hr => by have := (S1.rw_ r hr).2; omega
      have i1 := is_moves_g false g1
      have i2 := law_are_g g1 hr1
      have i3 := fun word => law_due_s word g1 hr1 go1 st1 ev1
      have i4 := fun word hw => refusal_s word hw g1 go1 st1 ev1
      have i5 := fun word => gNe_due (isPr word) g1 go1 st1 ev1
      simp (disch := omega) [b__law_refuses, fill, gIx_lst, q1, c, i1, i2, says_s]
      refine (for_all D.str (fun _ => true) _ (.bl false, 0) ["wish", "hope", "must", "presses"] (fun word hw K => ?_)).trans ?_
      · have i6 := i4 word (by simpa using hw)
        simp [i3, i6, i5]
      · simp
end L62
namespace L62
open PySem VS
/-- targets: ascending, in range -/
structure TgOk (size : Int) (ts : List Int) : Prop where
  up : ts.Pairwise (· < ·)
  rng : ∀ t ∈ ts, 0 ≤ t ∧ t < size
theorem TgOk.len {size : Int} {ts : List Int} (h : TgOk size ts) (h0 : 0 ≤ size) : ts.length ≤ size.toNat := up_len (m := 0) h.up fun t m => by have := h.rng t m; omega
theorem srtU_tg {size : Int} {l : List Int} (h : ∀ t ∈ l, 0 ≤ t ∧ t < size) : TgOk size (srtU l) := ⟨srtU_up l, fun t m => h t ((mem_srtU t l).mp m)⟩
theorem gSort_ints (l : List Int) (h : l.length < 60) : gSortSet (.lst (l.map .int)) = some (.lst ((srtU l).map .int), 1) := by
  show (match intsOf (l.map D.int) with
    | some ns => if ns.length < 60 then some (D.lst ((srtU ns).map .int), 1) else none
    | none => none) = _
  rw [intsOf_map]
  exact if_pos h
theorem targets_s (row : List Int) (size : Int) (hr : row.length = 4) (h0 : 0 ≤ gt row 0 ∧ gt row 0 < 8) (hs : 0 < size ∧ size ≤ 1000) :
    ∃ ts : List Int, f__law_targets [(.lst (row.map .int), 0), (.int size, 0)] = .ok (.lst (ts.map .int), 1) ∧ TgOk size ts := by
  rw [f__law_targets, fnOf_ap]
  obtain ⟨s0, s1⟩ := hs
  by_cases c : gt row 0 = 7
  · simp (disch := omega) [b__law_targets, fill, gIx_lst, c, iR1K_ok]
    rw [lc_map (fun i : Nat => D.int i) (fun i : Nat => D.int i) _ _ (by rw [List.length_range]; exact Nat.le_trans (by omega : size.toNat ≤ 1000) (by decide)) (fun a m K => by simp)]
    refine ⟨(List.range size.toNat).map fun i : Nat => (i : Int), by simp, ?_, fun t m => ?_⟩
    · rw [List.pairwise_map]
      exact List.pairwise_lt_range.imp fun h => by omega
    · obtain ⟨i, m2, rfl⟩ := List.mem_map.mp m
      have := List.mem_range.mp m2
      omega
  · have e : gt row 0 = 0 ∨ gt row 0 = 1 ∨ gt row 0 = 2 ∨ gt row 0 = 3 ∨ gt row 0 = 4 ∨ gt row 0 = 5 ∨ gt row 0 = 6 := by omega
    have hcut : ∀ n : Option Int, (cutA row (some 1) n).length ≤ 4 := fun n => Nat.le_trans (cutA_len _ _ _) (by omega)
    have e2 : ∀ n : Option Int, List.map (fun t => D.int (t % size)) (cutA row (some 1) n) = ((cutA row (some 1) n).map fun t => t % size).map D.int := fun n => by rw [List.map_map]; rfl
    have key : ∀ n : Option Int, gSortSet (.lst (((cutA row (some 1) n).map fun t => t % size).map .int)) = some (.lst ((srtU ((cutA row (some 1) n).map fun t => t % size)).map .int), 1) := fun n => gSort_ints _ (by rw [List.length_map]; have := hcut n; omega)
    have key2 : ∀ n : Option Int, TgOk size (srtU ((cutA row (some 1) n).map fun t => t % size)) := fun n => srtU_tg fun t m => by
      obtain ⟨x, _, rfl⟩ := List.mem_map.mp m
      exact ⟨Int.emod_nonneg _ (by omega), Int.emod_lt_of_pos _ s0⟩
    rcases e with e | e | e | e | e | e | e <;> simp (disch := omega) [b__law_targets, fill, gIx_lst, c, e]
    all_goals
      rw [lc_map D.int (fun t => D.int (t % size)) _ _ (Nat.le_trans (hcut _) (by decide)) (fun a m K => by simp [s0]), e2]
      simp only [R.bind_ok, op1K_ap, key, lift_some, R.run_ok, zRetK_ap, O.fin_rt]
      exact ⟨_, rfl, key2 _⟩
def szs (n : Nat) : List Int := (List.replicate n [8, 60, 60, 60, 5]).flatten
theorem szs_succ (n : Nat) : szs (n + 1) = 8 :: 60 :: 60 :: 60 :: 5 :: szs n := by
  unfold szs
  rw [List.replicate_succ, List.flatten_cons]
  rfl
theorem szs_len (n : Nat) : (szs n).length = 5 * n := by
  induction n with
  | zero => rfl
  | succ n ih => rw [szs_succ]; simp only [List.length_cons, ih]; omega
theorem szs_at : ∀ (n m : Nat), m < n → gt (szs n) ((5 * m : Nat) : Int) = 8 := by
  intro n
  induction n with
  | zero => intro m h; omega
  | succ n ih =>
    intro m h
    rw [szs_succ]
    cases m with
    | zero => rfl
    | succ m =>
      have := ih m (by omega)
      unfold gt at this ⊢
      rw [Int.toNat_natCast] at this ⊢
      rw [show 5 * (m + 1) = 5 * m + 5 by omega]
      simpa [List.getD_eq_getElem?_getD] using this
theorem szs_mem (n : Nat) : ∀ z ∈ szs n, 0 < z ∧ z ≤ 1000000 := by
  intro z h
  unfold szs at h
  obtain ⟨l, h1, h2⟩ := List.mem_flatten.mp h
  have := List.eq_of_mem_replicate h1
  subst this
  simp at h2
  omega
theorem szs_mul (n : Nat) (h : n ≤ 1000) : gMul (.lst [.int 8, .int 60, .int 60, .int 60, .int 5]) (.int (n : Int)) = some (.lst ((szs n).map .int), 1) := by
  rw [gMul_lst, if_pos]
  · congr
    unfold szs
    rw [List.map_flatten, List.map_replicate, Int.toNat_natCast]
    rfl
  · refine ⟨Int.lt_of_le_of_lt (by omega : (n : Int) ≤ 1000) (by decide), Int.le_trans (by decide : -(2 ^ 62 : Int) ≤ 0) (by omega), ?_⟩
    rw [Int.toNat_natCast]
    exact Nat.le_trans (by show 5 * n ≤ 5000; omega) (by decide : 5000 ≤ sizeLine)
theorem cut_len {l : List Int} {a n : Nat} (h : a + n ≤ l.length) : (cutA l (some (a : Int)) (some ((a : Int) + (n : Int)))).length = n := by
  unfold cutA
  have e : ((a : Int) + (n : Int)) = ((a + n : Nat) : Int) := by omega
  rw [e, HT.sIx_nat, HT.sIx_nat, List.length_take, List.length_drop]
  omega
theorem cut_at {l : List Int} {a n j : Nat} (h : a + n ≤ l.length) (hj : j < n) : gt (cutA l (some (a : Int)) (some ((a : Int) + (n : Int)))) (j : Int) = gt l ((a + j : Nat) : Int) := by
  unfold cutA gt
  have e : ((a : Int) + (n : Int)) = ((a + n : Nat) : Int) := by omega
  rw [e, HT.sIx_nat, HT.sIx_nat, Int.toNat_natCast, Int.toNat_natCast, List.getD_eq_getElem?_getD, List.getD_eq_getElem?_getD, List.getElem?_take, if_pos (by omega), List.getElem?_drop]
  rw [Nat.min_eq_left (by omega)]
/-- moves that are drawn -/
structure MvOk (size many : Nat) (mv : Gr) : Prop where
  len : mv.length = size
  row : ∀ r ∈ mv, r.length = many ∧ ∀ p ∈ r, TgOk size p.1
theorem MvOk.vm {size many : Nat} {mv : Gr} (h : MvOk size many mv) (h1 : size ≤ 1000) (h2 : many ≤ 1000) : VM mv many :=
  ⟨by rw [h.len]; exact h1, h2, fun r m => (h.row r m).1, fun r m p mp => ((h.row r m).2 p mp).up, fun r m p mp t mt => by rw [h.len]; exact ((h.row r m).2 p mp).rng t mt⟩
theorem MvOk.hm {size many : Nat} {mv : Gr} (h : MvOk size many mv) (h1 : size ≤ 1000) : ∀ r ∈ mv, ∀ p ∈ r, p.1.length ≤ 1000 := fun r m p mp => by
  have := ((h.row r m).2 p mp).len (by omega)
  omega
theorem moves_s (ns : List Int) (size many : Nat) (hb : ∀ z ∈ ns, Builtin.Int.intBits z ≤ 1048576) (h0 : 0 < size) (h1 : size ≤ 1000) (h2 : many ≤ 100) :
    ∃ mv : Gr, f__law_moves [(.scr (ns.map .int), 0), (.int size, 0), (.int many, 0)] = .ok (.lst (mv.map (gR false)), 1) ∧ MvOk size many mv := by
  rw [f__law_moves, fnOf_ap]
  simp (disch := omega) [b__law_moves, fill, iR1K_ok]
  refine for_inv (β := Gr) (fun i : Nat => D.int i) (fun mv => [some (.scr (ns.map .int), 0), some (.int size, 0), some (.int many, 0), some (.lst (mv.map (gR false)), 1), none, none, none, none])
    (fun i mv => mv.length = i ∧ ∀ r ∈ mv, r.length = many ∧ ∀ p ∈ r, TgOk size p.1) (fun r => ∃ mv : Gr, r = .ok (.lst (mv.map (gR false)), 1) ∧ MvOk size many mv) (List.range size) [] ⟨rfl, fun r m => absurd m List.not_mem_nil⟩ ?_ ?_
  · intro i a mv ha ⟨i1, i2⟩ K hk
    have hi : i < size := by
      have := (List.getElem?_eq_some_iff.mp ha).1
      rw [List.length_range] at this
      exact this
    have ea : a = i := by
      rw [List.getElem?_range hi] at ha
      exact (Option.some.inj ha).symm
    subst ea
    have hln : mv.length < sizeLine := lt_line (by omega)
    have hmul : mulOk 131 (a : Int) = true := mul_small (by decide) (by
      by_cases w : (a : Int).natAbs = 0
      · rw [w]; exact Nat.zero_le _
      · have := (Nat.log2_lt w).mpr (by omega : (a : Int).natAbs < 2 ^ 31)
        omega)
    have hcl : (cellV ns (3 + (a : Int)) + 131 * (a : Int)).natAbs.log2 ≤ 2000000 := by
      have := log_add 1048576 (cellV ns (3 + (a : Int))) (131 * (a : Int)) (cell_log hb (by omega)) (by omega) (by decide)
      omega
    obtain ⟨row, r1, r2⟩ := row_s false (cellV ns (3 + (a : Int)) + 131 * (a : Int)) (szs many) hcl (by rw [szs_len]; omega) (szs_mem many)
    have hrl : row.length = 5 * many := by rw [r2.len, szs_len]
    simp only [eL_false] at r1
    simp (disch := omega) [cell_s, hmul, szs_mul many (by omega), r1, iR1K_ok, -gMul_lst]
    refine for_inv (β := List Pr) (fun i : Nat => D.int i) (fun ps => [some (.scr (ns.map .int), 0), some (.int size, 0), some (.int many, 0), some (.lst (mv.map (gR false)), 1), some (.int a, 0), some (.lst (row.map .int), 0), some (.lst (ps.map (pP false)), 1), none])
      (fun i ps => ps.length = i ∧ ∀ p ∈ ps, TgOk size p.1) (fun r => ∃ mv : Gr, r = .ok (.lst (mv.map (gR false)), 1) ∧ MvOk size many mv) (List.range many) [] ⟨rfl, fun r m => absurd m List.not_mem_nil⟩ ?_ ?_
    · intro j c ps hc ⟨j1, j2⟩ K' hk'
      have hj : j < many := by
        have := (List.getElem?_eq_some_iff.mp hc).1
        rw [List.length_range] at this
        exact this
      have ec : c = j := by
        rw [List.getElem?_range hj] at hc
        exact (Option.some.inj hc).symm
      subst ec
      have hln2 : ps.length < sizeLine := lt_line (by omega)
      have hmul2 : mulOk 5 (c : Int) = true := mul_small (by decide) (by
        by_cases w : (c : Int).natAbs = 0
        · rw [w]; exact Nat.zero_le _
        · have := (Nat.log2_lt w).mpr (by omega : (c : Int).natAbs < 2 ^ 31)
          omega)
      have e5 : ((5 * c : Nat) : Int) = 5 * (c : Int) := by omega
      have hcl := cut_len (l := row) (a := 5 * c) (n := 4) (by omega)
      have hca := cut_at (l := row) (a := 5 * c) (n := 4) (j := 0) (by omega) (by decide)
      have hz := r2.at_ (5 * c) (by rw [szs_len]; omega)
      rw [szs_at many c hj] at hz
      rw [Nat.add_zero] at hca
      rw [← hca] at hz
      rw [e5] at hcl hz
      obtain ⟨ts, t1, t2⟩ := targets_s _ (size : Int) hcl hz ⟨by omega, by omega⟩
      simp at t1
      have q := hk' (ps ++ [(ts, decide (gt row (5 * (c : Int) + 4) = 1))]) ⟨by simp [j1], fun p m => by
        rcases List.mem_append.mp m with m | m
        · exact j2 p m
        · rw [List.mem_singleton] at m
          rw [m]; exact t2⟩
      simp [pP] at q
      simp (disch := omega) [hmul2, t1, gIx_lst, hln2]
      exact q
    · intro ps ⟨j1, j2⟩
      rw [List.length_range] at j1
      have q := hk (mv ++ [ps]) ⟨by simp [i1], fun r m => by
        rcases List.mem_append.mp m with m | m
        · exact i2 r m
        · rw [List.mem_singleton] at m
          rw [m]; exact ⟨j1, j2⟩⟩
      simp [gR] at q
      simp [hln]
      exact q
  · intro mv ⟨i1, i2⟩
    rw [List.length_range] at i1
    exact ⟨mv, by simp, i1, i2⟩
theorem intsOf_pr (p : Int × Int) (l : List (Int × Int)) : intsOf ((p :: l).map prD) = none := rfl
theorem gSorted_pr (p : Int × Int) (l : List (Int × Int)) : gSorted (.lst ((p :: l).map prD)) = some (.lst ((srtP (p :: l)).map prD), 1) := by
  show (match intsOf ((p :: l).map prD) with
    | some ns => some (D.lst ((srtI ns).map .int), 1)
    | none => match pairsOf ((p :: l).map prD) with
      | some ps => some (D.lst ((srtP ps).map prD), 1)
      | none => none) = _
  rw [intsOf_pr, pairsOf_map]
theorem copied_s (b c : Bool) (mv : Gr) (many : Nat) (V : VM mv many) : f__law_copied [(gM b mv, 0), (.bl c, 0)] = .ok (gM c mv, if c then 0 else 1) := by
  rw [f__law_copied, fnOf_ap]
  have hsz := V.sz
  have hin : ∀ r ∈ mv, r.length ≤ sizeLine := fun r m => by rw [V.row r m]; exact Nat.le_trans V.mn (by decide)
  cases c with
  | true =>
    simp [b__law_copied, fill, gM]
    rw [lc_map (gR b) (gR true) _ mv (Nat.le_trans hsz (by decide)) (fun r hr K => by
      simp [gR]
      rw [lc_map (pP b) (pP true) _ r (hin r hr) (fun p hp K => by simp [pP])]
      simp)]
    simp
  | false =>
    simp [b__law_copied, fill, gM]
    rw [lc_map (gR b) (gR false) _ mv (Nat.le_trans hsz (by decide)) (fun r hr K => by
      simp [gR]
      rw [lc_map (pP b) (pP false) _ r (hin r hr) (fun p hp K => by simp [pP])]
      simp)]
    simp
end L62
namespace L62
open PySem VS
theorem lined_s (mv : Gr) (size many : Nat) (line events : List Int) (h : MvOk size many mv) (h1 : size ≤ 58) (h2 : 0 < many) (h3 : many ≤ 100) (hl1 : line.length = size) (hl2 : ∀ x ∈ line, 0 ≤ x ∧ x < (size : Int)) (he : events.length = size) :
    ∃ mv' : Gr, f__law_lined [(.lst (mv.map (gR false)), 1), (.lst (line.map .int), 0), (.lst (events.map .int), 0)] = .ok (.lst (mv'.map (gR false)), 1) ∧ MvOk size many mv' := by
  rw [f__law_lined, fnOf_ap]
  have hml := h.len
  simp (disch := omega) [b__law_lined, fill, iR2J_ok, hl1]
  refine for_inv (β := Gr) (fun i : Nat => D.int (1 + (i : Int))) (fun mv => [some (.lst (mv.map (gR false)), 1), some (.lst (line.map .int), 0), some (.lst (events.map .int), 0), none, none, none, none, none, none, none, none])
    (fun _ mv => MvOk size many mv) (fun r => ∃ mv' : Gr, r = .ok (.lst (mv'.map (gR false)), 1) ∧ MvOk size many mv') (List.range (size - 1)) mv h ?_ ?_
  · intro i a mv ha hM K hK
    have hi : a < size - 1 := List.mem_range.mp (List.mem_of_getElem? ha)
    obtain ⟨A, hA⟩ : ∃ A : Int, A = 1 + (a : Int) := ⟨_, rfl⟩
    rw [← hA]
    have a1 : 1 ≤ A := by omega
    have a2 : A < size := by omega
    have hml := hM.len
    obtain ⟨r0, r1⟩ := hl2 _ (gt_mem (l := line) (j := A - 1) (by omega) (by omega))
    have hrow := hM.row _ (gt_mem (l := mv) (j := gt line (A - 1)) r0 (by omega))
    have hR : ((gt mv (gt line (A - 1))).length : Int) = many := by rw [hrow.1]
    have hm0 : (0 : Int) < many := by omega
    have gml : gLen (gR false (gt mv (gt line (A - 1)))) = some (.int (many : Int), 0) := by rw [gLen_gR, hrow.1]
    simp (disch := omega) [gIx_lst, hl1, hml, gml, hrow.1, h2, iR1K_ok]
    obtain ⟨G, hG⟩ : ∃ G : Int, G = gt events A % (many : Int) := ⟨_, rfl⟩
    rw [← hG]
    generalize hrest : gt line (A - 1) = rest at r0 r1 hrow gml ⊢
    refine for_inv (β := List Pr) (fun i : Nat => D.int i) (fun ps => [some (.lst (mv.map (gR false)), 1), some (.lst (line.map .int), 0), some (.lst (events.map .int), 0), some (.int A, 0), some (.int rest, 0), some (.int G, 0), some (.lst (ps.map (pP false)), 1), none, none, none, none])
      (fun i ps => ps.length = i ∧ ∀ p ∈ ps, TgOk size p.1) (fun r => ∃ mv' : Gr, r = .ok (.lst (mv'.map (gR false)), 1) ∧ MvOk size many mv') (List.range many) [] ⟨rfl, fun p m => absurd m List.not_mem_nil⟩ ?_ ?_
    · intro j c ps hc ⟨j1, j2⟩ K' hK'
      have hj : c < many := List.mem_range.mp (List.mem_of_getElem? hc)
      have hjm : j < many := by
        have := (List.getElem?_eq_some_iff.mp hc).1
        rw [List.length_range] at this
        exact this
      have hln : ps.length < sizeLine := lt_line (by omega)
      have hp := hrow.2 _ (gt_mem (l := gt mv rest) (j := (c : Int)) (by omega) (by rw [hrow.1]; omega))
      have hpl := hp.len (by omega)
      have gxc : gIx (gR false (gt mv rest)) (.int (c : Int)) = some (pP false (gt (gt mv rest) (c : Int)), 0) := gIx_gR (by omega) (by rw [hrow.1]; omega)
      generalize hpe : gt (gt mv rest) (c : Int) = p at hp hpl gxc
      obtain ⟨ts, en⟩ := p
      dsimp only at hp hpl
      have snoc : ∀ t : Pr, TgOk size t.1 → (ps ++ [t]).length = j + 1 ∧ ∀ p ∈ ps ++ [t], TgOk size p.1 := fun t ht => ⟨by simp [j1], fun p m => by
        rcases List.mem_append.mp m with m | m
        · exact j2 p m
        · rw [List.mem_singleton] at m; rw [m]; exact ht⟩
      obtain ⟨q0, q1⟩ := hl2 _ (gt_mem (l := line) (j := A) (by omega) (by omega))
      by_cases z : (c : Int) = G
      · have q := hK' (ps ++ [([gt line A], en)]) (snoc _ ⟨by simp, fun t m => by
          rw [List.mem_singleton.mp m]; exact ⟨q0, q1⟩⟩)
        simp [pP] at q
        rw [z] at gxc
        simp (disch := omega) [gIx_lst, hml, gxc, pP, z, hl1, hln]
        simpa [pP] using q
      · have q := hK' (ps ++ [(ts.filter fun t => decide (t ∈ cutA line none (some A)), en)]) (snoc _ ⟨hp.up.filter _, fun t m => hp.rng t (List.mem_filter.mp m).1⟩)
        simp [pP] at q
        simp (disch := omega) [gIx_lst, hml, gxc, pP, z, hl1, hln]
        rw [lc_flt D.int (fun t => decide (t ∈ cutA line none (some A))) D.int _ ts (Nat.le_of_lt (lt_line (by omega))) (by
          intro t ht K
          by_cases c : t ∈ cutA line none (some A) <;> simp [c])]
        simp [hln]
        simpa [pP] using q
    · intro ps ⟨j1, j2⟩
      rw [List.length_range] at j1
      have q := hK (mv.set rest.toNat ps) ⟨by rw [List.length_set]; exact hml, fun r m => by
        rcases List.mem_or_eq_of_mem_set m with m | m
        · exact hM.row r m
        · rw [m]; exact ⟨j1, j2⟩⟩
      simp [List.map_set] at q
      simp (disch := omega) [ixN_ok, hml]
      exact q
  · intro mv hM
    exact ⟨mv, by simp, hM⟩
end L62
namespace L62
open PySem VS
theorem okd_eL {n : Nat} {b : Bool} {xs : List D} (h : okds n xs = true) : okd (n + 1) (eL b xs) = true := by
  cases b <;> simpa [okd] using h
theorem okd_ints {n : Nat} (b : Bool) (ns : List Int) : okd (n + 1) (eL b (ns.map .int)) = true := okd_eL (okds_map fun a _ => by cases n <;> simp [okd])
theorem okd_eM (c : Bool) (mv : Gr) : okd 30 (gM c mv) = true := okd_eL (okds_map fun r _ => okd_eL (okds_map fun p _ => by
  unfold pP
  have h := okd_ints (n := 26) c p.1
  simp only [okd, okds, h, Bool.and_true]))
@[simp] theorem calBJ_7 (f : Fn) (a b c d e g h : D × Nat) (sd : SD) : calBJ 7 f [] (some [a, b, c, d, e, g, h]) sd = lendR (f [a, b, c, d, e, g, h]) sd := eqr rfl
@[simp] theorem calBJ_9 (f : Fn) (a b c d e g h i j : D × Nat) (sd : SD) : calBJ 9 f [] (some [a, b, c, d, e, g, h, i, j]) sd = lendR (f [a, b, c, d, e, g, h, i, j]) sd := eqr rfl
/-- what the law has drawn -/
structure Dr (g : Gr) (n w : Nat) (goals : List Int) (start ev : Int) (sh : List Int) : Prop where
  V : GM g n w
  n1 : n ≤ 50
  w0 : 0 < w
  up : goals.Pairwise (· < ·)
  rg : ∀ t ∈ goals, 0 ≤ t ∧ t < (n : Int)
  s0 : 0 ≤ start
  s1 : start < n
  e0 : 0 ≤ ev
  e1 : ev < w
  sl : sh.length = 18
  r4 : 0 ≤ gt sh 13 ∧ gt sh 13 < 4
section
variable {g : Gr} {n w : Nat} {goals : List Int} {start ev : Int} {sh : List Int}
theorem Dr.sp (Q : Dr g n w goals start ev sh) : Sp g 60 := by
  have V := Q.V
  have w0 := Q.w0
  have n1 := Q.n1
  have ww := V.w1
  have n0 := V.n0
  have hl := V.len
  exact ⟨by omega, by omega, fun r hr => by have := V.row r hr; omega, fun r hr p hp => by have := V.tl hr hp; omega⟩
theorem Dr.vm (Q : Dr g n w goals start ev sh) : VM g w := by
  have V := Q.V
  have n1 := Q.n1
  have ww := V.w1
  have hl := V.len
  exact ⟨by omega, by omega, V.row, V.asc, by rw [hl]; exact V.rng⟩
theorem t25_s (Q : Dr g n w goals start ev sh) (x0 x2 x3 x5 x6 x7 x8 x9 x11 x16 x18 x19 x20 x21 x22 : Option (D × Nat)) (k4 k24 : Nat) (hk : k24 = 0 ∨ k24 = 1) (number : Int) (P reach : List Int) (W : List (Int × Int)) (hP : P.length ≤ 1000) (hW : W.length ≤ 1000) (hR : reach.length ≤ 1000) :
    (t_law_25 [x0, some (.lst (sh.map .int), 0), x2, x3, some (gM false g, k4), x5, x6, x7, x8, x9, some (.int start, 0), x11, some (.lst (goals.map .int), 0), some (.int ev, 0), some (gM (decide (gt sh 5 = 1)) g, 0), some (.lst (goals.map .int), 0), x16, some (.lst (reach.map .int), 0), x18, x19, x20, x21, x22, some (.int number, 0), some (.lst (P.map .int), k24), some (.tup (W.map prD), 0)]).fin (kE (.non, 0)) kS kS = .ok (.bl true, 0) := by
  have V := Q.V
  have sl := Q.sl
  have gl := up_lenN Q.up Q.rg
  have n1 := Q.n1
  have hr4 : gt (cutA sh (some 9) (some 14)) 4 = gt sh 13 := cut_at (l := sh) (a := 9) (n := 5) (j := 4) (by omega) (by omega)
  have hrl : (cutA sh (some 9) (some 14)).length = 5 := cut_len (l := sh) (a := 9) (n := 5) (by omega)
  have hr2 : (cutA sh (some 14) none).length = 4 := by simp [cutA, sl, HT.sIx]
  generalize hc : decide (gt sh 5 = 1) = c
  have ag := agree_s c V goals Q.up Q.rg start ev number Q.e0 Q.e1 P W reach (cutA sh (some 9) (some 14)) hP hW hR hrl (by rw [hr4]; exact Q.r4)
  have rf := refuses_s g 60 (by omega) Q.sp goals (by omega) start ev (cutA sh (some 14) none) hr2
  have cp := copied_s false c g w Q.vm
  have eq1 := gEq_self (okd_eM c g)
  have eq2 := gEq_self (okd_ints (n := 29) false goals)
  simp only [eL_false] at eq2
  rcases hk with rfl | rfl
  · simp (disch := omega) [t_law_25, ag, rf, cp, hc, gIx_lst, sl]
    cases c <;> simp [eq1, eq2]
  · simp (disch := omega) [t_law_25, ag, rf, cp, hc, gIx_lst, sl]
    cases c <;> simp [eq1, eq2]
end
end L62
namespace L62
open PySem VS
theorem srt_uniq {xs ys : List Int} (hn : xs.Nodup) (hy : ys.Pairwise (· < ·)) (hm : ∀ t, t ∈ ys ↔ t ∈ xs) : srtI xs = ys := by
  have hy2 : ys.Nodup := hy.imp fun {a b} h => Int.ne_of_lt h
  have hp : ys.Perm xs := (List.perm_ext_iff_of_nodup hy2 hn).mpr hm
  exact (PySem.W.os_sorted_mergeSort hp (hy.imp fun {a b} h => Int.le_of_lt h)).symm
def reachR (O : List (Int × Og)) (n : Nat) : List Int := (rng n).filter fun t => decide (0 ≤ fN O t)
def nearN (O : List (Int × Og)) (goals : List Int) : List Int := (goals.filter fun t => decide (0 ≤ fN O t)).map (fN O)
section
variable {g : Gr} {n w : Nat} {goals : List Int} {start ev : Int} {sh : List Int}
theorem Base.fN_ge {num : Int} {O : List (Int × Og)} {q : List Int} (B : Base g n ev start num O q) (t : Int) : 0 ≤ fN O t ↔ t ∈ keys O := by
  have := B.fN_lt t
  constructor
  · intro h
    by_cases c : t ∈ keys O
    · exact c
    · have := this.mpr c; omega
  · intro h
    rcases Int.lt_or_le (fN O t) 0 with q | q
    · exact absurd h (this.mp q)
    · exact q
theorem rng_up (n : Nat) : (rng n).Pairwise (· < ·) := by
  unfold rng
  rw [List.pairwise_map]
  exact List.pairwise_lt_range.imp fun h => by omega
theorem reach_srt {num : Int} {O : List (Int × Og)} {q : List Int} (B : Base g n ev start num O q) : srtI (keys O) = reachR O n := by
  refine srt_uniq B.nd ((rng_up n).filter _) fun t => ?_
  unfold reachR
  rw [List.mem_filter, decide_eq_true_eq, B.fN_ge]
  exact ⟨fun h => h.2, fun h => ⟨mem_rng.mpr (B.rg t h), h⟩⟩
theorem prices_fold {num : Int} {O : List (Int × Og)} {q : List Int} (B : Base g n ev start num O q) (number : Int) : (reachR O n).foldl (fun P r => P.set r.toNat (min (fN O r) number)) (List.replicate n number) = (rng n).map (priceO O number) := by
  have hr : ∀ r ∈ reachR O n, 0 ≤ r ∧ r < ((List.replicate n number).length : Int) := fun r hr => by
    have := mem_rng.mp (List.mem_filter.mp hr).1
    rw [List.length_replicate]; exact this
  refine List.ext_getElem? fun i => ?_
  by_cases hi : i < n
  · rw [fold_set_at (fun r => min (fN O r) number) _ _ i hr (by rw [List.length_replicate]; exact hi)]
    have e : ((rng n).map (priceO O number))[i]? = some (priceO O number (i : Int)) := by
      unfold rng
      simp [hi]
    rw [e]
    unfold priceO
    have hm : (i : Int) ∈ reachR O n ↔ (i : Int) ∈ keys O := by
      unfold reachR
      rw [List.mem_filter, decide_eq_true_eq, B.fN_ge]
      exact ⟨fun h => h.2, fun h => ⟨mem_rng.mpr (B.rg _ h), h⟩⟩
    by_cases c : (i : Int) ∈ keys O
    · rw [if_pos (hm.mpr c), if_pos c, fN_num c]
    · rw [if_neg fun z => c (hm.mp z), if_neg c]
      simp [hi]
  · have h1 : ((reachR O n).foldl (fun P r => P.set r.toNat (min (fN O r) number)) (List.replicate n number)).length ≤ i := by
      rw [fold_set_len (fun r => min (fN O r) number), List.length_replicate]; omega
    have h2 : ((rng n).map (priceO O number)).length ≤ i := by rw [List.length_map, rng_len]; omega
    rw [List.getElem?_eq_none h1, List.getElem?_eq_none h2]
theorem near_min {num : Int} {O : List (Int × Og)} {q : List Int} (B : Base g n ev start num O q) {c : Int} (hc : bestG O goals = some c) : ∃ z zs, nearN O goals = z :: zs ∧ zs.foldl min z = numO O c ∧ c ∈ goals ∧ c ∈ keys O := by
  obtain ⟨a1, _, a3⟩ := bestG_least goals none c hc
  have hk := bestG_mem goals none (fun c h => by cases h) c hc
  have hcg : c ∈ goals := by
    rcases a1 with a1 | a1
    · cases a1
    · exact a1
  have hm : fN O c ∈ nearN O goals := List.mem_map.mpr ⟨c, List.mem_filter.mpr ⟨hcg, decide_eq_true ((B.fN_ge c).mpr hk)⟩, rfl⟩
  have hall : ∀ y ∈ nearN O goals, numO O c ≤ y := fun y hy => by
    obtain ⟨t, ht, rfl⟩ := List.mem_map.mp hy
    obtain ⟨t1, t2⟩ := List.mem_filter.mp ht
    rw [decide_eq_true_eq] at t2
    have tk := (B.fN_ge t).mp t2
    rw [fN_num tk]
    exact a3 t t1 tk
  rw [fN_num hk] at hm
  cases e : nearN O goals with
  | nil => rw [e] at hm; cases hm
  | cons z zs =>
    rw [e] at hm hall
    refine ⟨z, zs, rfl, ?_, hcg, hk⟩
    obtain ⟨f1, f2, f3⟩ := foldl_min_le zs z
    have h1 : zs.foldl min z ≤ numO O c := by
      rcases List.mem_cons.mp hm with h | h
      · rw [h]; exact f2
      · exact f3 _ h
    have h2 : numO O c ≤ zs.foldl min z := by
      rcases f1 with f1 | f1
      · rw [f1]; exact hall z List.mem_cons_self
      · exact hall _ (List.mem_cons_of_mem _ f1)
    omega
end
end L62
namespace L62
open PySem VS
@[simp] theorem gMinE_2 (a b : Int) : gMinE [.int a, .int b] = some (.int (min a b), 0) := eqr rfl
section
variable {g : Gr} {n w : Nat} {goals : List Int} {start ev : Int} {sh : List Int}
theorem t24_s (Q : Dr g n w goals start ev sh) (x0 x3 x5 x6 x7 x8 x9 x11 x18 x20 : Option (D × Nat)) (k4 : Nat) :
    (t_law_24 [x0, some (.lst (sh.map .int), 0), some (.int (n : Int), 0), x3, some (gM false g, k4), x5, x6, x7, x8, x9, some (.int start, 0), x11, some (.lst (goals.map .int), 0), some (.int ev, 0), some (gM (decide (gt sh 5 = 1)) g, 0), some (.lst (goals.map .int), 0), some (.lst ((fnd (origins g n start ev) n).map .int), 0), some (.lst ((reachR (origins g n start ev) n).map .int), 0), x18, some (.lst ((nearN (origins g n start ev) goals).map .int), 0), x20, some (leastD g n goals start ev, 0), some (mustD g n w goals start, 0), some (.int 0, 0), some (.lst ((fnd (origins g n start ev) n).map .int), 0), some (.tup [], 0)]).fin (kE (.non, 0)) kS kS = .ok (.bl true, 0) := by
  have V := Q.V
  have n1 := Q.n1
  have OG := origins_org (ev := ev) V Q.s0 Q.s1
  have O1 := origins_org (ev := (-1 : Int)) V Q.s0 Q.s1
  have T := fun x16 x18 x19 x20 x21 x22 k4 k24 hk number P reach W hP hW hR => t25_s Q x0 (some (.int (n : Int), 0)) x3 x5 x6 x7 x8 x9 x11 x16 x18 x19 x20 x21 x22 k4 k24 hk number P reach W hP hW hR
  have fl := fnd_len (origins g n start ev) n
  have rl : (reachR (origins g n start ev) n).length ≤ 1000 := by
    unfold reachR
    refine Nat.le_trans (List.length_filter_le _ _) ?_
    rw [rng_len]; omega
  unfold leastD
  cases hb : bestG (origins g n start ev) goals with
  | none =>
    have hno := ((betG_none goals none).mp hb).2
    have hN : nearN (origins g n start ev) goals = [] := by
      unfold nearN
      rw [List.map_eq_nil_iff]
      refine List.filter_eq_nil_iff.mpr fun t ht h => ?_
      rw [decide_eq_true_eq] at h
      exact hno t ht ((OG.B.fN_ge t).mp h)
    have hm : mustD g n w goals start = .non := by
      have : bestG (origins g n start (-1)) goals = none := (betG_none goals none).mpr ⟨rfl, fun t ht hk => hno t ht ((keys_iff OG).mpr (by
        obtain ⟨k, hk⟩ := (keys_iff O1).mp hk
        exact reach_any hk))⟩
      unfold mustD
      rw [this]
    have nv := never_is_s (reachR (origins g n start ev) n) rl
    have T2 := fun x16 x18 x19 x20 x21 x22 k4 => T x16 x18 x19 x20 x21 x22 k4 0 (.inl rfl) 0 (fnd (origins g n start ev) n) (reachR (origins g n start ev) n) [] (by omega) (by simp) rl
    rw [hN, hm, reach_srt OG.B]
    simp at T2 nv
    unfold t_law_24
    simp [nv, T2]
  | some c =>
    obtain ⟨z, zs, hN, hmin, hcg, hck⟩ := near_min OG.B hb
    obtain ⟨kr, hkr⟩ := (keys_iff OG).mp hck
    have hm : mustD g n w goals start = .tup (((rng w).filter (mustB g n goals start)).map .int) := by
      unfold mustD
      cases h1 : bestG (origins g n start (-1)) goals with
      | none => exact absurd ((keys_iff O1).mpr (reach_any hkr)) (((betG_none goals none).mp h1).2 c hcg)
      | some d => rfl
    rw [hN, hm]
    obtain ⟨w1, w2⟩ := way_of OG.B goals hck hcg Q.s0 (by rw [V.len]; exact Q.s1)
    have wl : (wayR (origins g n start ev) (origins g n start ev).length c).reverse.length ≤ 1000 := by
      rw [List.length_reverse]
      have := wayR_len (O := origins g n start ev) (origins g n start ev).length c
      have := OG.B.olen
      omega
    have Pl : ((rng n).map (priceO (origins g n start ev) (numO (origins g n start ev) c))).length ≤ 1000 := by rw [List.length_map, rng_len]; omega
    have li := least_is_s false V goals start ev (numO (origins g n start ev) c) _ _ Pl wl w1 w2
    have lm := law_musts_s false V Q.s0 Q.s1 goals (by have := up_lenN Q.up Q.rg; omega) (fun ev' => ⟨c, hcg, reach_any hkr⟩)
    have ir := is_row_s ((rng w).filter (mustB g n goals start)) (by
      refine Nat.le_trans (List.length_filter_le _ _) ?_
      rw [rng_len]; have := V.w1; omega)
    have T2 := fun x16 x18 x19 x20 x21 x22 k4 => T x16 x18 x19 x20 x21 x22 k4 1 (.inr rfl) (numO (origins g n start ev) c) _ (reachR (origins g n start ev) n) _ Pl wl rl
    have T3 := fun x16 x18 x19 x20 x21 x22 k4 => T x16 x18 x19 x20 x21 x22 k4 0 (.inl rfl) (numO (origins g n start ev) c) _ (reachR (origins g n start ev) n) _ Pl wl rl
    have zl : ¬ (zs.length : Int) + 1 = 0 := by omega
    dsimp only
    generalize hW : (wayR (origins g n start ev) (origins g n start ev).length c).reverse = W at li T2 T3 ⊢
    have pf := prices_fold OG.B (numO (origins g n start ev) c)
    generalize hPr : (rng n).map (priceO (origins g n start ev) (numO (origins g n start ev) c)) = P at li T2 T3 pf ⊢
    generalize numO (origins g n start ev) c = nu at hmin li T2 T3 pf ⊢
    unfold t_law_24
    simp (disch := omega) [zl, hmin, iR1K_ok]
    rw [lc_map (fun (i : Nat) => D.int i) (fun _ => D.int nu) _ (List.range n) (Nat.le_of_lt (lt_line (by simp; omega))) (by intro i hi K; simp)]
    have e1 : (List.range n).map (fun _ => D.int nu) = (List.replicate n nu).map .int := by simp [List.map_const']
    rw [e1]
    simp [-List.map_replicate]
    refine Eq.trans (for_foldP D.int (fun P' : List Int => [x0, some (D.lst (List.map D.int sh), 0), some (D.int ↑n, 0), x3, some (gM false g, k4), x5, x6, x7, x8, x9,
            some (D.int start, 0), x11, some (D.lst (List.map D.int goals), 0), some (D.int ev, 0),
            some (gM (decide (gt sh 5 = 1)) g, 0), some (D.lst (List.map D.int goals), 0),
            some (D.lst (List.map D.int (fnd (origins g n start ev) n)), 0),
            some (D.lst (List.map D.int (reachR (origins g n start ev) n)), 0), none,
            some (D.lst (D.int z :: List.map D.int zs), 0), x20,
            some (D.tup [D.str "least", D.int nu, D.tup (List.map prD W), D.tup (List.map D.int P)], 0),
            some (D.tup (List.map D.int (List.filter (mustB g n goals start) (rng w))), 0), some (D.int nu, 0),
            some (D.lst (List.map D.int P'), 1), some (D.tup [], 0)]) (fun P' => P'.length = n) (fun P' r => P'.set r.toNat (min (fN (origins g n start ev) r) nu)) (reachR (origins g n start ev) n) (List.replicate n nu) (by simp) ?_) ?_
    · intro r hr P' hP'
      have hrr := mem_rng.mp (List.mem_filter.mp hr).1
      have hfa := fnd_at (origins g n start ev) n hrr.1 hrr.2
      refine ⟨by rw [List.length_set]; exact hP', fun K => ?_⟩
      simp (disch := omega) [gIx_lst, fl, hfa, ixN_ok, hP']
    · rw [pf]
      simp [li, lm, ir, T2]
end
end L62
namespace L62
open PySem VS
section
variable {g : Gr} {n w : Nat} {goals : List Int} {start ev : Int} {sh : List Int}
theorem leastD_form (g : Gr) (n : Nat) (goals : List Int) (start ev : Int) : (∃ x y, leastD g n goals start ev = .tup [.str x, y]) ∨ (∃ x y z u, leastD g n goals start ev = .tup [.str x, y, z, u]) := by
  unfold leastD
  split
  · exact .inl ⟨_, _, rfl⟩
  · exact .inr ⟨_, _, _, _, rfl⟩
theorem t18_s (Q : Dr g n w goals start ev sh) (x0 x3 x5 x6 x7 x8 x9 x11 x18 x20 x21 x22 x23 x24 x25 : Option (D × Nat)) (k4 : Nat) :
    (t_law_18 [x0, some (.lst (sh.map .int), 0), some (.int (n : Int), 0), x3, some (gM false g, k4), x5, x6, x7, x8, x9, some (.int start, 0), x11, some (.lst (goals.map .int), 0), some (.int ev, 0), some (gM (decide (gt sh 5 = 1)) g, 0), some (.lst (goals.map .int), 0), some (.lst ((fnd (origins g n start ev) n).map .int), 0), some (.lst ((reachR (origins g n start ev) n).map .int), 0), x18, some (.lst ((nearN (origins g n start ev) goals).map .int), 0), x20, x21, x22, x23, x24, x25]).fin (kE (.non, 0)) kS kS = .ok (.bl true, 0) := by
  have V := Q.V
  have T := fun x0 x3 x5 x6 x7 x8 x9 x11 x18 x20 k4 => t24_s Q x0 x3 x5 x6 x7 x8 x9 x11 x18 x20 k4
  generalize hc : decide (gt sh 5 = 1) = c at T ⊢
  have q1 := least_presses_s c V goals Q.up Q.rg Q.s0 Q.s1 ev Q.e0 Q.e1
  have q2 := must_events_s c V goals Q.up Q.rg Q.s0 Q.s1
  rcases leastD_form g n goals start ev with ⟨x, y, h⟩ | ⟨x, y, z, u, h⟩
  · rw [h] at q1 T
    unfold t_law_18
    simp [q1, q2, T]
  · rw [h] at q1 T
    unfold t_law_18
    simp [q1, q2, T]
theorem t14_s (Q : Dr g n w goals start ev sh) (x0 x3 x5 x6 x7 x8 x9 x11 x16 x17 x18 x19 x20 x21 x22 x23 x24 x25 : Option (D × Nat)) (k4 : Nat) :
    (t_law_14 [x0, some (.lst (sh.map .int), 0), some (.int (n : Int), 0), x3, some (gM false g, k4), x5, x6, x7, x8, x9, some (.int start, 0), x11, some (.lst (goals.map .int), 0), some (.int ev, 0), some (gM (decide (gt sh 5 = 1)) g, 0), some (.lst (goals.map .int), 0), x16, x17, x18, x19, x20, x21, x22, x23, x24, x25]).fin (kE (.non, 0)) kS kS = .ok (.bl true, 0) := by
  have V := Q.V
  have n1 := Q.n1
  have gl := up_lenN Q.up Q.rg
  have fl := fnd_len (origins g n start ev) n
  have T := fun x0 x3 x5 x6 x7 x8 x9 x11 x18 x20 x21 x22 x23 x24 x25 k4 => t18_s Q x0 x3 x5 x6 x7 x8 x9 x11 x18 x20 x21 x22 x23 x24 x25 k4
  generalize hc : decide (gt sh 5 = 1) = c at T ⊢
  have q1 := law_presses_s false V Q.s0 Q.s1 ev
  have q2 := hope_way_s c V goals Q.up Q.rg Q.s0 Q.s1
  have q3 := law_best_s false V goals Q.s0 Q.s1
  have q4 : f__law_way_is [(oV (bestW g goals n 0 [(start, [])]), 0), (oW (bestW g goals n 0 [(start, [])]), 0)] = .ok (.bl true, 0) := by
    cases bestW g goals n 0 [(start, [])] with
    | none => exact way_is_n
    | some W => exact way_is_s W
  unfold t_law_14
  simp (disch := omega) [q1, iR1K_ok]
  rw [lc_flt (fun i : Nat => D.int i) (fun i : Nat => decide (0 ≤ fN (origins g n start ev) (i : Int))) (fun i : Nat => D.int i) _ (List.range n) (Nat.le_of_lt (lt_line (by simp; omega))) (fun i hi K => by
    have hi' := List.mem_range.mp hi
    have hfa := fnd_at (origins g n start ev) n (t := (i : Int)) (by omega) (by omega)
    by_cases c : 0 ≤ fN (origins g n start ev) (i : Int) <;> simp (disch := omega) [gIx_lst, fl, hfa, c])]
  have e1 : ((List.range n).filter fun i : Nat => decide (0 ≤ fN (origins g n start ev) (i : Int))).map (fun i : Nat => D.int i) = (reachR (origins g n start ev) n).map .int := by
    unfold reachR rng
    rw [List.filter_map, List.map_map]
    rfl
  rw [e1]
  simp
  rw [lc_flt D.int (fun t => decide (0 ≤ fN (origins g n start ev) t)) (fun t => D.int (fN (origins g n start ev) t)) _ goals (Nat.le_of_lt (lt_line (by omega))) (fun t ht K => by
    obtain ⟨t0, t1⟩ := Q.rg t ht
    have hfa := fnd_at (origins g n start ev) n t0 t1
    by_cases c : 0 ≤ fN (origins g n start ev) t <;> simp (disch := omega) [gIx_lst, fl, hfa, c])]
  have e2 : (goals.filter fun t => decide (0 ≤ fN (origins g n start ev) t)).map (fun t => D.int (fN (origins g n start ev) t)) = (nearN (origins g n start ev) goals).map .int := by
    unfold nearN
    rw [List.map_map]
    rfl
  rw [e2]
  simp [q2, q3, q4, T]
end
end L62
namespace L62
open PySem VS
theorem MvOk.gm {n w : Nat} {g : Gr} (h : MvOk n w g) (n0 : 0 < n) (n1 : n ≤ 60) (w1 : w ≤ 6) : GM g n w :=
  ⟨n0, n1, w1, h.len, fun r m => (h.row r m).1, fun r m p mp => ((h.row r m).2 p mp).up, fun r m p mp t mt => ((h.row r m).2 p mp).rng t mt⟩
theorem t10_s (g : Gr) (n w : Nat) (ok : MvOk n w g) (n0 : 0 < n) (n1 : n ≤ 50) (w0 : 0 < w) (w1 : w ≤ 6) (sh marks : List Int) (hsh : sh.length = 18) (r4 : 0 ≤ gt sh 13 ∧ gt sh 13 < 4) (hmk : marks.length = n) (start : Int) (s0 : 0 ≤ start) (s1 : start < n) (x0 x5 x7 x11 x12 x13 x14 x15 x16 x17 x18 x19 x20 x21 x22 x23 x24 x25 : Option (D × Nat)) (k4 : Nat) :
    (t_law_10 [x0, some (.lst (sh.map .int), 0), some (.int (n : Int), 0), some (.int (w : Int), 0), some (.lst (g.map (gR false)), k4), x5, none, x7, none, some (.lst (marks.map .int), 0), some (.int start, 0), x11, x12, x13, x14, x15, x16, x17, x18, x19, x20, x21, x22, x23, x24, x25]).fin (kE (.non, 0)) kS kS = .ok (.bl true, 0) := by
  have V := ok.gm n0 (by omega) w1
  unfold t_law_10
  simp (disch := omega) [iR1K_ok]
  rw [lc_flt (fun i : Nat => D.int i) (fun i : Nat => decide (gt marks (i : Int) = 1)) (fun i : Nat => D.int i) _ (List.range n) (Nat.le_of_lt (lt_line (by simp; omega))) (fun i hi K => by
    have := List.mem_range.mp hi
    simp (disch := omega) [gIx_lst])]
  have e : List.map (fun i : Nat => D.int i) ((List.range n).filter fun i : Nat => decide (gt marks (i : Int) = 1)) = (((List.range n).filter fun i : Nat => decide (gt marks (i : Int) = 1)).map fun i : Nat => (i : Int)).map D.int := by rw [List.map_map]; rfl
  rw [e]
  have up : (((List.range n).filter fun i : Nat => decide (gt marks (i : Int) = 1)).map fun i : Nat => (i : Int)).Pairwise (· < ·) := by
    rw [List.pairwise_map]
    exact (List.pairwise_lt_range.filter _).imp fun h => by omega
  have rng : ∀ t ∈ ((List.range n).filter fun i : Nat => decide (gt marks (i : Int) = 1)).map fun i : Nat => (i : Int), 0 ≤ t ∧ t < (n : Int) := fun t m => by
    obtain ⟨i, m2, rfl⟩ := List.mem_map.mp m
    have := List.mem_range.mp (List.mem_filter.mp m2).1
    omega
  generalize ((List.range n).filter fun i : Nat => decide (gt marks (i : Int) = 1)).map (fun i : Nat => (i : Int)) = goals at up rng ⊢
  have v0 := Int.emod_nonneg (gt sh 8) (b := (w : Int)) (by omega)
  have v1 := Int.emod_lt_of_pos (gt sh 8) (b := (w : Int)) (by omega)
  have Q : Dr g n w goals start (gt sh 8 % (w : Int)) sh := ⟨V, n1, w0, up, rng, s0, s1, v0, v1, hsh, r4⟩
  have cp := copied_s false (decide (gt sh 5 = 1)) g w Q.vm
  have T := fun x0 x3 x5 x6 x7 x8 x9 x11 x16 x17 x18 x19 x20 x21 x22 x23 x24 x25 k4 => t14_s Q x0 x3 x5 x6 x7 x8 x9 x11 x16 x17 x18 x19 x20 x21 x22 x23 x24 x25 k4
  have eM0 : gM false g = .lst (g.map (gR false)) := rfl
  rw [eM0] at cp T
  simp (disch := omega) [gIx_lst, w0, cp, T]
end L62
namespace L62
open PySem VS
theorem gIx_last (line : List Int) (h : 0 < line.length) : ∃ z, gIx (.lst (line.map .int)) (.int (-1)) = some (.int z, 0) := by
  have hne : line ≠ [] := List.length_pos_iff.mp h
  refine ⟨line.getLast hne, ?_⟩
  have e : line.map D.int = line.dropLast.map D.int ++ [D.int (line.getLast hne)] := by rw [← List.map_singleton, ← List.map_append, List.dropLast_concat_getLast]
  rw [e, gIx_lastL]
theorem t4_s (ns sh : List Int) (n w : Nat) (n0 : 0 < n) (n1 : n ≤ 50) (w0 : 0 < w) (w1 : w ≤ 6) (hsh : sh.length = 18) (h7 : 0 ≤ gt sh 7 ∧ gt sh 7 < 3) (r4 : 0 ≤ gt sh 13 ∧ gt sh 13 < 4) (hb : ∀ z ∈ ns, Builtin.Int.intBits z ≤ 1048576) :
    (t_law_4 [some (.scr (ns.map .int), 0), some (.lst (sh.map .int), 0), some (.int (n : Int), 0), some (.int (w : Int), 0), none, none, none, none, none, none, none, none, none, none, none, none, none, none, none, none, none, none, none, none, none, none]).fin (kE (.non, 0)) kS kS = .ok (.bl true, 0) := by
  obtain ⟨mv, q1, q2⟩ := moves_s ns n w hb n0 (by omega) (by omega)
  have cc : ∀ k : Int, 0 ≤ k → f__law_cell [(.scr (ns.map .int), 0), (.int k, 0)] = .ok (.int (cellV ns k), 0) := fun k hk => cell_s ns k hk
  have hls : (List.range n).length ≤ sizeLine := Nat.le_of_lt (lt_line (by simp; omega))
  obtain ⟨ks, k1, k2⟩ := row_s false (cellV ns 2) ((List.range n).map fun _ => 6000) (by have := cell_log hb (k := 2) (by decide); omega) (by rw [List.length_map, List.length_range]; omega) (fun z m => by
    obtain ⟨_, _, rfl⟩ := List.mem_map.mp m
    omega)
  have kl : ks.length = n := by rw [k2.len, List.length_map, List.length_range]
  rw [List.map_map] at k1
  have k1' : f__law_row [(.int (cellV ns 2), 0), (.lst ((List.range n).map fun _ => D.int 6000), 0)] = .ok (.lst (ks.map .int), 1) := k1
  have h6 : Nat.log2 6 < 9000 := by decide
  have hkl : ks.length ≤ sizeLine := Nat.le_of_lt (lt_line (by omega))
  have g3 : gIx (.lst [.int 2, .int 5, .int 12]) (.int (gt sh 7)) = some (.int (gt ([2, 5, 12] : List Int) (gt sh 7)), 0) := gIx_lst D.int (l := [2, 5, 12]) h7.1 (by simp; omega)
  have hsr : 0 < gt ([2, 5, 12] : List Int) (gt sh 7) ∧ gt ([2, 5, 12] : List Int) (gt sh 7) ≤ 12 := by
    have e : gt sh 7 = 0 ∨ gt sh 7 = 1 ∨ gt sh 7 = 2 := by omega
    rcases e with e | e | e <;> rw [e] <;> decide
  generalize gt ([2, 5, 12] : List Int) (gt sh 7) = share at g3 hsr
  obtain ⟨marks, m1, m2⟩ := row_s false (cellV ns 1) ((List.range n).map fun _ => share) (by have := cell_log hb (k := 1) (by decide); omega) (by rw [List.length_map, List.length_range]; omega) (fun z m => by
    obtain ⟨_, _, rfl⟩ := List.mem_map.mp m
    omega)
  have ml : marks.length = n := by rw [m2.len, List.length_map, List.length_range]
  rw [List.map_map] at m1
  have m1' : f__law_row [(.int (cellV ns 1), 0), (.lst ((List.range n).map fun _ => D.int share), 0)] = .ok (.lst (marks.map .int), 1) := m1
  obtain ⟨L, hL, hL2, hL3⟩ : ∃ L : List (Int × Int), gSorted (.lst ((List.range n).map fun i : Nat => prD (gt ks (i : Int) / 6, (i : Int)))) = some (.lst (L.map prD), 1) ∧ L.length = n ∧ ∀ p ∈ L, 0 ≤ p.2 ∧ p.2 < n := by
    have e : (List.range n).map (fun i : Nat => prD (gt ks (i : Int) / 6, (i : Int))) = ((List.range n).map fun i : Nat => (gt ks (i : Int) / 6, (i : Int))).map prD := by rw [List.map_map]; rfl
    rw [e]
    have hl : ((List.range n).map fun i : Nat => (gt ks (i : Int) / 6, (i : Int))).length = n := by rw [List.length_map, List.length_range]
    have hmem : ∀ p ∈ (List.range n).map fun i : Nat => (gt ks (i : Int) / 6, (i : Int)), 0 ≤ p.2 ∧ p.2 < n := fun p m => by
      obtain ⟨i, m2, rfl⟩ := List.mem_map.mp m
      have := List.mem_range.mp m2
      dsimp only
      omega
    generalize (List.range n).map (fun i : Nat => (gt ks (i : Int) / 6, (i : Int))) = l at hl hmem
    cases l with
    | nil => simp at hl; omega
    | cons p l =>
      refine ⟨_, gSorted_pr p l, ?_, fun q m => hmem q ?_⟩
      · unfold srtP; rw [List.length_mergeSort]; exact hl
      · unfold srtP at m; exact (List.mergeSort_perm _ _).mem_iff.mp m
  have eL : L.map (fun p => D.int p.2) = (L.map (·.2)).map D.int := by rw [List.map_map]; rfl
  have ll : (L.map (·.2)).length = n := by rw [List.length_map]; exact hL2
  have lr : ∀ x ∈ L.map (·.2), 0 ≤ x ∧ x < (n : Int) := fun x m => by
    obtain ⟨p, m2, rfl⟩ := List.mem_map.mp m
    exact hL3 p m2
  have hLl : L.length ≤ sizeLine := Nat.le_of_lt (lt_line (by omega))
  simp (disch := omega) [t_law_4, q1, cc, iR1K_ok]
  rw [lc_map (fun i : Nat => D.int i) (fun _ => D.int 6000) _ _ hls (fun i hi K => by simp)]
  simp (disch := omega) [-List.map_const', k1', iR1K_ok]
  rw [lc_map (fun i : Nat => D.int i) (fun i : Nat => prD (gt ks (i : Int) / 6, (i : Int))) _ _ hls (fun i hi K => by
    have := List.mem_range.mp hi
    simp (disch := omega) [gIx_lst, prD, h6])]
  simp [hL]
  rw [lc_map prD (fun p => D.int p.2) _ L hLl (fun p hp K => by simp [prD])]
  rw [eL]
  generalize L.map (·.2) = line at ll lr
  simp (disch := omega) [cc, iR1K_ok]
  rw [lc_map (fun i : Nat => D.int i) (fun _ => D.int share) _ _ hls (fun i hi K => by simp (disch := omega) [gIx_lst, hsh, g3])]
  have v0 := Int.emod_nonneg (gt sh 6) (b := (n : Int)) (by omega)
  have v1 := Int.emod_lt_of_pos (gt sh 6) (b := (n : Int)) (by omega)
  obtain ⟨zl, hz⟩ := gIx_last line (by omega)
  obtain ⟨mv', lq, lo⟩ := lined_s mv n w line (ks.map fun k => k % 6) q2 (by omega) w0 (by omega) ll lr (by rw [List.length_map]; exact kl)
  rw [List.map_map] at lq
  have lq' : f__law_lined [(.lst (mv.map (gR false)), 1), (.lst (line.map .int), 0), (.lst (ks.map fun k => D.int (k % 6)), 0)] = .ok (.lst (mv'.map (gR false)), 1) := lq
  have T := fun (g : Gr) ok marks hmk start s0 s1 x0 x5 x7 x11 k4 => t10_s g n w ok n0 n1 w0 w1 sh marks hsh r4 hmk start s0 s1 x0 x5 x7 x11 none none none none none none none none none none none none none none k4
  by_cases c4 : gt sh 4 = 1
  · simp (disch := omega) [m1', gIx_lst, hsh, n0, c4]
    rw [lc_map D.int (fun k => D.int (k % 6)) _ ks hkl (fun k hk K => by simp)]
    by_cases c7 : gt sh 7 = 2
    · simp (disch := omega) [lq', gIx_lst, hsh, c7, iR1K_ok]
      rw [lc_map (fun i : Nat => D.int i) (fun i : Nat => D.int (if (i : Int) = zl then 1 else 0)) _ _ hls (fun i hi K => by simp [hz])]
      obtain ⟨l0, l1⟩ := lr _ (gt_mem (l := line) (j := 0) (by omega) (by omega))
      have em : (List.range n).map (fun i : Nat => D.int (if (i : Int) = zl then 1 else 0)) = ((List.range n).map fun i : Nat => if (i : Int) = zl then (1 : Int) else 0).map .int := by rw [List.map_map]; rfl
      rw [em]
      have T1 := fun x0 x5 x7 x11 k4 => T mv' lo ((List.range n).map fun i : Nat => if (i : Int) = zl then (1 : Int) else 0) (by simp) (gt line 0) l0 l1 x0 x5 x7 x11 k4
      generalize (List.range n).map (fun i : Nat => if (i : Int) = zl then (1 : Int) else 0) = mks at T1
      simp (disch := omega) [gIx_lst, T1]
    · have T1 := fun x0 x5 x7 x11 k4 => T mv' lo marks ml _ v0 v1 x0 x5 x7 x11 k4
      simp (disch := omega) [lq', gIx_lst, hsh, c7, T1]
  · have T1 := fun x0 x5 x7 x11 k4 => T mv q2 marks ml _ v0 v1 x0 x5 x7 x11 k4
    simp (disch := omega) [m1', gIx_lst, hsh, n0, c4, T1]
end L62
namespace L62
open PySem VS
theorem law_true : ∀ ns : List Int, ns.length ≤ 63 → (∀ z ∈ ns, Builtin.Int.intBits z ≤ 1048576) → ∃ k, f_law [(.scr (ns.map .int), 0)] = .ok (.bl true, k) := by
  intro ns _ hb
  refine ⟨0, ?_⟩
  rw [f_law, fnOf_ap]
  obtain ⟨sh, q1, q2⟩ := row_s false (cellV ns 0) [4, 40, 14, 6, 2, 2, 60, 3, 6, 4, 60, 9, 60, 4, 8, 60, 20, 60] (by have := cell_log hb (k := 0) (by decide); omega) (by decide) (by decide)
  have hsh : sh.length = 18 := q2.len
  simp only [eL_false, List.map_cons, List.map_nil] at q1
  have h14 : 14 ≤ sizeLine := by decide
  have h18 : 18 ≤ sizeLine := by decide
  have a1 : 0 ≤ gt sh 1 ∧ gt sh 1 < 40 := q2.at_ 1 (by decide)
  have a2 : 0 ≤ gt sh 2 ∧ gt sh 2 < 14 := q2.at_ 2 (by decide)
  have a3 : 0 ≤ gt sh 3 ∧ gt sh 3 < 6 := q2.at_ 3 (by decide)
  have a7 : 0 ≤ gt sh 7 ∧ gt sh 7 < 3 := q2.at_ 7 (by decide)
  have a13 : 0 ≤ gt sh 13 ∧ gt sh 13 < 4 := q2.at_ 13 (by decide)
  have t := fun (size many : Int) (s0 : 0 < size) (s1 : size ≤ 50) (m0 : 0 < many) (m1 : many ≤ 6) => t4_s ns sh size.toNat many.toNat (by omega) (by omega) (by omega) (by omega) hsh a7 a13 hb
  have es : ∀ z : Int, 0 ≤ z → ((z.toNat : Nat) : Int) = z := fun z h => by omega
  by_cases c : gt sh 0 = 0
  · have t := t (1 + gt sh 1) (1 + gt sh 3 % 2) (by omega) (by omega) (by omega) (by omega)
    rw [es _ (by omega), es _ (by omega)] at t
    simp (disch := omega) [b_law, fill, cell_s, q1, h14, h18, gIx_lst, hsh, c]
    exact t
  · have t := t (1 + gt sh 2) (1 + gt sh 3) (by omega) (by omega) (by omega) (by omega)
    rw [es _ (by omega), es _ (by omega)] at t
    simp (disch := omega) [b_law, fill, cell_s, q1, h14, h18, gIx_lst, hsh, c]
    exact t
end L62
open PySem PySem.W PyProof.Rows in
set_option maxRecDepth 100000 in
set_option maxHeartbeats 0 in
theorem PySem.Challenge.cw_calmhouse_k62_least_presses_holds : PySem.Challenge.rw_calmhouse_k62_least_presses.Holds := by
  w_on; o_law; k_head; (case hw => w_witness2)
  k_fill
  refine VS.walk_law (l := PySem.Challenge.rw_calmhouse_k62_least_presses) (n := 63) (k := 10) (f := L62.f_law) rfl (by decide) rfl ⟨rfl, by decide, by decide⟩ (fun w h Y => PySem.W.kIn_of Y) ?F ?V
  case V => exact L62.law_true
  case F =>
    intro w mg fa h KX G hmg
    refine (fun Fa => by
      obtain ⟨fd, h1, h2⟩ := L62.law_fn (P := PySem.Challenge.pw_calmhouse_k62_least_presses) (w := w) Fa hmg
      exact ⟨fd, h1, fun base _ _ => h2 base trivial⟩) ?_
    refine' L62.facts_mk KX G ?a_is_integer ?l_is_integer ?c_is_integer ?k_is_integer ?a_is_place ?l_is_place ?c_is_place ?k_is_place ?a_are_places ?l_are_places ?c_are_places ?k_are_places ?a_is_moves ?l_is_moves ?c_is_moves ?k_is_moves ?a_demand_question ?l_demand_question ?c_demand_question ?k_demand_question ?a_forcing_event ?l_forcing_event ?c_forcing_event ?k_forcing_event ?a_forced_plan ?l_forced_plan ?c_forced_plan ?k_forced_plan ?a_wish_paper ?l_wish_paper ?c_wish_paper ?k_wish_paper ?a_hope_way ?l_hope_way ?c_hope_way ?k_hope_way ?a_shows_way ?l_shows_way ?c_shows_way ?k_shows_way ?a_shows_hopeless ?l_shows_hopeless ?c_shows_hopeless ?k_shows_hopeless ?a_moves_by_others ?l_moves_by_others ?c_moves_by_others ?k_moves_by_others ?a_press_origins ?l_press_origins ?c_press_origins ?k_press_origins ?a_way_to ?l_way_to ?c_way_to ?k_way_to ?a_best_goal ?l_best_goal ?c_best_goal ?k_best_goal ?a_press_prices ?l_press_prices ?c_press_prices ?k_press_prices ?a_least_presses ?l_least_presses ?c_least_presses ?k_least_presses ?a_row_keeps_prices ?l_row_keeps_prices ?c_row_keeps_prices ?k_row_keeps_prices ?a_shows_prices ?l_shows_prices ?c_shows_prices ?k_shows_prices ?a_must_events ?l_must_events ?c_must_events ?k_must_events ?a__law_cell ?l__law_cell ?c__law_cell ?k__law_cell ?a__law_row ?l__law_row ?c__law_row ?k__law_row ?a__law_targets ?l__law_targets ?c__law_targets ?k__law_targets ?a__law_moves ?l__law_moves ?c__law_moves ?k__law_moves ?a__law_lined ?l__law_lined ?c__law_lined ?k__law_lined ?a__law_copied ?l__law_copied ?c__law_copied ?k__law_copied ?a__law_reach ?l__law_reach ?c__law_reach ?k__law_reach ?a__law_presses ?l__law_presses ?c__law_presses ?k__law_presses ?a__law_best_way ?l__law_best_way ?c__law_best_way ?k__law_best_way ?a__law_is_integer ?l__law_is_integer ?c__law_is_integer ?k__law_is_integer ?a__law_is_row ?l__law_is_row ?c__law_is_row ?k__law_is_row ?a__law_is_way ?l__law_is_way ?c__law_is_way ?k__law_is_way ?a__law_leads ?l__law_leads ?c__law_leads ?k__law_leads ?a__law_prices_are_right ?l__law_prices_are_right ?c__law_prices_are_right ?k__law_prices_are_right ?a__law_is_hopeless ?l__law_is_hopeless ?c__law_is_hopeless ?k__law_is_hopeless ?a__law_says ?l__law_says ?c__law_says ?k__law_says ?a__law_changed ?l__law_changed ?c__law_changed ?k__law_changed ?a__law_judges_agree ?l__law_judges_agree ?c__law_judges_agree ?k__law_judges_agree ?a__law_way_is ?l__law_way_is ?c__law_way_is ?k__law_way_is ?a__law_musts ?l__law_musts ?c__law_musts ?k__law_musts ?a__law_ascending ?l__law_ascending ?c__law_ascending ?k__law_ascending ?a__law_are_moves ?l__law_are_moves ?c__law_are_moves ?k__law_are_moves ?a__law_due ?l__law_due ?c__law_due ?k__law_due ?a__law_refusal ?l__law_refusal ?c__law_refusal ?k__law_refusal ?a__law_spoilt ?l__law_spoilt ?c__law_spoilt ?k__law_spoilt ?a__law_refuses ?l__law_refuses ?c__law_refuses ?k__law_refuses ?a__law_never_is ?l__law_never_is ?c__law_never_is ?k__law_never_is ?a__law_least_is ?l__law_least_is ?c__law_least_is ?k__law_least_is ?a_law ?l_law ?c_law ?k_law ?b_bool ?b_enumerate ?b_int ?b_isinstance ?b_len ?b_list ?b_min ?b_range ?b_reversed ?b_set ?b_sorted ?b_str ?b_tuple ?e_MOST_EVENTS ?e_MOST_RESTS ?aC_HouseError ?aC_BadEvent ?aC_BadOrder ?aC_BadGraph ?hn_ ?ht_ ?hg_BadEvent ?hk_BadEvent ?hs_BadEvent ?hd_BadEvent ?ha_BadEvent ?hm_BadEvent ?kC_BadEvent ?tC_BadEvent ?mr_BadEvent ?su_BadEvent_BadEvent ?su_BadEvent_BadGraph ?su_BadEvent_BadOrder ?su_BadEvent_HouseError ?hg_BadOrder ?hk_BadOrder ?hs_BadOrder ?hd_BadOrder ?ha_BadOrder ?hm_BadOrder ?kC_BadOrder ?tC_BadOrder ?mr_BadOrder ?su_BadOrder_BadEvent ?su_BadOrder_BadGraph ?su_BadOrder_BadOrder ?su_BadOrder_HouseError ?hg_BadGraph ?hk_BadGraph ?hs_BadGraph ?hd_BadGraph ?ha_BadGraph ?hm_BadGraph ?kC_BadGraph ?tC_BadGraph ?mr_BadGraph ?su_BadGraph_BadEvent ?su_BadGraph_BadGraph ?su_BadGraph_BadOrder ?su_BadGraph_HouseError ?hs_HouseError ?hd_HouseError ?tC_HouseError ?x_BadGraph ?x_BadOrder ?nf_BadEvent ?cl_BadEvent ?rv_BadEvent ?sa_BadEvent ?iC_BadEvent ?ti_BadEvent ?xt_BadEvent ?cb_BadEvent ?mb_BadEvent ?fb_BadEvent ?ve_BadEvent ?cs_BadEvent ?sm_BadEvent ?li_BadEvent ?ci_BadEvent ?co_BadEvent ?vs2_BadEvent ?fi_BadEvent ?ce_BadEvent
    (case a_is_integer => k_is)
    (case l_is_integer => k_is)
    (case c_is_integer => k_is)
    (case k_is_integer => k_is)
    (case a_is_place => k_is)
    (case l_is_place => k_is)
    (case c_is_place => k_is)
    (case k_is_place => k_is)
    (case a_are_places => k_is)
    (case l_are_places => k_is)
    (case c_are_places => k_is)
    (case k_are_places => k_is)
    (case a_is_moves => k_is)
    (case l_is_moves => k_is)
    (case c_is_moves => k_is)
    (case k_is_moves => k_is)
    (case a_demand_question => k_is)
    (case l_demand_question => k_is)
    (case c_demand_question => k_is)
    (case k_demand_question => k_is)
    (case a_forcing_event => k_is)
    (case l_forcing_event => k_is)
    (case c_forcing_event => k_is)
    (case k_forcing_event => k_is)
    (case a_forced_plan => k_is)
    (case l_forced_plan => k_is)
    (case c_forced_plan => k_is)
    (case k_forced_plan => k_is)
    (case a_wish_paper => k_is)
    (case l_wish_paper => k_is)
    (case c_wish_paper => k_is)
    (case k_wish_paper => k_is)
    (case a_hope_way => k_is)
    (case l_hope_way => k_is)
    (case c_hope_way => k_is)
    (case k_hope_way => k_is)
    (case a_shows_way => k_is)
    (case l_shows_way => k_is)
    (case c_shows_way => k_is)
    (case k_shows_way => k_is)
    (case a_shows_hopeless => k_is)
    (case l_shows_hopeless => k_is)
    (case c_shows_hopeless => k_is)
    (case k_shows_hopeless => k_is)
    (case a_moves_by_others => k_is)
    (case l_moves_by_others => k_is)
    (case c_moves_by_others => k_is)
    (case k_moves_by_others => k_is)
    (case a_press_origins => k_is)
    (case l_press_origins => k_is)
    (case c_press_origins => k_is)
    (case k_press_origins => k_is)
    (case a_way_to => k_is)
    (case l_way_to => k_is)
    (case c_way_to => k_is)
    (case k_way_to => k_is)
    (case a_best_goal => k_is)
    (case l_best_goal => k_is)
    (case c_best_goal => k_is)
    (case k_best_goal => k_is)
    (case a_press_prices => k_is)
    (case l_press_prices => k_is)
    (case c_press_prices => k_is)
    (case k_press_prices => k_is)
    (case a_least_presses => k_is)
    (case l_least_presses => k_is)
    (case c_least_presses => k_is)
    (case k_least_presses => k_is)
    (case a_row_keeps_prices => k_is)
    (case l_row_keeps_prices => k_is)
    (case c_row_keeps_prices => k_is)
    (case k_row_keeps_prices => k_is)
    (case a_shows_prices => k_is)
    (case l_shows_prices => k_is)
    (case c_shows_prices => k_is)
    (case k_shows_prices => k_is)
    (case a_must_events => k_is)
    (case l_must_events => k_is)
    (case c_must_events => k_is)
    (case k_must_events => k_is)
    (case a__law_cell => k_is)
    (case l__law_cell => k_is)
    (case c__law_cell => k_is)
    (case k__law_cell => k_is)
    (case a__law_row => k_is)
    (case l__law_row => k_is)
    (case c__law_row => k_is)
    (case k__law_row => k_is)
    (case a__law_targets => k_is)
    (case l__law_targets => k_is)
    (case c__law_targets => k_is)
    (case k__law_targets => k_is)
    (case a__law_moves => k_is)
    (case l__law_moves => k_is)
    (case c__law_moves => k_is)
    (case k__law_moves => k_is)
    (case a__law_lined => k_is)
    (case l__law_lined => k_is)
    (case c__law_lined => k_is)
    (case k__law_lined => k_is)
    (case a__law_copied => k_is)
    (case l__law_copied => k_is)
    (case c__law_copied => k_is)
    (case k__law_copied => k_is)
    (case a__law_reach => k_is)
    (case l__law_reach => k_is)
    (case c__law_reach => k_is)
    (case k__law_reach => k_is)
    (case a__law_presses => k_is)
    (case l__law_presses => k_is)
    (case c__law_presses => k_is)
    (case k__law_presses => k_is)
    (case a__law_best_way => k_is)
    (case l__law_best_way => k_is)
    (case c__law_best_way => k_is)
    (case k__law_best_way => k_is)
    (case a__law_is_integer => k_is)
    (case l__law_is_integer => k_is)
    (case c__law_is_integer => k_is)
    (case k__law_is_integer => k_is)
    (case a__law_is_row => k_is)
    (case l__law_is_row => k_is)
    (case c__law_is_row => k_is)
    (case k__law_is_row => k_is)
    (case a__law_is_way => k_is)
    (case l__law_is_way => k_is)
    (case c__law_is_way => k_is)
    (case k__law_is_way => k_is)
    (case a__law_leads => k_is)
    (case l__law_leads => k_is)
    (case c__law_leads => k_is)
    (case k__law_leads => k_is)
    (case a__law_prices_are_right => k_is)
    (case l__law_prices_are_right => k_is)
    (case c__law_prices_are_right => k_is)
    (case k__law_prices_are_right => k_is)
    (case a__law_is_hopeless => k_is)
    (case l__law_is_hopeless => k_is)
    (case c__law_is_hopeless => k_is)
    (case k__law_is_hopeless => k_is)
    (case a__law_says => k_is)
    (case l__law_says => k_is)
    (case c__law_says => k_is)
    (case k__law_says => k_is)
    (case a__law_changed => k_is)
    (case l__law_changed => k_is)
    (case c__law_changed => k_is)
    (case k__law_changed => k_is)
    (case a__law_judges_agree => k_is)
    (case l__law_judges_agree => k_is)
    (case c__law_judges_agree => k_is)
    (case k__law_judges_agree => k_is)
    (case a__law_way_is => k_is)
    (case l__law_way_is => k_is)
    (case c__law_way_is => k_is)
    (case k__law_way_is => k_is)
    (case a__law_musts => k_is)
    (case l__law_musts => k_is)
    (case c__law_musts => k_is)
    (case k__law_musts => k_is)
    (case a__law_ascending => k_is)
    (case l__law_ascending => k_is)
    (case c__law_ascending => k_is)
    (case k__law_ascending => k_is)
    (case a__law_are_moves => k_is)
    (case l__law_are_moves => k_is)
    (case c__law_are_moves => k_is)
    (case k__law_are_moves => k_is)
    (case a__law_due => k_is)
    (case l__law_due => k_is)
    (case c__law_due => k_is)
    (case k__law_due => k_is)
    (case a__law_refusal => k_is)
    (case l__law_refusal => k_is)
    (case c__law_refusal => k_is)
    (case k__law_refusal => k_is)
    (case a__law_spoilt => k_is)
    (case l__law_spoilt => k_is)
    (case c__law_spoilt => k_is)
    (case k__law_spoilt => k_is)
    (case a__law_refuses => k_is)
    (case l__law_refuses => k_is)
    (case c__law_refuses => k_is)
    (case k__law_refuses => k_is)
    (case a__law_never_is => k_is)
    (case l__law_never_is => k_is)
    (case c__law_never_is => k_is)
    (case k__law_never_is => k_is)
    (case a__law_least_is => k_is)
    (case l__law_least_is => k_is)
    (case c__law_least_is => k_is)
    (case k__law_least_is => k_is)
    (case a_law => k_is)
    (case l_law => k_is)
    (case c_law => k_is)
    (case k_law => k_is)
    (case b_bool => k_is)
    (case b_enumerate => k_is)
    (case b_int => k_is)
    (case b_isinstance => k_is)
    (case b_len => k_is)
    (case b_list => k_is)
    (case b_min => k_is)
    (case b_range => k_is)
    (case b_reversed => k_is)
    (case b_set => k_is)
    (case b_sorted => k_is)
    (case b_str => k_is)
    (case b_tuple => k_is)
    (case e_MOST_EVENTS => k_is)
    (case e_MOST_RESTS => k_is)
    (case aC_HouseError => k_is)
    (case aC_BadEvent => k_is)
    (case aC_BadOrder => k_is)
    (case aC_BadGraph => k_is)
    (case hn_ => k_is)
    (case ht_ => k_is)
    (case hg_BadEvent => k_is)
    (case hk_BadEvent => k_is)
    (case hs_BadEvent => k_is)
    (case hd_BadEvent => k_is)
    (case ha_BadEvent => k_is)
    (case hm_BadEvent => k_is)
    (case kC_BadEvent => k_is)
    (case tC_BadEvent => k_is)
    (case mr_BadEvent => k_is)
    (case su_BadEvent_BadEvent => k_is)
    (case su_BadEvent_BadGraph => k_is)
    (case su_BadEvent_BadOrder => k_is)
    (case su_BadEvent_HouseError => k_is)
    (case hg_BadOrder => k_is)
    (case hk_BadOrder => k_is)
    (case hs_BadOrder => k_is)
    (case hd_BadOrder => k_is)
    (case ha_BadOrder => k_is)
    (case hm_BadOrder => k_is)
    (case kC_BadOrder => k_is)
    (case tC_BadOrder => k_is)
    (case mr_BadOrder => k_is)
    (case su_BadOrder_BadEvent => k_is)
    (case su_BadOrder_BadGraph => k_is)
    (case su_BadOrder_BadOrder => k_is)
    (case su_BadOrder_HouseError => k_is)
    (case hg_BadGraph => k_is)
    (case hk_BadGraph => k_is)
    (case hs_BadGraph => k_is)
    (case hd_BadGraph => k_is)
    (case ha_BadGraph => k_is)
    (case hm_BadGraph => k_is)
    (case kC_BadGraph => k_is)
    (case tC_BadGraph => k_is)
    (case mr_BadGraph => k_is)
    (case su_BadGraph_BadEvent => k_is)
    (case su_BadGraph_BadGraph => k_is)
    (case su_BadGraph_BadOrder => k_is)
    (case su_BadGraph_HouseError => k_is)
    (case hs_HouseError => k_is)
    (case hd_HouseError => k_is)
    (case tC_HouseError => k_is)
    (case x_BadGraph => k_exc)
    (case x_BadOrder => k_exc)
    (case nf_BadEvent => k_is)
    (case cl_BadEvent => k_is)
    (case rv_BadEvent => rfl)
    (case sa_BadEvent => k_is)
    (case iC_BadEvent => k_is)
    (case ti_BadEvent => k_is)
    (case xt_BadEvent => rfl)
    (case cb_BadEvent => k_is)
    (case mb_BadEvent => rfl)
    (case fb_BadEvent => k_is)
    (case ve_BadEvent => k_is)
    (case cs_BadEvent => k_is)
    (case sm_BadEvent => k_is)
    (case li_BadEvent => k_is)
    (case ci_BadEvent => k_is)
    (case co_BadEvent => k_is)
    (case vs2_BadEvent => rfl)
    (case fi_BadEvent => first | rfl | decide +kernel)
    (case ce_BadEvent => k_is)
