import PyProof.Rows.All
import Wide.All
import OpenK.AllK
import Wide.FinOn
import HandS.ForMost
import HandS.ForExc
import HandS.Conv
import HandS.TupAny
import HandS.IsInst
import HandS.Style
import HandS.Wide
import HandS.SortInts
import HandS.SortRule
import HandS.Rev
import HandS.Zip
import KE.OsSort
import HandS.CallSlots
import HandS.TryOnly
import HandS.EndBits
import KE.GoesEnum
import HandS.SetFor
import HandS.Strs
import KE.DataMinMax
import KE.SortData
import HandS.Dict
import HandS.Defaults
import HandS.RevTup
import KE.KDictSum
import HandS.ExcValue
import HandS.ExcOwn
import KE.KExcSuper
import HandS.HotCalls
import KE.KExcIs
import HandS.ExcIs
import HandS.ExcField
import HandS.Property
import HandS.Deep
import HandS.More
import PySem.Challenge.RW_calmhouse_k70_machine_arguments
set_option Elab.async false
set_option linter.all false
set_option maxRecDepth 100000
set_option maxHeartbeats 4000000
/-! VS1: plain data trees, how they stand in the abstract heap, who owns what. -/
namespace VS
open PySem PySem.Spec L2
/-- said by computing, but no step for dsimp -/
theorem eqr {α : Sort _} {a b : α} (h : a = b) : a = b := h

inductive D where
  | non
  | bl (b : Bool)
  | int (i : Int)
  | str (s : Str)
  | tup (xs : List D)
  | lst (xs : List D)
  | dct (ks : List Key) (vs : List D)
  | dcT (ks : List (List Key)) (vs : List D)
  | ins (c : Str) (fs : List Str) (vs : List D)
  | exn (c : Str) (fs : List Str) (vs : List D)
  | scr (xs : List D)

abbrev Pz := Addr → Prop
/-- a list, a tuple that stays as it is for ever: its cell is in Z, or an object of the module -/
def FzL (K : PySem.W.Frag) (Z : Pz) (H : Hp) (a : Addr) (xs : List V) : Prop :=
  (Z a ∧ Rd H a (.lst xs)) ∨
    ∃ (o : Obj) (its : Array Value) (n : Nat), K.lookup a = some o ∧ o.cls = .type "list" ∧ o.dict = none ∧ o.data = .seq its n ∧ its.size ≤ sizeLine ∧ Vals xs its.toList
def FzT (K : PySem.W.Frag) (Z : Pz) (H : Hp) (a : Addr) (xs : List V) : Prop :=
  (Z a ∧ Rd H a (.tup xs)) ∨
    ∃ (o : Obj) (its : Array Value) (n : Nat), K.lookup a = some o ∧ o.cls = .type "tuple" ∧ o.data = .seq its n ∧ its.size ≤ sizeLine ∧ Vals xs its.toList

/-- the class c of the module lies at C -/
def ClsAt (K : PySem.W.Frag) (c : Str) (C : Addr) : Prop := PySem.W.nsIn K mainGlobals c = some (some (.ref C))
section
variable (K : PySem.W.Frag)
mutual
/-- the value v is the tree d; the cells of its upper k floors are owned: they stand in the list -/
inductive Rp (Z : Pz) (H : Hp) : V → D → Nat → List Addr → Prop
  | non (k : Nat) : Rp Z H .non .non k []
  | bl (b : Bool) (k : Nat) : Rp Z H (.bl b) (.bl b) k []
  | int (i : Int) (k : Nat) : Rp Z H (.int i) (.int i) k []
  | str (x : Str) (k : Nat) : Rp Z H (.str x) (.str x) k []
  | tup {a : Addr} {xs : List V} {ds : List D} (k : Nat) : Z a → H a = some (.tup xs) → RpAll Z H xs ds 0 [] → Rp Z H (.ref a) (.tup ds) k []
  | lst0 {a : Addr} {xs : List V} {ds : List D} : Z a → H a = some (.lst xs) → RpAll Z H xs ds 0 [] → Rp Z H (.ref a) (.lst ds) 0 []
  | scr {a : Addr} {xs : List V} {ds : List D} (k : Nat) : (FzL K Z H a xs ∨ FzT K Z H a xs) → RpAll Z H xs ds 0 [] → Rp Z H (.ref a) (.scr ds) k []
  | lstS {a : Addr} {xs : List V} {ds : List D} {k : Nat} {o : List Addr} : H a = some (.lst xs) → RpAll Z H xs ds k o → Rp Z H (.ref a) (.lst ds) (k + 1) (a :: o)
  | dct0 {a : Addr} {ks : List Key} {xs : List V} {ds : List D} : Z a → H a = some (.dK (ks.zip xs)) → ks.length = xs.length → RpAll Z H xs ds 0 [] → Rp Z H (.ref a) (.dct ks ds) 0 []
  | dctS {a : Addr} {ks : List Key} {xs : List V} {ds : List D} {k : Nat} {o : List Addr} : H a = some (.dK (ks.zip xs)) → ks.length = xs.length → RpAll Z H xs ds k o → Rp Z H (.ref a) (.dct ks ds) (k + 1) (a :: o)
  | dcT0 {a : Addr} {ks : List (List Key)} {xs : List V} {ds : List D} : Z a → H a = some (.dT (ks.zip xs)) → ks.length = xs.length → RpAll Z H xs ds 0 [] → Rp Z H (.ref a) (.dcT ks ds) 0 []
  | dcTS {a : Addr} {ks : List (List Key)} {xs : List V} {ds : List D} {k : Nat} {o : List Addr} : H a = some (.dT (ks.zip xs)) → ks.length = xs.length → RpAll Z H xs ds k o → Rp Z H (.ref a) (.dcT ks ds) (k + 1) (a :: o)
  | ins0 {a C dx : Addr} {c : Str} {fs : List Str} {xs : List V} {ds : List D} : Z a → Z dx → H a = some (.ins C dx (fs.zip xs)) → H dx = some (.own a) → fs.length = xs.length → ClsAt K c C → RpAll Z H xs ds 0 [] → Rp Z H (.ref a) (.ins c fs ds) 0 []
  | insS {a C dx : Addr} {c : Str} {fs : List Str} {xs : List V} {ds : List D} {k : Nat} {o : List Addr} : H a = some (.ins C dx (fs.zip xs)) → H dx = some (.own a) → fs.length = xs.length → ClsAt K c C → RpAll Z H xs ds k o → Rp Z H (.ref a) (.ins c fs ds) (k + 1) (a :: dx :: o)
  | exn {a C : Addr} {c : Str} {oe : Obj} {u : HO} {ws : Array Value} (k : Nat) : Z a → H a = some (.frz oe u) → oe.cls = .ref C → oe.dict = none → oe.data = .fields ws → ClsAt K c C → Rp Z H (.ref a) (.exn c [] []) k []
  | exnD {a C dx : Addr} {c f : Str} {oe : Obj} {u : HO} {ws : Array Value} {v : V} {d : D} (k : Nat) : Z a → Z dx → H a = some (.frz oe u) → oe.cls = .ref C → oe.dict = some dx → oe.data = .fields ws → H dx = some (.xd [(f, v)]) → ClsAt K c C → RpAll Z H [v] [d] 0 [] → Rp Z H (.ref a) (.exn c [f] [d]) k []
inductive RpAll (Z : Pz) (H : Hp) : List V → List D → Nat → List Addr → Prop
  | nil (k : Nat) : RpAll Z H [] [] k []
  | cons {v : V} {d : D} {vs : List V} {ds : List D} {k : Nat} {o p : List Addr} : Rp Z H v d k o → RpAll Z H vs ds k p → RpAll Z H (v :: vs) (d :: ds) k (o ++ p)
end
end

section
variable {K : PySem.W.Frag} {Z Z' F F' : Pz} {H H' : Hp}
theorem FzL.keep {a : Addr} {xs : List V} (h : FzL K Z H a xs) (hz : ∀ a, Z a → Z' a ∧ H' a = H a) : FzL K Z' H' a xs := by
  rcases h with ⟨z, r⟩ | h
  · obtain ⟨z', e⟩ := hz a z
    refine .inl ⟨z', ?_⟩
    rcases r with r | ⟨o, r⟩
    · exact .inl (e.trans r)
    · exact .inr ⟨o, e.trans r⟩
  · exact .inr h
theorem FzT.keep {a : Addr} {xs : List V} (h : FzT K Z H a xs) (hz : ∀ a, Z a → Z' a ∧ H' a = H a) : FzT K Z' H' a xs := by
  rcases h with ⟨z, r⟩ | h
  · obtain ⟨z', e⟩ := hz a z
    refine .inl ⟨z', ?_⟩
    rcases r with r | ⟨o, r⟩
    · exact .inl (e.trans r)
    · exact .inr ⟨o, e.trans r⟩
  · exact .inr h
theorem FzL.sq {a : Addr} {xs : List V} (h : FzL K Z H a xs) : SqL K H a xs := by
  rcases h with ⟨_, r⟩ | h
  · exact .inl r
  · exact .inr h
theorem FzT.sq {a : Addr} {xs : List V} (h : FzT K Z H a xs) : SqT K H a xs := by
  rcases h with ⟨_, r⟩ | h
  · exact .inl r
  · exact .inr h
mutual
theorem Rp.keep {v : V} {d : D} {k : Nat} {o : List Addr} (hz : ∀ a, Z a → Z' a ∧ H' a = H a) (ho : ∀ a ∈ o, H' a = H a) : Rp K Z H v d k o → Rp K Z' H' v d k o
  | .non k => .non k
  | .bl b k => .bl b k
  | .int i k => .int i k
  | .str x k => .str x k
  | .tup k z h r => .tup k (hz _ z).1 ((hz _ z).2.trans h) (RpAll.keep hz (fun _ z => nomatch z) r)
  | .lst0 z h r => .lst0 (hz _ z).1 ((hz _ z).2.trans h) (RpAll.keep hz (fun _ z => nomatch z) r)
  | .scr k h r => .scr k (h.elim (fun h => .inl (h.keep hz)) fun h => .inr (h.keep hz)) (RpAll.keep hz (fun _ z => nomatch z) r)
  | .lstS h r => .lstS ((ho _ List.mem_cons_self).trans h) (RpAll.keep hz (fun a m => ho a (List.mem_cons_of_mem _ m)) r)
  | .dct0 z h l r => .dct0 (hz _ z).1 ((hz _ z).2.trans h) l (RpAll.keep hz (fun _ z => nomatch z) r)
  | .dctS h l r => .dctS ((ho _ List.mem_cons_self).trans h) l (RpAll.keep hz (fun a m => ho a (List.mem_cons_of_mem _ m)) r)
  | .dcT0 z h l r => .dcT0 (hz _ z).1 ((hz _ z).2.trans h) l (RpAll.keep hz (fun _ z => nomatch z) r)
  | .dcTS h l r => .dcTS ((ho _ List.mem_cons_self).trans h) l (RpAll.keep hz (fun a m => ho a (List.mem_cons_of_mem _ m)) r)
  | .ins0 z z2 h h2 l c r => .ins0 (hz _ z).1 (hz _ z2).1 ((hz _ z).2.trans h) ((hz _ z2).2.trans h2) l c (RpAll.keep hz (fun _ z => nomatch z) r)
  | .insS h h2 l c r => .insS ((ho _ List.mem_cons_self).trans h) ((ho _ (List.mem_cons_of_mem _ List.mem_cons_self)).trans h2) l c (RpAll.keep hz (fun a m => ho a (List.mem_cons_of_mem _ (List.mem_cons_of_mem _ m))) r)
  | .exn k z h h1 h2 h3 h4 => .exn k (hz _ z).1 ((hz _ z).2.trans h) h1 h2 h3 h4
  | .exnD k z z2 h h1 h2 h3 h4 h5 r => .exnD k (hz _ z).1 (hz _ z2).1 ((hz _ z).2.trans h) h1 h2 h3 ((hz _ z2).2.trans h4) h5 (RpAll.keep hz (fun _ z => nomatch z) r)
theorem RpAll.keep {vs : List V} {ds : List D} {k : Nat} {o : List Addr} (hz : ∀ a, Z a → Z' a ∧ H' a = H a) (ho : ∀ a ∈ o, H' a = H a) : RpAll K Z H vs ds k o → RpAll K Z' H' vs ds k o
  | .nil k => .nil k
  | .cons h r => .cons (Rp.keep hz (fun a m => ho a (List.mem_append_left _ m)) h) (RpAll.keep hz (fun a m => ho a (List.mem_append_right _ m)) r)
end
mutual
/-- what is owned is frozen -/
theorem Rp.freeze {v : V} {d : D} {k : Nat} {o : List Addr} (hz : ∀ a, Z a → Z' a) (ho : ∀ a ∈ o, Z' a) : Rp K Z H v d k o → Rp K Z' H v d 0 []
  | .non k => .non 0
  | .bl b k => .bl b 0
  | .int i k => .int i 0
  | .str x k => .str x 0
  | .tup k z h r => .tup 0 (hz _ z) h (RpAll.freeze hz (fun _ z => absurd z List.not_mem_nil) r)
  | .lst0 z h r => .lst0 (hz _ z) h (RpAll.freeze hz (fun _ z => absurd z List.not_mem_nil) r)
  | .scr k h r => .scr 0 (h.elim (fun h => .inl (h.keep fun a z => ⟨hz a z, rfl⟩)) fun h => .inr (h.keep fun a z => ⟨hz a z, rfl⟩)) (RpAll.freeze hz (fun _ z => absurd z List.not_mem_nil) r)
  | .lstS h r => .lst0 (ho _ List.mem_cons_self) h (RpAll.freeze hz (fun a m => ho a (List.mem_cons_of_mem _ m)) r)
  | .dct0 z h l r => .dct0 (hz _ z) h l (RpAll.freeze hz (fun _ z => absurd z List.not_mem_nil) r)
  | .dctS h l r => .dct0 (ho _ List.mem_cons_self) h l (RpAll.freeze hz (fun a m => ho a (List.mem_cons_of_mem _ m)) r)
  | .dcT0 z h l r => .dcT0 (hz _ z) h l (RpAll.freeze hz (fun _ z => absurd z List.not_mem_nil) r)
  | .dcTS h l r => .dcT0 (ho _ List.mem_cons_self) h l (RpAll.freeze hz (fun a m => ho a (List.mem_cons_of_mem _ m)) r)
  | .ins0 z z2 h h2 l c r => .ins0 (hz _ z) (hz _ z2) h h2 l c (RpAll.freeze hz (fun _ z => absurd z List.not_mem_nil) r)
  | .insS h h2 l c r => .ins0 (ho _ List.mem_cons_self) (ho _ (List.mem_cons_of_mem _ List.mem_cons_self)) h h2 l c (RpAll.freeze hz (fun a m => ho a (List.mem_cons_of_mem _ (List.mem_cons_of_mem _ m))) r)
  | .exn k z h h1 h2 h3 h4 => .exn 0 (hz _ z) h h1 h2 h3 h4
  | .exnD k z z2 h h1 h2 h3 h4 h5 r => .exnD 0 (hz _ z) (hz _ z2) h h1 h2 h3 h4 h5 (RpAll.freeze hz (fun _ z => absurd z List.not_mem_nil) r)
theorem RpAll.freeze {vs : List V} {ds : List D} {k : Nat} {o : List Addr} (hz : ∀ a, Z a → Z' a) (ho : ∀ a ∈ o, Z' a) : RpAll K Z H vs ds k o → RpAll K Z' H vs ds 0 []
  | .nil k => .nil 0
  | .cons h r => .cons (o := []) (p := []) (Rp.freeze hz (fun a m => ho a (List.mem_append_left _ m)) h) (RpAll.freeze hz (fun a m => ho a (List.mem_append_right _ m)) r)
end
theorem RpAll.length {vs : List V} {ds : List D} {k : Nat} {o : List Addr} : RpAll K Z H vs ds k o → vs.length = ds.length
  | .nil k => rfl
  | .cons h r => by rw [List.length_cons, List.length_cons, RpAll.length r]
theorem RpAll.nil0 {vs : List V} {ds : List D} {o : List Addr} (h : RpAll K Z H vs ds 0 o) : o = [] := by
  have hR : ∀ {v : V} {d : D} {o : List Addr}, Rp K Z H v d 0 o → o = [] := fun h => by cases h <;> rfl
  induction vs generalizing ds o with
  | nil => cases h; rfl
  | cons v vs ih =>
    cases h with
    | cons h1 h2 => rw [hR h1, ih h2]; rfl
theorem Rp.nil0 {v : V} {d : D} {o : List Addr} (h : Rp K Z H v d 0 o) : o = [] := by cases h <;> rfl

/-! ### the state: what is frozen (Z), what is somebody else's (F) -/
structure Ok0 (Z F : Pz) (H : Hp) : Prop where
  z : ∀ a, Z a → ∃ o, H a = some o
  f : ∀ a, F a → (∃ o, H a = some o) ∧ ¬ Z a
structure Ext (F Z : Pz) (H : Hp) (Z' : Pz) (H' : Hp) : Prop where
  z : ∀ a, Z a → Z' a ∧ H' a = H a
  f : ∀ a, F a → H' a = H a
theorem Ext.refl : Ext F Z H Z H := ⟨fun _ z => ⟨z, rfl⟩, fun _ _ => rfl⟩
theorem Ext.trans {Z2 : Pz} {H2 : Hp} (a : Ext F Z H Z' H') (b : Ext F Z' H' Z2 H2) : Ext F Z H Z2 H2 :=
  ⟨fun x z => ⟨(b.z x (a.z x z).1).1, (b.z x (a.z x z).1).2.trans (a.z x z).2⟩, fun x f => (b.f x f).trans (a.f x f)⟩
theorem Ext.mono (a : Ext F Z H Z' H') (h : ∀ x, F' x → F x) : Ext F' Z H Z' H' := ⟨a.z, fun x f => a.f x (h x f)⟩
abbrev uni (F : Pz) (o : List Addr) : Pz := fun a => F a ∨ a ∈ o

abbrev SD := List (Option (D × Nat))
inductive Slots (K : PySem.W.Frag) (Z : Pz) (H : Hp) : St → SD → List Addr → Prop
  | nil : Slots K Z H [] [] []
  | skip {x : Option V} {σ : St} {sd : SD} {o : List Addr} : Slots K Z H σ sd o → Slots K Z H (x :: σ) (none :: sd) o
  | cons {v : V} {d : D} {k : Nat} {σ : St} {sd : SD} {o p : List Addr} : Rp K Z H v d k o → Slots K Z H σ sd p → Slots K Z H (some v :: σ) (some (d, k) :: sd) (o ++ p)
theorem Slots.keep {σ : St} {sd : SD} {o : List Addr} (hz : ∀ a, Z a → Z' a ∧ H' a = H a) (h : Slots K Z H σ sd o) (ho : ∀ a ∈ o, H' a = H a) : Slots K Z' H' σ sd o := by
  induction h with
  | nil => exact .nil
  | skip _ ih => exact .skip (ih ho)
  | cons r _ ih => exact .cons (r.keep hz fun a m => ho a (List.mem_append_left _ m)) (ih fun a m => ho a (List.mem_append_right _ m))
theorem Slots.length {σ : St} {sd : SD} {o : List Addr} (h : Slots K Z H σ sd o) : σ.length = sd.length := by
  induction h with
  | nil => rfl
  | skip _ ih => rw [List.length_cons, List.length_cons, ih]
  | cons _ _ ih => rw [List.length_cons, List.length_cons, ih]
/-- entry i, and the rest without it -/
theorem Slots.take {σ : St} {sd : SD} {o : List Addr} {i : Nat} {d : D} {k : Nat} (h : Slots K Z H σ sd o) (e : sd[i]? = some (some (d, k))) :
    ∃ v p q, σ[i]? = some (some v) ∧ Rp K Z H v d k p ∧ Slots K Z H σ (sd.set i none) q ∧ (p ++ q).Perm o := by
  induction h generalizing i with
  | nil => cases e
  | @skip x σ sd o h ih =>
    cases i with
    | zero => cases e
    | succ i =>
      obtain ⟨v, p, q, e1, r, s, pm⟩ := ih e
      exact ⟨v, p, q, e1, r, .skip s, pm⟩
  | @cons v d' k' σ sd o p r h ih =>
    cases i with
    | zero =>
      cases e
      exact ⟨v, o, p, rfl, r, .skip h, .refl _⟩
    | succ i =>
      obtain ⟨v', p', q', e1, r', s, pm⟩ := ih e
      refine ⟨v', p', o ++ q', e1, r', .cons r s, ?_⟩
      have e2 : (p' ++ (o ++ q')).Perm (o ++ (p' ++ q')) := by
        rw [← List.append_assoc, ← List.append_assoc]
        exact List.Perm.append_right q' List.perm_append_comm
      exact e2.trans (List.Perm.append_left o pm)
/-- entry i is forgotten -/
theorem Slots.drop {σ : St} {sd : SD} {o : List Addr} (i : Nat) (h : Slots K Z H σ sd o) : ∃ q, Slots K Z H σ (sd.set i none) q ∧ (∀ a ∈ q, a ∈ o) ∧ (o.Nodup → q.Nodup) := by
  induction h generalizing i with
  | nil => exact ⟨[], .nil, fun _ z => z, fun z => z⟩
  | @skip x σ sd o h ih =>
    cases i with
    | zero => exact ⟨o, .skip h, fun _ z => z, fun z => z⟩
    | succ i =>
      obtain ⟨q, s, m, n⟩ := ih i
      exact ⟨q, .skip s, m, n⟩
  | @cons v d' k' σ sd o p r h ih =>
    cases i with
    | zero => exact ⟨p, .skip h, fun a m => List.mem_append_right _ m, fun n => (List.nodup_append.mp n).2.1⟩
    | succ i =>
      obtain ⟨q, s, m, n⟩ := ih i
      refine ⟨o ++ q, .cons r s, fun a z => ?_, fun z => ?_⟩
      · rcases List.mem_append.mp z with z | z
        · exact List.mem_append_left _ z
        · exact List.mem_append_right _ (m a z)
      · obtain ⟨n1, n2, n3⟩ := List.nodup_append.mp z
        exact List.nodup_append.mpr ⟨n1, n n2, fun a ha b hb => n3 a ha b (m b hb)⟩
/-- an entry is put where none stood -/
theorem Slots.put {σ : St} {sd : SD} {o p : List Addr} {i : Nat} {v : V} {d : D} {k : Nat} (h : Slots K Z H σ sd o) (r : Rp K Z H v d k p) (hi : sd[i]? = some none) :
    ∃ q, Slots K Z H (σ.set i (some v)) (sd.set i (some (d, k))) q ∧ (p ++ o).Perm q := by
  induction h generalizing i with
  | nil => cases hi
  | @skip x σ sd o h ih =>
    cases i with
    | zero => exact ⟨p ++ o, .cons r h, .refl _⟩
    | succ i =>
      obtain ⟨q, s, pm⟩ := ih hi
      exact ⟨q, .skip s, pm⟩
  | @cons v' d' k' σ sd o p' r' h ih =>
    cases i with
    | zero => cases hi
    | succ i =>
      obtain ⟨q, s, pm⟩ := ih hi
      refine ⟨o ++ q, .cons r' s, ?_⟩
      have e2 : (p ++ (o ++ p')).Perm (o ++ (p ++ p')) := by
        rw [← List.append_assoc, ← List.append_assoc]
        exact List.Perm.append_right p' List.perm_append_comm
      exact e2.trans (List.Perm.append_left o pm)

structure Ok (K : PySem.W.Frag) (Z F : Pz) (H : Hp) (σ : St) (sd : SD) : Prop where
  ex : ∃ o, Slots K Z H σ sd o ∧ o.Nodup ∧ (∀ a ∈ o, ¬ F a) ∧ Ok0 Z (uni F o) H
theorem Ok.base {σ : St} {sd : SD} (h : Ok K Z F H σ sd) : Ok0 Z F H := by
  obtain ⟨o, _, _, _, b⟩ := h.ex
  exact ⟨b.z, fun a f => b.f a (.inl f)⟩
theorem Ok.length {σ : St} {sd : SD} (h : Ok K Z F H σ sd) : σ.length = sd.length := by
  obtain ⟨o, s, _⟩ := h.ex
  exact s.length
/-- entry i is taken out: it is the frame's now -/
theorem Ok.take {σ : St} {sd : SD} {i : Nat} {d : D} {k : Nat} (h : Ok K Z F H σ sd) (e : sd[i]? = some (some (d, k))) :
    ∃ v p, σ[i]? = some (some v) ∧ Rp K Z H v d k p ∧ p.Nodup ∧ (∀ a ∈ p, ¬ F a) ∧ Ok K Z (uni F p) H σ (sd.set i none) := by
  obtain ⟨o, s, nd, nf, b⟩ := h.ex
  obtain ⟨v, p, q, e1, r, s', pm⟩ := s.take e
  have nd' := pm.nodup_iff.mpr nd
  obtain ⟨n1, n2, n3⟩ := List.nodup_append.mp nd'
  have mem : ∀ a, a ∈ o ↔ a ∈ p ∨ a ∈ q := fun a => by rw [← List.mem_append]; exact pm.mem_iff.symm
  refine ⟨v, p, e1, r, n1, fun a m => nf a ((mem a).mpr (.inl m)), ⟨q, s', n2, fun a m z => ?_, b.z, fun a f => b.f a ?_⟩⟩
  · rcases z with z | z
    · exact nf a ((mem a).mpr (.inr m)) z
    · exact n3 a z a m rfl
  · rcases f with (f | f) | f
    · exact .inl f
    · exact .inr ((mem a).mpr (.inl f))
    · exact .inr ((mem a).mpr (.inr f))
/-- what the frame holds is put into slot i -/
theorem Ok.put {σ : St} {sd : SD} {i : Nat} {v : V} {d : D} {k : Nat} {p : List Addr} (h : Ok K Z (uni F p) H σ sd) (r : Rp K Z H v d k p) (nd : p.Nodup) (nf : ∀ a ∈ p, ¬ F a) (hi : i < sd.length) :
    Ok K Z F H (σ.set i (some v)) (sd.set i (some (d, k))) := by
  obtain ⟨o, s, nd1, nf1, b⟩ := h.ex
  obtain ⟨o2, s2, m2, nd2⟩ := s.drop i
  have hi2 : (sd.set i none)[i]? = some none := by rw [List.getElem?_set_self hi]
  obtain ⟨q, s3, pm⟩ := s2.put r hi2
  rw [List.set_set] at s3
  refine ⟨q, s3, pm.nodup_iff.mp (List.nodup_append.mpr ⟨nd, nd2 nd1, fun a ha b hb e => ?_⟩), fun a m => ?_, b.z, fun a f => b.f a ?_⟩
  · subst e
    exact nf1 a (m2 a hb) (.inr ha)
  · rcases List.mem_append.mp (pm.mem_iff.mpr m) with m | m
    · exact nf a m
    · exact fun z => nf1 a (m2 a m) (.inl z)
  · rcases f with f | f
    · exact .inl (.inl f)
    · rcases List.mem_append.mp (pm.mem_iff.mpr f) with m | m
      · exact .inl (.inr m)
      · exact .inr (m2 a m)
/-- the same, the slot's name too is as before (an entry comes back) -/
theorem Ok.back {σ : St} {sd : SD} {i : Nat} {v : V} {d : D} {k : Nat} {p : List Addr} (h : Ok K Z (uni F p) H σ sd) (r : Rp K Z H v d k p) (nd : p.Nodup) (nf : ∀ a ∈ p, ¬ F a) (hi : σ[i]? = some (some v)) :
    Ok K Z F H σ (sd.set i (some (d, k))) := by
  have hl : i < σ.length := (List.getElem?_eq_some_iff.mp hi).1
  have q := h.put r nd nf (by rw [← h.length]; exact hl)
  have e : σ.set i (some v) = σ := by
    obtain ⟨hi1, hi2⟩ := List.getElem?_eq_some_iff.mp hi
    rw [← hi2]
    exact List.set_getElem_self hi1
  rw [e] at q
  exact q
theorem Ok.forget {σ : St} {sd : SD} (i : Nat) (h : Ok K Z F H σ sd) : Ok K Z F H σ (sd.set i none) := by
  obtain ⟨o, s, nd, nf, b⟩ := h.ex
  obtain ⟨q, s2, m2, nd2⟩ := s.drop i
  exact ⟨q, s2, nd2 nd, fun a m => nf a (m2 a m), b.z, fun a f => b.f a (f.elim .inl fun m => .inr (m2 a m))⟩
/-- the world went on, the frame and what is frozen stand -/
theorem Ok.ext {σ : St} {sd : SD} (h : Ok K Z F H σ sd) : ∃ o, (∀ a ∈ o, ¬ F a) ∧ Ok0 Z (uni F o) H ∧ ∀ {Z' H' F'}, Ext (uni F o) Z H Z' H' → (∀ a ∈ o, ¬ F' a) → Ok0 Z' (uni F' o) H' → Ok K Z' F' H' σ sd := by
  obtain ⟨o, s, nd, nf, b⟩ := h.ex
  exact ⟨o, nf, b, fun x nf' b' => ⟨o, s.keep x.z fun a m => x.f a (.inr m), nd, nf', b'⟩⟩
/-- what the frame holds at p is frozen -/
theorem Ok.freeze {σ : St} {sd : SD} {p : List Addr} (h : Ok K Z (uni F p) H σ sd) (nf : ∀ a ∈ p, ¬ F a) : Ok K (uni Z p) F H σ sd := by
  obtain ⟨o, s, nd, nf1, b⟩ := h.ex
  refine ⟨o, s.keep (fun a z => ⟨.inl z, rfl⟩) fun _ _ => rfl, nd, fun a m z => nf1 a m (.inl z), fun a z => ?_, fun a f => ?_⟩
  · rcases z with z | z
    · exact b.z a z
    · exact (b.f a (.inl (.inr z))).1
  · rcases f with f | f
    · refine ⟨(b.f a (.inl (.inl f))).1, fun z => ?_⟩
      rcases z with z | z
      · exact (b.f a (.inl (.inl f))).2 z
      · exact nf a z f
    · refine ⟨(b.f a (.inr f)).1, fun z => ?_⟩
      rcases z with z | z
      · exact (b.f a (.inr f)).2 z
      · exact nf1 a f (.inr z)
theorem Ext.uni {p : List Addr} : Ext F Z H (VS.uni Z p) H := ⟨fun _ z => ⟨.inl z, rfl⟩, fun _ _ => rfl⟩
/-- the frame is made smaller -/
theorem Ok.less {σ : St} {sd : SD} (h : Ok K Z F H σ sd) (hf : ∀ a, F' a → F a) : Ok K Z F' H σ sd := by
  obtain ⟨o, s, nd, nf, b⟩ := h.ex
  exact ⟨o, s, nd, fun a m z => nf a m (hf a z), b.z, fun a f => b.f a (f.elim (fun z => .inl (hf a z)) .inr)⟩
/-- a new cell, the frame's -/
theorem Ok.new {σ : St} {sd : SD} {p : Addr} {o : HO} (h : Ok K Z F H σ sd) (hp : H p = none) : Ok K Z (uni F [p]) (upd H p o) σ sd ∧ Ext F Z H Z (upd H p o) ∧ ¬ F p ∧ ¬ Z p := by
  obtain ⟨ow, s, nd, nf, b⟩ := h.ex
  have hz : ¬ Z p := fun z => by
    obtain ⟨o, e⟩ := b.z p z
    rw [hp] at e; cases e
  have hf : ¬ (VS.uni F ow) p := fun z => by
    obtain ⟨⟨o, e⟩, _⟩ := b.f p z
    rw [hp] at e; cases e
  have kz : ∀ a, Z a → Z a ∧ upd H p o a = H a := fun a z => ⟨z, upd_ne fun e => hz (e ▸ z)⟩
  refine ⟨⟨ow, s.keep kz (fun a m => upd_ne fun e => hf (.inr (e ▸ m))), nd, fun a m z => ?_, fun a z => ?_, fun a f => ?_⟩, ⟨kz, fun a f => upd_ne fun e => hf (.inl (e ▸ f))⟩, fun z => hf (.inl z), hz⟩
  · rcases z with z | z
    · exact nf a m z
    · rw [List.mem_singleton] at z
      exact hf (.inr (z ▸ m))
  · rw [(kz a z).2]; exact b.z a z
  · by_cases e : a = p
    · rw [e]
      exact ⟨⟨o, upd_same⟩, hz⟩
    · rw [upd_ne e]
      refine b.f a ?_
      rcases f with (f | f) | f
      · exact .inl f
      · rw [List.mem_singleton] at f
        exact absurd f e
      · exact .inr f
/-- a cell of the frame's changes -/
theorem Ok.write {σ : St} {sd : SD} {p : Addr} {o : HO} (h : Ok K Z F H σ sd) (hp : F p) : Ok K Z F (upd H p o) σ sd ∧ ∀ a, Z a → Z a ∧ upd H p o a = H a := by
  obtain ⟨ow, s, nd, nf, b⟩ := h.ex
  have hz : ¬ Z p := (b.f p (.inl hp)).2
  have kz : ∀ a, Z a → Z a ∧ upd H p o a = H a := fun a z => ⟨z, upd_ne fun e => hz (e ▸ z)⟩
  refine ⟨⟨ow, s.keep kz (fun a m => upd_ne fun e => nf a m (e ▸ hp)), nd, nf, fun a z => ?_, fun a f => ?_⟩, kz⟩
  · rw [(kz a z).2]; exact b.z a z
  · by_cases e : a = p
    · rw [e]
      exact ⟨⟨o, upd_same⟩, hz⟩
    · rw [upd_ne e]
      exact b.f a f
end
end VS
/-! VS2: expressions: what they give on plain data, and that the model's run gives the same. -/
namespace VS
open PySem PySem.Spec L2

/-! ### the semantics on plain data -/
structure Exn where
  cls : Str
  fld : Option (Str × D)
inductive R (α : Type) where
  | ok (a : α) (sd : SD)
  | exc (x : Exn) (sd : SD)
  | stuck
abbrev Ev := SD → R (D × Nat)
abbrev Ea := SD → R (List D)
abbrev Et := SD → R Bool
def R.bind {α β : Type} (r : R α) (g : α → SD → R β) : R β := match r with
  | .ok a sd => g a sd
  | .exc x sd => .exc x sd
  | .stuck => .stuck
@[simp] theorem R.bind_ok {α β : Type} (a : α) (sd : SD) (g : α → SD → R β) : (R.ok a sd).bind g = g a sd := eqr rfl
@[simp] theorem R.bind_exc {α β : Type} (x : Exn) (sd : SD) (g : α → SD → R β) : (R.exc x sd : R α).bind g = .exc x sd := eqr rfl
@[simp] theorem R.bind_stuck {α β : Type} (g : α → SD → R β) : (R.stuck : R α).bind g = .stuck := eqr rfl
def lift {α : Type} (o : Option α) (sd : SD) : R α := match o with
  | some a => .ok a sd
  | none => .stuck
@[simp] theorem lift_some {α : Type} (a : α) (sd : SD) : lift (some a) sd = .ok a sd := eqr rfl
@[simp] theorem lift_none {α : Type} (sd : SD) : lift (none : Option α) sd = .stuck := eqr rfl
def cst (d : D) : Ev := fun sd => .ok (d, 0) sd
/-- a name's value, frozen from now on -/
def rdv (i : Nat) : Ev := fun sd => match sd[i]? with
  | some (some (d, _)) => .ok (d, 0) (sd.set i (some (d, 0)))
  | _ => .stuck
/-- a name's value, moved out -/
def mvv (i : Nat) : Ev := fun sd => match sd[i]? with
  | some (some w) => .ok w (sd.set i none)
  | _ => .stuck
def op1 (g : D → Option (D × Nat)) (f : Ev) : Ev := fun sd => (f sd).bind fun x sd1 => lift (g x.1) sd1
def op2 (g : D → D → Option (D × Nat)) (f1 f2 : Ev) : Ev := fun sd => (f1 sd).bind fun x sd1 => (f2 sd1).bind fun y sd2 => lift (g x.1 y.1) sd2
def opN (g : List D → Option (D × Nat)) (fs : Ea) : Ev := fun sd => (fs sd).bind fun xs sd1 => lift (g xs) sd1
def tst (f : Ev) : Et := fun sd => (f sd).bind fun x sd1 => match x.1 with
  | .bl b => .ok b sd1
  | _ => .stuck
def tv (f : Et) : Ev := fun sd => (f sd).bind fun b sd1 => .ok (.bl b, 0) sd1
def tAnd' (f g : Et) : Et := fun sd => (f sd).bind fun b sd1 => if b then g sd1 else .ok false sd1
def tOr' (f g : Et) : Et := fun sd => (f sd).bind fun b sd1 => if b then .ok true sd1 else g sd1
def tNot' (f : Et) : Et := fun sd => (f sd).bind fun b sd1 => .ok (!b) sd1
def chn (g g' : D → D → Option (D × Nat)) (f1 f2 f3 : Ev) : Et := fun sd => (f1 sd).bind fun x sd1 => (f2 sd1).bind fun y sd2 => match g x.1 y.1 with
  | some (.bl true, _) => (f3 sd2).bind fun z sd3 => match g' y.1 z.1 with
    | some (.bl b, _) => .ok b sd3
    | _ => .stuck
  | some (.bl false, _) => .ok false sd2
  | _ => .stuck
def aNil : Ea := fun sd => .ok [] sd
def aCons (f : Ev) (fs : Ea) : Ea := fun sd => (f sd).bind fun x sd1 => (fs sd1).bind fun xs sd2 => .ok (x.1 :: xs) sd2

/-! ### what the run promises -/
/-- a fresh piece of heap: all that was tracked stands; what is newly frozen, newly owned was free -/
structure Gr (Z : Pz) (H : Hp) (Z' : Pz) (H' : Hp) (o : List Addr) : Prop where
  keep : ∀ a u, H a = some u → H' a = some u
  zz : ∀ a, Z a → Z' a
  zn : ∀ a, Z' a → Z a ∨ (H a = none ∧ ∃ u, H' a = some u)
  on : ∀ a ∈ o, H a = none ∧ (∃ u, H' a = some u) ∧ ¬ Z' a
  nd : o.Nodup
theorem Gr.refl {Z : Pz} {H : Hp} : Gr Z H Z H [] := ⟨fun _ _ e => e, fun _ z => z, fun _ z => .inl z, fun _ z => absurd z List.not_mem_nil, .nil⟩
section
variable {K : PySem.W.Frag} {Z Z' F F' : Pz} {H H' : Hp} {σ : St} {sd : SD} {o : List Addr}
theorem Gr.ext (g : Gr Z H Z' H' o) (h : Ok0 Z F H) : Ext F Z H Z' H' :=
  ⟨fun a z => ⟨g.zz a z, by obtain ⟨u, e⟩ := h.z a z; rw [g.keep a u e, e]⟩, fun a f => by obtain ⟨⟨u, e⟩, _⟩ := h.f a f; rw [g.keep a u e, e]⟩
theorem Gr.nf (g : Gr Z H Z' H' o) (h : Ok0 Z F H) : ∀ a ∈ o, ¬ F a := fun a m f => by
  obtain ⟨⟨u, e⟩, _⟩ := h.f a f
  rw [(g.on a m).1] at e; cases e
theorem Gr.ok0 (g : Gr Z H Z' H' o) (h : Ok0 Z F H) : Ok0 Z' (uni F o) H' := by
  refine ⟨fun a z => ?_, fun a f => ?_⟩
  · rcases g.zn a z with z | ⟨_, e⟩
    · obtain ⟨u, e⟩ := h.z a z
      exact ⟨u, g.keep a u e⟩
    · exact e
  · rcases f with f | f
    · obtain ⟨⟨u, e⟩, nz⟩ := h.f a f
      refine ⟨⟨u, g.keep a u e⟩, fun z => ?_⟩
      rcases g.zn a z with z | ⟨z, _⟩
      · exact nz z
      · rw [z] at e; cases e
    · exact ⟨(g.on a f).2.1, (g.on a f).2.2⟩
theorem Gr.ok (g : Gr Z H Z' H' o) (h : Ok K Z F H σ sd) : Ok K Z' (uni F o) H' σ sd := by
  obtain ⟨w, s, nd, nf, b⟩ := h.ex
  have e := g.ext b
  have b' := g.ok0 b
  refine ⟨w, s.keep e.z fun a m => e.f a (.inr m), nd, fun a m z => ?_, b'.z, fun a f => b'.f a ?_⟩
  · rcases z with z | z
    · exact nf a m z
    · exact g.nf b a z (.inr m)
  · rcases f with (f | f) | f
    · exact .inl (.inl f)
    · exact .inr f
    · exact .inl (.inr f)
theorem Gr.cell {p : Addr} {u : HO} (h : ∀ a, Z a → ∃ o, H a = some o) (hp : H p = none) : Gr Z H Z (upd H p u) [p] := by
  refine ⟨fun a v e => ?_, fun _ z => z, fun _ z => .inl z, fun a m => ?_, by simp⟩
  · rw [upd_ne (ne_of_none e hp)]; exact e
  · rw [List.mem_singleton] at m
    subst m
    refine ⟨hp, ⟨u, upd_same⟩, fun z => ?_⟩
    obtain ⟨v, e⟩ := h a z
    rw [hp] at e; cases e
theorem Gr.fz {p : Addr} {u : HO} (hp : H p = none) : Gr Z H (fun a => Z a ∨ a = p) (upd H p u) [] := by
  refine ⟨fun a v e => ?_, fun _ z => .inl z, fun a z => ?_, fun a m => absurd m List.not_mem_nil, .nil⟩
  · rw [upd_ne (ne_of_none e hp)]; exact e
  · rcases z with z | z
    · exact .inl z
    · subst z
      exact .inr ⟨hp, u, upd_same⟩
theorem Gr.rp {v : V} {d : D} {p : List Addr} (g : Gr Z H Z' H' o) (hz : ∀ a, Z a → ∃ u, H a = some u) (r : Rp K Z H v d 0 p) : Rp K Z' H' v d 0 p := by
  cases r.nil0
  exact r.keep (fun a z => ⟨g.zz a z, by obtain ⟨u, e⟩ := hz a z; rw [g.keep a u e, e]⟩) fun a m => absurd m List.not_mem_nil
theorem Gr.rpAll {vs : List V} {ds : List D} {p : List Addr} (g : Gr Z H Z' H' o) (hz : ∀ a, Z a → ∃ u, H a = some u) (r : RpAll K Z H vs ds 0 p) : RpAll K Z' H' vs ds 0 p := by
  cases r.nil0
  exact r.keep (fun a z => ⟨g.zz a z, by obtain ⟨u, e⟩ := hz a z; rw [g.keep a u e, e]⟩) fun a m => absurd m List.not_mem_nil
end

abbrev Mg := Str → Option Value
/-- an exception as it lies behind the raise -/
def ExcAt (K : PySem.W.Frag) (mg : Mg) (Z : Pz) (H : Hp) (x : Exn) (c : Value) (dd : Option Addr) : Prop :=
  (∃ C, c = .ref C ∧ ClsAt K x.cls C) ∧ match x.fld with
    | none => dd = none
    | some (f, d) => ∃ a v, dd = some a ∧ Z a ∧ H a = some (.xd [(f, v)]) ∧ Rp K Z H v d 0 []
section
variable (K : PySem.W.Frag) (mg : Mg) (W : WX)
def excP (Z F : Pz) (σ : St) (H : Hp) (x : Exn) (sd' : SD) : Prop :=
  ∀ c dd Z' H', ExcAt K mg Z' H' x c dd → Ok K Z' F H' σ sd' → Ext F Z H Z' H' → W c dd σ H'
def eP (Z F : Pz) (σ : St) (H : Hp) (r : R (D × Nat)) (Q : VK) : Prop := match r with
  | .ok w sd' => ∀ v Z' H' o, Rp K Z' H' v w.1 w.2 o → o.Nodup → (∀ a ∈ o, ¬ F a) → Ok K Z' (uni F o) H' σ sd' → Ext F Z H Z' H' → Q v H'
  | .exc x sd' => excP K mg W Z F σ H x sd'
  | .stuck => False
def aP (Z F : Pz) (σ : St) (H : Hp) (r : R (List D)) (Q : List V → Hp → Prop) : Prop := match r with
  | .ok ds sd' => ∀ vs Z' H', RpAll K Z' H' vs ds 0 [] → Ok K Z' F H' σ sd' → Ext F Z H Z' H' → Q vs H'
  | .exc x sd' => excP K mg W Z F σ H x sd'
  | .stuck => False
def tP (Z F : Pz) (σ : St) (H : Hp) (r : R Bool) (Q : Bool → Hp → Prop) : Prop := match r with
  | .ok b sd' => ∀ Z' H', Ok K Z' F H' σ sd' → Ext F Z H Z' H' → Q b H'
  | .exc x sd' => excP K mg W Z F σ H x sd'
  | .stuck => False
def tE (f : Ev) : TE := fun σ H Q => ∃ Z F sd, Ok K Z F H σ sd ∧ eP K mg W Z F σ H (f sd) Q
def tA (f : Ea) : TA := fun σ H Q => ∃ Z F sd, Ok K Z F H σ sd ∧ aP K mg W Z F σ H (f sd) Q
def tT (f : Et) : TT := fun σ H Q => ∃ Z F sd, Ok K Z F H σ sd ∧ tP K mg W Z F σ H (f sd) Q
end
def SE (X : Cx) (W : WX) (e : Expr) (f : Ev) : Prop := PE X e (tE X.K X.mg W f)
def SA (X : Cx) (W : WX) (es : List Expr) (f : Ea) : Prop := PA X es (tA X.K X.mg W f)
def ST (X : Cx) (W : WX) (e : Expr) (f : Et) : Prop := PT X e (tT X.K X.mg W f)
def SW (X : Cx) (W : WX) (e : Expr) (f : Et) : Prop := PW X e (tT X.K X.mg W f)
theorem PE.imp {X : Cx} {e : Expr} {t t' : TE} (h : PE X e t) (w : ∀ σ H Q, t' σ H Q → t σ H Q) : PE X e t' := ⟨fun pins s σ H Q I q => h.run pins s σ H Q I (w σ H Q q)⟩
theorem PA.imp {X : Cx} {e : List Expr} {t t' : TA} (h : PA X e t) (w : ∀ σ H Q, t' σ H Q → t σ H Q) : PA X e t' := ⟨fun pos pins s σ H Q I q => h.run pos pins s σ H Q I (w σ H Q q)⟩
theorem PT.imp {X : Cx} {e : Expr} {t t' : TT} (h : PT X e t) (w : ∀ σ H Q, t' σ H Q → t σ H Q) : PT X e t' := ⟨fun pins s σ H Q I q => h.run pins s σ H Q I (w σ H Q q)⟩
theorem PW.imp {X : Cx} {e : Expr} {t t' : TT} (h : PW X e t) (w : ∀ σ H Q, t' σ H Q → t σ H Q) : PW X e t' := ⟨fun wh pins s σ H Q I q => h.run wh pins s σ H Q I (w σ H Q q)⟩

section
variable {K : PySem.W.Frag} {mg : Mg} {W : WX} {Z Z1 F : Pz} {H H1 : Hp} {σ : St}
theorem excP.go {x : Exn} {sd : SD} {o : List Addr} (h : excP K mg W Z F σ H x sd) (e : Ext F Z H Z1 H1) : excP K mg W Z1 (uni F o) σ H1 x sd :=
  fun c dd Z2 H2 a ok e2 => h c dd Z2 H2 a (ok.less fun _ z => .inl z) (e.trans (e2.mono fun _ z => .inl z))
theorem excP.go0 {x : Exn} {sd : SD} (h : excP K mg W Z F σ H x sd) (e : Ext F Z H Z1 H1) : excP K mg W Z1 F σ H1 x sd :=
  fun c dd Z2 H2 a ok e2 => h c dd Z2 H2 a ok (e.trans e2)
/-- THE SEQUENCE: an expression, then what its (frozen) value is wanted for -/
theorem eP.seq {f : Ev} {Q : VK} {sd : SD} {G : D → SD → Prop} (ok : Ok K Z F H σ sd)
    (hok : ∀ w sd1, f sd = .ok w sd1 → ∀ v Z1 H1, Rp K Z1 H1 v w.1 0 [] → Ok K Z1 F H1 σ sd1 → Ext F Z H Z1 H1 → Q v H1)
    (hex : ∀ x sd1, f sd = .exc x sd1 → excP K mg W Z F σ H x sd1) (hst : f sd = .stuck → False) : tE K mg W f σ H Q := by
  refine ⟨Z, F, sd, ok, ?_⟩
  cases e : f sd with
  | ok w sd1 =>
    intro v Z1 H1 o r nd nf ok1 x1
    exact hok w sd1 e v (uni Z1 o) H1 (r.freeze (fun _ z => .inl z) fun _ m => .inr m) (ok1.freeze nf) (x1.trans .uni)
  | exc x sd1 => exact hex x sd1 e
  | stuck => exact hst e
/-- .. its value with what it owns -/
theorem eP.seqO {f : Ev} {Q : VK} {sd : SD} (ok : Ok K Z F H σ sd)
    (hok : ∀ w sd1, f sd = .ok w sd1 → ∀ v Z1 H1 o, Rp K Z1 H1 v w.1 w.2 o → o.Nodup → (∀ a ∈ o, ¬ F a) → Ok K Z1 (uni F o) H1 σ sd1 → Ext F Z H Z1 H1 → Q v H1)
    (hex : ∀ x sd1, f sd = .exc x sd1 → excP K mg W Z F σ H x sd1) (hst : f sd = .stuck → False) : tE K mg W f σ H Q := by
  refine ⟨Z, F, sd, ok, ?_⟩
  cases e : f sd with
  | ok w sd1 => exact hok w sd1 e
  | exc x sd1 => exact hex x sd1 e
  | stuck => exact hst e
theorem aP.seq {f : Ea} {Q : List V → Hp → Prop} {sd : SD} (ok : Ok K Z F H σ sd)
    (hok : ∀ ds sd1, f sd = .ok ds sd1 → ∀ vs Z1 H1, RpAll K Z1 H1 vs ds 0 [] → Ok K Z1 F H1 σ sd1 → Ext F Z H Z1 H1 → Q vs H1)
    (hex : ∀ x sd1, f sd = .exc x sd1 → excP K mg W Z F σ H x sd1) (hst : f sd = .stuck → False) : tA K mg W f σ H Q := by
  refine ⟨Z, F, sd, ok, ?_⟩
  cases e : f sd with
  | ok w sd1 => exact hok w sd1 e
  | exc x sd1 => exact hex x sd1 e
  | stuck => exact hst e
theorem tP.seq {f : Et} {Q : Bool → Hp → Prop} {sd : SD} (ok : Ok K Z F H σ sd)
    (hok : ∀ b sd1, f sd = .ok b sd1 → ∀ Z1 H1, Ok K Z1 F H1 σ sd1 → Ext F Z H Z1 H1 → Q b H1)
    (hex : ∀ x sd1, f sd = .exc x sd1 → excP K mg W Z F σ H x sd1) (hst : f sd = .stuck → False) : tT K mg W f σ H Q := by
  refine ⟨Z, F, sd, ok, ?_⟩
  cases e : f sd with
  | ok w sd1 => exact hok w sd1 e
  | exc x sd1 => exact hex x sd1 e
  | stuck => exact hst e
/-- the end: a value that grew -/
theorem eP.fin {w : D × Nat} {sd : SD} {Q : VK} {Z0 : Pz} {H0 : Hp} {v : V} {Z' : Pz} {H' : Hp} {o : List Addr} (h : eP K mg W Z0 F σ H0 (.ok w sd) Q) (e : Ext F Z0 H0 Z H) (ok : Ok K Z F H σ sd) (g : Gr Z H Z' H' o) (r : Rp K Z' H' v w.1 w.2 o) : Q v H' :=
  h v Z' H' o r g.nd (g.nf ok.base) (g.ok ok) (e.trans (g.ext ok.base))
end

/-! ### names and constants -/
section
variable {X : Cx} {W : WX} {pos : Pos}
theorem se_of {e : Expr} {t : TE} {f : Ev} (h : PE X e t) (w : ∀ σ H Q, tE X.K X.mg W f σ H Q → t σ H Q) : SE X W e f := PE.imp h w
theorem se_cst {e : Expr} {v : V} {d : D} (h : PE X e (tC v)) (r : ∀ Z H, Rp X.K Z H v d 0 []) : SE X W e (cst d) := by
  refine PE.imp h fun σ H Q ⟨Z, F, sd, ok, q⟩ => ?_
  exact q v Z H [] (r Z H) .nil (fun _ m => absurd m List.not_mem_nil) (ok.less fun a z => z.elim id fun m => absurd m List.not_mem_nil) .refl
theorem se_int {i j} : SE X W (.Constant (.int i) j pos) (cst (.int i)) := se_cst pe_int fun _ _ => .int _ _
theorem se_bl {b j} : SE X W (.Constant (.bool b) j pos) (cst (.bl b)) := se_cst pe_bl fun _ _ => .bl _ _
theorem se_non {j} : SE X W (.Constant .none j pos) (cst .non) := se_cst pe_non fun _ _ => .non _
theorem se_str {x j} : SE X W (.Constant (.str x) j pos) (cst (.str x)) := se_cst pe_str fun _ _ => .str _ _
theorem Ok.unnil {K : PySem.W.Frag} {Z F : Pz} {H : Hp} {σ : St} {sd : SD} (ok : Ok K Z F H σ sd) : Ok K Z (uni F []) H σ sd := ok.less fun a z => z.elim id fun m => absurd m List.not_mem_nil
theorem se_rdv (i : Nat) {x : Str} (hN : X.N[i]? = some x := by rfl) (hv : Vis X.env.scope x := by first | exact Or.inl rfl | exact Or.inr (Or.inl rfl) | exact Or.inr (Or.inr rfl)) (hd : (x == ("__debug__" : Str)) = false := by decide)
    (hcd : (x == ("__classdict__" : Str)) = false := by decide) : SE X W (.Name x pos) (rdv i) := by
  refine PE.imp (pe_var hN hv hd hcd) fun σ H Q ⟨Z, F, sd, ok, q⟩ => ?_
  unfold rdv at q
  split at q
  · rename_i d k e
    obtain ⟨v, p, e1, r, nd, nf, ok1⟩ := ok.take e
    refine ⟨v, e1, ?_⟩
    have ok2 := ok1.freeze nf
    have r2 : Rp X.K (uni Z p) H v d 0 [] := r.freeze (fun _ z => .inl z) fun _ m => .inr m
    have ok3 := Ok.back (p := []) ok2.unnil r2 .nil (fun _ m => absurd m List.not_mem_nil) e1
    rw [List.set_set] at ok3
    exact q v (uni Z p) H [] r2 .nil (fun _ m => absurd m List.not_mem_nil) ok3.unnil .uni
  · exact q.elim
theorem se_mvv (i : Nat) {x : Str} (hN : X.N[i]? = some x := by rfl) (hv : Vis X.env.scope x := by first | exact Or.inl rfl | exact Or.inr (Or.inl rfl) | exact Or.inr (Or.inr rfl)) (hd : (x == ("__debug__" : Str)) = false := by decide)
    (hcd : (x == ("__classdict__" : Str)) = false := by decide) : SE X W (.Name x pos) (mvv i) := by
  refine PE.imp (pe_var hN hv hd hcd) fun σ H Q ⟨Z, F, sd, ok, q⟩ => ?_
  unfold mvv at q
  split at q
  · rename_i w e
    obtain ⟨d, k⟩ := w
    obtain ⟨v, p, e1, r, nd, nf, ok1⟩ := ok.take e
    exact ⟨v, e1, q v Z H p r nd nf ok1 .refl⟩
  · exact q.elim

/-! ### operators by values -/
def Vr1 (K : PySem.W.Frag) (r : V → Hp → VK → Prop) (g : D → Option (D × Nat)) : Prop := ∀ (Z : Pz) (H : Hp) (x : V) (d : D) (w : D × Nat) (Q : VK), (∀ a, Z a → ∃ o, H a = some o) → Rp K Z H x d 0 [] → g d = some w →
  (∀ v Z' H' o, Gr Z H Z' H' o → Rp K Z' H' v w.1 w.2 o → Q v H') → r x H Q
def Vr2 (K : PySem.W.Frag) (r : R2) (g : D → D → Option (D × Nat)) : Prop := ∀ (Z : Pz) (H : Hp) (x y : V) (d e : D) (w : D × Nat) (Q : VK), (∀ a, Z a → ∃ o, H a = some o) → Rp K Z H x d 0 [] → Rp K Z H y e 0 [] → g d e = some w →
  (∀ v Z' H' o, Gr Z H Z' H' o → Rp K Z' H' v w.1 w.2 o → Q v H') → r x y H Q
def VrN (K : PySem.W.Frag) (r : List V → Hp → VK → Prop) (g : List D → Option (D × Nat)) : Prop := ∀ (Z : Pz) (H : Hp) (xs : List V) (ds : List D) (w : D × Nat) (Q : VK), (∀ a, Z a → ∃ o, H a = some o) → RpAll K Z H xs ds 0 [] → g ds = some w →
  (∀ v Z' H' o, Gr Z H Z' H' o → Rp K Z' H' v w.1 w.2 o → Q v H') → r xs H Q
variable {a b c : Expr} {es : List Expr} {fa fb fc : Ev} {fs : Ea}
theorem tE_op2 {K : PySem.W.Frag} {mg : Mg} {r : R2} {g : D → D → Option (D × Nat)} (hg : Vr2 K r g) {σ : St} {H : Hp} {Q : VK} (h : tE K mg W (op2 g fa fb) σ H Q) : tOp r (tE K mg W fa) (tE K mg W fb) σ H Q := by
  obtain ⟨Z, F, sd, ok, q⟩ := h
  refine eP.seq (G := fun _ _ => True) ok (fun w1 sd1 e1 v1 Z1 H1 r1 ok1 x1 => ?_) (fun x sd1 e1 => ?_) (fun e1 => ?_)
  · refine eP.seq (G := fun _ _ => True) ok1 (fun w2 sd2 e2 v2 Z2 H2 r2 ok2 x2 => ?_) (fun x sd2 e2 => ?_) (fun e2 => ?_)
    · have r1' : Rp K Z2 H2 v1 w1.1 0 [] := r1.keep x2.z fun _ m => absurd m List.not_mem_nil
      unfold op2 at q
      rw [e1, R.bind_ok, e2, R.bind_ok] at q
      cases eg : g w1.1 w2.1 with
      | none => rw [eg] at q; exact q.elim
      | some w =>
        rw [eg, lift_some] at q
        exact hg Z2 H2 v1 v2 _ _ w Q ok2.base.z r1' r2 eg fun v Z' H' o gr rv => eP.fin q (x1.trans x2) ok2 gr rv
    · unfold op2 at q
      rw [e1, R.bind_ok, e2, R.bind_exc] at q
      exact excP.go0 q x1
    · unfold op2 at q
      rw [e1, R.bind_ok, e2, R.bind_stuck] at q
      exact q
  · unfold op2 at q
    rw [e1, R.bind_exc] at q
    exact q
  · unfold op2 at q
    rw [e1, R.bind_stuck] at q
    exact q
theorem se_op {op : Operator} {r : R2} {g : D → D → Option (D × Nat)} (ho : OpR X (binaryOp op) r) (hg : Vr2 X.K r g) (ha : SE X W a fa) (hb : SE X W b fb) : SE X W (.BinOp a op b pos) (op2 g fa fb) :=
  PE.imp (pe_op ho ha hb) fun σ H Q h => tE_op2 hg h
theorem se_cmp {op : CmpOp} {r : R2} {g : D → D → Option (D × Nat)} (ho : OpR X (compareOp op) r) (hg : Vr2 X.K r g) (ha : SE X W a fa) (hb : SE X W b fb) (hm : behindInMarks op b = false := by first | exact nomark _ | rfl) : SE X W (.Compare a [op] [b] pos) (op2 g fa fb) :=
  PE.imp (pe_cmpR ho ha hb hm) fun σ H Q h => tE_op2 hg h
theorem tT_tst {K : PySem.W.Frag} {mg : Mg} {f : Ev} {t : TE} (ht : ∀ σ H Q, tE K mg W f σ H Q → t σ H Q) {σ : St} {H : Hp} {Q : Bool → Hp → Prop} (h : tT K mg W (tst f) σ H Q) : tTest t σ H Q := by
  obtain ⟨Z, F, sd, ok, q⟩ := h
  refine ht _ _ _ (eP.seq (G := fun _ _ => True) ok (fun w1 sd1 e1 v1 Z1 H1 r1 ok1 x1 => ?_) (fun x sd1 e1 => ?_) (fun e1 => ?_))
  · unfold tst at q
    rw [e1, R.bind_ok] at q
    split at q
    · rename_i b eb
      rw [eb] at r1
      cases r1
      exact ⟨b, rfl, q Z1 H1 ok1 x1⟩
    · exact q.elim
  · unfold tst at q
    rw [e1, R.bind_exc] at q
    exact q
  · unfold tst at q
    rw [e1, R.bind_stuck] at q
    exact q
theorem st_cmp {op : CmpOp} {r : R2} {g : D → D → Option (D × Nat)} (ho : OpR X (compareOp op) r) (hg : Vr2 X.K r g) (ha : SE X W a fa) (hb : SE X W b fb) (hm : behindInMarks op b = false := by first | exact nomark _ | rfl) : ST X W (.Compare a [op] [b] pos) (tst (op2 g fa fb)) :=
  PT.imp (pt_cmpR ho ha hb hm) fun σ H Q h => tT_tst (fun σ H Q h => tE_op2 hg h) h
theorem st_val (ha : SE X W a fa) (he : ∀ whole, isTrue a X.env whole = (do let v ← whole; standAt a.pos; holding [v] (truthy v)) := by intro _; rfl) : ST X W a (tst fa) :=
  PT.imp (pt_val ha he) fun σ H Q h => tT_tst (fun _ _ _ h => h) h
theorem se_un {op : UnaryOp} {r : V → Hp → VK → Prop} {g : D → Option (D × Nat)} (ho : UnR X (unaryOp op) r) (hg : Vr1 X.K r g) (ha : SE X W a fa) : SE X W (.UnaryOp op a pos) (op1 g fa) := by
  refine PE.imp (pe_un ho ha) fun σ H Q ⟨Z, F, sd, ok, q⟩ => ?_
  refine eP.seq (G := fun _ _ => True) ok (fun w1 sd1 e1 v1 Z1 H1 r1 ok1 x1 => ?_) (fun x sd1 e1 => ?_) (fun e1 => ?_)
  · unfold op1 at q
    rw [e1, R.bind_ok] at q
    cases eg : g w1.1 with
    | none => rw [eg] at q; exact q.elim
    | some w =>
      rw [eg, lift_some] at q
      exact hg Z1 H1 v1 _ w Q ok1.base.z r1 eg fun v Z' H' o gr rv => eP.fin q x1 ok1 gr rv
  · unfold op1 at q
    rw [e1, R.bind_exc] at q
    exact q
  · unfold op1 at q
    rw [e1, R.bind_stuck] at q
    exact q

/-! ### and, or, not -/
theorem sw_and1 {f : Et} (h : ST X W a f) : SW X W (.BoolOp .And [a] pos) f := pw_and1 h
theorem sw_or1 {f : Et} (h : ST X W a f) : SW X W (.BoolOp .Or [a] pos) f := pw_or1 h
theorem tT_and {K : PySem.W.Frag} {mg : Mg} {f g : Et} {σ : St} {H : Hp} {Q : Bool → Hp → Prop} (h : tT K mg W (tAnd' f g) σ H Q) : tAnd (tT K mg W f) (tT K mg W g) σ H Q := by
  obtain ⟨Z, F, sd, ok, q⟩ := h
  refine tP.seq ok (fun b sd1 e1 Z1 H1 ok1 x1 => ?_) (fun x sd1 e1 => ?_) (fun e1 => ?_)
  · unfold tAnd' at q
    rw [e1, R.bind_ok] at q
    cases b with
    | true =>
      refine tP.seq ok1 (fun b sd2 e2 Z2 H2 ok2 x2 => ?_) (fun x sd2 e2 => ?_) (fun e2 => ?_)
      · simp only [if_true] at q; rw [e2] at q; exact q Z2 H2 ok2 (x1.trans x2)
      · simp only [if_true] at q; rw [e2] at q; exact excP.go0 q x1
      · simp only [if_true] at q; rw [e2] at q; exact q
    | false => exact q Z1 H1 ok1 x1
  · unfold tAnd' at q; rw [e1] at q; exact q
  · unfold tAnd' at q; rw [e1] at q; exact q
theorem tT_or {K : PySem.W.Frag} {mg : Mg} {f g : Et} {σ : St} {H : Hp} {Q : Bool → Hp → Prop} (h : tT K mg W (tOr' f g) σ H Q) : tOr (tT K mg W f) (tT K mg W g) σ H Q := by
  obtain ⟨Z, F, sd, ok, q⟩ := h
  refine tP.seq ok (fun b sd1 e1 Z1 H1 ok1 x1 => ?_) (fun x sd1 e1 => ?_) (fun e1 => ?_)
  · unfold tOr' at q
    rw [e1, R.bind_ok] at q
    cases b with
    | false =>
      refine tP.seq ok1 (fun b sd2 e2 Z2 H2 ok2 x2 => ?_) (fun x sd2 e2 => ?_) (fun e2 => ?_)
      · simp only [Bool.false_eq_true, if_false] at q; rw [e2] at q; exact q Z2 H2 ok2 (x1.trans x2)
      · simp only [Bool.false_eq_true, if_false] at q; rw [e2] at q; exact excP.go0 q x1
      · simp only [Bool.false_eq_true, if_false] at q; rw [e2] at q; exact q
    | true => exact q Z1 H1 ok1 x1
  · unfold tOr' at q; rw [e1] at q; exact q
  · unfold tOr' at q; rw [e1] at q; exact q
theorem sw_and {rest : List Expr} {f g : Et} (ha : ST X W a f) (hb : SW X W (.BoolOp .And (b :: rest) pos) g) : SW X W (.BoolOp .And (a :: b :: rest) pos) (tAnd' f g) := PW.imp (pw_and ha hb) fun _ _ _ h => tT_and h
theorem sw_or {rest : List Expr} {f g : Et} (ha : ST X W a f) (hb : SW X W (.BoolOp .Or (b :: rest) pos) g) : SW X W (.BoolOp .Or (a :: b :: rest) pos) (tOr' f g) := PW.imp (pw_or ha hb) fun _ _ _ h => tT_or h
theorem st_w {f : Et} (h : SW X W a f) : ST X W a f := h.pt
theorem st_not {f : Et} (h : ST X W a f) : ST X W (.UnaryOp .Not a pos) (tNot' f) := by
  refine PT.imp (pt_not h) fun σ H Q ⟨Z, F, sd, ok, q⟩ => ?_
  refine tP.seq ok (fun b sd1 e1 Z1 H1 ok1 x1 => ?_) (fun x sd1 e1 => ?_) (fun e1 => ?_)
  · unfold tNot' at q; rw [e1] at q; exact q Z1 H1 ok1 x1
  · unfold tNot' at q; rw [e1] at q; exact q
  · unfold tNot' at q; rw [e1] at q; exact q
/-- .. as values -/
def vAnd (f g : Ev) : Ev := fun sd => (f sd).bind fun x sd1 => match x.1 with
  | .bl true => g sd1
  | .bl false => .ok (.bl false, 0) sd1
  | _ => .stuck
def vOr (f g : Ev) : Ev := fun sd => (f sd).bind fun x sd1 => match x.1 with
  | .bl true => .ok (.bl true, 0) sd1
  | .bl false => g sd1
  | _ => .stuck
def vNot (f : Ev) : Ev := fun sd => (f sd).bind fun x sd1 => match x.1 with
  | .bl b => .ok (.bl (!b), 0) sd1
  | _ => .stuck
theorem se_one {op} (h : SE X W a fa) : SE X W (.BoolOp op [a] pos) fa := pe_one h
theorem eP.pure {K : PySem.W.Frag} {mg : Mg} {Z0 Z F : Pz} {H0 H : Hp} {σ : St} {d : D} {v : V} {sd : SD} {Q : VK} (q : eP K mg W Z0 F σ H0 (.ok (d, 0) sd) Q) (x : Ext F Z0 H0 Z H) (ok : Ok K Z F H σ sd) (r : Rp K Z H v d 0 []) : Q v H :=
  q v Z H [] r .nil (fun _ m => absurd m List.not_mem_nil) ok.unnil x
theorem se_and {rest : List Expr} (ha : SE X W a fa) (hb : SE X W (.BoolOp .And (b :: rest) pos) fb) : SE X W (.BoolOp .And (a :: b :: rest) pos) (vAnd fa fb) := by
  refine PE.imp (pe_and ha hb) fun σ H Q ⟨Z, F, sd, ok, q⟩ => ?_
  refine eP.seq (G := fun _ _ => True) ok (fun w1 sd1 e1 v1 Z1 H1 r1 ok1 x1 => ?_) (fun x sd1 e1 => ?_) (fun e1 => ?_)
  · unfold vAnd at q
    rw [e1, R.bind_ok] at q
    split at q
    · rename_i eb
      rw [eb] at r1
      cases r1
      refine ⟨true, rfl, ?_⟩
      rw [if_pos rfl]
      refine eP.seqO ok1 (fun w2 sd2 e2 v2 Z2 H2 o2 r2 nd2 nf2 ok2 x2 => ?_) (fun x sd2 e2 => ?_) (fun e2 => ?_)
      · rw [e2] at q; exact q v2 Z2 H2 o2 r2 nd2 nf2 ok2 (x1.trans x2)
      · rw [e2] at q; exact excP.go0 q x1
      · rw [e2] at q; exact q
    · rename_i eb
      rw [eb] at r1
      cases r1
      refine ⟨false, rfl, ?_⟩
      rw [if_neg Bool.false_ne_true]
      exact q.pure x1 ok1 (.bl _ _)
    · exact q.elim
  · unfold vAnd at q; rw [e1] at q; exact q
  · unfold vAnd at q; rw [e1] at q; exact q
theorem se_or {rest : List Expr} (ha : SE X W a fa) (hb : SE X W (.BoolOp .Or (b :: rest) pos) fb) : SE X W (.BoolOp .Or (a :: b :: rest) pos) (vOr fa fb) := by
  refine PE.imp (pe_or ha hb) fun σ H Q ⟨Z, F, sd, ok, q⟩ => ?_
  refine eP.seq (G := fun _ _ => True) ok (fun w1 sd1 e1 v1 Z1 H1 r1 ok1 x1 => ?_) (fun x sd1 e1 => ?_) (fun e1 => ?_)
  · unfold vOr at q
    rw [e1, R.bind_ok] at q
    split at q
    · rename_i eb
      rw [eb] at r1
      cases r1
      refine ⟨true, rfl, ?_⟩
      rw [if_pos rfl]
      exact q.pure x1 ok1 (.bl _ _)
    · rename_i eb
      rw [eb] at r1
      cases r1
      refine ⟨false, rfl, ?_⟩
      rw [if_neg Bool.false_ne_true]
      refine eP.seqO ok1 (fun w2 sd2 e2 v2 Z2 H2 o2 r2 nd2 nf2 ok2 x2 => ?_) (fun x sd2 e2 => ?_) (fun e2 => ?_)
      · rw [e2] at q; exact q v2 Z2 H2 o2 r2 nd2 nf2 ok2 (x1.trans x2)
      · rw [e2] at q; exact excP.go0 q x1
      · rw [e2] at q; exact q
    · exact q.elim
  · unfold vOr at q; rw [e1] at q; exact q
  · unfold vOr at q; rw [e1] at q; exact q
theorem se_not (ha : SE X W a fa) : SE X W (.UnaryOp .Not a pos) (vNot fa) := by
  refine PE.imp (pe_not ha) fun σ H Q ⟨Z, F, sd, ok, q⟩ => ?_
  refine eP.seq (G := fun _ _ => True) ok (fun w1 sd1 e1 v1 Z1 H1 r1 ok1 x1 => ?_) (fun x sd1 e1 => ?_) (fun e1 => ?_)
  · unfold vNot at q
    rw [e1, R.bind_ok] at q
    split at q
    · rename_i bb eb
      rw [eb] at r1
      cases r1
      exact ⟨bb, rfl, q.pure x1 ok1 (.bl _ _)⟩
    · exact q.elim
  · unfold vNot at q; rw [e1] at q; exact q
  · unfold vNot at q; rw [e1] at q; exact q

/-! ### chains of two comparisons -/
/-- a comparison's rule, as it answers -/
def VrC (K : PySem.W.Frag) (r : R2) (g : D → D → Option (D × Nat)) : Prop := Vr2 K r g
theorem tE_chnV {K : PySem.W.Frag} {mg : Mg} {r r' : R2} {g g' : D → D → Option (D × Nat)} (hg : Vr2 K r g) (hg' : Vr2 K r' g') {σ : St} {H : Hp} {Q : VK} (h : tE K mg W (tv (chn g g' fa fb fc)) σ H Q) :
    tChain r r' (tE K mg W fa) (tE K mg W fb) (tE K mg W fc) σ H Q := by
  obtain ⟨Z, F, sd, ok, q⟩ := h
  refine eP.seq (G := fun _ _ => True) ok (fun w1 sd1 e1 v1 Z1 H1 r1 ok1 x1 => ?_) (fun x sd1 e1 => ?_) (fun e1 => ?_)
  · refine eP.seq (G := fun _ _ => True) ok1 (fun w2 sd2 e2 v2 Z2 H2 r2 ok2 x2 => ?_) (fun x sd2 e2 => ?_) (fun e2 => ?_)
    · have r1' : Rp K Z2 H2 v1 w1.1 0 [] := r1.keep x2.z fun _ m => absurd m List.not_mem_nil
      unfold tv chn at q
      rw [e1, R.bind_ok, e2, R.bind_ok] at q
      have x12 := x1.trans x2
      cases eg : g w1.1 w2.1 with
      | none => rw [eg] at q; exact q.elim
      | some w =>
        rw [eg] at q
        refine hg Z2 H2 v1 v2 _ _ w _ ok2.base.z r1' r2 eg fun v Z3 H3 o gr rv => ?_
        have okg := gr.ok ok2
        have xg := gr.ext ok2.base
        obtain ⟨wd, wk⟩ := w
        cases rv with
        | bl k3 =>
          refine ⟨k3, rfl, ?_⟩
          have ok3 := okg.less (F' := F) fun _ z => .inl z
          cases k3 with
          | true =>
            rw [if_pos rfl]
            refine eP.seq (G := fun _ _ => True) ok3 (fun w4 sd4 e4 v4 Z4 H4 r4 ok4 x4 => ?_) (fun x sd4 e4 => ?_) (fun e4 => ?_)
            · simp only [e4, R.bind_ok] at q
              have r2' : Rp K Z4 H4 v2 w2.1 0 [] := r2.keep (xg.trans x4).z fun _ m => absurd m List.not_mem_nil
              cases eg4 : g' w2.1 w4.1 with
              | none => rw [eg4] at q; exact q.elim
              | some w5 =>
                rw [eg4] at q
                refine hg' Z4 H4 v2 v4 _ _ w5 _ ok4.base.z r2' r4 eg4 fun v Z5 H5 o5 gr5 rv5 => ?_
                obtain ⟨wd5, wk5⟩ := w5
                cases rv5 with
                | bl b5 => exact eP.pure q (((x12.trans xg).trans x4).trans (gr5.ext ok4.base)) ((gr5.ok ok4).less fun _ z => .inl z) (.bl _ _)
                | _ => exact q.elim
            · simp only [e4, R.bind_exc] at q
              exact excP.go0 q (x12.trans xg)
            · simp only [e4, R.bind_stuck] at q
              exact q
          | false =>
            rw [if_neg Bool.false_ne_true]
            exact eP.pure q (x12.trans xg) ok3 (.bl _ _)
        | _ => exact q.elim
    · unfold tv chn at q
      rw [e1, R.bind_ok, e2, R.bind_exc] at q
      exact excP.go0 q x1
    · unfold tv chn at q
      rw [e1, R.bind_ok, e2, R.bind_stuck] at q
      exact q
  · unfold tv chn at q
    rw [e1, R.bind_exc] at q
    exact q
  · unfold tv chn at q
    rw [e1, R.bind_stuck] at q
    exact q
theorem tE_tv {K : PySem.W.Frag} {mg : Mg} {f : Et} {σ : St} {H : Hp} {Q : Bool → Hp → Prop} (h : tT K mg W f σ H Q) : tE K mg W (tv f) σ H (fun x H' => ∃ k, x = .bl k ∧ Q k H') := by
  obtain ⟨Z, F, sd, ok, q⟩ := h
  refine ⟨Z, F, sd, ok, ?_⟩
  unfold tv
  cases e : f sd with
  | ok b sd1 =>
    rw [e] at q
    intro v Z1 H1 o r nd nf ok1 x1
    cases r
    exact ⟨b, rfl, q Z1 H1 (ok1.less fun _ z => .inl z) x1⟩
  | exc x sd1 => rw [e] at q; exact q
  | stuck => rw [e] at q; exact q
theorem st_chn {op op' : CmpOp} {r r' : R2} {g g' : D → D → Option (D × Nat)} (ho : OpR X (compareOp op) r) (ho' : OpR X (compareOp op') r') (hg : Vr2 X.K r g) (hg' : Vr2 X.K r' g') (ha : SE X W a fa) (hb : SE X W b fb) (hc : SE X W c fc)
    (hm : lastMarks [op, op'] [b, c] = false := by with_unfolding_all rfl) : ST X W (.Compare a [op, op'] [b, c] pos) (chn g g' fa fb fc) :=
  PT.imp (pt_chain ho ho' ha hb hc hm) fun σ H Q h => tE_chnV hg hg' (tE_tv h)
theorem se_chn {op op' : CmpOp} {r r' : R2} {g g' : D → D → Option (D × Nat)} (ho : OpR X (compareOp op) r) (ho' : OpR X (compareOp op') r') (hg : Vr2 X.K r g) (hg' : Vr2 X.K r' g') (ha : SE X W a fa) (hb : SE X W b fb) (hc : SE X W c fc)
    (hm : lastMarks [op, op'] [b, c] = false := by with_unfolding_all rfl) : SE X W (.Compare a [op, op'] [b, c] pos) (tv (chn g g' fa fb fc)) :=
  PE.imp (pe_chain ho ho' ha hb hc hm) fun σ H Q h => tE_chnV hg hg' h

/-! ### arguments -/
theorem sa_nil : SA X W [] aNil := PA.imp pa_nil fun σ H Q ⟨Z, F, sd, ok, q⟩ => q [] Z H (.nil 0) ok .refl
theorem sa_cons (ha : SE X W a fa) (hs : SA X W es fs) (hst : starEach (a :: es) X.env = (false, eval a X.env) :: starEach es X.env := by rfl) : SA X W (a :: es) (aCons fa fs) := by
  refine PA.imp (pa_cons ha hs hst) fun σ H Q ⟨Z, F, sd, ok, q⟩ => ?_
  refine eP.seq (G := fun _ _ => True) ok (fun w1 sd1 e1 v1 Z1 H1 r1 ok1 x1 => ?_) (fun x sd1 e1 => ?_) (fun e1 => ?_)
  · refine aP.seq ok1 (fun ds sd2 e2 vs Z2 H2 r2 ok2 x2 => ?_) (fun x sd2 e2 => ?_) (fun e2 => ?_)
    · unfold aCons at q
      rw [e1, R.bind_ok, e2, R.bind_ok] at q
      exact q (v1 :: vs) Z2 H2 (.cons (o := []) (p := []) (r1.keep x2.z fun _ m => absurd m List.not_mem_nil) r2) ok2 (x1.trans x2)
    · unfold aCons at q
      rw [e1, R.bind_ok, e2, R.bind_exc] at q
      exact excP.go0 q x1
    · unfold aCons at q
      rw [e1, R.bind_ok, e2, R.bind_stuck] at q
      exact q
  · unfold aCons at q; rw [e1] at q; exact q
  · unfold aCons at q; rw [e1] at q; exact q
theorem tA_opN {K : PySem.W.Frag} {mg : Mg} {r : List V → Hp → VK → Prop} {g : List D → Option (D × Nat)} (hg : VrN K r g) {σ : St} {H : Hp} {Q : VK} (h : tE K mg W (opN g fs) σ H Q) : tA K mg W fs σ H (fun xs H1 => r xs H1 Q) := by
  obtain ⟨Z, F, sd, ok, q⟩ := h
  refine aP.seq ok (fun ds sd2 e2 vs Z2 H2 r2 ok2 x2 => ?_) (fun x sd2 e2 => ?_) (fun e2 => ?_)
  · unfold opN at q
    rw [e2, R.bind_ok] at q
    cases eg : g ds with
    | none => rw [eg] at q; exact q.elim
    | some w =>
      rw [eg, lift_some] at q
      exact hg Z2 H2 vs _ w Q ok2.base.z r2 eg fun v Z' H' o gr rv => eP.fin q x2 ok2 gr rv
  · unfold opN at q; rw [e2] at q; exact q
  · unfold opN at q; rw [e2] at q; exact q
/-- a built-in, called by name -/
theorem se_callB {x : Str} {id : String} {p : Pos} {r : List V → Hp → VK → Prop} {g : List D → Option (D × Nat)} (hc : CallR X (.builtin id) r) (hr : VrN X.K r g) (hg : Gl X x) (hm : X.mg x = none) (hv : bootBuiltins x = some (.builtin id)) (ha : SA X W (a :: es) fs)
    (hn : x ≠ "__name__" := by decide) (hdb : (x == ("__debug__" : Str)) = false := by decide) (he : starEach (a :: es) X.env = (false, eval a X.env) :: starEach es X.env := by rfl) (hpl : (backTo pos (starEach es X.env)).any (·.1) = false := by rfl) :
    SE X W (.Call (.Name x p) (a :: es) [] pos) (opN g fs) :=
  PE.imp (pe_callB hc hg hm hv ha hn hdb he hpl) fun σ H Q h => tA_opN hr h
theorem se_callTy {x : Str} {T : String} {p : Pos} {r : List V → Hp → VK → Prop} {g : List D → Option (D × Nat)} (hc : CallR X (.type T) r) (hr : VrN X.K r g) (hg : Gl X x) (hm : X.mg x = none) (hv : bootBuiltins x = some (.type T)) (ha : SA X W (a :: es) fs)
    (hn : x ≠ "__name__" := by decide) (hdb : (x == ("__debug__" : Str)) = false := by decide) (he : starEach (a :: es) X.env = (false, eval a X.env) :: starEach es X.env := by rfl) (hpl : (backTo pos (starEach es X.env)).any (·.1) = false := by rfl) :
    SE X W (.Call (.Name x p) (a :: es) [] pos) (opN g fs) :=
  PE.imp (pe_callTy hc hg hm hv ha hn hdb he hpl) fun σ H Q h => tA_opN hr h

/-! ### displays -/
def dTup (fs : Ea) : Ev := opN (fun ds => if ds.length ≤ sizeLine then some (.tup ds, 0) else none) fs
def dLst (fs : Ea) : Ev := opN (fun ds => if ds.length ≤ sizeLine then some (.lst ds, 1) else none) fs
theorem se_tup {x1} (h : SA X W es fs) : SE X W (.Tuple es x1 pos) (dTup fs) := by
  refine PE.imp (pe_tup h) fun σ H Q hq => tA_opN (r := fun xs H1 Q => xs.length ≤ sizeLine ∧ ∀ p, H1 p = none → Q (.ref p) (upd H1 p (.tup xs))) (fun Z H xs ds w Q hz r eg k => ?_) hq
  split at eg
  · rename_i hl
    cases eg
    refine ⟨by rw [r.length]; exact hl, fun p hp => k (.ref p) (fun a => Z a ∨ a = p) _ [] (Gr.fz hp) ?_⟩
    exact .tup 0 (.inr rfl) upd_same (Gr.rpAll (Gr.fz hp) hz r)
  · cases eg
theorem se_lst (h : SA X W es fs) : SE X W (.List es pos) (dLst fs) := by
  refine PE.imp (pe_lst h) fun σ H Q hq => tA_opN (r := fun xs H1 Q => xs.length ≤ sizeLine ∧ ∀ p, H1 p = none → Q (.ref p) (upd H1 p (.lst xs))) (fun Z H xs ds w Q hz r eg k => ?_) hq
  split at eg
  · rename_i hl
    cases eg
    refine ⟨by rw [r.length]; exact hl, fun p hp => k (.ref p) Z _ [p] (Gr.cell hz hp) ?_⟩
    exact .lstS (o := []) upd_same (Gr.rpAll (Gr.cell hz hp) hz r)
  · cases eg
end
end VS
/-! VS3: operators, comparisons, built-ins by values. -/
namespace VS
open PySem PySem.Spec L2

section
variable {K : PySem.W.Frag} {Z Z' : Pz} {H H' : Hp}
theorem VrN.mk1 {r : List V → Hp → VK → Prop} {g : List D → Option (D × Nat)} {g1 : D → Option (D × Nat)} (hg : ∀ ds w, g ds = some w → ∃ d, ds = [d] ∧ g1 d = some w)
    (h : ∀ Z H x d w Q, (∀ a, Z a → ∃ o, H a = some o) → Rp K Z H x d 0 [] → g1 d = some w → (∀ v Z' H' o, Gr Z H Z' H' o → Rp K Z' H' v w.1 w.2 o → Q v H') → r [x] H Q) : VrN K r g := by
  intro Z H xs ds w Q hz ra eg k
  obtain ⟨d, rfl, e1⟩ := hg ds w eg
  generalize e0 : ([] : List Addr) = o0 at ra
  cases ra with
  | cons r1 r2 =>
    cases r2
    cases r1.nil0
    exact h Z H _ d w Q hz r1 e1 k
theorem VrN.mk2 {r : List V → Hp → VK → Prop} {g : List D → Option (D × Nat)} {g2 : D → D → Option (D × Nat)} (hg : ∀ ds w, g ds = some w → ∃ d e, ds = [d, e] ∧ g2 d e = some w)
    (h : Vr2 K (fun x y H Q => r [x, y] H Q) g2) : VrN K r g := by
  intro Z H xs ds w Q hz ra eg k
  obtain ⟨d, e, rfl, e1⟩ := hg ds w eg
  generalize e0 : ([] : List Addr) = o0 at ra
  cases ra with
  | cons r1 r2 =>
    cases r2 with
    | cons r3 r4 =>
      cases r4
      cases r1.nil0
      cases r3.nil0
      exact h Z H _ _ d e w Q hz r1 r3 e1 k
def un1 (g : D → Option (D × Nat)) : List D → Option (D × Nat)
  | [d] => g d
  | _ => none
def un2 (g : D → D → Option (D × Nat)) : List D → Option (D × Nat)
  | [d, e] => g d e
  | _ => none
@[simp] theorem un1_one (g : D → Option (D × Nat)) (d : D) : un1 g [d] = g d := eqr rfl
@[simp] theorem un2_two (g : D → D → Option (D × Nat)) (d e : D) : un2 g [d, e] = g d e := eqr rfl
theorem VrN.un1 {r : List V → Hp → VK → Prop} {g : D → Option (D × Nat)} (h : Vr1 K (fun x H Q => r [x] H Q) g) : VrN K r (un1 g) :=
  VrN.mk1 (g1 := g) (fun ds w e => by
    unfold VS.un1 at e
    split at e
    · exact ⟨_, rfl, e⟩
    · cases e) fun Z H x d w Q hz r1 e1 k => h Z H x d w Q hz r1 e1 k
theorem VrN.un2 {r : List V → Hp → VK → Prop} {g : D → D → Option (D × Nat)} (h : Vr2 K (fun x y H Q => r [x, y] H Q) g) : VrN K r (un2 g) :=
  VrN.mk2 (g2 := g) (fun ds w e => by
    unfold VS.un2 at e
    split at e
    · exact ⟨_, _, rfl, e⟩
    · cases e) h
theorem Gr.q {Q : VK} {v : V} {d : D} {k : Nat} (h : ∀ v' Z' H' o, Gr Z H Z' H' o → Rp K Z' H' v' d k o → Q v' H') (r : Rp K Z H v d k []) : Q v H := h v Z H [] Gr.refl r
/-- a value of no cells of its own -/
theorem Rp.up {v : V} {d : D} {k : Nat} (r : Rp K Z H v d 0 []) : ∀ {w : D × Nat}, w = (d, 0) → Rp K Z H v w.1 w.2 [] := fun e => e ▸ r

/-! ### arithmetic -/
def gAdd : D → D → Option (D × Nat)
  | .int i, .int j => some (.int (i + j), 0)
  | .lst xs, .lst ys => if xs.length + ys.length ≤ sizeLine then some (.lst (xs ++ ys), 1) else none
  | .tup xs, .tup ys => if xs.length + ys.length ≤ sizeLine then some (.tup (xs ++ ys), 0) else none
  | .str x, .str y => if x.length + y.length ≤ sizeLine then some (.str (x ++ y), 0) else none
  | _, _ => none
def gSub : D → D → Option (D × Nat)
  | .int i, .int j => some (.int (i - j), 0)
  | _, _ => none
def mulOk (i j : Int) : Bool := decide (i.natAbs.log2 + j.natAbs.log2 < 100000000)
def gMul : D → D → Option (D × Nat)
  | .int i, .int j => if mulOk i j then some (.int (i * j), 0) else none
  | .lst xs, .int k => if k < 2 ^ 62 ∧ -(2 ^ 62) ≤ k ∧ xs.length * k.toNat ≤ sizeLine then some (.lst (List.replicate k.toNat xs).flatten, 1) else none
  | _, _ => none
def gFdiv : D → D → Option (D × Nat)
  | .int i, .int j => if 0 < j ∧ j.natAbs.log2 < 9000 then some (.int (i / j), 0) else none
  | _, _ => none
def gMod : D → D → Option (D × Nat)
  | .int i, .int j => if 0 < j then some (.int (i % j), 0) else none
  | _, _ => none
def gPow : D → D → Option (D × Nat)
  | .int i, .int j => if 0 ≤ j ∧ j ≤ 1000000 ∧ i.natAbs < 2 ^ 64 then some (.int (i ^ j.toNat), 0) else none
  | _, _ => none
def gNeg : D → Option (D × Nat)
  | .int i => some (.int (-i), 0)
  | _ => none
def cI (p : Int → Int → Bool) : D → D → Option (D × Nat)
  | .int i, .int j => some (.bl (p i j), 0)
  | _, _ => none
abbrev gLt := cI fun i j => decide (i < j)
abbrev gLe := cI fun i j => decide (i ≤ j)
abbrev gGt := cI fun i j => decide (j < i)
abbrev gGe := cI fun i j => decide (j ≤ i)
@[simp] theorem gAdd_int (i j : Int) : gAdd (.int i) (.int j) = some (.int (i + j), 0) := eqr rfl
@[simp] theorem gAdd_lst (xs ys : List D) : gAdd (.lst xs) (.lst ys) = if xs.length + ys.length ≤ sizeLine then some (.lst (xs ++ ys), 1) else none := eqr rfl
@[simp] theorem gAdd_tup (xs ys : List D) : gAdd (.tup xs) (.tup ys) = if xs.length + ys.length ≤ sizeLine then some (.tup (xs ++ ys), 0) else none := eqr rfl
@[simp] theorem gAdd_str (x y : Str) : gAdd (.str x) (.str y) = if x.length + y.length ≤ sizeLine then some (.str (x ++ y), 0) else none := eqr rfl
@[simp] theorem gSub_int (i j : Int) : gSub (.int i) (.int j) = some (.int (i - j), 0) := eqr rfl
@[simp] theorem gMul_int (i j : Int) : gMul (.int i) (.int j) = if mulOk i j then some (.int (i * j), 0) else none := eqr rfl
@[simp] theorem gMul_lst (xs : List D) (k : Int) : gMul (.lst xs) (.int k) = if k < 2 ^ 62 ∧ -(2 ^ 62) ≤ k ∧ xs.length * k.toNat ≤ sizeLine then some (.lst (List.replicate k.toNat xs).flatten, 1) else none := eqr rfl
@[simp] theorem gFdiv_int (i j : Int) : gFdiv (.int i) (.int j) = if 0 < j ∧ j.natAbs.log2 < 9000 then some (.int (i / j), 0) else none := eqr rfl
@[simp] theorem gMod_int (i j : Int) : gMod (.int i) (.int j) = if 0 < j then some (.int (i % j), 0) else none := eqr rfl
@[simp] theorem gPow_int (i j : Int) : gPow (.int i) (.int j) = if 0 ≤ j ∧ j ≤ 1000000 ∧ i.natAbs < 2 ^ 64 then some (.int (i ^ j.toNat), 0) else none := eqr rfl
@[simp] theorem gNeg_int (i : Int) : gNeg (.int i) = some (.int (-i), 0) := eqr rfl
@[simp] theorem cI_int (p : Int → Int → Bool) (i j : Int) : cI p (.int i) (.int j) = some (.bl (p i j), 0) := eqr rfl
theorem ite_some {c : Prop} [Decidable c] {α : Type} {a : α} {w : α} (h : (if c then some a else none) = some w) : c ∧ a = w := by
  split at h
  · rename_i hc; exact ⟨hc, Option.some.inj h⟩
  · cases h
theorem RpAll.app {xs ys : List V} {ds es : List D} (h : RpAll K Z H xs ds 0 []) (h' : RpAll K Z H ys es 0 []) : RpAll K Z H (xs ++ ys) (ds ++ es) 0 [] := by
  induction xs generalizing ds with
  | nil => generalize e0 : ([] : List Addr) = o0 at h; cases h; exact h'
  | cons x xs ih =>
    generalize e0 : ([] : List Addr) = o0 at h
    cases h with
    | cons r1 r2 =>
      cases r1.nil0
      cases r2.nil0
      exact .cons (o := []) (p := []) r1 (ih r2)
theorem RpAll.uncons {v : V} {vs : List V} {d : D} {ds : List D} (h : RpAll K Z H (v :: vs) (d :: ds) 0 []) : Rp K Z H v d 0 [] ∧ RpAll K Z H vs ds 0 [] := by
  generalize e0 : ([] : List Addr) = o0 at h
  cases h with
  | cons r1 r2 =>
    cases r1.nil0
    cases r2.nil0
    exact ⟨r1, r2⟩
theorem RpAll.get {xs : List V} {ds : List D} {i : Nat} {d : D} (h : RpAll K Z H xs ds 0 []) (e : ds[i]? = some d) : ∃ v, xs[i]? = some v ∧ Rp K Z H v d 0 [] := by
  induction xs generalizing ds i with
  | nil =>
    have := h.length
    cases ds with
    | nil => cases e
    | cons _ _ => cases this
  | cons x xs ih =>
    cases ds with
    | nil => have := h.length; cases this
    | cons d' ds =>
      obtain ⟨r1, r2⟩ := h.uncons
      cases i with
      | zero => cases e; exact ⟨x, rfl, r1⟩
      | succ i => exact ih r2 e
theorem RpAll.mk {xs : List V} {ds : List D} (hl : xs.length = ds.length) (h : ∀ (i : Nat) (v : V) (d : D), xs[i]? = some v → ds[i]? = some d → Rp K Z H v d 0 []) : RpAll K Z H xs ds 0 [] := by
  induction xs generalizing ds with
  | nil =>
    cases ds with
    | nil => exact .nil 0
    | cons _ _ => cases hl
  | cons x xs ih =>
    cases ds with
    | nil => cases hl
    | cons d ds => exact .cons (o := []) (p := []) (h 0 x d rfl rfl) (ih (by simpa using hl) fun i v e h1 h2 => h (i + 1) v e h1 h2)
theorem RpAll.get2 {xs : List V} {ds : List D} {i : Nat} {v : V} (h : RpAll K Z H xs ds 0 []) (e : xs[i]? = some v) : ∃ d, ds[i]? = some d ∧ Rp K Z H v d 0 [] := by
  have hl := h.length
  obtain ⟨hi, ev⟩ := List.getElem?_eq_some_iff.mp e
  have hi2 : i < ds.length := by omega
  have eg : ds[i]? = some ds[i] := List.getElem?_eq_getElem hi2
  refine ⟨ds[i], eg, ?_⟩
  obtain ⟨v', e', r⟩ := h.get eg
  rw [e] at e'
  cases e'
  exact r
theorem RpAll.take {xs : List V} {ds : List D} (n : Nat) (h : RpAll K Z H xs ds 0 []) : RpAll K Z H (xs.take n) (ds.take n) 0 [] :=
  .mk (by rw [List.length_take, List.length_take, h.length]) fun i v d h1 h2 => by
    rw [List.getElem?_take] at h1 h2
    split at h1
    · rename_i hi
      rw [if_pos hi] at h2
      obtain ⟨v', e', r⟩ := h.get h2
      rw [h1] at e'; cases e'; exact r
    · cases h1
theorem RpAll.drop {xs : List V} {ds : List D} (n : Nat) (h : RpAll K Z H xs ds 0 []) : RpAll K Z H (xs.drop n) (ds.drop n) 0 [] :=
  .mk (by rw [List.length_drop, List.length_drop, h.length]) fun i v d h1 h2 => by
    rw [List.getElem?_drop] at h1 h2
    obtain ⟨v', e', r⟩ := h.get h2
    rw [h1] at e'; cases e'; exact r
theorem RpAll.rev {xs : List V} {ds : List D} (h : RpAll K Z H xs ds 0 []) : RpAll K Z H xs.reverse ds.reverse 0 [] :=
  .mk (by rw [List.length_reverse, List.length_reverse, h.length]) fun i v d h1 h2 => by
    have hl := h.length
    obtain ⟨hi, _⟩ := List.getElem?_eq_some_iff.mp h1
    rw [List.length_reverse] at hi
    rw [List.getElem?_reverse hi] at h1
    rw [List.getElem?_reverse (by omega), ← hl] at h2
    obtain ⟨v', e', r⟩ := h.get h2
    rw [h1] at e'; cases e'; exact r
theorem RpAll.rep {xs : List V} {ds : List D} (n : Nat) (h : RpAll K Z H xs ds 0 []) : RpAll K Z H (List.replicate n xs).flatten (List.replicate n ds).flatten 0 [] := by
  induction n with
  | zero => exact .nil 0
  | succ n ih =>
    rw [List.replicate_succ, List.replicate_succ, List.flatten_cons, List.flatten_cons]
    exact h.app ih

theorem vr_add : Vr2 K (fun x y H Q => rI0 (fun i j => .int (i + j)) x y H Q ∨ rCat x y H Q ∨ rCatA K x y H Q ∨ (∃ i j, x = .str i ∧ y = .str j ∧ i.length + j.length ≤ sizeLine ∧ Q (.str (i ++ j)) H)) gAdd := by
  intro Z H x y d e w Q hz rx ry eg k
  unfold gAdd at eg
  split at eg
  · cases eg
    cases rx
    cases ry
    exact .inl ⟨_, _, rfl, rfl, Gr.q k (.int _ _)⟩
  · rename_i xs ys
    obtain ⟨hl, rfl⟩ := ite_some eg
    generalize e0 : ([] : List Addr) = o0 at rx ry
    cases rx with
    | lst0 z1 h1 r1 =>
      cases ry with
      | lst0 z2 h2 r2 =>
        refine .inr (.inl ⟨_, _, _, _, rfl, rfl, h1, h2, by rw [r1.length, r2.length]; exact hl, fun p hp => k (.ref p) Z _ [p] (Gr.cell hz hp) ?_⟩)
        exact .lstS (o := []) upd_same (Gr.rpAll (Gr.cell hz hp) hz (r1.app r2))
  · rename_i xs ys
    obtain ⟨hl, rfl⟩ := ite_some eg
    generalize e0 : ([] : List Addr) = o0 at rx ry
    cases rx with
    | tup _ z1 h1 r1 =>
      cases ry with
      | tup _ z2 h2 r2 =>
        refine .inr (.inr (.inl ⟨_, _, _, _, rfl, rfl, .of h1, .of h2, by rw [r1.length, r2.length]; exact hl, fun e1 => ?_, fun _ e1 => ?_, fun _ _ p hp => ?_⟩))
        · have el : xs = [] := by
            have := r1.length
            rw [e1] at this
            exact List.length_eq_zero_iff.mp this.symm
          refine Gr.q k ?_
          rw [el, List.nil_append]
          exact .tup 0 z2 h2 r2
        · have el : ys = [] := by
            have := r2.length
            rw [e1] at this
            exact List.length_eq_zero_iff.mp this.symm
          refine Gr.q k ?_
          rw [el, List.append_nil]
          exact .tup 0 z1 h1 r1
        · exact k (.ref p) (fun a => Z a ∨ a = p) _ [] (Gr.fz hp) (.tup 0 (.inr rfl) upd_same (Gr.rpAll (Gr.fz hp) hz (r1.app r2)))
  · obtain ⟨hl, rfl⟩ := ite_some eg
    cases rx
    cases ry
    exact .inr (.inr (.inr ⟨_, _, rfl, rfl, hl, Gr.q k (.str _ _)⟩))
  · cases eg
theorem oAdd {X : Cx} : OpR X (binaryOp .Add) (fun x y H Q => rI0 (fun i j => .int (i + j)) x y H Q ∨ rCat x y H Q ∨ rCatA X.K x y H Q ∨ (∃ i j, x = .str i ∧ y = .str j ∧ i.length + j.length ≤ sizeLine ∧ Q (.str (i ++ j)) H)) :=
  op_add.or (op_cat.or (op_catA.or op_add_str))
theorem vr_sub : Vr2 K (rI0 fun i j => .int (i - j)) gSub := by
  intro Z H x y d e w Q hz rx ry eg k
  unfold gSub at eg
  split at eg
  · cases eg
    cases rx
    cases ry
    exact ⟨_, _, rfl, rfl, Gr.q k (.int _ _)⟩
  · cases eg
def CMulV (i j : Int) : Prop := i.natAbs.log2 + j.natAbs.log2 < 100000000
theorem CMulV.ok {i j : Int} (h : CMulV i j) : IntMulOk i j := by
  have b : ∀ x : Int, Builtin.Int.intBits x ≤ x.natAbs.log2 + 1 := fun x => by
    unfold Builtin.Int.intBits
    split <;> omega
  have h1 := b i
  have h2 := b j
  have h3 : i.natAbs.log2 + j.natAbs.log2 < 100000000 := h
  have e : bitsLine = 134217728 := by decide
  unfold IntMulOk
  intro z
  rw [Bool.and_eq_true] at z
  have z2 := z.2
  unfold Builtin.Int.intTooBig at z2
  have z3 := of_decide_eq_true z2
  rw [e] at z3
  omega
theorem op_mulV {X : Cx} : OpR X (binaryOp .Mult) (rI CMulV fun i j => .int (i * j)) := opI fun _ _ _ _ _ _ _ hc q => PyProof.Rows.mul_int q hc.ok
theorem vr_mul : Vr2 K (fun x y H Q => rI CMulV (fun i j => .int (i * j)) x y H Q ∨ rRep x y H Q) gMul := by
  intro Z H x y d e w Q hz rx ry eg k
  unfold gMul at eg
  split at eg
  · obtain ⟨hl, rfl⟩ := ite_some eg
    cases rx
    cases ry
    have hm : _ < 100000000 := of_decide_eq_true hl
    exact .inl ⟨_, _, rfl, rfl, hm, Gr.q k (.int _ _)⟩
  · rename_i xs j
    obtain ⟨⟨h1, h2, h3⟩, rfl⟩ := ite_some eg
    generalize e0 : ([] : List Addr) = o0 at rx
    cases ry
    cases rx with
    | lst0 z1 h r1 =>
      refine .inr ⟨_, _, _, rfl, rfl, h, by omega, by omega, by rw [r1.length]; exact h3, fun p hp => k (.ref p) Z _ [p] (Gr.cell hz hp) ?_⟩
      exact .lstS (o := []) upd_same (Gr.rpAll (Gr.cell hz hp) hz (r1.rep _))
  · cases eg
theorem oMul {X : Cx} : OpR X (binaryOp .Mult) (fun x y H Q => rI CMulV (fun i j => .int (i * j)) x y H Q ∨ rRep x y H Q) := op_mulV.or op_rep
theorem vr_fdiv : Vr2 K (rI CDivW fun i j => .int (i / j)) gFdiv := by
  intro Z H x y d e w Q hz rx ry eg k
  unfold gFdiv at eg
  split at eg
  · obtain ⟨hl, rfl⟩ := ite_some eg
    cases rx
    cases ry
    exact ⟨_, _, rfl, rfl, hl, Gr.q k (.int _ _)⟩
  · cases eg
theorem vr_mod : Vr2 K (rI (fun _ j => 0 < j) fun i j => .int (i % j)) gMod := by
  intro Z H x y d e w Q hz rx ry eg k
  unfold gMod at eg
  split at eg
  · obtain ⟨hl, rfl⟩ := ite_some eg
    cases rx
    cases ry
    exact ⟨_, _, rfl, rfl, hl, Gr.q k (.int _ _)⟩
  · cases eg
theorem vr_pow : Vr2 K (rI CPow fun i j => .int (i ^ j.toNat)) gPow := by
  intro Z H x y d e w Q hz rx ry eg k
  unfold gPow at eg
  split at eg
  · obtain ⟨hl, rfl⟩ := ite_some eg
    cases rx
    cases ry
    exact ⟨_, _, rfl, rfl, hl, Gr.q k (.int _ _)⟩
  · cases eg
theorem vr_neg : Vr1 K (rU fun i => .int (-i)) gNeg := by
  intro Z H x d w Q hz rx eg k
  unfold gNeg at eg
  split at eg
  · cases eg
    cases rx
    exact ⟨_, rfl, Gr.q k (.int _ _)⟩
  · cases eg
theorem vr_cI {p : Int → Int → Bool} : Vr2 K (rI0 fun i j => .bl (p i j)) (cI p) := by
  intro Z H x y d e w Q hz rx ry eg k
  unfold cI at eg
  split at eg
  · cases eg
    cases rx
    cases ry
    exact ⟨_, _, rfl, rfl, Gr.q k (.bl _ _)⟩
  · cases eg

/-! ### == -/
mutual
def toPy : D → Option PyData
  | .non => some .none
  | .bl b => some (.bool b)
  | .int i => some (.int i)
  | .str s => some (.str s)
  | .tup xs => (toPys xs).map .tuple
  | .lst xs => (toPys xs).map .list
  | .dct _ _ => none
  | .dcT _ _ => none
  | .ins _ _ _ => none
  | .exn _ _ _ => none
  | .scr _ => none
def toPys : List D → Option (List PyData)
  | [] => some []
  | d :: ds => match toPy d, toPys ds with
    | some p, some ps => some (p :: ps)
    | _, _ => none
end
mutual
theorem Rp.dp {v : V} {d : D} {k : Nat} {o : List Addr} {p : PyData} : Rp K Z H v d k o → toPy d = some p → Dp K H v p
  | .non _, e => by cases e; exact .non
  | .bl b _, e => by cases e; exact .bl b
  | .int i _, e => by cases e; exact .int i
  | .str x _, e => by cases e; exact .str x
  | .tup _ z h r, e => by
    simp only [toPy] at e
    obtain ⟨ps, e1, rfl⟩ := Option.map_eq_some_iff.mp e
    exact .tup (.of h) (RpAll.dp r e1)
  | .lst0 z h r, e => by
    simp only [toPy] at e
    obtain ⟨ps, e1, rfl⟩ := Option.map_eq_some_iff.mp e
    exact .lst (.of h) (RpAll.dp r e1)
  | .lstS h r, e => by
    simp only [toPy] at e
    obtain ⟨ps, e1, rfl⟩ := Option.map_eq_some_iff.mp e
    exact .lst (.of h) (RpAll.dp r e1)
  | .scr _ h r, e => by cases e
  | .dct0 _ _ _ _, e => by cases e
  | .dctS _ _ _, e => by cases e
  | .dcT0 _ _ _ _, e => by cases e
  | .dcTS _ _ _, e => by cases e
  | .ins0 _ _ _ _ _ _ _, e => by cases e
  | .insS _ _ _ _ _, e => by cases e
  | .exn _ _ _ _ _ _ _, e => by cases e
  | .exnD _ _ _ _ _ _ _ _ _ _, e => by cases e
theorem RpAll.dp {vs : List V} {ds : List D} {k : Nat} {o : List Addr} {ps : List PyData} : RpAll K Z H vs ds k o → toPys ds = some ps → DpAll K H vs ps
  | .nil _, e => by cases e; exact .nil
  | .cons h r, e => by
    simp only [toPys] at e
    split at e
    · rename_i p ps' e1 e2
      cases e
      exact .cons (Rp.dp h e1) (RpAll.dp r e2)
    · cases e
end
mutual
/-- data that may be compared: its depth, its texts -/
def okd : Nat → D → Bool
  | _, .non => true
  | _, .bl _ => true
  | _, .int _ => true
  | _, .str s => PyData.strOk s
  | n + 1, .tup xs => okds n xs
  | n + 1, .lst xs => okds n xs
  | _, _ => false
def okds : Nat → List D → Bool
  | _, [] => true
  | n, d :: ds => okd n d && okds n ds
end
mutual
def eqv : D → D → Bool
  | .non, .non => true
  | .bl a, .bl b => a == b
  | .bl a, .int j => (if a then 1 else 0) == j
  | .int i, .bl b => i == (if b then 1 else 0)
  | .int i, .int j => i == j
  | .str x, .str y => x == y
  | .lst xs, .lst ys => eqvs xs ys
  | .tup xs, .tup ys => eqvs xs ys
  | _, _ => false
def eqvs : List D → List D → Bool
  | [], [] => true
  | x :: xs, y :: ys => eqv x y && eqvs xs ys
  | _, _ => false
end
mutual
theorem okd_py : ∀ (n : Nat) (d : D), okd n d = true → ∃ p, toPy d = some p ∧ p.canLay0 = true ∧ p.depth ≤ n
  | _, .non, _ => ⟨_, rfl, rfl, by simp [PyData.depth]⟩
  | _, .bl _, _ => ⟨_, rfl, rfl, by simp [PyData.depth]⟩
  | _, .int _, _ => ⟨_, rfl, rfl, by simp [PyData.depth]⟩
  | _, .str s, h => ⟨_, rfl, by simpa [okd, PyData.canLay0] using h, by simp [PyData.depth]⟩
  | 0, .tup xs, h => by simp [okd] at h
  | 0, .lst xs, h => by simp [okd] at h
  | n + 1, .tup xs, h => by
    obtain ⟨ps, e, c, l⟩ := okds_py n xs (by simpa [okd] using h)
    exact ⟨.tuple ps, by simp [toPy, e], by simpa [PyData.canLay0] using c, by simp only [PyData.depth]; omega⟩
  | n + 1, .lst xs, h => by
    obtain ⟨ps, e, c, l⟩ := okds_py n xs (by simpa [okd] using h)
    exact ⟨.list ps, by simp [toPy, e], by simpa [PyData.canLay0] using c, by simp only [PyData.depth]; omega⟩
  | 0, .dct _ _, h => by simp [okd] at h
  | n + 1, .dct _ _, h => by simp [okd] at h
  | 0, .dcT _ _, h => by simp [okd] at h
  | n + 1, .dcT _ _, h => by simp [okd] at h
  | 0, .ins _ _ _, h => by simp [okd] at h
  | n + 1, .ins _ _ _, h => by simp [okd] at h
  | 0, .exn _ _ _, h => by simp [okd] at h
  | n + 1, .exn _ _ _, h => by simp [okd] at h
  | 0, .scr _, h => by simp [okd] at h
  | n + 1, .scr _, h => by simp [okd] at h
theorem okds_py : ∀ (n : Nat) (ds : List D), okds n ds = true → ∃ ps, toPys ds = some ps ∧ PyData.canLayAll0 ps = true ∧ PyData.depthAll ps ≤ n
  | n, [], _ => ⟨[], rfl, rfl, by simp [PyData.depthAll]⟩
  | n, d :: ds, h => by
    simp only [okds, Bool.and_eq_true] at h
    obtain ⟨p, e1, c1, l1⟩ := okd_py n d h.1
    obtain ⟨ps, e2, c2, l2⟩ := okds_py n ds h.2
    exact ⟨p :: ps, by simp [toPys, e1, e2], by simp [PyData.canLayAll0, c1, c2], by simp only [PyData.depthAll]; omega⟩
end

mutual
theorem eqv_py : ∀ (d e : D) (p q : PyData), toPy d = some p → toPy e = some q → PyData.eqv p q = eqv d e
  | .tup xs, e, p, q, h1, h2 => by
    simp only [toPy] at h1
    obtain ⟨ps, e1, rfl⟩ := Option.map_eq_some_iff.mp h1
    cases e with
    | tup ys =>
      simp only [toPy] at h2
      obtain ⟨qs, e2, rfl⟩ := Option.map_eq_some_iff.mp h2
      simp only [PyData.eqv, eqv]
      exact eqvs_py xs ys ps qs e1 e2
    | lst ys =>
      simp only [toPy] at h2
      obtain ⟨qs, e2, rfl⟩ := Option.map_eq_some_iff.mp h2
      simp [PyData.eqv, eqv]
    | _ => simp [toPy] at h2 <;> (try subst h2) <;> simp [PyData.eqv, eqv]
  | .lst xs, e, p, q, h1, h2 => by
    simp only [toPy] at h1
    obtain ⟨ps, e1, rfl⟩ := Option.map_eq_some_iff.mp h1
    cases e with
    | lst ys =>
      simp only [toPy] at h2
      obtain ⟨qs, e2, rfl⟩ := Option.map_eq_some_iff.mp h2
      simp only [PyData.eqv, eqv]
      exact eqvs_py xs ys ps qs e1 e2
    | tup ys =>
      simp only [toPy] at h2
      obtain ⟨qs, e2, rfl⟩ := Option.map_eq_some_iff.mp h2
      simp [PyData.eqv, eqv]
    | _ => simp [toPy] at h2 <;> (try subst h2) <;> simp [PyData.eqv, eqv]
  | .non, e, p, q, h1, h2 => by
    cases h1
    cases e <;> simp only [toPy, Option.map_eq_some_iff, Option.some.injEq, reduceCtorEq] at h2 <;> first | (obtain ⟨a, b, rfl⟩ := h2; simp [PyData.eqv, eqv]) | (subst h2; simp [PyData.eqv, eqv])
  | .bl _, e, p, q, h1, h2 => by
    cases h1
    cases e <;> simp only [toPy, Option.map_eq_some_iff, Option.some.injEq, reduceCtorEq] at h2 <;> first | (obtain ⟨a, b, rfl⟩ := h2; simp [PyData.eqv, eqv]) | (subst h2; simp [PyData.eqv, eqv])
  | .int _, e, p, q, h1, h2 => by
    cases h1
    cases e <;> simp only [toPy, Option.map_eq_some_iff, Option.some.injEq, reduceCtorEq] at h2 <;> first | (obtain ⟨a, b, rfl⟩ := h2; simp [PyData.eqv, eqv]) | (subst h2; simp [PyData.eqv, eqv])
  | .str _, e, p, q, h1, h2 => by
    cases h1
    cases e <;> simp only [toPy, Option.map_eq_some_iff, Option.some.injEq, reduceCtorEq] at h2 <;> first | (obtain ⟨a, b, rfl⟩ := h2; simp [PyData.eqv, eqv]) | (subst h2; simp [PyData.eqv, eqv])
  | .dct _ _, _, _, _, h1, _ => by cases h1
  | .dcT _ _, _, _, _, h1, _ => by cases h1
  | .ins _ _ _, _, _, _, h1, _ => by cases h1
  | .exn _ _ _, _, _, _, h1, _ => by cases h1
  | .scr _, _, _, _, h1, _ => by cases h1
theorem eqvs_py : ∀ (ds es : List D) (ps qs : List PyData), toPys ds = some ps → toPys es = some qs → PyData.eqvAll ps qs = eqvs ds es
  | [], [], _, _, h1, h2 => by cases h1; cases h2; simp [PyData.eqvAll, eqvs]
  | [], e :: es, _, _, h1, h2 => by
    cases h1
    simp only [toPys] at h2
    split at h2
    · cases h2; simp [PyData.eqvAll, eqvs]
    · cases h2
  | d :: ds, [], _, _, h1, h2 => by
    cases h2
    simp only [toPys] at h1
    split at h1
    · cases h1; simp [PyData.eqvAll, eqvs]
    · cases h1
  | d :: ds, e :: es, _, _, h1, h2 => by
    simp only [toPys] at h1 h2
    split at h1
    · rename_i p ps e1 e2
      cases h1
      split at h2
      · rename_i q qs e3 e4
        cases h2
        simp only [PyData.eqvAll, eqvs]
        rw [eqv_py d e p q e1 e3, eqvs_py ds es ps qs e2 e4]
      · cases h2
    · cases h1
end
/-- == of scalars -/
def scl : D → D → Option Bool
  | .int i, .int j => some (decide (i = j))
  | .bl a, .bl b => some (decide (a = b))
  | .str x, .str y => some (decide (x = y))
  | .non, .non => some true
  | .int _, .non => some false
  | .non, .int _ => some false
  | .str _, .non => some false
  | .non, .str _ => some false
  | .bl _, .non => some false
  | .non, .bl _ => some false
  | .int _, .str _ => some false
  | .str _, .int _ => some false
  | _, _ => none
def gEq (d e : D) : Option (D × Nat) := match scl d e with
  | some b => some (.bl b, 0)
  | none => if okd 30 d && okd 30 e then some (.bl (eqv d e), 0) else none
def gNe (d e : D) : Option (D × Nat) := match scl d e with
  | some b => some (.bl (!b), 0)
  | none => if okd 30 d && okd 30 e then some (.bl (!eqv d e), 0) else none
theorem scl_ok {x y : V} {d e : D} {k l : Nat} {o p : List Addr} {b : Bool} (rx : Rp K Z H x d k o) (ry : Rp K Z H y e l p) (h : scl d e = some b) : scal x y = true ∧ decide (x = y) = b := by
  cases rx <;> cases ry <;> simp [scl] at h <;> subst h <;> simp [scal]
theorem vr_eq : Vr2 K (fun x y H Q => rEq x y H Q ∨ rEqD K x y H Q) gEq := by
  intro Z H x y d e w Q hz rx ry eg k
  unfold gEq at eg
  split at eg
  · rename_i b eb
    cases eg
    obtain ⟨h1, h2⟩ := scl_ok rx ry eb
    refine .inl ⟨h1, ?_⟩
    rw [h2]
    exact Gr.q k (.bl _ _)
  · obtain ⟨ho, rfl⟩ := ite_some eg
    rw [Bool.and_eq_true] at ho
    obtain ⟨p, e1, c1, l1⟩ := okd_py 30 d ho.1
    obtain ⟨q, e2, c2, l2⟩ := okd_py 30 e ho.2
    refine .inr ⟨p, q, rx.dp e1, ry.dp e2, ?_, ?_, ?_⟩
    · unfold SeqAt.shaped; rw [c1, Bool.true_and]; exact decide_eq_true (by omega)
    · unfold SeqAt.shaped; rw [c2, Bool.true_and]; exact decide_eq_true (by omega)
    · rw [eqv_py d e p q e1 e2]
      exact Gr.q k (.bl _ _)
theorem vr_ne : Vr2 K (fun x y H Q => rNe x y H Q ∨ rNeD K x y H Q) gNe := by
  intro Z H x y d e w Q hz rx ry eg k
  unfold gNe at eg
  split at eg
  · rename_i b eb
    cases eg
    obtain ⟨h1, h2⟩ := scl_ok rx ry eb
    refine .inl ⟨h1, ?_⟩
    rw [h2]
    exact Gr.q k (.bl _ _)
  · obtain ⟨ho, rfl⟩ := ite_some eg
    rw [Bool.and_eq_true] at ho
    obtain ⟨p, e1, c1, l1⟩ := okd_py 30 d ho.1
    obtain ⟨q, e2, c2, l2⟩ := okd_py 30 e ho.2
    refine .inr ⟨p, q, rx.dp e1, ry.dp e2, ?_, ?_, ?_⟩
    · unfold SeqAt.shaped; rw [c1, Bool.true_and]; exact decide_eq_true (by omega)
    · unfold SeqAt.shaped; rw [c2, Bool.true_and]; exact decide_eq_true (by omega)
    · rw [eqv_py d e p q e1 e2]
      exact Gr.q k (.bl _ _)
theorem oEq {X : Cx} (hu : X.A.units + 64 < cLine) : OpR X (compareOp .Eq) (fun x y H Q => rEq x y H Q ∨ rEqD X.K x y H Q) := op_eq.or (op_eqD hu)
theorem oNe {X : Cx} (hu : X.A.units + 64 < cLine) : OpR X (compareOp .NotEq) (fun x y H Q => rNe x y H Q ∨ rNeD X.K x y H Q) := op_ne.or (op_neD hu)

/-! ### is None, is True -/
def gIs (neg : Bool) : D → D → Option (D × Nat)
  | d, .non => some (.bl (match d with | .non => !neg | _ => neg), 0)
  | .bl a, .bl b => some (.bl (if neg then !decide (a = b) else decide (a = b)), 0)
  | _, _ => none
theorem vr_is : Vr2 K (fun x y H Q => (y = .non ∧ Q (.bl (decide (x = .non))) H) ∨ rIsB x y H Q) (gIs false) := by
  intro Z H x y d e w Q hz rx ry eg k
  cases ry <;> simp only [gIs] at eg
  · cases eg
    refine .inl ⟨rfl, ?_⟩
    cases rx <;> exact Gr.q k (.bl _ _)
  · cases rx <;> simp only [gIs, Option.some.injEq, reduceCtorEq] at eg
    subst eg
    exact .inr ⟨_, _, rfl, rfl, Gr.q k (.bl _ _)⟩
  all_goals cases eg
theorem vr_isn : Vr2 K (fun x y H Q => (y = .non ∧ Q (.bl (!decide (x = .non))) H) ∨ rNotB x y H Q) (gIs true) := by
  intro Z H x y d e w Q hz rx ry eg k
  cases ry <;> simp only [gIs] at eg
  · cases eg
    refine .inl ⟨rfl, ?_⟩
    cases rx <;> exact Gr.q k (.bl _ _)
  · cases rx <;> simp only [gIs, Option.some.injEq, reduceCtorEq] at eg
    subst eg
    exact .inr ⟨_, _, rfl, rfl, Gr.q k (.bl _ _)⟩
  all_goals cases eg
theorem oIs {X : Cx} : OpR X (compareOp .Is) (fun x y H Q => (y = .non ∧ Q (.bl (decide (x = .non))) H) ∨ rIsB x y H Q) := op_isN.or op_isBl
theorem oIsn {X : Cx} : OpR X (compareOp .IsNot) (fun x y H Q => (y = .non ∧ Q (.bl (!decide (x = .non))) H) ∨ rNotB x y H Q) := op_notN.or op_notBl

/-! ### in -/
def flat : D → Bool
  | .non => true
  | .bl _ => true
  | .int _ => true
  | .str _ => true
  | _ => false
def inD (d : D) (ds : List D) : Bool := ds.any fun e => eqv e d
def gIn (neg : Bool) : D → D → Option (D × Nat)
  | d, .lst ds => if flat d ∧ ds.all flat then some (.bl (if neg then !inD d ds else inD d ds), 0) else none
  | d, .tup ds => if flat d ∧ ds.all flat then some (.bl (if neg then !inD d ds else inD d ds), 0) else none
  | d, .scr ds => if flat d ∧ ds.all flat then some (.bl (if neg then !inD d ds else inD d ds), 0) else none
  | _, _ => none
theorem Rp.flat {v : V} {d : D} {k : Nat} {o : List Addr} (r : Rp K Z H v d k o) (f : VS.flat d = true) : flatV v = true := by
  cases r <;> first | rfl | (simp [VS.flat] at f)
theorem RpAll.flats {vs : List V} {ds : List D} (r : RpAll K Z H vs ds 0 []) (f : ds.all VS.flat = true) : vs.all flatV = true := by
  induction vs generalizing ds with
  | nil => rfl
  | cons v vs ih =>
    cases ds with
    | nil => have := r.length; cases this
    | cons d ds =>
      obtain ⟨r1, r2⟩ := r.uncons
      rw [List.all_cons, Bool.and_eq_true] at f ⊢
      exact ⟨r1.flat f.1, ih r2 f.2⟩
theorem eqV_eqv {x y : V} {d e : D} {k l : Nat} {o p : List Addr} (rx : Rp K Z H x d k o) (ry : Rp K Z H y e l p) (f : VS.flat d = true) (f' : VS.flat e = true) : eqV y x = eqv e d := by
  cases rx <;> cases ry <;> first | rfl | (simp [VS.flat] at f) | (simp [VS.flat] at f') | simp [eqV, eqv]
theorem inV_inD {x : V} {d : D} {vs : List V} {ds : List D} (rx : Rp K Z H x d 0 []) (r : RpAll K Z H vs ds 0 []) (f : VS.flat d = true) (fs : ds.all VS.flat = true) : inV x vs = inD d ds := by
  induction vs generalizing ds with
  | nil =>
    cases ds with
    | nil => rfl
    | cons _ _ => have := r.length; cases this
  | cons v vs ih =>
    cases ds with
    | nil => have := r.length; cases this
    | cons d' ds =>
      obtain ⟨r1, r2⟩ := r.uncons
      rw [List.all_cons, Bool.and_eq_true] at fs
      have := ih r2 fs.2
      unfold inV inD at this ⊢
      rw [List.any_cons, List.any_cons, this, eqV_eqv rx r1 f fs.1]
theorem vr_in (neg : Bool) : Vr2 K (rIn K neg) (gIn neg) := by
  intro Z H x y d e w Q hz rx ry eg k
  generalize e0 : ([] : List Addr) = o0 at ry
  cases ry <;> simp only [gIn, reduceCtorEq] at eg
  · rename_i z h r
    obtain ⟨⟨h1, h2⟩, rfl⟩ := ite_some eg
    refine ⟨_, _, rfl, .inr (.of h), rx.flat h1, r.flats h2, ?_⟩
    rw [inV_inD rx r h1 h2]
    exact Gr.q k (.bl _ _)
  · rename_i z h r
    obtain ⟨⟨h1, h2⟩, rfl⟩ := ite_some eg
    refine ⟨_, _, rfl, .inl (.of h), rx.flat h1, r.flats h2, ?_⟩
    rw [inV_inD rx r h1 h2]
    exact Gr.q k (.bl _ _)
  · rename_i h r
    obtain ⟨⟨h1, h2⟩, rfl⟩ := ite_some eg
    refine ⟨_, _, rfl, h.elim (fun h => .inl h.sq) fun h => .inr h.sq, rx.flat h1, r.flats h2, ?_⟩
    rw [inV_inD rx r h1 h2]
    exact Gr.q k (.bl _ _)

/-! ### an item, a slice -/
def gIx : D → D → Option (D × Nat)
  | .lst ds, .int i => (atI ds i).map fun d => (d, 0)
  | .tup ds, .int i => (atI ds i).map fun d => (d, 0)
  | .scr ds, .int i => (atI ds i).map fun d => (d, 0)
  | _, _ => none
theorem RpAll.atI {vs : List V} {ds : List D} {i : Int} {d : D} (r : RpAll K Z H vs ds 0 []) (e : L2.atI ds i = some d) : ∃ v, L2.atI vs i = some v ∧ Rp K Z H v d 0 [] := by
  unfold L2.atI at e ⊢
  rw [r.length]
  cases h : ixN ds.length i with
  | none => rw [h] at e; cases e
  | some j =>
    rw [h] at e
    exact r.get e
theorem vr_ix : Vr2 K (rIx K) gIx := by
  intro Z H x y d e w Q hz rx ry eg k
  generalize e0 : ([] : List Addr) = o0 at rx
  cases rx <;> cases ry <;> simp only [gIx, reduceCtorEq] at eg
  · rename_i z h r _
    obtain ⟨d', e1, rfl⟩ := Option.map_eq_some_iff.mp eg
    obtain ⟨v, e2, rv⟩ := r.atI e1
    exact .inr (.inl ⟨_, _, _, v, rfl, rfl, .of h, e2, Gr.q k rv⟩)
  · rename_i z h r _
    obtain ⟨d', e1, rfl⟩ := Option.map_eq_some_iff.mp eg
    obtain ⟨v, e2, rv⟩ := r.atI e1
    exact .inl ⟨_, _, _, v, rfl, rfl, .of h, e2, Gr.q k rv⟩
  · rename_i h r _
    obtain ⟨d', e1, rfl⟩ := Option.map_eq_some_iff.mp eg
    obtain ⟨v, e2, rv⟩ := r.atI e1
    rcases h with h | h
    · exact .inl ⟨_, _, _, v, rfl, rfl, h.sq, e2, Gr.q k rv⟩
    · exact .inr (.inl ⟨_, _, _, v, rfl, rfl, h.sq, e2, Gr.q k rv⟩)
def cutD (xs : List D) (lo hi : Option Int) : List D := (xs.drop (HT.sIx xs.length 0 lo)).take (HT.sIx xs.length xs.length hi - HT.sIx xs.length 0 lo)
theorem RpAll.cut {vs : List V} {ds : List D} (r : RpAll K Z H vs ds 0 []) (lo hi : Option Int) : RpAll K Z H (cutV vs lo hi) (cutD ds lo hi) 0 [] := by
  unfold cutV cutD
  rw [r.length]
  exact (r.drop _).take _
def gSl : D → Option Int → Option Int → Option (D × Nat)
  | .lst ds, lo, hi => some (.lst (cutD ds lo hi), 1)
  | .tup ds, lo, hi => some (.tup (cutD ds lo hi), 0)
  | _, _, _ => none
end
end VS
/-! VS4: slices, built-in calls, borrowed reads. -/
namespace VS
open PySem PySem.Spec L2

section
variable {K : PySem.W.Frag} {Z Z' : Pz} {H H' : Hp}
/-! ### rows of ints, of pairs of ints -/
def intsOf : List D → Option (List Int)
  | [] => some []
  | .int i :: ds => (intsOf ds).map (i :: ·)
  | _ :: _ => none
@[simp] theorem intsOf_map (ns : List Int) : intsOf (ns.map .int) = some ns := by
  induction ns with
  | nil => rfl
  | cons n ns ih => simp [intsOf, ih]
theorem intsOf_some {ds : List D} {ns : List Int} (h : intsOf ds = some ns) : ds = ns.map .int := by
  induction ds generalizing ns with
  | nil => cases h; rfl
  | cons d ds ih =>
    cases d <;> simp [intsOf] at h
    obtain ⟨a, h1, h2⟩ := h
    rw [ih h1, ← h2]
    rfl
theorem RpAll.ints {vs : List V} {ns : List Int} (r : RpAll K Z H vs (ns.map .int) 0 []) : vs = ns.map V.int := by
  induction vs generalizing ns with
  | nil =>
    cases ns with
    | nil => rfl
    | cons _ _ => have := r.length; cases this
  | cons v vs ih =>
    cases ns with
    | nil => have := r.length; cases this
    | cons n ns =>
      obtain ⟨r1, r2⟩ := r.uncons
      cases r1
      rw [ih r2]
      rfl
theorem RpAll.of_ints (ns : List Int) : RpAll K Z H (ns.map V.int) (ns.map .int) 0 [] := by
  induction ns with
  | nil => exact .nil 0
  | cons n ns ih => exact .cons (o := []) (p := []) (.int n 0) ih
def pairsOf : List D → Option (List (Int × Int))
  | [] => some []
  | .tup [.int i, .int j] :: ds => (pairsOf ds).map ((i, j) :: ·)
  | _ :: _ => none
def prD (p : Int × Int) : D := .tup [.int p.1, .int p.2]
@[simp] theorem pairsOf_map (ps : List (Int × Int)) : pairsOf (ps.map prD) = some ps := by
  induction ps with
  | nil => rfl
  | cons n ns ih => simp [prD, pairsOf] ; simpa [prD] using ih
theorem pairsOf_some {ds : List D} {ps : List (Int × Int)} (h : pairsOf ds = some ps) : ds = ps.map prD := by
  induction ds generalizing ps with
  | nil => cases h; rfl
  | cons d ds ih =>
    unfold pairsOf at h
    split at h
    · cases ‹_ :: _ = []›
    · rename_i i j ds' e
      cases e
      obtain ⟨a, h1, h2⟩ := Option.map_eq_some_iff.mp h
      rw [ih h1, ← h2]
      rfl
    · cases h

/-! ### slices -/
theorem vr_sl : ∀ (Z : Pz) (H : Hp) (x : V) (d : D) (lo hi : Option Int) (w : D × Nat) (Q : VK), (∀ a, Z a → ∃ o, H a = some o) → Rp K Z H x d 0 [] → gSl d lo hi = some w →
    (∀ v Z' H' o, Gr Z H Z' H' o → Rp K Z' H' v w.1 w.2 o → Q v H') → (rSlL K x lo hi H Q ∨ rSlA K x lo hi H Q) := by
  intro Z H x d lo hi w Q hz rx eg k
  generalize e0 : ([] : List Addr) = o0 at rx
  cases rx <;> simp only [gSl, reduceCtorEq] at eg
  · rename_i a xs ds z h r
    cases eg
    refine .inr ⟨_, _, rfl, .of h, fun e => ?_, fun _ p hp => ?_⟩
    · refine Gr.q k ?_
      have : cutD ds lo hi = ds := by
        unfold cutD
        rw [← r.length, e.1, e.2, List.drop_zero, Nat.sub_zero, r.length, List.take_length]
      rw [this]
      exact .tup 0 z h r
    · exact k (.ref p) (fun a => Z a ∨ a = p) _ [] (Gr.fz hp) (.tup 0 (.inr rfl) upd_same (Gr.rpAll (Gr.fz hp) hz (r.cut lo hi)))
  · rename_i z h r
    cases eg
    refine .inl ⟨_, _, rfl, .of h, fun p hp => ?_⟩
    exact k (.ref p) Z _ [p] (Gr.cell hz hp) (.lstS (o := []) upd_same (Gr.rpAll (Gr.cell hz hp) hz (r.cut lo hi)))
theorem sl_all {X : Cx} : SlR X (fun x lo hi H Q => rSlL X.K x lo hi H Q ∨ rSlA X.K x lo hi H Q) := sl_list.or sl_tupA

/-! ### built-ins -/
def gLen : D → Option (D × Nat)
  | .lst ds => some (.int ds.length, 0)
  | .tup ds => some (.int ds.length, 0)
  | .scr ds => some (.int ds.length, 0)
  | .str s => if s.length ≤ sizeLine then some (.int s.length, 0) else none
  | _ => none
theorem vr_len : VrN K (fun xs H Q => (∃ p ys, xs = [.ref p] ∧ (SqL K H p ys ∨ SqT K H p ys) ∧ Q (.int ys.length) H) ∨ (∃ z, xs = [.str z] ∧ z.length ≤ sizeLine ∧ Q (.int z.length) H)) (un1 gLen) := by
  refine VrN.un1 fun Z H x d w Q hz rx eg k => ?_
  generalize e0 : ([] : List Addr) = o0 at rx
  cases rx <;> simp only [gLen, reduceCtorEq, Option.some.injEq] at eg
  · obtain ⟨hl, rfl⟩ := ite_some eg
    exact .inr ⟨_, rfl, hl, Gr.q k (.int _ _)⟩
  · rename_i z h r
    subst eg
    exact .inl ⟨_, _, rfl, .inr (.of h), Gr.q k (by rw [r.length]; exact .int _ _)⟩
  · rename_i z h r
    subst eg
    exact .inl ⟨_, _, rfl, .inl (.of h), Gr.q k (by rw [r.length]; exact .int _ _)⟩
  · rename_i h r
    subst eg
    exact .inl ⟨_, _, rfl, h.elim (fun h => .inl h.sq) fun h => .inr h.sq, Gr.q k (by rw [r.length]; exact .int _ _)⟩
theorem cLen {X : Cx} : CallR X (.builtin "len") (fun xs H Q => (∃ p ys, xs = [.ref p] ∧ (SqL X.K H p ys ∨ SqT X.K H p ys) ∧ Q (.int ys.length) H) ∨ (∃ z, xs = [.str z] ∧ z.length ≤ sizeLine ∧ Q (.int z.length) H)) := call_len_seq.or call_len_str
def gList : D → Option (D × Nat)
  | .lst ds => some (.lst ds, 1)
  | .tup ds => some (.lst ds, 1)
  | _ => none
theorem vr_list : VrN K (fun xs H Q => ∃ p ys, xs = [.ref p] ∧ (SqL K H p ys ∨ SqT K H p ys) ∧ ∀ l, H l = none → Q (.ref l) (upd H l (.lst ys))) (un1 gList) := by
  refine VrN.un1 fun Z H x d w Q hz rx eg k => ?_
  generalize e0 : ([] : List Addr) = o0 at rx
  cases rx <;> simp only [gList, reduceCtorEq, Option.some.injEq] at eg
  · rename_i z h r
    subst eg
    exact ⟨_, _, rfl, .inr (.of h), fun p hp => k (.ref p) Z _ [p] (Gr.cell hz hp) (.lstS (o := []) upd_same (Gr.rpAll (Gr.cell hz hp) hz r))⟩
  · rename_i z h r
    subst eg
    exact ⟨_, _, rfl, .inl (.of h), fun p hp => k (.ref p) Z _ [p] (Gr.cell hz hp) (.lstS (o := []) upd_same (Gr.rpAll (Gr.cell hz hp) hz r))⟩
def gTuple : D → Option (D × Nat)
  | .lst ds => some (.tup ds, 0)
  | .tup ds => some (.tup ds, 0)
  | _ => none
theorem vr_tuple : VrN K (fun xs H Q => ∃ p ys, xs = [.ref p] ∧ ((SqL K H p ys ∧ ∀ l, H l = none → Q (.ref l) (upd H l (.tup ys))) ∨ (SqT K H p ys ∧ Q (.ref p) H))) (un1 gTuple) := by
  refine VrN.un1 fun Z H x d w Q hz rx eg k => ?_
  generalize e0 : ([] : List Addr) = o0 at rx
  cases rx <;> simp only [gTuple, reduceCtorEq, Option.some.injEq] at eg
  · rename_i z h r
    subst eg
    exact ⟨_, _, rfl, .inr ⟨.of h, Gr.q k (.tup 0 z h r)⟩⟩
  · rename_i z h r
    subst eg
    exact ⟨_, _, rfl, .inl ⟨.of h, fun p hp => k (.ref p) (fun a => Z a ∨ a = p) _ [] (Gr.fz hp) (.tup 0 (.inr rfl) upd_same (Gr.rpAll (Gr.fz hp) hz r))⟩⟩
def gInt : D → Option (D × Nat)
  | .int i => some (.int i, 0)
  | .bl b => some (.int (if b then 1 else 0), 0)
  | _ => none
theorem vr_int : VrN K (fun xs H Q => (∃ i, xs = [.int i] ∧ Q (.int i) H) ∨ ∃ k, xs = [.bl k] ∧ Q (.int (if k then 1 else 0)) H) (un1 gInt) := by
  refine VrN.un1 fun Z H x d w Q hz rx eg k => ?_
  cases rx <;> simp only [gInt, reduceCtorEq, Option.some.injEq] at eg
  · subst eg; exact .inr ⟨_, rfl, Gr.q k (.int _ _)⟩
  · subst eg; exact .inl ⟨_, rfl, Gr.q k (.int _ _)⟩
def gStr : D → Option (D × Nat)
  | .int i => if i.natAbs.log2 < 1920 then some (.str (toString i : String), 0) else none
  | _ => none
theorem vr_str : VrN K (fun xs H Q => ∃ i, xs = [.int i] ∧ i.natAbs.log2 < 1920 ∧ Q (.str (toString i : String)) H) (un1 gStr) := by
  refine VrN.un1 fun Z H x d w Q hz rx eg k => ?_
  cases rx <;> simp only [gStr, reduceCtorEq] at eg
  obtain ⟨h, rfl⟩ := ite_some eg
  exact ⟨_, rfl, h, Gr.q k (.str _ _)⟩
def gMax2 : D → D → Option (D × Nat)
  | .int i, .int j => some (.int (max i j), 0)
  | _, _ => none
def gMin2 : D → D → Option (D × Nat)
  | .int i, .int j => some (.int (min i j), 0)
  | _, _ => none
def gMin1 : D → Option (D × Nat)
  | .lst ds => match intsOf ds with
    | some (n :: ns) => some (.int (ns.foldl min n), 0)
    | _ => none
  | _ => none
def gMax1 : D → Option (D × Nat)
  | .lst ds => match intsOf ds with
    | some (n :: ns) => some (.int (ns.foldl max n), 0)
    | _ => none
  | _ => none
def gMin : List D → Option (D × Nat)
  | [d] => gMin1 d
  | [d, e] => gMin2 d e
  | _ => none
def gMax : List D → Option (D × Nat)
  | [d] => gMax1 d
  | [d, e] => gMax2 d e
  | _ => none
theorem foldl_min_le (ns : List Int) : ∀ n, (ns.foldl min n = n ∨ ns.foldl min n ∈ ns) ∧ ns.foldl min n ≤ n ∧ ∀ y ∈ ns, ns.foldl min n ≤ y := by
  induction ns with
  | nil => intro n; simp
  | cons a ns ih =>
    intro n
    obtain ⟨h1, h2, h3⟩ := ih (min n a)
    rw [List.foldl_cons]
    refine ⟨?_, by omega, fun y hy => ?_⟩
    · rcases h1 with h | h
      · rw [h]
        by_cases c : n ≤ a
        · exact .inl (Int.min_eq_left c)
        · exact .inr (by rw [Int.min_eq_right (by omega)]; exact List.mem_cons_self)
      · exact .inr (List.mem_cons_of_mem _ h)
    · rcases List.mem_cons.mp hy with rfl | hy
      · omega
      · exact h3 y hy
theorem foldl_max_ge (ns : List Int) : ∀ n, (ns.foldl max n = n ∨ ns.foldl max n ∈ ns) ∧ n ≤ ns.foldl max n ∧ ∀ y ∈ ns, y ≤ ns.foldl max n := by
  induction ns with
  | nil => intro n; simp
  | cons a ns ih =>
    intro n
    obtain ⟨h1, h2, h3⟩ := ih (max n a)
    rw [List.foldl_cons]
    refine ⟨?_, by omega, fun y hy => ?_⟩
    · rcases h1 with h | h
      · rw [h]
        by_cases c : n ≤ a
        · exact .inr (by rw [Int.max_eq_right c]; exact List.mem_cons_self)
        · exact .inl (Int.max_eq_left (by omega))
      · exact .inr (List.mem_cons_of_mem _ h)
    · rcases List.mem_cons.mp hy with rfl | hy
      · omega
      · exact h3 y hy
theorem vr_min : VrN K (fun xs H Q => rMin K xs H Q ∨ ∃ i j, xs = [.int i, .int j] ∧ Q (.int (if j < i then j else i)) H) gMin := by
  intro Z H xs ds w Q hz ra eg k
  unfold gMin at eg
  split at eg
  · rename_i d
    cases d <;> simp only [gMin1, reduceCtorEq] at eg
    split at eg
    · rename_i ds n ns e
      cases eg
      have e1 := intsOf_some e
      subst e1
      cases xs with
      | nil => have := ra.length; cases this
      | cons x xs =>
        obtain ⟨r1, r2⟩ := ra.uncons
        cases xs with
        | cons _ _ => have := r2.length; cases this
        | nil =>
          generalize e0 : ([] : List Addr) = o0 at r1
          cases r1 with
          | lst0 z h r =>
            have ev := r.ints
            subst ev
            obtain ⟨h1, h2, h3⟩ := foldl_min_le ns n
            refine .inl ⟨_, n :: ns, rfl, .of h, by simp, fun m hm hle => ?_⟩
            have em : m = ns.foldl min n := by
              have a1 : ns.foldl min n ∈ n :: ns := by
                rcases h1 with h | h
                · rw [h]; exact List.mem_cons_self
                · exact List.mem_cons_of_mem _ h
              have a2 := hle _ a1
              have a3 : ns.foldl min n ≤ m := by
                rcases List.mem_cons.mp hm with rfl | hm
                · exact h2
                · exact h3 m hm
              omega
            rw [em]
            exact Gr.q k (.int _ _)
    · cases eg
  · rename_i d e
    cases xs with
    | nil => have := ra.length; cases this
    | cons x xs =>
      obtain ⟨r1, ra2⟩ := ra.uncons
      clear ra
      cases xs with
      | nil => have := ra2.length; cases this
      | cons y xs =>
        obtain ⟨r2, ra3⟩ := ra2.uncons
        clear ra2
        cases xs with
        | cons _ _ => have := ra3.length; cases this
        | nil =>
          clear ra3
          unfold gMin2 at eg
          split at eg
          · rename_i i j
            cases eg
            cases r1
            cases r2
            refine .inr ⟨i, j, rfl, Gr.q k ?_⟩
            have : (if j < i then j else i) = min i j := by split <;> omega
            rw [this]
            exact .int _ _
          · cases eg
  · cases eg
theorem vr_max : VrN K (fun xs H Q => rMax K xs H Q ∨ ∃ i j, xs = [.int i, .int j] ∧ Q (.int (if j > i then j else i)) H) gMax := by
  intro Z H xs ds w Q hz ra eg k
  unfold gMax at eg
  split at eg
  · rename_i d
    cases d <;> simp only [gMax1, reduceCtorEq] at eg
    split at eg
    · rename_i ds n ns e
      cases eg
      have e1 := intsOf_some e
      subst e1
      cases xs with
      | nil => have := ra.length; cases this
      | cons x xs =>
        obtain ⟨r1, r2⟩ := ra.uncons
        cases xs with
        | cons _ _ => have := r2.length; cases this
        | nil =>
          generalize e0 : ([] : List Addr) = o0 at r1
          cases r1 with
          | lst0 z h r =>
            have ev := r.ints
            subst ev
            obtain ⟨h1, h2, h3⟩ := foldl_max_ge ns n
            refine .inl ⟨_, n :: ns, rfl, .of h, by simp, fun m hm hle => ?_⟩
            have em : m = ns.foldl max n := by
              have a1 : ns.foldl max n ∈ n :: ns := by
                rcases h1 with h | h
                · rw [h]; exact List.mem_cons_self
                · exact List.mem_cons_of_mem _ h
              have a2 := hle _ a1
              have a3 : m ≤ ns.foldl max n := by
                rcases List.mem_cons.mp hm with rfl | hm
                · exact h2
                · exact h3 m hm
              omega
            rw [em]
            exact Gr.q k (.int _ _)
    · cases eg
  · rename_i d e
    cases xs with
    | nil => have := ra.length; cases this
    | cons x xs =>
      obtain ⟨r1, ra2⟩ := ra.uncons
      clear ra
      cases xs with
      | nil => have := ra2.length; cases this
      | cons y xs =>
        obtain ⟨r2, ra3⟩ := ra2.uncons
        clear ra2
        cases xs with
        | cons _ _ => have := ra3.length; cases this
        | nil =>
          clear ra3
          unfold gMax2 at eg
          split at eg
          · rename_i i j
            cases eg
            cases r1
            cases r2
            refine .inr ⟨i, j, rfl, Gr.q k ?_⟩
            have : (if j > i then j else i) = max i j := by split <;> omega
            rw [this]
            exact .int _ _
          · cases eg
  · cases eg
theorem cMin {X : Cx} (hc : X.calm = true) : CallR X (.builtin "min") (fun xs H Q => rMin X.K xs H Q ∨ ∃ i j, xs = [.int i, .int j] ∧ Q (.int (if j < i then j else i)) H) := (cr_min hc).or (call_min2 hc)
theorem cMax {X : Cx} (hc : X.calm = true) : CallR X (.builtin "max") (fun xs H Q => rMax X.K xs H Q ∨ ∃ i j, xs = [.int i, .int j] ∧ Q (.int (if j > i then j else i)) H) := (cr_max hc).or (call_max2 hc)
def gSum : D → Option (D × Nat)
  | .lst ds => (intsOf ds).map fun ns => (.int ns.sum, 0)
  | _ => none
theorem vr_sum : VrN K (rSum K) (un1 gSum) := by
  refine VrN.un1 fun Z H x d w Q hz rx eg k => ?_
  generalize e0 : ([] : List Addr) = o0 at rx
  cases rx <;> simp only [gSum, reduceCtorEq] at eg
  obtain ⟨ns, e, rfl⟩ := Option.map_eq_some_iff.mp eg
  rename_i z h r
  have e1 := intsOf_some e
  subst e1
  have ev := r.ints
  subst ev
  exact ⟨_, ns, rfl, .of h, Gr.q k (.int _ _)⟩

/-! ### sorted -/
def srtI (ns : List Int) : List Int := ns.mergeSort fun x y => decide (x ≤ y)
def lexLe (p q : Int × Int) : Bool := decide (p.1 < q.1) || (decide (p.1 = q.1) && decide (p.2 ≤ q.2))
def srtP (ps : List (Int × Int)) : List (Int × Int) := ps.mergeSort lexLe
def gSorted : D → Option (D × Nat)
  | .lst ds => match intsOf ds with
    | some ns => some (.lst ((srtI ns).map .int), 1)
    | none => match pairsOf ds with
      | some ps => some (.lst ((srtP ps).map prD), 1)
      | none => none
  | _ => none
theorem lexLe_iff {p q : Int × Int} : lexLe p q = true ↔ p.1 < q.1 ∨ (p.1 = q.1 ∧ p.2 ≤ q.2) := by
  unfold lexLe
  rw [Bool.or_eq_true, Bool.and_eq_true, decide_eq_true_eq, decide_eq_true_eq, decide_eq_true_eq]
theorem srtP_perm (ps : List (Int × Int)) : (srtP ps).Perm ps := List.mergeSort_perm _ _
theorem srtP_sorted (ps : List (Int × Int)) : (srtP ps).Pairwise (fun p q => lexLe p q = true) := by
  refine List.pairwise_mergeSort (le := lexLe) (fun a b c h1 h2 => ?_) (fun a b => ?_) ps
  · rw [lexLe_iff] at h1 h2 ⊢
    omega
  · rw [Bool.or_eq_true, lexLe_iff, lexLe_iff]
    omega
theorem srtP_uniq {ps qs : List (Int × Int)} (hp : qs.Perm ps) (hs : qs.Pairwise (fun p q => lexLe p q = true)) : qs = srtP ps := by
  refine List.Perm.eq_of_pairwise (fun x y _ _ h1 h2 => ?_) hs (srtP_sorted ps) (hp.trans (srtP_perm ps).symm)
  rw [lexLe_iff] at h1 h2
  obtain ⟨a, b⟩ := x
  obtain ⟨c, d⟩ := y
  simp only at h1 h2
  have e1 : a = c := by omega
  have e2 : b = d := by omega
  rw [e1, e2]
/-- how a pair's cell reads -/
theorem pair_cell {v : V} {p : Int × Int} (r : Rp K Z H v (prD p) 0 []) : ∃ t, v = .ref t ∧ H t = some (.tup [.int p.1, .int p.2]) ∧ Z t := by
  unfold prD at r
  generalize e0 : ([] : List Addr) = o0 at r
  cases r with
  | tup _ z h r =>
    have := RpAll.ints (ns := [p.1, p.2]) r
    subst this
    exact ⟨_, rfl, h, z⟩
theorem vr_sorted : VrN K (fun xs H Q => rSortedI K xs H Q ∨ rSortedPO K xs H Q) (un1 gSorted) := by
  refine VrN.un1 fun Z H x d w Q hz rx eg k => ?_
  generalize e0 : ([] : List Addr) = o0 at rx
  cases rx <;> simp only [gSorted, reduceCtorEq] at eg
  rename_i a xs ds z h r
  split at eg
  · rename_i ns e
    cases eg
    have e1 := intsOf_some e
    subst e1
    have ev := r.ints
    subst ev
    refine .inl ⟨_, ns, rfl, .of h, fun ns' p hp hs hn => ?_⟩
    have e2 : ns' = srtI ns := PySem.W.os_sorted_mergeSort hp hs
    subst e2
    exact k (.ref p) Z _ [p] (Gr.cell hz hn) (.lstS (o := []) upd_same (RpAll.of_ints _))
  · split at eg
    · rename_i ps e
      cases eg
      have e1 := pairsOf_some e
      subst e1
      -- each value's pair
      have hget : ∀ x ∈ xs, ∃ q ∈ ps, ∃ t, x = V.ref t ∧ H t = some (.tup [.int q.1, .int q.2]) ∧ Z t := fun x hx => by
        obtain ⟨i, hi⟩ := List.getElem?_of_mem hx
        obtain ⟨d, e2, r2⟩ := r.get2 hi
        rw [List.getElem?_map] at e2
        obtain ⟨q, e3, rfl⟩ := Option.map_eq_some_iff.mp e2
        obtain ⟨t, h1, h2, h3⟩ := pair_cell r2
        exact ⟨q, List.mem_of_getElem? e3, t, h1, h2, h3⟩
      let kf : V → Int × Int := fun v => match v with
        | .ref t => match H t with
          | some (.tup [.int i, .int j]) => (i, j)
          | _ => (0, 0)
        | _ => (0, 0)
      have hk : ∀ x t i j, x = V.ref t → H t = some (.tup [.int i, .int j]) → kf x = (i, j) := fun x t i j e1 e2 => by
        subst e1
        show (match H t with | some (.tup [.int i, .int j]) => (i, j) | _ => (0, 0)) = (i, j)
        rw [e2]
      refine .inr ⟨_, xs, kf, rfl, .of h, fun x hx => ?_, fun ys p hs hb hn => ?_⟩
      · obtain ⟨q, _, t, h1, h2, _⟩ := hget x hx
        rw [hk x t q.1 q.2 h1 h2]
        exact ⟨t, h1, h2⟩
      · have ep : (ys.map kf).Perm ps := by
          have e2 : xs.map kf = ps := by
            refine List.ext_getElem? fun i => ?_
            rw [List.getElem?_map]
            cases e3 : xs[i]? with
            | none =>
              have hl := r.length
              rw [List.length_map] at hl
              rw [List.getElem?_eq_none_iff] at e3
              exact (List.getElem?_eq_none_iff.mpr (by omega)).symm
            | some x =>
              obtain ⟨d, e4, r2⟩ := r.get2 e3
              rw [List.getElem?_map] at e4
              obtain ⟨q, e5, rfl⟩ := Option.map_eq_some_iff.mp e4
              obtain ⟨t, h1, h2, _⟩ := pair_cell r2
              rw [e5]
              show some (kf x) = some q
              rw [hk x t q.1 q.2 h1 h2]
          rw [← e2]
          exact hb.perm.map kf
        have es : (ys.map kf).Pairwise (fun p q => lexLe p q = true) := by
          refine List.pairwise_map.mpr (List.Pairwise.imp (fun {a b} hab => ?_) hs)
          rw [lexLe_iff]
          have := SrtO.lexB_no.mp (by simpa using hab)
          omega
        have eu := srtP_uniq ep es
        rw [← eu] at k
        refine k (.ref p) Z _ [p] (Gr.cell hz hn) (.lstS (o := []) upd_same ?_)
        refine .mk (by simp) fun i v d e1 e2 => ?_
        rw [List.map_map, List.getElem?_map, e1] at e2
        cases e2
        obtain ⟨q, _, t, h1, h2, h3⟩ := hget v (hb.perm.mem_iff.mp (List.mem_of_getElem? e1))
        show Rp K Z _ v (prD (kf v)) 0 []
        rw [hk v t q.1 q.2 h1 h2]
        subst h1
        have ht : t ≠ p := ne_of_none h2 hn
        exact .tup 0 h3 (by rw [upd_ne ht]; exact h2) (RpAll.of_ints [q.1, q.2])
    · cases eg
theorem cSorted {X : Cx} : CallR X (.builtin "sorted") (fun xs H Q => rSortedI X.K xs H Q ∨ rSortedPO X.K xs H Q) := cr_sortedI.or cr_sortedPO
end
end VS
/-! VS5: targets, what is walked, list comprehensions, calls of the text's own defs. -/
namespace VS
open PySem PySem.Spec L2

/-! ### isinstance -/
def tyN : D → String
  | .non => "NoneType"
  | .bl _ => "bool"
  | .int _ => "int"
  | .str _ => "str"
  | .tup _ => "tuple"
  | .lst _ => "list"
  | .dct _ _ => "dict"
  | .dcT _ _ => "dict"
  | .ins _ _ _ => "object"
  | .exn _ _ _ => "?"
  | .scr _ => "?"
def isiD (T : String) (d : D) : Bool := tyN d == T || (tyN d == "bool" && T == "int")
def okTy : List String := ["bool", "int", "str", "tuple", "list", "dict"]
def gIsi (T : String) : D → Option (D × Nat)
  | .ins _ _ _ => none
  | .exn _ _ _ => none
  | .scr _ => none
  | d => some (.bl (isiD T d), 0)
theorem kitB_ok : (["NoneType", "bool", "int", "str", "tuple", "list", "dict"].all fun t => okTy.all fun T => decide (kitB t T = some (t == T || (t == "bool" && T == "int")))) = true := by decide +kernel
theorem kitB_of {t T : String} (h : t ∈ ["NoneType", "bool", "int", "str", "tuple", "list", "dict"]) (h' : T ∈ okTy) : kitB t T = some (t == T || (t == "bool" && T == "int")) := by
  have q := kitB_ok
  rw [List.all_eq_true] at q
  have q2 := q t h
  rw [List.all_eq_true] at q2
  exact of_decide_eq_true (q2 T h')
section
variable {X : Cx} {W : WX} {pos p q : Pos} {a : Expr} {fa : Ev}
theorem Rp.tyX {K : PySem.W.Frag} {Z : Pz} {H : Hp} {v : V} {d : D} (r : Rp K Z H v d 0 []) {w : D × Nat} {T : String} (h : gIsi T d = some w) : TyX K H v (.type (tyN d)) ∧ tyN d ∈ ["NoneType", "bool", "int", "str", "tuple", "list", "dict"] ∧ w = (.bl (isiD T d), 0) := by
  generalize e0 : ([] : List Addr) = o0 at r
  cases r with
  | non => cases h; exact ⟨.base .non, by decide, rfl⟩
  | bl b => cases h; exact ⟨.base (.bl b), by simp [tyN], rfl⟩
  | int i => cases h; exact ⟨.base (.int i), by simp [tyN], rfl⟩
  | str s => cases h; exact ⟨.base (.str s), by simp [tyN], rfl⟩
  | tup _ z e r => cases h; exact ⟨.base (.tup e), by simp [tyN], rfl⟩
  | lst0 z e r => cases h; exact ⟨.base (.lst e), by simp [tyN], rfl⟩
  | scr => cases h
  | dct0 z e l r => cases h; exact ⟨.base (.dK e), by simp [tyN], rfl⟩
  | dcT0 z e l r => cases h; exact ⟨.base (.dT e), by simp [tyN], rfl⟩
  | ins0 => cases h
  | exn => cases h
  | exnD => cases h
theorem se_isi {T : String} {x : Str} (ha : SE X W a fa) (hg : Gl X "isinstance") (hm : X.mg "isinstance" = none) (hgT : Gl X x) (hmT : X.mg x = none) (hT : bootBuiltins x = some (.type T)) (hok : T ∈ okTy := by decide) (hnT : x ≠ "__name__" := by decide) (hdT : (x == ("__debug__" : Str)) = false := by decide)
    (hst : starEach [a, .Name x q] X.env = (false, eval a X.env) :: starEach [.Name x q] X.env := by rfl) (hst2 : starEach [.Name x q] X.env = (false, eval (.Name x q) X.env) :: starEach [] X.env := by rfl) (hpl : (backTo pos (starEach [.Name x q] X.env)).any (·.1) = false := by rfl) :
    SE X W (.Call (.Name "isinstance" p) [a, .Name x q] [] pos) (op1 (gIsi T) fa) := by
  have hb : PE X (.Name x q) (tC (.ty T)) := pe_bltn hgT hmT hT rfl hnT hdT
  refine PE.imp (pe_callB (call_isi (X := X)) hg hm (by decide +kernel) (pa_cons ha (pa_cons hb pa_nil hst2) hst) (by decide) (by decide) hst hpl) fun σ H Q ⟨Z, F, sd, ok, h⟩ => ?_
  refine eP.seq (G := fun _ _ => True) ok (fun w1 sd1 e1 v1 Z1 H1 r1 ok1 x1 => ?_) (fun x sd1 e1 => ?_) (fun e1 => ?_)
  · unfold op1 at h
    rw [e1, R.bind_ok] at h
    cases eg : gIsi T w1.1 with
    | none => rw [eg] at h; exact h.elim
    | some w =>
      rw [eg, lift_some] at h
      obtain ⟨ty, hm, rfl⟩ := r1.tyX eg
      exact ⟨v1, .ty T, _, _, _, rfl, .ty T, ty, kit_ty (kitB_of hm hok), h.pure x1 ok1 (.bl _ _)⟩
  · unfold op1 at h; rw [e1] at h; exact h
  · unfold op1 at h; rw [e1] at h; exact h

/-! ### an item of what a name holds, a slice -/
theorem se_ix {b : Expr} {fb : Ev} (ha : SE X W a fa) (hb : SE X W b fb) (hs : PlainIx b := by exact fun _ _ => rfl) : SE X W (.Subscript a b pos) (op2 gIx fa fb) :=
  PE.imp (pe_ix ix_seq ha hb hs) fun _ _ _ h => tE_op2 vr_ix h
/-- x[i], x a name: its row stays as it is (what lies deeper is frozen) -/
def ixv (i : Nat) (fb : Ev) : Ev := fun sd => match sd[i]? with
  | some (some _) => (fb sd).bind fun y sd1 => match sd1[i]? with
    | some (some (d, k)) => match gIx d y.1 with
      | some w => .ok (w.1, 0) (sd1.set i (some (d, min k 1)))
      | none => .stuck
    | _ => .stuck
  | _ => .stuck
theorem Ok.slot {K : PySem.W.Frag} {Z F : Pz} {H : Hp} {σ : St} {sd : SD} {i : Nat} {w : D × Nat} (ok : Ok K Z F H σ sd) (e : sd[i]? = some (some w)) : ∃ v, σ[i]? = some (some v) := by
  obtain ⟨v, p, e1, _⟩ := ok.take (d := w.1) (k := w.2) e
  exact ⟨v, e1⟩
theorem Rp.open1 {K : PySem.W.Frag} {Z : Pz} {H : Hp} {v : V} {d : D} {k : Nat} {p : List Addr} (r : Rp K Z H v d k p) (nd : p.Nodup) :
    ∃ q1 q2, Rp K (uni Z q2) H v d (min k 1) q1 ∧ (∀ a, a ∈ p ↔ a ∈ q1 ∨ a ∈ q2) ∧ q1.Nodup ∧ (∀ a ∈ q1, a ∉ q2) := by
  cases r with
  | non => exact ⟨[], [], .non _, by simp, .nil, by simp⟩
  | bl b => exact ⟨[], [], .bl _ _, by simp, .nil, by simp⟩
  | int b => exact ⟨[], [], .int _ _, by simp, .nil, by simp⟩
  | str b => exact ⟨[], [], .str _ _, by simp, .nil, by simp⟩
  | tup _ z h r => exact ⟨[], [], .tup _ (.inl z) h (r.freeze (fun _ z => .inl z) fun a m => absurd m List.not_mem_nil), by simp, .nil, by simp⟩
  | lst0 z h r => exact ⟨[], [], .lst0 (.inl z) h (r.freeze (fun _ z => .inl z) fun a m => absurd m List.not_mem_nil), by simp, .nil, by simp⟩
  | scr _ h r => exact ⟨[], [], (Rp.scr _ h r).keep (fun a z => ⟨.inl z, rfl⟩) fun a m => rfl, by simp, .nil, by simp⟩
  | dct0 z h l r => exact ⟨[], [], .dct0 (.inl z) h l (r.freeze (fun _ z => .inl z) fun a m => absurd m List.not_mem_nil), by simp, .nil, by simp⟩
  | dcT0 z h l r => exact ⟨[], [], .dcT0 (.inl z) h l (r.freeze (fun _ z => .inl z) fun a m => absurd m List.not_mem_nil), by simp, .nil, by simp⟩
  | exn _ z h h1 h2 h3 h4 => exact ⟨[], [], .exn _ (.inl z) h h1 h2 h3 h4, by simp, .nil, by simp⟩
  | exnD _ z z2 h h1 h2 h3 h4 h5 r => exact ⟨[], [], .exnD _ (.inl z) (.inl z2) h h1 h2 h3 h4 h5 (r.freeze (fun _ z => .inl z) fun a m => absurd m List.not_mem_nil), by simp, .nil, by simp⟩
  | ins0 z z2 h h2 l c r => exact ⟨[], [], .ins0 (.inl z) (.inl z2) h h2 l c (r.freeze (fun _ z => .inl z) fun a m => absurd m List.not_mem_nil), by simp, .nil, by simp⟩
  | @dcTS a ks xs ds k' o h l r =>
    refine ⟨[a], o, ?_, by simp, by simp, fun b m => ?_⟩
    · have e : min (k' + 1) 1 = 0 + 1 := by omega
      rw [e]
      exact .dcTS (o := []) h l (r.freeze (fun _ z => .inl z) fun a m => .inr m)
    · rw [List.mem_singleton] at m
      rw [m]
      exact (List.nodup_cons.mp nd).1
  | @insS a C dx c fs xs ds k' o h h2 l cc r =>
    obtain ⟨n1, n2⟩ := List.nodup_cons.mp nd
    obtain ⟨n3, n4⟩ := List.nodup_cons.mp n2
    refine ⟨[a, dx], o, ?_, by simp [or_assoc], ?_, fun b m => ?_⟩
    · have e : min (k' + 1) 1 = 0 + 1 := by omega
      rw [e]
      exact .insS (o := []) h h2 l cc (r.freeze (fun _ z => .inl z) fun a m => .inr m)
    · refine List.nodup_cons.mpr ⟨fun m => n1 ?_, List.nodup_cons.mpr ⟨List.not_mem_nil, .nil⟩⟩
      rw [List.mem_singleton] at m
      rw [m]; exact List.mem_cons_self
    · rcases List.mem_cons.mp m with m | m
      · rw [m]; exact fun z => n1 (List.mem_cons_of_mem _ z)
      · rw [List.mem_singleton] at m
        rw [m]; exact n3
  | @lstS a xs ds k' o h r =>
    refine ⟨[a], o, ?_, by simp, by simp, fun b m => ?_⟩
    · have e : min (k' + 1) 1 = 0 + 1 := by omega
      rw [e]
      exact .lstS (o := []) h (r.freeze (fun _ z => .inl z) fun a m => .inr m)
    · rw [List.mem_singleton] at m
      rw [m]
      exact (List.nodup_cons.mp nd).1
  | @dctS a ks xs ds k' o h l r =>
    refine ⟨[a], o, ?_, by simp, by simp, fun b m => ?_⟩
    · have e : min (k' + 1) 1 = 0 + 1 := by omega
      rw [e]
      exact .dctS (o := []) h l (r.freeze (fun _ z => .inl z) fun a m => .inr m)
    · rw [List.mem_singleton] at m
      rw [m]
      exact (List.nodup_cons.mp nd).1
theorem min_idem (k : Nat) : min (min k 1) 1 = min k 1 := by omega
/-- a slot's row is opened one floor deep: what lies under it is frozen -/
theorem Ok.open1 {K : PySem.W.Frag} {Z F : Pz} {H : Hp} {σ : St} {sd : SD} {i : Nat} {d : D} {k : Nat} (ok : Ok K Z F H σ sd) (e : sd[i]? = some (some (d, k))) :
    ∃ v Z1 q1, σ[i]? = some (some v) ∧ Rp K Z1 H v d (min k 1) q1 ∧ q1.Nodup ∧ (∀ a ∈ q1, ¬ F a) ∧ Ok K Z1 (uni F q1) H σ (sd.set i none) ∧ (∀ a, Z a → Z1 a) ∧ (∀ a, F a → ¬ Z1 a) := by
  obtain ⟨v, p, e1, r, nd, nf, ok1⟩ := ok.take e
  obtain ⟨q1, q2, r1, m, nd1, dj⟩ := r.open1 nd
  have ok2 : Ok K Z (uni (uni F q1) q2) H σ (sd.set i none) := ok1.less fun a z => by
    rcases z with (z | z) | z
    · exact .inl z
    · exact .inr ((m a).mpr (.inl z))
    · exact .inr ((m a).mpr (.inr z))
  have ok3 := ok2.freeze fun a z f => by
    rcases f with f | f
    · exact nf a ((m a).mpr (.inr z)) f
    · exact dj a f z
  refine ⟨v, uni Z q2, q1, e1, r1, nd1, fun a z => nf a ((m a).mpr (.inl z)), ok3, fun a z => .inl z, fun a f z => ?_⟩
  rcases z with z | z
  · exact (ok.base.f a f).2 z
  · exact nf a ((m a).mpr (.inr z)) f
/-- an item of an opened row -/
theorem Rp.item {K : PySem.W.Frag} {Z : Pz} {H : Hp} {v y : V} {d e : D} {k l : Nat} {p : List Addr} {w : D × Nat} {Q : VK} (r : Rp K Z H v d (min k 1) p) (ry : Rp K Z H y e 0 []) (eg : gIx d e = some w) (h : ∀ u, Rp K Z H u w.1 0 [] → Q u H) : rIx K v y H Q := by
  cases ry <;> (try (cases d <;> simp [gIx] at eg; done))
  rename_i j
  generalize e0 : min k 1 = k1 at r
  cases r with
  | tup _ z hh r =>
    obtain ⟨d', e1, rfl⟩ := Option.map_eq_some_iff.mp eg
    obtain ⟨u, e2, ru⟩ := r.atI e1
    exact .inr (.inl ⟨_, _, _, u, rfl, rfl, .of hh, e2, h u ru⟩)
  | lst0 z hh r =>
    obtain ⟨d', e1, rfl⟩ := Option.map_eq_some_iff.mp eg
    obtain ⟨u, e2, ru⟩ := r.atI e1
    exact .inl ⟨_, _, _, u, rfl, rfl, .of hh, e2, h u ru⟩
  | scr _ hh r =>
    obtain ⟨d', e1, rfl⟩ := Option.map_eq_some_iff.mp eg
    obtain ⟨u, e2, ru⟩ := r.atI e1
    rcases hh with hh | hh
    · exact .inl ⟨_, _, _, u, rfl, rfl, hh.sq, e2, h u ru⟩
    · exact .inr (.inl ⟨_, _, _, u, rfl, rfl, hh.sq, e2, h u ru⟩)
  | @lstS a xs ds k' o hh r =>
    have e3 : k' = 0 := by omega
    subst e3
    cases r.nil0
    obtain ⟨d', e1, rfl⟩ := Option.map_eq_some_iff.mp eg
    obtain ⟨u, e2, ru⟩ := r.atI e1
    exact .inl ⟨_, _, _, u, rfl, rfl, .of hh, e2, h u ru⟩
  | non => simp [gIx] at eg
  | bl => simp [gIx] at eg
  | int => simp [gIx] at eg
  | str => simp [gIx] at eg
  | dct0 => simp [gIx] at eg
  | dctS => simp [gIx] at eg
  | dcT0 => simp [gIx] at eg
  | dcTS => simp [gIx] at eg
  | ins0 => simp [gIx] at eg
  | insS => simp [gIx] at eg
  | exn => simp [gIx] at eg
  | exnD => simp [gIx] at eg
theorem se_ixv (i : Nat) {x : Str} {px : Pos} {b : Expr} {fb : Ev} (hb : SE X W b fb) (hs : PlainIx b := by exact fun _ _ => rfl) (hN : X.N[i]? = some x := by rfl) (hv : Vis X.env.scope x := by first | exact Or.inl rfl | exact Or.inr (Or.inl rfl) | exact Or.inr (Or.inr rfl))
    (hd : (x == ("__debug__" : Str)) = false := by decide) (hcd : (x == ("__classdict__" : Str)) = false := by decide) : SE X W (.Subscript (.Name x px) b pos) (ixv i fb) := by
  refine PE.imp (pe_ix ix_seq (pe_var hN hv hd hcd) hb hs) fun σ H Q ⟨Z, F, sd, ok, h⟩ => ?_
  unfold ixv at h
  split at h
  · rename_i w0 e0
    obtain ⟨v, e1⟩ := ok.slot e0
    refine ⟨v, e1, ?_⟩
    refine eP.seq (G := fun _ _ => True) ok (fun w1 sd1 e2 y Z1 H1 ry ok1 x1 => ?_) (fun x sd1 e2 => ?_) (fun e2 => ?_)
    · rw [e2, R.bind_ok] at h
      split at h
      · rename_i d k e3
        split at h
        · rename_i w eg
          obtain ⟨v', Z2, q1, e4, r2, nd2, nf2, ok2, z12, fz⟩ := ok1.open1 e3
          rw [e1] at e4
          cases e4
          have ry2 : Rp X.K Z2 H1 y w1.1 0 [] := ry.keep (fun a z => ⟨z12 a z, rfl⟩) fun a m => absurd m List.not_mem_nil
          refine r2.item (l := 0) ry2 eg fun u ru => ?_
          have ok3 := ok2.back r2 nd2 nf2 e1
          rw [List.set_set] at ok3
          exact h.pure (x1.trans ⟨fun a z => ⟨z12 a z, rfl⟩, fun _ _ => rfl⟩) ok3 ru
        · exact h.elim
      · exact h.elim
    · rw [e2] at h; exact h
    · rw [e2] at h; exact h
  · exact h.elim

/-! ### a name that is only looked at: len(x), e in x .. -/
def scD : D → Bool
  | .non => true
  | .bl _ => true
  | .int _ => true
  | .str _ => true
  | _ => false
theorem Rp.sc {K : PySem.W.Frag} {Z Z' : Pz} {H H' : Hp} {v : V} {d : D} {k : Nat} {o : List Addr} (r : Rp K Z H v d k o) (h : scD d = true) : Rp K Z' H' v d 0 [] := by
  cases r <;> first | (simp [scD] at h; done) | constructor
/-- as if x were frozen for the while -/
theorem Ok.peek {K : PySem.W.Frag} {mg : Mg} {Z0 Z F : Pz} {H0 H : Hp} {σ : St} {sd : SD} {i : Nat} {d e : D} {k : Nat} {Q : VK} (ok : Ok K Z F H σ sd) (x0 : Ext F Z0 H0 Z H) (ei : sd[i]? = some (some (d, k))) (hs : scD e = true) (h : eP K mg W Z0 F σ H0 (.ok (e, 0) sd) Q) :
    ∃ v Z1, σ[i]? = some (some v) ∧ Rp K Z1 H v d 0 [] ∧ (∀ a, Z a → Z1 a) ∧ (∀ a, Z1 a → ∃ o, H a = some o) ∧ ∀ u Z' H' o, Gr Z1 H Z' H' o → ∀ l, Rp K Z' H' u e l o → Q u H' := by
  obtain ⟨v, p, e1, r, nd, nf, ok1⟩ := ok.take ei
  have hp : ∀ a ∈ p, (∃ o, H a = some o) ∧ ¬ Z a := fun a m => ok1.base.f a (.inr m)
  refine ⟨v, uni Z p, e1, r.freeze (fun _ z => .inl z) fun _ m => .inr m, fun _ z => .inl z, fun a z => ?_, fun u Z' H' o g l ru => ?_⟩
  · rcases z with z | z
    · exact ok.base.z a z
    · exact (hp a z).1
  · have g2 : Gr Z H (fun a => Z' a ∧ a ∉ p) H' o := by
      refine ⟨g.keep, fun a z => ⟨g.zz a (.inl z), fun m => (hp a m).2 z⟩, fun a z => ?_, fun a m => ⟨(g.on a m).1, (g.on a m).2.1, fun z => (g.on a m).2.2 z.1⟩, g.nd⟩
      rcases g.zn a z.1 with (q | q) | q
      · exact .inl q
      · exact absurd q z.2
      · exact .inr q
    have ok2 := (g2.ok ok).less (F' := F) fun _ z => .inl z
    exact h.pure (x0.trans (g2.ext ok.base)) ok2 (ru.sc hs)
def bor1 (g : D → Option (D × Nat)) (i : Nat) : Ev := fun sd => match sd[i]? with
  | some (some (d, _)) => match g d with
    | some (e, 0) => if scD e then .ok (e, 0) sd else .stuck
    | _ => .stuck
  | _ => .stuck
/-- f(x), x a name -/
theorem se_borB {x y : Str} {id : String} {r : List V → Hp → VK → Prop} {g : D → Option (D × Nat)} (i : Nat) (hc : CallR X (.builtin id) r) (hr : VrN X.K r (un1 g)) (hg : Gl X x) (hm : X.mg x = none) (hv : bootBuiltins x = some (.builtin id))
    (hN : X.N[i]? = some y := by rfl) (hvy : Vis X.env.scope y := by first | exact Or.inl rfl | exact Or.inr (Or.inl rfl) | exact Or.inr (Or.inr rfl)) (hd : (y == ("__debug__" : Str)) = false := by decide) (hcd : (y == ("__classdict__" : Str)) = false := by decide)
    (hn : x ≠ "__name__" := by decide) (hdb : (x == ("__debug__" : Str)) = false := by decide) (he : starEach [.Name y q] X.env = (false, eval (.Name y q) X.env) :: starEach [] X.env := by rfl) (hpl : (backTo pos (starEach [] X.env)).any (·.1) = false := by rfl) :
    SE X W (.Call (.Name x p) [.Name y q] [] pos) (bor1 g i) := by
  refine PE.imp (pe_callB hc hg hm hv (pa_cons (pe_var hN hvy hd hcd) pa_nil he) hn hdb he hpl) fun σ H Q ⟨Z, F, sd, ok, h⟩ => ?_
  unfold bor1 at h
  split at h
  · rename_i d k ei
    split at h
    · rename_i e eg
      split at h
      · rename_i hs
        obtain ⟨v, Z1, e1, rv, _, hz, fin⟩ := ok.peek .refl ei hs h
        refine ⟨v, e1, ?_⟩
        exact hr Z1 H [v] [d] (e, 0) Q hz (.cons (o := []) (p := []) rv (.nil 0)) eg fun u Z' H' o gr ru => fin u Z' H' o gr _ ru
      · exact h.elim
    · exact h.elim
  · exact h.elim
def bor2 (g : D → D → Option (D × Nat)) (fa : Ev) (i : Nat) : Ev := fun sd => (fa sd).bind fun x sd1 => match sd1[i]? with
  | some (some (d, _)) => match g x.1 d with
    | some (e, 0) => if scD e then .ok (e, 0) sd1 else .stuck
    | _ => .stuck
  | _ => .stuck
theorem tE_bor2 {K : PySem.W.Frag} {mg : Mg} {r : R2} {g : D → D → Option (D × Nat)} {i : Nat} (hg : Vr2 K r g) {σ : St} {H : Hp} {Q : VK} (h : tE K mg W (bor2 g fa i) σ H Q) : tOp r (tE K mg W fa) (tVar i) σ H Q := by
  obtain ⟨Z, F, sd, ok, h⟩ := h
  unfold bor2 at h
  refine eP.seq (G := fun _ _ => True) ok (fun w1 sd1 e2 y Z1 H1 ry ok1 x1 => ?_) (fun x sd1 e2 => ?_) (fun e2 => ?_)
  · rw [e2, R.bind_ok] at h
    split at h
    · rename_i d k ei
      split at h
      · rename_i e eg
        split at h
        · rename_i hs
          obtain ⟨v, Z2, e1, rv, zz, hz, fin⟩ := ok1.peek x1 ei hs h
          refine ⟨v, e1, ?_⟩
          have ry2 : Rp K Z2 H1 y w1.1 0 [] := ry.keep (fun a z => ⟨zz a z, rfl⟩) fun a m => absurd m List.not_mem_nil
          exact hg Z2 H1 y v w1.1 d (e, 0) Q hz ry2 rv eg fun u Z' H' o gr ru => fin u Z' H' o gr _ ru
        · exact h.elim
      · exact h.elim
    · exact h.elim
  · rw [e2] at h; exact h
  · rw [e2] at h; exact h
/-- e in x, x a name -/
theorem se_bor2 {op : CmpOp} {r : R2} {g : D → D → Option (D × Nat)} {y : Str} (i : Nat) (ho : OpR X (compareOp op) r) (hg : Vr2 X.K r g) (ha : SE X W a fa)
    (hN : X.N[i]? = some y := by rfl) (hvy : Vis X.env.scope y := by first | exact Or.inl rfl | exact Or.inr (Or.inl rfl) | exact Or.inr (Or.inr rfl)) (hd : (y == ("__debug__" : Str)) = false := by decide) (hcd : (y == ("__classdict__" : Str)) = false := by decide)
    (hm : behindInMarks op (.Name y q) = false := by first | exact nomark _ | rfl) : SE X W (.Compare a [op] [.Name y q] pos) (bor2 g fa i) :=
  PE.imp (pe_cmpR ho ha (pe_var hN hvy hd hcd) hm) fun _ _ _ h => tE_bor2 hg h
theorem st_bor2 {op : CmpOp} {r : R2} {g : D → D → Option (D × Nat)} {y : Str} (i : Nat) (ho : OpR X (compareOp op) r) (hg : Vr2 X.K r g) (ha : SE X W a fa)
    (hN : X.N[i]? = some y := by rfl) (hvy : Vis X.env.scope y := by first | exact Or.inl rfl | exact Or.inr (Or.inl rfl) | exact Or.inr (Or.inr rfl)) (hd : (y == ("__debug__" : Str)) = false := by decide) (hcd : (y == ("__classdict__" : Str)) = false := by decide)
    (hm : behindInMarks op (.Name y q) = false := by first | exact nomark _ | rfl) : ST X W (.Compare a [op] [.Name y q] pos) (tst (bor2 g fa i)) :=
  PT.imp (pt_cmpR ho ha (pe_var hN hvy hd hcd) hm) fun _ _ _ h => tT_tst (fun _ _ _ h => tE_bor2 hg h) h
end
end VS
/-! VS6: slices, targets, what is walked, list comprehensions, calls of own defs. -/
namespace VS
open PySem PySem.Spec L2

/-! ### slices -/
abbrev Eo := SD → R (Option Int)
def poN : Eo := fun sd => .ok none sd
def poS (f : Ev) : Eo := fun sd => (f sd).bind fun x sd1 => match x.1 with
  | .int i => .ok (some i) sd1
  | _ => .stuck
def slE (fa : Ev) (fl fh : Eo) : Ev := fun sd => (fa sd).bind fun x sd1 => (fl sd1).bind fun l sd2 => (fh sd2).bind fun h sd3 => lift (gSl x.1 l h) sd3
section
variable (K : PySem.W.Frag) (mg : Mg) (W : WX)
def oP (Z F : Pz) (σ : St) (H : Hp) (r : R (Option Int)) (Q : Option Int → Hp → Prop) : Prop := match r with
  | .ok b sd' => ∀ Z' H', Ok K Z' F H' σ sd' → Ext F Z H Z' H' → Q b H'
  | .exc x sd' => excP K mg W Z F σ H x sd'
  | .stuck => False
def tO (f : Eo) : TO := fun σ H Q => ∃ Z F sd, Ok K Z F H σ sd ∧ oP K mg W Z F σ H (f sd) Q
end
section
variable {K : PySem.W.Frag} {mg : Mg} {W : WX} {Z Z1 F : Pz} {H H1 : Hp} {σ : St}
theorem oP.seq {f : Eo} {Q : Option Int → Hp → Prop} {sd : SD} (ok : Ok K Z F H σ sd)
    (hok : ∀ b sd1, f sd = .ok b sd1 → ∀ Z1 H1, Ok K Z1 F H1 σ sd1 → Ext F Z H Z1 H1 → Q b H1)
    (hex : ∀ x sd1, f sd = .exc x sd1 → excP K mg W Z F σ H x sd1) (hst : f sd = .stuck → False) : tO K mg W f σ H Q := by
  refine ⟨Z, F, sd, ok, ?_⟩
  cases e : f sd with
  | ok w sd1 => exact hok w sd1 e
  | exc x sd1 => exact hex x sd1 e
  | stuck => exact hst e
end
def SO (X : Cx) (W : WX) (e : Option Expr) (f : Eo) : Prop := PO X e (tO X.K X.mg W f)
theorem PO.imp {X : Cx} {e : Option Expr} {t t' : TO} (h : PO X e t) (w : ∀ σ H Q, t' σ H Q → t σ H Q) : PO X e t' := by
  refine ⟨?_⟩
  intros
  exact h.run _ _ _ _ _ (by assumption) (w _ _ _ (by assumption))
section
variable {X : Cx} {W : WX} {pos p q : Pos} {a b : Expr} {fa fb : Ev}
theorem so_none : SO X W none poN := PO.imp po_none fun σ H Q ⟨Z, F, sd, ok, h⟩ => h Z H ok .refl
theorem so_some (h : SE X W a fa) : SO X W (some a) (poS fa) := PO.imp (po_some h) fun σ H Q ⟨Z, F, sd, ok, h⟩ => by
  unfold poS at h
  refine eP.seq (G := fun _ _ => True) ok (fun w1 sd1 e2 y Z1 H1 ry ok1 x1 => ?_) (fun x sd1 e2 => ?_) (fun e2 => ?_)
  · rw [e2, R.bind_ok] at h
    split at h
    · rename_i i ei
      rw [ei] at ry
      cases ry
      exact ⟨i, rfl, h Z1 H1 ok1 x1⟩
    · exact h.elim
  · rw [e2] at h; exact h
  · rw [e2] at h; exact h
theorem se_sl {lo hi : Option Expr} {fl fh : Eo} {p2 : Pos} (ha : SE X W a fa) (hl : SO X W lo fl) (hh : SO X W hi fh) : SE X W (.Subscript a (.Slice lo hi none p2) pos) (slE fa fl fh) := by
  refine PE.imp (pe_slice sl_all ha hl hh) fun σ H Q ⟨Z, F, sd, ok, h⟩ => ?_
  unfold slE at h
  refine eP.seq (G := fun _ _ => True) ok (fun w1 sd1 e1 y Z1 H1 ry ok1 x1 => ?_) (fun x sd1 e2 => ?_) (fun e2 => ?_)
  · rw [e1, R.bind_ok] at h
    refine oP.seq ok1 (fun l sd2 e2 Z2 H2 ok2 x2 => ?_) (fun x sd2 e2 => ?_) (fun e2 => ?_)
    · rw [e2, R.bind_ok] at h
      refine oP.seq ok2 (fun u sd3 e3 Z3 H3 ok3 x3 => ?_) (fun x sd3 e3 => ?_) (fun e3 => ?_)
      · rw [e3, R.bind_ok] at h
        have ry3 : Rp X.K Z3 H3 y w1.1 0 [] := ry.keep (x2.trans x3).z fun _ m => absurd m List.not_mem_nil
        cases eg : gSl w1.1 l u with
        | none => rw [eg] at h; exact h.elim
        | some w =>
          rw [eg, lift_some] at h
          exact vr_sl Z3 H3 y _ l u w Q ok3.base.z ry3 eg fun v Z' H' o gr rv => eP.fin h ((x1.trans x2).trans x3) ok3 gr rv
      · rw [e3] at h; exact excP.go0 h (x1.trans x2)
      · rw [e3] at h; exact h
    · rw [e2] at h; exact excP.go0 h x1
    · rw [e2] at h; exact h
  · rw [e2] at h; exact h
  · rw [e2] at h; exact h
end

/-! ### targets: the slots vs are set, nothing else -/
abbrev Tg := D → SD → Option SD
def gN (i : Nat) : Tg := fun d sd => some (sd.set i (some (d, 0)))
def gNs : List Tg → List D → SD → Option SD
  | [], [], sd => some sd
  | g :: gs, d :: ds, sd => (g d sd).bind fun sd1 => gNs gs ds sd1
  | _, _, _ => none
def gT (gs : List Tg) : Tg := fun d sd => match d with
  | .tup ds => gNs gs ds sd
  | .lst ds => gNs gs ds sd
  | _ => none
/-- σ' is σ but for the slots vs -/
def Dif (vs : List Nat) (σ σ' : St) : Prop := σ'.length = σ.length ∧ ∀ i, i ∉ vs → σ'[i]? = σ[i]?
theorem Dif.refl {vs : List Nat} {σ : St} : Dif vs σ σ := ⟨rfl, fun _ _ => rfl⟩
theorem Dif.trans {vs : List Nat} {σ σ1 σ2 : St} (a : Dif vs σ σ1) (b : Dif vs σ1 σ2) : Dif vs σ σ2 := ⟨b.1.trans a.1, fun i h => (b.2 i h).trans (a.2 i h)⟩
theorem Dif.mono {vs ws : List Nat} {σ σ' : St} (a : Dif vs σ σ') (h : ∀ i ∈ vs, i ∈ ws) : Dif ws σ σ' := ⟨a.1, fun i n => a.2 i fun m => n (h i m)⟩
theorem wipe_at {σ : St} {vs : List Nat} {i : Nat} : (wipe σ vs)[i]? = if i ∈ vs then (if i < σ.length then some none else none) else σ[i]? := by
  induction vs with
  | nil => simp [wipe]
  | cons v vs ih =>
    unfold wipe
    by_cases h : v = i
    · subst h
      rw [if_pos List.mem_cons_self]
      by_cases hl : v < σ.length
      · rw [List.getElem?_set_self (by rw [wipe_length]; exact hl), if_pos hl]
      · rw [if_neg hl]
        exact List.getElem?_eq_none (by rw [List.length_set, wipe_length]; omega)
    · rw [List.getElem?_set_ne h, ih]
      have : i ∈ v :: vs ↔ i ∈ vs := by simp [Ne.symm h]
      by_cases m : i ∈ vs
      · rw [if_pos m, if_pos (this.mpr m)]
      · rw [if_neg m, if_neg fun z => m (this.mp z)]
theorem Dif.wipe {vs : List Nat} {σ σ' : St} (a : Dif vs σ σ') : wipe σ' vs = wipe σ vs := by
  refine List.ext_getElem? fun i => ?_
  rw [wipe_at, wipe_at, a.1]
  by_cases m : i ∈ vs
  · rw [if_pos m, if_pos m]
  · rw [if_neg m, if_neg m]
    exact a.2 i m
section
variable (K : PySem.W.Frag)
def gP (vs : List Nat) (g : Tg) : TG := fun v σ H Q => ∃ Z F sd d, Ok K Z F H σ sd ∧ Rp K Z H v d 0 [] ∧ match g d sd with
  | some sd' => ∀ σ', Ok K Z F H σ' sd' → Dif vs σ σ' → Q σ' H
  | none => False
def gPs (vs : List Nat) (gs : List Tg) : TGs := fun us σ H Q => ∃ Z F sd ds, Ok K Z F H σ sd ∧ RpAll K Z H us ds 0 [] ∧ match gNs gs ds sd with
  | some sd' => ∀ σ', Ok K Z F H σ' sd' → Dif vs σ σ' → Q σ' H
  | none => False
end
def SG (X : Cx) (vs : List Nat) (e : Expr) (g : Tg) : Prop := PG X e (gP X.K vs g)
def SGs (X : Cx) (vs : List Nat) (es : List Expr) (gs : List Tg) : Prop := PGs X es (gPs X.K vs gs)
theorem PG.imp {X : Cx} {e : Expr} {t t' : TG} (h : PG X e t) (w : ∀ v σ H Q, t' v σ H Q → t v σ H Q) : PG X e t' := ⟨fun pins s σ H v u Q I r q => h.run pins s σ H v u Q I r (w _ _ _ _ q)⟩
theorem PGs.imp {X : Cx} {e : List Expr} {t t' : TGs} (h : PGs X e t) (w : ∀ v σ H Q, t' v σ H Q → t v σ H Q) : PGs X e t' := ⟨fun pins s σ H v u Q I r q => h.run pins s σ H v u Q I r (w _ _ _ _ q)⟩
theorem Ok.store {K : PySem.W.Frag} {Z F : Pz} {H : Hp} {σ : St} {sd : SD} {i : Nat} {v : V} {d : D} {k : Nat} {p : List Addr} (h : Ok K Z (uni F p) H σ sd) (r : Rp K Z H v d k p) (nd : p.Nodup) (nf : ∀ a ∈ p, ¬ F a) : Ok K Z F H (σ.set i (some v)) (sd.set i (some (d, k))) := by
  by_cases hi : i < sd.length
  · exact h.put r nd nf hi
  · have e1 : sd.set i (some (d, k)) = sd := List.set_eq_of_length_le (by omega)
    have e2 : σ.set i (some v) = σ := List.set_eq_of_length_le (by have := h.length; omega)
    rw [e1, e2]
    exact h.less fun _ z => .inl z
theorem Dif.set {σ : St} {i : Nat} {v : Option V} {vs : List Nat} (h : i ∈ vs) : Dif vs σ (σ.set i v) := ⟨List.length_set, fun j n => List.getElem?_set_ne fun e => n (by rw [← e]; exact h)⟩
section
variable {X : Cx} {pos : Pos}
theorem sg_n (i : Nat) {x : Str} {vs : List Nat} (hN : X.N.Nodup) (hi : X.N[i]? = some x := by rfl) (hx : Loc X.env.scope x := by first | exact Or.inl rfl | exact Or.inr rfl) (hf : X.fn x = true ∨ X.env.scope.names.lookup x = some .local := by first | exact .inl rfl | exact .inr rfl) (hv : i ∈ vs := by decide) : SG X vs (.Name x pos) (gN i) := by
  refine PG.imp (pg_name hN hi hx hf) fun v σ H Q ⟨Z, F, sd, d, ok, r, h⟩ => ?_
  exact h _ (ok.unnil.store r .nil fun _ m => absurd m List.not_mem_nil) (.set hv)
theorem sgs_nil {vs : List Nat} : SGs X vs [] [] := by
  refine PGs.imp pgs_nil fun us σ H Q ⟨Z, F, sd, ds, ok, r, h⟩ => ?_
  cases ds with
  | nil =>
    cases us with
    | nil => exact ⟨rfl, h σ ok .refl⟩
    | cons _ _ => have := r.length; cases this
  | cons _ _ => exact h.elim
theorem sgs_cons {e : Expr} {es : List Expr} {vs : List Nat} {g : Tg} {gs : List Tg} (h1 : SG X vs e g) (h2 : SGs X vs es gs) (hs : (assignEach (e :: es) X.env).map (·.2) = assign e X.env :: (assignEach es X.env).map (·.2) := by rfl) : SGs X vs (e :: es) (g :: gs) := by
  refine PGs.imp (pgs_cons h1 h2 hs) fun us σ H Q ⟨Z, F, sd, ds, ok, r, h⟩ => ?_
  cases ds with
  | nil => exact h.elim
  | cons d ds =>
    cases us with
    | nil => have := r.length; cases this
    | cons u us =>
      obtain ⟨r1, r2⟩ := r.uncons
      simp only [gNs] at h
      refine ⟨u, us, rfl, Z, F, sd, d, ok, r1, ?_⟩
      cases eg : g d sd with
      | none => rw [eg] at h; exact h
      | some sd1 =>
        rw [eg] at h
        intro σ1 ok1 df1
        refine ⟨Z, F, sd1, ds, ok1, r2, ?_⟩
        simp only [Option.bind_some] at h
        cases eg2 : gNs gs ds sd1 with
        | none => rw [eg2] at h; exact h
        | some sd2 =>
          rw [eg2] at h
          exact fun σ2 ok2 df2 => h σ2 ok2 (df1.trans df2)
theorem gNs_len : ∀ {gs : List Tg} {ds : List D} {sd sd' : SD}, gNs gs ds sd = some sd' → gs.length = ds.length
  | [], [], _, _, _ => rfl
  | g :: gs, d :: ds, sd, sd', h => by
    simp only [gNs] at h
    obtain ⟨sd1, _, h2⟩ := Option.bind_eq_some_iff.mp h
    rw [List.length_cons, List.length_cons, gNs_len h2]
  | [], _ :: _, _, _, h => by simp [gNs] at h
  | _ :: _, [], _, _, h => by simp [gNs] at h
theorem pg_seq {es : List Expr} {k : Nat} {t : TGs} {n : Nat} (hc : X.calm = true) (h : PGs X es t)
    (hn : (assignEach es X.env).length = n := by rfl) (hst : (assignEach es X.env).findIdx? (·.1) = none := by rfl) : PG X (.Tuple es k pos) (fun v σ H Q => gTup X.K n t v σ H Q ∨ gLst X.K n t v σ H Q) :=
  ⟨fun pins s σ H v u Q I r hw => hw.elim (fun hw => (pg_tup hc h hn hst).run pins s σ H v u Q I r hw) fun hw => (pg_lst hc h hn hst).run pins s σ H v u Q I r hw⟩
theorem sg_t {es : List Expr} {k : Nat} {vs : List Nat} {gs : List Tg} (hc : X.calm = true) (h : SGs X vs es gs) (hn : (assignEach es X.env).length = gs.length := by rfl) (hst : (assignEach es X.env).findIdx? (·.1) = none := by rfl) : SG X vs (.Tuple es k pos) (gT gs) := by
  refine PG.imp (pg_seq (n := gs.length) hc h hn hst) fun v σ H Q ⟨Z, F, sd, d, ok, r, hh⟩ => ?_
  unfold gT at hh
  split at hh
  · rename_i ds sd' e
    split at e
    · rename_i ds
      generalize e0 : ([] : List Addr) = o0 at r
      cases r with
      | tup _ z hc' ra =>
        refine .inl ⟨_, _, rfl, .of hc', ?_, Z, F, sd, ds, ok, ra, ?_⟩
        · rw [ra.length, gNs_len e]
        · rw [e]; exact hh
    · rename_i ds
      generalize e0 : ([] : List Addr) = o0 at r
      cases r with
      | lst0 z hc' ra =>
        refine .inr ⟨_, _, rfl, .of hc', ?_, Z, F, sd, ds, ok, ra, ?_⟩
        · rw [ra.length, gNs_len e]
        · rw [e]; exact hh
    · cases e
  · exact hh.elim
end

/-! ### what is walked -/
abbrev Ei := SD → R (List D)
/-- the iterator's turns are the items -/
def ItOk (K : PySem.W.Frag) (J : It) (items : List D) (Z0 : Pz) (H0 : Hp) : Prop := ∀ (i : Nat) (Z : Pz) (H : Hp), (∀ a, Z0 a → Z a ∧ H a = H0 a) → (∀ a, Z a → ∃ o, H a = some o) →
  (items.length ≤ i → J.stop i H) ∧ ∀ d, items[i]? = some d → J.go i H ∧ ∀ x H', J.yld i H x H' → ∃ Z', Gr Z H Z' H' [] ∧ Rp K Z' H' x d 0 []
section
variable (K : PySem.W.Frag) (mg : Mg) (W : WX)
def iP (Z F : Pz) (σ : St) (H : Hp) (r : R (List D)) (R' : It → Hp → Prop) : Prop := match r with
  | .ok items sd' => ∀ J Z' H', ItOk K J items Z' H' → Ok K Z' F H' σ sd' → Ext F Z H Z' H' → R' J H'
  | .exc x sd' => excP K mg W Z F σ H x sd'
  | .stuck => False
def tI (f : Ei) : TI := fun σ H R' => ∃ Z F sd, Ok K Z F H σ sd ∧ iP K mg W Z F σ H (f sd) R'
end
def SI (X : Cx) (W : WX) (tg iter : Expr) (f : Ei) : Prop := PI X tg iter (tI X.K X.mg W f)
theorem PI.imp {X : Cx} {tg iter : Expr} {t t' : TI} (h : PI X tg iter t) (w : ∀ σ H R', t' σ H R' → t σ H R') : PI X tg iter t' := ⟨fun pins s σ H R' I q => h.run pins s σ H R' I (w _ _ _ q)⟩
/-- a list or tuple walked -/
def iAny (f : Ev) : Ei := fun sd => (f sd).bind fun x sd1 => match x.1 with
  | .lst ds => .ok ds sd1
  | .tup ds => .ok ds sd1
  | _ => .stuck
def rngD (lo : Int) (n : Nat) : List D := (List.range n).map fun (i : Nat) => .int (lo + (i : Int))
def iR1 (f : Ev) : Ei := fun sd => (f sd).bind fun x sd1 => match x.1 with
  | .int n => if -(2 ^ 62) ≤ n ∧ n < 2 ^ 62 then .ok (rngD 0 n.toNat) sd1 else .stuck
  | _ => .stuck
def iR2 (f g : Ev) : Ei := fun sd => (f sd).bind fun x sd1 => (g sd1).bind fun y sd2 => match x.1, y.1 with
  | .int m, .int n => if -(2 ^ 62) ≤ m ∧ m < 2 ^ 62 ∧ -(2 ^ 62) ≤ n ∧ n < 2 ^ 62 then .ok (rngD m (n - m).toNat) sd2 else .stuck
  | _, _ => .stuck
def enumFrom : Nat → List D → List D
  | _, [] => []
  | i, d :: ds => .tup [.int i, d] :: enumFrom (i + 1) ds
theorem enumFrom_at : ∀ (ds : List D) (j i : Nat), (enumFrom j ds)[i]? = (ds[i]?).map fun d => .tup [.int ((j + i : Nat) : Int), d]
  | [], _, _ => by simp [enumFrom]
  | d :: ds, j, 0 => by simp [enumFrom]
  | d :: ds, j, i + 1 => by
    simp only [enumFrom, List.getElem?_cons_succ]
    rw [enumFrom_at ds (j + 1) i]
    have : j + 1 + i = j + (i + 1) := by omega
    rw [this]
theorem enumFrom_len : ∀ (ds : List D) (j : Nat), (enumFrom j ds).length = ds.length
  | [], _ => rfl
  | d :: ds, j => by simp [enumFrom, enumFrom_len ds]
def iEnumL (f : Ev) : Ei := fun sd => (f sd).bind fun x sd1 => match x.1 with
  | .lst ds => .ok (enumFrom 0 ds) sd1
  | _ => .stuck
def iRev' (f : Ev) : Ei := fun sd => (f sd).bind fun x sd1 => match x.1 with
  | .lst ds => .ok ds.reverse sd1
  | .tup ds => .ok ds.reverse sd1
  | _ => .stuck
section
variable {K : PySem.W.Frag} {mg : Mg} {W : WX} {Z Z' F : Pz} {H H' : Hp} {σ : St}
theorem ItOk.lst {a : Addr} {xs : List V} {ds : List D} (z : Z a) (h : H a = some (.lst xs)) (r : RpAll K Z H xs ds 0 []) : ItOk K (Itl K a) ds Z H := by
  intro i Z2 H2 st hz
  obtain ⟨z2, e2⟩ := st a z
  have h2 : SqL K H2 a xs := .of (e2.trans h)
  refine ⟨fun hi => ⟨xs, h2, by rw [r.length]; exact hi⟩, fun d hd => ?_⟩
  obtain ⟨v, hv, rv⟩ := r.get hd
  refine ⟨⟨xs, v, h2, hv⟩, fun x H' y => ?_⟩
  obtain ⟨e, y⟩ := y
  subst e
  have := y xs h2
  rw [hv] at this
  cases this
  exact ⟨Z2, .refl, rv.keep st fun a m => absurd m List.not_mem_nil⟩
theorem ItOk.tup {a : Addr} {xs : List V} {ds : List D} (z : Z a) (h : H a = some (.tup xs)) (r : RpAll K Z H xs ds 0 []) : ItOk K (Itt K a) ds Z H := by
  intro i Z2 H2 st hz
  obtain ⟨z2, e2⟩ := st a z
  have h2 : SqT K H2 a xs := .of (e2.trans h)
  refine ⟨fun hi => ⟨xs, h2, by rw [r.length]; exact hi⟩, fun d hd => ?_⟩
  obtain ⟨v, hv, rv⟩ := r.get hd
  refine ⟨⟨xs, v, h2, hv⟩, fun x H' y => ?_⟩
  obtain ⟨e, y⟩ := y
  subst e
  have := y xs h2
  rw [hv] at this
  cases this
  exact ⟨Z2, .refl, rv.keep st fun a m => absurd m List.not_mem_nil⟩
theorem ItOk.rng (lo : Int) (n : Nat) : ItOk K (Itr lo n) (rngD lo n) Z H := by
  intro i Z2 H2 st hz
  unfold rngD
  refine ⟨fun hi => by rw [List.length_map, List.length_range] at hi; exact hi, fun d hd => ?_⟩
  rw [List.getElem?_map] at hd
  obtain ⟨j, e1, rfl⟩ := Option.map_eq_some_iff.mp hd
  obtain ⟨hj, e3⟩ := List.getElem?_eq_some_iff.mp e1
  rw [List.length_range] at hj
  rw [List.getElem_range] at e3
  subst e3
  refine ⟨hj, fun x H' y => ?_⟩
  obtain ⟨e, y⟩ := y
  subst e
  subst y
  exact ⟨Z2, .refl, .int _ _⟩
theorem ItOk.enum {a : Addr} {xs : List V} {ds : List D} (z : Z a) (h : H a = some (.lst xs)) (r : RpAll K Z H xs ds 0 []) : ItOk K (Ite K a) (enumFrom 0 ds) Z H := by
  intro i Z2 H2 st hz
  obtain ⟨z2, e2⟩ := st a z
  have h2 : SqL K H2 a xs := .of (e2.trans h)
  refine ⟨fun hi => ⟨xs, h2, by rw [enumFrom_len] at hi; rw [r.length]; exact hi⟩, fun d hd => ?_⟩
  rw [enumFrom_at] at hd
  obtain ⟨d', hd', rfl⟩ := Option.map_eq_some_iff.mp hd
  obtain ⟨v, hv, rv⟩ := r.get hd'
  refine ⟨⟨xs, v, h2, hv⟩, fun x H' y => ?_⟩
  obtain ⟨T, u, rfl, hT, e, y⟩ := y
  subst e
  have := y xs h2
  rw [hv] at this
  cases this
  have rv2 : Rp K Z2 H2 v d' 0 [] := rv.keep st fun a m => absurd m List.not_mem_nil
  refine ⟨fun a => Z2 a ∨ a = T, Gr.fz hT, .tup 0 (.inr rfl) upd_same ?_⟩
  rw [Nat.zero_add]
  exact .cons (o := []) (p := []) (.int _ _) (.cons (o := []) (p := []) (Gr.rp (Gr.fz hT) hz rv2) (.nil 0))
theorem ItOk.revL {a : Addr} {xs : List V} {ds : List D} (z : Z a) (h : H a = some (.lst xs)) (r : RpAll K Z H xs ds 0 []) : ItOk K (Itv K a xs.length) ds.reverse Z H := by
  intro i Z2 H2 st hz
  obtain ⟨z2, e2⟩ := st a z
  have h2 : SqL K H2 a xs := .of (e2.trans h)
  have rr := r.rev
  refine ⟨fun hi => ?_, fun d hd => ?_⟩
  · rw [List.length_reverse] at hi
    show xs.length ≤ i
    rw [r.length]; exact hi
  · obtain ⟨v, hv, rv⟩ := rr.get hd
    obtain ⟨hi, _⟩ := List.getElem?_eq_some_iff.mp hv
    rw [List.length_reverse] at hi
    rw [List.getElem?_reverse hi] at hv
    refine ⟨⟨hi, xs, v, h2, hv⟩, fun x H' y => ?_⟩
    obtain ⟨e, y⟩ := y
    subst e
    have := y xs h2
    rw [hv] at this
    cases this
    exact ⟨Z2, .refl, rv.keep st fun a m => absurd m List.not_mem_nil⟩
end
section
variable {X : Cx} {W : WX} {pos p q : Pos} {tg a b : Expr} {fa fb : Ev}
theorem si_any (ha : SE X W a fa) : SI X W tg a (iAny fa) := by
  refine ⟨fun pins s σ H R' I ⟨Z, F, sd, ok, h⟩ => ?_⟩
  unfold iAny at h
  cases e : fa sd with
  | ok w sd1 =>
    rw [e, R.bind_ok] at h
    split at h
    · rename_i ds ew
      refine (pi_list ha).run pins s σ H R' I ?_
      refine eP.seq (G := fun _ _ => True) ok (fun w1 sd1' e1 y Z1 H1 ry ok1 x1 => ?_) (fun x sd1 e2 => ?_) (fun e2 => ?_)
      · rw [e] at e1; cases e1
        rw [ew] at ry
        generalize e0 : ([] : List Addr) = o0 at ry
        cases ry with
        | lst0 z hh r => exact ⟨_, rfl, ⟨_, .of hh⟩, h _ Z1 H1 (ItOk.lst z hh r) ok1 x1⟩
      · rw [e] at e2; cases e2
      · rw [e] at e2; cases e2
    · rename_i ds ew
      refine (pi_tup ha).run pins s σ H R' I ?_
      refine eP.seq (G := fun _ _ => True) ok (fun w1 sd1' e1 y Z1 H1 ry ok1 x1 => ?_) (fun x sd1 e2 => ?_) (fun e2 => ?_)
      · rw [e] at e1; cases e1
        rw [ew] at ry
        generalize e0 : ([] : List Addr) = o0 at ry
        cases ry with
        | tup _ z hh r => exact ⟨_, rfl, ⟨_, .of hh⟩, h _ Z1 H1 (ItOk.tup z hh r) ok1 x1⟩
      · rw [e] at e2; cases e2
      · rw [e] at e2; cases e2
    · exact h.elim
  | exc x sd1 =>
    rw [e] at h
    refine (pi_list ha).run pins s σ H R' I (eP.seq (G := fun _ _ => True) ok (fun w1 sd1' e1 => ?_) (fun x sd1 e2 => ?_) (fun e2 => ?_))
    · rw [e] at e1; cases e1
    · rw [e] at e2; cases e2; exact h
    · rw [e] at e2; cases e2
  | stuck => rw [e] at h; exact h.elim
theorem si_r1 (ha : SE X W a fa) (hg : Gl X "range") (hm : X.mg "range" = none) (hst : starEach [a] X.env = (false, eval a X.env) :: starEach [] X.env := by rfl) (hs : starEach [a] X.env = [(false, eval a X.env)] := by rfl) : SI X W tg (.Call (.Name "range" p) [a] [] pos) (iR1 fa) := by
  refine PI.imp (pi_range1 hg hm (pa_cons ha pa_nil hst) hs) fun σ H R' ⟨Z, F, sd, ok, h⟩ => ?_
  unfold iR1 at h
  refine eP.seq (G := fun _ _ => True) ok (fun w1 sd1 e1 y Z1 H1 ry ok1 x1 => ?_) (fun x sd1 e2 => ?_) (fun e2 => ?_)
  · rw [e1, R.bind_ok] at h
    split at h
    · rename_i n en
      rw [en] at ry
      cases ry
      split at h
      · rename_i hn
        exact ⟨n, rfl, hn.1, hn.2, h _ Z1 H1 (ItOk.rng 0 n.toNat) ok1 x1⟩
      · exact h.elim
    · exact h.elim
  · rw [e2] at h; exact h
  · rw [e2] at h; exact h
theorem si_r2 (ha : SE X W a fa) (hb : SE X W b fb) (hg : Gl X "range") (hm : X.mg "range" = none) (hst : starEach [a, b] X.env = (false, eval a X.env) :: starEach [b] X.env := by rfl) (hst2 : starEach [b] X.env = (false, eval b X.env) :: starEach [] X.env := by rfl)
    (hs : starEach [a, b] X.env = [(false, eval a X.env), (false, eval b X.env)] := by rfl) (hs2 : starEach [b] X.env = [(false, eval b X.env)] := by rfl) : SI X W tg (.Call (.Name "range" p) [a, b] [] pos) (iR2 fa fb) := by
  refine PI.imp (pi_range2 hg hm (pa_cons ha (pa_cons hb pa_nil hst2) hst) hs hs2) fun σ H R' ⟨Z, F, sd, ok, h⟩ => ?_
  unfold iR2 at h
  refine eP.seq (G := fun _ _ => True) ok (fun w1 sd1 e1 y Z1 H1 ry ok1 x1 => ?_) (fun x sd1 e2 => ?_) (fun e2 => ?_)
  · rw [e1, R.bind_ok] at h
    refine eP.seq (G := fun _ _ => True) ok1 (fun w2 sd2 e2 y2 Z2 H2 ry2 ok2 x2 => ?_) (fun x sd1 e2 => ?_) (fun e2 => ?_)
    · rw [e2, R.bind_ok] at h
      split at h
      · rename_i m n em en
        rw [em] at ry
        rw [en] at ry2
        cases ry
        cases ry2
        split at h
        · rename_i hn
          exact ⟨m, n, rfl, ⟨hn.1, hn.2.1, hn.2.2.1, hn.2.2.2⟩, h _ Z2 H2 (ItOk.rng m _) ok2 (x1.trans x2)⟩
        · exact h.elim
      · exact h.elim
    · rw [e2] at h; exact excP.go0 h x1
    · rw [e2] at h; exact h
  · rw [e2] at h; exact h
  · rw [e2] at h; exact h
theorem si_enumL {elts : List Expr} {kk : Nat} {tpos : Pos} (ha : SE X W a fa) (hg : Gl X "enumerate") (hm : X.mg "enumerate" = none) (hst : starEach [a] X.env = (false, eval a X.env) :: starEach [] X.env := by rfl) (hs : starEach [a] X.env = [(false, eval a X.env)] := by rfl) :
    SI X W (.Tuple elts kk tpos) (.Call (.Name "enumerate" p) [a] [] pos) (iEnumL fa) := by
  refine PI.imp (pi_enum hg hm (pa_cons ha pa_nil hst) hs) fun σ H R' ⟨Z, F, sd, ok, h⟩ => ?_
  unfold iEnumL at h
  refine eP.seq (G := fun _ _ => True) ok (fun w1 sd1 e1 y Z1 H1 ry ok1 x1 => ?_) (fun x sd1 e2 => ?_) (fun e2 => ?_)
  · rw [e1, R.bind_ok] at h
    split at h
    · rename_i ds en
      rw [en] at ry
      generalize e0 : ([] : List Addr) = o0 at ry
      cases ry with
      | lst0 z hh r => exact ⟨_, _, rfl, .of hh, h _ Z1 H1 (ItOk.enum z hh r) ok1 x1⟩
    · exact h.elim
  · rw [e2] at h; exact h
  · rw [e2] at h; exact h
end

/-! ### list comprehensions -/
def wp (sd : SD) : List Nat → SD
  | [] => sd
  | v :: vs => (wp sd vs).set v none
def lcGo (vs : List Nat) (g : Tg) (ft : Et) (fe : Ev) : List D → SD → List D → R (List D)
  | [], sd, acc => .ok acc sd
  | d :: ds, sd, acc => match g d (wp sd vs) with
    | none => .stuck
    | some sd1 => match ft sd1 with
      | .ok true sd2 => match fe sd2 with
        | .ok y sd3 => if acc.length < sizeLine then lcGo vs g ft fe ds sd3 (acc ++ [y.1]) else .stuck
        | _ => .stuck
      | .ok false sd2 => lcGo vs g ft fe ds sd2 acc
      | _ => .stuck
def lcS (vs : List Nat) (fi : Ei) (g : Tg) (ft : Et) (fe : Ev) : Ev := fun sd => (fi sd).bind fun items sd1 => (lcGo vs g ft fe items sd1 []).bind fun out sd2 => .ok (.lst out, 1) (wp sd2 vs)
def W0 : WX := fun _ _ _ _ => False
def tYes' : Et := fun sd => .ok true sd
section
variable {K : PySem.W.Frag} {mg : Mg} {Z Z' F : Pz} {H H' : Hp} {σ : St} {sd : SD}
theorem Ok.wipe (ok : Ok K Z F H σ sd) : ∀ vs : List Nat, Ok K Z F H (L2.wipe σ vs) (wp sd vs)
  | [] => ok
  | v :: vs => by
    unfold L2.wipe wp
    have o1 := (Ok.wipe ok vs).forget v
    obtain ⟨o, s, nd, nf, b⟩ := o1.ex
    refine ⟨o, ?_, nd, nf, b⟩
    have hg : ∀ {σ : St} {sd : SD} {i : Nat} {o : List Addr}, Slots K Z H σ sd o → (sd[i]? = some none ∨ sd[i]? = none) → Slots K Z H (σ.set i none) sd o := by
      intro σ sd i o s
      induction s generalizing i with
      | nil => intro _; exact .nil
      | skip _ ih =>
        intro h
        cases i with
        | zero => exact .skip (by assumption)
        | succ i => exact .skip (ih h)
      | cons r _ ih =>
        intro h
        cases i with
        | zero => rcases h with h | h <;> cases h
        | succ i => exact .cons r (ih h)
    refine hg s ?_
    by_cases hl : v < (wp sd vs).length
    · exact .inl (by rw [List.getElem?_set_self hl])
    · exact .inr (List.getElem?_eq_none (by rw [List.length_set]; omega))
theorem Ok.unwipe {vs : List Nat} (ok : Ok K Z F H (L2.wipe σ vs) (wp sd vs)) : Ok K Z F H σ (wp sd vs) := by
  obtain ⟨o, s, nd, nf, b⟩ := ok.ex
  refine ⟨o, ?_, nd, nf, b⟩
  have hn : ∀ i ∈ vs, (wp sd vs)[i]? = some none ∨ (wp sd vs)[i]? = none := by
    intro i
    induction vs with
    | nil => intro h; cases h
    | cons v vs ih =>
      intro h
      unfold wp
      by_cases e : v = i
      · subst e
        by_cases hl : v < (wp sd vs).length
        · exact .inl (by rw [List.getElem?_set_self hl])
        · exact .inr (List.getElem?_eq_none (by rw [List.length_set]; omega))
      · rw [List.getElem?_set_ne e]
        rcases List.mem_cons.mp h with h | h
        · exact absurd h.symm e
        · by_cases hl : i < (wp sd vs).length
          · cases q : (wp sd vs)[i]? with
            | none => exact .inr rfl
            | some x =>
              cases x with
              | none => exact .inl rfl
              | some w =>
                exfalso
                have : ∀ (vs : List Nat), i ∈ vs → (wp sd vs)[i]? = some (some w) → False := by
                  intro vs
                  induction vs with
                  | nil => intro h; cases h
                  | cons u us ih2 =>
                    intro h q
                    unfold wp at q
                    by_cases e2 : u = i
                    · subst e2
                      by_cases hl : u < (wp sd us).length
                      · rw [List.getElem?_set_self hl] at q; cases q
                      · rw [List.getElem?_eq_none (by rw [List.length_set]; omega)] at q; cases q
                    · rw [List.getElem?_set_ne e2] at q
                      rcases List.mem_cons.mp h with h | h
                      · exact e2 h.symm
                      · exact ih2 h q
                exact this vs h q
          · exact .inr (List.getElem?_eq_none (by omega))
  have hg : ∀ {τ : St} {sd : SD} {o : List Addr}, Slots K Z H τ sd o → ∀ ρ : St, ρ.length = τ.length → (∀ (i : Nat) (w : D × Nat), sd[i]? = some (some w) → ρ[i]? = τ[i]?) → Slots K Z H ρ sd o := by
    intro τ sd o s
    induction s with
    | nil =>
      intro ρ hl _
      cases ρ with
      | nil => exact .nil
      | cons _ _ => cases hl
    | skip _ ih =>
      intro ρ hl h
      cases ρ with
      | nil => cases hl
      | cons r ρ => exact .skip (ih ρ (by simpa using hl) fun i w e => h (i + 1) w e)
    | cons r _ ih =>
      intro ρ hl h
      cases ρ with
      | nil => cases hl
      | cons x ρ =>
        have e := h 0 _ rfl
        cases e
        exact .cons r (ih ρ (by simpa using hl) fun i w e => h (i + 1) w e)
  refine hg s σ (wipe_length σ vs).symm fun i w e => ?_
  rw [wipe_at]
  by_cases m : i ∈ vs
  · rcases hn i m with q | q <;> (rw [q] at e; cases e)
  · rw [if_neg m]
end
section
variable {X : Cx} {W : WX}
theorem wipe_wipe {σ : St} {vs : List Nat} : wipe (wipe σ vs) vs = wipe σ vs := by
  refine List.ext_getElem? fun i => ?_
  rw [wipe_at, wipe_at, wipe_length]
  by_cases m : i ∈ vs
  · rw [if_pos m, if_pos m]
  · rw [if_neg m]
/-- what stands between two turns of a comprehension -/
structure LcI (K : PySem.W.Frag) (Z1 F : Pz) (H1 : Hp) (Z0 : Pz) (H0 : Hp) (p : Addr) (σw : St) (sdw : SD) (accD : List D) (Z' : Pz) (H' : Hp) : Prop where
  ok : Ok K Z' (uni F [p]) H' σw sdw
  ext : Ext F Z0 H0 Z' H'
  st : ∀ a, Z1 a → Z' a ∧ H' a = H1 a
  at_ : ∃ acc, H' p = some (.lst acc) ∧ RpAll K Z' H' acc accD 0 []
theorem lc_sound {vs : List Nat} {fi : Ei} {g : Tg} {ft : Et} {fe : Ev} {K : PySem.W.Frag} {mg : Mg} {σ : St} {H : Hp} {Q : VK} (h : tE K mg W (lcS vs fi g ft fe) σ H Q) : tLc (tI K mg W fi) (gP K vs g) (tT K mg W0 ft) (tE K mg W0 fe) vs σ H Q := by
  obtain ⟨Z, F, sd, ok, h⟩ := h
  refine ⟨Z, F, sd, ok, ?_⟩
  unfold lcS at h
  cases e : fi sd with
  | stuck => rw [e] at h; exact h.elim
  | exc x sd1 => rw [e] at h; exact h
  | ok items sd1 =>
    rw [e, R.bind_ok] at h
    intro J Z1 H1 it ok1 x1 p hp
    obtain ⟨okp, xp, nFp, nZp⟩ := ok1.new (o := .lst []) hp
    refine ⟨fun i m H' => m = items.length - i ∧ i ≤ items.length ∧ ∃ Z' sd' accD, LcI K Z1 F H1 Z H p (wipe σ vs) (wp sd' vs) accD Z' H' ∧
      eP K mg W Z F σ H ((lcGo vs g ft fe (items.drop i) sd' accD).bind fun out sd2 => .ok (.lst out, 1) (wp sd2 vs)) Q, ⟨_, rfl, Nat.zero_le _, Z1, sd1, [], ⟨okp.wipe vs, x1.trans xp, fun a z => xp.z a z, [], upd_same, .nil 0⟩, h⟩, ?_⟩
    rintro i m H' ⟨rfl, hi, Z', sd', accD, I, h'⟩
    obtain ⟨hstop, hgo⟩ := it i Z' H' I.st I.ok.base.z
    obtain ⟨acc, hacc, racc⟩ := I.at_
    by_cases hlt : i < items.length
    · refine .inr ?_
      have ed : items[i]? = some items[i] := List.getElem?_eq_getElem hlt
      obtain ⟨jg, jy⟩ := hgo _ ed
      refine ⟨jg, fun H' => ∃ Z' sd' accD, LcI K Z1 F H1 Z H p (wipe σ vs) (wp sd' vs) accD Z' H' ∧ eP K mg W Z F σ H ((lcGo vs g ft fe (items.drop (i + 1)) sd' accD).bind fun out sd2 => .ok (.lst out, 1) (wp sd2 vs)) Q,
        fun H' hN => ⟨items.length - (i + 1), by omega, rfl, hlt, hN⟩, fun x H2 y => ?_⟩
      obtain ⟨Z2, gr, rx⟩ := jy x H2 y
      have edrop : items.drop i = items[i] :: items.drop (i + 1) := List.drop_eq_getElem_cons hlt
      rw [edrop] at h'
      have ok2 : Ok K Z2 (uni F [p]) H2 (wipe σ vs) (wp sd' vs) := (gr.ok I.ok).less fun _ z => .inl z
      have x2 : Ext (uni F [p]) Z' H' Z2 H2 := gr.ext I.ok.base
      refine ⟨Z2, uni F [p], wp sd' vs, items[i], ok2, rx, ?_⟩
      unfold lcGo at h'
      cases eg : g items[i] (wp sd' vs) with
      | none => rw [eg] at h'; exact h'.elim
      | some sd2 =>
        rw [eg] at h'
        intro σ2 ok3 df
        have ew : wipe σ2 vs = wipe σ vs := df.wipe.trans wipe_wipe
        refine ⟨ew, ?_⟩
        refine tP.seq ok3 (fun b sd3 e3 Z3 H3 ok4 x3 => ?_) (fun x sd3 e3 => ?_) (fun e3 => ?_)
        · have x23 := x2.trans x3
          cases b with
          | false =>
            simp only [e3] at h'
            refine ⟨Z3, sd3, accD, ⟨?_, I.ext.trans (x23.mono fun _ z => .inl z), fun a z => ?_, acc, ?_, racc.keep x23.z fun a m => absurd m List.not_mem_nil⟩, h'⟩
            · rw [← ew]; exact ok4.wipe vs
            · have a1 := I.st a z
              have a2 := x23.z a a1.1
              exact ⟨a2.1, a2.2.trans a1.2⟩
            · rw [x23.f p (.inr List.mem_cons_self)]; exact hacc
          | true =>
            simp only [e3] at h'
            refine eP.seq (G := fun _ _ => True) ok4 (fun w sd4 e4 v Z4 H4 rv ok5 x4 => ?_) (fun x sd4 e4 => ?_) (fun e4 => ?_)
            · simp only [e4] at h'
              have x24 := x23.trans x4
              have hacc4 : H4 p = some (.lst acc) := by rw [x24.f p (.inr List.mem_cons_self)]; exact hacc
              split at h'
              · rename_i hl
                obtain ⟨okw, kw⟩ := ok5.write (o := .lst (acc ++ [v])) (p := p) (.inr List.mem_cons_self)
                have racc4 := racc.keep x24.z fun a m => absurd m List.not_mem_nil
                refine ⟨acc, hacc4, by rw [racc.length]; exact hl, Z4, sd4, accD ++ [w.1], ⟨?_, ?_, fun a z => ?_, _, upd_same, ?_⟩, h'⟩
                · rw [← ew]; exact okw.wipe vs
                · refine (I.ext.trans (x24.mono fun _ z => .inl z)).trans ⟨kw, fun a f => upd_ne fun e => ?_⟩
                  rw [e] at f
                  exact nFp f
                · have a1 := I.st a z
                  have a2 := x24.z a a1.1
                  have a3 := kw a a2.1
                  exact ⟨a3.1, a3.2.trans (a2.2.trans a1.2)⟩
                · exact (racc4.app (.cons (o := []) (p := []) rv (.nil 0))).keep kw fun a m => absurd m List.not_mem_nil
              · exact h'.elim
            · simp only [e4] at h'; exact h'.elim
            · simp only [e4] at h'; exact h'.elim
        · simp only [e3] at h'; exact h'.elim
        · simp only [e3] at h'; exact h'.elim
    · refine .inl ⟨hstop (by omega), ?_⟩
      have e0 : items.drop i = [] := List.drop_eq_nil_of_le (by omega)
      rw [e0] at h'
      refine h' (.ref p) Z' H' [p] (.lstS (o := []) hacc racc) (by simp) (fun a m => ?_) I.ok.unwipe I.ext
      rw [List.mem_singleton] at m
      rw [m]
      exact nFp
theorem takesW0 {X : Cx} : Takes X W0 := takes0
theorem st_yes : PTs X [] (tT X.K X.mg W0 tYes') := ⟨fun pins s σ H Q I ⟨Z, F, sd, ok, h⟩ => pts_nil.run pins s σ H Q I (h Z H ok .refl)⟩
theorem st_one {c : Expr} {f : Et} (h : ST X W0 c f) : PTs X [c] (tT X.K X.mg W0 f) := pts_one h
theorem tLc_imp {wi : TI} {g : TG} {tt : TT} {te : TE} {vs : List Nat} {f : Ev} {e : Expr} (h : PE X e (tLc wi g tt te vs)) (w : ∀ σ H Q, tE X.K X.mg W f σ H Q → tLc wi g tt te vs σ H Q) : SE X W e f := PE.imp h w
/-- [e for tg in iter if ..] -/
theorem se_lc {elt tg iter : Expr} {ifs : List Expr} {scope : Scope} {own : List (Str × Nat)} {pos : Pos} {fi : Ei} {g : Tg} {ft : Et} {fe : Ev} (hc : X.calm = true) (hN : X.N.Nodup) (hi : SI X W tg iter fi) (ok : BlkOk X.N X.env.scope scope own)
    (hg : ∀ (s : Shared) (H : Hp) (C : Addr) (cl : List (Str × Addr)) (fp : List Addr), SG (X.blk s H scope (compEnvC scope cl C X.env) fp) (own.map (·.2)) tg g)
    (ht : ∀ (s : Shared) (H : Hp) (C : Addr) (cl : List (Str × Addr)) (fp : List Addr), PTs (X.blk s H scope (compEnvC scope cl C X.env) fp) ifs (tT X.K X.mg W0 ft))
    (he : ∀ (s : Shared) (H : Hp) (C : Addr) (cl : List (Str × Addr)) (fp : List Addr), SE (X.blk s H scope (compEnvC scope cl C X.env) fp) W0 elt fe) (hs : ∀ x, foldedSetIterable iter X.env x = pure x := by intro _; rfl) :
    SE X W (.ListComp elt [⟨tg, iter, ifs, 0⟩] scope pos) (lcS (own.map (·.2)) fi g ft fe) :=
  PE.imp (pe_lc (wi := tI X.K X.mg W fi) (g := gP X.K (own.map fun x : Str × Nat => x.2) g) (tt := tT X.K X.mg W0 ft) (te := tE X.K X.mg W0 fe) hc hN hi ok hg ht he hs) fun _ _ _ h => lc_sound h
end
end VS
/-! VS7: statements; defs and their calls. -/
namespace VS
open PySem PySem.Spec L2
open PyProof.Rows (envOfC)

/-! ### statements on plain data -/
inductive O where
  | nx (sd : SD)
  | rt (w : D × Nat) (sd : SD)
  | bk (sd : SD)
  | ct (sd : SD)
  | ex (x : Exn) (sd : SD)
  | stuck
abbrev Sm := SD → O
def O.go (o : O) (f : SD → O) : O := match o with
  | .nx sd => f sd
  | o => o
@[simp] theorem O.go_nx (sd : SD) (f : SD → O) : (O.nx sd).go f = f sd := eqr rfl
@[simp] theorem O.go_rt (w : D × Nat) (sd : SD) (f : SD → O) : (O.rt w sd).go f = .rt w sd := eqr rfl
@[simp] theorem O.go_bk (sd : SD) (f : SD → O) : (O.bk sd).go f = .bk sd := eqr rfl
@[simp] theorem O.go_ct (sd : SD) (f : SD → O) : (O.ct sd).go f = .ct sd := eqr rfl
@[simp] theorem O.go_ex (x : Exn) (sd : SD) (f : SD → O) : (O.ex x sd).go f = .ex x sd := eqr rfl
@[simp] theorem O.go_stuck (f : SD → O) : (O.stuck).go f = .stuck := eqr rfl
def R.run {α : Type} (r : R α) (f : α → SD → O) : O := match r with
  | .ok a sd => f a sd
  | .exc x sd => .ex x sd
  | .stuck => .stuck
@[simp] theorem R.run_ok {α : Type} (a : α) (sd : SD) (g : α → SD → O) : (R.ok a sd).run g = g a sd := eqr rfl
@[simp] theorem R.run_exc {α : Type} (x : Exn) (sd : SD) (g : α → SD → O) : (R.exc x sd : R α).run g = .ex x sd := eqr rfl
@[simp] theorem R.run_stuck {α : Type} (g : α → SD → O) : (R.stuck : R α).run g = .stuck := eqr rfl
def zSeq (f g : Sm) : Sm := fun sd => (f sd).go g
def zNil : Sm := fun sd => .nx sd
def zSet (i : Nat) (f : Ev) : Sm := fun sd => (f sd).run fun w sd1 => .nx (sd1.set i (some w))
def zTg (g : Tg) (f : Ev) : Sm := fun sd => (f sd).run fun w sd1 => match g w.1 sd1 with
  | some sd2 => .nx sd2
  | none => .stuck
def zDrop (f : Ev) : Sm := fun sd => (f sd).run fun _ sd1 => .nx sd1
def zRet (f : Ev) : Sm := fun sd => (f sd).run fun w sd1 => .rt w sd1
def zRetN : Sm := fun sd => .rt (.non, 0) sd
def zIf (c : Et) (f g : Sm) : Sm := fun sd => (c sd).run fun b sd1 => if b then f sd1 else g sd1
def zBk : Sm := fun sd => .bk sd
def zCt : Sm := fun sd => .ct sd
def zNever : Sm := fun _ => .stuck
/-- x.append(e), the row owned -/
def zApp (i : Nat) (f : Ev) : Sm := fun sd => match sd[i]? with
  | some (some (.lst _, _)) => (f sd).run fun w sd1 => match sd1[i]? with
    | some (some (.lst ds, 1)) => if ds.length < sizeLine then .nx (sd1.set i (some (.lst (ds ++ [w.1]), 1))) else .stuck
    | _ => .stuck
  | _ => .stuck
/-- x[e] = f, the row owned -/
def zPut (i : Nat) (fi f : Ev) : Sm := fun sd => (f sd).run fun w sd1 => match sd1[i]? with
  | some (some _) => (fi sd1).run fun y sd2 => match sd2[i]?, y.1 with
    | some (some (.lst ds, 1)), .int j => match ixN ds.length j with
      | some n => .nx (sd2.set i (some (.lst (ds.set n w.1), 1)))
      | none => .stuck
    | _, _ => .stuck
  | _ => .stuck
def forGo (ws : List Nat) (g : Tg) (body : Sm) : List D → SD → O
  | [], sd => .nx sd
  | d :: ds, sd => match g d sd with
    | none => .stuck
    | some sd1 => match body sd1 with
      | .nx sd2 => forGo ws g body ds (wp sd2 ws)
      | .ct sd2 => forGo ws g body ds (wp sd2 ws)
      | .bk sd2 => .nx (wp sd2 ws)
      | o => o
/-- for: the slots ws are forgotten behind each turn -/
def zFor (ws : List Nat) (fi : Ei) (g : Tg) (body : Sm) : Sm := fun sd => (fi sd).run fun items sd1 => forGo ws g body items sd1
def whGo (ws : List Nat) (c : Et) (body : Sm) : Nat → SD → O
  | 0, _ => .stuck
  | n + 1, sd => (c sd).run fun b sd1 => if b then (match body sd1 with
      | .nx sd2 => whGo ws c body n (wp sd2 ws)
      | .ct sd2 => whGo ws c body n (wp sd2 ws)
      | .bk sd2 => .nx (wp sd2 ws)
      | o => o) else .nx sd1
def zWhile (n : Nat) (ws : List Nat) (c : Et) (body : Sm) : Sm := fun sd => whGo ws c body n sd

section
variable (K : PySem.W.Frag) (mg : Mg) (W : WX)
/-- the slots ps hold what they held -/
def Pin (ps : List Nat) (σ σ' : St) : Prop := ∀ i ∈ ps, σ'[i]? = σ[i]?
theorem Pin.refl {ps : List Nat} {σ : St} : Pin ps σ σ := fun _ _ => rfl
theorem Pin.trans {ps : List Nat} {σ σ1 σ2 : St} (a : Pin ps σ σ1) (b : Pin ps σ1 σ2) : Pin ps σ σ2 := fun i m => (b i m).trans (a i m)
theorem Pin.set {ps : List Nat} {σ : St} {i : Nat} {x : Option V} (h : i ∉ ps) : Pin ps σ (σ.set i x) := fun j m => List.getElem?_set_ne fun e : i = j => h (by rw [e]; exact m)
theorem Pin.dif {ps vs : List Nat} {σ σ' : St} (d : Dif vs σ σ') (h : ∀ i ∈ ps, i ∉ vs) : Pin ps σ σ' := fun i m => d.2 i (h i m)
def sP (ps : List Nat) (Z F : Pz) (σ : St) (H : Hp) (o : O) (D : Ends) : Prop := match o with
  | .nx sd' => ∀ σ' Z' H', Pin ps σ σ' → Ok K Z' F H' σ' sd' → Ext F Z H Z' H' → D.nx σ' H'
  | .bk sd' => ∀ σ' Z' H', Pin ps σ σ' → Ok K Z' F H' σ' sd' → Ext F Z H Z' H' → D.bk σ' H'
  | .ct sd' => ∀ σ' Z' H', Pin ps σ σ' → Ok K Z' F H' σ' sd' → Ext F Z H Z' H' → D.ct σ' H'
  | .rt w sd' => ∀ v Z' H' o σ', Pin ps σ σ' → Rp K Z' H' v w.1 w.2 o → o.Nodup → (∀ a ∈ o, ¬ F a) → Ok K Z' (uni F o) H' σ' sd' → Ext F Z H Z' H' → D.rt v H'
  | .ex x sd' => ∀ σ', Pin ps σ σ' → excP K mg W Z F σ' H x sd'
  | .stuck => False
def tS (ps : List Nat) (f : Sm) : TS := fun D σ H => ∃ Z F sd, Ok K Z F H σ sd ∧ sP K mg W ps Z F σ H (f sd) D
end
def SSp (ps : List Nat) (X : Cx) (W : WX) (st : Stmt) (f : Sm) : Prop := PS X st (tS X.K X.mg W ps f)
def SSsp (ps : List Nat) (X : Cx) (W : WX) (sts : List Stmt) (f : Sm) : Prop := PSs X sts (tS X.K X.mg W ps f)
abbrev SS (X : Cx) (W : WX) (st : Stmt) (f : Sm) : Prop := SSp [] X W st f
abbrev SSs (X : Cx) (W : WX) (sts : List Stmt) (f : Sm) : Prop := SSsp [] X W sts f
theorem PS.imp {X : Cx} {e : Stmt} {t t' : TS} (h : PS X e t) (w : ∀ D σ H, t' D σ H → t D σ H) : PS X e t' := ⟨fun pins s σ H D I q => h.run pins s σ H D I (w _ _ _ q)⟩
theorem PSs.imp {X : Cx} {e : List Stmt} {t t' : TS} (h : PSs X e t) (w : ∀ D σ H, t' D σ H → t D σ H) : PSs X e t' := ⟨fun pins s σ H D I q => h.run pins s σ H D I (w _ _ _ q)⟩
section
variable {K : PySem.W.Frag} {mg : Mg} {W : WX} {Z Z1 F : Pz} {H H1 : Hp} {σ σ1 : St} {ps : List Nat}
theorem sP.go {o : O} {D : Ends} (h : sP K mg W ps Z F σ H o D) (x : Ext F Z H Z1 H1) (pn : Pin ps σ σ1) : sP K mg W ps Z1 F σ1 H1 o D := by
  cases o with
  | nx sd => exact fun σ' Z' H' p ok x' => h σ' Z' H' (pn.trans p) ok (x.trans x')
  | bk sd => exact fun σ' Z' H' p ok x' => h σ' Z' H' (pn.trans p) ok (x.trans x')
  | ct sd => exact fun σ' Z' H' p ok x' => h σ' Z' H' (pn.trans p) ok (x.trans x')
  | rt w sd => exact fun v Z' H' o σ' p r nd nf ok x' => h v Z' H' o σ' (pn.trans p) r nd nf ok (x.trans x')
  | ex e sd => exact fun σ' p => (h σ' (pn.trans p)).go0 x
  | stuck => exact h
theorem sP.imp {o : O} {D D' : Ends} (h : sP K mg W ps Z F σ H o D) (hn : ∀ σ H, D.nx σ H → D'.nx σ H) (hb : ∀ σ H, D.bk σ H → D'.bk σ H) (hc : ∀ σ H, D.ct σ H → D'.ct σ H) (hr : ∀ v H, D.rt v H → D'.rt v H) : sP K mg W ps Z F σ H o D' := by
  cases o with
  | nx sd => exact fun σ' Z' H' p ok x' => hn _ _ (h σ' Z' H' p ok x')
  | bk sd => exact fun σ' Z' H' p ok x' => hb _ _ (h σ' Z' H' p ok x')
  | ct sd => exact fun σ' Z' H' p ok x' => hc _ _ (h σ' Z' H' p ok x')
  | rt w sd => exact fun v Z' H' o σ' p r nd nf ok x' => hr _ _ (h v Z' H' o σ' p r nd nf ok x')
  | ex e sd => exact h
  | stuck => exact h
end
section
variable {X : Cx} {W : WX} {pos p q : Pos} {a b c : Expr} {fa fb : Ev} {st : Stmt} {rest : List Stmt} {f g : Sm} {ps : List Nat}
theorem ss_one (h : SSp ps X W st f) : SSsp ps X W [st] f := pss_one h
theorem ss_nil : SSsp ps X W [] zNil := PSs.imp pss_nil fun D σ H ⟨Z, F, sd, ok, h⟩ => h σ Z H .refl ok .refl
theorem ss_cons (h1 : SSp ps X W st f) (h2 : SSsp ps X W rest g) : SSsp ps X W (st :: rest) (zSeq f g) := by
  refine PSs.imp (pss_cons h1 h2) fun D σ H ⟨Z, F, sd, ok, h⟩ => ?_
  refine ⟨Z, F, sd, ok, ?_⟩
  unfold zSeq at h
  cases e : f sd with
  | nx sd1 =>
    rw [e] at h
    exact fun σ' Z' H' p ok' x => ⟨Z', F, sd1, ok', h.go x p⟩
  | rt w sd1 => rw [e] at h; exact h
  | bk sd1 => rw [e] at h; exact h
  | ct sd1 => rw [e] at h; exact h
  | ex x sd1 => rw [e] at h; exact h
  | stuck => rw [e] at h; exact h
theorem ss_pass : SSp ps X W (.Pass pos) zNil := PS.imp ps_pass fun D σ H ⟨Z, F, sd, ok, h⟩ => h σ Z H .refl ok .refl
theorem ss_break : SSp ps X W (.Break pos) zBk := PS.imp ps_break fun D σ H ⟨Z, F, sd, ok, h⟩ => h σ Z H .refl ok .refl
theorem ss_continue : SSp ps X W (.Continue pos) zCt := PS.imp ps_continue fun D σ H ⟨Z, F, sd, ok, h⟩ => h σ Z H .refl ok .refl
theorem ss_never : SSp ps X W st zNever := PS.imp ps_never fun D σ H ⟨Z, F, sd, ok, h⟩ => h.elim
theorem ss_set (i : Nat) {x : Str} {pos' : Pos} (he : SE X W a fa) (hN : X.N.Nodup) (hi : X.N[i]? = some x := by rfl) (hx : Loc X.env.scope x := by first | exact Or.inl rfl | exact Or.inr rfl) (hs : swapsWith a (some (.Name x pos')) pos.line X.env = pure false := by rfl) (hp : i ∉ ps := by first | exact List.not_mem_nil | decide)
    (hf : X.fn x = true ∨ X.env.scope.names.lookup x = some .local := by first | exact .inl rfl | exact .inr rfl) : SSp ps X W (.Assign [.Name x pos'] a pos) (zSet i fa) := by
  refine PS.imp (ps_set hN hi hx he hs hf) fun D σ H ⟨Z, F, sd, ok, h⟩ => ?_
  unfold zSet at h
  refine eP.seqO ok (fun w sd1 e v Z1 H1 o r nd nf ok1 x1 => ?_) (fun x sd1 e => ?_) (fun e => ?_)
  · rw [e, R.run_ok] at h
    exact h _ Z1 H1 (.set hp) (ok1.store r nd nf) x1
  · rw [e] at h; exact h σ .refl
  · rw [e] at h; exact h
/-- name = [..] on one line -/
theorem ss_setLc (i : Nat) {y : Str} {py : Pos} {elt tg iter : Expr} {ifs : List Expr} {scope : Scope} {own : List (Str × Nat)} {spos : Pos} {fi : Ei} {gg : Tg} {ft : Et} {fe : Ev} (hc : X.calm = true) (hN : X.N.Nodup) (hy : X.N[i]? = some y) (hyl : X.env.scope.names.lookup y = some .local)
    (hsw : swapsWith (.ListComp elt [⟨tg, iter, ifs, 0⟩] scope pos) (some (.Name y py)) spos.line X.env = pure true) (hi : SI X W tg iter fi) (ok : BlkOk X.N X.env.scope scope own)
    (hg : ∀ (s : Shared) (H : Hp) (C : Addr) (cl : List (Str × Addr)) (fp : List Addr), SG (X.blk s H scope (compEnvC scope cl C X.env) fp) (own.map (·.2)) tg gg)
    (ht : ∀ (s : Shared) (H : Hp) (C : Addr) (cl : List (Str × Addr)) (fp : List Addr), PTs (X.blk s H scope (compEnvC scope cl C X.env) fp) ifs (tT X.K X.mg W0 ft))
    (he : ∀ (s : Shared) (H : Hp) (C : Addr) (cl : List (Str × Addr)) (fp : List Addr), SE (X.blk s H scope (compEnvC scope cl C X.env) fp) W0 elt fe) (hs : ∀ x, foldedSetIterable iter X.env x = pure x := by intro _; rfl) (hp : i ∉ ps := by first | exact List.not_mem_nil | decide) :
    SSp ps X W (.Assign [.Name y py] (.ListComp elt [⟨tg, iter, ifs, 0⟩] scope pos) spos) (zSet i (lcS (own.map (·.2)) fi gg ft fe)) := by
  refine PS.imp (ps_setLc (wi := tI X.K X.mg W fi) (g := gP X.K (own.map fun x : Str × Nat => x.2) gg) (tt := tT X.K X.mg W0 ft) (te := tE X.K X.mg W0 fe) hc hN hy hyl hsw hi ok hg ht he hs) fun D σ H ⟨Z, F, sd, okk, h⟩ => ?_
  refine lc_sound ?_
  unfold zSet at h
  refine eP.seqO okk (fun w sd1 e v Z1 H1 o r nd nf ok1 x1 => ?_) (fun x sd1 e => ?_) (fun e => ?_)
  · rw [e, R.run_ok] at h
    exact h _ Z1 H1 (.set hp) (ok1.store r nd nf) x1
  · rw [e] at h; exact h σ .refl
  · rw [e] at h; exact h
theorem ss_tg {tg : Expr} {gg : Tg} {vs : List Nat} (he : SE X W a fa) (hg : SG X vs tg gg) (hs : swapsWithSole [tg] a pos.line X.env = pure false := by rfl) (hw : swappedStores [tg] a X.env = pure none := by rfl)
    (h1 : (assignEach [tg] X.env).map (·.2) = [assign tg X.env] := by rfl) (hp : ∀ i ∈ ps, i ∉ vs := by first | exact (fun _ m => absurd m List.not_mem_nil) | decide) : SSp ps X W (.Assign [tg] a pos) (zTg gg fa) := by
  refine PS.imp (ps_asg he hg hs hw h1) fun D σ H ⟨Z, F, sd, ok, h⟩ => ?_
  unfold zTg at h
  refine eP.seq (G := fun _ _ => True) ok (fun w sd1 e v Z1 H1 r ok1 x1 => ?_) (fun x sd1 e => ?_) (fun e => ?_)
  · rw [e, R.run_ok] at h
    refine ⟨Z1, F, sd1, w.1, ok1, r, ?_⟩
    cases eg : gg w.1 sd1 with
    | none => rw [eg] at h; exact h.elim
    | some sd2 =>
      rw [eg] at h
      exact fun σ' ok' df => h σ' Z1 H1 (.dif df hp) ok' x1
  · rw [e] at h; exact h σ .refl
  · rw [e] at h; exact h
theorem ss_drop (he : SE X W a fa) (hs : swapsWith a none pos.line X.env = pure false := by rfl) : SSp ps X W (.Expr a pos) (zDrop fa) := by
  refine PS.imp (ps_expr he hs) fun D σ H ⟨Z, F, sd, ok, h⟩ => ?_
  unfold zDrop at h
  refine eP.seq (G := fun _ _ => True) ok (fun w sd1 e v Z1 H1 r ok1 x1 => ?_) (fun x sd1 e => ?_) (fun e => ?_)
  · rw [e, R.run_ok] at h
    exact h σ Z1 H1 .refl ok1 x1
  · rw [e] at h; exact h σ .refl
  · rw [e] at h; exact h
theorem ss_ret (he : SE X W a fa) : SSp ps X W (.Return (some a) pos) (zRet fa) := by
  refine PS.imp (ps_ret he) fun D σ H ⟨Z, F, sd, ok, h⟩ => ?_
  unfold zRet at h
  refine eP.seqO ok (fun w sd1 e v Z1 H1 o r nd nf ok1 x1 => ?_) (fun x sd1 e => ?_) (fun e => ?_)
  · rw [e, R.run_ok] at h
    exact h v Z1 H1 o σ .refl r nd nf ok1 x1
  · rw [e] at h; exact h σ .refl
  · rw [e] at h; exact h
theorem ss_retN : SSp ps X W (.Return none pos) zRetN := PS.imp ps_retN fun D σ H ⟨Z, F, sd, ok, h⟩ => h .non Z H [] σ .refl (.non _) .nil (fun _ m => absurd m List.not_mem_nil) ok.unnil .refl
theorem ss_if {A B : List Stmt} {fc : Et} (hc : ST X W c fc) (ha : SSsp ps X W A f) (hb : SSsp ps X W B g) : SSp ps X W (.If c A B pos) (zIf fc f g) := by
  refine PS.imp (ps_if hc ha hb) fun D σ H ⟨Z, F, sd, ok, h⟩ => ?_
  unfold zIf at h
  refine tP.seq ok (fun b sd1 e Z1 H1 ok1 x1 => ?_) (fun x sd1 e => ?_) (fun e => ?_)
  · rw [e, R.run_ok] at h
    cases b with
    | true => exact ⟨Z1, F, sd1, ok1, h.go x1 .refl⟩
    | false => exact ⟨Z1, F, sd1, ok1, h.go x1 .refl⟩
  · rw [e] at h; exact h σ .refl
  · rw [e] at h; exact h
/-! rows that are changed -/
theorem lst1 {K : PySem.W.Frag} {Z : Pz} {H : Hp} {v : V} {ds : List D} {p : List Addr} (r : Rp K Z H v (.lst ds) 1 p) : ∃ a xs, v = .ref a ∧ p = [a] ∧ H a = some (.lst xs) ∧ RpAll K Z H xs ds 0 [] := by
  generalize e1 : (1 : Nat) = k at r
  generalize e2 : D.lst ds = d at r
  cases r <;> cases e2
  · cases e1
  · rename_i a xs k' o h r
    have : k' = 0 := by omega
    subst this
    cases r.nil0
    exact ⟨a, xs, rfl, rfl, h, r⟩
theorem Ok.isLst {K : PySem.W.Frag} {Z F : Pz} {H : Hp} {σ : St} {sd : SD} {i : Nat} {ds : List D} {k : Nat} (ok : Ok K Z F H σ sd) (e : sd[i]? = some (some (.lst ds, k))) : ∃ a xs, σ[i]? = some (some (.ref a)) ∧ H a = some (.lst xs) := by
  obtain ⟨v, p, e1, r, _⟩ := ok.take e
  generalize e2 : D.lst ds = d at r
  cases r <;> cases e2
  · exact ⟨_, _, e1, by assumption⟩
  · exact ⟨_, _, e1, by assumption⟩
theorem ss_app (i : Nat) {x : Str} {px pa : Pos} (he : SE X W a fa) (hN : X.N[i]? = some x := by rfl) (hv : Vis X.env.scope x := by first | exact Or.inl rfl | exact Or.inr (Or.inl rfl) | exact Or.inr (Or.inr rfl)) (hd : (x == ("__debug__" : Str)) = false := by decide) (hcd : (x == ("__classdict__" : Str)) = false := by decide)
    (hbase : attributeBase (.Name x px) "append" X.env (eval (.Name x px) X.env) = eval (.Name x px) X.env := by rfl)
    (hfew : ((backTo p (starEach [a] X.env)).all (fun x => !x.1) && (backToKw p (keywordEach [] X.env)).all (fun x => x.1.isSome)
      && decide ([a].length + ([] : List Keyword).length + (if ([] : List Keyword).isEmpty then 0 else 1) < 30)) = true := by rfl)
    (hline : (pa.endLine == p.line) = true := by rfl) (hst : starEach [a] X.env = (false, eval a X.env) :: starEach [] X.env := by rfl) (hpl : (backTo p (starEach [] X.env)).any (·.1) = false := by rfl)
    (hs : swapsWith (.Call (.Attribute (.Name x px) "append" pa) [a] [] p) none pos.line X.env = pure false := by rfl) : SSp ps X W (.Expr (.Call (.Attribute (.Name x px) "append" pa) [a] [] p) pos) (zApp i fa) := by
  refine PS.imp (ps_expr (pe_bm PySem.F.plainAttrs_list PySem.F.slot_list_append PySem.F.type_list_append mt_append (pe_var hN hv hd hcd) (pa_cons he pa_nil hst) hbase hfew hline hst hpl) hs) fun D σ H ⟨Z, F, sd, ok, h⟩ => ?_
  unfold zApp at h
  split at h
  · rename_i ds0 k0 e0
    obtain ⟨l, xs0, e1, hl0⟩ := ok.isLst e0
    refine ⟨.ref l, e1, .inl ⟨rfl, xs0, .of hl0⟩, ?_⟩
    refine eP.seq (G := fun _ _ => True) ok (fun w sd1 e y Z1 H1 r ok1 x1 => ?_) (fun x sd1 e => ?_) (fun e => ?_)
    · rw [e, R.run_ok] at h
      split at h
      · rename_i ds e2
        obtain ⟨v', q, e3, rr, nd, nf, ok2⟩ := ok1.take e2
        rw [e1] at e3
        cases e3
        obtain ⟨l', xs, el, rfl, hl, ra⟩ := lst1 rr
        cases el
        split at h
        · rename_i hz
          refine ⟨l, xs, y, rfl, rfl, hl, by rw [ra.length]; exact hz, ?_⟩
          obtain ⟨ok3, kz⟩ := ok2.write (o := .lst (xs ++ [y])) (p := l) (.inr List.mem_cons_self)
          have ra2 := (ra.app (.cons (o := []) (p := []) r (.nil 0))).keep kz fun a m => absurd m List.not_mem_nil
          have ok4 := ok3.back (.lstS (o := []) upd_same ra2) (by simp) nf e1
          rw [List.set_set] at ok4
          refine h σ Z1 _ .refl ok4 (x1.trans ⟨kz, fun a f => upd_ne fun e => ?_⟩)
          rw [e] at f
          exact nf l List.mem_cons_self f
        · exact h.elim
      · exact h.elim
    · rw [e] at h; exact h σ .refl
    · rw [e] at h; exact h
  · exact h.elim
theorem RpAll.put {K : PySem.W.Frag} {Z : Pz} {H : Hp} {xs : List V} {ds : List D} {v : V} {d : D} (n : Nat) (h : RpAll K Z H xs ds 0 []) (r : Rp K Z H v d 0 []) : RpAll K Z H (xs.set n v) (ds.set n d) 0 [] :=
  .mk (by rw [List.length_set, List.length_set, h.length]) fun i u e h1 h2 => by
    by_cases hi : n = i
    · subst hi
      have hl := h.length
      by_cases hn : n < xs.length
      · rw [List.getElem?_set_self hn] at h1
        rw [List.getElem?_set_self (by omega)] at h2
        cases h1; cases h2
        exact r
      · rw [List.getElem?_eq_none (by rw [List.length_set]; omega)] at h1; cases h1
    · rw [List.getElem?_set_ne hi] at h1 h2
      obtain ⟨v', e', r⟩ := h.get h2
      rw [h1] at e'; cases e'; exact r
theorem ss_put (i : Nat) {x : Str} {px tp : Pos} (hb : SE X W b fb) (he : SE X W a fa) (hN : X.N[i]? = some x := by rfl) (hv : Vis X.env.scope x := by first | exact Or.inl rfl | exact Or.inr (Or.inl rfl) | exact Or.inr (Or.inr rfl)) (hd : (x == ("__debug__" : Str)) = false := by decide) (hcd : (x == ("__classdict__" : Str)) = false := by decide)
    (ha : ∀ v, assign (.Subscript (.Name x px) b tp) X.env v = (do
      let ov ← holding [v] (eval (.Name x px) X.env)
      let iv ← holding [v, ov] (eval b X.env)
      standAt tp
      holding [v, ov, iv] (setItem ov iv v)
      release [v, ov, iv] []) := by intro _; rfl) (hs : swapsWithSole [.Subscript (.Name x px) b tp] a pos.line X.env = pure false := by rfl) (hw : swappedStores [.Subscript (.Name x px) b tp] a X.env = pure none := by rfl)
    (h1 : (assignEach [.Subscript (.Name x px) b tp] X.env).map (·.2) = [assign (.Subscript (.Name x px) b tp) X.env] := by rfl) : SSp ps X W (.Assign [.Subscript (.Name x px) b tp] a pos) (zPut i fb fa) := by
  refine PS.imp (ps_asg he (pg_sub (pe_var hN hv hd hcd) hb set_list ha) hs hw h1) fun D σ H ⟨Z, F, sd, ok, h⟩ => ?_
  unfold zPut at h
  refine eP.seq (G := fun _ _ => True) ok (fun w sd1 e y Z1 H1 r ok1 x1 => ?_) (fun x sd1 e => ?_) (fun e => ?_)
  · rw [e, R.run_ok] at h
    split at h
    · rename_i w0 e0
      obtain ⟨v, e1⟩ := ok1.slot e0
      refine ⟨v, e1, ?_⟩
      refine eP.seq (G := fun _ _ => True) ok1 (fun w2 sd2 e2 y2 Z2 H2 r2 ok2 x2 => ?_) (fun x sd1 e => ?_) (fun e => ?_)
      · rw [e2, R.run_ok] at h
        split at h
        · rename_i ds j e3 ej
          rw [ej] at r2
          cases r2
          obtain ⟨v', q, e4, rr, nd, nf, ok3⟩ := ok2.take e3
          rw [e1] at e4
          cases e4
          obtain ⟨l, xs, rfl, rfl, hl, ra⟩ := lst1 rr
          split at h
          · rename_i n en
            refine ⟨l, xs, j, n, rfl, rfl, hl, by rw [ra.length]; exact en, ?_⟩
            obtain ⟨ok4, kz⟩ := ok3.write (o := .lst (xs.set n y)) (p := l) (.inr List.mem_cons_self)
            have r' : Rp X.K Z2 H2 y w.1 0 [] := r.keep x2.z fun a m => absurd m List.not_mem_nil
            have ra2 := (ra.put n r').keep kz fun a m => absurd m List.not_mem_nil
            have ok5 := ok4.back (.lstS (o := []) upd_same ra2) (by simp) nf e1
            rw [List.set_set] at ok5
            refine h σ Z2 _ .refl ok5 ((x1.trans x2).trans ⟨kz, fun a f => upd_ne fun e => ?_⟩)
            rw [e] at f
            exact nf l List.mem_cons_self f
          · exact h.elim
        · exact h.elim
      · rw [e] at h; exact (h σ .refl).go0 x1
      · rw [e] at h; exact h
    · exact h.elim
  · rw [e] at h; exact h σ .refl
  · rw [e] at h; exact h

/-! ### loops -/
theorem ss_for {tg iter : Expr} {body : List Stmt} {fi : Ei} {gg : Tg} {vs ws : List Nat} (hp : PassesOwn (model X.prog X.w) X.A X.env X.xe) (hc : X.calm = true) (hi : SI X W tg iter fi) (hg : SG X vs tg gg) (hb : SSsp ps X W body f) (hs : ∀ x, foldedSetIterable iter X.env x = pure x := by intro _; rfl) (hpn : ∀ i ∈ ps, i ∉ vs := by first | exact (fun _ m => absurd m List.not_mem_nil) | decide) :
    SSp ps X W (.For tg iter body [] pos) (zFor ws fi gg f) := by
  refine PS.imp (ps_for hp hc hi hg hb hs) fun D σ H ⟨Z, F, sd, ok, h⟩ => ?_
  refine ⟨Z, F, sd, ok, ?_⟩
  unfold zFor at h
  cases e : fi sd with
  | stuck => rw [e] at h; exact h
  | exc x sd1 => rw [e] at h; exact h σ .refl
  | ok items sd1 =>
    rw [e, R.run_ok] at h
    intro J Z1 H1 it ok1 x1
    refine ⟨fun i m σ' H' => m = items.length - i ∧ ∃ Z' sd', Pin ps σ σ' ∧ Ok X.K Z' F H' σ' sd' ∧ Ext F Z H Z' H' ∧ (∀ a, Z1 a → Z' a ∧ H' a = H1 a) ∧ sP X.K X.mg W ps Z F σ H (forGo ws gg f (items.drop i) sd') D, ⟨_, rfl, Z1, sd1, .refl, ok1, x1, fun a z => ⟨z, rfl⟩, h⟩, ?_⟩
    rintro i m σ' H' ⟨rfl, Z', sd', pn', ok', x', st', h'⟩
    obtain ⟨hstop, hgo⟩ := it i Z' H' st' ok'.base.z
    by_cases hlt : i < items.length
    · have ed : items[i]? = some items[i] := List.getElem?_eq_getElem hlt
      obtain ⟨jg, jy⟩ := hgo _ ed
      refine .inr ⟨jg, fun σ2 H2 => ∃ Z' sd', Pin ps σ σ2 ∧ Ok X.K Z' F H2 σ2 sd' ∧ Ext F Z H Z' H2 ∧ (∀ a, Z1 a → Z' a ∧ H2 a = H1 a) ∧ sP X.K X.mg W ps Z F σ H (forGo ws gg f (items.drop (i + 1)) sd') D, fun σ2 H2 hN => ⟨items.length - (i + 1), by omega, rfl, hN⟩, fun x H2 y => ?_⟩
      obtain ⟨Z2, gr, rx⟩ := jy x H2 y
      have edrop : items.drop i = items[i] :: items.drop (i + 1) := List.drop_eq_getElem_cons hlt
      rw [edrop] at h'
      have ok2 : Ok X.K Z2 F H2 σ' sd' := (gr.ok ok').less fun _ z => .inl z
      have x2 : Ext F Z' H' Z2 H2 := gr.ext ok'.base
      refine ⟨Z2, F, sd', items[i], ok2, rx, ?_⟩
      unfold forGo at h'
      cases eg : gg items[i] sd' with
      | none => rw [eg] at h'; exact h'.elim
      | some sd2 =>
        rw [eg] at h'
        intro σ2 ok3 df
        have pn2 : Pin ps σ σ2 := pn'.trans (.dif df hpn)
        refine ⟨Z2, F, sd2, ok3, ?_⟩
        have again : ∀ sd3, sP X.K X.mg W ps Z F σ H (forGo ws gg f (items.drop (i + 1)) (wp sd3 ws)) D → ∀ σ3 Z3 H3, Pin ps σ2 σ3 → Ok X.K Z3 F H3 σ3 sd3 → Ext F Z2 H2 Z3 H3 →
            ∃ Z' sd', Pin ps σ σ3 ∧ Ok X.K Z' F H3 σ3 sd' ∧ Ext F Z H Z' H3 ∧ (∀ a, Z1 a → Z' a ∧ H3 a = H1 a) ∧ sP X.K X.mg W ps Z F σ H (forGo ws gg f (items.drop (i + 1)) sd') D := by
          intro sd3 h3 σ3 Z3 H3 p3 ok4 x3
          refine ⟨Z3, wp sd3 ws, pn2.trans p3, (ok4.wipe ws).unwipe, (x'.trans x2).trans x3, fun a z => ?_, h3⟩
          have a1 := st' a z
          have a2 := (x2.trans x3).z a a1.1
          exact ⟨a2.1, a2.2.trans a1.2⟩
        cases eb : f sd2 with
        | nx sd3 => simp only [eb] at h'; exact again sd3 h'
        | ct sd3 => simp only [eb] at h'; exact again sd3 h'
        | bk sd3 => simp only [eb] at h'; exact fun σ3 Z3 H3 p3 ok4 x3 => h' σ3 Z3 H3 (pn2.trans p3) (ok4.wipe ws).unwipe ((x'.trans x2).trans x3)
        | rt w sd3 => simp only [eb] at h'; exact fun v Z3 H3 o σ3 p3 r nd nf ok4 x3 => h' v Z3 H3 o σ3 (pn2.trans p3) r nd nf ok4 ((x'.trans x2).trans x3)
        | ex x sd3 => simp only [eb] at h'; exact fun σ3 p3 => (h' σ3 (pn2.trans p3)).go0 (x'.trans x2)
        | stuck => simp only [eb] at h'; exact h'
    · refine .inl ⟨hstop (by omega), ?_⟩
      have e0 : items.drop i = [] := List.drop_eq_nil_of_le (by omega)
      rw [e0] at h'
      exact h' σ' Z' H' pn' ok' x'
theorem ss_while (n : Nat) {body : List Stmt} {fc : Et} {ws : List Nat} (hp : PassesOwn (model X.prog X.w) X.A X.env X.xe) (hc : ST X W c fc) (hb : SSsp ps X W body f) : SSp ps X W (.While c body [] pos) (zWhile n ws fc f) := by
  refine PS.imp (ps_while hp hc hb) fun D σ H ⟨Z, F, sd, ok, h⟩ => ?_
  unfold zWhile at h
  refine ⟨fun m σ' H' => ∃ Z' sd', Pin ps σ σ' ∧ Ok X.K Z' F H' σ' sd' ∧ Ext F Z H Z' H' ∧ sP X.K X.mg W ps Z F σ H (whGo ws fc f m sd') D, ⟨n, Z, sd, .refl, ok, .refl, h⟩, ?_⟩
  rintro m σ' H' ⟨Z', sd', pn', ok', x', h'⟩
  cases m with
  | zero => exact h'.elim
  | succ m =>
    unfold whGo at h'
    refine tP.seq ok' (fun b sd1 e Z1 H1 ok1 x1 => ?_) (fun x sd1 e => ?_) (fun e => ?_)
    · rw [e, R.run_ok] at h'
      have x1' := x'.trans x1
      cases b with
      | false => exact h' σ' Z1 H1 pn' ok1 x1'
      | true =>
        refine ⟨fun σ2 H2 => ∃ Z' sd', Pin ps σ σ2 ∧ Ok X.K Z' F H2 σ2 sd' ∧ Ext F Z H Z' H2 ∧ sP X.K X.mg W ps Z F σ H (whGo ws fc f m sd') D, fun σ2 H2 hN => ⟨m, by omega, hN⟩, ?_⟩
        refine ⟨Z1, F, sd1, ok1, ?_⟩
        simp only [if_true] at h'
        cases eb : f sd1 with
        | nx sd3 => simp only [eb] at h'; exact fun σ3 Z3 H3 p3 ok4 x3 => ⟨Z3, wp sd3 ws, pn'.trans p3, (ok4.wipe ws).unwipe, x1'.trans x3, h'⟩
        | ct sd3 => simp only [eb] at h'; exact fun σ3 Z3 H3 p3 ok4 x3 => ⟨Z3, wp sd3 ws, pn'.trans p3, (ok4.wipe ws).unwipe, x1'.trans x3, h'⟩
        | bk sd3 => simp only [eb] at h'; exact fun σ3 Z3 H3 p3 ok4 x3 => h' σ3 Z3 H3 (pn'.trans p3) (ok4.wipe ws).unwipe (x1'.trans x3)
        | rt w sd3 => simp only [eb] at h'; exact fun v Z3 H3 o σ3 p3 r nd nf ok4 x3 => h' v Z3 H3 o σ3 (pn'.trans p3) r nd nf ok4 (x1'.trans x3)
        | ex x sd3 => simp only [eb] at h'; exact fun σ3 p3 => (h' σ3 (pn'.trans p3)).go0 x1'
        | stuck => simp only [eb] at h'; exact h'
    · rw [e] at h'; exact (h' σ' pn').go0 x'
    · rw [e] at h'; exact h'
end

/-! ### defs -/
inductive FR where
  | ok (w : D × Nat)
  | exc (x : Exn)
  | stuck
abbrev Fn := List (D × Nat) → FR
def O.fr : O → FR
  | .nx _ => .ok (.non, 0)
  | .rt w _ => .ok w
  | .ex x _ => .exc x
  | _ => .stuck
/-- what a def is worth, by its body -/
def fnOf (N : Nat) (body : Sm) : Fn := fun ws => (body (ws.map some ++ List.replicate (N - ws.length) none)).fr
section
variable (K : PySem.W.Frag) (mg : Mg)
/-- the promise -/
def spF (n : Nat) (f : Fn) : Sp := fun vs H Q E => ∃ (Z F : Pz) (ws : List (D × Nat)) (o : List Addr), vs.length = n ∧ Slots K Z H (vs.map some) (ws.map some) o ∧ o.Nodup ∧ (∀ a ∈ o, ¬ F a) ∧ Ok0 Z (uni F o) H ∧ match f ws with
  | .ok w => ∀ v Z' H' o', Rp K Z' H' v w.1 w.2 o' → o'.Nodup → (∀ a ∈ o', ¬ F a) → Ok0 Z' (uni F o') H' → Ext F Z H Z' H' → Q v H'
  | .exc x => ∀ c dd Z' H', ExcAt K mg Z' H' x c dd → Ok0 Z' F H' → Ext F Z H Z' H' → E c dd H'
  | .stuck => False
end
theorem Slots.fill {K : PySem.W.Frag} {Z : Pz} {H : Hp} {σ : St} {sd : SD} {o : List Addr} (h : Slots K Z H σ sd o) (m : Nat) : Slots K Z H (σ ++ List.replicate m none) (sd ++ List.replicate m none) o := by
  induction h with
  | nil =>
    rw [List.nil_append, List.nil_append]
    induction m with
    | zero => exact .nil
    | succ m ih => exact .skip ih
  | skip _ ih => exact .skip ih
  | cons r _ ih => exact .cons r ih
section
variable {P : Program} {w : World} {K : PySem.W.Frag} {mg : Mg} {base : Heap}
/-- THE RULE: a def keeps the promise that its body's semantics makes -/
theorem fn_ok {x qual : Str} {st : Stmt} {f : Addr} {fd : FuncData} {N ps : List Str} {k : Nat} {body : Sm} (Fu : Fun K x qual st f fd) (S : FnScope N ps (defScope st))
    (hbody : ∀ (cdv : Value) (A : Around) (outer : List Env) (s : Shared) (H : Hp) (E : XK), Room k (A.deeper (envOfC qual (defScope st) s.heap.objs.size f cdv)) →
      SSs (cxOf (L2.CX P w) P w K mg base N qual (defScope st) f cdv A outer s H E) (fun c d _ H' => E c d H') (defBody st) body) : FnOk P w K mg base (L2.CX P w) (k + 1) f fd ps (spF K mg ps.length (fnOf N.length body)) := by
  refine Fu.okX S (fun vs H Q E h => ?_) (fun cdv A outer s H vs Q E hr h => ⟨_, hbody cdv A outer s H E hr, ?_⟩)
  · obtain ⟨_, _, _, _, h, _⟩ := h
    exact h
  · obtain ⟨Z, F, ws, o, hl, s0, nd, nf, b, h⟩ := h
    have hlen : vs.length = ws.length := by
      have := s0.length
      simpa using this
    refine ⟨Z, F, ws.map some ++ List.replicate (N.length - ws.length) none, ⟨o, ?_, nd, nf, b⟩, ?_⟩
    · unfold L2.start
      rw [hlen]
      exact s0.fill _
    · unfold fnOf at h
      cases e : body (ws.map some ++ List.replicate (N.length - ws.length) none) with
      | nx sd1 =>
        rw [e] at h
        exact fun σ' Z' H' _ ok x => h .non Z' H' [] (.non _) .nil (fun _ m => absurd m List.not_mem_nil) ok.unnil.base x
      | rt w1 sd1 =>
        rw [e] at h
        exact fun v Z' H' o' σ' _ r nd nf ok x => h v Z' H' o' r nd nf ok.base x
      | ex y sd1 =>
        rw [e] at h
        exact fun σ' _ c dd Z' H' a ok x => h c dd Z' H' a ok.base x
      | bk sd1 => rw [e] at h; exact h.elim
      | ct sd1 => rw [e] at h; exact h.elim
      | stuck => rw [e] at h; exact h.elim
/-- a def of the text, as its callers know it: its name, its level, its arguments' number, the values of its defaults, what it is worth -/
structure Def (P : Program) (w : World) (K : PySem.W.Frag) (mg : Mg) (base : Heap) (x : Str) (k : Nat) (n : Nat) (dfl : List D) (f : Fn) : Prop where
  ex : ∃ (fa : Addr) (fd : FuncData) (ps : List Str) (dvs : List V) (ds : List Value), mg x = some (.ref fa) ∧ PySem.W.keepIn K (.ref fa) = true ∧ Binds K fd ps ds ∧ Vals dvs ds ∧ (∀ Z H, RpAll K Z H dvs dfl 0 []) ∧ FnOk P w K mg base (L2.CX P w) k fa fd ps (spF K mg n f)
theorem Def.mono {x : Str} {j k n : Nat} {dfl : List D} {f : Fn} (h : Def P w K mg base x j n dfl f) (le : j ≤ k) : Def P w K mg base x k n dfl f := by
  obtain ⟨fa, fd, ps, dvs, ds, h1, h2, h3, h4, h5, h6⟩ := h.ex
  exact ⟨fa, fd, ps, dvs, ds, h1, h2, h3, h4, h5, h6.mono le⟩
/-- another way to say what a def is worth -/
theorem Def.as {x : Str} {k n : Nat} {dfl : List D} {f g : Fn} (h : Def P w K mg base x k n dfl f) (e : ∀ ws, g ws ≠ .stuck → f ws = g ws) : Def P w K mg base x k n dfl g := by
  obtain ⟨fa, fd, ps, dvs, ds, h1, h2, h3, h4, h5, h6⟩ := h.ex
  refine ⟨fa, fd, ps, dvs, ds, h1, h2, h3, h4, h5, h6.imp fun vs H Q E ⟨Z, F, ws, o, a1, a2, a3, a4, a5, a6⟩ => ⟨Z, F, ws, o, a1, a2, a3, a4, a5, ?_⟩⟩
  have hne : g ws ≠ .stuck := fun z => by rw [z] at a6; exact a6
  rw [e ws hne]
  exact a6
end
/-- the arguments of a call: frozen (fz), or given away (mv) -/
abbrev Eg := SD → R (List (D × Nat))
def gNil : Eg := fun sd => .ok [] sd
def gFz (f : Ev) (fs : Eg) : Eg := fun sd => (f sd).bind fun x sd1 => (fs sd1).bind fun xs sd2 => .ok ((x.1, 0) :: xs) sd2
def gMv (f : Ev) (fs : Eg) : Eg := fun sd => (f sd).bind fun x sd1 => (fs sd1).bind fun xs sd2 => .ok (x :: xs) sd2
def FR.r (r : FR) (sd : SD) : R (D × Nat) := match r with
  | .ok w => .ok w sd
  | .exc x => .exc x sd
  | .stuck => .stuck
@[simp] theorem FR.r_ok (w : D × Nat) (sd : SD) : (FR.ok w).r sd = .ok w sd := eqr rfl
@[simp] theorem FR.r_exc (x : Exn) (sd : SD) : (FR.exc x).r sd = .exc x sd := eqr rfl
@[simp] theorem FR.r_stuck (sd : SD) : (FR.stuck).r sd = .stuck := eqr rfl
def cal (n : Nat) (f : Fn) (dfl : List D) (fs : Eg) : Ev := fun sd => (fs sd).bind fun xs sd1 => if (xs.length + dfl.length == n) = true then (f (xs ++ dfl.map fun d => (d, 0))).r sd1 else .stuck
section
variable (K : PySem.W.Frag) (mg : Mg) (W : WX)
def argP (Z F : Pz) (σ : St) (H : Hp) (r : R (List (D × Nat))) (Q : List V → Hp → Prop) : Prop := match r with
  | .ok ws sd' => ∀ vs Z' H' o, Slots K Z' H' (vs.map some) (ws.map some) o → o.Nodup → (∀ a ∈ o, ¬ F a) → Ok K Z' (uni F o) H' σ sd' → Ext F Z H Z' H' → Q vs H'
  | .exc x sd' => excP K mg W Z F σ H x sd'
  | .stuck => False
def tG (f : Eg) : TA := fun σ H Q => ∃ Z F sd, Ok K Z F H σ sd ∧ argP K mg W Z F σ H (f sd) Q
end
def SGa (X : Cx) (W : WX) (es : List Expr) (f : Eg) : Prop := PA X es (tG X.K X.mg W f)
section
variable {X : Cx} {W : WX} {pos p q : Pos} {a b c : Expr} {es : List Expr} {fa fb : Ev} {fs : Eg}
theorem sga_nil : SGa X W [] gNil := PA.imp pa_nil fun σ H Q ⟨Z, F, sd, ok, h⟩ => h [] Z H [] .nil .nil (fun _ m => absurd m List.not_mem_nil) ok.unnil .refl
theorem sga_fz (ha : SE X W a fa) (hs : SGa X W es fs) (hst : starEach (a :: es) X.env = (false, eval a X.env) :: starEach es X.env := by rfl) : SGa X W (a :: es) (gFz fa fs) := by
  refine PA.imp (pa_cons ha hs hst) fun σ H Q ⟨Z, F, sd, ok, h⟩ => ?_
  unfold gFz at h
  refine eP.seq (G := fun _ _ => True) ok (fun w sd1 e y Z1 H1 r ok1 x1 => ?_) (fun x sd1 e => ?_) (fun e => ?_)
  · rw [e, R.bind_ok] at h
    refine ⟨Z1, F, sd1, ok1, ?_⟩
    cases e2 : fs sd1 with
    | ok ws sd2 =>
      rw [e2, R.bind_ok] at h
      intro vs Z2 H2 o s nd nf ok2 x2
      exact h (y :: vs) Z2 H2 o (.cons (o := []) (r.keep x2.z fun a m => absurd m List.not_mem_nil) s) nd nf ok2 (x1.trans x2)
    | exc x sd2 => rw [e2] at h; exact excP.go0 h x1
    | stuck => rw [e2] at h; exact h
  · rw [e] at h; exact h
  · rw [e] at h; exact h
theorem sga_mv (ha : SE X W a fa) (hs : SGa X W es fs) (hst : starEach (a :: es) X.env = (false, eval a X.env) :: starEach es X.env := by rfl) : SGa X W (a :: es) (gMv fa fs) := by
  refine PA.imp (pa_cons ha hs hst) fun σ H Q ⟨Z, F, sd, ok, h⟩ => ?_
  unfold gMv at h
  refine eP.seqO ok (fun w sd1 e y Z1 H1 o1 r nd1 nf1 ok1 x1 => ?_) (fun x sd1 e => ?_) (fun e => ?_)
  · rw [e, R.bind_ok] at h
    refine ⟨Z1, uni F o1, sd1, ok1, ?_⟩
    cases e2 : fs sd1 with
    | ok ws sd2 =>
      rw [e2, R.bind_ok] at h
      intro vs Z2 H2 o s nd nf ok2 x2
      refine h (y :: vs) Z2 H2 (o1 ++ o) (.cons (r.keep x2.z fun a m => x2.f a (.inr m)) s) ?_ (fun a m => ?_) (ok2.less fun a z => ?_) (x1.trans (x2.mono fun _ z => .inl z))
      · exact List.nodup_append.mpr ⟨nd1, nd, fun a ha b hb e => nf b hb (.inr (e ▸ ha))⟩
      · rcases List.mem_append.mp m with m | m
        · exact nf1 a m
        · exact fun z => nf a m (.inl z)
      · rcases z with z | z
        · exact .inl (.inl z)
        · rcases List.mem_append.mp z with m | m
          · exact .inl (.inr m)
          · exact .inr m
    | exc x sd2 => rw [e2] at h; exact excP.go h x1
    | stuck => rw [e2] at h; exact h
  · rw [e] at h; exact h
  · rw [e] at h; exact h
theorem Slots.app {K : PySem.W.Frag} {Z : Pz} {H : Hp} {σ τ : St} {sd te : SD} {o p : List Addr} (h : Slots K Z H σ sd o) (h' : Slots K Z H τ te p) : Slots K Z H (σ ++ τ) (sd ++ te) (o ++ p) := by
  induction h with
  | nil => exact h'
  | skip _ ih => exact .skip ih
  | @cons v d k σ sd o p1 r _ ih => rw [List.append_assoc]; exact .cons r ih
theorem Slots.of_all {K : PySem.W.Frag} {Z : Pz} {H : Hp} {vs : List V} {ds : List D} (h : RpAll K Z H vs ds 0 []) : Slots K Z H (vs.map some) ((ds.map fun d => (d, 0)).map some) [] := by
  induction vs generalizing ds with
  | nil =>
    cases ds with
    | nil => exact .nil
    | cons _ _ => have := h.length; cases this
  | cons v vs ih =>
    cases ds with
    | nil => have := h.length; cases this
    | cons d ds =>
      obtain ⟨r1, r2⟩ := h.uncons
      exact .cons (o := []) r1 (ih r2)
/-- a call of one of the text's own defs -/
theorem se_call {x : Str} {k n : Nat} {dfl : List D} {f : Fn} (G : Def X.prog X.w X.K X.mg X.base x k n dfl f) (hr : Room k X.A) (tk : Takes X W) (ha : SGa X W (a :: es) fs) (hg : Gl X x := by rfl) (hdb : (x == ("__debug__" : Str)) = false := by decide)
    (he : starEach (a :: es) X.env = (false, eval a X.env) :: starEach es X.env := by rfl) (hpl : (backTo pos (starEach es X.env)).any (·.1) = false := by rfl) : SE X W (.Call (.Name x p) (a :: es) [] pos) (cal n f dfl fs) := by
  obtain ⟨fa, fd, ps, dvs, ds, h1, h2, h3, h4, h5, h6⟩ := G.ex
  refine PE.imp (pe_callSD h6 hr hg h1 h2 h3 h4 (fun σ => passAt tk σ) ha hdb he hpl) fun σ H Q ⟨Z, F, sd, ok, h⟩ => ?_
  refine ⟨Z, F, sd, ok, ?_⟩
  unfold cal at h
  cases e : fs sd with
  | stuck => rw [e] at h; exact h
  | exc y sd1 => rw [e] at h; exact h
  | ok ws sd1 =>
    rw [e, R.bind_ok] at h
    intro vs Z1 H1 o s nd nf ok1 x1
    obtain ⟨ow, ss, ndw, nfw, b⟩ := ok1.ex
    split at h
    case isFalse => exact h.elim
    rename_i hn
    have hlen : (vs ++ dvs).length = n := by
      have q1 := s.length
      have q2 := (h5 Z1 H1).length
      rw [List.length_map, List.length_map] at q1
      rw [List.length_append, q1, q2]
      exact beq_iff_eq.mp hn
    refine ⟨Z1, uni F ow, ws ++ dfl.map fun d => (d, 0), o, hlen, ?_, nd, fun a m z => ?_, ⟨b.z, fun a f => b.f a ?_⟩, ?_⟩
    · rw [List.map_append, List.map_append]
      have := s.app (Slots.of_all (h5 Z1 H1))
      rw [List.append_nil] at this
      exact this
    · rcases z with z | z
      · exact nf a m z
      · exact nfw a z (.inr m)
    · rcases f with (f | f) | f
      · exact .inl (.inl f)
      · exact .inr f
      · exact .inl (.inr f)
    · cases e2 : f (ws ++ dfl.map fun d => (d, 0)) with
      | ok w =>
        rw [e2, FR.r_ok] at h
        intro v Z2 H2 o2 r2 nd2 nf2 b2 x2
        refine h v Z2 H2 o2 r2 nd2 (fun a m z => nf2 a m (.inl z)) ⟨ow, ss.keep x2.z fun a m => x2.f a (.inr m), ndw, fun a m z => ?_, b2.z, fun a f => b2.f a ?_⟩ (x1.trans (x2.mono fun _ z => .inl z))
        · rcases z with z | z
          · exact nfw a m (.inl z)
          · exact nf2 a z (.inr m)
        · rcases f with (f | f) | f
          · exact .inl (.inl f)
          · exact .inr f
          · exact .inl (.inr f)
      | exc y =>
        rw [e2, FR.r_exc] at h
        intro c dd Z2 H2 ea b2 x2
        refine h c dd Z2 H2 ea ⟨ow, ss.keep x2.z fun a m => x2.f a (.inr m), ndw, fun a m z => nfw a m (.inl z), b2.z, b2.f⟩ (x1.trans (x2.mono fun _ z => .inl z))
      | stuck => rw [e2, FR.r_stuck] at h; exact h
end
end VS
/-! VS8: what the generated texts lean on. -/
namespace VS
open PySem PySem.Spec L2
open PyProof.Rows (envOfC)

/-- the top has written the def st under the name x -/
def HasFn (K : PySem.W.Frag) (x : Str) (st : Stmt) : Prop :=
  ∃ (f : Addr) (oc : Value) (od : Option Addr) (kV doc pm : Value) (an : Option Addr) (cdv ct : Value) (osl : Array (Option Value)),
    PySem.W.nsIn K mainGlobals x = some (some (.ref f)) ∧ K.lookup f = some ⟨oc, od, .func (PySem.W.fnOf x x (defArgs st) (defBody st) (defScope st) .none kV doc pm an cdv ct), osl⟩ ∧ PySem.W.codeIn K cdv x = true ∧ PySem.W.keepIn K (.ref f) = true
/-- .. as the defs use it -/
def IsFn (K : PySem.W.Frag) (mg : Mg) (x : Str) (st : Stmt) : Prop := ∃ f fd, mg x = some (.ref f) ∧ Fun K x x st f fd
theorem HasFn.is {K : PySem.W.Frag} {h : Heap} {mg : Mg} {x : Str} {st : Stmt} (a : HasFn K x st) (X : K.In h) (G : h.Ns mainGlobals mg) : IsFn K mg x st := by
  obtain ⟨f, oc, od, kV, doc, pm, an, cdv, ct, osl, h1, h2, h3, h4⟩ := a
  exact ⟨f, _, PySem.W.mg_of X G h1, fun_mk h2 h3 h4⟩
section
variable {P : Program} {w : World} {K : PySem.W.Frag} {mg : Mg} {base : Heap}
/-- the context of a def's body -/
abbrev cxD (P : Program) (w : World) (K : PySem.W.Frag) (mg : Mg) (base : Heap) (N : List Str) (x : Str) (st : Stmt) (f : Addr) (cdv : Value) (A : Around) (outer : List Env) (s : Shared) (H : Hp) (E : XK) : Cx := cxOf (L2.CX P w) P w K mg base N x (defScope st) f cdv A outer s H E
abbrev wxD (E : XK) : WX := fun c d _ H' => E c d H'
/-- what holds in every body -/
structure Cg (X : Cx) (W : WX) (k : Nat) : Prop where
  calm : X.calm = true
  nd : X.N.Nodup
  hp : PassesOwn (model X.prog X.w) X.A X.env X.xe
  tk : Takes X W
  hr : Room k X.A
theorem Cg.hu {X : Cx} {W : WX} {k : Nat} (c : Cg X W k) : X.A.units + 64 < cLine := c.hr.units
theorem cg_of {N : List Str} {x : Str} {st : Stmt} {f : Addr} {cdv : Value} {A : Around} {outer : List Env} {s : Shared} {H : Hp} {E : XK} {k : Nat} (nd : N.Nodup) (hr : Room k (A.deeper (envOfC x (defScope st) s.heap.objs.size f cdv))) : Cg (cxD P w K mg base N x st f cdv A outer s H E) (wxD E) k :=
  ⟨rfl, nd, passes_of (K := fun e s'' => L2.CX P w outer H s E e s'') (E₁ := fun e' s'' => L2.CX P w outer H s E e' s'') rfl, takes_of rfl rfl rfl rfl, hr⟩
theorem def_ok {x : Str} {st : Stmt} {N ps : List Str} {k : Nat} {body : Sm} (hf : IsFn K mg x st) (S : FnScope N ps (defScope st))
    (hb : ∀ (kV doc pm : Value) (an : Option Addr) (cdv ct : Value) (us : List Value), us.length = ps.length → bindArgs (PySem.W.fnOf x x (defArgs st) (defBody st) (defScope st) .none kV doc pm an cdv ct) ⟨us, []⟩ = pure (ps.zip us))
    (hbody : ∀ (f : Addr) (cdv : Value) (A : Around) (outer : List Env) (s : Shared) (H : Hp) (E : XK), Cg (cxD P w K mg base N x st f cdv A outer s H E) (wxD E) k →
      SSs (cxD P w K mg base N x st f cdv A outer s H E) (wxD E) (defBody st) body) : Def P w K mg base x (k + 1) ps.length [] (fnOf N.length body) := by
  obtain ⟨f, fd, h1, Fu⟩ := hf
  exact ⟨f, fd, ps, [], [], h1, Fu.kp, Fu.binds hb, .nil, fun _ _ => .nil 0, fn_ok Fu S fun cdv A outer s H E hr => hbody f cdv A outer s H E (cg_of S.nd hr)⟩
end
section
variable {X : Cx} {W : WX} {pos : Pos}
/-- a module's int -/
theorem se_globI {x : Str} {i : Int} (h : ∃ t, X.mg x = some (.int i t)) (hg : Gl X x := by rfl) (hd : (x == ("__debug__" : Str)) = false := by decide) : SE X W (.Name x pos) (cst (.int i)) := by
  obtain ⟨t, h⟩ := h
  exact se_cst (v := .int i) (pe_glob hg h ⟨t, rfl⟩ hd) fun _ _ => .int _ _
/-- facts of a block's body -/
theorem Cg.blk {k : Nat} (c : Cg X W k) : X.calm = true ∧ X.N.Nodup ∧ Room k X.A := ⟨c.calm, c.nd, c.hr⟩
end
/-- the law's own def, as the end wants it -/
theorem law_ok {P : Program} {w : World} {K : PySem.W.Frag} {mg : Mg} {st : Stmt} {N : List Str} {k : Nat} {body : Sm} {fa : Addr} (Good : Heap → Prop) (hf : IsFn K mg "law" st) (S : FnScope N ["script"] (defScope st))
    (hb : ∀ (kV doc pm : Value) (an : Option Addr) (cdv ct : Value) (us : List Value), us.length = (["script"] : List Str).length → bindArgs (PySem.W.fnOf "law" "law" (defArgs st) (defBody st) (defScope st) .none kV doc pm an cdv ct) ⟨us, []⟩ = pure ((["script"] : List Str).zip us))
    (hbody : ∀ (base : Heap), Good base → ∀ (f : Addr) (cdv : Value) (A : Around) (outer : List Env) (s : Shared) (H : Hp) (E : XK), Cg (cxD P w K mg base N "law" st f cdv A outer s H E) (wxD E) k →
      SSs (cxD P w K mg base N "law" st f cdv A outer s H E) (wxD E) (defBody st) body) (hfa : mg "law" = some (.ref fa)) :
    ∃ fd : FuncData, (∀ (s : Shared) (u : Value), BindsTo s fd ⟨[u], []⟩ [("script", u)]) ∧ ∀ base : Heap, Good base → FnOk P w K mg base (L2.CX P w) (k + 1) fa fd ["script"] (spF K mg 1 (fnOf N.length body)) := by
  obtain ⟨f, fd, h1, Fu⟩ := hf
  rw [hfa] at h1
  cases h1
  refine ⟨fd, fun s u => ?_, fun base g => fn_ok Fu S fun cdv A outer s H E hr => hbody base g fa cdv A outer s H E (cg_of S.nd hr)⟩
  obtain ⟨oc, od, kV, doc, pm, an, cdv, ct, osl, rfl, lk, hcd⟩ := Fu.ex
  exact .of_eq (hb kV doc pm an cdv ct [u] rfl)
/-- the promise of the law's own def: it raises nothing -/
def spL (K : PySem.W.Frag) (f : Fn) : Sp := fun vs H Q _ => ∃ (Z F : Pz) (ws : List (D × Nat)) (o : List Addr) (w : D × Nat), vs.length = 1 ∧ Slots K Z H (vs.map some) (ws.map some) o ∧ o.Nodup ∧ (∀ a ∈ o, ¬ F a) ∧ Ok0 Z (uni F o) H ∧ f ws = .ok w ∧
  ∀ v Z' H' o', Rp K Z' H' v w.1 w.2 o' → Q v H'
theorem spL_imp {K : PySem.W.Frag} {mg : Mg} {f : Fn} (vs : List V) (H : Hp) (Q : VK) (E : XK) (h : spL K f vs H Q E) : spF K mg 1 f vs H Q E := by
  obtain ⟨Z, F, ws, o, w, h1, h2, h3, h4, h5, h6, h7⟩ := h
  refine ⟨Z, F, ws, o, h1, h2, h3, h4, h5, ?_⟩
  rw [h6]
  exact fun v Z' H' o' r _ _ _ _ => h7 v Z' H' o' r
/-- the end of a law's row: the law's own def, on the script, gives True -/
theorem walk_law {l : PySem.W.OpenLaw} {q : Program} {loose : List Str} {XP : (Str → Option Value) → Heap → Prop} {YP : World → Heap → Prop} {d : DefRec} {K : Params → PySem.W.Frag} {k n : Nat} {f : Fn} (hn : l.most = some n) (hn2 : n ≤ sizeLine) (hdf : d.params.defaults = []) (hr : Room k callerA)
    (hY : ∀ (w : World) (h : Heap), YP w h → (K w.params).In h)
    (F : ∀ (w : World) (mg : Mg) (fa : Addr) (h : Heap), (K w.params).In h → h.Ns mainGlobals mg → mg d.name = some (.ref fa) →
      ∃ fd : FuncData, (∀ (s : Shared) (u : Value), BindsTo s fd ⟨[u], []⟩ [("script", u)]) ∧ ∀ base : Heap, (K w.params).In base → base.Ns mainGlobals mg → FnOk l.prog w (K w.params) mg base (L2.CX l.prog w) k fa fd ["script"] (spF (K w.params) mg 1 f))
    (hf : ∀ ns : List Int, ns.length ≤ n → (∀ z ∈ ns, Builtin.Int.intBits z ≤ 1048576) → ∃ k, f [(.scr (ns.map .int), 0)] = .ok (.bl true, k)) :
    PySem.W.WalkO q loose XP YP l.row.toRowW d [] (fun f vs => PySem.call f vs) := by
  refine L2.walk_ofB (n := n) (k := k) (x := "script") (CX := fun w => L2.CX l.prog w) (sp := fun w => spL (K w.params) f) hn hn2 hdf hr hY (fun w mg fa h KX G hmg => ?_) (fun w H a ns hl hb hO hS => ?_) fun w H s e s' h => ?_
  · obtain ⟨fd, h1, h2⟩ := F w mg fa h KX G hmg
    exact ⟨fd, h1, fun base g1 g2 => (h2 base g1 g2).imp spL_imp⟩
  · obtain ⟨k', e⟩ := hf ns hl hb
    refine ⟨fun b => ∃ o, H b = some o, fun _ => False, [(.scr (ns.map .int), 0)], [], _, rfl, ?_, .nil, fun _ m => absurd m List.not_mem_nil, ⟨fun _ z => z, fun a f => ?_⟩, e, fun v Z' H' o' r => ?_⟩
    · refine .cons (o := []) (.scr 0 (.inl ?_) (RpAll.of_ints ns)) .nil
      rcases hS with h | h
      · refine .inl ⟨?_, h⟩
        rcases h with h | ⟨o, h⟩
        · exact ⟨_, h⟩
        · exact ⟨_, h⟩
      · exact .inr h
    · rcases f with f | f
      · exact f.elim
      · exact absurd f List.not_mem_nil
    · cases r
      rfl
  · obtain ⟨_, _, _, _, _, _, _, _, _, _, _, _, z⟩ := h
    exact z
end VS
namespace VS
/-- enough turns for any while of these texts -/
def bigN : Nat := 1000000
end VS
/-! VS9: enumerate of a tuple, sorted(set(..)), least of pairs. -/
namespace VSE
open PySem
open Sem (wp)
open AutoSeq1 (wpAny_loadPart')
/-- what enumerate(t) makes -/
def enO (n : Nat) : Obj := { cls := .type "enumerate", data := .fields #[.none, .bool false, .ref n, rawInt 0, .none, .none] }
def tiO (t : Addr) : Obj := { cls := .type "tuple_iterator", data := .fields #[.ref t, .int 0 0] }
theorem enum_new_tuple (t : Addr) (items : Array Value) (n : Nat) (dct : Option Addr) (sl : Array (Option Value)) :
    Meets (Builtin.«enumerate.__new__» ⟨[.type "enumerate", .ref t], []⟩) (fun _ R s =>
      s.heap.get? t = some { cls := .type "tuple", dict := dct, data := .seq items n, slots := sl } ∧ R (.ok (.ret (.ref (s.heap.push (tiO t)).objs.size))) { s with heap := (s.heap.push (tiO t)).push (enO s.heap.objs.size) }) := by
  refine .of_wp fun prog w A R s h => ?_
  obtain ⟨hp, g, d, tk, os⟩ := s
  obtain ⟨ht, h⟩ := h
  have hsub := sub_enumerate
  have hT : Heap.IsTuple (Shared.heap ⟨hp, g, d, tk, os⟩) t items := ⟨_, ht, rfl, n, rfl⟩
  wp_walk using wpAny_loadPart' ht
  refine wpAny_stack_any fun st => wpAny_pure ?_
  split
  · rename_i c _ _ _ _ _
    cases (c == Value.type "enumerate") <;> (wp_walk using wpAny_loadPart' ht, wpAny_pyIter_tuple hT; exact ⟨_, rfl, h⟩)
  · wp_walk using wpAny_loadPart' ht, wpAny_pyIter_tuple hT
    exact ⟨_, rfl, h⟩
section
variable {prog : Program} {w : World} {A : Around} {E : Value → Shared → Prop} {s : Shared}
theorem call_enum_tuple {t : Addr} {items : Array Value} {Q : Value → Shared → Prop} (hT : s.heap.IsTuple t items)
    (h : ∀ h', IsEnum h' (s.heap.objs.size + 1) s.heap.objs.size 0 .none → h'.IsTupleIter s.heap.objs.size t 0 → (∀ b o, s.heap.get? b = some o → h'.get? b = some o) → Q (.ref (s.heap.objs.size + 1)) { s with heap := h' }) :
    wpAny (model prog w) A (call (.type "enumerate") [.ref t]) Q E s := by
  obtain ⟨⟨c, dct, dt, sl⟩, ht, hc, n, hd⟩ := hT
  replace hc : c = .type "tuple" := hc
  replace hd : dt = .seq items n := hd
  subst hc hd
  refine callType_new F.called_enumerate (by decide) (F.typeCall_enumerate_1 _) (F.newCall_enumerate_1 _) (fun obj => F.args_object_init_2 obj _) F.entry_enumerate_new (enum_new_tuple t items n dct sl) ⟨ht, ?_⟩
  have hz : (s.heap.push (tiO t)).objs.size = s.heap.objs.size + 1 := Heap.size_push ..
  have he : IsEnum ((s.heap.push (tiO t)).push (enO s.heap.objs.size)) (s.heap.objs.size + 1) s.heap.objs.size 0 .none := by
    have q := Heap.get?_push_size (s.heap.push (tiO t)) (o := enO s.heap.objs.size) rfl
    rw [hz] at q
    exact q
  show _ ∧ _
  rw [hz]
  exact ⟨⟨_, he, rfl⟩, h _ he ⟨_, Heap.get?_push_of_some _ (Heap.get?_push_size _ rfl), rfl, rfl⟩ fun b o x => Heap.get?_push_of_some _ (Heap.get?_push_of_some _ x)⟩
end
end VSE
namespace VS
open PySem PySem.Spec L2
/-! ### enumerate of a tuple -/
def IteT (K : PySem.W.Frag) (a : Addr) : It :=
  ⟨fun i H => ∃ (xs : List V) (x : V), SqT K H a xs ∧ xs[i]? = some x, fun i H v H' => ∃ T x, v = .ref T ∧ H T = none ∧ H' = upd H T (.tup [.int (i : Nat), x]) ∧ ∀ xs, SqT K H a xs → xs[i]? = some x, fun i H => ∃ xs : List V, SqT K H a xs ∧ xs.length ≤ i⟩
theorem turn_enumT {P : Program} {w : World} {K : PySem.W.Frag} {elts : List Expr} {kk : Nat} {tpos : Pos} (a e it : Addr) :
    Turn P w K (.Tuple elts kk tpos) (IteT K a) [e, it] e (fun i h => (∃ old, IsEnum h e it ((i : Nat) : Int) old) ∧ h.IsTupleIter it a i ∧ e ≠ it ∧ a ≠ it ∧ a ≠ e) where
  mem := by simp
  obj := fun i h st b hb => by
    obtain ⟨⟨old, he⟩, ⟨o, ho, hc, hd⟩, _⟩ := st
    rcases (by simpa using hb : b = e ∨ b = it) with z | z
    · subst z; exact ⟨_, he, fun v q => nomatch q⟩
    · subst z; exact ⟨o, ho, fun v q => by rw [hd] at q; cases q⟩
  keep := fun i h h' st k => by
    obtain ⟨⟨old, he⟩, hi, hne⟩ := st
    exact ⟨⟨old, k e (by simp) _ he⟩, hi.at fun o q => k it (by simp) o q, hne⟩
  item := by
    rintro X rfl rfl rfl hc i pins s σ H E I hf ⟨⟨old, he⟩, hit, hne, hai, hae⟩ ⟨xs, x, hq, hx⟩
    obtain ⟨its, rv, pt, hz⟩ := I.tuple hq
    obtain ⟨u, hu, ru⟩ := rv.get hx
    have hel : e < s.heap.objs.size := Heap.lt_size he
    have hil : it < s.heap.objs.size := by obtain ⟨_, z, _⟩ := hit; exact Heap.lt_size z
    have hlt : i < its.toArray.size := by
      obtain ⟨z, _⟩ := List.getElem?_eq_some_iff.mp hu
      simpa using z
    have D := Draws.tuple (prog := X.prog) (w := X.w) (A := X.A.in1) (show X.A.in1.handled = none from I.ok.hd hc) it a hai its.toArray
    refine wpAny_pyNext_enum_itemD D he ⟨hit, pt⟩ hlt hne (by simp [hne, Ne.symm hae]) fun x' h' tk hP ho hs' hT hsz hk => ?_
    have ex : x' = u := by
      have q : its.toArray[i]? = some x' := hP
      rw [List.getElem?_toArray, hu] at q
      exact (Option.some.inj q).symm
    subst ex
    refine ⟨_, rfl, wpAny_letOwnedTupleGo_enum (s := { s with heap := h', toks := tk + 1 }) ho fun h'' he' sb => ?_⟩
    have hT2 : h''.get? s.heap.objs.size = some { cls := .type "tuple", data := .seq #[.int i tk, x'] } := (sb.2 _ (Nat.ne_of_gt hel)).trans hT
    have new : ObjOk X.prog X.w (upd H s.heap.objs.size (.tup [.int (i : Nat), x])) h'' s.heap.objs.size (.tup [.int (i : Nat), x]) :=
      ⟨by show 2 ≤ sizeLine; decide, [.int i tk, x'], .cons ⟨_, rfl⟩ (.cons ru .nil), ⟨_, hT2, rfl, _, rfl⟩⟩
    have I1 : Inv X pins σ (upd H s.heap.objs.size (.tup [.int (i : Nat), x])) { s with heap := h'', toks := tk + 1 } := by
      refine I.turnedNew (ch := [e, it]) (fun b ob hb q => ?_) hf (Nat.le_refl _) new
      have hbe : b ≠ e := fun z => hb (by simp [z])
      exact (sb.2 b hbe).trans (hk b ob hbe (fun z => hb (by simp [z])) q)
    refine ⟨.ref s.heap.objs.size, _, I1, rfl, ⟨_, x, rfl, I.hok.fresh (Nat.le_refl _), rfl, fun ys hy => by rw [I.tuple_inj hy hq]; exact hx⟩, ⟨⟨x', ?_⟩, hs'.1.at fun o q => (sb.2 it (Ne.symm hne)).trans q, hne, hai, hae⟩, fun b hb => ?_⟩
    · have e1 : ((i + 1 : Nat) : Int) = (i : Int) + 1 := by omega
      rw [e1]; exact he'
    · have hb' : b < s.heap.objs.size := by
        rcases (by simpa using hb : b = e ∨ b = it) with z | z <;> (rw [z]; assumption)
      rw [upd_ne (Nat.ne_of_lt hb')]
      exact (hf b hb).1
  done := by
    rintro X rfl rfl rfl hc i pins s σ H E I hf ⟨⟨old, he⟩, hit, hne, hai, hae⟩ ⟨xs, hq, hx⟩
    obtain ⟨its, rv, pt, hz⟩ := I.tuple hq
    obtain ⟨f0, f1, f2, f3, f4, f5⟩ := hf it (by simp)
    have hno : its.toArray[i]? = none := by
      rw [List.getElem?_toArray]
      exact List.getElem?_eq_none (by rw [← rv.length]; exact hx)
    have hT : s.TypeIs (.ref e) "enumerate" := ⟨_, he, rfl⟩
    unfold pyNext
    refine wpAny_bind (wpAny_attempt (wpAny_callSpecial?_slot (name := Str.ofString "__next__") hT PySem.F.slot_enumerate_next
      (wpAny_call_entry PySem.F.slot_enumerate_next hT PySem.F.entry_enumerate_next ?_ (PySem.F.args_enumerate_next_1 _))))
    show wpAny _ _ (field (.ref e) 2 >>= _) _ _ _
    refine wpAny_bind (wpAny_field he rfl (x := .ref it) rfl ?_)
    refine wpAny_bind (wpAny_nextOf_tuple_end (show X.A.in1.handled = none from I.ok.hd hc) hit pt hno fun h' x he' hx' => ?_)
    obtain ⟨o, ho, hcl⟩ := hx'
    refine wpAny_bind (wpAny_isInstance (T := "StopIteration") (b := true) ⟨o, ho, hcl⟩ isSubtype_stop ?_)
    exact wpAny_pure ⟨rfl, I.turned (t' := s.toks) (fun b o hb q => he' b o hb q) f0 f1 f3 f4 f5⟩
  self := fun A i s Q E st h => by
    obtain ⟨⟨_, he⟩, _⟩ := st
    exact wpAny_pyIter_enum he h
theorem ItOk.enumT {K : PySem.W.Frag} {Z : Pz} {H : Hp} {a : Addr} {xs : List V} {ds : List D} (z : Z a) (h : H a = some (.tup xs)) (r : RpAll K Z H xs ds 0 []) : ItOk K (IteT K a) (enumFrom 0 ds) Z H := by
  intro i Z2 H2 st hz
  obtain ⟨z2, e2⟩ := st a z
  have h2 : SqT K H2 a xs := .of (e2.trans h)
  refine ⟨fun hi => ⟨xs, h2, by rw [enumFrom_len] at hi; rw [r.length]; exact hi⟩, fun d hd => ?_⟩
  rw [enumFrom_at] at hd
  obtain ⟨d', hd', rfl⟩ := Option.map_eq_some_iff.mp hd
  obtain ⟨v, hv, rv⟩ := r.get hd'
  refine ⟨⟨xs, v, h2, hv⟩, fun x H' y => ?_⟩
  obtain ⟨T, u, rfl, hT, e, y⟩ := y
  subst e
  have := y xs h2
  rw [hv] at this
  cases this
  have rv2 : Rp K Z2 H2 v d' 0 [] := rv.keep st fun a m => absurd m List.not_mem_nil
  refine ⟨fun a => Z2 a ∨ a = T, Gr.fz hT, .tup 0 (.inr rfl) upd_same ?_⟩
  rw [Nat.zero_add]
  exact .cons (o := []) (p := []) (.int _ _) (.cons (o := []) (p := []) (Gr.rp (Gr.fz hT) hz rv2) (.nil 0))
def iEnu (f : Ev) : Ei := fun sd => (f sd).bind fun x sd1 => match x.1 with
  | .lst ds => .ok (enumFrom 0 ds) sd1
  | .tup ds => .ok (enumFrom 0 ds) sd1
  | _ => .stuck
section
variable {X : Cx} {W : WX} {pos p q : Pos} {tg a b : Expr} {fa fb : Ev}
def iEnumT (K : PySem.W.Frag) (ta : TA) : TI := fun σ H R => ta σ H fun vs H1 => ∃ a xs, vs = [.ref a] ∧ SqT K H1 a xs ∧ R (IteT K a) H1
theorem pi_enumT {e : Expr} {ta : TA} {tpos : Pos} {elts : List Expr} {kk : Nat} (hg : Gl X "enumerate") (hm : X.mg "enumerate" = none) (ha : PA X [e] ta) (hs : starEach [e] X.env = [(false, eval e X.env)] := by rfl) :
    PI X (.Tuple elts kk tpos) (.Call (.Name "enumerate" p) [e] [] pos) (iEnumT X.K ta) := by
  refine ⟨fun pins s σ H R I h => ?_⟩
  refine PyProof.Rows.Call_ (ld_blt I hg hm PyProof.Rows.boot_enumerate (PyProof.Rows.callWith_type1 (thn (ha.run pos pins s σ H _ I h) fun us s1 hh => ?_) hs rfl))
  obtain ⟨vs, H1, I1, r1, a, xs, rfl, hq, q⟩ := hh
  cases r1 with
  | cons r rr =>
    cases rr
    cases r
    obtain ⟨its, rv, pt, hz⟩ := I1.tuple hq
    have hal : a < s1.heap.objs.size := pt.lt
    refine VSE.call_enum_tuple pt fun h' he hit hk => wpAny_pyIter_enum he ?_
    have I2 : Inv X pins σ H1 { s1 with heap := h' } := I1.kept (t' := s1.toks) hk
    refine ⟨s1.heap.objs.size + 1, [s1.heap.objs.size + 1, s1.heap.objs.size], _, _, H1, rfl, I2, turn_enumT a (s1.heap.objs.size + 1) s1.heap.objs.size, ⟨⟨.none, he⟩, hit, Nat.succ_ne_self _, Nat.ne_of_lt hal, Nat.ne_of_lt (Nat.lt_succ_of_lt hal)⟩, fun b hb => ?_, q⟩
    have hle : s1.heap.objs.size ≤ b := by
      rcases (by simpa using hb : b = s1.heap.objs.size + 1 ∨ b = s1.heap.objs.size) with z | z
      · rw [z]; exact Nat.le_add_right _ _
      · rw [z]; exact Nat.le_refl _
    exact I1.fpOk hle (I1.hok.fresh hle)
theorem si_enum {elts : List Expr} {kk : Nat} {tpos : Pos} (ha : SE X W a fa) (hg : Gl X "enumerate") (hm : X.mg "enumerate" = none) (hst : starEach [a] X.env = (false, eval a X.env) :: starEach [] X.env := by rfl) (hs : starEach [a] X.env = [(false, eval a X.env)] := by rfl) :
    SI X W (.Tuple elts kk tpos) (.Call (.Name "enumerate" p) [a] [] pos) (iEnu fa) := by
  refine ⟨fun pins s σ H R' I ⟨Z, F, sd, ok, h⟩ => ?_⟩
  unfold iEnu at h
  cases e : fa sd with
  | ok w sd1 =>
    rw [e, R.bind_ok] at h
    split at h
    · rename_i ds ew
      refine (pi_enum hg hm (pa_cons ha pa_nil hst) hs).run pins s σ H R' I ?_
      refine eP.seq (G := fun _ _ => True) ok (fun w1 sd1' e1 y Z1 H1 ry ok1 x1 => ?_) (fun x sd1 e2 => ?_) (fun e2 => ?_)
      · rw [e] at e1; cases e1
        rw [ew] at ry
        generalize e0 : ([] : List Addr) = o0 at ry
        cases ry with
        | lst0 z hh r => exact ⟨_, _, rfl, .of hh, h _ Z1 H1 (ItOk.enum z hh r) ok1 x1⟩
      · rw [e] at e2; cases e2
      · rw [e] at e2; cases e2
    · rename_i ds ew
      refine (pi_enumT hg hm (pa_cons ha pa_nil hst) hs).run pins s σ H R' I ?_
      refine eP.seq (G := fun _ _ => True) ok (fun w1 sd1' e1 y Z1 H1 ry ok1 x1 => ?_) (fun x sd1 e2 => ?_) (fun e2 => ?_)
      · rw [e] at e1; cases e1
        rw [ew] at ry
        generalize e0 : ([] : List Addr) = o0 at ry
        cases ry with
        | tup _ z hh r => exact ⟨_, _, rfl, .of hh, h _ Z1 H1 (ItOk.enumT z hh r) ok1 x1⟩
      · rw [e] at e2; cases e2
      · rw [e] at e2; cases e2
    · exact h.elim
  | exc x sd1 =>
    rw [e] at h
    refine (pi_enum hg hm (pa_cons ha pa_nil hst) hs).run pins s σ H R' I (eP.seq (G := fun _ _ => True) ok (fun w1 sd1' e1 => ?_) (fun x sd1 e2 => ?_) (fun e2 => ?_))
    · rw [e] at e1; cases e1
    · rw [e] at e2; cases e2; exact h
    · rw [e] at e2; cases e2
  | stuck => rw [e] at h; exact h.elim
end
end VS
/-! VS10: sorted(set(xs)) of a list of ints. -/
namespace VSS
open PySem PySem.Spec PyProof.Rows L2
abbrev es0 (w : World) : Obj := { cls := .type "set", dict := none, data := .set #[] 0 (.fresh 0 0 (!w.params.followText "set-order")) }
section
variable {P : Program} {w : World} {A : Around} {E : Value → Shared → Prop} {s : Shared}
/-- what stands behind set(l) -/
structure Made (w : World) (s : Shared) (ns : List Int) (h' : Heap) (c : Nat) : Prop where
  set : SetR w h' s.heap.objs.size (fun j => decide (j ∈ ns)) c
  few : c ≤ ns.length
  kept : ∀ b o, s.heap.get? b = some o → h'.get? b = some o
set_option maxHeartbeats 3200000 in
theorem set_of_list {l : Addr} {items : Array Value} (ns : List Int) {Q : Value → Shared → Prop} (hh : A.handled = none) (hl : s.heap.IsList l items) (hit : IntsAre items.toList ns) (hb : ns.length + 1 < scanBound)
    (k : ∀ (h' : Heap) (tk c : Nat), Made w s ns h' c → Q (.ref s.heap.objs.size) { s with heap := h', toks := tk }) : wpAny (model P w) A (call (.type "set") [.ref l]) Q E s := by
  have hlen : items.size = ns.length := by
    have z := IntsAre.length hit
    rwa [Array.length_toList] at z
  obtain ⟨c, tl, hmro⟩ := F.called_set.mro
  have hmade := F.called_set.made
  have hsub := F.called_set.sub
  have nt := F.called_set.notType
  have cc := F.called_set.canCreate
  have ct := F.typeCall_set_1 (.ref l)
  refine wpAny_call (codeAny_of_tree ?_)
  show wpAny _ _ (callAny (.type "set") _) _ _ _
  refine wpAny_pure ⟨Code.quiet_builtin _ (by decide +kernel), codeAny_builtin F.entry_type_call ?_⟩
  rw [Around.under_plain (weight_type_call_type "set" [.ref l] []) rfl]
  repeat (any_goals (first | assumption | wp_step))
  refine codeAny_mono (code_set_led1 (.ref l) (E := E) (Q₁ := fun v s₁ => v = .ref s.heap.objs.size ∧ s₁ = { s with heap := s.heap.push (es0 w) }) ⟨rfl, rfl⟩) fun r s₁ hr => ?_
  match r, hr with
  | .error e, hr => exact hr
  | .ok .next, hr => exact hr.elim
  | .ok .brk, hr => exact hr.elim
  | .ok .cont, hr => exact hr.elim
  | .ok (.ret v), hr =>
    obtain ⟨rfl, rfl⟩ := hr
    have hS : (s.heap.push (es0 w)).get? s.heap.objs.size = some (es0 w) := Heap.get?_push_size _ rfl
    have hT : Shared.TypeIs { s with heap := s.heap.push (es0 w) } (.ref s.heap.objs.size) "set" := ⟨_, hS, rfl⟩
    have li := F.called_set.init.lookup
    have bi := F.called_set.init.bind (.ref s.heap.objs.size)
    repeat (any_goals (first | assumption | wp_step))
    refine codeAny_mono (codeAny_call_builtin (R := wants (fun r s₂ => r = .none ∧ ∃ h' tk c, s₂ = { s with heap := h', toks := tk } ∧ Made w s ns h' c) E) F.called_set.init.plain F.entry_set_init (check_set_init_1 hT ?_)) fun r₂ s₂ hr₂ => ?_
    · obtain ⟨ol, hol, hcl, hdc, nl, hdl⟩ : ∃ ol, s.heap.get? l = some ol ∧ ol.cls = .type "list" ∧ True ∧ ∃ nl, ol.data = .seq items nl := by
        obtain ⟨ol, a1, a2, nl, a3⟩ := hl
        exact ⟨ol, a1, a2, trivial, nl, a3⟩
      obtain ⟨oc, od, odt, osl⟩ := ol
      simp only at hcl hdl
      subst hcl
      subst hdl
      have hol' : (s.heap.push (es0 w)).get? l = some { cls := .type "list", dict := od, data := .seq items nl, slots := osl } := Heap.get?_push_of_some _ hol
      have n1 := F.sub_list_set
      have n2 := F.sub_list_frozenset
      have n3 : (Value.type "list" == Value.type "dict") = false := by decide
      have hl1 : (s.heap.push (es0 w)).IsList l items := ⟨_, hol', rfl, nl, rfl⟩
      unfold Builtin.«set.__init__» noKeywords Builtin.Frozenset.updateFrom
      generalize hPI : pyIter = PI
      wp_walk
      subst hPI
      refine wpAny_pyIter_list hl1 ?_
      refine wpAny_bind (wpAny_runValue ?_)
      have llt : l < s.heap.objs.size := Heap.lt_size hol
      have hz : (s.heap.push (es0 w)).objs.size = s.heap.objs.size + 1 := Heap.size_push ..
      have lne : l ≠ (s.heap.push (es0 w)).objs.size := by rw [hz]; exact Nat.ne_of_lt (Nat.lt_succ_of_lt llt)
      have sfar : s.heap.objs.size ∉ [(s.heap.push (es0 w)).objs.size, l] := by
        rw [hz]
        simp only [List.mem_cons, List.not_mem_nil, or_false, not_or]
        exact ⟨Nat.ne_of_lt (Nat.lt_succ_self _), Nat.ne_of_gt llt⟩
      have vals : ∀ (i : Nat) (v : Value), items[i]? = some v → ∃ k t, ns[i]? = some k ∧ v = .int k t := fun i v hv => by
        have hi : i < ns.length := by rw [← hlen]; exact (Array.getElem?_eq_some_iff.mp hv).1
        obtain ⟨t, e⟩ := PyProof.Rows.IntsAre.int_at hit i v (by rw [Array.getElem?_toList]; exact hv)
        have e2 : ns.getD i 0 = ns[i] := by rw [List.getD_eq_getElem?_getD, List.getElem?_eq_getElem hi]; rfl
        exact ⟨ns[i], t, List.getElem?_eq_getElem hi, by rw [e, e2]⟩
      have h3 : A.in1.in1.in1.handled = none := by simp [hh]
      refine set_update_ints ((Walks.list h3 _ l lne items).toS) s.heap.objs.size sfar ns hlen hb vals (items.size - 0) 0 _ (by omega) (Nat.zero_le _) ⟨⟨_, Heap.get?_push_size _ rfl, rfl, rfl⟩, hl1.push _⟩ ?_ ?_
      · exact ⟨0, Nat.le_refl 0, setR_new_at (Heap.get?_push_of_some _ hS)⟩
      · intro s' c' hm hc' hS'
        obtain ⟨h', g2, d', tk', os'⟩ := s'
        have eg : g2 = s.gens := hm.gens
        have ed : d' = s.drawn := hm.drawn
        have eo : os' = s.os := hm.os
        subst eg; subst ed; subst eo
        show wpAny _ _ _ _ _ _
        refine wpAny_pure ?_
        show wpAny _ _ (ret Value.none) _ _ _
        rw [hlen] at hc'
        refine wpAny_pure ⟨rfl, h', tk', c', rfl, hS', hc', fun b o e => ?_⟩
        have b0 : b < s.heap.objs.size := Heap.lt_size e
        refine hm.heap b o ?_ (Heap.get?_push_of_some _ (Heap.get?_push_of_some _ e))
        simp only [List.mem_cons, List.mem_singleton, List.not_mem_nil, or_false, not_or]
        exact ⟨Nat.ne_of_lt b0, by rw [hz]; exact Nat.ne_of_lt (Nat.lt_succ_of_lt b0)⟩
    · match r₂, hr₂ with
      | .error e, z => exact z
      | .ok .next, z => exact z.elim
      | .ok .brk, z => exact z.elim
      | .ok .cont, z => exact z.elim
      | .ok (.ret v), z =>
        obtain ⟨rfl, h', tk, c', rfl, m⟩ := z
        repeat (any_goals (first | assumption | wp_step))
        exact k _ _ _ m
end
end VSS
/-! VS11: sorted(set(xs)); the least and the greatest of pairs. -/
namespace VS
open PySem PySem.Spec L2
section
variable {X : Cx}
def rSetL (w : World) (K : PySem.W.Frag) : List V → Hp → VK → Prop := fun xs H Q => ∃ (a : Addr) (ns : List Int), xs = [.ref a] ∧ SqL K H a (ns.map V.int) ∧ ns.length < 60 ∧
  ∀ p c, H p = none → c ≤ ns.length → Q (.ref p) (upd H p (SetO w p (fun j => decide (j ∈ ns)) c))
/-- set(xs), xs a list of a few ints -/
theorem call_setL (hc : X.calm = true) : CallR X (.type "set") (rSetL X.w X.K) := by
  intro pins s σ H xs us Q I r h
  obtain ⟨a, ns, rfl, hq, hl, k⟩ := h
  obtain ⟨u, rfl, ru⟩ := vals1 r
  cases ru
  obtain ⟨its, rv, pl, hz⟩ := I.list hq
  refine VSS.set_of_list ns (I.ok.hd hc) pl.isList (by simpa using rv.ints) (by unfold scanBound; omega) fun h' tk c m => ?_
  have I2 : Inv X pins σ (upd H s.heap.objs.size (SetO X.w s.heap.objs.size (fun j => decide (j ∈ ns)) c)) { s with heap := h', toks := tk } := I.laid m.kept (Nat.le_refl _) (setO_new m.set)
  exact ⟨.ref s.heap.objs.size, _, I2, rfl, k _ c I.fresh m.few⟩
/-- the ints of a row, each once, rising -/
def insU (n : Int) : List Int → List Int
  | [] => [n]
  | m :: ms => if n < m then n :: m :: ms else if n = m then m :: ms else m :: insU n ms
def srtU (ns : List Int) : List Int := ns.foldr insU []
theorem mem_insU (n k : Int) : ∀ ms : List Int, k ∈ insU n ms ↔ k = n ∨ k ∈ ms
  | [] => by simp [insU]
  | m :: ms => by
    unfold insU
    split
    · simp
    · split
      · rename_i h; subst h; simp
      · rw [List.mem_cons, mem_insU n k ms, List.mem_cons]
        constructor
        · rintro (h | h | h)
          · exact .inr (.inl h)
          · exact .inl h
          · exact .inr (.inr h)
        · rintro (h | h | h)
          · exact .inr (.inl h)
          · exact .inl h
          · exact .inr (.inr h)
theorem insU_up (n : Int) : ∀ ms : List Int, ms.Pairwise (· < ·) → (insU n ms).Pairwise (· < ·)
  | [], _ => by simp [insU]
  | m :: ms, h => by
    unfold insU
    have h1 := (List.pairwise_cons.mp h).1
    have h2 := (List.pairwise_cons.mp h).2
    split
    · rename_i hn
      refine List.pairwise_cons.mpr ⟨fun k hk => ?_, h⟩
      rcases List.mem_cons.mp hk with rfl | hk
      · exact hn
      · have := h1 k hk; omega
    · split
      · exact h
      · refine List.pairwise_cons.mpr ⟨fun k hk => ?_, insU_up n ms h2⟩
        rcases (mem_insU n k ms).mp hk with rfl | hk
        · omega
        · exact h1 k hk
theorem mem_srtU (k : Int) (ns : List Int) : k ∈ srtU ns ↔ k ∈ ns := by
  unfold srtU
  induction ns with
  | nil => simp
  | cons n ns ih => rw [List.foldr_cons, mem_insU, ih, List.mem_cons]
theorem srtU_up (ns : List Int) : (srtU ns).Pairwise (· < ·) := by
  unfold srtU
  induction ns with
  | nil => exact .nil
  | cons n ns ih => exact insU_up n _ ih
theorem up_uniq {a b : List Int} (ha : a.Pairwise (· < ·)) (hb : b.Pairwise (· < ·)) (h : ∀ k, k ∈ a ↔ k ∈ b) : a = b := by
  have na : a.Nodup := ha.imp fun h e => by omega
  have nb : b.Nodup := hb.imp fun h e => by omega
  refine List.Perm.eq_of_pairwise (fun x y _ _ h1 h2 => by omega) ha hb ((List.perm_ext_iff_of_nodup na nb).mpr h)
def gSortSet : D → Option (D × Nat)
  | .lst ds => match intsOf ds with
    | some ns => if ns.length < 60 then some (.lst ((srtU ns).map .int), 1) else none
    | none => none
  | _ => none
variable {W : WX} {pos p p2 q2 : Pos} {a : Expr} {fa : Ev}
/-- sorted(set(xs)) -/
theorem se_sortset (hc : X.calm = true) (ha : SE X W a fa) (hg : Gl X "sorted") (hm : X.mg "sorted" = none) (hg2 : Gl X "set") (hm2 : X.mg "set" = none)
    (he : starEach [a] X.env = (false, eval a X.env) :: starEach [] X.env := by rfl) (he2 : starEach [.Call (.Name "set" p2) [a] [] q2] X.env = (false, eval (.Call (.Name "set" p2) [a] [] q2) X.env) :: starEach [] X.env := by rfl)
    (hpl : (backTo q2 (starEach [] X.env)).any (·.1) = false := by rfl) (hpl2 : (backTo pos (starEach [] X.env)).any (·.1) = false := by rfl) : SE X W (.Call (.Name "sorted" p) [.Call (.Name "set" p2) [a] [] q2] [] pos) (op1 gSortSet fa) := by
  refine PE.imp (pe_callB (cr_sortedSet hc) hg hm (by decide +kernel) (pa_cons (pe_callTy (call_setL hc) hg2 hm2 PyProof.Rows.boot_set (pa_cons ha pa_nil he) (by decide) (by decide) he hpl) pa_nil he2) (by decide) (by decide) he2 hpl2) fun σ H Q ⟨Z, F, sd, ok, h⟩ => ?_
  unfold op1 at h
  refine eP.seq (G := fun _ _ => True) ok (fun w1 sd1 e1 y Z1 H1 ry ok1 x1 => ?_) (fun x sd1 e2 => ?_) (fun e2 => ?_)
  · rw [e1, R.bind_ok] at h
    cases eg : gSortSet w1.1 with
    | none => rw [eg] at h; exact h.elim
    | some w =>
      rw [eg, lift_some] at h
      unfold gSortSet at eg
      split at eg
      · rename_i ds ed
        split at eg
        · rename_i ns en
          obtain ⟨hl, rfl⟩ := ite_some eg
          rw [ed] at ry
          have es := intsOf_some en
          subst es
          generalize e0 : ([] : List Addr) = o0 at ry
          cases ry with
          | lst0 z hh r =>
            have ev := r.ints
            subst ev
            refine ⟨_, ns, rfl, .of hh, hl, fun p1 c hp1 hcl => ?_⟩
            have g1 : Gr Z1 H1 Z1 (upd H1 p1 (SetO X.w p1 (fun j => decide (j ∈ ns)) c)) [] :=
              ⟨fun b u e => by rw [upd_ne (ne_of_none e hp1)]; exact e, fun _ z => z, fun _ z => .inl z, fun _ m => absurd m List.not_mem_nil, .nil⟩
            refine ⟨p1, _, c, rfl, upd_same, by omega, fun out pp hup hmem hlen hnone => ?_⟩
            have eo : out = srtU ns := up_uniq hup (srtU_up ns) fun k => by rw [hmem k, mem_srtU]; exact decide_eq_true_iff
            subst eo
            have ok2 := (g1.ok ok1).less (F' := F) fun _ z => .inl z
            exact eP.fin h (x1.trans (g1.ext ok1.base)) ok2 (Gr.cell ok2.base.z hnone) (.lstS (o := []) upd_same (RpAll.of_ints _))
        · cases eg
      · cases eg
  · rw [e2] at h; exact h
  · rw [e2] at h; exact h
end
/-! ### min of pairs -/
def prPy (p : Int × Int) : PyData := .tuple [.int p.1, .int p.2]
def lexLt2 (p q : Int × Int) : Bool := decide (p.1 < q.1 ∨ (p.1 = q.1 ∧ p.2 < q.2))
def minP (p : Int × Int) (ps : List (Int × Int)) : Int × Int := ps.foldl (fun a y => if lexLt2 y a then y else a) p
theorem minD_pairs : ∀ (ps : List (Int × Int)) (p : Int × Int), PySem.W.minD (prPy p) (ps.map prPy) = prPy (minP p ps)
  | [], _ => rfl
  | q :: ps, p => by
    have e : PySem.W.dataLt (prPy q) (prPy p) = lexLt2 q p := PySem.W.dataLt_ii _ _ _ _
    have ih := minD_pairs ps (if lexLt2 q p then q else p)
    unfold PySem.W.minD minP at ih ⊢
    rw [List.map_cons, List.foldl_cons, List.foldl_cons, e, ← ih]
    split <;> rfl
theorem prPy_inj {p q : Int × Int} (h : prPy p = prPy q) : p = q := by
  unfold prPy at h
  injection h with h
  injection h with h1 h
  injection h with h2 _
  injection h1 with h1
  injection h2 with h2
  exact Prod.ext h1 h2
theorem alike_pairs (ps : List (Int × Int)) : PySem.W.AlikeAll (ps.map prPy) := by
  refine ⟨fun x hx y hy => ?_, fun x hx => ?_⟩
  · obtain ⟨p, _, rfl⟩ := List.mem_map.mp hx
    obtain ⟨q, _, rfl⟩ := List.mem_map.mp hy
    simp [prPy, PySem.W.alike, PySem.W.alikeAll]
  · obtain ⟨p, _, rfl⟩ := List.mem_map.mp hx
    simp [prPy]
theorem depth_pairs : ∀ ps : List (Int × Int), PyData.depthAll (ps.map prPy) ≤ 1
  | [] => by simp [PyData.depthAll]
  | p :: ps => by
    have := depth_pairs ps
    simp only [List.map_cons, PyData.depthAll, prPy, PyData.depth]
    omega
section
variable {X : Cx}
def rMinP (K : PySem.W.Frag) : List V → Hp → VK → Prop := fun vs H Q => ∃ (a : Addr) (xs : List V) (p : Int × Int) (ps : List (Int × Int)), vs = [V.ref a] ∧ SqL K H a xs ∧ DpAll K H xs ((p :: ps).map prPy) ∧ ∀ (i : Nat) v, xs[i]? = some v → (p :: ps)[i]? = some (minP p ps) → Q v H
theorem cr_minP (hc : X.calm = true) (hu : X.A.units + 64 < cLine) : CallR X (.builtin "min") (rMinP X.K) := by
  intro pins s σ H vs us Q I r h
  obtain ⟨a, xs, p, ps, rfl, hs, hd, k⟩ := h
  obtain ⟨its, rv, pl, hz⟩ := I.list hs
  rw [Vals.ref1 r]
  obtain ⟨as, hr⟩ := Dp.readsAll I _ _ its hd rv
  have hr' : ReadsAll s.heap its.toArray.toList (prPy p :: ps.map prPy) as := by simpa using hr
  have hn : its.toArray.size = (ps.map prPy).length + 1 := PySem.W.readsAll_len hr'
  have hdep := depth_pairs (p :: ps)
  refine call_min_walkH (PySem.W.iter_listW (A := X.A.in1) (I.ok.hd hc) pl.isList fun s₂ e Wk st hfp hw hk => ?_)
  refine ⟨_, _, _, _, _, _, _, s.heap, _, rfl, Wk, st, hfp, by omega, hw, hk, PySem.W.cmpIn_lt (A := X.A.in1) hr' (alike_pairs (p :: ps)) ?_, fun v s' hP m => ?_⟩
  · show X.A.units + 1 + _ < _
    have : PyData.depthAll (prPy p :: ps.map prPy) ≤ 1 := hdep
    omega
  obtain ⟨h', tk, rfl, hk'⟩ := PySem.W.moved_old e rfl m
  have e1 : its.toArray.size - 1 = (ps.map prPy).length := by omega
  have e2 := PySem.W.argBest_fold PySem.W.dataLt PyData.none (prPy p) (ps.map prPy) (ps.map prPy).length (Nat.le_refl _)
  rw [e1] at hP
  generalize argBest (fun i j => PySem.W.dataLt ((prPy p :: ps.map prPy).getD i .none) ((prPy p :: ps.map prPy).getD j .none)) (ps.map prPy).length = j at hP e2
  obtain ⟨hj, e2⟩ := e2
  rw [List.take_length] at e2
  have hjl : j < (p :: ps).length := by rw [List.length_map] at hj; simp only [List.length_cons]; omega
  have e3 : (prPy p :: ps.map prPy).getD j .none = prPy (p :: ps)[j] := by
    rw [List.getD_eq_getElem?_getD, ← List.map_cons (f := prPy), List.getElem?_map, List.getElem?_eq_getElem hjl]
    rfl
  rw [e3] at e2
  have e4 : (p :: ps)[j] = minP p ps := by
    refine prPy_inj (e2.trans ?_)
    have := minD_pairs ps p
    unfold PySem.W.minD at this
    exact this
  have hP' : its[j]? = some v := by simpa using hP
  have hjx : j < xs.length := by
    rw [rv.length]
    exact (List.getElem?_eq_some_iff.mp hP').1
  obtain ⟨u, hu1, hu2⟩ := rv.get (List.getElem?_eq_getElem hjx)
  rw [hP'] at hu1
  cases hu1
  refine ⟨xs[j], H, I.kept (t' := tk) hk', hu2, k j _ (List.getElem?_eq_getElem hjx) ?_⟩
  rw [List.getElem?_eq_getElem hjl, e4]
def gMinE : List D → Option (D × Nat)
  | [.lst ds] => match intsOf ds with
    | some (n :: ns) => some (.int (ns.foldl min n), 0)
    | some [] => none
    | none => match pairsOf ds with
      | some (p :: ps) => some (prD (minP p ps), 0)
      | _ => none
  | [.int i, .int j] => some (.int (min i j), 0)
  | _ => none
theorem toPy_pr (p : Int × Int) : toPy (prD p) = some (prPy p) := by simp [prD, prPy, toPy, toPys]
theorem toPys_pr : ∀ ps : List (Int × Int), toPys (ps.map prD) = some (ps.map prPy)
  | [] => rfl
  | p :: ps => by simp [toPys, toPy_pr, toPys_pr ps]
theorem vr_minE {K : PySem.W.Frag} : VrN K (fun xs H Q => (rMin K xs H Q ∨ ∃ i j, xs = [.int i, .int j] ∧ Q (.int (if j < i then j else i)) H) ∨ rMinP K xs H Q) gMinE := by
  intro Z H xs ds w Q hz ra eg k
  by_cases h : gMin ds = some w
  · exact .inl (vr_min Z H xs ds w Q hz ra h k)
  · unfold gMinE at eg
    split at eg
    · rename_i ds
      split at eg
      · rename_i n ns e
        exact absurd (by simp only [gMin, gMin1, e]; exact eg) h
      · cases eg
      · rename_i e
        split at eg
        · rename_i p ps e2
          cases eg
          refine .inr ?_
          cases xs with
          | nil => have := ra.length; cases this
          | cons x xs =>
            obtain ⟨r1, r2⟩ := ra.uncons
            cases xs with
            | cons _ _ => have := r2.length; cases this
            | nil =>
              have e3 := pairsOf_some e2
              subst e3
              generalize e0 : ([] : List Addr) = o0 at r1
              cases r1 with
              | lst0 z hh r =>
                refine ⟨_, _, p, ps, rfl, .of hh, r.dp (toPys_pr _), fun i v hv hi => Gr.q k ?_⟩
                obtain ⟨d, e4, rd⟩ := r.get2 hv
                rw [List.getElem?_map, hi] at e4
                cases e4
                exact rd
        · cases eg
    · exact absurd (by unfold gMin gMin2; exact eg) h
    · cases eg
theorem cMinE (hc : X.calm = true) (hu : X.A.units + 64 < cLine) : CallR X (.builtin "min") (fun xs H Q => (rMin X.K xs H Q ∨ ∃ i j, xs = [.int i, .int j] ∧ Q (.int (if j < i then j else i)) H) ∨ rMinP X.K xs H Q) := (cMin hc).or (cr_minP hc hu)
end
end VS
/-! VS12: calls that borrow: an owned row is handed over, only looked at, and is owned behind the call. -/
namespace VS
open PySem PySem.Spec L2
/-- an argument: a value, or the name at slot i that is only lent -/
inductive Ag where
  | w (x : D × Nat)
  | b (i : Nat)
abbrev Eb := SD → R (List Ag)
def bNil : Eb := fun sd => .ok [] sd
def bFz (f : Ev) (fs : Eb) : Eb := fun sd => (f sd).bind fun x sd1 => (fs sd1).bind fun xs sd2 => .ok (.w (x.1, 0) :: xs) sd2
def bMv (f : Ev) (fs : Eb) : Eb := fun sd => (f sd).bind fun x sd1 => (fs sd1).bind fun xs sd2 => .ok (.w x :: xs) sd2
def bBr (i : Nat) (fs : Eb) : Eb := fun sd => match sd[i]? with
  | some (some _) => (fs sd).bind fun xs sd2 => .ok (.b i :: xs) sd2
  | _ => .stuck
def rsv (sd : SD) : List Ag → Option (List (D × Nat))
  | [] => some []
  | .w x :: r => (rsv sd r).map fun l => x :: l
  | .b i :: r => match sd[i]? with
    | some (some (d, _)) => (rsv sd r).map fun l => (d, 0) :: l
    | _ => none
/-- the result holds nothing of what was lent -/
def okR : D → Nat → Bool
  | .non, _ => true
  | .bl _, _ => true
  | .int _, _ => true
  | .str _, _ => true
  | .lst ds, k + 1 => ds.all scD
  | _, _ => false
def calB (n : Nat) (f : Fn) (dfl : List D) (fs : Eb) : Ev := fun sd => (fs sd).bind fun ags sd1 => match rsv sd1 ags with
  | some xs => if (xs.length + dfl.length == n) = true then match f (xs ++ dfl.map fun d => (d, 0)) with
    | .ok w => if okR w.1 w.2 then .ok w sd1 else .stuck
    | _ => .stuck else .stuck
  | none => .stuck
inductive AgS (K : PySem.W.Frag) (Z : Pz) (H : Hp) (σ : St) : List V → List Ag → List Addr → Prop
  | nil : AgS K Z H σ [] [] []
  | w {v : V} {d : D} {k : Nat} {vs : List V} {as : List Ag} {o p : List Addr} : Rp K Z H v d k o → AgS K Z H σ vs as p → AgS K Z H σ (v :: vs) (.w (d, k) :: as) (o ++ p)
  | b {v : V} {i : Nat} {vs : List V} {as : List Ag} {p : List Addr} : σ[i]? = some (some v) → AgS K Z H σ vs as p → AgS K Z H σ (v :: vs) (.b i :: as) p
section
variable (K : PySem.W.Frag) (mg : Mg) (W : WX)
def argB (Z F : Pz) (σ : St) (H : Hp) (r : R (List Ag)) (Q : List V → Hp → Prop) : Prop := match r with
  | .ok ws sd' => ∀ vs Z' H' o, AgS K Z' H' σ vs ws o → o.Nodup → (∀ a ∈ o, ¬ F a) → Ok K Z' (uni F o) H' σ sd' → Ext F Z H Z' H' → Q vs H'
  | .exc x sd' => excP K mg W Z F σ H x sd'
  | .stuck => False
def tB (f : Eb) : TA := fun σ H Q => ∃ Z F sd, Ok K Z F H σ sd ∧ argB K mg W Z F σ H (f sd) Q
end
def SGb (X : Cx) (W : WX) (es : List Expr) (f : Eb) : Prop := PA X es (tB X.K X.mg W f)
theorem Slots.frz {K : PySem.W.Frag} {Z Z' : Pz} {H : Hp} {σ : St} {sd : SD} {o : List Addr} (h : Slots K Z H σ sd o) (hz : ∀ a, Z a → Z' a) (ho : ∀ a ∈ o, Z' a) {i : Nat} {d : D} {k : Nat} {v : V} (e : sd[i]? = some (some (d, k))) (ev : σ[i]? = some (some v)) : Rp K Z' H v d 0 [] := by
  obtain ⟨v', p, q, e1, r, s, pm⟩ := h.take e
  rw [ev] at e1
  cases e1
  exact r.freeze hz fun a m => ho a (pm.mem_iff.mp (List.mem_append_left _ m))
/-- the arguments are resolved -/
theorem AgS.res {K : PySem.W.Frag} {Z Z' : Pz} {H : Hp} {σ : St} {sd : SD} {ow : List Addr} (hs : Slots K Z H σ sd ow) (hz : ∀ a, Z a → Z' a) (ho : ∀ a ∈ ow, Z' a) {vs : List V} {as : List Ag} {o : List Addr} (h : AgS K Z H σ vs as o) {xs : List (D × Nat)} (e : rsv sd as = some xs) :
    Slots K Z' H (vs.map some) (xs.map some) o := by
  induction h generalizing xs with
  | nil => cases e; exact .nil
  | w r _ ih =>
    unfold rsv at e
    obtain ⟨l, e1, e2⟩ := Option.map_eq_some_iff.mp e
    subst e2
    exact .cons (r.keep (fun a z => ⟨hz a z, rfl⟩) fun _ _ => rfl) (ih e1)
  | b ev _ ih =>
    unfold rsv at e
    split at e
    · rename_i d k ei
      obtain ⟨l, e1, e2⟩ := Option.map_eq_some_iff.mp e
      subst e2
      exact .cons (o := []) (hs.frz hz ho ei ev) (ih e1)
    · cases e
theorem rp_sc {K : PySem.W.Frag} {Z Z' : Pz} {H H' : Hp} {v : V} {d : D} (k : Nat) (h : scD d = true) {j : Nat} {o : List Addr} (r : Rp K Z H v d j o) : Rp K Z' H' v d k [] ∧ o = [] := by
  cases r <;> first | (simp [scD] at h; done) | exact ⟨by constructor, rfl⟩
theorem rpAll_sc {K : PySem.W.Frag} {Z Z' : Pz} {H H' : Hp} {vs : List V} {ds : List D} (k : Nat) (h : ds.all scD = true) {j : Nat} {o : List Addr} (r : RpAll K Z H vs ds j o) : RpAll K Z' H' vs ds k [] ∧ o = [] := by
  induction vs generalizing ds o with
  | nil => cases r; exact ⟨.nil _, rfl⟩
  | cons v vs ih =>
    cases r with
    | cons r1 r2 =>
      rw [List.all_cons, Bool.and_eq_true] at h
      obtain ⟨q1, e1⟩ := rp_sc (Z' := Z') (H' := H') k h.1 r1
      obtain ⟨q2, e2⟩ := ih h.2 r2
      refine ⟨.cons (o := []) (p := []) q1 q2, ?_⟩
      rw [e1, e2]; rfl
theorem okR_rp {K : PySem.W.Frag} {Z Z' : Pz} {H : Hp} {v : V} {d : D} {k : Nat} {o : List Addr} (h : okR d k = true) (r : Rp K Z H v d k o) : Rp K Z' H v d k o := by
  cases r with
  | non => constructor
  | bl => constructor
  | int => constructor
  | str => constructor
  | lstS e q =>
    obtain ⟨q1, e1⟩ := rpAll_sc (Z' := Z') (H' := H) _ h q
    subst e1
    exact .lstS e q1
  | _ => cases h
section
variable {X : Cx} {W : WX} {pos p q : Pos} {a b c : Expr} {es : List Expr} {fa fb : Ev} {fs : Eb}
theorem sgb_nil : SGb X W [] bNil := PA.imp pa_nil fun σ H Q ⟨Z, F, sd, ok, h⟩ => h [] Z H [] .nil .nil (fun _ m => absurd m List.not_mem_nil) ok.unnil .refl
theorem AgS.keep {K : PySem.W.Frag} {Z Z' : Pz} {H H' : Hp} {σ : St} {vs : List V} {as : List Ag} {o : List Addr} (hz : ∀ a, Z a → Z' a ∧ H' a = H a) (ho : ∀ a ∈ o, H' a = H a) (h : AgS K Z H σ vs as o) : AgS K Z' H' σ vs as o := by
  induction h with
  | nil => exact .nil
  | w r _ ih => exact .w (r.keep hz fun a m => ho a (List.mem_append_left _ m)) (ih fun a m => ho a (List.mem_append_right _ m))
  | b e _ ih => exact .b e (ih ho)
theorem sgb_fz (ha : SE X W a fa) (hs : SGb X W es fs) (hst : starEach (a :: es) X.env = (false, eval a X.env) :: starEach es X.env := by rfl) : SGb X W (a :: es) (bFz fa fs) := by
  refine PA.imp (pa_cons ha hs hst) fun σ H Q ⟨Z, F, sd, ok, h⟩ => ?_
  unfold bFz at h
  refine eP.seq (G := fun _ _ => True) ok (fun w sd1 e y Z1 H1 r ok1 x1 => ?_) (fun x sd1 e => ?_) (fun e => ?_)
  · rw [e, R.bind_ok] at h
    refine ⟨Z1, F, sd1, ok1, ?_⟩
    cases e2 : fs sd1 with
    | ok ws sd2 =>
      rw [e2, R.bind_ok] at h
      intro vs Z2 H2 o s nd nf ok2 x2
      exact h (y :: vs) Z2 H2 o (.w (o := []) (r.keep x2.z fun a m => absurd m List.not_mem_nil) s) nd nf ok2 (x1.trans x2)
    | exc x sd2 => rw [e2] at h; exact excP.go0 h x1
    | stuck => rw [e2] at h; exact h
  · rw [e] at h; exact h
  · rw [e] at h; exact h
theorem sgb_mv (ha : SE X W a fa) (hs : SGb X W es fs) (hst : starEach (a :: es) X.env = (false, eval a X.env) :: starEach es X.env := by rfl) : SGb X W (a :: es) (bMv fa fs) := by
  refine PA.imp (pa_cons ha hs hst) fun σ H Q ⟨Z, F, sd, ok, h⟩ => ?_
  unfold bMv at h
  refine eP.seqO ok (fun w sd1 e y Z1 H1 o1 r nd1 nf1 ok1 x1 => ?_) (fun x sd1 e => ?_) (fun e => ?_)
  · rw [e, R.bind_ok] at h
    refine ⟨Z1, uni F o1, sd1, ok1, ?_⟩
    cases e2 : fs sd1 with
    | ok ws sd2 =>
      rw [e2, R.bind_ok] at h
      intro vs Z2 H2 o s nd nf ok2 x2
      refine h (y :: vs) Z2 H2 (o1 ++ o) (.w (r.keep x2.z fun a m => x2.f a (.inr m)) s) ?_ (fun a m => ?_) (ok2.less fun a z => ?_) (x1.trans (x2.mono fun _ z => .inl z))
      · exact List.nodup_append.mpr ⟨nd1, nd, fun a ha b hb e => nf b hb (.inr (e ▸ ha))⟩
      · rcases List.mem_append.mp m with m | m
        · exact nf1 a m
        · exact fun z => nf a m (.inl z)
      · rcases z with z | z
        · exact .inl (.inl z)
        · rcases List.mem_append.mp z with m | m
          · exact .inl (.inr m)
          · exact .inr m
    | exc x sd2 => rw [e2] at h; exact excP.go h x1
    | stuck => rw [e2] at h; exact h
  · rw [e] at h; exact h
  · rw [e] at h; exact h
theorem sgb_br (i : Nat) {x : Str} (hs : SGb X W es fs) (hN : X.N[i]? = some x := by rfl) (hv : Vis X.env.scope x := by first | exact Or.inl rfl | exact Or.inr (Or.inl rfl) | exact Or.inr (Or.inr rfl)) (hd : (x == ("__debug__" : Str)) = false := by decide)
    (hcd : (x == ("__classdict__" : Str)) = false := by decide) (hst : starEach (.Name x p :: es) X.env = (false, eval (.Name x p) X.env) :: starEach es X.env := by rfl) : SGb X W (.Name x p :: es) (bBr i fs) := by
  refine PA.imp (pa_cons (pe_var hN hv hd hcd) hs hst) fun σ H Q ⟨Z, F, sd, ok, h⟩ => ?_
  unfold bBr at h
  split at h
  · rename_i w0 e0
    obtain ⟨v, e1⟩ := ok.slot e0
    refine ⟨v, e1, Z, F, sd, ok, ?_⟩
    cases e2 : fs sd with
    | ok ws sd2 =>
      rw [e2, R.bind_ok] at h
      intro vs Z2 H2 o s nd nf ok2 x2
      exact h (v :: vs) Z2 H2 o (.b e1 s) nd nf ok2 x2
    | exc x sd2 => rw [e2] at h; exact h
    | stuck => rw [e2] at h; exact h
  · exact h.elim
theorem AgS.length {K : PySem.W.Frag} {Z : Pz} {H : Hp} {σ : St} {vs : List V} {as : List Ag} {o : List Addr} (h : AgS K Z H σ vs as o) : vs.length = as.length := by
  induction h with
  | nil => rfl
  | w _ _ ih => rw [List.length_cons, List.length_cons, ih]
  | b _ _ ih => rw [List.length_cons, List.length_cons, ih]
/-- a call that only looks at what it was lent -/
theorem se_callL {x : Str} {k n : Nat} {dfl : List D} {f : Fn} (G : Def X.prog X.w X.K X.mg X.base x k n dfl f) (hr : Room k X.A) (tk : Takes X W) (ha : SGb X W (a :: es) fs) (hg : Gl X x := by rfl) (hdb : (x == ("__debug__" : Str)) = false := by decide)
    (he : starEach (a :: es) X.env = (false, eval a X.env) :: starEach es X.env := by rfl) (hpl : (backTo pos (starEach es X.env)).any (·.1) = false := by rfl) : SE X W (.Call (.Name x p) (a :: es) [] pos) (calB n f dfl fs) := by
  obtain ⟨fa, fd, ps, dvs, ds, h1, h2, h3, h4, h5, h6⟩ := G.ex
  refine PE.imp (pe_callSD h6 hr hg h1 h2 h3 h4 (fun σ => passAt tk σ) ha hdb he hpl) fun σ H Q ⟨Z, F, sd, ok, h⟩ => ?_
  refine ⟨Z, F, sd, ok, ?_⟩
  unfold calB at h
  cases e : fs sd with
  | stuck => rw [e] at h; exact h
  | exc y sd1 => rw [e] at h; exact h
  | ok ags sd1 =>
    rw [e, R.bind_ok] at h
    intro vs Z1 H1 o s nd nf ok1 x1
    obtain ⟨ow, ss, ndw, nfw, b⟩ := ok1.ex
    split at h
    case h_2 => exact h.elim
    rename_i xs ers
    split at h
    case isFalse => exact h.elim
    rename_i hn
    have sx := s.res (Z' := uni Z1 ow) ss (fun _ z => .inl z) (fun _ m => .inr m) ers
    have hlen : (vs ++ dvs).length = n := by
      have q1 := sx.length
      have q2 := (h5 Z1 H1).length
      rw [List.length_map, List.length_map] at q1
      rw [List.length_append, q1, q2]
      exact beq_iff_eq.mp hn
    have no : ∀ a ∈ o, ¬ (a ∈ ow) := fun a m z => nfw a z (.inr m)
    refine ⟨uni Z1 ow, F, xs ++ dfl.map fun d => (d, 0), o, hlen, ?_, nd, nf, ⟨fun a z => ?_, fun a f => ?_⟩, ?_⟩
    · rw [List.map_append, List.map_append]
      have := sx.app (Slots.of_all (h5 (uni Z1 ow) H1))
      rw [List.append_nil] at this
      exact this
    · rcases z with z | z
      · exact b.z a z
      · exact (b.f a (.inr z)).1
    · have hf : uni (uni F o) ow a := .inl f
      refine ⟨(b.f a hf).1, fun z => ?_⟩
      rcases z with z | z
      · exact (b.f a hf).2 z
      · exact nfw a z f
    · cases e2 : f (xs ++ dfl.map fun d => (d, 0)) with
      | ok w =>
        rw [e2] at h
        dsimp only at h
        split at h
        case isFalse => exact h.elim
        rename_i hk
        intro v Z2 H2 o2 r2 nd2 nf2 b2 x2
        have hz : ∀ a, Z1 a → Z1 a ∧ H2 a = H1 a := fun a z => ⟨z, (x2.z a (.inl z)).2⟩
        have no2 : ∀ a ∈ ow, ¬ a ∈ o2 := fun a m z => (b2.f a (.inr z)).2 (x2.z a (.inr m)).1
        refine h v Z1 H2 o2 (okR_rp hk r2) nd2 nf2 ⟨ow, ss.keep hz fun a m => (x2.z a (.inr m)).2, ndw, fun a m z => ?_, fun a z => ?_, fun a f => ?_⟩ (x1.trans ⟨hz, x2.f⟩)
        · rcases z with z | z
          · exact nfw a m (.inl z)
          · exact no2 a m z
        · rw [(hz a z).2]; exact b.z a z
        · rcases f with (f | f) | f
          · exact ⟨(b2.f a (.inl f)).1, fun z => (b.f a (.inl (.inl f))).2 z⟩
          · exact ⟨(b2.f a (.inr f)).1, fun z => (b2.f a (.inr f)).2 (x2.z a (.inl z)).1⟩
          · refine ⟨?_, fun z => (b.f a (.inr f)).2 z⟩
            rw [(x2.z a (.inr f)).2]
            exact (b.f a (.inr f)).1
      | exc y => rw [e2] at h; exact h.elim
      | stuck => rw [e2] at h; exact h.elim
end
end VS
/-! VS13: a slot that is only read from now on is frozen at once. -/
namespace VS
open PySem PySem.Spec L2
def fzS (i : Nat) : Sm := fun sd => match sd[i]? with
  | some (some (d, _)) => .nx (sd.set i (some (d, 0)))
  | _ => .stuck
/-- f, then slot i is frozen -/
def zFrz (i : Nat) (f : Sm) : Sm := fun sd => (f sd).go (fzS i)
section
variable {X : Cx} {W : WX} {st : Stmt} {f : Sm}
theorem ss_frz {ps : List Nat} (i : Nat) (h : SSp ps X W st f) : SSp ps X W st (zFrz i f) := by
  refine PS.imp h fun D σ H ⟨Z, F, sd, ok, q⟩ => ⟨Z, F, sd, ok, ?_⟩
  unfold zFrz at q
  cases e : f sd with
  | nx sd1 =>
    rw [e, O.go_nx] at q
    intro σ' Z' H' pn ok1 x1
    unfold fzS at q
    split at q
    · rename_i d k ei
      obtain ⟨v, p, e1, r, nd, nf, ok2⟩ := ok1.take ei
      have ok3 := ok2.freeze nf
      have r2 : Rp X.K (uni Z' p) H' v d 0 [] := r.freeze (fun _ z => .inl z) fun _ m => .inr m
      have ok4 := Ok.back (p := []) ok3.unnil r2 .nil (fun _ m => absurd m List.not_mem_nil) e1
      rw [List.set_set] at ok4
      exact q σ' (uni Z' p) H' pn ok4 (x1.trans .uni)
    · exact q.elim
  | bk sd1 => rw [e, O.go_bk] at q; exact q
  | ct sd1 => rw [e, O.go_ct] at q; exact q
  | rt w sd1 => rw [e, O.go_rt] at q; exact q
  | ex x sd1 => rw [e, O.go_ex] at q; exact q
  | stuck => rw [e, O.go_stuck] at q; exact q.elim
end
end VS
/-! VS14: the semantics evaluated: equations for simp, rules for loops. -/
namespace VS
open PySem PySem.Spec L2

/-! ### slots -/
def gtS (sd : SD) (i : Nat) : Option (D × Nat) := match sd[i]? with
  | some x => x
  | none => none
@[simp] theorem gtS_zero (a : Option (D × Nat)) (l : SD) : gtS (a :: l) 0 = a := eqr rfl
@[simp] theorem gtS_succ (a : Option (D × Nat)) (l : SD) (n : Nat) : gtS (a :: l) (n + 1) = gtS l n := by simp [gtS]
def wS (o : Option (D × Nat)) {α : Type} (y : α) (k : D → Nat → α) : α := match o with
  | some (d, n) => k d n
  | none => y
@[simp] theorem wS_some (d : D) (n : Nat) {α : Type} (y : α) (k : D → Nat → α) : wS (some (d, n)) y k = k d n := eqr rfl

/-! ### the ends of a run -/
def O.fin (o : O) (kn kb kc : SD → FR) : FR := match o with
  | .nx sd => kn sd
  | .rt w _ => .ok w
  | .bk sd => kb sd
  | .ct sd => kc sd
  | .ex x _ => .exc x
  | .stuck => .stuck
section
variable {kn kb kc : SD → FR}
@[simp] theorem O.fin_nx (sd : SD) : (O.nx sd).fin kn kb kc = kn sd := eqr rfl
@[simp] theorem O.fin_rt (w : D × Nat) (sd : SD) : (O.rt w sd).fin kn kb kc = .ok w := eqr rfl
@[simp] theorem O.fin_bk (sd : SD) : (O.bk sd).fin kn kb kc = kb sd := eqr rfl
@[simp] theorem O.fin_ct (sd : SD) : (O.ct sd).fin kn kb kc = kc sd := eqr rfl
@[simp] theorem O.fin_ex (x : Exn) (sd : SD) : (O.ex x sd).fin kn kb kc = .exc x := eqr rfl
@[simp] theorem O.fin_stuck : (O.stuck).fin kn kb kc = .stuck := eqr rfl
@[simp] theorem O.fin_ite {c : Prop} [Decidable c] (a b : O) : (if c then a else b).fin kn kb kc = if c then a.fin kn kb kc else b.fin kn kb kc := by split <;> rfl
end
def seqK (g : Sm) (kn kb kc : SD → FR) : SD → FR := fun sd => (g sd).fin kn kb kc
@[simp] theorem seqK_ap (g : Sm) (kn kb kc : SD → FR) (sd : SD) : seqK g kn kb kc sd = (g sd).fin kn kb kc := eqr rfl
@[simp] theorem O.fin_go (o : O) (g : Sm) (kn kb kc : SD → FR) : (o.go g).fin kn kb kc = o.fin (seqK g kn kb kc) kb kc := by cases o <;> rfl
@[simp] theorem O.go_ite {c : Prop} [Decidable c] (a b : O) (g : SD → O) : (if c then a else b).go g = if c then a.go g else b.go g := by split <;> rfl
@[simp] theorem R.bind_ite {α β : Type} {c : Prop} [Decidable c] (a b : R α) (g : α → SD → R β) : (if c then a else b).bind g = if c then a.bind g else b.bind g := by split <;> rfl
@[simp] theorem R.run_ite {α : Type} {c : Prop} [Decidable c] (a b : R α) (g : α → SD → O) : (if c then a else b).run g = if c then a.run g else b.run g := by split <;> rfl
theorem R.bind_bind {α β γ : Type} (r : R α) (g : α → SD → R β) (h : β → SD → R γ) : (r.bind g).bind h = r.bind fun a sd => (g a sd).bind h := by cases r <;> rfl

def kE (d : D × Nat) : SD → FR := fun _ => .ok d
@[simp] theorem kE_ap (d : D × Nat) (sd : SD) : kE d sd = .ok d := eqr rfl
def kS : SD → FR := fun _ => .stuck
@[simp] theorem kS_ap (sd : SD) : kS sd = .stuck := eqr rfl
def fill (N : Nat) (ws : List (D × Nat)) : SD := ws.map some ++ List.replicate (N - ws.length) none
theorem fnOf_ap (N : Nat) (body : Sm) (ws : List (D × Nat)) : fnOf N body ws = (body (fill N ws)).fin (kE (.non, 0)) kS kS := by
  unfold fnOf
  show (body (fill N ws)).fr = _
  cases body (fill N ws) <;> rfl

/-! ### expressions -/
section
variable (sd : SD)
@[simp] theorem cst_ap (d : D) : cst d sd = .ok (d, 0) sd := eqr rfl
@[simp] theorem rdv_ap (i : Nat) : rdv i sd = wS (gtS sd i) .stuck fun d _ => .ok (d, 0) (sd.set i (some (d, 0))) := by
  unfold rdv gtS wS
  cases e : sd[i]? with
  | none => rfl
  | some x => rcases x with _ | ⟨d, k⟩ <;> rfl
@[simp] theorem mvv_ap (i : Nat) : mvv i sd = wS (gtS sd i) .stuck fun d n => .ok (d, n) (sd.set i none) := by
  unfold mvv gtS wS
  cases e : sd[i]? with
  | none => rfl
  | some x => rcases x with _ | ⟨d, k⟩ <;> rfl
def op1K (g : D → Option (D × Nat)) : D × Nat → SD → R (D × Nat) := fun x sd => lift (g x.1) sd
@[simp] theorem op1K_ap (g : D → Option (D × Nat)) (d : D) (n : Nat) : op1K g (d, n) sd = lift (g d) sd := eqr rfl
@[simp] theorem op1_ap (g : D → Option (D × Nat)) (f : Ev) : op1 g f sd = (f sd).bind (op1K g) := eqr rfl
def op2J (g : D → D → Option (D × Nat)) (x : D) : D × Nat → SD → R (D × Nat) := fun y sd => lift (g x y.1) sd
@[simp] theorem op2J_ap (g : D → D → Option (D × Nat)) (x d : D) (n : Nat) : op2J g x (d, n) sd = lift (g x d) sd := eqr rfl
def op2K (g : D → D → Option (D × Nat)) (f : Ev) : D × Nat → SD → R (D × Nat) := fun x sd => (f sd).bind (op2J g x.1)
@[simp] theorem op2K_ap (g : D → D → Option (D × Nat)) (f : Ev) (d : D) (n : Nat) : op2K g f (d, n) sd = (f sd).bind (op2J g d) := eqr rfl
@[simp] theorem op2_ap (g : D → D → Option (D × Nat)) (f1 f2 : Ev) : op2 g f1 f2 sd = (f1 sd).bind (op2K g f2) := eqr rfl
def opNK (g : List D → Option (D × Nat)) : List D → SD → R (D × Nat) := fun xs sd => lift (g xs) sd
@[simp] theorem opNK_ap (g : List D → Option (D × Nat)) (xs : List D) : opNK g xs sd = lift (g xs) sd := eqr rfl
@[simp] theorem opN_ap (g : List D → Option (D × Nat)) (fs : Ea) : opN g fs sd = (fs sd).bind (opNK g) := eqr rfl
def tstK : D × Nat → SD → R Bool := fun x sd1 => match x.1 with
  | .bl b => .ok b sd1
  | _ => .stuck
@[simp] theorem tstK_bl (b : Bool) (n : Nat) : tstK (.bl b, n) sd = .ok b sd := eqr rfl
@[simp] theorem tst_ap (f : Ev) : tst f sd = (f sd).bind tstK := eqr rfl
def tvK : Bool → SD → R (D × Nat) := fun b sd1 => .ok (.bl b, 0) sd1
@[simp] theorem tvK_ap (b : Bool) : tvK b sd = .ok (.bl b, 0) sd := eqr rfl
@[simp] theorem tv_ap (f : Et) : tv f sd = (f sd).bind tvK := eqr rfl
def tAndK (g : Et) : Bool → SD → R Bool := fun b sd1 => if b then g sd1 else .ok false sd1
@[simp] theorem tAndK_ap (g : Et) (b : Bool) : tAndK g b sd = if b = true then g sd else .ok false sd := eqr rfl
@[simp] theorem tAnd_ap (f g : Et) : tAnd' f g sd = (f sd).bind (tAndK g) := eqr rfl
def tOrK (g : Et) : Bool → SD → R Bool := fun b sd1 => if b then .ok true sd1 else g sd1
@[simp] theorem tOrK_ap (g : Et) (b : Bool) : tOrK g b sd = if b = true then .ok true sd else g sd := eqr rfl
@[simp] theorem tOr_ap (f g : Et) : tOr' f g sd = (f sd).bind (tOrK g) := eqr rfl
def tNotK : Bool → SD → R Bool := fun b sd1 => .ok (!b) sd1
@[simp] theorem tNotK_ap (b : Bool) : tNotK b sd = .ok (!b) sd := eqr rfl
@[simp] theorem tNot_ap (f : Et) : tNot' f sd = (f sd).bind tNotK := eqr rfl
def chnI (g' : D → D → Option (D × Nat)) (y : D) : D × Nat → SD → R Bool := fun z sd3 => match g' y z.1 with
    | some (.bl b, _) => .ok b sd3
    | _ => .stuck
def chn2 (g' : D → D → Option (D × Nat)) (f3 : Ev) (y : D) (o : Option (D × Nat)) : SD → R Bool := fun sd => match o with
  | some (.bl true, _) => (f3 sd).bind (chnI g' y)
  | some (.bl false, _) => .ok false sd
  | _ => .stuck
def chnJ (g g' : D → D → Option (D × Nat)) (f3 : Ev) (x : D) : D × Nat → SD → R Bool := fun y sd2 => chn2 g' f3 y.1 (g x y.1) sd2
def chnK (g g' : D → D → Option (D × Nat)) (f2 f3 : Ev) : D × Nat → SD → R Bool := fun x sd1 => (f2 sd1).bind (chnJ g g' f3 x.1)
def obl (o : Option (D × Nat)) (sd : SD) : R Bool := match o with
    | some (.bl b, _) => .ok b sd
    | _ => .stuck
@[simp] theorem obl_bl (b : Bool) (n : Nat) : obl (some (.bl b, n)) sd = .ok b sd := eqr rfl
@[simp] theorem chnI_ap (g' : D → D → Option (D × Nat)) (y d : D) (n : Nat) : chnI g' y (d, n) sd = obl (g' y d) sd := eqr rfl
@[simp] theorem chn2_ap (g' : D → D → Option (D × Nat)) (f3 : Ev) (y : D) (b : Bool) (n : Nat) : chn2 g' f3 y (some (.bl b, n)) sd = if b = true then (f3 sd).bind (chnI g' y) else .ok false sd := by cases b <;> rfl
@[simp] theorem chnJ_ap (g g' : D → D → Option (D × Nat)) (f3 : Ev) (x d : D) (n : Nat) : chnJ g g' f3 x (d, n) sd = chn2 g' f3 d (g x d) sd := eqr rfl
@[simp] theorem chnK_ap (g g' : D → D → Option (D × Nat)) (f2 f3 : Ev) (d : D) (n : Nat) : chnK g g' f2 f3 (d, n) sd = (f2 sd).bind (chnJ g g' f3 d) := eqr rfl
@[simp] theorem chn_ap (g g' : D → D → Option (D × Nat)) (f1 f2 f3 : Ev) : chn g g' f1 f2 f3 sd = (f1 sd).bind (chnK g g' f2 f3) := by
  unfold chn chnK
  congr
@[simp] theorem aNil_ap : aNil sd = .ok [] sd := eqr rfl
def aConsJ (x : D) : List D → SD → R (List D) := fun xs sd2 => .ok (x :: xs) sd2
@[simp] theorem aConsJ_ap (x : D) (xs : List D) : aConsJ x xs sd = .ok (x :: xs) sd := eqr rfl
def aConsK (fs : Ea) : D × Nat → SD → R (List D) := fun x sd1 => (fs sd1).bind (aConsJ x.1)
@[simp] theorem aConsK_ap (fs : Ea) (d : D) (n : Nat) : aConsK fs (d, n) sd = (fs sd).bind (aConsJ d) := eqr rfl
@[simp] theorem aCons_ap (f : Ev) (fs : Ea) : aCons f fs sd = (f sd).bind (aConsK fs) := eqr rfl
def vAndK (g : Ev) : D × Nat → SD → R (D × Nat) := fun x sd1 => match x.1 with
  | .bl true => g sd1
  | .bl false => .ok (.bl false, 0) sd1
  | _ => .stuck
@[simp] theorem vAndK_bl (g : Ev) (b : Bool) (n : Nat) : vAndK g (.bl b, n) sd = if b = true then g sd else .ok (.bl false, 0) sd := by cases b <;> rfl
@[simp] theorem vAnd_ap (f g : Ev) : vAnd f g sd = (f sd).bind (vAndK g) := eqr rfl
def vOrK (g : Ev) : D × Nat → SD → R (D × Nat) := fun x sd1 => match x.1 with
  | .bl true => .ok (.bl true, 0) sd1
  | .bl false => g sd1
  | _ => .stuck
@[simp] theorem vOrK_bl (g : Ev) (b : Bool) (n : Nat) : vOrK g (.bl b, n) sd = if b = true then .ok (.bl true, 0) sd else g sd := by cases b <;> rfl
@[simp] theorem vOr_ap (f g : Ev) : vOr f g sd = (f sd).bind (vOrK g) := eqr rfl
def vNotK : D × Nat → SD → R (D × Nat) := fun x sd1 => match x.1 with
  | .bl b => .ok (.bl (!b), 0) sd1
  | _ => .stuck
@[simp] theorem vNotK_bl (b : Bool) (n : Nat) : vNotK (.bl b, n) sd = .ok (.bl (!b), 0) sd := eqr rfl
@[simp] theorem vNot_ap (f : Ev) : vNot f sd = (f sd).bind vNotK := eqr rfl
def dTupK : List D → SD → R (D × Nat) := fun ds sd => lift (if ds.length ≤ sizeLine then some (.tup ds, 0) else none) sd
@[simp] theorem dTup_ap (fs : Ea) : dTup fs sd = (fs sd).bind dTupK := eqr rfl
@[simp] theorem dTupK_nil : dTupK [] sd = .ok (.tup [], 0) sd := eqr rfl
@[simp] theorem dTupK_1 (a : D) : dTupK [a] sd = .ok (.tup [a], 0) sd := eqr rfl
@[simp] theorem dTupK_2 (a b : D) : dTupK [a, b] sd = .ok (.tup [a, b], 0) sd := eqr rfl
@[simp] theorem dTupK_3 (a b c : D) : dTupK [a, b, c] sd = .ok (.tup [a, b, c], 0) sd := eqr rfl
def dLstK : List D → SD → R (D × Nat) := fun ds sd => lift (if ds.length ≤ sizeLine then some (.lst ds, 1) else none) sd
@[simp] theorem dLst_ap (fs : Ea) : dLst fs sd = (fs sd).bind dLstK := eqr rfl
theorem dLstK_lt (ds : List D) (h : ds.length ≤ 1000) : dLstK ds sd = .ok (.lst ds, 1) sd := by
  unfold dLstK
  rw [if_pos (Nat.le_trans h (by decide))]
  rfl
@[simp] theorem dLstK_0  : dLstK [] sd = .ok (.lst [], 1) sd := dLstK_lt sd _ (show (0 : Nat) ≤ 1000 by decide)
@[simp] theorem dLstK_1 (a0 : D) : dLstK [a0] sd = .ok (.lst [a0], 1) sd := dLstK_lt sd _ (show (1 : Nat) ≤ 1000 by decide)
@[simp] theorem dLstK_2 (a0 a1 : D) : dLstK [a0, a1] sd = .ok (.lst [a0, a1], 1) sd := dLstK_lt sd _ (show (2 : Nat) ≤ 1000 by decide)
@[simp] theorem dLstK_3 (a0 a1 a2 : D) : dLstK [a0, a1, a2] sd = .ok (.lst [a0, a1, a2], 1) sd := dLstK_lt sd _ (show (3 : Nat) ≤ 1000 by decide)
@[simp] theorem dLstK_4 (a0 a1 a2 a3 : D) : dLstK [a0, a1, a2, a3] sd = .ok (.lst [a0, a1, a2, a3], 1) sd := dLstK_lt sd _ (show (4 : Nat) ≤ 1000 by decide)
@[simp] theorem dLstK_5 (a0 a1 a2 a3 a4 : D) : dLstK [a0, a1, a2, a3, a4] sd = .ok (.lst [a0, a1, a2, a3, a4], 1) sd := dLstK_lt sd _ (show (5 : Nat) ≤ 1000 by decide)
@[simp] theorem dLstK_6 (a0 a1 a2 a3 a4 a5 : D) : dLstK [a0, a1, a2, a3, a4, a5] sd = .ok (.lst [a0, a1, a2, a3, a4, a5], 1) sd := dLstK_lt sd _ (show (6 : Nat) ≤ 1000 by decide)
@[simp] theorem dLstK_7 (a0 a1 a2 a3 a4 a5 a6 : D) : dLstK [a0, a1, a2, a3, a4, a5, a6] sd = .ok (.lst [a0, a1, a2, a3, a4, a5, a6], 1) sd := dLstK_lt sd _ (show (7 : Nat) ≤ 1000 by decide)
@[simp] theorem dLstK_8 (a0 a1 a2 a3 a4 a5 a6 a7 : D) : dLstK [a0, a1, a2, a3, a4, a5, a6, a7] sd = .ok (.lst [a0, a1, a2, a3, a4, a5, a6, a7], 1) sd := dLstK_lt sd _ (show (8 : Nat) ≤ 1000 by decide)
@[simp] theorem dLstK_9 (a0 a1 a2 a3 a4 a5 a6 a7 a8 : D) : dLstK [a0, a1, a2, a3, a4, a5, a6, a7, a8] sd = .ok (.lst [a0, a1, a2, a3, a4, a5, a6, a7, a8], 1) sd := dLstK_lt sd _ (show (9 : Nat) ≤ 1000 by decide)
@[simp] theorem dLstK_10 (a0 a1 a2 a3 a4 a5 a6 a7 a8 a9 : D) : dLstK [a0, a1, a2, a3, a4, a5, a6, a7, a8, a9] sd = .ok (.lst [a0, a1, a2, a3, a4, a5, a6, a7, a8, a9], 1) sd := dLstK_lt sd _ (show (10 : Nat) ≤ 1000 by decide)
@[simp] theorem dLstK_11 (a0 a1 a2 a3 a4 a5 a6 a7 a8 a9 a10 : D) : dLstK [a0, a1, a2, a3, a4, a5, a6, a7, a8, a9, a10] sd = .ok (.lst [a0, a1, a2, a3, a4, a5, a6, a7, a8, a9, a10], 1) sd := dLstK_lt sd _ (show (11 : Nat) ≤ 1000 by decide)
@[simp] theorem dLstK_12 (a0 a1 a2 a3 a4 a5 a6 a7 a8 a9 a10 a11 : D) : dLstK [a0, a1, a2, a3, a4, a5, a6, a7, a8, a9, a10, a11] sd = .ok (.lst [a0, a1, a2, a3, a4, a5, a6, a7, a8, a9, a10, a11], 1) sd := dLstK_lt sd _ (show (12 : Nat) ≤ 1000 by decide)
@[simp] theorem dTupK_4 (a0 a1 a2 a3 : D) : dTupK [a0, a1, a2, a3] sd = .ok (.tup [a0, a1, a2, a3], 0) sd := eqr rfl
@[simp] theorem dTupK_5 (a0 a1 a2 a3 a4 : D) : dTupK [a0, a1, a2, a3, a4] sd = .ok (.tup [a0, a1, a2, a3, a4], 0) sd := eqr rfl
@[simp] theorem dTupK_6 (a0 a1 a2 a3 a4 a5 : D) : dTupK [a0, a1, a2, a3, a4, a5] sd = .ok (.tup [a0, a1, a2, a3, a4, a5], 0) sd := eqr rfl
@[simp] theorem dTupK_7 (a0 a1 a2 a3 a4 a5 a6 : D) : dTupK [a0, a1, a2, a3, a4, a5, a6] sd = .ok (.tup [a0, a1, a2, a3, a4, a5, a6], 0) sd := eqr rfl
@[simp] theorem dTupK_8 (a0 a1 a2 a3 a4 a5 a6 a7 : D) : dTupK [a0, a1, a2, a3, a4, a5, a6, a7] sd = .ok (.tup [a0, a1, a2, a3, a4, a5, a6, a7], 0) sd := eqr rfl
def ixvK (i : Nat) : D × Nat → SD → R (D × Nat) := fun y sd1 => wS (gtS sd1 i) .stuck fun d k => match gIx d y.1 with
      | some w => .ok (w.1, 0) (sd1.set i (some (d, min k 1)))
      | none => .stuck
def ixR (o : Option (D × Nat)) (sd : SD) : R (D × Nat) := match o with
  | some w => .ok (w.1, 0) sd
  | none => .stuck
@[simp] theorem ixR_some (w : D × Nat) : ixR (some w) sd = .ok (w.1, 0) sd := eqr rfl
@[simp] theorem ixvK_ap (i : Nat) (y : D) (n : Nat) : ixvK i (y, n) sd = wS (gtS sd i) .stuck fun d k => ixR (gIx d y) (sd.set i (some (d, min k 1))) := by
  unfold ixvK ixR
  congr
@[simp] theorem ixv_ap (i : Nat) (fb : Ev) : ixv i fb sd = wS (gtS sd i) .stuck fun _ _ => (fb sd).bind (ixvK i) := by
  unfold ixv
  have h : ∀ sd1 : SD, ∀ y : D × Nat, ixvK i y sd1 = match sd1[i]? with
    | some (some (d, k)) => match gIx d y.1 with
      | some w => .ok (w.1, 0) (sd1.set i (some (d, min k 1)))
      | none => .stuck
    | _ => .stuck := fun sd1 y => by
    unfold ixvK gtS wS
    cases e : sd1[i]? with
    | none => rfl
    | some x => rcases x with _ | ⟨d, k⟩ <;> rfl
  have h2 : ixvK i = fun y sd1 => match sd1[i]? with
    | some (some (d, k)) => match gIx d y.1 with
      | some w => .ok (w.1, 0) (sd1.set i (some (d, min k 1)))
      | none => .stuck
    | _ => .stuck := by funext y sd1; exact h sd1 y
  rw [h2]
  unfold gtS wS
  cases e : sd[i]? with
  | none => rfl
  | some x => rcases x with _ | ⟨d, k⟩ <;> rfl
def borR (o : Option (D × Nat)) (sd : SD) : R (D × Nat) := match o with
  | some (e, 0) => if scD e then .ok (e, 0) sd else .stuck
  | _ => .stuck
@[simp] theorem borR_int (i : Int) : borR (some (.int i, 0)) sd = .ok (.int i, 0) sd := eqr rfl
@[simp] theorem borR_bl (i : Bool) : borR (some (.bl i, 0)) sd = .ok (.bl i, 0) sd := eqr rfl
@[simp] theorem bor1_ap (g : D → Option (D × Nat)) (i : Nat) : bor1 g i sd = wS (gtS sd i) .stuck fun d _ => borR (g d) sd := by
  unfold bor1 gtS wS borR
  cases e : sd[i]? with
  | none => rfl
  | some x => rcases x with _ | ⟨d, k⟩ <;> rfl
def bor2K (g : D → D → Option (D × Nat)) (i : Nat) : D × Nat → SD → R (D × Nat) := fun x sd1 => wS (gtS sd1 i) .stuck fun d _ => borR (g x.1 d) sd1
@[simp] theorem bor2K_ap (g : D → D → Option (D × Nat)) (i : Nat) (d : D) (n : Nat) : bor2K g i (d, n) sd = wS (gtS sd i) .stuck fun e _ => borR (g d e) sd := eqr rfl
@[simp] theorem bor2_ap (g : D → D → Option (D × Nat)) (fa : Ev) (i : Nat) : bor2 g fa i sd = (fa sd).bind (bor2K g i) := by
  have : bor2K g i = fun x sd1 => match sd1[i]? with
    | some (some (d, _)) => match g x.1 d with
      | some (e, 0) => if scD e then .ok (e, 0) sd1 else .stuck
      | _ => .stuck
    | _ => .stuck := by
    funext x sd1
    unfold bor2K gtS wS borR
    cases e : sd1[i]? with
    | none => rfl
    | some x => rcases x with _ | ⟨d, k⟩ <;> rfl
  rw [this]; rfl
@[simp] theorem poN_ap : poN sd = .ok none sd := eqr rfl
def poSK : D × Nat → SD → R (Option Int) := fun x sd1 => match x.1 with
  | .int i => .ok (some i) sd1
  | _ => .stuck
@[simp] theorem poSK_ap (i : Int) (n : Nat) : poSK (.int i, n) sd = .ok (some i) sd := eqr rfl
@[simp] theorem poS_ap (f : Ev) : poS f sd = (f sd).bind poSK := eqr rfl
def slJ (x : D) (l : Option Int) : Option Int → SD → R (D × Nat) := fun h sd => lift (gSl x l h) sd
@[simp] theorem slJ_ap (x : D) (l h : Option Int) : slJ x l h sd = lift (gSl x l h) sd := eqr rfl
def slK2 (fh : Eo) (x : D) : Option Int → SD → R (D × Nat) := fun l sd => (fh sd).bind (slJ x l)
@[simp] theorem slK2_ap (fh : Eo) (x : D) (l : Option Int) : slK2 fh x l sd = (fh sd).bind (slJ x l) := eqr rfl
def slK (fl fh : Eo) : D × Nat → SD → R (D × Nat) := fun x sd => (fl sd).bind (slK2 fh x.1)
@[simp] theorem slK_ap (fl fh : Eo) (d : D) (n : Nat) : slK fl fh (d, n) sd = (fl sd).bind (slK2 fh d) := eqr rfl
@[simp] theorem slE_ap (fa : Ev) (fl fh : Eo) : slE fa fl fh sd = (fa sd).bind (slK fl fh) := eqr rfl
/-! ### targets -/
@[simp] theorem gN_ap (i : Nat) (d : D) : gN i d sd = some (sd.set i (some (d, 0))) := eqr rfl
@[simp] theorem gT_tup (gs : List Tg) (ds : List D) : gT gs (.tup ds) sd = gNs gs ds sd := eqr rfl
@[simp] theorem gT_lst (gs : List Tg) (ds : List D) : gT gs (.lst ds) sd = gNs gs ds sd := eqr rfl
@[simp] theorem gNs_nil : gNs [] [] sd = some sd := eqr rfl
@[simp] theorem gNs_cons (g : Tg) (gs : List Tg) (d : D) (ds : List D) : gNs (g :: gs) (d :: ds) sd = (g d sd).bind (gNs gs ds) := eqr rfl
/-! ### iterations -/
def iAnyK : D × Nat → SD → R (List D) := fun x sd1 => match x.1 with
  | .lst ds => .ok ds sd1
  | .tup ds => .ok ds sd1
  | _ => .stuck
@[simp] theorem iAny_ap (f : Ev) : iAny f sd = (f sd).bind iAnyK := eqr rfl
@[simp] theorem iAnyK_lst (ds : List D) (n : Nat) : iAnyK (.lst ds, n) sd = .ok ds sd := eqr rfl
@[simp] theorem iAnyK_tup (ds : List D) (n : Nat) : iAnyK (.tup ds, n) sd = .ok ds sd := eqr rfl
def iR1K : D × Nat → SD → R (List D) := fun x sd1 => match x.1 with
  | .int n => if -(2 ^ 62) ≤ n ∧ n < 2 ^ 62 then .ok (rngD 0 n.toNat) sd1 else .stuck
  | _ => .stuck
@[simp] theorem iR1_ap (f : Ev) : iR1 f sd = (f sd).bind iR1K := eqr rfl
theorem iR1K_ok {n : Int} (m : Nat) (h1 : 0 ≤ n) (h2' : n ≤ 1000000) : iR1K (.int n, m) sd = .ok ((List.range n.toNat).map fun (i : Nat) => .int (i : Int)) sd := by
  show (if -(2 ^ 62) ≤ n ∧ n < 2 ^ 62 then R.ok (rngD 0 n.toNat) sd else R.stuck) = _
  have h2 : n < 2 ^ 62 := Int.lt_of_le_of_lt h2' (by decide)
  rw [if_pos ⟨Int.le_trans (by decide) h1, h2⟩]
  unfold rngD
  congr
  funext i
  rw [Int.zero_add]
def iR2J (x : D) : D × Nat → SD → R (List D) := fun y sd2 => match x, y.1 with
  | .int m, .int n => if -(2 ^ 62) ≤ m ∧ m < 2 ^ 62 ∧ -(2 ^ 62) ≤ n ∧ n < 2 ^ 62 then .ok (rngD m (n - m).toNat) sd2 else .stuck
  | _, _ => .stuck
def iR2K (g : Ev) : D × Nat → SD → R (List D) := fun x sd1 => (g sd1).bind (iR2J x.1)
@[simp] theorem iR2K_ap (g : Ev) (d : D) (n : Nat) : iR2K g (d, n) sd = (g sd).bind (iR2J d) := eqr rfl
@[simp] theorem iR2_ap (f g : Ev) : iR2 f g sd = (f sd).bind (iR2K g) := eqr rfl
theorem iR2J_ok {m n : Int} (k : Nat) (h1 : 0 ≤ m) (h2' : m ≤ 1000000) (h3 : 0 ≤ n) (h4' : n ≤ 1000000) : iR2J (.int m) (.int n, k) sd = .ok ((List.range (n - m).toNat).map fun (i : Nat) => .int (m + (i : Int))) sd := by
  show (if -(2 ^ 62) ≤ m ∧ m < 2 ^ 62 ∧ -(2 ^ 62) ≤ n ∧ n < 2 ^ 62 then R.ok (rngD m (n - m).toNat) sd else R.stuck) = _
  have h2 : m < 2 ^ 62 := Int.lt_of_le_of_lt h2' (by decide)
  have h4 : n < 2 ^ 62 := Int.lt_of_le_of_lt h4' (by decide)
  rw [if_pos ⟨Int.le_trans (by decide) h1, h2, Int.le_trans (by decide) h3, h4⟩]
  rfl
def iEnuK : D × Nat → SD → R (List D) := fun x sd1 => match x.1 with
  | .lst ds => .ok (enumFrom 0 ds) sd1
  | .tup ds => .ok (enumFrom 0 ds) sd1
  | _ => .stuck
@[simp] theorem iEnu_ap (f : Ev) : iEnu f sd = (f sd).bind iEnuK := eqr rfl
theorem enumFrom_map {α : Type} (enc : α → D) (l : List α) (j : Nat) : enumFrom j (l.map enc) = (l.zipIdx j).map fun p => .tup [.int (p.2 : Int), enc p.1] := by
  induction l generalizing j with
  | nil => rfl
  | cons a l ih => rw [List.map_cons, enumFrom, ih, List.zipIdx_cons, List.map_cons]
@[simp] theorem iEnuK_lst {α : Type} (enc : α → D) (l : List α) (n : Nat) : iEnuK (.lst (l.map enc), n) sd = .ok (l.zipIdx.map fun p => .tup [.int (p.2 : Int), enc p.1]) sd := by
  rw [← enumFrom_map]; rfl
@[simp] theorem iEnuK_tup {α : Type} (enc : α → D) (l : List α) (n : Nat) : iEnuK (.tup (l.map enc), n) sd = .ok (l.zipIdx.map fun p => .tup [.int (p.2 : Int), enc p.1]) sd := by
  rw [← enumFrom_map]; rfl
/-! ### calls -/
@[simp] theorem gNil_ap : gNil sd = .ok [] sd := eqr rfl
def gJ (x : D × Nat) : List (D × Nat) → SD → R (List (D × Nat)) := fun xs sd => .ok (x :: xs) sd
@[simp] theorem gJ_ap (x : D × Nat) (xs : List (D × Nat)) : gJ x xs sd = .ok (x :: xs) sd := eqr rfl
def gFzK (fs : Eg) : D × Nat → SD → R (List (D × Nat)) := fun x sd1 => (fs sd1).bind (gJ (x.1, 0))
@[simp] theorem gFzK_ap (fs : Eg) (d : D) (n : Nat) : gFzK fs (d, n) sd = (fs sd).bind (gJ (d, 0)) := eqr rfl
@[simp] theorem gFz_ap (f : Ev) (fs : Eg) : gFz f fs sd = (f sd).bind (gFzK fs) := eqr rfl
def gMvK (fs : Eg) : D × Nat → SD → R (List (D × Nat)) := fun x sd1 => (fs sd1).bind (gJ x)
@[simp] theorem gMvK_ap (fs : Eg) (x : D × Nat) : gMvK fs x sd = (fs sd).bind (gJ x) := eqr rfl
@[simp] theorem gMv_ap (f : Ev) (fs : Eg) : gMv f fs sd = (f sd).bind (gMvK fs) := eqr rfl
def calK (n : Nat) (f : Fn) (dfl : List D) : List (D × Nat) → SD → R (D × Nat) := fun xs sd1 => if (xs.length + dfl.length == n) = true then (f (xs ++ dfl.map fun d => (d, 0))).r sd1 else .stuck
@[simp] theorem cal_ap (n : Nat) (f : Fn) (dfl : List D) (fs : Eg) : cal n f dfl fs sd = (fs sd).bind (calK n f dfl) := eqr rfl
@[simp] theorem calK_1 (f : Fn) (a : D × Nat) : calK 1 f [] [a] sd = (f [a]).r sd := eqr rfl
@[simp] theorem calK_2 (f : Fn) (a b : D × Nat) : calK 2 f [] [a, b] sd = (f [a, b]).r sd := eqr rfl
@[simp] theorem calK_3 (f : Fn) (a b c : D × Nat) : calK 3 f [] [a, b, c] sd = (f [a, b, c]).r sd := eqr rfl
@[simp] theorem calK_4 (f : Fn) (a b c d : D × Nat) : calK 4 f [] [a, b, c, d] sd = (f [a, b, c, d]).r sd := eqr rfl
@[simp] theorem calK_5 (f : Fn) (a b c d e : D × Nat) : calK 5 f [] [a, b, c, d, e] sd = (f [a, b, c, d, e]).r sd := eqr rfl
@[simp] theorem calK_6 (f : Fn) (a b c d e g : D × Nat) : calK 6 f [] [a, b, c, d, e, g] sd = (f [a, b, c, d, e, g]).r sd := eqr rfl
@[simp] theorem calK_7 (f : Fn) (a b c d e g h : D × Nat) : calK 7 f [] [a, b, c, d, e, g, h] sd = (f [a, b, c, d, e, g, h]).r sd := eqr rfl
/-! calls that lend -/
@[simp] theorem bNil_ap : bNil sd = .ok [] sd := eqr rfl
def bJ (x : Ag) : List Ag → SD → R (List Ag) := fun xs sd => .ok (x :: xs) sd
@[simp] theorem bJ_ap (x : Ag) (xs : List Ag) : bJ x xs sd = .ok (x :: xs) sd := eqr rfl
def bFzK (fs : Eb) : D × Nat → SD → R (List Ag) := fun x sd1 => (fs sd1).bind (bJ (.w (x.1, 0)))
@[simp] theorem bFzK_ap (fs : Eb) (d : D) (n : Nat) : bFzK fs (d, n) sd = (fs sd).bind (bJ (.w (d, 0))) := eqr rfl
@[simp] theorem bFz_ap (f : Ev) (fs : Eb) : bFz f fs sd = (f sd).bind (bFzK fs) := eqr rfl
def bMvK (fs : Eb) : D × Nat → SD → R (List Ag) := fun x sd1 => (fs sd1).bind (bJ (.w x))
@[simp] theorem bMvK_ap (fs : Eb) (x : D × Nat) : bMvK fs x sd = (fs sd).bind (bJ (.w x)) := eqr rfl
@[simp] theorem bMv_ap (f : Ev) (fs : Eb) : bMv f fs sd = (f sd).bind (bMvK fs) := eqr rfl
@[simp] theorem bBr_ap (i : Nat) (fs : Eb) : bBr i fs sd = wS (gtS sd i) .stuck fun _ _ => (fs sd).bind (bJ (.b i)) := by
  unfold bBr gtS wS
  cases e : sd[i]? with
  | none => rfl
  | some x => rcases x with _ | ⟨d, k⟩ <;> rfl
@[simp] theorem rsv_nil : rsv sd [] = some [] := eqr rfl
@[simp] theorem rsv_w (x : D × Nat) (r : List Ag) : rsv sd (.w x :: r) = (rsv sd r).map fun l => x :: l := eqr rfl
@[simp] theorem rsv_b (i : Nat) (r : List Ag) : rsv sd (.b i :: r) = wS (gtS sd i) none fun d _ => (rsv sd r).map fun l => (d, 0) :: l := by
  show (match sd[i]? with
    | some (some (d, _)) => (rsv sd r).map fun l => (d, 0) :: l
    | _ => none) = _
  unfold gtS wS
  cases e : sd[i]? with
  | none => rfl
  | some x => rcases x with _ | ⟨d, k⟩ <;> rfl
def lendR (r : FR) (sd : SD) : R (D × Nat) := match r with
  | .ok w => if okR w.1 w.2 then .ok w sd else .stuck
  | _ => .stuck
@[simp] theorem lendR_int (i : Int) (n : Nat) : lendR (.ok (.int i, n)) sd = .ok (.int i, n) sd := eqr rfl
@[simp] theorem lendR_bl (i : Bool) (n : Nat) : lendR (.ok (.bl i, n)) sd = .ok (.bl i, n) sd := eqr rfl
@[simp] theorem lendR_str (i : Str) (n : Nat) : lendR (.ok (.str i, n)) sd = .ok (.str i, n) sd := eqr rfl
@[simp] theorem lendR_non (n : Nat) : lendR (.ok (.non, n)) sd = .ok (.non, n) sd := eqr rfl
def calBJ (n : Nat) (f : Fn) (dfl : List D) (o : Option (List (D × Nat))) (sd : SD) : R (D × Nat) := match o with
  | some xs => if (xs.length + dfl.length == n) = true then lendR (f (xs ++ dfl.map fun d => (d, 0))) sd else .stuck
  | none => .stuck
def calBK (n : Nat) (f : Fn) (dfl : List D) : List Ag → SD → R (D × Nat) := fun ags sd1 => calBJ n f dfl (rsv sd1 ags) sd1
@[simp] theorem calBK_ap (n : Nat) (f : Fn) (dfl : List D) (ags : List Ag) : calBK n f dfl ags sd = calBJ n f dfl (rsv sd ags) sd := eqr rfl
@[simp] theorem calB_ap (n : Nat) (f : Fn) (dfl : List D) (fs : Eb) : calB n f dfl fs sd = (fs sd).bind (calBK n f dfl) := by
  unfold calB calBK calBJ lendR
  congr
@[simp] theorem calBJ_1 (f : Fn) (a : D × Nat) : calBJ 1 f [] (some [a]) sd = lendR (f [a]) sd := eqr rfl
@[simp] theorem calBJ_2 (f : Fn) (a b : D × Nat) : calBJ 2 f [] (some [a, b]) sd = lendR (f [a, b]) sd := eqr rfl
@[simp] theorem calBJ_3 (f : Fn) (a b c : D × Nat) : calBJ 3 f [] (some [a, b, c]) sd = lendR (f [a, b, c]) sd := eqr rfl
@[simp] theorem calBJ_4 (f : Fn) (a b c d : D × Nat) : calBJ 4 f [] (some [a, b, c, d]) sd = lendR (f [a, b, c, d]) sd := eqr rfl
@[simp] theorem calBJ_5 (f : Fn) (a b c d e : D × Nat) : calBJ 5 f [] (some [a, b, c, d, e]) sd = lendR (f [a, b, c, d, e]) sd := eqr rfl
/-! ### statements -/
@[simp] theorem zSeq_ap (f g : Sm) : zSeq f g sd = (f sd).go g := eqr rfl
@[simp] theorem zNil_ap : zNil sd = .nx sd := eqr rfl
def zSetK (i : Nat) : D × Nat → SD → O := fun w sd1 => .nx (sd1.set i (some w))
@[simp] theorem zSetK_ap (i : Nat) (w : D × Nat) : zSetK i w sd = .nx (sd.set i (some w)) := eqr rfl
@[simp] theorem zSet_ap (i : Nat) (f : Ev) : zSet i f sd = (f sd).run (zSetK i) := eqr rfl
@[simp] theorem fzS_ap (i : Nat) : fzS i sd = wS (gtS sd i) .stuck fun d _ => .nx (sd.set i (some (d, 0))) := by
  unfold fzS gtS wS
  cases e : sd[i]? with
  | none => rfl
  | some x => rcases x with _ | ⟨d, k⟩ <;> rfl
@[simp] theorem zFrz_ap (i : Nat) (f : Sm) : zFrz i f sd = (f sd).go (fzS i) := eqr rfl
def tgO (o : Option SD) : O := match o with
  | some sd => .nx sd
  | none => .stuck
@[simp] theorem tgO_some : tgO (some sd) = .nx sd := eqr rfl
def zTgK (g : Tg) : D × Nat → SD → O := fun w sd1 => tgO (g w.1 sd1)
@[simp] theorem zTgK_ap (g : Tg) (d : D) (n : Nat) : zTgK g (d, n) sd = tgO (g d sd) := eqr rfl
@[simp] theorem zTg_ap (g : Tg) (f : Ev) : zTg g f sd = (f sd).run (zTgK g) := by
  unfold zTg zTgK tgO
  congr
def zDropK : D × Nat → SD → O := fun _ sd1 => .nx sd1
@[simp] theorem zDropK_ap (w : D × Nat) : zDropK w sd = .nx sd := eqr rfl
@[simp] theorem zDrop_ap (f : Ev) : zDrop f sd = (f sd).run zDropK := eqr rfl
def zRetK : D × Nat → SD → O := fun w sd1 => .rt w sd1
@[simp] theorem zRetK_ap (w : D × Nat) : zRetK w sd = .rt w sd := eqr rfl
@[simp] theorem zRet_ap (f : Ev) : zRet f sd = (f sd).run zRetK := eqr rfl
@[simp] theorem zRetN_ap : zRetN sd = .rt (.non, 0) sd := eqr rfl
def zIfK (f g : Sm) : Bool → SD → O := fun b sd1 => if b then f sd1 else g sd1
@[simp] theorem zIfK_ap (f g : Sm) (b : Bool) : zIfK f g b sd = if b = true then f sd else g sd := eqr rfl
@[simp] theorem zIf_ap (c : Et) (f g : Sm) : zIf c f g sd = (c sd).run (zIfK f g) := eqr rfl
@[simp] theorem zBk_ap : zBk sd = .bk sd := eqr rfl
@[simp] theorem zCt_ap : zCt sd = .ct sd := eqr rfl
@[simp] theorem zNever_ap : zNever sd = .stuck := eqr rfl
def appO (d : D) (n : Nat) (i : Nat) (w : D) (sd : SD) : O := match d, n with
  | .lst ds, 1 => if ds.length < sizeLine then .nx (sd.set i (some (.lst (ds ++ [w]), 1))) else .stuck
  | _, _ => .stuck
@[simp] theorem appO_lst (ds : List D) (i : Nat) (w : D) : appO (.lst ds) 1 i w sd = if ds.length < sizeLine then .nx (sd.set i (some (.lst (ds ++ [w]), 1))) else .stuck := eqr rfl
def zAppK (i : Nat) : D × Nat → SD → O := fun w sd1 => wS (gtS sd1 i) .stuck fun d n => appO d n i w.1 sd1
@[simp] theorem zAppK_ap (i : Nat) (d : D) (n : Nat) : zAppK i (d, n) sd = wS (gtS sd i) .stuck fun e n => appO e n i d sd := eqr rfl
theorem zApp_ap (i : Nat) (f : Ev) : zApp i f sd = match gtS sd i with
  | some (.lst _, _) => (f sd).run (zAppK i)
  | _ => .stuck := by
  have : zAppK i = fun w sd1 => match sd1[i]? with
    | some (some (.lst ds, 1)) => if ds.length < sizeLine then .nx (sd1.set i (some (.lst (ds ++ [w.1]), 1))) else .stuck
    | _ => .stuck := by
    funext w sd1
    unfold zAppK gtS wS appO
    cases e : sd1[i]? with
    | none => rfl
    | some x =>
      rcases x with _ | ⟨d, k⟩
      · rfl
      · cases d <;> first | rfl | (rcases k with _ | _ | k <;> rfl)
  rw [this]
  unfold zApp gtS
  cases e : sd[i]? with
  | none => rfl
  | some x =>
    rcases x with _ | ⟨d, k⟩
    · rfl
    · cases d <;> rfl
def lstC (o : Option (D × Nat)) (y : O) : O := match o with
  | some (.lst _, _) => y
  | _ => .stuck
@[simp] theorem lstC_some (ds : List D) (n : Nat) (y : O) : lstC (some (.lst ds, n)) y = y := eqr rfl
@[simp] theorem zApp_ap' (i : Nat) (f : Ev) : zApp i f sd = lstC (gtS sd i) ((f sd).run (zAppK i)) := zApp_ap sd i f
def putO (d : D) (n : Nat) (i : Nat) (y w : D) (sd : SD) : O := match d, n, y with
  | .lst ds, 1, .int j => match ixN ds.length j with
    | some n => .nx (sd.set i (some (.lst (ds.set n w), 1)))
    | none => .stuck
  | _, _, _ => .stuck
def optO (o : Option Nat) (f : Nat → SD) : O := match o with
  | some n => .nx (f n)
  | none => .stuck
@[simp] theorem optO_some (n : Nat) (f : Nat → SD) : optO (some n) f = .nx (f n) := eqr rfl
@[simp] theorem putO_lst (ds : List D) (i : Nat) (j : Int) (w : D) : putO (.lst ds) 1 i (.int j) w sd = optO (ixN ds.length j) fun n => sd.set i (some (.lst (ds.set n w), 1)) := by
  show (match ixN ds.length j with
    | some n => O.nx (sd.set i (some (D.lst (ds.set n w), 1)))
    | none => .stuck) = _
  unfold optO
  cases ixN ds.length j <;> rfl
def zPutJ (i : Nat) (w : D) : D × Nat → SD → O := fun y sd2 => wS (gtS sd2 i) .stuck fun d n => putO d n i y.1 w sd2
@[simp] theorem zPutJ_ap (i : Nat) (w y : D) (n : Nat) : zPutJ i w (y, n) sd = wS (gtS sd i) .stuck fun d n => putO d n i y w sd := eqr rfl
def zPutK (i : Nat) (fi : Ev) : D × Nat → SD → O := fun w sd1 => wS (gtS sd1 i) .stuck fun _ _ => (fi sd1).run (zPutJ i w.1)
@[simp] theorem zPutK_ap (i : Nat) (fi : Ev) (d : D) (n : Nat) : zPutK i fi (d, n) sd = wS (gtS sd i) .stuck fun _ _ => (fi sd).run (zPutJ i d) := eqr rfl
@[simp] theorem zPut_ap (i : Nat) (fi f : Ev) : zPut i fi f sd = (f sd).run (zPutK i fi) := by
  have h1 : ∀ w : D, zPutJ i w = fun y sd2 => match sd2[i]?, y.1 with
    | some (some (.lst ds, 1)), .int j => match ixN ds.length j with
      | some n => .nx (sd2.set i (some (.lst (ds.set n w), 1)))
      | none => .stuck
    | _, _ => .stuck := by
    intro w
    funext y sd2
    unfold zPutJ gtS wS
    cases e : sd2[i]? with
    | none => rfl
    | some x =>
      rcases x with _ | ⟨d, k⟩
      · rfl
      · obtain ⟨y1, y2⟩ := y
        cases d <;> first | rfl | (rcases k with _ | _ | k <;> first | rfl | (cases y1 <;> rfl))
  have h2 : zPutK i fi = fun w sd1 => match sd1[i]? with
    | some (some _) => (fi sd1).run (zPutJ i w.1)
    | _ => .stuck := by
    funext w sd1
    unfold zPutK gtS wS
    cases e : sd1[i]? with
    | none => rfl
    | some x => rcases x with _ | ⟨d, k⟩ <;> rfl
  rw [h2]
  simp only [h1]
  rfl
def zForK (ws : List Nat) (g : Tg) (body : Sm) : List D → SD → O := fun items sd1 => forGo ws g body items sd1
@[simp] theorem zForK_ap (ws : List Nat) (g : Tg) (body : Sm) (items : List D) : zForK ws g body items sd = forGo ws g body items sd := eqr rfl
@[simp] theorem zFor_ap (ws : List Nat) (fi : Ei) (g : Tg) (body : Sm) : zFor ws fi g body sd = (fi sd).run (zForK ws g body) := eqr rfl
@[simp] theorem wp_nil : wp sd [] = sd := eqr rfl
@[simp] theorem wp_cons (v : Nat) (vs : List Nat) : wp sd (v :: vs) = (wp sd vs).set v none := eqr rfl
end
/-! ### loops -/
def wpK (ws : List Nat) (K : SD → FR) : SD → FR := fun s => K (wp s ws)
@[simp] theorem wpK_ap (ws : List Nat) (K : SD → FR) (s : SD) : wpK ws K s = K (wp s ws) := eqr rfl
def goS (o : Option SD) (f : SD → FR) : FR := match o with
  | some s => f s
  | none => .stuck
@[simp] theorem goS_some (s : SD) (f : SD → FR) : goS (some s) f = f s := eqr rfl
def trnK (body : Sm) (ws : List Nat) (K Kb : SD → FR) : SD → FR := fun sd1 => (body sd1).fin (wpK ws K) (wpK ws Kb) (wpK ws K)
@[simp] theorem trnK_ap (body : Sm) (ws : List Nat) (K Kb : SD → FR) (s : SD) : trnK body ws K Kb s = (body s).fin (wpK ws K) (wpK ws Kb) (wpK ws K) := eqr rfl
def trn (ws : List Nat) (g : Tg) (body : Sm) (d : D) (S : SD) (K Kb : SD → FR) : FR := goS (g d S) (trnK body ws K Kb)
@[simp] theorem trn_ap (ws : List Nat) (g : Tg) (body : Sm) (d : D) (S : SD) (K Kb : SD → FR) : trn ws g body d S K Kb = goS (g d S) (trnK body ws K Kb) := eqr rfl
section
variable {ws : List Nat} {g : Tg} {body : Sm} {kn kb kc : SD → FR}
theorem forGo_nil (sd : SD) : (forGo ws g body [] sd).fin kn kb kc = kn sd := rfl
theorem forGo_cons (d : D) (ds : List D) (sd : SD) : (forGo ws g body (d :: ds) sd).fin kn kb kc = trn ws g body d sd (fun s => (forGo ws g body ds s).fin kn kb kc) kn := by
  unfold trn goS trnK wpK
  show O.fin (match g d sd with
    | none => .stuck
    | some sd1 => match body sd1 with
      | .nx sd2 => forGo ws g body ds (wp sd2 ws)
      | .ct sd2 => forGo ws g body ds (wp sd2 ws)
      | .bk sd2 => .nx (wp sd2 ws)
      | o => o) kn kb kc = _
  cases g d sd with
  | none => rfl
  | some s => dsimp only; cases body s <;> rfl
/-- the loop, told by what is left of it -/
theorem for_gen {α β : Type} (enc : α → D) (S : β → SD) (P : List α → β → Prop) (F : List α → β → FR) (h0 : ∀ b, P [] b → kn (S b) = F [] b)
    (hs : ∀ a l b (K : SD → FR), P (a :: l) b → (∀ b', P l b' → K (S b') = F l b') → trn ws g body (enc a) (S b) K kn = F (a :: l) b) (l : List α) (b : β) (hp : P l b) : (forGo ws g body (l.map enc) (S b)).fin kn kb kc = F l b := by
  induction l generalizing b with
  | nil => exact h0 b hp
  | cons a l ih =>
    rw [List.map_cons, forGo_cons]
    exact hs a l b _ hp fun b' p => ih b' p
/-- every turn checks, or gives w -/
theorem for_all {α : Type} (enc : α → D) (c : α → Bool) (S : SD) (w : D × Nat) (l : List α) (h : ∀ a ∈ l, ∀ K, trn ws g body (enc a) S K kn = if c a = true then K S else .ok w) :
    (forGo ws g body (l.map enc) S).fin kn kb kc = if l.all c = true then kn S else .ok w := by
  induction l with
  | nil => rfl
  | cons a l ih =>
    rw [List.map_cons, forGo_cons, h a List.mem_cons_self, List.all_cons]
    by_cases e : c a = true
    · rw [if_pos e, ih fun b m => h b (List.mem_cons_of_mem _ m), e, Bool.true_and]
    · rw [if_neg e]
      have : c a = false := by cases q : c a; rfl; exact absurd q e
      rw [this, Bool.false_and]
      rfl
theorem for_fold {α β : Type} (enc : α → D) (S : β → SD) (P : β → Prop) (f : β → α → β) (l : List α) (b : β) (hp : P b) (h : ∀ a ∈ l, ∀ b, P b → P (f b a) ∧ ∀ K, trn ws g body (enc a) (S b) K kn = K (S (f b a))) :
    (forGo ws g body (l.map enc) (S b)).fin kn kb kc = kn (S (l.foldl f b)) ∧ P (l.foldl f b) := by
  induction l generalizing b with
  | nil => exact ⟨rfl, hp⟩
  | cons a l ih =>
    obtain ⟨p, q⟩ := h a List.mem_cons_self b hp
    rw [List.map_cons, forGo_cons, q, List.foldl_cons]
    exact ih _ p fun a m => h a (List.mem_cons_of_mem _ m)
end
/-! ### comprehensions -/
def R.fis {α : Type} (r : R α) (k : α → SD → R (D × Nat)) : R (D × Nat) := match r with
  | .ok a sd => k a sd
  | _ => .stuck
@[simp] theorem R.fis_ok {α : Type} (a : α) (sd : SD) (k : α → SD → R (D × Nat)) : (R.ok a sd).fis k = k a sd := eqr rfl
@[simp] theorem R.fis_ite {α : Type} {c : Prop} [Decidable c] (a b : R α) (k : α → SD → R (D × Nat)) : (if c then a else b).fis k = if c then a.fis k else b.fis k := by split <;> rfl
def lcT2 (vs : List Nat) (K : Option D → SD → R (D × Nat)) : D × Nat → SD → R (D × Nat) := fun y sd3 => K (some y.1) (wp sd3 vs)
@[simp] theorem lcT2_ap (vs : List Nat) (K : Option D → SD → R (D × Nat)) (d : D) (n : Nat) (sd : SD) : lcT2 vs K (d, n) sd = K (some d) (wp sd vs) := eqr rfl
def lcT1 (vs : List Nat) (fe : Ev) (K : Option D → SD → R (D × Nat)) : Bool → SD → R (D × Nat) := fun b sd2 => if b then (fe sd2).fis (lcT2 vs K) else K none (wp sd2 vs)
@[simp] theorem lcT1_ap (vs : List Nat) (fe : Ev) (K : Option D → SD → R (D × Nat)) (b : Bool) (sd : SD) : lcT1 vs fe K b sd = if b = true then (fe sd).fis (lcT2 vs K) else K none (wp sd vs) := eqr rfl
def goR (o : Option SD) (f : SD → R (D × Nat)) : R (D × Nat) := match o with
  | some s => f s
  | none => .stuck
@[simp] theorem goR_some (s : SD) (f : SD → R (D × Nat)) : goR (some s) f = f s := eqr rfl
def lcT0 (vs : List Nat) (ft : Et) (fe : Ev) (K : Option D → SD → R (D × Nat)) : SD → R (D × Nat) := fun sd1 => (ft sd1).fis (lcT1 vs fe K)
@[simp] theorem lcT0_ap (vs : List Nat) (ft : Et) (fe : Ev) (K : Option D → SD → R (D × Nat)) (sd : SD) : lcT0 vs ft fe K sd = (ft sd).fis (lcT1 vs fe K) := eqr rfl
def lct (vs : List Nat) (g : Tg) (ft : Et) (fe : Ev) (d : D) (S : SD) (K : Option D → SD → R (D × Nat)) : R (D × Nat) := goR (g d S) (lcT0 vs ft fe K)
@[simp] theorem lct_ap (vs : List Nat) (g : Tg) (ft : Et) (fe : Ev) (d : D) (S : SD) (K : Option D → SD → R (D × Nat)) : lct vs g ft fe d S K = goR (g d S) (lcT0 vs ft fe K) := eqr rfl
def lcK (vs : List Nat) (g : Tg) (ft : Et) (fe : Ev) : List D → List D → SD → R (D × Nat)
  | [], acc, s => .ok (.lst acc, 1) s
  | d :: ds, acc, s => lct vs g ft fe d s fun o s' => match o with
    | some y => if acc.length < sizeLine then lcK vs g ft fe ds (acc ++ [y]) s' else .stuck
    | none => lcK vs g ft fe ds acc s'
theorem wp_at (sd : SD) (vs : List Nat) (i : Nat) : (wp sd vs)[i]? = if i ∈ vs then (sd[i]?).map fun _ => none else sd[i]? := by
  induction vs with
  | nil => simp
  | cons v vs ih =>
    rw [wp_cons, List.getElem?_set, ih]
    by_cases e : v = i
    · subst e
      have hl : (wp sd vs).length = sd.length := by
        clear ih
        induction vs with
        | nil => rfl
        | cons w vs ih => rw [wp_cons, List.length_set, ih]
      rw [if_pos rfl, hl, if_pos List.mem_cons_self]
      by_cases q : v < sd.length
      · rw [if_pos q, List.getElem?_eq_getElem q]; rfl
      · rw [if_neg q, List.getElem?_eq_none (Nat.le_of_not_lt q)]; rfl
    · rw [if_neg e]
      have : (i ∈ v :: vs) ↔ i ∈ vs := by
        constructor
        · intro m
          rcases List.mem_cons.mp m with m | m
          · exact absurd m.symm e
          · exact m
        · exact List.mem_cons_of_mem _
      simp only [this]
theorem wp_wp (sd : SD) (vs : List Nat) : wp (wp sd vs) vs = wp sd vs := by
  apply List.ext_getElem?
  intro i
  rw [wp_at, wp_at]
  split
  · cases sd[i]? <;> rfl
  · rfl
theorem lcGo_K (vs : List Nat) (g : Tg) (ft : Et) (fe : Ev) (ds : List D) : ∀ (acc : List D) (s : SD), ((lcGo vs g ft fe ds s acc).bind fun out sd2 => .ok (.lst out, 1) (wp sd2 vs)) = lcK vs g ft fe ds acc (wp s vs) := by
  induction ds with
  | nil => intro acc s; rfl
  | cons d ds ih =>
    intro acc s
    show (R.bind (match g d (wp s vs) with
      | none => .stuck
      | some sd1 => match ft sd1 with
        | .ok true sd2 => match fe sd2 with
          | .ok y sd3 => if acc.length < sizeLine then lcGo vs g ft fe ds sd3 (acc ++ [y.1]) else .stuck
          | _ => .stuck
        | .ok false sd2 => lcGo vs g ft fe ds sd2 acc
        | _ => .stuck) _) = lct vs g ft fe d (wp s vs) _
    unfold lct goR lcT0
    cases g d (wp s vs) with
    | none => rfl
    | some sd1 =>
      dsimp only
      cases ft sd1 with
      | stuck => rfl
      | exc x sd2 => rfl
      | ok b sd2 =>
        rw [R.fis_ok, lcT1_ap]
        cases b with
        | false =>
          rw [if_neg (by decide)]
          exact ih acc sd2
        | true =>
          rw [if_pos rfl]
          dsimp only
          cases fe sd2 with
          | stuck => rfl
          | exc x sd3 => rfl
          | ok y sd3 =>
            dsimp only
            rw [R.fis_ok]
            show _ = (if acc.length < sizeLine then lcK vs g ft fe ds (acc ++ [y.1]) (wp sd3 vs) else .stuck)
            by_cases q : acc.length < sizeLine
            · rw [if_pos q, if_pos q]
              exact ih (acc ++ [y.1]) sd3
            · rw [if_neg q, if_neg q]; rfl
def lcSK (vs : List Nat) (g : Tg) (ft : Et) (fe : Ev) : List D → SD → R (D × Nat) := fun items sd1 => lcK vs g ft fe items [] (wp sd1 vs)
@[simp] theorem lcSK_ap (vs : List Nat) (g : Tg) (ft : Et) (fe : Ev) (items : List D) (sd : SD) : lcSK vs g ft fe items sd = lcK vs g ft fe items [] (wp sd vs) := eqr rfl
@[simp] theorem lcS_ap (vs : List Nat) (fi : Ei) (g : Tg) (ft : Et) (fe : Ev) (sd : SD) : lcS vs fi g ft fe sd = (fi sd).bind (lcSK vs g ft fe) := by
  unfold lcS
  congr
  funext items sd1
  exact lcGo_K vs g ft fe items [] sd1
@[simp] theorem tYes_ap (sd : SD) : tYes' sd = .ok true sd := eqr rfl
section
variable {vs : List Nat} {g : Tg} {ft : Et} {fe : Ev}
theorem lcK_fm {α : Type} (enc : α → D) (o : α → Option D) (S : SD) (l : List α) : ∀ (acc : List D), acc.length + l.length ≤ sizeLine → (∀ a ∈ l, ∀ K, lct vs g ft fe (enc a) S K = K (o a) S) → lcK vs g ft fe (l.map enc) acc S = .ok (.lst (acc ++ l.filterMap o), 1) S := by
  induction l with
  | nil => intro acc _ _; rw [List.map_nil, List.filterMap_nil, List.append_nil]; rfl
  | cons a l ih =>
    intro acc hl h
    rw [List.map_cons]
    show lct vs g ft fe (enc a) S _ = _
    rw [h a List.mem_cons_self, List.filterMap_cons]
    rw [List.length_cons] at hl
    cases e : o a with
    | none => exact ih acc (by omega) fun b m => h b (List.mem_cons_of_mem _ m)
    | some y =>
      dsimp only
      rw [if_pos (by omega), ih (acc ++ [y]) (by rw [List.length_append, List.length_singleton]; omega) fun b m => h b (List.mem_cons_of_mem _ m)]
      rw [List.append_assoc]
      rfl
theorem lc_map {α : Type} (enc : α → D) (out : α → D) (S : SD) (l : List α) (hl : l.length ≤ sizeLine) (h : ∀ a ∈ l, ∀ K, lct vs g ft fe (enc a) S K = K (some (out a)) S) : lcK vs g ft fe (l.map enc) [] S = .ok (.lst (l.map out), 1) S := by
  rw [lcK_fm enc (fun a => some (out a)) S l [] (by simpa using hl) h, List.nil_append]
  congr
  exact congrFun (List.filterMap_eq_map (f := out)) l
theorem lc_flt {α : Type} (enc : α → D) (p : α → Bool) (out : α → D) (S : SD) (l : List α) (hl : l.length ≤ sizeLine) (h : ∀ a ∈ l, ∀ K, lct vs g ft fe (enc a) S K = if p a = true then K (some (out a)) S else K none S) : lcK vs g ft fe (l.map enc) [] S = .ok (.lst ((l.filter p).map out), 1) S := by
  rw [lcK_fm enc (fun a => if p a = true then some (out a) else none) S l [] (by simpa using hl) fun a m K => by rw [h a m]; split <;> rfl, List.nil_append]
  congr
  induction l with
  | nil => rfl
  | cons a l ih =>
    rw [List.filterMap_cons, List.filter_cons]
    have q := ih (by rw [List.length_cons] at hl; omega) fun b m => h b (List.mem_cons_of_mem _ m)
    by_cases e : p a = true
    · rw [if_pos e, if_pos e]
      dsimp only
      rw [List.map_cons, q]
    · rw [if_neg e, if_neg e]
      exact q
end
end VS
/-! VS15: values: what the operators give on numbers, rows of numbers, rows of pairs. -/
namespace VS
open PySem PySem.Spec L2
theorem line_big : (1000000 : Nat) ≤ sizeLine := by decide
theorem lt_line {n : Nat} (h : n < 1000000) : n < sizeLine := Nat.lt_of_lt_of_le h line_big
@[simp] theorem FR.r_ite {c : Prop} [Decidable c] (a b : FR) (sd : SD) : (if c then a else b).r sd = if c then a.r sd else b.r sd := by split <;> rfl
@[simp] theorem lendR_ite {c : Prop} [Decidable c] (a b : FR) (sd : SD) : lendR (if c then a else b) sd = if c then lendR a sd else lendR b sd := by split <;> rfl
@[simp] theorem isiD_1 (i : Int) : isiD "int" (.int i) = true := eqr rfl
@[simp] theorem isiD_2 (i : Int) : isiD "bool" (.int i) = false := eqr rfl
@[simp] theorem isiD_3 (i : Int) : isiD "tuple" (.int i) = false := eqr rfl
@[simp] theorem isiD_4 (i : Bool) : isiD "bool" (.bl i) = true := eqr rfl
@[simp] theorem isiD_5 (i : Bool) : isiD "int" (.bl i) = true := eqr rfl
@[simp] theorem isiD_6 (i : Str) : isiD "str" (.str i) = true := eqr rfl
@[simp] theorem isiD_7 (i : List D) : isiD "tuple" (.tup i) = true := eqr rfl
@[simp] theorem isiD_8 (i : List D) : isiD "tuple" (.lst i) = false := eqr rfl
@[simp] theorem isiD_9 (i : List D) : isiD "list" (.lst i) = true := eqr rfl
@[simp] theorem isiD_10 (i : Str) : isiD "tuple" (.str i) = false := eqr rfl
@[simp] theorem isiD_11 (i : Str) : isiD "int" (.str i) = false := eqr rfl
@[simp] theorem isiD_12 (i : List D) : isiD "int" (.tup i) = false := eqr rfl
@[simp] theorem isiD_13 (i : List D) : isiD "int" (.lst i) = false := eqr rfl
@[simp] theorem isiD_14 (i : List D) : isiD "bool" (.tup i) = false := eqr rfl
@[simp] theorem isiD_15 (i : List D) : isiD "bool" (.lst i) = false := eqr rfl
@[simp] theorem gIsi_int (T : String) (i : Int) : gIsi T (.int i) = some (.bl (isiD T (.int i)), 0) := eqr rfl
@[simp] theorem gIsi_bl (T : String) (i : Bool) : gIsi T (.bl i) = some (.bl (isiD T (.bl i)), 0) := eqr rfl
@[simp] theorem gIsi_str (T : String) (i : Str) : gIsi T (.str i) = some (.bl (isiD T (.str i)), 0) := eqr rfl
@[simp] theorem gIsi_tup (T : String) (i : List D) : gIsi T (.tup i) = some (.bl (isiD T (.tup i)), 0) := eqr rfl
@[simp] theorem gIsi_lst (T : String) (i : List D) : gIsi T (.lst i) = some (.bl (isiD T (.lst i)), 0) := eqr rfl
@[simp] theorem gIsi_non (T : String) : gIsi T .non = some (.bl (isiD T .non), 0) := eqr rfl
@[simp] theorem gLen_lst (ds : List D) : gLen (.lst ds) = some (.int ds.length, 0) := eqr rfl
@[simp] theorem gLen_tup (ds : List D) : gLen (.tup ds) = some (.int ds.length, 0) := eqr rfl
@[simp] theorem gLen_scr (ds : List D) : gLen (.scr ds) = some (.int ds.length, 0) := eqr rfl
@[simp] theorem gList_lst (ds : List D) : gList (.lst ds) = some (.lst ds, 1) := eqr rfl
@[simp] theorem gList_tup (ds : List D) : gList (.tup ds) = some (.lst ds, 1) := eqr rfl
@[simp] theorem gTuple_lst (ds : List D) : gTuple (.lst ds) = some (.tup ds, 0) := eqr rfl
@[simp] theorem gTuple_tup (ds : List D) : gTuple (.tup ds) = some (.tup ds, 0) := eqr rfl
@[simp] theorem gInt_int (i : Int) : gInt (.int i) = some (.int i, 0) := eqr rfl
@[simp] theorem gInt_bl (b : Bool) : gInt (.bl b) = some (.int (if b then 1 else 0), 0) := eqr rfl
@[simp] theorem gEq_int (i j : Int) : gEq (.int i) (.int j) = some (.bl (decide (i = j)), 0) := eqr rfl
@[simp] theorem gNe_int (i j : Int) : gNe (.int i) (.int j) = some (.bl (!decide (i = j)), 0) := eqr rfl
@[simp] theorem gEq_bl (i j : Bool) : gEq (.bl i) (.bl j) = some (.bl (decide (i = j)), 0) := eqr rfl
@[simp] theorem gEq_str (i j : Str) : gEq (.str i) (.str j) = some (.bl (decide (i = j)), 0) := eqr rfl
@[simp] theorem gIs_bl (neg a b : Bool) : gIs neg (.bl a) (.bl b) = some (.bl (if neg then !decide (a = b) else decide (a = b)), 0) := eqr rfl
@[simp] theorem gIs_non (neg : Bool) (i : Int) : gIs neg (.int i) .non = some (.bl neg, 0) := eqr rfl
theorem okd_pr (n : Nat) (p : Int × Int) : okd (n + 1) (prD p) = true := by simp [prD, okd, okds]
theorem eqv_pr (p q : Int × Int) : eqv (prD p) (prD q) = decide (p = q) := by
  obtain ⟨a, b⟩ := p
  obtain ⟨c, d⟩ := q
  simp only [prD, eqv, eqvs]
  by_cases h1 : a = c <;> by_cases h2 : b = d <;> simp [h1, h2]
@[simp] theorem gEq_pr (p q : Int × Int) : gEq (prD p) (prD q) = some (.bl (decide (p = q)), 0) := by
  show (if okd 30 (prD p) && okd 30 (prD q) then some (D.bl (eqv (prD p) (prD q)), 0) else none) = _
  rw [okd_pr, okd_pr, eqv_pr]; rfl
@[simp] theorem gNe_pr (p q : Int × Int) : gNe (prD p) (prD q) = some (.bl (!decide (p = q)), 0) := by
  show (if okd 30 (prD p) && okd 30 (prD q) then some (D.bl (!eqv (prD p) (prD q)), 0) else none) = _
  rw [okd_pr, okd_pr, eqv_pr]; rfl
@[simp] theorem gNe_pr2 (p q : Int × Int) : gNe (.tup [.int p.1, .int p.2]) (.tup [.int q.1, .int q.2]) = some (.bl (!decide (p = q)), 0) := gNe_pr p q
theorem flat_ints (ns : List Int) : (ns.map D.int).all flat = true := by
  rw [List.all_eq_true]
  intro x m
  obtain ⟨i, _, rfl⟩ := List.mem_map.mp m
  rfl
theorem inD_ints (i : Int) (ns : List Int) : inD (.int i) (ns.map .int) = decide (i ∈ ns) := by
  induction ns with
  | nil => rfl
  | cons n ns ih =>
    unfold inD at ih ⊢
    rw [List.map_cons, List.any_cons, ih]
    show ((n == i) || _) = _
    by_cases e : n = i
    · subst e; simp
    · have e2 : ¬ i = n := fun z => e z.symm
      simp [e, e2]
@[simp] theorem gIn_lst (neg : Bool) (i : Int) (ns : List Int) : gIn neg (.int i) (.lst (ns.map .int)) = some (.bl (if neg then !decide (i ∈ ns) else decide (i ∈ ns)), 0) := by
  show (if flat (.int i) ∧ (ns.map D.int).all flat then some (D.bl (if neg then !inD (.int i) (ns.map .int) else inD (.int i) (ns.map .int)), 0) else none) = _
  rw [if_pos ⟨rfl, flat_ints ns⟩, inD_ints]
@[simp] theorem gIn_tup (neg : Bool) (i : Int) (ns : List Int) : gIn neg (.int i) (.tup (ns.map .int)) = some (.bl (if neg then !decide (i ∈ ns) else decide (i ∈ ns)), 0) := by
  show (if flat (.int i) ∧ (ns.map D.int).all flat then some (D.bl (if neg then !inD (.int i) (ns.map .int) else inD (.int i) (ns.map .int)), 0) else none) = _
  rw [if_pos ⟨rfl, flat_ints ns⟩, inD_ints]
/-- an entry by its number -/
def gt {α : Type} [Inhabited α] (l : List α) (j : Int) : α := l.getD j.toNat default
theorem gt_mem {α : Type} [Inhabited α] {l : List α} {j : Int} (h0 : 0 ≤ j) (h1 : j < l.length) : gt l j ∈ l := by
  have : j.toNat < l.length := by omega
  unfold gt
  rw [List.getD_eq_getElem?_getD, List.getElem?_eq_getElem this]
  exact List.getElem_mem this
theorem gt_map {α β : Type} [Inhabited α] [Inhabited β] {l : List α} {j : Int} (f : α → β) (h0 : 0 ≤ j) (h1 : j < l.length) : gt (l.map f) j = f (gt l j) := by
  have : j.toNat < l.length := by omega
  unfold gt
  rw [List.getD_eq_getElem?_getD, List.getD_eq_getElem?_getD, List.getElem?_map, List.getElem?_eq_getElem this]
  rfl
theorem atI_map {α : Type} [Inhabited α] (enc : α → D) {l : List α} {j : Int} (h0 : 0 ≤ j) (h1 : j < l.length) : L2.atI (l.map enc) j = some (enc (gt l j)) := by
  have : j.toNat < l.length := by omega
  unfold L2.atI L2.ixN
  rw [List.length_map, if_pos h0, if_pos h1]
  show (l.map enc)[j.toNat]? = _
  rw [List.getElem?_map, List.getElem?_eq_getElem this]
  unfold gt
  rw [List.getD_eq_getElem?_getD, List.getElem?_eq_getElem this]
  rfl
section
variable {α : Type} [Inhabited α] (enc : α → D) {l : List α} {j : Int}
theorem gIx_lst (h0 : 0 ≤ j) (h1 : j < l.length) : gIx (.lst (l.map enc)) (.int j) = some (enc (gt l j), 0) := by
  show (L2.atI (l.map enc) j).map _ = _
  rw [atI_map enc h0 h1]; rfl
theorem gIx_tup (h0 : 0 ≤ j) (h1 : j < l.length) : gIx (.tup (l.map enc)) (.int j) = some (enc (gt l j), 0) := by
  show (L2.atI (l.map enc) j).map _ = _
  rw [atI_map enc h0 h1]; rfl
theorem gIx_scr (h0 : 0 ≤ j) (h1 : j < l.length) : gIx (.scr (l.map enc)) (.int j) = some (enc (gt l j), 0) := by
  show (L2.atI (l.map enc) j).map _ = _
  rw [atI_map enc h0 h1]; rfl
end
theorem ixN_ok {n : Nat} {j : Int} (h0 : 0 ≤ j) (h1 : j < n) : L2.ixN n j = some j.toNat := by
  unfold L2.ixN
  rw [if_pos h0, if_pos h1]
theorem atI_n (l : List D) (n : Nat) (h : n < l.length) : L2.atI l (n : Int) = l[n]? := by
  unfold L2.atI
  rw [ixN_ok (by omega) (by omega), Int.toNat_natCast]
  rfl
@[simp] theorem gIx_t3 (a b c d : D) (l : List D) : gIx (.tup (a :: b :: c :: d :: l)) (.int 3) = some (d, 0) := congrArg (Option.map fun d : D => (d, 0)) (atI_n (a :: b :: c :: d :: l) 3 (by simp))
@[simp] theorem gIx_t4 (a b c d e : D) (l : List D) : gIx (.tup (a :: b :: c :: d :: e :: l)) (.int 4) = some (e, 0) := congrArg (Option.map fun d : D => (d, 0)) (atI_n (a :: b :: c :: d :: e :: l) 4 (by simp))
@[simp] theorem gIx_t5 (a b c d e f : D) (l : List D) : gIx (.tup (a :: b :: c :: d :: e :: f :: l)) (.int 5) = some (f, 0) := congrArg (Option.map fun d : D => (d, 0)) (atI_n (a :: b :: c :: d :: e :: f :: l) 5 (by simp))
@[simp] theorem gIx_t6 (a b c d e f g : D) (l : List D) : gIx (.tup (a :: b :: c :: d :: e :: f :: g :: l)) (.int 6) = some (g, 0) := congrArg (Option.map fun d : D => (d, 0)) (atI_n (a :: b :: c :: d :: e :: f :: g :: l) 6 (by simp))
@[simp] theorem gIx_t7 (a b c d e f g h : D) (l : List D) : gIx (.tup (a :: b :: c :: d :: e :: f :: g :: h :: l)) (.int 7) = some (h, 0) := congrArg (Option.map fun d : D => (d, 0)) (atI_n (a :: b :: c :: d :: e :: f :: g :: h :: l) 7 (by simp))
@[simp] theorem gIx_l3 (a b c d : D) (l : List D) : gIx (.lst (a :: b :: c :: d :: l)) (.int 3) = some (d, 0) := congrArg (Option.map fun d : D => (d, 0)) (atI_n (a :: b :: c :: d :: l) 3 (by simp))
@[simp] theorem gIx_l4 (a b c d e : D) (l : List D) : gIx (.lst (a :: b :: c :: d :: e :: l)) (.int 4) = some (e, 0) := congrArg (Option.map fun d : D => (d, 0)) (atI_n (a :: b :: c :: d :: e :: l) 4 (by simp))
@[simp] theorem gIx_l5 (a b c d e f : D) (l : List D) : gIx (.lst (a :: b :: c :: d :: e :: f :: l)) (.int 5) = some (f, 0) := congrArg (Option.map fun d : D => (d, 0)) (atI_n (a :: b :: c :: d :: e :: f :: l) 5 (by simp))
@[simp] theorem gIx_l6 (a b c d e f g : D) (l : List D) : gIx (.lst (a :: b :: c :: d :: e :: f :: g :: l)) (.int 6) = some (g, 0) := congrArg (Option.map fun d : D => (d, 0)) (atI_n (a :: b :: c :: d :: e :: f :: g :: l) 6 (by simp))
@[simp] theorem gIx_l7 (a b c d e f g h : D) (l : List D) : gIx (.lst (a :: b :: c :: d :: e :: f :: g :: h :: l)) (.int 7) = some (h, 0) := congrArg (Option.map fun d : D => (d, 0)) (atI_n (a :: b :: c :: d :: e :: f :: g :: h :: l) 7 (by simp))
@[simp] theorem gIx_t0 (a : D) (l : List D) : gIx (.tup (a :: l)) (.int 0) = some (a, 0) := congrArg (Option.map fun d : D => (d, 0)) (atI_n (a :: l) 0 (Nat.zero_lt_succ _))
@[simp] theorem gIx_t1 (a b : D) (l : List D) : gIx (.tup (a :: b :: l)) (.int 1) = some (b, 0) := congrArg (Option.map fun d : D => (d, 0)) (atI_n (a :: b :: l) 1 (by simp))
@[simp] theorem gIx_t2 (a b c : D) (l : List D) : gIx (.tup (a :: b :: c :: l)) (.int 2) = some (c, 0) := congrArg (Option.map fun d : D => (d, 0)) (atI_n (a :: b :: c :: l) 2 (by simp))
@[simp] theorem gIx_l0 (a : D) (l : List D) : gIx (.lst (a :: l)) (.int 0) = some (a, 0) := congrArg (Option.map fun d : D => (d, 0)) (atI_n (a :: l) 0 (Nat.zero_lt_succ _))
@[simp] theorem gIx_l1 (a b : D) (l : List D) : gIx (.lst (a :: b :: l)) (.int 1) = some (b, 0) := congrArg (Option.map fun d : D => (d, 0)) (atI_n (a :: b :: l) 1 (by simp))
@[simp] theorem gIx_l2 (a b c : D) (l : List D) : gIx (.lst (a :: b :: c :: l)) (.int 2) = some (c, 0) := congrArg (Option.map fun d : D => (d, 0)) (atI_n (a :: b :: c :: l) 2 (by simp))
/-- a row, as a tuple or as a list -/
def eL (b : Bool) (xs : List D) : D := match b with
  | true => .tup xs
  | false => .lst xs
@[simp] theorem eL_true (xs : List D) : eL true xs = .tup xs := eqr rfl
@[simp] theorem eL_false (xs : List D) : eL false xs = .lst xs := eqr rfl
section
variable {b : Bool}
theorem gIx_eL {α : Type} [Inhabited α] (enc : α → D) {l : List α} {j : Int} (h0 : 0 ≤ j) (h1 : j < l.length) : gIx (eL b (l.map enc)) (.int j) = some (enc (gt l j), 0) := by
  cases b
  · exact gIx_lst enc h0 h1
  · exact gIx_tup enc h0 h1
@[simp] theorem gLen_eL (xs : List D) : gLen (eL b xs) = some (.int xs.length, 0) := by cases b <;> rfl
@[simp] theorem gList_eL (xs : List D) : gList (eL b xs) = some (.lst xs, 1) := by cases b <;> rfl
@[simp] theorem gTuple_eL (xs : List D) : gTuple (eL b xs) = some (.tup xs, 0) := by cases b <;> rfl
@[simp] theorem iAnyK_eL (xs : List D) (n : Nat) (sd : SD) : iAnyK (eL b xs, n) sd = .ok xs sd := by cases b <;> rfl
@[simp] theorem iEnuK_eL {α : Type} (enc : α → D) (l : List α) (n : Nat) (sd : SD) : iEnuK (eL b (l.map enc), n) sd = .ok (l.zipIdx.map fun p => .tup [.int (p.2 : Int), enc p.1]) sd := by
  cases b
  · exact iEnuK_lst sd enc l n
  · exact iEnuK_tup sd enc l n
@[simp] theorem gIn_eL (neg : Bool) (i : Int) (ns : List Int) : gIn neg (.int i) (eL b (ns.map .int)) = some (.bl (if neg then !decide (i ∈ ns) else decide (i ∈ ns)), 0) := by
  cases b
  · exact gIn_lst neg i ns
  · exact gIn_tup neg i ns
end
@[simp] theorem gMinE_ints (n : Int) (ns : List Int) : gMinE [.lst (.int n :: ns.map .int)] = some (.int (ns.foldl min n), 0) := by
  show (match intsOf ((n :: ns).map D.int) with
    | some (n :: ns) => some (D.int (ns.foldl min n), 0)
    | some [] => none
    | none => match pairsOf ((n :: ns).map D.int) with
      | some (p :: ps) => some (prD (minP p ps), 0)
      | _ => none) = _
  rw [intsOf_map]
@[simp] theorem gMax_ints (n : Int) (ns : List Int) : gMax [.lst (.int n :: ns.map .int)] = some (.int (ns.foldl max n), 0) := by
  show (match intsOf ((n :: ns).map D.int) with
    | some (n :: ns) => some (D.int (ns.foldl max n), 0)
    | _ => none) = _
  rw [intsOf_map]
section
variable {ws : List Nat} {g : Tg} {body : Sm} {kn kb kc : SD → FR}
theorem for_fold0 {α β : Type} (enc : α → D) (S : β → SD) (f : β → α → β) (l : List α) (b : β) (h : ∀ a ∈ l, ∀ b K, trn ws g body (enc a) (S b) K kn = K (S (f b a))) :
    (forGo ws g body (l.map enc) (S b)).fin kn kb kc = kn (S (l.foldl f b)) := (for_fold enc S (fun _ => True) f l b trivial fun a m b _ => ⟨trivial, h a m b⟩).1
theorem for_foldP {α β : Type} (enc : α → D) (S : β → SD) (P : β → Prop) (f : β → α → β) (l : List α) (b : β) (hp : P b) (h : ∀ a ∈ l, ∀ b, P b → P (f b a) ∧ ∀ K, trn ws g body (enc a) (S b) K kn = K (S (f b a))) :
    (forGo ws g body (l.map enc) (S b)).fin kn kb kc = kn (S (l.foldl f b)) := (for_fold enc S P f l b hp h).1
/-- a loop that gathers -/
theorem for_collect {α γ : Type} (enc : α → D) (S : List γ → SD) (h : α → Option γ) (l : List α) (acc : List γ) (hl : acc.length + l.length ≤ 1000000)
    (hs : ∀ a ∈ l, ∀ acc : List γ, acc.length < 1000000 → ∀ K, trn ws g body (enc a) (S acc) K kn = K (S (match h a with | some c => acc ++ [c] | none => acc))) :
    (forGo ws g body (l.map enc) (S acc)).fin kn kb kc = kn (S (acc ++ l.filterMap h)) := by
  induction l generalizing acc with
  | nil => rw [List.filterMap_nil, List.append_nil]; rfl
  | cons a l ih =>
    rw [List.length_cons] at hl
    rw [List.map_cons, forGo_cons, hs a List.mem_cons_self acc (by omega), List.filterMap_cons]
    cases h a with
    | none => exact ih acc (by omega) fun b m => hs b (List.mem_cons_of_mem _ m)
    | some c =>
      dsimp only
      rw [ih (acc ++ [c]) (by rw [List.length_append, List.length_singleton]; omega) fun b m => hs b (List.mem_cons_of_mem _ m), List.append_assoc]
      rfl
/-- a loop that keeps what is asked of its state; what it gives then is told for all such states -/
theorem for_inv {α β : Type} (enc : α → D) (S : β → SD) (I : Nat → β → Prop) (Q : FR → Prop) (l : List α) (b : β) (h0 : I 0 b)
    (hs : ∀ i a b, l[i]? = some a → I i b → ∀ K, (∀ b', I (i + 1) b' → Q (K (S b'))) → Q (trn ws g body (enc a) (S b) K kn)) (he : ∀ b, I l.length b → Q (kn (S b))) : Q ((forGo ws g body (l.map enc) (S b)).fin kn kb kc) := by
  induction l generalizing b I with
  | nil => exact he b h0
  | cons a l ih =>
    rw [List.map_cons, forGo_cons]
    exact hs 0 a b rfl h0 _ fun b' i => ih (fun j => I (j + 1)) b' i (fun j a b e hI => hs (j + 1) a b e hI) he
end
def cutA {α : Type} (xs : List α) (lo hi : Option Int) : List α := (xs.drop (HT.sIx xs.length 0 lo)).take (HT.sIx xs.length xs.length hi - HT.sIx xs.length 0 lo)
theorem cutD_map {α : Type} (enc : α → D) (l : List α) (lo hi : Option Int) : cutD (l.map enc) lo hi = (cutA l lo hi).map enc := by
  unfold cutD cutA
  rw [List.length_map, List.map_take, List.map_drop]
theorem cutA_len {α : Type} (l : List α) (lo hi : Option Int) : (cutA l lo hi).length ≤ l.length := by
  unfold cutA
  rw [List.length_take, List.length_drop]
  omega
theorem cutA_mem {α : Type} {l : List α} {lo hi : Option Int} {a : α} (h : a ∈ cutA l lo hi) : a ∈ l := List.mem_of_mem_drop (List.mem_of_mem_take h)
@[simp] theorem gSl_lst {α : Type} (enc : α → D) (l : List α) (lo hi : Option Int) : gSl (.lst (l.map enc)) lo hi = some (.lst ((cutA l lo hi).map enc), 1) := by
  rw [← cutD_map]; rfl
@[simp] theorem gSl_tup {α : Type} (enc : α → D) (l : List α) (lo hi : Option Int) : gSl (.tup (l.map enc)) lo hi = some (.tup ((cutA l lo hi).map enc), 0) := by
  rw [← cutD_map]; rfl
theorem gAdd_lstE {α : Type} (enc : α → D) (l l' : List α) (h : l.length + l'.length ≤ 1000000) : gAdd (.lst (l.map enc)) (.lst (l'.map enc)) = some (.lst ((l ++ l').map enc), 1) := by
  rw [gAdd_lst, if_pos (by rw [List.length_map, List.length_map]; exact Nat.le_trans h (by decide)), List.map_append]
end VS
/-! VS16: defs that change what they are given. -/
namespace VS
open PySem PySem.Spec L2
open PyProof.Rows (envOfC)
inductive FRO where
  | ok (w : D × Nat) (outs : List (D × Nat))
  | exc (x : Exn) (outs : List (D × Nat))
  | stuck
abbrev FnO := List (D × Nat) → FRO
def pick (sd : SD) : List Nat → Option (List (D × Nat))
  | [] => some []
  | i :: is => match gtS sd i with
    | some w => (pick sd is).map fun l => w :: l
    | none => none
def O.fro (ios : List Nat) (o : O) : FRO := match o with
  | .nx sd => match pick sd ios with
    | some outs => .ok (.non, 0) outs
    | none => .stuck
  | .rt w sd => match pick sd ios with
    | some outs => .ok w outs
    | none => .stuck
  | .ex x sd => match pick sd ios with
    | some outs => .exc x outs
    | none => .stuck
  | _ => .stuck
/-- what a def is worth that gives its arguments ios back, changed -/
def fnIO (N : Nat) (ios : List Nat) (body : Sm) : FnO := fun ws => (body (fill N ws)).fro ios
theorem gtS_some {sd : SD} {i : Nat} {w : D × Nat} (h : gtS sd i = some w) : sd[i]? = some (some w) := by
  unfold gtS at h
  cases e : sd[i]? with
  | none => rw [e] at h; cases h
  | some x => rw [e] at h; rw [← h]
section
variable {K : PySem.W.Frag} {Z F : Pz} {H : Hp} {σ : St} {sd : SD}
theorem pick_none {sd : SD} {i : Nat} : ∀ {is : List Nat}, i ∉ is → pick (sd.set i none) is = pick sd is := by
  intro is
  induction is with
  | nil => intro _; rfl
  | cons j is ih =>
    intro h
    unfold pick
    have e : gtS (sd.set i none) j = gtS sd j := by
      unfold gtS
      rw [List.getElem?_set_ne fun e : i = j => h (by rw [e]; exact List.mem_cons_self)]
    rw [e, ih fun m => h (List.mem_cons_of_mem _ m)]
theorem Ok.pick {ios : List Nat} (nd : ios.Nodup) {outs : List (D × Nat)} (ok : Ok K Z F H σ sd) (h : VS.pick sd ios = some outs) :
    ∃ (us : List V) (p : List Addr), Slots K Z H (us.map some) (outs.map some) p ∧ p.Nodup ∧ (∀ a ∈ p, ¬ F a) ∧ Ok0 Z (uni F p) H ∧ ios.map (fun i => σ[i]?) = us.map fun u => some (some u) := by
  induction ios generalizing sd outs F with
  | nil =>
    cases h
    exact ⟨[], [], .nil, .nil, fun _ m => absurd m List.not_mem_nil, ok.unnil.base, rfl⟩
  | cons i is ih =>
    unfold VS.pick at h
    split at h
    case h_2 => cases h
    rename_i w e
    obtain ⟨l, e1, e2⟩ := Option.map_eq_some_iff.mp h
    subst e2
    obtain ⟨d, k⟩ := w
    obtain ⟨v, p, e3, r, ndp, nf, ok1⟩ := ok.take (gtS_some e)
    obtain ⟨n1, n2⟩ := List.nodup_cons.mp nd
    rw [← pick_none n1] at e1
    obtain ⟨us, q, s, ndq, nfq, b, eq⟩ := ih n2 ok1 e1
    refine ⟨v :: us, p ++ q, .cons r s, List.nodup_append.mpr ⟨ndp, ndq, fun a ha b hb e => nfq b hb (.inr (e ▸ ha))⟩, fun a m => ?_, ⟨b.z, fun a f => b.f a ?_⟩, by rw [List.map_cons, List.map_cons, e3, eq]⟩
    · rcases List.mem_append.mp m with m | m
      · exact nf a m
      · exact fun z => nfq a m (.inl z)
    · rcases f with f | f
      · exact .inl (.inl f)
      · rcases List.mem_append.mp f with m | m
        · exact .inl (.inr m)
        · exact .inr m
end
section
variable (K : PySem.W.Frag) (mg : Mg)
def backP (ios : List Nat) (Z F : Pz) (H : Hp) (vs : List V) (outs : List (D × Nat)) (R : Pz → Hp → List Addr → Prop) : Prop :=
  ∀ (Z' : Pz) (H' : Hp) (us : List V) (p : List Addr), ios.map (fun i => vs[i]?) = us.map some → Slots K Z' H' (us.map some) (outs.map some) p → p.Nodup → (∀ a ∈ p, ¬ F a) → Ok0 Z' (uni F p) H' → Ext F Z H Z' H' → R Z' H' p
def spIO (n : Nat) (ios : List Nat) (f : FnO) : Sp := fun vs H Q E => ∃ (Z F : Pz) (ws : List (D × Nat)) (o : List Addr), vs.length = n ∧ Slots K Z H (vs.map some) (ws.map some) o ∧ o.Nodup ∧ (∀ a ∈ o, ¬ F a) ∧ Ok0 Z (uni F o) H ∧ match f ws with
  | .ok w outs => backP K ios Z F H vs outs fun Z' H' p => ∀ v o', Rp K Z' H' v w.1 w.2 o' → o'.Nodup → (∀ a ∈ o', ¬ uni F p a) → Ok0 Z' (uni (uni F p) o') H' → Q v H'
  | .exc x outs => backP K ios Z F H vs outs fun Z' H' p => ∀ c dd, ExcAt K mg Z' H' x c dd → E c dd H'
  | .stuck => False
end
section
variable {P : Program} {w : World} {K : PySem.W.Frag} {mg : Mg} {base : Heap}
/-- THE RULE for a def that gives arguments back -/
theorem fnIO_ok {x qual : Str} {st : Stmt} {f : Addr} {fd : FuncData} {N ps : List Str} {k : Nat} {body : Sm} (ios : List Nat) (hnd : ios.Nodup) (hio : ∀ i ∈ ios, i < ps.length) (Fu : Fun K x qual st f fd) (S : FnScope N ps (defScope st))
    (hbody : ∀ (cdv : Value) (A : Around) (outer : List Env) (s : Shared) (H : Hp) (E : XK), Room k (A.deeper (envOfC qual (defScope st) s.heap.objs.size f cdv)) →
      SSsp ios (cxOf (L2.CX P w) P w K mg base N qual (defScope st) f cdv A outer s H E) (fun c d _ H' => E c d H') (defBody st) body) : FnOk P w K mg base (L2.CX P w) (k + 1) f fd ps (spIO K mg ps.length ios (fnIO N.length ios body)) := by
  refine Fu.okX S (fun vs H Q E h => ?_) (fun cdv A outer s H vs Q E hr h => ⟨_, hbody cdv A outer s H E hr, ?_⟩)
  · obtain ⟨_, _, _, _, h, _⟩ := h
    exact h
  · obtain ⟨Z, F, ws, o, hl, s0, nd, nf, b, h⟩ := h
    have hlen : vs.length = ws.length := by
      have := s0.length
      simpa using this
    have pnV : ∀ σ' : St, Pin ios (L2.start N vs) σ' → ∀ us : List V, ios.map (fun i => σ'[i]?) = us.map (fun u => some (some u)) → ios.map (fun i => vs[i]?) = us.map some := fun σ' pn us e => by
      have e2 : ios.map (fun i => σ'[i]?) = ios.map fun i => (vs[i]?).map some := by
        apply List.map_congr_left
        intro i m
        rw [pn i m]
        unfold L2.start
        have hi := hio i m
        rw [List.getElem?_append_left (by rw [List.length_map]; omega), List.getElem?_map]
      rw [e2] at e
      have e3 : (ios.map fun i => vs[i]?).map (fun x => x.map some) = (us.map some).map fun x => x.map some := by
        rw [List.map_map, List.map_map]
        exact e
      exact (List.map_inj_right (fun a b h => by
        cases a <;> cases b <;> simp_all)).mp e3
    refine ⟨Z, F, fill N.length ws, ⟨o, ?_, nd, nf, b⟩, ?_⟩
    · unfold L2.start fill
      rw [hlen]
      exact s0.fill _
    · unfold fnIO at h
      cases e : body (fill N.length ws) with
      | nx sd1 =>
        rw [e] at h
        unfold O.fro at h
        cases ep : VS.pick sd1 ios with
        | none => simp only [ep] at h
        | some outs =>
          simp only [ep] at h
          intro σ' Z' H' pn ok x
          obtain ⟨us, p, q1, q2, q3, q4, q5⟩ := ok.pick hnd ep
          exact h Z' H' us p (pnV σ' pn us q5) q1 q2 q3 q4 x .non [] (.non _) .nil (fun _ m => absurd m List.not_mem_nil) ⟨q4.z, fun a f => q4.f a (f.elim id fun m => absurd m List.not_mem_nil)⟩
      | rt w1 sd1 =>
        rw [e] at h
        unfold O.fro at h
        cases ep : VS.pick sd1 ios with
        | none => simp only [ep] at h
        | some outs =>
          simp only [ep] at h
          intro v Z' H' o' σ' pn r nd' nf' ok x
          obtain ⟨us, p, q1, q2, q3, q4, q5⟩ := ok.pick hnd ep
          refine h Z' H' us p (pnV σ' pn us q5) q1 q2 (fun a m z => q3 a m (.inl z)) ⟨q4.z, fun a f => q4.f a (f.elim (fun z => .inl (.inl z)) .inr)⟩ x v o' r nd' (fun a m z => ?_) ⟨q4.z, fun a f => q4.f a ?_⟩
          · rcases z with z | z
            · exact nf' a m z
            · exact q3 a z (.inr m)
          · rcases f with (f | f) | f
            · exact .inl (.inl f)
            · exact .inr f
            · exact .inl (.inr f)
      | ex y sd1 =>
        rw [e] at h
        unfold O.fro at h
        cases ep : VS.pick sd1 ios with
        | none => simp only [ep] at h
        | some outs =>
          simp only [ep] at h
          intro σ' pn c dd Z' H' a ok x
          obtain ⟨us, p, q1, q2, q3, q4, q5⟩ := ok.pick hnd ep
          exact h Z' H' us p (pnV σ' pn us q5) q1 q2 q3 q4 x c dd a
      | bk sd1 => rw [e] at h; exact h.elim
      | ct sd1 => rw [e] at h; exact h.elim
      | stuck => rw [e] at h; exact h.elim
structure DefO (P : Program) (w : World) (K : PySem.W.Frag) (mg : Mg) (base : Heap) (x : Str) (k : Nat) (n : Nat) (ios : List Nat) (dfl : List D) (f : FnO) : Prop where
  ex : ∃ (fa : Addr) (fd : FuncData) (ps : List Str) (dvs : List V) (ds : List Value), mg x = some (.ref fa) ∧ PySem.W.keepIn K (.ref fa) = true ∧ Binds K fd ps ds ∧ Vals dvs ds ∧ (∀ Z H, RpAll K Z H dvs dfl 0 []) ∧ FnOk P w K mg base (L2.CX P w) k fa fd ps (spIO K mg n ios f)
theorem DefO.mono {x : Str} {j k n : Nat} {ios : List Nat} {dfl : List D} {f : FnO} (h : DefO P w K mg base x j n ios dfl f) (le : j ≤ k) : DefO P w K mg base x k n ios dfl f := by
  obtain ⟨fa, fd, ps, dvs, ds, h1, h2, h3, h4, h5, h6⟩ := h.ex
  exact ⟨fa, fd, ps, dvs, ds, h1, h2, h3, h4, h5, h6.mono le⟩
end
/-! the call -/
def rsm (sd : SD) : List Ag → Option (List (D × Nat) × SD)
  | [] => some ([], sd)
  | .w x :: r => (rsm sd r).map fun q => (x :: q.1, q.2)
  | .b i :: r => match gtS sd i with
    | some w => (rsm (sd.set i none) r).map fun q => (w :: q.1, q.2)
    | none => none
def mSl : List Ag → List Nat
  | [] => []
  | .w _ :: r => mSl r
  | .b i :: r => i :: mSl r
def mPos : Nat → List Ag → List Nat
  | _, [] => []
  | n, .w _ :: r => mPos (n + 1) r
  | n, .b _ :: r => n :: mPos (n + 1) r
def putB (sd : SD) : List Nat → List (D × Nat) → SD
  | i :: is, w :: ws => putB (sd.set i (some w)) is ws
  | _, _ => sd
def outR (sd : SD) (is : List Nat) : FRO → R (D × Nat)
  | .ok w outs => .ok w (putB sd is outs)
  | .exc x outs => .exc x (putB sd is outs)
  | .stuck => .stuck
def calIO (n : Nat) (ios : List Nat) (f : FnO) (dfl : List D) (fs : Eb) : Ev := fun sd => (fs sd).bind fun ags sd1 => match rsm sd1 ags with
  | some (xs, sd2) => if (xs.length + dfl.length == n && mPos 0 ags == ios) = true then outR sd2 (mSl ags) (f (xs ++ dfl.map fun d => (d, 0))) else .stuck
  | none => .stuck
section
variable {K : PySem.W.Frag} {Z F : Pz} {H : Hp} {σ : St}
theorem AgS.rsm {sd : SD} {vs : List V} {as : List Ag} {o : List Addr} (h : AgS K Z H σ vs as o) (nd : o.Nodup) (nf : ∀ a ∈ o, ¬ F a) (ok : Ok K Z (uni F o) H σ sd) {xs : List (D × Nat)} {sd2 : SD} (e : VS.rsm sd as = some (xs, sd2)) :
    ∃ q, Slots K Z H (vs.map some) (xs.map some) q ∧ q.Nodup ∧ (∀ a ∈ q, ¬ F a) ∧ Ok K Z (uni F q) H σ sd2 := by
  induction h generalizing sd F xs with
  | nil => cases e; exact ⟨[], .nil, nd, nf, ok⟩
  | @w v d k vs as o p r _ ih =>
    unfold VS.rsm at e
    obtain ⟨⟨l, sd3⟩, e1, e2⟩ := Option.map_eq_some_iff.mp e
    cases e2
    obtain ⟨n1, n2, n3⟩ := List.nodup_append.mp nd
    obtain ⟨q, s, ndq, nfq, ok2⟩ := ih (F := uni F o) n2 (fun a m z => z.elim (fun z => nf a (List.mem_append_right _ m) z) fun z => n3 a z a m rfl) (ok.less fun a z => by
      rcases z with (z | z) | z
      · exact .inl z
      · exact .inr (List.mem_append_left _ z)
      · exact .inr (List.mem_append_right _ z)) e1
    refine ⟨o ++ q, .cons r s, List.nodup_append.mpr ⟨n1, ndq, fun a ha b hb e => nfq b hb (.inr (e ▸ ha))⟩, fun a m => ?_, ok2.less fun a z => ?_⟩
    · rcases List.mem_append.mp m with m | m
      · exact nf a (List.mem_append_left _ m)
      · exact fun z => nfq a m (.inl z)
    · rcases z with z | z
      · exact .inl (.inl z)
      · rcases List.mem_append.mp z with z | z
        · exact .inl (.inr z)
        · exact .inr z
  | @b v i vs as p ev _ ih =>
    unfold VS.rsm at e
    split at e
    case h_2 => cases e
    rename_i w eg
    obtain ⟨⟨l, sd3⟩, e1, e2⟩ := Option.map_eq_some_iff.mp e
    cases e2
    obtain ⟨d, k⟩ := w
    obtain ⟨v', pi, e3, r, ndi, nfi, ok1⟩ := ok.take (gtS_some eg)
    rw [ev] at e3
    cases e3
    obtain ⟨q, s, ndq, nfq, ok2⟩ := ih (F := uni F pi) nd (fun a m z => z.elim (fun z => nf a m z) fun z => nfi a z (.inr m)) (ok1.less fun a z => by
      rcases z with (z | z) | z
      · exact .inl (.inl z)
      · exact .inr z
      · exact .inl (.inr z)) e1
    refine ⟨pi ++ q, .cons r s, List.nodup_append.mpr ⟨ndi, ndq, fun a ha b hb e => nfq b hb (.inr (e ▸ ha))⟩, fun a m => ?_, ok2.less fun a z => ?_⟩
    · rcases List.mem_append.mp m with m | m
      · exact fun z => nfi a m (.inl z)
      · exact fun z => nfq a m (.inl z)
    · rcases z with z | z
      · exact .inl (.inl z)
      · rcases List.mem_append.mp z with z | z
        · exact .inl (.inr z)
        · exact .inr z
theorem AgS.mval {vs : List V} {as : List Ag} {o : List Addr} (h : AgS K Z H σ vs as o) : ∀ (pre : List V) (us : List V), (mPos pre.length as).map (fun j => (pre ++ vs)[j]?) = us.map some → (mSl as).map (fun i => σ[i]?) = us.map fun u => some (some u) := by
  induction h with
  | nil =>
    intro pre us e
    cases us with
    | nil => rfl
    | cons u us => cases e
  | @w v d k vs as o p r _ ih =>
    intro pre us e
    have := ih (pre ++ [v]) us
    rw [List.append_assoc, List.length_append] at this
    exact this e
  | @b v i vs as p ev _ ih =>
    intro pre us e
    have := ih (pre ++ [v])
    rw [List.length_append, List.append_assoc] at this
    unfold mPos at e
    rw [List.map_cons] at e
    cases us with
    | nil => cases e
    | cons u us =>
      rw [List.map_cons] at e
      injection e with e1 e2
      rw [List.getElem?_append_right (Nat.le_refl _), Nat.sub_self] at e1
      have e1 : v = u := Option.some.inj e1
      subst e1
      show σ[i]? :: (mSl as).map _ = some (some v) :: _
      rw [ev, this us e2]
theorem Ok.putB {us : List V} {outs : List (D × Nat)} {p : List Addr} {is : List Nat} {sd : SD} (s : Slots K Z H (us.map some) (outs.map some) p) (nd : p.Nodup) (nf : ∀ a ∈ p, ¬ F a) (hv : is.map (fun i => σ[i]?) = us.map fun u => some (some u)) (ok : Ok K Z (uni F p) H σ sd) : Ok K Z F H σ (VS.putB sd is outs) := by
  induction us generalizing outs p is sd with
  | nil =>
    cases outs with
    | cons _ _ => have := s.length; simp at this
    | nil =>
      have : is = [] := List.map_eq_nil_iff.mp hv
      subst this
      exact ok.less fun _ z => .inl z
  | cons u us ih =>
    cases outs with
    | nil => have := s.length; simp at this
    | cons w outs =>
      obtain ⟨d, k⟩ := w
      cases is with
      | nil => cases hv
      | cons i is =>
        rw [List.map_cons, List.map_cons] at hv
        injection hv with h1 h2
        rw [List.map_cons, List.map_cons] at s
        cases s with
        | @cons _ _ _ _ _ o q r s =>
        obtain ⟨n1, n2, n3⟩ := List.nodup_append.mp nd
        unfold VS.putB
        refine ih s n2 (fun a m => nf a (List.mem_append_right _ m)) h2 ?_
        refine Ok.back (p := o) (ok.less fun a z => ?_) r n1 (fun a m z => ?_) h1
        · rcases z with (z | z) | z
          · exact .inl z
          · exact .inr (List.mem_append_right _ z)
          · exact .inr (List.mem_append_left _ z)
        · rcases z with z | z
          · exact nf a (List.mem_append_left _ m) z
          · exact n3 a m a z rfl
end
section
variable {X : Cx} {W : WX} {pos p q : Pos} {a b c : Expr} {es : List Expr} {fa fb : Ev} {fs : Eb}
theorem se_callIO {x : Str} {k n : Nat} {ios : List Nat} {dfl : List D} {f : FnO} (G : DefO X.prog X.w X.K X.mg X.base x k n ios dfl f) (hr : Room k X.A) (tk : Takes X W) (ha : SGb X W (a :: es) fs) (hio : ∀ i ∈ ios, i < n - dfl.length := by decide) (hg : Gl X x := by rfl) (hdb : (x == ("__debug__" : Str)) = false := by decide)
    (he : starEach (a :: es) X.env = (false, eval a X.env) :: starEach es X.env := by rfl) (hpl : (backTo pos (starEach es X.env)).any (·.1) = false := by rfl) : SE X W (.Call (.Name x p) (a :: es) [] pos) (calIO n ios f dfl fs) := by
  obtain ⟨fa, fd, ps, dvs, ds, h1, h2, h3, h4, h5, h6⟩ := G.ex
  refine PE.imp (pe_callSD h6 hr hg h1 h2 h3 h4 (fun σ => passAt tk σ) ha hdb he hpl) fun σ H Q ⟨Z, F, sd, ok, h⟩ => ?_
  refine ⟨Z, F, sd, ok, ?_⟩
  unfold calIO at h
  cases e : fs sd with
  | stuck => rw [e] at h; exact h
  | exc y sd1 => rw [e] at h; exact h
  | ok ags sd1 =>
    rw [e, R.bind_ok] at h
    intro vs Z1 H1 o s nd nf ok1 x1
    split at h
    case h_2 => exact h.elim
    rename_i xs sd2 ers
    split at h
    case isFalse => exact h.elim
    rename_i hn
    rw [Bool.and_eq_true] at hn
    have hpos : mPos 0 ags = ios := beq_iff_eq.mp hn.2
    obtain ⟨q, sx, ndq, nfq, ok2⟩ := s.rsm nd nf ok1 ers
    obtain ⟨ow, ss, ndw, nfw, b⟩ := ok2.ex
    have hvs : vs.length + dvs.length = n := by
      have q1 := sx.length
      have q2 := (h5 Z1 H1).length
      rw [List.length_map, List.length_map] at q1
      rw [q1, q2]
      exact beq_iff_eq.mp hn.1
    have hlen : (vs ++ dvs).length = n := by rw [List.length_append]; exact hvs
    have hdl : dvs.length = dfl.length := (h5 Z1 H1).length
    have hval : ∀ us : List V, ios.map (fun i => (vs ++ dvs)[i]?) = us.map some → (mSl ags).map (fun i => σ[i]?) = us.map fun u => some (some u) := fun us eu => by
      refine s.mval [] us ?_
      show (mPos 0 ags).map (fun j => vs[j]?) = _
      rw [hpos, ← eu]
      apply List.map_congr_left
      intro i m
      have := hio i m
      rw [List.getElem?_append_left (by omega)]
    refine ⟨Z1, uni F ow, xs ++ dfl.map fun d => (d, 0), q, hlen, ?_, ndq, fun a m z => ?_, ⟨b.z, fun a f => b.f a ?_⟩, ?_⟩
    · rw [List.map_append, List.map_append]
      have := sx.app (Slots.of_all (h5 Z1 H1))
      rw [List.append_nil] at this
      exact this
    · rcases z with z | z
      · exact nfq a m z
      · exact nfw a z (.inr m)
    · rcases f with (f | f) | f
      · exact .inl (.inl f)
      · exact .inr f
      · exact .inl (.inr f)
    · cases e2 : f (xs ++ dfl.map fun d => (d, 0)) with
      | ok w outs =>
        rw [e2] at h
        intro Z2 H2 us p eu so ndp nfp b2 x2 v o' rv nd' nf' b3
        have ok3 : Ok X.K Z2 (uni (uni F o') p) H2 σ sd2 := ⟨ow, ss.keep x2.z fun a m => x2.f a (.inr m), ndw, fun a m z => ?_, b3.z, fun a f => b3.f a ?_⟩
        · exact h v Z2 H2 o' rv nd' (fun a m z => nf' a m (.inl (.inl z))) (Ok.putB so ndp (fun a m z => z.elim (fun z => nfp a m (.inl z)) fun z => nf' a z (.inr m)) (hval us eu) ok3) (x1.trans (x2.mono fun _ z => .inl z))
        · rcases z with (z | z) | z
          · exact nfw a m (.inl z)
          · exact nf' a z (.inl (.inr m))
          · exact nfp a z (.inr m)
        · rcases f with ((f | f) | f) | f
          · exact .inl (.inl (.inl f))
          · exact .inr f
          · exact .inl (.inr f)
          · exact .inl (.inl (.inr f))
      | exc y outs =>
        rw [e2] at h
        intro Z2 H2 us p eu so ndp nfp b2 x2 c dd ea
        have ok3 : Ok X.K Z2 (uni F p) H2 σ sd2 := ⟨ow, ss.keep x2.z fun a m => x2.f a (.inr m), ndw, fun a m z => ?_, b2.z, fun a f => b2.f a ?_⟩
        · exact h c dd Z2 H2 ea (Ok.putB so ndp (fun a m z => nfp a m (.inl z)) (hval us eu) ok3) (x1.trans (x2.mono fun _ z => .inl z))
        · rcases z with z | z
          · exact nfw a m (.inl z)
          · exact nfp a z (.inr m)
        · rcases f with (f | f) | f
          · exact .inl (.inl f)
          · exact .inr f
          · exact .inl (.inr f)
      | stuck => rw [e2] at h; exact h
end
end VS
/-! VS17: dicts whose keys are ints and texts, or tuples of them. -/
namespace VS
open PySem PySem.Spec L2
open PyProof.Rows (subscriptTail)
section
variable {κ : Type} [DecidableEq κ] {α : Type}
/-- what stands at the key -/
def dGet : List κ → List α → κ → Option α
  | k :: ks, d :: ds, x => if k = x then some d else dGet ks ds x
  | _, _, _ => none
def dKeys (ks : List κ) (x : κ) : List κ := if x ∈ ks then ks else ks ++ [x]
def dVals (ks : List κ) (ds : List α) (x : κ) (y : α) : List α := if x ∈ ks then (ks.zip ds).map fun kd => if kd.1 = x then y else kd.2 else ds ++ [y]
end
def keyOf : D → Option Key
  | .int i => some (.inl i)
  | .str s => some (.inr s)
  | _ => none
def keysOf : List D → Option (List Key)
  | [] => some []
  | d :: ds => match keyOf d, keysOf ds with
    | some k, some ks => some (k :: ks)
    | _, _ => none
def keyT : D → Option (List Key)
  | .tup ds => keysOf ds
  | _ => none
/-- d[k]: none = no promise; some none = no such key -/
def dLook : D → D → Option (Option D)
  | .dct ks ds, k => (keyOf k).map fun k => dGet ks ds k
  | .dcT ks ds, k => (keyT k).map fun k => dGet ks ds k
  | _, _ => none
def dPutD : D → D → D → Option D
  | .dct ks ds, k, y => (keyOf k).bind fun k => if ks.length < sizeLine then some (.dct (dKeys ks k) (dVals ks ds k y)) else none
  | .dcT ks ds, k, y => (keyT k).bind fun k => if ks.length < sizeLine then some (.dcT (dKeys ks k) (dVals ks ds k y)) else none
  | _, _, _ => none
section
variable {K : PySem.W.Frag} {Z : Pz} {H : Hp}
theorem keyOf_rp {v : V} {d : D} {k : Key} (r : Rp K Z H v d 0 []) (e : keyOf d = some k) : v = kV k := by
  generalize e0 : ([] : List Addr) = o0 at r
  cases r <;> simp only [keyOf, reduceCtorEq] at e <;> (cases e; rfl)
theorem keysOf_rp {vs : List V} {ds : List D} {ks : List Key} (r : RpAll K Z H vs ds 0 []) (e : keysOf ds = some ks) : vs = ks.map kV := by
  induction vs generalizing ds ks with
  | nil =>
    have := r.length
    cases ds with
    | nil => cases e; rfl
    | cons _ _ => cases this
  | cons v vs ih =>
    cases ds with
    | nil => have := r.length; cases this
    | cons d ds =>
      obtain ⟨r1, r2⟩ := r.uncons
      unfold keysOf at e
      split at e
      · rename_i k ks' e1 e2
        cases e
        rw [List.map_cons, ← keyOf_rp r1 e1, ← ih r2 e2]
      · cases e
theorem keyT_rp {v : V} {d : D} {k : List Key} (r : Rp K Z H v d 0 []) (e : keyT d = some k) : ∃ b, v = .ref b ∧ H b = some (.tup (k.map kV)) := by
  generalize e0 : ([] : List Addr) = o0 at r
  cases r <;> simp only [keyT, reduceCtorEq] at e
  rename_i a xs ds z h r
  exact ⟨a, rfl, by rw [h, keysOf_rp r e]⟩
section
variable {κ : Type} [DecidableEq κ]
theorem dGet_rp {ks : List κ} {xs : List V} {ds : List D} {k : Nat} (hl : ks.length = xs.length) (r : RpAll K Z H xs ds 0 []) (x : κ) :
    (match dGet ks ds x with | some d => ∃ v, valV (ks.zip xs) x = some v ∧ Rp K Z H v d 0 [] | none => valV (ks.zip xs) x = none) := by
  induction ks generalizing xs ds with
  | nil => rfl
  | cons k ks ih =>
    cases xs with
    | nil => cases hl
    | cons v xs =>
      cases ds with
      | nil => have := r.length; cases this
      | cons d ds =>
        obtain ⟨r1, r2⟩ := r.uncons
        rw [List.zip_cons_cons]
        unfold dGet
        by_cases e : k = x
        · rw [if_pos e]
          exact ⟨v, valV_pos e, r1⟩
        · rw [if_neg e, valV_neg e]
          exact ih (by simpa using hl) r2
theorem put_eq {ks : List κ} {xs : List V} (hl : ks.length = xs.length) (x : κ) (y : V) : putK (ks.zip xs) x y = (dKeys ks x).zip (dVals ks xs x y) ∧ (dKeys ks x).length = (dVals ks xs x y).length := by
  have hany : ((ks.zip xs).any fun kv => decide (kv.1 = x)) = decide (x ∈ ks) := by
    induction ks generalizing xs with
    | nil => simp
    | cons k ks ih =>
      cases xs with
      | nil => cases hl
      | cons v xs =>
        rw [List.zip_cons_cons, List.any_cons, ih (by simpa using hl)]
        by_cases e : k = x
        · subst e; simp
        · have e2 : ¬ x = k := fun z => e z.symm
          simp [e, e2]
  unfold putK dKeys dVals
  rw [hany]
  by_cases m : x ∈ ks
  · rw [if_pos (decide_eq_true m), if_pos m, if_pos m]
    clear hany m
    induction ks generalizing xs with
    | nil => exact ⟨rfl, rfl⟩
    | cons k ks ih =>
      cases xs with
      | nil => cases hl
      | cons v xs =>
        obtain ⟨i1, i2⟩ := ih (xs := xs) (by simpa using hl)
        rw [List.zip_cons_cons, List.map_cons, List.map_cons, List.zip_cons_cons, i1, List.length_cons, List.length_cons, i2]
        refine ⟨?_, rfl⟩
        congr 1
        by_cases e : k = x <;> simp [e]
  · have : ¬ decide (x ∈ ks) = true := by simpa using m
    rw [if_neg this, if_neg m, if_neg m]
    refine ⟨?_, by rw [List.length_append, List.length_append, hl]; rfl⟩
    rw [List.zip_append hl]
    rfl
theorem dVals_rp {ks : List κ} {xs : List V} {ds : List D} (hl : ks.length = xs.length) (r : RpAll K Z H xs ds 0 []) (x : κ) {y : V} {d : D} (ry : Rp K Z H y d 0 []) : RpAll K Z H (dVals ks xs x y) (dVals ks ds x d) 0 [] := by
  unfold dVals
  by_cases m : x ∈ ks
  · rw [if_pos m, if_pos m]
    clear m
    induction ks generalizing xs ds with
    | nil => exact .nil 0
    | cons k ks ih =>
      cases xs with
      | nil => cases hl
      | cons v xs =>
        cases ds with
        | nil => have := r.length; cases this
        | cons e ds =>
          obtain ⟨r1, r2⟩ := r.uncons
          rw [List.zip_cons_cons, List.zip_cons_cons, List.map_cons, List.map_cons]
          refine .cons (o := []) (p := []) ?_ (ih (by simpa using hl) r2)
          by_cases z : k = x
          · simp only [z, if_true]; exact ry
          · simp only [z, if_false]; exact r1
  · rw [if_neg m, if_neg m]
    exact r.app (.cons (o := []) (p := []) ry (.nil 0))
end
def LkR (K : PySem.W.Frag) (Z : Pz) (H : Hp) (o : Option V) : Option D → Prop
  | some x => ∃ u, o = some u ∧ Rp K Z H u x 0 []
  | none => o = none
/-- a dict that is looked at -/
theorem dLook_rp {v y : V} {d e : D} {k : Nat} {p : List Addr} {w : Option D} (r : Rp K Z H v d (min k 1) p) (ry : Rp K Z H y e 0 []) (eg : dLook d e = some w) :
    ∃ a o, v = .ref a ∧ DGet H a y o ∧ LkR K Z H o w := by
  have key : ∀ {κ : Type} [DecidableEq κ] {ks : List κ} {xs : List V} {ds : List D} (hl : ks.length = xs.length) (ra : RpAll K Z H xs ds 0 []) (x : κ), LkR K Z H (valV (ks.zip xs) x) (dGet ks ds x) := fun hl ra x => by
    have := dGet_rp (k := 0) hl ra x
    cases e : dGet _ _ x <;> (rw [e] at this; exact this)
  generalize e0 : min k 1 = k1 at r
  cases r <;> simp only [dLook, reduceCtorEq] at eg
  · rename_i a ks xs ds z h hl ra
    obtain ⟨k', e1, rfl⟩ := Option.map_eq_some_iff.mp eg
    have := keyOf_rp ry e1
    subst this
    refine ⟨a, _, rfl, .k h, ?_⟩
    exact key hl ra k'
  · rename_i a ks xs ds k2 o h hl ra
    have : k2 = 0 := by omega
    subst this
    cases ra.nil0
    obtain ⟨k', e1, rfl⟩ := Option.map_eq_some_iff.mp eg
    have := keyOf_rp ry e1
    subst this
    refine ⟨a, _, rfl, .k h, ?_⟩
    exact key hl ra k'
  · rename_i a ks xs ds z h hl ra
    obtain ⟨k', e1, rfl⟩ := Option.map_eq_some_iff.mp eg
    obtain ⟨b, rfl, hb⟩ := keyT_rp ry e1
    refine ⟨a, _, rfl, .t h hb, ?_⟩
    exact key hl ra k'
  · rename_i a ks xs ds k2 o h hl ra
    have : k2 = 0 := by omega
    subst this
    cases ra.nil0
    obtain ⟨k', e1, rfl⟩ := Option.map_eq_some_iff.mp eg
    obtain ⟨b, rfl, hb⟩ := keyT_rp ry e1
    refine ⟨a, _, rfl, .t h hb, ?_⟩
    exact key hl ra k'
end
/-! ### k in d -/
def gInD (neg : Bool) : D → D → Option (D × Nat) := fun k d => (dLook d k).map fun o => (.bl (if neg then !o.isSome else o.isSome), 0)
def rDIn (neg : Bool) : R2 := fun y x H Q => ∃ a o, x = .ref a ∧ DGet H a y o ∧ Q (.bl (if neg then !o.isSome else o.isSome)) H
section
variable {X : Cx} {W : WX} {pos p q : Pos} {a b c : Expr} {fa fb : Ev}
theorem op_din (hu : X.A.units + 64 < cLine) : OpR X (compareOp .In) (rDIn false) := by
  intro pins s σ H y x u v Q I ry rx ⟨a, o, ex, g, q⟩
  subst ex
  obtain rfl : v = Value.ref a := rx
  exact d_in (by omega) I g ry fun s3 I3 => ⟨.bl o.isSome, H, I3, rfl, q⟩
theorem op_dnin (hu : X.A.units + 64 < cLine) : OpR X (compareOp .NotIn) (rDIn true) := by
  intro pins s σ H y x u v Q I ry rx ⟨a, o, ex, g, q⟩
  subst ex
  obtain rfl : v = Value.ref a := rx
  exact d_notIn (by omega) I g ry fun s3 I3 => ⟨.bl (!o.isSome), H, I3, rfl, q⟩
theorem vr_din (neg : Bool) : Vr2 X.K (rDIn neg) (gInD neg) := by
  intro Z H y x e d w Q hz ry rx eg k
  obtain ⟨o, e1, rfl⟩ := Option.map_eq_some_iff.mp eg
  obtain ⟨a, o', e2, g, m⟩ := dLook_rp (k := 0) rx ry e1
  refine ⟨a, o', e2, g, ?_⟩
  have : o'.isSome = o.isSome := by
    cases o with
    | none =>
      have m : o' = none := m
      rw [m]
      rfl
    | some x => obtain ⟨u, e3, _⟩ := m; rw [e3]; rfl
  rw [this]
  exact Gr.q k (.bl _ _)
/-! ### d[k] -/
def rDIx : R2 := fun x y H Q => ∃ a v, x = .ref a ∧ DGet H a y (some v) ∧ Q v H
theorem ix_dict (hu : X.A.units + 64 < cLine) : IxR X rDIx := by
  intro value slice pins s σ H x y v u Q I rx ry ⟨a, w, ex, g, q⟩ hs
  subst ex
  obtain rfl : v = Value.ref a := rx
  unfold subscriptTail
  refine wpAny_bind ?_
  rw [getitemInPython_of_ne (dict_typeIs I g).not_modules]
  refine wpAny_bind (wpAny_specialOf (dict_typeIs I g) PySem.F.slot_dict_getitem.lookup ?_)
  have fin : wpAny (model X.prog X.w) X.A (subscripted slice false (.ref a) u) (fun r s₃ => wpAny (model X.prog X.w) X.A (letTemporaryGo value (.ref a) r >>= fun _ => pure r) (EP X pins σ Q) X.xe s₃) X.xe s := by
    rw [hs]
    exact wpAny_operating (d_getItem (by omega) I g ry fun w' s' I' rw' => wpAny_bind (wpAny_letTemporaryGo (wpAny_pure ⟨w, H, I', rw', q⟩)))
  first
    | exact wpAny_pure (wpAny_bind fin)
    | exact wpAny_bind (wpAny_pure (wpAny_bind fin))
    | exact wpAny_bind fin
def ixd (i : Nat) (fb : Ev) : Ev := fun sd => match sd[i]? with
  | some (some _) => (fb sd).bind fun y sd1 => match sd1[i]? with
    | some (some (d, k)) => match dLook d y.1 with
      | some (some e) => .ok (e, 0) (sd1.set i (some (d, min k 1)))
      | _ => .stuck
    | _ => .stuck
  | _ => .stuck
theorem se_ixd (i : Nat) {x : Str} {px : Pos} {b : Expr} {fb : Ev} (hu : X.A.units + 64 < cLine) (hb : SE X W b fb) (hs : PlainIx b := by exact fun _ _ => rfl) (hN : X.N[i]? = some x := by rfl) (hv : Vis X.env.scope x := by first | exact Or.inl rfl | exact Or.inr (Or.inl rfl) | exact Or.inr (Or.inr rfl))
    (hd : (x == ("__debug__" : Str)) = false := by decide) (hcd : (x == ("__classdict__" : Str)) = false := by decide) : SE X W (.Subscript (.Name x px) b pos) (ixd i fb) := by
  refine PE.imp (pe_ix (ix_dict hu) (pe_var hN hv hd hcd) hb hs) fun σ H Q ⟨Z, F, sd, ok, h⟩ => ?_
  unfold ixd at h
  split at h
  · rename_i w0 e0
    obtain ⟨v, e1⟩ := ok.slot e0
    refine ⟨v, e1, ?_⟩
    refine eP.seq (G := fun _ _ => True) ok (fun w1 sd1 e2 y Z1 H1 ry ok1 x1 => ?_) (fun x sd1 e2 => ?_) (fun e2 => ?_)
    · rw [e2, R.bind_ok] at h
      split at h
      · rename_i d k e3
        split at h
        · rename_i e eg
          obtain ⟨v', Z2, q1, e4, r2, nd2, nf2, ok2, z12, fz⟩ := ok1.open1 e3
          rw [e1] at e4
          cases e4
          have ry2 : Rp X.K Z2 H1 y w1.1 0 [] := ry.keep (fun a z => ⟨z12 a z, rfl⟩) fun a m => absurd m List.not_mem_nil
          obtain ⟨a, o, ea, g, u, eo, ru⟩ := dLook_rp r2 ry2 eg
          subst eo
          refine ⟨a, u, ea, g, ?_⟩
          have ok3 := ok2.back r2 nd2 nf2 e1
          rw [List.set_set] at ok3
          exact h.pure (x1.trans ⟨fun a z => ⟨z12 a z, rfl⟩, fun _ _ => rfl⟩) ok3 ru
        · exact h.elim
      · exact h.elim
    · rw [e2] at h; exact h
    · rw [e2] at h; exact h
  · exact h.elim
/-! ### a new dict -/
def dNew : Ev := fun sd => .ok (.dct [] [], 1) sd
def dNewT : Ev := fun sd => .ok (.dcT [] [], 1) sd
theorem se_dnew : SE X W (.Dict [] [] pos) dNew := PE.imp pe_dnewK fun σ H Q ⟨Z, F, sd, ok, h⟩ => fun p hp => by
  obtain ⟨ok1, x1, nf, nz⟩ := ok.new (o := .dK []) hp
  exact h (.ref p) Z _ [p] (.dctS (ks := []) (xs := []) (o := []) upd_same rfl (.nil 0)) (by simp) (fun a m => by rw [List.mem_singleton] at m; rw [m]; exact nf) ok1 x1
theorem se_dnewT : SE X W (.Dict [] [] pos) dNewT := PE.imp pe_dnewT fun σ H Q ⟨Z, F, sd, ok, h⟩ => fun p hp => by
  obtain ⟨ok1, x1, nf, nz⟩ := ok.new (o := .dT []) hp
  exact h (.ref p) Z _ [p] (.dcTS (ks := []) (xs := []) (o := []) upd_same rfl (.nil 0)) (by simp) (fun a m => by rw [List.mem_singleton] at m; rw [m]; exact nf) ok1 x1
end
/-! ### d[k] = v -/
theorem dPut_rp {K : PySem.W.Frag} {Z : Pz} {H : Hp} {v y u : V} {d e x d' : D} {p : List Addr} (r : Rp K Z H v d 1 p) (ry : Rp K Z H y e 0 []) (ru : Rp K Z H u x 0 []) (eg : dPutD d e x = some d') :
    ∃ a ho, v = .ref a ∧ p = [a] ∧ DPut H a y u (upd H a ho) ∧ ((∀ b, Z b → Z b ∧ upd H a ho b = H b) → Rp K Z (upd H a ho) (.ref a) d' 1 [a]) := by
  generalize e1 : (1 : Nat) = k at r
  cases r <;> simp only [dPutD, reduceCtorEq] at eg
  · cases e1
  · rename_i a ks xs ds k2 o h hl ra
    have : k2 = 0 := by omega
    subst this
    cases ra.nil0
    obtain ⟨k', e2, e3⟩ := Option.bind_eq_some_iff.mp eg
    split at e3
    case isFalse => cases e3
    rename_i hz
    cases e3
    have := keyOf_rp ry e2
    subst this
    obtain ⟨q1, q2⟩ := put_eq hl k' u
    refine ⟨a, .dK (putK (ks.zip xs) k' u), rfl, rfl, .k h (by rw [List.length_zip, hl, Nat.min_self, ← hl]; exact hz), fun kz => ?_⟩
    rw [q1]
    exact .dctS (o := []) upd_same q2 ((dVals_rp hl ra k' ru).keep (fun b z => by have := kz b z; rw [q1] at this; exact this) fun b m => absurd m List.not_mem_nil)
  · cases e1
  · rename_i a ks xs ds k2 o h hl ra
    have : k2 = 0 := by omega
    subst this
    cases ra.nil0
    obtain ⟨k', e2, e3⟩ := Option.bind_eq_some_iff.mp eg
    split at e3
    case isFalse => cases e3
    rename_i hz
    cases e3
    obtain ⟨b, rfl, hb⟩ := keyT_rp ry e2
    obtain ⟨q1, q2⟩ := put_eq hl k' u
    refine ⟨a, .dT (putK (ks.zip xs) k' u), rfl, rfl, .t h hb (by rw [List.length_zip, hl, Nat.min_self, ← hl]; exact hz), fun kz => ?_⟩
    rw [q1]
    exact .dcTS (o := []) upd_same q2 ((dVals_rp hl ra k' ru).keep (fun b z => by have := kz b z; rw [q1] at this; exact this) fun b m => absurd m List.not_mem_nil)
def zPutD (i : Nat) (fi f : Ev) : Sm := fun sd => (f sd).run fun w sd1 => match sd1[i]? with
  | some (some _) => (fi sd1).run fun y sd2 => match sd2[i]? with
    | some (some (d, 1)) => match dPutD d y.1 w.1 with
      | some d' => .nx (sd2.set i (some (d', 1)))
      | none => .stuck
    | _ => .stuck
  | _ => .stuck
section
variable {X : Cx} {W : WX} {pos p q : Pos} {a b c : Expr} {fa fb : Ev} {ps : List Nat}
theorem ss_putd (i : Nat) {x : Str} {px tp : Pos} (hu : X.A.units + 64 < cLine) (hb : SE X W b fb) (he : SE X W a fa) (hN : X.N[i]? = some x := by rfl) (hv : Vis X.env.scope x := by first | exact Or.inl rfl | exact Or.inr (Or.inl rfl) | exact Or.inr (Or.inr rfl)) (hd : (x == ("__debug__" : Str)) = false := by decide) (hcd : (x == ("__classdict__" : Str)) = false := by decide)
    (hs : swapsWith a (some (.Subscript (.Name x px) b tp)) pos.line X.env = pure false := by rfl) : SSp ps X W (.Assign [.Subscript (.Name x px) b tp] a pos) (zPutD i fb fa) := by
  refine PS.imp (ps_dput (by omega) (pe_var hN hv hd hcd) hb he hs) fun D σ H ⟨Z, F, sd, ok, h⟩ => ?_
  unfold zPutD at h
  refine eP.seq (G := fun _ _ => True) ok (fun w sd1 e y Z1 H1 r ok1 x1 => ?_) (fun x sd1 e => ?_) (fun e => ?_)
  · rw [e, R.run_ok] at h
    split at h
    · rename_i w0 e0
      obtain ⟨v, e1⟩ := ok1.slot e0
      refine ⟨v, e1, ?_⟩
      refine eP.seq (G := fun _ _ => True) ok1 (fun w2 sd2 e2 y2 Z2 H2 r2 ok2 x2 => ?_) (fun x sd1 e => ?_) (fun e => ?_)
      · rw [e2, R.run_ok] at h
        split at h
        · rename_i d e3
          split at h
          · rename_i d' ed
            obtain ⟨v', q, e4, rr, nd, nf, ok3⟩ := ok2.take e3
            rw [e1] at e4
            cases e4
            have r' : Rp X.K Z2 H2 y w.1 0 [] := r.keep x2.z fun a m => absurd m List.not_mem_nil
            obtain ⟨l, ho, rfl, rfl, dp, rn⟩ := dPut_rp rr r2 r' ed
            refine ⟨l, _, rfl, dp, ?_⟩
            obtain ⟨ok4, kz⟩ := ok3.write (o := ho) (p := l) (.inr List.mem_cons_self)
            have ok5 := ok4.back (rn kz) (by simp) nf e1
            rw [List.set_set] at ok5
            refine h σ Z2 _ .refl ok5 ((x1.trans x2).trans ⟨kz, fun a f => upd_ne fun e => ?_⟩)
            rw [e] at f
            exact nf l List.mem_cons_self f
          · exact h.elim
        · exact h.elim
      · rw [e] at h; exact (h σ .refl).go0 x1
      · rw [e] at h; exact h
    · exact h.elim
  · rw [e] at h; exact h σ .refl
  · rw [e] at h; exact h
end
/-! ### {k: v} -/
def dDisp (fk fv : Ev) : Ev := fun sd => (fk sd).bind fun k sd1 => (fv sd1).bind fun v sd2 => match keyOf k.1 with
  | some kk => .ok (.dct [kk] [v.1], 1) sd2
  | none => .stuck
section
variable {X : Cx} {W : WX} {pos p q : Pos} {a b c : Expr} {fa fb : Ev} {ps : List Nat}
theorem se_ddisp (hk : SE X W a fa) (hv : SE X W b fb) : SE X W (.Dict [some a] [b] pos) (dDisp fa fb) := by
  refine PE.imp (pe_disp (pps_cons hk hv pps_nil) rfl rfl (by simp) (show (1 : Nat) ≤ 15 by decide)) fun σ H Q ⟨Z, F, sd, ok, h⟩ => fun p hp => ?_
  obtain ⟨ok1, x1, nf, nz⟩ := ok.new (o := .dK []) hp
  unfold dDisp at h
  refine eP.seq (G := fun _ _ => True) ok1 (fun k sd1 e1 y Z1 H1 rk ok2 x2 => ?_) (fun x sd1 e => ?_) (fun e => ?_)
  · rw [e1, R.bind_ok] at h
    refine eP.seq (G := fun _ _ => True) ok2 (fun v sd2 e2 u Z2 H2 rv ok3 x3 => ?_) (fun x sd1 e => ?_) (fun e => ?_)
    · rw [e2, R.bind_ok] at h
      split at h
      · rename_i kk ek
        have hp2 : H2 p = some (.dK []) := by
          rw [(x2.trans x3).f p (.inr List.mem_cons_self)]
          exact upd_same
        have rk2 : Rp X.K Z2 H2 y k.1 0 [] := rk.keep x3.z fun a m => absurd m List.not_mem_nil
        have := keyOf_rp rk2 ek
        subst this
        refine ⟨hp2, [(kk, u)], rfl, by simp, ?_⟩
        obtain ⟨ok4, kz⟩ := ok3.write (o := .dK (mergeK [] [(kk, u)])) (p := p) (.inr List.mem_cons_self)
        have rv2 : Rp X.K Z2 (upd H2 p (.dK (mergeK [] [(kk, u)]))) u v.1 0 [] := rv.keep kz fun a m => absurd m List.not_mem_nil
        refine h (.ref p) Z2 _ [p] (.dctS (ks := [kk]) (xs := [u]) (o := []) upd_same rfl (.cons (o := []) (p := []) rv2 (.nil 0))) (by simp) (fun a m => by rw [List.mem_singleton] at m; rw [m]; exact nf) ok4 ?_
        refine ⟨fun a z => ?_, fun a f => ?_⟩
        · have z2 := ((x1.trans (x2.mono fun _ z => .inl z)).trans (x3.mono fun _ z => .inl z)).z a z
          exact ⟨z2.1, by rw [(kz a z2.1).2]; exact z2.2⟩
        · have e : a ≠ p := fun e => nf (e ▸ f)
          rw [upd_ne e]
          exact ((x1.trans (x2.mono fun _ z => .inl z)).trans (x3.mono fun _ z => .inl z)).f a f
      · exact h.elim
    · rw [e] at h
      exact excP.go h (x1.trans (x2.mono fun _ z => .inl z))
    · rw [e] at h; exact h
  · rw [e] at h
    exact excP.go h x1
  · rw [e] at h; exact h
end
end VS
/-! VS18: reversed, zip. -/
namespace VS
open PySem PySem.Spec L2
section
variable {K : PySem.W.Frag} {Z : Pz} {H : Hp}
theorem ItOk.revT {a : Addr} {xs : List V} {ds : List D} (z : Z a) (h : H a = some (.tup xs)) (r : RpAll K Z H xs ds 0 []) : ItOk K (RT.ItvT K a xs.length) ds.reverse Z H := by
  intro i Z2 H2 st hz
  obtain ⟨z2, e2⟩ := st a z
  have h2 : SqT K H2 a xs := .of (e2.trans h)
  have rr := r.rev
  refine ⟨fun hi => ?_, fun d hd => ?_⟩
  · rw [List.length_reverse] at hi
    show xs.length ≤ i
    rw [r.length]; exact hi
  · obtain ⟨v, hv, rv⟩ := rr.get hd
    obtain ⟨hi, _⟩ := List.getElem?_eq_some_iff.mp hv
    rw [List.length_reverse] at hi
    rw [List.getElem?_reverse hi] at hv
    refine ⟨⟨hi, xs, v, h2, hv⟩, fun x H' y => ?_⟩
    obtain ⟨e, y⟩ := y
    subst e
    have := y xs h2
    rw [hv] at this
    cases this
    exact ⟨Z2, .refl, rv.keep st fun a m => absurd m List.not_mem_nil⟩
theorem ItOk.zipG {J : It} {Sq : Hp → Addr → List V → Prop} {a b : Addr} {xs ys : List V} {ds es : List D} (za : Z a) (zb : Z b) (ha : ∀ H', H' a = H a → Sq H' a xs) (hb : ∀ H', H' b = H b → Sq H' b ys) (ra : RpAll K Z H xs ds 0 []) (rb : RpAll K Z H ys es 0 [])
    (hgo : ∀ i H, (∃ (xs ys : List V) (x y : V), Sq H a xs ∧ Sq H b ys ∧ xs[i]? = some x ∧ ys[i]? = some y) → J.go i H)
    (hy : ∀ i H v H', J.yld i H v H' → ∃ T x y, v = .ref T ∧ H T = none ∧ H' = upd H T (.tup [x, y]) ∧ (∀ xs, Sq H a xs → xs[i]? = some x) ∧ ∀ ys, Sq H b ys → ys[i]? = some y)
    (hs : ∀ i H, (∃ xs ys : List V, Sq H a xs ∧ Sq H b ys ∧ (xs.length ≤ i ∨ ys.length ≤ i)) → J.stop i H) : ItOk K J ((ds.zip es).map fun p => .tup [p.1, p.2]) Z H := by
  intro i Z2 H2 st hz
  obtain ⟨z2, e2⟩ := st a za
  obtain ⟨z3, e3⟩ := st b zb
  have h2 := ha H2 e2
  have h3 := hb H2 e3
  refine ⟨fun hi => hs i H2 ⟨xs, ys, h2, h3, ?_⟩, fun d hd => ?_⟩
  · rw [List.length_map, List.length_zip] at hi
    rw [ra.length, rb.length]
    omega
  · rw [List.getElem?_map] at hd
    obtain ⟨p, hp, rfl⟩ := Option.map_eq_some_iff.mp hd
    rw [List.getElem?_zip_eq_some] at hp
    obtain ⟨x, hx, rx⟩ := ra.get hp.1
    obtain ⟨y, hy', ry⟩ := rb.get hp.2
    refine ⟨hgo i H2 ⟨xs, ys, x, y, h2, h3, hx, hy'⟩, fun v H' yy => ?_⟩
    obtain ⟨T, x', y', ev, hT, eH, f1, f2⟩ := hy i H2 v H' yy
    subst ev eH
    have q1 := f1 xs h2
    rw [hx] at q1; cases q1
    have q2 := f2 ys h3
    rw [hy'] at q2; cases q2
    have nz : ¬ Z2 T := fun z => by
      obtain ⟨u, e⟩ := hz T z
      rw [hT] at e; cases e
    have kz : ∀ a, Z a → uni Z2 [T] a ∧ upd H2 T (.tup [x, y]) a = H a := fun a z => by
      obtain ⟨s1, s2⟩ := st a z
      exact ⟨.inl s1, by rw [upd_ne fun e : a = T => nz (by rw [← e]; exact s1)]; exact s2⟩
    refine ⟨uni Z2 [T], ⟨fun a u e => by rw [upd_ne fun z => by rw [z, hT] at e; cases e]; exact e, fun _ z => .inl z, fun a z => ?_, fun a m => absurd m List.not_mem_nil, .nil⟩, .tup 0 (.inr List.mem_cons_self) upd_same ?_⟩
    · rcases z with z | z
      · exact .inl z
      · rw [List.mem_singleton] at z
        subst z
        exact .inr ⟨hT, _, upd_same⟩
    · exact .cons (o := []) (p := []) (rx.keep kz fun a m => absurd m List.not_mem_nil) (.cons (o := []) (p := []) (ry.keep kz fun a m => absurd m List.not_mem_nil) (.nil 0))
end
section
variable {X : Cx} {W : WX} {pos p q : Pos} {tg a b : Expr} {fa fb : Ev}
theorem si_rev (ha : SE X W a fa) (hg : Gl X "reversed") (hm : X.mg "reversed" = none) (hst : starEach [a] X.env = (false, eval a X.env) :: starEach [] X.env := by rfl) :
    SI X W tg (.Call (.Name "reversed" p) [a] [] pos) (iRev' fa) := by
  refine ⟨fun pins s σ H R' I ⟨Z, F, sd, ok, h⟩ => ?_⟩
  unfold iRev' at h
  refine (RT.pi_revA hg hm ha hst).run pins s σ H R' I ?_
  refine eP.seq (G := fun _ _ => True) ok (fun w1 sd1' e1 y Z1 H1 ry ok1 x1 => ?_) (fun x sd1 e2 => ?_) (fun e2 => ?_)
  · rw [e1, R.bind_ok] at h
    obtain ⟨d, n⟩ := w1
    generalize e0 : ([] : List Addr) = o0 at ry
    cases ry <;> try exact h.elim
    · rename_i z hh r
      exact ⟨_, _, rfl, .inr ⟨.of hh, h _ Z1 H1 (ItOk.revT z hh r) ok1 x1⟩⟩
    · rename_i z hh r
      exact ⟨_, _, rfl, .inl ⟨.of hh, h _ Z1 H1 (ItOk.revL z hh r) ok1 x1⟩⟩
  · rw [e2] at h; exact h
  · rw [e2] at h; exact h.elim
def gTupRev : D → Option (D × Nat)
  | .lst ds => some (.tup ds.reverse, 0)
  | _ => none
theorem se_tupRev (hc : X.calm = true) (ha : SE X W a fa) (hg : Gl X "tuple") (hm : X.mg "tuple" = none) (hg2 : Gl X "reversed") (hm2 : X.mg "reversed" = none) {p2 pos2 : Pos} (hst : starEach [a] X.env = (false, eval a X.env) :: starEach [] X.env := by rfl)
    (hs2 : starEach [.Call (.Name "reversed" p2) [a] [] pos2] X.env = (false, eval (.Call (.Name "reversed" p2) [a] [] pos2) X.env) :: starEach [] X.env := by rfl) :
    SE X W (.Call (.Name "tuple" p) [.Call (.Name "reversed" p2) [a] [] pos2] [] pos) (op1 gTupRev fa) := by
  refine PE.imp (RT.pe_tupRev hc hg hm hg2 hm2 ha hst hs2) fun σ H Q ⟨Z, F, sd, ok, h⟩ => ?_
  unfold op1 at h
  refine eP.seq (G := fun _ _ => True) ok (fun w1 sd1' e1 y Z1 H1 ry ok1 x1 => ?_) (fun x sd1 e2 => ?_) (fun e2 => ?_)
  · rw [e1, R.bind_ok] at h
    obtain ⟨d, n⟩ := w1
    generalize e0 : ([] : List Addr) = o0 at ry
    cases ry <;> try exact h.elim
    rename_i a' xs ds z hh r
    refine ⟨_, _, rfl, .of hh, fun q hq => ?_⟩
    obtain ⟨ok2, x2, nf, nz⟩ := ok1.new (o := .tup xs.reverse) hq
    have ok3 := ok2.freeze (p := [q]) fun a m => by rw [List.mem_singleton] at m; rw [m]; exact nf
    have hz : ∀ a, Z1 a → uni Z1 [q] a ∧ upd H1 q (.tup xs.reverse) a = H1 a := fun a z => ⟨.inl z, (x2.z a z).2⟩
    exact h _ (uni Z1 [q]) _ [] (.tup 0 (.inr List.mem_cons_self) upd_same (r.rev.keep hz fun a m => absurd m List.not_mem_nil)) .nil (fun a m => absurd m List.not_mem_nil) ok3.unnil (x1.trans ⟨hz, x2.f⟩)
  · rw [e2] at h; exact h
  · rw [e2] at h; exact h.elim
def iZip' (f g : Ev) : Ei := fun sd => (f sd).bind fun x sd1 => (g sd1).bind fun y sd2 => match x.1, y.1 with
  | .lst ds, .lst es => .ok ((ds.zip es).map fun p => .tup [p.1, p.2]) sd2
  | .tup ds, .tup es => .ok ((ds.zip es).map fun p => .tup [p.1, p.2]) sd2
  | _, _ => .stuck
theorem si_zip {elts : List Expr} {kk : Nat} {tpos : Pos} (ha : SE X W a fa) (hb : SE X W b fb) (hg : Gl X "zip") (hm : X.mg "zip" = none) (hst : starEach [a, b] X.env = (false, eval a X.env) :: starEach [b] X.env := by rfl) (hst2 : starEach [b] X.env = (false, eval b X.env) :: starEach [] X.env := by rfl)
    (hpl : (backTo pos (starEach [b] X.env)).any (·.1) = false := by rfl) : SI X W (.Tuple elts kk tpos) (.Call (.Name "zip" p) [a, b] [] pos) (iZip' fa fb) := by
  refine ⟨fun pins s σ H R' I ⟨Z, F, sd, ok, h⟩ => ?_⟩
  unfold iZip' at h
  refine (RZ.pi_zipA hg hm (pa_cons ha (pa_cons hb pa_nil hst2) hst) hst hpl).run pins s σ H R' I ?_
  refine eP.seq (G := fun _ _ => True) ok (fun w1 sd1 e1 y Z1 H1 ry ok1 x1 => ?_) (fun x sd1 e2 => ?_) (fun e2 => ?_)
  · rw [e1, R.bind_ok] at h
    refine eP.seq (G := fun _ _ => True) ok1 (fun w2 sd2 e2 u Z2 H2 ru ok2 x2 => ?_) (fun x sd1 e2 => ?_) (fun e2 => ?_)
    · rw [e2, R.bind_ok] at h
      obtain ⟨d, n⟩ := w1
      obtain ⟨e, m⟩ := w2
      have ry2 : Rp X.K Z2 H2 y d 0 [] := ry.keep x2.z fun a m => absurd m List.not_mem_nil
      generalize e0 : ([] : List Addr) = o0 at ry2 ru
      cases ry2 <;> try exact h.elim
      · rename_i a1 xs ds z hh r
        cases ru <;> try exact h.elim
        rename_i a2 ys es z' hh' r'
        refine ⟨_, _, xs, ys, rfl, .inr ⟨.of hh, .of hh', h _ Z2 H2 ?_ ok2 (x1.trans x2)⟩⟩
        exact ItOk.zipG (Sq := fun H a xs => SqT X.K H a xs) z z' (fun H' e => .of (e.trans hh)) (fun H' e => .of (e.trans hh')) r r' (fun i H h => h) (fun i H v H' h => h) fun i H h => h
      · rename_i a1 xs ds z hh r
        cases ru <;> try exact h.elim
        rename_i a2 ys es z' hh' r'
        refine ⟨_, _, xs, ys, rfl, .inl ⟨.of hh, .of hh', h _ Z2 H2 ?_ ok2 (x1.trans x2)⟩⟩
        exact ItOk.zipG (Sq := fun H a xs => SqL X.K H a xs) z z' (fun H' e => .of (e.trans hh)) (fun H' e => .of (e.trans hh')) r r' (fun i H h => h) (fun i H v H' h => h) fun i H h => h
    · rw [e2] at h; exact excP.go0 h x1
    · rw [e2] at h; exact h.elim
  · rw [e2] at h; exact h
  · rw [e2] at h; exact h.elim
end
def gLstRg : D → Option (D × Nat)
  | .int n => if 0 ≤ n ∧ n ≤ 1000000 then some (.lst (rngD 0 n.toNat), 1) else none
  | _ => none
theorem rngD_rp {K : PySem.W.Frag} {Z : Pz} {H : Hp} (n : Int) (h : 0 ≤ n) : RpAll K Z H (rgV 0 n) (rngD 0 n.toNat) 0 [] := by
  unfold rgV rngD
  rw [Int.sub_zero]
  generalize n.toNat = m
  generalize List.range m = l
  induction l with
  | nil => exact .nil 0
  | cons a l ih => exact .cons (o := []) (p := []) (.int _ _) ih
section
variable {X : Cx} {W : WX} {pos p q : Pos} {tg a b : Expr} {fa fb : Ev}
theorem se_listRg (hc : X.calm = true) (ha : SE X W a fa) (hg : Gl X "list") (hm : X.mg "list" = none) (hg2 : Gl X "range") (hm2 : X.mg "range" = none) {p2 pos2 : Pos} (hst : starEach [a] X.env = (false, eval a X.env) :: starEach [] X.env := by rfl)
    (hs2 : starEach [.Call (.Name "range" p2) [a] [] pos2] X.env = (false, eval (.Call (.Name "range" p2) [a] [] pos2) X.env) :: starEach [] X.env := by rfl) :
    SE X W (.Call (.Name "list" p) [.Call (.Name "range" p2) [a] [] pos2] [] pos) (op1 gLstRg fa) := by
  refine PE.imp (pe_listRg hc hg hm (prg_1 hg2 hm2 ha hst) hs2) fun σ H Q ⟨Z, F, sd, ok, h⟩ => ?_
  unfold op1 at h
  refine eP.seq (G := fun _ _ => True) ok (fun w1 sd1' e1 y Z1 H1 ry ok1 x1 => ?_) (fun x sd1 e2 => ?_) (fun e2 => ?_)
  · rw [e1, R.bind_ok] at h
    obtain ⟨d, n⟩ := w1
    generalize e0 : ([] : List Addr) = o0 at ry
    cases ry <;> try exact h.elim
    rename_i j
    dsimp only [gLstRg] at h
    split at h
    case isFalse => exact h.elim
    rename_i hj
    refine ⟨j, rfl, .of_le (by omega) (by omega) (by omega) (by omega), fun q hq => ?_⟩
    obtain ⟨ok2, x2, nf, nz⟩ := ok1.new (o := .lst (rgV 0 j)) hq
    exact h _ Z1 _ [q] (.lstS (o := []) upd_same (rngD_rp j hj.1)) (by simp) (fun a m => by rw [List.mem_singleton] at m; rw [m]; exact nf) ok2 (x1.trans x2)
  · rw [e2] at h; exact h
  · rw [e2] at h; exact h.elim
end
end VS
/-! VS19: defs with defaults; defs that call themselves. -/
namespace VS
open PySem PySem.Spec L2
open PyProof.Rows (envOfC)
def IsFnD (K : PySem.W.Frag) (mg : Mg) (x : Str) (st : Stmt) (dvs : List V) : Prop := ∃ f fd, mg x = some (.ref f) ∧ FunD K x x (defArgs st) (defBody st) (defScope st) dvs [] f fd
section
variable {P : Program} {w : World} {K : PySem.W.Frag} {mg : Mg} {base : Heap}
theorem fn_okD {x : Str} {st : Stmt} {f : Addr} {fd : FuncData} {N ps : List Str} {k : Nat} {body : Sm} {dvs : List V} (Fu : FunD K x x (defArgs st) (defBody st) (defScope st) dvs [] f fd) (S : FnScope N ps (defScope st))
    (hbody : ∀ (cdv : Value) (A : Around) (outer : List Env) (s : Shared) (H : Hp) (E : XK), Room k (A.deeper (envOfC x (defScope st) s.heap.objs.size f cdv)) →
      SSs (cxOf (L2.CX P w) P w K mg base N x (defScope st) f cdv A outer s H E) (fun c d _ H' => E c d H') (defBody st) body) : FnOk P w K mg base (L2.CX P w) (k + 1) f fd ps (spF K mg ps.length (fnOf N.length body)) := by
  refine Fu.ok S (fun vs H Q E h => ?_) (fun cdv A outer s H vs Q E hr h => ⟨_, hbody cdv A outer s H E hr, ?_⟩)
  · obtain ⟨_, _, _, _, h, _⟩ := h
    exact h
  · obtain ⟨Z, F, ws, o, hl, s0, nd, nf, b, h⟩ := h
    have hlen : vs.length = ws.length := by
      have := s0.length
      simpa using this
    refine ⟨Z, F, ws.map some ++ List.replicate (N.length - ws.length) none, ⟨o, ?_, nd, nf, b⟩, ?_⟩
    · unfold L2.start
      rw [hlen]
      exact s0.fill _
    · unfold fnOf at h
      cases e : body (ws.map some ++ List.replicate (N.length - ws.length) none) with
      | nx sd1 =>
        rw [e] at h
        exact fun σ' Z' H' _ ok x => h .non Z' H' [] (.non _) .nil (fun _ m => absurd m List.not_mem_nil) ok.unnil.base x
      | rt w1 sd1 =>
        rw [e] at h
        exact fun v Z' H' o' σ' _ r nd nf ok x => h v Z' H' o' r nd nf ok.base x
      | ex y sd1 =>
        rw [e] at h
        exact fun σ' _ c dd Z' H' a ok x => h c dd Z' H' a ok.base x
      | bk sd1 => rw [e] at h; exact h.elim
      | ct sd1 => rw [e] at h; exact h.elim
      | stuck => rw [e] at h; exact h.elim
/-- a def with defaults, called with n values: the defaults behind the first j fill up -/
theorem def_okD {x : Str} {st : Stmt} {N ps : List Str} {k : Nat} {body : Sm} {dvs : List V} (n j : Nat) (dfl : List D) (hd : dvs ≠ []) (hn : n + (dvs.length - j) = ps.length) (hr : ∀ Z H, RpAll K Z H (dvs.drop j) dfl 0 []) (hf : IsFnD K mg x st dvs) (S : FnScope N ps (defScope st))
    (hb : ∀ (T : Addr) (kV doc pm : Value) (an : Option Addr) (cdv ct : Value) (us its : List Value), us.length = n → its.length = dvs.length →
      ∃ k, bindArgs (PySem.W.fnOf x x (defArgs st) (defBody st) (defScope st) (.ref T) kV doc pm an cdv ct) ⟨us, []⟩ = seqItems? (.ref T) >>= k ∧ k (some its.toArray) = pure (ps.zip (us ++ its.drop j)))
    (hbody : ∀ (f : Addr) (cdv : Value) (A : Around) (outer : List Env) (s : Shared) (H : Hp) (E : XK), Cg (cxD P w K mg base N x st f cdv A outer s H E) (wxD E) k →
      SSs (cxD P w K mg base N x st f cdv A outer s H E) (wxD E) (defBody st) body) : Def P w K mg base x (k + 1) ps.length dfl (fnOf N.length body) := by
  obtain ⟨f, fd, h1, Fu⟩ := hf
  obtain ⟨ds, r, b⟩ := Fu.binds1 n j hd hn hb
  exact ⟨f, fd, ps, dvs.drop j, ds, h1, Fu.kp, b, r, hr, fn_okD Fu S fun cdv A outer s H E hr => hbody f cdv A outer s H E (cg_of S.nd hr)⟩
/-- nothing is promised -/
theorem ss_stuckAll {X : Cx} {W : WX} {ps : List Nat} {sts : List Stmt} : SSsp ps X W sts (fun _ => .stuck) := ⟨fun pins s σ H D I ⟨Z, F, sd, ok, h⟩ => h.elim⟩
end
/-- a def that calls itself, at most n deep -/
def fuelF (N : Nat) (body : Fn → Sm) : Nat → Fn
  | 0 => fnOf N fun _ => .stuck
  | n + 1 => fnOf N (body (fuelF N body n))
section
variable {P : Program} {w : World} {K : PySem.W.Frag} {mg : Mg} {base : Heap}
theorem def_okR {x : Str} {st : Stmt} {N ps : List Str} {k : Nat} {body : Fn → Sm} (hf : IsFn K mg x st) (S : FnScope N ps (defScope st))
    (hb : ∀ (kV doc pm : Value) (an : Option Addr) (cdv ct : Value) (us : List Value), us.length = ps.length → bindArgs (PySem.W.fnOf x x (defArgs st) (defBody st) (defScope st) .none kV doc pm an cdv ct) ⟨us, []⟩ = pure (ps.zip us))
    (hbody : ∀ (n : Nat) (me : Fn), Def P w K mg base x (k + 1 + n) ps.length [] me → ∀ (f : Addr) (cdv : Value) (A : Around) (outer : List Env) (s : Shared) (H : Hp) (E : XK), Cg (cxD P w K mg base N x st f cdv A outer s H E) (wxD E) (k + 1 + n) →
      SSs (cxD P w K mg base N x st f cdv A outer s H E) (wxD E) (defBody st) (body me)) (n : Nat) : Def P w K mg base x (k + 1 + n) ps.length [] (fuelF N.length body n) := by
  induction n with
  | zero => exact def_ok hf S hb fun f cdv A outer s H E C => ss_stuckAll
  | succ n ih => exact def_ok hf S hb fun f cdv A outer s H E C => hbody n _ ih f cdv A outer s H E C
end
end VS
namespace VS
open PySem PySem.Spec L2
open PyProof.Rows (envOfC)
section
variable {P : Program} {w : World} {K : PySem.W.Frag} {mg : Mg} {base : Heap}
/-- a def that gives its arguments ios back -/
theorem def_okO {x : Str} {st : Stmt} {N ps : List Str} {k : Nat} {body : Sm} (ios : List Nat) (hnd : ios.Nodup) (hio : ∀ i ∈ ios, i < ps.length) (hf : IsFn K mg x st) (S : FnScope N ps (defScope st))
    (hb : ∀ (kV doc pm : Value) (an : Option Addr) (cdv ct : Value) (us : List Value), us.length = ps.length → bindArgs (PySem.W.fnOf x x (defArgs st) (defBody st) (defScope st) .none kV doc pm an cdv ct) ⟨us, []⟩ = pure (ps.zip us))
    (hbody : ∀ (f : Addr) (cdv : Value) (A : Around) (outer : List Env) (s : Shared) (H : Hp) (E : XK), Cg (cxD P w K mg base N x st f cdv A outer s H E) (wxD E) k →
      SSsp ios (cxD P w K mg base N x st f cdv A outer s H E) (wxD E) (defBody st) body) : DefO P w K mg base x (k + 1) ps.length ios [] (fnIO N.length ios body) := by
  obtain ⟨f, fd, h1, Fu⟩ := hf
  exact ⟨f, fd, ps, [], [], h1, Fu.kp, Fu.binds hb, .nil, fun _ _ => .nil 0, fnIO_ok ios hnd hio Fu S fun cdv A outer s H E hr => hbody f cdv A outer s H E (cg_of S.nd hr)⟩
end
end VS
/-! VS20: list(reversed(a list)). -/
namespace RT
open PySem PySem.Spec PyProof.Rows L2
section
variable {prog : Program} {w : World} {A : Around} {E : Value → Shared → Prop} {s : Shared}
theorem ext_rev {R : Result → Shared → Prop} {it l : Addr} {items : Array Value} (hh : A.handled = none) (hit1 : s.heap.IsRevIter it l ((items.size : Int) - 1)) (hl1 : s.heap.IsList l items) (hne : l ≠ it) (hn : items.size ≤ sizeLine)
    (S : Addr) (hSi : S ≠ it) (hSl : S ≠ l) (c₀ : Nat) (hS₁ : s.heap.get? S = some { cls := .type "list", data := .seq #[] c₀ })
    (hR : ∀ h' tk acc' c', (∀ b o, b ≠ S → b ≠ it → s.heap.get? b = some o → h'.get? b = some o) → h'.get? S = some { cls := .type "list", dict := none, data := .seq acc' c', slots := #[] } →
      ItemsOf (fun i v => items[items.size - 1 - i]? = some v) acc' items.size → R (.ok (.ret .none)) { s with heap := h', toks := tk }) :
    wpAny (model prog w) A.in1 (Builtin.List.listExtendWith (.ref S) (.ref it) .none)
      (fun fin s' => match fin with | .done f => R (.ok f) s' | .again c' => c'.quiet = true ∧ codeAny (model prog w) A c' R s') (fun e s' => R (.error e) s') s := by
  have W := (Walks.listRev (prog := prog) (w := w) (A := A.in1) hh it l hne items).toS
  have hSf : S ∉ [it, l] := by simp only [List.mem_cons, List.not_mem_nil, or_false, not_or]; exact ⟨hSi, hSl⟩
  have hT : s.TypeIs (.ref it) "list_reverseiterator" := hit1.typeIs
  have h1 : Builtin.List.listSameRef (.ref S) (.ref it) = false := by simp [Builtin.List.listSameRef, hSi]
  unfold Builtin.List.listExtendWith
  refine wpAny_bind (wpAny_typeOf hT ?_)
  rw [if_neg (by rw [h1]; decide)]
  refine wpAny_bind (wpAny_pyIter_revIter hit1 ?_)
  refine wpAny_bind (wpAny_holding ?_)
  unfold Builtin.List.listLengthHint
  refine wpAny_bind (wpAny_specialOf hT nolen_lri ?_)
  show wpAny _ A.in1 (specialOf (Value.ref it) (Str.ofString "__length_hint__") >>= _) _ _ _
  refine wpAny_bind (wpAny_specialOf hT hint_lri ?_)
  generalize hid : ("list_reverseiterator.__length_hint__" : String) = id0
  wp_delta
  rw [show splitId id0 = some ("list_reverseiterator", "__length_hint__") from by subst hid; decide +kernel]
  subst hid
  refine wpAny_bind (wpAny_isInstance (b := true) hT (by rw [isSubtype_type]; kernel_rfl) ?_)
  refine wpAny_pure ?_
  rw [if_neg (by decide)]
  have e0 : ((items.size : Nat) : Int) - 1 - ((0 : Nat) : Int) = (items.size : Int) - 1 := by omega
  refine wpAny_pure ⟨plainId_quiet F.plain_extend_loop _, codeAny_extend_loopS W hn _ hSf _ items.size 0 _ _ _ rfl (Nat.zero_le _) ⟨Nat.zero_le _, by rw [e0]; exact hit1, hl1⟩ hS₁ (ItemsOf.nil _) fun s' acc' c' hm hS' hacc => ?_⟩
  rw [Moved.eq_with hm]
  refine hR s'.heap s'.toks acc' c' (fun b o hb hb2 e => hm.heap b o (fun hmem => ?_) e) hS' hacc
  rcases List.mem_cons.mp hmem with e' | hmem
  · exact hb e'
  · exact hb2 (List.mem_singleton.mp hmem)
theorem init_rev {R : Result → Shared → Prop} {it l : Addr} {items : Array Value} (hh : A.handled = none) (hit : s.heap.IsRevIter it l ((items.size : Int) - 1)) (hl : s.heap.IsList l items) (hne : l ≠ it) (hn : items.size ≤ sizeLine)
    (S : Addr) (hSi : S ≠ it) (hSl : S ≠ l) (hS : s.heap.get? S = some { cls := .type "list", data := .seq #[] })
    (hR : ∀ h' tk acc' c', (∀ b o, b ≠ S → b ≠ it → s.heap.get? b = some o → h'.get? b = some o) → h'.get? S = some { cls := .type "list", dict := none, data := .seq acc' c', slots := #[] } →
      ItemsOf (fun i v => items[items.size - 1 - i]? = some v) acc' items.size → R (.ok (.ret .none)) { s with heap := h', toks := tk }) :
    wpAny (model prog w) A.in1 (Builtin.«list.__init__» ⟨[.ref S, .ref it], []⟩)
      (fun fin s' => match fin with | .done f => R (.ok f) s' | .again c' => c'.quiet = true ∧ codeAny (model prog w) A c' R s') (fun e s' => R (.error e) s') s := by
  show wpAny _ _ (do let old ← Builtin.List.listItems (.ref S); Builtin.List.listUpdate (.ref S) (fun _ => #[]); letGo old.toList.reverse; Builtin.List.listExtendWith (.ref S) (.ref it) .none) _ _ s
  refine wpAny_bind ?_
  unfold Builtin.List.listItems
  refine wpAny_bind (wpAny_seqItems hS rfl (wpAny_pure ?_))
  show wpAny _ _ (updateSeq S (fun _ => #[]) >>= fun _ => letGo (#[] : Array Value).toList.reverse >>= fun _ => Builtin.List.listExtendWith (.ref S) (.ref it) .none) _ _ s
  refine wpAny_bind (wpAny_updateSeq hS rfl ?_)
  have hS₂ := Heap.get?_update_self (Obj.mapSeq (fun _ => (#[] : Array Value))) hS rfl
  have oth : ∀ b o, b ≠ S → s.heap.get? b = some o → (s.heap.update S (Obj.mapSeq (fun _ => (#[] : Array Value)))).get? b = some o := fun b o hb e => (Heap.get?_update_other _ _ (Ne.symm hb)).trans e
  refine wpAny_bind (wpAny_letGo ?_)
  refine ext_rev (s := { s with heap := s.heap.update S (Obj.mapSeq (fun _ => (#[] : Array Value))) }) hh (hit.at fun o e => oth it o (Ne.symm hSi) e) ?_ hne hn S hSi hSl _ hS₂ fun h' tk acc' c' hk hS' hacc => ?_
  · obtain ⟨o, e, c⟩ := hl
    exact ⟨o, oth l o (Ne.symm hSl) e, c⟩
  · exact hR h' tk acc' c' (fun b o hb hb2 e => hk b o hb hb2 (oth b o hb e)) hS' hacc
theorem call_list_rev {Q : Value → Shared → Prop} {it l : Addr} {items : Array Value} (hh : A.handled = none) (hit : s.heap.IsRevIter it l ((items.size : Int) - 1)) (hl : s.heap.IsList l items) (hne : l ≠ it) (hn : items.size ≤ sizeLine)
    (hQ : ∀ h' tk acc' c', (∀ b o, b ≠ it → s.heap.get? b = some o → h'.get? b = some o) → h'.get? s.heap.objs.size = some { cls := .type "list", dict := none, data := .seq acc' c', slots := #[] } →
      ItemsOf (fun i v => items[items.size - 1 - i]? = some v) acc' items.size → Q (.ref s.heap.objs.size) { s with heap := h', toks := tk }) :
    wpAny (model prog w) A (call (.type "list") [.ref it]) Q E s := by
  refine callType_codes (Q₁ := fun obj s₁ => obj = .ref s.heap.objs.size ∧ s₁ = { s with heap := s.heap.push { cls := .type "list", data := .seq #[] } }) F.called_list (F.typeCall_list_1 _) F.entry_list_init (code_list_new _ ⟨rfl, rfl⟩) fun obj s₁ h₁ => ?_
  obtain ⟨rfl, rfl⟩ := h₁
  have hS : (s.heap.push { cls := .type "list", data := .seq #[] }).get? s.heap.objs.size = some { cls := .type "list", data := .seq #[] } := Heap.get?_push_size _ rfl
  obtain ⟨oi, hoi, _⟩ := id hit
  obtain ⟨ol, hol, _⟩ := id hl
  refine ⟨⟨_, hS, rfl⟩, F.args_list_init_2 _ _, init_rev (A := A.in1) (s := { s with heap := s.heap.push { cls := .type "list", data := .seq #[] } }) hh (hit.at fun o e => Heap.get?_push_of_some _ e) (hl.push _) hne hn _ (Nat.ne_of_gt (Heap.lt_size hoi)) (Nat.ne_of_gt (Heap.lt_size hol)) hS fun h' tk acc' c' hk hS' hacc => ?_⟩
  exact ⟨rfl, hQ h' tk acc' c' (fun b o hb e => hk b o (Nat.ne_of_lt (Heap.lt_size e)) hb (Heap.get?_push_of_some _ e)) hS' hacc⟩
end
end RT
namespace RT
open PySem PySem.Spec PyProof.Rows L2
section
variable {X : Cx}
def tLstRev (K : PySem.W.Frag) (te : TE) : TE := fun σ H Q => te σ H fun v H1 => ∃ (a : Addr) (xs : List V), v = .ref a ∧ SqL K H1 a xs ∧ ∀ q, H1 q = none → Q (.ref q) (upd H1 q (.lst xs.reverse))
theorem pe_lstRev {e : Expr} {te : TE} {p p2 pos pos2 : Pos} (hc : X.calm = true) (hg : Gl X "list") (hm : X.mg "list" = none) (hg2 : Gl X "reversed") (hm2 : X.mg "reversed" = none) (he : PE X e te)
    (hs : starEach [e] X.env = (false, eval e X.env) :: starEach [] X.env := by rfl) (hs2 : starEach [.Call (.Name "reversed" p2) [e] [] pos2] X.env = (false, eval (.Call (.Name "reversed" p2) [e] [] pos2) X.env) :: starEach [] X.env := by rfl) :
    PE X (.Call (.Name "list" p) [.Call (.Name "reversed" p2) [e] [] pos2] [] pos) (tLstRev X.K te) := by
  refine ⟨fun pins s σ H Q I h => ?_⟩
  refine Call_ (ld_blt I hg hm boot_list (PyProof.Rows.callWith_type1 (args_cons (Call_ (ld_blt I hg2 hm2 PyProof.Rows.boot_reversed (PyProof.Rows.callWith_type1 (args_cons (thn (he.run pins s σ H _ I h) fun u s1 ⟨v, H1, I1, r1, q1⟩ => args_nil ?_) hs) hs rfl))) hs2) hs2 rfl))
  obtain ⟨a, xs, ev, hq, q⟩ := q1
  subst ev
  obtain rfl : u = Value.ref a := r1
  obtain ⟨its, rv, p', hz⟩ := I1.list hq
  refine call_reversed_list p'.isList (args_nil ?_)
  have hl := p'.isList
  obtain ⟨ol, hol, _⟩ := id hl
  have hne : a ≠ s1.heap.objs.size := Nat.ne_of_lt (Heap.lt_size hol)
  have hn : its.toArray.size ≤ sizeLine := by rw [List.size_toArray, ← rv.length]; exact hz
  refine call_list_rev (s := { s1 with heap := s1.heap.push (revObj a ((its.toArray.size : Int) - 1)) }) (I1.ok.hd hc) ⟨_, Heap.get?_push_size _ rfl, rfl, rfl⟩ (hl.push _) hne hn fun h' tk acc c' hk e' hi => ?_
  have hsz : s1.heap.objs.size ≤ (s1.heap.push (revObj a ((its.toArray.size : Int) - 1))).objs.size := by
    show s1.heap.objs.size ≤ (s1.heap.objs.push _).size
    rw [Array.size_push]
    exact Nat.le_succ _
  have hk' : ∀ b o, s1.heap.get? b = some o → h'.get? b = some o := fun b o e => hk b o (Nat.ne_of_lt (Heap.lt_size e)) (Heap.get?_push_of_some _ e)
  refine ⟨.ref (s1.heap.push (revObj a ((its.toArray.size : Int) - 1))).objs.size, upd H1 (s1.heap.push (revObj a ((its.toArray.size : Int) - 1))).objs.size (.lst xs.reverse), I1.laid (t' := tk) hk' hsz (show ObjOk X.prog X.w _ _ _ (.lst xs.reverse) from ⟨by rw [List.length_reverse]; exact hz, acc.toList, c', vals_rev rv hi, ?_⟩), rfl, q _ (I1.hok.fresh hsz)⟩
  rw [Array.toArray_toList]
  exact e'
end
end RT
namespace VS
open PySem PySem.Spec L2
def gLstRev : D → Option (D × Nat)
  | .lst ds => some (.lst ds.reverse, 1)
  | _ => none
section
variable {X : Cx} {W : WX} {pos p q : Pos} {tg a b : Expr} {fa fb : Ev}
theorem se_lstRev (hc : X.calm = true) (ha : SE X W a fa) (hg : Gl X "list") (hm : X.mg "list" = none) (hg2 : Gl X "reversed") (hm2 : X.mg "reversed" = none) {p2 pos2 : Pos} (hst : starEach [a] X.env = (false, eval a X.env) :: starEach [] X.env := by rfl)
    (hs2 : starEach [.Call (.Name "reversed" p2) [a] [] pos2] X.env = (false, eval (.Call (.Name "reversed" p2) [a] [] pos2) X.env) :: starEach [] X.env := by rfl) :
    SE X W (.Call (.Name "list" p) [.Call (.Name "reversed" p2) [a] [] pos2] [] pos) (op1 gLstRev fa) := by
  refine PE.imp (RT.pe_lstRev hc hg hm hg2 hm2 ha hst hs2) fun σ H Q ⟨Z, F, sd, ok, h⟩ => ?_
  unfold op1 at h
  refine eP.seq (G := fun _ _ => True) ok (fun w1 sd1' e1 y Z1 H1 ry ok1 x1 => ?_) (fun x sd1 e2 => ?_) (fun e2 => ?_)
  · rw [e1, R.bind_ok] at h
    obtain ⟨d, n⟩ := w1
    generalize e0 : ([] : List Addr) = o0 at ry
    cases ry <;> try exact h.elim
    rename_i a' xs ds z hh r
    refine ⟨_, _, rfl, .of hh, fun q hq => ?_⟩
    obtain ⟨ok2, x2, nf, nz⟩ := ok1.new (o := .lst xs.reverse) hq
    exact h _ Z1 _ [q] (.lstS (o := []) upd_same (r.rev.keep x2.z fun a m => absurd m List.not_mem_nil)) (by simp) (fun a m => by rw [List.mem_singleton] at m; rw [m]; exact nf) ok2 (x1.trans x2)
  · rw [e2] at h; exact h
  · rw [e2] at h; exact h.elim
end
end VS
/-! VS21: an entry that has a name of its own for a while. -/
namespace VS
open PySem PySem.Spec L2
theorem execs_app (l1 l2 : List Stmt) (env : Env) : execs (l1 ++ l2) env = (execs l1 env >>= fun f => match f with
    | .next => execs l2 env
    | f => pure f) := by
  have hc : ∀ (s : Stmt) (r : List Stmt), execs (s :: r) env = (exec s env >>= fun f => match f with
    | .next => execs r env
    | f => pure f) := fun s r => by
    rw [execs]
    congr
  induction l1 with
  | nil =>
    rw [List.nil_append]
    show _ = ((pure Flow.next : Sem Flow) >>= _)
    rw [pure_bind]
  | cons s r ih =>
    rw [List.cons_append, hc, hc, bind_assoc]
    congr 1
    funext f
    cases f with
    | next => exact ih
    | _ => simp only [pure_bind]
theorem pss_app {X : Cx} {l1 l2 : List Stmt} {t u : TS} (h1 : PSs X l1 t) (h2 : PSs X l2 u) : PSs X (l1 ++ l2) (tSeq t u) := by
  refine ⟨fun pins s σ H D I h => ?_⟩
  rw [execs_app]
  refine wpAny_bind (thn (h1.run pins s σ H { D with nx := u D } I h) fun f s1 q => ?_)
  cases f with
  | next =>
    obtain ⟨σ', H', I', q⟩ := q
    exact h2.run pins s1 σ' H' D I' q
  | ret v => exact wpAny_pure q
  | brk => exact wpAny_pure q
  | cont => exact wpAny_pure q
section
variable {K : PySem.W.Frag} {Z : Pz} {H : Hp}
theorem RpAll.split {xs : List V} {ds : List D} {k : Nat} {o : List Addr} (r : RpAll K Z H xs ds k o) : ∀ {n : Nat} {d : D}, ds[n]? = some d → ∃ v o1 p o2, xs[n]? = some v ∧ o = o1 ++ (p ++ o2) ∧ Rp K Z H v d k p ∧
    ∀ (Z' : Pz) (H' : Hp) (d' : D) (p' : List Addr), (∀ a, Z a → Z' a ∧ H' a = H a) → (∀ a, a ∈ o1 ∨ a ∈ o2 → H' a = H a) → Rp K Z' H' v d' k p' → RpAll K Z' H' xs (ds.set n d') k (o1 ++ (p' ++ o2)) := by
  induction xs generalizing ds o with
  | nil =>
    intro n d e
    have := r.length
    cases ds with
    | nil => cases e
    | cons _ _ => cases this
  | cons v xs ih =>
    intro n d e
    cases r with
    | @cons _ d0 _ ds' _ o1 o2 r1 r2 =>
      cases n with
      | zero =>
        cases e
        refine ⟨v, [], o1, o2, rfl, rfl, r1, fun Z' H' d' p' hz ho rv => ?_⟩
        exact RpAll.cons (o := p') (p := o2) rv (r2.keep hz fun a m => ho a (.inr m))
      | succ n =>
        obtain ⟨u, q1, p, q2, e1, e2, e3, e4⟩ := ih r2 e
        refine ⟨u, o1 ++ q1, p, q2, e1, by rw [e2, List.append_assoc], e3, fun Z' H' d' p' hz ho rv => ?_⟩
        rw [List.append_assoc]
        exact .cons (r1.keep hz fun a m => ho a (.inl (List.mem_append_left _ m))) (e4 Z' H' d' p' hz (fun a m => ho a (m.elim (fun m => .inl (List.mem_append_right _ m)) .inr)) rv)
end
/-- b = t[e]; then a block that changes b alone -/
def zAli (ib it : Nat) (fe : Ev) (f : Sm) : Sm := fun sd => match sd[it]? with
  | some (some _) => (fe sd).run fun y sd1 => match sd1[it]?, y.1 with
    | some (some (.lst ds, k + 1)), .int j => match L2.ixN ds.length j with
      | some n => match ds[n]? with
        | some d => match f ((sd1.set it none).set ib (some (d, k))) with
          | .nx sd3 => match sd3[ib]? with
            | some (some (d', k')) => if k' = k then .nx ((sd3.set ib none).set it (some (.lst (ds.set n d'), k + 1))) else .stuck
            | _ => .stuck
          | _ => .stuck
        | none => .stuck
      | none => .stuck
    | _, _ => .stuck
  | _ => .stuck
section
variable {X : Cx} {W : WX} {pos p q : Pos} {a b c : Expr} {fa fb : Ev} {ps : List Nat}
theorem ss_ali (ib it : Nat) {x y : Str} {py px sp : Pos} {e : Expr} {fe : Ev} {blk tail : List Stmt} {f g : Sm} (hne : ib ≠ it) (hN : X.N.Nodup) (hb : SE X W e fe) (hblk : SSsp (it :: ib :: ps) X W blk f) (htail : SSsp ps X W tail g)
    (hi : X.N[ib]? = some y := by rfl) (hx : Loc X.env.scope y := by first | exact Or.inl rfl | exact Or.inr rfl) (hNt : X.N[it]? = some x := by rfl) (hv : Vis X.env.scope x := by first | exact Or.inl rfl | exact Or.inr (Or.inl rfl) | exact Or.inr (Or.inr rfl))
    (hd : (x == ("__debug__" : Str)) = false := by decide) (hcd : (x == ("__classdict__" : Str)) = false := by decide) (hs : swapsWith (.Subscript (.Name x px) e sp) (some (.Name y py)) pos.line X.env = pure false := by rfl)
    (hf : X.fn y = true ∨ X.env.scope.names.lookup y = some .local := by first | exact .inl rfl | exact .inr rfl) (hsl : PlainIx e := by exact fun _ _ => rfl) (hp : ib ∉ ps := by first | exact List.not_mem_nil | decide) :
    SSsp ps X W (.Assign [.Name y py] (.Subscript (.Name x px) e sp) pos :: (blk ++ tail)) (zSeq (zAli ib it fe f) g) := by
  refine PSs.imp (pss_cons (ps_set hN hi hx (pe_ix ix_seq (pe_var hNt hv hd hcd) hb hsl) hs hf) (pss_app hblk htail)) fun D σ H ⟨Z, F, sd, ok, h⟩ => ?_
  unfold zSeq zAli at h
  split at h
  case h_2 => exact h.elim
  rename_i w0 e0
  obtain ⟨v, e1⟩ := ok.slot e0
  refine ⟨v, e1, ?_⟩
  refine eP.seq (G := fun _ _ => True) ok (fun w1 sd1 e2 u Z1 H1 ru ok1 x1 => ?_) (fun x sd1 e2 => ?_) (fun e2 => ?_)
  · rw [e2, R.run_ok] at h
    split at h
    case h_2 => exact h.elim
    rename_i ds k j e3 ej
    rw [ej] at ru
    cases ru
    split at h
    case h_2 => exact h.elim
    rename_i n en
    split at h
    case h_2 => exact h.elim
    rename_i d ed
    obtain ⟨v', o, e4, r, nd, nf, ok2⟩ := ok1.take e3
    rw [e1] at e4
    cases e4
    generalize hdl : VS.D.lst ds = dl at r
    generalize hk1 : k + 1 = k1 at r
    cases r <;> (try (first | cases hdl | cases hk1)) <;> try (cases hk1; done)
    · rename_i la xs o2 hh ra
      obtain ⟨u, o3, pn, o4, q1, q2, q3, q4⟩ := ra.split ed
      subst q2
      have hat : L2.atI xs j = some u := by
        unfold L2.atI
        rw [ra.length, en]
        exact q1
      refine .inl ⟨la, xs, j, u, rfl, rfl, .of hh, hat, ?_⟩
      obtain ⟨n1, n2⟩ := List.nodup_cons.mp nd
      obtain ⟨n3, n4, n5⟩ := List.nodup_append.mp n2
      obtain ⟨n6, n7, n8⟩ := List.nodup_append.mp n4
      have okS := Ok.store (i := ib) (F := uni F (la :: (o3 ++ o4))) (p := pn) (ok2.less fun a z => by
        rcases z with (z | z) | z
        · exact .inl z
        · rcases List.mem_cons.mp z with z | z
          · rw [z]; exact .inr List.mem_cons_self
          · refine .inr (List.mem_cons_of_mem _ ?_)
            rcases List.mem_append.mp z with z | z
            · exact List.mem_append_left _ z
            · exact List.mem_append_right _ (List.mem_append_right _ z)
        · exact .inr (List.mem_cons_of_mem _ (List.mem_append_right _ (List.mem_append_left _ z)))) q3 n6 (fun a m z => by
        rcases z with z | z
        · exact nf a (List.mem_cons_of_mem _ (List.mem_append_right _ (List.mem_append_left _ m))) z
        · rcases List.mem_cons.mp z with z | z
          · rw [z] at m
            exact n1 (List.mem_append_right _ (List.mem_append_left _ m))
          · rcases List.mem_append.mp z with z | z
            · exact n5 a z a (List.mem_append_left _ m) rfl
            · exact n8 a m a z rfl)
      refine ⟨Z1, uni F (la :: (o3 ++ o4)), _, okS, ?_⟩
      cases ef : f ((sd1.set it none).set ib (some (d, k))) with
      | nx sd3 =>
        rw [ef] at h
        dsimp only at h
        intro σ' Z' H' pin ok' x'
        split at h
        case h_2 => exact h.elim
        rename_i d' k' e5
        split at h
        case isFalse => exact h.elim
        rename_i hkk
        subst hkk
        obtain ⟨v2, p', e6, r', nd', nf', ok3⟩ := ok'.take e5
        have hib : ib < σ.length := by
          have q := pin ib (List.mem_cons_of_mem _ List.mem_cons_self)
          rw [e6] at q
          have := (List.getElem?_eq_some_iff.mp q.symm).1
          rw [List.length_set] at this
          exact this
        have hb2 : σ'[ib]? = some (some u) := by
          rw [pin ib (List.mem_cons_of_mem _ List.mem_cons_self), List.getElem?_set_self hib]
        rw [hb2] at e6
        cases e6
        have ht2 : σ'[it]? = some (some (.ref la)) := by
          rw [pin it List.mem_cons_self, List.getElem?_set_ne hne]
          exact e1
        have hcell : H' la = some (.lst xs) := by
          rw [x'.f la (.inr List.mem_cons_self)]
          exact hh
        have rA := q4 Z' H' d' p' x'.z (fun a m => x'.f a (.inr (List.mem_cons_of_mem _ (List.mem_append.mpr m)))) r'
        have ok4 := Ok.back (F := F) (p := la :: (o3 ++ (p' ++ o4))) (ok3.less fun a z => by
          rcases z with z | z
          · exact .inl (.inl z)
          · rcases List.mem_cons.mp z with z | z
            · rw [z]; exact .inl (.inr List.mem_cons_self)
            · rcases List.mem_append.mp z with z | z
              · exact .inl (.inr (List.mem_cons_of_mem _ (List.mem_append_left _ z)))
              · rcases List.mem_append.mp z with z | z
                · exact .inr z
                · exact .inl (.inr (List.mem_cons_of_mem _ (List.mem_append_right _ z)))) (.lstS hcell rA) ?_ ?_ ht2
        · refine ⟨Z', F, _, ok4, ?_⟩
          exact h.go (x1.trans (x'.mono fun _ z => .inl z)) fun i m => by
            rw [pin i (List.mem_cons_of_mem _ (List.mem_cons_of_mem _ m)), List.getElem?_set_ne fun e : ib = i => hp (by rw [e]; exact m)]
        · have np : ∀ a ∈ p', a ∉ la :: (o3 ++ o4) := fun a m z => nf' a m (.inr z)
          refine List.nodup_cons.mpr ⟨fun m => ?_, List.nodup_append.mpr ⟨n3, List.nodup_append.mpr ⟨nd', n7, fun a ha b hb e => np a ha ?_⟩, fun a ha b hb e => ?_⟩⟩
          · rcases List.mem_append.mp m with m | m
            · exact n1 (List.mem_append_left _ m)
            · rcases List.mem_append.mp m with m | m
              · exact np la m List.mem_cons_self
              · exact n1 (List.mem_append_right _ (List.mem_append_right _ m))
          · rw [e]; exact List.mem_cons_of_mem _ (List.mem_append_right _ hb)
          · rcases List.mem_append.mp hb with m | m
            · exact np b m (by rw [← e]; exact List.mem_cons_of_mem _ (List.mem_append_left _ ha))
            · exact n5 a ha b (List.mem_append_right _ m) e
        · intro a m z
          rcases List.mem_cons.mp m with m | m
          · rw [m] at z
            exact nf la List.mem_cons_self z
          · rcases List.mem_append.mp m with m | m
            · exact nf a (List.mem_cons_of_mem _ (List.mem_append_left _ m)) z
            · rcases List.mem_append.mp m with m | m
              · exact nf' a m (.inl z)
              · exact nf a (List.mem_cons_of_mem _ (List.mem_append_right _ (List.mem_append_right _ m))) z
      | rt w sd3 => rw [ef] at h; exact h.elim
      | bk sd3 => rw [ef] at h; exact h.elim
      | ct sd3 => rw [ef] at h; exact h.elim
      | ex x sd3 => rw [ef] at h; exact h.elim
      | stuck => rw [ef] at h; exact h.elim
  · rw [e2] at h; exact h σ .refl
  · rw [e2] at h; exact h
end
end VS
/-! VS22: x.pop(e). -/
namespace VS
open PySem PySem.Spec L2
theorem RpAll.erase {K : PySem.W.Frag} {Z : Pz} {H : Hp} {xs : List V} {ds : List D} (h : RpAll K Z H xs ds 0 []) (n : Nat) : RpAll K Z H (xs.eraseIdx n) (ds.eraseIdx n) 0 [] := by
  induction xs generalizing ds n with
  | nil =>
    have := h.length
    cases ds with
    | nil => exact h
    | cons _ _ => cases this
  | cons v xs ih =>
    cases ds with
    | nil => have := h.length; cases this
    | cons d ds =>
      obtain ⟨r1, r2⟩ := h.uncons
      cases n with
      | zero => exact r2
      | succ n => exact .cons (o := []) (p := []) r1 (ih r2 n)
def popv (i : Nat) (fe : Ev) : Ev := fun sd => match sd[i]? with
  | some (some (.lst _, _)) => (fe sd).bind fun y sd1 => match sd1[i]?, y.1 with
    | some (some (.lst ds, 1)), .int j => if 0 ≤ j ∧ j < 2 ^ 62 then match L2.ixN ds.length j with
      | some n => match ds[n]? with
        | some d => .ok (d, 0) (sd1.set i (some (.lst (ds.eraseIdx n), 1)))
        | none => .stuck
      | none => .stuck else .stuck
    | _, _ => .stuck
  | _ => .stuck
section
variable {X : Cx} {W : WX} {pos p q : Pos} {a b c : Expr} {fa fb : Ev}
theorem se_popv (i : Nat) {x : Str} {px pa : Pos} (he : SE X W a fa) (hN : X.N[i]? = some x := by rfl) (hv : Vis X.env.scope x := by first | exact Or.inl rfl | exact Or.inr (Or.inl rfl) | exact Or.inr (Or.inr rfl)) (hd : (x == ("__debug__" : Str)) = false := by decide) (hcd : (x == ("__classdict__" : Str)) = false := by decide)
    (hbase : attributeBase (.Name x px) "pop" X.env (eval (.Name x px) X.env) = eval (.Name x px) X.env := by rfl)
    (hfew : ((backTo p (starEach [a] X.env)).all (fun x => !x.1) && (backToKw p (keywordEach [] X.env)).all (fun x => x.1.isSome)
      && decide ([a].length + ([] : List Keyword).length + (if ([] : List Keyword).isEmpty then 0 else 1) < 30)) = true := by rfl)
    (hline : (pa.endLine == p.line) = true := by rfl) (hst : starEach [a] X.env = (false, eval a X.env) :: starEach [] X.env := by rfl) (hpl : (backTo p (starEach [] X.env)).any (·.1) = false := by rfl) :
    SE X W (.Call (.Attribute (.Name x px) "pop" pa) [a] [] p) (popv i fa) := by
  refine PE.imp (pe_bm PySem.F.plainAttrs_list PySem.F.slot_list_pop PySem.F.type_list_pop mt_popAt (pe_var hN hv hd hcd) (pa_cons he pa_nil hst) hbase hfew hline hst hpl) fun σ H Q ⟨Z, F, sd, ok, h⟩ => ?_
  unfold popv at h
  split at h
  case h_2 => exact h.elim
  rename_i ds0 k0 e0
  obtain ⟨l, xs0, e1, hl0⟩ := ok.isLst e0
  refine ⟨.ref l, e1, .inl ⟨rfl, xs0, .of hl0⟩, ?_⟩
  refine eP.seq (G := fun _ _ => True) ok (fun w sd1 e y Z1 H1 r ok1 x1 => ?_) (fun x sd1 e => ?_) (fun e => ?_)
  · rw [e, R.bind_ok] at h
    split at h
    case h_2 => exact h.elim
    rename_i ds j e2 ej
    rw [ej] at r
    cases r
    split at h
    case isFalse => exact h.elim
    rename_i hj
    split at h
    case h_2 => exact h.elim
    rename_i n en
    split at h
    case h_2 => exact h.elim
    rename_i d ed
    obtain ⟨v', q, e3, rr, nd, nf, ok2⟩ := ok1.take e2
    rw [e1] at e3
    cases e3
    obtain ⟨l', xs, el, rfl, hl, ra⟩ := lst1 rr
    cases el
    obtain ⟨u, hu, ru⟩ := ra.get ed
    obtain ⟨q1, q2, q3, q4⟩ := ixN_seq (n := xs.length) (by rw [ra.length]; exact en)
    refine ⟨l, xs, j, n, u, rfl, rfl, hl, by omega, by omega, q1, hu, ?_⟩
    obtain ⟨ok3, kz⟩ := ok2.write (o := .lst (xs.eraseIdx n)) (p := l) (.inr List.mem_cons_self)
    have ok4 := ok3.back (.lstS (o := []) upd_same ((ra.erase n).keep kz fun a m => absurd m List.not_mem_nil)) (by simp) nf e1
    rw [List.set_set] at ok4
    refine h u Z1 _ [] (ru.keep kz fun a m => absurd m List.not_mem_nil) .nil (fun a m => absurd m List.not_mem_nil) ok4.unnil (x1.trans ⟨kz, fun a f => upd_ne fun e => ?_⟩)
    rw [e] at f
    exact nf l List.mem_cons_self f
  · rw [e] at h; exact h
  · rw [e] at h; exact h
/-- the same, the block told by its length -/
theorem ss_aliN {ps : List Nat} (ib it n : Nat) {x y : Str} {py px sp : Pos} {e : Expr} {fe : Ev} {rest : List Stmt} {f g : Sm} (hne : ib ≠ it) (hN : X.N.Nodup) (hb : SE X W e fe) (hblk : SSsp (it :: ib :: ps) X W (rest.take n) f) (htail : SSsp ps X W (rest.drop n) g)
    (hi : X.N[ib]? = some y := by rfl) (hx : Loc X.env.scope y := by first | exact Or.inl rfl | exact Or.inr rfl) (hNt : X.N[it]? = some x := by rfl) (hv : Vis X.env.scope x := by first | exact Or.inl rfl | exact Or.inr (Or.inl rfl) | exact Or.inr (Or.inr rfl))
    (hd : (x == ("__debug__" : Str)) = false := by decide) (hcd : (x == ("__classdict__" : Str)) = false := by decide) (hs : swapsWith (.Subscript (.Name x px) e sp) (some (.Name y py)) pos.line X.env = pure false := by rfl)
    (hf : X.fn y = true ∨ X.env.scope.names.lookup y = some .local := by first | exact .inl rfl | exact .inr rfl) (hsl : PlainIx e := by exact fun _ _ => rfl) (hp : ib ∉ ps := by first | exact List.not_mem_nil | decide) :
    SSsp ps X W (.Assign [.Name y py] (.Subscript (.Name x px) e sp) pos :: rest) (zSeq (zAli ib it fe f) g) := by
  have := ss_ali ib it hne hN hb hblk htail hi hx hNt hv hd hcd hs hf hsl hp
  rw [List.take_append_drop] at this
  exact this
end
end VS
/-! VS23: comprehensions whose entries are owned; a row's entries given up. -/
namespace VS
open PySem PySem.Spec L2
def chkJ (kk : Nat) : D × Nat → SD → R (D × Nat) := fun y sd => if y.2 = kk then .ok y sd else .stuck
@[simp] theorem chkJ_ap (kk n : Nat) (d : D) (sd : SD) : chkJ kk (d, n) sd = if n = kk then .ok (d, n) sd else .stuck := eqr rfl
/-- f, whose value has kk floors of its own -/
def chk (kk : Nat) (f : Ev) : Ev := fun sd => (f sd).bind (chkJ kk)
@[simp] theorem chk_ap (kk : Nat) (f : Ev) (sd : SD) : chk kk f sd = (f sd).bind (chkJ kk) := eqr rfl
def lcOK (kk : Nat) : D × Nat → SD → R (D × Nat) := fun w sd => .ok (w.1, kk + 1) sd
@[simp] theorem lcOK_ap (kk n : Nat) (d : D) (sd : SD) : lcOK kk (d, n) sd = .ok (d, kk + 1) sd := eqr rfl
/-- a comprehension that owns its entries -/
def lcSO (kk : Nat) (vs : List Nat) (fi : Ei) (g : Tg) (ft : Et) (fe : Ev) : Ev := fun sd => (lcS vs fi g ft (chk kk fe) sd).bind (lcOK kk)
@[simp] theorem lcSO_ap (kk : Nat) (vs : List Nat) (fi : Ei) (g : Tg) (ft : Et) (fe : Ev) (sd : SD) : lcSO kk vs fi g ft fe sd = (lcS vs fi g ft (chk kk fe) sd).bind (lcOK kk) := eqr rfl
section
variable {K : PySem.W.Frag} {mg : Mg} {W : WX} {Z Z' F : Pz} {H H' : Hp} {σ : St} {sd : SD}
theorem RpAll.appO {xs ys : List V} {ds es : List D} {k : Nat} {o p : List Addr} (h : RpAll K Z H xs ds k o) (h' : RpAll K Z H ys es k p) : RpAll K Z H (xs ++ ys) (ds ++ es) k (o ++ p) := by
  induction xs generalizing ds o with
  | nil => cases h; exact h'
  | cons x xs ih =>
    cases h with
    | cons r1 r2 =>
      rw [List.append_assoc]
      exact .cons r1 (ih r2)
/-- what stands between two turns -/
structure LcO (K : PySem.W.Frag) (Z1 F : Pz) (H1 : Hp) (Z0 : Pz) (H0 : Hp) (p : Addr) (kk : Nat) (o : List Addr) (σw : St) (sdw : SD) (accD : List D) (Z' : Pz) (H' : Hp) : Prop where
  ok : Ok K Z' (uni F (p :: o)) H' σw sdw
  ext : Ext F Z0 H0 Z' H'
  st : ∀ a, Z1 a → Z' a ∧ H' a = H1 a
  nd : (p :: o).Nodup
  nf : ∀ a ∈ p :: o, ¬ F a
  at_ : ∃ acc, H' p = some (.lst acc) ∧ RpAll K Z' H' acc accD kk o
theorem lcO_sound {kk : Nat} {vs : List Nat} {fi : Ei} {g : Tg} {ft : Et} {fe : Ev} {Q : VK} (h : tE K mg W (lcSO kk vs fi g ft fe) σ H Q) : tLc (tI K mg W fi) (gP K vs g) (tT K mg W0 ft) (tE K mg W0 fe) vs σ H Q := by
  obtain ⟨Z, F, sd, ok, h⟩ := h
  refine ⟨Z, F, sd, ok, ?_⟩
  unfold lcSO lcS at h
  cases e : fi sd with
  | stuck => rw [e] at h; exact h.elim
  | exc x sd1 => rw [e] at h; exact h
  | ok items sd1 =>
    rw [e, R.bind_ok] at h
    intro J Z1 H1 it ok1 x1 p hp
    obtain ⟨okp, xp, nFp, nZp⟩ := ok1.new (o := .lst []) hp
    refine ⟨fun i m H' => m = items.length - i ∧ i ≤ items.length ∧ ∃ Z' sd' accD o, LcO K Z1 F H1 Z H p kk o (wipe σ vs) (wp sd' vs) accD Z' H' ∧
      eP K mg W Z F σ H (((lcGo vs g ft (chk kk fe) (items.drop i) sd' accD).bind fun out sd2 => R.ok (D.lst out, 1) (wp sd2 vs)).bind (lcOK kk)) Q, ⟨_, rfl, Nat.zero_le _, Z1, sd1, [], [], ⟨okp.wipe vs, x1.trans xp, fun a z => xp.z a z, by simp, fun a m => by rw [List.mem_singleton] at m; rw [m]; exact nFp, [], upd_same, .nil kk⟩, h⟩, ?_⟩
    rintro i m H' ⟨rfl, hi, Z', sd', accD, o, I, h'⟩
    obtain ⟨hstop, hgo⟩ := it i Z' H' I.st I.ok.base.z
    obtain ⟨acc, hacc, racc⟩ := I.at_
    by_cases hlt : i < items.length
    · refine .inr ?_
      have ed : items[i]? = some items[i] := List.getElem?_eq_getElem hlt
      obtain ⟨jg, jy⟩ := hgo _ ed
      refine ⟨jg, fun H' => ∃ Z' sd' accD o, LcO K Z1 F H1 Z H p kk o (wipe σ vs) (wp sd' vs) accD Z' H' ∧ eP K mg W Z F σ H (((lcGo vs g ft (chk kk fe) (items.drop (i + 1)) sd' accD).bind fun out sd2 => R.ok (D.lst out, 1) (wp sd2 vs)).bind (lcOK kk)) Q,
        fun H' hN => ⟨items.length - (i + 1), by omega, rfl, hlt, hN⟩, fun x H2 y => ?_⟩
      obtain ⟨Z2, gr, rx⟩ := jy x H2 y
      have edrop : items.drop i = items[i] :: items.drop (i + 1) := List.drop_eq_getElem_cons hlt
      rw [edrop] at h'
      have ok2 : Ok K Z2 (uni F (p :: o)) H2 (wipe σ vs) (wp sd' vs) := (gr.ok I.ok).less fun _ z => .inl z
      have x2 : Ext (uni F (p :: o)) Z' H' Z2 H2 := gr.ext I.ok.base
      refine ⟨Z2, uni F (p :: o), wp sd' vs, items[i], ok2, rx, ?_⟩
      unfold lcGo at h'
      cases eg : g items[i] (wp sd' vs) with
      | none => rw [eg] at h'; exact h'.elim
      | some sd2 =>
        rw [eg] at h'
        intro σ2 ok3 df
        have ew : wipe σ2 vs = wipe σ vs := df.wipe.trans wipe_wipe
        refine ⟨ew, ?_⟩
        refine tP.seq ok3 (fun b sd3 e3 Z3 H3 ok4 x3 => ?_) (fun x sd3 e3 => ?_) (fun e3 => ?_)
        · have x23 := x2.trans x3
          cases b with
          | false =>
            simp only [e3] at h'
            refine ⟨Z3, sd3, accD, o, ⟨?_, I.ext.trans (x23.mono fun _ z => .inl z), fun a z => ?_, I.nd, I.nf, acc, ?_, racc.keep x23.z fun a m => x23.f a (.inr (List.mem_cons_of_mem _ m))⟩, h'⟩
            · rw [← ew]; exact ok4.wipe vs
            · have a1 := I.st a z
              have a2 := x23.z a a1.1
              exact ⟨a2.1, a2.2.trans a1.2⟩
            · rw [x23.f p (.inr List.mem_cons_self)]; exact hacc
          | true =>
            simp only [e3] at h'
            refine eP.seqO ok4 (fun w sd4 e4 v Z4 H4 o4 rv nd4 nf4 ok5 x4 => ?_) (fun x sd4 e4 => ?_) (fun e4 => ?_)
            · have e4' : chk kk fe sd3 = if w.2 = kk then .ok w sd4 else .stuck := by
                show (fe sd3).bind (chkJ kk) = _
                rw [e4]; rfl
              by_cases hk : w.2 = kk
              case neg =>
                rw [if_neg hk] at e4'
                simp only [e4'] at h'; exact h'.elim
              rw [if_pos hk] at e4'
              simp only [e4'] at h'
              rw [hk] at rv
              have x24 := x23.trans x4
              have hacc4 : H4 p = some (.lst acc) := by rw [x24.f p (.inr List.mem_cons_self)]; exact hacc
              split at h'
              · rename_i hl
                obtain ⟨okw, kw⟩ := ok5.write (o := .lst (acc ++ [v])) (p := p) (.inl (.inr List.mem_cons_self))
                have racc4 := racc.keep x24.z fun a m => x24.f a (.inr (List.mem_cons_of_mem _ m))
                obtain ⟨np, ndo⟩ := List.nodup_cons.mp I.nd
                have hpo : ∀ a ∈ o ++ o4, a ≠ p := fun a m e => by
                  subst e
                  rcases List.mem_append.mp m with m | m
                  · exact np m
                  · exact nf4 a m (.inr List.mem_cons_self)
                have rnew : RpAll K Z4 (upd H4 p (.lst (acc ++ [v]))) (acc ++ [v]) (accD ++ [w.1]) kk (o ++ o4) := by
                  have r1 := racc4.appO (RpAll.cons rv (.nil kk))
                  rw [List.append_nil] at r1
                  exact r1.keep kw fun a m => upd_ne (hpo a m)
                refine ⟨acc, hacc4, by rw [racc.length]; exact hl, Z4, sd4, accD ++ [w.1], o ++ o4, ⟨?_, ?_, fun a z => ?_, ?_, fun a m => ?_, _, upd_same, rnew⟩, h'⟩
                · rw [← ew]
                  refine (okw.wipe vs).less fun a z => ?_
                  rcases z with z | z
                  · exact .inl (.inl z)
                  · rcases List.mem_cons.mp z with z | z
                    · rw [z]; exact .inl (.inr List.mem_cons_self)
                    · rcases List.mem_append.mp z with z | z
                      · exact .inl (.inr (List.mem_cons_of_mem _ z))
                      · exact .inr z
                · refine (I.ext.trans (x24.mono fun _ z => .inl z)).trans ⟨kw, fun a f => upd_ne fun e => ?_⟩
                  rw [e] at f
                  exact nFp f
                · have a1 := I.st a z
                  have a2 := x24.z a a1.1
                  have a3 := kw a a2.1
                  exact ⟨a3.1, a3.2.trans (a2.2.trans a1.2)⟩
                · refine List.nodup_cons.mpr ⟨fun m => hpo p m rfl, List.nodup_append.mpr ⟨ndo, nd4, fun a ha b hb e => ?_⟩⟩
                  exact nf4 b hb (.inr (List.mem_cons_of_mem _ (e ▸ ha)))
                · rcases List.mem_cons.mp m with m | m
                  · rw [m]; exact nFp
                  · rcases List.mem_append.mp m with m | m
                    · exact I.nf a (List.mem_cons_of_mem _ m)
                    · exact fun z => nf4 a m (.inl z)
              · exact h'.elim
            · have e4' : chk kk fe sd3 = .exc x sd4 := by
                show (fe sd3).bind (chkJ kk) = _
                rw [e4]; rfl
              simp only [e4'] at h'; exact h'.elim
            · have e4' : chk kk fe sd3 = .stuck := by
                show (fe sd3).bind (chkJ kk) = _
                rw [e4]; rfl
              simp only [e4'] at h'; exact h'.elim
        · simp only [e3] at h'; exact h'.elim
        · simp only [e3] at h'; exact h'.elim
    · refine .inl ⟨hstop (by omega), ?_⟩
      have e0 : items.drop i = [] := List.drop_eq_nil_of_le (by omega)
      rw [e0] at h'
      exact h' (.ref p) Z' H' (p :: o) (.lstS hacc racc) I.nd I.nf I.ok.unwipe I.ext
end
section
variable {X : Cx} {W : WX} {pos : Pos} {ps : List Nat}
theorem se_lcO (kk : Nat) {elt tg iter : Expr} {ifs : List Expr} {scope : Scope} {own : List (Str × Nat)} {pos : Pos} {fi : Ei} {g : Tg} {ft : Et} {fe : Ev} (hc : X.calm = true) (hN : X.N.Nodup) (hi : SI X W tg iter fi) (ok : BlkOk X.N X.env.scope scope own)
    (hg : ∀ (s : Shared) (H : Hp) (C : Addr) (cl : List (Str × Addr)) (fp : List Addr), SG (X.blk s H scope (compEnvC scope cl C X.env) fp) (own.map (·.2)) tg g)
    (ht : ∀ (s : Shared) (H : Hp) (C : Addr) (cl : List (Str × Addr)) (fp : List Addr), PTs (X.blk s H scope (compEnvC scope cl C X.env) fp) ifs (tT X.K X.mg W0 ft))
    (he : ∀ (s : Shared) (H : Hp) (C : Addr) (cl : List (Str × Addr)) (fp : List Addr), SE (X.blk s H scope (compEnvC scope cl C X.env) fp) W0 elt fe) (hs : ∀ x, foldedSetIterable iter X.env x = pure x := by intro _; rfl) :
    SE X W (.ListComp elt [⟨tg, iter, ifs, 0⟩] scope pos) (lcSO kk (own.map (·.2)) fi g ft fe) :=
  PE.imp (pe_lc (wi := tI X.K X.mg W fi) (g := gP X.K (own.map fun x : Str × Nat => x.2) g) (tt := tT X.K X.mg W0 ft) (te := tE X.K X.mg W0 fe) hc hN hi ok hg ht he hs) fun _ _ _ h => lcO_sound h
theorem ss_setLcO (kk : Nat) (i : Nat) {y : Str} {py : Pos} {elt tg iter : Expr} {ifs : List Expr} {scope : Scope} {own : List (Str × Nat)} {spos : Pos} {fi : Ei} {gg : Tg} {ft : Et} {fe : Ev} (hc : X.calm = true) (hN : X.N.Nodup) (hy : X.N[i]? = some y) (hyl : X.env.scope.names.lookup y = some .local)
    (hsw : swapsWith (.ListComp elt [⟨tg, iter, ifs, 0⟩] scope pos) (some (.Name y py)) spos.line X.env = pure true) (hi : SI X W tg iter fi) (ok : BlkOk X.N X.env.scope scope own)
    (hg : ∀ (s : Shared) (H : Hp) (C : Addr) (cl : List (Str × Addr)) (fp : List Addr), SG (X.blk s H scope (compEnvC scope cl C X.env) fp) (own.map (·.2)) tg gg)
    (ht : ∀ (s : Shared) (H : Hp) (C : Addr) (cl : List (Str × Addr)) (fp : List Addr), PTs (X.blk s H scope (compEnvC scope cl C X.env) fp) ifs (tT X.K X.mg W0 ft))
    (he : ∀ (s : Shared) (H : Hp) (C : Addr) (cl : List (Str × Addr)) (fp : List Addr), SE (X.blk s H scope (compEnvC scope cl C X.env) fp) W0 elt fe) (hs : ∀ x, foldedSetIterable iter X.env x = pure x := by intro _; rfl) (hp : i ∉ ps := by first | exact List.not_mem_nil | decide) :
    SSp ps X W (.Assign [.Name y py] (.ListComp elt [⟨tg, iter, ifs, 0⟩] scope pos) spos) (zSet i (lcSO kk (own.map (·.2)) fi gg ft fe)) := by
  refine PS.imp (ps_setLc (wi := tI X.K X.mg W fi) (g := gP X.K (own.map fun x : Str × Nat => x.2) gg) (tt := tT X.K X.mg W0 ft) (te := tE X.K X.mg W0 fe) hc hN hy hyl hsw hi ok hg ht he hs) fun D σ H ⟨Z, F, sd, okk, h⟩ => ?_
  refine lcO_sound (kk := kk) ?_
  unfold zSet at h
  refine eP.seqO okk (fun w sd1 e v Z1 H1 o r nd nf ok1 x1 => ?_) (fun x sd1 e => ?_) (fun e => ?_)
  · rw [e, R.run_ok] at h
    exact h _ Z1 H1 (.set hp) (ok1.store r nd nf) x1
  · rw [e] at h; exact h σ .refl
  · rw [e] at h; exact h
/-- slot i keeps its first floor alone, then f -/
def zCap (i : Nat) (f : Sm) : Sm := fun sd => match sd[i]? with
  | some (some (d, k)) => f (sd.set i (some (d, min k 1)))
  | _ => .stuck
@[simp] theorem zCap_ap (i : Nat) (f : Sm) (sd : SD) : zCap i f sd = wS (gtS sd i) .stuck fun d k => f (sd.set i (some (d, min k 1))) := by
  unfold zCap gtS wS
  cases e : sd[i]? with
  | none => rfl
  | some x => rcases x with _ | ⟨d, k⟩ <;> rfl
theorem ss_cap {st : Stmt} {f : Sm} (i : Nat) (h : SSp ps X W st f) : SSp ps X W st (zCap i f) := by
  refine PS.imp h fun D σ H ⟨Z, F, sd, ok, q⟩ => ?_
  unfold zCap at q
  split at q
  · rename_i d k e
    obtain ⟨v, Z1, q1, e1, r, nd, nf, ok1, hz, hf⟩ := ok.open1 e
    have ok2 := ok1.back r nd nf e1
    rw [List.set_set] at ok2
    exact ⟨Z1, F, _, ok2, q.go ⟨fun a z => ⟨hz a z, rfl⟩, fun _ _ => rfl⟩ .refl⟩
  · exact q.elim
end
end VS
/-! VS24: sorted(d), d a dict with ints for keys. -/
namespace VS
open PySem PySem.Calls PyProof.Rows PyProof.V PySem.Spec L2
theorem paired_len {α β : Type} {F : α → β → Prop} {l₁ : List α} {l₂ : List β} (h : Paired F l₁ l₂) : l₁.length = l₂.length := by
  induction h with
  | nil => rfl
  | cons _ _ ih => rw [List.length_cons, List.length_cons, ih]
theorem paired_at {α β : Type} {F : α → β → Prop} {l₁ : List α} {l₂ : List β} (h : Paired F l₁ l₂) : ∀ {i : Nat} {y : β}, l₂[i]? = some y → ∃ x, l₁[i]? = some x ∧ F x y := by
  induction h with
  | nil => intro i y e; cases e
  | cons hf _ ih =>
    intro i y e
    cases i with
    | zero => cases e; exact ⟨_, rfl, hf⟩
    | succ i => exact ih e
def rSortedD (K : PySem.W.Frag) : List V → Hp → VK → Prop := fun vs H Q => ∃ (a : Addr) (kvs : List (Key × V)) (ns : List Int), vs = [V.ref a] ∧ Rd H a (.dK kvs) ∧ kvs.map (·.1) = ns.map .inl ∧
  ∀ (ns' : List Int) (p : Addr), ns'.Perm ns → ns'.Pairwise (· ≤ ·) → H p = none → Q (.ref p) (upd H p (.lst (ns'.map V.int)))
theorem ints_of {ns : List Int} {vs : List Value} (hl : vs.length = ns.length) (h : ∀ (i : Nat) (v : Value), vs[i]? = some v → ∃ n t, ns[i]? = some n ∧ v = .int n t) : Vals (ns.map V.int) vs := by
  induction ns generalizing vs with
  | nil =>
    cases vs with
    | nil => exact .nil
    | cons _ _ => cases hl
  | cons n ns ih =>
    cases vs with
    | nil => cases hl
    | cons v vs =>
      obtain ⟨m, t, e1, e2⟩ := h 0 v rfl
      cases e1
      exact .cons ⟨t, e2⟩ (ih (by simpa using hl) fun i v e => h (i + 1) v e)
theorem cr_sortedD {X : Cx} (hc : X.calm = true) : CallR X (.builtin "sorted") (rSortedD X.K) := by
  intro pins s σ H vs us Q I r h
  obtain ⟨a, kvs, ns, rfl, hs, hk, q⟩ := h
  rw [Vals.ref1 r]
  obtain ⟨hz, hsys, pv, rel, hD⟩ := dk_rd I.hok hs
  obtain ⟨ep, hat⟩ := hD.dictAt
  have hlen : pv.length = kvs.length := (paired_len rel).symm
  have hns : ns.length = kvs.length := by
    have := congrArg List.length hk
    rw [List.length_map, List.length_map] at this
    exact this.symm
  have hh : X.A.in1.handled = none := I.ok.hd hc
  refine call_function_entry kind_sorted plain_sorted entry_sorted (args_sorted1 _) ?_
  unfold Builtin.«sorted»
  refine wpAny_bind (m := checkCount "sorted" 1 1 _) (wpAny_pure ?_)
  refine wpAny_bind (PySem.W.kdu_collect (A := X.A.in1) (PySem.W.kdl_dict hsys) hh hat (by rw [hlen]; exact hz) fun h' tk acc hkp hacc => ?_)
  have hal : acc.toList.length = kvs.length := by rw [Array.length_toList, hacc.1, hlen]
  refine wpAny_bind (wpAny_newList ?_ (by rw [hal]; exact hz))
  have hkey : ∀ (i : Nat) (k : Key) (x : Value), pv[i]? = some (k, x) → ∃ n, ns[i]? = some n ∧ k = .inl n := fun i k x e => by
    have hi : i < ns.length := by rw [hns, ← hlen]; exact (List.getElem?_eq_some_iff.mp e).1
    obtain ⟨p, ep, er⟩ := paired_at rel e
    have e2 : (kvs.map (·.1))[i]? = some p.1 := by rw [List.getElem?_map, ep]; rfl
    rw [hk, List.getElem?_map, List.getElem?_eq_getElem hi] at e2
    refine ⟨ns[i], List.getElem?_eq_getElem hi, ?_⟩
    have e3 : p.1 = k := er.1
    rw [← e3]
    exact (Option.some.inj e2).symm
  have hV : Vals (ns.map V.int) acc.toList := ints_of (by rw [hal, hns]) fun i v e => by
    obtain ⟨k, x, e1, e2⟩ := hacc.2 i v (by rw [← Array.getElem?_toList]; exact e)
    obtain ⟨n, e3, e5⟩ := hkey i k x e1
    rcases keyIs_shape (show keyIs k v = true from e2) with ⟨j, t, rfl, e4⟩ | ⟨y, t, rfl, e4⟩
    · cases e5
      exact ⟨_, t, e3, e4⟩
    · cases e5
  have hi := hV.ints
  let hp := h'.push { cls := .type "list", data := .seq acc.toList.toArray }
  have hob : hp.get? h'.objs.size = some (seqObj "list" acc.toList.toArray 0) := Heap.get?_push_size _ rfl
  have hgone : s.heap.get? h'.objs.size = none := by
    cases e : s.heap.get? h'.objs.size with
    | none => rfl
    | some o => exact absurd (Heap.lt_size (hkp _ _ e)) (Nat.lt_irrefl _)
  have hHn : H h'.objs.size = none := I.hok.gone hgone
  refine wpAny_bind (wpAny_holding (wpAny_call_entry PyProof.Rows.slot_list_sort ⟨_, hob, rfl⟩ PyProof.Rows.entry_list_sort
    (SrtO.list_sort_ord SrtO.swo_int hob (by rw [hal]; exact hz) (fun h2 => SrtO.ints_sortable hi h2) fun out h1 h2 => ⟨.none, rfl, ?_⟩) (PyProof.Rows.args_list_sort _)))
  obtain ⟨k1, k2, k3⟩ := SrtO.ints_out hi h1 h2
  obtain ⟨ep2, he'⟩ := PyProof.Rows.sortedHeap_at (vs := acc.toList) (out := out.toArray) hob
  have hlen2 : ((out.map SrtO.iv).map V.int).length ≤ sizeLine := by
    rw [List.length_map, k2.length_eq, hns]
    exact hz
  refine wpAny_pure ⟨_, rfl, ?_⟩
  refine ⟨.ref _, upd H h'.objs.size (.lst ((out.map SrtO.iv).map V.int)), I.laidN (t' := tk) (fun b u e => ?_) hgone hHn ⟨hlen2, out, ep2, vals_of_ints k1, he'⟩, rfl, q _ _ k2 k3 hHn⟩
  have hb : b < h'.objs.size := Heap.lt_size (hkp b u e)
  rw [PyProof.Rows.sortedHeap_old (Nat.ne_of_lt hb) (by show b < hp.objs.size; rw [size_push']; exact Nat.lt_succ_of_lt hb)]
  rw [Heap.get?_push_ne _ _ _ (Nat.ne_of_lt hb)]
  exact hkp b u e
def intKs : List Key → Option (List Int)
  | [] => some []
  | .inl i :: ks => (intKs ks).map (i :: ·)
  | .inr _ :: _ => none
@[simp] theorem intKs_map (ns : List Int) : intKs (ns.map .inl) = some ns := by
  induction ns with
  | nil => rfl
  | cons n ns ih => rw [List.map_cons]; unfold intKs; rw [ih]; rfl
theorem intKs_some {ks : List Key} {ns : List Int} (h : intKs ks = some ns) : ks = ns.map .inl := by
  induction ks generalizing ns with
  | nil => cases h; rfl
  | cons d ds ih =>
    cases d with
    | inl i =>
      unfold intKs at h
      obtain ⟨a, h1, h2⟩ := Option.map_eq_some_iff.mp h
      rw [ih h1, ← h2]
      rfl
    | inr x => cases h
/-- sorted, of a dict too -/
def gSorted2 : D → Option (D × Nat)
  | .dct ks _ => (intKs ks).map fun ns => (.lst ((srtI ns).map .int), 1)
  | .lst ds => gSorted (.lst ds)
  | _ => none
@[simp] theorem gSorted2_lst (ds : List D) : gSorted2 (.lst ds) = gSorted (.lst ds) := eqr rfl
@[simp] theorem gSorted2_dct (ns : List Int) (vs : List D) : gSorted2 (.dct (ns.map .inl) vs) = some (.lst ((srtI ns).map .int), 1) := by
  show (intKs (ns.map Sum.inl)).map _ = _
  rw [intKs_map]; rfl
theorem zip_fst {α β : Type} : ∀ {l : List α} {l' : List β}, l.length = l'.length → (l.zip l').map (·.1) = l
  | [], [], _ => rfl
  | a :: l, b :: l', h => by rw [List.zip_cons_cons, List.map_cons, zip_fst (by simpa using h)]
theorem vr_sorted2 {K : PySem.W.Frag} : VrN K (fun xs H Q => (rSortedI K xs H Q ∨ rSortedPO K xs H Q) ∨ rSortedD K xs H Q) (un1 gSorted2) := by
  refine VrN.un1 fun Z H x d w Q hz rx eg k => ?_
  cases d with
  | lst ds => exact .inl (vr_sorted Z H [x] [.lst ds] w Q hz (.cons (o := []) (p := []) rx (.nil 0)) eg k)
  | dct ks vs =>
    obtain ⟨ns, e1, rfl⟩ := Option.map_eq_some_iff.mp eg
    have e2 := intKs_some e1
    subst e2
    generalize e0 : ([] : List Addr) = o0 at rx
    cases rx with
    | dct0 z h hl r =>
      refine .inr ⟨_, _, ns, rfl, .inl h, zip_fst hl, fun ns' p hp hs hn => ?_⟩
      have e2 : ns' = srtI ns := PySem.W.os_sorted_mergeSort hp hs
      subst e2
      exact k (.ref p) Z _ [p] (Gr.cell hz hn) (.lstS (o := []) upd_same (RpAll.of_ints _))
  | _ => cases eg
theorem cSorted2 {X : Cx} (hc : X.calm = true) : CallR X (.builtin "sorted") (fun xs H Q => (rSortedI X.K xs H Q ∨ rSortedPO X.K xs H Q) ∨ rSortedD X.K xs H Q) := cSorted.or (cr_sortedD hc)
end VS
/-! VS25: the second part evaluated; while. -/
namespace VS
open PySem PySem.Spec L2
instance : Inhabited D := ⟨.non⟩
/-! ### while -/
def R.frun {α : Type} (r : R α) (f : α → SD → FR) : FR := match r with
  | .ok a sd => f a sd
  | .exc x _ => .exc x
  | .stuck => .stuck
@[simp] theorem R.frun_ok {α : Type} (a : α) (sd : SD) (g : α → SD → FR) : (R.ok a sd).frun g = g a sd := eqr rfl
@[simp] theorem R.frun_exc {α : Type} (x : Exn) (sd : SD) (g : α → SD → FR) : (R.exc x sd : R α).frun g = .exc x := eqr rfl
@[simp] theorem R.frun_stuck {α : Type} (g : α → SD → FR) : (R.stuck : R α).frun g = .stuck := eqr rfl
@[simp] theorem R.frun_ite {α : Type} {c : Prop} [Decidable c] (a b : R α) (g : α → SD → FR) : (if c then a else b).frun g = if c then a.frun g else b.frun g := by split <;> rfl
def whK (ws : List Nat) (body : Sm) (K kn : SD → FR) : Bool → SD → FR := fun t sd1 => if t = true then (body sd1).fin (wpK ws K) (wpK ws kn) (wpK ws K) else kn sd1
@[simp] theorem whK_ap (ws : List Nat) (body : Sm) (K kn : SD → FR) (t : Bool) (sd1 : SD) : whK ws body K kn t sd1 = if t = true then (body sd1).fin (wpK ws K) (wpK ws kn) (wpK ws K) else kn sd1 := eqr rfl
def whT (ws : List Nat) (c : Et) (body : Sm) (S : SD) (K kn : SD → FR) : FR := (c S).frun (whK ws body K kn)
@[simp] theorem whT_ap (ws : List Nat) (c : Et) (body : Sm) (S : SD) (K kn : SD → FR) : whT ws c body S K kn = (c S).frun (whK ws body K kn) := eqr rfl
section
variable {ws : List Nat} {c : Et} {body : Sm} {kn kb kc : SD → FR}
theorem whGo_step (n : Nat) (s : SD) : (whGo ws c body (n + 1) s).fin kn kb kc = whT ws c body s (fun s => (whGo ws c body n s).fin kn kb kc) kn := by
  unfold whT whK wpK
  show O.fin ((c s).run fun b sd1 => if b then (match body sd1 with
      | .nx sd2 => whGo ws c body n (wp sd2 ws)
      | .ct sd2 => whGo ws c body n (wp sd2 ws)
      | .bk sd2 => .nx (wp sd2 ws)
      | o => o) else .nx sd1) kn kb kc = _
  cases c s with
  | stuck => rfl
  | exc x sd => rfl
  | ok t sd =>
    rw [R.run_ok, R.frun_ok]
    cases t with
    | false => rfl
    | true =>
      simp only [if_true]
      cases body sd <;> rfl
/-- a while: what holds of its state, a number that falls -/
theorem wh_inv {β : Type} (S : β → SD) (P : β → Prop) (m : β → Nat) (Q : FR → Prop) (hs : ∀ b, P b → ∀ K, (∀ b', P b' → m b' < m b → Q (K (S b'))) → Q (whT ws c body (S b) K kn)) :
    ∀ (n : Nat) (b : β), P b → m b < n → Q ((whGo ws c body n (S b)).fin kn kb kc) := by
  intro n
  induction n with
  | zero => intro b _ h; exact absurd h (Nat.not_lt_zero _)
  | succ n ih =>
    intro b hp hm
    rw [whGo_step]
    exact hs b hp _ fun b' hp' hm' => ih b' hp' (by omega)
end
@[simp] theorem zWhile_ap (n : Nat) (ws : List Nat) (c : Et) (body : Sm) (sd : SD) : zWhile n ws c body sd = whGo ws c body n sd := eqr rfl
/-! ### loops that hand no value back, told by what comes out -/
def O.lp (ws : List Nat) (o : O) : O := match o with
  | .nx sd => .nx (wp sd ws)
  | .ct sd => .nx (wp sd ws)
  | .bk _ => .stuck
  | o => o
@[simp] theorem O.lp_nx (ws : List Nat) (sd : SD) : (O.nx sd).lp ws = .nx (wp sd ws) := eqr rfl
@[simp] theorem O.lp_ct (ws : List Nat) (sd : SD) : (O.ct sd).lp ws = .nx (wp sd ws) := eqr rfl
@[simp] theorem O.lp_ite (ws : List Nat) {c : Prop} [Decidable c] (a b : O) : (if c then a else b).lp ws = if c then a.lp ws else b.lp ws := by split <;> rfl
def trnOK (body : Sm) (ws : List Nat) : SD → O := fun s => (body s).lp ws
@[simp] theorem trnOK_ap (body : Sm) (ws : List Nat) (s : SD) : trnOK body ws s = (body s).lp ws := eqr rfl
def goO (o : Option SD) (f : SD → O) : O := match o with
  | some s => f s
  | none => .stuck
@[simp] theorem goO_some (s : SD) (f : SD → O) : goO (some s) f = f s := eqr rfl
def trnO (ws : List Nat) (g : Tg) (body : Sm) (d : D) (S : SD) : O := goO (g d S) (trnOK body ws)
@[simp] theorem trnO_ap (ws : List Nat) (g : Tg) (body : Sm) (d : D) (S : SD) : trnO ws g body d S = goO (g d S) (trnOK body ws) := eqr rfl
section
variable {ws : List Nat} {g : Tg} {c : Et} {body : Sm}
theorem forO_fold {α β : Type} (enc : α → D) (S : β → SD) (P : β → Prop) (f : β → α → β) (l : List α) (b : β) (hp : P b) (h : ∀ a ∈ l, ∀ b, P b → P (f b a) ∧ trnO ws g body (enc a) (S b) = .nx (S (f b a))) :
    forGo ws g body (l.map enc) (S b) = .nx (S (l.foldl f b)) ∧ P (l.foldl f b) := by
  induction l generalizing b with
  | nil => exact ⟨rfl, hp⟩
  | cons a l ih =>
    obtain ⟨p, q⟩ := h a List.mem_cons_self b hp
    rw [List.map_cons, List.foldl_cons]
    have e : forGo ws g body (enc a :: l.map enc) (S b) = forGo ws g body (l.map enc) (S (f b a)) := by
      unfold trnO goO trnOK O.lp at q
      show (match g (enc a) (S b) with
        | none => O.stuck
        | some sd1 => match body sd1 with
          | .nx sd2 => forGo ws g body (l.map enc) (wp sd2 ws)
          | .ct sd2 => forGo ws g body (l.map enc) (wp sd2 ws)
          | .bk sd2 => .nx (wp sd2 ws)
          | o => o) = _
      cases eg : g (enc a) (S b) with
      | none => rw [eg] at q; cases q
      | some s =>
        rw [eg] at q
        dsimp only at q ⊢
        cases eb : body s with
        | nx s2 => rw [eb] at q; dsimp only at q ⊢; injection q with q; rw [q]
        | ct s2 => rw [eb] at q; dsimp only at q ⊢; injection q with q; rw [q]
        | bk s2 => rw [eb] at q; cases q
        | rt w s2 => rw [eb] at q; cases q
        | ex x s2 => rw [eb] at q; cases q
        | stuck => rw [eb] at q; cases q
    rw [e]
    exact ih _ p fun a m => h a (List.mem_cons_of_mem _ m)
def whOK (ws : List Nat) (body : Sm) : Bool → SD → O := fun t sd1 => if t = true then (body sd1).lp ws else .bk sd1
@[simp] theorem whOK_ap (ws : List Nat) (body : Sm) (t : Bool) (sd1 : SD) : whOK ws body t sd1 = if t = true then (body sd1).lp ws else .bk sd1 := eqr rfl
def whOT (ws : List Nat) (c : Et) (body : Sm) (S : SD) : O := (c S).run (whOK ws body)
@[simp] theorem whOT_ap (ws : List Nat) (c : Et) (body : Sm) (S : SD) : whOT ws c body S = (c S).run (whOK ws body) := eqr rfl
/-- a while without break: each turn ends it (bk) or goes on -/
theorem whO_inv {β : Type} (S : β → SD) (P : β → Prop) (m : β → Nat) (E : β → Prop) (hs : ∀ b, P b → (E b ∧ whOT ws c body (S b) = .bk (S b)) ∨ ∃ b', P b' ∧ m b' < m b ∧ whOT ws c body (S b) = .nx (S b')) :
    ∀ (n : Nat) (b : β), P b → m b < n → ∃ b', P b' ∧ E b' ∧ whGo ws c body n (S b) = .nx (S b') := by
  intro n
  induction n with
  | zero => intro b _ h; exact absurd h (Nat.not_lt_zero _)
  | succ n ih =>
    intro b hp hm
    have e : ∀ s, whGo ws c body (n + 1) s = (c s).run fun t sd1 => if t then (match body sd1 with
      | .nx sd2 => whGo ws c body n (wp sd2 ws)
      | .ct sd2 => whGo ws c body n (wp sd2 ws)
      | .bk sd2 => .nx (wp sd2 ws)
      | o => o) else .nx sd1 := fun _ => rfl
    rcases hs b hp with ⟨he, h⟩ | ⟨b', hp', hm', h⟩
    · refine ⟨b, hp, he, ?_⟩
      rw [e]
      unfold whOT whOK at h
      cases ec : c (S b) with
      | stuck => rw [ec] at h; cases h
      | exc x sd => rw [ec] at h; cases h
      | ok t sd =>
        rw [ec, R.run_ok] at h
        rw [R.run_ok]
        cases t with
        | false =>
          simp only [Bool.false_eq_true, if_false] at h ⊢
          injection h with h
          rw [h]
        | true =>
          simp only [if_true] at h
          unfold O.lp at h
          cases eb : body sd <;> (rw [eb] at h; cases h)
    · obtain ⟨b2, p2, e2, h2⟩ := ih b' hp' (by omega)
      refine ⟨b2, p2, e2, ?_⟩
      rw [e]
      unfold whOT whOK at h
      cases ec : c (S b) with
      | stuck => rw [ec] at h; cases h
      | exc x sd => rw [ec] at h; cases h
      | ok t sd =>
        rw [ec, R.run_ok] at h
        rw [R.run_ok]
        cases t with
        | false =>
          simp only [Bool.false_eq_true, if_false] at h
          cases h
        | true =>
          simp only [if_true] at h ⊢
          unfold O.lp at h
          cases eb : body sd with
          | nx s2 => rw [eb] at h; dsimp only at h ⊢; injection h with h; rw [h]; exact h2
          | ct s2 => rw [eb] at h; dsimp only at h ⊢; injection h with h; rw [h]; exact h2
          | bk s2 => rw [eb] at h; cases h
          | rt w s2 => rw [eb] at h; cases h
          | ex x s2 => rw [eb] at h; cases h
          | stuck => rw [eb] at h; cases h
end
/-! ### defs that give back -/
section
variable (sd : SD)
@[simp] theorem pick_nil : pick sd [] = some [] := eqr rfl
@[simp] theorem pick_cons (i : Nat) (is : List Nat) : pick sd (i :: is) = wS (gtS sd i) none fun d k => (pick sd is).map fun l => (d, k) :: l := by
  show (match gtS sd i with
    | some w => (pick sd is).map fun l => w :: l
    | none => none) = _
  unfold wS
  cases gtS sd i <;> rfl
def froR (w : D × Nat) (o : Option (List (D × Nat))) : FRO := match o with
  | some outs => .ok w outs
  | none => .stuck
@[simp] theorem froR_some (w : D × Nat) (l : List (D × Nat)) : froR w (some l) = .ok w l := eqr rfl
@[simp] theorem O.fro_rt (ios : List Nat) (w : D × Nat) : (O.rt w sd).fro ios = froR w (pick sd ios) := by
  unfold froR
  show (match pick sd ios with
    | some outs => FRO.ok w outs
    | none => .stuck) = _
  cases pick sd ios <;> rfl
@[simp] theorem O.fro_nx (ios : List Nat) : (O.nx sd).fro ios = froR (.non, 0) (pick sd ios) := by
  unfold froR
  show (match pick sd ios with
    | some outs => FRO.ok (.non, 0) outs
    | none => .stuck) = _
  cases pick sd ios <;> rfl
theorem fnIO_ap (N : Nat) (ios : List Nat) (body : Sm) (ws : List (D × Nat)) : fnIO N ios body ws = (body (fill N ws)).fro ios := rfl
def rsmK (o : Option (List (D × Nat) × SD)) (x : D × Nat) : Option (List (D × Nat) × SD) := o.map fun q => (x :: q.1, q.2)
@[simp] theorem rsmK_some (l : List (D × Nat)) (s : SD) (x : D × Nat) : rsmK (some (l, s)) x = some (x :: l, s) := eqr rfl
@[simp] theorem rsm_nil : rsm sd [] = some ([], sd) := eqr rfl
@[simp] theorem rsm_w (x : D × Nat) (r : List Ag) : rsm sd (.w x :: r) = rsmK (rsm sd r) x := eqr rfl
@[simp] theorem rsm_b (i : Nat) (r : List Ag) : rsm sd (.b i :: r) = wS (gtS sd i) none fun d k => rsmK (rsm (sd.set i none) r) (d, k) := by
  show (match gtS sd i with
    | some w => (rsm (sd.set i none) r).map fun (q : List (D × Nat) × SD) => (w :: q.1, q.2)
    | none => none) = _
  unfold wS rsmK
  cases gtS sd i <;> rfl
@[simp] theorem mSl_nil : mSl [] = [] := eqr rfl
@[simp] theorem mSl_w (x : D × Nat) (r : List Ag) : mSl (.w x :: r) = mSl r := eqr rfl
@[simp] theorem mSl_b (i : Nat) (r : List Ag) : mSl (.b i :: r) = i :: mSl r := eqr rfl
@[simp] theorem mPos_nil (n : Nat) : mPos n [] = [] := eqr rfl
@[simp] theorem mPos_w (n : Nat) (x : D × Nat) (r : List Ag) : mPos n (.w x :: r) = mPos (n + 1) r := eqr rfl
@[simp] theorem mPos_b (n i : Nat) (r : List Ag) : mPos n (.b i :: r) = n :: mPos (n + 1) r := eqr rfl
@[simp] theorem putB_nil (ws : List (D × Nat)) : putB sd [] ws = sd := eqr rfl
@[simp] theorem putB_cons (i : Nat) (is : List Nat) (w : D × Nat) (ws : List (D × Nat)) : putB sd (i :: is) (w :: ws) = putB (sd.set i (some w)) is ws := eqr rfl
@[simp] theorem outR_ok (is : List Nat) (w : D × Nat) (outs : List (D × Nat)) : outR sd is (.ok w outs) = .ok w (putB sd is outs) := eqr rfl
def calIOJ (n : Nat) (ios : List Nat) (f : FnO) (dfl : List D) (ags : List Ag) (o : Option (List (D × Nat) × SD)) : R (D × Nat) := match o with
  | some (xs, sd2) => if (xs.length + dfl.length == n && mPos 0 ags == ios) = true then outR sd2 (mSl ags) (f (xs ++ dfl.map fun d => (d, 0))) else .stuck
  | none => .stuck
@[simp] theorem calIOJ_some (n : Nat) (ios : List Nat) (f : FnO) (dfl : List D) (ags : List Ag) (xs : List (D × Nat)) (sd2 : SD) :
    calIOJ n ios f dfl ags (some (xs, sd2)) = if (xs.length + dfl.length == n && mPos 0 ags == ios) = true then outR sd2 (mSl ags) (f (xs ++ dfl.map fun d => (d, 0))) else .stuck := eqr rfl
def calIOK (n : Nat) (ios : List Nat) (f : FnO) (dfl : List D) : List Ag → SD → R (D × Nat) := fun ags sd1 => calIOJ n ios f dfl ags (rsm sd1 ags)
@[simp] theorem calIOK_ap (n : Nat) (ios : List Nat) (f : FnO) (dfl : List D) (ags : List Ag) : calIOK n ios f dfl ags sd = calIOJ n ios f dfl ags (rsm sd ags) := eqr rfl
@[simp] theorem calIO_ap (n : Nat) (ios : List Nat) (f : FnO) (dfl : List D) (fs : Eb) : calIO n ios f dfl fs sd = (fs sd).bind (calIOK n ios f dfl) := by
  unfold calIO calIOK calIOJ
  congr
/-! ### dicts -/
def ixdR (o : Option (Option D)) (sd : SD) : R (D × Nat) := match o with
  | some (some e) => .ok (e, 0) sd
  | _ => .stuck
@[simp] theorem ixdR_some (e : D) : ixdR (some (some e)) sd = .ok (e, 0) sd := eqr rfl
def ixdK (i : Nat) : D × Nat → SD → R (D × Nat) := fun y sd1 => wS (gtS sd1 i) .stuck fun d k => ixdR (dLook d y.1) (sd1.set i (some (d, min k 1)))
@[simp] theorem ixdK_ap (i : Nat) (y : D) (n : Nat) : ixdK i (y, n) sd = wS (gtS sd i) .stuck fun d k => ixdR (dLook d y) (sd.set i (some (d, min k 1))) := eqr rfl
@[simp] theorem ixd_ap (i : Nat) (fb : Ev) : ixd i fb sd = wS (gtS sd i) .stuck fun _ _ => (fb sd).bind (ixdK i) := by
  have h2 : ixdK i = fun y sd1 => match sd1[i]? with
    | some (some (d, k)) => match dLook d y.1 with
      | some (some e) => .ok (e, 0) (sd1.set i (some (d, min k 1)))
      | _ => .stuck
    | _ => .stuck := by
    funext y sd1
    unfold ixdK gtS wS ixdR
    cases e : sd1[i]? with
    | none => rfl
    | some x => rcases x with _ | ⟨d, k⟩ <;> rfl
  unfold ixd
  rw [h2]
  unfold gtS wS
  cases e : sd[i]? with
  | none => rfl
  | some x => rcases x with _ | ⟨d, k⟩ <;> rfl
def putDO (o : Option D) (i : Nat) (sd : SD) : O := match o with
  | some d' => .nx (sd.set i (some (d', 1)))
  | none => .stuck
@[simp] theorem putDO_some (d : D) (i : Nat) : putDO (some d) i sd = .nx (sd.set i (some (d, 1))) := eqr rfl
def putD1 (d : D) (n : Nat) (i : Nat) (y w : D) (sd : SD) : O := if n = 1 then putDO (dPutD d y w) i sd else .stuck
@[simp] theorem putD1_one (d : D) (i : Nat) (y w : D) : putD1 d 1 i y w sd = putDO (dPutD d y w) i sd := eqr rfl
def zPutDJ (i : Nat) (w : D) : D × Nat → SD → O := fun y sd2 => wS (gtS sd2 i) .stuck fun d n => putD1 d n i y.1 w sd2
@[simp] theorem zPutDJ_ap (i : Nat) (w y : D) (n : Nat) : zPutDJ i w (y, n) sd = wS (gtS sd i) .stuck fun d n => putD1 d n i y w sd := eqr rfl
def zPutDK (i : Nat) (fi : Ev) : D × Nat → SD → O := fun w sd1 => wS (gtS sd1 i) .stuck fun _ _ => (fi sd1).run (zPutDJ i w.1)
@[simp] theorem zPutDK_ap (i : Nat) (fi : Ev) (d : D) (n : Nat) : zPutDK i fi (d, n) sd = wS (gtS sd i) .stuck fun _ _ => (fi sd).run (zPutDJ i d) := eqr rfl
@[simp] theorem zPutD_ap (i : Nat) (fi f : Ev) : zPutD i fi f sd = (f sd).run (zPutDK i fi) := by
  have h1 : ∀ w : D, zPutDJ i w = fun y sd2 => match sd2[i]? with
    | some (some (d, 1)) => match dPutD d y.1 w with
      | some d' => .nx (sd2.set i (some (d', 1)))
      | none => .stuck
    | _ => .stuck := by
    intro w
    funext y sd2
    unfold zPutDJ gtS wS putD1 putDO
    cases e : sd2[i]? with
    | none => rfl
    | some x =>
      rcases x with _ | ⟨d, k⟩
      · rfl
      · rcases k with _ | _ | k
        · rfl
        · rfl
        · dsimp only
          rw [if_neg (by omega)]
          rfl
  have h2 : zPutDK i fi = fun w sd1 => match sd1[i]? with
    | some (some _) => (fi sd1).run (zPutDJ i w.1)
    | _ => .stuck := by
    funext w sd1
    unfold zPutDK gtS wS
    cases e : sd1[i]? with
    | none => rfl
    | some x => rcases x with _ | ⟨d, k⟩ <;> rfl
  rw [h2]
  simp only [h1]
  rfl
@[simp] theorem dNew_ap : dNew sd = .ok (.dct [] [], 1) sd := eqr rfl
@[simp] theorem dNewT_ap : dNewT sd = .ok (.dcT [] [], 1) sd := eqr rfl
def dDispJ (k : D) : D × Nat → SD → R (D × Nat) := fun v sd2 => match keyOf k with
  | some kk => .ok (.dct [kk] [v.1], 1) sd2
  | none => .stuck
@[simp] theorem dDispJ_int (i : Int) (v : D) (n : Nat) : dDispJ (.int i) (v, n) sd = .ok (.dct [.inl i] [v], 1) sd := eqr rfl
def dDispK (fv : Ev) : D × Nat → SD → R (D × Nat) := fun k sd1 => (fv sd1).bind (dDispJ k.1)
@[simp] theorem dDispK_ap (fv : Ev) (k : D) (n : Nat) : dDispK fv (k, n) sd = (fv sd).bind (dDispJ k) := eqr rfl
@[simp] theorem dDisp_ap (fk fv : Ev) : dDisp fk fv sd = (fk sd).bind (dDispK fv) := by
  unfold dDisp dDispK dDispJ
  congr
/-! ### walks -/
def iRevK : D × Nat → SD → R (List D) := fun x sd1 => match x.1 with
  | .lst ds => .ok ds.reverse sd1
  | .tup ds => .ok ds.reverse sd1
  | _ => .stuck
@[simp] theorem iRev_ap (f : Ev) : iRev' f sd = (f sd).bind iRevK := eqr rfl
@[simp] theorem iRevK_lst (ds : List D) (n : Nat) : iRevK (.lst ds, n) sd = .ok ds.reverse sd := eqr rfl
@[simp] theorem iRevK_tup (ds : List D) (n : Nat) : iRevK (.tup ds, n) sd = .ok ds.reverse sd := eqr rfl
def iZipJ (x : D) : D × Nat → SD → R (List D) := fun y sd2 => match x, y.1 with
  | .lst ds, .lst es => .ok ((ds.zip es).map fun p => .tup [p.1, p.2]) sd2
  | .tup ds, .tup es => .ok ((ds.zip es).map fun p => .tup [p.1, p.2]) sd2
  | _, _ => .stuck
@[simp] theorem iZipJ_lst {α β : Type} (f : α → D) (g : β → D) (ds : List α) (es : List β) (n : Nat) : iZipJ (.lst (ds.map f)) (.lst (es.map g), n) sd = .ok ((ds.zip es).map fun p => .tup [f p.1, g p.2]) sd := by
  show R.ok (((ds.map f).zip (es.map g)).map fun p => D.tup [p.1, p.2]) sd = _
  rw [List.zip_map, List.map_map]
  rfl
def iZipK (g : Ev) : D × Nat → SD → R (List D) := fun x sd1 => (g sd1).bind (iZipJ x.1)
@[simp] theorem iZipK_ap (g : Ev) (d : D) (n : Nat) : iZipK g (d, n) sd = (g sd).bind (iZipJ d) := eqr rfl
@[simp] theorem iZip_ap (f g : Ev) : iZip' f g sd = (f sd).bind (iZipK g) := by
  unfold iZip' iZipK iZipJ
  congr
@[simp] theorem gTupRev_lst (ds : List D) : gTupRev (.lst ds) = some (.tup ds.reverse, 0) := eqr rfl
@[simp] theorem gLstRev_lst (ds : List D) : gLstRev (.lst ds) = some (.lst ds.reverse, 1) := eqr rfl
theorem gLstRg_ok {n : Int} (h0 : 0 ≤ n) (h1 : n ≤ 1000000) : gLstRg (.int n) = some (.lst ((List.range n.toNat).map fun (i : Nat) => .int (i : Int)), 1) := by
  show (if 0 ≤ n ∧ n ≤ 1000000 then some (D.lst (rngD 0 n.toNat), 1) else none) = _
  rw [if_pos ⟨h0, h1⟩]
  unfold rngD
  congr
  funext i
  rw [Int.zero_add]
/-! ### pop, an entry with a name -/
def popR (o : Option Nat) (ds : List D) (i : Nat) (sd : SD) : R (D × Nat) := match o with
  | some n => match ds[n]? with
    | some d => .ok (d, 0) (sd.set i (some (.lst (ds.eraseIdx n), 1)))
    | none => .stuck
  | none => .stuck
def popJ (d : D) (k : Nat) (i : Nat) (y : D) (sd : SD) : R (D × Nat) := match d, k, y with
  | .lst ds, 1, .int j => if 0 ≤ j ∧ j < 2 ^ 62 then popR (L2.ixN ds.length j) ds i sd else .stuck
  | _, _, _ => .stuck
theorem popJ_lst (ds : List D) (i : Nat) (j : Int) (h0 : 0 ≤ j) (h1 : j < ds.length) (h2 : ds.length ≤ 1000000) : popJ (.lst ds) 1 i (.int j) sd = .ok (gt ds j, 0) (sd.set i (some (.lst (ds.eraseIdx j.toNat), 1))) := by
  show (if 0 ≤ j ∧ j < 2 ^ 62 then popR (L2.ixN ds.length j) ds i sd else .stuck) = _
  have hj : j < 2 ^ 62 := Int.lt_of_lt_of_le h1 (Int.le_trans (show (ds.length : Int) ≤ 1000000 by omega) (by decide))
  rw [if_pos ⟨h0, hj⟩, ixN_ok h0 h1]
  have : j.toNat < ds.length := by omega
  show (match ds[j.toNat]? with
    | some d => R.ok (d, 0) (sd.set i (some (D.lst (ds.eraseIdx j.toNat), 1)))
    | none => .stuck) = _
  rw [List.getElem?_eq_getElem this]
  unfold gt
  rw [List.getD_eq_getElem?_getD, List.getElem?_eq_getElem this]
  rfl
def popK (i : Nat) : D × Nat → SD → R (D × Nat) := fun y sd1 => wS (gtS sd1 i) .stuck fun d k => popJ d k i y.1 sd1
@[simp] theorem popK_ap (i : Nat) (y : D) (n : Nat) : popK i (y, n) sd = wS (gtS sd i) .stuck fun d k => popJ d k i y sd := eqr rfl
def lstR (o : Option (D × Nat)) (y : R (D × Nat)) : R (D × Nat) := match o with
  | some (.lst _, _) => y
  | _ => .stuck
@[simp] theorem lstR_some (ds : List D) (n : Nat) (y : R (D × Nat)) : lstR (some (.lst ds, n)) y = y := eqr rfl
@[simp] theorem popv_ap (i : Nat) (fe : Ev) : popv i fe sd = lstR (gtS sd i) ((fe sd).bind (popK i)) := by
  have h : popK i = fun y sd1 => match sd1[i]?, y.1 with
    | some (some (.lst ds, 1)), .int j => if 0 ≤ j ∧ j < 2 ^ 62 then match L2.ixN ds.length j with
      | some n => match ds[n]? with
        | some d => .ok (d, 0) (sd1.set i (some (.lst (ds.eraseIdx n), 1)))
        | none => .stuck
      | none => .stuck else .stuck
    | _, _ => .stuck := by
    funext y sd1
    unfold popK gtS wS popJ popR
    cases e : sd1[i]? with
    | none => rfl
    | some x =>
      rcases x with _ | ⟨d, k⟩
      · rfl
      · obtain ⟨y1, y2⟩ := y
        cases d <;> first | rfl | (rcases k with _ | _ | k <;> first | rfl | (cases y1 <;> rfl))
  rw [h]
  unfold popv lstR gtS
  cases e : sd[i]? with
  | none => rfl
  | some x =>
    rcases x with _ | ⟨d, k⟩
    · rfl
    · cases d <;> rfl
def aliE (ib it n k : Nat) (ds : List D) (o : O) : O := match o with
  | .nx sd3 => wS (gtS sd3 ib) .stuck fun d' k' => if k' = k then .nx ((sd3.set ib none).set it (some (.lst (ds.set n d'), k + 1))) else .stuck
  | _ => .stuck
@[simp] theorem aliE_nx (ib it n k : Nat) (ds : List D) (sd3 : SD) : aliE ib it n k ds (.nx sd3) = wS (gtS sd3 ib) .stuck fun d' k' => if k' = k then .nx ((sd3.set ib none).set it (some (.lst (ds.set n d'), k + 1))) else .stuck := eqr rfl
@[simp] theorem aliE_ite (ib it n k : Nat) (ds : List D) {c : Prop} [Decidable c] (a b : O) : aliE ib it n k ds (if c then a else b) = if c then aliE ib it n k ds a else aliE ib it n k ds b := by split <;> rfl
def aliN (ib it k : Nat) (f : Sm) (ds : List D) (sd1 : SD) (o : Option Nat) : O := match o with
  | some n => match ds[n]? with
    | some d => aliE ib it n k ds (f ((sd1.set it none).set ib (some (d, k))))
    | none => .stuck
  | none => .stuck
def aliJ (ib it : Nat) (f : Sm) (d : D) (k : Nat) (y : D) (sd1 : SD) : O := match d, k, y with
  | .lst ds, k + 1, .int j => aliN ib it k f ds sd1 (L2.ixN ds.length j)
  | _, _, _ => .stuck
theorem aliJ_lst (ib it k : Nat) (f : Sm) (ds : List D) (j : Int) (h0 : 0 ≤ j) (h1 : j < ds.length) : aliJ ib it f (.lst ds) (k + 1) (.int j) sd = aliE ib it j.toNat k ds (f ((sd.set it none).set ib (some (gt ds j, k)))) := by
  show aliN ib it k f ds sd (L2.ixN ds.length j) = _
  rw [ixN_ok h0 h1]
  have : j.toNat < ds.length := by omega
  unfold aliN
  dsimp only
  rw [List.getElem?_eq_getElem this]
  unfold gt
  rw [List.getD_eq_getElem?_getD, List.getElem?_eq_getElem this]
  rfl
def aliK (ib it : Nat) (f : Sm) : D × Nat → SD → O := fun y sd1 => wS (gtS sd1 it) .stuck fun d k => aliJ ib it f d k y.1 sd1
@[simp] theorem aliK_ap (ib it : Nat) (f : Sm) (y : D) (n : Nat) : aliK ib it f (y, n) sd = wS (gtS sd it) .stuck fun d k => aliJ ib it f d k y sd := eqr rfl
@[simp] theorem zAli_ap (ib it : Nat) (fe : Ev) (f : Sm) : zAli ib it fe f sd = wS (gtS sd it) .stuck fun _ _ => (fe sd).run (aliK ib it f) := by
  have h : aliK ib it f = fun y sd1 => match sd1[it]?, y.1 with
    | some (some (.lst ds, k + 1)), .int j => match L2.ixN ds.length j with
      | some n => match ds[n]? with
        | some d => match f ((sd1.set it none).set ib (some (d, k))) with
          | .nx sd3 => match sd3[ib]? with
            | some (some (d', k')) => if k' = k then .nx ((sd3.set ib none).set it (some (.lst (ds.set n d'), k + 1))) else .stuck
            | _ => .stuck
          | _ => .stuck
        | none => .stuck
      | none => .stuck
    | _, _ => .stuck := by
    funext y sd1
    unfold aliK gtS wS aliJ aliN aliE
    cases e : sd1[it]? with
    | none => rfl
    | some x =>
      rcases x with _ | ⟨d, k⟩
      · rfl
      · obtain ⟨y1, y2⟩ := y
        cases d <;> try rfl
        rcases k with _ | k
        · rfl
        · cases y1 <;> try rfl
          dsimp only
          split
          · split
            · split
              · unfold gtS wS
                rename_i sd3 _
                cases e : sd3[ib]? with
                | none => rfl
                | some x => rcases x with _ | ⟨d, k⟩ <;> rfl
              · rfl
            · rfl
          · rfl
  rw [h]
  unfold zAli gtS wS
  cases e : sd[it]? with
  | none => rfl
  | some x => rcases x with _ | ⟨d, k⟩ <;> rfl
end
/-! ### entries of rows -/
theorem gIx_lst' {l : List D} {j : Int} (h0 : 0 ≤ j) (h1 : j < l.length) : gIx (.lst l) (.int j) = some (gt l j, 0) := by
  have := gIx_lst (l := l) id h0 h1
  rwa [List.map_id] at this
theorem gIx_tup' {l : List D} {j : Int} (h0 : 0 ≤ j) (h1 : j < l.length) : gIx (.tup l) (.int j) = some (gt l j, 0) := by
  have := gIx_tup (l := l) id h0 h1
  rwa [List.map_id] at this
theorem atI_last (l : List D) (x : D) : L2.atI (l ++ [x]) (-1) = some x := by
  unfold L2.atI L2.ixN
  rw [List.length_append, List.length_singleton, if_neg (by omega), if_pos (by omega)]
  have : (-1 + ((l.length : Int) + 1)).toNat = l.length := by omega
  simp [this]
@[simp] theorem gIx_lastL (l : List D) (x : D) : gIx (.lst (l ++ [x])) (.int (-1)) = some (x, 0) := by
  show (L2.atI (l ++ [x]) (-1)).map _ = _
  rw [atI_last]; rfl
@[simp] theorem gIx_lastT (l : List D) (x : D) : gIx (.tup (l ++ [x])) (.int (-1)) = some (x, 0) := by
  show (L2.atI (l ++ [x]) (-1)).map _ = _
  rw [atI_last]; rfl
@[simp] theorem dLook_int (ks : List Key) (ds : List D) (i : Int) : dLook (.dct ks ds) (.int i) = some (dGet ks ds (.inl i)) := eqr rfl
@[simp] theorem gInD_int (neg : Bool) (ks : List Key) (ds : List D) (i : Int) : gInD neg (.int i) (.dct ks ds) = some (.bl (if neg then !(dGet ks ds (.inl i)).isSome else (dGet ks ds (.inl i)).isSome), 0) := eqr rfl
/-! ### dicts with ints for keys, as rows of pairs -/
def kD {α : Type} (enc : α → D) (l : List (Int × α)) : D := .dct (l.map fun p => .inl p.1) (l.map fun p => enc p.2)
theorem dGet_kD {α : Type} (enc : α → D) (l : List (Int × α)) (i : Int) : dGet (l.map fun p => (.inl p.1 : Key)) (l.map fun p => enc p.2) (.inl i) = (l.lookup i).map enc := by
  induction l with
  | nil => rfl
  | cons p l ih =>
    obtain ⟨k, a⟩ := p
    rw [List.map_cons, List.map_cons]
    unfold dGet
    rw [List.lookup_cons]
    by_cases h : k = i
    · subst h
      simp
    · rw [if_neg (by simp [h]), ih]
      have : (i == k) = false := by simp; exact fun z => h z.symm
      rw [this]
@[simp] theorem dLook_kD {α : Type} (enc : α → D) (l : List (Int × α)) (i : Int) : dLook (kD enc l) (.int i) = some ((l.lookup i).map enc) := by
  show some (dGet _ _ _) = _
  rw [dGet_kD]
@[simp] theorem gInD_kD {α : Type} (neg : Bool) (enc : α → D) (l : List (Int × α)) (i : Int) : gInD neg (.int i) (kD enc l) = some (.bl (if neg then !(l.lookup i).isSome else (l.lookup i).isSome), 0) := by
  show some (D.bl (if neg then !(dGet _ _ _).isSome else (dGet _ _ _).isSome), 0) = _
  rw [dGet_kD]
  cases l.lookup i <;> rfl
theorem dPutD_new {α : Type} (enc : α → D) (l : List (Int × α)) (i : Int) (a : α) (h : l.lookup i = none) (hl : l.length ≤ 1000000) : dPutD (kD enc l) (.int i) (enc a) = some (kD enc (l ++ [(i, a)])) := by
  have hm : (.inl i : Key) ∉ l.map fun p => (.inl p.1 : Key) := by
    intro m
    obtain ⟨p, m, e⟩ := List.mem_map.mp m
    rw [List.lookup_eq_none_iff] at h
    have := h p m
    injection e with e
    simp [e] at this
  show (if (l.map fun p => (.inl p.1 : Key)).length < sizeLine then some (D.dct (dKeys _ _) (dVals _ _ _ _)) else none) = _
  rw [if_pos (by rw [List.length_map]; exact lt_line' hl)]
  unfold dKeys dVals kD
  rw [if_neg hm, if_neg hm, List.map_append, List.map_append]
  rfl
where lt_line' {n : Nat} (h : n ≤ 1000000) : n < sizeLine := Nat.lt_of_le_of_lt h (by decide)
section
variable {ws : List Nat} {g : Tg} {body : Sm} {kn kb kc : SD → FR}
/-- the first item that passes ends the loop -/
theorem for_find {α : Type} (enc : α → D) (c : α → Bool) (S : SD) (S' : α → SD) (l : List α) (h : ∀ a ∈ l, ∀ K, trn ws g body (enc a) S K kn = if c a = true then kn (S' a) else K S) :
    (forGo ws g body (l.map enc) S).fin kn kb kc = match l.find? c with | some a => kn (S' a) | none => kn S := by
  induction l with
  | nil => rfl
  | cons a l ih =>
    rw [List.map_cons, forGo_cons, h a List.mem_cons_self, List.find?_cons]
    by_cases e : c a = true
    · rw [if_pos e, e]
    · rw [if_neg e, ih fun b m => h b (List.mem_cons_of_mem _ m)]
      have : c a = false := by cases q : c a; rfl; exact absurd q e
      rw [this]
theorem for_ret {α : Type} (enc : α → D) (c : α → Bool) (S : SD) (w : α → FR) (l : List α) (h : ∀ a ∈ l, ∀ K, trn ws g body (enc a) S K kn = if c a = true then w a else K S) :
    (forGo ws g body (l.map enc) S).fin kn kb kc = match l.find? c with | some a => w a | none => kn S := by
  induction l with
  | nil => rfl
  | cons a l ih =>
    rw [List.map_cons, forGo_cons, h a List.mem_cons_self, List.find?_cons]
    by_cases e : c a = true
    · rw [if_pos e, e]
    · rw [if_neg e, ih fun b m => h b (List.mem_cons_of_mem _ m)]
      have : c a = false := by cases q : c a; rfl; exact absurd q e
      rw [this]
end
section
variable {ws : List Nat} {g : Tg} {body : Sm}
theorem forO_gen {α β : Type} (enc : α → D) (S : β → SD) (P : List α → β → Prop) (f : β → α → β) (h : ∀ a l b, P (a :: l) b → P l (f b a) ∧ trnO ws g body (enc a) (S b) = .nx (S (f b a))) : ∀ (l : List α) (b : β), P l b →
    forGo ws g body (l.map enc) (S b) = .nx (S (l.foldl f b)) ∧ P [] (l.foldl f b)
  | [], b, hp => ⟨rfl, hp⟩
  | a :: l, b, hp => by
    obtain ⟨p, q⟩ := h a l b hp
    have ih := forO_gen enc S P f h l _ p
    rw [List.foldl_cons]
    refine ⟨?_, ih.2⟩
    · rw [List.map_cons]
      have e : forGo ws g body (enc a :: l.map enc) (S b) = forGo ws g body (l.map enc) (S (f b a)) := by
        unfold trnO goO trnOK O.lp at q
        show (match g (enc a) (S b) with
          | none => O.stuck
          | some sd1 => match body sd1 with
            | .nx sd2 => forGo ws g body (l.map enc) (wp sd2 ws)
            | .ct sd2 => forGo ws g body (l.map enc) (wp sd2 ws)
            | .bk sd2 => .nx (wp sd2 ws)
            | o => o) = _
        cases eg : g (enc a) (S b) with
        | none => rw [eg] at q; cases q
        | some s =>
          rw [eg] at q
          dsimp only at q ⊢
          cases eb : body s with
          | nx s2 => rw [eb] at q; dsimp only at q ⊢; injection q with q; rw [q]
          | ct s2 => rw [eb] at q; dsimp only at q ⊢; injection q with q; rw [q]
          | bk s2 => rw [eb] at q; cases q
          | rt w s2 => rw [eb] at q; cases q
          | ex x s2 => rw [eb] at q; cases q
          | stuck => rw [eb] at q; cases q
      rw [e]
      exact ih.1
end
end VS
/-! a try whose clauses may have names; the exception is known to the heap while a suite runs -/
namespace VS
open PySem PySem.Spec L2 PyProof.Rows
def tru : HO := .ext fun _ => True
section
variable {X : Cx} {pins : List (Addr × Obj)} {σ : L2.St} {H : Hp} {s : Shared}
theorem inv_track {a : Addr} {oe : Obj} {vs : Array Value} (I : Inv X pins σ H s) (ha : s.heap.get? a = some oe) (hd : oe.data = .fields vs) (na : H a = none) (n0 : X.s_0.heap.get? a = none) (nL : a ≠ X.env.locals) (np : ∀ p ∈ X.pn ++ pins, p.1 ≠ a) :
    Inv X pins σ (upd H a (.frz oe tru)) s := by
  have ne : ∀ {b : Addr} {o : HO}, H b = some o → b ≠ a := fun q => ne_of_none q na
  refine ⟨I.ok, I.os, I.bare, ⟨I.base.keep, I.base.slot, fun b o e n hx => ?_, I.base.there, fun b xs e => ?_, fun b o u e => ?_, fun b ps e => ?_⟩, I.loc, I.cell, ?_, fun x c e => ?_, fun p hp => ?_, fun b u e => ?_, I.len⟩
  · rw [upd_ne fun z => by rw [z, n0] at e; cases e]
    exact I.base.free b o e n hx
  · have q := I.base.tups b xs e
    rw [upd_ne (ne q)]; exact q
  · have q := I.base.frzs b o u e
    rw [upd_ne (ne q)]; exact q
  · obtain ⟨m, q⟩ := I.base.tbls b ps e
    exact ⟨m, by rw [upd_ne (ne q)]; exact q⟩
  · rw [upd_ne (Ne.symm nL)]; exact I.free
  · rw [upd_ne fun z => ?_]
    · exact I.freeC x c e
    · obtain ⟨v, o, ho, hc⟩ := I.cell x c e
      rw [z, ha] at ho
      cases ho
      rw [hd] at hc
      cases hc
  · obtain ⟨e, n, q⟩ := I.pin p hp
    exact ⟨e, by rw [upd_ne (np p hp)]; exact n, q⟩
  · by_cases hb : b = a
    · subst hb
      rw [upd_same] at e
      cases e
      exact ⟨ha, trivial, ⟨_, ha⟩, fun _ _ _ _ => trivial⟩
    · rw [upd_ne hb] at e
      exact (I.hok b u e).stay (fun c v _ q => q) (fun c q => by rw [upd_ne (ne q)]; exact q) fun c xs q => by rw [upd_ne (ne q)]; exact q
theorem inv_suite (I : Inv X pins σ H s) (a : Addr) : Inv (X.suite a (X.pn ++ pins)) [] σ H s :=
  ⟨I.ok.suite _ _, I.os, I.bare, I.base, I.loc, I.cell, I.free, I.freeC, fun p hp => I.pin p (by have hp' : p ∈ (X.pn ++ pins) ++ [] := hp; rw [List.append_nil] at hp'; exact hp'), I.hok, I.len⟩
theorem inv_unsuite {a : Addr} {pn' : List (Addr × Obj)} (I : Inv (X.suite a (X.pn ++ pins)) pn' σ H s) (ok : X.Ok) : Inv X pins σ H s :=
  ⟨ok, I.os, I.bare, I.base, I.loc, I.cell, I.free, I.freeC, fun p hp => I.pin p (List.mem_append_left _ hp), I.hok, I.len⟩
end
/-- the ends of a suite whose exception has the name in slot n -/
def enD : Option Nat → Ends → Ends
  | none, D => D
  | some i, D => { nx := fun σ' H' => D.nx (σ'.set i none) H', rt := D.rt, bk := fun σ' H' => D.bk (σ'.set i none) H', ct := fun σ' H' => D.ct (σ'.set i none) H' }
def stD : Option Nat → L2.St → Addr → L2.St
  | none, σ, _ => σ
  | some i, σ, a => σ.set i (some (.ref a))
abbrev TX := Addr → Obj → Value → Option Addr → TS
def wTry (K : PySem.W.Frag) (Wout : WX) (D : Ends) : List (Value × Option Nat × TX) → WX
  | [] => Wout
  | (c, n, ts) :: r => fun cls d σ H => ∃ b, PySem.W.exmOne K cls c = some b ∧
      (b = true → ∀ a oe, H a = none → Zc cls d oe → (∃ vs, oe.data = .fields vs) → ts a oe cls d (enD n D) (stD n σ a) (upd H a (.frz oe tru))) ∧ (b = false → wTry K Wout D r cls d σ H)
inductive HdT (X : Cx) : List ExceptHandler → List (Value × Option Nat × TX) → Prop
  | nil : HdT X [] []
  | cons {x : Str} {c : Value} {ts : TX} {b₀ : Stmt} {suite : List Stmt} {np pos' : Pos} {hds : List ExceptHandler} {l : List (Value × Option Nat × TX)} (hc : Names X x c)
      (hsu : ∀ (a : Addr) (oe : Obj) (cls : Value) (d : Option Addr) (pn : List (Addr × Obj)), PSs (X.suite a pn) (b₀ :: suite) (ts a oe cls d)) (r : HdT X hds l) :
      HdT X (.ExceptHandler (some (.Name x np)) none (b₀ :: suite) pos' :: hds) ((c, none, ts) :: l)
  | as {x n : Str} {i : Nat} {c : Value} {ts : TX} {b₀ : Stmt} {suite : List Stmt} {np pos' : Pos} {hds : List ExceptHandler} {l : List (Value × Option Nat × TX)} (hi : X.N[i]? = some n) (hln : X.env.kindOf n = some .local) (hc : Names X x c)
      (hsu : ∀ (a : Addr) (oe : Obj) (cls : Value) (d : Option Addr) (pn : List (Addr × Obj)), PSs (X.suite a pn) (b₀ :: suite) (ts a oe cls d)) (r : HdT X hds l) :
      HdT X (.ExceptHandler (some (.Name x np)) (some n) (b₀ :: suite) pos' :: hds) ((c, some i, ts) :: l)
section
variable {X : Cx} {body : List Stmt} {h₀ : ExceptHandler} {hds : List ExceptHandler} {l : List (Value × Option Nat × TX)} {pos : Pos} {tb : WX → TS} {Wout : WX}
theorem ps_tryT (hs : X.stack = X.env :: X.outer) (hf : X.env.frame = some X.env.locals) (hN : X.N.Nodup) (hx : X.ex = []) (tk : Takes X Wout)
    (hb : ∀ (W : WX) (pn : List (Addr × Obj)) (xe : Value → Shared → Prop), Takes (X.tr pn xe) W → PassesOwn (model X.prog X.w) X.A X.env xe → PSs (X.tr pn xe) body (tb W))
    (hh : HdT X (h₀ :: hds) l) : PS X (.Try body (h₀ :: hds) [] [] pos) (fun D σ H => tb (wTry X.K Wout D l) D σ H) := by
  refine ⟨fun pins s σ H D I h => ?_⟩
  have ok := I.ok
  have hfr : X.A.frames = some (X.env :: X.outer) := by rw [ok.frames, hs]
  refine wpAny_Try_except ?_
  refine wpAny_mono ((hb (wTry X.K Wout D l) (X.pn ++ pins) (fun e s₁ => wpAny (model X.prog X.w) X.A (noteFrame e X.env) (fun _ s₂ => wpAny (model X.prog X.w) X.A (setFlight e none) (fun _ s₃ =>
    wpAny (model X.prog X.w) X.A (handleBy e X.env (h₀ :: hds)) (SP X pins D) X.xe s₃) X.xe s₂) X.xe s₁) (fun u s' xx => ?_) PassesOwn.looking).run [] s σ H D (I.toTry _) h) (fun f s1 hsp => ?_) (fun e s1 he => he)
  · obtain ⟨a, B, sI, pins', σ', H', cls, d, rfl, J', nb, up, sky, na, os, ag, w⟩ := xx
    have J : Inv X pins σ' H' sI := J'.ofTry ok
    have sky' : Sky B (X.env :: X.outer) a (Zc cls d) X.env.locals s'.heap := by rw [← hs]; exact sky
    show wpAny (model X.prog X.w) X.A (noteFrame (.ref a) X.env) _ _ _
    refine Sky.land Zc.steady hfr hf sky' fun h3 fl3 up3 => ?_
    have J3 : Inv X pins σ' H' { s' with heap := h3 } := J.landed nb fl3.1 (up.trans up3) os ag
    obtain ⟨oe3, vs3, he3, hz3, hd3⟩ := fl3.there
    have nfr : a ∉ frs (X.env :: X.outer) := fun hm => by
      obtain ⟨_, o', e', hnf⟩ := fl3.2.2.1.mem hm
      rw [he3] at e'; cases e'
      exact hnf _ hd3
    have nL : a ≠ X.env.locals := fun z => nfr (List.mem_filterMap.mpr ⟨X.env, List.mem_cons_self, by rw [hf, z]⟩)
    have nI : sI.heap.get? a = none := by
      cases e : sI.heap.get? a with
      | none => rfl
      | some o =>
        have q := nb a o e (by rw [hs]; exact nfr)
        rw [fl3.2.1] at q
        cases q
    have n0 : X.s_0.heap.get? a = none := by
      cases e : X.s_0.heap.get? a with
      | none => rfl
      | some o =>
        obtain ⟨o', q⟩ := J.base.there a o e (by rw [hx]; exact List.not_mem_nil)
        rw [nI] at q
        cases q
    have np : ∀ p ∈ X.pn ++ pins, p.1 ≠ a := fun p hp z => by
      have q := (J.pin p hp).1
      rw [z, nI] at q
      cases q
    have T : ∀ {h4 : Heap} {oe4 : Obj} {vs4 : Array Value}, Inv X pins σ' H' { s' with heap := h4 } → h4.get? a = some oe4 → oe4.data = .fields vs4 → Inv (X.suite a (X.pn ++ pins)) [] σ' (upd H' a (.frz oe4 tru)) { s' with heap := h4 } :=
      fun J4 he hd => inv_suite (inv_track J4 he hd na n0 nL np) a
    have S3 := T J3 he3 hd3
    have go : ∀ {hds' : List ExceptHandler} {l' : List (Value × Option Nat × TX)}, HdT X hds' l' → wTry X.K Wout D l' cls d σ' H' →
        wpAny (model X.prog X.w) X.A (handleBy (.ref a) X.env hds') (SP X pins D) X.xe { s' with heap := h3 } := by
      intro hds' l' hk
      have LT : PySem.W.Looks (model X.prog X.w) h3 (typeOf (.ref a)) cls := fun A Q E s k q => wpAny_typeOf_ref (k _ _ he3) (by rw [hz3.1]; exact q)
      have test : ∀ {x : Str} {np : Pos} {c : Value} {Q : Value → Shared → Prop} {E : Value → Shared → Prop}, Names X x c → Q c { s' with heap := h3 } → wpAny (model X.prog X.w) (X.A.mark (some (.ref a))) (eval (.Name x np) X.env) Q E { s' with heap := h3 } := fun {x np c Q E} hc q => by
        obtain ⟨hg, hdbg, hm | ⟨hm, hv, hnn⟩⟩ := hc
        · exact ld_glob (X := X.suite a (X.pn ++ pins)) S3 hg hm q hdbg
        · exact ld_blt (X := X.suite a (X.pn ++ pins)) S3 hg hm hv q hnn hdbg
      induction hk with
      | nil =>
        intro w
        refine wpAny_handleBy_nil ?_
        obtain ⟨k1, k2, k3, oe, vs, T0, oT, ts', he, hz, hd, h1, hr⟩ := id fl3
        unfold PySem.passOn
        refine wpAny_bind (wpAny_field he hd h1 ?_)
        rw [if_neg (show ¬ ((Value.ref T0 == Value.none) = true) from by simp)]
        have fin : wpAny (model X.prog X.w) X.A (setFlight (.ref a) X.env.frame) (fun _ s4 => wpAny (model X.prog X.w) X.A (throw (.ref a) : Sem Flow) (SP X pins D) X.xe s4) X.xe { s' with heap := h3 } := by
          rw [hf]
          refine HandSPX.setFlight_upZ fl3 fun h4 hh4 up4 => wpAny_throw (tk _ _ ?_)
          exact ⟨a, B, sI, pins, σ', H', cls, d, rfl, J, nb, (up.trans up3).trans up4, .inr (.inr (by rw [hs]; exact hh4)), na, os, ag, w⟩
        first
          | exact wpAny_bind (wpAny_pure (wpAny_bind fin))
          | exact wpAny_bind fin
      | @cons x c ts b₀ suite np' pos' hds2 l2 hc hsu r ih =>
        intro w
        obtain ⟨b, hb1, hyes, hno⟩ := w
        refine wpAny_handleBy_cons (codeAny_handlers_test ?_) (by intro q; cases q)
        refine test hc ((PySem.W.exm_one (M := model X.prog X.w) (J3.kIn) LT hb1).here ?_)
        cases b with
        | true =>
          refine codeAny_handlers_suite ?_
          refine HandSPX.lands_againZ fl3 fun h4 fl4 up4 => ?_
          obtain ⟨oe4, vs4, he4, hz4, hd4⟩ := fl4.there
          have S4 := T (J.landed nb fl4.1 ((up.trans up3).trans up4) os ag) he4 hd4
          refine wpAny_mono ((hsu a oe4 cls d (X.pn ++ pins)).run [] _ _ _ _ S4 (hyes rfl a oe4 na hz4 ⟨_, hd4⟩)) (fun f s6 hsp => ?_) (fun _ _ z => False.elim z)
          cases f with
          | next =>
            obtain ⟨σ6, H6, S6, q6⟩ := hsp
            exact ⟨_, _, inv_unsuite S6 ok, q6⟩
          | brk =>
            obtain ⟨σ6, H6, S6, q6⟩ := hsp
            exact ⟨_, _, inv_unsuite S6 ok, q6⟩
          | cont =>
            obtain ⟨σ6, H6, S6, q6⟩ := hsp
            exact ⟨_, _, inv_unsuite S6 ok, q6⟩
          | ret u =>
            obtain ⟨v6, σ6, H6, S6, r6, q6⟩ := hsp
            exact ⟨_, _, _, inv_unsuite S6 ok, r6, q6⟩
        | false => exact ih (hno rfl)
      | @as x n i c ts b₀ suite np' pos' hds2 l2 hi hln hc hsu r ih =>
        intro w
        obtain ⟨b, hb1, hyes, hno⟩ := w
        refine wpAny_handleBy_cons (codeAny_handlers_test ?_) (by intro q; cases q)
        refine test hc ((PySem.W.exm_one (M := model X.prog X.w) (J3.kIn) LT hb1).here ?_)
        cases b with
        | true =>
          refine codeAny_handlers_suite_as ?_
          refine HandSPX.lands_againZ fl3 fun h4 fl4 up4 => ?_
          obtain ⟨oe4, vs4, he4, hz4, hd4⟩ := fl4.there
          have S4 := T (J.landed nb fl4.1 ((up.trans up3).trans up4) os ag) he4 hd4
          refine store_ok (X := X.suite a (X.pn ++ pins)) (v := .ref a) S4 hN hi (.inl hln) rfl (fun s5 S5 => ?_) (.inr hln)
          refine wpAny_mono ((hsu a oe4 cls d (X.pn ++ pins)).run [] s5 _ _ _ S5 (hyes rfl a oe4 na hz4 ⟨_, hd4⟩)) (fun f s6 hsp => ?_) (fun _ _ z => False.elim z)
          have end_ : ∀ {σ6 : L2.St} {H6 : Hp} {Q : Shared → Prop}, Inv (X.suite a (X.pn ++ pins)) [] σ6 H6 s6 → (∀ s7, Inv X pins (σ6.set i none) H6 s7 → Q s7) →
              wpAny (model X.prog X.w) X.A (do bindName X.env n .none; unbindBehindTheSuite X.env n pos') (fun _ s7 => Q s7) X.xe s6 := fun {σ6 H6 Q} S6 hq => gone_ok (inv_unsuite S6 ok) hN hi hln hq
          cases f with
          | next =>
            obtain ⟨σ6, H6, S6, q6⟩ := hsp
            exact end_ S6 fun s7 J7 => ⟨_, _, J7, q6⟩
          | brk =>
            obtain ⟨σ6, H6, S6, q6⟩ := hsp
            exact end_ S6 fun s7 J7 => ⟨_, _, J7, q6⟩
          | cont =>
            obtain ⟨σ6, H6, S6, q6⟩ := hsp
            exact end_ S6 fun s7 J7 => ⟨_, _, J7, q6⟩
          | ret u =>
            obtain ⟨v6, σ6, H6, S6, r6, q6⟩ := hsp
            exact end_ S6 fun s7 J7 => ⟨_, _, _, J7, r6, q6⟩
        | false => exact ih (hno rfl)
    exact go hh w
  · cases f with
    | next =>
      obtain ⟨σ', H', J', q⟩ := hsp
      exact wpAny_execs_nil ⟨σ', H', J'.ofTry ok, q⟩
    | brk =>
      obtain ⟨σ', H', J', q⟩ := hsp
      exact ⟨σ', H', J'.ofTry ok, q⟩
    | cont =>
      obtain ⟨σ', H', J', q⟩ := hsp
      exact ⟨σ', H', J'.ofTry ok, q⟩
    | ret u =>
      obtain ⟨v, σ', H', J', r, q⟩ := hsp
      exact ⟨v, σ', H', J'.ofTry ok, r, q⟩
end
end VS
/-! an own exception class over ValueError (maybe with own classes between) whose __init__ says super().__init__('..'); self.f = f -/
namespace PySem
namespace VX
open PySem.W PySem.Calls PyProof.Rows PySem.HandSPX
def iA (f : Str) (p1 p2 : Pos) : Arguments := { posonlyargs := [], args := [{ arg := "self", annotation := none, pos := p1 }, { arg := f, annotation := none, pos := p2 }], vararg := none, kwonlyargs := [], kw_defaults := [], kwarg := none, defaults := [] }
def iB (f m : Str) (j : Nat) (p0 p1 p2 p3 p4 p5 q1 q2 q3 q4 : Pos) : List Stmt :=
  [.Expr (.Call (.Attribute (.Call (.Name "super" p0) [] [] p1) "__init__" p2) [.Constant (.str m) j p3] [] p4) p5, .Assign [.Attribute (.Name "self" q1) f q2] (.Name f q3) q4]
def iS (f : Str) : Scope := { kind := .function, names := [(PySem.Str.ofString "self", .local), (f, .local), (PySem.Str.ofString "__class__", .free), (PySem.Str.ofString "super", .globalImplicit)], isGenerator := false, isCoroutine := false, more := [] }
/-- what the written part says of the class, at C, and of its __init__, at fI -/
structure Txt (prog : Program) (K : Frag) (mg : Str → Option Value) (f : Str) (C fI : Addr) : Prop where
  cls : ∃ nm q N bs bm sn sub ab col dd k0 k1 k2 k3 k5, K.lookup C = some (excClassObj nm q C N bs bm true sn sub ab col dd k0 k1 k2 k3 k5 "ValueError.__new__") ∧ refsVE bm = true
  sa : findIn K (.ref C) "__setattr__" = some (some (.builtin "object.__setattr__"))
  noN : findIn K (.ref C) f = some none
  iC : findIn K (.ref C) "__init__" = some (some (.ref fI))
  tC : typeIn K (.ref fI) = some (.type "function")
  kC : keepIn K (.ref C) = true
  exC : subIn K (.ref C) (.type "BaseException") = some true
  veC : subIn K (.ref C) (.type "ValueError") = some true
  tyC : typeIn K (.ref C) = some (.type "type")
  inC : excInitIn K C [.type "ValueError", .type "Exception", .type "BaseException", .type "object"] "ValueError.__new__" = true
  sup : ks_superIn K C C "__init__" = some (some (.builtin "ValueError.__init__"))
  mro : mroIn K C (.ref C) = some true
  cs : nsIn K cStatics "thirdparty.any" = some none
  sm : mg "super" = none
  bnd : ∀ (q : Str) (r1 r2 : Pos) (body : List Stmt) (doc pm : Value) (an : Option Addr) (cdv ct : Value) (cc : Addr) (a b : Value), bindArgs (ksFn "__init__" q (iA f r1 r2) body (iS f) .none .none doc pm an cdv ct cc) ⟨[a, b], []⟩ = pure [(("self" : Str), a), (f, b)]
  top : (prog.main.scope.names.lookup ("super" : Str)).isSome = false
  fn : ∃ (oc ccl cl : Value) (od cdd cld : Option Addr) (doc pm : Value) (an : Option Addr) (cda cc : Addr) (ct : Value) (osl ccs csl : Array (Option Value)) (q : Str) (m : Str) (j : Nat) (r1 r2 p0 p1 p2 p3 p4 p5 q1 q2 q3 q4 : Pos) (vs : Array Value) (file : Str) (tf : Tok),
    K.lookup fI = some ⟨oc, od, .func (ksFn "__init__" q (iA f r1 r2) (iB f m j p0 p1 p2 p3 p4 p5 q1 q2 q3 q4) (iS f) .none .none doc pm an (.ref cda) ct cc), osl⟩ ∧ codeIn K (.ref cda) q = true ∧
      K.lookup cda = some ⟨ccl, cdd, .fields vs, ccs⟩ ∧ vs[2]? = some (.str file tf) ∧ ((prog.main.file : Str) == file) = true ∧ K.lookup cc = some ⟨cl, cld, .cell (some (.ref C)), csl⟩ ∧
      ∀ env : Env, ∃ pl : Sem Bool, eval (.Call (.Attribute (.Call (.Name "super" p0) [] [] p1) "__init__" p2) [.Constant (.str m) j p3] [] p4) env = (do
        let ov ← attributeBase (.Call (.Name "super" p0) [] [] p1) "__init__" env (eval (.Call (.Name "super" p0) [] [] p1) env)
        standAt p2.atName
        let (f, first) ← holding [ov] (getMethod ov "__init__" pl)
        callWith p4 f first (backTo p4 (starEach [.Constant (.str m) j p3] env)) [])
section
variable {prog : Program} {w : World} {A : Around} {E : Value → Shared → Prop} {R : Result → Shared → Prop} {s : Shared} {K : Frag} {mg mb : Str → Option Value} {f : Str} {C fI : Addr}
theorem ini (T : Txt prog K mg f C fI) (f1 : f ≠ "self") (f2 : f ≠ "__class__") (f3 : f ≠ "super") (f4 : (f == ("__debug__" : Str)) = false) {x t0 : Addr} {v : Value} (X : K.In s.heap) (G : s.heap.Ns mainGlobals mg) (Bl : s.heap.Ns builtinsNs mb) (Bs : mb "super" = some (.type "super")) (hlim : s.heap.NoLimit) (hx : s.heap.get? x = some (excO C t0)) (hnx : K.lookup x = none) (hroom : A.depth < recursionLimit)
    (hq : ∀ h' tk dx t1, (∀ b o, b ≠ x → s.heap.get? b = some o → h'.get? b = some o) → h'.get? x = some { cls := .ref C, dict := some dx, data := .fields #[.ref t1, .none, .none, .none, .bool false, .none] } → s.heap.objs.size ≤ dx → dx ≠ x → h'.Ns1 dx (fun y => if y = f then some v else none) → R (.ok (.ret .none)) { s with heap := h', toks := tk }) :
    codeAny (model prog w) A (.call (.ref fI) ⟨[.ref x, v], []⟩) R s := by
  obtain ⟨hp, gg, dr, tk, os⟩ := s
  obtain ⟨oc, ccl, cl, od, cdd, cld, doc, pm, an, cda, cc, ct, osl, ccs, csl, q, m, j, r1, r2, p0, p1, p2, p3, p4, p5, q1, q2, q3, q4, vs, file, tf, ho, hcd, hcode, hvs, hfile, hcell, hev⟩ := T.fn
  obtain ⟨nm, qn, N, bs, bm, sn, sub, ab, col, dd, k0, k1, k2, k3, k5, hC, hbm⟩ := T.cls
  have hcl : clsIn K C = some { name := nm, bases := bs, mro := .ref C :: bm, ns := N, qualname := qn, hasDict := true, slotNames := sn, subclasses := sub, abstract := ab, collection := col, hasDel := false } := by unfold clsIn; rw [hC] <;> rfl
  have hxC : x ≠ C := fun z => by rw [z, hC] at hnx; cases hnx
  have nf : ∀ y ∈ (iS f).names, y.2 ≠ .cell := fun y hy => by
    simp only [iS, List.mem_cons, List.not_mem_nil, or_false] at hy
    rcases hy with rfl | rfl | rfl | rfl <;> exact fun z => NameKind.noConfusion z
  have kS : (iS f).names.lookup ("self" : Str) = some .local := by simp [iS, List.lookup]
  have kF : (iS f).names.lookup f = some .local := by
    have e : (f == PySem.Str.ofString "self") = false := by simpa using f1
    simp [iS, List.lookup, e]
  have kC : (iS f).names.lookup ("__class__" : Str) = some .free := by
    have e : (PySem.Str.ofString "__class__" == f) = false := by simpa using Ne.symm f2
    have e2 : (PySem.Str.ofString "__class__" == PySem.Str.ofString "self") = false := by decide
    simp [iS, List.lookup, e, e2]
  have kU : (iS f).names.lookup ("super" : Str) = some .globalImplicit := by
    have e : (PySem.Str.ofString "super" == f) = false := by simpa using Ne.symm f3
    have e2 : (PySem.Str.ofString "super" == PySem.Str.ofString "self") = false := by decide
    have e3 : (PySem.Str.ofString "super" == PySem.Str.ofString "__class__") = false := by decide
    simp [iS, List.lookup, e, e2, e3]
  refine ks_codeAny_call_defAt (binds := [("self", .ref x), (f, v)]) hroom (X _ _ ho) rfl hlim (codeRec_of X hcd) rfl (BindsTo.of_eq ?_) nf (fun y hy => ?_) (fun h₁ hns hk₁ => ?_)
  · exact T.bnd _ _ _ _ _ _ _ _ _ _ _ _
  · simp only [List.mem_cons, List.not_mem_nil, or_false] at hy
    rcases hy with rfl | rfl
    · exact kS
    · exact kF
  have up : ∀ b o, b ≠ x → hp.get? b = some o → h₁.get? b = some o := fun b o _ e => hk₁ b o e
  have X₁ : K.In h₁ := X.keeps hk₁
  have hx₁ := hk₁ _ _ hx
  have I₁ : InstAt h₁ x (excO C t0) C none := ⟨hx₁, rfl, rfl, trivial⟩
  -- super().__init__('..')
  obtain ⟨pl, hpl⟩ := hev (callEnv (ksFn "__init__" q (iA f r1 r2) (iB f m j p0 p1 p2 p3 p4 p5 q1 q2 q3 q4) (iS f) .none .none doc pm an (.ref cda) ct cc) hp.objs.size fI)
  refine ks_wpAt_execs_cons (ks_wpAt_Expr_any (ks_wpAt_MethodCall (pl := pl) ?_ hpl))
  refine ks_wpAt_super_base (f := fI) (cc := cda) (ar := { arg := "self", annotation := none, pos := r1 }) kU kC (by decide) rfl (X₁ _ _ ho) rfl rfl rfl (X₁ _ _ hcode) rfl hvs hfile T.top ?_
  have hL : x ≠ hp.objs.size := Nat.ne_of_lt (Heap.lt_size hx)
  have h0k : ∀ b o, b ≠ x → hp.get? b = some o → (hideAll hp [x]).get? b = some o := fun b o hb e => hideAll_get _ e (by simp [hb])
  have h0x : (hideAll hp [x]).get? x = none := hideAll_none _ (by simp)
  have X0 : K.In (hideAll hp [x]) := fun b o e => h0k b o (fun z => by rw [z, hnx] at e; cases e) (X _ _ e)
  refine ks_loadName_global rfl kU (loadGlobal_builtin (G.keeps hk₁) T.sm (Bl.keeps hk₁) Bs ⟨rfl, ?_⟩)
  refine wpAny_loadName_free rfl kC rfl ⟨_, X₁ _ _ hcell, rfl⟩ ?_
  refine wpAny_loadName_local rfl kS hns (v := .ref x) ?_ ?_
  · have e : (PySem.Str.ofString "self" == f) = false := by simpa using Ne.symm f1
    simp [List.lookup, e]
  refine ks_wpAny_isType_cls (X₁ _ _ hC) rfl ⟨rfl, ?_⟩
  refine ks_wpAny_call_super (X₁ _ _ hC) rfl hx₁ rfl (fun c e => by cases e) (looks_mroIn X₁ T.mro) (fun h2 e2 k2 => ?_)
  have X₂ : K.In h2 := X₁.keeps k2
  have I₂ : InstAt h2 x (excO C t0) C none := ⟨k2 _ _ hx₁, rfl, rfl, trivial⟩
  have hsup : alongIn K "__init__" (((Value.ref C :: bm).dropWhile (· != .ref C)).drop 1) = some (some (.builtin "ValueError.__init__")) := by
    have q := T.sup
    unfold ks_superIn at q
    rw [hcl] at q
    exact q
  refine kxs_getMethod kxs_ValueError e2 (looks_opaque X₂ T.cs) (l₀ := .ref C :: bm) (fun A Q E s k q => wpAny_bind ((looks_clsIn X₂ hcl) A _ E s k (wpAny_pure q))) rfl X₂ hsup (I₂.type.andThen (looks_subIn X₂ T.veC)) hxC (by decide) ?_
  have k3 : ∀ b o, h2.get? b = some o → (h2.push (kxs_mw "ValueError.__init__" x)).get? b = some o := fun b o e => Heap.get?_push_of_some _ e
  have hn3 := (hns.keeps k2).keeps k3
  have F3 : Fr (hideAll hp [x]) hp.objs.size (h2.push (kxs_mw "ValueError.__init__" x)) (fun y => [(("self" : Str), .ref x), (f, v)].reverse.lookup y) := ⟨hn3, fun b o e => k3 _ _ (k2 _ _ (hk₁ _ _ (of_hideAll _ e))), Nat.le_of_eq (hideAll_size _ _)⟩
  have N3 : News (hideAll hp [x]) hp.objs.size (h2.push (kxs_mw "ValueError.__init__" x)) [(h2.objs.size, kxs_mw "ValueError.__init__" x), (x, excObj C t0 none .none)] := by
    intro p hp'
    simp only [List.mem_cons, List.not_mem_nil, or_false] at hp'
    rcases hp' with rfl | rfl
    · have lt : hp.objs.size < h2.objs.size := (hns.keeps k2).lt
      refine ⟨Heap.get?_push_at rfl rfl, Nat.ne_of_gt lt, ?_⟩
      cases z : (hideAll hp [x]).get? h2.objs.size with
      | none => rfl
      | some o => exact absurd (Nat.lt_trans lt (Heap.lt_size (of_hideAll _ z))) (Nat.lt_irrefl _)
    · exact ⟨k3 _ _ (k2 _ _ hx₁), hL, h0x⟩
  refine kxs_callWith1 N3 List.mem_cons_self ?_
  show wpAny _ _ (spliced ((false, eval (.Constant (.str m) j p3) _) :: backTo p4 (starEach [] _))) _ _ _
  refine Calls.spliced_cons (Calls.Constant_str ?_)
  refine Calls.spliced_nil ⟨kxs_at N3 List.mem_cons_self, ?_⟩
  refine kxs_call F3 X0 N3 PySem.F.excBase_ValueError T.inC List.mem_cons_self (.tail (fun z => ?_) (.head fun _ q => nomatch q)) (by show 1 ≤ sizeLine; rw [sizeLine_eq]; decide) fun t' h4 F4 N4 lt4 => ?_
  · have lt : hp.objs.size < h2.objs.size := (hns.keeps k2).lt
    have lx := Heap.lt_size hx
    have z' : h2.objs.size = x := z
    rw [z'] at lt
    exact absurd (Nat.lt_trans lt lx) (Nat.lt_irrefl _)
  have hx4 : h4.get? x = some (excO C t') := (N4 (x, excObj C t' none .none) (by simp)).1
  have k4 : ∀ b o, b ≠ x → hp.get? b = some o → h4.get? b = some o := fun b o hb e => F4.keep _ _ (h0k b o hb e)
  have X4 : K.In h4 := X0.keeps F4.keep
  have hn4 := F4.ns
  refine wpAt_of_wpAny ?_
  refine wpAny_execs_cons (plainObj_wpAny_Assign_Attribute ?_)
  refine wpAny_Name (wpAny_loadName_local rfl kF hn4 (v := v) ?_ ?_) f4
  · simp [List.lookup]
  refine wpAny_Name (wpAny_loadName_local rfl kS hn4 (v := .ref x) ?_ ?_) (by decide)
  · have e : (PySem.Str.ofString "self" == f) = false := by simpa using Ne.symm f1
    simp [List.lookup, e]
  refine set_plain X4 (ox := excO C t') (od := none) ⟨hx4, rfl, rfl, trivial⟩ T.sa ?_
  refine exc_osa X4 hx4 hcl (show refsVE (.ref C :: bm) = true from hbm) rfl T.noN (fun h5 tk5 dx k5 dn dne hx5 hn5 => ?_)
  refine wpAny_execs_nil ?_
  have z : hp.objs.size < h4.objs.size := hn4.lt
  exact hq h5 tk5 dx t' (fun b o hb e => k5 b o hb (k4 b o hb e)) hx5 (Nat.le_of_lt (Nat.lt_of_lt_of_le z dn)) dne hn5
/-- a made exception -/
structure Made (h h' : Heap) (e C d : Addr) (f : Str) (v : Value) : Prop where
  keep : ∀ b o, h.get? b = some o → h'.get? b = some o
  new : h.objs.size ≤ e
  obj : ∃ oe vs, h'.get? e = some oe ∧ oe.cls = .ref C ∧ oe.dict = some d ∧ oe.data = .fields vs ∧ vs[1]? = some .none
  dbig : h.objs.size ≤ d
  dne : d ≠ e
  ns : h'.Ns1 d (fun y => if y = f then some v else none)
theorem made (T : Txt prog K mg f C fI) (f1 : f ≠ "self") (f2 : f ≠ "__class__") (f3 : f ≠ "super") (f4 : (f == ("__debug__" : Str)) = false) {v : Value} (X : K.In s.heap) (G : s.heap.Ns mainGlobals mg) (Bl : s.heap.Ns builtinsNs mb) (Bs : mb "super" = some (.type "super")) (hlim : s.heap.NoLimit) (hroom : A.depth + 1 < recursionLimit)
    (hq : ∀ h' tk e d, Made s.heap h' e C d f v → R (.ok (.ret (.ref e))) { s with heap := h', toks := tk }) :
    codeAny (model prog w) A (.call (.ref C) ⟨[v], []⟩) R s := by
  obtain ⟨nm, q, N, bs, bm, sn, sub, ab, col, dd, k0, k1, k2, k3, k5, hC, hbm⟩ := T.cls
  obtain ⟨hp, g, dr, tk, os⟩ := s
  have k : ∀ b o, hp.get? b = some o → ((hp.push (kdv_tup [v])).push (excO C hp.objs.size)).get? b = some o := fun b o e => Heap.get?_push_of_some _ (Heap.get?_push_of_some _ e)
  have hget : ((hp.push (kdv_tup [v])).push (excO C hp.objs.size)).get? (hp.objs.size + 1) = some (excO C hp.objs.size) := by heap_get
  have hnx : K.lookup (hp.objs.size + 1) = none := by
    cases e : K.lookup (hp.objs.size + 1) with
    | none => rfl
    | some o =>
      have z : hp.get? (hp.objs.size + 1) = some o := X _ _ e
      exact absurd (Nat.lt_of_succ_lt (Heap.lt_size z)) (Nat.lt_irrefl _)
  refine call_own F.excBase_ValueError (fun X => refsVE_contains X bm hbm) (X _ _ hC) (looks_findIn X T.iC) (fun self => bind_fn X self T.tC) (by show 1 ≤ sizeLine; rw [sizeLine_eq]; decide) ?_
  refine ini (s := ⟨(hp.push (kdv_tup [v])).push (excO C hp.objs.size), g, dr, tk, os⟩) T f1 f2 f3 f4 (X.keeps k) (G.keeps k) (Bl.keeps k) Bs (hlim.keeps k) hget hnx ?_ fun h' tk' dx t1 k' hx dn dne hns => ?_
  · show A.depth + 1 < recursionLimit
    exact hroom
  · have old : ∀ b o, hp.get? b = some o → h'.get? b = some o := fun b o e => k' b o (Nat.ne_of_lt (Nat.lt_succ_of_lt (Heap.lt_size e))) (k b o e)
    have z : hp.objs.size + 1 + 1 ≤ dx := by
      first
        | (simpa only [Heap.size_push] using dn)
        | exact dn
        | (have q := dn; rw [Heap.size_push, Heap.size_push] at q; exact q)
    exact ⟨rfl, hq h' tk' (hp.objs.size + 1) dx ⟨old, Nat.le_succ _, ⟨_, _, hx, rfl, rfl, rfl, rfl⟩, Nat.le_trans (Nat.le_trans (Nat.le_succ _) (Nat.le_succ _)) z, dne, hns⟩⟩
end
end VX
end PySem
namespace VS
open PySem PySem.Spec PyProof.Rows L2
theorem relO_f {v : V} {v' : Value} {f : Str} (r : RelV v v') (g : Str) : RelO (List.lookup g [(f, v)]) (if g = f then some v' else none) := by
  by_cases hw : g = f
  · subst hw
    rw [if_pos rfl]
    have q : List.lookup g [(g, v)] = some v := by simp [List.lookup]
    rw [q]
    exact r
  · rw [if_neg hw]
    have qw : (g == f) = false := by simpa using hw
    have q2 : List.lookup g [(f, v)] = none := by simp [List.lookup, qw]
    rw [q2]
    trivial
section
variable {X : Cx} {C fI : Addr} {f : Str}
/-- C(e) -/
def tMkF (C : Addr) (f : Str) (ta : TA) : L2.St → Hp → XK → Prop := fun σ H Q => ta σ H fun vs H1 => ∃ v, vs = [v] ∧ ∀ d, H1 d = none → Q (.ref C) (some d) (upd H1 d (.xd [(f, v)]))
theorem pmk_f {x : Str} {a : Expr} {ta : TA} {p pos : Pos} {k : Nat} (T : PySem.VX.Txt X.prog X.K X.mg f C fI) (gC : X.mg x = some (.ref C)) (hr : Room k X.A) (ha : PA X [a] ta) (hg : Gl X x) (hdb : (x == ("__debug__" : Str)) = false)
    (f1 : f ≠ "self") (f2 : f ≠ "__class__") (f3 : f ≠ "super") (f4 : (f == ("__debug__" : Str)) = false)
    (he : starEach (a :: []) X.env = (false, eval a X.env) :: starEach [] X.env := by rfl) (hpl : (backTo pos (starEach [] X.env)).any (·.1) = false := by rfl) :
    PMk X (.Call (.Name x p) [a] [] pos) (tMkF C f ta) := by
  intro pins s σ H Q I h
  refine wpAny_Call_Name_kw (ld_glob I hg gC ?_ hdb)
  refine PySem.W.callWith_K (h₀ := X.base) I.ok.mod.kin T.kC (thn (ha.run pos pins s σ H _ I h) fun us s1 hh => ?_) he hpl
  obtain ⟨vs, H1, I1, r1, v, ev, q1⟩ := hh
  subst ev
  refine ⟨I1.kIn, ?_⟩
  cases r1 with
  | cons rv rn =>
    rename_i v' us'
    cases rn
    show wpAny _ _ (call (.ref C) [v']) _ _ _
    have hlim := I1.nolimit
    obtain ⟨mb, hb1, hb2⟩ := I1.mod.blt
    have G1 := I1.mod.glob.keeps I1.bk
    have B1 := hb1.keeps I1.bk
    obtain ⟨hp, g, dr, tk, os⟩ := s1
    refine wpAny_call (PySem.VX.made T f1 f2 f3 f4 I1.kIn G1 B1 ((hb2 "super" (by decide)).trans PyProof.Rows.Boot.«super») hlim (by have := hr.dp; omega) fun h' tk' e d M => ?_)
    show MkP X pins σ Q (.ref e) ⟨h', g, dr, tk', os⟩
    obtain ⟨oe, fv, hoe, hc, hd, hdat, h1⟩ := M.obj
    have hns := M.ns
    obtain ⟨G', g1, g2⟩ := restrict h' fun b => decide (b ≠ e)
    have gk : ∀ b, b ≠ e → G'.get? b = h'.get? b := fun b hb => g1 b (decide_eq_true hb)
    have ge : G'.get? e = none := g2 e (by simp)
    have old : ∀ b o, hp.get? b = some o → G'.get? b = some o := fun b o q => (gk b (Nat.ne_of_lt (Nat.lt_of_lt_of_le (Heap.lt_size q) M.new))).trans (M.keep b o q)
    have ob : ObjOk X.prog X.w (upd H1 d (.xd [(f, v)])) G' d (.xd [(f, v)]) :=
      ⟨_, hns.at (fun o q => (gk d M.dne).trans q), fun y => relO_f rv y⟩
    have J : Inv X pins σ (upd H1 d (.xd [(f, v)])) ⟨G', g, dr, tk', os⟩ := I1.laid (t' := tk') old M.dbig ob
    refine ⟨e, oe, fv, ⟨G', g, dr, tk', os⟩, _, .ref C, some d, rfl, J, fun b o q => ?_, ge, hoe, ⟨hc, hd⟩, hdat, h1, ?_, rfl, I1.bare, raises_own T.exC T.tyC, q1 d (I1.hok.fresh M.dbig)⟩
    · by_cases hb : b = e
      · have q' : G'.get? b = some o := q
        rw [hb, ge] at q'; cases q'
      · exact (gk b hb).symm.trans q
    · rw [upd_ne (Ne.symm M.dne)]
      exact I1.hok.fresh M.new
end
end VS
/-! VS28: raise, try, what is known of a caught exception. -/
namespace VS
open PySem PySem.Spec L2
/-! ### raise -/
def zRs (c : Str) : Sm := fun sd => .ex ⟨c, none⟩ sd
def zRsF (c f : Str) (e : Ev) : Sm := fun sd => (e sd).run fun w sd1 => .ex ⟨c, some (f, w.1)⟩ sd1
abbrev bmV : List Value := [.type "ValueError", .type "Exception", .type "BaseException", .type "object"]
/-- an own class that is raised with a text -/
structure XRaise (K : PySem.W.Frag) (mg : Mg) (c : Str) : Prop where
  ex : ∃ C : Addr, ClsAt K c C ∧ mg c = some (.ref C) ∧ PySem.W.excIn K C bmV "ValueError.__new__" = true ∧ PySem.W.keepIn K (.ref C) = true ∧ PySem.W.subIn K (.ref C) (.type "BaseException") = some true ∧ PySem.W.typeIn K (.ref C) = some (.type "type")
/-- an own class that is made with a field's value -/
structure XRaiseF (prog : Program) (K : PySem.W.Frag) (mg : Mg) (c f : Str) : Prop where
  ex : ∃ C fI : Addr, ClsAt K c C ∧ mg c = some (.ref C) ∧ PySem.VX.Txt prog K mg f C fI
section
variable {X : Cx} {W : WX} {pos p p2 pos' q : Pos} {a : Expr} {fa : Ev} {ps : List Nat}
theorem ss_rs {c m : Str} {j : Nat} (T : XRaise X.K X.mg c) (hc : X.calm = true) (tk : Takes X W) (hg : Gl X c := by rfl) (hdb : (c == ("__debug__" : Str)) = false := by decide) : SSp ps X W (.Raise (some (.Call (.Name c p) [.Constant (.str m) j p2] [] pos')) none pos) (zRs c) := by
  obtain ⟨C, hC, gC, xC, kC, bC, tC⟩ := T.ex
  refine PS.imp (ps_raise hc tk (pmk_own PySem.F.excBase_ValueError xC gC kC (raises_own bC tC) hg hdb)) fun D σ H ⟨Z, F, sd, ok, h⟩ => ?_
  exact h σ .refl (.ref C) none Z H ⟨⟨C, rfl, hC⟩, rfl⟩ ok .refl
theorem ss_rsF {c f : Str} {k : Nat} (T : XRaiseF X.prog X.K X.mg c f) (hc : X.calm = true) (tk : Takes X W) (hr : Room k X.A) (ha : SE X W a fa) (hg : Gl X c := by rfl) (hdb : (c == ("__debug__" : Str)) = false := by decide)
    (f1 : f ≠ "self" := by decide) (f2 : f ≠ "__class__" := by decide) (f3 : f ≠ "super" := by decide) (f4 : (f == ("__debug__" : Str)) = false := by decide)
    (he : starEach (a :: []) X.env = (false, eval a X.env) :: starEach [] X.env := by rfl) (hpl : (backTo pos' (starEach [] X.env)).any (·.1) = false := by rfl) :
    SSp ps X W (.Raise (some (.Call (.Name c p) [a] [] pos')) none pos) (zRsF c f fa) := by
  obtain ⟨C, fI, hC, gC, T⟩ := T.ex
  refine PS.imp (ps_raise hc tk (pmk_f T gC hr (pa_cons ha pa_nil he) hg hdb f1 f2 f3 f4 he hpl)) fun D σ H ⟨Z, F, sd, ok, h⟩ => ?_
  unfold zRsF at h
  refine eP.seq (G := fun _ _ => True) ok (fun w sd1 e v Z1 H1 r ok1 x1 => ?_) (fun x sd1 e => ?_) (fun e => ?_)
  · rw [e, R.run_ok] at h
    refine ⟨v, rfl, fun d hd => ?_⟩
    have b1 := ok1.base
    have g : Gr Z1 H1 (fun b => Z1 b ∨ b = d) (upd H1 d (.xd [(f, v)])) [] := Gr.fz hd
    refine h σ .refl (.ref C) (some d) _ _ ⟨⟨C, rfl, hC⟩, d, v, rfl, .inr rfl, upd_same, g.rp b1.z r⟩ ?_ (x1.trans (g.ext b1))
    have := g.ok ok1
    exact this.less fun b z => .inl z
  · rw [e] at h; exact h σ .refl
  · rw [e] at h; exact h
end
/-! ### what is known of a caught exception -/
def gIsE (tbl : List (Str × Bool)) : D → Option (D × Nat)
  | .exn c _ _ => match tbl.lookup c with
    | some b => some (.bl b, 0)
    | none => none
  | _ => none
def gFld (cs : List Str) (f : Str) : D → Option (D × Nat)
  | .exn c [g] [d] => if cs.contains c = true ∧ g = f then some (d, 0) else none
  | _ => none
/-- the answers of isinstance(.., cv), by the classes' names -/
def TblIs (K : PySem.W.Frag) (cv : Value) (tbl : List (Str × Bool)) : Prop := ∀ c b, tbl.lookup c = some b → ∀ D, ClsAt K c D → ExcC K D ∧ PySem.W.kitOne K (.ref D) cv = some b
def FldIs (K : PySem.W.Frag) (f : Str) (cs : List Str) : Prop := ∀ c, cs.contains c = true → ∀ D, ClsAt K c D → XfC K D ∧ PySem.W.findIn K (.ref D) f = some none
theorem TblIs.nil {K : PySem.W.Frag} {cv : Value} : TblIs K cv [] := fun _ _ e => by cases e
theorem TblIs.cons {K : PySem.W.Frag} {cv : Value} {c : Str} {b : Bool} {D : Addr} {tbl : List (Str × Bool)} (h1 : ClsAt K c D) (h2 : ExcC K D) (h3 : PySem.W.kitOne K (.ref D) cv = some b) (r : TblIs K cv tbl) : TblIs K cv ((c, b) :: tbl) := fun c' b' e D' h => by
  by_cases z : c' = c
  · subst z
    rw [List.lookup_cons_self] at e
    cases e
    have e2 := h.symm.trans h1
    cases e2
    exact ⟨h2, h3⟩
  · have zb : (c' == c) = false := by simpa using z
    rw [List.lookup_cons, zb] at e
    exact r c' b' e D' h
theorem FldIs.nil {K : PySem.W.Frag} {f : Str} : FldIs K f [] := fun _ e => by cases e
theorem FldIs.cons {K : PySem.W.Frag} {f c : Str} {D : Addr} {cs : List Str} (h1 : ClsAt K c D) (h2 : XfC K D) (h3 : PySem.W.findIn K (.ref D) f = some none) (r : FldIs K f cs) : FldIs K f (c :: cs) := fun c' e D' h => by
  by_cases z : c' = c
  · subst z
    have e2 := h.symm.trans h1
    cases e2
    exact ⟨h2, h3⟩
  · have zb : (c' == c) = false := by simpa using z
    rw [List.contains_cons, zb, Bool.false_or] at e
    exact r c' e D' h
def rIsX (K : PySem.W.Frag) : List V → Hp → VK → Prop := fun xs H Q => ∃ (a : Addr) (oe : Obj) (u : HO) (ws : Array Value) (D : Addr) (c : V) (cv : Value) (b : Bool), xs = [.ref a, c] ∧ H a = some (.frz oe u) ∧ oe.cls = .ref D ∧ oe.data = .fields ws ∧
  (oe.dict = none ∨ ∃ dx fs, oe.dict = some dx ∧ H dx = some (.xd fs)) ∧ ExcC K D ∧ (∀ u, RelV c u → u = cv) ∧ PySem.W.kitOne K (.ref D) cv = some b ∧ Q (.bl b) H
theorem call_isX {X : Cx} : CallR X (.builtin "isinstance") (rIsX X.K) := by
  intro pins s σ H xs us Q I r h
  obtain ⟨a, oe, u, ws, D, c, cv, b, rfl, ha, hc, hd, hdx, C, hcv, e, q⟩ := h
  cases r with
  | cons rx rr =>
    cases rr with
    | cons rt rr =>
      cases rr
      cases rx
      have ec := hcv _ rt
      subst ec
      have hget : s.heap.get? a = some oe := (I.hok a _ ha).1
      have J : ∃ od, PySem.W.InstAt s.heap a oe D od := by
        rcases hdx with hn | ⟨dx, fs, hs, hx⟩
        · obtain ⟨oc, od, oda, osl⟩ := oe
          dsimp only at hc hd hn
          subst hc hd hn
          exact ⟨none, hget, rfl, rfl, trivial⟩
        · obtain ⟨mA, hns, hr⟩ := I.hok dx _ hx
          obtain ⟨od', ho, hl⟩ := lookIn_ns hns
          obtain ⟨oc, od, oda, osl⟩ := oe
          dsimp only at hc hd hs
          subst hc hd hs
          exact ⟨some od', hget, rfl, rfl, ho⟩
      obtain ⟨od, J⟩ := J
      have hcl : (PySem.W.clsIn X.K D).isSome = true := by
        obtain ⟨cd, hc, _⟩ := PySem.W.any_some C.hd
        rw [hc]; rfl
      exact PySem.W.kia_one (PySem.W.kitx_exc (od := od) (ox := oe) hcl C.hg C.hk C.hs C.ha C.hn C.ht C.hm) I.kIn J e (fun z => nomatch z) fun tk => ⟨.bl b, H, I.kept (t' := tk) fun _ _ z => z, rfl, q⟩
section
variable {X : Cx} {W : WX} {pos p q : Pos} {a : Expr} {fa : Ev}
theorem se_isE {x : Str} {c : V} {cv : Value} {tbl : List (Str × Bool)} (ha : SE X W a fa) (hg : Gl X "isinstance") (hm : X.mg "isinstance" = none) (hb : PE X (.Name x q) (tC c)) (hcv : ∀ u, RelV c u → u = cv) (ht : TblIs X.K cv tbl)
    (hst : starEach [a, .Name x q] X.env = (false, eval a X.env) :: starEach [.Name x q] X.env := by rfl) (hst2 : starEach [.Name x q] X.env = (false, eval (.Name x q) X.env) :: starEach [] X.env := by rfl) (hpl : (backTo pos (starEach [.Name x q] X.env)).any (·.1) = false := by rfl) :
    SE X W (.Call (.Name "isinstance" p) [a, .Name x q] [] pos) (op1 (gIsE tbl) fa) := by
  refine PE.imp (pe_callB (call_isX (X := X)) hg hm (by decide +kernel) (pa_cons ha (pa_cons hb pa_nil hst2) hst) (by decide) (by decide) hst hpl) fun σ H Q ⟨Z, F, sd, ok, h⟩ => ?_
  refine eP.seq (G := fun _ _ => True) ok (fun w1 sd1 e1 v1 Z1 H1 r1 ok1 x1 => ?_) (fun x sd1 e1 => ?_) (fun e1 => ?_)
  · unfold op1 at h
    rw [e1, R.bind_ok] at h
    cases eg : gIsE tbl w1.1 with
    | none => rw [eg] at h; exact h.elim
    | some w =>
      rw [eg, lift_some] at h
      generalize w1.1 = d at r1 eg
      generalize e0 : ([] : List Addr) = o0 at r1
      have fin : ∀ {c' : Str} {fs : List Str} {vs : List D}, d = .exn c' fs vs → ∃ b, tbl.lookup c' = some b ∧ w = (.bl b, 0) := fun {c' fs vs} z => by
        subst z
        simp only [gIsE] at eg
        split at eg
        · rename_i b eb
          cases eg
          exact ⟨b, eb, rfl⟩
        · cases eg
      cases r1 with
      | exn _ z hh h1 h2 h3 h4 =>
        obtain ⟨b, eb, rfl⟩ := fin rfl
        obtain ⟨t1, t2⟩ := ht _ b eb _ h4
        exact ⟨_, _, _, _, _, c, cv, b, rfl, hh, h1, h3, .inl h2, t1, hcv, t2, h.pure x1 ok1 (.bl _ _)⟩
      | exnD _ z z2 hh h1 h2 h3 h5 h4 r =>
        obtain ⟨b, eb, rfl⟩ := fin rfl
        obtain ⟨t1, t2⟩ := ht _ b eb _ h4
        exact ⟨_, _, _, _, _, c, cv, b, rfl, hh, h1, h3, .inr ⟨_, _, h2, h5⟩, t1, hcv, t2, h.pure x1 ok1 (.bl _ _)⟩
      | _ => simp [gIsE] at eg
  · unfold op1 at h; rw [e1] at h; exact h
  · unfold op1 at h; rw [e1] at h; exact h
end
/-! e.f -/
def tXfX (K : PySem.W.Frag) (f : Str) (te : TE) : TE := fun σ H Q => te σ H fun x H1 => ∃ (a : Addr) (oe : Obj) (u : HO) (ws : Array Value) (D dx : Addr) (fs : List (Str × V)) (v : V), x = .ref a ∧ H1 a = some (.frz oe u) ∧ oe.cls = .ref D ∧ oe.data = .fields ws ∧ oe.dict = some dx ∧
  H1 dx = some (.xd fs) ∧ fs.lookup f = some v ∧ XfC K D ∧ PySem.W.findIn K (.ref D) f = some none ∧ Q v H1
section
variable {X : Cx} {W : WX} {pos p q : Pos} {a : Expr} {fa : Ev}
theorem pe_xfX {te : TE} {n : Str} (he : PE X a te) (hb : attributeBase a n X.env (eval a X.env) = eval a X.env := by rfl) : PE X (.Attribute a n pos) (tXfX X.K n te) := by
  refine ⟨fun pins s σ H Q I h => ?_⟩
  refine attr_of hb (thn (he.run pins s σ H _ I h) fun u s1 hh => ?_)
  obtain ⟨x, H1, I1, rx, e, oe, u', ws, D, dx, fs, v, rfl, ha, hc, hd, hdx, hx, l, T, hno, q⟩ := hh
  obtain rfl : u = Value.ref e := rx
  have hget : s1.heap.get? e = some oe := (I1.hok e _ ha).1
  obtain ⟨mA, hns, hr⟩ := I1.hok dx _ hx
  obtain ⟨od, ho, hl⟩ := lookIn_ns hns
  obtain ⟨u, hu, ru⟩ := RelO.some_of (v := v) (o := mA n) (by rw [← l]; exact hr n)
  have J : PySem.W.InstAt s1.heap e oe D (some od) := ⟨hget, hc, by unfold PySem.W.notCls; rw [hd] <;> rfl, by rw [hdx]; exact ho⟩
  exact HandSPX.exc_get I1.kIn J T.ga T.gg T.exC (PySem.W.findObj_own T.hdC hno rfl (by rw [hl, hu])) (handed_of ru) ⟨v, H1, I1.tok _, ru, q⟩
theorem se_fld {f : Str} {cs : List Str} (ha : SE X W a fa) (ht : FldIs X.K f cs) (hb : attributeBase a f X.env (eval a X.env) = eval a X.env := by rfl) : SE X W (.Attribute a f pos) (op1 (gFld cs f) fa) := by
  refine PE.imp (pe_xfX ha hb) fun σ H Q ⟨Z, F, sd, ok, h⟩ => ?_
  refine eP.seq (G := fun _ _ => True) ok (fun w1 sd1 e1 v1 Z1 H1 r1 ok1 x1 => ?_) (fun x sd1 e1 => ?_) (fun e1 => ?_)
  · unfold op1 at h
    rw [e1, R.bind_ok] at h
    cases eg : gFld cs f w1.1 with
    | none => rw [eg] at h; exact h.elim
    | some w =>
      rw [eg, lift_some] at h
      generalize w1.1 = d at r1 eg
      generalize e0 : ([] : List Addr) = o0 at r1
      cases r1 with
      | exnD _ z z2 hh h1 h2 h3 h5 h4 r =>
        rename_i c g oe u ws v d _
        simp only [gFld] at eg
        split at eg
        case isFalse => cases eg
        rename_i hc
        obtain ⟨hc, rfl⟩ := hc
        cases eg
        obtain ⟨t1, t2⟩ := ht _ hc _ h4
        obtain ⟨r0, _⟩ := r.uncons
        exact ⟨_, _, _, _, _, _, _, _, rfl, hh, h1, h3, h2, h5, by simp [List.lookup], t1, t2, h.pure x1 ok1 r0⟩
      | exn => simp [gFld] at eg
      | _ => simp [gFld] at eg
  · unfold op1 at h; rw [e1] at h; exact h
  · unfold op1 at h; rw [e1] at h; exact h
end
/-! ### try -/
def xD (x : Exn) : D := match x.fld with
  | none => .exn x.cls [] []
  | some (f, d) => .exn x.cls [f] [d]
def putX : Option Nat → Exn → SD → SD
  | none, _, sd => sd
  | some i, x, sd => sd.set i (some (xD x, 0))
def endS : Option Nat → O → O
  | some i, .nx sd => .nx (sd.set i none)
  | some i, .bk sd => .bk (sd.set i none)
  | some i, .ct sd => .ct (sd.set i none)
  | _, .ex _ _ => .stuck
  | _, o => o
abbrev Cls := List (List (Str × Bool) × Option Nat × Sm)
def pickX : Cls → Exn → SD → O
  | [], x, sd => .ex x sd
  | (tbl, n, f) :: r, x, sd => match tbl.lookup x.cls with
    | some true => endS n (f (putX n x sd))
    | some false => pickX r x sd
    | none => .stuck
def tryK (cs : Cls) : O → O
  | .ex x sd => pickX cs x sd
  | o => o
def zTry (body : Sm) (cs : Cls) : Sm := fun sd => tryK cs (body sd)
/-- what a clause for c (its value: cv) answers, by the classes' names -/
def TblEx (K : PySem.W.Frag) (cv : Value) (tbl : List (Str × Bool)) : Prop := ∀ c b, tbl.lookup c = some b → ∀ D, ClsAt K c D → PySem.W.exmOne K (.ref D) cv = some b
theorem TblEx.nil {K : PySem.W.Frag} {cv : Value} : TblEx K cv [] := fun _ _ e => by cases e
theorem TblEx.cons {K : PySem.W.Frag} {cv : Value} {c : Str} {b : Bool} {D : Addr} {tbl : List (Str × Bool)} (h1 : ClsAt K c D) (h3 : PySem.W.exmOne K (.ref D) cv = some b) (r : TblEx K cv tbl) : TblEx K cv ((c, b) :: tbl) := fun c' b' e D' h => by
  by_cases z : c' = c
  · subst z
    rw [List.lookup_cons_self] at e
    cases e
    have e2 := h.symm.trans h1
    cases e2
    exact h3
  · have zb : (c' == c) = false := by simpa using z
    rw [List.lookup_cons, zb] at e
    exact r c' b' e D' h
/-- the suites, each in a context that lets nothing out -/
inductive HdR (X : Cx) : List ExceptHandler → Cls → List (Value × Option Nat × TX) → Prop
  | nil : HdR X [] [] []
  | cons {x : Str} {c : Value} {tbl : List (Str × Bool)} {f : Sm} {b₀ : Stmt} {suite : List Stmt} {np pos' : Pos} {hds : List ExceptHandler} {cs : Cls} {l : List (Value × Option Nat × TX)} (hc : Names X x c) (ht : TblEx X.K c tbl)
      (hsu : ∀ (a : Addr) (pn : List (Addr × Obj)), SSs (X.suite a pn) W0 (b₀ :: suite) f) (r : HdR X hds cs l) :
      HdR X (.ExceptHandler (some (.Name x np)) none (b₀ :: suite) pos' :: hds) ((tbl, none, f) :: cs) ((c, none, fun _ _ _ _ => tS X.K X.mg W0 [] f) :: l)
  | as {x n : Str} {i : Nat} {c : Value} {tbl : List (Str × Bool)} {f : Sm} {b₀ : Stmt} {suite : List Stmt} {np pos' : Pos} {hds : List ExceptHandler} {cs : Cls} {l : List (Value × Option Nat × TX)} (hi : X.N[i]? = some n) (hln : X.env.kindOf n = some .local) (hc : Names X x c) (ht : TblEx X.K c tbl)
      (hsu : ∀ (a : Addr) (pn : List (Addr × Obj)), SSs (X.suite a pn) W0 (b₀ :: suite) f) (r : HdR X hds cs l) :
      HdR X (.ExceptHandler (some (.Name x np)) (some n) (b₀ :: suite) pos' :: hds) ((tbl, some i, f) :: cs) ((c, some i, fun _ _ _ _ => tS X.K X.mg W0 [] f) :: l)
theorem HdR.t {X : Cx} {hds : List ExceptHandler} {cs : Cls} {l : List (Value × Option Nat × TX)} (h : HdR X hds cs l) : HdT X hds l := by
  induction h with
  | nil => exact .nil
  | cons hc ht hsu r ih => exact .cons hc (fun a oe cls d pn => hsu a pn) ih
  | as hi hln hc ht hsu r ih => exact .as hi hln hc (fun a oe cls d pn => hsu a pn) ih
theorem Slots.setx {K : PySem.W.Frag} {Z : Pz} {H : Hp} {σ : L2.St} {sd : SD} {o : List Addr} (h : Slots K Z H σ sd o) (x : Option V) : ∀ {i : Nat}, sd[i]? = some none ∨ sd[i]? = none → Slots K Z H (σ.set i x) sd o := by
  induction h with
  | nil => intro i _; exact .nil
  | skip h ih =>
    intro i hi
    cases i with
    | zero => exact .skip h
    | succ i => exact .skip (ih hi)
  | cons r h ih =>
    intro i hi
    cases i with
    | zero => rcases hi with hi | hi <;> cases hi
    | succ i => exact .cons r (ih hi)
theorem Ok.unset {K : PySem.W.Frag} {Z F : Pz} {H : Hp} {σ : L2.St} {sd : SD} (i : Nat) (h : Ok K Z F H σ sd) : Ok K Z F H (σ.set i none) (sd.set i none) := by
  obtain ⟨o, s, r⟩ := (h.forget i).ex
  refine ⟨o, s.setx none ?_, r⟩
  by_cases hl : i < sd.length
  · exact .inl (List.getElem?_set_self hl)
  · exact .inr (List.getElem?_eq_none (by simpa using hl))
theorem pin0 {σ σ' : L2.St} : Pin [] σ σ' := fun i m => absurd m List.not_mem_nil
theorem ends_sound {K : PySem.W.Frag} {mg : Mg} {W : WX} {Z F Z2 : Pz} {H H2 : Hp} {σ σ2 : L2.St} {D : Ends} (n : Option Nat) {o : O} (h : sP K mg W [] Z F σ H (endS n o) D) (x : Ext F Z H Z2 H2) : sP K mg W0 [] Z2 F σ2 H2 o (enD n D) := by
  cases o with
  | nx sd =>
    cases n with
    | none => exact fun σ' Z' H' _ ok x' => h σ' Z' H' pin0 ok (x.trans x')
    | some i => exact fun σ' Z' H' _ ok x' => h _ Z' H' pin0 (ok.unset i) (x.trans x')
  | bk sd =>
    cases n with
    | none => exact fun σ' Z' H' _ ok x' => h σ' Z' H' pin0 ok (x.trans x')
    | some i => exact fun σ' Z' H' _ ok x' => h _ Z' H' pin0 (ok.unset i) (x.trans x')
  | ct sd =>
    cases n with
    | none => exact fun σ' Z' H' _ ok x' => h σ' Z' H' pin0 ok (x.trans x')
    | some i => exact fun σ' Z' H' _ ok x' => h _ Z' H' pin0 (ok.unset i) (x.trans x')
  | rt w sd =>
    cases n with
    | none => exact fun v Z' H' o σ' _ r nd nf ok x' => h v Z' H' o σ' pin0 r nd nf ok (x.trans x')
    | some i => exact fun v Z' H' o σ' _ r nd nf ok x' => h v Z' H' o σ' pin0 r nd nf ok (x.trans x')
  | ex e sd => cases n <;> exact h.elim
  | stuck => cases n <;> exact h.elim
theorem xD_rp {K : PySem.W.Frag} {mg : Mg} {Z : Pz} {H : Hp} {x : Exn} {C a : Addr} {dd : Option Addr} {oe : Obj} (hC : ClsAt K x.cls C) (hf : match x.fld with
    | none => dd = none
    | some (f, d) => ∃ a v, dd = some a ∧ Z a ∧ H a = some (.xd [(f, v)]) ∧ Rp K Z H v d 0 []) (hz0 : ∀ b, Z b → ∃ o, H b = some o) (na : H a = none) (hz : Zc (.ref C) dd oe) (hfl : ∃ vs, oe.data = .fields vs) :
    Rp K (fun b => Z b ∨ b = a) (upd H a (.frz oe tru)) (.ref a) (xD x) 0 [] := by
  obtain ⟨vs, hv⟩ := hfl
  unfold xD
  cases e : x.fld with
  | none =>
    rw [e] at hf
    exact .exn 0 (.inr rfl) upd_same hz.1 (hz.2.trans hf) hv hC
  | some p =>
    rw [e] at hf
    obtain ⟨f, d⟩ := p
    obtain ⟨b, v, hb, zb, hx, r⟩ := hf
    have g : Gr Z H (fun b => Z b ∨ b = a) (upd H a (.frz oe tru)) [] := Gr.fz na
    have r' := g.rp hz0 r
    refine .exnD 0 (.inr rfl) (.inl zb) upd_same hz.1 (hz.2.trans hb) hv ?_ hC (.cons (o := []) r' (.nil 0))
    rw [upd_ne (ne_of_none hx na)]; exact hx
section
variable {X : Cx} {W : WX} {pos : Pos} {body : List Stmt} {h₀ : ExceptHandler} {hds : List ExceptHandler} {fb : Sm} {cs : Cls} {l : List (Value × Option Nat × TX)}
theorem pick_sound {Z F : Pz} {D : Ends} {hds : List ExceptHandler} (hr : HdR X hds cs l) : ∀ {σ : L2.St} {H : Hp} {x : Exn} {sd : SD}, Ext F Z H Z H → sP X.K X.mg W [] Z F σ H (pickX cs x sd) D →
    ∀ c dd Z' H', ExcAt X.K X.mg Z' H' x c dd → Ok X.K Z' F H' σ sd → Ext F Z H Z' H' → wTry X.K W D l c dd σ H' := by
  induction hr with
  | nil =>
    intro σ H x sd _ h c dd Z' H' ea ok ex
    exact h σ .refl c dd Z' H' ea ok ex
  | @cons x' c' tbl f b₀ suite np pos' hds cs l hc ht hsu r ih =>
    intro σ H x sd he h c dd Z' H' ea ok ex
    obtain ⟨⟨C, rfl, hC⟩, hf⟩ := ea
    unfold pickX at h
    cases q : tbl.lookup x.cls with
    | none => rw [q] at h; exact h.elim
    | some b =>
      rw [q] at h
      refine ⟨b, ht _ _ q C hC, fun hb a oe na hz hfl => ?_, fun hb => ?_⟩
      · subst hb
        have b := ok.base
        have g : Gr Z' H' (fun b => Z' b ∨ b = a) (upd H' a (.frz oe tru)) [] := Gr.fz na
        have r0 := xD_rp (mg := X.mg) hC hf b.z na hz hfl
        refine ⟨_, F, putX none x sd, ?_, ends_sound none h (ex.trans (g.ext b))⟩
        exact (g.ok ok).less fun b z => .inl z
      · subst hb
        exact ih he h _ _ Z' H' ⟨⟨C, rfl, hC⟩, hf⟩ ok ex
  | @as x' n i c' tbl f b₀ suite np pos' hds cs l hi hln hc ht hsu r ih =>
    intro σ H x sd he h c dd Z' H' ea ok ex
    obtain ⟨⟨C, rfl, hC⟩, hf⟩ := ea
    unfold pickX at h
    cases q : tbl.lookup x.cls with
    | none => rw [q] at h; exact h.elim
    | some b =>
      rw [q] at h
      refine ⟨b, ht _ _ q C hC, fun hb a oe na hz hfl => ?_, fun hb => ?_⟩
      · subst hb
        have b := ok.base
        have g : Gr Z' H' (fun b => Z' b ∨ b = a) (upd H' a (.frz oe tru)) [] := Gr.fz na
        have r0 := xD_rp (mg := X.mg) hC hf b.z na hz hfl
        refine ⟨_, F, putX (some i) x sd, ?_, ends_sound (some i) h (ex.trans (g.ext b))⟩
        exact (g.ok ok).store r0 .nil fun a m => absurd m List.not_mem_nil
      · subst hb
        exact ih he h _ _ Z' H' ⟨⟨C, rfl, hC⟩, hf⟩ ok ex
theorem ss_try (hs : X.stack = X.env :: X.outer) (hf : X.env.frame = some X.env.locals) (hN : X.N.Nodup) (hx : X.ex = []) (tk : Takes X W)
    (hb : ∀ (W : WX) (pn : List (Addr × Obj)) (xe : Value → Shared → Prop), Takes (X.tr pn xe) W → PassesOwn (model X.prog X.w) X.A X.env xe → SSs (X.tr pn xe) W body fb)
    (hh : HdR X (h₀ :: hds) cs l) : SS X W (.Try body (h₀ :: hds) [] [] pos) (zTry fb cs) := by
  refine PS.imp (ps_tryT (tb := fun W => tS X.K X.mg W [] fb) hs hf hN hx tk hb hh.t) fun D σ H ⟨Z, F, sd, ok, h⟩ => ?_
  refine ⟨Z, F, sd, ok, ?_⟩
  unfold zTry tryK at h
  cases e : fb sd with
  | ex x sd1 =>
    rw [e] at h
    exact fun σ' _ => pick_sound hh .refl (h.go .refl (fun i m => absurd m List.not_mem_nil))
  | nx sd1 => rw [e] at h; exact h
  | bk sd1 => rw [e] at h; exact h
  | ct sd1 => rw [e] at h; exact h
  | rt w sd1 => rw [e] at h; exact h
  | stuck => rw [e] at h; exact h
end
end VS
/-! VS29: defs called within an except suite. -/
namespace VS
open PySem PySem.Spec L2
open PyProof.Rows
abbrev RoomH := L2H.RoomH
/-- the context of such a def's body -/
def cxU (P : Program) (w : World) (K : PySem.W.Frag) (mg : Mg) (base : Heap) (N : List Str) (qual : Str) (scope : Scope) (f : Addr) (cd : Value) (A : Around) (outer : List Env) (s : Shared) (H : Hp) : Cx :=
  { cxOf (L2.CX P w) P w K mg base N qual scope f cd A outer s H E0 with calm := false }
structure FnU (P : Program) (w : World) (K : PySem.W.Frag) (mg : Mg) (base : Heap) (k : Nat) (f : Addr) (fd : FuncData) (ps : List Str) (sp : Sp) : Prop where
  len : ∀ vs H Q E, sp vs H Q E → vs.length = ps.length
  run : ∀ (A : Around) (outer : List Env) (s : Shared) (H : Hp) (args : Args) (us : List Value) (vs : List V) (Q : VK), RoomH k A → Env0 P w K mg base A outer s H → BindsTo s fd args (ps.zip us) → Vals vs us → sp vs H Q E0 →
    codeAny (model P w) A (.call (.ref f) args) (CR (L2.CX P w) outer P w H s Q E0) s
theorem inv_startU {P : Program} {w : World} {K : PySem.W.Frag} {mg : Mg} {base : Heap} {N ps : List Str} {qual : Str} {scope : Scope} {f : Addr} {cd : Value} {A : Around} {outer : List Env} {s s1 : Shared} {H : Hp} {us : List Value} {vs : List V}
    (S : FnScope N ps scope) (e0 : Env0 P w K mg base A outer s H) (hl : vs.length = ps.length) (r : Vals vs us)
    (x : InCallC s s.heap.objs.size (bindL (envOfC qual scope s.heap.objs.size f cd).kindOf (ps.zip us) fun _ => none) (cellsFrom (s.heap.objs.size + 1) scope.names []) (bindC (envOfC qual scope s.heap.objs.size f cd).kindOf (ps.zip us) fun _ => none) s1) :
    Inv (cxU P w K mg base N qual scope f cd A outer s H) [] (L2.start N vs) H s1 := by
  have I0 := inv_start (CX := L2.CX P w) (E := E0) (A := { A with handled := none }) (N := N) S rfl ⟨e0.frames, e0.mod, e0.bs, e0.bsz, e0.funs, e0.frf, e0.hok, e0.bare⟩ hl r x
  have o := I0.ok
  exact ⟨⟨o.mod, o.kind, o.glob, o.blt, o.above, o.inj, o.has, o.cab, (fun z => Bool.noConfusion (show false = true from z)), Around.frames_deeper e0.frames, o.stk, o.exf, o.bs, o.bsz, o.noex, o.exfs, o.funs, o.frf⟩, I0.os, I0.bare, I0.base, I0.loc, I0.cell, I0.free, I0.freeC, I0.pin, I0.hok, I0.len⟩
theorem fn_ofU {P : Program} {w : World} {K : PySem.W.Frag} {mg : Mg} {base : Heap} {k : Nat} {f : Addr} {name qual : Str} {params : Arguments} {body : List Stmt} {scope : Scope} {dV kV doc pm cdv ct oc : Value} {an od : Option Addr}
    {osl : Array (Option Value)} {N ps : List Str} {sp : Sp} (lk : K.lookup f = some ⟨oc, od, .func (PySem.W.fnOf name qual params body scope dV kV doc pm an cdv ct), osl⟩) (hcd : PySem.W.codeIn K cdv qual = true) (S : FnScope N ps scope)
    (len : ∀ vs H Q E, sp vs H Q E → vs.length = ps.length)
    (hbody : ∀ (A : Around) (outer : List Env) (s : Shared) (H : Hp) (vs : List V) (Q : VK), RoomH k (A.deeper (envOfC qual scope s.heap.objs.size f cdv)) → sp vs H Q E0 →
      ∃ t, PSs (cxU P w K mg base N qual scope f cdv A outer s H) body t ∧ t { nx := fun _ H' => Q .non H', rt := Q } (L2.start N vs) H) :
    FnU P w K mg base (k + 1) f (PySem.W.fnOf name qual params body scope dV kV doc pm an cdv ct) ps sp := by
  refine ⟨len, fun A outer s H args us vs Q hr e0 hb r hsp => ?_⟩
  have hl := len _ _ _ _ hsp
  have KX : K.In s.heap := e0.mod.kin.keeps fun b o e => (e0.bs b o e).1
  have lim : s.heap.NoLimit := e0.mod.nolimit.keeps fun b o e => (e0.bs b o e).1
  have hkind : ∀ y ∈ ps.zip us, scope.names.lookup y.1 = some .local ∨ (scope.names.lookup y.1 = some .cell ∧ ((cellsFrom (s.heap.objs.size + 1) scope.names []).lookup y.1).isSome = true) := fun ⟨n, v⟩ hy => by
    rcases S.par n (List.of_mem_zip hy).1 with q | q
    · exact .inl q
    · exact .inr ⟨q, PySem.W.cellsFrom_some _ _ _ (.inl q)⟩
  refine codeAny_call_function hr.depth (KX _ _ lk) rfl S.co S.gen rfl (PySem.W.codeRec_of KX hcd) (hb _ _ _ _ ?_)
  refine wpAny_newFunctionEnv_cells S.kind hkind fun env he s1 x => ?_
  subst he
  refine ⟨lim.keeps x.toInCall.keep, codeAny_func ?_⟩
  obtain ⟨t, ht, hq⟩ := hbody A outer s H vs Q (hr.deeper _) hsp
  have I : Inv (cxU P w K mg base N qual scope f cdv A outer s H) [] (L2.start N vs) H s1 := inv_startU S e0 hl r x
  refine wpAny_mono (ht.run [] s1 (L2.start N vs) H _ I hq) (fun fl s' hs => ?_) fun e s' hs => hs
  have fin : ∀ {σ' : L2.St} {H' : Hp} {v : V} {u : Value}, Inv (cxU P w K mg base N qual scope f cdv A outer s H) [] σ' H' s' → RelV v u → Q v H' → CE outer P w H s Q u s' :=
    fun {σ' H' v u} J rv q => ⟨v, H', J.os, J.bare, J.base, J.hok, rv, q⟩
  cases fl with
  | ret u =>
    obtain ⟨v, σ', H', J, rv, q⟩ := hs
    exact fin J rv q
  | next =>
    obtain ⟨σ', H', J, q⟩ := hs
    exact fin (v := V.non) (u := Value.none) J rfl q
  | brk =>
    obtain ⟨_, _, _, q⟩ := hs
    exact False.elim q
  | cont =>
    obtain ⟨_, _, _, q⟩ := hs
    exact False.elim q
/-- what holds in a body that may run in an except suite, and in the suite itself -/
structure Cu (X : Cx) (W : WX) (k : Nat) : Prop where
  nd : X.N.Nodup
  tk : Takes X W
  hr : RoomH k X.A
theorem takesF {X : Cx} : Takes X W0 := fun _ _ ⟨_, _, _, _, _, _, _, _, _, _, _, _, _, _, _, _, w⟩ => w.elim
theorem Cg.suite {X : Cx} {W : WX} {k : Nat} (c : Cg X W k) (a : Addr) (pn : List (Addr × Obj)) : Cu (X.suite a pn) W0 k := ⟨c.nd, takesF, ⟨c.hr.dp, c.hr.un⟩⟩
theorem Cg.tr {X : Cx} {W W' : WX} {k : Nat} (c : Cg X W k) {pn : List (Addr × Obj)} {xe : Value → Shared → Prop} (tk : Takes (X.tr pn xe) W') (hp : PassesOwn (model X.prog X.w) X.A X.env xe) : Cg (X.tr pn xe) W' k := ⟨c.calm, c.nd, hp, tk, c.hr⟩
section
variable {P : Program} {w : World} {K : PySem.W.Frag} {mg : Mg} {base : Heap}
structure DefU (P : Program) (w : World) (K : PySem.W.Frag) (mg : Mg) (base : Heap) (x : Str) (k : Nat) (n : Nat) (f : Fn) : Prop where
  ex : ∃ (fa : Addr) (fd : FuncData) (ps : List Str), mg x = some (.ref fa) ∧ PySem.W.keepIn K (.ref fa) = true ∧ Binds K fd ps [] ∧ FnU P w K mg base k fa fd ps (spF K mg n f)
theorem defU_ok {x : Str} {st : Stmt} {N ps : List Str} {k : Nat} {body : Sm} (hf : IsFn K mg x st) (S : FnScope N ps (defScope st))
    (hb : ∀ (kV doc pm : Value) (an : Option Addr) (cdv ct : Value) (us : List Value), us.length = ps.length → bindArgs (PySem.W.fnOf x x (defArgs st) (defBody st) (defScope st) .none kV doc pm an cdv ct) ⟨us, []⟩ = pure (ps.zip us))
    (hbody : ∀ (f : Addr) (cdv : Value) (A : Around) (outer : List Env) (s : Shared) (H : Hp), Cu (cxU P w K mg base N x (defScope st) f cdv A outer s H) W0 k →
      SSs (cxU P w K mg base N x (defScope st) f cdv A outer s H) W0 (defBody st) body) : DefU P w K mg base x (k + 1) ps.length (fnOf N.length body) := by
  obtain ⟨f, fd, h1, Fu⟩ := hf
  refine ⟨f, fd, ps, h1, Fu.kp, Fu.binds hb, ?_⟩
  obtain ⟨oc, od, kV, doc, pm, an, cdv, ct, osl, rfl, lk, hcd⟩ := Fu.ex
  refine fn_ofU lk hcd S (fun vs H Q E h => ?_) fun A outer s H vs Q hr h => ⟨_, hbody f cdv A outer s H ⟨S.nd, takesF, hr⟩, ?_⟩
  · obtain ⟨_, _, _, _, h, _⟩ := h
    exact h
  · obtain ⟨Z, F, ws, o, hl, s0, nd, nf, b, h⟩ := h
    have hlen : vs.length = ws.length := by
      have := s0.length
      simpa using this
    refine ⟨Z, F, ws.map some ++ List.replicate (N.length - ws.length) none, ⟨o, ?_, nd, nf, b⟩, ?_⟩
    · unfold L2.start
      rw [hlen]
      exact s0.fill _
    · unfold fnOf at h
      cases e : body (ws.map some ++ List.replicate (N.length - ws.length) none) with
      | nx sd1 =>
        rw [e] at h
        exact fun σ' Z' H' _ ok x => h .non Z' H' [] (.non _) .nil (fun _ m => absurd m List.not_mem_nil) ok.unnil.base x
      | rt w1 sd1 =>
        rw [e] at h
        exact fun v Z' H' o' σ' _ r nd nf ok x => h v Z' H' o' r nd nf ok.base x
      | ex y sd1 =>
        rw [e] at h
        exact fun σ' _ c dd Z' H' a ok x => h c dd Z' H' a ok.base x
      | bk sd1 => rw [e] at h; exact h.elim
      | ct sd1 => rw [e] at h; exact h.elim
      | stuck => rw [e] at h; exact h.elim
end
section
variable {X : Cx} {k : Nat} {f : Addr} {fd : FuncData} {ps : List Str} {sp : Sp} {x : Str} {q pos : Pos} {e : Expr} {es : List Expr} {t : TA}
theorem run_fnU {pins : List (Addr × Obj)} {σ : L2.St} {H : Hp} {s : Shared} {Q : VK} {us : List Value} {vs : List V} (F : FnU X.prog X.w X.K X.mg X.base k f fd ps sp) (hr : RoomH k X.A) (hb : Binds X.K fd ps [])
    (I : Inv X pins σ H s) (r : Vals vs us) (h : sp vs H Q E0) : wpAny (model X.prog X.w) X.A (call (.ref f) us) (EP X pins σ Q) X.xe s := by
  have hl : us.length = ps.length := by rw [← r.length]; exact F.len _ _ _ _ h
  have b := hb s us I.kIn (by rw [List.append_nil]; exact hl)
  rw [List.append_nil] at b
  refine wpAny_call (codeAny_mono (F.run X.A X.stack s H ⟨us, []⟩ us vs Q hr I.env0 b r h) fun r s' hq => ?_)
  cases r with
  | error e =>
    obtain ⟨_, _, _, _, _, _, _, _, _, _, _, _, z⟩ := hq
    exact z.elim
  | ok fl =>
    cases fl with
    | ret u => exact I.after hq
    | next => exact False.elim hq
    | brk => exact False.elim hq
    | cont => exact False.elim hq
theorem pe_callU (F : FnU X.prog X.w X.K X.mg X.base k f fd ps sp) (hr : RoomH k X.A) (hg : Gl X x) (hm : X.mg x = some (.ref f)) (hk : PySem.W.keepIn X.K (.ref f) = true) (hb : Binds X.K fd ps [])
    (ha : PA X (e :: es) t) (hdb : (x == ("__debug__" : Str)) = false := by decide) (he : starEach (e :: es) X.env = (false, eval e X.env) :: starEach es X.env := by rfl) (hpl : (backTo pos (starEach es X.env)).any (·.1) = false := by rfl) :
    PE X (.Call (.Name x q) (e :: es) [] pos) (tCallS sp (fun _ => E0) t) := by
  refine ⟨fun pins s σ H Q I h => ?_⟩
  refine wpAny_Call_Name_kw (ld_glob I hg hm ?_ hdb)
  refine PySem.W.callWith_K (h₀ := X.base) I.ok.mod.kin hk (thn (ha.run pos pins s σ H _ I h) fun us s1 ⟨vs, H1, I1, r, q⟩ => ⟨I1.kIn, ?_⟩) he hpl
  exact run_fnU F hr hb I1 r q
end
/-- such a call: what it may raise is a dead end -/
def FR.rU (r : FR) (sd : SD) : R (D × Nat) := match r with
  | .ok w => .ok w sd
  | _ => .stuck
@[simp] theorem FR.rU_ok (w : D × Nat) (sd : SD) : (FR.ok w).rU sd = .ok w sd := eqr rfl
def calU (n : Nat) (f : Fn) (fs : Eg) : Ev := fun sd => (fs sd).bind fun xs sd1 => if (xs.length == n) = true then (f xs).rU sd1 else .stuck
section
variable {X : Cx} {W : WX} {pos p : Pos} {a : Expr} {es : List Expr} {fs : Eg}
theorem se_callU {x : Str} {k n : Nat} {f : Fn} (G : DefU X.prog X.w X.K X.mg X.base x k n f) (hr : RoomH k X.A) (ha : SGa X W (a :: es) fs) (hg : Gl X x := by rfl) (hdb : (x == ("__debug__" : Str)) = false := by decide)
    (he : starEach (a :: es) X.env = (false, eval a X.env) :: starEach es X.env := by rfl) (hpl : (backTo pos (starEach es X.env)).any (·.1) = false := by rfl) : SE X W (.Call (.Name x p) (a :: es) [] pos) (calU n f fs) := by
  obtain ⟨fa, fd, ps, h1, h2, h3, h6⟩ := G.ex
  refine PE.imp (pe_callU h6 hr hg h1 h2 h3 ha hdb he hpl) fun σ H Q ⟨Z, F, sd, ok, h⟩ => ?_
  refine ⟨Z, F, sd, ok, ?_⟩
  unfold calU at h
  cases e : fs sd with
  | stuck => rw [e] at h; exact h
  | exc y sd1 => rw [e] at h; exact h
  | ok ws sd1 =>
    rw [e, R.bind_ok] at h
    intro vs Z1 H1 o s nd nf ok1 x1
    obtain ⟨ow, ss, ndw, nfw, b⟩ := ok1.ex
    split at h
    case isFalse => exact h.elim
    rename_i hn
    have hlen : vs.length = n := by
      have q1 := s.length
      rw [List.length_map, List.length_map] at q1
      rw [q1]
      exact beq_iff_eq.mp hn
    refine ⟨Z1, uni F ow, ws, o, hlen, s, nd, fun a m z => ?_, ⟨b.z, fun a f => b.f a ?_⟩, ?_⟩
    · rcases z with z | z
      · exact nf a m z
      · exact nfw a z (.inr m)
    · rcases f with (f | f) | f
      · exact .inl (.inl f)
      · exact .inr f
      · exact .inl (.inr f)
    · cases e2 : f ws with
      | ok w =>
        rw [e2, FR.rU_ok] at h
        intro v Z2 H2 o2 r2 nd2 nf2 b2 x2
        refine h v Z2 H2 o2 r2 nd2 (fun a m z => nf2 a m (.inl z)) ⟨ow, ss.keep x2.z fun a m => x2.f a (.inr m), ndw, fun a m z => ?_, b2.z, fun a f => b2.f a ?_⟩ (x1.trans (x2.mono fun _ z => .inl z))
        · rcases z with z | z
          · exact nfw a m (.inl z)
          · exact nf2 a z (.inr m)
        · rcases f with (f | f) | f
          · exact .inl (.inl f)
          · exact .inr f
          · exact .inl (.inr f)
      | exc y => rw [e2] at h; exact h.elim
      | stuck => rw [e2] at h; exact h.elim
end
end VS
/-! VS30: the rules of exceptions as the printer uses them. -/
namespace VS
open PySem PySem.Spec L2
/-- except x: what it answers, by the classes' names -/
def ExN (K : PySem.W.Frag) (mg : Mg) (x : Str) (tbl : List (Str × Bool)) : Prop := ∃ c, mg x = some c ∧ TblEx K c tbl
/-- isinstance(.., x) -/
def IsN (K : PySem.W.Frag) (mg : Mg) (x : Str) (tbl : List (Str × Bool)) : Prop := ∃ cv, TblIs K cv tbl ∧ ((∃ C, cv = .ref C ∧ mg x = some (.ref C)) ∨ ∃ T, cv = .type T ∧ mg x = none ∧ bootBuiltins x = some (.type T) ∧ x ≠ "__name__")
def HdE (X : Cx) (hds : List ExceptHandler) (cs : Cls) : Prop := ∃ l, HdR X hds cs l
theorem Cu.hu {X : Cx} {W : WX} {k : Nat} (c : Cu X W k) : X.A.units + 64 < cLine := by have := c.hr.un; omega
section
variable {X : Cx} {W : WX} {pos p q : Pos} {a : Expr} {fa : Ev}
theorem hd_nil : HdE X [] [] := ⟨_, .nil⟩
theorem hd_as {x n : Str} (i : Nat) {tbl : List (Str × Bool)} {f : Sm} {b₀ : Stmt} {suite : List Stmt} {np pos' : Pos} {hds : List ExceptHandler} {cs : Cls} (E : ExN X.K X.mg x tbl) (hsu : ∀ (a : Addr) (pn : List (Addr × Obj)), SSs (X.suite a pn) W0 (b₀ :: suite) f) (r : HdE X hds cs)
    (hi : X.N[i]? = some n := by rfl) (hln : X.env.kindOf n = some .local := by rfl) (hg : Gl X x := by rfl) (hdb : (x == ("__debug__" : Str)) = false := by decide) :
    HdE X (.ExceptHandler (some (.Name x np)) (some n) (b₀ :: suite) pos' :: hds) ((tbl, some i, f) :: cs) := by
  obtain ⟨l, r⟩ := r
  obtain ⟨c, hm, ht⟩ := E
  exact ⟨_, .as hi hln ⟨hg, hdb, .inl hm⟩ ht hsu r⟩
theorem hd_no {x : Str} {tbl : List (Str × Bool)} {f : Sm} {b₀ : Stmt} {suite : List Stmt} {np pos' : Pos} {hds : List ExceptHandler} {cs : Cls} (E : ExN X.K X.mg x tbl) (hsu : ∀ (a : Addr) (pn : List (Addr × Obj)), SSs (X.suite a pn) W0 (b₀ :: suite) f) (r : HdE X hds cs)
    (hg : Gl X x := by rfl) (hdb : (x == ("__debug__" : Str)) = false := by decide) :
    HdE X (.ExceptHandler (some (.Name x np)) none (b₀ :: suite) pos' :: hds) ((tbl, none, f) :: cs) := by
  obtain ⟨l, r⟩ := r
  obtain ⟨c, hm, ht⟩ := E
  exact ⟨_, .cons ⟨hg, hdb, .inl hm⟩ ht hsu r⟩
theorem ss_tryE {body : List Stmt} {h₀ : ExceptHandler} {hds : List ExceptHandler} {fb : Sm} {cs : Cls} {k : Nat} (C : Cg X W k) (hs : X.stack = X.env :: X.outer) (hf : X.env.frame = some X.env.locals) (hx : X.ex = [])
    (hb : ∀ (W' : WX) (pn : List (Addr × Obj)) (xe : Value → Shared → Prop), Cg (X.tr pn xe) W' k → SSs (X.tr pn xe) W' body fb)
    (hh : HdE X (h₀ :: hds) cs) : SS X W (.Try body (h₀ :: hds) [] [] pos) (zTry fb cs) := by
  obtain ⟨l, hh⟩ := hh
  exact ss_try hs hf C.nd hx C.tk (fun W' pn xe tk hp => hb W' pn xe (C.tr tk hp)) hh
theorem se_isN {x : Str} {tbl : List (Str × Bool)} (ha : SE X W a fa) (hm : X.mg "isinstance" = none) (I : IsN X.K X.mg x tbl) (hg : Gl X "isinstance" := by rfl) (hgx : Gl X x := by rfl) (hdb : (x == ("__debug__" : Str)) = false := by decide)
    (hst : starEach [a, .Name x q] X.env = (false, eval a X.env) :: starEach [.Name x q] X.env := by rfl) (hst2 : starEach [.Name x q] X.env = (false, eval (.Name x q) X.env) :: starEach [] X.env := by rfl) (hpl : (backTo pos (starEach [.Name x q] X.env)).any (·.1) = false := by rfl) :
    SE X W (.Call (.Name "isinstance" p) [a, .Name x q] [] pos) (op1 (gIsE tbl) fa) := by
  obtain ⟨cv, ht, ⟨C, rfl, hC⟩ | ⟨T, rfl, hN, hB, hne⟩⟩ := I
  · exact se_isE ha hg hm (pe_glob (v := .ref C) hgx hC rfl hdb) (fun u r => r) ht hst hst2 hpl
  · exact se_isE ha hg hm (pe_bltn (v := .ty T) hgx hN hB rfl hne hdb) (fun u r => r) ht hst hst2 hpl
end
/-! evaluation -/
@[simp] theorem zRs_ap (c : Str) (sd : SD) : zRs c sd = .ex ⟨c, none⟩ sd := eqr rfl
@[simp] theorem zRsF_ap (c f : Str) (e : Ev) (sd : SD) : zRsF c f e sd = (e sd).run (fun w sd1 => .ex ⟨c, some (f, w.1)⟩ sd1) := eqr rfl
@[simp] theorem O.fin_exx (x : Exn) (sd : SD) (kn kb kc : SD → FR) : (O.ex x sd).fin kn kb kc = .exc x := eqr rfl
end VS
namespace PySem.W
open PySem
theorem vs_kit_ref {K : Frag} {C D : Addr} {b : Bool} (hc : hasDictIn K C = true) (ht : typeIn K (.ref C) = some (.type "type")) (hD : mroIn K D (.ref D) = some true) (h : subIn K (.ref D) (.ref C) = some b) : kitOne K (.ref D) (.ref C) = some b := by
  unfold kitOne
  by_cases e : D = C
  · subst e
    have h' : mroIn K D (.ref D) = some b := h
    rw [hD] at h'
    cases h'
    simp
  · have e2 : ((Value.ref D) == (Value.ref C)) = false := by simpa using e
    rw [e2]
    obtain ⟨cd, hcd, _⟩ := any_some hc
    have e3 : ((clsIn K C).isSome && typeIn K (.ref C) == some (.type "type")) = true := by rw [hcd, ht] <;> rfl
    show (if ((clsIn K C).isSome && typeIn K (.ref C) == some (.type "type")) = true then subIn K (.ref D) (.ref C) else none) = some b
    rw [if_pos e3]; exact h
theorem vs_kit_type {K : Frag} {T : String} {D : Addr} {b : Bool} (hm : kitMeta T = true) (h : subIn K (.ref D) (.type T) = some b) : kitOne K (.ref D) (.type T) = some b := by
  unfold kitOne
  have e2 : ((Value.ref D) == (Value.type T)) = false := rfl
  rw [e2]
  show (if kitMeta T = true then subIn K (.ref D) (.type T) else none) = some b
  rw [if_pos hm]; exact h
theorem vs_excInit {K : Frag} {C N : Addr} {nm q : Str} {bs bm : List Value} {sn : List Str} {sub : List Value} {ab : Bool} {col : Option Bool} {dd : Option Addr} {k0 k1 k2 k3 k5 : Option Value} {newId : String} {bmB : List Value}
    (cl : K.lookup C = some (excClassObj nm q C N bs bm true sn sub ab col dd k0 k1 k2 k3 k5 newId)) (ht : excTail bmB bm = true) : excInitIn K C bmB newId = true := by
  unfold excInitIn
  rw [cl]
  show (C == C && newId == newId && !false && excTail bmB bm) = true
  rw [ht]
  simp
theorem vs_super {K : Frag} {C B N : Addr} {nm q : Str} {bs bm : List Value} {sn : List Str} {sub : List Value} {ab : Bool} {col : Option Bool} {dd : Option Addr} {k0 k1 k2 k3 k5 : Option Value} {newId : String} {name : Str} {cdB : ClassData} {r : Option Value}
    (cl : K.lookup C = some (excClassObj nm q C N bs bm true sn sub ab col dd k0 k1 k2 k3 k5 newId)) (cb : clsIn K B = some cdB) (e : cdB.mro = bm) (f : findIn K (.ref B) name = some r) : ks_superIn K C C name = some r := by
  have hcl : clsIn K C = some { name := nm, bases := bs, mro := .ref C :: bm, ns := N, qualname := q, hasDict := true, slotNames := sn, subclasses := sub, abstract := ab, collection := col, hasDel := false } := by unfold clsIn; rw [cl] <;> rfl
  unfold ks_superIn
  rw [hcl]
  have e2 : ((Value.ref C :: bm).dropWhile (· != .ref C)).drop 1 = bm := by simp [List.dropWhile_cons]
  show alongIn K name (((Value.ref C :: bm).dropWhile (· != .ref C)).drop 1) = some r
  rw [e2, ← e]
  unfold clsIn at cb
  split at cb
  · rename_i o1 o2 cd o3 ho
    cases cb
    unfold findIn at f
    dsimp only at f
    rw [ho] at f
    exact f
  · cases cb
end PySem.W
/-! VS31: an expression of which only a plain value remains; rows of owned rows that are written out; their entries' pop and append. -/
namespace VS
open PySem PySem.Spec L2
def frzA (sd : SD) : SD := sd.map (Option.map fun p => (p.1, 0))
theorem Slots.frzA {K : PySem.W.Frag} {Z Z' : Pz} {H : Hp} {σ : St} {sd : SD} {o : List Addr} (h : Slots K Z H σ sd o) (hz : ∀ a, Z a → Z' a) (ho : ∀ a ∈ o, Z' a) : Slots K Z' H σ (VS.frzA sd) [] := by
  induction h with
  | nil => exact .nil
  | skip _ ih => exact .skip (ih ho)
  | @cons v d k σ sd o p r _ ih =>
    exact .cons (o := []) (p := []) (r.freeze hz fun a m => ho a (List.mem_append_left _ m)) (ih fun a m => ho a (List.mem_append_right _ m))
/-- f, as if all names were frozen for the while; what comes is a number, a text, a truth or None -/
def pureE (f : Ev) : Ev := fun sd => match f (frzA sd) with
  | .ok w _ => if scD w.1 = true then .ok (w.1, 0) sd else .stuck
  | _ => .stuck
section
variable {X : Cx} {W : WX} {pos p q : Pos} {a b c : Expr} {fa fb : Ev} {ps : List Nat}
theorem se_pure (h : SE X W a fa) : SE X W a (pureE fa) := by
  refine PE.imp h fun σ H Q ⟨Z, F, sd, ok, h⟩ => ?_
  obtain ⟨o, s, nd, nf, b⟩ := ok.ex
  refine ⟨fun a => Z a ∨ a ∈ o, F, frzA sd, ⟨[], s.frzA (fun _ z => .inl z) (fun _ m => .inr m), .nil, (fun _ m => absurd m List.not_mem_nil), fun a z => ?_, fun a f => ?_⟩, ?_⟩
  · rcases z with z | z
    · exact b.z a z
    · exact (b.f a (.inr z)).1
  · rcases f with f | f
    · exact ⟨(b.f a (.inl f)).1, fun z => z.elim (b.f a (.inl f)).2 fun m => nf a m f⟩
    · exact absurd f List.not_mem_nil
  · unfold pureE at h
    cases e : fa (frzA sd) with
    | stuck => rw [e] at h; exact h.elim
    | exc x sd1 => rw [e] at h; exact h.elim
    | ok w sd1 =>
      rw [e] at h
      dsimp only at h
      split at h
      case isFalse => exact h.elim
      rename_i hs
      intro v Z' H' o' r nd' nf' ok' x'
      have kz : ∀ a, Z a → H' a = H a := fun a z => (x'.z a (.inl z)).2
      have ko : ∀ a ∈ o, H' a = H a := fun a m => (x'.z a (.inr m)).2
      refine h v Z H' [] (r.sc hs) .nil (fun _ m => absurd m List.not_mem_nil) ⟨o, s.keep (fun a z => ⟨z, kz a z⟩) ko, nd, fun a m z => ?_, fun a z => ?_, fun a f => ?_⟩ ⟨fun a z => ⟨z, kz a z⟩, x'.f⟩
      · rcases z with z | z
        · exact nf a m z
        · exact absurd z List.not_mem_nil
      · rw [kz a z]; exact b.z a z
      · have f' : uni F o a := by
          rcases f with (f | f) | f
          · exact .inl f
          · exact absurd f List.not_mem_nil
          · exact .inr f
        have e2 : H' a = H a := by
          rcases f' with f' | f'
          · exact x'.f a f'
          · exact ko a f'
        rw [e2]
        exact b.f a f'
end
/-! a written row of owned rows -/
theorem Slots.all1 {K : PySem.W.Frag} {Z : Pz} {H : Hp} : ∀ {vs : List V} {ws : List (D × Nat)} {o : List Addr}, Slots K Z H (vs.map some) (ws.map some) o → (ws.all fun w => w.2 == 1) = true → RpAll K Z H vs (ws.map (·.1)) 1 o
  | [], [], _, h, _ => by cases h; exact .nil 1
  | [], _ :: _, _, h, _ => by cases h
  | _ :: _, [], _, h, _ => by cases h
  | v :: vs, (d, k) :: ws, _, h, e => by
    rw [List.all_cons, Bool.and_eq_true] at e
    obtain ⟨e1, e2⟩ := e
    have e1' : k = 1 := beq_iff_eq.mp e1
    subst e1'
    cases h with
    | cons r h => exact .cons r (Slots.all1 h e2)
def dLstO (fs : Eg) : Ev := fun sd => (fs sd).bind fun ws sd1 => if (ws.all fun w => w.2 == 1) = true ∧ ws.length ≤ sizeLine then .ok (.lst (ws.map (·.1)), 2) sd1 else .stuck
section
variable {X : Cx} {W : WX} {pos p q : Pos} {a b c : Expr} {es : List Expr} {fa fb : Ev} {fs : Eg} {ps : List Nat}
theorem se_lstO (h : SGa X W es fs) : SE X W (.List es pos) (dLstO fs) := by
  refine PE.imp (pe_lst h) fun σ H Q ⟨Z, F, sd, ok, h⟩ => ?_
  refine ⟨Z, F, sd, ok, ?_⟩
  unfold dLstO at h
  cases e : fs sd with
  | stuck => rw [e] at h; exact h
  | exc y sd1 => rw [e] at h; exact h
  | ok ws sd1 =>
    rw [e, R.bind_ok] at h
    split at h
    case isFalse => exact h.elim
    rename_i hc
    obtain ⟨h1, h2⟩ := hc
    intro vs Z1 H1 o s nd nf ok1 x1
    have hl : vs.length = ws.length := by
      have := s.length
      simpa using this
    refine ⟨by rw [hl]; exact h2, fun p hp => ?_⟩
    obtain ⟨ok2, x2, np, nz⟩ := ok1.new (o := .lst vs) hp
    have hpo : p ∉ o := fun m => np (.inr m)
    have hpF : ¬ F p := fun f => np (.inl f)
    have ra := (Slots.all1 s h1).keep (Z' := Z1) (H' := upd H1 p (.lst vs)) x2.z fun a m => x2.f a (.inr m)
    refine h (.ref p) Z1 _ (p :: o) (.lstS upd_same ra) (List.nodup_cons.mpr ⟨hpo, nd⟩) (fun a m => ?_) (ok2.less fun a z => ?_) (x1.trans (x2.mono fun _ z => .inl z))
    · rcases List.mem_cons.mp m with m | m
      · rw [m]; exact hpF
      · exact nf a m
    · rcases z with z | z
      · exact .inl (.inl z)
      · rcases List.mem_cons.mp z with z | z
        · rw [z]; exact .inr List.mem_cons_self
        · exact .inl (.inr z)
/-- an owned entry of an owned row -/
theorem Ok.entry {K : PySem.W.Frag} {Z F : Pz} {H : Hp} {σ : St} {sd : SD} {t n : Nat} {ds es : List D} (ok : Ok K Z F H σ sd) (e : sd[t]? = some (some (.lst ds, 2))) (ed : ds[n]? = some (.lst es)) :
    ∃ la xs lc ys, σ[t]? = some (some (.ref la)) ∧ H la = some (.lst xs) ∧ xs.length = ds.length ∧ xs[n]? = some (.ref lc) ∧ H lc = some (.lst ys) ∧ RpAll K Z H ys es 0 [] ∧
      ∀ ys' es', RpAll K Z H ys' es' 0 [] → Ok K Z F (upd H lc (.lst ys')) σ (sd.set t (some (.lst (ds.set n (.lst es')), 2))) ∧ (∀ a, Z a → Z a ∧ upd H lc (.lst ys') a = H a) ∧ ¬ F lc := by
  obtain ⟨v, o, e1, r, nd, nf, ok2⟩ := ok.take e
  generalize hdl : VS.D.lst ds = dl at r
  generalize hk1 : (2 : Nat) = k1 at r
  cases r <;> (try (first | cases hdl | cases hk1)) <;> try (cases hk1; done)
  · rename_i la xs k' oc hh ra
    have hk : k' = 1 := by omega
    subst hk
    obtain ⟨u, o1, pn, o2, q1, q2, q3, q4⟩ := ra.split ed
    obtain ⟨lc, ys, rfl, rfl, hl, rb⟩ := lst1 q3
    subst q2
    obtain ⟨n1, n2⟩ := List.nodup_cons.mp nd
    obtain ⟨n3, n4, n5⟩ := List.nodup_append.mp n2
    obtain ⟨n6, n7⟩ := List.nodup_cons.mp n4
    have hla : la ≠ lc := fun z => n1 (by rw [z]; simp)
    refine ⟨la, xs, lc, ys, e1, hh, ra.length, q1, hl, rb, fun ys' es' r' => ?_⟩
    obtain ⟨ok3, kz⟩ := ok2.write (o := .lst ys') (p := lc) (.inr (by simp))
    have rr : Rp K Z (upd H lc (.lst ys')) (.ref lc) (.lst es') 1 [lc] := .lstS (o := []) upd_same (r'.keep kz fun a m => absurd m List.not_mem_nil)
    have rx := q4 Z _ _ _ kz (fun a m => upd_ne fun z => by
      subst z
      rcases m with m | m
      · exact n5 a m a (by simp) rfl
      · exact n6 m) rr
    have ok4 := ok3.back (.lstS (by rw [upd_ne hla]; exact hh) rx) nd nf e1
    rw [List.set_set] at ok4
    exact ⟨ok4, kz, nf lc (by simp)⟩
/-- t[j].pop() -/
def popE (t j : Nat) : Ev := fun sd => match sd[t]? with
  | some (some (.lst ds, 2)) => match ds[j]? with
    | some (.lst es) => match es.getLast? with
      | some d => .ok (d, 0) (sd.set t (some (.lst (ds.set j (.lst es.dropLast)), 2)))
      | none => .stuck
    | _ => .stuck
  | _ => .stuck
theorem RpAll.last {K : PySem.W.Frag} {Z : Pz} {H : Hp} {xs : List V} {ds : List D} {d : D} (h : RpAll K Z H xs ds 0 []) (e : ds.getLast? = some d) : ∃ v, xs[xs.length - 1]? = some v ∧ Rp K Z H v d 0 [] ∧ RpAll K Z H xs.dropLast ds.dropLast 0 [] := by
  have hl := h.length
  have e' : ds[ds.length - 1]? = some d := by rw [← List.getLast?_eq_getElem?]; exact e
  obtain ⟨v, hv, r⟩ := h.get e'
  refine ⟨v, by rw [hl]; exact hv, r, ?_⟩
  have : ∀ {xs : List V} {ds : List D}, RpAll K Z H xs ds 0 [] → RpAll K Z H xs.dropLast ds.dropLast 0 [] := by
    intro xs
    induction xs with
    | nil =>
      intro ds h
      cases ds with
      | nil => exact h
      | cons _ _ => have := h.length; cases this
    | cons x xs ih =>
      intro ds h
      cases ds with
      | nil => have := h.length; cases this
      | cons d ds =>
        obtain ⟨r1, r2⟩ := h.uncons
        cases xs with
        | nil =>
          cases ds with
          | nil => exact .nil 0
          | cons _ _ => have := r2.length; cases this
        | cons y ys =>
          cases ds with
          | nil => have := r2.length; cases this
          | cons e es => exact .cons (o := []) (p := []) r1 (ih r2)
  exact this h
theorem atI_nat {xs : List V} {j : Nat} {v : V} (h : xs[j]? = some v) : L2.atI xs (j : Int) = some v := by
  have hj : j < xs.length := (List.getElem?_eq_some_iff.mp h).1
  unfold L2.atI L2.ixN
  simp [hj]
  exact (List.getElem?_eq_some_iff.mp h).2
theorem se_popE (t j : Nat) {x : Str} {px pa p1 : Pos} {jj : Nat} (hN : X.N[t]? = some x := by rfl) (hv : Vis X.env.scope x := by first | exact Or.inl rfl | exact Or.inr (Or.inl rfl) | exact Or.inr (Or.inr rfl)) (hd : (x == ("__debug__" : Str)) = false := by decide) (hcd : (x == ("__classdict__" : Str)) = false := by decide)
    (hbase : attributeBase (.Subscript (.Name x px) (.Constant (.int (j : Int)) jj p1) q) "pop" X.env (eval (.Subscript (.Name x px) (.Constant (.int (j : Int)) jj p1) q) X.env) = eval (.Subscript (.Name x px) (.Constant (.int (j : Int)) jj p1) q) X.env := by rfl) (hline : (pa.endLine == p.line) = true := by rfl) :
    SE X W (.Call (.Attribute (.Subscript (.Name x px) (.Constant (.int (j : Int)) jj p1) q) "pop" pa) [] [] p) (popE t j) := by
  refine PE.imp (pe_bm0 PySem.F.plainAttrs_list PySem.F.slot_list_pop PySem.F.type_list_pop mt_pop (pe_ix ix_seq (pe_var hN hv hd hcd) pe_int (fun _ _ => rfl)) hbase hline) fun σ H Q ⟨Z, F, sd, ok, h⟩ => ?_
  unfold popE at h
  split at h
  case h_2 => exact h.elim
  rename_i ds e0
  split at h
  case h_2 => exact h.elim
  rename_i es ed
  split at h
  case h_2 => exact h.elim
  rename_i d el
  obtain ⟨la, xs, lc, ys, q1, q2, q3, q4, q5, q6, q7⟩ := ok.entry e0 ed
  obtain ⟨y, hy, ry, rd⟩ := q6.last el
  obtain ⟨ok3, kz, nF⟩ := q7 _ _ rd
  refine ⟨.ref la, q1, .inl ⟨la, xs, j, .ref lc, rfl, rfl, .of q2, atI_nat q4, .inl ⟨rfl, ys, .of q5⟩, lc, ys, y, rfl, rfl, q5, hy, ?_⟩⟩
  exact h y Z _ [] (ry.keep kz fun a m => absurd m List.not_mem_nil) .nil (fun a m => absurd m List.not_mem_nil) ok3.unnil ⟨kz, fun a f => upd_ne fun e => nF (e ▸ f)⟩
/-- t[j].append(x), x a name -/
def zAppN (t j i : Nat) : Sm := fun sd => match sd[i]? with
  | some (some (d, _)) => match (sd.set i (some (d, 0)))[t]? with
    | some (some (.lst ds, 2)) => match ds[j]? with
      | some (.lst es) => if es.length < sizeLine then .nx ((sd.set i (some (d, 0))).set t (some (.lst (ds.set j (.lst (es ++ [d]))), 2))) else .stuck
      | _ => .stuck
    | _ => .stuck
  | _ => .stuck
theorem ss_appN (t j i : Nat) {x y : Str} {px py pa p1 : Pos} {jj : Nat} (hN : X.N[t]? = some x := by rfl) (hv : Vis X.env.scope x := by first | exact Or.inl rfl | exact Or.inr (Or.inl rfl) | exact Or.inr (Or.inr rfl)) (hd : (x == ("__debug__" : Str)) = false := by decide) (hcd : (x == ("__classdict__" : Str)) = false := by decide)
    (hNy : X.N[i]? = some y := by rfl) (hvy : Vis X.env.scope y := by first | exact Or.inl rfl | exact Or.inr (Or.inl rfl) | exact Or.inr (Or.inr rfl)) (hdy : (y == ("__debug__" : Str)) = false := by decide) (hcdy : (y == ("__classdict__" : Str)) = false := by decide)
    (hbase : attributeBase (.Subscript (.Name x px) (.Constant (.int (j : Int)) jj p1) q) "append" X.env (eval (.Subscript (.Name x px) (.Constant (.int (j : Int)) jj p1) q) X.env) = eval (.Subscript (.Name x px) (.Constant (.int (j : Int)) jj p1) q) X.env := by rfl)
    (hfew : ((backTo p (starEach [(.Name y py : Expr)] X.env)).all (fun x => !x.1) && (backToKw p (keywordEach [] X.env)).all (fun x => x.1.isSome)
      && decide ([(.Name y py : Expr)].length + ([] : List Keyword).length + (if ([] : List Keyword).isEmpty then 0 else 1) < 30)) = true := by rfl)
    (hline : (pa.endLine == p.line) = true := by rfl) (hst : starEach [(.Name y py : Expr)] X.env = (false, eval (.Name y py) X.env) :: starEach [] X.env := by rfl) (hpl : (backTo p (starEach [] X.env)).any (·.1) = false := by rfl)
    (hs : swapsWith (.Call (.Attribute (.Subscript (.Name x px) (.Constant (.int (j : Int)) jj p1) q) "append" pa) [.Name y py] [] p) none pos.line X.env = pure false := by rfl) :
    SSp ps X W (.Expr (.Call (.Attribute (.Subscript (.Name x px) (.Constant (.int (j : Int)) jj p1) q) "append" pa) [.Name y py] [] p) pos) (zAppN t j i) := by
  refine PS.imp (ps_expr (pe_bm PySem.F.plainAttrs_list PySem.F.slot_list_append PySem.F.type_list_append mt_append (pe_ix ix_seq (pe_var hN hv hd hcd) pe_int (fun _ _ => rfl)) (pa_cons (pe_var hNy hvy hdy hcdy) pa_nil hst) hbase hfew hline hst hpl) hs) fun D σ H ⟨Z, F, sd, ok, h⟩ => ?_
  unfold zAppN at h
  split at h
  case h_2 => exact h.elim
  rename_i d k ei
  obtain ⟨v, p, e1, r, nd, nf, ok1⟩ := ok.take ei
  have ok2 := ok1.freeze nf
  have r2 : Rp X.K (uni Z p) H v d 0 [] := r.freeze (fun _ z => .inl z) fun _ m => .inr m
  have ok3 := Ok.back (p := []) ok2.unnil r2 .nil (fun _ m => absurd m List.not_mem_nil) e1
  rw [List.set_set] at ok3
  split at h
  case h_2 => exact h.elim
  rename_i ds e0
  split at h
  case h_2 => exact h.elim
  rename_i es ed
  split at h
  case isFalse => exact h.elim
  rename_i hz
  obtain ⟨la, xs, lc, ys, q1, q2, q3, q4, q5, q6, q7⟩ := ok3.entry e0 ed
  obtain ⟨ok4, kz, nF⟩ := q7 _ _ (q6.app (.cons (o := []) (p := []) r2 (.nil 0)))
  refine ⟨.ref la, q1, .inl ⟨la, xs, j, .ref lc, rfl, rfl, .of q2, atI_nat q4, .inl ⟨rfl, ys, .of q5⟩, v, e1, lc, ys, v, rfl, rfl, q5, by rw [q6.length]; exact hz, ?_⟩⟩
  exact h σ _ _ .refl ok4 (Ext.uni.trans ⟨kz, fun a f => upd_ne fun e => nF (e ▸ f)⟩)
end
/-! evaluation -/
@[simp] theorem pureE_ap (f : Ev) (sd : SD) : pureE f sd = match f (frzA sd) with
  | .ok w _ => if scD w.1 = true then .ok (w.1, 0) sd else .stuck
  | _ => .stuck := eqr rfl
end VS
/-! VS32: evaluation of try. -/
namespace VS
open PySem PySem.Spec L2
def O.finX (o : O) (kx : Exn → SD → FR) (kn kb kc : SD → FR) : FR := match o with
  | .nx sd => kn sd
  | .rt w _ => .ok w
  | .bk sd => kb sd
  | .ct sd => kc sd
  | .ex x sd => kx x sd
  | .stuck => .stuck
section
variable {kx : Exn → SD → FR} {kn kb kc : SD → FR}
@[simp] theorem O.finX_nx (sd : SD) : (O.nx sd).finX kx kn kb kc = kn sd := eqr rfl
@[simp] theorem O.finX_rt (w : D × Nat) (sd : SD) : (O.rt w sd).finX kx kn kb kc = .ok w := eqr rfl
@[simp] theorem O.finX_ex (x : Exn) (sd : SD) : (O.ex x sd).finX kx kn kb kc = kx x sd := eqr rfl
@[simp] theorem zTry_ap (body : Sm) (cs : Cls) (sd : SD) : (zTry body cs sd).fin kn kb kc = (body sd).finX (fun x sd1 => (pickX cs x sd1).fin kn kb kc) kn kb kc := by
  unfold zTry tryK
  cases body sd <;> rfl
@[simp] theorem zFrz_X (i : Nat) (f : Sm) (sd : SD) : (zFrz i f sd).finX kx kn kb kc = (f sd).finX kx (fun s => (fzS i s).fin kn kb kc) kb kc := by
  unfold zFrz
  cases f sd with
  | nx s =>
    show (fzS i s).finX kx kn kb kc = (fzS i s).fin kn kb kc
    unfold fzS
    split <;> rfl
  | _ => rfl
@[simp] theorem zSet_X (i : Nat) (f : Ev) (sd : SD) : (zSet i f sd).finX kx kn kb kc = ((f sd).run fun w sd1 => O.nx (sd1.set i (some w))).finX kx kn kb kc := eqr rfl
@[simp] theorem zDrop_X (f : Ev) (sd : SD) : (zDrop f sd).finX kx kn kb kc = ((f sd).run fun _ sd1 => O.nx sd1).finX kx kn kb kc := eqr rfl
@[simp] theorem zIf_X (c : Et) (f g : Sm) (sd : SD) : (zIf c f g sd).finX kx kn kb kc = ((c sd).run fun b sd1 => if b then f sd1 else g sd1).finX kx kn kb kc := eqr rfl
@[simp] theorem pickX_nil (x : Exn) (sd : SD) : pickX [] x sd = .ex x sd := eqr rfl
@[simp] theorem pickX_cons (tbl : List (Str × Bool)) (n : Option Nat) (f : Sm) (r : Cls) (x : Exn) (sd : SD) : pickX ((tbl, n, f) :: r) x sd = match tbl.lookup x.cls with
    | some true => endS n (f (putX n x sd))
    | some false => pickX r x sd
    | none => .stuck := eqr rfl
@[simp] theorem putX_some (i : Nat) (x : Exn) (sd : SD) : putX (some i) x sd = sd.set i (some (xD x, 0)) := eqr rfl
@[simp] theorem putX_none (x : Exn) (sd : SD) : putX none x sd = sd := eqr rfl
@[simp] theorem xD_0 (c : Str) : xD ⟨c, none⟩ = .exn c [] [] := eqr rfl
@[simp] theorem xD_1 (c f : Str) (d : D) : xD ⟨c, some (f, d)⟩ = .exn c [f] [d] := eqr rfl
@[simp] theorem endS_rt (n : Option Nat) (w : D × Nat) (sd : SD) : endS n (.rt w sd) = .rt w sd := by cases n <;> rfl
@[simp] theorem calU_ap (n : Nat) (f : Fn) (fs : Eg) (sd : SD) : calU n f fs sd = (fs sd).bind fun xs sd1 => if (xs.length == n) = true then (f xs).rU sd1 else .stuck := eqr rfl
@[simp] theorem gIsE_exn (tbl : List (Str × Bool)) (c : Str) (fs : List Str) (vs : List D) : gIsE tbl (.exn c fs vs) = match tbl.lookup c with
    | some b => some (.bl b, 0)
    | none => none := eqr rfl
@[simp] theorem gFld_exn (cs : List Str) (f c g : Str) (d : D) : gFld cs f (.exn c [g] [d]) = if cs.contains c = true ∧ g = f then some (d, 0) else none := eqr rfl
end
end VS
/-! VS33: attributes of instances; what a call of a def that gives arguments back is worth, whatever calls it. -/
namespace VS
open PySem PySem.Spec L2

def lkF {α : Type} : List Str → List α → Str → Option α
  | g :: fs, v :: vs, f => if g = f then some v else lkF fs vs f
  | _, _, _ => none
def ptF {α : Type} (f : Str) (y : α) : List Str → List α → List Str × List α
  | g :: fs, v :: vs => if g = f then (g :: fs, y :: vs) else (g :: (ptF f y fs vs).1, v :: (ptF f y fs vs).2)
  | _, _ => ([f], [y])
theorem lkF_cons {α : Type} (g : Str) (fs : List Str) (v : α) (vs : List α) (f : Str) : lkF (g :: fs) (v :: vs) f = if g = f then some v else lkF fs vs f := rfl
theorem ptF_cons {α : Type} (f : Str) (y : α) (g : Str) (fs : List Str) (v : α) (vs : List α) : ptF f y (g :: fs) (v :: vs) = if g = f then (g :: fs, y :: vs) else (g :: (ptF f y fs vs).1, v :: (ptF f y fs vs).2) := rfl
theorem lkF_zip {α : Type} (f : Str) : ∀ (fs : List Str) (xs : List α), (fs.zip xs).lookup f = lkF fs xs f
  | [], _ => by simp [lkF]
  | g :: fs, [] => by simp [lkF]
  | g :: fs, x :: xs => by
    rw [List.zip_cons_cons, List.lookup_cons, lkF_zip f fs xs, lkF_cons]
    by_cases e : g = f
    · subst e; simp
    · have : (f == g) = false := by simpa using fun z : f = g => e z.symm
      rw [this, if_neg e]
theorem ptF_zip (f : Str) (y : V) : ∀ (fs : List Str) (xs : List V), fs.length = xs.length → putF f y (fs.zip xs) = (ptF f y fs xs).1.zip (ptF f y fs xs).2
  | [], [], _ => rfl
  | [], _ :: _, h => by cases h
  | _ :: _, [], h => by cases h
  | g :: fs, x :: xs, h => by
    rw [List.zip_cons_cons, show putF f y ((g, x) :: fs.zip xs) = (if g = f then (g, y) :: fs.zip xs else (g, x) :: putF f y (fs.zip xs)) from rfl, ptF_zip f y fs xs (by simpa using h)]
    rw [ptF_cons]
    by_cases e : g = f
    · rw [if_pos e, if_pos e]; rfl
    · rw [if_neg e, if_neg e]; rfl
theorem ptF_len {α : Type} (f : Str) (y : α) : ∀ (fs : List Str) (xs : List α), fs.length = xs.length → (ptF f y fs xs).1.length = (ptF f y fs xs).2.length ∧ (ptF f y fs xs).1.length ≤ fs.length + 1
  | [], [], _ => ⟨rfl, Nat.le_refl _⟩
  | [], _ :: _, h => by cases h
  | _ :: _, [], h => by cases h
  | g :: fs, x :: xs, h => by
    have ih := ptF_len f y fs xs (by simpa using h)
    rw [ptF_cons]
    by_cases e : g = f
    · rw [if_pos e]
      exact ⟨by simpa using h, by simp⟩
    · rw [if_neg e]
      simp only [List.length_cons]
      omega
theorem ptF_fst {α β : Type} (f : Str) (y : α) (z : β) : ∀ (fs : List Str) (xs : List α) (ds : List β), fs.length = xs.length → fs.length = ds.length → (ptF f y fs xs).1 = (ptF f z fs ds).1
  | [], [], [], _, _ => rfl
  | [], _ :: _, _, h, _ => by cases h
  | [], _, _ :: _, _, h => by cases h
  | _ :: _, [], _, h, _ => by cases h
  | _ :: _, _, [], _, h => by cases h
  | g :: fs, x :: xs, d :: ds, h1, h2 => by
    have ih := ptF_fst f y z fs xs ds (by simpa using h1) (by simpa using h2)
    rw [ptF_cons, ptF_cons]
    by_cases e : g = f
    · rw [if_pos e, if_pos e]
    · rw [if_neg e, if_neg e]
      simp only [ih]
section
variable {K : PySem.W.Frag} {Z F : Pz} {H : Hp}
theorem RpAll.lk {f : Str} : ∀ {fs : List Str} {xs : List V} {ds : List D} {d : D}, RpAll K Z H xs ds 0 [] → lkF fs ds f = some d → ∃ v, lkF fs xs f = some v ∧ Rp K Z H v d 0 []
  | [], _, _, _, _, e => by simp [lkF] at e
  | g :: fs, _, [], _, _, e => by simp [lkF] at e
  | g :: fs, [], _ :: _, _, h, _ => by have := h.length; cases this
  | g :: fs, x :: xs, d' :: ds, d, h, e => by
    obtain ⟨r1, r2⟩ := h.uncons
    rw [lkF_cons] at e ⊢
    by_cases q : g = f
    · rw [if_pos q] at e ⊢
      cases e
      exact ⟨x, rfl, r1⟩
    · rw [if_neg q] at e ⊢
      exact RpAll.lk r2 e
theorem RpAll.pt {f : Str} {y : V} {z : D} (ry : Rp K Z H y z 0 []) : ∀ {fs : List Str} {xs : List V} {ds : List D}, RpAll K Z H xs ds 0 [] → fs.length = xs.length → RpAll K Z H (ptF f y fs xs).2 (ptF f z fs ds).2 0 []
  | [], [], [], _, _ => .cons (o := []) (p := []) ry (.nil 0)
  | [], _ :: _, _, _, h => by cases h
  | _ :: _, [], _, _, h => by cases h
  | [], [], _ :: _, h, _ => by have := h.length; cases this
  | g :: fs, x :: xs, [], h, _ => by have := h.length; cases this
  | g :: fs, x :: xs, d :: ds, h, hl => by
    obtain ⟨r1, r2⟩ := h.uncons
    have ih := RpAll.pt (f := f) ry r2 (fs := fs) (by simpa using hl)
    rw [ptF_cons, ptF_cons]
    by_cases e : g = f
    · rw [if_pos e, if_pos e]
      exact .cons (o := []) (p := []) ry r2
    · rw [if_neg e, if_neg e]
      exact .cons (o := []) (p := []) r1 ih
end
/-- the classes cs are plain, none has the name f -/
def FldC (K : PySem.W.Frag) (cs : List Str) (f : Str) : Prop := ∀ c, cs.contains c = true → ∀ C, ClsAt K c C → L2.Cls K C ∧ NoAttr K C f
theorem FldC.nil {K : PySem.W.Frag} {f : Str} : FldC K [] f := fun c h => by simp at h
theorem ClsAt.uniq {K : PySem.W.Frag} {c : Str} {C D : Addr} (h : ClsAt K c C) (h' : ClsAt K c D) : C = D := by
  unfold ClsAt at h h'
  rw [h] at h'
  cases h'; rfl
theorem FldC.cons {K : PySem.W.Frag} {f c : Str} {cs : List Str} {C : Addr} (a : ClsAt K c C) (h1 : L2.Cls K C) (h2 : NoAttr K C f) (h : FldC K cs f) : FldC K (c :: cs) f := fun d hd D hD => by
  by_cases e : d = c
  · subst e
    rw [hD.uniq a]
    exact ⟨h1, h2⟩
  · exact h d (by simpa [e] using hd) D hD
def gAt (cs : List Str) (f : Str) : D → Option (D × Nat)
  | .ins c fs vs => if cs.contains c then (lkF fs vs f).map fun d => (d, 0) else none
  | _ => none
theorem gAt_ins {cs : List Str} {f c : Str} {fs : List Str} {vs : List D} {w : D × Nat} (eg : gAt cs f (.ins c fs vs) = some w) : cs.contains c = true ∧ (lkF fs vs f).map (fun d => (d, 0)) = some w := by
  replace eg : (if cs.contains c then (lkF fs vs f).map fun d => (d, 0) else none) = some w := eg
  split at eg
  · rename_i hc; exact ⟨hc, eg⟩
  · cases eg
section
variable {K : PySem.W.Frag} {Z F : Pz} {H : Hp}
theorem Rp.attr {v : V} {d : D} {k : Nat} {p : List Addr} {cs : List Str} {f : Str} {w : D × Nat} (r : Rp K Z H v d (min k 1) p) (hf : FldC K cs f) (eg : gAt cs f d = some w) :
    ∃ a C dx gs u, v = .ref a ∧ H a = some (.ins C dx gs) ∧ L2.Cls K C ∧ NoAttr K C f ∧ gs.lookup f = some u ∧ Rp K Z H u w.1 0 [] := by
  generalize e0 : min k 1 = k1 at r
  cases r with
  | ins0 z z2 h h2 l c r =>
    obtain ⟨hc, eg⟩ := gAt_ins eg
    obtain ⟨d, e1, rfl⟩ := Option.map_eq_some_iff.mp eg
    obtain ⟨u, e2, ru⟩ := r.lk e1
    obtain ⟨h3, h4⟩ := hf _ hc _ c
    exact ⟨_, _, _, _, u, rfl, h, h3, h4, (lkF_zip _ _ _).trans e2, ru⟩
  | @insS a C dx c fs xs ds k' o h h2 l cc r =>
    have e3 : k' = 0 := by omega
    subst e3
    cases r.nil0
    obtain ⟨hc, eg⟩ := gAt_ins eg
    obtain ⟨d, e1, rfl⟩ := Option.map_eq_some_iff.mp eg
    obtain ⟨u, e2, ru⟩ := r.lk e1
    obtain ⟨h3, h4⟩ := hf _ hc _ cc
    exact ⟨_, _, _, _, u, rfl, h, h3, h4, (lkF_zip _ _ _).trans e2, ru⟩
  | _ => simp [gAt] at eg
end
/-- x.f, x a name -/
def fldv (cs : List Str) (i : Nat) (f : Str) : Ev := fun sd => match sd[i]? with
  | some (some (d, k)) => match gAt cs f d with
    | some w => .ok (w.1, 0) (sd.set i (some (d, min k 1)))
    | none => .stuck
  | _ => .stuck
/-- x.f = e, x a name, the instance owned -/
def zFld (cs : List Str) (i : Nat) (f : Str) (fe : Ev) : Sm := fun sd => (fe sd).run fun w sd1 => match sd1[i]? with
  | some (some (.ins c fs vs, 1)) => if cs.contains c = true ∧ fs.length < 1000 then .nx (sd1.set i (some (.ins c (ptF f w.1 fs vs).1 (ptF f w.1 fs vs).2, 1))) else .stuck
  | _ => .stuck
section
variable {X : Cx} {W : WX} {pos p q : Pos} {a b c : Expr} {fa fb : Ev} {ps : List Nat}
theorem se_at {f : Str} {cs : List Str} (ha : SE X W a fa) (ht : FldC X.K cs f) (hb : attributeBase a f X.env (eval a X.env) = eval a X.env := by rfl) : SE X W (.Attribute a f pos) (op1 (gAt cs f) fa) := by
  refine PE.imp (pe_fld ha hb) fun σ H Q ⟨Z, F, sd, ok, h⟩ => ?_
  refine eP.seq (G := fun _ _ => True) ok (fun w1 sd1 e1 v1 Z1 H1 r1 ok1 x1 => ?_) (fun x sd1 e1 => ?_) (fun e1 => ?_)
  · unfold op1 at h
    rw [e1, R.bind_ok] at h
    cases eg : gAt cs f w1.1 with
    | none => rw [eg] at h; exact h.elim
    | some w =>
      rw [eg, lift_some] at h
      have hw : w.2 = 0 := by
        unfold gAt at eg
        split at eg
        · split at eg
          · obtain ⟨d, _, rfl⟩ := Option.map_eq_some_iff.mp eg
            rfl
          · cases eg
        · cases eg
      obtain ⟨x, C, dx, gs, u, ev, h1, h2, h3, h4, h5⟩ := Rp.attr (k := 0) r1 ht eg
      refine ⟨x, C, dx, gs, u, ev, h1, h2, h3, h4, ?_⟩
      obtain ⟨wd, wk⟩ := w
      cases hw
      exact h.pure x1 ok1 h5
  · unfold op1 at h; rw [e1] at h; exact h
  · unfold op1 at h; rw [e1] at h; exact h
theorem se_fldv (i : Nat) {x f : Str} {cs : List Str} {px : Pos} (ht : FldC X.K cs f) (hb : attributeBase (.Name x px) f X.env (eval (.Name x px) X.env) = eval (.Name x px) X.env := by rfl) (hN : X.N[i]? = some x := by rfl) (hv : Vis X.env.scope x := by first | exact Or.inl rfl | exact Or.inr (Or.inl rfl) | exact Or.inr (Or.inr rfl))
    (hd : (x == ("__debug__" : Str)) = false := by decide) (hcd : (x == ("__classdict__" : Str)) = false := by decide) : SE X W (.Attribute (.Name x px) f pos) (fldv cs i f) := by
  refine PE.imp (pe_fld (pe_var hN hv hd hcd) hb) fun σ H Q ⟨Z, F, sd, ok, h⟩ => ?_
  unfold fldv at h
  split at h
  case h_2 => exact h.elim
  rename_i d k e3
  split at h
  case h_2 => exact h.elim
  rename_i w eg
  obtain ⟨v, Z2, q1, e4, r2, nd2, nf2, ok2, z12, fz⟩ := ok.open1 e3
  obtain ⟨x, C, dx, gs, u, ev, h1, h2, h3, h4, h5⟩ := Rp.attr r2 ht eg
  refine ⟨v, e4, x, C, dx, gs, u, ev, h1, h2, h3, h4, ?_⟩
  have ok3 := ok2.back r2 nd2 nf2 e4
  rw [List.set_set] at ok3
  exact h.pure ⟨fun a z => ⟨z12 a z, rfl⟩, fun _ _ => rfl⟩ ok3 h5
theorem ss_fld (i : Nat) {x f : Str} {cs : List Str} {px pa : Pos} (ht : FldC X.K cs f) (he : SE X W a fa) (hN : X.N[i]? = some x := by rfl) (hv : Vis X.env.scope x := by first | exact Or.inl rfl | exact Or.inr (Or.inl rfl) | exact Or.inr (Or.inr rfl))
    (hd : (x == ("__debug__" : Str)) = false := by decide) (hcd : (x == ("__classdict__" : Str)) = false := by decide) (hs : swapsWith a (some (.Attribute (.Name x px) f pa)) pos.line X.env = pure false := by rfl) : SSp ps X W (.Assign [.Attribute (.Name x px) f pa] a pos) (zFld cs i f fa) := by
  refine PS.imp (ps_fld (pe_var hN hv hd hcd) he hs) fun D σ H ⟨Z, F, sd, ok, h⟩ => ?_
  unfold zFld at h
  refine eP.seq (G := fun _ _ => True) ok (fun w sd1 e y Z1 H1 r ok1 x1 => ?_) (fun x sd1 e => ?_) (fun e => ?_)
  · rw [e, R.run_ok] at h
    split at h
    case h_2 => exact h.elim
    rename_i cn fs vs e2
    split at h
    case isFalse => exact h.elim
    rename_i hc
    obtain ⟨v, q, e3, rr, nd, nf, ok2⟩ := ok1.take e2
    generalize ek : (1 : Nat) = k1 at rr
    cases rr with
    | ins0 => cases ek
    | @insS ad C dx c fs xs ds k' o hh h2 l cc ra =>
    have e4 : k' = 0 := by omega
    subst e4
    cases ra.nil0
    obtain ⟨h3, h4⟩ := ht _ hc.1 _ cc
    refine ⟨.ref ad, e3, ad, C, dx, _, rfl, hh, h3, h4, ?_, ?_⟩
    · rw [List.length_zip]; omega
    obtain ⟨ok3, kz⟩ := ok2.write (o := .ins C dx (putF f y (fs.zip xs))) (p := ad) (.inr List.mem_cons_self)
    have hne : ad ≠ dx := fun e => by
      rw [e] at nd
      exact (List.nodup_cons.mp nd).1 List.mem_cons_self
    have el : vs.length = xs.length := ra.length.symm
    have r5 : Rp X.K Z1 (upd H1 ad (.ins C dx (putF f y (fs.zip xs)))) (.ref ad) (.ins cn (ptF f w.1 fs vs).1 (ptF f w.1 fs vs).2) 1 [ad, dx] := by
      refine .insS (o := []) (xs := (ptF f y fs xs).2) ?_ ?_ ?_ cc ((RpAll.pt r ra l).keep kz fun a m => absurd m List.not_mem_nil)
      · rw [upd_same, ptF_zip f y fs xs l, ptF_fst f y w.1 fs xs vs l (l.trans el.symm)]
      · rw [upd_ne fun e => hne e.symm]; exact h2
      · rw [← ptF_fst f y w.1 fs xs vs l (l.trans el.symm)]
        exact (ptF_len f y fs xs l).1
    have ok4 := ok3.back r5 nd nf e3
    rw [List.set_set] at ok4
    refine h σ Z1 _ .refl ok4 (x1.trans ⟨kz, fun a f => upd_ne fun e => ?_⟩)
    rw [e] at f
    exact nf ad List.mem_cons_self f
  · rw [e] at h; exact h σ .refl
  · rw [e] at h; exact h
end

/-! ### the core of a call -/
section
variable {K : PySem.W.Frag} {mg : Mg} {Z1 F : Pz} {H1 : Hp} {σ : St}
def resP (K : PySem.W.Frag) (mg : Mg) (F Z1 : Pz) (H1 : Hp) (σ : St) (sd2 : SD) (is : List Nat) (r : FRO) (Q : VK) (E : XK) : Prop := match r with
  | .ok w outs => ∀ v Z2 H2 o', Rp K Z2 H2 v w.1 w.2 o' → o'.Nodup → (∀ a ∈ o', ¬ F a) → Ok K Z2 (uni F o') H2 σ (putB sd2 is outs) → Ext F Z1 H1 Z2 H2 → Q v H2
  | .exc x outs => ∀ c dd Z2 H2, ExcAt K mg Z2 H2 x c dd → Ok K Z2 F H2 σ (putB sd2 is outs) → Ext F Z1 H1 Z2 H2 → E c dd H2
  | .stuck => False
theorem spIO_core {n : Nat} {ios : List Nat} {dfl : List D} {dvs : List V} {f : FnO} {sd1 sd2 : SD} {vs : List V} {as : List Ag} {o : List Addr} {xs : List (D × Nat)} {Q : VK} {E : XK} (h5 : ∀ Z H, RpAll K Z H dvs dfl 0 []) (hio : ∀ i ∈ ios, i < n - dfl.length)
    (s : AgS K Z1 H1 σ vs as o) (nd : o.Nodup) (nf : ∀ a ∈ o, ¬ F a) (ok1 : Ok K Z1 (uni F o) H1 σ sd1) (ers : rsm sd1 as = some (xs, sd2)) (hn : (xs.length + dfl.length == n && mPos 0 as == ios) = true)
    (h : resP K mg F Z1 H1 σ sd2 (mSl as) (f (xs ++ dfl.map fun d => (d, 0))) Q E) : spIO K mg n ios f (vs ++ dvs) H1 Q E := by
  rw [Bool.and_eq_true] at hn
  have hpos : mPos 0 as = ios := beq_iff_eq.mp hn.2
  obtain ⟨q, sx, ndq, nfq, ok2⟩ := s.rsm nd nf ok1 ers
  obtain ⟨ow, ss, ndw, nfw, b⟩ := ok2.ex
  have hvs : vs.length + dvs.length = n := by
    have q1 := sx.length
    have q2 := (h5 Z1 H1).length
    rw [List.length_map, List.length_map] at q1
    rw [q1, q2]
    exact beq_iff_eq.mp hn.1
  have hlen : (vs ++ dvs).length = n := by rw [List.length_append]; exact hvs
  have hdl : dvs.length = dfl.length := (h5 Z1 H1).length
  have hval : ∀ us : List V, ios.map (fun i => (vs ++ dvs)[i]?) = us.map some → (mSl as).map (fun i => σ[i]?) = us.map fun u => some (some u) := fun us eu => by
    refine s.mval [] us ?_
    show (mPos 0 as).map (fun j => vs[j]?) = _
    rw [hpos, ← eu]
    apply List.map_congr_left
    intro i m
    have := hio i m
    rw [List.getElem?_append_left (by omega)]
  refine ⟨Z1, uni F ow, xs ++ dfl.map fun d => (d, 0), q, hlen, ?_, ndq, fun a m z => ?_, ⟨b.z, fun a f => b.f a ?_⟩, ?_⟩
  · rw [List.map_append, List.map_append]
    have := sx.app (Slots.of_all (h5 Z1 H1))
    rw [List.append_nil] at this
    exact this
  · rcases z with z | z
    · exact nfq a m z
    · exact nfw a z (.inr m)
  · rcases f with (f | f) | f
    · exact .inl (.inl f)
    · exact .inr f
    · exact .inl (.inr f)
  · unfold resP at h
    cases e2 : f (xs ++ dfl.map fun d => (d, 0)) with
    | ok w outs =>
      rw [e2] at h
      intro Z2 H2 us p eu so ndp nfp b2 x2 v o' rv nd' nf' b3
      have ok3 : Ok K Z2 (uni (uni F o') p) H2 σ sd2 := ⟨ow, ss.keep x2.z fun a m => x2.f a (.inr m), ndw, fun a m z => ?_, b3.z, fun a f => b3.f a ?_⟩
      · exact h v Z2 H2 o' rv nd' (fun a m z => nf' a m (.inl (.inl z))) (Ok.putB so ndp (fun a m z => z.elim (fun z => nfp a m (.inl z)) fun z => nf' a z (.inr m)) (hval us eu) ok3) (x2.mono fun _ z => .inl z)
      · rcases z with (z | z) | z
        · exact nfw a m (.inl z)
        · exact nf' a z (.inl (.inr m))
        · exact nfp a z (.inr m)
      · rcases f with ((f | f) | f) | f
        · exact .inl (.inl (.inl f))
        · exact .inr f
        · exact .inl (.inr f)
        · exact .inl (.inl (.inr f))
    | exc y outs =>
      rw [e2] at h
      intro Z2 H2 us p eu so ndp nfp b2 x2 c dd ea
      have ok3 : Ok K Z2 (uni F p) H2 σ sd2 := ⟨ow, ss.keep x2.z fun a m => x2.f a (.inr m), ndw, fun a m z => ?_, b2.z, fun a f => b2.f a ?_⟩
      · exact h c dd Z2 H2 ea (Ok.putB so ndp (fun a m z => nfp a m (.inl z)) (hval us eu) ok3) (x2.mono fun _ z => .inl z)
      · rcases z with z | z
        · exact nfw a m (.inl z)
        · exact nfp a z (.inr m)
      · rcases f with (f | f) | f
        · exact .inl (.inl f)
        · exact .inr f
        · exact .inl (.inr f)
    | stuck => rw [e2] at h; exact h
end
end VS
/-! VS34: methods, properties, new instances. -/
namespace VS
open PySem PySem.Spec L2
open PyProof.Rows (envOfC)

/-! ### the kit's rules, with what is raised wished for at the slots -/
section
variable {X : Cx} {CX : CXT} {k : Nat} {f C : Addr} {fd : FuncData} {ps : List Str} {sp : Sp} {dvs : List V} {ds : List Value} {E : St → XK} {x m : Str} {p pos apos : Pos} {e o : Expr} {es : List Expr} {ta : TE} {t : TA}
def tMethS (C : Addr) (m : Str) (sp : Sp) (dvs : List V) (E : St → XK) (ta : TE) (t : TA) : TE := fun σ H Q => ta σ H fun x H1 => ∃ a dx fs, x = .ref a ∧ H1 a = some (.ins C dx fs) ∧ fs.lookup m = none ∧
  t σ H1 fun vs H2 => sp (x :: (vs ++ dvs)) H2 Q (E σ)
theorem pe_methS {pl : Sem Bool} (he : PE X o ta) (c : L2.Cls X.K C) (hm : Meth X.K C m f) (F : FnOk X.prog X.w X.K X.mg X.base CX k f fd ps sp) (hr : Room k X.A) (hb : Binds X.K fd ps ds) (hd : Vals dvs ds) (hx : ∀ σ, PassesAt CX X σ (E σ)) (ha : PA X (e :: es) t)
    (hst : starEach (e :: es) X.env = (false, eval e X.env) :: starEach es X.env := by rfl) (hpl : (backTo pos (starEach es X.env)).any (·.1) = false := by rfl)
    (ht : eval (.Call (.Attribute o m apos) (e :: es) [] pos) X.env = (do
      let ov ← eval o X.env
      standAt apos.atName
      let (f, first) ← holding [ov] (getMethod ov m pl)
      callWith pos f first (backTo pos (starEach (e :: es) X.env)) (backToKw pos (keywordEach [] X.env))) := by rfl) :
    PE X (.Call (.Attribute o m apos) (e :: es) [] pos) (tMethS C m sp dvs E ta t) := by
  refine ⟨fun pins s σ H Q I h => ?_⟩
  refine PySem.W.methodCall_KW (pl := pl) (thn (he.run pins s σ H _ I h) fun u s1 ⟨x, H1, I1, rx, a, dx, fs, ex, ea, l, q⟩ => ?_) ht
  subst ex
  obtain rfl : u = Value.ref a := rx
  refine getmeth_ok I1 ea c hm l ?_
  refine PySem.W.callWith_K (first := [.ref a]) (h₀ := X.base) I.ok.mod.kin hm.kp (thn (ha.run pos pins s1 σ H1 _ I1 q) fun us s2 ⟨vs, H2, I2, r, q2⟩ => ⟨I2.kIn, ?_⟩) hst hpl
  exact run_fnSD (us := .ref a :: us) (vs := .ref a :: vs) F hr hb hd (hx σ) I2 (.cons rfl r) q2
theorem pe_methS0 {pl : Sem Bool} (he : PE X o ta) (c : L2.Cls X.K C) (hm : Meth X.K C m f) (F : FnOk X.prog X.w X.K X.mg X.base CX k f fd ps sp) (hr : Room k X.A) (hb : Binds X.K fd ps ds) (hd : Vals dvs ds) (hx : ∀ σ, PassesAt CX X σ (E σ))
    (ht : eval (.Call (.Attribute o m apos) [] [] pos) X.env = (do
      let ov ← eval o X.env
      standAt apos.atName
      let (f, first) ← holding [ov] (getMethod ov m pl)
      callWith pos f first (backTo pos (starEach [] X.env)) (backToKw pos (keywordEach [] X.env))) := by rfl) :
    PE X (.Call (.Attribute o m apos) [] [] pos) (tMethS C m sp dvs E ta tNil) := by
  refine ⟨fun pins s σ H Q I h => ?_⟩
  refine PySem.W.methodCall_KW (pl := pl) (thn (he.run pins s σ H _ I h) fun u s1 ⟨x, H1, I1, rx, a, dx, fs, ex, ea, l, q⟩ => ?_) ht
  subst ex
  obtain rfl : u = Value.ref a := rx
  refine getmeth_ok I1 ea c hm l ?_
  exact PySem.W.callWith_K0 (first := [.ref a]) I1.kIn hm.kp (run_fnSD (us := [.ref a]) (vs := [.ref a]) F hr hb hd (hx σ) I1 (.cons rfl .nil) q)
def tMakeS (C : Addr) (sp : Sp) (dvs : List V) (E : St → XK) (t : TA) : TE := fun σ H Q => t σ H fun vs H1 => ∀ x dx, H1 x = none → H1 dx = none → dx ≠ x →
  sp (.ref x :: (vs ++ dvs)) (upd (upd H1 dx (.own x)) x (.ins C dx [])) (fun v H2 => v = .non ∧ Q (.ref x) H2) (E σ)
theorem run_makeS {pins : List (Addr × Obj)} {σ : St} {H : Hp} {s : Shared} {Q : VK} {us : List Value} {vs : List V} (M : Mk X.K C f) (F : FnOk X.prog X.w X.K X.mg X.base CX k f fd ps sp) (hr : Room (k + 1) X.A) (hb : Binds X.K fd ps ds) (hd : Vals dvs ds)
    (hx : PassesAt CX X σ (E σ)) (I : Inv X pins σ H s) (r : Vals vs us)
    (h : ∀ x dx, H x = none → H dx = none → dx ≠ x → sp (.ref x :: (vs ++ dvs)) (upd (upd H dx (.own x)) x (.ins C dx [])) (fun v H2 => v = .non ∧ Q (.ref x) H2) (E σ)) :
    wpAny (model X.prog X.w) X.A (call (.ref C) us) (EP X pins σ Q) X.xe s := by
  have hq := h (s.heap.objs.size + 1) s.heap.objs.size (I.hok.fresh (Nat.le_succ _)) (I.hok.fresh (Nat.le_refl _)) (Nat.ne_of_lt (Nat.lt_succ_self _))
  have I2 := Inv.made (C := C) I
  have r2 : Vals (V.ref (s.heap.objs.size + 1) :: (vs ++ dvs)) (Value.ref (s.heap.objs.size + 1) :: (us ++ ds)) := .cons rfl (r.append hd)
  have hl : (Value.ref (s.heap.objs.size + 1) :: us ++ ds).length = ps.length := by
    have e := r2.length
    rw [F.len _ _ _ _ hq] at e
    exact e.symm
  refine wpAny_call (make_map (f := f) I.kIn M.makes M.init (beq_iff_eq.mp M.fn) (codeAny_mono (F.run _ X.stack _ _ ⟨Value.ref (s.heap.objs.size + 1) :: us, []⟩ (Value.ref (s.heap.objs.size + 1) :: (us ++ ds)) _ _ (E σ) (hr.make C us [])
    (I2.env0.make C us []) (hb _ (Value.ref (s.heap.objs.size + 1) :: us) I2.kIn hl) r2 hq) fun r s' hq' => ?_))
  cases r with
  | error e => exact hx pins _ _ e s' I2 hq'
  | ok fl =>
    cases fl with
    | ret u =>
      obtain ⟨v, H', I3, rv, ev, q3⟩ := I2.after hq'
      subst ev
      exact ⟨rv, ⟨V.ref (s.heap.objs.size + 1), H', I3, rfl, q3⟩⟩
    | next => exact False.elim hq'
    | brk => exact False.elim hq'
    | cont => exact False.elim hq'
theorem pe_makeS (M : Mk X.K C f) (F : FnOk X.prog X.w X.K X.mg X.base CX k f fd ps sp) (hr : Room (k + 1) X.A) (hg : Gl X x) (hm : X.mg x = some (.ref C)) (hb : Binds X.K fd ps ds) (hd : Vals dvs ds) (hx : ∀ σ, PassesAt CX X σ (E σ))
    (ha : PA X (e :: es) t) (hdb : (x == ("__debug__" : Str)) = false := by decide) (he : starEach (e :: es) X.env = (false, eval e X.env) :: starEach es X.env := by rfl) (hpl : (backTo pos (starEach es X.env)).any (·.1) = false := by rfl) :
    PE X (.Call (.Name x p) (e :: es) [] pos) (tMakeS C sp dvs E t) := by
  refine ⟨fun pins s σ H Q I h => ?_⟩
  refine wpAny_Call_Name_kw (ld_glob I hg hm ?_ hdb)
  refine PySem.W.callWith_K (h₀ := X.base) I.ok.mod.kin M.kp (thn (ha.run pos pins s σ H _ I h) fun us s1 ⟨vs, H1, I1, r, q⟩ => ⟨I1.kIn, ?_⟩) he hpl
  exact run_makeS M F hr hb hd (hx σ) I1 r q
end

/-! ### what a class gives -/
structure MetO (P : Program) (w : World) (K : PySem.W.Frag) (base : Heap) (mg : Mg) (c m : Str) (k : Nat) (n : Nat) (ios : List Nat) (dfl : List D) (f : FnO) : Prop where
  ex : ∃ (C fa : Addr) (fd : FuncData) (ps : List Str) (dvs : List V) (ds : List Value), ClsAt K c C ∧ L2.Cls K C ∧ Meth K C m fa ∧ Binds K fd ps ds ∧ Vals dvs ds ∧ (∀ Z H, RpAll K Z H dvs dfl 0 []) ∧ FnOk P w K mg base (L2.CX P w) k fa fd ps (spIO K mg n ios f)
structure PrpO (P : Program) (w : World) (K : PySem.W.Frag) (base : Heap) (mg : Mg) (c m : Str) (k : Nat) (f : FnO) : Prop where
  ex : ∃ (C p fa : Addr) (fd : FuncData) (ps : List Str), ClsAt K c C ∧ L2.Cls K C ∧ PropOf K C m p fa ∧ Binds K fd ps [] ∧ FnOk P w K mg base (L2.CX P w) k fa fd ps (spIO K mg 1 [0] f)
structure MakO (P : Program) (w : World) (K : PySem.W.Frag) (base : Heap) (mg : Mg) (c : Str) (k : Nat) (n : Nat) (dfl : List D) (f : FnO) : Prop where
  ex : ∃ (C fa : Addr) (fd : FuncData) (ps : List Str) (dvs : List V) (ds : List Value), mg c = some (.ref C) ∧ ClsAt K c C ∧ Mk K C fa ∧ Binds K fd ps ds ∧ Vals dvs ds ∧ (∀ Z H, RpAll K Z H dvs dfl 0 []) ∧ FnOk P w K mg base (L2.CX P w) k fa fd ps (spIO K mg n [0] f)

/-- an instance of the class c without an attribute m -/
def insOk (c m : Str) : Option (D × Nat) → Bool
  | some (.ins c' fs _, _) => decide (c' = c) && !fs.contains m
  | _ => false
theorem lkF_none {α : Type} {m : Str} : ∀ {fs : List Str} {xs : List α}, fs.contains m = false → lkF fs xs m = none
  | [], _, _ => by simp [lkF]
  | g :: fs, [], _ => by simp [lkF]
  | g :: fs, x :: xs, h => by
    simp only [List.contains_cons, Bool.or_eq_false_iff] at h
    unfold lkF
    rw [if_neg (fun e => by rw [e] at h; simp at h)]
    exact lkF_none h.2
/-- an instance, as it lies -/
theorem Rp.insAt {K : PySem.W.Frag} {Z : Pz} {H : Hp} {v : V} {d : D} {k : Nat} {p : List Addr} {c m : Str} (r : Rp K Z H v d k p) (h : insOk c m (some (d, k)) = true) :
    ∃ a C dx gs, v = .ref a ∧ H a = some (.ins C dx gs) ∧ ClsAt K c C ∧ gs.lookup m = none := by
  cases r with
  | ins0 z z2 h1 h2 l cc r =>
    unfold insOk at h
    rw [Bool.and_eq_true] at h
    obtain rfl := of_decide_eq_true h.1
    exact ⟨_, _, _, _, rfl, h1, cc, (lkF_zip _ _ _).trans (lkF_none (by simpa using h.2))⟩
  | insS h1 h2 l cc r =>
    unfold insOk at h
    rw [Bool.and_eq_true] at h
    obtain rfl := of_decide_eq_true h.1
    exact ⟨_, _, _, _, rfl, h1, cc, (lkF_zip _ _ _).trans (lkF_none (by simpa using h.2))⟩
  | _ => cases h
def outM (i : Nat) (sd : SD) : FRO → R (D × Nat)
  | .ok w [u] => .ok w (sd.set i (some u))
  | .exc x [u] => .exc x (sd.set i (some u))
  | _ => .stuck
/-- x.m(..), x a name -/
def calM (c m : Str) (n : Nat) (f : FnO) (dfl : List D) (i : Nat) (fs : Eg) : Ev := fun sd => if insOk c m (gtS sd i) = true then (fs sd).bind fun ws sd1 => match gtS sd1 i with
    | some w0 => if ws.length + 1 + dfl.length = n then outM i (sd1.set i none) (f (w0 :: ws ++ dfl.map fun d => (d, 0))) else .stuck
    | none => .stuck
  else .stuck
theorem AgS.of_slots {K : PySem.W.Frag} {Z : Pz} {H : Hp} {σ : St} : ∀ {vs : List V} {ws : List (D × Nat)} {o : List Addr}, Slots K Z H (vs.map some) (ws.map some) o → AgS K Z H σ vs (ws.map .w) o
  | [], [], _, h => by cases h; exact .nil
  | [], _ :: _, _, h => by have := h.length; simp at this
  | _ :: _, [], _, h => by have := h.length; simp at this
  | v :: vs, (d, k) :: ws, _, h => by
    cases h with
    | cons r s => exact .w r (AgS.of_slots s)
theorem rsm_ws (sd : SD) (ws : List (D × Nat)) : rsm sd (ws.map .w) = some (ws, sd) := by
  induction ws with
  | nil => rfl
  | cons w ws ih =>
    rw [List.map_cons]
    unfold rsm
    rw [ih]; rfl
theorem mPos_ws (ws : List (D × Nat)) : ∀ n, mPos n (ws.map Ag.w) = [] := by
  induction ws with
  | nil => intro n; rfl
  | cons w ws ih => intro n; rw [List.map_cons]; exact ih (n + 1)
theorem mSl_ws (ws : List (D × Nat)) : mSl (ws.map Ag.w) = [] := by
  induction ws with
  | nil => rfl
  | cons w ws ih => rw [List.map_cons]; exact ih
section
variable {X : Cx} {W : WX} {pos p q : Pos} {a b c : Expr} {es : List Expr} {fa fb : Ev} {fs : Eg}
/-- the receiver's slot and the arguments: the promise is asked for -/
theorem recv_core {K : PySem.W.Frag} {mg : Mg} {Z1 F : Pz} {H1 : Hp} {σ : St} {n i : Nat} {dfl : List D} {dvs : List V} {f : FnO} {sd1 : SD} {v : V} {vs : List V} {ws : List (D × Nat)} {w0 : D × Nat} {o : List Addr} {Q : VK} {E : XK} (h5 : ∀ Z H, RpAll K Z H dvs dfl 0 [])
    (s : Slots K Z1 H1 (vs.map some) (ws.map some) o) (nd : o.Nodup) (nf : ∀ a ∈ o, ¬ F a) (ok1 : Ok K Z1 (uni F o) H1 σ sd1) (ev : σ[i]? = some (some v)) (e0 : gtS sd1 i = some w0) (hn : ws.length + 1 + dfl.length = n)
    (h : resP K mg F Z1 H1 σ (sd1.set i none) [i] (f (w0 :: ws ++ dfl.map fun d => (d, 0))) Q E) : spIO K mg n [0] f (v :: (vs ++ dvs)) H1 Q E := by
  have s2 : AgS K Z1 H1 σ (v :: vs) (.b i :: ws.map .w) o := .b ev (.of_slots s)
  refine spIO_core (vs := v :: vs) h5 (fun j m => ?_) s2 nd nf ok1 (xs := w0 :: ws) (sd2 := sd1.set i none) ?_ ?_ ?_
  · rw [List.mem_singleton] at m
    subst m
    omega
  · unfold rsm
    rw [e0]
    show (rsm (sd1.set i none) (ws.map .w)).map _ = _
    rw [rsm_ws]; rfl
  · rw [Bool.and_eq_true]
    refine ⟨beq_iff_eq.mpr (by rw [List.length_cons]; exact hn), beq_iff_eq.mpr ?_⟩
    unfold mPos
    rw [mPos_ws]
  · have : mSl (.b i :: ws.map Ag.w) = [i] := by
      show i :: mSl (ws.map .w) = _
      rw [mSl_ws]
    rw [this]
    exact h
theorem resM {K : PySem.W.Frag} {mg : Mg} {Z Z1 F : Pz} {H H1 : Hp} {σ : St} {sd : SD} {i : Nat} {r : FRO} {Q : VK} (x1 : Ext F Z H Z1 H1) (h : eP K mg W Z F σ H (outM i sd r) Q) : resP K mg F Z1 H1 σ sd [i] r Q (WE W σ) := by
  unfold resP
  unfold outM at h
  split at h
  · exact fun v Z2 H2 o' r nd nf ok x => h v Z2 H2 o' r nd nf ok (x1.trans x)
  · exact fun c dd Z2 H2 ea ok x => h c dd Z2 H2 ea ok (x1.trans x)
  · exact h.elim
theorem gtS_of {sd : SD} {i : Nat} {w : D × Nat} (h : sd[i]? = some (some w)) : gtS sd i = some w := by unfold gtS; rw [h]
theorem se_mth {x c m : Str} {k n : Nat} {dfl : List D} {f : FnO} {px pa : Pos} (i : Nat) (G : MetO X.prog X.w X.K X.base X.mg c m k n [0] dfl f) (hr : Room k X.A) (tk : Takes X W) (ha : SGa X W (a :: es) fs)
    (hN : X.N[i]? = some x := by rfl) (hv : Vis X.env.scope x := by first | exact Or.inl rfl | exact Or.inr (Or.inl rfl) | exact Or.inr (Or.inr rfl)) (hd : (x == ("__debug__" : Str)) = false := by decide) (hcd : (x == ("__classdict__" : Str)) = false := by decide)
    {pl : Sem Bool} (hst : starEach (a :: es) X.env = (false, eval a X.env) :: starEach es X.env := by rfl) (hpl : (backTo pos (starEach es X.env)).any (·.1) = false := by rfl)
    (ht : eval (.Call (.Attribute (.Name x px) m pa) (a :: es) [] pos) X.env = (do
      let ov ← eval (.Name x px) X.env
      standAt pa.atName
      let (f, first) ← holding [ov] (getMethod ov m pl)
      callWith pos f first (backTo pos (starEach (a :: es) X.env)) (backToKw pos (keywordEach [] X.env))) := by rfl) : SE X W (.Call (.Attribute (.Name x px) m pa) (a :: es) [] pos) (calM c m n f dfl i fs) := by
  obtain ⟨C, fa, fd, ps, dvs, ds, h1, h2, h3, h4, h4', h5, h6⟩ := G.ex
  refine PE.imp (pe_methS (pe_var hN hv hd hcd) h2 h3 h6 hr h4 h4' (fun σ => passAt tk σ) ha hst hpl ht) fun σ H Q ⟨Z, F, sd, ok, h⟩ => ?_
  unfold calM at h
  split at h
  case isFalse => exact h.elim
  rename_i hi
  cases e0 : gtS sd i with
  | none => rw [e0] at hi; cases hi
  | some w0 =>
  obtain ⟨d0, k0⟩ := w0
  rw [e0] at hi
  obtain ⟨v, p0, e1, r0, _, _, _⟩ := ok.take (gtS_some e0)
  obtain ⟨ad, C', dx, gs, ev, hh, hc, hl⟩ := r0.insAt hi
  obtain rfl := hc.uniq h1
  refine ⟨v, e1, ad, dx, gs, ev, hh, hl, ?_⟩
  refine ⟨Z, F, sd, ok, ?_⟩
  cases e : fs sd with
  | stuck => rw [e] at h; exact h
  | exc y sd1 => rw [e] at h; exact h
  | ok ws sd1 =>
    rw [e, R.bind_ok] at h
    intro vs Z1 H1 o s nd nf ok1 x1
    split at h
    case h_2 => exact h.elim
    rename_i w1 e2
    split at h
    case isFalse => exact h.elim
    rename_i hn
    exact recv_core h5 s nd nf ok1 e1 e2 hn (resM x1 h)
theorem se_mth0 {x c m : Str} {k n : Nat} {dfl : List D} {f : FnO} {px pa : Pos} (i : Nat) (G : MetO X.prog X.w X.K X.base X.mg c m k n [0] dfl f) (hr : Room k X.A) (tk : Takes X W)
    (hN : X.N[i]? = some x := by rfl) (hv : Vis X.env.scope x := by first | exact Or.inl rfl | exact Or.inr (Or.inl rfl) | exact Or.inr (Or.inr rfl)) (hd : (x == ("__debug__" : Str)) = false := by decide) (hcd : (x == ("__classdict__" : Str)) = false := by decide)
    {pl : Sem Bool} (ht : eval (.Call (.Attribute (.Name x px) m pa) [] [] pos) X.env = (do
      let ov ← eval (.Name x px) X.env
      standAt pa.atName
      let (f, first) ← holding [ov] (getMethod ov m pl)
      callWith pos f first (backTo pos (starEach [] X.env)) (backToKw pos (keywordEach [] X.env))) := by rfl) : SE X W (.Call (.Attribute (.Name x px) m pa) [] [] pos) (calM c m n f dfl i gNil) := by
  obtain ⟨C, fa, fd, ps, dvs, ds, h1, h2, h3, h4, h4', h5, h6⟩ := G.ex
  refine PE.imp (pe_methS0 (pe_var hN hv hd hcd) h2 h3 h6 hr h4 h4' (fun σ => passAt tk σ) ht) fun σ H Q ⟨Z, F, sd, ok, h⟩ => ?_
  unfold calM at h
  split at h
  case isFalse => exact h.elim
  rename_i hi
  cases e0 : gtS sd i with
  | none => rw [e0] at hi; cases hi
  | some w0 =>
  obtain ⟨d0, k0⟩ := w0
  rw [e0] at hi
  obtain ⟨v, p0, e1, r0, _, _, _⟩ := ok.take (gtS_some e0)
  obtain ⟨ad, C', dx, gs, ev, hh, hc, hl⟩ := r0.insAt hi
  obtain rfl := hc.uniq h1
  refine ⟨v, e1, ad, dx, gs, ev, hh, hl, ?_⟩
  unfold gNil at h
  rw [R.bind_ok, e0] at h
  split at h
  case h_2 => exact h.elim
  rename_i w1 e2
  cases e2
  split at h
  case isFalse => exact h.elim
  rename_i hn
  exact recv_core (vs := []) h5 .nil .nil (fun _ m => absurd m List.not_mem_nil) ok.unnil e1 e0 hn (resM .refl h)
/-- x.m, a property, x a name -/
def prpM (c m : Str) (f : FnO) (i : Nat) : Ev := fun sd => match gtS sd i with
  | some w0 => if insOk c Str.empty (some w0) = true then (match f [w0] with
    | .ok w [u] => .ok w (sd.set i (some u))
    | _ => .stuck) else .stuck
  | none => .stuck
theorem cxF {P : Program} {w : World} {X : Cx} : Passes (L2.CX P w) X (fun _ _ _ => False) := fun _ _ _ _ _ _ _ h => by
  obtain ⟨_, _, _, _, _, _, _, _, _, _, _, _, z⟩ := h
  exact z.elim
theorem se_prp {x c m : Str} {k : Nat} {f : FnO} {px : Pos} (i : Nat) (G : PrpO X.prog X.w X.K X.base X.mg c m k f) (hr : Room (k + 1) X.A)
    (hN : X.N[i]? = some x := by rfl) (hv : Vis X.env.scope x := by first | exact Or.inl rfl | exact Or.inr (Or.inl rfl) | exact Or.inr (Or.inr rfl)) (hd : (x == ("__debug__" : Str)) = false := by decide) (hcd : (x == ("__classdict__" : Str)) = false := by decide)
    (hab : attributeBase (.Name x px) m X.env (eval (.Name x px) X.env) = eval (.Name x px) X.env := by rfl) : SE X W (.Attribute (.Name x px) m pos) (prpM c m f i) := by
  obtain ⟨C, pr, fa, fd, ps, h1, h2, h3, h4, h6⟩ := G.ex
  refine PE.imp (pe_prop (pe_var hN hv hd hcd) h2 h3 h6 hr h4 .nil cxF hab) fun σ H Q ⟨Z, F, sd, ok, h⟩ => ?_
  unfold prpM at h
  split at h
  case h_2 => exact h.elim
  rename_i w0 e0
  split at h
  case isFalse => exact h.elim
  rename_i hi
  obtain ⟨d0, k0⟩ := w0
  obtain ⟨v, p0, e1, r0, _, _, _⟩ := ok.take (gtS_some e0)
  obtain ⟨ad, C', dx, gs, ev, hh, hc, hl⟩ := r0.insAt hi
  obtain rfl := hc.uniq h1
  refine ⟨v, e1, ad, dx, gs, ev, hh, ?_⟩
  subst ev
  refine recv_core (vs := []) (dvs := []) (dfl := []) (ws := []) (fun _ _ => .nil 0) .nil .nil (fun _ m => absurd m List.not_mem_nil) ok.unnil e1 e0 rfl ?_
  unfold resP
  show match f [(d0, k0)] with
    | .ok w outs => _
    | .exc x outs => _
    | .stuck => _
  split at h
  · rename_i w u ef
    rw [ef]
    intro v2 Z2 H2 o' r nd nf ok2 x2
    exact h v2 Z2 H2 o' r nd nf (by
      have : putB (sd.set i none) [i] [u] = sd.set i (some u) := by
        show (sd.set i none).set i (some u) = _
        rw [List.set_set]
      rw [← this]; exact ok2) x2
  · exact h.elim
end
end VS
/-! VS35: new instances; x.count(e), x.index(e), x.insert(i, e). -/
namespace VS
open PySem PySem.Spec L2
open PyProof.Rows (envOfC)
/-! ### C(..) -/
def mkR (sd : SD) : FRO → R (D × Nat)
  | .ok (.non, _) [u] => .ok u sd
  | .exc x _ => .exc x sd
  | _ => .stuck
def mkO (c : Str) (n : Nat) (f : FnO) (dfl : List D) (fs : Eg) : Ev := fun sd => (fs sd).bind fun ws sd1 => if ws.length + 1 + dfl.length = n then mkR sd1 (f ((.ins c [] [], 1) :: ws ++ dfl.map fun d => (d, 0))) else .stuck
section
variable {X : Cx} {W : WX} {pos p q : Pos} {a b c : Expr} {es : List Expr} {fa fb : Ev} {fs : Eg}
theorem se_mk {x : Str} {k n : Nat} {dfl : List D} {f : FnO} (G : MakO X.prog X.w X.K X.base X.mg x k n dfl f) (hr : Room (k + 1) X.A) (tk : Takes X W) (ha : SGa X W (a :: es) fs) (hg : Gl X x := by rfl) (hdb : (x == ("__debug__" : Str)) = false := by decide)
    (he : starEach (a :: es) X.env = (false, eval a X.env) :: starEach es X.env := by rfl) (hpl : (backTo pos (starEach es X.env)).any (·.1) = false := by rfl) : SE X W (.Call (.Name x p) (a :: es) [] pos) (mkO x n f dfl fs) := by
  obtain ⟨C, fa, fd, ps, dvs, ds, h1, h2, h3, h4, h4', h5, h6⟩ := G.ex
  refine PE.imp (pe_makeS h3 h6 hr hg h1 h4 h4' (fun σ => passAt tk σ) ha hdb he hpl) fun σ H Q ⟨Z, F, sd, ok, h⟩ => ?_
  refine ⟨Z, F, sd, ok, ?_⟩
  unfold mkO at h
  cases e : fs sd with
  | stuck => rw [e] at h; exact h
  | exc y sd1 => rw [e] at h; exact h
  | ok ws sd1 =>
    rw [e, R.bind_ok] at h
    intro vs Z1 H1 o s nd nf ok1 x1 xa dx nx ndx nex
    split at h
    case isFalse => exact h.elim
    rename_i hn
    obtain ⟨ok2, e2, nf2, nz2⟩ := ok1.new (o := .own xa) ndx
    have nx2 : upd H1 dx (.own xa) xa = none := by rw [upd_ne fun e => nex e.symm]; exact nx
    obtain ⟨ok3, e3, nf3, nz3⟩ := ok2.new (o := .ins C dx []) nx2
    have x13 := e2.trans (e3.mono fun _ z => .inl z)
    obtain ⟨ow, ss, ndw, nfw, b⟩ := ok3.ex
    have hdl : dvs.length = dfl.length := (h5 Z1 H1).length
    have hlen : (V.ref xa :: (vs ++ dvs)).length = n := by
      have q1 := s.length
      rw [List.length_map, List.length_map] at q1
      rw [List.length_cons, List.length_append]
      omega
    have s3 := s.keep x13.z (fun a m => x13.f a (.inr m))
    have hF : ∀ a, F a → uni (uni (uni F o) [dx]) [xa] a := fun a z => .inl (.inl (.inl z))
    have ho : ∀ a ∈ o, uni (uni (uni F o) [dx]) [xa] a := fun a z => .inl (.inl (.inr z))
    have hnx : ¬ uni (uni F o) [dx] xa := nf3
    have hnd : ¬ uni F o dx := nf2
    have rI : Rp X.K Z1 (upd (upd H1 dx (.own xa)) xa (.ins C dx [])) (.ref xa) (.ins x [] []) 1 [xa, dx] := by
      refine .insS (o := []) (xs := []) (C := C) (dx := dx) upd_same ?_ rfl h2 (.nil 0)
      rw [upd_ne nex, upd_same]
    refine ⟨Z1, uni F ow, (.ins x [] [], 1) :: ws ++ dfl.map fun d => (d, 0), [xa, dx] ++ o, hlen, ?_, ?_, fun a m z => ?_, ⟨b.z, fun a f => b.f a ?_⟩, ?_⟩
    · have q3 := s3.app (Slots.of_all (h5 Z1 (upd (upd H1 dx (.own xa)) xa (.ins C dx []))))
      rw [List.append_nil] at q3
      have q4 := Slots.cons rI q3
      simpa using q4
    · refine List.nodup_append.mpr ⟨by simpa using fun e : xa = dx => nex e.symm, nd, fun a ha b hb e => ?_⟩
      subst e
      simp only [List.mem_cons, List.not_mem_nil, or_false] at ha
      rcases ha with rfl | rfl
      · exact hnx (.inl (.inr hb))
      · exact hnd (.inr hb)
    · rcases List.mem_append.mp m with m | m
      · simp only [List.mem_cons, List.not_mem_nil, or_false] at m
        rcases m with rfl | rfl
        · rcases z with z | z
          · exact hnx (.inl (.inl z))
          · exact nfw _ z (.inr List.mem_cons_self)
        · rcases z with z | z
          · exact hnd (.inl z)
          · exact nfw _ z (.inl (.inr List.mem_cons_self))
      · rcases z with z | z
        · exact nf a m z
        · exact nfw a z (ho a m)
    · rcases f with (f | f) | f
      · exact .inl (hF a f)
      · exact .inr f
      · rcases List.mem_append.mp f with m | m
        · simp only [List.mem_cons, List.not_mem_nil, or_false] at m
          rcases m with rfl | rfl
          · exact .inl (.inr List.mem_cons_self)
          · exact .inl (.inl (.inr List.mem_cons_self))
        · exact .inl (ho a m)
    · cases ef : f ((.ins x [] [], 1) :: ws ++ dfl.map fun d => (d, 0)) with
      | stuck => rw [ef] at h; exact h.elim
      | exc y outs =>
        rw [ef] at h
        intro Z2 H2 us p eu so ndp nfp b2 x2 c dd ea
        refine h c dd Z2 H2 ea ⟨ow, ss.keep x2.z fun a m => x2.f a (.inr m), ndw, fun a m z => nfw a m (hF a z), b2.z, fun a f => b2.f a (.inl f)⟩ ((x1.trans (x13.mono fun _ z => .inl z)).trans (x2.mono fun _ z => .inl z))
      | ok w outs =>
        rw [ef] at h
        intro Z2 H2 us p eu so ndp nfp b2 x2 v o' rv nd' nf' b3
        unfold mkR at h
        split at h
        case h_3 => exact h.elim
        case h_2 ee => cases ee
        rename_i u ee
        cases ee
        cases rv
        refine ⟨rfl, ?_⟩
        obtain ⟨d', k'⟩ := u
        have eu1 : us = [V.ref xa] := by
          cases us with
          | nil => cases eu
          | cons u1 us =>
            have e5 : [some (V.ref xa)] = some u1 :: us.map some := eu
            injection e5 with e6 e7
            cases e6
            cases us with
            | nil => rfl
            | cons _ _ => cases e7
        subst eu1
        cases so with
        | cons r s' =>
        cases s'
        rw [List.append_nil] at ndp nfp b2 b3
        rename_i pr
        refine h (.ref xa) Z2 H2 pr r ndp (fun a m z => nfp a m (.inl z)) ⟨ow, ss.keep x2.z fun a m => x2.f a (.inr m), ndw, fun a m z => ?_, b2.z, fun a f => b2.f a ?_⟩ ((x1.trans (x13.mono fun _ z => .inl z)).trans (x2.mono fun _ z => .inl z))
        · rcases z with z | z
          · exact nfw a m (hF a z)
          · exact nfp a z (.inr m)
        · rcases f with (f | f) | f
          · exact .inl (.inl f)
          · exact .inr f
          · exact .inl (.inr f)
/-- an attribute of what is never there (it raises) -/
def atX (f : Ev) : Ev := fun sd => (f sd).bind fun _ _ => .stuck
theorem se_atX {f : Str} (ha : SE X W a fa) (hb : attributeBase a f X.env (eval a X.env) = eval a X.env := by rfl) : SE X W (.Attribute a f pos) (atX fa) := by
  refine PE.imp (pe_fld ha hb) fun σ H Q ⟨Z, F, sd, ok, h⟩ => ?_
  unfold atX at h
  refine eP.seq (G := fun _ _ => True) ok (fun w1 sd1 e1 v1 Z1 H1 r1 ok1 x1 => ?_) (fun x sd1 e1 => ?_) (fun e1 => ?_)
  · rw [e1] at h; exact h.elim
  · rw [e1] at h; exact h
  · rw [e1] at h; exact h
end

/-! ### x.count(e), x.index(e), x a name -/
section
variable {K : PySem.W.Frag} {Z Z' : Pz} {H H' : Hp} {X : Cx} {W : WX} {pos p q : Pos} {a b c : Expr} {es : List Expr} {fa fb : Ev} {fs : Eg}
def rCountD (K : PySem.W.Frag) : V → List V → Hp → VK → Prop := fun x xs H Q => ∃ (a : Addr) (y : V) (d : PyData) (ds : List PyData), x = V.ref a ∧ xs = [y] ∧ Dp K H (V.ref a) (.list ds) ∧ Dp K H y d ∧
  SeqAt.shaped (.list ds) = true ∧ SeqAt.shaped d = true ∧ Q (.int ((ds.countP fun z => PyData.eqv z d : Nat) : Int)) H
theorem mt_countD (hu : X.A.units + 65 < cLine) : MtR X "list.count" (rCountD X.K) := by
  intro pins s σ H x xs v us Q I rx rxs h
  obtain ⟨a, y, d, ds, rfl, rfl, hl, hy, sl, sd, q⟩ := h
  cases rx
  cases rxs with
  | cons ry rt =>
    rename_i uy ut
    cases rt
    obtain ⟨bs, r1⟩ := Dp.reads I d y uy hy ry
    have hxs : PyData.canLayAll0 ds = true := SeqAt.canLay_of_shaped sl
    have hroom : X.A.units + 1 + min (PyData.depthAll ds) d.depth < cLine := PyProof.Rows.room_in_shaped sd hu
    cases hl with
    | lst hs ha =>
      obtain ⟨its, rv, ⟨⟨cls, dd, data, sls⟩, n, ho, hc, hdn, hdt⟩, hlen⟩ := I.list hs
      simp only at hc hdt
      subst hc hdt
      obtain ⟨as, h4⟩ := Dp.readsAll I ds _ its ha rv
      have hmap : its.map (SeqAt.readOf s.heap) = ds := SeqAt.readsAll_map ds its as hxs h4
      refine call_meets PySem.F.slot_list_count ⟨_, ho, rfl⟩ PySem.F.entry_list_count (PySem.F.args_list_count_2 _ _)
        (SeqAt.list_countAt a its.toArray n dd sls uy (fun u => PyData.eqv (SeqAt.readOf s.heap u) d)) ⟨ho, SeqAt.items_eqAt (vs := its.toArray) (show ReadsAll s.heap its.toArray.toList ds as from h4) r1 hxs (SeqAt.canLay_of_shaped sd) hroom, ?_⟩
      have ec : its.toArray.toList.countP (fun u => PyData.eqv (SeqAt.readOf s.heap u) d) = ds.countP fun z => PyData.eqv z d := by
        rw [← hmap, List.countP_map]
        rfl
      refine ⟨.int ((ds.countP fun z => PyData.eqv z d : Nat) : Int), H, I.tok _, ⟨s.toks, ?_⟩, q⟩
      show Value.int ((its.toArray.toList.countP _ : Nat) : Int) s.toks = Value.int _ s.toks
      rw [ec]
def gCntL : D → D → Option (D × Nat)
  | e, .lst ds => if okd 30 e && okd 30 (.lst ds) then some (.int ((ds.countP fun y => eqv y e : Nat) : Int), 0) else none
  | _, _ => none
def gIdxL : D → D → Option (D × Nat)
  | e, .lst ds => if okd 30 e && okd 30 (.lst ds) then (ds.findIdx? fun y => eqv y e).map fun j => (.int (j : Nat), 0) else none
  | _, _ => none
theorem toPys_at : ∀ {ds : List D} {ps : List PyData}, toPys ds = some ps → ps.length = ds.length ∧ ∀ (i : Nat) (p : PyData), ps[i]? = some p → ∃ d, ds[i]? = some d ∧ toPy d = some p
  | [], ps, h => by cases h; exact ⟨rfl, fun i p e => by simp at e⟩
  | d :: ds, ps, h => by
    simp only [toPys] at h
    split at h
    · rename_i p0 ps0 e1 e2
      cases h
      obtain ⟨l, q⟩ := toPys_at e2
      refine ⟨by simp [l], fun i p e => ?_⟩
      cases i with
      | zero => cases e; exact ⟨d, rfl, e1⟩
      | succ i => exact q i p e
    · cases h
theorem count_py {e : D} {q : PyData} (he : toPy e = some q) : ∀ {ds : List D} {ps : List PyData}, toPys ds = some ps → (ps.countP fun z => PyData.eqv z q) = ds.countP fun y => eqv y e
  | [], ps, h => by cases h; rfl
  | d :: ds, ps, h => by
    simp only [toPys] at h
    split at h
    · rename_i p0 ps0 e1 e2
      cases h
      rw [List.countP_cons, List.countP_cons, count_py he e2, eqv_py d e p0 q e1 he]
    · cases h
theorem vr_cntL {e l : D} {y x : V} {w : D × Nat} {Q : VK} (hz : ∀ a, Z a → ∃ o, H a = some o) (ry : Rp K Z H y e 0 []) (rx : Rp K Z H x l 0 []) (eg : gCntL e l = some w) (k : ∀ v Z' H' o, Gr Z H Z' H' o → Rp K Z' H' v w.1 w.2 o → Q v H') : rCountD K x [y] H Q := by
  unfold gCntL at eg
  split at eg
  · rename_i ds
    obtain ⟨ho, rfl⟩ := ite_some eg
    rw [Bool.and_eq_true] at ho
    obtain ⟨q, e1, c1, l1⟩ := okd_py 30 e ho.1
    obtain ⟨p, e2, c2, l2⟩ := okd_py 30 (.lst ds) ho.2
    have e3 := e2
    simp only [toPy] at e2
    obtain ⟨ps, e4, rfl⟩ := Option.map_eq_some_iff.mp e2
    have dx := rx.dp e3
    generalize e0 : ([] : List Addr) = o0 at rx
    cases rx with
    | lst0 z h r =>
      refine ⟨_, y, q, ps, rfl, rfl, dx, ry.dp e1, ?_, ?_, ?_⟩
      · unfold SeqAt.shaped; rw [c2, Bool.true_and]; exact decide_eq_true (by omega)
      · unfold SeqAt.shaped; rw [c1, Bool.true_and]; exact decide_eq_true (by omega)
      · rw [count_py e1 e4]
        exact Gr.q k (.int _ _)
  · cases eg
theorem vr_idxL {e l : D} {y x : V} {w : D × Nat} {Q : VK} (hz : ∀ a, Z a → ∃ o, H a = some o) (ry : Rp K Z H y e 0 []) (rx : Rp K Z H x l 0 []) (eg : gIdxL e l = some w) (k : ∀ v Z' H' o, Gr Z H Z' H' o → Rp K Z' H' v w.1 w.2 o → Q v H') : rIndexD K x [y] H Q := by
  unfold gIdxL at eg
  split at eg
  case h_2 => cases eg
  rename_i ds
  split at eg
  case isFalse => cases eg
  rename_i ho
  obtain ⟨j, ej, rfl⟩ := Option.map_eq_some_iff.mp eg
  rw [Bool.and_eq_true] at ho
  obtain ⟨q, e1, c1, l1⟩ := okd_py 30 e ho.1
  obtain ⟨p, e2, c2, l2⟩ := okd_py 30 (.lst ds) ho.2
  have e3 := e2
  simp only [toPy] at e2
  obtain ⟨ps, e4, rfl⟩ := Option.map_eq_some_iff.mp e2
  have dx := rx.dp e3
  obtain ⟨hl, hat⟩ := toPys_at e4
  obtain ⟨hj, hj2, hj3⟩ := List.findIdx?_eq_some_iff_getElem.mp ej
  have hjp : j < ps.length := by omega
  obtain ⟨dj, edj, epj⟩ := hat j ps[j] (List.getElem?_eq_getElem hjp)
  generalize e0 : ([] : List Addr) = o0 at rx
  cases rx with
  | lst0 z h r =>
    refine ⟨_, y, q, ps, j, ps[j], rfl, rfl, dx, ry.dp e1, ?_, ?_, List.getElem?_eq_getElem hjp, ?_, fun m z' hm ez => ?_, ?_⟩
    · unfold SeqAt.shaped; rw [c2, Bool.true_and]; exact decide_eq_true (by omega)
    · unfold SeqAt.shaped; rw [c1, Bool.true_and]; exact decide_eq_true (by omega)
    · rw [eqv_py dj e _ q epj e1]
      rw [List.getElem?_eq_getElem hj] at edj
      cases edj
      exact hj2
    · obtain ⟨dm, edm, epm⟩ := hat m z' ez
      rw [eqv_py dm e _ q epm e1]
      rw [List.getElem?_eq_getElem (by omega)] at edm
      cases edm
      have := hj3 m hm
      simpa using this
    · exact Gr.q k (.int _ _)
/-- x.m(e), x the name of a list that is only looked at -/
def mth1 (g : D → D → Option (D × Nat)) (i : Nat) (fa : Ev) : Ev := fun sd => match sd[i]? with
  | some (some (.lst _, _)) => bor2 g fa i sd
  | _ => .stuck
theorem se_mth1 {m : Str} {id : String} {r : V → List V → Hp → VK → Prop} {g : D → D → Option (D × Nat)} (i : Nat) {x : Str} {px pa : Pos} (slot : PySem.Slot "list" m id) (hty : typeOf (.builtin id) = pure (.type "method_descriptor")) (hm : MtR X id r)
    (hg : ∀ {Z : Pz} {H : Hp} {e l : D} {y x : V} {w : D × Nat} {Q : VK}, (∀ a, Z a → ∃ o, H a = some o) → Rp X.K Z H y e 0 [] → Rp X.K Z H x l 0 [] → g e l = some w → (∀ v Z' H' o, Gr Z H Z' H' o → Rp X.K Z' H' v w.1 w.2 o → Q v H') → r x [y] H Q) (he : SE X W a fa)
    (hN : X.N[i]? = some x := by rfl) (hv : Vis X.env.scope x := by first | exact Or.inl rfl | exact Or.inr (Or.inl rfl) | exact Or.inr (Or.inr rfl)) (hd : (x == ("__debug__" : Str)) = false := by decide) (hcd : (x == ("__classdict__" : Str)) = false := by decide)
    (hbase : attributeBase (.Name x px) m X.env (eval (.Name x px) X.env) = eval (.Name x px) X.env := by rfl)
    (hfew : ((backTo p (starEach [a] X.env)).all (fun x => !x.1) && (backToKw p (keywordEach [] X.env)).all (fun x => x.1.isSome)
      && decide ([a].length + ([] : List Keyword).length + (if ([] : List Keyword).isEmpty then 0 else 1) < 30)) = true := by rfl)
    (hline : (pa.endLine == p.line) = true := by rfl) (hst : starEach [a] X.env = (false, eval a X.env) :: starEach [] X.env := by rfl) (hpl : (backTo p (starEach [] X.env)).any (·.1) = false := by rfl) :
    SE X W (.Call (.Attribute (.Name x px) m pa) [a] [] p) (mth1 g i fa) := by
  refine PE.imp (pe_bm PySem.F.plainAttrs_list slot hty hm (pe_var hN hv hd hcd) (pa_cons he pa_nil hst) hbase hfew hline hst hpl) fun σ H Q ⟨Z, F, sd, ok, h⟩ => ?_
  unfold mth1 at h
  split at h
  case h_2 => exact h.elim
  rename_i ds0 k0 e0
  obtain ⟨l, xs0, e1, hl0⟩ := ok.isLst e0
  refine ⟨.ref l, e1, .inl ⟨rfl, xs0, .of hl0⟩, ?_⟩
  unfold bor2 at h
  refine eP.seq (G := fun _ _ => True) ok (fun w1 sd1 e2 y Z1 H1 ry ok1 x1 => ?_) (fun x sd1 e2 => ?_) (fun e2 => ?_)
  · rw [e2, R.bind_ok] at h
    split at h
    case h_2 => exact h.elim
    rename_i d k ei
    split at h
    case h_2 => exact h.elim
    rename_i e eg
    split at h
    case isFalse => exact h.elim
    rename_i hs
    obtain ⟨v, Z2, e1', rv, zz, hz, fin⟩ := ok1.peek x1 ei hs h
    rw [e1] at e1'
    cases e1'
    have ry2 : Rp X.K Z2 H1 y w1.1 0 [] := ry.keep (fun a z => ⟨zz a z, rfl⟩) fun a m => absurd m List.not_mem_nil
    exact hg hz ry2 rv eg fun u Z' H' o gr ru => fin u Z' H' o gr _ ru
  · rw [e2] at h; exact h
  · rw [e2] at h; exact h
theorem se_count (i : Nat) {x : Str} {px pa : Pos} (hu : X.A.units + 65 < cLine) (he : SE X W a fa)
    (hN : X.N[i]? = some x := by rfl) (hv : Vis X.env.scope x := by first | exact Or.inl rfl | exact Or.inr (Or.inl rfl) | exact Or.inr (Or.inr rfl)) (hd : (x == ("__debug__" : Str)) = false := by decide) (hcd : (x == ("__classdict__" : Str)) = false := by decide)
    (hbase : attributeBase (.Name x px) "count" X.env (eval (.Name x px) X.env) = eval (.Name x px) X.env := by rfl)
    (hfew : ((backTo p (starEach [a] X.env)).all (fun x => !x.1) && (backToKw p (keywordEach [] X.env)).all (fun x => x.1.isSome)
      && decide ([a].length + ([] : List Keyword).length + (if ([] : List Keyword).isEmpty then 0 else 1) < 30)) = true := by rfl)
    (hline : (pa.endLine == p.line) = true := by rfl) (hst : starEach [a] X.env = (false, eval a X.env) :: starEach [] X.env := by rfl) (hpl : (backTo p (starEach [] X.env)).any (·.1) = false := by rfl) :
    SE X W (.Call (.Attribute (.Name x px) "count" pa) [a] [] p) (mth1 gCntL i fa) :=
  se_mth1 i PySem.F.slot_list_count PySem.F.type_list_count (mt_countD hu) vr_cntL he hN hv hd hcd hbase hfew hline hst hpl
theorem se_index (i : Nat) {x : Str} {px pa : Pos} (hu : X.A.units + 65 < cLine) (he : SE X W a fa)
    (hN : X.N[i]? = some x := by rfl) (hv : Vis X.env.scope x := by first | exact Or.inl rfl | exact Or.inr (Or.inl rfl) | exact Or.inr (Or.inr rfl)) (hd : (x == ("__debug__" : Str)) = false := by decide) (hcd : (x == ("__classdict__" : Str)) = false := by decide)
    (hbase : attributeBase (.Name x px) "index" X.env (eval (.Name x px) X.env) = eval (.Name x px) X.env := by rfl)
    (hfew : ((backTo p (starEach [a] X.env)).all (fun x => !x.1) && (backToKw p (keywordEach [] X.env)).all (fun x => x.1.isSome)
      && decide ([a].length + ([] : List Keyword).length + (if ([] : List Keyword).isEmpty then 0 else 1) < 30)) = true := by rfl)
    (hline : (pa.endLine == p.line) = true := by rfl) (hst : starEach [a] X.env = (false, eval a X.env) :: starEach [] X.env := by rfl) (hpl : (backTo p (starEach [] X.env)).any (·.1) = false := by rfl) :
    SE X W (.Call (.Attribute (.Name x px) "index" pa) [a] [] p) (mth1 gIdxL i fa) :=
  se_mth1 i PySem.F.slot_list_index PySem.F.type_list_index (mt_indexD hu) vr_idxL he hN hv hd hcd hbase hfew hline hst hpl
/-- x.insert(i, e), the row owned -/
def zIns (i : Nat) (fj fe : Ev) : Sm := fun sd => match sd[i]? with
  | some (some (.lst _, _)) => (fj sd).run fun y sd1 => (fe sd1).run fun w sd2 => match sd2[i]?, y.1 with
    | some (some (.lst ds, 1)), .int j => if ds.length < sizeLine ∧ 0 ≤ j ∧ j < 2 ^ 62 then .nx (sd2.set i (some (.lst (ds.take j.toNat ++ [w.1] ++ ds.drop j.toNat), 1))) else .stuck
    | _, _ => .stuck
  | _ => .stuck
theorem ss_ins {ps : List Nat} (i : Nat) {x : Str} {px pa : Pos} (hj : SE X W a fa) (he : SE X W b fb) (hN : X.N[i]? = some x := by rfl) (hv : Vis X.env.scope x := by first | exact Or.inl rfl | exact Or.inr (Or.inl rfl) | exact Or.inr (Or.inr rfl)) (hd : (x == ("__debug__" : Str)) = false := by decide) (hcd : (x == ("__classdict__" : Str)) = false := by decide)
    (hbase : attributeBase (.Name x px) "insert" X.env (eval (.Name x px) X.env) = eval (.Name x px) X.env := by rfl)
    (hfew : ((backTo p (starEach [a, b] X.env)).all (fun x => !x.1) && (backToKw p (keywordEach [] X.env)).all (fun x => x.1.isSome)
      && decide ([a, b].length + ([] : List Keyword).length + (if ([] : List Keyword).isEmpty then 0 else 1) < 30)) = true := by rfl)
    (hline : (pa.endLine == p.line) = true := by rfl) (hst : starEach [a, b] X.env = (false, eval a X.env) :: starEach [b] X.env := by rfl) (hst2 : starEach [b] X.env = (false, eval b X.env) :: starEach [] X.env := by rfl) (hpl : (backTo p (starEach [b] X.env)).any (·.1) = false := by rfl)
    (hs : swapsWith (.Call (.Attribute (.Name x px) "insert" pa) [a, b] [] p) none pos.line X.env = pure false := by rfl) : SSp ps X W (.Expr (.Call (.Attribute (.Name x px) "insert" pa) [a, b] [] p) pos) (zIns i fa fb) := by
  refine PS.imp (ps_expr (pe_bm PySem.F.plainAttrs_list PySem.F.slot_list_insert PySem.F.type_list_insert mt_insert (pe_var hN hv hd hcd) (pa_cons hj (pa_cons he pa_nil hst2) hst) hbase hfew hline hst hpl) hs) fun D σ H ⟨Z, F, sd, ok, h⟩ => ?_
  unfold zIns at h
  split at h
  case h_2 => exact h.elim
  rename_i ds0 k0 e0
  obtain ⟨l, xs0, e1, hl0⟩ := ok.isLst e0
  refine ⟨.ref l, e1, .inl ⟨rfl, xs0, .of hl0⟩, ?_⟩
  refine eP.seq (G := fun _ _ => True) ok (fun y sd1 e2 vy Z1 H1 ry ok1 x1 => ?_) (fun x sd1 e => ?_) (fun e => ?_)
  · rw [e2, R.run_ok] at h
    refine eP.seq (G := fun _ _ => True) ok1 (fun w sd2 e3 vw Z2 H2 rw_ ok2 x2 => ?_) (fun x sd1 e => ?_) (fun e => ?_)
    · rw [e3, R.run_ok] at h
      split at h
      case h_2 => exact h.elim
      rename_i ds j e4 ej
      rw [ej] at ry
      cases ry
      split at h
      case isFalse => exact h.elim
      rename_i hj
      obtain ⟨v', q, e5, rr, nd, nf, ok3⟩ := ok2.take e4
      rw [e1] at e5
      cases e5
      obtain ⟨l', xs, el, rfl, hl, ra⟩ := lst1 rr
      cases el
      refine ⟨l, xs, j, vw, rfl, rfl, hl, by rw [ra.length]; exact hj.1, hj.2.1, by omega, ?_⟩
      obtain ⟨ok4, kz⟩ := ok3.write (o := .lst (xs.take j.toNat ++ [vw] ++ xs.drop j.toNat)) (p := l) (.inr List.mem_cons_self)
      have ra2 := (((ra.take j.toNat).app (.cons (o := []) (p := []) rw_ (.nil 0))).app (ra.drop j.toNat)).keep kz fun a m => absurd m List.not_mem_nil
      have ok5 := ok4.back (.lstS (o := []) upd_same ra2) (by simp) nf e1
      rw [List.set_set] at ok5
      refine h σ Z2 _ .refl ok5 ((x1.trans x2).trans ⟨kz, fun a f => upd_ne fun e => ?_⟩)
      rw [e] at f
      exact nf l List.mem_cons_self f
    · rw [e] at h; exact (h σ .refl).go0 x1
    · rw [e] at h; exact h
  · rw [e] at h; exact h σ .refl
  · rw [e] at h; exact h
end
end VS
/-! VS36: what the generated texts lean on, for classes. -/
namespace VS
open PySem PySem.Spec L2
open PyProof.Rows (envOfC)
theorem Cg.hu65 {X : Cx} {W : WX} {k : Nat} (c : Cg X W k) : X.A.units + 65 < cLine := by have := c.hr.un; omega
theorem Cu.hu65 {X : Cx} {W : WX} {k : Nat} (c : Cu X W k) : X.A.units + 65 < cLine := by have := c.hr.un; omega
def IsMet (K : PySem.W.Frag) (c m qual : Str) (st : Stmt) : Prop := ∃ C f fd, ClsAt K c C ∧ L2.Cls K C ∧ Meth K C m f ∧ Fun K m qual st f fd
def IsPrp (K : PySem.W.Frag) (c m qual : Str) (st : Stmt) : Prop := ∃ C p f fd, ClsAt K c C ∧ L2.Cls K C ∧ PropOf K C m p f ∧ Fun K m qual st f fd
def IsMak (K : PySem.W.Frag) (mg : Mg) (c qual : Str) (st : Stmt) : Prop := ∃ C f fd, mg c = some (.ref C) ∧ ClsAt K c C ∧ Mk K C f ∧ Fun K "__init__" qual st f fd
section
variable {P : Program} {w : World} {K : PySem.W.Frag} {mg : Mg} {base : Heap}
theorem met_ok {c m qual : Str} {st : Stmt} {N ps : List Str} {k : Nat} {body : Sm} (ios : List Nat) (hnd : ios.Nodup) (hio : ∀ i ∈ ios, i < ps.length) (hf : IsMet K c m qual st) (S : FnScope N ps (defScope st))
    (hb : ∀ (kV doc pm : Value) (an : Option Addr) (cdv ct : Value) (us : List Value), us.length = ps.length → bindArgs (PySem.W.fnOf m qual (defArgs st) (defBody st) (defScope st) .none kV doc pm an cdv ct) ⟨us, []⟩ = pure (ps.zip us))
    (hbody : ∀ (f : Addr) (cdv : Value) (A : Around) (outer : List Env) (s : Shared) (H : Hp) (E : XK), Cg (cxD P w K mg base N qual st f cdv A outer s H E) (wxD E) k →
      SSsp ios (cxD P w K mg base N qual st f cdv A outer s H E) (wxD E) (defBody st) body) : MetO P w K base mg c m (k + 1) ps.length ios [] (fnIO N.length ios body) := by
  obtain ⟨C, f, fd, h1, h2, h3, Fu⟩ := hf
  exact ⟨C, f, fd, ps, [], [], h1, h2, h3, Fu.binds hb, .nil, fun _ _ => .nil 0, fnIO_ok ios hnd hio Fu S fun cdv A outer s H E hr => hbody f cdv A outer s H E (cg_of S.nd hr)⟩
theorem prp_ok {c m qual : Str} {st : Stmt} {N : List Str} {k : Nat} {body : Sm} {self : Str} (hf : IsPrp K c m qual st) (S : FnScope N [self] (defScope st))
    (hb : ∀ (kV doc pm : Value) (an : Option Addr) (cdv ct : Value) (us : List Value), us.length = [self].length → bindArgs (PySem.W.fnOf m qual (defArgs st) (defBody st) (defScope st) .none kV doc pm an cdv ct) ⟨us, []⟩ = pure ([self].zip us))
    (hbody : ∀ (f : Addr) (cdv : Value) (A : Around) (outer : List Env) (s : Shared) (H : Hp) (E : XK), Cg (cxD P w K mg base N qual st f cdv A outer s H E) (wxD E) k →
      SSsp [0] (cxD P w K mg base N qual st f cdv A outer s H E) (wxD E) (defBody st) body) : PrpO P w K base mg c m (k + 1) (fnIO N.length [0] body) := by
  obtain ⟨C, p, f, fd, h1, h2, h3, Fu⟩ := hf
  exact ⟨C, p, f, fd, [self], h1, h2, h3, Fu.binds hb, fnIO_ok [0] (by decide) (by simp) Fu S fun cdv A outer s H E hr => hbody f cdv A outer s H E (cg_of S.nd hr)⟩
theorem mak_ok {c qual : Str} {st : Stmt} {N ps : List Str} {k : Nat} {body : Sm} (hio : ∀ i ∈ [0], i < ps.length) (hf : IsMak K mg c qual st) (S : FnScope N ps (defScope st))
    (hb : ∀ (kV doc pm : Value) (an : Option Addr) (cdv ct : Value) (us : List Value), us.length = ps.length → bindArgs (PySem.W.fnOf "__init__" qual (defArgs st) (defBody st) (defScope st) .none kV doc pm an cdv ct) ⟨us, []⟩ = pure (ps.zip us))
    (hbody : ∀ (f : Addr) (cdv : Value) (A : Around) (outer : List Env) (s : Shared) (H : Hp) (E : XK), Cg (cxD P w K mg base N qual st f cdv A outer s H E) (wxD E) k →
      SSsp [0] (cxD P w K mg base N qual st f cdv A outer s H E) (wxD E) (defBody st) body) : MakO P w K base mg c (k + 1) ps.length [] (fnIO N.length [0] body) := by
  obtain ⟨C, f, fd, h1, h2, h3, Fu⟩ := hf
  exact ⟨C, f, fd, ps, [], [], h1, h2, h3, Fu.binds hb, .nil, fun _ _ => .nil 0, fnIO_ok [0] (by decide) hio Fu S fun cdv A outer s H E hr => hbody f cdv A outer s H E (cg_of S.nd hr)⟩
end
/-! ### evaluation -/
section
variable (sd : SD)
def froX (x : Exn) (o : Option (List (D × Nat))) : FRO := match o with
  | some outs => .exc x outs
  | none => .stuck
@[simp] theorem froX_some (x : Exn) (l : List (D × Nat)) : froX x (some l) = .exc x l := eqr rfl
@[simp] theorem O.fro_ex (ios : List Nat) (x : Exn) : (O.ex x sd).fro ios = froX x (pick sd ios) := by
  unfold froX
  show (match pick sd ios with
    | some outs => FRO.exc x outs
    | none => .stuck) = _
  cases pick sd ios <;> rfl
@[simp] theorem fldR_eq (cs : List Str) (i : Nat) (f : Str) : fldv cs i f sd = wS (gtS sd i) .stuck fun d k => ixR (gAt cs f d) (sd.set i (some (d, min k 1))) := by
  unfold fldv gtS wS ixR
  cases e : sd[i]? with
  | none => rfl
  | some x =>
    rcases x with _ | ⟨d, k⟩
    · rfl
    · try dsimp only
      all_goals (cases gAt cs f d <;> rfl)
def fldO (cs : List Str) (f : Str) (d : D) (n i : Nat) (w : D) (sd : SD) : O := match d, n with
  | .ins c fs vs, 1 => if cs.contains c = true ∧ fs.length < 1000 then .nx (sd.set i (some (.ins c (ptF f w fs vs).1 (ptF f w fs vs).2, 1))) else .stuck
  | _, _ => .stuck
theorem fldO_ins (cs : List Str) (f c : Str) (fs : List Str) (vs : List D) (i : Nat) (w : D) : fldO cs f (.ins c fs vs) 1 i w sd = if cs.contains c = true ∧ fs.length < 1000 then .nx (sd.set i (some (.ins c (ptF f w fs vs).1 (ptF f w fs vs).2, 1))) else .stuck := eqr rfl
def zFldK (cs : List Str) (i : Nat) (f : Str) : D × Nat → SD → O := fun w sd1 => wS (gtS sd1 i) .stuck fun d n => fldO cs f d n i w.1 sd1
@[simp] theorem zFldK_ap (cs : List Str) (i : Nat) (f : Str) (d : D) (n : Nat) : zFldK cs i f (d, n) sd = wS (gtS sd i) .stuck fun e k => fldO cs f e k i d sd := eqr rfl
@[simp] theorem zFld_ap (cs : List Str) (i : Nat) (f : Str) (fe : Ev) : zFld cs i f fe sd = (fe sd).run (zFldK cs i f) := by
  have : zFldK cs i f = fun w sd1 => match sd1[i]? with
    | some (some (.ins c fs vs, 1)) => if cs.contains c = true ∧ fs.length < 1000 then .nx (sd1.set i (some (.ins c (ptF f w.1 fs vs).1 (ptF f w.1 fs vs).2, 1))) else .stuck
    | _ => .stuck := by
    funext w sd1
    unfold zFldK gtS wS fldO
    cases e : sd1[i]? with
    | none => rfl
    | some x =>
      rcases x with _ | ⟨d, k⟩
      · rfl
      · cases d <;> first | rfl | (rcases k with _ | _ | k <;> rfl)
  rw [this]; rfl
def outK (i : Nat) (sd : SD) (r : FRO) : R (D × Nat) := outM i sd r
@[simp] theorem outM_ok (i : Nat) (w u : D × Nat) : outM i sd (.ok w [u]) = .ok w (sd.set i (some u)) := eqr rfl
@[simp] theorem outM_exc (i : Nat) (x : Exn) (u : D × Nat) : outM i sd (.exc x [u]) = .exc x (sd.set i (some u)) := eqr rfl
def calMK (n : Nat) (f : FnO) (dfl : List D) (i : Nat) : List (D × Nat) → SD → R (D × Nat) := fun ws sd1 => wS (gtS sd1 i) .stuck fun d k => if ws.length + 1 + dfl.length = n then outM i (sd1.set i none) (f ((d, k) :: ws ++ dfl.map fun d => (d, 0))) else .stuck
@[simp] theorem calMK_0 (f : FnO) (i : Nat) : calMK 1 f [] i [] sd = wS (gtS sd i) .stuck fun d k => outM i (sd.set i none) (f [(d, k)]) := eqr rfl
@[simp] theorem calMK_1 (f : FnO) (i : Nat) (a : D × Nat) : calMK 2 f [] i [a] sd = wS (gtS sd i) .stuck fun d k => outM i (sd.set i none) (f [(d, k), a]) := eqr rfl
@[simp] theorem calMK_2 (f : FnO) (i : Nat) (a b : D × Nat) : calMK 3 f [] i [a, b] sd = wS (gtS sd i) .stuck fun d k => outM i (sd.set i none) (f [(d, k), a, b]) := eqr rfl
@[simp] theorem calMK_3 (f : FnO) (i : Nat) (a b c : D × Nat) : calMK 4 f [] i [a, b, c] sd = wS (gtS sd i) .stuck fun d k => outM i (sd.set i none) (f [(d, k), a, b, c]) := eqr rfl
theorem insOk_ins (c m : Str) (fs : List Str) (vs : List D) (n : Nat) : insOk c m (some (.ins c fs vs, n)) = !fs.contains m := by simp [insOk]
def insC (b : Bool) (y : R (D × Nat)) : R (D × Nat) := if b = true then y else .stuck
@[simp] theorem insC_true (y : R (D × Nat)) : insC true y = y := eqr rfl
@[simp] theorem calM_ap (c m : Str) (n : Nat) (f : FnO) (dfl : List D) (i : Nat) (fs : Eg) : calM c m n f dfl i fs sd = insC (insOk c m (gtS sd i)) ((fs sd).bind (calMK n f dfl i)) := by
  have : calMK n f dfl i = fun ws sd1 => match gtS sd1 i with
    | some w0 => if ws.length + 1 + dfl.length = n then outM i (sd1.set i none) (f (w0 :: ws ++ dfl.map fun d => (d, 0))) else .stuck
    | none => .stuck := by
    funext ws sd1
    unfold calMK wS
    cases e : gtS sd1 i with
    | none => rfl
    | some x => rfl
  rw [this]; rfl
def prpR (i : Nat) (sd : SD) (r : FRO) : R (D × Nat) := match r with
  | .ok w [u] => .ok w (sd.set i (some u))
  | _ => .stuck
@[simp] theorem prpR_ok (i : Nat) (w u : D × Nat) : prpR i sd (.ok w [u]) = .ok w (sd.set i (some u)) := eqr rfl
@[simp] theorem prpM_ap (c m : Str) (f : FnO) (i : Nat) : prpM c m f i sd = wS (gtS sd i) .stuck fun d k => insC (insOk c Str.empty (some (d, k))) (prpR i sd (f [(d, k)])) := by
  unfold prpM wS
  cases e : gtS sd i with
  | none => rfl
  | some x =>
    obtain ⟨d, k⟩ := x
    dsimp only
    unfold insC prpR
    split <;> rfl
@[simp] theorem mkR_ok (n : Nat) (u : D × Nat) : mkR sd (.ok (.non, n) [u]) = .ok u sd := eqr rfl
@[simp] theorem mkR_exc (x : Exn) (us : List (D × Nat)) : mkR sd (.exc x us) = .exc x sd := eqr rfl
def mkOK (c : Str) (n : Nat) (f : FnO) (dfl : List D) : List (D × Nat) → SD → R (D × Nat) := fun ws sd1 => if ws.length + 1 + dfl.length = n then mkR sd1 (f ((.ins c [] [], 1) :: ws ++ dfl.map fun d => (d, 0))) else .stuck
@[simp] theorem mkOK_1 (c : Str) (f : FnO) (a : D × Nat) : mkOK c 2 f [] [a] sd = mkR sd (f [(.ins c [] [], 1), a]) := eqr rfl
@[simp] theorem mkOK_2 (c : Str) (f : FnO) (a b : D × Nat) : mkOK c 3 f [] [a, b] sd = mkR sd (f [(.ins c [] [], 1), a, b]) := eqr rfl
@[simp] theorem mkOK_3 (c : Str) (f : FnO) (a b d : D × Nat) : mkOK c 4 f [] [a, b, d] sd = mkR sd (f [(.ins c [] [], 1), a, b, d]) := eqr rfl
@[simp] theorem mkO_ap (c : Str) (n : Nat) (f : FnO) (dfl : List D) (fs : Eg) : mkO c n f dfl fs sd = (fs sd).bind (mkOK c n f dfl) := eqr rfl
def atXK : D × Nat → SD → R (D × Nat) := fun _ _ => .stuck
@[simp] theorem atX_ap (f : Ev) : atX f sd = (f sd).bind atXK := eqr rfl
@[simp] theorem mth1_ap (g : D → D → Option (D × Nat)) (i : Nat) (fa : Ev) : mth1 g i fa sd = lstR (gtS sd i) (bor2 g fa i sd) := by
  unfold mth1 gtS lstR
  cases e : sd[i]? with
  | none => rfl
  | some x =>
    rcases x with _ | ⟨d, k⟩
    · rfl
    · cases d <;> rfl
def insO (d : D) (n i : Nat) (y w : D) (sd : SD) : O := match d, n, y with
  | .lst ds, 1, .int j => if ds.length < sizeLine ∧ 0 ≤ j ∧ j < 2 ^ 62 then .nx (sd.set i (some (.lst (ds.take j.toNat ++ [w] ++ ds.drop j.toNat), 1))) else .stuck
  | _, _, _ => .stuck
@[simp] theorem insO_lst (ds : List D) (i : Nat) (j : Int) (w : D) : insO (.lst ds) 1 i (.int j) w sd = if ds.length < sizeLine ∧ 0 ≤ j ∧ j < 2 ^ 62 then .nx (sd.set i (some (.lst (ds.take j.toNat ++ [w] ++ ds.drop j.toNat), 1))) else .stuck := eqr rfl
def zInsJ (i : Nat) (y : D) : D × Nat → SD → O := fun w sd2 => wS (gtS sd2 i) .stuck fun d n => insO d n i y w.1 sd2
@[simp] theorem zInsJ_ap (i : Nat) (y d : D) (n : Nat) : zInsJ i y (d, n) sd = wS (gtS sd i) .stuck fun e k => insO e k i y d sd := eqr rfl
def zInsK (i : Nat) (fe : Ev) : D × Nat → SD → O := fun y sd1 => (fe sd1).run (zInsJ i y.1)
@[simp] theorem zInsK_ap (i : Nat) (fe : Ev) (d : D) (n : Nat) : zInsK i fe (d, n) sd = (fe sd).run (zInsJ i d) := eqr rfl
@[simp] theorem zIns_ap (i : Nat) (fj fe : Ev) : zIns i fj fe sd = lstC (gtS sd i) ((fj sd).run (zInsK i fe)) := by
  have h1 : ∀ y : D, zInsJ i y = fun w sd2 => match sd2[i]?, y with
    | some (some (.lst ds, 1)), .int j => if ds.length < sizeLine ∧ 0 ≤ j ∧ j < 2 ^ 62 then .nx (sd2.set i (some (.lst (ds.take j.toNat ++ [w.1] ++ ds.drop j.toNat), 1))) else .stuck
    | _, _ => .stuck := by
    intro y
    funext w sd2
    unfold zInsJ gtS wS insO
    cases e : sd2[i]? with
    | none => rfl
    | some x =>
      rcases x with _ | ⟨d, k⟩
      · rfl
      · cases d <;> first | rfl | (rcases k with _ | _ | k <;> first | rfl | (cases y <;> rfl))
  have h2 : zInsK i fe = fun y sd1 => (fe sd1).run fun w sd2 => match sd2[i]?, y.1 with
    | some (some (.lst ds, 1)), .int j => if ds.length < sizeLine ∧ 0 ≤ j ∧ j < 2 ^ 62 then .nx (sd2.set i (some (.lst (ds.take j.toNat ++ [w.1] ++ ds.drop j.toNat), 1))) else .stuck
    | _, _ => .stuck := by
    funext y sd1
    unfold zInsK
    rw [h1]
  rw [h2]
  unfold zIns gtS lstC
  cases e : sd[i]? with
  | none => rfl
  | some x =>
    rcases x with _ | ⟨d, k⟩
    · rfl
    · cases d <;> rfl
end
end VS
/-! VS37: an entry that has a name of its own for a while, while the row's length is still asked; one of two readings. -/
namespace VS
open PySem PySem.Spec L2
/-- one of two readings -/
def zOr (p : SD → Bool) (f g : Sm) : Sm := fun sd => if p sd = true then f sd else g sd
theorem ss_or {X : Cx} {W : WX} {ps : List Nat} {sts : List Stmt} {f g : Sm} (p : SD → Bool) (h1 : SSsp ps X W sts f) (h2 : SSsp ps X W sts g) : SSsp ps X W sts (zOr p f g) := by
  refine ⟨fun pins s σ H D I ⟨Z, F, sd, ok, h⟩ => ?_⟩
  unfold zOr at h
  split at h
  · exact h1.run pins s σ H D I ⟨Z, F, sd, ok, h⟩
  · exact h2.run pins s σ H D I ⟨Z, F, sd, ok, h⟩
/-- slot i holds the int k -/
def isI (i : Nat) (k : Int) : SD → Bool := fun sd => match gtS sd i with
  | some (.int j, _) => decide (j = k)
  | _ => false
@[simp] theorem zOr_ap (p : SD → Bool) (f g : Sm) (sd : SD) : zOr p f g sd = if p sd = true then f sd else g sd := eqr rfl
def isIw (o : Option (D × Nat)) (k : Int) : Bool := match o with
  | some (.int j, _) => decide (j = k)
  | _ => false
@[simp] theorem isI_ap (i : Nat) (k : Int) (sd : SD) : isI i k sd = isIw (gtS sd i) k := eqr rfl
@[simp] theorem isIw_int (j k : Int) (n : Nat) : isIw (some (.int j, n)) k = decide (j = k) := eqr rfl
/-- the frame holds the row of slot it, of length L -/
structure PinT (F : Pz) (σ : St) (H : Hp) (it L : Nat) : Prop where
  ex : ∃ la xs, σ[it]? = some (some (.ref la)) ∧ F la ∧ H la = some (.lst xs) ∧ xs.length = L
theorem PinT.go {F Z Z' : Pz} {σ σ' : St} {H H' : Hp} {it L : Nat} {ps : List Nat} (h : PinT F σ H it L) (p : Pin ps σ σ') (m : it ∈ ps) (x : Ext F Z H Z' H') : PinT F σ' H' it L := by
  obtain ⟨la, xs, h1, h2, h3, h4⟩ := h.ex
  exact ⟨la, xs, (p it m).trans h1, h2, (x.f la h2).trans h3, h4⟩
theorem PinT.ext {F Z Z' : Pz} {σ : St} {H H' : Hp} {it L : Nat} (h : PinT F σ H it L) (x : Ext F Z H Z' H') : PinT F σ H' it L := by
  obtain ⟨la, xs, h1, h2, h3, h4⟩ := h.ex
  exact ⟨la, xs, h1, h2, (x.f la h2).trans h3, h4⟩
section
variable (K : PySem.W.Frag) (mg : Mg) (W : WX)
def tST (ps : List Nat) (it L : Nat) (f : Sm) : TS := fun D σ H => ∃ Z F sd, Ok K Z F H σ sd ∧ PinT F σ H it L ∧ sP K mg W ps Z F σ H (f sd) D
def tET (it L : Nat) (f : Ev) : TE := fun σ H Q => ∃ Z F sd, Ok K Z F H σ sd ∧ PinT F σ H it L ∧ eP K mg W Z F σ H (f sd) Q
def tGT (it L : Nat) (f : Eg) : TA := fun σ H Q => ∃ Z F sd, Ok K Z F H σ sd ∧ PinT F σ H it L ∧ argP K mg W Z F σ H (f sd) Q
end
def SSpT (ps : List Nat) (it L : Nat) (X : Cx) (W : WX) (st : Stmt) (f : Sm) : Prop := PS X st (tST X.K X.mg W ps it L f)
def SSsT (ps : List Nat) (it L : Nat) (X : Cx) (W : WX) (sts : List Stmt) (f : Sm) : Prop := PSs X sts (tST X.K X.mg W ps it L f)
def SET (it L : Nat) (X : Cx) (W : WX) (e : Expr) (f : Ev) : Prop := PE X e (tET X.K X.mg W it L f)
def SGT (it L : Nat) (X : Cx) (W : WX) (es : List Expr) (f : Eg) : Prop := PA X es (tGT X.K X.mg W it L f)
theorem pss_any {X : Cx} {sts : List Stmt} {t : Nat → TS} (h : ∀ L, PSs X sts (t L)) : PSs X sts (fun D σ H => ∃ L, t L D σ H) := ⟨fun pins s σ H D I ⟨L, q⟩ => (h L).run pins s σ H D I q⟩
section
variable {X : Cx} {W : WX} {pos p q : Pos} {a b c : Expr} {es : List Expr} {fa fb : Ev} {fs : Eg} {st : Stmt} {rest : List Stmt} {f g : Sm} {ps : List Nat} {it L : Nat}
theorem st_up (h : SSp ps X W st f) : SSpT ps it L X W st f := PS.imp h fun D σ H ⟨Z, F, sd, ok, _, q⟩ => ⟨Z, F, sd, ok, q⟩
theorem sst_up (h : SSsp ps X W rest f) : SSsT ps it L X W rest f := PSs.imp h fun D σ H ⟨Z, F, sd, ok, _, q⟩ => ⟨Z, F, sd, ok, q⟩
theorem sst_one (h : SSpT ps it L X W st f) : SSsT ps it L X W [st] f := pss_one h
theorem sst_cons (h1 : SSpT ps it L X W st f) (h2 : SSsT ps it L X W rest g) (m : it ∈ ps := by first | exact List.mem_cons_self | decide) : SSsT ps it L X W (st :: rest) (zSeq f g) := by
  refine PSs.imp (pss_cons h1 h2) fun D σ H ⟨Z, F, sd, ok, pin, h⟩ => ?_
  refine ⟨Z, F, sd, ok, pin, ?_⟩
  unfold zSeq at h
  cases e : f sd with
  | nx sd1 =>
    rw [e] at h
    exact fun σ' Z' H' p ok' x => ⟨Z', F, sd1, ok', pin.go p m x, h.go x p⟩
  | rt w sd1 => rw [e] at h; exact h
  | bk sd1 => rw [e] at h; exact h
  | ct sd1 => rw [e] at h; exact h
  | ex x sd1 => rw [e] at h; exact h
  | stuck => rw [e] at h; exact h
theorem st_ifT {A B : List Stmt} {fc : Et} (hc : ST X W c fc) (ha : SSsT ps it L X W A f) (hb : SSsT ps it L X W B g) : SSpT ps it L X W (.If c A B pos) (zIf fc f g) := by
  refine PS.imp (ps_if hc ha hb) fun D σ H ⟨Z, F, sd, ok, pin, h⟩ => ?_
  unfold zIf at h
  refine tP.seq ok (fun b sd1 e Z1 H1 ok1 x1 => ?_) (fun x sd1 e => ?_) (fun e => ?_)
  · rw [e, R.run_ok] at h
    cases b with
    | true => exact ⟨Z1, F, sd1, ok1, pin.ext x1, h.go x1 .refl⟩
    | false => exact ⟨Z1, F, sd1, ok1, pin.ext x1, h.go x1 .refl⟩
  · rw [e] at h; exact h σ .refl
  · rw [e] at h; exact h
theorem eP.seqT {K : PySem.W.Frag} {mg : Mg} {Z F : Pz} {H : Hp} {σ : St} {f : Ev} {Q : VK} {sd : SD} (ok : Ok K Z F H σ sd) (pin : PinT F σ H it L)
    (hok : ∀ w sd1, f sd = .ok w sd1 → ∀ v Z1 H1, Rp K Z1 H1 v w.1 0 [] → Ok K Z1 F H1 σ sd1 → Ext F Z H Z1 H1 → Q v H1)
    (hex : ∀ x sd1, f sd = .exc x sd1 → excP K mg W Z F σ H x sd1) (hst : f sd = .stuck → False) : tET K mg W it L f σ H Q := by
  refine ⟨Z, F, sd, ok, pin, ?_⟩
  cases e : f sd with
  | ok w sd1 =>
    intro v Z1 H1 o r nd nf ok1 x1
    exact hok w sd1 e v (uni Z1 o) H1 (r.freeze (fun _ z => .inl z) fun _ m => .inr m) (ok1.freeze nf) (x1.trans .uni)
  | exc x sd1 => exact hex x sd1 e
  | stuck => exact hst e
theorem st_putT (i : Nat) {x : Str} {px tp : Pos} (hb : SE X W b fb) (he : SET it L X W a fa) (hN : X.N[i]? = some x := by rfl) (hv : Vis X.env.scope x := by first | exact Or.inl rfl | exact Or.inr (Or.inl rfl) | exact Or.inr (Or.inr rfl)) (hd : (x == ("__debug__" : Str)) = false := by decide) (hcd : (x == ("__classdict__" : Str)) = false := by decide)
    (ha : ∀ v, assign (.Subscript (.Name x px) b tp) X.env v = (do
      let ov ← holding [v] (eval (.Name x px) X.env)
      let iv ← holding [v, ov] (eval b X.env)
      standAt tp
      holding [v, ov, iv] (setItem ov iv v)
      release [v, ov, iv] []) := by intro _; rfl) (hs : swapsWithSole [.Subscript (.Name x px) b tp] a pos.line X.env = pure false := by rfl) (hw : swappedStores [.Subscript (.Name x px) b tp] a X.env = pure none := by rfl)
    (h1 : (assignEach [.Subscript (.Name x px) b tp] X.env).map (·.2) = [assign (.Subscript (.Name x px) b tp) X.env] := by rfl) : SSpT ps it L X W (.Assign [.Subscript (.Name x px) b tp] a pos) (zPut i fb fa) := by
  refine PS.imp (ps_asg he (pg_sub (pe_var hN hv hd hcd) hb set_list ha) hs hw h1) fun D σ H ⟨Z, F, sd, ok, pin, h⟩ => ?_
  unfold zPut at h
  refine eP.seqT ok pin (fun w sd1 e y Z1 H1 r ok1 x1 => ?_) (fun x sd1 e => ?_) (fun e => ?_)
  · rw [e, R.run_ok] at h
    split at h
    · rename_i w0 e0
      obtain ⟨v, e1⟩ := ok1.slot e0
      refine ⟨v, e1, ?_⟩
      refine eP.seq (G := fun _ _ => True) ok1 (fun w2 sd2 e2 y2 Z2 H2 r2 ok2 x2 => ?_) (fun x sd1 e => ?_) (fun e => ?_)
      · rw [e2, R.run_ok] at h
        split at h
        · rename_i ds j e3 ej
          rw [ej] at r2
          cases r2
          obtain ⟨v', q, e4, rr, nd, nf, ok3⟩ := ok2.take e3
          rw [e1] at e4
          cases e4
          obtain ⟨l, xs, rfl, rfl, hl, ra⟩ := lst1 rr
          split at h
          · rename_i n en
            refine ⟨l, xs, j, n, rfl, rfl, hl, by rw [ra.length]; exact en, ?_⟩
            obtain ⟨ok4, kz⟩ := ok3.write (o := .lst (xs.set n y)) (p := l) (.inr List.mem_cons_self)
            have r' : Rp X.K Z2 H2 y w.1 0 [] := r.keep x2.z fun a m => absurd m List.not_mem_nil
            have ra2 := (ra.put n r').keep kz fun a m => absurd m List.not_mem_nil
            have ok5 := ok4.back (.lstS (o := []) upd_same ra2) (by simp) nf e1
            rw [List.set_set] at ok5
            refine h σ Z2 _ .refl ok5 ((x1.trans x2).trans ⟨kz, fun a f => upd_ne fun e => ?_⟩)
            rw [e] at f
            exact nf l List.mem_cons_self f
          · exact h.elim
        · exact h.elim
      · rw [e] at h; exact (h σ .refl).go0 x1
      · rw [e] at h; exact h
    · exact h.elim
  · rw [e] at h; exact h σ .refl
  · rw [e] at h; exact h
/-- len(t), .. -/
theorem sgt_len {y : Str} {py pl : Pos} (hm : X.mg "len" = none) (hs : SGa X W es fs) (hN : X.N[it]? = some y := by rfl) (hvy : Vis X.env.scope y := by first | exact Or.inl rfl | exact Or.inr (Or.inl rfl) | exact Or.inr (Or.inr rfl)) (hd : (y == ("__debug__" : Str)) = false := by decide) (hcd : (y == ("__classdict__" : Str)) = false := by decide) (hg : Gl X "len" := by rfl)
    (he : starEach [.Name y py] X.env = (false, eval (.Name y py) X.env) :: starEach [] X.env := by rfl) (hpl : (backTo pl (starEach [] X.env)).any (·.1) = false := by rfl)
    (hst : starEach (.Call (.Name "len" q) [.Name y py] [] pl :: es) X.env = (false, eval (.Call (.Name "len" q) [.Name y py] [] pl) X.env) :: starEach es X.env := by rfl) :
    SGT it L X W (.Call (.Name "len" q) [.Name y py] [] pl :: es) (gFz (cst (.int L)) fs) := by
  refine PA.imp (pa_cons (pe_callB call_len_seq hg hm (by exact PySem.boot_len) (pa_cons (pe_var hN hvy hd hcd) pa_nil he) (by decide) (by decide) he hpl) hs hst) fun σ H Q ⟨Z, F, sd, ok, pin, h⟩ => ?_
  obtain ⟨la, xs, h1, h2, h3, h4⟩ := pin.ex
  refine ⟨.ref la, h1, la, xs, rfl, .inl (.inl (.inl h3)), ?_⟩
  refine ⟨Z, F, sd, ok, ?_⟩
  unfold gFz at h
  rw [cst_ap, R.bind_ok] at h
  cases e : fs sd with
  | stuck => rw [e] at h; exact h
  | exc y sd1 => rw [e] at h; exact h
  | ok ws sd1 =>
    rw [e, R.bind_ok] at h
    intro vs Z1 H1 o s nd nf ok1 x1
    rw [h4]
    exact h _ Z1 H1 o (.cons (o := []) (.int _ _) s) nd nf ok1 x1
theorem se_callT {x : Str} {k n : Nat} {dfl : List D} {f : Fn} (G : Def X.prog X.w X.K X.mg X.base x k n dfl f) (hr : Room k X.A) (tk : Takes X W) (ha : SGT it L X W (a :: es) fs) (hg : Gl X x := by rfl) (hdb : (x == ("__debug__" : Str)) = false := by decide)
    (he : starEach (a :: es) X.env = (false, eval a X.env) :: starEach es X.env := by rfl) (hpl : (backTo pos (starEach es X.env)).any (·.1) = false := by rfl) : SET it L X W (.Call (.Name x p) (a :: es) [] pos) (cal n f dfl fs) := by
  obtain ⟨fa, fd, ps, dvs, ds, h1, h2, h3, h4, h5, h6⟩ := G.ex
  refine PE.imp (pe_callSD h6 hr hg h1 h2 h3 h4 (fun σ => passAt tk σ) ha hdb he hpl) fun σ H Q ⟨Z, F, sd, ok, pin, h⟩ => ?_
  refine ⟨Z, F, sd, ok, pin, ?_⟩
  unfold cal at h
  cases e : fs sd with
  | stuck => rw [e] at h; exact h
  | exc y sd1 => rw [e] at h; exact h
  | ok ws sd1 =>
    rw [e, R.bind_ok] at h
    intro vs Z1 H1 o s nd nf ok1 x1
    obtain ⟨ow, ss, ndw, nfw, b⟩ := ok1.ex
    split at h
    case isFalse => exact h.elim
    rename_i hn
    have hlen : (vs ++ dvs).length = n := by
      have q1 := s.length
      have q2 := (h5 Z1 H1).length
      rw [List.length_map, List.length_map] at q1
      rw [List.length_append, q1, q2]
      exact beq_iff_eq.mp hn
    refine ⟨Z1, uni F ow, ws ++ dfl.map fun d => (d, 0), o, hlen, ?_, nd, fun a m z => ?_, ⟨b.z, fun a f => b.f a ?_⟩, ?_⟩
    · rw [List.map_append, List.map_append]
      have := s.app (Slots.of_all (h5 Z1 H1))
      rw [List.append_nil] at this
      exact this
    · rcases z with z | z
      · exact nf a m z
      · exact nfw a z (.inr m)
    · rcases f with (f | f) | f
      · exact .inl (.inl f)
      · exact .inr f
      · exact .inl (.inr f)
    · cases e2 : f (ws ++ dfl.map fun d => (d, 0)) with
      | ok w =>
        rw [e2, FR.r_ok] at h
        intro v Z2 H2 o2 r2 nd2 nf2 b2 x2
        refine h v Z2 H2 o2 r2 nd2 (fun a m z => nf2 a m (.inl z)) ⟨ow, ss.keep x2.z fun a m => x2.f a (.inr m), ndw, fun a m z => ?_, b2.z, fun a f => b2.f a ?_⟩ (x1.trans (x2.mono fun _ z => .inl z))
        · rcases z with z | z
          · exact nfw a m (.inl z)
          · exact nf2 a z (.inr m)
        · rcases f with (f | f) | f
          · exact .inl (.inl f)
          · exact .inr f
          · exact .inl (.inr f)
      | exc y =>
        rw [e2, FR.r_exc] at h
        intro c dd Z2 H2 ea b2 x2
        refine h c dd Z2 H2 ea ⟨ow, ss.keep x2.z fun a m => x2.f a (.inr m), ndw, fun a m z => nfw a m (.inl z), b2.z, b2.f⟩ (x1.trans (x2.mono fun _ z => .inl z))
      | stuck => rw [e2, FR.r_stuck] at h; exact h
end
/-- b = t[e]; then a block that changes b alone; it is told the row's length -/
def zAliT (ib it : Nat) (fe : Ev) (f : Nat → Sm) : Sm := fun sd => match sd[it]? with
  | some (some _) => (fe sd).run fun y sd1 => match sd1[it]?, y.1 with
    | some (some (.lst ds, k + 1)), .int j => match L2.ixN ds.length j with
      | some n => match ds[n]? with
        | some d => match f ds.length ((sd1.set it none).set ib (some (d, k))) with
          | .nx sd3 => match sd3[ib]? with
            | some (some (d', k')) => if k' = k then .nx ((sd3.set ib none).set it (some (.lst (ds.set n d'), k + 1))) else .stuck
            | _ => .stuck
          | _ => .stuck
        | none => .stuck
      | none => .stuck
    | _, _ => .stuck
  | _ => .stuck
section
variable {X : Cx} {W : WX} {pos p q : Pos} {a b c : Expr} {fa fb : Ev} {ps : List Nat}
theorem ss_aliT (ib it : Nat) {x y : Str} {py px sp : Pos} {e : Expr} {fe : Ev} {blk tail : List Stmt} {f : Nat → Sm} {g : Sm} (hne : ib ≠ it) (hN : X.N.Nodup) (hb : SE X W e fe) (hblk : ∀ L, SSsT (it :: ib :: ps) it L X W blk (f L)) (htail : SSsp ps X W tail g)
    (hi : X.N[ib]? = some y := by rfl) (hx : Loc X.env.scope y := by first | exact Or.inl rfl | exact Or.inr rfl) (hNt : X.N[it]? = some x := by rfl) (hv : Vis X.env.scope x := by first | exact Or.inl rfl | exact Or.inr (Or.inl rfl) | exact Or.inr (Or.inr rfl))
    (hd : (x == ("__debug__" : Str)) = false := by decide) (hcd : (x == ("__classdict__" : Str)) = false := by decide) (hs : swapsWith (.Subscript (.Name x px) e sp) (some (.Name y py)) pos.line X.env = pure false := by rfl)
    (hf : X.fn y = true ∨ X.env.scope.names.lookup y = some .local := by first | exact .inl rfl | exact .inr rfl) (hsl : PlainIx e := by exact fun _ _ => rfl) (hp : ib ∉ ps := by first | exact List.not_mem_nil | decide) :
    SSsp ps X W (.Assign [.Name y py] (.Subscript (.Name x px) e sp) pos :: (blk ++ tail)) (zSeq (zAliT ib it fe f) g) := by
  refine PSs.imp (pss_cons (ps_set hN hi hx (pe_ix ix_seq (pe_var hNt hv hd hcd) hb hsl) hs hf) (pss_app (pss_any fun L => hblk L) htail)) fun D σ H ⟨Z, F, sd, ok, h⟩ => ?_
  unfold zSeq zAliT at h
  split at h
  case h_2 => exact h.elim
  rename_i w0 e0
  obtain ⟨v, e1⟩ := ok.slot e0
  refine ⟨v, e1, ?_⟩
  refine eP.seq (G := fun _ _ => True) ok (fun w1 sd1 e2 u Z1 H1 ru ok1 x1 => ?_) (fun x sd1 e2 => ?_) (fun e2 => ?_)
  · rw [e2, R.run_ok] at h
    split at h
    case h_2 => exact h.elim
    rename_i ds k j e3 ej
    rw [ej] at ru
    cases ru
    split at h
    case h_2 => exact h.elim
    rename_i n en
    split at h
    case h_2 => exact h.elim
    rename_i d ed
    obtain ⟨v', o, e4, r, nd, nf, ok2⟩ := ok1.take e3
    rw [e1] at e4
    cases e4
    generalize hdl : VS.D.lst ds = dl at r
    generalize hk1 : k + 1 = k1 at r
    cases r <;> (try (first | cases hdl | cases hk1)) <;> try (cases hk1; done)
    · rename_i la xs o2 hh ra
      obtain ⟨u, o3, pn, o4, q1, q2, q3, q4⟩ := ra.split ed
      subst q2
      have hat : L2.atI xs j = some u := by
        unfold L2.atI
        rw [ra.length, en]
        exact q1
      refine .inl ⟨la, xs, j, u, rfl, rfl, .of hh, hat, ?_⟩
      obtain ⟨n1, n2⟩ := List.nodup_cons.mp nd
      obtain ⟨n3, n4, n5⟩ := List.nodup_append.mp n2
      obtain ⟨n6, n7, n8⟩ := List.nodup_append.mp n4
      have okS := Ok.store (i := ib) (F := uni F (la :: (o3 ++ o4))) (p := pn) (ok2.less fun a z => by
        rcases z with (z | z) | z
        · exact .inl z
        · rcases List.mem_cons.mp z with z | z
          · rw [z]; exact .inr List.mem_cons_self
          · refine .inr (List.mem_cons_of_mem _ ?_)
            rcases List.mem_append.mp z with z | z
            · exact List.mem_append_left _ z
            · exact List.mem_append_right _ (List.mem_append_right _ z)
        · exact .inr (List.mem_cons_of_mem _ (List.mem_append_right _ (List.mem_append_left _ z)))) q3 n6 (fun a m z => by
        rcases z with z | z
        · exact nf a (List.mem_cons_of_mem _ (List.mem_append_right _ (List.mem_append_left _ m))) z
        · rcases List.mem_cons.mp z with z | z
          · rw [z] at m
            exact n1 (List.mem_append_right _ (List.mem_append_left _ m))
          · rcases List.mem_append.mp z with z | z
            · exact n5 a z a (List.mem_append_left _ m) rfl
            · exact n8 a m a z rfl)
      refine ⟨ds.length, Z1, uni F (la :: (o3 ++ o4)), _, okS, ⟨la, xs, ?_, .inr List.mem_cons_self, hh, ra.length⟩, ?_⟩
      · rw [List.getElem?_set_ne hne]; exact e1
      cases ef : f ds.length ((sd1.set it none).set ib (some (d, k))) with
      | nx sd3 =>
        rw [ef] at h
        dsimp only at h
        intro σ' Z' H' pin ok' x'
        split at h
        case h_2 => exact h.elim
        rename_i d' k' e5
        split at h
        case isFalse => exact h.elim
        rename_i hkk
        subst hkk
        obtain ⟨v2, p', e6, r', nd', nf', ok3⟩ := ok'.take e5
        have hib : ib < σ.length := by
          have q := pin ib (List.mem_cons_of_mem _ List.mem_cons_self)
          rw [e6] at q
          have := (List.getElem?_eq_some_iff.mp q.symm).1
          rw [List.length_set] at this
          exact this
        have hb2 : σ'[ib]? = some (some u) := by
          rw [pin ib (List.mem_cons_of_mem _ List.mem_cons_self), List.getElem?_set_self hib]
        rw [hb2] at e6
        cases e6
        have ht2 : σ'[it]? = some (some (.ref la)) := by
          rw [pin it List.mem_cons_self, List.getElem?_set_ne hne]
          exact e1
        have hcell : H' la = some (.lst xs) := by
          rw [x'.f la (.inr List.mem_cons_self)]
          exact hh
        have rA := q4 Z' H' d' p' x'.z (fun a m => x'.f a (.inr (List.mem_cons_of_mem _ (List.mem_append.mpr m)))) r'
        have ok4 := Ok.back (F := F) (p := la :: (o3 ++ (p' ++ o4))) (ok3.less fun a z => by
          rcases z with z | z
          · exact .inl (.inl z)
          · rcases List.mem_cons.mp z with z | z
            · rw [z]; exact .inl (.inr List.mem_cons_self)
            · rcases List.mem_append.mp z with z | z
              · exact .inl (.inr (List.mem_cons_of_mem _ (List.mem_append_left _ z)))
              · rcases List.mem_append.mp z with z | z
                · exact .inr z
                · exact .inl (.inr (List.mem_cons_of_mem _ (List.mem_append_right _ z)))) (.lstS hcell rA) ?_ ?_ ht2
        · refine ⟨Z', F, _, ok4, ?_⟩
          exact h.go (x1.trans (x'.mono fun _ z => .inl z)) fun i m => by
            rw [pin i (List.mem_cons_of_mem _ (List.mem_cons_of_mem _ m)), List.getElem?_set_ne fun e : ib = i => hp (by rw [e]; exact m)]
        · have np : ∀ a ∈ p', a ∉ la :: (o3 ++ o4) := fun a m z => nf' a m (.inr z)
          refine List.nodup_cons.mpr ⟨fun m => ?_, List.nodup_append.mpr ⟨n3, List.nodup_append.mpr ⟨nd', n7, fun a ha b hb e => np a ha ?_⟩, fun a ha b hb e => ?_⟩⟩
          · rcases List.mem_append.mp m with m | m
            · exact n1 (List.mem_append_left _ m)
            · rcases List.mem_append.mp m with m | m
              · exact np la m List.mem_cons_self
              · exact n1 (List.mem_append_right _ (List.mem_append_right _ m))
          · rw [e]; exact List.mem_cons_of_mem _ (List.mem_append_right _ hb)
          · rcases List.mem_append.mp hb with m | m
            · exact np b m (by rw [← e]; exact List.mem_cons_of_mem _ (List.mem_append_left _ ha))
            · exact n5 a ha b (List.mem_append_right _ m) e
        · intro a m z
          rcases List.mem_cons.mp m with m | m
          · rw [m] at z
            exact nf la List.mem_cons_self z
          · rcases List.mem_append.mp m with m | m
            · exact nf a (List.mem_cons_of_mem _ (List.mem_append_left _ m)) z
            · rcases List.mem_append.mp m with m | m
              · exact nf' a m (.inl z)
              · exact nf a (List.mem_cons_of_mem _ (List.mem_append_right _ (List.mem_append_right _ m))) z
      | rt w sd3 => rw [ef] at h; exact h.elim
      | bk sd3 => rw [ef] at h; exact h.elim
      | ct sd3 => rw [ef] at h; exact h.elim
      | ex x sd3 => rw [ef] at h; exact h.elim
      | stuck => rw [ef] at h; exact h.elim
  · rw [e2] at h; exact h σ .refl
  · rw [e2] at h; exact h
theorem ss_aliNT {ps : List Nat} (ib it n : Nat) {x y : Str} {py px sp : Pos} {e : Expr} {fe : Ev} {rest : List Stmt} {f : Nat → Sm} {g : Sm} (hne : ib ≠ it) (hN : X.N.Nodup) (hb : SE X W e fe) (hblk : ∀ L, SSsT (it :: ib :: ps) it L X W (rest.take n) (f L)) (htail : SSsp ps X W (rest.drop n) g)
    (hi : X.N[ib]? = some y := by rfl) (hx : Loc X.env.scope y := by first | exact Or.inl rfl | exact Or.inr rfl) (hNt : X.N[it]? = some x := by rfl) (hv : Vis X.env.scope x := by first | exact Or.inl rfl | exact Or.inr (Or.inl rfl) | exact Or.inr (Or.inr rfl))
    (hd : (x == ("__debug__" : Str)) = false := by decide) (hcd : (x == ("__classdict__" : Str)) = false := by decide) (hs : swapsWith (.Subscript (.Name x px) e sp) (some (.Name y py)) pos.line X.env = pure false := by rfl)
    (hf : X.fn y = true ∨ X.env.scope.names.lookup y = some .local := by first | exact .inl rfl | exact .inr rfl) (hsl : PlainIx e := by exact fun _ _ => rfl) (hp : ib ∉ ps := by first | exact List.not_mem_nil | decide) :
    SSsp ps X W (.Assign [.Name y py] (.Subscript (.Name x px) e sp) pos :: rest) (zSeq (zAliT ib it fe f) g) := by
  have := ss_aliT ib it hne hN hb hblk htail hi hx hNt hv hd hcd hs hf hsl hp
  rw [List.take_append_drop] at this
  exact this
end
def aliJT (ib it : Nat) (f : Nat → Sm) (d : D) (k : Nat) (y : D) (sd1 : SD) : O := match d with
  | .lst ds => aliJ ib it (f ds.length) (.lst ds) k y sd1
  | _ => .stuck
@[simp] theorem aliJT_lst (ib it : Nat) (f : Nat → Sm) (ds : List D) (k : Nat) (y : D) (sd : SD) : aliJT ib it f (.lst ds) k y sd = aliJ ib it (f ds.length) (.lst ds) k y sd := eqr rfl
def aliKT (ib it : Nat) (f : Nat → Sm) : D × Nat → SD → O := fun y sd1 => wS (gtS sd1 it) .stuck fun d k => aliJT ib it f d k y.1 sd1
@[simp] theorem aliKT_ap (ib it : Nat) (f : Nat → Sm) (y : D) (n : Nat) (sd : SD) : aliKT ib it f (y, n) sd = wS (gtS sd it) .stuck fun d k => aliJT ib it f d k y sd := eqr rfl
@[simp] theorem zAliT_ap (ib it : Nat) (fe : Ev) (f : Nat → Sm) (sd : SD) : zAliT ib it fe f sd = wS (gtS sd it) .stuck fun _ _ => (fe sd).run (aliKT ib it f) := by
  have h : aliKT ib it f = fun y sd1 => match sd1[it]?, y.1 with
    | some (some (.lst ds, k + 1)), .int j => match L2.ixN ds.length j with
      | some n => match ds[n]? with
        | some d => match f ds.length ((sd1.set it none).set ib (some (d, k))) with
          | .nx sd3 => match sd3[ib]? with
            | some (some (d', k')) => if k' = k then .nx ((sd3.set ib none).set it (some (.lst (ds.set n d'), k + 1))) else .stuck
            | _ => .stuck
          | _ => .stuck
        | none => .stuck
      | none => .stuck
    | _, _ => .stuck := by
    funext y sd1
    unfold aliKT gtS wS aliJT aliJ aliN aliE
    cases e : sd1[it]? with
    | none => rfl
    | some x =>
      rcases x with _ | ⟨d, k⟩
      · rfl
      · obtain ⟨y1, y2⟩ := y
        cases d <;> try rfl
        rcases k with _ | k
        · rfl
        · cases y1 <;> try rfl
          rename_i j
          rename (List D) => xs
          dsimp only
          cases L2.ixN xs.length j with
          | none => rfl
          | some n =>
            dsimp only
            cases xs[n]? with
            | none => rfl
            | some d =>
              dsimp only
              cases f xs.length ((sd1.set it none).set ib (some (d, k))) <;> try rfl
              dsimp only
              unfold gtS wS
              rename_i sd3
              cases e : sd3[ib]? with
              | none => rfl
              | some x => rcases x with _ | ⟨d, k⟩ <;> rfl
  rw [h]
  unfold zAliT gtS wS
  cases e : sd[it]? with
  | none => rfl
  | some x => rcases x with _ | ⟨d, k⟩ <;> rfl
end VS
namespace L70
open PySem PySem.Spec L2 VS
open PyProof.Rows (envOfC)
def topS (i : Nat) : Stmt := PySem.Challenge.pw_calmhouse_k70_machine_arguments.main.body.getD i (.Pass ⟨0, 0, 0, 0⟩)

structure Txt (mg : Mg) : Prop where
  b_bool : mg "bool" = none
  b_int : mg "int" = none
  b_isinstance : mg "isinstance" = none
  b_len : mg "len" = none
  b_list : mg "list" = none
  b_range : mg "range" = none
  b_str : mg "str" = none
  b_tuple : mg "tuple" = none
  c_MOST_EVENTS : ∃ t, mg "MOST_EVENTS" = some (.int 6 t)
  c_MOST_RESTS : ∃ t, mg "MOST_RESTS" = some (.int 60 t)
  c_MOST_CLICKS : ∃ t, mg "MOST_CLICKS" = some (.int 60 t)
  c_PLAIN : ∃ t, mg "PLAIN" = some (.int 0 t)
  c_FLAGGED : ∃ t, mg "FLAGGED" = some (.int 1 t)

abbrev s_is_integer : Stmt := topS 12
def b_is_integer : Sm :=
    (zRet (vAnd (op1 (gIsi "int") (rdv 0)) (vNot (op1 (gIsi "bool") (rdv 0)))))
def f_is_integer : Fn := fnOf 1 b_is_integer
abbrev s_is_index : Stmt := topS 14
def b_is_index : Sm :=
    (zRet (vAnd (cal 1 f_is_integer [] (gFz (rdv 0) gNil)) (tv (chn gLe gLt (cst (.int 0)) (rdv 0) (rdv 1)))))
def f_is_index : Fn := fnOf 2 b_is_index
abbrev s_are_moves : Stmt := topS 16
def b_are_moves : Sm :=
    (zSeq (zSet 1 (bor1 gLen 0))
    (zSeq (zIf (tNot' (chn gLe gLe (cst (.int 1)) (rdv 1) (cst (.int 60)))) (zRet (cst (.bl false))) zNil)
    (zSeq (zSet 2 (opN (un1 gLen) (aCons (ixv 0 (cst (.int 0))) aNil)))
    (zSeq (zIf (tst (op2 gGt (rdv 2) (cst (.int 6)))) (zRet (cst (.bl false))) zNil)
    (zSeq (zFor [3, 4] (iAny (rdv 0)) (gN 3)
    (zSeq (zIf (tst (op2 gNe (bor1 gLen 3) (rdv 2))) (zRet (cst (.bl false))) zNil)
    (zFor [4] (iAny (rdv 3)) (gN 4)
    (zIf (tNot' (tst (cal 2 f_is_index [] (gFz (rdv 4) (gFz (rdv 1) gNil))))) (zRet (cst (.bl false))) zNil))))
    (zRet (cst (.bl true))))))))
def f_are_moves : Fn := fnOf 5 b_are_moves
abbrev s_is_look : Stmt := topS 17
def b_is_look : Sm :=
    (zSeq (zIf (tNot' (tst (op1 (gIsi "tuple") (rdv 0)))) (zRet (vOr (op1 (gIsi "str") (rdv 0)) (cal 1 f_is_integer [] (gFz (rdv 0) gNil)))) zNil)
    (zSeq (zFor [1] (iAny (rdv 0)) (gN 1)
    (zIf (tNot' (tst (cal 1 f_is_integer [] (gFz (rdv 1) gNil)))) (zRet (cst (.bl false))) zNil))
    (zRet (cst (.bl true)))))
def f_is_look : Fn := fnOf 2 b_is_look
abbrev s_is_machine : Stmt := topS 18
def b_is_machine : Sm :=
    (zSeq (zIf (tOr' (tNot' (tst (cal 1 f_are_moves [] (gFz (rdv 0) gNil)))) (tst (op2 gNe (bor1 gLen 1) (bor1 gLen 0)))) (zRet (cst (.bl false))) zNil)
    (zSeq (zFor [2] (iAny (rdv 1)) (gN 2)
    (zIf (tNot' (tst (cal 1 f_is_look [] (gFz (rdv 2) gNil)))) (zRet (cst (.bl false))) zNil))
    (zRet (cst (.bl true)))))
def f_is_machine : Fn := fnOf 3 b_is_machine
abbrev s__law_cell : Stmt := topS 73
def b__law_cell : Sm :=
    (zSeq (zIf (tst (op2 gLt (rdv 1) (bor1 gLen 0))) (zRet (ixv 0 (rdv 1))) zNil)
    (zRet (cst (.int 0))))
def f__law_cell : Fn := fnOf 2 b__law_cell
abbrev s__law_row : Stmt := topS 74
def b__law_row : Sm :=
    (zSeq (zSet 2 (rdv 0))
    (zSeq (zSet 3 (op2 gMod (opN (un1 gInt) (aCons (op2 gAdd (op2 gMul (rdv 0) (cst (.int 48271))) (cst (.int 12345))) aNil)) (cst (.int 2147483647))))
    (zSeq (zSet 4 (dLst aNil))
    (zSeq (zFor [5] (iAny (rdv 1)) (gN 5)
    (zIf (tst (op2 gGe (rdv 0) (op2 gPow (cst (.int 10)) (cst (.int 18))))) (zSeq (zApp 4 (op2 gMod (opN (un1 gInt) (aCons (rdv 2) aNil)) (rdv 5)))
    (zSet 2 (op2 gFdiv (rdv 2) (rdv 5)))) (zSeq (zSet 3 (op2 gMod (opN (un1 gInt) (aCons (op2 gAdd (op2 gMul (rdv 3) (cst (.int 16807))) (cst (.int 54321))) aNil)) (cst (.int 2147483647))))
    (zApp 4 (op2 gMod (op2 gFdiv (rdv 3) (cst (.int 64))) (rdv 5))))))
    (zRet (mvv 4))))))
def f__law_row : Fn := fnOf 6 b__law_row
abbrev s__law_is_integer : Stmt := topS 75
def b__law_is_integer : Sm :=
    (zRet (vAnd (op1 (gIsi "int") (rdv 0)) (vNot (op1 (gIsi "bool") (rdv 0)))))
def f__law_is_integer : Fn := fnOf 1 b__law_is_integer
abbrev s__law_same : Stmt := topS 76
def b__law_same (me : Fn) : Sm :=
    (zSeq (zIf (tst (op1 (gIsi "tuple") (rdv 1))) (zSeq (zIf (tOr' (tNot' (tst (op1 (gIsi "tuple") (rdv 0)))) (tst (op2 gNe (bor1 gLen 0) (bor1 gLen 1)))) (zRet (cst (.bl false))) zNil)
    (zSeq (zFor [2] (iR1 (bor1 gLen 1)) (gN 2)
    (zIf (tNot' (tst (cal 2 me [] (gFz (ixv 0 (rdv 2)) (gFz (ixv 1 (rdv 2)) gNil))))) (zRet (cst (.bl false))) zNil))
    (zRet (cst (.bl true))))) zNil)
    (zSeq (zIf (tst (op2 (gIs false) (rdv 1) (cst .non))) (zRet (op2 (gIs false) (rdv 0) (cst .non))) zNil)
    (zSeq (zIf (tst (op1 (gIsi "bool") (rdv 1))) (zRet (vAnd (op1 (gIsi "bool") (rdv 0)) (op2 gEq (rdv 0) (rdv 1)))) zNil)
    (zSeq (zIf (tst (op1 (gIsi "str") (rdv 1))) (zRet (vAnd (op1 (gIsi "str") (rdv 0)) (op2 gEq (rdv 0) (rdv 1)))) zNil)
    (zRet (vAnd (cal 1 f__law_is_integer [] (gFz (rdv 0) gNil)) (op2 gEq (rdv 0) (rdv 1))))))))
def f__law_same : Fn := fuelF 3 b__law_same 12
abbrev s__law_beyond : Stmt := topS 77
def b__law_beyond : Sm :=
    (zRet (op2 gIx (dLst (aCons (rdv 0) (aCons (op1 gNeg (cst (.int 1))) (aCons (op2 gAdd (rdv 0) (rdv 2)) (aCons (op2 gSub (op1 gNeg (cst (.int 1))) (rdv 2)) aNil))))) (rdv 1)))
def f__law_beyond : Fn := fnOf 3 b__law_beyond
abbrev s__law_changed : Stmt := topS 78
def t__law_changed_6 : Sm :=
    (zSeq (zIf (tst (op2 gEq (rdv 1) (cst (.int 4)))) (zApp 6 (cst (.int 0))) zNil)
    (zSeq (zIf (tst (op2 gEq (rdv 1) (cst (.int 5)))) (zSet 6 (slE (rdv 6) poN (poS (op1 gNeg (cst (.int 1)))))) zNil)
    (zSeq (zIf (tst (op2 gEq (rdv 1) (cst (.int 6)))) (zSeq (zSet 4 (dLst aNil))
    (zSet 6 (dLst aNil))) zNil)
    (zSeq (zIf (tst (op2 gEq (rdv 1) (cst (.int 7)))) (zFrz 7 (zSet 7 (cal 3 f__law_beyond [] (gFz (bor1 gLen 4) (gFz (ixv 2 (cst (.int 2))) (gFz (rdv 3) gNil)))))) zNil)
    (zSeq (zIf (tst (op2 gEq (rdv 1) (cst (.int 8)))) (zIns 8 (op2 gMod (ixv 2 (cst (.int 3))) (op2 gAdd (bor1 gLen 8) (cst (.int 1)))) (cal 3 f__law_beyond [] (gFz (rdv 9) (gFz (ixv 2 (cst (.int 2))) (gFz (rdv 3) gNil))))) zNil)
    (zRet (dLst (aCons (rdv 4) (aCons (rdv 6) (aCons (rdv 7) (aCons (rdv 8) aNil)))))))))))
def b__law_changed : Sm :=
    (zSeq (zSet 4 (lcSO 1 [5] (iAny (ixv 0 (cst (.int 0)))) (gN 5) tYes' (opN (un1 gList) (aCons (rdv 5) aNil))))
    (zSeq (zSet 6 (opN (un1 gList) (aCons (ixv 0 (cst (.int 1))) aNil)))
    (zSeq (zSet 7 (ixv 0 (cst (.int 2))))
    (zSeq (zSet 8 (opN (un1 gList) (aCons (ixv 0 (cst (.int 3))) aNil)))
    (zSeq (zSet 9 (pureE (cst (.int 0))))
    (zSeq (zIf (tst (op2 gGt (bor1 gLen 4) (cst (.int 0)))) (zSeq (zSet 10 (op2 gMod (ixv 2 (cst (.int 0))) (bor1 gLen 4)))
    (zSeq (zSet 9 (pureE (opN (un1 gLen) (aCons (ixv 4 (cst (.int 0))) aNil))))
    (zOr (fun sd => isI 1 1 sd || isI 1 2 sd)
    (zSeq (zAliT 5 4 (rdv 10) (fun Ln =>
    (zSeq (zIf (tAnd' (tst (op2 gEq (rdv 1) (cst (.int 1)))) (tst (op2 gGt (bor1 gLen 5) (cst (.int 0))))) (zPut 5 (op2 gMod (ixv 2 (cst (.int 1))) (bor1 gLen 5)) (cal 3 f__law_beyond [] (gFz (cst (.int (Ln : Nat))) (gFz (ixv 2 (cst (.int 2))) (gFz (rdv 3) gNil))))) zNil)
    (zSeq (zIf (tst (op2 gEq (rdv 1) (cst (.int 2)))) (zApp 5 (cst (.int 0))) zNil)
    (zIf (tst (op2 gEq (rdv 1) (cst (.int 3)))) (zCap 4 (zPut 4 (rdv 10) (slE (rdv 5) poN (poS (op1 gNeg (cst (.int 1))))))) zNil)))))
    zNil)
    (zSeq (zSet 5 (ixv 4 (rdv 10)))
    (zSeq (zIf (tAnd' (tst (op2 gEq (rdv 1) (cst (.int 1)))) (tst (op2 gGt (bor1 gLen 5) (cst (.int 0))))) (zPut 5 (op2 gMod (ixv 2 (cst (.int 1))) (bor1 gLen 5)) (cal 3 f__law_beyond [] (gFz (bor1 gLen 4) (gFz (ixv 2 (cst (.int 2))) (gFz (rdv 3) gNil))))) zNil)
    (zSeq (zIf (tst (op2 gEq (rdv 1) (cst (.int 2)))) (zApp 5 (cst (.int 0))) zNil)
    (zIf (tst (op2 gEq (rdv 1) (cst (.int 3)))) (zCap 4 (zPut 4 (rdv 10) (slE (rdv 5) poN (poS (op1 gNeg (cst (.int 1))))))) zNil))))))) zNil)
    t__law_changed_6))))))
def f__law_changed : Fn := fnOf 11 b__law_changed
abbrev s__law_right_moves : Stmt := topS 79
def b__law_right_moves : Sm :=
    (zSeq (zSet 1 (bor1 gLen 0))
    (zSeq (zIf (tOr' (tst (op2 gLt (rdv 1) (cst (.int 1)))) (tOr' (tst (op2 gGt (rdv 1) (cst (.int 60)))) (tst (op2 gGt (opN (un1 gLen) (aCons (ixv 0 (cst (.int 0))) aNil)) (cst (.int 6)))))) (zRet (cst (.bl false))) zNil)
    (zSeq (zFor [2, 3] (iAny (rdv 0)) (gN 2)
    (zSeq (zIf (tst (op2 gNe (bor1 gLen 2) (opN (un1 gLen) (aCons (ixv 0 (cst (.int 0))) aNil)))) (zRet (cst (.bl false))) zNil)
    (zFor [3] (iAny (rdv 2)) (gN 3)
    (zIf (tOr' (tst (op2 gLt (rdv 3) (cst (.int 0)))) (tst (op2 gGe (rdv 3) (rdv 1)))) (zRet (cst (.bl false))) zNil))))
    (zRet (cst (.bl true))))))
def f__law_right_moves : Fn := fnOf 4 b__law_right_moves
abbrev s__law_walk : Stmt := topS 80
def b__law_walk : Sm :=
    (zSeq (zIf (tOr' (tst (op2 gLt (rdv 1) (cst (.int 0)))) (tst (op2 gGe (rdv 1) (bor1 gLen 0)))) (zRet (dTup (aCons (cst (.str "BadOrder")) (aCons (cst (.int 0)) aNil)))) zNil)
    (zSeq (zSet 3 (dLst (aCons (rdv 1) aNil)))
    (zSeq (zFor [4] (iAny (rdv 2)) (gN 4)
    (zSeq (zIf (tOr' (tst (op2 gLt (rdv 4) (cst (.int 0)))) (tst (op2 gGe (rdv 4) (opN (un1 gLen) (aCons (ixv 0 (cst (.int 0))) aNil))))) (zRet (dTup (aCons (cst (.str "BadEvent")) (aCons (rdv 4) aNil)))) zNil)
    (zApp 3 (op2 gIx (ixv 0 (ixv 3 (op1 gNeg (cst (.int 1))))) (rdv 4)))))
    (zRet (dTup (aCons (cst (.str "ok")) (aCons (opN (un1 gTuple) (aCons (rdv 3) aNil)) aNil)))))))
def f__law_walk : Fn := fnOf 5 b__law_walk
abbrev s_demand_rest : Stmt := topS 20
def b_demand_rest : Sm :=
    (zIf (tNot' (tst (cal 2 f_is_index [] (gFz (rdv 1) (gFz (bor1 gLen 0) gNil))))) (zRs "BadOrder") zNil)
def f_demand_rest : Fn := fnOf 2 b_demand_rest
abbrev s_demand_event : Stmt := topS 23
def b_demand_event : Sm :=
    (zIf (tNot' (tst (cal 2 f_is_index [] (gFz (rdv 1) (gFz (opN (un1 gLen) (aCons (ixv 0 (cst (.int 0))) aNil)) gNil))))) (zRsF "BadEvent" "index" (rdv 1)) zNil)
def f_demand_event : Fn := fnOf 2 b_demand_event
abbrev s_rests_of_day : Stmt := topS 24
def b_rests_of_day : Sm :=
    (zSeq (zSet 3 (dLst (aCons (rdv 1) aNil)))
    (zSeq (zFor [4] (iAny (rdv 2)) (gN 4)
    (zSeq (zDrop (cal 2 f_demand_event [] (gFz (rdv 0) (gFz (rdv 4) gNil))))
    (zApp 3 (op2 gIx (ixv 0 (ixv 3 (op1 gNeg (cst (.int 1))))) (rdv 4)))))
    (zRet (mvv 3))))
def f_rests_of_day : Fn := fnOf 5 b_rests_of_day
abbrev s_day_end : Stmt := topS 25
def b_day_end : Sm :=
    (zSeq (zIf (tNot' (tst (cal 1 f_are_moves [] (gFz (rdv 0) gNil)))) (zRs "BadGraph") zNil)
    (zSeq (zDrop (cal 2 f_demand_rest [] (gFz (rdv 0) (gFz (rdv 1) gNil))))
    (zRet (op2 gIx (cal 3 f_rests_of_day [] (gFz (rdv 0) (gFz (rdv 1) (gFz (rdv 2) gNil)))) (op1 gNeg (cst (.int 1)))))))
def f_day_end : Fn := fnOf 3 b_day_end
abbrev s__law_told : Stmt := topS 81
def b__law_told : Sm :=
    (zSeq (zFrz 3 (zSet 3 (dLst (aCons (op1 (gIsE [("BadEvent", false), ("BadOrder", false), ("BadLog", false), ("BadGraph", true), ("TooMany", false)]) (rdv 0)) (aCons (op1 (gIsE [("BadEvent", false), ("BadOrder", true), ("BadLog", false), ("BadGraph", false), ("TooMany", false)]) (rdv 0)) (aCons (op1 (gIsE [("BadEvent", false), ("BadOrder", false), ("BadLog", false), ("BadGraph", false), ("TooMany", true)]) (rdv 0)) (aCons (op1 (gIsE [("BadEvent", true), ("BadOrder", false), ("BadLog", false), ("BadGraph", false), ("TooMany", false)]) (rdv 0)) aNil)))))))
    (zSeq (zIf (tOr' (tst (op2 gNe (mth1 gCntL 3 (cst (.bl true))) (cst (.int 1)))) (tOr' (tNot' (tst (op1 (gIsE [("BadEvent", true), ("BadOrder", true), ("BadLog", true), ("BadGraph", true), ("TooMany", true)]) (rdv 0)))) (tNot' (tst (op1 (gIsE [("BadEvent", true), ("BadOrder", true), ("BadLog", true), ("BadGraph", true), ("TooMany", true)]) (rdv 0)))))) (zRet (dTup (aCons (cst (.str "wrong class")) (aCons (cst (.int 0)) aNil)))) zNil)
    (zRet (dTup (aCons (rdv 1) (aCons (rdv 2) aNil))))))
def f__law_told : Fn := fnOf 4 b__law_told
abbrev s__law_end_told : Stmt := topS 82
def b__law_end_told : Sm :=
    (zSeq (zTry (zFrz 3 (zSet 3 (cal 3 f_day_end [] (gFz (rdv 0) (gFz (rdv 1) (gFz (rdv 2) gNil)))))) [([("BadEvent", false), ("BadOrder", false), ("BadLog", false), ("BadGraph", true), ("TooMany", false)], some 4, (zRet (calU 3 f__law_told (gFz (rdv 4) (gFz (cst (.str "BadGraph")) (gFz (cst (.int 0)) gNil)))))), ([("BadEvent", false), ("BadOrder", true), ("BadLog", false), ("BadGraph", false), ("TooMany", false)], some 4, (zRet (calU 3 f__law_told (gFz (rdv 4) (gFz (cst (.str "BadOrder")) (gFz (cst (.int 0)) gNil)))))), ([("BadEvent", true), ("BadOrder", false), ("BadLog", false), ("BadGraph", false), ("TooMany", false)], some 4, (zRet (calU 3 f__law_told (gFz (rdv 4) (gFz (cst (.str "BadEvent")) (gFz (op1 (gFld ["BadEvent"] "index") (rdv 4)) gNil))))))])
    (zRet (dTup (aCons (cst (.str "ok")) (aCons (rdv 3) aNil)))))
def f__law_end_told : Fn := fnOf 5 b__law_end_told
abbrev s_demand_machine : Stmt := topS 19
def b_demand_machine : Sm :=
    (zIf (tNot' (tst (cal 2 f_is_machine [] (gFz (rdv 0) (gFz (rdv 1) gNil))))) (zRs "BadGraph") zNil)
def f_demand_machine : Fn := fnOf 2 b_demand_machine
abbrev s_day_looks : Stmt := topS 26
def b_day_looks : Sm :=
    (zSeq (zDrop (cal 2 f_demand_machine [] (gFz (rdv 0) (gFz (rdv 1) gNil))))
    (zSeq (zDrop (cal 2 f_demand_rest [] (gFz (rdv 0) (gFz (rdv 2) gNil))))
    (zRet (opN (un1 gTuple) (aCons (lcS [4] (iAny (slE (cal 3 f_rests_of_day [] (gFz (rdv 0) (gFz (rdv 2) (gFz (rdv 3) gNil)))) (poS (cst (.int 1))) poN)) (gN 4) tYes' (ixv 1 (rdv 4))) aNil)))))
def f_day_looks : Fn := fnOf 5 b_day_looks
abbrev s__law_looks_told : Stmt := topS 83
def b__law_looks_told : Sm :=
    (zSeq (zTry (zFrz 4 (zSet 4 (cal 4 f_day_looks [] (gFz (rdv 0) (gFz (rdv 1) (gFz (rdv 2) (gFz (rdv 3) gNil))))))) [([("BadEvent", false), ("BadOrder", false), ("BadLog", false), ("BadGraph", true), ("TooMany", false)], some 5, (zRet (calU 3 f__law_told (gFz (rdv 5) (gFz (cst (.str "BadGraph")) (gFz (cst (.int 0)) gNil)))))), ([("BadEvent", false), ("BadOrder", true), ("BadLog", false), ("BadGraph", false), ("TooMany", false)], some 5, (zRet (calU 3 f__law_told (gFz (rdv 5) (gFz (cst (.str "BadOrder")) (gFz (cst (.int 0)) gNil)))))), ([("BadEvent", true), ("BadOrder", false), ("BadLog", false), ("BadGraph", false), ("TooMany", false)], some 5, (zRet (calU 3 f__law_told (gFz (rdv 5) (gFz (cst (.str "BadEvent")) (gFz (op1 (gFld ["BadEvent"] "index") (rdv 5)) gNil))))))])
    (zRet (dTup (aCons (cst (.str "ok")) (aCons (rdv 4) aNil)))))
def f__law_looks_told : Fn := fnOf 6 b__law_looks_told
abbrev s_alike_groups : Stmt := topS 29
def b_alike_groups : Sm :=
    (zSeq (zDrop (cal 2 f_demand_machine [] (gFz (rdv 0) (gFz (rdv 1) gNil))))
    zNever)
def f_alike_groups : Fn := fnOf 2 b_alike_groups
abbrev s_telling_day : Stmt := topS 31
def b_telling_day : Sm :=
    (zSeq (zDrop (cal 2 f_demand_machine [] (gFz (rdv 0) (gFz (rdv 1) gNil))))
    (zSeq (zDrop (cal 2 f_demand_rest [] (gFz (rdv 0) (gFz (rdv 2) gNil))))
    (zSeq (zDrop (cal 2 f_demand_rest [] (gFz (rdv 0) (gFz (rdv 3) gNil))))
    zNever)))
def f_telling_day : Fn := fnOf 4 b_telling_day
abbrev s_are_ascending : Stmt := topS 15
def b_are_ascending : Sm :=
    (zSeq (zSet 2 (op1 gNeg (cst (.int 1))))
    (zSeq (zFor [3] (iAny (rdv 0)) (gN 3)
    (zSeq (zIf (tOr' (tNot' (tst (cal 2 f_is_index [] (gFz (rdv 3) (gFz (rdv 1) gNil))))) (tst (op2 gLe (rdv 3) (rdv 2)))) (zRet (cst (.bl false))) zNil)
    (zSet 2 (rdv 3))))
    (zRet (cst (.bl true)))))
def f_are_ascending : Fn := fnOf 4 b_are_ascending
abbrev s_demand_starts : Stmt := topS 21
def b_demand_starts : Sm :=
    (zIf (tOr' (tst (op2 gEq (bor1 gLen 1) (cst (.int 0)))) (tNot' (tst (cal 2 f_are_ascending [] (gFz (rdv 1) (gFz (bor1 gLen 0) gNil)))))) (zRs "BadOrder") zNil)
def f_demand_starts : Fn := fnOf 2 b_demand_starts
abbrev s_demand_seen : Stmt := topS 22
def b_demand_seen : Sm :=
    (zIf (tst (op2 gGt (bor1 gLen 0) (cst (.int 60)))) (zRsF "TooMany" "limit" (cst (.int 60))) zNil)
def f_demand_seen : Fn := fnOf 1 b_demand_seen
abbrev s_beliefs : Stmt := topS 38
def b_beliefs : Sm :=
    (zSeq (zDrop (cal 2 f_demand_machine [] (gFz (rdv 0) (gFz (rdv 1) gNil))))
    (zSeq (zDrop (cal 2 f_demand_starts [] (gFz (rdv 0) (gFz (rdv 2) gNil))))
    (zSeq (zDrop (cal 1 f_demand_seen [] (gFz (rdv 3) gNil)))
    zNever)))
def f_beliefs : Fn := fnOf 4 b_beliefs
abbrev s_fits_day : Stmt := topS 40
def b_fits_day : Sm :=
    (zSeq (zDrop (cal 2 f_demand_machine [] (gFz (rdv 0) (gFz (rdv 1) gNil))))
    (zSeq (zDrop (cal 2 f_demand_rest [] (gFz (rdv 0) (gFz (rdv 2) gNil))))
    (zSeq (zDrop (cal 1 f_demand_seen [] (gFz (rdv 4) gNil)))
    zNever)))
def f_fits_day : Fn := fnOf 5 b_fits_day
abbrev s_first_day : Stmt := topS 41
def b_first_day : Sm :=
    (zSeq (zDrop (cal 2 f_demand_machine [] (gFz (rdv 0) (gFz (rdv 1) gNil))))
    (zSeq (zDrop (cal 2 f_demand_starts [] (gFz (rdv 0) (gFz (rdv 2) gNil))))
    (zSeq (zDrop (cal 1 f_demand_seen [] (gFz (rdv 3) gNil)))
    zNever)))
def f_first_day : Fn := fnOf 4 b_first_day
abbrev s_demand_question : Stmt := topS 43
def b_demand_question : Sm :=
    (zSeq (zDrop (cal 2 f_demand_machine [] (gFz (rdv 0) (gFz (rdv 1) gNil))))
    (zSeq (zDrop (cal 2 f_demand_rest [] (gFz (rdv 0) (gFz (rdv 2) gNil))))
    (zDrop (cal 1 f_demand_seen [] (gFz (rdv 3) gNil)))))
def f_demand_question : Fn := fnOf 4 b_demand_question
abbrev s_count_days : Stmt := topS 44
def b_count_days : Sm :=
    (zSeq (zDrop (cal 4 f_demand_question [] (gFz (rdv 0) (gFz (rdv 1) (gFz (rdv 2) (gFz (rdv 3) gNil))))))
    zNever)
def f_count_days : Fn := fnOf 4 b_count_days
abbrev s_numbered_day : Stmt := topS 45
def b_numbered_day : Sm :=
    (zSeq (zDrop (cal 4 f_demand_question [] (gFz (rdv 0) (gFz (rdv 1) (gFz (rdv 2) (gFz (rdv 3) gNil))))))
    zNever)
def f_numbered_day : Fn := fnOf 5 b_numbered_day
abbrev s_day_number : Stmt := topS 46
def b_day_number : Sm :=
    (zSeq (zDrop (cal 4 f_demand_question [] (gFz (rdv 0) (gFz (rdv 1) (gFz (rdv 2) (gFz (rdv 3) gNil))))))
    zNever)
def f_day_number : Fn := fnOf 5 b_day_number
abbrev s_possible_presses : Stmt := topS 49
def b_possible_presses : Sm :=
    (zSeq (zDrop (cal 2 f_demand_machine [] (gFz (rdv 0) (gFz (rdv 1) gNil))))
    (zSeq (zDrop (cal 2 f_demand_starts [] (gFz (rdv 0) (gFz (rdv 2) gNil))))
    (zSeq (zDrop (cal 1 f_demand_seen [] (gFz (rdv 3) gNil)))
    zNever)))
def f_possible_presses : Fn := fnOf 4 b_possible_presses
abbrev s_must_paper : Stmt := topS 50
def b_must_paper : Sm :=
    (zSeq (zDrop (cal 2 f_demand_machine [] (gFz (rdv 0) (gFz (rdv 1) gNil))))
    (zSeq (zDrop (cal 2 f_demand_starts [] (gFz (rdv 0) (gFz (rdv 2) gNil))))
    (zSeq (zDrop (cal 1 f_demand_seen [] (gFz (rdv 3) gNil)))
    (zSeq (zDrop (cal 2 f_demand_event [] (gFz (rdv 0) (gFz (rdv 4) gNil))))
    zNever))))
def f_must_paper : Fn := fnOf 5 b_must_paper
abbrev s_least_times : Stmt := topS 53
def b_least_times : Sm :=
    (zSeq (zDrop (cal 2 f_demand_machine [] (gFz (rdv 0) (gFz (rdv 1) gNil))))
    (zSeq (zDrop (cal 2 f_demand_starts [] (gFz (rdv 0) (gFz (rdv 2) gNil))))
    (zSeq (zDrop (cal 1 f_demand_seen [] (gFz (rdv 3) gNil)))
    (zSeq (zDrop (cal 2 f_demand_event [] (gFz (rdv 0) (gFz (rdv 4) gNil))))
    zNever))))
def f_least_times : Fn := fnOf 5 b_least_times
abbrev s_small_machine : Stmt := topS 57
def b_small_machine : Sm :=
    (zSeq (zDrop (cal 2 f_demand_machine [] (gFz (rdv 0) (gFz (rdv 1) gNil))))
    (zSeq (zDrop (cal 2 f_demand_rest [] (gFz (rdv 0) (gFz (rdv 2) gNil))))
    zNever))
def f_small_machine : Fn := fnOf 3 b_small_machine
abbrev s_parting_day : Stmt := topS 58
def b_parting_day : Sm :=
    (zSeq (zDrop (cal 2 f_demand_machine [] (gFz (ixv 0 (cst (.int 0))) (gFz (ixv 0 (cst (.int 1))) gNil))))
    (zSeq (zDrop (cal 2 f_demand_machine [] (gFz (ixv 1 (cst (.int 0))) (gFz (ixv 1 (cst (.int 1))) gNil))))
    (zSeq (zIf (tst (op2 gNe (opN (un1 gLen) (aCons (op2 gIx (ixv 0 (cst (.int 0))) (cst (.int 0))) aNil)) (opN (un1 gLen) (aCons (op2 gIx (ixv 1 (cst (.int 0))) (cst (.int 0))) aNil)))) (zRs "BadGraph") zNil)
    (zSeq (zDrop (cal 2 f_demand_rest [] (gFz (ixv 0 (cst (.int 0))) (gFz (ixv 0 (cst (.int 2))) gNil))))
    (zSeq (zDrop (cal 2 f_demand_rest [] (gFz (ixv 1 (cst (.int 0))) (gFz (ixv 1 (cst (.int 2))) gNil))))
    zNever)))))
def f_parting_day : Fn := fnOf 2 b_parting_day
abbrev s_told_paper : Stmt := topS 70
def b_told_paper : Sm :=
    (zSeq (zDrop (cal 2 f_demand_machine [] (gFz (rdv 0) (gFz (rdv 1) gNil))))
    (zSeq (zDrop (cal 2 f_demand_rest [] (gFz (rdv 0) (gFz (rdv 2) gNil))))
    (zSeq (zDrop (cal 2 f_demand_event [] (gFz (rdv 0) (gFz (rdv 3) gNil))))
    zNever)))
def f_told_paper : Fn := fnOf 4 b_told_paper
abbrev s_delay : Stmt := topS 71
def b_delay : Sm :=
    (zSeq (zFrz 4 (zSet 4 (cal 4 f_told_paper [] (gFz (rdv 0) (gFz (rdv 1) (gFz (rdv 2) (gFz (rdv 3) gNil)))))))
    zNever)
def f_delay : Fn := fnOf 5 b_delay
abbrev s_Reader___init__ : Stmt := inClass (topS 55) 0
def b_Reader___init__ : Sm :=
    (zSeq (zDrop (cal 2 f_demand_machine [] (gFz (rdv 1) (gFz (rdv 2) gNil))))
    (zSeq (zDrop (cal 2 f_demand_starts [] (gFz (rdv 1) (gFz (rdv 3) gNil))))
    zNever))
def f_Reader___init__ : FnO := fnIO 4 [0] b_Reader___init__
abbrev s__law_call : Stmt := topS 84
def b__law_call : Sm :=
    (zSeq (zIf (tst (op2 gEq (rdv 0) (cst (.int 0)))) (zRet (cal 2 f_alike_groups [] (gFz (rdv 1) (gFz (rdv 2) gNil)))) zNil)
    (zSeq (zIf (tst (op2 gEq (rdv 0) (cst (.int 1)))) (zRet (cal 4 f_telling_day [] (gFz (rdv 1) (gFz (rdv 2) (gFz (rdv 3) (gFz (cst (.int 0)) gNil)))))) zNil)
    (zSeq (zIf (tst (op2 gEq (rdv 0) (cst (.int 2)))) (zRet (cal 3 f_small_machine [] (gFz (rdv 1) (gFz (rdv 2) (gFz (rdv 3) gNil))))) zNil)
    (zSeq (zIf (tst (op2 gEq (rdv 0) (cst (.int 3)))) (zRet (cal 2 f_parting_day [] (gFz (dTup (aCons (rdv 1) (aCons (rdv 2) (aCons (rdv 3) aNil)))) (gFz (dTup (aCons (rdv 1) (aCons (rdv 2) (aCons (cst (.int 0)) aNil)))) gNil)))) zNil)
    (zSeq (zIf (tst (op2 gEq (rdv 0) (cst (.int 4)))) (zRet (cal 4 f_told_paper [] (gFz (rdv 1) (gFz (rdv 2) (gFz (rdv 3) (gFz (rdv 6) gNil)))))) zNil)
    (zSeq (zIf (tst (op2 gEq (rdv 0) (cst (.int 5)))) (zRet (cal 4 f_delay [] (gFz (rdv 1) (gFz (rdv 2) (gFz (rdv 3) (gFz (rdv 6) gNil)))))) zNil)
    (zSeq (zIf (tst (op2 gEq (rdv 0) (cst (.int 6)))) (zRet (cal 5 f_fits_day [] (gFz (rdv 1) (gFz (rdv 2) (gFz (rdv 3) (gFz (dLst aNil) (gFz (rdv 5) gNil))))))) zNil)
    (zSeq (zIf (tst (op2 gEq (rdv 0) (cst (.int 7)))) (zRet (cal 4 f_count_days [] (gFz (rdv 1) (gFz (rdv 2) (gFz (rdv 3) (gFz (rdv 5) gNil)))))) zNil)
    (zSeq (zIf (tst (op2 gEq (rdv 0) (cst (.int 8)))) (zRet (cal 5 f_numbered_day [] (gFz (rdv 1) (gFz (rdv 2) (gFz (rdv 3) (gFz (rdv 5) (gFz (cst (.int 0)) gNil))))))) zNil)
    (zSeq (zIf (tst (op2 gEq (rdv 0) (cst (.int 9)))) (zRet (cal 5 f_day_number [] (gFz (rdv 1) (gFz (rdv 2) (gFz (rdv 3) (gFz (rdv 5) (gFz (dLst aNil) gNil))))))) zNil)
    (zSeq (zIf (tst (op2 gEq (rdv 0) (cst (.int 10)))) (zRet (cal 4 f_beliefs [] (gFz (rdv 1) (gFz (rdv 2) (gFz (rdv 4) (gFz (rdv 5) gNil)))))) zNil)
    (zSeq (zIf (tst (op2 gEq (rdv 0) (cst (.int 11)))) (zRet (cal 4 f_first_day [] (gFz (rdv 1) (gFz (rdv 2) (gFz (rdv 4) (gFz (rdv 5) gNil)))))) zNil)
    (zSeq (zIf (tst (op2 gEq (rdv 0) (cst (.int 12)))) (zRet (cal 4 f_possible_presses [] (gFz (rdv 1) (gFz (rdv 2) (gFz (rdv 4) (gFz (rdv 5) gNil)))))) zNil)
    (zSeq (zIf (tst (op2 gEq (rdv 0) (cst (.int 13)))) (zRet (cal 5 f_must_paper [] (gFz (rdv 1) (gFz (rdv 2) (gFz (rdv 4) (gFz (rdv 5) (gFz (rdv 6) gNil))))))) zNil)
    (zSeq (zIf (tst (op2 gEq (rdv 0) (cst (.int 14)))) (zRet (cal 5 f_least_times [] (gFz (rdv 1) (gFz (rdv 2) (gFz (rdv 4) (gFz (rdv 5) (gFz (rdv 6) gNil))))))) zNil)
    (zSeq (zIf (tst (op2 gEq (rdv 0) (cst (.int 15)))) (zRet (cal 4 f_telling_day [] (gFz (rdv 1) (gFz (rdv 2) (gFz (cst (.int 0)) (gFz (rdv 3) gNil)))))) zNil)
    (zSeq (zIf (tst (op2 gEq (rdv 0) (cst (.int 16)))) (zRet (cal 2 f_parting_day [] (gFz (dTup (aCons (rdv 1) (aCons (rdv 2) (aCons (cst (.int 0)) aNil)))) (gFz (dTup (aCons (rdv 1) (aCons (rdv 2) (aCons (rdv 3) aNil)))) gNil)))) zNil)
    (zRet (atX (mkO "Reader" 4 f_Reader___init__ [] (gFz (rdv 1) (gFz (rdv 2) (gFz (rdv 4) gNil)))))))))))))))))))))))
def f__law_call : Fn := fnOf 7 b__law_call
abbrev s__law_refusal : Stmt := topS 85
def b__law_refusal : Sm :=
    (zSeq (zTry (zDrop (cal 7 f__law_call [] (gFz (rdv 0) (gFz (rdv 1) (gFz (rdv 2) (gFz (rdv 3) (gFz (rdv 4) (gFz (rdv 5) (gFz (rdv 6) gNil))))))))) [([("BadEvent", false), ("BadOrder", false), ("BadLog", false), ("BadGraph", true), ("TooMany", false)], some 7, (zRet (calU 3 f__law_told (gFz (rdv 7) (gFz (cst (.str "BadGraph")) (gFz (cst (.int 0)) gNil)))))), ([("BadEvent", false), ("BadOrder", true), ("BadLog", false), ("BadGraph", false), ("TooMany", false)], some 7, (zRet (calU 3 f__law_told (gFz (rdv 7) (gFz (cst (.str "BadOrder")) (gFz (cst (.int 0)) gNil)))))), ([("BadEvent", false), ("BadOrder", false), ("BadLog", false), ("BadGraph", false), ("TooMany", true)], some 7, (zRet (calU 3 f__law_told (gFz (rdv 7) (gFz (cst (.str "TooMany")) (gFz (op1 (gFld ["TooMany"] "limit") (rdv 7)) gNil)))))), ([("BadEvent", true), ("BadOrder", false), ("BadLog", false), ("BadGraph", false), ("TooMany", false)], some 7, (zRet (calU 3 f__law_told (gFz (rdv 7) (gFz (cst (.str "BadEvent")) (gFz (op1 (gFld ["BadEvent"] "index") (rdv 7)) gNil))))))])
    (zRet (dTup (aCons (cst (.str "ok")) (aCons (cst (.int 0)) aNil)))))
def f__law_refusal : Fn := fnOf 8 b__law_refusal
abbrev s__law_due : Stmt := topS 86
def b__law_due : Sm :=
    (zSeq (zIf (tOr' (tNot' (tst (cal 1 f__law_right_moves [] (gFz (rdv 1) gNil)))) (tst (op2 gNe (bor1 gLen 2) (bor1 gLen 1)))) (zRet (dTup (aCons (cst (.str "BadGraph")) (aCons (cst (.int 0)) aNil)))) zNil)
    (zSeq (zIf (tAnd' (tst (op2 gGt (rdv 0) (cst (.int 0)))) (tOr' (tst (op2 gLt (rdv 3) (cst (.int 0)))) (tst (op2 gGe (rdv 3) (bor1 gLen 1))))) (zRet (dTup (aCons (cst (.str "BadOrder")) (aCons (cst (.int 0)) aNil)))) zNil)
    (zSeq (zIf (tAnd' (tOr' (chn gLe gLe (cst (.int 10)) (rdv 0) (cst (.int 14))) (tst (op2 gEq (rdv 0) (cst (.int 17))))) (tst (op2 gNe (bor1 gLen 4) (cst (.int 1))))) (zRet (dTup (aCons (cst (.str "BadOrder")) (aCons (cst (.int 0)) aNil)))) zNil)
    (zSeq (zIf (tAnd' (chn gLe gLe (cst (.int 6)) (rdv 0) (cst (.int 14))) (tst (op2 gGt (bor1 gLen 5) (cst (.int 60))))) (zRet (dTup (aCons (cst (.str "TooMany")) (aCons (cst (.int 60)) aNil)))) zNil)
    (zSeq (zIf (tAnd' (tst (op2 (gIn false) (rdv 0) (dLst (aCons (cst (.int 4)) (aCons (cst (.int 5)) (aCons (cst (.int 13)) (aCons (cst (.int 14)) aNil))))))) (tOr' (tst (op2 gLt (rdv 6) (cst (.int 0)))) (tst (op2 gGe (rdv 6) (opN (un1 gLen) (aCons (ixv 1 (cst (.int 0))) aNil)))))) (zRet (dTup (aCons (cst (.str "BadEvent")) (aCons (rdv 6) aNil)))) zNil)
    (zRet (dTup (aCons (cst (.str "ok")) (aCons (cst (.int 0)) aNil)))))))))
def f__law_due : Fn := fnOf 7 b__law_due
abbrev s__law_built : Stmt := topS 87
def t__law_built_3 : Sm :=
    (zSeq (zSet 4 (op2 gMod (opN (un1 gInt) (aCons (cal 2 f__law_cell [] (gFz (rdv 0) (gFz (cst (.int 2)) gNil))) aNil)) (op2 gPow (cst (.int 10)) (cst (.int 30)))))
    (zSeq (zFrz 5 (zSet 5 (dLst (aCons (rdv 4) (aCons (opN (un1 gStr) (aCons (rdv 4) aNil)) (aCons (dTup (aCons (rdv 4) aNil)) (aCons (cst (.str "")) (aCons (dTup aNil) (aCons (op2 gSub (op1 gNeg (cst (.int 1))) (rdv 4)) aNil)))))))))
    (zSeq (zFrz 6 (zSet 6 (cal 2 f__law_row [] (gFz (cal 2 f__law_cell [] (gFz (rdv 0) (gFz (cst (.int 3)) gNil))) (gFz (op2 gAdd (op2 gMul (dLst (aCons (rdv 2) aNil)) (op2 gMul (rdv 2) (rdv 3))) (op2 gMul (dLst (aCons (cst (.int 6)) aNil)) (rdv 2))) gNil)))))
    (zSeq (zFrz 7 (zSet 7 (lcS [8] (iR1 (rdv 2)) (gN 8) tYes' (slE (rdv 6) (poS (op2 gMul (rdv 8) (rdv 3))) (poS (op2 gAdd (op2 gMul (rdv 8) (rdv 3)) (rdv 3)))))))
    (zSeq (zFrz 9 (zSet 9 (lcS [10] (iAny (slE (rdv 6) (poS (op2 gMul (rdv 2) (rdv 3))) poN)) (gN 10) tYes' (ixv 5 (rdv 10)))))
    (zSeq (zFrz 11 (zSet 11 (dLst aNil)))
    (zSeq (zIf (tst (op2 gGt (rdv 3) (cst (.int 0)))) (zFrz 11 (zSet 11 (cal 2 f__law_row [] (gFz (cal 2 f__law_cell [] (gFz (rdv 0) (gFz (cst (.int 4)) gNil))) (gFz (op2 gMul (dLst (aCons (rdv 3) aNil)) (ixv 1 (cst (.int 3)))) gNil))))) zNil)
    (zRet (dLst (aCons (rdv 7) (aCons (rdv 9) (aCons (op2 gMod (opN (un1 gInt) (aCons (cal 2 f__law_cell [] (gFz (rdv 0) (gFz (cst (.int 5)) gNil))) aNil)) (rdv 2)) (aCons (rdv 11) aNil)))))))))))))
def b__law_built : Sm :=
    (zSeq (zSet 2 (op2 gAdd (cst (.int 1)) (ixv 1 (cst (.int 0)))))
    (zSeq (zSet 3 (ixv 1 (cst (.int 1))))
    (zSeq (zIf (tst (op2 gEq (ixv 1 (cst (.int 2))) (cst (.int 1)))) (zSeq (zSet 2 (op2 gAdd (cst (.int 59)) (op2 gMod (ixv 1 (cst (.int 0))) (cst (.int 3)))))
    (zSet 3 (op2 gMod (rdv 3) (cst (.int 3))))) zNil)
    t__law_built_3)))
def f__law_built : Fn := fnOf 12 b__law_built
abbrev s_law : Stmt := topS 88
def t_law_22 : Sm :=
    (zSeq (zFrz 19 (zSet 19 (cal 7 f__law_due [] (gFz (ixv 1 (cst (.int 8))) (gFz (rdv 5) (gFz (rdv 6) (gFz (rdv 7) (gFz (rdv 15) (gFz (rdv 16) (gFz (rdv 18) gNil))))))))))
    (zSeq (zIf (tst (op2 gNe (ixv 19 (cst (.int 0))) (cst (.str "ok")))) (zIf (tNot' (tst (cal 2 f__law_same [] (gFz (cal 7 f__law_refusal [] (gFz (ixv 1 (cst (.int 8))) (gFz (ixv 9 (cst (.int 0))) (gFz (ixv 9 (cst (.int 1))) (gFz (rdv 7) (gFz (rdv 15) (gFz (rdv 16) (gFz (rdv 18) gNil)))))))) (gFz (rdv 19) gNil))))) (zRet (cst (.bl false))) zNil) zNil)
    (zRet (vAnd (op2 gEq (lcS [10] (iAny (ixv 9 (cst (.int 0)))) (gN 10) tYes' (opN (un1 gList) (aCons (rdv 10) aNil))) (rdv 5)) (vAnd (op2 gEq (opN (un1 gList) (aCons (ixv 9 (cst (.int 1))) aNil)) (rdv 6)) (op2 gEq (opN (un1 gList) (aCons (ixv 9 (cst (.int 2))) aNil)) (rdv 8)))))))
def t_law_20 : Sm :=
    (zSeq (zSet 18 (cst (.int 0)))
    (zSeq (zIf (tAnd' (tst (op2 gGe (ixv 1 (cst (.int 11))) (cst (.int 4)))) (tst (op2 gGt (bor1 gLen 5) (cst (.int 0))))) (zFrz 18 (zSet 18 (cal 3 f__law_beyond [] (gFz (opN (un1 gLen) (aCons (ixv 5 (cst (.int 0))) aNil)) (gFz (op2 gSub (ixv 1 (cst (.int 11))) (cst (.int 4))) (gFz (rdv 3) gNil)))))) zNil)
    t_law_22))
def t_law_18 : Sm :=
    (zSeq (zSet 15 (op2 gIx (dLst (aCons (dLst (aCons (rdv 7) aNil)) (aCons (dLst aNil) (aCons (dLst (aCons (rdv 7) (aCons (rdv 7) aNil))) aNil)))) (ixv 1 (cst (.int 9)))))
    (zSeq (zFrz 16 (zSet 16 (lcS [17] (iR1 (op2 gIx (dLst (aCons (cst (.int 0)) (aCons (cst (.int 60)) (aCons (cst (.int 61)) (aCons (op2 gAdd (cst (.int 61)) (op2 gMod (rdv 3) (cst (.int 40)))) aNil))))) (ixv 1 (cst (.int 10))))) (gN 17) (tst (op2 gGt (bor1 gLen 6) (cst (.int 0)))) (ixv 6 (cst (.int 0))))))
    t_law_20))
def t_law_16 : Sm :=
    (zSeq (zIf (tNot' (tst (cal 2 f__law_same [] (gFz (cal 3 f__law_end_told [] (gFz (ixv 9 (cst (.int 0))) (gFz (rdv 7) (gFz (ixv 9 (cst (.int 2))) gNil)))) (gFz (rdv 12) gNil))))) (zRet (cst (.bl false))) zNil)
    (zSeq (zIf (tNot' (tst (cal 2 f__law_same [] (gFz (cal 4 f__law_looks_told [] (gFz (ixv 9 (cst (.int 0))) (gFz (ixv 9 (cst (.int 1))) (gFz (rdv 7) (gFz (ixv 9 (cst (.int 2))) gNil))))) (gFz (rdv 13) gNil))))) (zRet (cst (.bl false))) zNil)
    t_law_18))
def t_law_14 : Sm :=
    (zSeq (zIf (tst (op2 gEq (ixv 13 (cst (.int 0))) (cst (.str "ok")))) (zSet 13 (dTup (aCons (cst (.str "ok")) (aCons (opN (un1 gTuple) (aCons (lcS [14] (iAny (slE (ixv 12 (cst (.int 1))) (poS (cst (.int 1))) poN)) (gN 14) tYes' (ixv 6 (rdv 14))) aNil)) aNil)))) zNil)
    (zSeq (zIf (tst (op2 gEq (ixv 12 (cst (.int 0))) (cst (.str "ok")))) (zSet 12 (dTup (aCons (cst (.str "ok")) (aCons (op2 gIx (ixv 12 (cst (.int 1))) (op1 gNeg (cst (.int 1)))) aNil)))) zNil)
    t_law_16))
def t_law_11 : Sm :=
    (zSeq (zSet 12 (dTup (aCons (cst (.str "BadGraph")) (aCons (cst (.int 0)) aNil))))
    (zSeq (zSet 13 (rdv 12))
    (zSeq (zIf (tst (rdv 11)) (zSeq (zFrz 12 (zSet 12 (cal 3 f__law_walk [] (gFz (rdv 5) (gFz (rdv 7) (gFz (rdv 8) gNil))))))
    (zIf (tst (op2 gEq (bor1 gLen 6) (bor1 gLen 5))) (zSet 13 (rdv 12)) zNil)) zNil)
    t_law_14)))
def t_law_8 : Sm :=
    (zSeq (zIf (tst (op2 gEq (ixv 1 (cst (.int 4))) (cst (.int 1)))) (zFrz 9 (zSet 9 (dLst (aCons (opN (un1 gTuple) (aCons (lcS [10] (iAny (rdv 5)) (gN 10) tYes' (opN (un1 gTuple) (aCons (rdv 10) aNil))) aNil)) (aCons (opN (un1 gTuple) (aCons (rdv 6) aNil)) (aCons (opN (un1 gTuple) (aCons (rdv 8) aNil)) aNil)))))) zNil)
    (zSeq (zFrz 11 (zSet 11 (cal 1 f__law_right_moves [] (gFz (rdv 5) gNil))))
    (zSeq (zIf (tNot' (tst (cal 2 f__law_same [] (gFz (cal 2 f_is_machine [] (gFz (ixv 9 (cst (.int 0))) (gFz (ixv 9 (cst (.int 1))) gNil))) (gFz (vAnd (rdv 11) (op2 gEq (bor1 gLen 6) (bor1 gLen 5))) gNil))))) (zRet (cst (.bl false))) zNil)
    t_law_11)))
def t_law_6 : Sm :=
    (zSeq (zTg (gT [(gN 5), (gN 6), (gN 7), (gN 8)]) (rdv 4))
    (zSeq (zFrz 9 (zSet 9 (dLst (aCons (lcS [10] (iAny (rdv 5)) (gN 10) tYes' (opN (un1 gList) (aCons (rdv 10) aNil))) (aCons (opN (un1 gList) (aCons (rdv 6) aNil)) (aCons (opN (un1 gList) (aCons (rdv 8) aNil)) aNil))))))
    t_law_8))
def t_law_4 : Sm :=
    (zSeq (zIf (tst (op2 gGe (ixv 1 (cst (.int 5))) (cst (.int 3)))) (zFrz 4 (zSet 4 (cal 4 f__law_changed [] (gFz (rdv 4) (gFz (ixv 1 (cst (.int 6))) (gFz (slE (rdv 2) poN (poS (cst (.int 4)))) (gFz (rdv 3) gNil))))))) zNil)
    (zSeq (zIf (tst (op2 gEq (ixv 1 (cst (.int 5))) (cst (.int 5)))) (zFrz 4 (zSet 4 (cal 4 f__law_changed [] (gFz (rdv 4) (gFz (ixv 1 (cst (.int 7))) (gFz (slE (rdv 2) (poS (cst (.int 4))) poN) (gFz (rdv 3) gNil))))))) zNil)
    t_law_6))
def b_law : Sm :=
    (zSeq (zFrz 1 (zSet 1 (cal 2 f__law_row [] (gFz (cal 2 f__law_cell [] (gFz (rdv 0) (gFz (cst (.int 0)) gNil))) (gFz (dLst (aCons (cst (.int 6)) (aCons (cst (.int 8)) (aCons (cst (.int 8)) (aCons (cst (.int 14)) (aCons (cst (.int 2)) (aCons (cst (.int 6)) (aCons (cst (.int 9)) (aCons (cst (.int 9)) (aCons (cst (.int 18)) (aCons (cst (.int 3)) (aCons (cst (.int 4)) (aCons (cst (.int 8)) aNil))))))))))))) gNil)))))
    (zSeq (zFrz 2 (zSet 2 (cal 2 f__law_row [] (gFz (cal 2 f__law_cell [] (gFz (rdv 0) (gFz (cst (.int 1)) gNil))) (gFz (dLst (aCons (cst (.int 60)) (aCons (cst (.int 7)) (aCons (cst (.int 4)) (aCons (cst (.int 15)) (aCons (cst (.int 60)) (aCons (cst (.int 7)) (aCons (cst (.int 4)) (aCons (cst (.int 15)) aNil))))))))) gNil)))))
    (zSeq (zSet 3 (op2 gMod (opN (un1 gInt) (aCons (cal 2 f__law_cell [] (gFz (rdv 0) (gFz (cst (.int 2)) gNil))) aNil)) (op2 gPow (cst (.int 10)) (cst (.int 30)))))
    (zSeq (zFrz 4 (zSet 4 (cal 2 f__law_built [] (gFz (rdv 0) (gFz (rdv 1) gNil)))))
    t_law_4))))
def f_law : Fn := fnOf 20 b_law
section
variable {P : Program} {w : World} {K : PySem.W.Frag} {mg : Mg} {base : Heap}
theorem sc_is_integer : FnScope ["value"] ["value"] (defScope s_is_integer) := ⟨rfl, rfl, rfl, by decide +kernel, rfl, by decide +kernel, by decide +kernel⟩
theorem ok_is_integer (T : Txt mg) (hf : IsFn K mg "is_integer" s_is_integer)  : Def P w K mg base "is_integer" 1 1 [] f_is_integer := by
  refine def_ok (k := 0) (body := b_is_integer) hf sc_is_integer (fun _ _ _ _ _ _ us hl => match us, hl with | [_], _ => rfl) fun f cdv A outer s H E C => ?_
  exact (ss_one (ss_ret (se_and (se_isi (T := "int") (se_rdv 0) rfl T.b_isinstance rfl T.b_int (by decide +kernel)) (se_one (se_not (se_isi (T := "bool") (se_rdv 0) rfl T.b_isinstance rfl T.b_bool (by decide +kernel)))))))
theorem sc_is_index : FnScope ["value", "size"] ["value", "size"] (defScope s_is_index) := ⟨rfl, rfl, rfl, by decide +kernel, rfl, by decide +kernel, by decide +kernel⟩
theorem ok_is_index (T : Txt mg) (hf : IsFn K mg "is_index" s_is_index) (G_is_integer : Def P w K mg base "is_integer" 1 1 [] f_is_integer) : Def P w K mg base "is_index" 2 2 [] f_is_index := by
  refine def_ok (k := 1) (body := b_is_index) hf sc_is_index (fun _ _ _ _ _ _ us hl => match us, hl with | [_, _], _ => rfl) fun f cdv A outer s H E C => ?_
  exact (ss_one (ss_ret (se_and (se_call G_is_integer (C.hr.mono (by decide)) C.tk (sga_fz (se_rdv 0) sga_nil)) (se_one (se_chn op_le op_lt vr_cI vr_cI se_int (se_rdv 0) (se_rdv 1))))))
theorem sc_are_moves : FnScope ["moves", "size", "width", "row", "after"] ["moves"] (defScope s_are_moves) := ⟨rfl, rfl, rfl, by decide +kernel, rfl, by decide +kernel, by decide +kernel⟩
theorem ok_are_moves (T : Txt mg) (hf : IsFn K mg "are_moves" s_are_moves) (G_is_index : Def P w K mg base "is_index" 2 2 [] f_is_index) : Def P w K mg base "are_moves" 3 1 [] f_are_moves := by
  refine def_ok (k := 2) (body := b_are_moves) hf sc_are_moves (fun _ _ _ _ _ _ us hl => match us, hl with | [_], _ => rfl) fun f cdv A outer s H E C => ?_
  exact (ss_cons (ss_set 1 (se_borB 0 cLen vr_len rfl T.b_len (by decide +kernel)) C.nd)
    (ss_cons (ss_if (st_not (st_chn op_le op_le vr_cI vr_cI se_int (se_rdv 1) (se_globI T.c_MOST_RESTS))) (ss_one (ss_ret se_bl)) ss_nil)
    (ss_cons (ss_set 2 (se_callB cLen vr_len rfl T.b_len (by decide +kernel) (sa_cons (se_ixv 0 se_int) sa_nil)) C.nd)
    (ss_cons (ss_if (st_cmp op_gt vr_cI (se_rdv 2) (se_globI T.c_MOST_EVENTS)) (ss_one (ss_ret se_bl)) ss_nil)
    (ss_cons (ss_for (vs := [3]) (ws := [3, 4]) C.hp C.calm (si_any (se_rdv 0)) (sg_n 3 C.nd)
    (ss_cons (ss_if (st_cmp (oNe C.hu) vr_ne (se_borB 3 cLen vr_len rfl T.b_len (by decide +kernel)) (se_rdv 2)) (ss_one (ss_ret se_bl)) ss_nil)
    (ss_one (ss_for (vs := [4]) (ws := [4]) C.hp C.calm (si_any (se_rdv 3)) (sg_n 4 C.nd)
    (ss_one (ss_if (st_not (st_val (se_call G_is_index (C.hr.mono (by decide)) C.tk (sga_fz (se_rdv 4) (sga_fz (se_rdv 1) sga_nil))))) (ss_one (ss_ret se_bl)) ss_nil))))))
    (ss_one (ss_ret se_bl)))))))
theorem sc_is_look : FnScope ["look", "level"] ["look"] (defScope s_is_look) := ⟨rfl, rfl, rfl, by decide +kernel, rfl, by decide +kernel, by decide +kernel⟩
theorem ok_is_look (T : Txt mg) (hf : IsFn K mg "is_look" s_is_look) (G_is_integer : Def P w K mg base "is_integer" 1 1 [] f_is_integer) : Def P w K mg base "is_look" 2 1 [] f_is_look := by
  refine def_ok (k := 1) (body := b_is_look) hf sc_is_look (fun _ _ _ _ _ _ us hl => match us, hl with | [_], _ => rfl) fun f cdv A outer s H E C => ?_
  exact (ss_cons (ss_if (st_not (st_val (se_isi (T := "tuple") (se_rdv 0) rfl T.b_isinstance rfl T.b_tuple (by decide +kernel)))) (ss_one (ss_ret (se_or (se_isi (T := "str") (se_rdv 0) rfl T.b_isinstance rfl T.b_str (by decide +kernel)) (se_one (se_call G_is_integer (C.hr.mono (by decide)) C.tk (sga_fz (se_rdv 0) sga_nil)))))) ss_nil)
    (ss_cons (ss_for (vs := [1]) (ws := [1]) C.hp C.calm (si_any (se_rdv 0)) (sg_n 1 C.nd)
    (ss_one (ss_if (st_not (st_val (se_call G_is_integer (C.hr.mono (by decide)) C.tk (sga_fz (se_rdv 1) sga_nil)))) (ss_one (ss_ret se_bl)) ss_nil)))
    (ss_one (ss_ret se_bl))))
theorem sc_is_machine : FnScope ["moves", "looks", "look"] ["moves", "looks"] (defScope s_is_machine) := ⟨rfl, rfl, rfl, by decide +kernel, rfl, by decide +kernel, by decide +kernel⟩
theorem ok_is_machine (T : Txt mg) (hf : IsFn K mg "is_machine" s_is_machine) (G_are_moves : Def P w K mg base "are_moves" 3 1 [] f_are_moves) (G_is_look : Def P w K mg base "is_look" 2 1 [] f_is_look) : Def P w K mg base "is_machine" 4 2 [] f_is_machine := by
  refine def_ok (k := 3) (body := b_is_machine) hf sc_is_machine (fun _ _ _ _ _ _ us hl => match us, hl with | [_, _], _ => rfl) fun f cdv A outer s H E C => ?_
  exact (ss_cons (ss_if (st_w (sw_or (st_not (st_val (se_call G_are_moves (C.hr.mono (by decide)) C.tk (sga_fz (se_rdv 0) sga_nil)))) (sw_or1 (st_cmp (oNe C.hu) vr_ne (se_borB 1 cLen vr_len rfl T.b_len (by decide +kernel)) (se_borB 0 cLen vr_len rfl T.b_len (by decide +kernel)))))) (ss_one (ss_ret se_bl)) ss_nil)
    (ss_cons (ss_for (vs := [2]) (ws := [2]) C.hp C.calm (si_any (se_rdv 1)) (sg_n 2 C.nd)
    (ss_one (ss_if (st_not (st_val (se_call G_is_look (C.hr.mono (by decide)) C.tk (sga_fz (se_rdv 2) sga_nil)))) (ss_one (ss_ret se_bl)) ss_nil)))
    (ss_one (ss_ret se_bl))))
theorem sc__law_cell : FnScope ["script", "k"] ["script", "k"] (defScope s__law_cell) := ⟨rfl, rfl, rfl, by decide +kernel, rfl, by decide +kernel, by decide +kernel⟩
theorem ok__law_cell (T : Txt mg) (hf : IsFn K mg "_law_cell" s__law_cell)  : Def P w K mg base "_law_cell" 1 2 [] f__law_cell := by
  refine def_ok (k := 0) (body := b__law_cell) hf sc__law_cell (fun _ _ _ _ _ _ us hl => match us, hl with | [_, _], _ => rfl) fun f cdv A outer s H E C => ?_
  exact (ss_cons (ss_if (st_cmp op_lt vr_cI (se_rdv 1) (se_borB 0 cLen vr_len rfl T.b_len (by decide +kernel))) (ss_one (ss_ret (se_ixv 0 (se_rdv 1)))) ss_nil)
    (ss_one (ss_ret se_int)))
theorem sc__law_row : FnScope ["cell", "sizes", "rest", "mixed", "numbers", "size"] ["cell", "sizes"] (defScope s__law_row) := ⟨rfl, rfl, rfl, by decide +kernel, rfl, by decide +kernel, by decide +kernel⟩
theorem ok__law_row (T : Txt mg) (hf : IsFn K mg "_law_row" s__law_row)  : Def P w K mg base "_law_row" 1 2 [] f__law_row := by
  refine def_ok (k := 0) (body := b__law_row) hf sc__law_row (fun _ _ _ _ _ _ us hl => match us, hl with | [_, _], _ => rfl) fun f cdv A outer s H E C => ?_
  exact (ss_cons (ss_set 2 (se_rdv 0) C.nd)
    (ss_cons (ss_set 3 (se_op op_mod vr_mod (se_callTy call_int1 vr_int rfl T.b_int (by decide +kernel) (sa_cons (se_op oAdd vr_add (se_op oMul vr_mul (se_rdv 0) se_int) se_int) sa_nil)) se_int) C.nd)
    (ss_cons (ss_set 4 (se_lst sa_nil) C.nd)
    (ss_cons (ss_for (vs := [5]) (ws := [5]) C.hp C.calm (si_any (se_rdv 1)) (sg_n 5 C.nd)
    (ss_one (ss_if (st_cmp op_ge vr_cI (se_rdv 0) (se_op op_pow vr_pow se_int se_int)) (ss_cons (ss_app 4 (se_op op_mod vr_mod (se_callTy call_int1 vr_int rfl T.b_int (by decide +kernel) (sa_cons (se_rdv 2) sa_nil)) (se_rdv 5)))
    (ss_one (ss_set 2 (se_op op_fdivW vr_fdiv (se_rdv 2) (se_rdv 5)) C.nd))) (ss_cons (ss_set 3 (se_op op_mod vr_mod (se_callTy call_int1 vr_int rfl T.b_int (by decide +kernel) (sa_cons (se_op oAdd vr_add (se_op oMul vr_mul (se_rdv 3) se_int) se_int) sa_nil)) se_int) C.nd)
    (ss_one (ss_app 4 (se_op op_mod vr_mod (se_op op_fdivW vr_fdiv (se_rdv 3) se_int) (se_rdv 5))))))))
    (ss_one (ss_ret (se_mvv 4)))))))
theorem sc__law_is_integer : FnScope ["value"] ["value"] (defScope s__law_is_integer) := ⟨rfl, rfl, rfl, by decide +kernel, rfl, by decide +kernel, by decide +kernel⟩
theorem ok__law_is_integer (T : Txt mg) (hf : IsFn K mg "_law_is_integer" s__law_is_integer)  : Def P w K mg base "_law_is_integer" 1 1 [] f__law_is_integer := by
  refine def_ok (k := 0) (body := b__law_is_integer) hf sc__law_is_integer (fun _ _ _ _ _ _ us hl => match us, hl with | [_], _ => rfl) fun f cdv A outer s H E C => ?_
  exact (ss_one (ss_ret (se_and (se_isi (T := "int") (se_rdv 0) rfl T.b_isinstance rfl T.b_int (by decide +kernel)) (se_one (se_not (se_isi (T := "bool") (se_rdv 0) rfl T.b_isinstance rfl T.b_bool (by decide +kernel)))))))
theorem sc__law_same : FnScope ["actual", "expected", "k"] ["actual", "expected"] (defScope s__law_same) := ⟨rfl, rfl, rfl, by decide +kernel, rfl, by decide +kernel, by decide +kernel⟩
theorem ok__law_same (T : Txt mg) (hf : IsFn K mg "_law_same" s__law_same) (G__law_is_integer : Def P w K mg base "_law_is_integer" 1 1 [] f__law_is_integer) : Def P w K mg base "_law_same" 14 2 [] f__law_same := by
  refine def_okR (k := 1) (body := b__law_same) hf sc__law_same (fun _ _ _ _ _ _ us hl => match us, hl with | [_, _], _ => rfl) (fun n me Gme f cdv A outer s H E C => ?_) 12
  exact (ss_cons (ss_if (st_val (se_isi (T := "tuple") (se_rdv 1) rfl T.b_isinstance rfl T.b_tuple (by decide +kernel))) (ss_cons (ss_if (st_w (sw_or (st_not (st_val (se_isi (T := "tuple") (se_rdv 0) rfl T.b_isinstance rfl T.b_tuple (by decide +kernel)))) (sw_or1 (st_cmp (oNe C.hu) vr_ne (se_borB 0 cLen vr_len rfl T.b_len (by decide +kernel)) (se_borB 1 cLen vr_len rfl T.b_len (by decide +kernel)))))) (ss_one (ss_ret se_bl)) ss_nil)
    (ss_cons (ss_for (vs := [2]) (ws := [2]) C.hp C.calm (si_r1 (se_borB 1 cLen vr_len rfl T.b_len (by decide +kernel)) rfl T.b_range) (sg_n 2 C.nd)
    (ss_one (ss_if (st_not (st_val (se_call Gme C.hr C.tk (sga_fz (se_ixv 0 (se_rdv 2)) (sga_fz (se_ixv 1 (se_rdv 2)) sga_nil))))) (ss_one (ss_ret se_bl)) ss_nil)))
    (ss_one (ss_ret se_bl)))) ss_nil)
    (ss_cons (ss_if (st_cmp oIs vr_is (se_rdv 1) se_non) (ss_one (ss_ret (se_cmp oIs vr_is (se_rdv 0) se_non))) ss_nil)
    (ss_cons (ss_if (st_val (se_isi (T := "bool") (se_rdv 1) rfl T.b_isinstance rfl T.b_bool (by decide +kernel))) (ss_one (ss_ret (se_and (se_isi (T := "bool") (se_rdv 0) rfl T.b_isinstance rfl T.b_bool (by decide +kernel)) (se_one (se_cmp (oEq C.hu) vr_eq (se_rdv 0) (se_rdv 1)))))) ss_nil)
    (ss_cons (ss_if (st_val (se_isi (T := "str") (se_rdv 1) rfl T.b_isinstance rfl T.b_str (by decide +kernel))) (ss_one (ss_ret (se_and (se_isi (T := "str") (se_rdv 0) rfl T.b_isinstance rfl T.b_str (by decide +kernel)) (se_one (se_cmp (oEq C.hu) vr_eq (se_rdv 0) (se_rdv 1)))))) ss_nil)
    (ss_one (ss_ret (se_and (se_call G__law_is_integer (C.hr.mono (by omega)) C.tk (sga_fz (se_rdv 0) sga_nil)) (se_one (se_cmp (oEq C.hu) vr_eq (se_rdv 0) (se_rdv 1))))))))))
theorem sc__law_beyond : FnScope ["size", "turn", "far"] ["size", "turn", "far"] (defScope s__law_beyond) := ⟨rfl, rfl, rfl, by decide +kernel, rfl, by decide +kernel, by decide +kernel⟩
theorem ok__law_beyond (T : Txt mg) (hf : IsFn K mg "_law_beyond" s__law_beyond)  : Def P w K mg base "_law_beyond" 1 3 [] f__law_beyond := by
  refine def_ok (k := 0) (body := b__law_beyond) hf sc__law_beyond (fun _ _ _ _ _ _ us hl => match us, hl with | [_, _, _], _ => rfl) fun f cdv A outer s H E C => ?_
  exact (ss_one (ss_ret (se_ix (se_lst (sa_cons (se_rdv 0) (sa_cons (se_un un_neg vr_neg se_int) (sa_cons (se_op oAdd vr_add (se_rdv 0) (se_rdv 2)) (sa_cons (se_op op_sub vr_sub (se_un un_neg vr_neg se_int) (se_rdv 2)) sa_nil))))) (se_rdv 1))))
theorem sc__law_changed : FnScope ["things", "way", "picks", "far", "moves", "row", "looks", "start", "day", "width", "place"] ["things", "way", "picks", "far"] (defScope s__law_changed) := ⟨rfl, rfl, rfl, by decide +kernel, rfl, by decide +kernel, by decide +kernel⟩
theorem ok__law_changed (T : Txt mg) (hf : IsFn K mg "_law_changed" s__law_changed) (G__law_beyond : Def P w K mg base "_law_beyond" 1 3 [] f__law_beyond) : Def P w K mg base "_law_changed" 2 4 [] f__law_changed := by
  refine def_ok (k := 1) (body := b__law_changed) hf sc__law_changed (fun _ _ _ _ _ _ us hl => match us, hl with | [_, _, _, _], _ => rfl) fun f cdv A outer s H E C => ?_
  exact (ss_cons (ss_setLcO 1 4 (own := [("row", 5)]) C.calm C.nd rfl rfl (sw_true rfl rfl rfl (by decide +kernel)) (si_any (se_ixv 0 se_int)) (blkOk_by (by kernel_rfl)) (fun _ _ _ _ _ => (sg_n 5 C.nd)) (fun _ _ _ _ _ => st_yes) (fun _ _ _ _ _ => (se_callTy call_list_of vr_list rfl T.b_list (by decide +kernel) (sa_cons (se_rdv 5) sa_nil))))
    (ss_cons (ss_set 6 (se_callTy call_list_of vr_list rfl T.b_list (by decide +kernel) (sa_cons (se_ixv 0 se_int) sa_nil)) C.nd)
    (ss_cons (ss_set 7 (se_ixv 0 se_int) C.nd)
    (ss_cons (ss_set 8 (se_callTy call_list_of vr_list rfl T.b_list (by decide +kernel) (sa_cons (se_ixv 0 se_int) sa_nil)) C.nd)
    (ss_cons (ss_set 9 (se_pure se_int) C.nd)
    (ss_cons (ss_if (st_cmp op_gt vr_cI (se_borB 4 cLen vr_len rfl T.b_len (by decide +kernel)) se_int) (ss_cons (ss_set 10 (se_op op_mod vr_mod (se_ixv 2 se_int) (se_borB 4 cLen vr_len rfl T.b_len (by decide +kernel))) C.nd)
    (ss_cons (ss_set 9 (se_pure (se_callB cLen vr_len rfl T.b_len (by decide +kernel) (sa_cons (se_ixv 4 se_int) sa_nil))) C.nd)
    (ss_or (fun sd => isI 1 1 sd || isI 1 2 sd)
    (ss_aliNT 5 4 3 (by decide) C.nd (se_rdv 10) (fun Ln => (sst_cons (st_ifT (st_w (sw_and (st_cmp (oEq C.hu) vr_eq (se_rdv 1) se_int) (sw_and1 (st_cmp op_gt vr_cI (se_borB 5 cLen vr_len rfl T.b_len (by decide +kernel)) se_int)))) (sst_one (st_putT 5 (se_op op_mod vr_mod (se_ixv 2 se_int) (se_borB 5 cLen vr_len rfl T.b_len (by decide +kernel))) (se_callT G__law_beyond (C.hr.mono (by decide)) C.tk (sgt_len T.b_len (sga_fz (se_ixv 2 se_int) (sga_fz (se_rdv 3) sga_nil)))))) (sst_up ss_nil))
    (sst_cons (st_up (ss_if (st_cmp (oEq C.hu) vr_eq (se_rdv 1) se_int) (ss_one (ss_app 5 se_int)) ss_nil))
    (sst_one (st_up (ss_if (st_cmp (oEq C.hu) vr_eq (se_rdv 1) se_int) (ss_one (ss_cap 4 (ss_put 4 (se_rdv 10) (se_sl (se_rdv 5) so_none (so_some (se_un un_neg vr_neg se_int)))))) ss_nil)))))) ss_nil)
    (ss_cons (ss_set 5 (se_ixv 4 (se_rdv 10)) C.nd)
    (ss_cons (ss_if (st_w (sw_and (st_cmp (oEq C.hu) vr_eq (se_rdv 1) se_int) (sw_and1 (st_cmp op_gt vr_cI (se_borB 5 cLen vr_len rfl T.b_len (by decide +kernel)) se_int)))) (ss_one (ss_put 5 (se_op op_mod vr_mod (se_ixv 2 se_int) (se_borB 5 cLen vr_len rfl T.b_len (by decide +kernel))) (se_call G__law_beyond (C.hr.mono (by decide)) C.tk (sga_fz (se_borB 4 cLen vr_len rfl T.b_len (by decide +kernel)) (sga_fz (se_ixv 2 se_int) (sga_fz (se_rdv 3) sga_nil)))))) ss_nil)
    (ss_cons (ss_if (st_cmp (oEq C.hu) vr_eq (se_rdv 1) se_int) (ss_one (ss_app 5 se_int)) ss_nil)
    (ss_one (ss_if (st_cmp (oEq C.hu) vr_eq (se_rdv 1) se_int) (ss_one (ss_cap 4 (ss_put 4 (se_rdv 10) (se_sl (se_rdv 5) so_none (so_some (se_un un_neg vr_neg se_int)))))) ss_nil)))))))) ss_nil)
    (ss_cons (ss_if (st_cmp (oEq C.hu) vr_eq (se_rdv 1) se_int) (ss_one (ss_app 6 se_int)) ss_nil)
    (ss_cons (ss_if (st_cmp (oEq C.hu) vr_eq (se_rdv 1) se_int) (ss_one (ss_set 6 (se_sl (se_rdv 6) so_none (so_some (se_un un_neg vr_neg se_int))) C.nd)) ss_nil)
    (ss_cons (ss_if (st_cmp (oEq C.hu) vr_eq (se_rdv 1) se_int) (ss_cons (ss_set 4 (se_lst sa_nil) C.nd)
    (ss_one (ss_set 6 (se_lst sa_nil) C.nd))) ss_nil)
    (ss_cons (ss_if (st_cmp (oEq C.hu) vr_eq (se_rdv 1) se_int) (ss_one (ss_frz 7 (ss_set 7 (se_call G__law_beyond (C.hr.mono (by decide)) C.tk (sga_fz (se_borB 4 cLen vr_len rfl T.b_len (by decide +kernel)) (sga_fz (se_ixv 2 se_int) (sga_fz (se_rdv 3) sga_nil)))) C.nd))) ss_nil)
    (ss_cons (ss_if (st_cmp (oEq C.hu) vr_eq (se_rdv 1) se_int) (ss_one (ss_ins 8 (se_op op_mod vr_mod (se_ixv 2 se_int) (se_op oAdd vr_add (se_borB 8 cLen vr_len rfl T.b_len (by decide +kernel)) se_int)) (se_call G__law_beyond (C.hr.mono (by decide)) C.tk (sga_fz (se_rdv 9) (sga_fz (se_ixv 2 se_int) (sga_fz (se_rdv 3) sga_nil)))))) ss_nil)
    (ss_one (ss_ret (se_lst (sa_cons (se_rdv 4) (sa_cons (se_rdv 6) (sa_cons (se_rdv 7) (sa_cons (se_rdv 8) sa_nil))))))))))))))))))
theorem sc__law_right_moves : FnScope ["moves", "size", "row", "after"] ["moves"] (defScope s__law_right_moves) := ⟨rfl, rfl, rfl, by decide +kernel, rfl, by decide +kernel, by decide +kernel⟩
theorem ok__law_right_moves (T : Txt mg) (hf : IsFn K mg "_law_right_moves" s__law_right_moves)  : Def P w K mg base "_law_right_moves" 1 1 [] f__law_right_moves := by
  refine def_ok (k := 0) (body := b__law_right_moves) hf sc__law_right_moves (fun _ _ _ _ _ _ us hl => match us, hl with | [_], _ => rfl) fun f cdv A outer s H E C => ?_
  exact (ss_cons (ss_set 1 (se_borB 0 cLen vr_len rfl T.b_len (by decide +kernel)) C.nd)
    (ss_cons (ss_if (st_w (sw_or (st_cmp op_lt vr_cI (se_rdv 1) se_int) (sw_or (st_cmp op_gt vr_cI (se_rdv 1) se_int) (sw_or1 (st_cmp op_gt vr_cI (se_callB cLen vr_len rfl T.b_len (by decide +kernel) (sa_cons (se_ixv 0 se_int) sa_nil)) se_int))))) (ss_one (ss_ret se_bl)) ss_nil)
    (ss_cons (ss_for (vs := [2]) (ws := [2, 3]) C.hp C.calm (si_any (se_rdv 0)) (sg_n 2 C.nd)
    (ss_cons (ss_if (st_cmp (oNe C.hu) vr_ne (se_borB 2 cLen vr_len rfl T.b_len (by decide +kernel)) (se_callB cLen vr_len rfl T.b_len (by decide +kernel) (sa_cons (se_ixv 0 se_int) sa_nil))) (ss_one (ss_ret se_bl)) ss_nil)
    (ss_one (ss_for (vs := [3]) (ws := [3]) C.hp C.calm (si_any (se_rdv 2)) (sg_n 3 C.nd)
    (ss_one (ss_if (st_w (sw_or (st_cmp op_lt vr_cI (se_rdv 3) se_int) (sw_or1 (st_cmp op_ge vr_cI (se_rdv 3) (se_rdv 1))))) (ss_one (ss_ret se_bl)) ss_nil))))))
    (ss_one (ss_ret se_bl)))))
theorem sc__law_walk : FnScope ["moves", "start", "day", "rests", "event"] ["moves", "start", "day"] (defScope s__law_walk) := ⟨rfl, rfl, rfl, by decide +kernel, rfl, by decide +kernel, by decide +kernel⟩
theorem ok__law_walk (T : Txt mg) (hf : IsFn K mg "_law_walk" s__law_walk)  : Def P w K mg base "_law_walk" 1 3 [] f__law_walk := by
  refine def_ok (k := 0) (body := b__law_walk) hf sc__law_walk (fun _ _ _ _ _ _ us hl => match us, hl with | [_, _, _], _ => rfl) fun f cdv A outer s H E C => ?_
  exact (ss_cons (ss_if (st_w (sw_or (st_cmp op_lt vr_cI (se_rdv 1) se_int) (sw_or1 (st_cmp op_ge vr_cI (se_rdv 1) (se_borB 0 cLen vr_len rfl T.b_len (by decide +kernel)))))) (ss_one (ss_ret (se_tup (sa_cons se_str (sa_cons se_int sa_nil))))) ss_nil)
    (ss_cons (ss_set 3 (se_lst (sa_cons (se_rdv 1) sa_nil)) C.nd)
    (ss_cons (ss_for (vs := [4]) (ws := [4]) C.hp C.calm (si_any (se_rdv 2)) (sg_n 4 C.nd)
    (ss_cons (ss_if (st_w (sw_or (st_cmp op_lt vr_cI (se_rdv 4) se_int) (sw_or1 (st_cmp op_ge vr_cI (se_rdv 4) (se_callB cLen vr_len rfl T.b_len (by decide +kernel) (sa_cons (se_ixv 0 se_int) sa_nil)))))) (ss_one (ss_ret (se_tup (sa_cons se_str (sa_cons (se_rdv 4) sa_nil))))) ss_nil)
    (ss_one (ss_app 3 (se_ix (se_ixv 0 (se_ixv 3 (se_un un_neg vr_neg se_int))) (se_rdv 4))))))
    (ss_one (ss_ret (se_tup (sa_cons se_str (sa_cons (se_callTy call_tuple_of vr_tuple rfl T.b_tuple (by decide +kernel) (sa_cons (se_rdv 3) sa_nil)) sa_nil))))))))
theorem sc_demand_rest : FnScope ["moves", "rest"] ["moves", "rest"] (defScope s_demand_rest) := ⟨rfl, rfl, rfl, by decide +kernel, rfl, by decide +kernel, by decide +kernel⟩
theorem ok_demand_rest (T : Txt mg) (hf : IsFn K mg "demand_rest" s_demand_rest) (G_is_index : Def P w K mg base "is_index" 2 2 [] f_is_index) (R_BadOrder : XRaise K mg "BadOrder") : Def P w K mg base "demand_rest" 3 2 [] f_demand_rest := by
  refine def_ok (k := 2) (body := b_demand_rest) hf sc_demand_rest (fun _ _ _ _ _ _ us hl => match us, hl with | [_, _], _ => rfl) fun f cdv A outer s H E C => ?_
  exact (ss_one (ss_if (st_not (st_val (se_call G_is_index (C.hr.mono (by decide)) C.tk (sga_fz (se_rdv 1) (sga_fz (se_borB 0 cLen vr_len rfl T.b_len (by decide +kernel)) sga_nil))))) (ss_one (ss_rs R_BadOrder C.calm C.tk)) ss_nil))
theorem sc_demand_event : FnScope ["moves", "event"] ["moves", "event"] (defScope s_demand_event) := ⟨rfl, rfl, rfl, by decide +kernel, rfl, by decide +kernel, by decide +kernel⟩
theorem ok_demand_event (T : Txt mg) (hf : IsFn K mg "demand_event" s_demand_event) (G_is_index : Def P w K mg base "is_index" 2 2 [] f_is_index) (RF_BadEvent : XRaiseF P K mg "BadEvent" "index") : Def P w K mg base "demand_event" 3 2 [] f_demand_event := by
  refine def_ok (k := 2) (body := b_demand_event) hf sc_demand_event (fun _ _ _ _ _ _ us hl => match us, hl with | [_, _], _ => rfl) fun f cdv A outer s H E C => ?_
  exact (ss_one (ss_if (st_not (st_val (se_call G_is_index (C.hr.mono (by decide)) C.tk (sga_fz (se_rdv 1) (sga_fz (se_callB cLen vr_len rfl T.b_len (by decide +kernel) (sa_cons (se_ixv 0 se_int) sa_nil)) sga_nil))))) (ss_one (ss_rsF RF_BadEvent C.calm C.tk C.hr (se_rdv 1))) ss_nil))
theorem sc_rests_of_day : FnScope ["moves", "start", "day", "rests", "event"] ["moves", "start", "day"] (defScope s_rests_of_day) := ⟨rfl, rfl, rfl, by decide +kernel, rfl, by decide +kernel, by decide +kernel⟩
theorem ok_rests_of_day (T : Txt mg) (hf : IsFn K mg "rests_of_day" s_rests_of_day) (G_demand_event : Def P w K mg base "demand_event" 3 2 [] f_demand_event) : Def P w K mg base "rests_of_day" 4 3 [] f_rests_of_day := by
  refine def_ok (k := 3) (body := b_rests_of_day) hf sc_rests_of_day (fun _ _ _ _ _ _ us hl => match us, hl with | [_, _, _], _ => rfl) fun f cdv A outer s H E C => ?_
  exact (ss_cons (ss_set 3 (se_lst (sa_cons (se_rdv 1) sa_nil)) C.nd)
    (ss_cons (ss_for (vs := [4]) (ws := [4]) C.hp C.calm (si_any (se_rdv 2)) (sg_n 4 C.nd)
    (ss_cons (ss_drop (se_call G_demand_event (C.hr.mono (by decide)) C.tk (sga_fz (se_rdv 0) (sga_fz (se_rdv 4) sga_nil))))
    (ss_one (ss_app 3 (se_ix (se_ixv 0 (se_ixv 3 (se_un un_neg vr_neg se_int))) (se_rdv 4))))))
    (ss_one (ss_ret (se_mvv 3)))))
theorem sc_day_end : FnScope ["moves", "start", "day"] ["moves", "start", "day"] (defScope s_day_end) := ⟨rfl, rfl, rfl, by decide +kernel, rfl, by decide +kernel, by decide +kernel⟩
theorem ok_day_end (T : Txt mg) (hf : IsFn K mg "day_end" s_day_end) (G_are_moves : Def P w K mg base "are_moves" 3 1 [] f_are_moves) (G_demand_rest : Def P w K mg base "demand_rest" 3 2 [] f_demand_rest) (G_rests_of_day : Def P w K mg base "rests_of_day" 4 3 [] f_rests_of_day) (R_BadGraph : XRaise K mg "BadGraph") : Def P w K mg base "day_end" 5 3 [] f_day_end := by
  refine def_ok (k := 4) (body := b_day_end) hf sc_day_end (fun _ _ _ _ _ _ us hl => match us, hl with | [_, _, _], _ => rfl) fun f cdv A outer s H E C => ?_
  exact (ss_cons (ss_if (st_not (st_val (se_call G_are_moves (C.hr.mono (by decide)) C.tk (sga_fz (se_rdv 0) sga_nil)))) (ss_one (ss_rs R_BadGraph C.calm C.tk)) ss_nil)
    (ss_cons (ss_drop (se_call G_demand_rest (C.hr.mono (by decide)) C.tk (sga_fz (se_rdv 0) (sga_fz (se_rdv 1) sga_nil))))
    (ss_one (ss_ret (se_ix (se_call G_rests_of_day (C.hr.mono (by decide)) C.tk (sga_fz (se_rdv 0) (sga_fz (se_rdv 1) (sga_fz (se_rdv 2) sga_nil)))) (se_un un_neg vr_neg se_int))))))
theorem sc__law_told : FnScope ["e", "word", "number", "classes"] ["e", "word", "number"] (defScope s__law_told) := ⟨rfl, rfl, rfl, by decide +kernel, rfl, by decide +kernel, by decide +kernel⟩
theorem ok__law_told (T : Txt mg) (hf : IsFn K mg "_law_told" s__law_told) (IS_BadGraph : IsN K mg "BadGraph" [("BadEvent", false), ("BadOrder", false), ("BadLog", false), ("BadGraph", true), ("TooMany", false)]) (IS_BadOrder : IsN K mg "BadOrder" [("BadEvent", false), ("BadOrder", true), ("BadLog", false), ("BadGraph", false), ("TooMany", false)]) (IS_TooMany : IsN K mg "TooMany" [("BadEvent", false), ("BadOrder", false), ("BadLog", false), ("BadGraph", false), ("TooMany", true)]) (IS_BadEvent : IsN K mg "BadEvent" [("BadEvent", true), ("BadOrder", false), ("BadLog", false), ("BadGraph", false), ("TooMany", false)]) (IS_HouseError : IsN K mg "HouseError" [("BadEvent", true), ("BadOrder", true), ("BadLog", true), ("BadGraph", true), ("TooMany", true)]) (IS_ValueError : IsN K mg "ValueError" [("BadEvent", true), ("BadOrder", true), ("BadLog", true), ("BadGraph", true), ("TooMany", true)]) : Def P w K mg base "_law_told" 1 3 [] f__law_told := by
  refine def_ok (k := 0) (body := b__law_told) hf sc__law_told (fun _ _ _ _ _ _ us hl => match us, hl with | [_, _, _], _ => rfl) fun f cdv A outer s H E C => ?_
  exact (ss_cons (ss_frz 3 (ss_set 3 (se_lst (sa_cons (se_isN (se_rdv 0) T.b_isinstance IS_BadGraph) (sa_cons (se_isN (se_rdv 0) T.b_isinstance IS_BadOrder) (sa_cons (se_isN (se_rdv 0) T.b_isinstance IS_TooMany) (sa_cons (se_isN (se_rdv 0) T.b_isinstance IS_BadEvent) sa_nil))))) C.nd))
    (ss_cons (ss_if (st_w (sw_or (st_cmp (oNe C.hu) vr_ne (se_count 3 C.hu65 se_bl) se_int) (sw_or (st_not (st_val (se_isN (se_rdv 0) T.b_isinstance IS_HouseError))) (sw_or1 (st_not (st_val (se_isN (se_rdv 0) T.b_isinstance IS_ValueError))))))) (ss_one (ss_ret (se_tup (sa_cons se_str (sa_cons se_int sa_nil))))) ss_nil)
    (ss_one (ss_ret (se_tup (sa_cons (se_rdv 1) (sa_cons (se_rdv 2) sa_nil)))))))
theorem okU__law_told (T : Txt mg) (hf : IsFn K mg "_law_told" s__law_told) (IS_BadGraph : IsN K mg "BadGraph" [("BadEvent", false), ("BadOrder", false), ("BadLog", false), ("BadGraph", true), ("TooMany", false)]) (IS_BadOrder : IsN K mg "BadOrder" [("BadEvent", false), ("BadOrder", true), ("BadLog", false), ("BadGraph", false), ("TooMany", false)]) (IS_TooMany : IsN K mg "TooMany" [("BadEvent", false), ("BadOrder", false), ("BadLog", false), ("BadGraph", false), ("TooMany", true)]) (IS_BadEvent : IsN K mg "BadEvent" [("BadEvent", true), ("BadOrder", false), ("BadLog", false), ("BadGraph", false), ("TooMany", false)]) (IS_HouseError : IsN K mg "HouseError" [("BadEvent", true), ("BadOrder", true), ("BadLog", true), ("BadGraph", true), ("TooMany", true)]) (IS_ValueError : IsN K mg "ValueError" [("BadEvent", true), ("BadOrder", true), ("BadLog", true), ("BadGraph", true), ("TooMany", true)]) : DefU P w K mg base "_law_told" 1 3 f__law_told := by
  refine defU_ok (k := 0) (body := b__law_told) hf sc__law_told (fun _ _ _ _ _ _ us hl => match us, hl with | [_, _, _], _ => rfl) fun f cdv A outer s H C => ?_
  exact (ss_cons (ss_frz 3 (ss_set 3 (se_lst (sa_cons (se_isN (se_rdv 0) T.b_isinstance IS_BadGraph) (sa_cons (se_isN (se_rdv 0) T.b_isinstance IS_BadOrder) (sa_cons (se_isN (se_rdv 0) T.b_isinstance IS_TooMany) (sa_cons (se_isN (se_rdv 0) T.b_isinstance IS_BadEvent) sa_nil))))) C.nd))
    (ss_cons (ss_if (st_w (sw_or (st_cmp (oNe C.hu) vr_ne (se_count 3 C.hu65 se_bl) se_int) (sw_or (st_not (st_val (se_isN (se_rdv 0) T.b_isinstance IS_HouseError))) (sw_or1 (st_not (st_val (se_isN (se_rdv 0) T.b_isinstance IS_ValueError))))))) (ss_one (ss_ret (se_tup (sa_cons se_str (sa_cons se_int sa_nil))))) ss_nil)
    (ss_one (ss_ret (se_tup (sa_cons (se_rdv 1) (sa_cons (se_rdv 2) sa_nil)))))))
theorem sc__law_end_told : FnScope ["moves", "start", "day", "found", "e"] ["moves", "start", "day"] (defScope s__law_end_told) := ⟨rfl, rfl, rfl, by decide +kernel, rfl, by decide +kernel, by decide +kernel⟩
theorem ok__law_end_told (T : Txt mg) (hf : IsFn K mg "_law_end_told" s__law_end_told) (G_day_end : Def P w K mg base "day_end" 5 3 [] f_day_end) (G__law_told : Def P w K mg base "_law_told" 1 3 [] f__law_told) (EX_BadGraph : ExN K mg "BadGraph" [("BadEvent", false), ("BadOrder", false), ("BadLog", false), ("BadGraph", true), ("TooMany", false)]) (EX_BadOrder : ExN K mg "BadOrder" [("BadEvent", false), ("BadOrder", true), ("BadLog", false), ("BadGraph", false), ("TooMany", false)]) (EX_BadEvent : ExN K mg "BadEvent" [("BadEvent", true), ("BadOrder", false), ("BadLog", false), ("BadGraph", false), ("TooMany", false)]) (FL_index : FldIs K "index" ["BadEvent"]) (U__law_told : DefU P w K mg base "_law_told" 1 3 f__law_told) : Def P w K mg base "_law_end_told" 6 3 [] f__law_end_told := by
  refine def_ok (k := 5) (body := b__law_end_told) hf sc__law_end_told (fun _ _ _ _ _ _ us hl => match us, hl with | [_, _, _], _ => rfl) fun f cdv A outer s H E C => ?_
  exact (ss_cons (ss_tryE C rfl rfl rfl (fun W' pn xe C => (ss_one (ss_frz 3 (ss_set 3 (se_call G_day_end (C.hr.mono (by decide)) C.tk (sga_fz (se_rdv 0) (sga_fz (se_rdv 1) (sga_fz (se_rdv 2) sga_nil)))) C.nd)))) (hd_as 4 EX_BadGraph (fun a pn => (have C := C.suite a pn; (ss_one (ss_ret (se_callU U__law_told (C.hr.mono (by decide)) (sga_fz (se_rdv 4) (sga_fz se_str (sga_fz se_int sga_nil)))))))) (hd_as 4 EX_BadOrder (fun a pn => (have C := C.suite a pn; (ss_one (ss_ret (se_callU U__law_told (C.hr.mono (by decide)) (sga_fz (se_rdv 4) (sga_fz se_str (sga_fz se_int sga_nil)))))))) (hd_as 4 EX_BadEvent (fun a pn => (have C := C.suite a pn; (ss_one (ss_ret (se_callU U__law_told (C.hr.mono (by decide)) (sga_fz (se_rdv 4) (sga_fz se_str (sga_fz (se_fld (se_rdv 4) FL_index) sga_nil)))))))) hd_nil))))
    (ss_one (ss_ret (se_tup (sa_cons se_str (sa_cons (se_rdv 3) sa_nil))))))
theorem sc_demand_machine : FnScope ["moves", "looks"] ["moves", "looks"] (defScope s_demand_machine) := ⟨rfl, rfl, rfl, by decide +kernel, rfl, by decide +kernel, by decide +kernel⟩
theorem ok_demand_machine (T : Txt mg) (hf : IsFn K mg "demand_machine" s_demand_machine) (G_is_machine : Def P w K mg base "is_machine" 4 2 [] f_is_machine) (R_BadGraph : XRaise K mg "BadGraph") : Def P w K mg base "demand_machine" 5 2 [] f_demand_machine := by
  refine def_ok (k := 4) (body := b_demand_machine) hf sc_demand_machine (fun _ _ _ _ _ _ us hl => match us, hl with | [_, _], _ => rfl) fun f cdv A outer s H E C => ?_
  exact (ss_one (ss_if (st_not (st_val (se_call G_is_machine (C.hr.mono (by decide)) C.tk (sga_fz (se_rdv 0) (sga_fz (se_rdv 1) sga_nil))))) (ss_one (ss_rs R_BadGraph C.calm C.tk)) ss_nil))
theorem sc_day_looks : FnScope ["moves", "looks", "start", "day", "rest"] ["moves", "looks", "start", "day"] (defScope s_day_looks) := ⟨rfl, rfl, rfl, by decide +kernel, rfl, by decide +kernel, by decide +kernel⟩
theorem ok_day_looks (T : Txt mg) (hf : IsFn K mg "day_looks" s_day_looks) (G_demand_rest : Def P w K mg base "demand_rest" 3 2 [] f_demand_rest) (G_rests_of_day : Def P w K mg base "rests_of_day" 4 3 [] f_rests_of_day) (G_demand_machine : Def P w K mg base "demand_machine" 5 2 [] f_demand_machine) : Def P w K mg base "day_looks" 6 4 [] f_day_looks := by
  refine def_ok (k := 5) (body := b_day_looks) hf sc_day_looks (fun _ _ _ _ _ _ us hl => match us, hl with | [_, _, _, _], _ => rfl) fun f cdv A outer s H E C => ?_
  exact (ss_cons (ss_drop (se_call G_demand_machine (C.hr.mono (by decide)) C.tk (sga_fz (se_rdv 0) (sga_fz (se_rdv 1) sga_nil))))
    (ss_cons (ss_drop (se_call G_demand_rest (C.hr.mono (by decide)) C.tk (sga_fz (se_rdv 0) (sga_fz (se_rdv 2) sga_nil))))
    (ss_one (ss_ret (se_callTy call_tuple_of vr_tuple rfl T.b_tuple (by decide +kernel) (sa_cons (se_lc (own := [("rest", 4)]) C.calm C.nd (si_any (se_sl (se_call G_rests_of_day (C.hr.mono (by decide)) C.tk (sga_fz (se_rdv 0) (sga_fz (se_rdv 2) (sga_fz (se_rdv 3) sga_nil)))) (so_some se_int) so_none)) (blkOk_by (by kernel_rfl)) (fun _ _ _ _ _ => (sg_n 4 C.nd)) (fun _ _ _ _ _ => st_yes) (fun _ _ _ _ _ => (se_ixv 1 (se_rdv 4)))) sa_nil))))))
theorem sc__law_looks_told : FnScope ["moves", "looks", "start", "day", "found", "e"] ["moves", "looks", "start", "day"] (defScope s__law_looks_told) := ⟨rfl, rfl, rfl, by decide +kernel, rfl, by decide +kernel, by decide +kernel⟩
theorem ok__law_looks_told (T : Txt mg) (hf : IsFn K mg "_law_looks_told" s__law_looks_told) (G__law_told : Def P w K mg base "_law_told" 1 3 [] f__law_told) (G_day_looks : Def P w K mg base "day_looks" 6 4 [] f_day_looks) (EX_BadGraph : ExN K mg "BadGraph" [("BadEvent", false), ("BadOrder", false), ("BadLog", false), ("BadGraph", true), ("TooMany", false)]) (EX_BadOrder : ExN K mg "BadOrder" [("BadEvent", false), ("BadOrder", true), ("BadLog", false), ("BadGraph", false), ("TooMany", false)]) (EX_BadEvent : ExN K mg "BadEvent" [("BadEvent", true), ("BadOrder", false), ("BadLog", false), ("BadGraph", false), ("TooMany", false)]) (FL_index : FldIs K "index" ["BadEvent"]) (U__law_told : DefU P w K mg base "_law_told" 1 3 f__law_told) : Def P w K mg base "_law_looks_told" 7 4 [] f__law_looks_told := by
  refine def_ok (k := 6) (body := b__law_looks_told) hf sc__law_looks_told (fun _ _ _ _ _ _ us hl => match us, hl with | [_, _, _, _], _ => rfl) fun f cdv A outer s H E C => ?_
  exact (ss_cons (ss_tryE C rfl rfl rfl (fun W' pn xe C => (ss_one (ss_frz 4 (ss_set 4 (se_call G_day_looks (C.hr.mono (by decide)) C.tk (sga_fz (se_rdv 0) (sga_fz (se_rdv 1) (sga_fz (se_rdv 2) (sga_fz (se_rdv 3) sga_nil))))) C.nd)))) (hd_as 5 EX_BadGraph (fun a pn => (have C := C.suite a pn; (ss_one (ss_ret (se_callU U__law_told (C.hr.mono (by decide)) (sga_fz (se_rdv 5) (sga_fz se_str (sga_fz se_int sga_nil)))))))) (hd_as 5 EX_BadOrder (fun a pn => (have C := C.suite a pn; (ss_one (ss_ret (se_callU U__law_told (C.hr.mono (by decide)) (sga_fz (se_rdv 5) (sga_fz se_str (sga_fz se_int sga_nil)))))))) (hd_as 5 EX_BadEvent (fun a pn => (have C := C.suite a pn; (ss_one (ss_ret (se_callU U__law_told (C.hr.mono (by decide)) (sga_fz (se_rdv 5) (sga_fz se_str (sga_fz (se_fld (se_rdv 5) FL_index) sga_nil)))))))) hd_nil))))
    (ss_one (ss_ret (se_tup (sa_cons se_str (sa_cons (se_rdv 4) sa_nil))))))
theorem sc_alike_groups : FnScope ["moves", "looks"] ["moves", "looks"] (defScope s_alike_groups) := ⟨rfl, rfl, rfl, by decide +kernel, rfl, by decide +kernel, by decide +kernel⟩
theorem ok_alike_groups (T : Txt mg) (hf : IsFn K mg "alike_groups" s_alike_groups) (G_demand_machine : Def P w K mg base "demand_machine" 5 2 [] f_demand_machine) : Def P w K mg base "alike_groups" 6 2 [] f_alike_groups := by
  refine def_ok (k := 5) (body := b_alike_groups) hf sc_alike_groups (fun _ _ _ _ _ _ us hl => match us, hl with | [_, _], _ => rfl) fun f cdv A outer s H E C => ?_
  exact (ss_cons (ss_drop (se_call G_demand_machine (C.hr.mono (by decide)) C.tk (sga_fz (se_rdv 0) (sga_fz (se_rdv 1) sga_nil))))
    ss_stuckAll)
theorem sc_telling_day : FnScope ["moves", "looks", "first", "second"] ["moves", "looks", "first", "second"] (defScope s_telling_day) := ⟨rfl, rfl, rfl, by decide +kernel, rfl, by decide +kernel, by decide +kernel⟩
theorem ok_telling_day (T : Txt mg) (hf : IsFn K mg "telling_day" s_telling_day) (G_demand_rest : Def P w K mg base "demand_rest" 3 2 [] f_demand_rest) (G_demand_machine : Def P w K mg base "demand_machine" 5 2 [] f_demand_machine) : Def P w K mg base "telling_day" 6 4 [] f_telling_day := by
  refine def_ok (k := 5) (body := b_telling_day) hf sc_telling_day (fun _ _ _ _ _ _ us hl => match us, hl with | [_, _, _, _], _ => rfl) fun f cdv A outer s H E C => ?_
  exact (ss_cons (ss_drop (se_call G_demand_machine (C.hr.mono (by decide)) C.tk (sga_fz (se_rdv 0) (sga_fz (se_rdv 1) sga_nil))))
    (ss_cons (ss_drop (se_call G_demand_rest (C.hr.mono (by decide)) C.tk (sga_fz (se_rdv 0) (sga_fz (se_rdv 2) sga_nil))))
    (ss_cons (ss_drop (se_call G_demand_rest (C.hr.mono (by decide)) C.tk (sga_fz (se_rdv 0) (sga_fz (se_rdv 3) sga_nil))))
    ss_stuckAll)))
theorem sc_are_ascending : FnScope ["row", "size", "last", "value"] ["row", "size"] (defScope s_are_ascending) := ⟨rfl, rfl, rfl, by decide +kernel, rfl, by decide +kernel, by decide +kernel⟩
theorem ok_are_ascending (T : Txt mg) (hf : IsFn K mg "are_ascending" s_are_ascending) (G_is_index : Def P w K mg base "is_index" 2 2 [] f_is_index) : Def P w K mg base "are_ascending" 3 2 [] f_are_ascending := by
  refine def_ok (k := 2) (body := b_are_ascending) hf sc_are_ascending (fun _ _ _ _ _ _ us hl => match us, hl with | [_, _], _ => rfl) fun f cdv A outer s H E C => ?_
  exact (ss_cons (ss_set 2 (se_un un_neg vr_neg se_int) C.nd)
    (ss_cons (ss_for (vs := [3]) (ws := [3]) C.hp C.calm (si_any (se_rdv 0)) (sg_n 3 C.nd)
    (ss_cons (ss_if (st_w (sw_or (st_not (st_val (se_call G_is_index (C.hr.mono (by decide)) C.tk (sga_fz (se_rdv 3) (sga_fz (se_rdv 1) sga_nil))))) (sw_or1 (st_cmp op_le vr_cI (se_rdv 3) (se_rdv 2))))) (ss_one (ss_ret se_bl)) ss_nil)
    (ss_one (ss_set 2 (se_rdv 3) C.nd))))
    (ss_one (ss_ret se_bl))))
theorem sc_demand_starts : FnScope ["moves", "starts"] ["moves", "starts"] (defScope s_demand_starts) := ⟨rfl, rfl, rfl, by decide +kernel, rfl, by decide +kernel, by decide +kernel⟩
theorem ok_demand_starts (T : Txt mg) (hf : IsFn K mg "demand_starts" s_demand_starts) (G_are_ascending : Def P w K mg base "are_ascending" 3 2 [] f_are_ascending) (R_BadOrder : XRaise K mg "BadOrder") : Def P w K mg base "demand_starts" 4 2 [] f_demand_starts := by
  refine def_ok (k := 3) (body := b_demand_starts) hf sc_demand_starts (fun _ _ _ _ _ _ us hl => match us, hl with | [_, _], _ => rfl) fun f cdv A outer s H E C => ?_
  exact (ss_one (ss_if (st_w (sw_or (st_cmp (oEq C.hu) vr_eq (se_borB 1 cLen vr_len rfl T.b_len (by decide +kernel)) se_int) (sw_or1 (st_not (st_val (se_call G_are_ascending (C.hr.mono (by decide)) C.tk (sga_fz (se_rdv 1) (sga_fz (se_borB 0 cLen vr_len rfl T.b_len (by decide +kernel)) sga_nil)))))))) (ss_one (ss_rs R_BadOrder C.calm C.tk)) ss_nil))
theorem sc_demand_seen : FnScope ["seen"] ["seen"] (defScope s_demand_seen) := ⟨rfl, rfl, rfl, by decide +kernel, rfl, by decide +kernel, by decide +kernel⟩
theorem ok_demand_seen (T : Txt mg) (hf : IsFn K mg "demand_seen" s_demand_seen) (RF_TooMany : XRaiseF P K mg "TooMany" "limit") : Def P w K mg base "demand_seen" 1 1 [] f_demand_seen := by
  refine def_ok (k := 0) (body := b_demand_seen) hf sc_demand_seen (fun _ _ _ _ _ _ us hl => match us, hl with | [_], _ => rfl) fun f cdv A outer s H E C => ?_
  exact (ss_one (ss_if (st_cmp op_gt vr_cI (se_borB 0 cLen vr_len rfl T.b_len (by decide +kernel)) (se_globI T.c_MOST_CLICKS)) (ss_one (ss_rsF RF_TooMany C.calm C.tk C.hr (se_globI T.c_MOST_CLICKS))) ss_nil))
theorem sc_beliefs : FnScope ["moves", "looks", "starts", "seen"] ["moves", "looks", "starts", "seen"] (defScope s_beliefs) := ⟨rfl, rfl, rfl, by decide +kernel, rfl, by decide +kernel, by decide +kernel⟩
theorem ok_beliefs (T : Txt mg) (hf : IsFn K mg "beliefs" s_beliefs) (G_demand_machine : Def P w K mg base "demand_machine" 5 2 [] f_demand_machine) (G_demand_starts : Def P w K mg base "demand_starts" 4 2 [] f_demand_starts) (G_demand_seen : Def P w K mg base "demand_seen" 1 1 [] f_demand_seen) : Def P w K mg base "beliefs" 6 4 [] f_beliefs := by
  refine def_ok (k := 5) (body := b_beliefs) hf sc_beliefs (fun _ _ _ _ _ _ us hl => match us, hl with | [_, _, _, _], _ => rfl) fun f cdv A outer s H E C => ?_
  exact (ss_cons (ss_drop (se_call G_demand_machine (C.hr.mono (by decide)) C.tk (sga_fz (se_rdv 0) (sga_fz (se_rdv 1) sga_nil))))
    (ss_cons (ss_drop (se_call G_demand_starts (C.hr.mono (by decide)) C.tk (sga_fz (se_rdv 0) (sga_fz (se_rdv 2) sga_nil))))
    (ss_cons (ss_drop (se_call G_demand_seen (C.hr.mono (by decide)) C.tk (sga_fz (se_rdv 3) sga_nil)))
    ss_stuckAll)))
theorem sc_fits_day : FnScope ["moves", "looks", "start", "day", "seen"] ["moves", "looks", "start", "day", "seen"] (defScope s_fits_day) := ⟨rfl, rfl, rfl, by decide +kernel, rfl, by decide +kernel, by decide +kernel⟩
theorem ok_fits_day (T : Txt mg) (hf : IsFn K mg "fits_day" s_fits_day) (G_demand_rest : Def P w K mg base "demand_rest" 3 2 [] f_demand_rest) (G_demand_machine : Def P w K mg base "demand_machine" 5 2 [] f_demand_machine) (G_demand_seen : Def P w K mg base "demand_seen" 1 1 [] f_demand_seen) : Def P w K mg base "fits_day" 6 5 [] f_fits_day := by
  refine def_ok (k := 5) (body := b_fits_day) hf sc_fits_day (fun _ _ _ _ _ _ us hl => match us, hl with | [_, _, _, _, _], _ => rfl) fun f cdv A outer s H E C => ?_
  exact (ss_cons (ss_drop (se_call G_demand_machine (C.hr.mono (by decide)) C.tk (sga_fz (se_rdv 0) (sga_fz (se_rdv 1) sga_nil))))
    (ss_cons (ss_drop (se_call G_demand_rest (C.hr.mono (by decide)) C.tk (sga_fz (se_rdv 0) (sga_fz (se_rdv 2) sga_nil))))
    (ss_cons (ss_drop (se_call G_demand_seen (C.hr.mono (by decide)) C.tk (sga_fz (se_rdv 4) sga_nil)))
    ss_stuckAll)))
theorem sc_first_day : FnScope ["moves", "looks", "starts", "seen"] ["moves", "looks", "starts", "seen"] (defScope s_first_day) := ⟨rfl, rfl, rfl, by decide +kernel, rfl, by decide +kernel, by decide +kernel⟩
theorem ok_first_day (T : Txt mg) (hf : IsFn K mg "first_day" s_first_day) (G_demand_machine : Def P w K mg base "demand_machine" 5 2 [] f_demand_machine) (G_demand_starts : Def P w K mg base "demand_starts" 4 2 [] f_demand_starts) (G_demand_seen : Def P w K mg base "demand_seen" 1 1 [] f_demand_seen) : Def P w K mg base "first_day" 6 4 [] f_first_day := by
  refine def_ok (k := 5) (body := b_first_day) hf sc_first_day (fun _ _ _ _ _ _ us hl => match us, hl with | [_, _, _, _], _ => rfl) fun f cdv A outer s H E C => ?_
  exact (ss_cons (ss_drop (se_call G_demand_machine (C.hr.mono (by decide)) C.tk (sga_fz (se_rdv 0) (sga_fz (se_rdv 1) sga_nil))))
    (ss_cons (ss_drop (se_call G_demand_starts (C.hr.mono (by decide)) C.tk (sga_fz (se_rdv 0) (sga_fz (se_rdv 2) sga_nil))))
    (ss_cons (ss_drop (se_call G_demand_seen (C.hr.mono (by decide)) C.tk (sga_fz (se_rdv 3) sga_nil)))
    ss_stuckAll)))
theorem sc_demand_question : FnScope ["moves", "looks", "start", "seen"] ["moves", "looks", "start", "seen"] (defScope s_demand_question) := ⟨rfl, rfl, rfl, by decide +kernel, rfl, by decide +kernel, by decide +kernel⟩
theorem ok_demand_question (T : Txt mg) (hf : IsFn K mg "demand_question" s_demand_question) (G_demand_rest : Def P w K mg base "demand_rest" 3 2 [] f_demand_rest) (G_demand_machine : Def P w K mg base "demand_machine" 5 2 [] f_demand_machine) (G_demand_seen : Def P w K mg base "demand_seen" 1 1 [] f_demand_seen) : Def P w K mg base "demand_question" 6 4 [] f_demand_question := by
  refine def_ok (k := 5) (body := b_demand_question) hf sc_demand_question (fun _ _ _ _ _ _ us hl => match us, hl with | [_, _, _, _], _ => rfl) fun f cdv A outer s H E C => ?_
  exact (ss_cons (ss_drop (se_call G_demand_machine (C.hr.mono (by decide)) C.tk (sga_fz (se_rdv 0) (sga_fz (se_rdv 1) sga_nil))))
    (ss_cons (ss_drop (se_call G_demand_rest (C.hr.mono (by decide)) C.tk (sga_fz (se_rdv 0) (sga_fz (se_rdv 2) sga_nil))))
    (ss_one (ss_drop (se_call G_demand_seen (C.hr.mono (by decide)) C.tk (sga_fz (se_rdv 3) sga_nil))))))
theorem sc_count_days : FnScope ["moves", "looks", "start", "seen"] ["moves", "looks", "start", "seen"] (defScope s_count_days) := ⟨rfl, rfl, rfl, by decide +kernel, rfl, by decide +kernel, by decide +kernel⟩
theorem ok_count_days (T : Txt mg) (hf : IsFn K mg "count_days" s_count_days) (G_demand_question : Def P w K mg base "demand_question" 6 4 [] f_demand_question) : Def P w K mg base "count_days" 7 4 [] f_count_days := by
  refine def_ok (k := 6) (body := b_count_days) hf sc_count_days (fun _ _ _ _ _ _ us hl => match us, hl with | [_, _, _, _], _ => rfl) fun f cdv A outer s H E C => ?_
  exact (ss_cons (ss_drop (se_call G_demand_question (C.hr.mono (by decide)) C.tk (sga_fz (se_rdv 0) (sga_fz (se_rdv 1) (sga_fz (se_rdv 2) (sga_fz (se_rdv 3) sga_nil))))))
    ss_stuckAll)
theorem sc_numbered_day : FnScope ["moves", "looks", "start", "seen", "number"] ["moves", "looks", "start", "seen", "number"] (defScope s_numbered_day) := ⟨rfl, rfl, rfl, by decide +kernel, rfl, by decide +kernel, by decide +kernel⟩
theorem ok_numbered_day (T : Txt mg) (hf : IsFn K mg "numbered_day" s_numbered_day) (G_demand_question : Def P w K mg base "demand_question" 6 4 [] f_demand_question) : Def P w K mg base "numbered_day" 7 5 [] f_numbered_day := by
  refine def_ok (k := 6) (body := b_numbered_day) hf sc_numbered_day (fun _ _ _ _ _ _ us hl => match us, hl with | [_, _, _, _, _], _ => rfl) fun f cdv A outer s H E C => ?_
  exact (ss_cons (ss_drop (se_call G_demand_question (C.hr.mono (by decide)) C.tk (sga_fz (se_rdv 0) (sga_fz (se_rdv 1) (sga_fz (se_rdv 2) (sga_fz (se_rdv 3) sga_nil))))))
    ss_stuckAll)
theorem sc_day_number : FnScope ["moves", "looks", "start", "seen", "day"] ["moves", "looks", "start", "seen", "day"] (defScope s_day_number) := ⟨rfl, rfl, rfl, by decide +kernel, rfl, by decide +kernel, by decide +kernel⟩
theorem ok_day_number (T : Txt mg) (hf : IsFn K mg "day_number" s_day_number) (G_demand_question : Def P w K mg base "demand_question" 6 4 [] f_demand_question) : Def P w K mg base "day_number" 7 5 [] f_day_number := by
  refine def_ok (k := 6) (body := b_day_number) hf sc_day_number (fun _ _ _ _ _ _ us hl => match us, hl with | [_, _, _, _, _], _ => rfl) fun f cdv A outer s H E C => ?_
  exact (ss_cons (ss_drop (se_call G_demand_question (C.hr.mono (by decide)) C.tk (sga_fz (se_rdv 0) (sga_fz (se_rdv 1) (sga_fz (se_rdv 2) (sga_fz (se_rdv 3) sga_nil))))))
    ss_stuckAll)
theorem sc_possible_presses : FnScope ["moves", "looks", "starts", "seen"] ["moves", "looks", "starts", "seen"] (defScope s_possible_presses) := ⟨rfl, rfl, rfl, by decide +kernel, rfl, by decide +kernel, by decide +kernel⟩
theorem ok_possible_presses (T : Txt mg) (hf : IsFn K mg "possible_presses" s_possible_presses) (G_demand_machine : Def P w K mg base "demand_machine" 5 2 [] f_demand_machine) (G_demand_starts : Def P w K mg base "demand_starts" 4 2 [] f_demand_starts) (G_demand_seen : Def P w K mg base "demand_seen" 1 1 [] f_demand_seen) : Def P w K mg base "possible_presses" 6 4 [] f_possible_presses := by
  refine def_ok (k := 5) (body := b_possible_presses) hf sc_possible_presses (fun _ _ _ _ _ _ us hl => match us, hl with | [_, _, _, _], _ => rfl) fun f cdv A outer s H E C => ?_
  exact (ss_cons (ss_drop (se_call G_demand_machine (C.hr.mono (by decide)) C.tk (sga_fz (se_rdv 0) (sga_fz (se_rdv 1) sga_nil))))
    (ss_cons (ss_drop (se_call G_demand_starts (C.hr.mono (by decide)) C.tk (sga_fz (se_rdv 0) (sga_fz (se_rdv 2) sga_nil))))
    (ss_cons (ss_drop (se_call G_demand_seen (C.hr.mono (by decide)) C.tk (sga_fz (se_rdv 3) sga_nil)))
    ss_stuckAll)))
theorem sc_must_paper : FnScope ["moves", "looks", "starts", "seen", "event"] ["moves", "looks", "starts", "seen", "event"] (defScope s_must_paper) := ⟨rfl, rfl, rfl, by decide +kernel, rfl, by decide +kernel, by decide +kernel⟩
theorem ok_must_paper (T : Txt mg) (hf : IsFn K mg "must_paper" s_must_paper) (G_demand_event : Def P w K mg base "demand_event" 3 2 [] f_demand_event) (G_demand_machine : Def P w K mg base "demand_machine" 5 2 [] f_demand_machine) (G_demand_starts : Def P w K mg base "demand_starts" 4 2 [] f_demand_starts) (G_demand_seen : Def P w K mg base "demand_seen" 1 1 [] f_demand_seen) : Def P w K mg base "must_paper" 6 5 [] f_must_paper := by
  refine def_ok (k := 5) (body := b_must_paper) hf sc_must_paper (fun _ _ _ _ _ _ us hl => match us, hl with | [_, _, _, _, _], _ => rfl) fun f cdv A outer s H E C => ?_
  exact (ss_cons (ss_drop (se_call G_demand_machine (C.hr.mono (by decide)) C.tk (sga_fz (se_rdv 0) (sga_fz (se_rdv 1) sga_nil))))
    (ss_cons (ss_drop (se_call G_demand_starts (C.hr.mono (by decide)) C.tk (sga_fz (se_rdv 0) (sga_fz (se_rdv 2) sga_nil))))
    (ss_cons (ss_drop (se_call G_demand_seen (C.hr.mono (by decide)) C.tk (sga_fz (se_rdv 3) sga_nil)))
    (ss_cons (ss_drop (se_call G_demand_event (C.hr.mono (by decide)) C.tk (sga_fz (se_rdv 0) (sga_fz (se_rdv 4) sga_nil))))
    ss_stuckAll))))
theorem sc_least_times : FnScope ["moves", "looks", "starts", "seen", "event"] ["moves", "looks", "starts", "seen", "event"] (defScope s_least_times) := ⟨rfl, rfl, rfl, by decide +kernel, rfl, by decide +kernel, by decide +kernel⟩
theorem ok_least_times (T : Txt mg) (hf : IsFn K mg "least_times" s_least_times) (G_demand_event : Def P w K mg base "demand_event" 3 2 [] f_demand_event) (G_demand_machine : Def P w K mg base "demand_machine" 5 2 [] f_demand_machine) (G_demand_starts : Def P w K mg base "demand_starts" 4 2 [] f_demand_starts) (G_demand_seen : Def P w K mg base "demand_seen" 1 1 [] f_demand_seen) : Def P w K mg base "least_times" 6 5 [] f_least_times := by
  refine def_ok (k := 5) (body := b_least_times) hf sc_least_times (fun _ _ _ _ _ _ us hl => match us, hl with | [_, _, _, _, _], _ => rfl) fun f cdv A outer s H E C => ?_
  exact (ss_cons (ss_drop (se_call G_demand_machine (C.hr.mono (by decide)) C.tk (sga_fz (se_rdv 0) (sga_fz (se_rdv 1) sga_nil))))
    (ss_cons (ss_drop (se_call G_demand_starts (C.hr.mono (by decide)) C.tk (sga_fz (se_rdv 0) (sga_fz (se_rdv 2) sga_nil))))
    (ss_cons (ss_drop (se_call G_demand_seen (C.hr.mono (by decide)) C.tk (sga_fz (se_rdv 3) sga_nil)))
    (ss_cons (ss_drop (se_call G_demand_event (C.hr.mono (by decide)) C.tk (sga_fz (se_rdv 0) (sga_fz (se_rdv 4) sga_nil))))
    ss_stuckAll))))
theorem sc_small_machine : FnScope ["moves", "looks", "start"] ["moves", "looks", "start"] (defScope s_small_machine) := ⟨rfl, rfl, rfl, by decide +kernel, rfl, by decide +kernel, by decide +kernel⟩
theorem ok_small_machine (T : Txt mg) (hf : IsFn K mg "small_machine" s_small_machine) (G_demand_rest : Def P w K mg base "demand_rest" 3 2 [] f_demand_rest) (G_demand_machine : Def P w K mg base "demand_machine" 5 2 [] f_demand_machine) : Def P w K mg base "small_machine" 6 3 [] f_small_machine := by
  refine def_ok (k := 5) (body := b_small_machine) hf sc_small_machine (fun _ _ _ _ _ _ us hl => match us, hl with | [_, _, _], _ => rfl) fun f cdv A outer s H E C => ?_
  exact (ss_cons (ss_drop (se_call G_demand_machine (C.hr.mono (by decide)) C.tk (sga_fz (se_rdv 0) (sga_fz (se_rdv 1) sga_nil))))
    (ss_cons (ss_drop (se_call G_demand_rest (C.hr.mono (by decide)) C.tk (sga_fz (se_rdv 0) (sga_fz (se_rdv 2) sga_nil))))
    ss_stuckAll))
theorem sc_parting_day : FnScope ["first", "second"] ["first", "second"] (defScope s_parting_day) := ⟨rfl, rfl, rfl, by decide +kernel, rfl, by decide +kernel, by decide +kernel⟩
theorem ok_parting_day (T : Txt mg) (hf : IsFn K mg "parting_day" s_parting_day) (G_demand_rest : Def P w K mg base "demand_rest" 3 2 [] f_demand_rest) (G_demand_machine : Def P w K mg base "demand_machine" 5 2 [] f_demand_machine) (R_BadGraph : XRaise K mg "BadGraph") : Def P w K mg base "parting_day" 6 2 [] f_parting_day := by
  refine def_ok (k := 5) (body := b_parting_day) hf sc_parting_day (fun _ _ _ _ _ _ us hl => match us, hl with | [_, _], _ => rfl) fun f cdv A outer s H E C => ?_
  exact (ss_cons (ss_drop (se_call G_demand_machine (C.hr.mono (by decide)) C.tk (sga_fz (se_ixv 0 se_int) (sga_fz (se_ixv 0 se_int) sga_nil))))
    (ss_cons (ss_drop (se_call G_demand_machine (C.hr.mono (by decide)) C.tk (sga_fz (se_ixv 1 se_int) (sga_fz (se_ixv 1 se_int) sga_nil))))
    (ss_cons (ss_if (st_cmp (oNe C.hu) vr_ne (se_callB cLen vr_len rfl T.b_len (by decide +kernel) (sa_cons (se_ix (se_ixv 0 se_int) se_int) sa_nil)) (se_callB cLen vr_len rfl T.b_len (by decide +kernel) (sa_cons (se_ix (se_ixv 1 se_int) se_int) sa_nil))) (ss_one (ss_rs R_BadGraph C.calm C.tk)) ss_nil)
    (ss_cons (ss_drop (se_call G_demand_rest (C.hr.mono (by decide)) C.tk (sga_fz (se_ixv 0 se_int) (sga_fz (se_ixv 0 se_int) sga_nil))))
    (ss_cons (ss_drop (se_call G_demand_rest (C.hr.mono (by decide)) C.tk (sga_fz (se_ixv 1 se_int) (sga_fz (se_ixv 1 se_int) sga_nil))))
    ss_stuckAll)))))
theorem sc_told_paper : FnScope ["moves", "looks", "start", "event"] ["moves", "looks", "start", "event"] (defScope s_told_paper) := ⟨rfl, rfl, rfl, by decide +kernel, rfl, by decide +kernel, by decide +kernel⟩
theorem ok_told_paper (T : Txt mg) (hf : IsFn K mg "told_paper" s_told_paper) (G_demand_rest : Def P w K mg base "demand_rest" 3 2 [] f_demand_rest) (G_demand_event : Def P w K mg base "demand_event" 3 2 [] f_demand_event) (G_demand_machine : Def P w K mg base "demand_machine" 5 2 [] f_demand_machine) : Def P w K mg base "told_paper" 6 4 [] f_told_paper := by
  refine def_ok (k := 5) (body := b_told_paper) hf sc_told_paper (fun _ _ _ _ _ _ us hl => match us, hl with | [_, _, _, _], _ => rfl) fun f cdv A outer s H E C => ?_
  exact (ss_cons (ss_drop (se_call G_demand_machine (C.hr.mono (by decide)) C.tk (sga_fz (se_rdv 0) (sga_fz (se_rdv 1) sga_nil))))
    (ss_cons (ss_drop (se_call G_demand_rest (C.hr.mono (by decide)) C.tk (sga_fz (se_rdv 0) (sga_fz (se_rdv 2) sga_nil))))
    (ss_cons (ss_drop (se_call G_demand_event (C.hr.mono (by decide)) C.tk (sga_fz (se_rdv 0) (sga_fz (se_rdv 3) sga_nil))))
    ss_stuckAll)))
theorem sc_delay : FnScope ["moves", "looks", "start", "event", "paper"] ["moves", "looks", "start", "event"] (defScope s_delay) := ⟨rfl, rfl, rfl, by decide +kernel, rfl, by decide +kernel, by decide +kernel⟩
theorem ok_delay (T : Txt mg) (hf : IsFn K mg "delay" s_delay) (G_told_paper : Def P w K mg base "told_paper" 6 4 [] f_told_paper) : Def P w K mg base "delay" 7 4 [] f_delay := by
  refine def_ok (k := 6) (body := b_delay) hf sc_delay (fun _ _ _ _ _ _ us hl => match us, hl with | [_, _, _, _], _ => rfl) fun f cdv A outer s H E C => ?_
  exact (ss_cons (ss_frz 4 (ss_set 4 (se_call G_told_paper (C.hr.mono (by decide)) C.tk (sga_fz (se_rdv 0) (sga_fz (se_rdv 1) (sga_fz (se_rdv 2) (sga_fz (se_rdv 3) sga_nil))))) C.nd))
    ss_stuckAll)
theorem sc_Reader___init__ : FnScope ["self", "moves", "looks", "starts"] ["self", "moves", "looks", "starts"] (defScope s_Reader___init__) := ⟨rfl, rfl, rfl, by decide +kernel, rfl, by decide +kernel, by decide +kernel⟩
theorem ok_Reader___init__ (T : Txt mg) (hf : IsMak K mg "Reader" "Reader.__init__" s_Reader___init__) (G_demand_machine : Def P w K mg base "demand_machine" 5 2 [] f_demand_machine) (G_demand_starts : Def P w K mg base "demand_starts" 4 2 [] f_demand_starts) : MakO P w K base mg "Reader" 6 4 [] f_Reader___init__ := by
  refine mak_ok (k := 5) (body := b_Reader___init__) (by decide) hf sc_Reader___init__ (fun _ _ _ _ _ _ us hl => match us, hl with | [_, _, _, _], _ => rfl) fun f cdv A outer s H E C => ?_
  exact (ss_cons (ss_drop (se_call G_demand_machine (C.hr.mono (by decide)) C.tk (sga_fz (se_rdv 1) (sga_fz (se_rdv 2) sga_nil))))
    (ss_cons (ss_drop (se_call G_demand_starts (C.hr.mono (by decide)) C.tk (sga_fz (se_rdv 1) (sga_fz (se_rdv 3) sga_nil))))
    ss_stuckAll))
theorem sc__law_call : FnScope ["which", "moves", "looks", "start", "starts", "seen", "event"] ["which", "moves", "looks", "start", "starts", "seen", "event"] (defScope s__law_call) := ⟨rfl, rfl, rfl, by decide +kernel, rfl, by decide +kernel, by decide +kernel⟩
theorem ok__law_call (T : Txt mg) (hf : IsFn K mg "_law_call" s__law_call) (G_alike_groups : Def P w K mg base "alike_groups" 6 2 [] f_alike_groups) (G_telling_day : Def P w K mg base "telling_day" 6 4 [] f_telling_day) (G_beliefs : Def P w K mg base "beliefs" 6 4 [] f_beliefs) (G_fits_day : Def P w K mg base "fits_day" 6 5 [] f_fits_day) (G_first_day : Def P w K mg base "first_day" 6 4 [] f_first_day) (G_count_days : Def P w K mg base "count_days" 7 4 [] f_count_days) (G_numbered_day : Def P w K mg base "numbered_day" 7 5 [] f_numbered_day) (G_day_number : Def P w K mg base "day_number" 7 5 [] f_day_number) (G_possible_presses : Def P w K mg base "possible_presses" 6 4 [] f_possible_presses) (G_must_paper : Def P w K mg base "must_paper" 6 5 [] f_must_paper) (G_least_times : Def P w K mg base "least_times" 6 5 [] f_least_times) (G_small_machine : Def P w K mg base "small_machine" 6 3 [] f_small_machine) (G_parting_day : Def P w K mg base "parting_day" 6 2 [] f_parting_day) (G_told_paper : Def P w K mg base "told_paper" 6 4 [] f_told_paper) (G_delay : Def P w K mg base "delay" 7 4 [] f_delay) (G_Reader___init__ : MakO P w K base mg "Reader" 6 4 [] f_Reader___init__) : Def P w K mg base "_law_call" 8 7 [] f__law_call := by
  refine def_ok (k := 7) (body := b__law_call) hf sc__law_call (fun _ _ _ _ _ _ us hl => match us, hl with | [_, _, _, _, _, _, _], _ => rfl) fun f cdv A outer s H E C => ?_
  exact (ss_cons (ss_if (st_cmp (oEq C.hu) vr_eq (se_rdv 0) se_int) (ss_one (ss_ret (se_call G_alike_groups (C.hr.mono (by decide)) C.tk (sga_fz (se_rdv 1) (sga_fz (se_rdv 2) sga_nil))))) ss_nil)
    (ss_cons (ss_if (st_cmp (oEq C.hu) vr_eq (se_rdv 0) se_int) (ss_one (ss_ret (se_call G_telling_day (C.hr.mono (by decide)) C.tk (sga_fz (se_rdv 1) (sga_fz (se_rdv 2) (sga_fz (se_rdv 3) (sga_fz se_int sga_nil))))))) ss_nil)
    (ss_cons (ss_if (st_cmp (oEq C.hu) vr_eq (se_rdv 0) se_int) (ss_one (ss_ret (se_call G_small_machine (C.hr.mono (by decide)) C.tk (sga_fz (se_rdv 1) (sga_fz (se_rdv 2) (sga_fz (se_rdv 3) sga_nil)))))) ss_nil)
    (ss_cons (ss_if (st_cmp (oEq C.hu) vr_eq (se_rdv 0) se_int) (ss_one (ss_ret (se_call G_parting_day (C.hr.mono (by decide)) C.tk (sga_fz (se_tup (sa_cons (se_rdv 1) (sa_cons (se_rdv 2) (sa_cons (se_rdv 3) sa_nil)))) (sga_fz (se_tup (sa_cons (se_rdv 1) (sa_cons (se_rdv 2) (sa_cons se_int sa_nil)))) sga_nil))))) ss_nil)
    (ss_cons (ss_if (st_cmp (oEq C.hu) vr_eq (se_rdv 0) se_int) (ss_one (ss_ret (se_call G_told_paper (C.hr.mono (by decide)) C.tk (sga_fz (se_rdv 1) (sga_fz (se_rdv 2) (sga_fz (se_rdv 3) (sga_fz (se_rdv 6) sga_nil))))))) ss_nil)
    (ss_cons (ss_if (st_cmp (oEq C.hu) vr_eq (se_rdv 0) se_int) (ss_one (ss_ret (se_call G_delay (C.hr.mono (by decide)) C.tk (sga_fz (se_rdv 1) (sga_fz (se_rdv 2) (sga_fz (se_rdv 3) (sga_fz (se_rdv 6) sga_nil))))))) ss_nil)
    (ss_cons (ss_if (st_cmp (oEq C.hu) vr_eq (se_rdv 0) se_int) (ss_one (ss_ret (se_call G_fits_day (C.hr.mono (by decide)) C.tk (sga_fz (se_rdv 1) (sga_fz (se_rdv 2) (sga_fz (se_rdv 3) (sga_fz (se_lst sa_nil) (sga_fz (se_rdv 5) sga_nil)))))))) ss_nil)
    (ss_cons (ss_if (st_cmp (oEq C.hu) vr_eq (se_rdv 0) se_int) (ss_one (ss_ret (se_call G_count_days (C.hr.mono (by decide)) C.tk (sga_fz (se_rdv 1) (sga_fz (se_rdv 2) (sga_fz (se_rdv 3) (sga_fz (se_rdv 5) sga_nil))))))) ss_nil)
    (ss_cons (ss_if (st_cmp (oEq C.hu) vr_eq (se_rdv 0) se_int) (ss_one (ss_ret (se_call G_numbered_day (C.hr.mono (by decide)) C.tk (sga_fz (se_rdv 1) (sga_fz (se_rdv 2) (sga_fz (se_rdv 3) (sga_fz (se_rdv 5) (sga_fz se_int sga_nil)))))))) ss_nil)
    (ss_cons (ss_if (st_cmp (oEq C.hu) vr_eq (se_rdv 0) se_int) (ss_one (ss_ret (se_call G_day_number (C.hr.mono (by decide)) C.tk (sga_fz (se_rdv 1) (sga_fz (se_rdv 2) (sga_fz (se_rdv 3) (sga_fz (se_rdv 5) (sga_fz (se_lst sa_nil) sga_nil)))))))) ss_nil)
    (ss_cons (ss_if (st_cmp (oEq C.hu) vr_eq (se_rdv 0) se_int) (ss_one (ss_ret (se_call G_beliefs (C.hr.mono (by decide)) C.tk (sga_fz (se_rdv 1) (sga_fz (se_rdv 2) (sga_fz (se_rdv 4) (sga_fz (se_rdv 5) sga_nil))))))) ss_nil)
    (ss_cons (ss_if (st_cmp (oEq C.hu) vr_eq (se_rdv 0) se_int) (ss_one (ss_ret (se_call G_first_day (C.hr.mono (by decide)) C.tk (sga_fz (se_rdv 1) (sga_fz (se_rdv 2) (sga_fz (se_rdv 4) (sga_fz (se_rdv 5) sga_nil))))))) ss_nil)
    (ss_cons (ss_if (st_cmp (oEq C.hu) vr_eq (se_rdv 0) se_int) (ss_one (ss_ret (se_call G_possible_presses (C.hr.mono (by decide)) C.tk (sga_fz (se_rdv 1) (sga_fz (se_rdv 2) (sga_fz (se_rdv 4) (sga_fz (se_rdv 5) sga_nil))))))) ss_nil)
    (ss_cons (ss_if (st_cmp (oEq C.hu) vr_eq (se_rdv 0) se_int) (ss_one (ss_ret (se_call G_must_paper (C.hr.mono (by decide)) C.tk (sga_fz (se_rdv 1) (sga_fz (se_rdv 2) (sga_fz (se_rdv 4) (sga_fz (se_rdv 5) (sga_fz (se_rdv 6) sga_nil)))))))) ss_nil)
    (ss_cons (ss_if (st_cmp (oEq C.hu) vr_eq (se_rdv 0) se_int) (ss_one (ss_ret (se_call G_least_times (C.hr.mono (by decide)) C.tk (sga_fz (se_rdv 1) (sga_fz (se_rdv 2) (sga_fz (se_rdv 4) (sga_fz (se_rdv 5) (sga_fz (se_rdv 6) sga_nil)))))))) ss_nil)
    (ss_cons (ss_if (st_cmp (oEq C.hu) vr_eq (se_rdv 0) se_int) (ss_one (ss_ret (se_call G_telling_day (C.hr.mono (by decide)) C.tk (sga_fz (se_rdv 1) (sga_fz (se_rdv 2) (sga_fz se_int (sga_fz (se_rdv 3) sga_nil))))))) ss_nil)
    (ss_cons (ss_if (st_cmp (oEq C.hu) vr_eq (se_rdv 0) se_int) (ss_one (ss_ret (se_call G_parting_day (C.hr.mono (by decide)) C.tk (sga_fz (se_tup (sa_cons (se_rdv 1) (sa_cons (se_rdv 2) (sa_cons se_int sa_nil)))) (sga_fz (se_tup (sa_cons (se_rdv 1) (sa_cons (se_rdv 2) (sa_cons (se_rdv 3) sa_nil)))) sga_nil))))) ss_nil)
    (ss_one (ss_ret (se_atX (se_mk G_Reader___init__ (C.hr.mono (by decide)) C.tk (sga_fz (se_rdv 1) (sga_fz (se_rdv 2) (sga_fz (se_rdv 4) sga_nil))))))))))))))))))))))))
theorem sc__law_refusal : FnScope ["which", "moves", "looks", "start", "starts", "seen", "event", "e"] ["which", "moves", "looks", "start", "starts", "seen", "event"] (defScope s__law_refusal) := ⟨rfl, rfl, rfl, by decide +kernel, rfl, by decide +kernel, by decide +kernel⟩
theorem ok__law_refusal (T : Txt mg) (hf : IsFn K mg "_law_refusal" s__law_refusal) (G__law_told : Def P w K mg base "_law_told" 1 3 [] f__law_told) (G__law_call : Def P w K mg base "_law_call" 8 7 [] f__law_call) (EX_BadGraph : ExN K mg "BadGraph" [("BadEvent", false), ("BadOrder", false), ("BadLog", false), ("BadGraph", true), ("TooMany", false)]) (EX_BadOrder : ExN K mg "BadOrder" [("BadEvent", false), ("BadOrder", true), ("BadLog", false), ("BadGraph", false), ("TooMany", false)]) (EX_TooMany : ExN K mg "TooMany" [("BadEvent", false), ("BadOrder", false), ("BadLog", false), ("BadGraph", false), ("TooMany", true)]) (EX_BadEvent : ExN K mg "BadEvent" [("BadEvent", true), ("BadOrder", false), ("BadLog", false), ("BadGraph", false), ("TooMany", false)]) (FL_limit : FldIs K "limit" ["TooMany"]) (FL_index : FldIs K "index" ["BadEvent"]) (U__law_told : DefU P w K mg base "_law_told" 1 3 f__law_told) : Def P w K mg base "_law_refusal" 9 7 [] f__law_refusal := by
  refine def_ok (k := 8) (body := b__law_refusal) hf sc__law_refusal (fun _ _ _ _ _ _ us hl => match us, hl with | [_, _, _, _, _, _, _], _ => rfl) fun f cdv A outer s H E C => ?_
  exact (ss_cons (ss_tryE C rfl rfl rfl (fun W' pn xe C => (ss_one (ss_drop (se_call G__law_call (C.hr.mono (by decide)) C.tk (sga_fz (se_rdv 0) (sga_fz (se_rdv 1) (sga_fz (se_rdv 2) (sga_fz (se_rdv 3) (sga_fz (se_rdv 4) (sga_fz (se_rdv 5) (sga_fz (se_rdv 6) sga_nil))))))))))) (hd_as 7 EX_BadGraph (fun a pn => (have C := C.suite a pn; (ss_one (ss_ret (se_callU U__law_told (C.hr.mono (by decide)) (sga_fz (se_rdv 7) (sga_fz se_str (sga_fz se_int sga_nil)))))))) (hd_as 7 EX_BadOrder (fun a pn => (have C := C.suite a pn; (ss_one (ss_ret (se_callU U__law_told (C.hr.mono (by decide)) (sga_fz (se_rdv 7) (sga_fz se_str (sga_fz se_int sga_nil)))))))) (hd_as 7 EX_TooMany (fun a pn => (have C := C.suite a pn; (ss_one (ss_ret (se_callU U__law_told (C.hr.mono (by decide)) (sga_fz (se_rdv 7) (sga_fz se_str (sga_fz (se_fld (se_rdv 7) FL_limit) sga_nil)))))))) (hd_as 7 EX_BadEvent (fun a pn => (have C := C.suite a pn; (ss_one (ss_ret (se_callU U__law_told (C.hr.mono (by decide)) (sga_fz (se_rdv 7) (sga_fz se_str (sga_fz (se_fld (se_rdv 7) FL_index) sga_nil)))))))) hd_nil)))))
    (ss_one (ss_ret (se_tup (sa_cons se_str (sa_cons se_int sa_nil))))))
theorem sc__law_due : FnScope ["which", "moves", "looks", "start", "starts", "seen", "event"] ["which", "moves", "looks", "start", "starts", "seen", "event"] (defScope s__law_due) := ⟨rfl, rfl, rfl, by decide +kernel, rfl, by decide +kernel, by decide +kernel⟩
theorem ok__law_due (T : Txt mg) (hf : IsFn K mg "_law_due" s__law_due) (G__law_right_moves : Def P w K mg base "_law_right_moves" 1 1 [] f__law_right_moves) : Def P w K mg base "_law_due" 2 7 [] f__law_due := by
  refine def_ok (k := 1) (body := b__law_due) hf sc__law_due (fun _ _ _ _ _ _ us hl => match us, hl with | [_, _, _, _, _, _, _], _ => rfl) fun f cdv A outer s H E C => ?_
  exact (ss_cons (ss_if (st_w (sw_or (st_not (st_val (se_call G__law_right_moves (C.hr.mono (by decide)) C.tk (sga_fz (se_rdv 1) sga_nil)))) (sw_or1 (st_cmp (oNe C.hu) vr_ne (se_borB 2 cLen vr_len rfl T.b_len (by decide +kernel)) (se_borB 1 cLen vr_len rfl T.b_len (by decide +kernel)))))) (ss_one (ss_ret (se_tup (sa_cons se_str (sa_cons se_int sa_nil))))) ss_nil)
    (ss_cons (ss_if (st_w (sw_and (st_cmp op_gt vr_cI (se_rdv 0) se_int) (sw_and1 (st_w (sw_or (st_cmp op_lt vr_cI (se_rdv 3) se_int) (sw_or1 (st_cmp op_ge vr_cI (se_rdv 3) (se_borB 1 cLen vr_len rfl T.b_len (by decide +kernel))))))))) (ss_one (ss_ret (se_tup (sa_cons se_str (sa_cons se_int sa_nil))))) ss_nil)
    (ss_cons (ss_if (st_w (sw_and (st_w (sw_or (st_chn op_le op_le vr_cI vr_cI se_int (se_rdv 0) se_int) (sw_or1 (st_cmp (oEq C.hu) vr_eq (se_rdv 0) se_int)))) (sw_and1 (st_cmp (oNe C.hu) vr_ne (se_borB 4 cLen vr_len rfl T.b_len (by decide +kernel)) se_int)))) (ss_one (ss_ret (se_tup (sa_cons se_str (sa_cons se_int sa_nil))))) ss_nil)
    (ss_cons (ss_if (st_w (sw_and (st_chn op_le op_le vr_cI vr_cI se_int (se_rdv 0) se_int) (sw_and1 (st_cmp op_gt vr_cI (se_borB 5 cLen vr_len rfl T.b_len (by decide +kernel)) se_int)))) (ss_one (ss_ret (se_tup (sa_cons se_str (sa_cons se_int sa_nil))))) ss_nil)
    (ss_cons (ss_if (st_w (sw_and (st_cmp op_in_seq (vr_in false) (se_rdv 0) (se_lst (sa_cons se_int (sa_cons se_int (sa_cons se_int (sa_cons se_int sa_nil)))))) (sw_and1 (st_w (sw_or (st_cmp op_lt vr_cI (se_rdv 6) se_int) (sw_or1 (st_cmp op_ge vr_cI (se_rdv 6) (se_callB cLen vr_len rfl T.b_len (by decide +kernel) (sa_cons (se_ixv 1 se_int) sa_nil))))))))) (ss_one (ss_ret (se_tup (sa_cons se_str (sa_cons (se_rdv 6) sa_nil))))) ss_nil)
    (ss_one (ss_ret (se_tup (sa_cons se_str (sa_cons se_int sa_nil))))))))))
theorem sc__law_built : FnScope ["script", "plan", "size", "width", "far", "palette", "row", "moves", "rest", "looks", "k", "day"] ["script", "plan"] (defScope s__law_built) := ⟨rfl, rfl, rfl, by decide +kernel, rfl, by decide +kernel, by decide +kernel⟩
theorem ok__law_built (T : Txt mg) (hf : IsFn K mg "_law_built" s__law_built) (G__law_cell : Def P w K mg base "_law_cell" 1 2 [] f__law_cell) (G__law_row : Def P w K mg base "_law_row" 1 2 [] f__law_row) : Def P w K mg base "_law_built" 2 2 [] f__law_built := by
  refine def_ok (k := 1) (body := b__law_built) hf sc__law_built (fun _ _ _ _ _ _ us hl => match us, hl with | [_, _], _ => rfl) fun f cdv A outer s H E C => ?_
  exact (ss_cons (ss_set 2 (se_op oAdd vr_add se_int (se_ixv 1 se_int)) C.nd)
    (ss_cons (ss_set 3 (se_ixv 1 se_int) C.nd)
    (ss_cons (ss_if (st_cmp (oEq C.hu) vr_eq (se_ixv 1 se_int) se_int) (ss_cons (ss_set 2 (se_op oAdd vr_add se_int (se_op op_mod vr_mod (se_ixv 1 se_int) se_int)) C.nd)
    (ss_one (ss_set 3 (se_op op_mod vr_mod (se_rdv 3) se_int) C.nd))) ss_nil)
    (ss_cons (ss_set 4 (se_op op_mod vr_mod (se_callTy call_int1 vr_int rfl T.b_int (by decide +kernel) (sa_cons (se_call G__law_cell (C.hr.mono (by decide)) C.tk (sga_fz (se_rdv 0) (sga_fz se_int sga_nil))) sa_nil)) (se_op op_pow vr_pow se_int se_int)) C.nd)
    (ss_cons (ss_frz 5 (ss_set 5 (se_lst (sa_cons (se_rdv 4) (sa_cons (se_callTy call_str_int vr_str rfl T.b_str (by decide +kernel) (sa_cons (se_rdv 4) sa_nil)) (sa_cons (se_tup (sa_cons (se_rdv 4) sa_nil)) (sa_cons se_str (sa_cons (se_tup sa_nil) (sa_cons (se_op op_sub vr_sub (se_un un_neg vr_neg se_int) (se_rdv 4)) sa_nil))))))) C.nd))
    (ss_cons (ss_frz 6 (ss_set 6 (se_call G__law_row (C.hr.mono (by decide)) C.tk (sga_fz (se_call G__law_cell (C.hr.mono (by decide)) C.tk (sga_fz (se_rdv 0) (sga_fz se_int sga_nil))) (sga_fz (se_op oAdd vr_add (se_op oMul vr_mul (se_lst (sa_cons (se_rdv 2) sa_nil)) (se_op oMul vr_mul (se_rdv 2) (se_rdv 3))) (se_op oMul vr_mul (se_lst (sa_cons se_int sa_nil)) (se_rdv 2))) sga_nil))) C.nd))
    (ss_cons (ss_frz 7 (ss_setLc 7 (own := [("rest", 8)]) C.calm C.nd rfl rfl (sw_true rfl rfl rfl (by decide +kernel)) (si_r1 (se_rdv 2) rfl T.b_range) (blkOk_by (by kernel_rfl)) (fun _ _ _ _ _ => (sg_n 8 C.nd)) (fun _ _ _ _ _ => st_yes) (fun _ _ _ _ _ => (se_sl (se_rdv 6) (so_some (se_op oMul vr_mul (se_rdv 8) (se_rdv 3))) (so_some (se_op oAdd vr_add (se_op oMul vr_mul (se_rdv 8) (se_rdv 3)) (se_rdv 3)))))))
    (ss_cons (ss_frz 9 (ss_setLc 9 (own := [("k", 10)]) C.calm C.nd rfl rfl (sw_true rfl rfl rfl (by decide +kernel)) (si_any (se_sl (se_rdv 6) (so_some (se_op oMul vr_mul (se_rdv 2) (se_rdv 3))) so_none)) (blkOk_by (by kernel_rfl)) (fun _ _ _ _ _ => (sg_n 10 C.nd)) (fun _ _ _ _ _ => st_yes) (fun _ _ _ _ _ => (se_ixv 5 (se_rdv 10)))))
    (ss_cons (ss_frz 11 (ss_set 11 (se_lst sa_nil) C.nd))
    (ss_cons (ss_if (st_cmp op_gt vr_cI (se_rdv 3) se_int) (ss_one (ss_frz 11 (ss_set 11 (se_call G__law_row (C.hr.mono (by decide)) C.tk (sga_fz (se_call G__law_cell (C.hr.mono (by decide)) C.tk (sga_fz (se_rdv 0) (sga_fz se_int sga_nil))) (sga_fz (se_op oMul vr_mul (se_lst (sa_cons (se_rdv 3) sa_nil)) (se_ixv 1 se_int)) sga_nil))) C.nd))) ss_nil)
    (ss_one (ss_ret (se_lst (sa_cons (se_rdv 7) (sa_cons (se_rdv 9) (sa_cons (se_op op_mod vr_mod (se_callTy call_int1 vr_int rfl T.b_int (by decide +kernel) (sa_cons (se_call G__law_cell (C.hr.mono (by decide)) C.tk (sga_fz (se_rdv 0) (sga_fz se_int sga_nil))) sa_nil)) (se_rdv 2)) (sa_cons (se_rdv 11) sa_nil)))))))))))))))))
theorem sc_law : FnScope ["script", "plan", "picks", "far", "things", "moves", "looks", "start", "day", "handed", "row", "right", "due", "due_looks", "rest", "starts", "seen", "k", "event", "refusal"] ["script"] (defScope s_law) := ⟨rfl, rfl, rfl, by decide +kernel, rfl, by decide +kernel, by decide +kernel⟩
end
/-- what the top has written -/
structure Facts (P : Program) (K : PySem.W.Frag) (mg : Mg) : Prop where
  T : Txt mg
  h_is_integer : IsFn K mg "is_integer" s_is_integer
  h_is_index : IsFn K mg "is_index" s_is_index
  h_are_moves : IsFn K mg "are_moves" s_are_moves
  h_is_look : IsFn K mg "is_look" s_is_look
  h_is_machine : IsFn K mg "is_machine" s_is_machine
  h__law_cell : IsFn K mg "_law_cell" s__law_cell
  h__law_row : IsFn K mg "_law_row" s__law_row
  h__law_is_integer : IsFn K mg "_law_is_integer" s__law_is_integer
  h__law_same : IsFn K mg "_law_same" s__law_same
  h__law_beyond : IsFn K mg "_law_beyond" s__law_beyond
  h__law_changed : IsFn K mg "_law_changed" s__law_changed
  h__law_right_moves : IsFn K mg "_law_right_moves" s__law_right_moves
  h__law_walk : IsFn K mg "_law_walk" s__law_walk
  h_demand_rest : IsFn K mg "demand_rest" s_demand_rest
  h_demand_event : IsFn K mg "demand_event" s_demand_event
  h_rests_of_day : IsFn K mg "rests_of_day" s_rests_of_day
  h_day_end : IsFn K mg "day_end" s_day_end
  h__law_told : IsFn K mg "_law_told" s__law_told
  h__law_end_told : IsFn K mg "_law_end_told" s__law_end_told
  h_demand_machine : IsFn K mg "demand_machine" s_demand_machine
  h_day_looks : IsFn K mg "day_looks" s_day_looks
  h__law_looks_told : IsFn K mg "_law_looks_told" s__law_looks_told
  h_alike_groups : IsFn K mg "alike_groups" s_alike_groups
  h_telling_day : IsFn K mg "telling_day" s_telling_day
  h_are_ascending : IsFn K mg "are_ascending" s_are_ascending
  h_demand_starts : IsFn K mg "demand_starts" s_demand_starts
  h_demand_seen : IsFn K mg "demand_seen" s_demand_seen
  h_beliefs : IsFn K mg "beliefs" s_beliefs
  h_fits_day : IsFn K mg "fits_day" s_fits_day
  h_first_day : IsFn K mg "first_day" s_first_day
  h_demand_question : IsFn K mg "demand_question" s_demand_question
  h_count_days : IsFn K mg "count_days" s_count_days
  h_numbered_day : IsFn K mg "numbered_day" s_numbered_day
  h_day_number : IsFn K mg "day_number" s_day_number
  h_possible_presses : IsFn K mg "possible_presses" s_possible_presses
  h_must_paper : IsFn K mg "must_paper" s_must_paper
  h_least_times : IsFn K mg "least_times" s_least_times
  h_small_machine : IsFn K mg "small_machine" s_small_machine
  h_parting_day : IsFn K mg "parting_day" s_parting_day
  h_told_paper : IsFn K mg "told_paper" s_told_paper
  h_delay : IsFn K mg "delay" s_delay
  h_Reader___init__ : IsMak K mg "Reader" "Reader.__init__" s_Reader___init__
  h__law_call : IsFn K mg "_law_call" s__law_call
  h__law_refusal : IsFn K mg "_law_refusal" s__law_refusal
  h__law_due : IsFn K mg "_law_due" s__law_due
  h__law_built : IsFn K mg "_law_built" s__law_built
  h_law : IsFn K mg "law" s_law
  R_BadOrder : XRaise K mg "BadOrder"
  RF_BadEvent : XRaiseF P K mg "BadEvent" "index"
  R_BadGraph : XRaise K mg "BadGraph"
  IS_BadGraph : IsN K mg "BadGraph" [("BadEvent", false), ("BadOrder", false), ("BadLog", false), ("BadGraph", true), ("TooMany", false)]
  IS_BadOrder : IsN K mg "BadOrder" [("BadEvent", false), ("BadOrder", true), ("BadLog", false), ("BadGraph", false), ("TooMany", false)]
  IS_TooMany : IsN K mg "TooMany" [("BadEvent", false), ("BadOrder", false), ("BadLog", false), ("BadGraph", false), ("TooMany", true)]
  IS_BadEvent : IsN K mg "BadEvent" [("BadEvent", true), ("BadOrder", false), ("BadLog", false), ("BadGraph", false), ("TooMany", false)]
  IS_HouseError : IsN K mg "HouseError" [("BadEvent", true), ("BadOrder", true), ("BadLog", true), ("BadGraph", true), ("TooMany", true)]
  IS_ValueError : IsN K mg "ValueError" [("BadEvent", true), ("BadOrder", true), ("BadLog", true), ("BadGraph", true), ("TooMany", true)]
  EX_BadGraph : ExN K mg "BadGraph" [("BadEvent", false), ("BadOrder", false), ("BadLog", false), ("BadGraph", true), ("TooMany", false)]
  EX_BadOrder : ExN K mg "BadOrder" [("BadEvent", false), ("BadOrder", true), ("BadLog", false), ("BadGraph", false), ("TooMany", false)]
  EX_BadEvent : ExN K mg "BadEvent" [("BadEvent", true), ("BadOrder", false), ("BadLog", false), ("BadGraph", false), ("TooMany", false)]
  FL_index : FldIs K "index" ["BadEvent"]
  RF_TooMany : XRaiseF P K mg "TooMany" "limit"
  EX_TooMany : ExN K mg "TooMany" [("BadEvent", false), ("BadOrder", false), ("BadLog", false), ("BadGraph", false), ("TooMany", true)]
  FL_limit : FldIs K "limit" ["TooMany"]
section
variable {P : Program} {w : World} {K : PySem.W.Frag} {mg : Mg} {base : Heap}
theorem g_is_integer (Fa : Facts P K mg) : Def P w K mg base "is_integer" 1 1 [] f_is_integer := ok_is_integer Fa.T Fa.h_is_integer 
theorem g_is_index (Fa : Facts P K mg) : Def P w K mg base "is_index" 2 2 [] f_is_index := ok_is_index Fa.T Fa.h_is_index (g_is_integer Fa)
theorem g_are_moves (Fa : Facts P K mg) : Def P w K mg base "are_moves" 3 1 [] f_are_moves := ok_are_moves Fa.T Fa.h_are_moves (g_is_index Fa)
theorem g_is_look (Fa : Facts P K mg) : Def P w K mg base "is_look" 2 1 [] f_is_look := ok_is_look Fa.T Fa.h_is_look (g_is_integer Fa)
theorem g_is_machine (Fa : Facts P K mg) : Def P w K mg base "is_machine" 4 2 [] f_is_machine := ok_is_machine Fa.T Fa.h_is_machine (g_are_moves Fa) (g_is_look Fa)
theorem g__law_cell (Fa : Facts P K mg) : Def P w K mg base "_law_cell" 1 2 [] f__law_cell := ok__law_cell Fa.T Fa.h__law_cell 
theorem g__law_row (Fa : Facts P K mg) : Def P w K mg base "_law_row" 1 2 [] f__law_row := ok__law_row Fa.T Fa.h__law_row 
theorem g__law_is_integer (Fa : Facts P K mg) : Def P w K mg base "_law_is_integer" 1 1 [] f__law_is_integer := ok__law_is_integer Fa.T Fa.h__law_is_integer 
theorem g__law_same (Fa : Facts P K mg) : Def P w K mg base "_law_same" 14 2 [] f__law_same := ok__law_same Fa.T Fa.h__law_same (g__law_is_integer Fa)
theorem g__law_beyond (Fa : Facts P K mg) : Def P w K mg base "_law_beyond" 1 3 [] f__law_beyond := ok__law_beyond Fa.T Fa.h__law_beyond 
theorem g__law_changed (Fa : Facts P K mg) : Def P w K mg base "_law_changed" 2 4 [] f__law_changed := ok__law_changed Fa.T Fa.h__law_changed (g__law_beyond Fa)
theorem g__law_right_moves (Fa : Facts P K mg) : Def P w K mg base "_law_right_moves" 1 1 [] f__law_right_moves := ok__law_right_moves Fa.T Fa.h__law_right_moves 
theorem g__law_walk (Fa : Facts P K mg) : Def P w K mg base "_law_walk" 1 3 [] f__law_walk := ok__law_walk Fa.T Fa.h__law_walk 
theorem g_demand_rest (Fa : Facts P K mg) : Def P w K mg base "demand_rest" 3 2 [] f_demand_rest := ok_demand_rest Fa.T Fa.h_demand_rest (g_is_index Fa) Fa.R_BadOrder
theorem g_demand_event (Fa : Facts P K mg) : Def P w K mg base "demand_event" 3 2 [] f_demand_event := ok_demand_event Fa.T Fa.h_demand_event (g_is_index Fa) Fa.RF_BadEvent
theorem g_rests_of_day (Fa : Facts P K mg) : Def P w K mg base "rests_of_day" 4 3 [] f_rests_of_day := ok_rests_of_day Fa.T Fa.h_rests_of_day (g_demand_event Fa)
theorem g_day_end (Fa : Facts P K mg) : Def P w K mg base "day_end" 5 3 [] f_day_end := ok_day_end Fa.T Fa.h_day_end (g_are_moves Fa) (g_demand_rest Fa) (g_rests_of_day Fa) Fa.R_BadGraph
theorem g__law_told (Fa : Facts P K mg) : Def P w K mg base "_law_told" 1 3 [] f__law_told := ok__law_told Fa.T Fa.h__law_told Fa.IS_BadGraph Fa.IS_BadOrder Fa.IS_TooMany Fa.IS_BadEvent Fa.IS_HouseError Fa.IS_ValueError
theorem gU__law_told (Fa : Facts P K mg) : DefU P w K mg base "_law_told" 1 3 f__law_told := okU__law_told Fa.T Fa.h__law_told Fa.IS_BadGraph Fa.IS_BadOrder Fa.IS_TooMany Fa.IS_BadEvent Fa.IS_HouseError Fa.IS_ValueError
theorem g__law_end_told (Fa : Facts P K mg) : Def P w K mg base "_law_end_told" 6 3 [] f__law_end_told := ok__law_end_told Fa.T Fa.h__law_end_told (g_day_end Fa) (g__law_told Fa) Fa.EX_BadGraph Fa.EX_BadOrder Fa.EX_BadEvent Fa.FL_index (gU__law_told Fa)
theorem g_demand_machine (Fa : Facts P K mg) : Def P w K mg base "demand_machine" 5 2 [] f_demand_machine := ok_demand_machine Fa.T Fa.h_demand_machine (g_is_machine Fa) Fa.R_BadGraph
theorem g_day_looks (Fa : Facts P K mg) : Def P w K mg base "day_looks" 6 4 [] f_day_looks := ok_day_looks Fa.T Fa.h_day_looks (g_demand_rest Fa) (g_rests_of_day Fa) (g_demand_machine Fa)
theorem g__law_looks_told (Fa : Facts P K mg) : Def P w K mg base "_law_looks_told" 7 4 [] f__law_looks_told := ok__law_looks_told Fa.T Fa.h__law_looks_told (g__law_told Fa) (g_day_looks Fa) Fa.EX_BadGraph Fa.EX_BadOrder Fa.EX_BadEvent Fa.FL_index (gU__law_told Fa)
theorem g_alike_groups (Fa : Facts P K mg) : Def P w K mg base "alike_groups" 6 2 [] f_alike_groups := ok_alike_groups Fa.T Fa.h_alike_groups (g_demand_machine Fa)
theorem g_telling_day (Fa : Facts P K mg) : Def P w K mg base "telling_day" 6 4 [] f_telling_day := ok_telling_day Fa.T Fa.h_telling_day (g_demand_rest Fa) (g_demand_machine Fa)
theorem g_are_ascending (Fa : Facts P K mg) : Def P w K mg base "are_ascending" 3 2 [] f_are_ascending := ok_are_ascending Fa.T Fa.h_are_ascending (g_is_index Fa)
theorem g_demand_starts (Fa : Facts P K mg) : Def P w K mg base "demand_starts" 4 2 [] f_demand_starts := ok_demand_starts Fa.T Fa.h_demand_starts (g_are_ascending Fa) Fa.R_BadOrder
theorem g_demand_seen (Fa : Facts P K mg) : Def P w K mg base "demand_seen" 1 1 [] f_demand_seen := ok_demand_seen Fa.T Fa.h_demand_seen Fa.RF_TooMany
theorem g_beliefs (Fa : Facts P K mg) : Def P w K mg base "beliefs" 6 4 [] f_beliefs := ok_beliefs Fa.T Fa.h_beliefs (g_demand_machine Fa) (g_demand_starts Fa) (g_demand_seen Fa)
theorem g_fits_day (Fa : Facts P K mg) : Def P w K mg base "fits_day" 6 5 [] f_fits_day := ok_fits_day Fa.T Fa.h_fits_day (g_demand_rest Fa) (g_demand_machine Fa) (g_demand_seen Fa)
theorem g_first_day (Fa : Facts P K mg) : Def P w K mg base "first_day" 6 4 [] f_first_day := ok_first_day Fa.T Fa.h_first_day (g_demand_machine Fa) (g_demand_starts Fa) (g_demand_seen Fa)
theorem g_demand_question (Fa : Facts P K mg) : Def P w K mg base "demand_question" 6 4 [] f_demand_question := ok_demand_question Fa.T Fa.h_demand_question (g_demand_rest Fa) (g_demand_machine Fa) (g_demand_seen Fa)
theorem g_count_days (Fa : Facts P K mg) : Def P w K mg base "count_days" 7 4 [] f_count_days := ok_count_days Fa.T Fa.h_count_days (g_demand_question Fa)
theorem g_numbered_day (Fa : Facts P K mg) : Def P w K mg base "numbered_day" 7 5 [] f_numbered_day := ok_numbered_day Fa.T Fa.h_numbered_day (g_demand_question Fa)
theorem g_day_number (Fa : Facts P K mg) : Def P w K mg base "day_number" 7 5 [] f_day_number := ok_day_number Fa.T Fa.h_day_number (g_demand_question Fa)
theorem g_possible_presses (Fa : Facts P K mg) : Def P w K mg base "possible_presses" 6 4 [] f_possible_presses := ok_possible_presses Fa.T Fa.h_possible_presses (g_demand_machine Fa) (g_demand_starts Fa) (g_demand_seen Fa)
theorem g_must_paper (Fa : Facts P K mg) : Def P w K mg base "must_paper" 6 5 [] f_must_paper := ok_must_paper Fa.T Fa.h_must_paper (g_demand_event Fa) (g_demand_machine Fa) (g_demand_starts Fa) (g_demand_seen Fa)
theorem g_least_times (Fa : Facts P K mg) : Def P w K mg base "least_times" 6 5 [] f_least_times := ok_least_times Fa.T Fa.h_least_times (g_demand_event Fa) (g_demand_machine Fa) (g_demand_starts Fa) (g_demand_seen Fa)
theorem g_small_machine (Fa : Facts P K mg) : Def P w K mg base "small_machine" 6 3 [] f_small_machine := ok_small_machine Fa.T Fa.h_small_machine (g_demand_rest Fa) (g_demand_machine Fa)
theorem g_parting_day (Fa : Facts P K mg) : Def P w K mg base "parting_day" 6 2 [] f_parting_day := ok_parting_day Fa.T Fa.h_parting_day (g_demand_rest Fa) (g_demand_machine Fa) Fa.R_BadGraph
theorem g_told_paper (Fa : Facts P K mg) : Def P w K mg base "told_paper" 6 4 [] f_told_paper := ok_told_paper Fa.T Fa.h_told_paper (g_demand_rest Fa) (g_demand_event Fa) (g_demand_machine Fa)
theorem g_delay (Fa : Facts P K mg) : Def P w K mg base "delay" 7 4 [] f_delay := ok_delay Fa.T Fa.h_delay (g_told_paper Fa)
theorem g_Reader___init__ (Fa : Facts P K mg) : MakO P w K base mg "Reader" 6 4 [] f_Reader___init__ := ok_Reader___init__ Fa.T Fa.h_Reader___init__ (g_demand_machine Fa) (g_demand_starts Fa)
theorem g__law_call (Fa : Facts P K mg) : Def P w K mg base "_law_call" 8 7 [] f__law_call := ok__law_call Fa.T Fa.h__law_call (g_alike_groups Fa) (g_telling_day Fa) (g_beliefs Fa) (g_fits_day Fa) (g_first_day Fa) (g_count_days Fa) (g_numbered_day Fa) (g_day_number Fa) (g_possible_presses Fa) (g_must_paper Fa) (g_least_times Fa) (g_small_machine Fa) (g_parting_day Fa) (g_told_paper Fa) (g_delay Fa) (g_Reader___init__ Fa)
theorem g__law_refusal (Fa : Facts P K mg) : Def P w K mg base "_law_refusal" 9 7 [] f__law_refusal := ok__law_refusal Fa.T Fa.h__law_refusal (g__law_told Fa) (g__law_call Fa) Fa.EX_BadGraph Fa.EX_BadOrder Fa.EX_TooMany Fa.EX_BadEvent Fa.FL_limit Fa.FL_index (gU__law_told Fa)
theorem g__law_due (Fa : Facts P K mg) : Def P w K mg base "_law_due" 2 7 [] f__law_due := ok__law_due Fa.T Fa.h__law_due (g__law_right_moves Fa)
theorem g__law_built (Fa : Facts P K mg) : Def P w K mg base "_law_built" 2 2 [] f__law_built := ok__law_built Fa.T Fa.h__law_built (g__law_cell Fa) (g__law_row Fa)
theorem law_fn (Fa : Facts P K mg) {fa : Addr} (hfa : mg "law" = some (.ref fa)) : ∃ fd : FuncData, (∀ (s : Shared) (u : Value), BindsTo s fd ⟨[u], []⟩ [("script", u)]) ∧ ∀ base : Heap, True → FnOk P w K mg base (L2.CX P w) 15 fa fd ["script"] (spF K mg 1 f_law) := by
  have T := Fa.T
  have hb : ∀ (base : Heap), True → ∀ (f : Addr) (cdv : Value) (A : Around) (outer : List Env) (s : Shared) (H : Hp) (E : XK), Cg (cxD P w K mg base ["script", "plan", "picks", "far", "things", "moves", "looks", "start", "day", "handed", "row", "right", "due", "due_looks", "rest", "starts", "seen", "k", "event", "refusal"] "law" s_law f cdv A outer s H E) (wxD E) 14 → SSs (cxD P w K mg base ["script", "plan", "picks", "far", "things", "moves", "looks", "start", "day", "handed", "row", "right", "due", "due_looks", "rest", "starts", "seen", "k", "event", "refusal"] "law" s_law f cdv A outer s H E) (wxD E) (defBody s_law) b_law := by
    intro base _ f cdv A outer s H E C
    have G_is_machine : Def P w K mg base "is_machine" 4 2 [] f_is_machine := g_is_machine Fa
    have G__law_cell : Def P w K mg base "_law_cell" 1 2 [] f__law_cell := g__law_cell Fa
    have G__law_row : Def P w K mg base "_law_row" 1 2 [] f__law_row := g__law_row Fa
    have G__law_same : Def P w K mg base "_law_same" 14 2 [] f__law_same := g__law_same Fa
    have G__law_beyond : Def P w K mg base "_law_beyond" 1 3 [] f__law_beyond := g__law_beyond Fa
    have G__law_changed : Def P w K mg base "_law_changed" 2 4 [] f__law_changed := g__law_changed Fa
    have G__law_right_moves : Def P w K mg base "_law_right_moves" 1 1 [] f__law_right_moves := g__law_right_moves Fa
    have G__law_walk : Def P w K mg base "_law_walk" 1 3 [] f__law_walk := g__law_walk Fa
    have G__law_end_told : Def P w K mg base "_law_end_told" 6 3 [] f__law_end_told := g__law_end_told Fa
    have G__law_looks_told : Def P w K mg base "_law_looks_told" 7 4 [] f__law_looks_told := g__law_looks_told Fa
    have G__law_refusal : Def P w K mg base "_law_refusal" 9 7 [] f__law_refusal := g__law_refusal Fa
    have G__law_due : Def P w K mg base "_law_due" 2 7 [] f__law_due := g__law_due Fa
    have G__law_built : Def P w K mg base "_law_built" 2 2 [] f__law_built := g__law_built Fa
    exact (ss_cons (ss_frz 1 (ss_set 1 (se_call G__law_row (C.hr.mono (by decide)) C.tk (sga_fz (se_call G__law_cell (C.hr.mono (by decide)) C.tk (sga_fz (se_rdv 0) (sga_fz se_int sga_nil))) (sga_fz (se_lst (sa_cons se_int (sa_cons se_int (sa_cons se_int (sa_cons se_int (sa_cons se_int (sa_cons se_int (sa_cons se_int (sa_cons se_int (sa_cons se_int (sa_cons se_int (sa_cons se_int (sa_cons se_int sa_nil))))))))))))) sga_nil))) C.nd))
        (ss_cons (ss_frz 2 (ss_set 2 (se_call G__law_row (C.hr.mono (by decide)) C.tk (sga_fz (se_call G__law_cell (C.hr.mono (by decide)) C.tk (sga_fz (se_rdv 0) (sga_fz se_int sga_nil))) (sga_fz (se_lst (sa_cons se_int (sa_cons se_int (sa_cons se_int (sa_cons se_int (sa_cons se_int (sa_cons se_int (sa_cons se_int (sa_cons se_int sa_nil))))))))) sga_nil))) C.nd))
        (ss_cons (ss_set 3 (se_op op_mod vr_mod (se_callTy call_int1 vr_int rfl T.b_int (by decide +kernel) (sa_cons (se_call G__law_cell (C.hr.mono (by decide)) C.tk (sga_fz (se_rdv 0) (sga_fz se_int sga_nil))) sa_nil)) (se_op op_pow vr_pow se_int se_int)) C.nd)
        (ss_cons (ss_frz 4 (ss_set 4 (se_call G__law_built (C.hr.mono (by decide)) C.tk (sga_fz (se_rdv 0) (sga_fz (se_rdv 1) sga_nil))) C.nd))
        (ss_cons (ss_if (st_cmp op_ge vr_cI (se_ixv 1 se_int) se_int) (ss_one (ss_frz 4 (ss_set 4 (se_call G__law_changed (C.hr.mono (by decide)) C.tk (sga_fz (se_rdv 4) (sga_fz (se_ixv 1 se_int) (sga_fz (se_sl (se_rdv 2) so_none (so_some se_int)) (sga_fz (se_rdv 3) sga_nil))))) C.nd))) ss_nil)
        (ss_cons (ss_if (st_cmp (oEq C.hu) vr_eq (se_ixv 1 se_int) se_int) (ss_one (ss_frz 4 (ss_set 4 (se_call G__law_changed (C.hr.mono (by decide)) C.tk (sga_fz (se_rdv 4) (sga_fz (se_ixv 1 se_int) (sga_fz (se_sl (se_rdv 2) (so_some se_int) so_none) (sga_fz (se_rdv 3) sga_nil))))) C.nd))) ss_nil)
        (ss_cons (ss_tg (vs := [5, 6, 7, 8]) (se_rdv 4) (sg_t C.calm (sgs_cons (sg_n 5 C.nd) (sgs_cons (sg_n 6 C.nd) (sgs_cons (sg_n 7 C.nd) (sgs_cons (sg_n 8 C.nd) sgs_nil))))))
        (ss_cons (ss_frz 9 (ss_set 9 (se_lst (sa_cons (se_lc (own := [("row", 10)]) C.calm C.nd (si_any (se_rdv 5)) (blkOk_by (by kernel_rfl)) (fun _ _ _ _ _ => (sg_n 10 C.nd)) (fun _ _ _ _ _ => st_yes) (fun _ _ _ _ _ => (se_callTy call_list_of vr_list rfl T.b_list (by decide +kernel) (sa_cons (se_rdv 10) sa_nil)))) (sa_cons (se_callTy call_list_of vr_list rfl T.b_list (by decide +kernel) (sa_cons (se_rdv 6) sa_nil)) (sa_cons (se_callTy call_list_of vr_list rfl T.b_list (by decide +kernel) (sa_cons (se_rdv 8) sa_nil)) sa_nil)))) C.nd))
        (ss_cons (ss_if (st_cmp (oEq C.hu) vr_eq (se_ixv 1 se_int) se_int) (ss_one (ss_frz 9 (ss_set 9 (se_lst (sa_cons (se_callTy call_tuple_of vr_tuple rfl T.b_tuple (by decide +kernel) (sa_cons (se_lc (own := [("row", 10)]) C.calm C.nd (si_any (se_rdv 5)) (blkOk_by (by kernel_rfl)) (fun _ _ _ _ _ => (sg_n 10 C.nd)) (fun _ _ _ _ _ => st_yes) (fun _ _ _ _ _ => (se_callTy call_tuple_of vr_tuple rfl T.b_tuple (by decide +kernel) (sa_cons (se_rdv 10) sa_nil)))) sa_nil)) (sa_cons (se_callTy call_tuple_of vr_tuple rfl T.b_tuple (by decide +kernel) (sa_cons (se_rdv 6) sa_nil)) (sa_cons (se_callTy call_tuple_of vr_tuple rfl T.b_tuple (by decide +kernel) (sa_cons (se_rdv 8) sa_nil)) sa_nil)))) C.nd))) ss_nil)
        (ss_cons (ss_frz 11 (ss_set 11 (se_call G__law_right_moves (C.hr.mono (by decide)) C.tk (sga_fz (se_rdv 5) sga_nil)) C.nd))
        (ss_cons (ss_if (st_not (st_val (se_call G__law_same (C.hr.mono (by decide)) C.tk (sga_fz (se_call G_is_machine (C.hr.mono (by decide)) C.tk (sga_fz (se_ixv 9 se_int) (sga_fz (se_ixv 9 se_int) sga_nil))) (sga_fz (se_and (se_rdv 11) (se_one (se_cmp (oEq C.hu) vr_eq (se_borB 6 cLen vr_len rfl T.b_len (by decide +kernel)) (se_borB 5 cLen vr_len rfl T.b_len (by decide +kernel))))) sga_nil))))) (ss_one (ss_ret se_bl)) ss_nil)
        (ss_cons (ss_set 12 (se_tup (sa_cons se_str (sa_cons se_int sa_nil))) C.nd)
        (ss_cons (ss_set 13 (se_rdv 12) C.nd)
        (ss_cons (ss_if (st_val (se_rdv 11)) (ss_cons (ss_frz 12 (ss_set 12 (se_call G__law_walk (C.hr.mono (by decide)) C.tk (sga_fz (se_rdv 5) (sga_fz (se_rdv 7) (sga_fz (se_rdv 8) sga_nil)))) C.nd))
        (ss_one (ss_if (st_cmp (oEq C.hu) vr_eq (se_borB 6 cLen vr_len rfl T.b_len (by decide +kernel)) (se_borB 5 cLen vr_len rfl T.b_len (by decide +kernel))) (ss_one (ss_set 13 (se_rdv 12) C.nd)) ss_nil))) ss_nil)
        (ss_cons (ss_if (st_cmp (oEq C.hu) vr_eq (se_ixv 13 se_int) se_str) (ss_one (ss_set 13 (se_tup (sa_cons se_str (sa_cons (se_callTy call_tuple_of vr_tuple rfl T.b_tuple (by decide +kernel) (sa_cons (se_lc (own := [("rest", 14)]) C.calm C.nd (si_any (se_sl (se_ixv 12 se_int) (so_some se_int) so_none)) (blkOk_by (by kernel_rfl)) (fun _ _ _ _ _ => (sg_n 14 C.nd)) (fun _ _ _ _ _ => st_yes) (fun _ _ _ _ _ => (se_ixv 6 (se_rdv 14)))) sa_nil)) sa_nil))) C.nd)) ss_nil)
        (ss_cons (ss_if (st_cmp (oEq C.hu) vr_eq (se_ixv 12 se_int) se_str) (ss_one (ss_set 12 (se_tup (sa_cons se_str (sa_cons (se_ix (se_ixv 12 se_int) (se_un un_neg vr_neg se_int)) sa_nil))) C.nd)) ss_nil)
        (ss_cons (ss_if (st_not (st_val (se_call G__law_same (C.hr.mono (by decide)) C.tk (sga_fz (se_call G__law_end_told (C.hr.mono (by decide)) C.tk (sga_fz (se_ixv 9 se_int) (sga_fz (se_rdv 7) (sga_fz (se_ixv 9 se_int) sga_nil)))) (sga_fz (se_rdv 12) sga_nil))))) (ss_one (ss_ret se_bl)) ss_nil)
        (ss_cons (ss_if (st_not (st_val (se_call G__law_same (C.hr.mono (by decide)) C.tk (sga_fz (se_call G__law_looks_told (C.hr.mono (by decide)) C.tk (sga_fz (se_ixv 9 se_int) (sga_fz (se_ixv 9 se_int) (sga_fz (se_rdv 7) (sga_fz (se_ixv 9 se_int) sga_nil))))) (sga_fz (se_rdv 13) sga_nil))))) (ss_one (ss_ret se_bl)) ss_nil)
        (ss_cons (ss_set 15 (se_ix (se_lst (sa_cons (se_lst (sa_cons (se_rdv 7) sa_nil)) (sa_cons (se_lst sa_nil) (sa_cons (se_lst (sa_cons (se_rdv 7) (sa_cons (se_rdv 7) sa_nil))) sa_nil)))) (se_ixv 1 se_int)) C.nd)
        (ss_cons (ss_frz 16 (ss_setLc 16 (own := [("k", 17)]) C.calm C.nd rfl rfl (sw_true rfl rfl rfl (by decide +kernel)) (si_r1 (se_ix (se_lst (sa_cons se_int (sa_cons se_int (sa_cons se_int (sa_cons (se_op oAdd vr_add se_int (se_op op_mod vr_mod (se_rdv 3) se_int)) sa_nil))))) (se_ixv 1 se_int)) rfl T.b_range) (blkOk_by (by kernel_rfl)) (fun _ _ _ _ _ => (sg_n 17 C.nd)) (fun _ _ _ _ _ => (st_one (st_cmp op_gt vr_cI (se_borB 6 cLen vr_len rfl T.b_len (by decide +kernel)) se_int))) (fun _ _ _ _ _ => (se_ixv 6 se_int))))
        (ss_cons (ss_set 18 se_int C.nd)
        (ss_cons (ss_if (st_w (sw_and (st_cmp op_ge vr_cI (se_ixv 1 se_int) se_int) (sw_and1 (st_cmp op_gt vr_cI (se_borB 5 cLen vr_len rfl T.b_len (by decide +kernel)) se_int)))) (ss_one (ss_frz 18 (ss_set 18 (se_call G__law_beyond (C.hr.mono (by decide)) C.tk (sga_fz (se_callB cLen vr_len rfl T.b_len (by decide +kernel) (sa_cons (se_ixv 5 se_int) sa_nil)) (sga_fz (se_op op_sub vr_sub (se_ixv 1 se_int) se_int) (sga_fz (se_rdv 3) sga_nil)))) C.nd))) ss_nil)
        (ss_cons (ss_frz 19 (ss_set 19 (se_call G__law_due (C.hr.mono (by decide)) C.tk (sga_fz (se_ixv 1 se_int) (sga_fz (se_rdv 5) (sga_fz (se_rdv 6) (sga_fz (se_rdv 7) (sga_fz (se_rdv 15) (sga_fz (se_rdv 16) (sga_fz (se_rdv 18) sga_nil)))))))) C.nd))
        (ss_cons (ss_if (st_cmp (oNe C.hu) vr_ne (se_ixv 19 se_int) se_str) (ss_one (ss_if (st_not (st_val (se_call G__law_same (C.hr.mono (by decide)) C.tk (sga_fz (se_call G__law_refusal (C.hr.mono (by decide)) C.tk (sga_fz (se_ixv 1 se_int) (sga_fz (se_ixv 9 se_int) (sga_fz (se_ixv 9 se_int) (sga_fz (se_rdv 7) (sga_fz (se_rdv 15) (sga_fz (se_rdv 16) (sga_fz (se_rdv 18) sga_nil)))))))) (sga_fz (se_rdv 19) sga_nil))))) (ss_one (ss_ret se_bl)) ss_nil)) ss_nil)
        (ss_one (ss_ret (se_and (se_cmp (oEq C.hu) vr_eq (se_lc (own := [("row", 10)]) C.calm C.nd (si_any (se_ixv 9 se_int)) (blkOk_by (by kernel_rfl)) (fun _ _ _ _ _ => (sg_n 10 C.nd)) (fun _ _ _ _ _ => st_yes) (fun _ _ _ _ _ => (se_callTy call_list_of vr_list rfl T.b_list (by decide +kernel) (sa_cons (se_rdv 10) sa_nil)))) (se_rdv 5)) (se_and (se_cmp (oEq C.hu) vr_eq (se_callTy call_list_of vr_list rfl T.b_list (by decide +kernel) (sa_cons (se_ixv 9 se_int) sa_nil)) (se_rdv 6)) (se_one (se_cmp (oEq C.hu) vr_eq (se_callTy call_list_of vr_list rfl T.b_list (by decide +kernel) (sa_cons (se_ixv 9 se_int) sa_nil)) (se_rdv 8)))))))))))))))))))))))))))))))
  exact law_ok (k := 14) (N := ["script", "plan", "picks", "far", "things", "moves", "looks", "start", "day", "handed", "row", "right", "due", "due_looks", "rest", "starts", "seen", "k", "event", "refusal"]) (st := s_law) (body := b_law) (fun _ => True) Fa.h_law sc_law (fun _ _ _ _ _ _ us hl => match us, hl with | [_], _ => rfl) hb hfa
theorem facts_mk {h : Heap} (X : K.In h) (G : h.Ns mainGlobals mg)
    {x0 : Addr} {od0 an0 : Option Addr} {sl0 : Array (Option Value)} {oc0 kV0 dc0 pm0 cd0 ct0 : Value}
    {x1 : Addr} {od1 an1 : Option Addr} {sl1 : Array (Option Value)} {oc1 kV1 dc1 pm1 cd1 ct1 : Value}
    {x2 : Addr} {od2 an2 : Option Addr} {sl2 : Array (Option Value)} {oc2 kV2 dc2 pm2 cd2 ct2 : Value}
    {x3 : Addr} {od3 an3 : Option Addr} {sl3 : Array (Option Value)} {oc3 kV3 dc3 pm3 cd3 ct3 : Value}
    {x4 : Addr} {od4 an4 : Option Addr} {sl4 : Array (Option Value)} {oc4 kV4 dc4 pm4 cd4 ct4 : Value}
    {x5 : Addr} {od5 an5 : Option Addr} {sl5 : Array (Option Value)} {oc5 kV5 dc5 pm5 cd5 ct5 : Value}
    {x6 : Addr} {od6 an6 : Option Addr} {sl6 : Array (Option Value)} {oc6 kV6 dc6 pm6 cd6 ct6 : Value}
    {x7 : Addr} {od7 an7 : Option Addr} {sl7 : Array (Option Value)} {oc7 kV7 dc7 pm7 cd7 ct7 : Value}
    {x8 : Addr} {od8 an8 : Option Addr} {sl8 : Array (Option Value)} {oc8 kV8 dc8 pm8 cd8 ct8 : Value}
    {x9 : Addr} {od9 an9 : Option Addr} {sl9 : Array (Option Value)} {oc9 kV9 dc9 pm9 cd9 ct9 : Value}
    {x10 : Addr} {od10 an10 : Option Addr} {sl10 : Array (Option Value)} {oc10 kV10 dc10 pm10 cd10 ct10 : Value}
    {x11 : Addr} {od11 an11 : Option Addr} {sl11 : Array (Option Value)} {oc11 kV11 dc11 pm11 cd11 ct11 : Value}
    {x12 : Addr} {od12 an12 : Option Addr} {sl12 : Array (Option Value)} {oc12 kV12 dc12 pm12 cd12 ct12 : Value}
    {x13 : Addr} {od13 an13 : Option Addr} {sl13 : Array (Option Value)} {oc13 kV13 dc13 pm13 cd13 ct13 : Value}
    {x14 : Addr} {od14 an14 : Option Addr} {sl14 : Array (Option Value)} {oc14 kV14 dc14 pm14 cd14 ct14 : Value}
    {x15 : Addr} {od15 an15 : Option Addr} {sl15 : Array (Option Value)} {oc15 kV15 dc15 pm15 cd15 ct15 : Value}
    {x16 : Addr} {od16 an16 : Option Addr} {sl16 : Array (Option Value)} {oc16 kV16 dc16 pm16 cd16 ct16 : Value}
    {x17 : Addr} {od17 an17 : Option Addr} {sl17 : Array (Option Value)} {oc17 kV17 dc17 pm17 cd17 ct17 : Value}
    {x18 : Addr} {od18 an18 : Option Addr} {sl18 : Array (Option Value)} {oc18 kV18 dc18 pm18 cd18 ct18 : Value}
    {x19 : Addr} {od19 an19 : Option Addr} {sl19 : Array (Option Value)} {oc19 kV19 dc19 pm19 cd19 ct19 : Value}
    {x20 : Addr} {od20 an20 : Option Addr} {sl20 : Array (Option Value)} {oc20 kV20 dc20 pm20 cd20 ct20 : Value}
    {x21 : Addr} {od21 an21 : Option Addr} {sl21 : Array (Option Value)} {oc21 kV21 dc21 pm21 cd21 ct21 : Value}
    {x22 : Addr} {od22 an22 : Option Addr} {sl22 : Array (Option Value)} {oc22 kV22 dc22 pm22 cd22 ct22 : Value}
    {x23 : Addr} {od23 an23 : Option Addr} {sl23 : Array (Option Value)} {oc23 kV23 dc23 pm23 cd23 ct23 : Value}
    {x24 : Addr} {od24 an24 : Option Addr} {sl24 : Array (Option Value)} {oc24 kV24 dc24 pm24 cd24 ct24 : Value}
    {x25 : Addr} {od25 an25 : Option Addr} {sl25 : Array (Option Value)} {oc25 kV25 dc25 pm25 cd25 ct25 : Value}
    {x26 : Addr} {od26 an26 : Option Addr} {sl26 : Array (Option Value)} {oc26 kV26 dc26 pm26 cd26 ct26 : Value}
    {x27 : Addr} {od27 an27 : Option Addr} {sl27 : Array (Option Value)} {oc27 kV27 dc27 pm27 cd27 ct27 : Value}
    {x28 : Addr} {od28 an28 : Option Addr} {sl28 : Array (Option Value)} {oc28 kV28 dc28 pm28 cd28 ct28 : Value}
    {x29 : Addr} {od29 an29 : Option Addr} {sl29 : Array (Option Value)} {oc29 kV29 dc29 pm29 cd29 ct29 : Value}
    {x30 : Addr} {od30 an30 : Option Addr} {sl30 : Array (Option Value)} {oc30 kV30 dc30 pm30 cd30 ct30 : Value}
    {x31 : Addr} {od31 an31 : Option Addr} {sl31 : Array (Option Value)} {oc31 kV31 dc31 pm31 cd31 ct31 : Value}
    {x32 : Addr} {od32 an32 : Option Addr} {sl32 : Array (Option Value)} {oc32 kV32 dc32 pm32 cd32 ct32 : Value}
    {x33 : Addr} {od33 an33 : Option Addr} {sl33 : Array (Option Value)} {oc33 kV33 dc33 pm33 cd33 ct33 : Value}
    {x34 : Addr} {od34 an34 : Option Addr} {sl34 : Array (Option Value)} {oc34 kV34 dc34 pm34 cd34 ct34 : Value}
    {x35 : Addr} {od35 an35 : Option Addr} {sl35 : Array (Option Value)} {oc35 kV35 dc35 pm35 cd35 ct35 : Value}
    {x36 : Addr} {od36 an36 : Option Addr} {sl36 : Array (Option Value)} {oc36 kV36 dc36 pm36 cd36 ct36 : Value}
    {x37 : Addr} {od37 an37 : Option Addr} {sl37 : Array (Option Value)} {oc37 kV37 dc37 pm37 cd37 ct37 : Value}
    {x38 : Addr} {od38 an38 : Option Addr} {sl38 : Array (Option Value)} {oc38 kV38 dc38 pm38 cd38 ct38 : Value}
    {x39 : Addr} {od39 an39 : Option Addr} {sl39 : Array (Option Value)} {oc39 kV39 dc39 pm39 cd39 ct39 : Value}
    {x40 : Addr} {od40 an40 : Option Addr} {sl40 : Array (Option Value)} {oc40 kV40 dc40 pm40 cd40 ct40 : Value}
    {x41 : Addr} {od41 an41 : Option Addr} {sl41 : Array (Option Value)} {oc41 kV41 dc41 pm41 cd41 ct41 : Value}
    {x42 : Addr} {od42 an42 : Option Addr} {sl42 : Array (Option Value)} {oc42 kV42 dc42 pm42 cd42 ct42 : Value}
    {x43 : Addr} {od43 an43 : Option Addr} {sl43 : Array (Option Value)} {oc43 kV43 dc43 pm43 cd43 ct43 : Value}
    {x44 : Addr} {od44 an44 : Option Addr} {sl44 : Array (Option Value)} {oc44 kV44 dc44 pm44 cd44 ct44 : Value}
    {x45 : Addr} {od45 an45 : Option Addr} {sl45 : Array (Option Value)} {oc45 kV45 dc45 pm45 cd45 ct45 : Value}
    {x46 : Addr} {od46 an46 : Option Addr} {sl46 : Array (Option Value)} {oc46 kV46 dc46 pm46 cd46 ct46 : Value}
    {y_Reader : Addr}
    (aC_Reader : PySem.W.nsIn K mainGlobals "Reader" = some (some (.ref y_Reader)))
    (pg_Reader : PySem.W.plainGet K y_Reader Str.empty = true)
    (hd_Reader : PySem.W.hasDictIn K y_Reader = true)
    (po_Reader : PySem.W.plainOver K y_Reader = true)
    (sa_Reader : PySem.W.findIn K (.ref y_Reader) "__setattr__" = some (some (.builtin "object.__setattr__")))
    (mk_Reader : PySem.W.makesIn K y_Reader = true)
    (kC_Reader : PySem.W.keepIn K (.ref y_Reader) = true)
    (a_is_integer : PySem.W.nsIn K mainGlobals "is_integer" = some (some (.ref x0)))
    (l_is_integer : K.lookup x0 = some ⟨oc0, od0, .func (PySem.W.fnOf "is_integer" "is_integer" (defArgs s_is_integer) (defBody s_is_integer) (defScope s_is_integer) .none kV0 dc0 pm0 an0 cd0 ct0), sl0⟩)
    (c_is_integer : PySem.W.codeIn K cd0 "is_integer" = true)
    (k_is_integer : PySem.W.keepIn K (.ref x0) = true)
    (a_is_index : PySem.W.nsIn K mainGlobals "is_index" = some (some (.ref x1)))
    (l_is_index : K.lookup x1 = some ⟨oc1, od1, .func (PySem.W.fnOf "is_index" "is_index" (defArgs s_is_index) (defBody s_is_index) (defScope s_is_index) .none kV1 dc1 pm1 an1 cd1 ct1), sl1⟩)
    (c_is_index : PySem.W.codeIn K cd1 "is_index" = true)
    (k_is_index : PySem.W.keepIn K (.ref x1) = true)
    (a_are_moves : PySem.W.nsIn K mainGlobals "are_moves" = some (some (.ref x2)))
    (l_are_moves : K.lookup x2 = some ⟨oc2, od2, .func (PySem.W.fnOf "are_moves" "are_moves" (defArgs s_are_moves) (defBody s_are_moves) (defScope s_are_moves) .none kV2 dc2 pm2 an2 cd2 ct2), sl2⟩)
    (c_are_moves : PySem.W.codeIn K cd2 "are_moves" = true)
    (k_are_moves : PySem.W.keepIn K (.ref x2) = true)
    (a_is_look : PySem.W.nsIn K mainGlobals "is_look" = some (some (.ref x3)))
    (l_is_look : K.lookup x3 = some ⟨oc3, od3, .func (PySem.W.fnOf "is_look" "is_look" (defArgs s_is_look) (defBody s_is_look) (defScope s_is_look) .none kV3 dc3 pm3 an3 cd3 ct3), sl3⟩)
    (c_is_look : PySem.W.codeIn K cd3 "is_look" = true)
    (k_is_look : PySem.W.keepIn K (.ref x3) = true)
    (a_is_machine : PySem.W.nsIn K mainGlobals "is_machine" = some (some (.ref x4)))
    (l_is_machine : K.lookup x4 = some ⟨oc4, od4, .func (PySem.W.fnOf "is_machine" "is_machine" (defArgs s_is_machine) (defBody s_is_machine) (defScope s_is_machine) .none kV4 dc4 pm4 an4 cd4 ct4), sl4⟩)
    (c_is_machine : PySem.W.codeIn K cd4 "is_machine" = true)
    (k_is_machine : PySem.W.keepIn K (.ref x4) = true)
    (a__law_cell : PySem.W.nsIn K mainGlobals "_law_cell" = some (some (.ref x5)))
    (l__law_cell : K.lookup x5 = some ⟨oc5, od5, .func (PySem.W.fnOf "_law_cell" "_law_cell" (defArgs s__law_cell) (defBody s__law_cell) (defScope s__law_cell) .none kV5 dc5 pm5 an5 cd5 ct5), sl5⟩)
    (c__law_cell : PySem.W.codeIn K cd5 "_law_cell" = true)
    (k__law_cell : PySem.W.keepIn K (.ref x5) = true)
    (a__law_row : PySem.W.nsIn K mainGlobals "_law_row" = some (some (.ref x6)))
    (l__law_row : K.lookup x6 = some ⟨oc6, od6, .func (PySem.W.fnOf "_law_row" "_law_row" (defArgs s__law_row) (defBody s__law_row) (defScope s__law_row) .none kV6 dc6 pm6 an6 cd6 ct6), sl6⟩)
    (c__law_row : PySem.W.codeIn K cd6 "_law_row" = true)
    (k__law_row : PySem.W.keepIn K (.ref x6) = true)
    (a__law_is_integer : PySem.W.nsIn K mainGlobals "_law_is_integer" = some (some (.ref x7)))
    (l__law_is_integer : K.lookup x7 = some ⟨oc7, od7, .func (PySem.W.fnOf "_law_is_integer" "_law_is_integer" (defArgs s__law_is_integer) (defBody s__law_is_integer) (defScope s__law_is_integer) .none kV7 dc7 pm7 an7 cd7 ct7), sl7⟩)
    (c__law_is_integer : PySem.W.codeIn K cd7 "_law_is_integer" = true)
    (k__law_is_integer : PySem.W.keepIn K (.ref x7) = true)
    (a__law_same : PySem.W.nsIn K mainGlobals "_law_same" = some (some (.ref x8)))
    (l__law_same : K.lookup x8 = some ⟨oc8, od8, .func (PySem.W.fnOf "_law_same" "_law_same" (defArgs s__law_same) (defBody s__law_same) (defScope s__law_same) .none kV8 dc8 pm8 an8 cd8 ct8), sl8⟩)
    (c__law_same : PySem.W.codeIn K cd8 "_law_same" = true)
    (k__law_same : PySem.W.keepIn K (.ref x8) = true)
    (a__law_beyond : PySem.W.nsIn K mainGlobals "_law_beyond" = some (some (.ref x9)))
    (l__law_beyond : K.lookup x9 = some ⟨oc9, od9, .func (PySem.W.fnOf "_law_beyond" "_law_beyond" (defArgs s__law_beyond) (defBody s__law_beyond) (defScope s__law_beyond) .none kV9 dc9 pm9 an9 cd9 ct9), sl9⟩)
    (c__law_beyond : PySem.W.codeIn K cd9 "_law_beyond" = true)
    (k__law_beyond : PySem.W.keepIn K (.ref x9) = true)
    (a__law_changed : PySem.W.nsIn K mainGlobals "_law_changed" = some (some (.ref x10)))
    (l__law_changed : K.lookup x10 = some ⟨oc10, od10, .func (PySem.W.fnOf "_law_changed" "_law_changed" (defArgs s__law_changed) (defBody s__law_changed) (defScope s__law_changed) .none kV10 dc10 pm10 an10 cd10 ct10), sl10⟩)
    (c__law_changed : PySem.W.codeIn K cd10 "_law_changed" = true)
    (k__law_changed : PySem.W.keepIn K (.ref x10) = true)
    (a__law_right_moves : PySem.W.nsIn K mainGlobals "_law_right_moves" = some (some (.ref x11)))
    (l__law_right_moves : K.lookup x11 = some ⟨oc11, od11, .func (PySem.W.fnOf "_law_right_moves" "_law_right_moves" (defArgs s__law_right_moves) (defBody s__law_right_moves) (defScope s__law_right_moves) .none kV11 dc11 pm11 an11 cd11 ct11), sl11⟩)
    (c__law_right_moves : PySem.W.codeIn K cd11 "_law_right_moves" = true)
    (k__law_right_moves : PySem.W.keepIn K (.ref x11) = true)
    (a__law_walk : PySem.W.nsIn K mainGlobals "_law_walk" = some (some (.ref x12)))
    (l__law_walk : K.lookup x12 = some ⟨oc12, od12, .func (PySem.W.fnOf "_law_walk" "_law_walk" (defArgs s__law_walk) (defBody s__law_walk) (defScope s__law_walk) .none kV12 dc12 pm12 an12 cd12 ct12), sl12⟩)
    (c__law_walk : PySem.W.codeIn K cd12 "_law_walk" = true)
    (k__law_walk : PySem.W.keepIn K (.ref x12) = true)
    (a_demand_rest : PySem.W.nsIn K mainGlobals "demand_rest" = some (some (.ref x13)))
    (l_demand_rest : K.lookup x13 = some ⟨oc13, od13, .func (PySem.W.fnOf "demand_rest" "demand_rest" (defArgs s_demand_rest) (defBody s_demand_rest) (defScope s_demand_rest) .none kV13 dc13 pm13 an13 cd13 ct13), sl13⟩)
    (c_demand_rest : PySem.W.codeIn K cd13 "demand_rest" = true)
    (k_demand_rest : PySem.W.keepIn K (.ref x13) = true)
    (a_demand_event : PySem.W.nsIn K mainGlobals "demand_event" = some (some (.ref x14)))
    (l_demand_event : K.lookup x14 = some ⟨oc14, od14, .func (PySem.W.fnOf "demand_event" "demand_event" (defArgs s_demand_event) (defBody s_demand_event) (defScope s_demand_event) .none kV14 dc14 pm14 an14 cd14 ct14), sl14⟩)
    (c_demand_event : PySem.W.codeIn K cd14 "demand_event" = true)
    (k_demand_event : PySem.W.keepIn K (.ref x14) = true)
    (a_rests_of_day : PySem.W.nsIn K mainGlobals "rests_of_day" = some (some (.ref x15)))
    (l_rests_of_day : K.lookup x15 = some ⟨oc15, od15, .func (PySem.W.fnOf "rests_of_day" "rests_of_day" (defArgs s_rests_of_day) (defBody s_rests_of_day) (defScope s_rests_of_day) .none kV15 dc15 pm15 an15 cd15 ct15), sl15⟩)
    (c_rests_of_day : PySem.W.codeIn K cd15 "rests_of_day" = true)
    (k_rests_of_day : PySem.W.keepIn K (.ref x15) = true)
    (a_day_end : PySem.W.nsIn K mainGlobals "day_end" = some (some (.ref x16)))
    (l_day_end : K.lookup x16 = some ⟨oc16, od16, .func (PySem.W.fnOf "day_end" "day_end" (defArgs s_day_end) (defBody s_day_end) (defScope s_day_end) .none kV16 dc16 pm16 an16 cd16 ct16), sl16⟩)
    (c_day_end : PySem.W.codeIn K cd16 "day_end" = true)
    (k_day_end : PySem.W.keepIn K (.ref x16) = true)
    (a__law_told : PySem.W.nsIn K mainGlobals "_law_told" = some (some (.ref x17)))
    (l__law_told : K.lookup x17 = some ⟨oc17, od17, .func (PySem.W.fnOf "_law_told" "_law_told" (defArgs s__law_told) (defBody s__law_told) (defScope s__law_told) .none kV17 dc17 pm17 an17 cd17 ct17), sl17⟩)
    (c__law_told : PySem.W.codeIn K cd17 "_law_told" = true)
    (k__law_told : PySem.W.keepIn K (.ref x17) = true)
    (a__law_end_told : PySem.W.nsIn K mainGlobals "_law_end_told" = some (some (.ref x18)))
    (l__law_end_told : K.lookup x18 = some ⟨oc18, od18, .func (PySem.W.fnOf "_law_end_told" "_law_end_told" (defArgs s__law_end_told) (defBody s__law_end_told) (defScope s__law_end_told) .none kV18 dc18 pm18 an18 cd18 ct18), sl18⟩)
    (c__law_end_told : PySem.W.codeIn K cd18 "_law_end_told" = true)
    (k__law_end_told : PySem.W.keepIn K (.ref x18) = true)
    (a_demand_machine : PySem.W.nsIn K mainGlobals "demand_machine" = some (some (.ref x19)))
    (l_demand_machine : K.lookup x19 = some ⟨oc19, od19, .func (PySem.W.fnOf "demand_machine" "demand_machine" (defArgs s_demand_machine) (defBody s_demand_machine) (defScope s_demand_machine) .none kV19 dc19 pm19 an19 cd19 ct19), sl19⟩)
    (c_demand_machine : PySem.W.codeIn K cd19 "demand_machine" = true)
    (k_demand_machine : PySem.W.keepIn K (.ref x19) = true)
    (a_day_looks : PySem.W.nsIn K mainGlobals "day_looks" = some (some (.ref x20)))
    (l_day_looks : K.lookup x20 = some ⟨oc20, od20, .func (PySem.W.fnOf "day_looks" "day_looks" (defArgs s_day_looks) (defBody s_day_looks) (defScope s_day_looks) .none kV20 dc20 pm20 an20 cd20 ct20), sl20⟩)
    (c_day_looks : PySem.W.codeIn K cd20 "day_looks" = true)
    (k_day_looks : PySem.W.keepIn K (.ref x20) = true)
    (a__law_looks_told : PySem.W.nsIn K mainGlobals "_law_looks_told" = some (some (.ref x21)))
    (l__law_looks_told : K.lookup x21 = some ⟨oc21, od21, .func (PySem.W.fnOf "_law_looks_told" "_law_looks_told" (defArgs s__law_looks_told) (defBody s__law_looks_told) (defScope s__law_looks_told) .none kV21 dc21 pm21 an21 cd21 ct21), sl21⟩)
    (c__law_looks_told : PySem.W.codeIn K cd21 "_law_looks_told" = true)
    (k__law_looks_told : PySem.W.keepIn K (.ref x21) = true)
    (a_alike_groups : PySem.W.nsIn K mainGlobals "alike_groups" = some (some (.ref x22)))
    (l_alike_groups : K.lookup x22 = some ⟨oc22, od22, .func (PySem.W.fnOf "alike_groups" "alike_groups" (defArgs s_alike_groups) (defBody s_alike_groups) (defScope s_alike_groups) .none kV22 dc22 pm22 an22 cd22 ct22), sl22⟩)
    (c_alike_groups : PySem.W.codeIn K cd22 "alike_groups" = true)
    (k_alike_groups : PySem.W.keepIn K (.ref x22) = true)
    (a_telling_day : PySem.W.nsIn K mainGlobals "telling_day" = some (some (.ref x23)))
    (l_telling_day : K.lookup x23 = some ⟨oc23, od23, .func (PySem.W.fnOf "telling_day" "telling_day" (defArgs s_telling_day) (defBody s_telling_day) (defScope s_telling_day) .none kV23 dc23 pm23 an23 cd23 ct23), sl23⟩)
    (c_telling_day : PySem.W.codeIn K cd23 "telling_day" = true)
    (k_telling_day : PySem.W.keepIn K (.ref x23) = true)
    (a_are_ascending : PySem.W.nsIn K mainGlobals "are_ascending" = some (some (.ref x24)))
    (l_are_ascending : K.lookup x24 = some ⟨oc24, od24, .func (PySem.W.fnOf "are_ascending" "are_ascending" (defArgs s_are_ascending) (defBody s_are_ascending) (defScope s_are_ascending) .none kV24 dc24 pm24 an24 cd24 ct24), sl24⟩)
    (c_are_ascending : PySem.W.codeIn K cd24 "are_ascending" = true)
    (k_are_ascending : PySem.W.keepIn K (.ref x24) = true)
    (a_demand_starts : PySem.W.nsIn K mainGlobals "demand_starts" = some (some (.ref x25)))
    (l_demand_starts : K.lookup x25 = some ⟨oc25, od25, .func (PySem.W.fnOf "demand_starts" "demand_starts" (defArgs s_demand_starts) (defBody s_demand_starts) (defScope s_demand_starts) .none kV25 dc25 pm25 an25 cd25 ct25), sl25⟩)
    (c_demand_starts : PySem.W.codeIn K cd25 "demand_starts" = true)
    (k_demand_starts : PySem.W.keepIn K (.ref x25) = true)
    (a_demand_seen : PySem.W.nsIn K mainGlobals "demand_seen" = some (some (.ref x26)))
    (l_demand_seen : K.lookup x26 = some ⟨oc26, od26, .func (PySem.W.fnOf "demand_seen" "demand_seen" (defArgs s_demand_seen) (defBody s_demand_seen) (defScope s_demand_seen) .none kV26 dc26 pm26 an26 cd26 ct26), sl26⟩)
    (c_demand_seen : PySem.W.codeIn K cd26 "demand_seen" = true)
    (k_demand_seen : PySem.W.keepIn K (.ref x26) = true)
    (a_beliefs : PySem.W.nsIn K mainGlobals "beliefs" = some (some (.ref x27)))
    (l_beliefs : K.lookup x27 = some ⟨oc27, od27, .func (PySem.W.fnOf "beliefs" "beliefs" (defArgs s_beliefs) (defBody s_beliefs) (defScope s_beliefs) .none kV27 dc27 pm27 an27 cd27 ct27), sl27⟩)
    (c_beliefs : PySem.W.codeIn K cd27 "beliefs" = true)
    (k_beliefs : PySem.W.keepIn K (.ref x27) = true)
    (a_fits_day : PySem.W.nsIn K mainGlobals "fits_day" = some (some (.ref x28)))
    (l_fits_day : K.lookup x28 = some ⟨oc28, od28, .func (PySem.W.fnOf "fits_day" "fits_day" (defArgs s_fits_day) (defBody s_fits_day) (defScope s_fits_day) .none kV28 dc28 pm28 an28 cd28 ct28), sl28⟩)
    (c_fits_day : PySem.W.codeIn K cd28 "fits_day" = true)
    (k_fits_day : PySem.W.keepIn K (.ref x28) = true)
    (a_first_day : PySem.W.nsIn K mainGlobals "first_day" = some (some (.ref x29)))
    (l_first_day : K.lookup x29 = some ⟨oc29, od29, .func (PySem.W.fnOf "first_day" "first_day" (defArgs s_first_day) (defBody s_first_day) (defScope s_first_day) .none kV29 dc29 pm29 an29 cd29 ct29), sl29⟩)
    (c_first_day : PySem.W.codeIn K cd29 "first_day" = true)
    (k_first_day : PySem.W.keepIn K (.ref x29) = true)
    (a_demand_question : PySem.W.nsIn K mainGlobals "demand_question" = some (some (.ref x30)))
    (l_demand_question : K.lookup x30 = some ⟨oc30, od30, .func (PySem.W.fnOf "demand_question" "demand_question" (defArgs s_demand_question) (defBody s_demand_question) (defScope s_demand_question) .none kV30 dc30 pm30 an30 cd30 ct30), sl30⟩)
    (c_demand_question : PySem.W.codeIn K cd30 "demand_question" = true)
    (k_demand_question : PySem.W.keepIn K (.ref x30) = true)
    (a_count_days : PySem.W.nsIn K mainGlobals "count_days" = some (some (.ref x31)))
    (l_count_days : K.lookup x31 = some ⟨oc31, od31, .func (PySem.W.fnOf "count_days" "count_days" (defArgs s_count_days) (defBody s_count_days) (defScope s_count_days) .none kV31 dc31 pm31 an31 cd31 ct31), sl31⟩)
    (c_count_days : PySem.W.codeIn K cd31 "count_days" = true)
    (k_count_days : PySem.W.keepIn K (.ref x31) = true)
    (a_numbered_day : PySem.W.nsIn K mainGlobals "numbered_day" = some (some (.ref x32)))
    (l_numbered_day : K.lookup x32 = some ⟨oc32, od32, .func (PySem.W.fnOf "numbered_day" "numbered_day" (defArgs s_numbered_day) (defBody s_numbered_day) (defScope s_numbered_day) .none kV32 dc32 pm32 an32 cd32 ct32), sl32⟩)
    (c_numbered_day : PySem.W.codeIn K cd32 "numbered_day" = true)
    (k_numbered_day : PySem.W.keepIn K (.ref x32) = true)
    (a_day_number : PySem.W.nsIn K mainGlobals "day_number" = some (some (.ref x33)))
    (l_day_number : K.lookup x33 = some ⟨oc33, od33, .func (PySem.W.fnOf "day_number" "day_number" (defArgs s_day_number) (defBody s_day_number) (defScope s_day_number) .none kV33 dc33 pm33 an33 cd33 ct33), sl33⟩)
    (c_day_number : PySem.W.codeIn K cd33 "day_number" = true)
    (k_day_number : PySem.W.keepIn K (.ref x33) = true)
    (a_possible_presses : PySem.W.nsIn K mainGlobals "possible_presses" = some (some (.ref x34)))
    (l_possible_presses : K.lookup x34 = some ⟨oc34, od34, .func (PySem.W.fnOf "possible_presses" "possible_presses" (defArgs s_possible_presses) (defBody s_possible_presses) (defScope s_possible_presses) .none kV34 dc34 pm34 an34 cd34 ct34), sl34⟩)
    (c_possible_presses : PySem.W.codeIn K cd34 "possible_presses" = true)
    (k_possible_presses : PySem.W.keepIn K (.ref x34) = true)
    (a_must_paper : PySem.W.nsIn K mainGlobals "must_paper" = some (some (.ref x35)))
    (l_must_paper : K.lookup x35 = some ⟨oc35, od35, .func (PySem.W.fnOf "must_paper" "must_paper" (defArgs s_must_paper) (defBody s_must_paper) (defScope s_must_paper) .none kV35 dc35 pm35 an35 cd35 ct35), sl35⟩)
    (c_must_paper : PySem.W.codeIn K cd35 "must_paper" = true)
    (k_must_paper : PySem.W.keepIn K (.ref x35) = true)
    (a_least_times : PySem.W.nsIn K mainGlobals "least_times" = some (some (.ref x36)))
    (l_least_times : K.lookup x36 = some ⟨oc36, od36, .func (PySem.W.fnOf "least_times" "least_times" (defArgs s_least_times) (defBody s_least_times) (defScope s_least_times) .none kV36 dc36 pm36 an36 cd36 ct36), sl36⟩)
    (c_least_times : PySem.W.codeIn K cd36 "least_times" = true)
    (k_least_times : PySem.W.keepIn K (.ref x36) = true)
    (a_small_machine : PySem.W.nsIn K mainGlobals "small_machine" = some (some (.ref x37)))
    (l_small_machine : K.lookup x37 = some ⟨oc37, od37, .func (PySem.W.fnOf "small_machine" "small_machine" (defArgs s_small_machine) (defBody s_small_machine) (defScope s_small_machine) .none kV37 dc37 pm37 an37 cd37 ct37), sl37⟩)
    (c_small_machine : PySem.W.codeIn K cd37 "small_machine" = true)
    (k_small_machine : PySem.W.keepIn K (.ref x37) = true)
    (a_parting_day : PySem.W.nsIn K mainGlobals "parting_day" = some (some (.ref x38)))
    (l_parting_day : K.lookup x38 = some ⟨oc38, od38, .func (PySem.W.fnOf "parting_day" "parting_day" (defArgs s_parting_day) (defBody s_parting_day) (defScope s_parting_day) .none kV38 dc38 pm38 an38 cd38 ct38), sl38⟩)
    (c_parting_day : PySem.W.codeIn K cd38 "parting_day" = true)
    (k_parting_day : PySem.W.keepIn K (.ref x38) = true)
    (a_told_paper : PySem.W.nsIn K mainGlobals "told_paper" = some (some (.ref x39)))
    (l_told_paper : K.lookup x39 = some ⟨oc39, od39, .func (PySem.W.fnOf "told_paper" "told_paper" (defArgs s_told_paper) (defBody s_told_paper) (defScope s_told_paper) .none kV39 dc39 pm39 an39 cd39 ct39), sl39⟩)
    (c_told_paper : PySem.W.codeIn K cd39 "told_paper" = true)
    (k_told_paper : PySem.W.keepIn K (.ref x39) = true)
    (a_delay : PySem.W.nsIn K mainGlobals "delay" = some (some (.ref x40)))
    (l_delay : K.lookup x40 = some ⟨oc40, od40, .func (PySem.W.fnOf "delay" "delay" (defArgs s_delay) (defBody s_delay) (defScope s_delay) .none kV40 dc40 pm40 an40 cd40 ct40), sl40⟩)
    (c_delay : PySem.W.codeIn K cd40 "delay" = true)
    (k_delay : PySem.W.keepIn K (.ref x40) = true)
    (a_Reader___init__ : PySem.W.findIn K (.ref y_Reader) "__init__" = some (some (.ref x41)))
    (i_Reader___init__ : PySem.W.isFn K (.ref x41) = true)
    (l_Reader___init__ : K.lookup x41 = some ⟨oc41, od41, .func (PySem.W.fnOf "__init__" "Reader.__init__" (defArgs s_Reader___init__) (defBody s_Reader___init__) (defScope s_Reader___init__) .none kV41 dc41 pm41 an41 cd41 ct41), sl41⟩)
    (c_Reader___init__ : PySem.W.codeIn K cd41 "Reader.__init__" = true)
    (k_Reader___init__ : PySem.W.keepIn K (.ref x41) = true)
    (a__law_call : PySem.W.nsIn K mainGlobals "_law_call" = some (some (.ref x42)))
    (l__law_call : K.lookup x42 = some ⟨oc42, od42, .func (PySem.W.fnOf "_law_call" "_law_call" (defArgs s__law_call) (defBody s__law_call) (defScope s__law_call) .none kV42 dc42 pm42 an42 cd42 ct42), sl42⟩)
    (c__law_call : PySem.W.codeIn K cd42 "_law_call" = true)
    (k__law_call : PySem.W.keepIn K (.ref x42) = true)
    (a__law_refusal : PySem.W.nsIn K mainGlobals "_law_refusal" = some (some (.ref x43)))
    (l__law_refusal : K.lookup x43 = some ⟨oc43, od43, .func (PySem.W.fnOf "_law_refusal" "_law_refusal" (defArgs s__law_refusal) (defBody s__law_refusal) (defScope s__law_refusal) .none kV43 dc43 pm43 an43 cd43 ct43), sl43⟩)
    (c__law_refusal : PySem.W.codeIn K cd43 "_law_refusal" = true)
    (k__law_refusal : PySem.W.keepIn K (.ref x43) = true)
    (a__law_due : PySem.W.nsIn K mainGlobals "_law_due" = some (some (.ref x44)))
    (l__law_due : K.lookup x44 = some ⟨oc44, od44, .func (PySem.W.fnOf "_law_due" "_law_due" (defArgs s__law_due) (defBody s__law_due) (defScope s__law_due) .none kV44 dc44 pm44 an44 cd44 ct44), sl44⟩)
    (c__law_due : PySem.W.codeIn K cd44 "_law_due" = true)
    (k__law_due : PySem.W.keepIn K (.ref x44) = true)
    (a__law_built : PySem.W.nsIn K mainGlobals "_law_built" = some (some (.ref x45)))
    (l__law_built : K.lookup x45 = some ⟨oc45, od45, .func (PySem.W.fnOf "_law_built" "_law_built" (defArgs s__law_built) (defBody s__law_built) (defScope s__law_built) .none kV45 dc45 pm45 an45 cd45 ct45), sl45⟩)
    (c__law_built : PySem.W.codeIn K cd45 "_law_built" = true)
    (k__law_built : PySem.W.keepIn K (.ref x45) = true)
    (a_law : PySem.W.nsIn K mainGlobals "law" = some (some (.ref x46)))
    (l_law : K.lookup x46 = some ⟨oc46, od46, .func (PySem.W.fnOf "law" "law" (defArgs s_law) (defBody s_law) (defScope s_law) .none kV46 dc46 pm46 an46 cd46 ct46), sl46⟩)
    (c_law : PySem.W.codeIn K cd46 "law" = true)
    (k_law : PySem.W.keepIn K (.ref x46) = true)
    (b_bool : PySem.W.nsIn K mainGlobals "bool" = some none)
    (b_int : PySem.W.nsIn K mainGlobals "int" = some none)
    (b_isinstance : PySem.W.nsIn K mainGlobals "isinstance" = some none)
    (b_len : PySem.W.nsIn K mainGlobals "len" = some none)
    (b_list : PySem.W.nsIn K mainGlobals "list" = some none)
    (b_range : PySem.W.nsIn K mainGlobals "range" = some none)
    (b_str : PySem.W.nsIn K mainGlobals "str" = some none)
    (b_tuple : PySem.W.nsIn K mainGlobals "tuple" = some none)
    {t_MOST_EVENTS : Tok} (e_MOST_EVENTS : PySem.W.nsIn K mainGlobals "MOST_EVENTS" = some (some (.int 6 t_MOST_EVENTS)))
    {t_MOST_RESTS : Tok} (e_MOST_RESTS : PySem.W.nsIn K mainGlobals "MOST_RESTS" = some (some (.int 60 t_MOST_RESTS)))
    {t_MOST_CLICKS : Tok} (e_MOST_CLICKS : PySem.W.nsIn K mainGlobals "MOST_CLICKS" = some (some (.int 60 t_MOST_CLICKS)))
    {t_PLAIN : Tok} (e_PLAIN : PySem.W.nsIn K mainGlobals "PLAIN" = some (some (.int 0 t_PLAIN)))
    {t_FLAGGED : Tok} (e_FLAGGED : PySem.W.nsIn K mainGlobals "FLAGGED" = some (some (.int 1 t_FLAGGED)))
    {y_HouseError : Addr}
    {y_BadEvent : Addr}
    {y_BadOrder : Addr}
    {y_BadLog : Addr}
    {y_BadGraph : Addr}
    {y_TooMany : Addr}
    (aC_HouseError : PySem.W.nsIn K mainGlobals "HouseError" = some (some (.ref y_HouseError)))
    (aC_BadEvent : PySem.W.nsIn K mainGlobals "BadEvent" = some (some (.ref y_BadEvent)))
    (aC_BadOrder : PySem.W.nsIn K mainGlobals "BadOrder" = some (some (.ref y_BadOrder)))
    (aC_BadLog : PySem.W.nsIn K mainGlobals "BadLog" = some (some (.ref y_BadLog)))
    (aC_BadGraph : PySem.W.nsIn K mainGlobals "BadGraph" = some (some (.ref y_BadGraph)))
    (aC_TooMany : PySem.W.nsIn K mainGlobals "TooMany" = some (some (.ref y_TooMany)))
    (b_ValueError : PySem.W.nsIn K mainGlobals "ValueError" = some none)
    (hn_ : PySem.W.specialIn K (.builtin "object.__class__") "__get__" = some (some (.builtin "getset_descriptor.__get__")))
    (ht_ : PySem.W.takesIn K (.builtin "object.__class__") = some true)
    (hg_BadEvent : PySem.W.findIn K (.ref y_BadEvent) "__getattribute__" = some (some (.builtin "BaseException.__getattribute__")))
    (hk_BadEvent : PySem.W.findIn K (.ref y_BadEvent) "__getattr__" = some none)
    (hs_BadEvent : PySem.W.subIn K (.ref y_BadEvent) (.type "BaseException") = some true)
    (hd_BadEvent : PySem.W.hasDictIn K y_BadEvent = true)
    (ha_BadEvent : PySem.W.findIn K (.ref y_BadEvent) "__class__" = some (some (.builtin "object.__class__")))
    (hm_BadEvent : PySem.W.mroIn K y_BadEvent (.type "object") = some true)
    (kC_BadEvent : PySem.W.keepIn K (.ref y_BadEvent) = true)
    (tC_BadEvent : PySem.W.typeIn K (.ref y_BadEvent) = some (.type "type"))
    (mr_BadEvent : PySem.W.mroIn K y_BadEvent (.ref y_BadEvent) = some true)
    (su_BadEvent_BadEvent : PySem.W.subIn K (.ref y_BadEvent) (.ref y_BadEvent) = some true)
    (su_BadEvent_BadGraph : PySem.W.subIn K (.ref y_BadEvent) (.ref y_BadGraph) = some false)
    (su_BadEvent_BadOrder : PySem.W.subIn K (.ref y_BadEvent) (.ref y_BadOrder) = some false)
    (su_BadEvent_HouseError : PySem.W.subIn K (.ref y_BadEvent) (.ref y_HouseError) = some true)
    (su_BadEvent_TooMany : PySem.W.subIn K (.ref y_BadEvent) (.ref y_TooMany) = some false)
    (su_BadEvent_ValueError : PySem.W.subIn K (.ref y_BadEvent) (.type "ValueError") = some true)
    (hg_BadOrder : PySem.W.findIn K (.ref y_BadOrder) "__getattribute__" = some (some (.builtin "BaseException.__getattribute__")))
    (hk_BadOrder : PySem.W.findIn K (.ref y_BadOrder) "__getattr__" = some none)
    (hs_BadOrder : PySem.W.subIn K (.ref y_BadOrder) (.type "BaseException") = some true)
    (hd_BadOrder : PySem.W.hasDictIn K y_BadOrder = true)
    (ha_BadOrder : PySem.W.findIn K (.ref y_BadOrder) "__class__" = some (some (.builtin "object.__class__")))
    (hm_BadOrder : PySem.W.mroIn K y_BadOrder (.type "object") = some true)
    (kC_BadOrder : PySem.W.keepIn K (.ref y_BadOrder) = true)
    (tC_BadOrder : PySem.W.typeIn K (.ref y_BadOrder) = some (.type "type"))
    (mr_BadOrder : PySem.W.mroIn K y_BadOrder (.ref y_BadOrder) = some true)
    (su_BadOrder_BadEvent : PySem.W.subIn K (.ref y_BadOrder) (.ref y_BadEvent) = some false)
    (su_BadOrder_BadGraph : PySem.W.subIn K (.ref y_BadOrder) (.ref y_BadGraph) = some false)
    (su_BadOrder_BadOrder : PySem.W.subIn K (.ref y_BadOrder) (.ref y_BadOrder) = some true)
    (su_BadOrder_HouseError : PySem.W.subIn K (.ref y_BadOrder) (.ref y_HouseError) = some true)
    (su_BadOrder_TooMany : PySem.W.subIn K (.ref y_BadOrder) (.ref y_TooMany) = some false)
    (su_BadOrder_ValueError : PySem.W.subIn K (.ref y_BadOrder) (.type "ValueError") = some true)
    (hg_BadLog : PySem.W.findIn K (.ref y_BadLog) "__getattribute__" = some (some (.builtin "BaseException.__getattribute__")))
    (hk_BadLog : PySem.W.findIn K (.ref y_BadLog) "__getattr__" = some none)
    (hs_BadLog : PySem.W.subIn K (.ref y_BadLog) (.type "BaseException") = some true)
    (hd_BadLog : PySem.W.hasDictIn K y_BadLog = true)
    (ha_BadLog : PySem.W.findIn K (.ref y_BadLog) "__class__" = some (some (.builtin "object.__class__")))
    (hm_BadLog : PySem.W.mroIn K y_BadLog (.type "object") = some true)
    (kC_BadLog : PySem.W.keepIn K (.ref y_BadLog) = true)
    (tC_BadLog : PySem.W.typeIn K (.ref y_BadLog) = some (.type "type"))
    (mr_BadLog : PySem.W.mroIn K y_BadLog (.ref y_BadLog) = some true)
    (su_BadLog_BadEvent : PySem.W.subIn K (.ref y_BadLog) (.ref y_BadEvent) = some false)
    (su_BadLog_BadGraph : PySem.W.subIn K (.ref y_BadLog) (.ref y_BadGraph) = some false)
    (su_BadLog_BadOrder : PySem.W.subIn K (.ref y_BadLog) (.ref y_BadOrder) = some false)
    (su_BadLog_HouseError : PySem.W.subIn K (.ref y_BadLog) (.ref y_HouseError) = some true)
    (su_BadLog_TooMany : PySem.W.subIn K (.ref y_BadLog) (.ref y_TooMany) = some false)
    (su_BadLog_ValueError : PySem.W.subIn K (.ref y_BadLog) (.type "ValueError") = some true)
    (hg_BadGraph : PySem.W.findIn K (.ref y_BadGraph) "__getattribute__" = some (some (.builtin "BaseException.__getattribute__")))
    (hk_BadGraph : PySem.W.findIn K (.ref y_BadGraph) "__getattr__" = some none)
    (hs_BadGraph : PySem.W.subIn K (.ref y_BadGraph) (.type "BaseException") = some true)
    (hd_BadGraph : PySem.W.hasDictIn K y_BadGraph = true)
    (ha_BadGraph : PySem.W.findIn K (.ref y_BadGraph) "__class__" = some (some (.builtin "object.__class__")))
    (hm_BadGraph : PySem.W.mroIn K y_BadGraph (.type "object") = some true)
    (kC_BadGraph : PySem.W.keepIn K (.ref y_BadGraph) = true)
    (tC_BadGraph : PySem.W.typeIn K (.ref y_BadGraph) = some (.type "type"))
    (mr_BadGraph : PySem.W.mroIn K y_BadGraph (.ref y_BadGraph) = some true)
    (su_BadGraph_BadEvent : PySem.W.subIn K (.ref y_BadGraph) (.ref y_BadEvent) = some false)
    (su_BadGraph_BadGraph : PySem.W.subIn K (.ref y_BadGraph) (.ref y_BadGraph) = some true)
    (su_BadGraph_BadOrder : PySem.W.subIn K (.ref y_BadGraph) (.ref y_BadOrder) = some false)
    (su_BadGraph_HouseError : PySem.W.subIn K (.ref y_BadGraph) (.ref y_HouseError) = some true)
    (su_BadGraph_TooMany : PySem.W.subIn K (.ref y_BadGraph) (.ref y_TooMany) = some false)
    (su_BadGraph_ValueError : PySem.W.subIn K (.ref y_BadGraph) (.type "ValueError") = some true)
    (hg_TooMany : PySem.W.findIn K (.ref y_TooMany) "__getattribute__" = some (some (.builtin "BaseException.__getattribute__")))
    (hk_TooMany : PySem.W.findIn K (.ref y_TooMany) "__getattr__" = some none)
    (hs_TooMany : PySem.W.subIn K (.ref y_TooMany) (.type "BaseException") = some true)
    (hd_TooMany : PySem.W.hasDictIn K y_TooMany = true)
    (ha_TooMany : PySem.W.findIn K (.ref y_TooMany) "__class__" = some (some (.builtin "object.__class__")))
    (hm_TooMany : PySem.W.mroIn K y_TooMany (.type "object") = some true)
    (kC_TooMany : PySem.W.keepIn K (.ref y_TooMany) = true)
    (tC_TooMany : PySem.W.typeIn K (.ref y_TooMany) = some (.type "type"))
    (mr_TooMany : PySem.W.mroIn K y_TooMany (.ref y_TooMany) = some true)
    (su_TooMany_BadEvent : PySem.W.subIn K (.ref y_TooMany) (.ref y_BadEvent) = some false)
    (su_TooMany_BadGraph : PySem.W.subIn K (.ref y_TooMany) (.ref y_BadGraph) = some false)
    (su_TooMany_BadOrder : PySem.W.subIn K (.ref y_TooMany) (.ref y_BadOrder) = some false)
    (su_TooMany_HouseError : PySem.W.subIn K (.ref y_TooMany) (.ref y_HouseError) = some true)
    (su_TooMany_TooMany : PySem.W.subIn K (.ref y_TooMany) (.ref y_TooMany) = some true)
    (su_TooMany_ValueError : PySem.W.subIn K (.ref y_TooMany) (.type "ValueError") = some true)
    (hs_HouseError : PySem.W.subIn K (.ref y_HouseError) (.type "BaseException") = some true)
    (hd_HouseError : PySem.W.hasDictIn K y_HouseError = true)
    (tC_HouseError : PySem.W.typeIn K (.ref y_HouseError) = some (.type "type"))
    (x_BadOrder : PySem.W.excIn K y_BadOrder bmV "ValueError.__new__" = true)
    {z_BadEvent : Addr} {nmBadEvent qnBadEvent : Str} {NBadEvent : Addr} {bsBadEvent bmBadEvent : List Value} {snBadEvent : List Str} {subBadEvent : List Value} {abBadEvent : Bool} {colBadEvent : Option Bool} {ddBadEvent : Option Addr} {k0BadEvent k1BadEvent k2BadEvent k3BadEvent k5BadEvent : Option Value}
    (nf_BadEvent : PySem.W.findIn K (.ref y_BadEvent) "index" = some none)
    (cl_BadEvent : K.lookup y_BadEvent = some (excClassObj nmBadEvent qnBadEvent y_BadEvent NBadEvent bsBadEvent bmBadEvent true snBadEvent subBadEvent abBadEvent colBadEvent ddBadEvent k0BadEvent k1BadEvent k2BadEvent k3BadEvent k5BadEvent "ValueError.__new__"))
    (rv_BadEvent : PySem.HandSPX.refsVE bmBadEvent = true)
    (sa_BadEvent : PySem.W.findIn K (.ref y_BadEvent) "__setattr__" = some (some (.builtin "object.__setattr__")))
    (iC_BadEvent : PySem.W.findIn K (.ref y_BadEvent) "__init__" = some (some (.ref z_BadEvent)))
    (ti_BadEvent : PySem.W.typeIn K (.ref z_BadEvent) = some (.type "function"))
    (xt_BadEvent : PySem.W.excTail bmV bmBadEvent = true)
    {cdB_BadEvent : ClassData}
    (cb_BadEvent : PySem.W.clsIn K y_HouseError = some cdB_BadEvent)
    (mb_BadEvent : cdB_BadEvent.mro = bmBadEvent)
    (fb_BadEvent : PySem.W.findIn K (.ref y_HouseError) "__init__" = some (some (.builtin "ValueError.__init__")))
    (ve_BadEvent : PySem.W.subIn K (.ref y_BadEvent) (.type "ValueError") = some true)
    (cs_BadEvent : PySem.W.nsIn K cStatics "thirdparty.any" = some none)
    (sm_BadEvent : PySem.W.nsIn K mainGlobals "super" = some none)
    {oc_BadEvent ccl_BadEvent cL_BadEvent doc_BadEvent pm_BadEvent ct_BadEvent : Value} {od_BadEvent cdd_BadEvent cld_BadEvent an_BadEvent : Option Addr} {cda_BadEvent cc_BadEvent : Addr} {osl_BadEvent ccs_BadEvent csl_BadEvent : Array (Option Value)} {vs_BadEvent : Array Value} {file_BadEvent : Str} {tf_BadEvent : Tok}
    (li_BadEvent : K.lookup z_BadEvent = some ⟨oc_BadEvent, od_BadEvent, .func (PySem.W.ksFn "__init__" "BadEvent.__init__" (defArgs (inClass (topS 3) 0)) (defBody (inClass (topS 3) 0)) (defScope (inClass (topS 3) 0)) .none .none doc_BadEvent pm_BadEvent an_BadEvent (.ref cda_BadEvent) ct_BadEvent cc_BadEvent), osl_BadEvent⟩)
    (ci_BadEvent : PySem.W.codeIn K (.ref cda_BadEvent) "BadEvent.__init__" = true)
    (co_BadEvent : K.lookup cda_BadEvent = some ⟨ccl_BadEvent, cdd_BadEvent, .fields vs_BadEvent, ccs_BadEvent⟩)
    (vs2_BadEvent : vs_BadEvent[2]? = some (.str file_BadEvent tf_BadEvent))
    (fi_BadEvent : ((PySem.Challenge.pw_calmhouse_k70_machine_arguments.main.file : Str) == file_BadEvent) = true)
    (ce_BadEvent : K.lookup cc_BadEvent = some ⟨cL_BadEvent, cld_BadEvent, .cell (some (.ref y_BadEvent)), csl_BadEvent⟩)
    (x_BadGraph : PySem.W.excIn K y_BadGraph bmV "ValueError.__new__" = true)
    {z_TooMany : Addr} {nmTooMany qnTooMany : Str} {NTooMany : Addr} {bsTooMany bmTooMany : List Value} {snTooMany : List Str} {subTooMany : List Value} {abTooMany : Bool} {colTooMany : Option Bool} {ddTooMany : Option Addr} {k0TooMany k1TooMany k2TooMany k3TooMany k5TooMany : Option Value}
    (nf_TooMany : PySem.W.findIn K (.ref y_TooMany) "limit" = some none)
    (cl_TooMany : K.lookup y_TooMany = some (excClassObj nmTooMany qnTooMany y_TooMany NTooMany bsTooMany bmTooMany true snTooMany subTooMany abTooMany colTooMany ddTooMany k0TooMany k1TooMany k2TooMany k3TooMany k5TooMany "ValueError.__new__"))
    (rv_TooMany : PySem.HandSPX.refsVE bmTooMany = true)
    (sa_TooMany : PySem.W.findIn K (.ref y_TooMany) "__setattr__" = some (some (.builtin "object.__setattr__")))
    (iC_TooMany : PySem.W.findIn K (.ref y_TooMany) "__init__" = some (some (.ref z_TooMany)))
    (ti_TooMany : PySem.W.typeIn K (.ref z_TooMany) = some (.type "function"))
    (xt_TooMany : PySem.W.excTail bmV bmTooMany = true)
    {cdB_TooMany : ClassData}
    (cb_TooMany : PySem.W.clsIn K y_HouseError = some cdB_TooMany)
    (mb_TooMany : cdB_TooMany.mro = bmTooMany)
    (fb_TooMany : PySem.W.findIn K (.ref y_HouseError) "__init__" = some (some (.builtin "ValueError.__init__")))
    (ve_TooMany : PySem.W.subIn K (.ref y_TooMany) (.type "ValueError") = some true)
    (cs_TooMany : PySem.W.nsIn K cStatics "thirdparty.any" = some none)
    (sm_TooMany : PySem.W.nsIn K mainGlobals "super" = some none)
    {oc_TooMany ccl_TooMany cL_TooMany doc_TooMany pm_TooMany ct_TooMany : Value} {od_TooMany cdd_TooMany cld_TooMany an_TooMany : Option Addr} {cda_TooMany cc_TooMany : Addr} {osl_TooMany ccs_TooMany csl_TooMany : Array (Option Value)} {vs_TooMany : Array Value} {file_TooMany : Str} {tf_TooMany : Tok}
    (li_TooMany : K.lookup z_TooMany = some ⟨oc_TooMany, od_TooMany, .func (PySem.W.ksFn "__init__" "TooMany.__init__" (defArgs (inClass (topS 7) 0)) (defBody (inClass (topS 7) 0)) (defScope (inClass (topS 7) 0)) .none .none doc_TooMany pm_TooMany an_TooMany (.ref cda_TooMany) ct_TooMany cc_TooMany), osl_TooMany⟩)
    (ci_TooMany : PySem.W.codeIn K (.ref cda_TooMany) "TooMany.__init__" = true)
    (co_TooMany : K.lookup cda_TooMany = some ⟨ccl_TooMany, cdd_TooMany, .fields vs_TooMany, ccs_TooMany⟩)
    (vs2_TooMany : vs_TooMany[2]? = some (.str file_TooMany tf_TooMany))
    (fi_TooMany : ((PySem.Challenge.pw_calmhouse_k70_machine_arguments.main.file : Str) == file_TooMany) = true)
    (ce_TooMany : K.lookup cc_TooMany = some ⟨cL_TooMany, cld_TooMany, .cell (some (.ref y_TooMany)), csl_TooMany⟩) : Facts PySem.Challenge.pw_calmhouse_k70_machine_arguments K mg where
  T := { b_bool := PySem.W.mg_none_of X G b_bool, b_int := PySem.W.mg_none_of X G b_int, b_isinstance := PySem.W.mg_none_of X G b_isinstance, b_len := PySem.W.mg_none_of X G b_len, b_list := PySem.W.mg_none_of X G b_list, b_range := PySem.W.mg_none_of X G b_range, b_str := PySem.W.mg_none_of X G b_str, b_tuple := PySem.W.mg_none_of X G b_tuple, c_MOST_EVENTS := ⟨_, PySem.W.mg_of X G e_MOST_EVENTS⟩, c_MOST_RESTS := ⟨_, PySem.W.mg_of X G e_MOST_RESTS⟩, c_MOST_CLICKS := ⟨_, PySem.W.mg_of X G e_MOST_CLICKS⟩, c_PLAIN := ⟨_, PySem.W.mg_of X G e_PLAIN⟩, c_FLAGGED := ⟨_, PySem.W.mg_of X G e_FLAGGED⟩ }
  h_is_integer := HasFn.is ⟨_, _, _, _, _, _, _, _, _, _, a_is_integer, l_is_integer, c_is_integer, k_is_integer⟩ X G
  h_is_index := HasFn.is ⟨_, _, _, _, _, _, _, _, _, _, a_is_index, l_is_index, c_is_index, k_is_index⟩ X G
  h_are_moves := HasFn.is ⟨_, _, _, _, _, _, _, _, _, _, a_are_moves, l_are_moves, c_are_moves, k_are_moves⟩ X G
  h_is_look := HasFn.is ⟨_, _, _, _, _, _, _, _, _, _, a_is_look, l_is_look, c_is_look, k_is_look⟩ X G
  h_is_machine := HasFn.is ⟨_, _, _, _, _, _, _, _, _, _, a_is_machine, l_is_machine, c_is_machine, k_is_machine⟩ X G
  h__law_cell := HasFn.is ⟨_, _, _, _, _, _, _, _, _, _, a__law_cell, l__law_cell, c__law_cell, k__law_cell⟩ X G
  h__law_row := HasFn.is ⟨_, _, _, _, _, _, _, _, _, _, a__law_row, l__law_row, c__law_row, k__law_row⟩ X G
  h__law_is_integer := HasFn.is ⟨_, _, _, _, _, _, _, _, _, _, a__law_is_integer, l__law_is_integer, c__law_is_integer, k__law_is_integer⟩ X G
  h__law_same := HasFn.is ⟨_, _, _, _, _, _, _, _, _, _, a__law_same, l__law_same, c__law_same, k__law_same⟩ X G
  h__law_beyond := HasFn.is ⟨_, _, _, _, _, _, _, _, _, _, a__law_beyond, l__law_beyond, c__law_beyond, k__law_beyond⟩ X G
  h__law_changed := HasFn.is ⟨_, _, _, _, _, _, _, _, _, _, a__law_changed, l__law_changed, c__law_changed, k__law_changed⟩ X G
  h__law_right_moves := HasFn.is ⟨_, _, _, _, _, _, _, _, _, _, a__law_right_moves, l__law_right_moves, c__law_right_moves, k__law_right_moves⟩ X G
  h__law_walk := HasFn.is ⟨_, _, _, _, _, _, _, _, _, _, a__law_walk, l__law_walk, c__law_walk, k__law_walk⟩ X G
  h_demand_rest := HasFn.is ⟨_, _, _, _, _, _, _, _, _, _, a_demand_rest, l_demand_rest, c_demand_rest, k_demand_rest⟩ X G
  h_demand_event := HasFn.is ⟨_, _, _, _, _, _, _, _, _, _, a_demand_event, l_demand_event, c_demand_event, k_demand_event⟩ X G
  h_rests_of_day := HasFn.is ⟨_, _, _, _, _, _, _, _, _, _, a_rests_of_day, l_rests_of_day, c_rests_of_day, k_rests_of_day⟩ X G
  h_day_end := HasFn.is ⟨_, _, _, _, _, _, _, _, _, _, a_day_end, l_day_end, c_day_end, k_day_end⟩ X G
  h__law_told := HasFn.is ⟨_, _, _, _, _, _, _, _, _, _, a__law_told, l__law_told, c__law_told, k__law_told⟩ X G
  h__law_end_told := HasFn.is ⟨_, _, _, _, _, _, _, _, _, _, a__law_end_told, l__law_end_told, c__law_end_told, k__law_end_told⟩ X G
  h_demand_machine := HasFn.is ⟨_, _, _, _, _, _, _, _, _, _, a_demand_machine, l_demand_machine, c_demand_machine, k_demand_machine⟩ X G
  h_day_looks := HasFn.is ⟨_, _, _, _, _, _, _, _, _, _, a_day_looks, l_day_looks, c_day_looks, k_day_looks⟩ X G
  h__law_looks_told := HasFn.is ⟨_, _, _, _, _, _, _, _, _, _, a__law_looks_told, l__law_looks_told, c__law_looks_told, k__law_looks_told⟩ X G
  h_alike_groups := HasFn.is ⟨_, _, _, _, _, _, _, _, _, _, a_alike_groups, l_alike_groups, c_alike_groups, k_alike_groups⟩ X G
  h_telling_day := HasFn.is ⟨_, _, _, _, _, _, _, _, _, _, a_telling_day, l_telling_day, c_telling_day, k_telling_day⟩ X G
  h_are_ascending := HasFn.is ⟨_, _, _, _, _, _, _, _, _, _, a_are_ascending, l_are_ascending, c_are_ascending, k_are_ascending⟩ X G
  h_demand_starts := HasFn.is ⟨_, _, _, _, _, _, _, _, _, _, a_demand_starts, l_demand_starts, c_demand_starts, k_demand_starts⟩ X G
  h_demand_seen := HasFn.is ⟨_, _, _, _, _, _, _, _, _, _, a_demand_seen, l_demand_seen, c_demand_seen, k_demand_seen⟩ X G
  h_beliefs := HasFn.is ⟨_, _, _, _, _, _, _, _, _, _, a_beliefs, l_beliefs, c_beliefs, k_beliefs⟩ X G
  h_fits_day := HasFn.is ⟨_, _, _, _, _, _, _, _, _, _, a_fits_day, l_fits_day, c_fits_day, k_fits_day⟩ X G
  h_first_day := HasFn.is ⟨_, _, _, _, _, _, _, _, _, _, a_first_day, l_first_day, c_first_day, k_first_day⟩ X G
  h_demand_question := HasFn.is ⟨_, _, _, _, _, _, _, _, _, _, a_demand_question, l_demand_question, c_demand_question, k_demand_question⟩ X G
  h_count_days := HasFn.is ⟨_, _, _, _, _, _, _, _, _, _, a_count_days, l_count_days, c_count_days, k_count_days⟩ X G
  h_numbered_day := HasFn.is ⟨_, _, _, _, _, _, _, _, _, _, a_numbered_day, l_numbered_day, c_numbered_day, k_numbered_day⟩ X G
  h_day_number := HasFn.is ⟨_, _, _, _, _, _, _, _, _, _, a_day_number, l_day_number, c_day_number, k_day_number⟩ X G
  h_possible_presses := HasFn.is ⟨_, _, _, _, _, _, _, _, _, _, a_possible_presses, l_possible_presses, c_possible_presses, k_possible_presses⟩ X G
  h_must_paper := HasFn.is ⟨_, _, _, _, _, _, _, _, _, _, a_must_paper, l_must_paper, c_must_paper, k_must_paper⟩ X G
  h_least_times := HasFn.is ⟨_, _, _, _, _, _, _, _, _, _, a_least_times, l_least_times, c_least_times, k_least_times⟩ X G
  h_small_machine := HasFn.is ⟨_, _, _, _, _, _, _, _, _, _, a_small_machine, l_small_machine, c_small_machine, k_small_machine⟩ X G
  h_parting_day := HasFn.is ⟨_, _, _, _, _, _, _, _, _, _, a_parting_day, l_parting_day, c_parting_day, k_parting_day⟩ X G
  h_told_paper := HasFn.is ⟨_, _, _, _, _, _, _, _, _, _, a_told_paper, l_told_paper, c_told_paper, k_told_paper⟩ X G
  h_delay := HasFn.is ⟨_, _, _, _, _, _, _, _, _, _, a_delay, l_delay, c_delay, k_delay⟩ X G
  h_Reader___init__ := ⟨_, _, _, PySem.W.mg_of X G aC_Reader, aC_Reader, ⟨mk_Reader, a_Reader___init__, i_Reader___init__, kC_Reader⟩, (fun_mk l_Reader___init__ c_Reader___init__ k_Reader___init__)⟩
  h__law_call := HasFn.is ⟨_, _, _, _, _, _, _, _, _, _, a__law_call, l__law_call, c__law_call, k__law_call⟩ X G
  h__law_refusal := HasFn.is ⟨_, _, _, _, _, _, _, _, _, _, a__law_refusal, l__law_refusal, c__law_refusal, k__law_refusal⟩ X G
  h__law_due := HasFn.is ⟨_, _, _, _, _, _, _, _, _, _, a__law_due, l__law_due, c__law_due, k__law_due⟩ X G
  h__law_built := HasFn.is ⟨_, _, _, _, _, _, _, _, _, _, a__law_built, l__law_built, c__law_built, k__law_built⟩ X G
  h_law := HasFn.is ⟨_, _, _, _, _, _, _, _, _, _, a_law, l_law, c_law, k_law⟩ X G
  R_BadOrder := ⟨_, aC_BadOrder, PySem.W.mg_of X G aC_BadOrder, x_BadOrder, kC_BadOrder, hs_BadOrder, tC_BadOrder⟩
  RF_BadEvent := ⟨_, _, aC_BadEvent, PySem.W.mg_of X G aC_BadEvent, { cls := ⟨_, _, _, _, _, _, _, _, _, _, _, _, _, _, _, cl_BadEvent, rv_BadEvent⟩, sa := sa_BadEvent, noN := nf_BadEvent, iC := iC_BadEvent, tC := ti_BadEvent, kC := kC_BadEvent, exC := hs_BadEvent, veC := ve_BadEvent, tyC := tC_BadEvent, inC := PySem.W.vs_excInit cl_BadEvent xt_BadEvent, sup := PySem.W.vs_super cl_BadEvent cb_BadEvent mb_BadEvent fb_BadEvent, mro := mr_BadEvent, cs := cs_BadEvent, sm := PySem.W.mg_none_of X G sm_BadEvent, top := by kernel_rfl, bnd := fun _ _ _ _ _ _ _ _ _ _ _ _ => rfl, fn := ⟨_, _, _, _, _, _, _, _, _, _, _, _, _, _, _, _, _, _, _, _, _, _, _, _, _, _, _, _, _, _, _, _, _, li_BadEvent, ci_BadEvent, co_BadEvent, vs2_BadEvent, fi_BadEvent, ce_BadEvent, fun _ => ⟨_, rfl⟩⟩ }⟩
  R_BadGraph := ⟨_, aC_BadGraph, PySem.W.mg_of X G aC_BadGraph, x_BadGraph, kC_BadGraph, hs_BadGraph, tC_BadGraph⟩
  IS_BadGraph := ⟨_, (.cons aC_BadEvent ⟨hg_BadEvent, hk_BadEvent, hs_BadEvent, hd_BadEvent, ha_BadEvent, hn_, ht_, hm_BadEvent⟩ (PySem.W.vs_kit_ref hd_BadGraph tC_BadGraph mr_BadEvent su_BadEvent_BadGraph) (.cons aC_BadOrder ⟨hg_BadOrder, hk_BadOrder, hs_BadOrder, hd_BadOrder, ha_BadOrder, hn_, ht_, hm_BadOrder⟩ (PySem.W.vs_kit_ref hd_BadGraph tC_BadGraph mr_BadOrder su_BadOrder_BadGraph) (.cons aC_BadLog ⟨hg_BadLog, hk_BadLog, hs_BadLog, hd_BadLog, ha_BadLog, hn_, ht_, hm_BadLog⟩ (PySem.W.vs_kit_ref hd_BadGraph tC_BadGraph mr_BadLog su_BadLog_BadGraph) (.cons aC_BadGraph ⟨hg_BadGraph, hk_BadGraph, hs_BadGraph, hd_BadGraph, ha_BadGraph, hn_, ht_, hm_BadGraph⟩ (PySem.W.vs_kit_ref hd_BadGraph tC_BadGraph mr_BadGraph su_BadGraph_BadGraph) (.cons aC_TooMany ⟨hg_TooMany, hk_TooMany, hs_TooMany, hd_TooMany, ha_TooMany, hn_, ht_, hm_TooMany⟩ (PySem.W.vs_kit_ref hd_BadGraph tC_BadGraph mr_TooMany su_TooMany_BadGraph) .nil))))), .inl ⟨_, rfl, PySem.W.mg_of X G aC_BadGraph⟩⟩
  IS_BadOrder := ⟨_, (.cons aC_BadEvent ⟨hg_BadEvent, hk_BadEvent, hs_BadEvent, hd_BadEvent, ha_BadEvent, hn_, ht_, hm_BadEvent⟩ (PySem.W.vs_kit_ref hd_BadOrder tC_BadOrder mr_BadEvent su_BadEvent_BadOrder) (.cons aC_BadOrder ⟨hg_BadOrder, hk_BadOrder, hs_BadOrder, hd_BadOrder, ha_BadOrder, hn_, ht_, hm_BadOrder⟩ (PySem.W.vs_kit_ref hd_BadOrder tC_BadOrder mr_BadOrder su_BadOrder_BadOrder) (.cons aC_BadLog ⟨hg_BadLog, hk_BadLog, hs_BadLog, hd_BadLog, ha_BadLog, hn_, ht_, hm_BadLog⟩ (PySem.W.vs_kit_ref hd_BadOrder tC_BadOrder mr_BadLog su_BadLog_BadOrder) (.cons aC_BadGraph ⟨hg_BadGraph, hk_BadGraph, hs_BadGraph, hd_BadGraph, ha_BadGraph, hn_, ht_, hm_BadGraph⟩ (PySem.W.vs_kit_ref hd_BadOrder tC_BadOrder mr_BadGraph su_BadGraph_BadOrder) (.cons aC_TooMany ⟨hg_TooMany, hk_TooMany, hs_TooMany, hd_TooMany, ha_TooMany, hn_, ht_, hm_TooMany⟩ (PySem.W.vs_kit_ref hd_BadOrder tC_BadOrder mr_TooMany su_TooMany_BadOrder) .nil))))), .inl ⟨_, rfl, PySem.W.mg_of X G aC_BadOrder⟩⟩
  IS_TooMany := ⟨_, (.cons aC_BadEvent ⟨hg_BadEvent, hk_BadEvent, hs_BadEvent, hd_BadEvent, ha_BadEvent, hn_, ht_, hm_BadEvent⟩ (PySem.W.vs_kit_ref hd_TooMany tC_TooMany mr_BadEvent su_BadEvent_TooMany) (.cons aC_BadOrder ⟨hg_BadOrder, hk_BadOrder, hs_BadOrder, hd_BadOrder, ha_BadOrder, hn_, ht_, hm_BadOrder⟩ (PySem.W.vs_kit_ref hd_TooMany tC_TooMany mr_BadOrder su_BadOrder_TooMany) (.cons aC_BadLog ⟨hg_BadLog, hk_BadLog, hs_BadLog, hd_BadLog, ha_BadLog, hn_, ht_, hm_BadLog⟩ (PySem.W.vs_kit_ref hd_TooMany tC_TooMany mr_BadLog su_BadLog_TooMany) (.cons aC_BadGraph ⟨hg_BadGraph, hk_BadGraph, hs_BadGraph, hd_BadGraph, ha_BadGraph, hn_, ht_, hm_BadGraph⟩ (PySem.W.vs_kit_ref hd_TooMany tC_TooMany mr_BadGraph su_BadGraph_TooMany) (.cons aC_TooMany ⟨hg_TooMany, hk_TooMany, hs_TooMany, hd_TooMany, ha_TooMany, hn_, ht_, hm_TooMany⟩ (PySem.W.vs_kit_ref hd_TooMany tC_TooMany mr_TooMany su_TooMany_TooMany) .nil))))), .inl ⟨_, rfl, PySem.W.mg_of X G aC_TooMany⟩⟩
  IS_BadEvent := ⟨_, (.cons aC_BadEvent ⟨hg_BadEvent, hk_BadEvent, hs_BadEvent, hd_BadEvent, ha_BadEvent, hn_, ht_, hm_BadEvent⟩ (PySem.W.vs_kit_ref hd_BadEvent tC_BadEvent mr_BadEvent su_BadEvent_BadEvent) (.cons aC_BadOrder ⟨hg_BadOrder, hk_BadOrder, hs_BadOrder, hd_BadOrder, ha_BadOrder, hn_, ht_, hm_BadOrder⟩ (PySem.W.vs_kit_ref hd_BadEvent tC_BadEvent mr_BadOrder su_BadOrder_BadEvent) (.cons aC_BadLog ⟨hg_BadLog, hk_BadLog, hs_BadLog, hd_BadLog, ha_BadLog, hn_, ht_, hm_BadLog⟩ (PySem.W.vs_kit_ref hd_BadEvent tC_BadEvent mr_BadLog su_BadLog_BadEvent) (.cons aC_BadGraph ⟨hg_BadGraph, hk_BadGraph, hs_BadGraph, hd_BadGraph, ha_BadGraph, hn_, ht_, hm_BadGraph⟩ (PySem.W.vs_kit_ref hd_BadEvent tC_BadEvent mr_BadGraph su_BadGraph_BadEvent) (.cons aC_TooMany ⟨hg_TooMany, hk_TooMany, hs_TooMany, hd_TooMany, ha_TooMany, hn_, ht_, hm_TooMany⟩ (PySem.W.vs_kit_ref hd_BadEvent tC_BadEvent mr_TooMany su_TooMany_BadEvent) .nil))))), .inl ⟨_, rfl, PySem.W.mg_of X G aC_BadEvent⟩⟩
  IS_HouseError := ⟨_, (.cons aC_BadEvent ⟨hg_BadEvent, hk_BadEvent, hs_BadEvent, hd_BadEvent, ha_BadEvent, hn_, ht_, hm_BadEvent⟩ (PySem.W.vs_kit_ref hd_HouseError tC_HouseError mr_BadEvent su_BadEvent_HouseError) (.cons aC_BadOrder ⟨hg_BadOrder, hk_BadOrder, hs_BadOrder, hd_BadOrder, ha_BadOrder, hn_, ht_, hm_BadOrder⟩ (PySem.W.vs_kit_ref hd_HouseError tC_HouseError mr_BadOrder su_BadOrder_HouseError) (.cons aC_BadLog ⟨hg_BadLog, hk_BadLog, hs_BadLog, hd_BadLog, ha_BadLog, hn_, ht_, hm_BadLog⟩ (PySem.W.vs_kit_ref hd_HouseError tC_HouseError mr_BadLog su_BadLog_HouseError) (.cons aC_BadGraph ⟨hg_BadGraph, hk_BadGraph, hs_BadGraph, hd_BadGraph, ha_BadGraph, hn_, ht_, hm_BadGraph⟩ (PySem.W.vs_kit_ref hd_HouseError tC_HouseError mr_BadGraph su_BadGraph_HouseError) (.cons aC_TooMany ⟨hg_TooMany, hk_TooMany, hs_TooMany, hd_TooMany, ha_TooMany, hn_, ht_, hm_TooMany⟩ (PySem.W.vs_kit_ref hd_HouseError tC_HouseError mr_TooMany su_TooMany_HouseError) .nil))))), .inl ⟨_, rfl, PySem.W.mg_of X G aC_HouseError⟩⟩
  IS_ValueError := ⟨_, (.cons aC_BadEvent ⟨hg_BadEvent, hk_BadEvent, hs_BadEvent, hd_BadEvent, ha_BadEvent, hn_, ht_, hm_BadEvent⟩ (PySem.W.vs_kit_type (by decide +kernel) su_BadEvent_ValueError) (.cons aC_BadOrder ⟨hg_BadOrder, hk_BadOrder, hs_BadOrder, hd_BadOrder, ha_BadOrder, hn_, ht_, hm_BadOrder⟩ (PySem.W.vs_kit_type (by decide +kernel) su_BadOrder_ValueError) (.cons aC_BadLog ⟨hg_BadLog, hk_BadLog, hs_BadLog, hd_BadLog, ha_BadLog, hn_, ht_, hm_BadLog⟩ (PySem.W.vs_kit_type (by decide +kernel) su_BadLog_ValueError) (.cons aC_BadGraph ⟨hg_BadGraph, hk_BadGraph, hs_BadGraph, hd_BadGraph, ha_BadGraph, hn_, ht_, hm_BadGraph⟩ (PySem.W.vs_kit_type (by decide +kernel) su_BadGraph_ValueError) (.cons aC_TooMany ⟨hg_TooMany, hk_TooMany, hs_TooMany, hd_TooMany, ha_TooMany, hn_, ht_, hm_TooMany⟩ (PySem.W.vs_kit_type (by decide +kernel) su_TooMany_ValueError) .nil))))), .inr ⟨_, rfl, PySem.W.mg_none_of X G b_ValueError, PyProof.Rows.Boot.«ValueError», by decide⟩⟩
  EX_BadGraph := ⟨_, PySem.W.mg_of X G aC_BadGraph, (.cons aC_BadEvent (PySem.W.exm_ref hs_BadGraph hd_BadGraph tC_BadGraph su_BadEvent_BadGraph) (.cons aC_BadOrder (PySem.W.exm_ref hs_BadGraph hd_BadGraph tC_BadGraph su_BadOrder_BadGraph) (.cons aC_BadLog (PySem.W.exm_ref hs_BadGraph hd_BadGraph tC_BadGraph su_BadLog_BadGraph) (.cons aC_BadGraph (PySem.W.exm_ref hs_BadGraph hd_BadGraph tC_BadGraph su_BadGraph_BadGraph) (.cons aC_TooMany (PySem.W.exm_ref hs_BadGraph hd_BadGraph tC_BadGraph su_TooMany_BadGraph) .nil)))))⟩
  EX_BadOrder := ⟨_, PySem.W.mg_of X G aC_BadOrder, (.cons aC_BadEvent (PySem.W.exm_ref hs_BadOrder hd_BadOrder tC_BadOrder su_BadEvent_BadOrder) (.cons aC_BadOrder (PySem.W.exm_ref hs_BadOrder hd_BadOrder tC_BadOrder su_BadOrder_BadOrder) (.cons aC_BadLog (PySem.W.exm_ref hs_BadOrder hd_BadOrder tC_BadOrder su_BadLog_BadOrder) (.cons aC_BadGraph (PySem.W.exm_ref hs_BadOrder hd_BadOrder tC_BadOrder su_BadGraph_BadOrder) (.cons aC_TooMany (PySem.W.exm_ref hs_BadOrder hd_BadOrder tC_BadOrder su_TooMany_BadOrder) .nil)))))⟩
  EX_BadEvent := ⟨_, PySem.W.mg_of X G aC_BadEvent, (.cons aC_BadEvent (PySem.W.exm_ref hs_BadEvent hd_BadEvent tC_BadEvent su_BadEvent_BadEvent) (.cons aC_BadOrder (PySem.W.exm_ref hs_BadEvent hd_BadEvent tC_BadEvent su_BadOrder_BadEvent) (.cons aC_BadLog (PySem.W.exm_ref hs_BadEvent hd_BadEvent tC_BadEvent su_BadLog_BadEvent) (.cons aC_BadGraph (PySem.W.exm_ref hs_BadEvent hd_BadEvent tC_BadEvent su_BadGraph_BadEvent) (.cons aC_TooMany (PySem.W.exm_ref hs_BadEvent hd_BadEvent tC_BadEvent su_TooMany_BadEvent) .nil)))))⟩
  FL_index := (.cons aC_BadEvent ⟨hg_BadEvent, hk_BadEvent, hs_BadEvent, hd_BadEvent⟩ nf_BadEvent .nil)
  RF_TooMany := ⟨_, _, aC_TooMany, PySem.W.mg_of X G aC_TooMany, { cls := ⟨_, _, _, _, _, _, _, _, _, _, _, _, _, _, _, cl_TooMany, rv_TooMany⟩, sa := sa_TooMany, noN := nf_TooMany, iC := iC_TooMany, tC := ti_TooMany, kC := kC_TooMany, exC := hs_TooMany, veC := ve_TooMany, tyC := tC_TooMany, inC := PySem.W.vs_excInit cl_TooMany xt_TooMany, sup := PySem.W.vs_super cl_TooMany cb_TooMany mb_TooMany fb_TooMany, mro := mr_TooMany, cs := cs_TooMany, sm := PySem.W.mg_none_of X G sm_TooMany, top := by kernel_rfl, bnd := fun _ _ _ _ _ _ _ _ _ _ _ _ => rfl, fn := ⟨_, _, _, _, _, _, _, _, _, _, _, _, _, _, _, _, _, _, _, _, _, _, _, _, _, _, _, _, _, _, _, _, _, li_TooMany, ci_TooMany, co_TooMany, vs2_TooMany, fi_TooMany, ce_TooMany, fun _ => ⟨_, rfl⟩⟩ }⟩
  EX_TooMany := ⟨_, PySem.W.mg_of X G aC_TooMany, (.cons aC_BadEvent (PySem.W.exm_ref hs_TooMany hd_TooMany tC_TooMany su_BadEvent_TooMany) (.cons aC_BadOrder (PySem.W.exm_ref hs_TooMany hd_TooMany tC_TooMany su_BadOrder_TooMany) (.cons aC_BadLog (PySem.W.exm_ref hs_TooMany hd_TooMany tC_TooMany su_BadLog_TooMany) (.cons aC_BadGraph (PySem.W.exm_ref hs_TooMany hd_TooMany tC_TooMany su_BadGraph_TooMany) (.cons aC_TooMany (PySem.W.exm_ref hs_TooMany hd_TooMany tC_TooMany su_TooMany_TooMany) .nil)))))⟩
  FL_limit := (.cons aC_TooMany ⟨hg_TooMany, hk_TooMany, hs_TooMany, hd_TooMany⟩ nf_TooMany .nil)
end
end L70
namespace L70
open PySem VS
theorem strOk_of (s : String) : PyData.strOk (Str.ofString s) = true := by
  have e : ∀ x ∈ (Str.ofString s).cps.toList, x < 0x110000 := fun x hx => by
    rw [PyProof.Rows.signs_ofString] at hx
    obtain ⟨c, _, rfl⟩ := List.mem_map.mp hx
    rcases c.valid with h | h
    · exact Nat.lt_trans h (by decide)
    · exact h.2
  unfold PyData.strOk
  rw [Array.all_eq_true]
  intro i hi
  exact decide_eq_true (e _ (by rw [← Array.getElem_toList]; exact List.getElem_mem _))
def strF (far : Int) : Str := Str.ofString (toString far)
theorem strF_ne (far : Int) (h : 0 ≤ far) : ¬ strF far = "" := by
  intro e
  have e2 : (strF far).cps.toList = (Str.ofString "").cps.toList := congrArg (fun x : Str => x.cps.toList) e
  unfold strF at e2
  rw [PyProof.Rows.signs_ofString, PyProof.Rows.signs_ofString] at e2
  obtain ⟨n, rfl⟩ := Int.eq_ofNat_of_zero_le h
  have e3 : ("" : String).toList.map Char.toNat = [] := by simp
  rw [e3, List.map_eq_nil_iff] at e2
  have e4 : toString (n : Int) = Nat.repr n := rfl
  rw [e4] at e2
  exact Nat.repr_ne_empty (String.toList_eq_nil_iff.mp e2)
theorem gNe_of {d e : D} {b : Bool} (h : gEq d e = some (.bl b, 0)) : gNe d e = some (.bl (!b), 0) := by
  unfold gEq at h
  unfold gNe
  cases q : scl d e with
  | some c => rw [q] at h; cases h; rfl
  | none =>
    rw [q] at h
    dsimp only at h ⊢
    split at h
    · rename_i hc
      rw [if_pos hc]
      cases h; rfl
    · cases h
theorem is_integer_s (i : Int) : f_is_integer [(.int i, 0)] = .ok (.bl true, 0) := by
  rw [f_is_integer, fnOf_ap]
  simp [b_is_integer, fill]
theorem is_index_s (i n : Int) : f_is_index [(.int i, 0), (.int n, 0)] = .ok (.bl (decide (0 ≤ i ∧ i < n)), 0) := by
  rw [f_is_index, fnOf_ap]
  by_cases h : 0 ≤ i <;> simp [b_is_index, fill, is_integer_s, h]
theorem lint_s (i : Int) : f__law_is_integer [(.int i, 0)] = .ok (.bl true, 0) := by
  rw [f__law_is_integer, fnOf_ap]
  simp [b__law_is_integer, fill]
@[simp] theorem isiD_non (T : String) : isiD T .non = decide (T = "NoneType") := by
  unfold isiD tyN
  by_cases h : T = "NoneType" <;> simp [h] <;> try (intro h2; exact absurd h2.symm h)
@[simp] theorem isiD_16 (b : Bool) : isiD "tuple" (.bl b) = false := eqr rfl
@[simp] theorem isiD_17 (b : Bool) : isiD "str" (.bl b) = false := eqr rfl
@[simp] theorem isiD_18 (b : Int) : isiD "str" (.int b) = false := eqr rfl
@[simp] theorem isiD_19 (b : Str) : isiD "bool" (.str b) = false := eqr rfl
mutual
/-- texts, numbers, None, truths, and tuples of these, n deep -/
def pla : Nat → D → Bool
  | _, .non => true
  | _, .bl _ => true
  | _, .int _ => true
  | _, .str _ => true
  | n + 1, .tup xs => plas n xs && decide (xs.length ≤ 1000)
  | _, _ => false
def plas : Nat → List D → Bool
  | _, [] => true
  | n, d :: ds => pla n d && plas n ds
end
theorem plas_mem {n : Nat} : ∀ {ds : List D}, plas n ds = true → ∀ d ∈ ds, pla n d = true
  | d :: ds, h, e, m => by
    unfold plas at h
    rw [Bool.and_eq_true] at h
    rcases List.mem_cons.mp m with rfl | m
    · exact h.1
    · exact plas_mem h.2 e m
theorem same_fuel : ∀ (n : Nat) (m : Nat), n < m → ∀ d, pla n d = true → fuelF 3 b__law_same m [(d, 0), (d, 0)] = .ok (.bl true, 0) := by
  intro n
  induction n with
  | zero =>
    intro m hm d hd
    obtain ⟨m, rfl⟩ : ∃ k, m = k + 1 := ⟨m - 1, by omega⟩
    show fnOf 3 (b__law_same (fuelF 3 b__law_same m)) _ = _
    rw [fnOf_ap]
    cases d <;> first | (simp [pla] at hd; done) | simp [b__law_same, fill, lint_s, gIs]
  | succ n ih =>
    intro m hm d hd
    obtain ⟨m, rfl⟩ : ∃ k, m = k + 1 := ⟨m - 1, by omega⟩
    show fnOf 3 (b__law_same (fuelF 3 b__law_same m)) _ = _
    rw [fnOf_ap]
    cases d with
    | tup xs =>
      unfold pla at hd
      rw [Bool.and_eq_true, decide_eq_true_eq] at hd
      obtain ⟨h1, h2⟩ := hd
      simp (disch := omega) [b__law_same, fill, iR1K_ok]
      refine Eq.trans (for_all (fun (i : Nat) => D.int i) (fun _ => true) _ (.bl false, 0) (List.range xs.length) fun i hi K => ?_) ?_
      · have hi' := List.mem_range.mp hi
        have q := ih m (by omega) (gt xs (i : Int)) (plas_mem h1 _ (gt_mem (by omega) (by omega)))
        simp (disch := omega) [gIx_tup', q]
      · simp
    | _ => first | (simp [pla] at hd; done) | simp [b__law_same, fill, lint_s, gIs]
theorem same_s {n : Nat} (hn : n < 12) (d : D) (hd : pla n d = true) : f__law_same [(d, 0), (d, 0)] = .ok (.bl true, 0) := same_fuel n 12 hn d hd
theorem plas_ints (n : Nat) (r : List Int) : plas n (r.map .int) = true := by
  induction r with
  | nil => simp [plas]
  | cons a r ih => rw [List.map_cons]; unfold plas; rw [ih]; simp [pla]
theorem pla_tD (n : Nat) (r : List Int) (h : r.length ≤ 1000) : pla (n + 1) (.tup (r.map .int)) = true := by
  show (plas n (r.map .int) && decide ((r.map D.int).length ≤ 1000)) = true
  rw [plas_ints, List.length_map]
  simpa using h
theorem log_add (B : Nat) (a b : Int) (h1 : a.natAbs.log2 ≤ B) (h2 : b.natAbs < 2 ^ 17) (h3 : 17 ≤ B) : (a + b).natAbs.log2 ≤ B + 1 := by
  have e1 : a.natAbs < 2 ^ (B + 1) := Nat.lt_of_lt_of_le Nat.lt_log2_self (Nat.pow_le_pow_right (by decide) (by omega))
  have e2 : 2 ^ 17 ≤ 2 ^ (B + 1) := Nat.pow_le_pow_right (by decide) (by omega)
  have e3 : (a + b).natAbs < 2 ^ (B + 1 + 1) := by
    have : (a + b).natAbs ≤ a.natAbs + b.natAbs := Int.natAbs_add_le a b
    rw [Nat.pow_succ]
    omega
  by_cases z : (a + b).natAbs = 0
  · rw [z]; exact Nat.zero_le _
  · have := (Nat.log2_lt z).mpr e3
    omega
theorem bits_log {z : Int} {B : Nat} (h : Builtin.Int.intBits z ≤ B) : z.natAbs.log2 ≤ B := by
  unfold Builtin.Int.intBits at h
  split at h
  · rename_i e
    rw [beq_iff_eq] at e
    rw [e]; exact Nat.zero_le _
  · omega
theorem mul_small {i j : Int} (h : i.natAbs.log2 ≤ 2000000) (h2 : j.natAbs.log2 ≤ 100) : mulOk i j = true := by
  unfold mulOk
  rw [decide_eq_true_eq]
  omega
def cellV (ns : List Int) (k : Int) : Int := if k < ns.length then gt ns k else 0
theorem cell_s (ns : List Int) (k : Int) (hk : 0 ≤ k) : f__law_cell [(.scr (ns.map .int), 0), (.int k, 0)] = .ok (.int (cellV ns k), 0) := by
  rw [f__law_cell, fnOf_ap]
  unfold cellV
  by_cases c : k < ns.length
  · simp (disch := omega) [b__law_cell, fill, c, gIx_scr]
  · simp (disch := omega) [b__law_cell, fill, c]
theorem cell_log {ns : List Int} {B : Nat} (h : ∀ z ∈ ns, Builtin.Int.intBits z ≤ B) {k : Int} (hk : 0 ≤ k) : (cellV ns k).natAbs.log2 ≤ B := by
  unfold cellV
  split
  · rename_i c
    exact bits_log (h _ (gt_mem hk c))
  · exact Nat.zero_le _
theorem gt_snoc {α : Type} [Inhabited α] (l : List α) (a : α) (j : Nat) (h : j ≤ l.length) : gt (l ++ [a]) (j : Int) = if j = l.length then a else gt l (j : Int) := by
  unfold gt
  rw [Int.toNat_natCast, List.getD_eq_getElem?_getD, List.getD_eq_getElem?_getD]
  by_cases e : j = l.length
  · rw [if_pos e, e, List.getElem?_append_right (Nat.le_refl _), Nat.sub_self]; rfl
  · rw [if_neg e, List.getElem?_append_left (by omega)]
/-- a drawn row: as long as the sizes, each below its size -/
structure RowOk (sizes ns : List Int) : Prop where
  len : ns.length = sizes.length
  at_ : ∀ j : Nat, j < sizes.length → 0 ≤ gt ns (j : Int) ∧ gt ns (j : Int) < gt sizes (j : Int)
theorem row_s (b : Bool) (cell : Int) (sizes : List Int) (hc : cell.natAbs.log2 ≤ 2000000) (hl : sizes.length ≤ 1000) (hs : ∀ z ∈ sizes, 0 < z ∧ z ≤ 1000000000000000000000000000000) :
    ∃ ns : List Int, f__law_row [(.int cell, 0), (VS.eL b (sizes.map .int), 0)] = .ok (.lst (ns.map .int), 1) ∧ RowOk sizes ns := by
  rw [f__law_row, fnOf_ap]
  have hm := mul_small (i := cell) (j := 48271) hc (by decide)
  simp [b__law_row, fill, hm]
  refine for_inv (β := Int × Int × List Int) D.int (fun s => [some (D.int cell, 0), some (VS.eL b (sizes.map .int), 0), some (D.int s.1, 0), some (D.int s.2.1, 0), some (D.lst (s.2.2.map .int), 1), none])
    (fun i s => 0 ≤ s.2.1 ∧ s.2.1 < 2147483647 ∧ s.2.2.length = i ∧ ∀ j : Nat, j < i → 0 ≤ gt s.2.2 (j : Int) ∧ gt s.2.2 (j : Int) < gt sizes (j : Int)) (fun r => ∃ ns : List Int, r = .ok (.lst (ns.map .int), 1) ∧ RowOk sizes ns) sizes (cell, (cell * 48271 + 12345) % 2147483647, []) ?_ ?_ ?_
  · exact ⟨Int.emod_nonneg _ (by decide), Int.emod_lt_of_pos _ (by decide), rfl, fun j z => absurd z (Nat.not_lt_zero _)⟩
  · rintro i z ⟨rest, mixed, nums⟩ hz ⟨i1, i2, i3, i4⟩ K hk
    dsimp only at i1 i2 i3 i4 hk ⊢
    obtain ⟨z1, z2⟩ := hs z (List.mem_of_getElem? hz)
    have hi : i < sizes.length := (List.getElem?_eq_some_iff.mp hz).1
    have hz' : gt sizes (i : Int) = z := by
      unfold gt
      rw [Int.toNat_natCast, List.getD_eq_getElem?_getD, hz]; rfl
    have hlz : z.natAbs.log2 < 9000 := by
      have := (Nat.log2_lt (by omega)).mpr (by omega : z.natAbs < 2 ^ 100)
      omega
    have hln : nums.length < sizeLine := lt_line (by omega)
    have next : ∀ x : Int, ∀ j : Nat, j < i + 1 → 0 ≤ gt (nums ++ [x % z]) (j : Int) ∧ gt (nums ++ [x % z]) (j : Int) < gt sizes (j : Int) := fun x j hj => by
      rw [gt_snoc _ _ _ (by omega)]
      by_cases e : j = nums.length
      · rw [if_pos e]
        have : j = i := by omega
        subst this
        rw [hz']
        exact ⟨Int.emod_nonneg _ (by omega), Int.emod_lt_of_pos _ z1⟩
      · rw [if_neg e]
        exact i4 j (by omega)
    by_cases c : (1000000000000000000 : Int) ≤ cell
    · have q := hk (rest / z, mixed, nums ++ [rest % z]) ⟨i1, i2, by simp [i3], next rest⟩
      simp at q
      simp [c, z1, hlz, hln]
      exact q
    · have hm2 : mulOk mixed 16807 = true := mul_small (i := mixed) (j := 16807) (by
        by_cases w : mixed.natAbs = 0
        · rw [w]; exact Nat.zero_le _
        · have := (Nat.log2_lt w).mpr (by omega : mixed.natAbs < 2 ^ 31)
          omega) (by decide)
      have q := hk (rest, (mixed * 16807 + 54321) % 2147483647, nums ++ [(mixed * 16807 + 54321) % 2147483647 / 64 % z]) ⟨Int.emod_nonneg _ (by decide), Int.emod_lt_of_pos _ (by decide), by simp [i3], next _⟩
      simp at q
      have h64 : Nat.log2 64 < 9000 := by decide
      simp [c, z1, hlz, hln, hm2, h64]
      exact q
  · rintro ⟨rest, mixed, nums⟩ ⟨i1, i2, i3, i4⟩
    dsimp only at i3 i4 ⊢
    exact ⟨nums, by simp, i3, i4⟩
theorem cut_len {l : List Int} {a n : Nat} (h : a + n ≤ l.length) : (cutA l (some (a : Int)) (some ((a : Int) + (n : Int)))).length = n := by
  unfold cutA
  have e : ((a : Int) + (n : Int)) = ((a + n : Nat) : Int) := by omega
  rw [e, HT.sIx_nat, HT.sIx_nat, List.length_take, List.length_drop]
  omega
theorem cut_at {l : List Int} {a n j : Nat} (h : a + n ≤ l.length) (hj : j < n) : gt (cutA l (some (a : Int)) (some ((a : Int) + (n : Int)))) (j : Int) = gt l ((a + j : Nat) : Int) := by
  unfold cutA gt
  have e : ((a : Int) + (n : Int)) = ((a + n : Nat) : Int) := by omega
  rw [e, HT.sIx_nat, HT.sIx_nat, Int.toNat_natCast, Int.toNat_natCast, List.getD_eq_getElem?_getD, List.getD_eq_getElem?_getD, List.getElem?_take, if_pos (by omega), List.getElem?_drop]
  rw [Nat.min_eq_left (by omega)]
theorem mul_ok {i j : Int} (h1 : 0 ≤ i) (h2 : i < 1000000) (h3 : 0 ≤ j) (h4 : j < 1000000) : mulOk i j = true := by
  unfold mulOk
  have a : i.natAbs < 2 ^ 20 := by omega
  have b : j.natAbs < 2 ^ 20 := by omega
  have la : i.natAbs.log2 < 21 := by
    by_cases c : i.natAbs = 0
    · rw [c]; decide
    · rw [Nat.log2_lt c]; omega
  have lb : j.natAbs.log2 < 21 := by
    by_cases c : j.natAbs = 0
    · rw [c]; decide
    · rw [Nat.log2_lt c]; omega
  exact decide_eq_true (by omega)
end L70
namespace L70
open PySem VS
abbrev Mv := List (List Int)
def rD (b : Bool) (r : List Int) : D := VS.eL b (r.map .int)
def mD (b : Bool) (mv : Mv) : D := VS.eL b (mv.map (rD b))
section
variable {b : Bool} {mv : Mv} {r : List Int} {j : Int}
theorem gIx_mD (h0 : 0 ≤ j) (h1 : j < (mv.length : Int)) : gIx (mD b mv) (.int j) = some (rD b (gt mv j), 0) := gIx_eL (rD b) h0 h1
theorem gIx_rD (h0 : 0 ≤ j) (h1 : j < (r.length : Int)) : gIx (rD b r) (.int j) = some (.int (gt r j), 0) := gIx_eL D.int h0 h1
@[simp] theorem gLen_mD : gLen (mD b mv) = some (.int mv.length, 0) := by unfold mD; rw [gLen_eL, List.length_map]
@[simp] theorem gLen_rD : gLen (rD b r) = some (.int r.length, 0) := by unfold rD; rw [gLen_eL, List.length_map]
@[simp] theorem iAnyK_mD (n : Nat) (sd : SD) : iAnyK (mD b mv, n) sd = .ok (mv.map (rD b)) sd := by unfold mD; rw [iAnyK_eL]
@[simp] theorem iAnyK_rD (n : Nat) (sd : SD) : iAnyK (rD b r, n) sd = .ok (r.map .int) sd := by unfold rD; rw [iAnyK_eL]
@[simp] theorem gTuple_rD : gTuple (rD b r) = some (rD true r, 0) := by unfold rD; rw [gTuple_eL]; rfl
@[simp] theorem gList_rD : gList (rD b r) = some (rD false r, 1) := by unfold rD; rw [gList_eL]; rfl
end
/-- a row of a machine's targets -/
def rowOk (n w : Nat) (r : List Int) : Bool := decide (r.length = w) && r.all fun t => decide (0 ≤ t) && decide (t < (n : Int))
/-- the moves of a machine -/
def isM (mv : Mv) : Bool := decide (1 ≤ mv.length) && (decide (mv.length ≤ 60) && (decide ((gt mv 0).length ≤ 6) && mv.all (rowOk mv.length (gt mv 0).length)))
theorem are_moves_s (b : Bool) (mv : Mv) : f_are_moves [(mD b mv, 0)] = .ok (.bl (isM mv), 0) := by
  rw [f_are_moves, fnOf_ap]
  unfold isM
  by_cases c1 : 1 ≤ mv.length
  · by_cases c2 : mv.length ≤ 60
    · have e1 : (1 : Int) ≤ (mv.length : Int) := by omega
      have e2 : (mv.length : Int) ≤ 60 := by omega
      by_cases c3 : (gt mv 0).length ≤ 6
      · have e3 : ¬ (6 : Int) < ((gt mv 0).length : Int) := by omega
        simp (disch := omega) [b_are_moves, fill, e1, e2, gIx_mD, e3]
        rw [for_all (rD b) (rowOk mv.length (gt mv 0).length) (w := (.bl false, 0))]
        · by_cases q : mv.all (rowOk mv.length (gt mv 0).length) = true
          · rw [if_pos q, q]; simp [c1, c2, c3]
          · rw [if_neg q]
            have q' : mv.all (rowOk mv.length (gt mv 0).length) = false := by simpa using q
            rw [q']; simp
        · intro r hr K
          unfold rowOk
          by_cases d1 : r.length = (gt mv 0).length
          · have d1' : (r.length : Int) = ((gt mv 0).length : Int) := by omega
            simp [d1]
            rw [for_all D.int (fun t => decide (0 ≤ t) && decide (t < (mv.length : Int))) (w := (.bl false, 0))]
            · by_cases q : (r.all fun t => decide (0 ≤ t) && decide (t < (mv.length : Int))) = true
              · rw [if_pos q, if_pos (by simpa using q)]
                simp
              · rw [if_neg q, if_neg (by simpa using q)]
            · intro t ht K
              by_cases t0 : 0 ≤ t <;> by_cases t1 : t < (mv.length : Int) <;> simp [is_index_s, t0, t1]
          · have d1' : ¬ (r.length : Int) = ((gt mv 0).length : Int) := by omega
            simp [d1, d1']
      · have e3 : (6 : Int) < ((gt mv 0).length : Int) := by omega
        simp (disch := omega) [b_are_moves, fill, e1, e2, gIx_mD, e3, c3]
    · have e1 : (1 : Int) ≤ (mv.length : Int) := by omega
      have e2 : ¬ (mv.length : Int) ≤ 60 := by omega
      simp (disch := omega) [b_are_moves, fill, e1, e2, c2]
  · have e1 : ¬ (1 : Int) ≤ (mv.length : Int) := by omega
    simp (disch := omega) [b_are_moves, fill, e1, c1]
theorem right_s (b : Bool) (mv : Mv) : f__law_right_moves [(mD b mv, 0)] = .ok (.bl (isM mv), 0) := by
  rw [f__law_right_moves, fnOf_ap]
  unfold isM
  by_cases c1 : 1 ≤ mv.length
  · by_cases c2 : mv.length ≤ 60
    · have e1 : ¬ (mv.length : Int) < 1 := by omega
      have e2 : ¬ (60 : Int) < (mv.length : Int) := by omega
      by_cases c3 : (gt mv 0).length ≤ 6
      · have e3 : ¬ (6 : Int) < ((gt mv 0).length : Int) := by omega
        simp (disch := omega) [b__law_right_moves, fill, e1, e2, gIx_mD, e3]
        rw [for_all (rD b) (rowOk mv.length (gt mv 0).length) (w := (.bl false, 0))]
        · by_cases q : mv.all (rowOk mv.length (gt mv 0).length) = true
          · rw [if_pos q, q]; simp [c1, c2, c3]
          · rw [if_neg q]
            have q' : mv.all (rowOk mv.length (gt mv 0).length) = false := by simpa using q
            rw [q']; simp
        · intro r hr K
          unfold rowOk
          by_cases d1 : r.length = (gt mv 0).length
          · have d1' : (r.length : Int) = ((gt mv 0).length : Int) := by omega
            simp (disch := omega) [d1, gIx_mD]
            rw [for_all D.int (fun t => decide (0 ≤ t) && decide (t < (mv.length : Int))) (w := (.bl false, 0))]
            · by_cases q : (r.all fun t => decide (0 ≤ t) && decide (t < (mv.length : Int))) = true
              · rw [if_pos q, if_pos (by simpa using q)]
                simp
              · rw [if_neg q, if_neg (by simpa using q)]
            · intro t ht K
              by_cases t0 : 0 ≤ t
              · have t0' : ¬ t < 0 := by omega
                by_cases t1 : t < (mv.length : Int)
                · have t1' : ¬ (mv.length : Int) ≤ t := by omega
                  simp [t0, t1, t0', t1']
                · have t1' : (mv.length : Int) ≤ t := by omega
                  simp [t0, t1, t0', t1']
              · have t0' : t < 0 := by omega
                simp [t0, t0']
          · have d1' : ¬ (r.length : Int) = ((gt mv 0).length : Int) := by omega
            simp (disch := omega) [d1, d1', gIx_mD]
      · have e3 : (6 : Int) < ((gt mv 0).length : Int) := by omega
        simp (disch := omega) [b__law_right_moves, fill, e1, e2, gIx_mD, e3, c3]
    · have e1 : ¬ (mv.length : Int) < 1 := by omega
      have e2 : (60 : Int) < (mv.length : Int) := by omega
      simp (disch := omega) [b__law_right_moves, fill, e1, e2, c2]
  · have e1 : (mv.length : Int) < 1 := by omega
    simp (disch := omega) [b__law_right_moves, fill, e1, c1]
structure VM (mv : Mv) (n w : Nat) : Prop where
  n0 : 0 < n
  n1 : n ≤ 60
  w1 : w ≤ 6
  len : mv.length = n
  row : ∀ r ∈ mv, r.length = w
  rng : ∀ r ∈ mv, ∀ t ∈ r, 0 ≤ t ∧ t < (n : Int)
theorem VM.of {mv : Mv} (h : isM mv = true) : VM mv mv.length (gt mv 0).length := by
  unfold isM at h
  simp only [Bool.and_eq_true, decide_eq_true_eq, List.all_eq_true] at h
  obtain ⟨h1, h2, h3, h4⟩ := h
  refine ⟨h1, h2, h3, rfl, fun r hr => ?_, fun r hr t ht => ?_⟩
  · have := h4 r hr
    unfold rowOk at this
    rw [Bool.and_eq_true, decide_eq_true_eq] at this
    exact this.1
  · have := h4 r hr
    unfold rowOk at this
    rw [Bool.and_eq_true, List.all_eq_true] at this
    have := this.2 t ht
    simpa using this
theorem VM.at_ {mv : Mv} {n w : Nat} (V : VM mv n w) {r : Int} (h0 : 0 ≤ r) (h1 : r < n) : (gt mv r).length = w := V.row _ (gt_mem h0 (by rw [V.len]; exact h1))
theorem VM.to {mv : Mv} {n w : Nat} (V : VM mv n w) {r e : Int} (h0 : 0 ≤ r) (h1 : r < n) (h2 : 0 ≤ e) (h3 : e < w) : 0 ≤ gt (gt mv r) e ∧ gt (gt mv r) e < (n : Int) :=
  V.rng _ (gt_mem h0 (by rw [V.len]; exact h1)) _ (gt_mem h2 (by rw [V.at_ h0 h1]; exact h3))
/-! looks -/
inductive Lk : D → Prop
  | int (i : Int) : Lk (.int i)
  | str (s : Str) : PyData.strOk s = true → Lk (.str s)
  | tup (ns : List Int) : ns.length ≤ 1000 → Lk (.tup (ns.map .int))
def lD (b : Bool) (ls : List D) : D := VS.eL b ls
section
variable {b : Bool} {ls : List D} {j : Int}
theorem gIx_lD (h0 : 0 ≤ j) (h1 : j < (ls.length : Int)) : gIx (lD b ls) (.int j) = some (gt ls j, 0) := by
  have := gIx_eL (b := b) (l := ls) id h0 h1
  rwa [List.map_id] at this
@[simp] theorem gLen_lD : gLen (lD b ls) = some (.int ls.length, 0) := by unfold lD; rw [gLen_eL]
@[simp] theorem iAnyK_lD (n : Nat) (sd : SD) : iAnyK (lD b ls, n) sd = .ok ls sd := by unfold lD; rw [iAnyK_eL]
@[simp] theorem gList_lD : gList (lD b ls) = some (lD false ls, 1) := by unfold lD; rw [gList_eL]; rfl
end
theorem is_look_s {d : D} (h : Lk d) : f_is_look [(d, 0)] = .ok (.bl true, 0) := by
  rw [f_is_look, fnOf_ap]
  cases h with
  | int i => simp [b_is_look, fill, is_integer_s]
  | str s _ => simp [b_is_look, fill]
  | tup ns _ =>
    simp [b_is_look, fill]
    rw [for_all D.int (fun _ => true) (w := (.bl false, 0))]
    · simp
    · intro t ht K
      simp [is_integer_s]
theorem is_machine_s (b : Bool) (mv : Mv) (ls : List D) (hl : ∀ d ∈ ls, Lk d) : f_is_machine [(mD b mv, 0), (lD b ls, 0)] = .ok (.bl (isM mv && decide (ls.length = mv.length)), 0) := by
  rw [f_is_machine, fnOf_ap]
  have q := are_moves_s b mv
  by_cases c : isM mv = true
  · by_cases e : ls.length = mv.length
    · have e' : ((ls.length : Nat) : Int) = ((mv.length : Nat) : Int) := by omega
      simp [b_is_machine, fill, q, e, e', c]
      have := for_all (ws := [2]) (g := gN 2) (body := (zIf (tNot' (tst (cal 1 f_is_look [] (gFz (rdv 2) gNil)))) (zRet (cst (.bl false))) zNil)) (kn := fun s => (zRet (cst (.bl true)) s).fin (kE (.non, 0)) kS kS) (kb := kS) (kc := kS) id (fun _ => true) [some (mD b mv, 0), some (lD b ls, 0), none] (.bl false, 0) ls
      simp [List.map_id] at this
      refine Eq.trans (this fun t ht K => ?_) ?_
      · simp [is_look_s (hl t ht)]
      · rfl
    · have e' : ¬ ((ls.length : Nat) : Int) = ((mv.length : Nat) : Int) := by omega
      simp [b_is_machine, fill, q, e, e', c]
  · have c' : isM mv = false := by simpa using c
    simp [b_is_machine, fill, q, c']
def isMc (mv : Mv) (ls : List D) : Bool := isM mv && decide (ls.length = mv.length)
theorem demand_machine_s (b : Bool) (mv : Mv) (ls : List D) (hl : ∀ d ∈ ls, Lk d) : f_demand_machine [(mD b mv, 0), (lD b ls, 0)] = if isMc mv ls = true then .ok (.non, 0) else .exc ⟨"BadGraph", none⟩ := by
  rw [f_demand_machine, fnOf_ap]
  have q := is_machine_s b mv ls hl
  unfold isMc
  by_cases c : (isM mv && decide (ls.length = mv.length)) = true
  · rw [if_pos c]; rw [c] at q
    simp [b_demand_machine, fill, q]
  · rw [if_neg c]
    have c' : (isM mv && decide (ls.length = mv.length)) = false := by simpa using c
    rw [c'] at q
    simp [b_demand_machine, fill, q, zRs]
theorem demand_rest_s (b : Bool) (mv : Mv) (r : Int) : f_demand_rest [(mD b mv, 0), (.int r, 0)] = if 0 ≤ r ∧ r < (mv.length : Int) then .ok (.non, 0) else .exc ⟨"BadOrder", none⟩ := by
  rw [f_demand_rest, fnOf_ap]
  by_cases c : 0 ≤ r ∧ r < (mv.length : Int)
  · rw [if_pos c]; simp [b_demand_rest, fill, is_index_s, c]
  · rw [if_neg c]; simp [b_demand_rest, fill, is_index_s, c, zRs]
theorem demand_event_s (b : Bool) (mv : Mv) (h : 0 < mv.length) (r : Int) : f_demand_event [(mD b mv, 0), (.int r, 0)] = if 0 ≤ r ∧ r < ((gt mv 0).length : Int) then .ok (.non, 0) else .exc ⟨"BadEvent", some ("index", .int r)⟩ := by
  rw [f_demand_event, fnOf_ap]
  by_cases c : 0 ≤ r ∧ r < ((gt mv 0).length : Int)
  · rw [if_pos c]; simp (disch := omega) [b_demand_event, fill, is_index_s, c, gIx_mD]
  · rw [if_neg c]; simp (disch := omega) [b_demand_event, fill, is_index_s, c, gIx_mD, zRsF]
theorem demand_seen_s (ds : List D) : f_demand_seen [(.lst ds, 0)] = if ds.length ≤ 60 then .ok (.non, 0) else .exc ⟨"TooMany", some ("limit", .int 60)⟩ := by
  rw [f_demand_seen, fnOf_ap]
  by_cases c : ds.length ≤ 60
  · have e : ¬ (60 : Int) < (ds.length : Int) := by omega
    rw [if_pos c]; simp [b_demand_seen, fill, e]
  · have e : (60 : Int) < (ds.length : Int) := by omega
    rw [if_neg c]; simp [b_demand_seen, fill, e, zRsF]
end L70
namespace L70
open PySem VS
theorem lk_BadGraph_BadEvent : List.lookup (PySem.Str.ofString "BadEvent") ([(PySem.Str.ofString "BadEvent", false), (PySem.Str.ofString "BadOrder", false), (PySem.Str.ofString "BadLog", false), (PySem.Str.ofString "BadGraph", true), (PySem.Str.ofString "TooMany", false)] : List (Str × Bool)) = some false := by decide +kernel
theorem lk_BadGraph_BadOrder : List.lookup (PySem.Str.ofString "BadOrder") ([(PySem.Str.ofString "BadEvent", false), (PySem.Str.ofString "BadOrder", false), (PySem.Str.ofString "BadLog", false), (PySem.Str.ofString "BadGraph", true), (PySem.Str.ofString "TooMany", false)] : List (Str × Bool)) = some false := by decide +kernel
theorem lk_BadGraph_BadLog : List.lookup (PySem.Str.ofString "BadLog") ([(PySem.Str.ofString "BadEvent", false), (PySem.Str.ofString "BadOrder", false), (PySem.Str.ofString "BadLog", false), (PySem.Str.ofString "BadGraph", true), (PySem.Str.ofString "TooMany", false)] : List (Str × Bool)) = some false := by decide +kernel
theorem lk_BadGraph_BadGraph : List.lookup (PySem.Str.ofString "BadGraph") ([(PySem.Str.ofString "BadEvent", false), (PySem.Str.ofString "BadOrder", false), (PySem.Str.ofString "BadLog", false), (PySem.Str.ofString "BadGraph", true), (PySem.Str.ofString "TooMany", false)] : List (Str × Bool)) = some true := by decide +kernel
theorem lk_BadGraph_TooMany : List.lookup (PySem.Str.ofString "TooMany") ([(PySem.Str.ofString "BadEvent", false), (PySem.Str.ofString "BadOrder", false), (PySem.Str.ofString "BadLog", false), (PySem.Str.ofString "BadGraph", true), (PySem.Str.ofString "TooMany", false)] : List (Str × Bool)) = some false := by decide +kernel
theorem lk_BadOrder_BadEvent : List.lookup (PySem.Str.ofString "BadEvent") ([(PySem.Str.ofString "BadEvent", false), (PySem.Str.ofString "BadOrder", true), (PySem.Str.ofString "BadLog", false), (PySem.Str.ofString "BadGraph", false), (PySem.Str.ofString "TooMany", false)] : List (Str × Bool)) = some false := by decide +kernel
theorem lk_BadOrder_BadOrder : List.lookup (PySem.Str.ofString "BadOrder") ([(PySem.Str.ofString "BadEvent", false), (PySem.Str.ofString "BadOrder", true), (PySem.Str.ofString "BadLog", false), (PySem.Str.ofString "BadGraph", false), (PySem.Str.ofString "TooMany", false)] : List (Str × Bool)) = some true := by decide +kernel
theorem lk_BadOrder_BadLog : List.lookup (PySem.Str.ofString "BadLog") ([(PySem.Str.ofString "BadEvent", false), (PySem.Str.ofString "BadOrder", true), (PySem.Str.ofString "BadLog", false), (PySem.Str.ofString "BadGraph", false), (PySem.Str.ofString "TooMany", false)] : List (Str × Bool)) = some false := by decide +kernel
theorem lk_BadOrder_BadGraph : List.lookup (PySem.Str.ofString "BadGraph") ([(PySem.Str.ofString "BadEvent", false), (PySem.Str.ofString "BadOrder", true), (PySem.Str.ofString "BadLog", false), (PySem.Str.ofString "BadGraph", false), (PySem.Str.ofString "TooMany", false)] : List (Str × Bool)) = some false := by decide +kernel
theorem lk_BadOrder_TooMany : List.lookup (PySem.Str.ofString "TooMany") ([(PySem.Str.ofString "BadEvent", false), (PySem.Str.ofString "BadOrder", true), (PySem.Str.ofString "BadLog", false), (PySem.Str.ofString "BadGraph", false), (PySem.Str.ofString "TooMany", false)] : List (Str × Bool)) = some false := by decide +kernel
theorem lk_TooMany_BadEvent : List.lookup (PySem.Str.ofString "BadEvent") ([(PySem.Str.ofString "BadEvent", false), (PySem.Str.ofString "BadOrder", false), (PySem.Str.ofString "BadLog", false), (PySem.Str.ofString "BadGraph", false), (PySem.Str.ofString "TooMany", true)] : List (Str × Bool)) = some false := by decide +kernel
theorem lk_TooMany_BadOrder : List.lookup (PySem.Str.ofString "BadOrder") ([(PySem.Str.ofString "BadEvent", false), (PySem.Str.ofString "BadOrder", false), (PySem.Str.ofString "BadLog", false), (PySem.Str.ofString "BadGraph", false), (PySem.Str.ofString "TooMany", true)] : List (Str × Bool)) = some false := by decide +kernel
theorem lk_TooMany_BadLog : List.lookup (PySem.Str.ofString "BadLog") ([(PySem.Str.ofString "BadEvent", false), (PySem.Str.ofString "BadOrder", false), (PySem.Str.ofString "BadLog", false), (PySem.Str.ofString "BadGraph", false), (PySem.Str.ofString "TooMany", true)] : List (Str × Bool)) = some false := by decide +kernel
theorem lk_TooMany_BadGraph : List.lookup (PySem.Str.ofString "BadGraph") ([(PySem.Str.ofString "BadEvent", false), (PySem.Str.ofString "BadOrder", false), (PySem.Str.ofString "BadLog", false), (PySem.Str.ofString "BadGraph", false), (PySem.Str.ofString "TooMany", true)] : List (Str × Bool)) = some false := by decide +kernel
theorem lk_TooMany_TooMany : List.lookup (PySem.Str.ofString "TooMany") ([(PySem.Str.ofString "BadEvent", false), (PySem.Str.ofString "BadOrder", false), (PySem.Str.ofString "BadLog", false), (PySem.Str.ofString "BadGraph", false), (PySem.Str.ofString "TooMany", true)] : List (Str × Bool)) = some true := by decide +kernel
theorem lk_BadEvent_BadEvent : List.lookup (PySem.Str.ofString "BadEvent") ([(PySem.Str.ofString "BadEvent", true), (PySem.Str.ofString "BadOrder", false), (PySem.Str.ofString "BadLog", false), (PySem.Str.ofString "BadGraph", false), (PySem.Str.ofString "TooMany", false)] : List (Str × Bool)) = some true := by decide +kernel
theorem lk_BadEvent_BadOrder : List.lookup (PySem.Str.ofString "BadOrder") ([(PySem.Str.ofString "BadEvent", true), (PySem.Str.ofString "BadOrder", false), (PySem.Str.ofString "BadLog", false), (PySem.Str.ofString "BadGraph", false), (PySem.Str.ofString "TooMany", false)] : List (Str × Bool)) = some false := by decide +kernel
theorem lk_BadEvent_BadLog : List.lookup (PySem.Str.ofString "BadLog") ([(PySem.Str.ofString "BadEvent", true), (PySem.Str.ofString "BadOrder", false), (PySem.Str.ofString "BadLog", false), (PySem.Str.ofString "BadGraph", false), (PySem.Str.ofString "TooMany", false)] : List (Str × Bool)) = some false := by decide +kernel
theorem lk_BadEvent_BadGraph : List.lookup (PySem.Str.ofString "BadGraph") ([(PySem.Str.ofString "BadEvent", true), (PySem.Str.ofString "BadOrder", false), (PySem.Str.ofString "BadLog", false), (PySem.Str.ofString "BadGraph", false), (PySem.Str.ofString "TooMany", false)] : List (Str × Bool)) = some false := by decide +kernel
theorem lk_BadEvent_TooMany : List.lookup (PySem.Str.ofString "TooMany") ([(PySem.Str.ofString "BadEvent", true), (PySem.Str.ofString "BadOrder", false), (PySem.Str.ofString "BadLog", false), (PySem.Str.ofString "BadGraph", false), (PySem.Str.ofString "TooMany", false)] : List (Str × Bool)) = some false := by decide +kernel
theorem lk_all_BadEvent : List.lookup (PySem.Str.ofString "BadEvent") ([(PySem.Str.ofString "BadEvent", true), (PySem.Str.ofString "BadOrder", true), (PySem.Str.ofString "BadLog", true), (PySem.Str.ofString "BadGraph", true), (PySem.Str.ofString "TooMany", true)] : List (Str × Bool)) = some true := by decide +kernel
theorem lk_all_BadOrder : List.lookup (PySem.Str.ofString "BadOrder") ([(PySem.Str.ofString "BadEvent", true), (PySem.Str.ofString "BadOrder", true), (PySem.Str.ofString "BadLog", true), (PySem.Str.ofString "BadGraph", true), (PySem.Str.ofString "TooMany", true)] : List (Str × Bool)) = some true := by decide +kernel
theorem lk_all_BadLog : List.lookup (PySem.Str.ofString "BadLog") ([(PySem.Str.ofString "BadEvent", true), (PySem.Str.ofString "BadOrder", true), (PySem.Str.ofString "BadLog", true), (PySem.Str.ofString "BadGraph", true), (PySem.Str.ofString "TooMany", true)] : List (Str × Bool)) = some true := by decide +kernel
theorem lk_all_BadGraph : List.lookup (PySem.Str.ofString "BadGraph") ([(PySem.Str.ofString "BadEvent", true), (PySem.Str.ofString "BadOrder", true), (PySem.Str.ofString "BadLog", true), (PySem.Str.ofString "BadGraph", true), (PySem.Str.ofString "TooMany", true)] : List (Str × Bool)) = some true := by decide +kernel
theorem lk_all_TooMany : List.lookup (PySem.Str.ofString "TooMany") ([(PySem.Str.ofString "BadEvent", true), (PySem.Str.ofString "BadOrder", true), (PySem.Str.ofString "BadLog", true), (PySem.Str.ofString "BadGraph", true), (PySem.Str.ofString "TooMany", true)] : List (Str × Bool)) = some true := by decide +kernel
theorem told_BadGraph : f__law_told [(.exn "BadGraph" [] [], 0), (.str "BadGraph", 0), (.int 0, 0)] = .ok (.tup [.str "BadGraph", .int 0], 0) := by
  rw [f__law_told, fnOf_ap]
  simp [b__law_told, fill, lk_BadGraph_BadEvent, lk_BadGraph_BadOrder, lk_BadGraph_BadLog, lk_BadGraph_BadGraph, lk_BadGraph_TooMany, lk_BadOrder_BadEvent, lk_BadOrder_BadOrder, lk_BadOrder_BadLog, lk_BadOrder_BadGraph, lk_BadOrder_TooMany, lk_TooMany_BadEvent, lk_TooMany_BadOrder, lk_TooMany_BadLog, lk_TooMany_BadGraph, lk_TooMany_TooMany, lk_BadEvent_BadEvent, lk_BadEvent_BadOrder, lk_BadEvent_BadLog, lk_BadEvent_BadGraph, lk_BadEvent_TooMany, lk_all_BadEvent, lk_all_BadOrder, lk_all_BadLog, lk_all_BadGraph, lk_all_TooMany, gCntL, okd, okds, eqv]
theorem told_BadOrder : f__law_told [(.exn "BadOrder" [] [], 0), (.str "BadOrder", 0), (.int 0, 0)] = .ok (.tup [.str "BadOrder", .int 0], 0) := by
  rw [f__law_told, fnOf_ap]
  simp [b__law_told, fill, lk_BadGraph_BadEvent, lk_BadGraph_BadOrder, lk_BadGraph_BadLog, lk_BadGraph_BadGraph, lk_BadGraph_TooMany, lk_BadOrder_BadEvent, lk_BadOrder_BadOrder, lk_BadOrder_BadLog, lk_BadOrder_BadGraph, lk_BadOrder_TooMany, lk_TooMany_BadEvent, lk_TooMany_BadOrder, lk_TooMany_BadLog, lk_TooMany_BadGraph, lk_TooMany_TooMany, lk_BadEvent_BadEvent, lk_BadEvent_BadOrder, lk_BadEvent_BadLog, lk_BadEvent_BadGraph, lk_BadEvent_TooMany, lk_all_BadEvent, lk_all_BadOrder, lk_all_BadLog, lk_all_BadGraph, lk_all_TooMany, gCntL, okd, okds, eqv]
theorem told_TooMany (i : Int) : f__law_told [(.exn "TooMany" ["limit"] [.int i], 0), (.str "TooMany", 0), (.int i, 0)] = .ok (.tup [.str "TooMany", .int i], 0) := by
  rw [f__law_told, fnOf_ap]
  simp [b__law_told, fill, lk_BadGraph_BadEvent, lk_BadGraph_BadOrder, lk_BadGraph_BadLog, lk_BadGraph_BadGraph, lk_BadGraph_TooMany, lk_BadOrder_BadEvent, lk_BadOrder_BadOrder, lk_BadOrder_BadLog, lk_BadOrder_BadGraph, lk_BadOrder_TooMany, lk_TooMany_BadEvent, lk_TooMany_BadOrder, lk_TooMany_BadLog, lk_TooMany_BadGraph, lk_TooMany_TooMany, lk_BadEvent_BadEvent, lk_BadEvent_BadOrder, lk_BadEvent_BadLog, lk_BadEvent_BadGraph, lk_BadEvent_TooMany, lk_all_BadEvent, lk_all_BadOrder, lk_all_BadLog, lk_all_BadGraph, lk_all_TooMany, gCntL, okd, okds, eqv]
theorem told_BadEvent (i : Int) : f__law_told [(.exn "BadEvent" ["index"] [.int i], 0), (.str "BadEvent", 0), (.int i, 0)] = .ok (.tup [.str "BadEvent", .int i], 0) := by
  rw [f__law_told, fnOf_ap]
  simp [b__law_told, fill, lk_BadGraph_BadEvent, lk_BadGraph_BadOrder, lk_BadGraph_BadLog, lk_BadGraph_BadGraph, lk_BadGraph_TooMany, lk_BadOrder_BadEvent, lk_BadOrder_BadOrder, lk_BadOrder_BadLog, lk_BadOrder_BadGraph, lk_BadOrder_TooMany, lk_TooMany_BadEvent, lk_TooMany_BadOrder, lk_TooMany_BadLog, lk_TooMany_BadGraph, lk_TooMany_TooMany, lk_BadEvent_BadEvent, lk_BadEvent_BadOrder, lk_BadEvent_BadLog, lk_BadEvent_BadGraph, lk_BadEvent_TooMany, lk_all_BadEvent, lk_all_BadOrder, lk_all_BadLog, lk_all_BadGraph, lk_all_TooMany, gCntL, okd, okds, eqv]
end L70
namespace L70
open PySem VS
/-- the rests of a day, or the first number that is no event -/
def walk (mv : Mv) (w : Int) : List Int → Int → Int ⊕ List Int
  | [], r => .inr []
  | e :: es, r => if 0 ≤ e ∧ e < w then (match walk mv w es (gt (gt mv r) e) with | .inl x => .inl x | .inr l => .inr (gt (gt mv r) e :: l)) else .inl e
theorem walk_rng {mv : Mv} {n w : Nat} (V : VM mv n w) : ∀ (es : List Int) (r : Int) (l : List Int), 0 ≤ r → r < n → walk mv w es r = .inr l → l.length = es.length ∧ ∀ t ∈ l, 0 ≤ t ∧ t < (n : Int)
  | [], r, l, _, _, h => by cases h; exact ⟨rfl, fun _ m => absurd m List.not_mem_nil⟩
  | e :: es, r, l, h0, h1, h => by
    unfold walk at h
    split at h
    · rename_i c
      have ht := V.to h0 h1 c.1 c.2
      split at h
      · cases h
      · rename_i l' hl
        cases h
        obtain ⟨i1, i2⟩ := walk_rng V es _ l' ht.1 ht.2 hl
        refine ⟨by simp [i1], fun t m => ?_⟩
        rcases List.mem_cons.mp m with rfl | m
        · exact ht
        · exact i2 t m
    · cases h
def ws (acc : List Int) (x : Int ⊕ List Int) : Int ⊕ List Int := match x with
  | .inl e => .inl e
  | .inr l => .inr (acc ++ l)
def restsF (x : Int ⊕ List Int) : FR := match x with
  | .inl e => .exc ⟨"BadEvent", some ("index", .int e)⟩
  | .inr l => .ok (.lst (l.map .int), 1)
theorem map_snoc {α β : Type} (f : α → β) (l : List α) (a : α) : l.map f ++ [f a] = (l ++ [a]).map f := by rw [List.map_append]; rfl
theorem gIx_lastI (acc : List Int) (r : Int) : gIx (.lst ((acc ++ [r]).map D.int)) (.int (-1)) = some (.int r, 0) := by
  rw [List.map_append]
  exact gIx_lastL (acc.map D.int) (.int r)
theorem rests_s (b : Bool) {mv : Mv} {n w : Nat} (V : VM mv n w) (start : Int) (h0 : 0 ≤ start) (h1 : start < n) (day : List Int) (hd : day.length ≤ 1000) :
    f_rests_of_day [(mD b mv, 0), (.int start, 0), (rD b day, 0)] = restsF (ws [start] (walk mv w day start)) := by
  rw [f_rests_of_day, fnOf_ap]
  have hn := V.n0
  have hl := V.len
  have hw := V.at_ (r := 0) (by omega) (by omega)
  have e1 : D.lst [.int start] = .lst (([] ++ [start]).map .int) := rfl
  simp [b_rests_of_day, fill, e1, -List.nil_append, -List.map_append]
  refine for_gen D.int (fun (s : List Int × Int) => [some (mD b mv, 0), some (.int start, 0), some (rD b day, 0), some (.lst ((s.1 ++ [s.2]).map .int), 1), none])
    (fun l s => (0 ≤ s.2 ∧ s.2 < (n : Int)) ∧ s.1.length + l.length ≤ 1000) (fun l s => restsF (ws (s.1 ++ [s.2]) (walk mv w l s.2))) ?_ ?_ day ([], start) ⟨⟨h0, h1⟩, by simpa using hd⟩
  · intro s hs
    simp [walk, ws, restsF]
  · intro a l s K hP hK
    obtain ⟨acc, r⟩ := s
    obtain ⟨⟨r0, r1⟩, h2⟩ := hP
    dsimp only at r0 r1 h2 ⊢
    rw [List.length_cons] at h2
    have hlt := lt_line (n := acc.length + 1) (by omega)
    have dem := demand_event_s b mv (by omega) a
    rw [hw] at dem
    have hrl := V.at_ r0 r1
    have hlast := gIx_lastI acc r
    by_cases c : 0 ≤ a ∧ a < (w : Int)
    · rw [if_pos c] at dem
      have ht := V.to r0 r1 c.1 c.2
      have hk := hK (acc ++ [r], gt (gt mv r) a) ⟨ht, by simp; omega⟩
      have e2 : ws (acc ++ [r]) (walk mv w (a :: l) r) = ws (acc ++ [r] ++ [gt (gt mv r) a]) (walk mv w l (gt (gt mv r) a)) := by
        rw [walk, if_pos c]
        cases walk mv w l (gt (gt mv r) a) with
        | inl x => rfl
        | inr x => simp [ws]
      rw [e2, ← hk]
      simp (disch := omega) [dem, hlast, gIx_mD, gIx_rD, hlt, -List.map_append, map_snoc]
    · rw [if_neg c] at dem
      rw [walk, if_neg c]
      simp [dem, ws, restsF]
def walkF (x : Int ⊕ List Int) : D := match x with
  | .inl e => .tup [.str "BadEvent", .int e]
  | .inr l => .tup [.str "ok", .tup (l.map .int)]
def dueW (mv : Mv) (start : Int) (day : List Int) : D := if 0 ≤ start ∧ start < (mv.length : Int) then walkF (ws [start] (walk mv (gt mv 0).length day start)) else .tup [.str "BadOrder", .int 0]
theorem law_walk_s {mv : Mv} {n w : Nat} (V : VM mv n w) (start : Int) (day : List Int) (hd : day.length ≤ 1000) :
    f__law_walk [(mD false mv, 0), (.int start, 0), (rD false day, 0)] = .ok (dueW mv start day, 0) := by
  rw [f__law_walk, fnOf_ap]
  have hn := V.n0
  have hl := V.len
  have hw := V.at_ (r := 0) (by omega) (by omega)
  have e1 : D.lst [.int start] = .lst (([] ++ [start]).map .int) := rfl
  unfold dueW
  by_cases c0 : 0 ≤ start
  · have c0' : ¬ start < 0 := by omega
    by_cases c1 : start < (mv.length : Int)
    · have c1' : ¬ (mv.length : Int) ≤ start := by omega
      rw [if_pos ⟨c0, c1⟩, hw]
      simp [b__law_walk, fill, e1, c0', c1', -List.nil_append, -List.map_append]
      refine for_gen D.int (fun (s : List Int × Int) => [some (mD false mv, 0), some (.int start, 0), some (rD false day, 0), some (.lst ((s.1 ++ [s.2]).map .int), 1), none])
        (fun l s => (0 ≤ s.2 ∧ s.2 < (n : Int)) ∧ s.1.length + l.length ≤ 1000) (fun l s => .ok (walkF (ws (s.1 ++ [s.2]) (walk mv w l s.2)), 0)) ?_ ?_ day ([], start) ⟨⟨c0, by omega⟩, by simpa using hd⟩
      · intro s hs
        simp [walk, ws, walkF]
      · intro a l s K hP hK
        obtain ⟨acc, r⟩ := s
        obtain ⟨⟨r0, r1⟩, h2⟩ := hP
        dsimp only at r0 r1 h2 ⊢
        rw [List.length_cons] at h2
        have hlt := lt_line (n := acc.length + 1) (by omega)
        have hrl := V.at_ r0 r1
        have hlast := gIx_lastI acc r
        by_cases c : 0 ≤ a ∧ a < (w : Int)
        · have ht := V.to r0 r1 c.1 c.2
          have hk := hK (acc ++ [r], gt (gt mv r) a) ⟨ht, by simp; omega⟩
          have e2 : ws (acc ++ [r]) (walk mv w (a :: l) r) = ws (acc ++ [r] ++ [gt (gt mv r) a]) (walk mv w l (gt (gt mv r) a)) := by
            rw [walk, if_pos c]
            cases walk mv w l (gt (gt mv r) a) with
            | inl x => rfl
            | inr x => simp [ws]
          rw [e2, ← hk]
          have a0 : ¬ a < 0 := by omega
          have a1 : ¬ (w : Int) ≤ a := by omega
          simp (disch := omega) [hlast, gIx_mD, gIx_rD, hlt, a0, a1, hw, -List.map_append, map_snoc]
        · rw [walk, if_neg c]
          by_cases a0 : a < 0
          · simp (disch := omega) [a0, ws, walkF]
          · have a1 : (w : Int) ≤ a := by omega
            simp (disch := omega) [a0, a1, hw, gIx_mD, ws, walkF]
    · have c1' : (mv.length : Int) ≤ start := by omega
      rw [if_neg (fun z => c1 z.2)]
      simp [b__law_walk, fill, c0', c1']
  · have c0' : start < 0 := by omega
    rw [if_neg (fun z => c0 z.1)]
    simp [b__law_walk, fill, c0']
/-! the day's end -/
def lastI (l : List Int) : Int := gt l ((l.length : Int) - 1)
def dueE (mv : Mv) (start : Int) (day : List Int) : D := if isM mv = true then (if 0 ≤ start ∧ start < (mv.length : Int) then (match walk mv (gt mv 0).length day start with
    | .inl e => .tup [.str "BadEvent", .int e]
    | .inr l => .tup [.str "ok", .int (lastI (start :: l))]) else .tup [.str "BadOrder", .int 0]) else .tup [.str "BadGraph", .int 0]
theorem gIx_last {a : Int} {l : List Int} : gIx (.lst ((a :: l).map D.int)) (.int (-1)) = some (.int (lastI (a :: l)), 0) := by
  show (L2.atI ((a :: l).map D.int) (-1)).map _ = _
  unfold L2.atI L2.ixN lastI gt
  rw [List.length_map, if_neg (by omega), if_pos (by rw [List.length_cons]; omega)]
  have e : (-1 + (((a :: l).length : Nat) : Int)).toNat = (a :: l).length - 1 := by omega
  have e2 : ((((a :: l).length : Nat) : Int) - 1).toNat = (a :: l).length - 1 := by omega
  rw [e, e2]
  show (((a :: l).map D.int)[(a :: l).length - 1]?).map _ = _
  have hl : (a :: l).length - 1 < (a :: l).length := by rw [List.length_cons]; omega
  rw [List.getElem?_map, List.getD_eq_getElem?_getD, List.getElem?_eq_getElem hl]
  rfl
def endF (mv : Mv) (start : Int) (day : List Int) : FR := if isM mv = true then (if 0 ≤ start ∧ start < (mv.length : Int) then (match walk mv (gt mv 0).length day start with
    | .inl e => .exc ⟨"BadEvent", some ("index", .int e)⟩
    | .inr l => .ok (.int (lastI (start :: l)), 0)) else .exc ⟨"BadOrder", none⟩) else .exc ⟨"BadGraph", none⟩
theorem day_end_s (b : Bool) (mv : Mv) (start : Int) (day : List Int) (hd : day.length ≤ 1000) : f_day_end [(mD b mv, 0), (.int start, 0), (rD b day, 0)] = endF mv start day := by
  rw [f_day_end, fnOf_ap]
  have q := are_moves_s b mv
  have d := demand_rest_s b mv start
  unfold endF
  by_cases c : isM mv = true
  · have V := VM.of c
    rw [if_pos c]; rw [c] at q
    by_cases c1 : 0 ≤ start ∧ start < (mv.length : Int)
    · rw [if_pos c1] at d ⊢
      have r := rests_s b V start c1.1 c1.2 day hd
      cases e : walk mv (gt mv 0).length day start with
      | inl x =>
        rw [e] at r
        simp [b_day_end, fill, q, d, r, ws, restsF]
      | inr l =>
        rw [e] at r
        have g := gIx_last (a := start) (l := l)
        have r' : f_rests_of_day [(mD b mv, 0), (.int start, 0), (rD b day, 0)] = .ok (.lst ((start :: l).map D.int), 1) := r
        dsimp only
        generalize hL : start :: l = L at r' g ⊢
        simp [b_day_end, fill, q, d, r', g]
    · rw [if_neg c1] at d ⊢
      simp [b_day_end, fill, q, d]
  · rw [if_neg c]
    have c' : isM mv = false := by simpa using c
    rw [c'] at q
    simp [b_day_end, fill, q, zRs]
theorem end_told_s (b : Bool) (mv : Mv) (start : Int) (day : List Int) (hd : day.length ≤ 1000) : f__law_end_told [(mD b mv, 0), (.int start, 0), (rD b day, 0)] = .ok (dueE mv start day, 0) := by
  rw [f__law_end_told, fnOf_ap]
  have q := day_end_s b mv start day hd
  unfold endF at q
  unfold dueE
  split
  · rename_i c
    rw [if_pos c] at q
    split
    · rename_i c1
      rw [if_pos c1] at q
      split
      · rename_i e he
        rw [he] at q
        simp [b__law_end_told, fill, q, told_BadEvent, lk_BadGraph_BadEvent, lk_BadOrder_BadEvent, lk_BadEvent_BadEvent]
      · rename_i l he
        rw [he] at q
        simp [b__law_end_told, fill, q]
    · rename_i c1
      rw [if_neg c1] at q
      simp [b__law_end_told, fill, q, told_BadOrder, lk_BadGraph_BadOrder, lk_BadOrder_BadOrder]
  · rename_i c
    rw [if_neg c] at q
    simp [b__law_end_told, fill, q, told_BadGraph, lk_BadGraph_BadGraph]
/-! the looks -/
def looksOf (ls : List D) (rs : List Int) : List D := rs.map (gt ls)
def dueL (mv : Mv) (ls : List D) (start : Int) (day : List Int) : D := if isMc mv ls = true then (if 0 ≤ start ∧ start < (mv.length : Int) then (match walk mv (gt mv 0).length day start with
    | .inl e => .tup [.str "BadEvent", .int e]
    | .inr l => .tup [.str "ok", .tup (looksOf ls l)]) else .tup [.str "BadOrder", .int 0]) else .tup [.str "BadGraph", .int 0]
def looksF (mv : Mv) (ls : List D) (start : Int) (day : List Int) : FR := if isMc mv ls = true then (if 0 ≤ start ∧ start < (mv.length : Int) then (match walk mv (gt mv 0).length day start with
    | .inl e => .exc ⟨"BadEvent", some ("index", .int e)⟩
    | .inr l => .ok (.tup (looksOf ls l), 0)) else .exc ⟨"BadOrder", none⟩) else .exc ⟨"BadGraph", none⟩
theorem isMc_iff {mv : Mv} {ls : List D} (h : isMc mv ls = true) : isM mv = true ∧ ls.length = mv.length := by
  unfold isMc at h
  rw [Bool.and_eq_true, decide_eq_true_eq] at h
  exact h
theorem cut1 (a : Int) (l : List Int) : cutA (a :: l) (some 1) none = l := by
  unfold cutA
  have e : (1 : Int) = ((1 : Nat) : Int) := rfl
  rw [e, HT.sIx_nat]
  have e2 : HT.sIx (a :: l).length (a :: l).length none = (a :: l).length := rfl
  rw [e2, List.length_cons, Nat.min_eq_left (by omega)]
  show (List.take _ l) = l
  rw [List.take_of_length_le (by omega)]
theorem day_looks_s (b : Bool) (mv : Mv) (ls : List D) (hl : ∀ d ∈ ls, Lk d) (start : Int) (day : List Int) (hd : day.length ≤ 1000) : f_day_looks [(mD b mv, 0), (lD b ls, 0), (.int start, 0), (rD b day, 0)] = looksF mv ls start day := by
  rw [f_day_looks, fnOf_ap]
  have q := demand_machine_s b mv ls hl
  have d := demand_rest_s b mv start
  unfold looksF
  by_cases c : isMc mv ls = true
  · obtain ⟨c2, c3⟩ := isMc_iff c
    have V := VM.of c2
    rw [if_pos c] at q ⊢
    by_cases c1 : 0 ≤ start ∧ start < (mv.length : Int)
    · rw [if_pos c1] at d ⊢
      have r := rests_s b V start c1.1 c1.2 day hd
      cases e : walk mv (gt mv 0).length day start with
      | inl x =>
        rw [e] at r
        simp [b_day_looks, fill, q, d, r, ws, restsF]
      | inr l =>
        rw [e] at r
        obtain ⟨w1, w2⟩ := walk_rng V day start l c1.1 c1.2 e
        have r' : f_rests_of_day [(mD b mv, 0), (.int start, 0), (rD b day, 0)] = .ok (.lst ((start :: l).map D.int), 1) := r
        have g : gSl (.lst ((start :: l).map D.int)) (some 1) none = some (.lst (l.map D.int), 1) := by rw [gSl_lst, cut1]
        generalize hL : start :: l = L at r' g
        simp [b_day_looks, fill, q, d, r', g]
        rw [lc_map D.int (gt ls) _ l (Nat.le_of_lt (lt_line (by omega)))]
        · simp [looksOf]
        · intro t ht K
          obtain ⟨t0, t1⟩ := w2 t ht
          simp (disch := omega) [gIx_lD]
    · rw [if_neg c1] at d ⊢
      simp [b_day_looks, fill, q, d]
  · rw [if_neg c] at q ⊢
    simp [b_day_looks, fill, q]
theorem looks_told_s (b : Bool) (mv : Mv) (ls : List D) (hl : ∀ d ∈ ls, Lk d) (start : Int) (day : List Int) (hd : day.length ≤ 1000) : f__law_looks_told [(mD b mv, 0), (lD b ls, 0), (.int start, 0), (rD b day, 0)] = .ok (dueL mv ls start day, 0) := by
  rw [f__law_looks_told, fnOf_ap]
  have q := day_looks_s b mv ls hl start day hd
  unfold looksF at q
  unfold dueL
  split
  · rename_i c
    rw [if_pos c] at q
    split
    · rename_i c1
      rw [if_pos c1] at q
      split
      · rename_i e he
        rw [he] at q
        simp [b__law_looks_told, fill, q, told_BadEvent, lk_BadGraph_BadEvent, lk_BadOrder_BadEvent, lk_BadEvent_BadEvent]
      · rename_i l he
        rw [he] at q
        simp [b__law_looks_told, fill, q]
    · rename_i c1
      rw [if_neg c1] at q
      simp [b__law_looks_told, fill, q, told_BadOrder, lk_BadGraph_BadOrder, lk_BadOrder_BadOrder]
  · rename_i c
    rw [if_neg c] at q
    simp [b__law_looks_told, fill, q, told_BadGraph, lk_BadGraph_BadGraph]
end L70
namespace L70
open PySem VS
def dmF (o : Option Exn) : FR := match o with
  | none => .ok (.non, 0)
  | some x => .exc x
@[simp] theorem dmF_none : dmF none = .ok (.non, 0) := rfl
@[simp] theorem dmF_some (x : Exn) : dmF (some x) = .exc x := rfl
def mX (mv : Mv) (ls : List D) : Option Exn := if isMc mv ls = true then none else some ⟨"BadGraph", none⟩
def rX (mv : Mv) (r : Int) : Option Exn := if 0 ≤ r ∧ r < (mv.length : Int) then none else some ⟨"BadOrder", none⟩
def eX (mv : Mv) (e : Int) : Option Exn := if 0 ≤ e ∧ e < ((gt mv 0).length : Int) then none else some ⟨"BadEvent", some ("index", .int e)⟩
def nX (ds : List D) : Option Exn := if ds.length ≤ 60 then none else some ⟨"TooMany", some ("limit", .int 60)⟩
/-- the rows of starts: one start, none, or it twice -/
def stI (start : Int) (k : Nat) : List Int := match k with
  | 0 => [start]
  | 1 => []
  | _ => [start, start]
def sX (mv : Mv) (start : Int) (k : Nat) : Option Exn := if k = 0 ∧ 0 ≤ start ∧ start < (mv.length : Int) then none else some ⟨"BadOrder", none⟩
section
variable (b : Bool) (mv : Mv) (ls : List D) (hl : ∀ d ∈ ls, Lk d)
include hl in
theorem dm_s : f_demand_machine [(mD b mv, 0), (lD b ls, 0)] = dmF (mX mv ls) := by
  rw [demand_machine_s b mv ls hl]
  unfold mX
  split <;> rfl
theorem dr_s (r : Int) : f_demand_rest [(mD b mv, 0), (.int r, 0)] = dmF (rX mv r) := by
  rw [demand_rest_s b mv r]
  unfold rX
  split <;> rfl
theorem mX_len (h : mX mv ls = none) : 0 < mv.length := by
  unfold mX at h
  split at h
  · rename_i c
    exact (VM.of (isMc_iff c).1).n0
  · cases h
theorem de_s (h : mX mv ls = none) (e : Int) : f_demand_event [(mD b mv, 0), (.int e, 0)] = dmF (eX mv e) := by
  rw [demand_event_s b mv (mX_len mv ls h) e]
  unfold eX
  split <;> rfl
theorem dn_s (ds : List D) : f_demand_seen [(.lst ds, 0)] = dmF (nX ds) := by
  rw [demand_seen_s ds]
  unfold nX
  split <;> rfl
theorem asc_s (start n : Int) (k : Nat) : f_are_ascending [(.lst ((stI start k).map .int), 0), (.int n, 0)] = .ok (.bl (k = 1 ∨ (k = 0 ∧ 0 ≤ start ∧ start < n)), 0) := by
  rw [f_are_ascending, fnOf_ap]
  unfold stI
  split
  · by_cases c : 0 ≤ start ∧ start < n
    · have c' : ¬ start ≤ -1 := by omega
      simp [b_are_ascending, fill, forGo_cons, forGo_nil, is_index_s, c, c']
    · simp [b_are_ascending, fill, forGo_cons, forGo_nil, is_index_s, c]
  · simp [b_are_ascending, fill, forGo_nil]
  · rename_i h0 h1
    have k0 : ¬ k = 0 := fun e => h0 e
    have k1 : ¬ k = 1 := fun e => h1 e
    by_cases c : 0 ≤ start ∧ start < n
    · have c' : ¬ start ≤ -1 := by omega
      simp [b_are_ascending, fill, forGo_cons, forGo_nil, is_index_s, c, c', k0, k1]
    · simp [b_are_ascending, fill, forGo_cons, forGo_nil, is_index_s, c, k0, k1]
theorem dst_s (start : Int) (k : Nat) : f_demand_starts [(mD b mv, 0), (.lst ((stI start k).map .int), 0)] = dmF (sX mv start k) := by
  rw [f_demand_starts, fnOf_ap]
  have q := asc_s start (mv.length : Int) k
  unfold sX
  by_cases k1 : k = 1
  · subst k1
    simp [b_demand_starts, fill, stI, zRs]
  · have hne : ¬ (((stI start k).length : Nat) : Int) = 0 := by
      unfold stI
      split <;> simp_all
    have hne' : ¬ (stI start k) = [] := fun e => hne (by rw [e]; rfl)
    by_cases c : k = 0 ∧ 0 ≤ start ∧ start < (mv.length : Int)
    · rw [if_pos c]
      obtain ⟨rfl, c⟩ := c
      simp [b_demand_starts, fill, hne', q, c]
    · rw [if_neg c]
      simp [b_demand_starts, fill, hne, hne', q, k1, c, zRs]
variable {start event : Int} {ds : List D} {k : Nat} {x : Exn}
include hl in
theorem alike_s (h : mX mv ls = some x) : f_alike_groups [(mD b mv, 0), (lD b ls, 0)] = .exc x := by
  rw [f_alike_groups, fnOf_ap]
  have q1 := dm_s b mv ls hl
  rw [h] at q1
  simp [b_alike_groups, fill, q1]
theorem rX0 (h : 0 < mv.length) : rX mv 0 = none := by
  unfold rX
  rw [if_pos ⟨by omega, by omega⟩]
include hl in
theorem telling_s (h : (mX mv ls).or (rX mv start) = some x) : f_telling_day [(mD b mv, 0), (lD b ls, 0), (.int start, 0), (.int 0, 0)] = .exc x := by
  rw [f_telling_day, fnOf_ap]
  have q1 := dm_s b mv ls hl
  have q2 := dr_s b mv start
  cases e1 : mX mv ls with
  | some y =>
    rw [e1] at q1 h
    cases h
    simp [b_telling_day, fill, q1]
  | none =>
    rw [e1] at q1 h
    have h : rX mv start = some x := h
    rw [h] at q2
    simp [b_telling_day, fill, q1, q2]
include hl in
theorem telling2_s (h : (mX mv ls).or (rX mv start) = some x) : f_telling_day [(mD b mv, 0), (lD b ls, 0), (.int 0, 0), (.int start, 0)] = .exc x := by
  rw [f_telling_day, fnOf_ap]
  have q1 := dm_s b mv ls hl
  have q2 := dr_s b mv start
  have q3 := dr_s b mv 0
  cases e1 : mX mv ls with
  | some y =>
    rw [e1] at q1 h
    cases h
    simp [b_telling_day, fill, q1]
  | none =>
    rw [rX0 mv (mX_len mv ls e1)] at q3
    rw [e1] at q1 h
    have h : rX mv start = some x := h
    rw [h] at q2
    simp [b_telling_day, fill, q1, q2, q3]
include hl in
theorem small_s (h : (mX mv ls).or (rX mv start) = some x) : f_small_machine [(mD b mv, 0), (lD b ls, 0), (.int start, 0)] = .exc x := by
  rw [f_small_machine, fnOf_ap]
  have q1 := dm_s b mv ls hl
  have q2 := dr_s b mv start
  cases e1 : mX mv ls with
  | some y =>
    rw [e1] at q1 h
    cases h
    simp [b_small_machine, fill, q1]
  | none =>
    rw [e1] at q1 h
    have h : rX mv start = some x := h
    rw [h] at q2
    simp [b_small_machine, fill, q1, q2]
include hl in
theorem parting_s (h : (mX mv ls).or (rX mv start) = some x) : f_parting_day [(.tup [mD b mv, lD b ls, .int start], 0), (.tup [mD b mv, lD b ls, .int 0], 0)] = .exc x := by
  rw [f_parting_day, fnOf_ap]
  have q1 := dm_s b mv ls hl
  have q2 := dr_s b mv start
  cases e1 : mX mv ls with
  | some y =>
    rw [e1] at q1 h
    cases h
    simp [b_parting_day, fill, q1]
  | none =>
    have hn := mX_len mv ls e1
    rw [e1] at q1 h
    have h : rX mv start = some x := h
    rw [h] at q2
    simp (disch := omega) [b_parting_day, fill, q1, q2, gIx_mD]
include hl in
theorem parting2_s (h : (mX mv ls).or (rX mv start) = some x) : f_parting_day [(.tup [mD b mv, lD b ls, .int 0], 0), (.tup [mD b mv, lD b ls, .int start], 0)] = .exc x := by
  rw [f_parting_day, fnOf_ap]
  have q1 := dm_s b mv ls hl
  have q2 := dr_s b mv start
  have q3 := dr_s b mv 0
  cases e1 : mX mv ls with
  | some y =>
    rw [e1] at q1 h
    cases h
    simp [b_parting_day, fill, q1]
  | none =>
    have hn := mX_len mv ls e1
    rw [rX0 mv hn] at q3
    rw [e1] at q1 h
    have h : rX mv start = some x := h
    rw [h] at q2
    simp (disch := omega) [b_parting_day, fill, q1, q2, q3, gIx_mD]
include hl in
theorem paper_s (h : (mX mv ls).or ((rX mv start).or (eX mv event)) = some x) : f_told_paper [(mD b mv, 0), (lD b ls, 0), (.int start, 0), (.int event, 0)] = .exc x := by
  rw [f_told_paper, fnOf_ap]
  have q1 := dm_s b mv ls hl
  have q2 := dr_s b mv start
  cases e1 : mX mv ls with
  | some y =>
    rw [e1] at q1 h
    cases h
    simp [b_told_paper, fill, q1]
  | none =>
    have q3 := de_s b mv ls e1 event
    rw [e1] at q1 h
    replace h : (rX mv start).or (eX mv event) = some x := h
    cases e2 : rX mv start with
    | some y =>
      rw [e2] at q2 h
      cases h
      simp [b_told_paper, fill, q1, q2]
    | none =>
      rw [e2] at q2 h
      replace h : eX mv event = some x := h
      rw [h] at q3
      simp [b_told_paper, fill, q1, q2, q3]
include hl in
theorem delay_s (h : (mX mv ls).or ((rX mv start).or (eX mv event)) = some x) : f_delay [(mD b mv, 0), (lD b ls, 0), (.int start, 0), (.int event, 0)] = .exc x := by
  rw [f_delay, fnOf_ap]
  have q := paper_s b mv ls hl h
  simp [b_delay, fill, q]
include hl in
theorem fits_s (h : (mX mv ls).or ((rX mv start).or (nX ds)) = some x) : f_fits_day [(mD b mv, 0), (lD b ls, 0), (.int start, 0), (.lst [], 0), (.lst ds, 0)] = .exc x := by
  rw [f_fits_day, fnOf_ap]
  have q1 := dm_s b mv ls hl
  have q2 := dr_s b mv start
  have q3 := dn_s ds
  cases e1 : mX mv ls with
  | some y =>
    rw [e1] at q1 h
    cases h
    simp [b_fits_day, fill, q1]
  | none =>
    rw [e1] at q1 h
    replace h : (rX mv start).or (nX ds) = some x := h
    cases e2 : rX mv start with
    | some y =>
      rw [e2] at q2 h
      cases h
      simp [b_fits_day, fill, q1, q2]
    | none =>
      rw [e2] at q2 h
      replace h : nX ds = some x := h
      rw [h] at q3
      simp [b_fits_day, fill, q1, q2, q3]
include hl in
theorem quest_s (h : (mX mv ls).or ((rX mv start).or (nX ds)) = some x) : f_demand_question [(mD b mv, 0), (lD b ls, 0), (.int start, 0), (.lst ds, 0)] = .exc x := by
  rw [f_demand_question, fnOf_ap]
  have q1 := dm_s b mv ls hl
  have q2 := dr_s b mv start
  have q3 := dn_s ds
  cases e1 : mX mv ls with
  | some y =>
    rw [e1] at q1 h
    cases h
    simp [b_demand_question, fill, q1]
  | none =>
    rw [e1] at q1 h
    replace h : (rX mv start).or (nX ds) = some x := h
    cases e2 : rX mv start with
    | some y =>
      rw [e2] at q2 h
      cases h
      simp [b_demand_question, fill, q1, q2]
    | none =>
      rw [e2] at q2 h
      replace h : nX ds = some x := h
      rw [h] at q3
      simp [b_demand_question, fill, q1, q2, q3]
include hl in
theorem count_s (h : (mX mv ls).or ((rX mv start).or (nX ds)) = some x) : f_count_days [(mD b mv, 0), (lD b ls, 0), (.int start, 0), (.lst ds, 0)] = .exc x := by
  rw [f_count_days, fnOf_ap]
  have q := quest_s b mv ls hl h
  simp [b_count_days, fill, q]
include hl in
theorem nday_s (h : (mX mv ls).or ((rX mv start).or (nX ds)) = some x) : f_numbered_day [(mD b mv, 0), (lD b ls, 0), (.int start, 0), (.lst ds, 0), (.int 0, 0)] = .exc x := by
  rw [f_numbered_day, fnOf_ap]
  have q := quest_s b mv ls hl h
  simp [b_numbered_day, fill, q]
include hl in
theorem dayn_s (h : (mX mv ls).or ((rX mv start).or (nX ds)) = some x) : f_day_number [(mD b mv, 0), (lD b ls, 0), (.int start, 0), (.lst ds, 0), (.lst [], 0)] = .exc x := by
  rw [f_day_number, fnOf_ap]
  have q := quest_s b mv ls hl h
  simp [b_day_number, fill, q]
include hl in
theorem beliefs_s (h : (mX mv ls).or ((sX mv start k).or (nX ds)) = some x) : f_beliefs [(mD b mv, 0), (lD b ls, 0), (.lst ((stI start k).map .int), 0), (.lst ds, 0)] = .exc x := by
  rw [f_beliefs, fnOf_ap]
  have q1 := dm_s b mv ls hl
  have q2 := dst_s b mv start k
  have q3 := dn_s ds
  cases e1 : mX mv ls with
  | some y =>
    rw [e1] at q1 h
    cases h
    simp [b_beliefs, fill, q1]
  | none =>
    rw [e1] at q1 h
    replace h : (sX mv start k).or (nX ds) = some x := h
    cases e2 : sX mv start k with
    | some y =>
      rw [e2] at q2 h
      cases h
      simp [b_beliefs, fill, q1, q2]
    | none =>
      rw [e2] at q2 h
      replace h : nX ds = some x := h
      rw [h] at q3
      simp [b_beliefs, fill, q1, q2, q3]
include hl in
theorem first_s (h : (mX mv ls).or ((sX mv start k).or (nX ds)) = some x) : f_first_day [(mD b mv, 0), (lD b ls, 0), (.lst ((stI start k).map .int), 0), (.lst ds, 0)] = .exc x := by
  rw [f_first_day, fnOf_ap]
  have q1 := dm_s b mv ls hl
  have q2 := dst_s b mv start k
  have q3 := dn_s ds
  cases e1 : mX mv ls with
  | some y =>
    rw [e1] at q1 h
    cases h
    simp [b_first_day, fill, q1]
  | none =>
    rw [e1] at q1 h
    replace h : (sX mv start k).or (nX ds) = some x := h
    cases e2 : sX mv start k with
    | some y =>
      rw [e2] at q2 h
      cases h
      simp [b_first_day, fill, q1, q2]
    | none =>
      rw [e2] at q2 h
      replace h : nX ds = some x := h
      rw [h] at q3
      simp [b_first_day, fill, q1, q2, q3]
include hl in
theorem possible_s (h : (mX mv ls).or ((sX mv start k).or (nX ds)) = some x) : f_possible_presses [(mD b mv, 0), (lD b ls, 0), (.lst ((stI start k).map .int), 0), (.lst ds, 0)] = .exc x := by
  rw [f_possible_presses, fnOf_ap]
  have q1 := dm_s b mv ls hl
  have q2 := dst_s b mv start k
  have q3 := dn_s ds
  cases e1 : mX mv ls with
  | some y =>
    rw [e1] at q1 h
    cases h
    simp [b_possible_presses, fill, q1]
  | none =>
    rw [e1] at q1 h
    replace h : (sX mv start k).or (nX ds) = some x := h
    cases e2 : sX mv start k with
    | some y =>
      rw [e2] at q2 h
      cases h
      simp [b_possible_presses, fill, q1, q2]
    | none =>
      rw [e2] at q2 h
      replace h : nX ds = some x := h
      rw [h] at q3
      simp [b_possible_presses, fill, q1, q2, q3]
include hl in
theorem must_s (h : (mX mv ls).or ((sX mv start k).or ((nX ds).or (eX mv event))) = some x) : f_must_paper [(mD b mv, 0), (lD b ls, 0), (.lst ((stI start k).map .int), 0), (.lst ds, 0), (.int event, 0)] = .exc x := by
  rw [f_must_paper, fnOf_ap]
  have q1 := dm_s b mv ls hl
  have q2 := dst_s b mv start k
  have q3 := dn_s ds
  cases e1 : mX mv ls with
  | some y =>
    rw [e1] at q1 h
    cases h
    simp [b_must_paper, fill, q1]
  | none =>
    have q4 := de_s b mv ls e1 event
    rw [e1] at q1 h
    replace h : (sX mv start k).or ((nX ds).or (eX mv event)) = some x := h
    cases e2 : sX mv start k with
    | some y =>
      rw [e2] at q2 h
      cases h
      simp [b_must_paper, fill, q1, q2]
    | none =>
      rw [e2] at q2 h
      replace h : (nX ds).or (eX mv event) = some x := h
      cases e3 : nX ds with
      | some y =>
        rw [e3] at q3 h
        cases h
        simp [b_must_paper, fill, q1, q2, q3]
      | none =>
        rw [e3] at q3 h
        replace h : eX mv event = some x := h
        rw [h] at q4
        simp [b_must_paper, fill, q1, q2, q3, q4]
include hl in
theorem least_s (h : (mX mv ls).or ((sX mv start k).or ((nX ds).or (eX mv event))) = some x) : f_least_times [(mD b mv, 0), (lD b ls, 0), (.lst ((stI start k).map .int), 0), (.lst ds, 0), (.int event, 0)] = .exc x := by
  rw [f_least_times, fnOf_ap]
  have q1 := dm_s b mv ls hl
  have q2 := dst_s b mv start k
  have q3 := dn_s ds
  cases e1 : mX mv ls with
  | some y =>
    rw [e1] at q1 h
    cases h
    simp [b_least_times, fill, q1]
  | none =>
    have q4 := de_s b mv ls e1 event
    rw [e1] at q1 h
    replace h : (sX mv start k).or ((nX ds).or (eX mv event)) = some x := h
    cases e2 : sX mv start k with
    | some y =>
      rw [e2] at q2 h
      cases h
      simp [b_least_times, fill, q1, q2]
    | none =>
      rw [e2] at q2 h
      replace h : (nX ds).or (eX mv event) = some x := h
      cases e3 : nX ds with
      | some y =>
        rw [e3] at q3 h
        cases h
        simp [b_least_times, fill, q1, q2, q3]
      | none =>
        rw [e3] at q3 h
        replace h : eX mv event = some x := h
        rw [h] at q4
        simp [b_least_times, fill, q1, q2, q3, q4]
include hl in
theorem reader_s (h : (mX mv ls).or (sX mv start k) = some x) : ∃ o, f_Reader___init__ [(.ins "Reader" [] [], 1), (mD b mv, 0), (lD b ls, 0), (.lst ((stI start k).map .int), 0)] = .exc x o := by
  rw [f_Reader___init__, fnIO_ap]
  have q1 := dm_s b mv ls hl
  have q2 := dst_s b mv start k
  cases e1 : mX mv ls with
  | some y =>
    rw [e1] at q1 h
    cases h
    refine ⟨[(.ins "Reader" [] [], 1)], ?_⟩
    simp [b_Reader___init__, fill, q1]
  | none =>
    rw [e1] at q1 h
    replace h : sX mv start k = some x := h
    rw [h] at q2
    refine ⟨[(.ins "Reader" [] [], 1)], ?_⟩
    simp [b_Reader___init__, fill, q1, q2]
end
end L70
namespace L70
open PySem VS
/-- what is due first, if anything -/
def dueX (which : Int) (mv : Mv) (ls : List D) (start : Int) (k : Nat) (ds : List D) (event : Int) : Option Exn :=
  if ¬ isMc mv ls = true then some ⟨"BadGraph", none⟩
  else if which > 0 ∧ ¬ (0 ≤ start ∧ start < (mv.length : Int)) then some ⟨"BadOrder", none⟩
  else if ((10 ≤ which ∧ which ≤ 14) ∨ which = 17) ∧ k ≠ 0 then some ⟨"BadOrder", none⟩
  else if (6 ≤ which ∧ which ≤ 14) ∧ ¬ ds.length ≤ 60 then some ⟨"TooMany", some ("limit", .int 60)⟩
  else if (which = 4 ∨ which = 5 ∨ which = 13 ∨ which = 14) ∧ ¬ (0 ≤ event ∧ event < ((gt mv 0).length : Int)) then some ⟨"BadEvent", some ("index", .int event)⟩
  else none
def xnD (o : Option Exn) : D := match o with
  | none => .tup [.str "ok", .int 0]
  | some ⟨c, none⟩ => .tup [.str c, .int 0]
  | some ⟨c, some (_, d)⟩ => .tup [.str c, d]
theorem stI_len (start : Int) (k : Nat) : ((stI start k).length = 1) = (k = 0) := by
  unfold stI
  split <;> simp_all
theorem in4 (w : Int) : gIn false (.int w) (.lst [.int 4, .int 5, .int 13, .int 14]) = some (.bl (decide (w = 4 ∨ w = 5 ∨ w = 13 ∨ w = 14)), 0) := by
  have := gIn_lst false w [4, 5, 13, 14]
  simpa using this
theorem due_s (which : Int) (mv : Mv) (ls : List D) (start : Int) (k : Nat) (ds : List D) (event : Int) :
    f__law_due [(.int which, 0), (mD false mv, 0), (lD false ls, 0), (.int start, 0), (.lst ((stI start k).map .int), 0), (.lst ds, 0), (.int event, 0)] = .ok (xnD (dueX which mv ls start k ds event), 0) := by
  rw [f__law_due, fnOf_ap]
  have q := right_s false mv
  generalize hS : ([some (.int which, 0), some (mD false mv, 0), some (lD false ls, 0), some (.int start, 0), some (.lst ((stI start k).map .int), 0), some (.lst ds, 0), some (.int event, 0)] : SD) = S
  have T1 : tOr' (tNot' (tst (cal 1 f__law_right_moves [] (gFz (rdv 1) gNil)))) (tst (op2 gNe (bor1 gLen 2) (bor1 gLen 1))) S = .ok (!isMc mv ls) S := by
    rw [← hS]
    unfold isMc
    by_cases c1 : isM mv = true
    · rw [c1] at q
      simp [q, c1]
      by_cases e : ls.length = mv.length <;> simp [e]
      intro z
      exact absurd z (by omega)
    · have c1' : isM mv = false := by simpa using c1
      rw [c1'] at q
      simp [q, c1']
  have T2 : tAnd' (tst (op2 gGt (rdv 0) (cst (.int 0)))) (tOr' (tst (op2 gLt (rdv 3) (cst (.int 0)))) (tst (op2 gGe (rdv 3) (bor1 gLen 1)))) S = .ok (decide (which > 0 ∧ ¬ (0 ≤ start ∧ start < (mv.length : Int)))) S := by
    rw [← hS]
    by_cases c1 : 0 < which <;> by_cases c2 : start < 0
    · have c3 : ¬ 0 ≤ start := by omega
      simp [c1, c2, c3]
    · have c3 : 0 ≤ start := by omega
      simp [c1, c2, c3]
    · simp [c1]
    · simp [c1]
  have T3 : tAnd' (tOr' (chn gLe gLe (cst (.int 10)) (rdv 0) (cst (.int 14))) (tst (op2 gEq (rdv 0) (cst (.int 17))))) (tst (op2 gNe (bor1 gLen 4) (cst (.int 1)))) S = .ok (decide (((10 ≤ which ∧ which ≤ 14) ∨ which = 17) ∧ k ≠ 0)) S := by
    rw [← hS]
    have h1 := stI_len start k
    have h2 : ((((stI start k).length : Nat) : Int) = 1) = (k = 0) := by
      rw [← h1]
      apply propext
      constructor <;> intro z <;> omega
    by_cases c1 : 10 ≤ which <;> by_cases c2 : which ≤ 14 <;> by_cases c3 : which = 17 <;> simp [c1, c2, c3, h2]
  have T4 : tAnd' (chn gLe gLe (cst (.int 6)) (rdv 0) (cst (.int 14))) (tst (op2 gGt (bor1 gLen 5) (cst (.int 60)))) S = .ok (decide ((6 ≤ which ∧ which ≤ 14) ∧ ¬ ds.length ≤ 60)) S := by
    rw [← hS]
    have h2 : ((60 : Int) < ((ds.length : Nat) : Int)) = (60 < ds.length) := by
      apply propext
      constructor <;> intro z <;> omega
    by_cases c1 : 6 ≤ which <;> by_cases c2 : which ≤ 14 <;> simp [c1, c2, h2]
  unfold dueX
  by_cases c0 : isMc mv ls = true
  · obtain ⟨c1, c2⟩ := isMc_iff c0
    have V := VM.of c1
    have hn := V.n0
    have T5 : tAnd' (tst (op2 (gIn false) (rdv 0) (dLst (aCons (cst (.int 4)) (aCons (cst (.int 5)) (aCons (cst (.int 13)) (aCons (cst (.int 14)) aNil))))))) (tOr' (tst (op2 gLt (rdv 6) (cst (.int 0)))) (tst (op2 gGe (rdv 6) (opN (un1 gLen) (aCons (ixv 1 (cst (.int 0))) aNil))))) S
        = .ok (decide ((which = 4 ∨ which = 5 ∨ which = 13 ∨ which = 14) ∧ ¬ (0 ≤ event ∧ event < ((gt mv 0).length : Int)))) S := by
      rw [← hS]
      by_cases c4 : which = 4 ∨ which = 5 ∨ which = 13 ∨ which = 14
      · by_cases c5 : event < 0
        · have c6 : ¬ 0 ≤ event := by omega
          simp (disch := omega) [in4, c4, c5, c6]
        · have c6 : 0 ≤ event := by omega
          simp (disch := omega) [in4, c4, c5, c6, gIx_mD]
      · simp (disch := omega) [in4, c4]
    rw [if_neg (by simp [c0])]
    simp [b__law_due, fill, hS, -tAnd_ap, -tOr_ap, T1, T2, T3, T4, T5, c0]
    rw [← hS]
    simp
    repeat' split
    all_goals first | rfl | (exfalso; omega)
  · rw [if_pos c0]
    have c1 : isMc mv ls = false := by simpa using c0
    simp [b__law_due, fill, hS, -tAnd_ap, -tOr_ap, T1, c1, xnD]
theorem call_s (b : Bool) (which : Int) (w0 : 0 ≤ which) (w1 : which < 18) (mv : Mv) (ls : List D) (hl : ∀ d ∈ ls, Lk d) (start : Int) (k : Nat) (ds : List D) (event : Int) (x : Exn) (h : dueX which mv ls start k ds event = some x) :
    f__law_call [(.int which, 0), (mD b mv, 0), (lD b ls, 0), (.int start, 0), (.lst ((stI start k).map .int), 0), (.lst ds, 0), (.int event, 0)] = .exc x := by
  rw [f__law_call, fnOf_ap]
  have hM : mX mv ls = some x ∨ (mX mv ls = none ∧ isMc mv ls = true) := by
    unfold dueX at h
    unfold mX
    by_cases c : isMc mv ls = true
    · rw [if_pos c]; exact .inr ⟨rfl, c⟩
    · rw [if_pos c] at h
      rw [if_neg c]; exact .inl h
  have hR : which > 0 → mX mv ls = none → rX mv start = some x ∨ (rX mv start = none ∧ 0 ≤ start ∧ start < (mv.length : Int)) := fun g e => by
    have c : isMc mv ls = true := by
      unfold mX at e
      split at e
      · assumption
      · cases e
    unfold dueX at h
    unfold rX
    rw [if_neg (by simp [c])] at h
    by_cases d : 0 ≤ start ∧ start < (mv.length : Int)
    · rw [if_pos d]; exact .inr ⟨rfl, d⟩
    · rw [if_pos ⟨g, d⟩] at h
      rw [if_neg d]; exact .inl h
  have hS : ((10 ≤ which ∧ which ≤ 14) ∨ which = 17) → mX mv ls = none → sX mv start k = some x ∨ (sX mv start k = none ∧ k = 0 ∧ 0 ≤ start ∧ start < (mv.length : Int)) := fun g e => by
    have c : isMc mv ls = true := by
      unfold mX at e
      split at e
      · assumption
      · cases e
    unfold dueX at h
    unfold sX
    rw [if_neg (by simp [c])] at h
    by_cases d : 0 ≤ start ∧ start < (mv.length : Int)
    · rw [if_neg (fun z => z.2 d)] at h
      by_cases d2 : k = 0
      · rw [if_pos ⟨d2, d⟩]; exact .inr ⟨rfl, d2, d⟩
      · rw [if_pos ⟨g, d2⟩] at h
        rw [if_neg (fun z => d2 z.1)]; exact .inl h
    · rw [if_pos ⟨by omega, d⟩] at h
      rw [if_neg (fun z => d z.2)]; exact .inl h
  have hN : (6 ≤ which ∧ which ≤ 14) → mX mv ls = none → 0 ≤ start ∧ start < (mv.length : Int) → (10 ≤ which → k = 0) → nX ds = some x ∨ (nX ds = none ∧ ds.length ≤ 60) := fun g e d gk => by
    have c : isMc mv ls = true := by
      unfold mX at e
      split at e
      · assumption
      · cases e
    unfold dueX at h
    unfold nX
    rw [if_neg (by simp [c]), if_neg (fun z => z.2 d), if_neg (fun z => z.2 (gk (by omega)))] at h
    by_cases d2 : ds.length ≤ 60
    · rw [if_pos d2]; exact .inr ⟨rfl, d2⟩
    · rw [if_pos ⟨g, d2⟩] at h
      rw [if_neg d2]; exact .inl h
  have hE : (which = 4 ∨ which = 5 ∨ which = 13 ∨ which = 14) → mX mv ls = none → 0 ≤ start ∧ start < (mv.length : Int) → (10 ≤ which → k = 0) → (6 ≤ which → ds.length ≤ 60) → eX mv event = some x := fun g e d gk gd => by
    have c : isMc mv ls = true := by
      unfold mX at e
      split at e
      · assumption
      · cases e
    unfold dueX at h
    unfold eX
    rw [if_neg (by simp [c]), if_neg (fun z => z.2 d), if_neg (fun z => z.2 (gk (by omega))), if_neg (fun z => z.2 (gd (by omega)))] at h
    by_cases d2 : 0 ≤ event ∧ event < ((gt mv 0).length : Int)
    · rw [if_neg (fun z => z.2 d2)] at h; cases h
    · rw [if_pos ⟨g, d2⟩] at h
      rw [if_neg d2]; exact h
  have H0 : mX mv ls = none → isMc mv ls = true := fun e => hM.elim (fun z => by rw [e] at z; cases z) fun z => z.2
  have no : which = 0 ∨ which = 1 ∨ which = 2 ∨ which = 3 ∨ which = 15 ∨ which = 16 ∨ which = 17 ∨ (6 ≤ which ∧ which ≤ 12) → True := fun _ => trivial
  have last : mX mv ls = none → (which > 0 → rX mv start = none) → ((10 ≤ which ∧ which ≤ 14) ∨ which = 17 → sX mv start k = none) → ((6 ≤ which ∧ which ≤ 14) → nX ds = none) → (which = 4 ∨ which = 5 ∨ which = 13 ∨ which = 14) := fun e1 e2 e3 e4 => by
    have c := H0 e1
    unfold dueX at h
    rw [if_neg (by simp [c])] at h
    by_cases d1 : which > 0 ∧ ¬ (0 ≤ start ∧ start < (mv.length : Int))
    · have := e2 d1.1
      unfold rX at this
      rw [if_neg d1.2] at this; cases this
    · rw [if_neg d1] at h
      by_cases d2 : ((10 ≤ which ∧ which ≤ 14) ∨ which = 17) ∧ k ≠ 0
      · have := e3 d2.1
        unfold sX at this
        rw [if_neg (fun z => d2.2 z.1)] at this; cases this
      · rw [if_neg d2] at h
        by_cases d3 : (6 ≤ which ∧ which ≤ 14) ∧ ¬ ds.length ≤ 60
        · have := e4 d3.1
          unfold nX at this
          rw [if_neg d3.2] at this; cases this
        · rw [if_neg d3] at h
          by_cases d4 : (which = 4 ∨ which = 5 ∨ which = 13 ∨ which = 14) ∧ ¬ (0 ≤ event ∧ event < ((gt mv 0).length : Int))
          · exact d4.1
          · rw [if_neg d4] at h; cases h
  have oM : ∀ o : Option Exn, (mX mv ls = none → o = some x) → (mX mv ls).or o = some x := fun o g => by
    rcases hM with e | ⟨e, _⟩
    · rw [e]; rfl
    · rw [e, g e]; rfl
  have xM : mX mv ls = none ∨ mX mv ls = some x := hM.elim .inr fun z => .inl z.1
  have w : which = 0 ∨ which = 1 ∨ which = 2 ∨ which = 3 ∨ which = 4 ∨ which = 5 ∨ which = 6 ∨ which = 7 ∨ which = 8 ∨ which = 9 ∨ which = 10 ∨ which = 11 ∨ which = 12 ∨ which = 13 ∨ which = 14 ∨ which = 15 ∨ which = 16 ∨ which = 17 := by omega
  -- what is due of each kind of arguments
  have kR : which > 0 → ¬ ((10 ≤ which ∧ which ≤ 14) ∨ which = 17) → ¬ (6 ≤ which ∧ which ≤ 14) → ¬ (which = 4 ∨ which = 5 ∨ which = 13 ∨ which = 14) → (mX mv ls).or (rX mv start) = some x := fun g1 g2 g3 g4 => oM _ fun e => by
    rcases hR g1 e with r | ⟨r, d⟩
    · exact r
    · exact absurd (last e (fun _ => r) (fun z => absurd z g2) (fun z => absurd z g3)) g4
  have kRE : (which = 4 ∨ which = 5) → (mX mv ls).or ((rX mv start).or (eX mv event)) = some x := fun g => oM _ fun e => by
    rcases hR (by omega) e with r | ⟨r, d⟩
    · rw [r]; rfl
    · rw [r, hE (by omega) e d (by omega) (by omega)]; rfl
  have kRN : (6 ≤ which ∧ which ≤ 9) → (mX mv ls).or ((rX mv start).or (nX ds)) = some x := fun g => oM _ fun e => by
    rcases hR (by omega) e with r | ⟨r, d⟩
    · rw [r]; rfl
    · rw [r]
      rcases hN (by omega) e d (by omega) with n | ⟨n, n2⟩
      · rw [n]; rfl
      · have := last e (fun _ => r) (fun z => by omega) (fun _ => n)
        omega
  have kSN : (10 ≤ which ∧ which ≤ 12) → (mX mv ls).or ((sX mv start k).or (nX ds)) = some x := fun g => oM _ fun e => by
    rcases hS (by omega) e with r | ⟨r, k0, d⟩
    · rw [r]; rfl
    · rw [r]
      rcases hN (by omega) e d (fun _ => k0) with n | ⟨n, n2⟩
      · rw [n]; rfl
      · have rr : rX mv start = none := by unfold rX; rw [if_pos d]
        have := last e (fun _ => rr) (fun _ => r) (fun _ => n)
        omega
  have kSE : (which = 13 ∨ which = 14) → (mX mv ls).or ((sX mv start k).or ((nX ds).or (eX mv event))) = some x := fun g => oM _ fun e => by
    rcases hS (by omega) e with r | ⟨r, k0, d⟩
    · rw [r]; rfl
    · rw [r]
      rcases hN (by omega) e d (fun _ => k0) with n | ⟨n, n2⟩
      · rw [n]; rfl
      · rw [n, hE (by omega) e d (fun _ => k0) (fun _ => n2)]; rfl
  have kS : which = 17 → (mX mv ls).or (sX mv start k) = some x := fun g => oM _ fun e => by
    rcases hS (by omega) e with r | ⟨r, k0, d⟩
    · exact r
    · have rr : rX mv start = none := by unfold rX; rw [if_pos d]
      have := last e (fun _ => rr) (fun _ => r) (fun z => by omega)
      omega
  have kM : which = 0 → mX mv ls = some x := fun g => by
    rcases hM with e | ⟨e, _⟩
    · exact e
    · have := last e (fun z => by omega) (fun z => by omega) (fun z => by omega)
      omega
  rcases w with rfl | rfl | rfl | rfl | rfl | rfl | rfl | rfl | rfl | rfl | rfl | rfl | rfl | rfl | rfl | rfl | rfl | rfl
  · have := alike_s b mv ls hl (kM rfl)
    simp [b__law_call, fill, this]
  · have := telling_s b mv ls hl (kR (by decide) (by decide) (by decide) (by decide))
    simp [b__law_call, fill, this]
  · have := small_s b mv ls hl (kR (by decide) (by decide) (by decide) (by decide))
    simp [b__law_call, fill, this]
  · have := parting_s b mv ls hl (kR (by decide) (by decide) (by decide) (by decide))
    simp [b__law_call, fill, this]
  · have := paper_s b mv ls hl (kRE (by decide))
    simp [b__law_call, fill, this]
  · have := delay_s b mv ls hl (kRE (by decide))
    simp [b__law_call, fill, this]
  · have := fits_s b mv ls hl (kRN (by decide))
    simp [b__law_call, fill, this]
  · have := count_s b mv ls hl (kRN (by decide))
    simp [b__law_call, fill, this]
  · have := nday_s b mv ls hl (kRN (by decide))
    simp [b__law_call, fill, this]
  · have := dayn_s b mv ls hl (kRN (by decide))
    simp [b__law_call, fill, this]
  · have := beliefs_s b mv ls hl (kSN (by decide))
    simp [b__law_call, fill, this]
  · have := first_s b mv ls hl (kSN (by decide))
    simp [b__law_call, fill, this]
  · have := possible_s b mv ls hl (kSN (by decide))
    simp [b__law_call, fill, this]
  · have := must_s b mv ls hl (kSE (by decide))
    simp [b__law_call, fill, this]
  · have := least_s b mv ls hl (kSE (by decide))
    simp [b__law_call, fill, this]
  · have := telling2_s b mv ls hl (kR (by decide) (by decide) (by decide) (by decide))
    simp [b__law_call, fill, this]
  · have := parting2_s b mv ls hl (kR (by decide) (by decide) (by decide) (by decide))
    simp [b__law_call, fill, this]
  · obtain ⟨o, this⟩ := reader_s b mv ls hl (kS rfl)
    simp [b__law_call, fill, this]
theorem dueX_is {which : Int} {mv : Mv} {ls : List D} {start : Int} {k : Nat} {ds : List D} {event : Int} {x : Exn} (h : dueX which mv ls start k ds event = some x) : x = ⟨"BadGraph", none⟩ ∨ x = ⟨"BadOrder", none⟩ ∨ x = ⟨"TooMany", some ("limit", .int 60)⟩ ∨ x = ⟨"BadEvent", some ("index", .int event)⟩ := by
  unfold dueX at h
  repeat' split at h
  all_goals first | (cases h; simp; done) | cases h
theorem refusal_s (b : Bool) (which : Int) (w0 : 0 ≤ which) (w1 : which < 18) (mv : Mv) (ls : List D) (hl : ∀ d ∈ ls, Lk d) (start : Int) (k : Nat) (ds : List D) (event : Int) (x : Exn) (h : dueX which mv ls start k ds event = some x) :
    f__law_refusal [(.int which, 0), (mD b mv, 0), (lD b ls, 0), (.int start, 0), (.lst ((stI start k).map .int), 0), (.lst ds, 0), (.int event, 0)] = .ok (xnD (some x), 0) := by
  rw [f__law_refusal, fnOf_ap]
  have q := call_s b which w0 w1 mv ls hl start k ds event x h
  rcases dueX_is h with rfl | rfl | rfl | rfl
  · simp [b__law_refusal, fill, q, told_BadGraph, lk_BadGraph_BadGraph, xnD]
  · simp [b__law_refusal, fill, q, told_BadOrder, lk_BadGraph_BadOrder, lk_BadOrder_BadOrder, xnD]
  · simp [b__law_refusal, fill, q, told_TooMany, lk_BadGraph_TooMany, lk_BadOrder_TooMany, lk_TooMany_TooMany, xnD]
  · simp [b__law_refusal, fill, q, told_BadEvent, lk_BadGraph_BadEvent, lk_BadOrder_BadEvent, lk_TooMany_BadEvent, lk_BadEvent_BadEvent, xnD]
end L70
namespace L70
open PySem VS
structure Th where
  mv : Mv
  ls : List D
  st : Int
  dy : List Int
def Th.enc (T : Th) : D := .lst [mD false T.mv, .lst T.ls, .int T.st, .lst (T.dy.map .int)]
structure Good (m : Nat) (T : Th) : Prop where
  n : T.mv.length ≤ 61
  w : ∀ r ∈ T.mv, r.length ≤ 8 + m
  l : T.ls.length ≤ 61 + m
  k : ∀ d ∈ T.ls, Lk d
  d : T.dy.length ≤ 14 + m
theorem Good.up {m : Nat} {T : Th} (h : Good m T) : Good (m + 1) T := ⟨h.n, fun r hr => by have := h.w r hr; omega, by have := h.l; omega, h.k, by have := h.d; omega⟩
theorem gSl_lst' (ls : List D) (lo hi : Option Int) : gSl (.lst ls) lo hi = some (.lst (cutA ls lo hi), 1) := by
  have := gSl_lst id ls lo hi
  simpa using this
theorem beyond_s (size turn far : Int) (h0 : 0 ≤ turn) (h1 : turn < 4) : ∃ v, f__law_beyond [(.int size, 0), (.int turn, 0), (.int far, 0)] = .ok (.int v, 0) := by
  rw [f__law_beyond, fnOf_ap]
  have h : turn = 0 ∨ turn = 1 ∨ turn = 2 ∨ turn = 3 := by omega
  rcases h with rfl | rfl | rfl | rfl <;> exact ⟨_, by simp [b__law_beyond, fill]; rfl⟩
theorem chg6_s {m : Nat} (hm : m ≤ 100) (T : Th) (G : Good m T) (way : Int) (p : List Int) (far width : Int) (hp : p.length = 4) (p2 : 0 ≤ gt p 2 ∧ gt p 2 < 4) (p3 : 0 ≤ gt p 3) (X0 : D) (k4 : Nat) (x5 x10 : Option (D × Nat)) :
    ∃ T' : Th, Good (m + 1) T' ∧ (t__law_changed_6 [some (X0, 0), some (.int way, 0), some (.lst (p.map .int), 0), some (.int far, 0), some (mD false T.mv, k4), x5, some (.lst T.ls, 1), some (.int T.st, 0), some (.lst (T.dy.map .int), 1), some (.int width, 0), x10]).fin (kE (.non, 0)) kS kS = .ok (T'.enc, 1) := by
  obtain ⟨mv, ls, st, dy⟩ := T
  obtain ⟨g1, g2, g3, g4, g5⟩ := G
  dsimp only at g1 g2 g3 g4 g5 ⊢
  have hls := lt_line (n := ls.length) (by omega)
  have hdy := lt_line (n := dy.length) (by omega)
  by_cases w4 : way = 4
  · subst w4
    refine ⟨⟨mv, ls ++ [.int 0], st, dy⟩, ⟨g1, fun r hr => by have := g2 r hr; omega, by simp; omega, fun d hd => ?_, by dsimp only; omega⟩, ?_⟩
    · rcases List.mem_append.mp hd with hd | hd
      · exact g4 d hd
      · rw [List.mem_singleton] at hd
        subst hd; exact .int 0
    · simp [t__law_changed_6, Th.enc, hls]
  · by_cases w5 : way = 5
    · subst w5
      refine ⟨⟨mv, cutA ls none (some (-1)), st, dy⟩, ⟨g1, fun r hr => by have := g2 r hr; omega, ?_, fun d hd => g4 d (cutA_mem hd), by dsimp only; omega⟩, ?_⟩
      · have := cutA_len ls none (some (-1))
        dsimp only; omega
      · simp [t__law_changed_6, Th.enc, gSl_lst']
    · by_cases w6 : way = 6
      · subst w6
        refine ⟨⟨[], [], st, dy⟩, ⟨by simp, fun r hr => absurd hr List.not_mem_nil, by simp, fun r hr => absurd hr List.not_mem_nil, by dsimp only; omega⟩, ?_⟩
        simp [t__law_changed_6, Th.enc, mD]
      · by_cases w7 : way = 7
        · subst w7
          obtain ⟨v, hv⟩ := beyond_s (mv.length : Int) (gt p 2) far p2.1 p2.2
          refine ⟨⟨mv, ls, v, dy⟩, ⟨g1, fun r hr => by have := g2 r hr; omega, by dsimp only; omega, g4, by dsimp only; omega⟩, ?_⟩
          simp (disch := omega) [t__law_changed_6, Th.enc, gIx_lst, hv]
        · by_cases w8 : way = 8
          · subst w8
            obtain ⟨v, hv⟩ := beyond_s width (gt p 2) far p2.1 p2.2
            have hpos : (0 : Int) < (dy.length : Int) + 1 := by omega
            have j0 := Int.emod_nonneg (gt p 3) (b := (dy.length : Int) + 1) (by omega)
            have j1 := Int.emod_lt_of_pos (gt p 3) hpos
            have j2 : gt p 3 % ((dy.length : Int) + 1) < 4611686018427387904 := by omega
            generalize hj : gt p 3 % ((dy.length : Int) + 1) = j at j0 j1 j2
            refine ⟨⟨mv, ls, st, dy.take j.toNat ++ [v] ++ dy.drop j.toNat⟩, ⟨g1, fun r hr => by have := g2 r hr; omega, by dsimp only; omega, g4, by simp; omega⟩, ?_⟩
            simp (disch := omega) [t__law_changed_6, Th.enc, gIx_lst, hpos, hj, hv, hdy, j0, j2]
          · refine ⟨⟨mv, ls, st, dy⟩, ⟨g1, fun r hr => by have := g2 r hr; omega, by dsimp only; omega, g4, by dsimp only; omega⟩, ?_⟩
            simp [t__law_changed_6, Th.enc, w4, w5, w6, w7, w8]
end L70
namespace L70
open PySem VS
theorem set_mem {α : Type} {l : List α} {n : Nat} {a x : α} (h : x ∈ l.set n a) : x = a ∨ x ∈ l := by
  rcases List.mem_or_eq_of_mem_set h with h | h
  · exact .inr h
  · exact .inl h
theorem pureC (sd : SD) : pureE (cst (.int 0)) sd = .ok (.int 0, 0) sd := rfl
theorem rD_f (r : List Int) : rD false r = .lst (r.map .int) := rfl
theorem chg_s {m : Nat} (hm : m ≤ 90) (T : Th) (G : Good m T) (way : Int) (p : List Int) (far : Int) (hp : p.length = 4) (p0 : 0 ≤ gt p 0) (p1 : 0 ≤ gt p 1) (p2 : 0 ≤ gt p 2 ∧ gt p 2 < 4) (p3 : 0 ≤ gt p 3) :
    ∃ T' : Th, Good (m + 2) T' ∧ f__law_changed [(T.enc, 0), (.int way, 0), (.lst (p.map .int), 0), (.int far, 0)] = .ok (T'.enc, 1) := by
  rw [f__law_changed, fnOf_ap]
  obtain ⟨mv, ls, st, dy⟩ := T
  have GG := G
  obtain ⟨g1, g2, g3, g4, g5⟩ := G
  dsimp only at g1 g2 g3 g4 g5
  have E : Th.enc ⟨mv, ls, st, dy⟩ = .lst [.lst (mv.map (rD false)), .lst ls, .int st, .lst (dy.map .int)] := rfl
  rw [E]
  have hlc : lcK [5] (gN 5) tYes' (chk 1 (opN (un1 gList) (aCons (rdv 5) aNil))) (mv.map (rD false)) [] [some (.lst [.lst (mv.map (rD false)), .lst ls, .int st, .lst (dy.map .int)], 0), some (.int way, 0), some (.lst (p.map .int), 0), some (.int far, 0), none, none, none, none, none, none, none] = .ok (.lst (mv.map (rD false)), 1) [some (.lst [.lst (mv.map (rD false)), .lst ls, .int st, .lst (dy.map .int)], 0), some (.int way, 0), some (.lst (p.map .int), 0), some (.int far, 0), none, none, none, none, none, none, none] :=
    lc_map (rD false) (rD false) _ mv (Nat.le_of_lt (lt_line (by omega))) (by intro r hr K; simp)
  have T6 := fun mv' ls' st' dy' G width k4 x5 x10 => chg6_s (m := m + 1) (by omega) ⟨mv', ls', st', dy'⟩ G way p far width hp p2 p3 (.lst [.lst (mv.map (rD false)), .lst ls, .int st, .lst (dy.map .int)]) k4 x5 x10
  have hm0 : ∀ mv : Mv, mD false mv = .lst (mv.map (rD false)) := fun _ => rfl
  simp only [hm0] at T6
  by_cases hn : 0 < mv.length
  · have hn' : (0 : Int) < (mv.length : Int) := by omega
    have q0 := Int.emod_nonneg (gt p 0) (b := (mv.length : Int)) (by omega)
    have q1 := Int.emod_lt_of_pos (gt p 0) hn'
    generalize hpl : gt p 0 % (mv.length : Int) = pl at q0 q1
    have hrow : gt mv pl ∈ mv := gt_mem q0 q1
    have hrw := g2 _ hrow
    have hset1 : ∀ (r : List Int) (hr : r.length ≤ 8 + (m + 1)), Good (m + 1) ⟨mv.set pl.toNat r, ls, st, dy⟩ := fun r hr => by
      refine ⟨by simpa using g1, fun x hx => ?_, by dsimp only; omega, g4, by dsimp only; omega⟩
      rcases set_mem hx with rfl | hx
      · exact hr
      · have := g2 x hx; omega
    have hset0 : ∀ (r : List Int) (hr : r.length ≤ 8 + m), Good m ⟨mv.set pl.toNat r, ls, st, dy⟩ := fun r hr => by
      refine ⟨by simpa using g1, fun x hx => ?_, g3, g4, g5⟩
      rcases set_mem hx with rfl | hx
      · exact hr
      · exact g2 x hx
    have hpw : ∀ (k : Nat) (x5 x10 : Option (D × Nat)) (v6 v8 : Option (D × Nat)) (v7 : Option (D × Nat)), pureE (opN (un1 gLen) (aCons (ixv 4 (cst (.int 0))) aNil)) [some (.lst [.lst (mv.map (rD false)), .lst ls, .int st, .lst (dy.map .int)], 0), some (.int way, 0), some (.lst (p.map .int), 0), some (.int far, 0), some (.lst (mv.map (rD false)), k), x5, v6, v7, v8, some (.int 0, 0), x10]
        = .ok (.int ((gt mv 0).length : Int), 0) [some (.lst [.lst (mv.map (rD false)), .lst ls, .int st, .lst (dy.map .int)], 0), some (.int way, 0), some (.lst (p.map .int), 0), some (.int far, 0), some (.lst (mv.map (rD false)), k), x5, v6, v7, v8, some (.int 0, 0), x10] := by
      intro k x5 x10 v6 v8 v7
      have e : gIx (.lst (mv.map (rD false))) (.int 0) = some (rD false (gt mv 0), 0) := gIx_lst (rD false) (by omega) (by omega)
      unfold pureE frzA
      simp [e, scD]
    have hga : ∀ (f : Sm) (sd : SD), aliJ 5 4 f (.lst (mv.map (rD false))) 2 (.int pl) sd = aliE 5 4 pl.toNat 1 (mv.map (rD false)) (f ((sd.set 4 none).set 5 (some (rD false (gt mv pl), 1)))) := fun f sd => by
      have := aliJ_lst sd 5 4 1 f (mv.map (rD false)) pl q0 (by rw [List.length_map]; exact q1)
      rw [gt_map (rD false) q0 q1] at this
      exact this
    have hsm : ∀ x, (mv.map (rD false)).set pl.toNat (rD false x) = (mv.set pl.toNat x).map (rD false) := fun x => by rw [List.map_set]
    have hsm2 : ∀ x : List Int, (mv.map (rD false)).set pl.toNat (.lst (x.map .int)) = (mv.set pl.toNat x).map (rD false) := hsm
    have hr2 : (rD false (gt mv pl)) = .lst ((gt mv pl).map .int) := rfl
    have hgr := gIx_lst (rD false) q0 q1
    have hix := ixN_ok (n := mv.length) q0 q1
    have base : (mv.map (rD false)).set pl.toNat (.lst ((gt mv pl).map .int)) = mv.map (rD false) := by
      rw [hsm2]
      have : mv.set pl.toNat (gt mv pl) = mv := by
        unfold gt
        have hlt : pl.toNat < mv.length := by omega
        rw [List.getD_eq_getElem?_getD, List.getElem?_eq_getElem hlt]
        exact List.set_getElem_self hlt
      rw [this]
    by_cases w1 : way = 1
    · subst w1
      by_cases hrl : 0 < (gt mv pl).length
      · have hrl' : (0 : Int) < ((gt mv pl).length : Int) := by omega
        have r0 := Int.emod_nonneg (gt p 1) (b := ((gt mv pl).length : Int)) (by omega)
        have r1 := Int.emod_lt_of_pos (gt p 1) hrl'
        generalize hj : gt p 1 % ((gt mv pl).length : Int) = j at r0 r1
        obtain ⟨v, hv⟩ := beyond_s (mv.length : Int) (gt p 2) far p2.1 p2.2
        have hix2 := ixN_ok (n := (gt mv pl).length) r0 r1
        have hr3 : ((gt mv pl).map D.int).set j.toNat (.int v) = ((gt mv pl).set j.toNat v).map .int := by rw [List.map_set]
        obtain ⟨T', hT, e⟩ := T6 (mv.set pl.toNat ((gt mv pl).set j.toNat v)) ls st dy (hset1 _ (by simp; omega)) ((gt mv 0).length : Int) 2 none (some (.int pl, 0))
        refine ⟨T', hT, ?_⟩
        rw [← e]
        simp (disch := omega) [-pureE_ap, b__law_changed, fill, hlc, gIx_lst, hn, hn', hpl, pureC, hpw, hga, rD_f, hrl, hrl', hj, hv, hix2]
      · have hrl' : ¬ (0 : Int) < ((gt mv pl).length : Int) := by omega
        obtain ⟨T', hT, e⟩ := T6 mv ls st dy GG.up ((gt mv 0).length : Int) 2 none (some (.int pl, 0))
        refine ⟨T', hT, ?_⟩
        rw [← e]
        simp (disch := omega) [-pureE_ap, b__law_changed, fill, hlc, gIx_lst, hn, hn', hpl, pureC, hpw, hga, rD_f, hrl, hrl', base]
    · by_cases w2 : way = 2
      · subst w2
        have hlt := lt_line (n := (gt mv pl).length) (by omega)
        have ha : (gt mv pl).map D.int ++ [.int 0] = (gt mv pl ++ [0]).map .int := by rw [List.map_append]; rfl
        obtain ⟨T', hT, e⟩ := T6 (mv.set pl.toNat (gt mv pl ++ [0])) ls st dy (hset1 _ (by simp; omega)) ((gt mv 0).length : Int) 2 none (some (.int pl, 0))
        refine ⟨T', hT, ?_⟩
        rw [← e]
        simp (disch := omega) [-pureE_ap, b__law_changed, fill, hlc, gIx_lst, hn, hn', hpl, pureC, hpw, hga, rD_f, hlt]
      · by_cases w3 : way = 3
        · subst w3
          obtain ⟨T', hT, e⟩ := T6 (mv.set pl.toNat (cutA (gt mv pl) none (some (-1)))) ls st dy (hset1 _ (by have := cutA_len (gt mv pl) none (some (-1)); omega)) ((gt mv 0).length : Int) 1 (some (rD false (gt mv pl), 0)) (some (.int pl, 0))
          refine ⟨T', hT, ?_⟩
          rw [← e]
          simp (disch := omega) [-pureE_ap, b__law_changed, fill, hlc, gIx_lst, hn, hn', hpl, pureC, hpw, hgr, rD_f, hix]
        · obtain ⟨T', hT, e⟩ := T6 mv ls st dy GG.up ((gt mv 0).length : Int) 1 (some (rD false (gt mv pl), 0)) (some (.int pl, 0))
          refine ⟨T', hT, ?_⟩
          rw [← e]
          simp (disch := omega) [-pureE_ap, b__law_changed, fill, hlc, gIx_lst, hn, hn', hpl, pureC, hpw, hgr, w1, w2, w3]
  · have hn' : ¬ (0 : Int) < (mv.length : Int) := by omega
    obtain ⟨T', hT, e⟩ := T6 mv ls st dy GG.up 0 2 none none
    refine ⟨T', hT, ?_⟩
    rw [← e]
    simp [-pureE_ap, b__law_changed, fill, hlc, hn, hn', pureC]
end L70
namespace L70
open PySem VS
theorem rep1 (a k : Int) (h0 : 0 ≤ k) (h1 : k ≤ 100000) : gMul (.lst [.int a]) (.int k) = some (.lst ((List.replicate k.toNat a).map .int), 1) := by
  rw [gMul_lst, if_pos]
  · congr
    rw [List.map_replicate]
    induction k.toNat with
    | zero => rfl
    | succ n ih => rw [List.replicate_succ, List.flatten_cons, ih, List.replicate_succ]; rfl
  · refine ⟨Int.lt_of_le_of_lt h1 (by decide), Int.le_trans (by decide) h0, ?_⟩
    rw [List.length_singleton, Nat.one_mul]
    exact Nat.le_of_lt (lt_line (by omega))
theorem gAdd_i1 (l : List Int) (a : Int) (h : l.length ≤ 100000) : gAdd (.lst (l.map .int)) (.lst [.int a]) = some (.lst ((l ++ [a]).map .int), 1) := gAdd_lstE D.int l [a] (by simp; omega)
theorem gAdd_i2 (l : List Int) (a b : Int) (h : l.length ≤ 100000) : gAdd (.lst (l.map .int)) (.lst [.int a, .int b]) = some (.lst ((l ++ [a, b]).map .int), 1) := gAdd_lstE D.int l [a, b] (by simp; omega)
theorem gt_rep (n : Nat) (a : Int) (m : List Int) (j : Nat) (h : j < n) : gt (List.replicate n a ++ m) (j : Int) = a := by
  unfold gt
  rw [Int.toNat_natCast, List.getD_eq_getElem?_getD, List.getElem?_append_left (by simpa using h), List.getElem?_replicate, if_pos h]
  rfl
theorem gt_after (l m : List Int) (j : Nat) : gt (l ++ m) ((l.length + j : Nat) : Int) = gt m (j : Int) := by
  unfold gt
  rw [Int.toNat_natCast, Int.toNat_natCast, List.getD_eq_getElem?_getD, List.getD_eq_getElem?_getD, List.getElem?_append_right (by omega)]
  congr 2
  omega
theorem cut_drop {α : Type} (l : List α) (a : Nat) (h : a ≤ l.length) : cutA l (some (a : Int)) none = l.drop a := by
  unfold cutA
  rw [HT.sIx_nat, Nat.min_eq_left h]
  have : HT.sIx l.length l.length none = l.length := rfl
  rw [this, List.take_of_length_le (by rw [List.length_drop]; omega)]
theorem cut_take {α : Type} (l : List α) (a : Nat) (h : a ≤ l.length) : cutA l none (some (a : Int)) = l.take a := by
  unfold cutA
  rw [HT.sIx_nat, Nat.min_eq_left h]
  have : HT.sIx l.length 0 none = 0 := rfl
  rw [this, List.drop_zero, Nat.sub_zero]
theorem gt_of_mem {l : List Int} {x : Int} (h : x ∈ l) : ∃ j : Nat, j < l.length ∧ gt l (j : Int) = x := by
  obtain ⟨i, hi, e⟩ := List.getElem_of_mem h
  refine ⟨i, hi, ?_⟩
  unfold gt
  rw [Int.toNat_natCast, List.getD_eq_getElem?_getD, List.getElem?_eq_getElem hi, e]; rfl
theorem gt_drop (l : List Int) (a j : Nat) : gt (l.drop a) (j : Int) = gt l ((a + j : Nat) : Int) := by
  unfold gt
  rw [Int.toNat_natCast, Int.toNat_natCast, List.getD_eq_getElem?_getD, List.getD_eq_getElem?_getD, List.getElem?_drop]

/-- the palette -/
def pal (far : Int) : List D := [.int far, .str (strF far), .tup [.int far], .str "", .tup [], .int (-1 - far)]
theorem pal_lk (far : Int) : ∀ d ∈ pal far, Lk d := by
  intro d hd
  simp only [pal, List.mem_cons, List.not_mem_nil, or_false] at hd
  rcases hd with rfl | rfl | rfl | rfl | rfl | rfl
  · exact .int _
  · exact .str _ (strOk_of _)
  · exact .tup [far] (by simp)
  · exact .str _ (strOk_of "")
  · exact .tup [] (by simp)
  · exact .int _
theorem gIx_pal (far : Int) {j : Int} (h0 : 0 ≤ j) (h1 : j < 6) : gIx (.lst [.int far, .str (strF far), .tup [.int far], .str "", .tup [], .int (-1 - far)]) (.int j) = some (gt (pal far) j, 0) := gIx_lst' (l := pal far) h0 h1
theorem built3_s (ns pl : List Int) (hns : ∀ z ∈ ns, Builtin.Int.intBits z ≤ 1048576) (hp : pl.length = 12) (p3 : 0 ≤ gt pl 3 ∧ gt pl 3 < 14) (s w : Nat) (s0 : 0 < s) (s1 : s ≤ 61) (w1 : w ≤ 7) :
    ∃ (T : Th) (k : Nat), Good 0 T ∧ (t__law_built_3 [some (.scr (ns.map .int), 0), some (.lst (pl.map .int), 0), some (.int s, 0), some (.int w, 0), none, none, none, none, none, none, none, none]).fin (kE (.non, 0)) kS kS = .ok (T.enc, k) := by
  have cl : ∀ k : Int, 0 ≤ k → (cellV ns k).natAbs.log2 ≤ 2000000 := fun k hk => Nat.le_trans (cell_log hns hk) (by decide)
  have cc : ∀ k : Int, 0 ≤ k → f__law_cell [(.scr (ns.map .int), 0), (.int k, 0)] = .ok (.int (cellV ns k), 0) := fun k hk => cell_s ns k hk
  have hsw : s * w ≤ 427 := Nat.mul_le_mul s1 w1
  obtain ⟨row, hrow, R⟩ := row_s false (cellV ns 3) (List.replicate (s * w) (s : Int) ++ List.replicate s (6 : Int)) (cl 3 (by decide)) (by simp; omega) (fun z hz => by
    rcases List.mem_append.mp hz with hz | hz
    · have := (List.mem_replicate.mp hz).2; omega
    · have := (List.mem_replicate.mp hz).2; omega)
  have hlen : row.length = s * w + s := by rw [R.len]; simp
  have hhi : ∀ j : Nat, j < s → 0 ≤ gt row ((s * w + j : Nat) : Int) ∧ gt row ((s * w + j : Nat) : Int) < 6 := fun j hj => by
    have := R.at_ (s * w + j) (by simp; omega)
    have e := gt_after (List.replicate (s * w) (s : Int)) (List.replicate s (6 : Int)) j
    rw [List.length_replicate] at e
    rw [e] at this
    have e2 := gt_rep s (6 : Int) [] j hj
    rw [List.append_nil] at e2
    rw [e2] at this
    exact this
  generalize hF : cellV ns 2 % 1000000000000000000000000000000 = far
  have f0 : 0 ≤ far := by rw [← hF]; exact Int.emod_nonneg _ (by decide)
  have f1 : far < 1000000000000000000000000000000 := by rw [← hF]; exact Int.emod_lt_of_pos _ (by decide)
  have hS : gStr (.int far) = some (.str (strF far), 0) := by
    have hl : far.natAbs.log2 < 1920 := by
      by_cases z : far.natAbs = 0
      · rw [z]; decide
      · refine (Nat.log2_lt z).mpr (Nat.lt_of_lt_of_le (by omega : far.natAbs < 1000000000000000000000000000000) ?_)
        exact Nat.le_trans (by decide : 1000000000000000000000000000000 ≤ 2 ^ 100) (Nat.pow_le_pow_right (by decide) (by decide))
    show (if far.natAbs.log2 < 1920 then _ else none) = _
    rw [if_pos hl]
    rfl
  have v0 := Int.emod_nonneg (cellV ns 5) (b := (s : Int)) (by omega)
  let mv : Mv := (List.range s).map fun (i : Nat) => cutA row (some (((i * w : Nat) : Int))) (some (((i * w : Nat) : Int) + (w : Int)))
  let ls : List D := (row.drop (s * w)).map fun k => gt (pal far) k
  have hg : ∀ dy : List Int, dy.length ≤ 14 → Good 0 ⟨mv, ls, cellV ns 5 % (s : Int), dy⟩ := fun dy hd => by
    refine ⟨by simp [mv]; omega, fun r hr => ?_, by simp [ls]; omega, fun d hd => ?_, hd⟩
    · obtain ⟨i, hi, rfl⟩ := List.mem_map.mp hr
      have hi' := List.mem_range.mp hi
      have hle : i * w + w ≤ s * w := by
        have := Nat.mul_le_mul_right w (show i + 1 ≤ s by omega)
        rw [Nat.add_mul, Nat.one_mul] at this
        exact this
      rw [cut_len (by omega)]
      omega
    · obtain ⟨k, hk, rfl⟩ := List.mem_map.mp hd
      obtain ⟨j, hj, e⟩ := gt_of_mem hk
      rw [gt_drop] at e
      rw [List.length_drop] at hj
      have := hhi j (by omega)
      rw [e] at this
      exact pal_lk far _ (gt_mem this.1 (by simp [pal]; omega))
  have m1 : mulOk (s : Int) (w : Int) = true := mul_ok (by omega) (by omega) (by omega) (by omega)
  have a1 := rep1 (s : Int) ((s : Int) * (w : Int)) (Int.mul_nonneg (by omega) (by omega)) (by
    have : ((s * w : Nat) : Int) ≤ 427 := by omega
    rw [Int.natCast_mul] at this
    omega)
  have a2 := rep1 (6 : Int) (s : Int) (by omega) (by omega)
  have et : ((s : Int) * (w : Int)).toNat = s * w := by rw [← Int.natCast_mul]; rfl
  rw [et] at a1
  have a3 := gAdd_lstE D.int (List.replicate (s * w) (s : Int)) (List.replicate s (6 : Int)) (by simp; omega)
  have a2' : gMul (.lst [.int (6 : Int)]) (.int (s : Int)) = some (.lst ((List.replicate s (6 : Int)).map .int), 1) := a2
  simp only [eL_false] at hrow
  have hl1 : ∀ S : SD, (∀ i ∈ List.range s, ∀ K, lct [8] (gN 8) tYes' (slE (rdv 6) (poS (op2 gMul (rdv 8) (rdv 3))) (poS (op2 gAdd (op2 gMul (rdv 8) (rdv 3)) (rdv 3)))) (.int (i : Int)) S K = K (some (rD false (cutA row (some (((i * w : Nat) : Int))) (some (((i * w : Nat) : Int) + (w : Int)))))) S) →
      lcK [8] (gN 8) tYes' (slE (rdv 6) (poS (op2 gMul (rdv 8) (rdv 3))) (poS (op2 gAdd (op2 gMul (rdv 8) (rdv 3)) (rdv 3)))) ((List.range s).map fun (i : Nat) => .int (i : Int)) [] S = .ok (mD false mv, 1) S := fun S h => by
    rw [lc_map (fun (i : Nat) => D.int i) (fun (i : Nat) => rD false (cutA row (some (((i * w : Nat) : Int))) (some (((i * w : Nat) : Int) + (w : Int))))) S (List.range s) (Nat.le_of_lt (lt_line (by simp; omega))) h]
    simp only [mv, mD, VS.eL_false, List.map_map]
    rfl
  have ec : cutA row (some ((s : Int) * (w : Int))) none = row.drop (s * w) := by
    rw [← Int.natCast_mul]
    exact cut_drop row (s * w) (by omega)
  have hl2 : ∀ S : SD, (∀ k ∈ row.drop (s * w), ∀ K, lct [10] (gN 10) tYes' (ixv 5 (rdv 10)) (.int k) S K = K (some (gt (pal far) k)) S) → lcK [10] (gN 10) tYes' (ixv 5 (rdv 10)) ((row.drop (s * w)).map .int) [] S = .ok (.lst ls, 1) S := fun S h => by
    rw [lc_map D.int (fun k => gt (pal far) k) S (row.drop (s * w)) (Nat.le_of_lt (lt_line (by simp; omega))) h]
  have m2 : ∀ i ∈ List.range s, mulOk (i : Int) (w : Int) = true := fun i hi => by
    have := List.mem_range.mp hi
    exact mul_ok (by omega) (by omega) (by omega) (by omega)
  have hk6 : ∀ k ∈ row.drop (s * w), 0 ≤ k ∧ k < 6 := fun k hk => by
    obtain ⟨j, hj, e⟩ := gt_of_mem hk
    rw [gt_drop] at e
    rw [List.length_drop] at hj
    have := hhi j (by omega)
    rw [e] at this
    exact this
  have eI := @Th.enc
  by_cases w0 : 0 < w
  · have w0' : (0 : Int) < (w : Int) := by omega
    obtain ⟨dy, hdy, Rd⟩ := row_s false (cellV ns 4) (List.replicate (gt pl 3).toNat (w : Int)) (cl 4 (by decide)) (by simp; omega) (fun z hz => by
      have := (List.mem_replicate.mp hz).2; omega)
    simp only [eL_false] at hdy
    have hdl : dy.length ≤ 14 := by rw [Rd.len]; simp; omega
    have a4 := rep1 (w : Int) (gt pl 3) p3.1 (by omega)
    refine ⟨⟨mv, ls, cellV ns 5 % (s : Int), dy⟩, 1, hg dy hdl, ?_⟩
    simp (disch := omega) [-gMul_lst, -gAdd_lst, -List.map_replicate, -List.map_append, t__law_built_3, cc, hF, hS, m1, a1, a2', a3, hrow, iR1K_ok]
    rw [hl1]
    · simp (disch := omega) [-gMul_lst, -gAdd_lst, -List.map_replicate, -List.map_append, -List.map_drop, m1, ec]
      rw [hl2]
      · simp (disch := omega) [-gMul_lst, -gAdd_lst, -List.map_replicate, -List.map_append, w0, w0', cc, gIx_lst, a4, hdy, s0]
        rfl
      · intro k hk K
        obtain ⟨k0, k1⟩ := hk6 k hk
        simp (disch := omega) [gIx_pal]
    · intro i hi K
      simp [m2 i hi, rD]
  · have w0' : ¬ (0 : Int) < (w : Int) := by omega
    refine ⟨⟨mv, ls, cellV ns 5 % (s : Int), []⟩, 1, hg [] (by simp), ?_⟩
    simp (disch := omega) [-gMul_lst, -gAdd_lst, -List.map_replicate, -List.map_append, t__law_built_3, cc, hF, hS, m1, a1, a2', a3, hrow, iR1K_ok]
    rw [hl1]
    · simp (disch := omega) [-gMul_lst, -gAdd_lst, -List.map_replicate, -List.map_append, -List.map_drop, m1, ec]
      rw [hl2]
      · simp (disch := omega) [-gMul_lst, -gAdd_lst, -List.map_replicate, -List.map_append, w0, w0', cc, s0]
        rfl
      · intro k hk K
        obtain ⟨k0, k1⟩ := hk6 k hk
        simp (disch := omega) [gIx_pal]
    · intro i hi K
      simp [m2 i hi, rD]
theorem built_s (ns pl : List Int) (hns : ∀ z ∈ ns, Builtin.Int.intBits z ≤ 1048576) (hp : pl.length = 12) (p0 : 0 ≤ gt pl 0 ∧ gt pl 0 < 6) (p1 : 0 ≤ gt pl 1 ∧ gt pl 1 < 8) (p3 : 0 ≤ gt pl 3 ∧ gt pl 3 < 14) :
    ∃ (T : Th) (k : Nat), Good 0 T ∧ f__law_built [(.scr (ns.map .int), 0), (.lst (pl.map .int), 0)] = .ok (T.enc, k) := by
  rw [f__law_built, fnOf_ap]
  by_cases h : gt pl 2 = 1
  · obtain ⟨T, k, G, e⟩ := built3_s ns pl hns hp p3 (59 + gt pl 0 % 3).toNat (gt pl 1 % 3).toNat (by omega) (by omega) (by omega)
    rw [Int.toNat_of_nonneg (by omega), Int.toNat_of_nonneg (by omega)] at e
    refine ⟨T, k, G, ?_⟩
    rw [← e]
    simp (disch := omega) [b__law_built, fill, gIx_lst, h]
  · obtain ⟨T, k, G, e⟩ := built3_s ns pl hns hp p3 (1 + gt pl 0).toNat (gt pl 1).toNat (by omega) (by omega) (by omega)
    rw [Int.toNat_of_nonneg (by omega), Int.toNat_of_nonneg (by omega)] at e
    refine ⟨T, k, G, ?_⟩
    rw [← e]
    simp (disch := omega) [b__law_built, fill, gIx_lst, h]
end L70
namespace VS
open PySem PySem.Spec L2
mutual
theorem eqv_refl : ∀ (n : Nat) (d : D), okd n d = true → eqv d d = true
  | _, .non, _ => rfl
  | _, .bl a, _ => by simp [eqv]
  | _, .int i, _ => by simp [eqv]
  | _, .str x, _ => by simp [eqv]
  | n + 1, .lst xs, h => by
    have := eqvs_refl n xs (by simpa [okd] using h)
    simpa [eqv] using this
  | n + 1, .tup xs, h => by
    have := eqvs_refl n xs (by simpa [okd] using h)
    simpa [eqv] using this
  | 0, .lst xs, h => by simp [okd] at h
  | 0, .tup xs, h => by simp [okd] at h
  | _, .dct _ _, h => by simp [okd] at h
  | _, .ins _ _ _, h => by simp [okd] at h
  | _, .exn _ _ _, h => by simp [okd] at h
  | _, .scr _, h => by simp [okd] at h
  | _, .dcT _ _, h => by simp [okd] at h
theorem eqvs_refl : ∀ (n : Nat) (ds : List D), okds n ds = true → eqvs ds ds = true
  | _, [], _ => by simp [eqvs]
  | n, d :: ds, h => by
    rw [okds, Bool.and_eq_true] at h
    rw [eqvs, eqv_refl n d h.1, eqvs_refl n ds h.2]
    rfl
end
theorem gEq_self {d : D} (h : okd 30 d = true) : gEq d d = some (.bl true, 0) := by
  unfold gEq
  have e := eqv_refl 30 d h
  split
  · rename_i b eb
    have : b = true := by
      cases d <;> simp [scl] at eb <;> first | exact eb.symm | exact eb | (simp [← eb])
    rw [this]
  · rw [h, e]; rfl
theorem okds_map {α : Type} {n : Nat} {f : α → D} {l : List α} (h : ∀ a ∈ l, okd n (f a) = true) : okds n (l.map f) = true := by
  induction l with
  | nil => simp [okds]
  | cons a l ih => rw [List.map_cons, okds, h a List.mem_cons_self, ih fun b m => h b (List.mem_cons_of_mem _ m)]; rfl
end VS
namespace L70
open PySem VS
theorem okd_lk {d : D} (h : Lk d) (n : Nat) : okd (n + 2) d = true := by
  cases h with
  | int i => simp [okd]
  | str s hs => simpa [okd] using hs
  | tup ns _ =>
    show okds (n + 1) (ns.map .int) = true
    exact okds_map fun a _ => by simp [okd]
theorem okd_rI (n : Nat) (r : List Int) : okd (n + 2) (.lst (r.map .int)) = true := by
  show okds (n + 1) (r.map .int) = true
  exact okds_map fun a _ => by simp [okd]
theorem okd_mM (n : Nat) (mv : Mv) : okd (n + 3) (.lst (mv.map (rD false))) = true := by
  show okds (n + 2) (mv.map (rD false)) = true
  exact okds_map fun r _ => okd_rI n r
theorem okd_ls (n : Nat) {ls : List D} (h : ∀ d ∈ ls, Lk d) : okd (n + 3) (.lst ls) = true := by
  show okds (n + 2) ls = true
  have := okds_map (n := n + 2) (f := id) (l := ls) fun d hd => okd_lk (h d hd) n
  simpa using this
theorem pla_lk {d : D} (h : Lk d) (n : Nat) : pla (n + 1) d = true := by
  cases h with
  | int i => simp [pla]
  | str s hs => simp [pla]
  | tup ns hl => exact pla_tD n ns hl
theorem plas_lks {ls : List D} (h : ∀ d ∈ ls, Lk d) (n : Nat) : plas (n + 1) ls = true := by
  induction ls with
  | nil => simp [plas]
  | cons d ds ih =>
    unfold plas
    rw [pla_lk (h d List.mem_cons_self), ih fun x m => h x (List.mem_cons_of_mem _ m)]
    rfl
theorem xn_ne {which : Int} {mv : Mv} {ls : List D} {start : Int} {k : Nat} {ds : List D} {event : Int} {x : Exn} (h : dueX which mv ls start k ds event = some x) : ∃ (c : Str) (j : Int), xnD (some x) = .tup [.str c, .int j] ∧ ¬ c = "ok" := by
  rcases dueX_is h with rfl | rfl | rfl | rfl
  · exact ⟨"BadGraph", 0, rfl, by decide⟩
  · exact ⟨"BadOrder", 0, rfl, by decide⟩
  · exact ⟨"TooMany", 60, rfl, by decide⟩
  · exact ⟨"BadEvent", event, rfl, by decide⟩
def hD (b : Bool) (T : Th) : D := .lst [mD b T.mv, lD b T.ls, rD b T.dy]
section
variable (b : Bool) (T : Th) (m : Nat) (hm : m ≤ 100) (G : Good m T) (ns pl : List Int) (far : Int) (hp : pl.length = 12) (p8 : 0 ≤ gt pl 8 ∧ gt pl 8 < 18) (p9 : 0 ≤ gt pl 9 ∧ gt pl 9 < 3) (p10 : 0 ≤ gt pl 10 ∧ gt pl 10 < 4) (p11 : 0 ≤ gt pl 11 ∧ gt pl 11 < 8) (f0 : 0 ≤ far)
include hm G hp p8
theorem t22_s (k : Nat) (ds : List D) (event : Int) (x0 x2 x3 x4 x11 x12 x13 x14 x17 x19 : Option (D × Nat)) :
    (t_law_22 [x0, some (.lst (pl.map .int), 0), x2, x3, x4, some (mD false T.mv, 0), some (lD false T.ls, 0), some (.int T.st, 0), some (.lst (T.dy.map .int), 0), some (hD b T, 0), none, x11, x12, x13, x14, some (.lst ((stI T.st k).map .int), 0), some (.lst ds, 0), x17, some (.int event, 0), x19]).fin (kE (.non, 0)) kS kS = .ok (.bl true, 0) := by
  obtain ⟨g1, g2, g3, g4, g5⟩ := G
  have q := due_s (gt pl 8) T.mv T.ls T.st k ds event
  have e1 : lD false T.ls = .lst T.ls := rfl
  have hlen := Nat.le_of_lt (lt_line (n := T.mv.length) (by omega))
  have fin : (zRet (vAnd (op2 gEq (lcS [10] (iAny (ixv 9 (cst (.int 0)))) (gN 10) tYes' (opN (un1 gList) (aCons (rdv 10) aNil))) (rdv 5)) (vAnd (op2 gEq (opN (un1 gList) (aCons (ixv 9 (cst (.int 1))) aNil)) (rdv 6)) (op2 gEq (opN (un1 gList) (aCons (ixv 9 (cst (.int 2))) aNil)) (rdv 8))))
      [x0, some (.lst (pl.map .int), 0), x2, x3, x4, some (mD false T.mv, 0), some (lD false T.ls, 0), some (.int T.st, 0), some (.lst (T.dy.map .int), 0), some (hD b T, 0), none, x11, x12, x13, x14, some (.lst ((stI T.st k).map .int), 0), some (.lst ds, 0), x17, some (.int event, 0), some (xnD (dueX (gt pl 8) T.mv T.ls T.st k ds event), 0)]).fin (kE (.non, 0)) kS kS = .ok (.bl true, 0) := by
    have c1 := gEq_self (okd_mM 27 T.mv)
    have c2 := gEq_self (okd_ls 27 g4)
    have c3 := gEq_self (okd_rI 28 T.dy)
    have e2 : mD false T.mv = .lst (T.mv.map (rD false)) := rfl
    have e3 : gEq (.lst (T.mv.map (rD false))) (mD false T.mv) = some (.bl true, 0) := c1
    have e4 : gEq (lD false T.ls) (lD false T.ls) = some (.bl true, 0) := c2
    have e5 : gEq (rD false T.dy) (.lst (T.dy.map .int)) = some (.bl true, 0) := c3
    simp [hD]
    rw [lc_map (rD b) (rD false) _ T.mv hlen]
    · simp [e3, e4, e5]
    · intro r hr K
      simp
  unfold t_law_22
  cases e : dueX (gt pl 8) T.mv T.ls T.st k ds event with
  | none =>
    rw [e] at q fin
    simp (disch := omega) [gIx_lst, q]
    simp [xnD]
    exact fin
  | some x =>
    have r := refusal_s b (gt pl 8) p8.1 p8.2 T.mv T.ls g4 T.st k ds event x e
    obtain ⟨c, j, ex, hc⟩ := xn_ne e
    rw [e] at q fin
    rw [ex] at q r fin
    have sm : f__law_same [(.tup [.str c, .int j], 0), (.tup [.str c, .int j], 0)] = .ok (.bl true, 0) := same_s (n := 3) (by decide) _ (by simp [pla, plas])
    have h0 : gIx (hD b T) (.int 0) = some (mD b T.mv, 0) := rfl
    have h1 : gIx (hD b T) (.int 1) = some (lD b T.ls, 0) := rfl
    have ne : gNe (.str c) (.str "ok") = some (.bl true, 0) := by
      show some (D.bl (!decide (c = "ok")), 0) = _
      simp [hc]
    simp (disch := omega) [gIx_lst, q, ne, h0, h1, r, sm]
    simp [h0] at fin
    exact fin
include p11
theorem t20_s (k : Nat) (ds : List D) (x0 x2 x4 x11 x12 x13 x14 x17 x18 x19 : Option (D × Nat)) :
    (t_law_20 [x0, some (.lst (pl.map .int), 0), x2, some (.int far, 0), x4, some (mD false T.mv, 0), some (lD false T.ls, 0), some (.int T.st, 0), some (.lst (T.dy.map .int), 0), some (hD b T, 0), none, x11, x12, x13, x14, some (.lst ((stI T.st k).map .int), 0), some (.lst ds, 0), x17, x18, x19]).fin (kE (.non, 0)) kS kS = .ok (.bl true, 0) := by
  have t := fun event x3 => t22_s b T m hm G pl hp p8 k ds event x0 x2 x3 x4 x11 x12 x13 x14 x17 x19
  unfold t_law_20
  by_cases c : 4 ≤ gt pl 11
  · by_cases c2 : 0 < T.mv.length
    · have c2' : (0 : Int) < (T.mv.length : Int) := by omega
      obtain ⟨v, hv⟩ := beyond_s ((gt T.mv 0).length : Int) (gt pl 11 - 4) far (by omega) (by omega)
      simp (disch := omega) [gIx_lst, c, c2, c2', gIx_mD, hv, t]
    · have c2' : ¬ (0 : Int) < (T.mv.length : Int) := by omega
      simp (disch := omega) [gIx_lst, c, c2, c2', t]
  · simp (disch := omega) [gIx_lst, c, t]
include p9 p10 f0
theorem t18_s (x0 x2 x4 x11 x12 x13 x14 x15 x16 x18 x19 : Option (D × Nat)) :
    (t_law_18 [x0, some (.lst (pl.map .int), 0), x2, some (.int far, 0), x4, some (mD false T.mv, 0), some (lD false T.ls, 0), some (.int T.st, 0), some (.lst (T.dy.map .int), 0), some (hD b T, 0), none, x11, x12, x13, x14, x15, x16, none, x18, x19]).fin (kE (.non, 0)) kS kS = .ok (.bl true, 0) := by
  have t := fun k ds x4 x14 => t20_s b T m hm G pl far hp p8 p11 k ds x0 x2 x4 x11 x12 x13 x14 none x18 x19
  have hst : ∃ k : Nat, gIx (.lst [.lst [.int T.st], .lst [], .lst [.int T.st, .int T.st]]) (.int (gt pl 9)) = some (.lst ((stI T.st k).map .int), 0) := by
    have : gt pl 9 = 0 ∨ gt pl 9 = 1 ∨ gt pl 9 = 2 := by omega
    rcases this with e | e | e <;> rw [e]
    · exact ⟨0, by simp [stI]⟩
    · exact ⟨1, by simp [stI]⟩
    · exact ⟨2, by simp [stI]⟩
  obtain ⟨k, hst⟩ := hst
  have hc : ∃ c : Int, gIx (.lst [.int 0, .int 60, .int 61, .int (61 + far % 40)]) (.int (gt pl 10)) = some (.int c, 0) ∧ 0 ≤ c ∧ c ≤ 1000 := by
    have h1 := Int.emod_nonneg far (b := 40) (by decide)
    have h2 := Int.emod_lt_of_pos far (b := 40) (by decide)
    have : gt pl 10 = 0 ∨ gt pl 10 = 1 ∨ gt pl 10 = 2 ∨ gt pl 10 = 3 := by omega
    rcases this with e | e | e | e <;> rw [e]
    · exact ⟨0, by simp⟩
    · exact ⟨60, by simp⟩
    · exact ⟨61, by simp⟩
    · exact ⟨61 + far % 40, by simp; omega⟩
  obtain ⟨c, hc, c0, c1⟩ := hc
  unfold t_law_18
  simp (disch := omega) [gIx_lst, hst, hc, iR1K_ok]
  rw [lc_flt (fun (i : Nat) => D.int i) (fun _ => decide (0 < T.ls.length)) (fun _ => gt T.ls 0) _ (List.range c.toNat) (Nat.le_of_lt (lt_line (by simp; omega)))]
  · simp [t]
  · intro i hi K
    by_cases h : 0 < T.ls.length
    · have h' : (0 : Int) < (T.ls.length : Int) := by omega
      simp (disch := omega) [h, h', gIx_lD]
    · have h' : ¬ (0 : Int) < (T.ls.length : Int) := by omega
      simp [h, h']
theorem pla_dueE : pla 8 (dueE T.mv T.st T.dy) = true := by
  unfold dueE
  repeat' split
  all_goals simp [pla, plas]
theorem pla_dueL : pla 8 (dueL T.mv T.ls T.st T.dy) = true := by
  unfold dueL
  split
  · rename_i c
    obtain ⟨c1, c2⟩ := isMc_iff c
    have V := VM.of c1
    split
    · rename_i h
      split
      · simp [pla, plas]
      · rename_i l hl
        obtain ⟨w1, w2⟩ := walk_rng V T.dy T.st l h.1 h.2 hl
        have hk : ∀ d ∈ looksOf T.ls l, Lk d := fun d hd => by
          obtain ⟨r, hr, rfl⟩ := List.mem_map.mp hd
          have := w2 r hr
          exact G.k _ (gt_mem this.1 (by rw [c2]; exact this.2))
        have h2 := plas_lks hk 5
        have h3 : (looksOf T.ls l).length ≤ 1000 := by
          have := G.d
          unfold looksOf
          rw [List.length_map]; omega
        have h4 : pla 7 (.tup (looksOf T.ls l)) = true := by
          show (plas 6 (looksOf T.ls l) && decide ((looksOf T.ls l).length ≤ 1000)) = true
          rw [h2]; simpa using h3
        show (plas 7 [.str "ok", .tup (looksOf T.ls l)] && decide _) = true
        simp [plas, h4]
        simp [pla]
    · simp [pla, plas]
  · simp [pla, plas]
theorem t16_s (x0 x2 x4 x11 x14 x15 x16 x18 x19 : Option (D × Nat)) :
    (t_law_16 [x0, some (.lst (pl.map .int), 0), x2, some (.int far, 0), x4, some (mD false T.mv, 0), some (lD false T.ls, 0), some (.int T.st, 0), some (.lst (T.dy.map .int), 0), some (hD b T, 0), none, x11, some (dueE T.mv T.st T.dy, 0), some (dueL T.mv T.ls T.st T.dy, 0), x14, x15, x16, none, x18, x19]).fin (kE (.non, 0)) kS kS = .ok (.bl true, 0) := by
  have t := t18_s b T m hm G pl far hp p8 p9 p10 p11 f0
  have hd : T.dy.length ≤ 1000 := by have := G.d; omega
  have q1 := end_told_s b T.mv T.st T.dy hd
  have q2 := looks_told_s b T.mv T.ls G.k T.st T.dy hd
  have s1 := same_s (n := 8) (by decide) _ (pla_dueE T m hm G pl far hp p8 p9 p10 p11 f0)
  have s2 := same_s (n := 8) (by decide) _ (pla_dueL T m hm G pl far hp p8 p9 p10 p11 f0)
  have h0 : gIx (hD b T) (.int 0) = some (mD b T.mv, 0) := rfl
  have h1 : gIx (hD b T) (.int 1) = some (lD b T.ls, 0) := rfl
  have h2 : gIx (hD b T) (.int 2) = some (rD b T.dy, 0) := rfl
  unfold t_law_16
  simp [h0, h1, h2, q1, q2, s1, s2, t]
end
end L70
namespace L70
open PySem VS
section
variable (b : Bool) (T : Th) (m : Nat) (hm : m ≤ 100) (G : Good m T) (ns pl : List Int) (far : Int) (hp : pl.length = 12) (p8 : 0 ≤ gt pl 8 ∧ gt pl 8 < 18) (p9 : 0 ≤ gt pl 9 ∧ gt pl 9 < 3) (p10 : 0 ≤ gt pl 10 ∧ gt pl 10 < 4) (p11 : 0 ≤ gt pl 11 ∧ gt pl 11 < 8) (f0 : 0 ≤ far)
include hm G hp p8 p9 p10 p11 f0
theorem t11_s (x0 x2 x4 x12 x13 x15 x16 x18 x19 : Option (D × Nat)) :
    (t_law_11 [x0, some (.lst (pl.map .int), 0), x2, some (.int far, 0), x4, some (mD false T.mv, 0), some (lD false T.ls, 0), some (.int T.st, 0), some (.lst (T.dy.map .int), 0), some (hD b T, 0), none, some (.bl (isM T.mv), 0), x12, x13, none, x15, x16, none, x18, x19]).fin (kE (.non, 0)) kS kS = .ok (.bl true, 0) := by
  have t := fun x14 x11 => t16_s b T m hm G pl far hp p8 p9 p10 p11 f0 x0 x2 x4 x11 x14 x15 x16 x18 x19
  unfold t_law_11 t_law_14
  have ok : ∀ c : Str, c = "BadGraph" ∨ c = "BadOrder" ∨ c = "BadEvent" → gEq (.str c) (.str "ok") = some (.bl false, 0) := fun c h => by
    have hc : ¬ c = "ok" := by rcases h with rfl | rfl | rfl <;> decide
    rw [gEq_str]
    simp [hc]
  have ok2 : gEq (.str "ok") (.str "ok") = some (.bl true, 0) := by
    rw [gEq_str]
    simp
  have okG := ok "BadGraph" (by simp)
  have okO := ok "BadOrder" (by simp)
  have okE := ok "BadEvent" (by simp)
  by_cases c : isM T.mv = true
  · have V := VM.of c
    have hd : T.dy.length ≤ 1000 := by have := G.d; omega
    have q := law_walk_s V T.st T.dy hd
    have q' : f__law_walk [(mD false T.mv, 0), (.int T.st, 0), (.lst (T.dy.map .int), 0)] = .ok (dueW T.mv T.st T.dy, 0) := q
    unfold dueW at q'
    unfold dueE dueL at t
    rw [if_pos c] at t
    rw [c]
    by_cases r : 0 ≤ T.st ∧ T.st < (T.mv.length : Int)
    · rw [if_pos r] at q'
      simp only [r, and_self, if_true] at t
      cases e : walk T.mv (gt T.mv 0).length T.dy T.st with
      | inl x =>
        rw [e] at q' t
        simp only [ws, walkF] at q'
        by_cases l : T.ls.length = T.mv.length
        · have l' : ((T.ls.length : Nat) : Int) = ((T.mv.length : Nat) : Int) := by omega
          have im : isMc T.mv T.ls = true := by simp [isMc, c, l]
          simp only [im, if_true] at t
          simp [q', l, l', okE, okG, t]
        · have l' : ¬ ((T.ls.length : Nat) : Int) = ((T.mv.length : Nat) : Int) := by omega
          have im : isMc T.mv T.ls = false := by simp [isMc, c, l]
          simp only [im, Bool.false_eq_true, if_false] at t
          simp [q', l, l', okE, okG, t]
      | inr l =>
        rw [e] at q' t
        dsimp only at t
        obtain ⟨w1, w2⟩ := walk_rng V T.dy T.st l r.1 r.2 e
        have hlast := gIx_last (a := T.st) (l := l)
        have hcut : gSl (.tup ((T.st :: l).map D.int)) (some 1) none = some (.tup (l.map D.int), 0) := by rw [gSl_tup, cut1]
        have hlastT : gIx (.tup ((T.st :: l).map D.int)) (.int (-1)) = some (.int (lastI (T.st :: l)), 0) := hlast
        have q2 : f__law_walk [(mD false T.mv, 0), (.int T.st, 0), (.lst (T.dy.map .int), 0)] = .ok (.tup [.str "ok", .tup ((T.st :: l).map .int)], 0) := q'
        generalize hL : T.st :: l = L at q2 hcut hlastT t
        by_cases ll : T.ls.length = T.mv.length
        · have l' : ((T.ls.length : Nat) : Int) = ((T.mv.length : Nat) : Int) := by omega
          have im : isMc T.mv T.ls = true := by simp [isMc, c, ll]
          simp only [im, if_true] at t
          simp [q2, ll, l', ok2, hcut]
          rw [lc_map D.int (gt T.ls) _ l (Nat.le_of_lt (lt_line (by omega)))]
          · have eL : List.map (gt T.ls) l = looksOf T.ls l := rfl
            rw [eL]
            simp [ok2, hlastT, t]
          · intro x hx K
            obtain ⟨x0, x1⟩ := w2 x hx
            simp (disch := omega) [gIx_lD]
        · have l' : ¬ ((T.ls.length : Nat) : Int) = ((T.mv.length : Nat) : Int) := by omega
          have im : isMc T.mv T.ls = false := by simp [isMc, c, ll]
          simp only [im, Bool.false_eq_true, if_false] at t
          simp [q2, ll, l', ok2, okG, hlastT, t]
    · rw [if_neg r] at q'
      simp only [r, if_false] at t
      by_cases l : T.ls.length = T.mv.length
      · have l' : ((T.ls.length : Nat) : Int) = ((T.mv.length : Nat) : Int) := by omega
        have im : isMc T.mv T.ls = true := by simp [isMc, c, l]
        simp only [im, if_true] at t
        simp [q', l, l', okO, okG, t]
      · have l' : ¬ ((T.ls.length : Nat) : Int) = ((T.mv.length : Nat) : Int) := by omega
        have im : isMc T.mv T.ls = false := by simp [isMc, c, l]
        simp only [im, Bool.false_eq_true, if_false] at t
        simp [q', l, l', okO, okG, t]
  · have c' : isM T.mv = false := by simpa using c
    have im : isMc T.mv T.ls = false := by simp [isMc, c']
    unfold dueE dueL at t
    simp only [c', im, Bool.false_eq_true, if_false] at t
    rw [c']
    simp [okG, t]
theorem is8_s (x0 x2 x4 x12 x13 x11 x15 x16 x18 x19 : Option (D × Nat)) :
    ((zSeq (zFrz 11 (zSet 11 (cal 1 f__law_right_moves [] (gFz (rdv 5) gNil))))
      (zSeq (zIf (tNot' (tst (cal 2 f__law_same [] (gFz (cal 2 f_is_machine [] (gFz (ixv 9 (cst (.int 0))) (gFz (ixv 9 (cst (.int 1))) gNil))) (gFz (vAnd (rdv 11) (op2 gEq (bor1 gLen 6) (bor1 gLen 5))) gNil))))) (zRet (cst (.bl false))) zNil)
      t_law_11)) [x0, some (.lst (pl.map .int), 0), x2, some (.int far, 0), x4, some (mD false T.mv, 0), some (lD false T.ls, 0), some (.int T.st, 0), some (.lst (T.dy.map .int), 0), some (hD b T, 0), none, x11, x12, x13, none, x15, x16, none, x18, x19]).fin (kE (.non, 0)) kS kS = .ok (.bl true, 0) := by
  have t := t11_s b T m hm G pl far hp p8 p9 p10 p11 f0 x0 x2 x4 x12 x13 x15 x16 x18 x19
  have q := right_s false T.mv
  have q2 := is_machine_s b T.mv T.ls G.k
  have sm : ∀ z : Bool, f__law_same [(.bl z, 0), (.bl z, 0)] = .ok (.bl true, 0) := fun z => same_s (n := 2) (by decide) (.bl z) (by simp [pla])
  have h0 : gIx (hD b T) (.int 0) = some (mD b T.mv, 0) := rfl
  have h1 : gIx (hD b T) (.int 1) = some (lD b T.ls, 0) := rfl
  have hi : (((T.ls.length : Nat) : Int) = ((T.mv.length : Nat) : Int)) = (T.ls.length = T.mv.length) := by
    apply propext
    constructor <;> intro z <;> omega
  by_cases c : isM T.mv = true
  · rw [c] at q q2 t
    have q2' : f_is_machine [(mD b T.mv, 0), (lD b T.ls, 0)] = .ok (.bl (decide (T.ls.length = T.mv.length)), 0) := by simpa using q2
    simp [q, h0, h1, q2', hi, sm, t]
  · have c' : isM T.mv = false := by simpa using c
    rw [c'] at q q2 t
    have q2' : f_is_machine [(mD b T.mv, 0), (lD b T.ls, 0)] = .ok (.bl false, 0) := by simpa using q2
    simp [q, h0, h1, q2', sm, t]
end
theorem gTup_ls (T : Th) : gTuple (.lst T.ls) = some (lD true T.ls, 0) := rfl
section
variable (T : Th) (m : Nat) (hm : m ≤ 100) (G : Good m T) (ns pl : List Int) (far : Int) (hp : pl.length = 12) (p8 : 0 ≤ gt pl 8 ∧ gt pl 8 < 18) (p9 : 0 ≤ gt pl 9 ∧ gt pl 9 < 3) (p10 : 0 ≤ gt pl 10 ∧ gt pl 10 < 4) (p11 : 0 ≤ gt pl 11 ∧ gt pl 11 < 8) (f0 : 0 ≤ far)
include hm G hp p8 p9 p10 p11 f0
theorem t6_s (k : Nat) (x0 x2 : Option (D × Nat)) :
    (t_law_6 [x0, some (.lst (pl.map .int), 0), x2, some (.int far, 0), some (T.enc, k), none, none, none, none, none, none, none, none, none, none, none, none, none, none, none]).fin (kE (.non, 0)) kS kS = .ok (.bl true, 0) := by
  have t := fun b x4 x11 x12 x13 => is8_s b T m hm G pl far hp p8 p9 p10 p11 f0 x0 x2 x4 x12 x13 x11 none none none none
  have hlen := Nat.le_of_lt (lt_line (n := T.mv.length) (by have := G.n; omega))
  have e1 : T.enc = .lst [mD false T.mv, lD false T.ls, .int T.st, .lst (T.dy.map .int)] := rfl
  have e3 : ∀ d : D, gNs [gN 5, gN 6, gN 7, gN 8] [mD false T.mv, lD false T.ls, .int T.st, .lst (T.dy.map .int)] = gNs [gN 5, gN 6, gN 7, gN 8] [mD false T.mv, lD false T.ls, .int T.st, .lst (T.dy.map .int)] := fun _ => rfl
  have hH : D.lst [.lst (T.mv.map (rD false)), lD false T.ls, .lst (T.dy.map .int)] = hD false T := rfl
  have hT : D.lst [.tup (T.mv.map (rD true)), lD true T.ls, .tup (T.dy.map .int)] = hD true T := rfl
  have gT : gTuple (lD false T.ls) = some (lD true T.ls, 0) := rfl
  unfold t_law_6 t_law_8
  rw [e1]
  simp
  rw [lc_map (rD false) (rD false) _ T.mv hlen]
  · simp [hH]
    by_cases c : gt pl 4 = 1
    · simp (disch := omega) [gIx_lst, c]
      rw [lc_map (rD false) (rD true) _ T.mv hlen]
      · simp [gT, hT]
        have := t true (some (.lst [mD false T.mv, lD false T.ls, .int T.st, .lst (T.dy.map .int)], 0)) none none none
        simp at this
        exact this
      · intro r hr K
        simp
    · have := t false (some (.lst [mD false T.mv, lD false T.ls, .int T.st, .lst (T.dy.map .int)], 0)) none none none
      simp at this
      simp (disch := omega) [gIx_lst, c]
      exact this
  · intro r hr K
    simp
end
theorem law_true : ∀ ns : List Int, ns.length ≤ 63 → (∀ z ∈ ns, Builtin.Int.intBits z ≤ 1048576) → ∃ k, f_law [(.scr (ns.map .int), 0)] = .ok (.bl true, k) := by
  intro ns _ hns
  refine ⟨0, ?_⟩
  have cl : ∀ k : Int, 0 ≤ k → (cellV ns k).natAbs.log2 ≤ 2000000 := fun k hk => Nat.le_trans (cell_log hns hk) (by decide)
  have cc : ∀ k : Int, 0 ≤ k → f__law_cell [(.scr (ns.map .int), 0), (.int k, 0)] = .ok (.int (cellV ns k), 0) := fun k hk => cell_s ns k hk
  obtain ⟨pl, hpl, R⟩ := row_s false (cellV ns 0) [6, 8, 8, 14, 2, 6, 9, 9, 18, 3, 4, 8] (cl 0 (by decide)) (by simp) (by
    intro z hz
    simp at hz
    omega)
  obtain ⟨pk, hpk, R2⟩ := row_s false (cellV ns 1) [60, 7, 4, 15, 60, 7, 4, 15] (cl 1 (by decide)) (by simp) (by
    intro z hz
    simp at hz
    omega)
  have hlen : pl.length = 12 := R.len
  have hlen2 : pk.length = 8 := R2.len
  have g0 : 0 ≤ gt pl 0 ∧ gt pl 0 < 6 := R.at_ 0 (by decide)
  have g1 : 0 ≤ gt pl 1 ∧ gt pl 1 < 8 := R.at_ 1 (by decide)
  have g3 : 0 ≤ gt pl 3 ∧ gt pl 3 < 14 := R.at_ 3 (by decide)
  have g8 : 0 ≤ gt pl 8 ∧ gt pl 8 < 18 := R.at_ 8 (by decide)
  have g9 : 0 ≤ gt pl 9 ∧ gt pl 9 < 3 := R.at_ 9 (by decide)
  have g10 : 0 ≤ gt pl 10 ∧ gt pl 10 < 4 := R.at_ 10 (by decide)
  have g11 : 0 ≤ gt pl 11 ∧ gt pl 11 < 8 := R.at_ 11 (by decide)
  have k0 : 0 ≤ gt pk 0 ∧ gt pk 0 < 60 := R2.at_ 0 (by decide)
  have k1 : 0 ≤ gt pk 1 ∧ gt pk 1 < 7 := R2.at_ 1 (by decide)
  have k2 : 0 ≤ gt pk 2 ∧ gt pk 2 < 4 := R2.at_ 2 (by decide)
  have k3 : 0 ≤ gt pk 3 ∧ gt pk 3 < 15 := R2.at_ 3 (by decide)
  have k4 : 0 ≤ gt pk 4 ∧ gt pk 4 < 60 := R2.at_ 4 (by decide)
  have k5 : 0 ≤ gt pk 5 ∧ gt pk 5 < 7 := R2.at_ 5 (by decide)
  have k6 : 0 ≤ gt pk 6 ∧ gt pk 6 < 4 := R2.at_ 6 (by decide)
  have k7 : 0 ≤ gt pk 7 ∧ gt pk 7 < 15 := R2.at_ 7 (by decide)
  have hpl2 : f__law_row [(.int (cellV ns 0), 0), (.lst [.int 6, .int 8, .int 8, .int 14, .int 2, .int 6, .int 9, .int 9, .int 18, .int 3, .int 4, .int 8], 0)] = .ok (.lst (pl.map .int), 1) := hpl
  have hpk2 : f__law_row [(.int (cellV ns 1), 0), (.lst [.int 60, .int 7, .int 4, .int 15, .int 60, .int 7, .int 4, .int 15], 0)] = .ok (.lst (pk.map .int), 1) := hpk
  rw [f_law, fnOf_ap]
  generalize hF : cellV ns 2 % 1000000000000000000000000000000 = far
  have f0 : 0 ≤ far := by rw [← hF]; exact Int.emod_nonneg _ (by decide)
  obtain ⟨T, kb, GT, hb⟩ := built_s ns pl hns hlen g0 g1 g3
  have A : ∀ (m : Nat) (T : Th), m ≤ 80 → Good m T → ∀ k x0 x2, (t_law_6 [x0, some (.lst (pl.map .int), 0), x2, some (.int far, 0), some (T.enc, k), none, none, none, none, none, none, none, none, none, none, none, none, none, none, none]).fin (kE (.non, 0)) kS kS = .ok (.bl true, 0) :=
    fun m T hm G k x0 x2 => t6_s T m (by omega) G pl far hlen g8 g9 g10 g11 f0 k x0 x2
  have c1 : gSl (.lst (pk.map .int)) none (some 4) = some (.lst ((pk.take 4).map .int), 1) := by
    rw [gSl_lst, show (4 : Int) = ((4 : Nat) : Int) from rfl, cut_take pk 4 (by omega)]
  have c2 : gSl (.lst (pk.map .int)) (some 4) none = some (.lst ((pk.drop 4).map .int), 1) := by
    rw [gSl_lst, show (4 : Int) = ((4 : Nat) : Int) from rfl, cut_drop pk 4 (by omega)]
  have tk : ∀ j : Nat, j < 4 → gt (pk.take 4) (j : Int) = gt pk (j : Int) := fun j hj => by
    unfold gt
    rw [Int.toNat_natCast, List.getD_eq_getElem?_getD, List.getD_eq_getElem?_getD, List.getElem?_take, if_pos hj]
  have dk : ∀ j : Nat, gt (pk.drop 4) (j : Int) = gt pk ((4 + j : Nat) : Int) := fun j => gt_drop pk 4 j
  have C1 : ∀ (m : Nat) (T : Th), m ≤ 40 → Good m T → ∃ T' : Th, Good (m + 2) T' ∧ f__law_changed [(T.enc, 0), (.int (gt pl 6), 0), (.lst ((pk.take 4).map .int), 0), (.int far, 0)] = .ok (T'.enc, 1) := fun m T hm G =>
    chg_s (by omega) T G (gt pl 6) (pk.take 4) far (by simp; omega) (by have := tk 0 (by decide); exact this ▸ k0.1) (by have := tk 1 (by decide); exact this ▸ k1.1) (by have := tk 2 (by decide); exact this ▸ k2) (by have := tk 3 (by decide); exact this ▸ k3.1)
  have C2 : ∀ (m : Nat) (T : Th), m ≤ 40 → Good m T → ∃ T' : Th, Good (m + 2) T' ∧ f__law_changed [(T.enc, 0), (.int (gt pl 7), 0), (.lst ((pk.drop 4).map .int), 0), (.int far, 0)] = .ok (T'.enc, 1) := fun m T hm G =>
    chg_s (by omega) T G (gt pl 7) (pk.drop 4) far (by simp; omega) (by have := dk 0; exact this ▸ k4.1) (by have := dk 1; exact this ▸ k5.1) (by have := dk 2; exact this ▸ k6) (by have := dk 3; exact this ▸ k7.1)
  have B : ∀ (k : Nat), (t_law_4 [some (.scr (ns.map .int), 0), some (.lst (pl.map .int), 0), some (.lst (pk.map .int), 0), some (.int far, 0), some (T.enc, k), none, none, none, none, none, none, none, none, none, none, none, none, none, none, none]).fin (kE (.non, 0)) kS kS = .ok (.bl true, 0) := fun k => by
    unfold t_law_4
    by_cases d1 : 3 ≤ gt pl 5
    · obtain ⟨T1, G1, e1⟩ := C1 0 T (by omega) GT
      by_cases d2 : gt pl 5 = 5
      · obtain ⟨T2, G2, e2⟩ := C2 2 T1 (by omega) G1
        simp (disch := omega) [-List.map_take, -List.map_drop, gIx_lst, d1, d2, c1, c2, e1, e2, A 4 T2 (by omega) G2]
      · simp (disch := omega) [-List.map_take, -List.map_drop, gIx_lst, d1, d2, c1, e1, A 2 T1 (by omega) G1]
    · have d2 : ¬ gt pl 5 = 5 := by omega
      simp (disch := omega) [gIx_lst, d1, d2, A 0 T (by omega) GT]
  simp [b_law, fill, cc, hpl2, hpk2, hF, hb, B]
end L70
open PySem PySem.W PyProof.Rows in
set_option maxRecDepth 100000 in
set_option maxHeartbeats 0 in
theorem PySem.Challenge.cw_calmhouse_k70_machine_arguments_holds : PySem.Challenge.rw_calmhouse_k70_machine_arguments.Holds := by
  w_on; o_law; k_head; (case hw => w_witness2)
  k_fill
  refine VS.walk_law (l := PySem.Challenge.rw_calmhouse_k70_machine_arguments) (n := 63) (k := 15) (f := L70.f_law) rfl (by decide) rfl ⟨rfl, by decide, by decide⟩ (fun w h Y => PySem.W.kIn_of Y) ?F ?V
  case V => exact L70.law_true
  case F =>
    intro w mg fa h KX G hmg
    refine (fun Fa => by
      obtain ⟨fd, h1, h2⟩ := L70.law_fn (P := PySem.Challenge.pw_calmhouse_k70_machine_arguments) (w := w) Fa hmg
      exact ⟨fd, h1, fun base _ _ => h2 base trivial⟩) ?_
    refine' L70.facts_mk KX G ?aC_Reader ?pg_Reader ?hd_Reader ?po_Reader ?sa_Reader ?mk_Reader ?kC_Reader ?a_is_integer ?l_is_integer ?c_is_integer ?k_is_integer ?a_is_index ?l_is_index ?c_is_index ?k_is_index ?a_are_moves ?l_are_moves ?c_are_moves ?k_are_moves ?a_is_look ?l_is_look ?c_is_look ?k_is_look ?a_is_machine ?l_is_machine ?c_is_machine ?k_is_machine ?a__law_cell ?l__law_cell ?c__law_cell ?k__law_cell ?a__law_row ?l__law_row ?c__law_row ?k__law_row ?a__law_is_integer ?l__law_is_integer ?c__law_is_integer ?k__law_is_integer ?a__law_same ?l__law_same ?c__law_same ?k__law_same ?a__law_beyond ?l__law_beyond ?c__law_beyond ?k__law_beyond ?a__law_changed ?l__law_changed ?c__law_changed ?k__law_changed ?a__law_right_moves ?l__law_right_moves ?c__law_right_moves ?k__law_right_moves ?a__law_walk ?l__law_walk ?c__law_walk ?k__law_walk ?a_demand_rest ?l_demand_rest ?c_demand_rest ?k_demand_rest ?a_demand_event ?l_demand_event ?c_demand_event ?k_demand_event ?a_rests_of_day ?l_rests_of_day ?c_rests_of_day ?k_rests_of_day ?a_day_end ?l_day_end ?c_day_end ?k_day_end ?a__law_told ?l__law_told ?c__law_told ?k__law_told ?a__law_end_told ?l__law_end_told ?c__law_end_told ?k__law_end_told ?a_demand_machine ?l_demand_machine ?c_demand_machine ?k_demand_machine ?a_day_looks ?l_day_looks ?c_day_looks ?k_day_looks ?a__law_looks_told ?l__law_looks_told ?c__law_looks_told ?k__law_looks_told ?a_alike_groups ?l_alike_groups ?c_alike_groups ?k_alike_groups ?a_telling_day ?l_telling_day ?c_telling_day ?k_telling_day ?a_are_ascending ?l_are_ascending ?c_are_ascending ?k_are_ascending ?a_demand_starts ?l_demand_starts ?c_demand_starts ?k_demand_starts ?a_demand_seen ?l_demand_seen ?c_demand_seen ?k_demand_seen ?a_beliefs ?l_beliefs ?c_beliefs ?k_beliefs ?a_fits_day ?l_fits_day ?c_fits_day ?k_fits_day ?a_first_day ?l_first_day ?c_first_day ?k_first_day ?a_demand_question ?l_demand_question ?c_demand_question ?k_demand_question ?a_count_days ?l_count_days ?c_count_days ?k_count_days ?a_numbered_day ?l_numbered_day ?c_numbered_day ?k_numbered_day ?a_day_number ?l_day_number ?c_day_number ?k_day_number ?a_possible_presses ?l_possible_presses ?c_possible_presses ?k_possible_presses ?a_must_paper ?l_must_paper ?c_must_paper ?k_must_paper ?a_least_times ?l_least_times ?c_least_times ?k_least_times ?a_small_machine ?l_small_machine ?c_small_machine ?k_small_machine ?a_parting_day ?l_parting_day ?c_parting_day ?k_parting_day ?a_told_paper ?l_told_paper ?c_told_paper ?k_told_paper ?a_delay ?l_delay ?c_delay ?k_delay ?a_Reader___init__ ?i_Reader___init__ ?l_Reader___init__ ?c_Reader___init__ ?k_Reader___init__ ?a__law_call ?l__law_call ?c__law_call ?k__law_call ?a__law_refusal ?l__law_refusal ?c__law_refusal ?k__law_refusal ?a__law_due ?l__law_due ?c__law_due ?k__law_due ?a__law_built ?l__law_built ?c__law_built ?k__law_built ?a_law ?l_law ?c_law ?k_law ?b_bool ?b_int ?b_isinstance ?b_len ?b_list ?b_range ?b_str ?b_tuple ?e_MOST_EVENTS ?e_MOST_RESTS ?e_MOST_CLICKS ?e_PLAIN ?e_FLAGGED ?aC_HouseError ?aC_BadEvent ?aC_BadOrder ?aC_BadLog ?aC_BadGraph ?aC_TooMany ?b_ValueError ?hn_ ?ht_ ?hg_BadEvent ?hk_BadEvent ?hs_BadEvent ?hd_BadEvent ?ha_BadEvent ?hm_BadEvent ?kC_BadEvent ?tC_BadEvent ?mr_BadEvent ?su_BadEvent_BadEvent ?su_BadEvent_BadGraph ?su_BadEvent_BadOrder ?su_BadEvent_HouseError ?su_BadEvent_TooMany ?su_BadEvent_ValueError ?hg_BadOrder ?hk_BadOrder ?hs_BadOrder ?hd_BadOrder ?ha_BadOrder ?hm_BadOrder ?kC_BadOrder ?tC_BadOrder ?mr_BadOrder ?su_BadOrder_BadEvent ?su_BadOrder_BadGraph ?su_BadOrder_BadOrder ?su_BadOrder_HouseError ?su_BadOrder_TooMany ?su_BadOrder_ValueError ?hg_BadLog ?hk_BadLog ?hs_BadLog ?hd_BadLog ?ha_BadLog ?hm_BadLog ?kC_BadLog ?tC_BadLog ?mr_BadLog ?su_BadLog_BadEvent ?su_BadLog_BadGraph ?su_BadLog_BadOrder ?su_BadLog_HouseError ?su_BadLog_TooMany ?su_BadLog_ValueError ?hg_BadGraph ?hk_BadGraph ?hs_BadGraph ?hd_BadGraph ?ha_BadGraph ?hm_BadGraph ?kC_BadGraph ?tC_BadGraph ?mr_BadGraph ?su_BadGraph_BadEvent ?su_BadGraph_BadGraph ?su_BadGraph_BadOrder ?su_BadGraph_HouseError ?su_BadGraph_TooMany ?su_BadGraph_ValueError ?hg_TooMany ?hk_TooMany ?hs_TooMany ?hd_TooMany ?ha_TooMany ?hm_TooMany ?kC_TooMany ?tC_TooMany ?mr_TooMany ?su_TooMany_BadEvent ?su_TooMany_BadGraph ?su_TooMany_BadOrder ?su_TooMany_HouseError ?su_TooMany_TooMany ?su_TooMany_ValueError ?hs_HouseError ?hd_HouseError ?tC_HouseError ?x_BadOrder ?nf_BadEvent ?cl_BadEvent ?rv_BadEvent ?sa_BadEvent ?iC_BadEvent ?ti_BadEvent ?xt_BadEvent ?cb_BadEvent ?mb_BadEvent ?fb_BadEvent ?ve_BadEvent ?cs_BadEvent ?sm_BadEvent ?li_BadEvent ?ci_BadEvent ?co_BadEvent ?vs2_BadEvent ?fi_BadEvent ?ce_BadEvent ?x_BadGraph ?nf_TooMany ?cl_TooMany ?rv_TooMany ?sa_TooMany ?iC_TooMany ?ti_TooMany ?xt_TooMany ?cb_TooMany ?mb_TooMany ?fb_TooMany ?ve_TooMany ?cs_TooMany ?sm_TooMany ?li_TooMany ?ci_TooMany ?co_TooMany ?vs2_TooMany ?fi_TooMany ?ce_TooMany
    (case aC_Reader => k_is)
    (case pg_Reader => k_is)
    (case hd_Reader => k_is)
    (case po_Reader => k_is)
    (case sa_Reader => k_is)
    (case mk_Reader => k_is)
    (case kC_Reader => k_is)
    (case a_is_integer => k_is)
    (case l_is_integer => k_is)
    (case c_is_integer => k_is)
    (case k_is_integer => k_is)
    (case a_is_index => k_is)
    (case l_is_index => k_is)
    (case c_is_index => k_is)
    (case k_is_index => k_is)
    (case a_are_moves => k_is)
    (case l_are_moves => k_is)
    (case c_are_moves => k_is)
    (case k_are_moves => k_is)
    (case a_is_look => k_is)
    (case l_is_look => k_is)
    (case c_is_look => k_is)
    (case k_is_look => k_is)
    (case a_is_machine => k_is)
    (case l_is_machine => k_is)
    (case c_is_machine => k_is)
    (case k_is_machine => k_is)
    (case a__law_cell => k_is)
    (case l__law_cell => k_is)
    (case c__law_cell => k_is)
    (case k__law_cell => k_is)
    (case a__law_row => k_is)
    (case l__law_row => k_is)
    (case c__law_row => k_is)
    (case k__law_row => k_is)
    (case a__law_is_integer => k_is)
    (case l__law_is_integer => k_is)
    (case c__law_is_integer => k_is)
    (case k__law_is_integer => k_is)
    (case a__law_same => k_is)
    (case l__law_same => k_is)
    (case c__law_same => k_is)
    (case k__law_same => k_is)
    (case a__law_beyond => k_is)
    (case l__law_beyond => k_is)
    (case c__law_beyond => k_is)
    (case k__law_beyond => k_is)
    (case a__law_changed => k_is)
    (case l__law_changed => k_is)
    (case c__law_changed => k_is)
    (case k__law_changed => k_is)
    (case a__law_right_moves => k_is)
    (case l__law_right_moves => k_is)
    (case c__law_right_moves => k_is)
    (case k__law_right_moves => k_is)
    (case a__law_walk => k_is)
    (case l__law_walk => k_is)
    (case c__law_walk => k_is)
    (case k__law_walk => k_is)
    (case a_demand_rest => k_is)
    (case l_demand_rest => k_is)
    (case c_demand_rest => k_is)
    (case k_demand_rest => k_is)
    (case a_demand_event => k_is)
    (case l_demand_event => k_is)
    (case c_demand_event => k_is)
    (case k_demand_event => k_is)
    (case a_rests_of_day => k_is)
    (case l_rests_of_day => k_is)
    (case c_rests_of_day => k_is)
    (case k_rests_of_day => k_is)
    (case a_day_end => k_is)
    (case l_day_end => k_is)
    (case c_day_end => k_is)
    (case k_day_end => k_is)
    (case a__law_told => k_is)
    (case l__law_told => k_is)
    (case c__law_told => k_is)
    (case k__law_told => k_is)
    (case a__law_end_told => k_is)
    (case l__law_end_told => k_is)
    (case c__law_end_told => k_is)
    (case k__law_end_told => k_is)
    (case a_demand_machine => k_is)
    (case l_demand_machine => k_is)
    (case c_demand_machine => k_is)
    (case k_demand_machine => k_is)
    (case a_day_looks => k_is)
    (case l_day_looks => k_is)
    (case c_day_looks => k_is)
    (case k_day_looks => k_is)
    (case a__law_looks_told => k_is)
    (case l__law_looks_told => k_is)
    (case c__law_looks_told => k_is)
    (case k__law_looks_told => k_is)
    (case a_alike_groups => k_is)
    (case l_alike_groups => k_is)
    (case c_alike_groups => k_is)
    (case k_alike_groups => k_is)
    (case a_telling_day => k_is)
    (case l_telling_day => k_is)
    (case c_telling_day => k_is)
    (case k_telling_day => k_is)
    (case a_are_ascending => k_is)
    (case l_are_ascending => k_is)
    (case c_are_ascending => k_is)
    (case k_are_ascending => k_is)
    (case a_demand_starts => k_is)
    (case l_demand_starts => k_is)
    (case c_demand_starts => k_is)
    (case k_demand_starts => k_is)
    (case a_demand_seen => k_is)
    (case l_demand_seen => k_is)
    (case c_demand_seen => k_is)
    (case k_demand_seen => k_is)
    (case a_beliefs => k_is)
    (case l_beliefs => k_is)
    (case c_beliefs => k_is)
    (case k_beliefs => k_is)
    (case a_fits_day => k_is)
    (case l_fits_day => k_is)
    (case c_fits_day => k_is)
    (case k_fits_day => k_is)
    (case a_first_day => k_is)
    (case l_first_day => k_is)
    (case c_first_day => k_is)
    (case k_first_day => k_is)
    (case a_demand_question => k_is)
    (case l_demand_question => k_is)
    (case c_demand_question => k_is)
    (case k_demand_question => k_is)
    (case a_count_days => k_is)
    (case l_count_days => k_is)
    (case c_count_days => k_is)
    (case k_count_days => k_is)
    (case a_numbered_day => k_is)
    (case l_numbered_day => k_is)
    (case c_numbered_day => k_is)
    (case k_numbered_day => k_is)
    (case a_day_number => k_is)
    (case l_day_number => k_is)
    (case c_day_number => k_is)
    (case k_day_number => k_is)
    (case a_possible_presses => k_is)
    (case l_possible_presses => k_is)
    (case c_possible_presses => k_is)
    (case k_possible_presses => k_is)
    (case a_must_paper => k_is)
    (case l_must_paper => k_is)
    (case c_must_paper => k_is)
    (case k_must_paper => k_is)
    (case a_least_times => k_is)
    (case l_least_times => k_is)
    (case c_least_times => k_is)
    (case k_least_times => k_is)
    (case a_small_machine => k_is)
    (case l_small_machine => k_is)
    (case c_small_machine => k_is)
    (case k_small_machine => k_is)
    (case a_parting_day => k_is)
    (case l_parting_day => k_is)
    (case c_parting_day => k_is)
    (case k_parting_day => k_is)
    (case a_told_paper => k_is)
    (case l_told_paper => k_is)
    (case c_told_paper => k_is)
    (case k_told_paper => k_is)
    (case a_delay => k_is)
    (case l_delay => k_is)
    (case c_delay => k_is)
    (case k_delay => k_is)
    (case a_Reader___init__ => k_is)
    (case i_Reader___init__ => k_is)
    (case l_Reader___init__ => k_is)
    (case c_Reader___init__ => k_is)
    (case k_Reader___init__ => k_is)
    (case a__law_call => k_is)
    (case l__law_call => k_is)
    (case c__law_call => k_is)
    (case k__law_call => k_is)
    (case a__law_refusal => k_is)
    (case l__law_refusal => k_is)
    (case c__law_refusal => k_is)
    (case k__law_refusal => k_is)
    (case a__law_due => k_is)
    (case l__law_due => k_is)
    (case c__law_due => k_is)
    (case k__law_due => k_is)
    (case a__law_built => k_is)
    (case l__law_built => k_is)
    (case c__law_built => k_is)
    (case k__law_built => k_is)
    (case a_law => k_is)
    (case l_law => k_is)
    (case c_law => k_is)
    (case k_law => k_is)
    (case b_bool => k_is)
    (case b_int => k_is)
    (case b_isinstance => k_is)
    (case b_len => k_is)
    (case b_list => k_is)
    (case b_range => k_is)
    (case b_str => k_is)
    (case b_tuple => k_is)
    (case e_MOST_EVENTS => k_is)
    (case e_MOST_RESTS => k_is)
    (case e_MOST_CLICKS => k_is)
    (case e_PLAIN => k_is)
    (case e_FLAGGED => k_is)
    (case aC_HouseError => k_is)
    (case aC_BadEvent => k_is)
    (case aC_BadOrder => k_is)
    (case aC_BadLog => k_is)
    (case aC_BadGraph => k_is)
    (case aC_TooMany => k_is)
    (case b_ValueError => k_is)
    (case hn_ => k_is)
    (case ht_ => k_is)
    (case hg_BadEvent => k_is)
    (case hk_BadEvent => k_is)
    (case hs_BadEvent => k_is)
    (case hd_BadEvent => k_is)
    (case ha_BadEvent => k_is)
    (case hm_BadEvent => k_is)
    (case kC_BadEvent => k_is)
    (case tC_BadEvent => k_is)
    (case mr_BadEvent => k_is)
    (case su_BadEvent_BadEvent => k_is)
    (case su_BadEvent_BadGraph => k_is)
    (case su_BadEvent_BadOrder => k_is)
    (case su_BadEvent_HouseError => k_is)
    (case su_BadEvent_TooMany => k_is)
    (case su_BadEvent_ValueError => k_is)
    (case hg_BadOrder => k_is)
    (case hk_BadOrder => k_is)
    (case hs_BadOrder => k_is)
    (case hd_BadOrder => k_is)
    (case ha_BadOrder => k_is)
    (case hm_BadOrder => k_is)
    (case kC_BadOrder => k_is)
    (case tC_BadOrder => k_is)
    (case mr_BadOrder => k_is)
    (case su_BadOrder_BadEvent => k_is)
    (case su_BadOrder_BadGraph => k_is)
    (case su_BadOrder_BadOrder => k_is)
    (case su_BadOrder_HouseError => k_is)
    (case su_BadOrder_TooMany => k_is)
    (case su_BadOrder_ValueError => k_is)
    (case hg_BadLog => k_is)
    (case hk_BadLog => k_is)
    (case hs_BadLog => k_is)
    (case hd_BadLog => k_is)
    (case ha_BadLog => k_is)
    (case hm_BadLog => k_is)
    (case kC_BadLog => k_is)
    (case tC_BadLog => k_is)
    (case mr_BadLog => k_is)
    (case su_BadLog_BadEvent => k_is)
    (case su_BadLog_BadGraph => k_is)
    (case su_BadLog_BadOrder => k_is)
    (case su_BadLog_HouseError => k_is)
    (case su_BadLog_TooMany => k_is)
    (case su_BadLog_ValueError => k_is)
    (case hg_BadGraph => k_is)
    (case hk_BadGraph => k_is)
    (case hs_BadGraph => k_is)
    (case hd_BadGraph => k_is)
    (case ha_BadGraph => k_is)
    (case hm_BadGraph => k_is)
    (case kC_BadGraph => k_is)
    (case tC_BadGraph => k_is)
    (case mr_BadGraph => k_is)
    (case su_BadGraph_BadEvent => k_is)
    (case su_BadGraph_BadGraph => k_is)
    (case su_BadGraph_BadOrder => k_is)
    (case su_BadGraph_HouseError => k_is)
    (case su_BadGraph_TooMany => k_is)
    (case su_BadGraph_ValueError => k_is)
    (case hg_TooMany => k_is)
    (case hk_TooMany => k_is)
    (case hs_TooMany => k_is)
    (case hd_TooMany => k_is)
    (case ha_TooMany => k_is)
    (case hm_TooMany => k_is)
    (case kC_TooMany => k_is)
    (case tC_TooMany => k_is)
    (case mr_TooMany => k_is)
    (case su_TooMany_BadEvent => k_is)
    (case su_TooMany_BadGraph => k_is)
    (case su_TooMany_BadOrder => k_is)
    (case su_TooMany_HouseError => k_is)
    (case su_TooMany_TooMany => k_is)
    (case su_TooMany_ValueError => k_is)
    (case hs_HouseError => k_is)
    (case hd_HouseError => k_is)
    (case tC_HouseError => k_is)
    (case x_BadOrder => k_exc)
    (case nf_BadEvent => k_is)
    (case cl_BadEvent => k_is)
    (case rv_BadEvent => rfl)
    (case sa_BadEvent => k_is)
    (case iC_BadEvent => k_is)
    (case ti_BadEvent => k_is)
    (case xt_BadEvent => rfl)
    (case cb_BadEvent => k_is)
    (case mb_BadEvent => rfl)
    (case fb_BadEvent => k_is)
    (case ve_BadEvent => k_is)
    (case cs_BadEvent => k_is)
    (case sm_BadEvent => k_is)
    (case li_BadEvent => k_is)
    (case ci_BadEvent => k_is)
    (case co_BadEvent => k_is)
    (case vs2_BadEvent => rfl)
    (case fi_BadEvent => first | rfl | decide +kernel)
    (case ce_BadEvent => k_is)
    (case x_BadGraph => k_exc)
    (case nf_TooMany => k_is)
    (case cl_TooMany => k_is)
    (case rv_TooMany => rfl)
    (case sa_TooMany => k_is)
    (case iC_TooMany => k_is)
    (case ti_TooMany => k_is)
    (case xt_TooMany => rfl)
    (case cb_TooMany => k_is)
    (case mb_TooMany => rfl)
    (case fb_TooMany => k_is)
    (case ve_TooMany => k_is)
    (case cs_TooMany => k_is)
    (case sm_TooMany => k_is)
    (case li_TooMany => k_is)
    (case ci_TooMany => k_is)
    (case co_TooMany => k_is)
    (case vs2_TooMany => rfl)
    (case fi_TooMany => first | rfl | decide +kernel)
    (case ce_TooMany => k_is)
